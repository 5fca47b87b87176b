import PyProof.Rows.All
import Wide.All
import OpenK.AllK
import Wide.FinOn
import HandS.ForMost
import HandS.Flow
import HandS.Star
import HandS.Style
import HandS.Defaults
import KE.KTupSum
import KE.DataAny
import HandS.TupAny
import HandS.TupMul
import KE.DataMinMax
import PyProof.InstEq
import HandS.IsInst
import HandS.OwnEq
import HandS.SlotsOwn
import HandS.Words
import PyProof.InstNe
import HandS.Dict
import HandS.Finally
import HandS.More
import HandS.RaiseOp
import PyProof.ZipIter
import PyProof.Draws
import HandS.Zip0
import HandS.Zip
import HandS.Iter
import HandS.Comp
import HandS.SortInts
import KE.KStateDown
import HandS.Base
import HandS.Call
import HandS.Ends
import HandS.HeadEnd
import HandS.HeadHook1
import HandS.HeadHook2
import HandS.Codes
import HandS.Deep
import PyProof.ListNew
import KE.KDictZip
import HandS.Conv
import HandS.Small
import PyProof.EqAt
import PyProof.EqKinds
import PyProof.TupleCall
import HandS.Set
import HandS.SetFor
import HandS.Strs
import PyProof.Rows.SortShell
import PyProof.Rows.SortRev
import PyProof.Rows.CallKwBuiltin
import PyProof.Rows.CallKw2
import KE.KSortTup
import KE.KSortKey
import HandS.List
import HandS.Sort
import HandS.SortOrd
import HandS.SortRule
import HandS.SortKw
import HandS.TupLe
import KE.GoesZip
import KE.GoesMore
import KE.KDictList
import HandS.DictSubView
import KE.KEqNest
import PyProof.NeKinds
import HandS.DeepEq
import HandS.TupLen
import KE.KDictPairs
import KE.KDictCopyH
import KE.KDictKeyed
import Lean
import HandS.Head0
import HandS.Head1
import HandS.Head2
import PySem.Challenge.RW_bucketsums_k62_whole_means
set_option Elab.async false
set_option linter.all false
set_option maxRecDepth 100000
/-! The evaluator: values as trees, a store for what is changed, total functions. -/
namespace PX
open PySem

inductive DK where
  | k (x : Sum Int Str)
  | t (xs : List (Sum Int Str))
  deriving DecidableEq

inductive DKs where
  | k (l : List (Sum Int Str))
  | t (l : List (List (Sum Int Str)))
  deriving DecidableEq

inductive PV where
  | non
  | bl (b : Bool)
  | int (i : Int)
  | str (s : Str)
  | tup (xs : List PV)
  | lst (xs : List PV)
  | dct (ks : DKs) (vs : List PV)
  | ins (c : Nat) (ns : List Nat) (vs : List PV)
  | ref (i : Nat)
  | lck (v : PV)

abbrev Store := List PV
abbrev Env := List (Option PV)

inductive R (α : Type) where
  | ok (a : α) (S : Store)
  | ex (c : Nat) (pl : List PV) (S : Store)
  | no

def R.bind {α β : Type} : R α → (α → Store → R β) → R β
  | .ok a S, k => k a S
  | .ex c p S, _ => .ex c p S
  | .no, _ => .no
@[simp] theorem R.bind_ok {α β : Type} (a : α) (S : Store) (k : α → Store → R β) : (R.ok a S).bind k = k a S := (rfl)
@[simp] theorem R.bind_ex {α β : Type} (c : Nat) (p : List PV) (S : Store) (k : α → Store → R β) : (R.ex c p S : R α).bind k = .ex c p S := (rfl)
@[simp] theorem R.bind_no {α β : Type} (k : α → Store → R β) : (R.no : R α).bind k = .no := (rfl)

/-! the object behind a value -/
def unl : PV → PV
  | .lck o => o
  | v => v
def deref (S : Store) : PV → Option PV
  | .ref i => match S[i]? with
    | some o => some (unl o)
    | none => none
  | v => some v

/-! what an expression does: a value (fresh: a new object that nobody else holds), the store behind -/
abbrev SE := Env → Store → R (Bool × PV)
abbrev SA := Env → Store → R (List PV)
/-! a test -/
abbrev ST := Env → Store → R Bool

end PX
namespace PX
open PySem
/-! ### expressions -/
def eLit (v : PV) : SE := fun _ S => .ok (false, v) S
def eVar (i : Nat) : SE := fun env S => match env[i]? with
  | some (some v) => .ok (false, v) S
  | _ => .no
abbrev Op1 := PV → Store → Option (Bool × PV)
abbrev Op2 := PV → PV → Store → Option (Bool × PV)
abbrev OpN := List PV → Store → Option (Bool × PV)
def ofO (o : Option (Bool × PV)) (S : Store) : R (Bool × PV) := match o with
  | some z => .ok z S
  | none => .no
def eUn (o : Op1) (a : SE) : SE := fun env S => (a env S).bind fun p S1 => ofO (o p.2 S1) S1
def eBin (o : Op2) (a b : SE) : SE := fun env S => (a env S).bind fun p S1 => (b env S1).bind fun q S2 => ofO (o p.2 q.2 S2) S2
def aNil : SA := fun _ S => .ok [] S
def aCons (a : SE) (r : SA) : SA := fun env S => (a env S).bind fun p S1 => (r env S1).bind fun q S2 => .ok (p.2 :: q) S2
def itemsOf (S : Store) (v : PV) : Option (List PV) := match deref S v with
  | some (.lst xs) => some xs
  | some (.tup xs) => some xs
  | _ => none
def aStar (a : SE) (r : SA) : SA := fun env S => (a env S).bind fun p S1 => match itemsOf S1 p.2 with
  | some xs => (r env S1).bind fun q S2 => .ok (xs ++ q) S2
  | none => .no
def eArg (o : OpN) (a : SA) : SE := fun env S => (a env S).bind fun p S1 => ofO (o p S1) S1
def small (n : Nat) : Bool := Nat.ble n 1000000
def eTup (a : SA) : SE := fun env S => (a env S).bind fun p S1 => if small p.length then .ok (false, .tup p) S1 else .no
def eLst (a : SA) : SE := fun env S => (a env S).bind fun p S1 => if small p.length then .ok (true, .lst p) S1 else .no
/-! truth -/
def truth (S : Store) (v : PV) : Option Bool := match deref S v with
  | some (.bl b) => some b
  | some (.int i) => some (i != 0)
  | some .non => some false
  | some (.lst xs) => some (!xs.isEmpty)
  | some (.tup xs) => some (!xs.isEmpty)
  | _ => none
def tTru (a : SE) : ST := fun env S => (a env S).bind fun p S1 => match truth S1 p.2 with
  | some b => .ok b S1
  | none => .no
/-! a value that is a bool -/
def tBl (a : SE) : ST := fun env S => (a env S).bind fun p S1 => match p.2 with
  | .bl b => .ok b S1
  | _ => .no
def tNo (a : ST) : ST := fun env S => (a env S).bind fun b S1 => .ok (!b) S1
def tAn (a b : ST) : ST := fun env S => (a env S).bind fun c S1 => if c = true then b env S1 else .ok false S1
def tOr (a b : ST) : ST := fun env S => (a env S).bind fun c S1 => if c = true then .ok true S1 else b env S1
def eAn (a b : SE) : SE := fun env S => (a env S).bind fun p S1 => match truth S1 p.2 with
  | some true => b env S1
  | some false => .ok (false, p.2) S1
  | none => .no
def eOr (a b : SE) : SE := fun env S => (a env S).bind fun p S1 => match truth S1 p.2 with
  | some true => .ok (false, p.2) S1
  | some false => b env S1
  | none => .no
def eNot (a : SE) : SE := fun env S => (a env S).bind fun p S1 => match truth S1 p.2 with
  | some b => .ok (false, .bl (!b)) S1
  | none => .no
def eIf (c : ST) (a b : SE) : SE := fun env S => (c env S).bind fun t S1 => if t = true then a env S1 else b env S1
/-! a op b op c -/
def eCh (o o' : Op2) (a b c : SE) : SE := fun env S => (a env S).bind fun p S1 => (b env S1).bind fun q S2 => match o p.2 q.2 S2 with
  | some (false, .bl true) => (c env S2).bind fun z S3 => ofO (o' q.2 z.2 S3) S3
  | some (false, .bl false) => .ok (false, .bl false) S2
  | _ => .no
/-! a new object goes to the store -/
def eNew (a : SE) : SE := fun env S => (a env S).bind fun p S1 => match p.1 with
  | true => .ok (false, .ref S1.length) (S1 ++ [p.2])
  | false => .ok p S1

/-! ### operators by values -/
def oAdd : Op2 := fun x y S => match x, y with
  | .int i, .int j => some (false, .int (i + j))
  | _, _ => none
def oSub : Op2 := fun x y _ => match x, y with
  | .int i, .int j => some (false, .int (i - j))
  | _, _ => none
def mulOk (i j : Int) : Bool := (decide (-18446744073709551616 < i) && decide (i < 18446744073709551616)) || (decide (-18446744073709551616 < j) && decide (j < 18446744073709551616))
def oMul : Op2 := fun x y _ => match x, y with
  | .int i, .int j => if mulOk i j then some (false, .int (i * j)) else none
  | _, _ => none
def oDiv : Op2 := fun x y _ => match x, y with
  | .int i, .int j => if 0 < j ∧ j < 1073741824 then some (false, .int (i / j)) else none
  | _, _ => none
def oMod : Op2 := fun x y _ => match x, y with
  | .int i, .int j => if 0 < j then some (false, .int (i % j)) else none
  | _, _ => none
def oNeg : Op1 := fun x _ => match x with
  | .int i => some (false, .int (-i))
  | _ => none
def oLt : Op2 := fun x y _ => match x, y with
  | .int i, .int j => some (false, .bl (decide (i < j)))
  | _, _ => none
def oLe : Op2 := fun x y _ => match x, y with
  | .int i, .int j => some (false, .bl (decide (i ≤ j)))
  | _, _ => none
def oGt : Op2 := fun x y _ => match x, y with
  | .int i, .int j => some (false, .bl (decide (j < i)))
  | _, _ => none
def oGe : Op2 := fun x y _ => match x, y with
  | .int i, .int j => some (false, .bl (decide (j ≤ i)))
  | _, _ => none
end PX
namespace PX
open PySem
/-! ### statements -/
inductive RS where
  | nx (env : Env) (S : Store)
  | rt (v : PV) (S : Store)
  | bk (env : Env) (S : Store)
  | ct (env : Env) (S : Store)
  | ex (c : Nat) (pl : List PV) (S : Store)
  | no
abbrev SS := Env → Store → RS
def R.go {α : Type} : R α → (α → Store → RS) → RS
  | .ok a S, k => k a S
  | .ex c p S, _ => .ex c p S
  | .no, _ => .no
@[simp] theorem R.go_ok {α : Type} (a : α) (S : Store) (k : α → Store → RS) : (R.ok a S).go k = k a S := (rfl)
@[simp] theorem R.go_ex {α : Type} (c : Nat) (p : List PV) (S : Store) (k : α → Store → RS) : (R.ex c p S : R α).go k = .ex c p S := (rfl)
@[simp] theorem R.go_no {α : Type} (k : α → Store → RS) : (R.no : R α).go k = .no := (rfl)
def RS.then : RS → (Env → Store → RS) → RS
  | .nx e S, k => k e S
  | z, _ => z
@[simp] theorem RS.then_nx (e : Env) (S : Store) (k : Env → Store → RS) : (RS.nx e S).then k = k e S := (rfl)
@[simp] theorem RS.then_rt (v : PV) (S : Store) (k : Env → Store → RS) : (RS.rt v S).then k = .rt v S := (rfl)
@[simp] theorem RS.then_bk (e : Env) (S : Store) (k : Env → Store → RS) : (RS.bk e S).then k = .bk e S := (rfl)
@[simp] theorem RS.then_ct (e : Env) (S : Store) (k : Env → Store → RS) : (RS.ct e S).then k = .ct e S := (rfl)
@[simp] theorem RS.then_ex (c : Nat) (p : List PV) (S : Store) (k : Env → Store → RS) : (RS.ex c p S).then k = .ex c p S := (rfl)
@[simp] theorem RS.then_no (k : Env → Store → RS) : RS.no.then k = .no := (rfl)
def sNil : SS := fun env S => .nx env S
def sCons (a b : SS) : SS := fun env S => (a env S).then b
def sExp (a : SE) : SS := fun env S => (a env S).go fun _ S1 => .nx env S1
def sRet (a : SE) : SS := fun env S => (a env S).go fun p S1 => .rt p.2 S1
def sRetN : SS := fun _ S => .rt .non S
def sBrk : SS := fun env S => .bk env S
def sCnt : SS := fun env S => .ct env S
def sNo : SS := fun _ _ => .no
def sIf (c : ST) (a b : SS) : SS := fun env S => (c env S).go fun t S1 => if t = true then a env S1 else b env S1
/-! targets -/
abbrev Tg := PV → Env → Store → Option Env
def gNm (i : Nat) : Tg := fun v env _ => some (env.set i (some v))
def gTps (ts : List Tg) : List PV → Env → Store → Option Env := fun vs env S => match ts, vs with
  | [], [] => some env
  | t :: ts, v :: vs => match t v env S with
    | some env' => gTps ts vs env' S
    | none => none
  | _, _ => none
def gTp (ts : List Tg) : Tg := fun v env S => match deref S v with
  | some (.tup xs) => gTps ts xs env S
  | _ => none
def sAsg (t : Tg) (a : SE) : SS := fun env S => (a env S).go fun p S1 => match t p.2 env S1 with
  | some env' => .nx env' S1
  | none => .no
/-! a, b = x, y; a, b, c = x, y, z -/
def sPar (is : List Nat) (a : SA) : SS := fun env S => (a env S).go fun vs S1 => match gTps (is.map gNm) vs env S1 with
  | some env' => .nx env' S1
  | none => .no
def sAug (i : Nat) (o : Op2) (a : SE) : SS := fun env S => match env[i]? with
  | some (some x) => (a env S).go fun p S1 => match o x p.2 S1 with
    | some z => .nx (env.set i (some z.2)) S1
    | none => .no
  | _ => .no
/-! what a loop walks: the items; the lists of the store that are locked meanwhile, with what they are -/
abbrev SI := Env → Store → R (List PV × List (Nat × PV))
def unlock : List (Nat × PV) → Store → Store
  | [], S => S
  | p :: r, S => unlock r (S.set p.1 p.2)
def RS.unl (ls : List (Nat × PV)) : RS → RS
  | .nx e S => .nx e (unlock ls S)
  | .rt v S => .rt v (unlock ls S)
  | .bk e S => .bk e (unlock ls S)
  | .ct e S => .ct e (unlock ls S)
  | .ex c p S => .ex c p (unlock ls S)
  | .no => .no
def forR (t : Tg) (b : SS) : List PV → Env → Store → RS
  | [], env, S => .nx env S
  | x :: xs, env, S => match t x env S with
    | none => .no
    | some env' => match b env' S with
      | .nx e S' => forR t b xs e S'
      | .ct e S' => forR t b xs e S'
      | .bk e S' => .nx e S'
      | z => z
def sFor (i : SI) (t : Tg) (b : SS) : SS := fun env S => (i env S).go fun p S1 => (forR t b p.1 env S1).unl p.2
def whileR (c : ST) (b : SS) : Nat → Env → Store → RS
  | 0, _, _ => .no
  | n + 1, env, S => (c env S).go fun t S1 => if t = true then
      match b env S1 with
      | .nx e S' => whileR c b n e S'
      | .ct e S' => whileR c b n e S'
      | .bk e S' => .nx e S'
      | z => z
    else .nx env S1
def sWhl (n : Nat) (c : ST) (b : SS) : SS := whileR c b n
end PX
namespace PX
open PySem
/-! ### calls -/
abbrev CF := Nat → List PV → Nat → Store → R PV
structure FnB where
  np : Nat
  nl : Nat
  body : CF → Nat → SS
def runB (b : FnB) (cf : CF) (args : List PV) (n0 : Nat) (S : Store) : R PV := if args.length = b.np then
    match b.body cf n0 (args.map some ++ List.replicate (b.nl - b.np) none) S with
    | .rt v S' => .ok v S'
    | .nx _ S' => .ok .non S'
    | .ex c p S' => .ex c p S'
    | _ => .no
  else .no
def callF (T : Nat → Option FnB) : Nat → CF
  | 0 => fun _ _ _ _ => .no
  | n + 1 => fun f args n0 S => match T f with
    | some b => runB b (callF T n) args n0 S
    | none => .no
/-! what was new in a call is frozen, and leaves the store -/
def frzL (f : PV → Option PV) : List PV → Option (List PV)
  | [] => some []
  | v :: vs => match f v with
    | some w => match frzL f vs with
      | some ws => some (w :: ws)
      | none => none
    | none => none
def frzO (f : PV → Option PV) : PV → Option PV
  | .lst xs => (frzL f xs).map .lst
  | .dct ks vs => (frzL f vs).map (.dct ks)
  | .ins c ns vs => (frzL f vs).map (.ins c ns)
  | _ => none
def frz (n0 t : Nat) (S : Store) : Nat → PV → Option PV
  | 0, _ => none
  | k + 1, v => match v with
    | .ref i => if i < n0 then some (.ref i) else if i = t then none else match S[i]? with
      | some o => frzO (frz n0 t S k) o
      | none => none
    | .tup xs => (frzL (frz n0 t S k) xs).map .tup
    | .lst xs => (frzL (frz n0 t S k) xs).map .lst
    | .dct ks vs => (frzL (frz n0 t S k) vs).map (.dct ks)
    | .ins c ns vs => (frzL (frz n0 t S k) vs).map (.ins c ns)
    | .lck _ => none
    | w => some w
def norm (n0 : Nat) (v : PV) (S : Store) : R (Bool × PV) := if S.length = n0 then .ok (false, v) S else match v with
  | .ref i => if i < n0 then .ok (false, .ref i) (S.take n0) else match S[i]? with
    | some o => match frzO (frz n0 i S 8) o with
      | some w => .ok (true, w) (S.take n0)
      | none => .no
    | none => .no
  | v => match frz n0 S.length S 8 v with
    | some w => .ok (false, w) (S.take n0)
    | none => .no
def cutX {α : Type} (n0 : Nat) : R α → R α
  | .ex c p S => .ex c p (S.take n0)
  | z => z
def eCall (cf : CF) (np f : Nat) (a : SA) : SE := fun env S => (a env S).bind fun args S1 => if args.length = np then (cutX S1.length (cf f args S1.length S1)).bind fun v S2 => norm S1.length v S2 else .no
/-! C(..): the new instance goes to the store while __init__ runs -/
def eMake (cf : CF) (np c f : Nat) (a : SA) : SE := fun env S => (a env S).bind fun args S1 => if args.length + 1 = np then
    (cutX S1.length (cf f (.ref S1.length :: args) S1.length (S1 ++ [.ins c [] []]))).bind fun v S2 => match v with
      | .non => norm S1.length (.ref S1.length) S2
      | _ => .no
  else .no
/-! o.m(..): the table by classes -/
def methOf (m : Nat) (T : List (Nat × Nat)) (S : Store) (v : PV) : Option Nat := match deref S v with
  | some (.ins c ns _) => if ns.contains m then none else T.lookup c
  | _ => none
def eMeth (cf : CF) (np m : Nat) (T : List (Nat × Nat)) (o : SE) (a : SA) : SE := fun env S => (o env S).bind fun p S0 => match methOf m T S0 p.2 with
  | some f => (a env S0).bind fun args S1 => if args.length + 1 = np then (cutX S1.length (cf f (p.2 :: args) S1.length S1)).bind fun v S2 => norm S1.length v S2 else .no
  | none => .no
/-! o.f -/
def fldOf (cs : List Nat) (f : Nat) (S : Store) (v : PV) : Option PV := match deref S v with
  | some (.ins c ns vs) => if cs.contains c then (ns.zip vs).lookup f else none
  | _ => none
def eFld (cs : List Nat) (f : Nat) (a : SE) : SE := eUn (fun v S => (fldOf cs f S v).map fun w => (false, w)) a
/-! o.f = e -/
def noref : PV → Bool
  | .non => true
  | .bl _ => true
  | .int _ => true
  | .str _ => true
  | .tup xs => norefL xs
  | .lst xs => norefL xs
  | .dct _ vs => norefL vs
  | .ins _ _ vs => norefL vs
  | .ref _ => false
  | .lck _ => false
where norefL : List PV → Bool
  | [] => true
  | v :: vs => noref v && norefL vs
def mayPut (n0 i : Nat) (v : PV) : Bool := Nat.ble n0 i || noref v
def putFld (f : Nat) (v : PV) : List Nat → List PV → List Nat × List PV
  | n :: ns, w :: ws => if n = f then (n :: ns, v :: ws) else let z := putFld f v ns ws; (n :: z.1, w :: z.2)
  | _, _ => ([f], [v])
def sFld (n0 : Nat) (cs : List Nat) (f : Nat) (o e : SE) : SS := fun env S => (e env S).go fun p S1 => (o env S1).go fun q S2 => match q.2 with
  | .ref i => match S2[i]? with
    | some (.ins c ns vs) => if cs.contains c && mayPut n0 i p.2 && Nat.ble ns.length 100 then .nx env (S2.set i (.ins c (putFld f p.2 ns vs).1 (putFld f p.2 ns vs).2)) else .no
    | _ => .no
  | _ => .no
end PX
set_option Elab.async false
set_option linter.all false
set_option maxRecDepth 100000
namespace PX
open PySem PySem.Spec PyProof.Rows L2

/-! where functions and classes stand, the attributes' names -/
structure Gam where
  K : PySem.W.Frag
  fa : Nat → Addr
  ca : Nat → Addr
  nm : Nat → Str

/-! a dict: its keys all of one kind -/
def DR (ho : HO) (ks : DKs) (us : List V) : Prop := match ks with
  | .k kk => ho = .dK (kk.zip us) ∧ kk.length = us.length
  | .t kt => ho = .dT (kt.zip us) ∧ kt.length = us.length

mutual
def RV (G : Gam) (F : Hp) (r : List Addr) : PV → V → Prop
  | .non, u => u = .non
  | .bl b, u => u = .bl b
  | .int i, u => u = .int i
  | .str x, u => u = .str x
  | .tup xs, u => ∃ a us, u = .ref a ∧ F a = some (.tup us) ∧ RVs G F r xs us
  | .lst xs, u => ∃ a us, u = .ref a ∧ Rd F a (.lst us) ∧ RVs G F r xs us
  | .dct ks vs, u => ∃ a us ho, u = .ref a ∧ F a = some ho ∧ DR ho ks us ∧ RVs G F r vs us
  | .ins c ns vs, u => ∃ a dx us, u = .ref a ∧ F a = some (.ins (G.ca c) dx ((ns.map G.nm).zip us)) ∧ ns.length = us.length ∧ RVs G F r vs us
  | .ref i, u => ∃ a, r[i]? = some a ∧ u = .ref a
  | .lck _, _ => False
def RVs (G : Gam) (F : Hp) (r : List Addr) : List PV → List V → Prop
  | [], us => us = []
  | v :: vs, us => ∃ u ur, us = u :: ur ∧ RV G F r v u ∧ RVs G F r vs ur
end

/-! an object of the store -/
def RO (G : Gam) (F : Hp) (r : List Addr) (v : PV) (ho : HO) : Prop := match unl v with
  | .lst xs => ∃ us, ho = .lst us ∧ RVs G F r xs us
  | .dct ks vs => ∃ us, DR ho ks us ∧ RVs G F r vs us
  | .ins c ns vs => ∃ dx us, ho = .ins (G.ca c) dx ((ns.map G.nm).zip us) ∧ ns.length = us.length ∧ RVs G F r vs us
  | _ => False

def Le (F F' : Hp) : Prop := ∀ a o, F a = some o → F' a = some o
theorem Le.refl (F : Hp) : Le F F := fun _ _ e => e
theorem Le.trans {F F' F2 : Hp} (h : Le F F') (k : Le F' F2) : Le F F2 := fun a o e => k a o (h a o e)
theorem Le.sqT {K : PySem.W.Frag} {F F' : Hp} (h : Le F F') {a : Addr} {us : List V} (q : SqT K F a us) : SqT K F' a us := by
  rcases q with (q | ⟨o, q⟩) | q
  · exact .inl (.inl (h _ _ q))
  · exact .inl (.inr ⟨o, h _ _ q⟩)
  · exact .inr q
theorem Le.tp {K : PySem.W.Frag} {F F' : Hp} (h : Le F F') {a : Addr} {us : List V} (q : F a = some (.tup us)) : SqT K F' a us := .inl (.inl (h _ _ q))
theorem Le.sqL {K : PySem.W.Frag} {F F' : Hp} (h : Le F F') {a : Addr} {us : List V} (q : SqL K F a us) : SqL K F' a us := by
  rcases q with (q | ⟨o, q⟩) | q
  · exact .inl (.inl (h _ _ q))
  · exact .inl (.inr ⟨o, h _ _ q⟩)
  · exact .inr q

theorem Le.rd {F F' : Hp} (h : Le F F') {a : Addr} {o : HO} (q : Rd F a o) : Rd F' a o := by
  rcases q with q | ⟨z, q⟩
  · exact .inl (h _ _ q)
  · exact .inr ⟨z, h _ _ q⟩
/-! the heap holds what is told; a dict may be locked there -/
def isDk : HO → Bool
  | .dK _ => true
  | _ => false
def LeD (F H : Hp) : Prop := ∀ a o, F a = some o → H a = some o ∨ (isDk o = true ∧ ∃ od, H a = some (.frz od o))
theorem LeD.of {F H : Hp} (h : Le F H) : LeD F H := fun a o e => .inl (h a o e)
theorem LeD.refl (F : Hp) : LeD F F := fun _ _ e => .inl e
theorem LeD.trans {F F' H : Hp} (h : Le F F') (k : LeD F' H) : LeD F H := fun a o e => k a o (h a o e)
theorem LeD.eq {F H : Hp} (h : LeD F H) {a : Addr} {o : HO} (e : F a = some o) (hd : isDk o = false) : H a = some o := by
  rcases h a o e with q | ⟨q, _⟩
  · exact q
  · rw [hd] at q; cases q
theorem LeD.ne {F H : Hp} (h : LeD F H) {a : Addr} {o : HO} (e : F a = some o) : H a ≠ none := by
  rcases h a o e with q | ⟨_, _, q⟩ <;> rw [q] <;> intro z <;> cases z
theorem LeD.any {F H : Hp} (h : LeD F H) {a : Addr} {o : HO} (e : F a = some o) : Rd H a o := by
  rcases h a o e with q | ⟨_, od, q⟩
  · exact .inl q
  · exact .inr ⟨od, q⟩
theorem LeD.rd {F H : Hp} (h : LeD F H) {a : Addr} {us : List V} (q : Rd F a (.lst us)) : Rd H a (.lst us) := by
  rcases q with q | ⟨z, q⟩
  · exact .inl (h.eq q rfl)
  · exact .inr ⟨z, h.eq q rfl⟩
theorem LeD.tpH {F H : Hp} (h : LeD F H) {a : Addr} {us : List V} (q : F a = some (.tup us)) : H a = some (.tup us) := h.eq q rfl
theorem LeD.tp {K : PySem.W.Frag} {F H : Hp} (h : LeD F H) {a : Addr} {us : List V} (q : F a = some (.tup us)) : SqT K H a us := .inl (.inl (h.eq q rfl))
theorem LeD.heap {F H H' : Hp} (h : LeD F H) (k : ∀ a o, H a = some o → H' a = some o) : LeD F H' := fun a o e => by
  rcases h a o e with q | ⟨q, od, z⟩
  · exact .inl (k _ _ q)
  · exact .inr ⟨q, od, k _ _ z⟩
/-! where an object of the store stands: a locked dict is locked in the heap, too -/
def isFz : HO → Bool
  | .frz _ (.dK _) => true
  | _ => false
theorem noFz {P Q : Prop} {o : HO} (q : P ∨ (isFz o = true ∧ Q)) (h : isFz o = false) : P := by
  rcases q with q | ⟨q, _⟩
  · exact q
  · rw [h] at q; cases q
def isLk : PV → Bool
  | .lck (.dct _ _) => true
  | _ => false
def AtL (H : Hp) (a : Addr) (ob : PV) (ho : HO) : Prop := match isLk ob with
  | false => H a = some ho
  | true => isDk ho = true ∧ ∃ od, H a = some (.frz od ho)
theorem AtL.nl {H : Hp} {a : Addr} {ob : PV} {ho : HO} (q : AtL H a ob ho) (h : isLk ob = false) : H a = some ho := by
  unfold AtL at q
  rw [h] at q
  exact q
theorem AtL.mk {H : Hp} {a : Addr} {ob : PV} {ho : HO} (q : H a = some ho) (h : isLk ob = false) : AtL H a ob ho := by
  unfold AtL
  rw [h]
  exact q
theorem AtL.lk {H : Hp} {a : Addr} {ob : PV} {ho : HO} (q : AtL H a ob ho) (h : isLk ob = true) : isDk ho = true ∧ ∃ od, H a = some (.frz od ho) := by
  unfold AtL at q
  rw [h] at q
  exact q
theorem AtL.or {H : Hp} {a : Addr} {ob : PV} {ho : HO} (q : AtL H a ob ho) : H a = some ho ∨ (isDk ho = true ∧ ∃ od, H a = some (.frz od ho)) := by
  cases h : isLk ob with
  | false => exact .inl (q.nl h)
  | true => exact .inr (q.lk h)
theorem AtL.nd {H : Hp} {a : Addr} {ob : PV} {ho : HO} (q : AtL H a ob ho) (h : isDk ho = false) : H a = some ho := by
  rcases q.or with q | ⟨q, _⟩
  · exact q
  · rw [h] at q; cases q
theorem isLk_unl {ob : PV} (h : unl ob = ob) : isLk ob = false := by
  cases ob with
  | lck o =>
    have e : o = .lck o := h
    exact absurd e (by intro z; have := congrArg sizeOf z; simp at this)
  | _ => rfl
theorem AtL.un {H : Hp} {a : Addr} {ob : PV} {ho : HO} (q : AtL H a ob ho) (h : unl ob = ob) : H a = some ho := q.nl (isLk_unl h)
theorem AtL.heap {H H' : Hp} {a : Addr} {ob : PV} {ho : HO} (q : AtL H a ob ho) (k : ∀ o, H a = some o → H' a = some o) : AtL H' a ob ho := by
  unfold AtL at q ⊢
  cases h : isLk ob with
  | false =>
    rw [h] at q
    exact k _ q
  | true =>
    rw [h] at q
    obtain ⟨q2, od, q3⟩ := q
    exact ⟨q2, od, k _ q3⟩
theorem AtL.upd {H : Hp} {a b : Addr} {ob : PV} {ho o : HO} (q : AtL H b ob ho) (hb : b ≠ a) : AtL (L2.upd H a o) b ob ho := q.heap fun o e => by
  rw [upd_ne hb]
  exact e
theorem AtL.there {H : Hp} {a : Addr} {ob : PV} {ho : HO} (q : AtL H a ob ho) : ∃ o, H a = some o := by
  rcases q.or with q | ⟨_, _, q⟩ <;> exact ⟨_, q⟩
mutual
theorem RV.mono {G : Gam} {F F' : Hp} {r r' : List Addr} (h : Le F F') (p : ∀ (i : Nat) a, r[i]? = some a → r'[i]? = some a) : ∀ (v : PV) (u : V), RV G F r v u → RV G F' r' v u
  | .non, _, q => q
  | .bl _, _, q => q
  | .int _, _, q => q
  | .str _, _, q => q
  | .tup xs, _, q => by
    obtain ⟨a, us, e, s, k⟩ := q
    exact ⟨a, us, e, h _ _ s, RVs.mono h p xs us k⟩
  | .lst xs, _, q => by
    obtain ⟨a, us, e, s, k⟩ := q
    exact ⟨a, us, e, h.rd s, RVs.mono h p xs us k⟩
  | .dct ks vs, _, q => by
    obtain ⟨a, us, ho, e, s, d, k⟩ := q
    exact ⟨a, us, ho, e, h _ _ s, d, RVs.mono h p vs us k⟩
  | .ins c ns vs, _, q => by
    obtain ⟨a, dx, us, e, s, d, k⟩ := q
    exact ⟨a, dx, us, e, h _ _ s, d, RVs.mono h p vs us k⟩
  | .ref i, _, q => by
    obtain ⟨a, e, k⟩ := q
    exact ⟨a, p i a e, k⟩
  | .lck _, _, q => q.elim
theorem RVs.mono {G : Gam} {F F' : Hp} {r r' : List Addr} (h : Le F F') (p : ∀ (i : Nat) a, r[i]? = some a → r'[i]? = some a) : ∀ (vs : List PV) (us : List V), RVs G F r vs us → RVs G F' r' vs us
  | [], _, q => q
  | v :: vs, _, q => by
    obtain ⟨u, ur, e, k, l⟩ := q
    exact ⟨u, ur, e, RV.mono h p v u k, RVs.mono h p vs ur l⟩
end
theorem RO.mono {G : Gam} {F F' : Hp} {r r' : List Addr} (h : Le F F') (p : ∀ (i : Nat) a, r[i]? = some a → r'[i]? = some a) {v : PV} {ho : HO} (q : RO G F r v ho) : RO G F' r' v ho := by
  unfold RO at q ⊢
  split at q
  · obtain ⟨us, e, k⟩ := q
    exact ⟨us, e, RVs.mono h p _ us k⟩
  · obtain ⟨us, e, k⟩ := q
    exact ⟨us, e, RVs.mono h p _ us k⟩
  · obtain ⟨dx, us, e, l, k⟩ := q
    exact ⟨dx, us, e, l, RVs.mono h p _ us k⟩
  · exact q.elim
theorem RVs.length {G : Gam} {F : Hp} {r : List Addr} : ∀ {vs : List PV} {us : List V}, RVs G F r vs us → vs.length = us.length
  | [], _, q => by
    have e := (show _ = [] from q)
    rw [e]; rfl
  | v :: vs, _, q => by
    obtain ⟨u, ur, e, k, l⟩ := q
    rw [e, List.length_cons, List.length_cons, RVs.length l]
theorem RVs.get {G : Gam} {F : Hp} {r : List Addr} : ∀ {vs : List PV} {us : List V} {i : Nat} {v : PV}, RVs G F r vs us → vs[i]? = some v → ∃ u, us[i]? = some u ∧ RV G F r v u
  | [], _, i, v, q, e => by simp at e
  | w :: vs, _, 0, v, q, e => by
    obtain ⟨u, ur, rfl, k, l⟩ := q
    simp at e; subst e
    exact ⟨u, by simp, k⟩
  | w :: vs, _, i + 1, v, q, e => by
    obtain ⟨u, ur, rfl, k, l⟩ := q
    obtain ⟨u', h1, h2⟩ := RVs.get (i := i) (v := v) l (by simpa using e)
    exact ⟨u', by simpa using h1, h2⟩
theorem RVs.append {G : Gam} {F : Hp} {r : List Addr} : ∀ {vs : List PV} {us : List V} {ws : List PV} {zs : List V}, RVs G F r vs us → RVs G F r ws zs → RVs G F r (vs ++ ws) (us ++ zs)
  | [], _, ws, zs, q, k => by
    have e := (show _ = [] from q)
    subst e
    exact k
  | v :: vs, _, ws, zs, q, k => by
    obtain ⟨u, ur, rfl, h, l⟩ := q
    exact ⟨u, ur ++ zs, rfl, h, RVs.append l k⟩
theorem RVs.set {G : Gam} {F : Hp} {r : List Addr} {x : PV} {y : V} (h : RV G F r x y) : ∀ {vs : List PV} {us : List V} (i : Nat), RVs G F r vs us → RVs G F r (vs.set i x) (us.set i y)
  | [], _, i, q => by
    have e := (show _ = [] from q)
    subst e
    exact rfl
  | v :: vs, _, 0, q => by
    obtain ⟨u, ur, rfl, k, l⟩ := q
    exact ⟨y, ur, rfl, h, l⟩
  | v :: vs, _, i + 1, q => by
    obtain ⟨u, ur, rfl, k, l⟩ := q
    exact ⟨u, ur.set i y, rfl, k, RVs.set h i l⟩
theorem RVs.ints {G : Gam} {F : Hp} {r : List Addr} : ∀ {ns : List Int} {us : List V}, RVs G F r (ns.map PV.int) us → us = ns.map V.int
  | [], _, q => q
  | n :: ns, _, q => by
    obtain ⟨u, ur, rfl, k, l⟩ := q
    have e : u = V.int n := k
    rw [e, RVs.ints l]
    rfl
theorem RVs.of_ints {G : Gam} {F : Hp} {r : List Addr} : ∀ (ns : List Int), RVs G F r (ns.map PV.int) (ns.map V.int)
  | [] => rfl
  | n :: ns => ⟨_, _, rfl, rfl, RVs.of_ints ns⟩

/-! what an object of the store may lean on -/
def lim (n0 : Nat) (L : Nat → Nat) (r : List Addr) (i : Nat) : List Addr := if i < n0 then r.take (L i) else r
/-! what the frame knows besides: the callers' limits, objects that stand still -/
structure Gh where
  L : Nat → Nat
  pn : Hp
  lk : Addr → Bool

structure HR (G : Gam) (n0 : Nat) (g : Gh) (F : Hp) (r : List Addr) (S : Store) (H : Hp) : Prop where
  sub : LeD F H
  nd : r.Nodup
  off : ∀ a ∈ r, F a = none
  len : r.length = S.length
  nle : n0 ≤ S.length
  lle : ∀ i : Nat, i < n0 → g.L i ≤ n0
  obj : ∀ (i : Nat) ob a, S[i]? = some ob → r[i]? = some a → ∃ ho, AtL H a ob ho ∧ RO G F (lim n0 g.L r i) ob ho
  pin : ∀ a o, g.pn a = some o → H a = some o ∧ (F a = none ∨ (isFz o = true ∧ g.lk a = true)) ∧ ∀ i : Nat, r[i]? = some a → ∃ ob, S[i]? = some (.lck ob)
  lckd : ∀ (i : Nat) ob a, S[i]? = some (.lck ob) → r[i]? = some a → ∃ o, g.pn a = some o
  out : ∀ a o, g.pn a = some o → g.lk a = false → a ∉ r
/-! with the locals -/
structure Sg (G : Gam) (n0 : Nat) (g : Gh) (F : Hp) (r : List Addr) (env : Env) (σ : L2.St) (S : Store) (H : Hp) : Prop where
  hr : HR G n0 g F r S H
  sl : env.length = σ.length
  vr : ∀ (i : Nat) v, env[i]? = some (some v) → ∃ u, σ[i]? = some (some u) ∧ RV G F r v u

def Ext (F F' : Hp) (r r' : List Addr) : Prop := Le F F' ∧ r <+: r'
theorem Ext.refl (F : Hp) (r : List Addr) : Ext F F r r := ⟨Le.refl F, List.prefix_refl r⟩
theorem Ext.trans {F F' F2 : Hp} {r r' r2 : List Addr} (h : Ext F F' r r') (k : Ext F' F2 r' r2) : Ext F F2 r r2 := ⟨h.1.trans k.1, h.2.trans k.2⟩
theorem at_of {r r' : List Addr} (h : r <+: r') : ∀ (i : Nat) a, r[i]? = some a → r'[i]? = some a := fun i a e => by
  obtain ⟨t, rfl⟩ := h
  have hi := (List.getElem?_eq_some_iff.mp e).1
  rw [List.getElem?_append_left hi]
  exact e
theorem Ext.at_ {F F' : Hp} {r r' : List Addr} (h : Ext F F' r r') : ∀ (i : Nat) a, r[i]? = some a → r'[i]? = some a := at_of h.2
theorem lim_le (n0 : Nat) (L : Nat → Nat) (r : List Addr) (i : Nat) : lim n0 L r i <+: r := by
  unfold lim
  split
  · exact List.take_prefix _ _
  · exact List.prefix_refl r
theorem lim_mono {n0 : Nat} {L : Nat → Nat} {r r' : List Addr} (h : r <+: r') (i : Nat) : ∀ (j : Nat) a, (lim n0 L r i)[j]? = some a → (lim n0 L r' i)[j]? = some a := fun j b e => by
  unfold lim at e ⊢
  split at e
  · rename_i hn
    rw [if_pos hn]
    rw [List.getElem?_take] at e ⊢
    split at e
    · rename_i hj
      rw [if_pos hj]
      exact at_of h j b e
    · cases e
  · rename_i hn
    rw [if_neg hn]
    exact at_of h j b e
theorem RV.ext {G : Gam} {F F' : Hp} {r r' : List Addr} (h : Ext F F' r r') {v : PV} {u : V} (q : RV G F r v u) : RV G F' r' v u := RV.mono h.1 h.at_ v u q
theorem RVs.ext {G : Gam} {F F' : Hp} {r r' : List Addr} (h : Ext F F' r r') {v : List PV} {u : List V} (q : RVs G F r v u) : RVs G F' r' v u := RVs.mono h.1 h.at_ v u q
theorem Sg.ext {G : Gam} {n0 : Nat} {g : Gh} {F F' : Hp} {r r' : List Addr} {env : Env} {σ : L2.St} {S S' : Store} {H H' : Hp} (s : Sg G n0 g F r env σ S H) (h : Ext F F' r r') (k : HR G n0 g F' r' S' H') : Sg G n0 g F' r' env σ S' H' :=
  ⟨k, s.sl, fun i v e => let ⟨u, h1, h2⟩ := s.vr i v e; ⟨u, h1, h2.ext h⟩⟩

/-! a result's value: fresh, or any -/
def RF (G : Gam) (g : Gh) (F : Hp) (r : List Addr) (H : Hp) (b : Bool) (v : PV) (u : V) : Prop := match b with
  | true => ∃ a ho, u = .ref a ∧ H a = some ho ∧ F a = none ∧ a ∉ r ∧ g.pn a = none ∧ RO G F r v ho ∧ unl v = v
  | false => RV G F r v u

section
variable {G : Gam} {n0 : Nat} {g : Gh} {F : Hp} {r : List Addr} {S : Store} {H : Hp}
theorem Le.upd {a : Addr} {ho : HO} (hF : F a = none) : Le F (L2.upd F a ho) := fun b o e => by
  rw [upd_ne (fun z => by rw [z, hF] at e; cases e)]
  exact e
theorem HR.nopin (h : HR G n0 g F r S H) {i : Nat} {a : Addr} {ob : PV} (e1 : r[i]? = some a) (e2 : S[i]? = some ob) (hu : unl ob = ob) : g.pn a = none := by
  cases e : g.pn a with
  | none => rfl
  | some o =>
    obtain ⟨ob', q⟩ := (h.pin a o e).2.2 i e1
    rw [e2] at q
    cases q
    have e4 : ob' = .lck ob' := hu
    exact absurd e4 (by intro z; have := congrArg sizeOf z; simp at this)
theorem HR.mem (h : HR G n0 g F r S H) {a : Addr} (ha : a ∈ r) : ∃ ho, H a = some ho := by
  obtain ⟨i, hi, e⟩ := List.getElem_of_mem ha
  have hs : i < S.length := by rw [← h.len]; exact hi
  obtain ⟨ho, q, _⟩ := h.obj i S[i] a (List.getElem?_eq_getElem hs) (by rw [List.getElem?_eq_getElem hi, e])
  exact q.there
theorem HR.noF (h : HR G n0 g F r S H) {a : Addr} (ha : H a = none) : F a = none := by
  cases e : F a with
  | none => rfl
  | some o =>
    exact absurd ha (h.sub.ne e)
theorem HR.nor (h : HR G n0 g F r S H) {a : Addr} (ha : H a = none) : a ∉ r := fun hm => by
  obtain ⟨ho, e⟩ := h.mem hm
  rw [e] at ha
  cases ha
theorem HR.nop (h : HR G n0 g F r S H) {a : Addr} (ha : H a = none) : g.pn a = none := by
  cases e : g.pn a with
  | none => rfl
  | some o =>
    rw [(h.pin a o e).1] at ha
    cases ha
/-! a heap that keeps what is told of -/
theorem HR.heap {H' : Hp} (h : HR G n0 g F r S H) (k : ∀ a o, H a = some o → H' a = some o) : HR G n0 g F r S H' :=
  ⟨h.sub.heap k, h.nd, h.off, h.len, h.nle, h.lle, fun i ob a e1 e2 => let ⟨ho, q, z⟩ := h.obj i ob a e1 e2; ⟨ho, q.heap (k a), z⟩, fun a o e => let ⟨q, z⟩ := h.pin a o e; ⟨k _ _ q, z⟩, h.lckd, h.out⟩
/-! more is known to stand still -/
theorem HR.grow {a : Addr} {ho : HO} (h : HR G n0 g F r S H) (hH : H a = some ho) (hF : F a = none) (hr : a ∉ r) (hp : g.pn a = none) : HR G n0 g (L2.upd F a ho) r S H := by
  refine ⟨fun b o e => ?_, h.nd, fun b hb => ?_, h.len, h.nle, h.lle, fun i ob c e1 e2 => ?_, fun b o e => ?_, h.lckd, h.out⟩
  · by_cases hb : b = a
    · subst hb
      rw [upd_same] at e
      rw [hH]; exact .inl e
    · rw [upd_ne hb] at e
      exact h.sub b o e
  · rw [upd_ne (fun z => hr (by rw [← z]; exact hb))]
    exact h.off b hb
  · obtain ⟨o, h1, h2⟩ := h.obj i ob c e1 e2
    exact ⟨o, h1, RO.mono (Le.upd hF) (fun _ _ e => e) h2⟩
  · obtain ⟨q1, q2, q3⟩ := h.pin b o e
    refine ⟨q1, ?_, q3⟩
    rw [upd_ne (fun z => by rw [z, hp] at e; cases e)]
    exact q2
/-! a fresh object is left as it is from now on -/
theorem freeze {b : Bool} {v : PV} {u : V} (h : HR G n0 g F r S H) (q : RF G g F r H b v u) : ∃ F', Ext F F' r r ∧ HR G n0 g F' r S H ∧ RV G F' r v u := by
  cases b with
  | false => exact ⟨F, .refl F r, h, q⟩
  | true =>
    obtain ⟨a, ho, rfl, hH, hF, hr, hp, ro, hu⟩ := q
    refine ⟨L2.upd F a ho, ⟨Le.upd hF, List.prefix_refl r⟩, h.grow hH hF hr hp, ?_⟩
    have ro' : RO G (L2.upd F a ho) r v ho := RO.mono (Le.upd hF) (fun _ _ e => e) ro
    unfold RO at ro'
    rw [hu] at ro'
    split at ro'
    · obtain ⟨us, rfl, k⟩ := ro'
      exact ⟨a, us, rfl, .inl upd_same, k⟩
    · obtain ⟨us, d, k⟩ := ro'
      exact ⟨a, us, ho, rfl, upd_same, d, k⟩
    · obtain ⟨dx, us, rfl, l, k⟩ := ro'
      exact ⟨a, dx, us, rfl, upd_same, l, k⟩
    · exact ro'.elim
/-! a fresh object is held by the store -/
theorem store_new {v : PV} {u : V} (h : HR G n0 g F r S H) (q : RF G g F r H true v u) : ∃ r', Ext F F r r' ∧ HR G n0 g F r' (S ++ [v]) H ∧ RV G F r' (.ref S.length) u := by
  obtain ⟨a, ho, rfl, hH, hF, hr, hp, ro, hu⟩ := q
  have ex : Ext F F r (r ++ [a]) := ⟨.refl F, List.prefix_append r [a]⟩
  refine ⟨r ++ [a], ex, ⟨h.sub, ?_, fun b hb => ?_, by simp [h.len], by rw [List.length_append]; exact Nat.le_trans h.nle (Nat.le_add_right _ _), h.lle, fun i ob c e1 e2 => ?_, fun b o e => ?_, fun i ob c e1 e2 => ?_, fun b o e el hb => ?_⟩, ⟨a, ?_, rfl⟩⟩
  · rw [List.nodup_append]
    refine ⟨h.nd, by simp, fun x hx y hy e => ?_⟩
    have : y = a := by simpa using hy
    exact hr (by rw [← this, ← e]; exact hx)
  · rcases List.mem_append.mp hb with hb | hb
    · exact h.off b hb
    · have : b = a := by simpa using hb
      rw [this]; exact hF
  · by_cases hi : i < S.length
    · rw [List.getElem?_append_left hi] at e1
      rw [List.getElem?_append_left (by rw [h.len]; exact hi)] at e2
      obtain ⟨o, h1, h2⟩ := h.obj i ob c e1 e2
      exact ⟨o, h1, RO.mono (.refl F) (lim_mono ex.2 i) h2⟩
    · have hi' : i = S.length := by
        have := (List.getElem?_eq_some_iff.mp e1).1
        rw [List.length_append, List.length_singleton] at this
        omega
      subst hi'
      rw [List.getElem?_append_right (Nat.le_refl _)] at e1
      rw [← h.len, List.getElem?_append_right (Nat.le_refl _)] at e2
      simp at e1 e2
      subst e1 e2
      refine ⟨ho, .mk hH (isLk_unl hu), ?_⟩
      unfold lim
      rw [if_neg (by have := h.nle; omega)]
      exact RO.mono (.refl F) ex.at_ ro
  · obtain ⟨q1, q2, q3⟩ := h.pin b o e
    refine ⟨q1, q2, fun i hm => ?_⟩
    by_cases hi : i < r.length
    · rw [List.getElem?_append_left hi] at hm
      obtain ⟨ob, hb⟩ := q3 i hm
      exact ⟨ob, by rw [List.getElem?_append_left (by rw [← h.len]; exact hi)]; exact hb⟩
    · have : b = a := by
        rw [List.getElem?_append_right (by omega)] at hm
        have := List.mem_of_getElem? hm
        simpa using this
      rw [this, hp] at e
      cases e
  · by_cases hi : i < S.length
    · rw [List.getElem?_append_left hi] at e1
      rw [List.getElem?_append_left (by rw [h.len]; exact hi)] at e2
      exact h.lckd i ob c e1 e2
    · rw [List.getElem?_append_right (by omega)] at e1
      have := List.mem_of_getElem? e1
      have e3 : PV.lck ob = v := by simpa using this
      rw [← e3] at hu ro
      have e4 : ob = .lck ob := hu
      exact absurd e4 (by intro z; have := congrArg sizeOf z; simp at this)
  · rcases List.mem_append.mp hb with hb | hb
    · exact h.out b o e el hb
    · have : b = a := by simpa using hb
      rw [this, hp] at e
      cases e
  · rw [← h.len, List.getElem?_append_right (Nat.le_refl _)]
    simp
/-! a new object -/
theorem new_obj {p : Addr} {ho : HO} {v : PV} (h : HR G n0 g F r S H) (hp : H p = none) (ro : RO G F r v ho) (hu : unl v = v) : HR G n0 g F r S (L2.upd H p ho) ∧ RF G g F r (L2.upd H p ho) true v (.ref p) :=
  ⟨h.heap fun a o e => by rw [upd_ne (ne_of_none e hp)]; exact e, ⟨p, ho, rfl, upd_same, h.noF hp, h.nor hp, h.nop hp, ro, hu⟩⟩
/-! a new tuple -/
theorem new_tup {p : Addr} {xs : List PV} {us : List V} (h : HR G n0 g F r S H) (hp : H p = none) (q : RVs G F r xs us) : ∃ F', Ext F F' r r ∧ HR G n0 g F' r S (L2.upd H p (.tup us)) ∧ RV G F' r (.tup xs) (.ref p) := by
  have h1 : HR G n0 g F r S (L2.upd H p (.tup us)) := h.heap fun a o e => by rw [upd_ne (ne_of_none e hp)]; exact e
  have x : Ext F (L2.upd F p (.tup us)) r r := ⟨Le.upd (h.noF hp), List.prefix_refl r⟩
  exact ⟨_, x, h1.grow upd_same (h.noF hp) (h.nor hp) (h.nop hp), ⟨p, us, rfl, upd_same, q.ext x⟩⟩

/-! ### what a value is -/
theorem HR.ref (h : HR G n0 g F r S H) {i : Nat} {u : V} {ob : PV} (q : RV G F r (.ref i) u) (e : S[i]? = some ob) : ∃ a ho, u = .ref a ∧ r[i]? = some a ∧ AtL H a ob ho ∧ RO G F r ob ho := by
  obtain ⟨a, e1, rfl⟩ := q
  obtain ⟨ho, h1, h2⟩ := h.obj i ob a e e1
  exact ⟨a, ho, rfl, e1, h1, RO.mono (.refl F) (at_of (lim_le n0 g.L r i)) h2⟩
theorem RO.unl_ {v : PV} {ho : HO} (q : RO G F r v ho) : RO G F r (unl v) ho := by
  unfold RO at q ⊢
  cases v with
  | lck w =>
    cases w <;> first | exact q.elim | exact q
  | _ => exact q
/-! either the value itself, or an object of the store -/
theorem view (h : HR G n0 g F r S H) {v w : PV} {u : V} (q : RV G F r v u) (e : deref S v = some w) : RV G F r w u ∧ (∀ i, w ≠ .ref i) ∨ ∃ a ho, u = .ref a ∧ (H a = some ho ∨ (isDk ho = true ∧ ∃ od, H a = some (.frz od ho))) ∧ RO G F r w ho := by
  cases v with
  | ref i =>
    unfold deref at e
    cases es : S[i]? with
    | none =>
      simp only [es] at e
      cases e
    | some ob =>
      simp only [es] at e
      cases e
      obtain ⟨a, ho, e1, _, e3, e4⟩ := h.ref q es
      exact .inr ⟨a, ho, e1, e3.or, e4.unl_⟩
  | lck v => exact False.elim q
  | non => cases e; exact .inl ⟨q, fun i z => nomatch z⟩
  | bl b => cases e; exact .inl ⟨q, fun i z => nomatch z⟩
  | int b => cases e; exact .inl ⟨q, fun i z => nomatch z⟩
  | str b => cases e; exact .inl ⟨q, fun i z => nomatch z⟩
  | tup b => cases e; exact .inl ⟨q, fun i z => nomatch z⟩
  | lst b => cases e; exact .inl ⟨q, fun i z => nomatch z⟩
  | dct b c => cases e; exact .inl ⟨q, fun i z => nomatch z⟩
  | ins b c d => cases e; exact .inl ⟨q, fun i z => nomatch z⟩
theorem nodk {a : Addr} {ho : HO} (q : H a = some ho ∨ (isDk ho = true ∧ ∃ od, H a = some (.frz od ho))) (h : isDk ho = false) : H a = some ho := by
  rcases q with q | ⟨q, _⟩
  · exact q
  · rw [h] at q; cases q
theorem view_lst (h : HR G n0 g F r S H) {v : PV} {u : V} {xs : List PV} (q : RV G F r v u) (e : deref S v = some (.lst xs)) : ∃ a us, u = .ref a ∧ Rd H a (.lst us) ∧ RVs G F r xs us := by
  rcases view h q e with ⟨k, _⟩ | ⟨a, ho, e1, e2, k⟩
  · obtain ⟨a, us, e1, e2, e3⟩ := k
    exact ⟨a, us, e1, h.sub.rd e2, e3⟩
  · obtain ⟨us, rfl, k⟩ := k
    exact ⟨a, us, e1, .inl (nodk e2 rfl), k⟩
theorem view_tup (h : HR G n0 g F r S H) {v : PV} {u : V} {xs : List PV} (q : RV G F r v u) (e : deref S v = some (.tup xs)) : ∃ a us, u = .ref a ∧ SqT G.K H a us ∧ RVs G F r xs us := by
  rcases view h q e with ⟨k, _⟩ | ⟨a, ho, e1, e2, k⟩
  · obtain ⟨a, us, e1, e2, e3⟩ := k
    exact ⟨a, us, e1, h.sub.tp e2, e3⟩
  · exact k.elim
theorem view_tupH (h : HR G n0 g F r S H) {v : PV} {u : V} {xs : List PV} (q : RV G F r v u) (e : deref S v = some (.tup xs)) : ∃ a us, u = .ref a ∧ H a = some (.tup us) ∧ RVs G F r xs us := by
  rcases view h q e with ⟨k, _⟩ | ⟨a, ho, e1, e2, k⟩
  · obtain ⟨a, us, e1, e2, e3⟩ := k
    exact ⟨a, us, e1, h.sub.tpH e2, e3⟩
  · exact k.elim
theorem view_ins (h : HR G n0 g F r S H) {v : PV} {u : V} {c : Nat} {ns : List Nat} {vs : List PV} (q : RV G F r v u) (e : deref S v = some (.ins c ns vs)) :
    ∃ a dx us, u = .ref a ∧ H a = some (.ins (G.ca c) dx ((ns.map G.nm).zip us)) ∧ ns.length = us.length ∧ RVs G F r vs us := by
  rcases view h q e with ⟨k, _⟩ | ⟨a, ho, e1, e2, k⟩
  · obtain ⟨a, dx, us, e1, e2, e3, e4⟩ := k
    exact ⟨a, dx, us, e1, h.sub.eq e2 rfl, e3, e4⟩
  · obtain ⟨dx, us, rfl, l, k⟩ := k
    exact ⟨a, dx, us, e1, nodk e2 rfl, l, k⟩
theorem view_dct (h : HR G n0 g F r S H) {v : PV} {u : V} {ks : DKs} {vs : List PV} (q : RV G F r v u) (e : deref S v = some (.dct ks vs)) : ∃ a ho us, u = .ref a ∧ Rd H a ho ∧ DR ho ks us ∧ RVs G F r vs us := by
  rcases view h q e with ⟨k, _⟩ | ⟨a, ho, e1, e2, k⟩
  · obtain ⟨a, us, ho, e1, e2, e3, e4⟩ := k
    exact ⟨a, ho, us, e1, h.sub.any e2, e3, e4⟩
  · obtain ⟨us, d, k⟩ := k
    exact ⟨a, ho, us, e1, e2.imp (fun q => q) (fun ⟨_, od, q⟩ => ⟨od, q⟩), d, k⟩
theorem view_dctT (h : HR G n0 g F r S H) {v : PV} {u : V} {kt : List (List (Sum Int Str))} {vs : List PV} (q : RV G F r v u) (e : deref S v = some (.dct (.t kt) vs)) : ∃ a us, u = .ref a ∧ H a = some (.dT (kt.zip us)) ∧ kt.length = us.length ∧ RVs G F r vs us := by
  rcases view h q e with ⟨k, _⟩ | ⟨a, ho, e1, e2, k⟩
  · obtain ⟨a, us, ho, e1, e2, e3, e4⟩ := k
    obtain ⟨rfl, hl⟩ := e3
    exact ⟨a, us, e1, h.sub.eq e2 rfl, hl, e4⟩
  · obtain ⟨us, d, k⟩ := k
    obtain ⟨rfl, hl⟩ := d
    exact ⟨a, us, e1, nodk e2 rfl, hl, k⟩
theorem view_int (h : HR G n0 g F r S H) {v : PV} {u : V} {i : Int} (q : RV G F r v u) (e : deref S v = some (.int i)) : u = .int i := by
  rcases view h q e with ⟨k, _⟩ | ⟨a, ho, e1, e2, k⟩
  · exact k
  · exact k.elim
theorem view_bl (h : HR G n0 g F r S H) {v : PV} {u : V} {i : Bool} (q : RV G F r v u) (e : deref S v = some (.bl i)) : u = .bl i := by
  rcases view h q e with ⟨k, _⟩ | ⟨a, ho, e1, e2, k⟩
  · exact k
  · exact k.elim
theorem view_non (h : HR G n0 g F r S H) {v : PV} {u : V} (q : RV G F r v u) (e : deref S v = some .non) : u = .non := by
  rcases view h q e with ⟨k, _⟩ | ⟨a, ho, e1, e2, k⟩
  · exact k
  · exact k.elim
theorem view_str (h : HR G n0 g F r S H) {v : PV} {u : V} {x : Str} (q : RV G F r v u) (e : deref S v = some (.str x)) : u = .str x := by
  rcases view h q e with ⟨k, _⟩ | ⟨a, ho, e1, e2, k⟩
  · exact k
  · exact k.elim
theorem view_seq (h : HR G n0 g F r S H) {v : PV} {u : V} {xs : List PV} (q : RV G F r v u) (e : itemsOf S v = some xs) : ∃ a us, u = .ref a ∧ (SqL G.K H a us ∨ SqT G.K H a us) ∧ RVs G F r xs us := by
  unfold itemsOf at e
  split at e
  · rename_i xs' e'
    cases e
    obtain ⟨a, us, e1, e2, e3⟩ := view_lst h q e'
    exact ⟨a, us, e1, .inl (.inl e2), e3⟩
  · rename_i xs' e'
    cases e
    obtain ⟨a, us, e1, e2, e3⟩ := view_tup h q e'
    exact ⟨a, us, e1, .inr e2, e3⟩
  · cases e
end
end PX
set_option Elab.async false
set_option linter.all false
set_option maxRecDepth 100000
namespace PX
open PySem PySem.Spec PyProof.Rows L2

/-! ### readings -/
def PoE (G : Gam) (n0 : Nat) (g : Gh) (F : Hp) (r : List Addr) (env : Env) (σ : L2.St) (z : R (Bool × PV)) (Q : VK) : Prop := match z with
  | .ok p S' => ∀ F' r' H' u, Ext F F' r r' → Sg G n0 g F' r' env σ S' H' → RF G g F' r' H' p.1 p.2 u → Q u H'
  | _ => False
def PoV (G : Gam) (n0 : Nat) (g : Gh) (F : Hp) (r : List Addr) (env : Env) (σ : L2.St) (z : R (Bool × PV)) (Q : VK) : Prop := match z with
  | .ok p S' => ∀ F' r' H' u, Ext F F' r r' → Sg G n0 g F' r' env σ S' H' → RV G F' r' p.2 u → Q u H'
  | _ => False
def PoT (G : Gam) (n0 : Nat) (g : Gh) (F : Hp) (r : List Addr) (env : Env) (σ : L2.St) (z : R Bool) (Q : Bool → Hp → Prop) : Prop := match z with
  | .ok b S' => ∀ F' r' H', Ext F F' r r' → Sg G n0 g F' r' env σ S' H' → Q b H'
  | _ => False
def PoA (G : Gam) (n0 : Nat) (g : Gh) (F : Hp) (r : List Addr) (env : Env) (σ : L2.St) (z : R (List PV)) (Q : List V → Hp → Prop) : Prop := match z with
  | .ok vs S' => ∀ F' r' H' us, Ext F F' r r' → Sg G n0 g F' r' env σ S' H' → RVs G F' r' vs us → Q us H'
  | _ => False
def rdE (G : Gam) (n0 : Nat) (f : SE) : TE := fun σ H Q => ∃ F r env S g, Sg G n0 g F r env σ S H ∧ PoE G n0 g F r env σ (f env S) Q
def rdV (G : Gam) (n0 : Nat) (f : SE) : TE := fun σ H Q => ∃ F r env S g, Sg G n0 g F r env σ S H ∧ PoV G n0 g F r env σ (f env S) Q
def rdT (G : Gam) (n0 : Nat) (f : ST) : TT := fun σ H Q => ∃ F r env S g, Sg G n0 g F r env σ S H ∧ PoT G n0 g F r env σ (f env S) Q
def rdA (G : Gam) (n0 : Nat) (f : SA) : TA := fun σ H Q => ∃ F r env S g, Sg G n0 g F r env σ S H ∧ PoA G n0 g F r env σ (f env S) Q

theorem peI {X : Cx} {e : Expr} {t t' : TE} (h : PE X e t) (w : ∀ σ H Q, t' σ H Q → t σ H Q) : PE X e t' := ⟨fun pins s σ H Q I q => h.run pins s σ H Q I (w σ H Q q)⟩
theorem ptI {X : Cx} {e : Expr} {t t' : TT} (h : PT X e t) (w : ∀ σ H Q, t' σ H Q → t σ H Q) : PT X e t' := ⟨fun pins s σ H Q I q => h.run pins s σ H Q I (w σ H Q q)⟩
theorem pwI {X : Cx} {e : Expr} {t t' : TT} (h : PW X e t) (w : ∀ σ H Q, t' σ H Q → t σ H Q) : PW X e t' := ⟨fun wh pins s σ H Q I q => h.run wh pins s σ H Q I (w σ H Q q)⟩
theorem paI {X : Cx} {e : List Expr} {t t' : TA} (h : PA X e t) (w : ∀ σ H Q, t' σ H Q → t σ H Q) : PA X e t' := ⟨fun pos pins s σ H Q I q => h.run pos pins s σ H Q I (w σ H Q q)⟩
/-! what a continuation may not be -/
structure Cn {α : Type} (C : R α → Prop) : Prop where
  no : ¬ C .no
  ex : ∀ c p S', ¬ C (.ex c p S')
section
variable {G : Gam} {n0 : Nat} {g : Gh} {F F1 : Hp} {r r1 : List Addr} {env : Env} {σ : L2.St} {S S1 : Store} {H H1 : Hp} {Q : VK} {QT : Bool → Hp → Prop} {QA : List V → Hp → Prop}
theorem cnE : Cn fun z => PoE G n0 g F r env σ z Q := ⟨fun h => h, fun _ _ _ h => h⟩
theorem cnV : Cn fun z => PoV G n0 g F r env σ z Q := ⟨fun h => h, fun _ _ _ h => h⟩
theorem cnT : Cn fun z => PoT G n0 g F r env σ z QT := ⟨fun h => h, fun _ _ _ h => h⟩
theorem cnA : Cn fun z => PoA G n0 g F r env σ z QA := ⟨fun h => h, fun _ _ _ h => h⟩
/-! composing: a, then what follows -/
theorem stE {f : SE} {T : V → Hp → Prop} {α : Type} {kk : Bool × PV → Store → R α} {C : R α → Prop} (s : Sg G n0 g F r env σ S H) (cn : Cn C) (h : C ((f env S).bind kk))
    (step : ∀ p S' F' r' H' u, Ext F F' r r' → Sg G n0 g F' r' env σ S' H' → RF G g F' r' H' p.1 p.2 u → C (kk p S') → T u H') : rdE G n0 f σ H T := by
  refine ⟨F, r, env, S, g, s, ?_⟩
  cases e : f env S with
  | ok p S' =>
    rw [e] at h
    exact fun F' r' H' u ex s' q => step p S' F' r' H' u ex s' q h
  | ex c p S' =>
    rw [e] at h
    exact (cn.ex c p S' h).elim
  | no =>
    rw [e] at h
    exact (cn.no h).elim
theorem stV {f : SE} {T : V → Hp → Prop} {α : Type} {kk : Bool × PV → Store → R α} {C : R α → Prop} (s : Sg G n0 g F r env σ S H) (cn : Cn C) (h : C ((f env S).bind kk))
    (step : ∀ p S' F' r' H' u, Ext F F' r r' → Sg G n0 g F' r' env σ S' H' → RV G F' r' p.2 u → C (kk p S') → T u H') : rdV G n0 f σ H T := by
  refine ⟨F, r, env, S, g, s, ?_⟩
  cases e : f env S with
  | ok p S' =>
    rw [e] at h
    exact fun F' r' H' u ex s' q => step p S' F' r' H' u ex s' q h
  | ex c p S' =>
    rw [e] at h
    exact (cn.ex c p S' h).elim
  | no =>
    rw [e] at h
    exact (cn.no h).elim
theorem stT {f : ST} {T : Bool → Hp → Prop} {α : Type} {kk : Bool → Store → R α} {C : R α → Prop} (s : Sg G n0 g F r env σ S H) (cn : Cn C) (h : C ((f env S).bind kk))
    (step : ∀ p S' F' r' H', Ext F F' r r' → Sg G n0 g F' r' env σ S' H' → C (kk p S') → T p H') : rdT G n0 f σ H T := by
  refine ⟨F, r, env, S, g, s, ?_⟩
  cases e : f env S with
  | ok p S' =>
    rw [e] at h
    exact fun F' r' H' ex s' => step p S' F' r' H' ex s' h
  | ex c p S' =>
    rw [e] at h
    exact (cn.ex c p S' h).elim
  | no =>
    rw [e] at h
    exact (cn.no h).elim
theorem stA {f : SA} {T : List V → Hp → Prop} {α : Type} {kk : List PV → Store → R α} {C : R α → Prop} (s : Sg G n0 g F r env σ S H) (cn : Cn C) (h : C ((f env S).bind kk))
    (step : ∀ p S' F' r' H' us, Ext F F' r r' → Sg G n0 g F' r' env σ S' H' → RVs G F' r' p us → C (kk p S') → T us H') : rdA G n0 f σ H T := by
  refine ⟨F, r, env, S, g, s, ?_⟩
  cases e : f env S with
  | ok p S' =>
    rw [e] at h
    exact fun F' r' H' us ex s' q => step p S' F' r' H' us ex s' q h
  | ex c p S' =>
    rw [e] at h
    exact (cn.ex c p S' h).elim
  | no =>
    rw [e] at h
    exact (cn.no h).elim
/-! going on from a later state -/
theorem goE {f : SE} (s : Sg G n0 g F1 r1 env σ S1 H1) (x : Ext F F1 r r1) (h : PoE G n0 g F r env σ (f env S1) Q) : rdE G n0 f σ H1 Q := by
  refine ⟨F1, r1, env, S1, g, s, ?_⟩
  cases e : f env S1 with
  | ok p S' => rw [e] at h; exact fun F' r' H' u ex s' q => h F' r' H' u (x.trans ex) s' q
  | ex => rw [e] at h; exact h
  | no => rw [e] at h; exact h
theorem goT {f : ST} (s : Sg G n0 g F1 r1 env σ S1 H1) (x : Ext F F1 r r1) (h : PoT G n0 g F r env σ (f env S1) QT) : rdT G n0 f σ H1 QT := by
  refine ⟨F1, r1, env, S1, g, s, ?_⟩
  cases e : f env S1 with
  | ok p S' => rw [e] at h; exact fun F' r' H' ex s' => h F' r' H' (x.trans ex) s'
  | ex => rw [e] at h; exact h
  | no => rw [e] at h; exact h
/-! an end by values -/
theorem endO {o : Option (Bool × PV)} {T : VK → Prop} (s : Sg G n0 g F1 r1 env σ S1 H1) (x : Ext F F1 r r1) (h : PoE G n0 g F r env σ (ofO o S1) Q)
    (ok : ∀ z, o = some z → (∀ F' r' H' w, Ext F1 F' r1 r' → HR G n0 g F' r' S1 H' → RF G g F' r' H' z.1 z.2 w → Q w H') → T Q) : T Q := by
  unfold ofO at h
  cases o with
  | none => exact h.elim
  | some z => exact ok z rfl fun F' r' H' w x' hr rf => h F' r' H' w (x.trans x') (s.ext x' hr) rf
end
section
variable {X : Cx} {G : Gam} {n0 : Nat} {e : Expr} {f : SE}
/-! what is fresh may be left as it is -/
theorem toV (h : PE X e (rdE G n0 f)) : PE X e (rdV G n0 f) := by
  refine peI h fun σ H Q ⟨F, r, env, S, g, s, p⟩ => ⟨F, r, env, S, g, s, ?_⟩
  cases e : f env S with
  | ok p' S' =>
    rw [e] at p
    intro F' r' H' u x s' q
    obtain ⟨F2, x2, h2, q2⟩ := freeze s'.hr q
    exact p F2 r' H' u (x.trans x2) (s'.ext x2 h2) q2
  | ex => rw [e] at p; exact p
  | no => rw [e] at p; exact p

/-! ### values: what an operator by values is asked -/
def Ok1 (G : Gam) (o : Op1) (t : V → Hp → VK → Prop) : Prop := ∀ n0 g F r S H x u z Q, HR G n0 g F r S H → RV G F r x u → o x S = some z →
  (∀ F' r' H' w, Ext F F' r r' → HR G n0 g F' r' S H' → RF G g F' r' H' z.1 z.2 w → Q w H') → t u H Q
def Ok2 (G : Gam) (o : Op2) (t : R2) : Prop := ∀ n0 g F r S H x y u v z Q, HR G n0 g F r S H → RV G F r x u → RV G F r y v → o x y S = some z →
  (∀ F' r' H' w, Ext F F' r r' → HR G n0 g F' r' S H' → RF G g F' r' H' z.1 z.2 w → Q w H') → t u v H Q
def OkN (G : Gam) (o : OpN) (t : List V → Hp → VK → Prop) : Prop := ∀ n0 g F r S H xs us z Q, HR G n0 g F r S H → RVs G F r xs us → o xs S = some z →
  (∀ F' r' H' w, Ext F F' r r' → HR G n0 g F' r' S H' → RF G g F' r' H' z.1 z.2 w → Q w H') → t us H Q

variable {a b c : Expr} {fa fb fc : SE} {pos : Pos} {es : List Expr} {fs : SA} {rest : List Expr}
theorem se_var {i : Nat} (hp : PE X e (tVar i)) : PE X e (rdE G n0 (eVar i)) := by
  refine peI hp fun σ H Q ⟨F, r, env, S, g, s, h⟩ => ?_
  unfold eVar at h
  split at h
  · rename_i v ev
    obtain ⟨u, h1, h2⟩ := s.vr i v ev
    exact ⟨u, h1, h F r H u (.refl F r) s h2⟩
  · exact h.elim
theorem se_lit {u : V} {v : PV} (hp : PE X e (tC u)) (hv : ∀ F r, RV G F r v u) : PE X e (rdE G n0 (eLit v)) :=
  peI hp fun σ H Q ⟨F, r, env, S, g, s, h⟩ => h F r H u (.refl F r) s (hv F r)
theorem se_un {op : UnaryOp} {o : Op1} {t : V → Hp → VK → Prop} (hop : UnR X (unaryOp op) t) (ho : Ok1 G o t) (ha : PE X a (rdE G n0 fa)) : PE X (.UnaryOp op a pos) (rdE G n0 (eUn o fa)) := by
  refine peI (pe_un hop (toV ha)) fun σ H Q ⟨F, r, env, S, g, s, h⟩ => ?_
  refine stV s cnE h fun p S1 F1 r1 H1 u x1 s1 q1 h1 => ?_
  exact endO (T := fun Q => t u H1 Q) s1 x1 h1 fun z ez k => ho n0 g F1 r1 S1 H1 p.2 u z Q s1.hr q1 ez k
theorem se_bin {op : Operator} {o : Op2} {t : R2} (hop : OpR X (binaryOp op) t) (ho : Ok2 G o t) (ha : PE X a (rdE G n0 fa)) (hb : PE X b (rdE G n0 fb)) : PE X (.BinOp a op b pos) (rdE G n0 (eBin o fa fb)) := by
  refine peI (pe_op hop (toV ha) (toV hb)) fun σ H Q ⟨F, r, env, S, g, s, h⟩ => ?_
  refine stV s cnE h fun p S1 F1 r1 H1 u x1 s1 q1 h1 => ?_
  refine stV s1 cnE h1 fun q S2 F2 r2 H2 v x2 s2 q2 h2 => ?_
  exact endO (T := fun Q => t u v H2 Q) s2 (x1.trans x2) h2 fun z ez k => ho n0 g F2 r2 S2 H2 p.2 q.2 u v z Q s2.hr (q1.ext x2) q2 ez k
theorem se_cmp {op : CmpOp} {o : Op2} {t : R2} (hop : OpR X (compareOp op) t) (ho : Ok2 G o t) (ha : PE X a (rdE G n0 fa)) (hb : PE X b (rdE G n0 fb)) (hm : behindInMarks op b = false) : PE X (.Compare a [op] [b] pos) (rdE G n0 (eBin o fa fb)) := by
  refine peI (pe_cmpR hop (toV ha) (toV hb) hm) fun σ H Q ⟨F, r, env, S, g, s, h⟩ => ?_
  refine stV s cnE h fun p S1 F1 r1 H1 u x1 s1 q1 h1 => ?_
  refine stV s1 cnE h1 fun q S2 F2 r2 H2 v x2 s2 q2 h2 => ?_
  exact endO (T := fun Q => t u v H2 Q) s2 (x1.trans x2) h2 fun z ez k => ho n0 g F2 r2 S2 H2 p.2 q.2 u v z Q s2.hr (q1.ext x2) q2 ez k
theorem bl_of {g : Gh} {F : Hp} {r : List Addr} {H : Hp} {b : Bool} {k : Bool} {w : V} (q : RF G g F r H b (.bl k) w) : w = .bl k := by
  cases b with
  | false => exact q
  | true =>
    obtain ⟨_, _, _, _, _, _, _, ro, _⟩ := q
    exact ro.elim
theorem st_cmp {op : CmpOp} {o : Op2} {t : R2} (hop : OpR X (compareOp op) t) (ho : Ok2 G o t) (ha : PE X a (rdE G n0 fa)) (hb : PE X b (rdE G n0 fb)) (hm : behindInMarks op b = false) : PT X (.Compare a [op] [b] pos) (rdT G n0 (tBl (eBin o fa fb))) := by
  refine ptI (pt_cmpR hop (toV ha) (toV hb) hm) fun σ H Q ⟨F, r, env, S, g, s, h⟩ => ?_
  have h : PoT G n0 g F r env σ (((fa env S).bind fun p S1 => (fb env S1).bind fun q S2 => ofO (o p.2 q.2 S2) S2).bind fun p S1 => match p.2 with
    | .bl b => .ok b S1
    | _ => .no) Q := h
  have assoc : ∀ {α β γ : Type} (m : R α) (k : α → Store → R β) (l : β → Store → R γ), (m.bind k).bind l = m.bind fun x S => (k x S).bind l := fun m k l => by cases m <;> rfl
  rw [assoc] at h
  refine stV s cnT h fun p S1 F1 r1 H1 u x1 s1 q1 h1 => ?_
  rw [assoc] at h1
  refine stV s1 cnT h1 fun q S2 F2 r2 H2 v x2 s2 q2 h2 => ?_
  cases eo : o p.2 q.2 S2 with
  | none => rw [eo] at h2; exact h2.elim
  | some z =>
    rw [eo] at h2
    refine ho n0 g F2 r2 S2 H2 p.2 q.2 u v z _ s2.hr (q1.ext x2) q2 eo fun F' r' H' w x hr rf => ?_
    have h3 : PoT G n0 g F r env σ (match z.2 with
      | .bl b => .ok b S2
      | _ => .no) Q := h2
    split at h3
    · rename_i k ek
      rw [ek] at rf
      exact ⟨k, bl_of rf, h3 F' r' H' ((x1.trans x2).trans x) (s2.ext x hr)⟩
    · exact h3.elim
/-! truth -/
theorem truth_ok {g : Gh} {F : Hp} {r : List Addr} {S : Store} {H : Hp} {v : PV} {u : V} {k : Bool} (h : HR G n0 g F r S H) (q : RV G F r v u) (e : truth S v = some k) : TruV G.K u H k := by
  unfold truth at e
  split at e
  · rename_i b e'
    cases e
    rw [view_bl h q e']
    exact rfl
  · rename_i i e'
    cases e
    rw [view_int h q e']
    exact rfl
  · rename_i e'
    cases e
    rw [view_non h q e']
    exact rfl
  · rename_i xs e'
    cases e
    obtain ⟨a, us, rfl, h1, h2⟩ := view_lst h q e'
    refine .inl ⟨us, .inl h1, ?_⟩
    cases xs with
    | nil => have e3 : us = [] := h2; rw [e3]; rfl
    | cons x xs => obtain ⟨_, _, rfl, _, _⟩ := h2; rfl
  · rename_i xs e'
    cases e
    obtain ⟨a, us, rfl, h1, h2⟩ := view_tup h q e'
    refine .inr (.inl ⟨us, h1, ?_⟩)
    cases xs with
    | nil => have e3 : us = [] := h2; rw [e3]; rfl
    | cons x xs => obtain ⟨_, _, rfl, _, _⟩ := h2; rfl
  · cases e
theorem st_tru (hK : G.K = X.K) (ha : PE X a (rdE G n0 fa)) (he : ∀ whole, isTrue a X.env whole = (do let v ← whole; standAt a.pos; holding [v] (truthy v)) := by intro _; rfl) : PT X a (rdT G n0 (tTru fa)) := by
  refine ptI (pt_truth (toV ha) he) fun σ H Q ⟨F, r, env, S, g, s, h⟩ => ?_
  refine stV s cnT h fun p S1 F1 r1 H1 u x1 s1 q1 h1 => ?_
  cases et : truth S1 p.2 with
  | none => rw [et] at h1; exact h1.elim
  | some k =>
    rw [et] at h1
    exact ⟨k, hK ▸ truth_ok s1.hr q1 et, h1 F1 r1 H1 x1 s1⟩
theorem st_no {ta : ST} (ha : PT X a (rdT G n0 ta)) : PT X (.UnaryOp .Not a pos) (rdT G n0 (tNo ta)) := by
  refine ptI (pt_not ha) fun σ H Q ⟨F, r, env, S, g, s, h⟩ => ?_
  exact stT s cnT h fun p S1 F1 r1 H1 x1 s1 h1 => h1 F1 r1 H1 x1 s1
theorem sw_one {op : BoolOp} {ta : ST} (ha : PT X a (rdT G n0 ta)) : PW X (.BoolOp op [a] pos) (rdT G n0 ta) := by
  cases op with
  | And => exact pw_and1 ha
  | Or => exact pw_or1 ha
theorem sw_and {ta tb : ST} (ha : PT X a (rdT G n0 ta)) (hb : PW X (.BoolOp .And (b :: rest) pos) (rdT G n0 tb)) : PW X (.BoolOp .And (a :: b :: rest) pos) (rdT G n0 (tAn ta tb)) := by
  refine pwI (pw_and ha hb) fun σ H Q ⟨F, r, env, S, g, s, h⟩ => ?_
  refine stT s cnT h fun p S1 F1 r1 H1 x1 s1 h1 => ?_
  cases p with
  | true => exact goT s1 x1 h1
  | false => exact h1 F1 r1 H1 x1 s1
theorem sw_or {ta tb : ST} (ha : PT X a (rdT G n0 ta)) (hb : PW X (.BoolOp .Or (b :: rest) pos) (rdT G n0 tb)) : PW X (.BoolOp .Or (a :: b :: rest) pos) (rdT G n0 (tOr ta tb)) := by
  refine pwI (pw_or ha hb) fun σ H Q ⟨F, r, env, S, g, s, h⟩ => ?_
  refine stT s cnT h fun p S1 F1 r1 H1 x1 s1 h1 => ?_
  cases p with
  | true => exact h1 F1 r1 H1 x1 s1
  | false => exact goT s1 x1 h1
theorem se_one {op : BoolOp} (ha : PE X a (rdE G n0 fa)) : PE X (.BoolOp op [a] pos) (rdE G n0 fa) := pe_one ha
theorem se_and (hK : G.K = X.K) (ha : PE X a (rdE G n0 fa)) (hb : PE X (.BoolOp .And (b :: rest) pos) (rdE G n0 fb)) : PE X (.BoolOp .And (a :: b :: rest) pos) (rdE G n0 (eAn fa fb)) := by
  refine peI (pe_andT (toV ha) hb) fun σ H Q ⟨F, r, env, S, g, s, h⟩ => ?_
  refine stV s cnE h fun p S1 F1 r1 H1 u x1 s1 q1 h1 => ?_
  cases et : truth S1 p.2 with
  | none => rw [et] at h1; exact h1.elim
  | some k =>
    rw [et] at h1
    refine ⟨k, hK ▸ truth_ok s1.hr q1 et, ?_⟩
    cases k with
    | true => exact goE s1 x1 h1
    | false => exact h1 F1 r1 H1 u x1 s1 q1
theorem se_or (hK : G.K = X.K) (ha : PE X a (rdE G n0 fa)) (hb : PE X (.BoolOp .Or (b :: rest) pos) (rdE G n0 fb)) : PE X (.BoolOp .Or (a :: b :: rest) pos) (rdE G n0 (eOr fa fb)) := by
  refine peI (pe_orT (toV ha) hb) fun σ H Q ⟨F, r, env, S, g, s, h⟩ => ?_
  refine stV s cnE h fun p S1 F1 r1 H1 u x1 s1 q1 h1 => ?_
  cases et : truth S1 p.2 with
  | none => rw [et] at h1; exact h1.elim
  | some k =>
    rw [et] at h1
    refine ⟨k, hK ▸ truth_ok s1.hr q1 et, ?_⟩
    cases k with
    | true => exact h1 F1 r1 H1 u x1 s1 q1
    | false => exact goE s1 x1 h1
theorem se_not (hK : G.K = X.K) (ha : PE X a (rdE G n0 fa)) : PE X (.UnaryOp .Not a pos) (rdE G n0 (eNot fa)) := by
  refine peI (pe_notT (toV ha)) fun σ H Q ⟨F, r, env, S, g, s, h⟩ => ?_
  refine stV s cnE h fun p S1 F1 r1 H1 u x1 s1 q1 h1 => ?_
  cases et : truth S1 p.2 with
  | none => rw [et] at h1; exact h1.elim
  | some k =>
    rw [et] at h1
    exact ⟨k, hK ▸ truth_ok s1.hr q1 et, h1 F1 r1 H1 _ x1 s1 rfl⟩
theorem se_if {tc : ST} (hc : PT X c (rdT G n0 tc)) (ha : PE X a (rdE G n0 fa)) (hb : PE X b (rdE G n0 fb)) : PE X (.IfExp c a b pos) (rdE G n0 (eIf tc fa fb)) := by
  refine peI (pe_ifExp hc ha hb) fun σ H Q ⟨F, r, env, S, g, s, h⟩ => ?_
  refine stT s cnE h fun p S1 F1 r1 H1 x1 s1 h1 => ?_
  cases p with
  | true => exact goE s1 x1 h1
  | false => exact goE s1 x1 h1
theorem ofO_bl {g : Gh} {F : Hp} {r : List Addr} {env : Env} {σ : L2.St} {S : Store} {Q : VK} {z : Bool × PV} (h : PoE G n0 g F r env σ (ofO (some z) S) Q) : PoE G n0 g F r env σ (.ok z S) Q := h
theorem se_ch {o1 o2 : CmpOp} {o o' : Op2} {t t' : R2} (hop : OpR X (compareOp o1) t) (ho : Ok2 G o t) (hop' : OpR X (compareOp o2) t') (ho' : Ok2 G o' t') (ha : PE X a (rdE G n0 fa)) (hb : PE X b (rdE G n0 fb)) (hc : PE X c (rdE G n0 fc))
    (hp : PE X (.Compare a [o1, o2] [b, c] pos) (tChain t t' (rdV G n0 fa) (rdV G n0 fb) (rdV G n0 fc))) : PE X (.Compare a [o1, o2] [b, c] pos) (rdE G n0 (eCh o o' fa fb fc)) := by
  refine peI hp fun σ H Q ⟨F, r, env, S, g, s, h⟩ => ?_
  refine stV s cnE h fun p S1 F1 r1 H1 u x1 s1 q1 h1 => ?_
  refine stV s1 cnE h1 fun q S2 F2 r2 H2 v x2 s2 q2 h2 => ?_
  split at h2
  · rename_i eo
    refine ho n0 g F2 r2 S2 H2 p.2 q.2 u v _ _ s2.hr (q1.ext x2) q2 eo fun F3 r3 H3 w x3 hr3 rf => ⟨true, rf, ?_⟩
    refine stV (s2.ext x3 hr3) cnE h2 fun z S4 F4 r4 H4 w' x4 s4 q4 h4 => ?_
    exact endO (T := fun Q => t' v w' H4 Q) s4 (((x1.trans x2).trans x3).trans x4) h4 fun z' ez k => ho' n0 g F4 r4 S4 H4 q.2 z.2 v w' z' Q s4.hr (q2.ext (x3.trans x4)) q4 ez k
  · rename_i eo
    refine ho n0 g F2 r2 S2 H2 p.2 q.2 u v _ _ s2.hr (q1.ext x2) q2 eo fun F3 r3 H3 w x3 hr3 rf => ⟨false, rf, ?_⟩
    exact h2 F3 r3 H3 _ ((x1.trans x2).trans x3) (s2.ext x3 hr3) rfl
  · exact h2.elim
/-! arguments -/
theorem sa_nil : PA X [] (rdA G n0 aNil) := paI pa_nil fun σ H Q ⟨F, r, env, S, g, s, h⟩ => h F r H [] (.refl F r) s rfl
theorem sa_cons (ha : PE X a (rdE G n0 fa)) (hr : PA X es (rdA G n0 fs)) (hs : starEach (a :: es) X.env = (false, eval a X.env) :: starEach es X.env := by rfl) : PA X (a :: es) (rdA G n0 (aCons fa fs)) := by
  refine paI (pa_cons (toV ha) hr hs) fun σ H Q ⟨F, r, env, S, g, s, h⟩ => ?_
  refine stV s cnA h fun p S1 F1 r1 H1 u x1 s1 q1 h1 => ?_
  refine stA s1 cnA h1 fun q S2 F2 r2 H2 us x2 s2 q2 h2 => ?_
  exact h2 F2 r2 H2 _ (x1.trans x2) s2 ⟨u, us, rfl, q1.ext x2, q2⟩
theorem sa_star {sp_ : Pos} (hK : G.K = X.K) (ha : PE X a (rdE G n0 fa)) (hr : PA X es (rdA G n0 fs)) (hs : starEach (.Starred a sp_ :: es) X.env = (true, eval a X.env) :: starEach es X.env := by rfl) : PA X (.Starred a sp_ :: es) (rdA G n0 (aStar fa fs)) := by
  refine paI (StX.pa_star (toV ha) hr hs) fun σ H Q ⟨F, r, env, S, g, s, h⟩ => ?_
  refine stV s cnA h fun p S1 F1 r1 H1 u x1 s1 q1 h1 => ?_
  cases ei : itemsOf S1 p.2 with
  | none => simp only [ei] at h1; exact h1.elim
  | some xs =>
    simp only [ei] at h1
    obtain ⟨a', us, rfl, hs', rv⟩ := view_seq s1.hr q1 ei
    refine ⟨a', us, rfl, hK ▸ hs'.symm, ?_⟩
    refine stA s1 cnA h1 fun q S2 F2 r2 H2 ws x2 s2 q2 h2 => ?_
    exact h2 F2 r2 H2 _ (x1.trans x2) s2 ((rv.ext x2).append q2)
theorem small_le {n : Nat} (h : small n = true) : n ≤ sizeLine := by
  have : n ≤ 1000000 := Nat.le_of_ble_eq_true h
  exact Nat.le_trans this (by rw [sizeLine_eq]; decide)
theorem se_tup {x1} (h : PA X es (rdA G n0 fs)) : PE X (.Tuple es x1 pos) (rdE G n0 (eTup fs)) := by
  refine peI (pe_tup h) fun σ H Q ⟨F, r, env, S, g, s, h⟩ => ?_
  refine stA s cnE h fun p S1 F1 r1 H1 us x1 s1 q1 h1 => ?_
  split at h1
  · rename_i hz
    refine ⟨by rw [← RVs.length q1]; exact small_le hz, fun p' hp => ?_⟩
    obtain ⟨F2, x2, h2, k⟩ := new_tup s1.hr hp q1
    exact h1 F2 r1 _ _ (x1.trans x2) (s1.ext x2 h2) k
  · exact h1.elim
theorem se_lst (h : PA X es (rdA G n0 fs)) : PE X (.List es pos) (rdE G n0 (eLst fs)) := by
  refine peI (pe_lst h) fun σ H Q ⟨F, r, env, S, g, s, h⟩ => ?_
  refine stA s cnE h fun p S1 F1 r1 H1 us x1 s1 q1 h1 => ?_
  split at h1
  · rename_i hz
    refine ⟨by rw [← RVs.length q1]; exact small_le hz, fun p' hp => ?_⟩
    obtain ⟨h2, k⟩ := new_obj s1.hr hp (v := .lst p) ⟨us, rfl, q1⟩ rfl
    exact h1 F1 r1 _ _ x1 (s1.ext (.refl _ _) h2) k
  · exact h1.elim
/-! a new object is held by the store -/
theorem se_new (ha : PE X a (rdE G n0 fa)) : PE X a (rdE G n0 (eNew fa)) := by
  refine peI ha fun σ H Q ⟨F, r, env, S, g, s, h⟩ => ?_
  refine stE s cnE h fun p S1 F1 r1 H1 u x1 s1 q1 h1 => ?_
  obtain ⟨b, v⟩ := p
  cases b with
  | false => exact h1 F1 r1 H1 u x1 s1 q1
  | true =>
    obtain ⟨r2, x2, h2, k⟩ := store_new s1.hr q1
    exact h1 F1 r2 H1 u (x1.trans x2) (s1.ext x2 h2) k
end
end PX
set_option Elab.async false
set_option linter.all false
set_option maxRecDepth 100000
namespace PX
open PySem PySem.Spec PyProof.Rows L2

def PoS (G : Gam) (n0 : Nat) (g : Gh) (F : Hp) (r : List Addr) (z : RS) (D : Ends) : Prop := match z with
  | .nx e S' => ∀ F' r' H' σ', Ext F F' r r' → Sg G n0 g F' r' e σ' S' H' → D.nx σ' H'
  | .bk e S' => ∀ F' r' H' σ', Ext F F' r r' → Sg G n0 g F' r' e σ' S' H' → D.bk σ' H'
  | .ct e S' => ∀ F' r' H' σ', Ext F F' r r' → Sg G n0 g F' r' e σ' S' H' → D.ct σ' H'
  | .rt v S' => ∀ F' r' H' u, Ext F F' r r' → HR G n0 g F' r' S' H' → RV G F' r' v u → D.rt u H'
  | _ => False
def rdS (G : Gam) (n0 : Nat) (f : SS) : TS := fun D σ H => ∃ F r env S g, Sg G n0 g F r env σ S H ∧ PoS G n0 g F r (f env S) D
/-! what a loop walks -/
def GhLe (g g2 : Gh) : Prop := ∀ a o, g.pn a = some o → g.lk a = true → g2.pn a = some o ∧ g2.lk a = true
theorem GhLe.refl (g : Gh) : GhLe g g := fun _ _ e l => ⟨e, l⟩
theorem GhLe.trans {g g2 g3 : Gh} (h : GhLe g g2) (k : GhLe g2 g3) : GhLe g g3 := fun a o e l => k a o (h a o e l).1 (h a o e l).2
/-! another object stands at a pin -/
def Gh.rep (g : Gh) (rp : Option (Addr × HO)) : Gh := match rp with
  | none => g
  | some p => ⟨g.L, L2.upd g.pn p.1 p.2, g.lk⟩
def Gh.has (g : Gh) (rp : Option (Addr × HO)) : Prop := ∀ p, rp = some p → (∃ o, g.pn p.1 = some o) ∧ g.lk p.1 = false
def GhPin (g g' : Gh) : Prop := ∀ a o, g.pn a = some o → g.lk a = false → g'.pn a = some o ∧ g'.lk a = false
theorem GhPin.refl (g : Gh) : GhPin g g := fun _ _ e l => ⟨e, l⟩
theorem GhPin.has {g g' : Gh} (h : GhPin g g') {rp : Option (Addr × HO)} (k : g.has rp) : g'.has rp := fun p e => by
  obtain ⟨⟨o, q⟩, l⟩ := k p e
  exact ⟨⟨o, (h _ o q l).1⟩, (h _ o q l).2⟩
def Its (G : Gam) (n0 : Nat) (g : Gh) (F : Hp) (r : List Addr) (J : It) (xs : List PV) : Prop := ∀ g2, GhLe g g2 → ∀ F2 r2 S2 H2, HR G n0 g2 F2 r2 S2 H2 → Ext F F2 r r2 →
  (∀ (i : Nat) x, xs[i]? = some x → J.go i H2 ∧ ∀ v H3, J.yld i H2 v H3 → ∃ F3, Ext F2 F3 r2 r2 ∧ HR G n0 g2 F3 r2 S2 H3 ∧ RV G F3 r2 x v) ∧ (∀ i, xs.length ≤ i → J.stop i H2)
def PoI (G : Gam) (n0 : Nat) (g : Gh) (F : Hp) (r : List Addr) (env : Env) (σ : L2.St) (z : R (List PV × List (Nat × PV))) (T : It → Hp → Prop) : Prop := match z with
  | .ok p S' => ∀ F' r' H' J g', Ext F F' r r' → Sg G n0 g' F' r' env σ S' H' → Its G n0 g' F' r' J p.1 →
      GhPin g g' → (∀ rp, g.has rp → ∀ F2 r2 S2 H2, HR G n0 (g'.rep rp) F2 r2 S2 H2 → Ext F' F2 r' r2 → HR G n0 (g.rep rp) F2 r2 (unlock p.2 S2) H2) → T J H'
  | _ => False
def rdI (G : Gam) (n0 : Nat) (f : SI) : TI := fun σ H T => ∃ F r env S g, Sg G n0 g F r env σ S H ∧ PoI G n0 g F r env σ (f env S) T
theorem psI {X : Cx} {st : Stmt} {t t' : TS} (h : PS X st t) (w : ∀ D σ H, t' D σ H → t D σ H) : PS X st t' := ⟨fun pins s σ H D I q => h.run pins s σ H D I (w D σ H q)⟩
theorem pssI {X : Cx} {st : List Stmt} {t t' : TS} (h : PSs X st t) (w : ∀ D σ H, t' D σ H → t D σ H) : PSs X st t' := ⟨fun pins s σ H D I q => h.run pins s σ H D I (w D σ H q)⟩
theorem piI {X : Cx} {tg e : Expr} {t t' : TI} (h : PI X tg e t) (w : ∀ σ H R, t' σ H R → t σ H R) : PI X tg e t' := ⟨fun pins s σ H R I q => h.run pins s σ H R I (w σ H R q)⟩
/-! a target -/
def TgOk (G : Gam) (t : Tg) (gg : TG) : Prop := ∀ n0 g F r env σ S H v u env' (Q : L2.St → Hp → Prop), Sg G n0 g F r env σ S H → RV G F r v u → t v env S = some env' → (∀ σ', Sg G n0 g F r env' σ' S H → Q σ' H) → gg u σ H Q

section
variable {X : Cx} {G : Gam} {n0 : Nat} {g : Gh} {F F1 : Hp} {r r1 : List Addr} {env : Env} {σ : L2.St} {S S1 : Store} {H H1 : Hp} {D : Ends}
theorem PoS.ext {z : RS} (h : PoS G n0 g F r z D) (x : Ext F F1 r r1) : PoS G n0 g F1 r1 z D := by
  cases z with
  | nx e S' => exact fun F' r' H' σ' e s => h F' r' H' σ' (x.trans e) s
  | bk e S' => exact fun F' r' H' σ' e s => h F' r' H' σ' (x.trans e) s
  | ct e S' => exact fun F' r' H' σ' e s => h F' r' H' σ' (x.trans e) s
  | rt v S' => exact fun F' r' H' u e s => h F' r' H' u (x.trans e) s
  | ex => exact h
  | no => exact h
theorem goS {f : SS} (s : Sg G n0 g F1 r1 env σ S1 H1) (x : Ext F F1 r r1) (h : PoS G n0 g F r (f env S1) D) : rdS G n0 f D σ H1 := ⟨F1, r1, env, S1, g, s, h.ext x⟩
/-! a part of a statement -/
theorem sgV {f : SE} {T : V → Hp → Prop} {kk : Bool × PV → Store → RS} (s : Sg G n0 g F r env σ S H) (h : PoS G n0 g F r ((f env S).go kk) D)
    (step : ∀ p S' F' r' H' u, Ext F F' r r' → Sg G n0 g F' r' env σ S' H' → RV G F' r' p.2 u → PoS G n0 g F r (kk p S') D → T u H') : rdV G n0 f σ H T := by
  refine ⟨F, r, env, S, g, s, ?_⟩
  cases e : f env S with
  | ok p S' => rw [e] at h; exact fun F' r' H' u ex s' q => step p S' F' r' H' u ex s' q h
  | ex c p S' => rw [e] at h; exact False.elim h
  | no => rw [e] at h; exact False.elim h
theorem sgT {f : ST} {T : Bool → Hp → Prop} {kk : Bool → Store → RS} (s : Sg G n0 g F r env σ S H) (h : PoS G n0 g F r ((f env S).go kk) D)
    (step : ∀ p S' F' r' H', Ext F F' r r' → Sg G n0 g F' r' env σ S' H' → PoS G n0 g F r (kk p S') D → T p H') : rdT G n0 f σ H T := by
  refine ⟨F, r, env, S, g, s, ?_⟩
  cases e : f env S with
  | ok p S' => rw [e] at h; exact fun F' r' H' ex s' => step p S' F' r' H' ex s' h
  | ex c p S' => rw [e] at h; exact False.elim h
  | no => rw [e] at h; exact False.elim h
theorem sgA {f : SA} {T : List V → Hp → Prop} {kk : List PV → Store → RS} (s : Sg G n0 g F r env σ S H) (h : PoS G n0 g F r ((f env S).go kk) D)
    (step : ∀ p S' F' r' H' us, Ext F F' r r' → Sg G n0 g F' r' env σ S' H' → RVs G F' r' p us → PoS G n0 g F r (kk p S') D → T us H') : rdA G n0 f σ H T := by
  refine ⟨F, r, env, S, g, s, ?_⟩
  cases e : f env S with
  | ok p S' => rw [e] at h; exact fun F' r' H' us ex s' q => step p S' F' r' H' us ex s' q h
  | ex c p S' => rw [e] at h; exact False.elim h
  | no => rw [e] at h; exact False.elim h

variable {st : Stmt} {rest : List Stmt} {fa fb : SS} {e : Expr} {fe : SE} {pos : Pos}
theorem ss_nil : PSs X [] (rdS G n0 sNil) := pssI pss_nil fun D σ H ⟨F, r, env, S, g, s, h⟩ => h F r H σ (.refl F r) s
theorem ss_cons (h1 : PS X st (rdS G n0 fa)) (h2 : PSs X rest (rdS G n0 fb)) : PSs X (st :: rest) (rdS G n0 (sCons fa fb)) := by
  refine pssI (pss_cons h1 h2) fun D σ H ⟨F, r, env, S, g, s, h⟩ => ?_
  refine ⟨F, r, env, S, g, s, ?_⟩
  have h : PoS G n0 g F r ((fa env S).then fb) D := h
  cases e : fa env S with
  | nx env' S' => rw [e] at h; exact fun F' r' H' σ' x s' => goS s' x h
  | bk => rw [e] at h; exact h
  | ct => rw [e] at h; exact h
  | rt => rw [e] at h; exact h
  | ex => rw [e] at h; exact h
  | no => rw [e] at h; exact h
theorem ss_one (h1 : PS X st (rdS G n0 fa)) : PSs X [st] (rdS G n0 fa) := pss_one h1
theorem ss_expr (he : PE X e (rdE G n0 fe)) (hs : swapsWith e none pos.line X.env = pure false := by rfl) : PS X (.Expr e pos) (rdS G n0 (sExp fe)) := by
  refine psI (ps_expr (toV he) hs) fun D σ H ⟨F, r, env, S, g, s, h⟩ => ?_
  exact sgV s h fun p S1 F1 r1 H1 u x1 s1 q1 h1 => h1 F1 r1 H1 σ x1 s1
theorem ss_ret (he : PE X e (rdE G n0 fe)) : PS X (.Return (some e) pos) (rdS G n0 (sRet fe)) := by
  refine psI (ps_ret (toV he)) fun D σ H ⟨F, r, env, S, g, s, h⟩ => ?_
  exact sgV s h fun p S1 F1 r1 H1 u x1 s1 q1 h1 => h1 F1 r1 H1 u x1 s1.hr q1
theorem ss_retN : PS X (.Return none pos) (rdS G n0 sRetN) := psI ps_retN fun D σ H ⟨F, r, env, S, g, s, h⟩ => h F r H .non (.refl F r) s.hr rfl
theorem ss_pass : PS X (.Pass pos) (rdS G n0 sNil) := psI ps_pass fun D σ H ⟨F, r, env, S, g, s, h⟩ => h F r H σ (.refl F r) s
theorem ss_brk : PS X (.Break pos) (rdS G n0 sBrk) := psI ps_break fun D σ H ⟨F, r, env, S, g, s, h⟩ => h F r H σ (.refl F r) s
theorem ss_cnt : PS X (.Continue pos) (rdS G n0 sCnt) := psI ps_continue fun D σ H ⟨F, r, env, S, g, s, h⟩ => h F r H σ (.refl F r) s
theorem ss_no : PS X st (rdS G n0 sNo) := psI ps_never fun D σ H ⟨F, r, env, S, g, s, h⟩ => h
theorem ss_if {c : Expr} {a b : List Stmt} {tc : ST} (hc : PT X c (rdT G n0 tc)) (ha : PSs X a (rdS G n0 fa)) (hb : PSs X b (rdS G n0 fb)) : PS X (.If c a b pos) (rdS G n0 (sIf tc fa fb)) := by
  refine psI (ps_if hc ha hb) fun D σ H ⟨F, r, env, S, g, s, h⟩ => ?_
  refine sgT s h fun p S1 F1 r1 H1 x1 s1 h1 => ?_
  cases p with
  | true => exact goS s1 x1 h1
  | false => exact goS s1 x1 h1
/-! targets -/
theorem Sg.set {i : Nat} {v : PV} {u : V} (s : Sg G n0 g F r env σ S H) (q : RV G F r v u) : Sg G n0 g F r (env.set i (some v)) (σ.set i (some u)) S H := by
  refine ⟨s.hr, by rw [List.length_set, List.length_set, s.sl], fun j w e => ?_⟩
  by_cases hj : i = j
  · subst hj
    have hi : i < env.length := by
      have := (List.getElem?_eq_some_iff.mp e).1
      rwa [List.length_set] at this
    rw [List.getElem?_set_self hi] at e
    cases e
    exact ⟨u, by rw [List.getElem?_set_self (by rw [← s.sl]; exact hi)], q⟩
  · rw [List.getElem?_set_ne hj] at e
    obtain ⟨u', h1, h2⟩ := s.vr j w e
    exact ⟨u', by rw [List.getElem?_set_ne hj]; exact h1, h2⟩
theorem tg_nm (i : Nat) : TgOk G (gNm i) (gName i) := fun n0 g F r env σ S H v u env' Q s q e h => by
  cases e
  exact h _ (s.set q)
/-! several targets -/
def TgsOk (G : Gam) (ts : List Tg) (gs : TGs) : Prop := ∀ n0 g F r env σ S H vs us env' (Q : L2.St → Hp → Prop), Sg G n0 g F r env σ S H → RVs G F r vs us → gTps ts vs env S = some env' → (∀ σ', Sg G n0 g F r env' σ' S H → Q σ' H) → gs us σ H Q
theorem tgs_nil : TgsOk G [] gNil := fun n0 g F r env σ S H vs us env' Q s q e h => by
  cases vs with
  | nil =>
    cases e
    exact ⟨q, h σ s⟩
  | cons v vs => cases e
theorem tgs_cons {t : Tg} {ts : List Tg} {gg : TG} {gs : TGs} (h1 : TgOk G t gg) (h2 : TgsOk G ts gs) : TgsOk G (t :: ts) (gCons gg gs) := fun n0 g F r env σ S H vs us env' Q s q e h => by
  cases vs with
  | nil => cases e
  | cons v vs =>
    obtain ⟨u, ur, rfl, q1, q2⟩ := q
    have e : (match t v env S with
      | some env' => gTps ts vs env' S
      | none => none) = some env' := e
    cases e1 : t v env S with
    | none => rw [e1] at e; cases e
    | some env1 =>
      rw [e1] at e
      exact ⟨u, ur, rfl, h1 n0 g F r env σ S H v u env1 _ s q1 e1 fun σ' s' => h2 n0 g F r env1 σ' S H vs ur env' Q s' q2 e h⟩
theorem gTps_len {ts : List Tg} : ∀ {vs : List PV} {env env' : Env}, gTps ts vs env S = some env' → vs.length = ts.length := by
  induction ts with
  | nil =>
    intro vs env env' e
    cases vs with
    | nil => rfl
    | cons => cases e
  | cons t ts ih =>
    intro vs env env' e
    cases vs with
    | nil => cases e
    | cons v vs =>
      have e : (match t v env S with
        | some env' => gTps ts vs env' S
        | none => none) = some env' := e
      cases e1 : t v env S with
      | none => rw [e1] at e; cases e
      | some env1 =>
        rw [e1] at e
        rw [List.length_cons, List.length_cons, ih e]
theorem tg_tp {ts : List Tg} {gs : TGs} {n : Nat} (h : TgsOk G ts gs) (hn : ts.length = n) : TgOk G (gTp ts) (gTup G.K n gs) := fun n0 g F r env σ S H v u env' Q s q e k => by
  unfold gTp at e
  split at e
  · rename_i xs e'
    obtain ⟨a, us, rfl, h1, h2⟩ := view_tup s.hr q e'
    exact ⟨a, us, rfl, h1, by rw [← RVs.length h2, gTps_len e, hn], h n0 g F r env σ S H xs us env' Q s h2 e k⟩
  · cases e
theorem ss_asg {gg : TG} {t : Tg} (hp : PS X st (tAsg (rdV G n0 fe) gg)) (ht : TgOk G t gg) : PS X st (rdS G n0 (sAsg t fe)) := by
  refine psI hp fun D σ H ⟨F, r, env, S, g, s, h⟩ => ?_
  refine sgV s h fun p S1 F1 r1 H1 u x1 s1 q1 h1 => ?_
  cases e : t p.2 env S1 with
  | none => rw [e] at h1; exact False.elim h1
  | some env' =>
    rw [e] at h1
    exact ht n0 g F1 r1 env σ S1 H1 p.2 u env' D.nx s1 q1 e fun σ' s' => h1 F1 r1 H1 σ' x1 s'
theorem ss_par {i j : Nat} {ft : SA} (hp : PS X st (tPar i j (rdA G n0 ft))) : PS X st (rdS G n0 (sPar [i, j] ft)) := by
  refine psI hp fun D σ H ⟨F, r, env, S, g, s, h⟩ => ?_
  refine sgA s h fun p S1 F1 r1 H1 us x1 s1 q1 h1 => ?_
  match p, q1, h1 with
  | [], _, h1 => exact False.elim h1
  | [a], _, h1 => exact False.elim h1
  | a :: b :: c :: d, _, h1 => exact False.elim h1
  | [a, b], q1, h1 =>
    obtain ⟨u, ur, rfl, k1, q2⟩ := q1
    obtain ⟨v, vr, rfl, k2, q3⟩ := q2
    have e : vr = [] := q3
    subst e
    exact ⟨u, v, rfl, h1 F1 r1 H1 _ x1 ((s1.set k1).set k2)⟩
theorem ss_par3 {i j l : Nat} {ft : SA} (hp : PS X st (tPar3 i j l (rdA G n0 ft))) : PS X st (rdS G n0 (sPar [i, j, l] ft)) := by
  refine psI hp fun D σ H ⟨F, r, env, S, g, s, h⟩ => ?_
  refine sgA s h fun p S1 F1 r1 H1 us x1 s1 q1 h1 => ?_
  match p, q1, h1 with
  | [], _, h1 => exact False.elim h1
  | [a], _, h1 => exact False.elim h1
  | [a, b], _, h1 => exact False.elim h1
  | a :: b :: c :: d :: e, _, h1 => exact False.elim h1
  | [a, b, c], q1, h1 =>
    obtain ⟨u, ur, rfl, k1, q2⟩ := q1
    obtain ⟨v, vr, rfl, k2, q3⟩ := q2
    obtain ⟨w, wr, rfl, k3, q4⟩ := q3
    have e : wr = [] := q4
    subst e
    exact ⟨u, v, w, rfl, h1 F1 r1 H1 _ x1 (((s1.set k1).set k2).set k3)⟩
theorem ss_aug {i : Nat} {o : Op2} {t : TIp} (hp : PS X st (tAug i (rdV G n0 fe) t)) (ho : Ok2 G o t) : PS X st (rdS G n0 (sAug i o fe)) := by
  refine psI hp fun D σ H ⟨F, r, env, S, g, s, h⟩ => ?_
  unfold sAug at h
  split at h
  · rename_i x ex
    obtain ⟨u, e1, q⟩ := s.vr i x ex
    refine ⟨u, e1, sgV s h fun p S1 F1 r1 H1 w x1 s1 q1 h1 => ?_⟩
    cases eo : o x p.2 S1 with
    | none => rw [eo] at h1; exact False.elim h1
    | some z =>
      rw [eo] at h1
      refine ho n0 g F1 r1 S1 H1 x p.2 u w z _ s1.hr (q.ext x1) q1 eo fun F2 r2 H2 y x2 hr2 rf => ?_
      obtain ⟨F3, x3, hr3, q3⟩ := freeze hr2 rf
      exact h1 F3 r2 H2 _ ((x1.trans x2).trans x3) ((s1.ext (x2.trans x3) hr3).set q3)
  · exact False.elim h
/-! loops -/
theorem unl_nx {ls : List (Nat × PV)} {z : RS} {e : Env} {S' : Store} (h : z = .nx e S') : z.unl ls = .nx e (unlock ls S') := by rw [h]; rfl
theorem ss_for {fi : SI} {t : Tg} {gg : TG} (hf : PS X st (tFor (rdI G n0 fi) gg (rdS G n0 fb))) (ht : TgOk G t gg) : PS X st (rdS G n0 (sFor fi t fb)) := by
  refine psI hf fun D σ H ⟨F, r, env, S, g, s, h⟩ => ?_
  refine ⟨F, r, env, S, g, s, ?_⟩
  have h : PoS G n0 g F r ((fi env S).go fun p S1 => (forR t fb p.1 env S1).unl p.2) D := h
  cases ei : fi env S with
  | no => rw [ei] at h; exact False.elim h
  | ex => rw [ei] at h; exact False.elim h
  | ok p S1 =>
    rw [ei] at h
    obtain ⟨xs, ls⟩ := p
    have h : PoS G n0 g F r ((forR t fb xs env S1).unl ls) D := h
    intro F1 r1 H1 J g' x1 s1 its _ ul
    have ul : ∀ F2 r2 S2 H2, HR G n0 g' F2 r2 S2 H2 → Ext F1 F2 r1 r2 → HR G n0 g F2 r2 (unlock ls S2) H2 := ul none (fun p e => nomatch e)
    have its : Its G n0 g' F1 r1 J xs := its
    refine ⟨fun i m σ' H' => m = xs.length - i ∧ i ≤ xs.length ∧ ∃ F2 r2 env2 S2, Ext F1 F2 r1 r2 ∧ Sg G n0 g' F2 r2 env2 σ' S2 H' ∧ PoS G n0 g F r ((forR t fb (xs.drop i) env2 S2).unl ls) D,
      ⟨xs.length, rfl, Nat.zero_le _, F1, r1, env, S1, .refl _ _, s1, h⟩, ?_⟩
    rintro i m σ2 H2 ⟨rfl, hi, F2, r2, env2, S2, x2, s2, h2⟩
    obtain ⟨ig, ie⟩ := its g' (.refl g') F2 r2 S2 H2 s2.hr x2
    by_cases hlt : i < xs.length
    · have hx : xs[i]? = some xs[i] := List.getElem?_eq_getElem hlt
      have hd : xs.drop i = xs[i] :: xs.drop (i + 1) := List.drop_eq_getElem_cons hlt
      rw [hd] at h2
      obtain ⟨go, yl⟩ := ig i xs[i] hx
      refine .inr ⟨go, fun σ' H' => (xs.length - (i + 1)) < xs.length - i ∧ ∃ F2 r2 env2 S2, Ext F1 F2 r1 r2 ∧ Sg G n0 g' F2 r2 env2 σ' S2 H' ∧ PoS G n0 g F r ((forR t fb (xs.drop (i + 1)) env2 S2).unl ls) D,
        fun σ' H' ⟨q0, q⟩ => ⟨_, q0, rfl, hlt, q⟩, fun v H3 hy => ?_⟩
      obtain ⟨F3, x3, hr3, q3⟩ := yl v H3 hy
      have h3 : PoS G n0 g F r ((match t xs[i] env2 S2 with
        | none => RS.no
        | some env' => match fb env' S2 with
          | .nx e S' => forR t fb (xs.drop (i + 1)) e S'
          | .ct e S' => forR t fb (xs.drop (i + 1)) e S'
          | .bk e S' => .nx e S'
          | z => z).unl ls) D := h2
      cases et : t xs[i] env2 S2 with
      | none => rw [et] at h3; exact False.elim h3
      | some env3 =>
        simp only [et] at h3
        refine ht n0 g' F3 r2 env2 σ2 S2 H3 xs[i] v env3 _ (s2.ext x3 hr3) q3 et fun σ3 s3 => ?_
        refine ⟨F3, r2, env3, S2, g', s3, ?_⟩
        have xx : Ext F1 F3 r1 r2 := x2.trans x3
        cases eb : fb env3 S2 with
        | nx e S' =>
          rw [eb] at h3
          exact fun F4 r4 H4 σ4 x4 s4 => ⟨by omega, F4, r4, e, S', xx.trans x4, s4, h3⟩
        | ct e S' =>
          rw [eb] at h3
          exact fun F4 r4 H4 σ4 x4 s4 => ⟨by omega, F4, r4, e, S', xx.trans x4, s4, h3⟩
        | bk e S' =>
          rw [eb] at h3
          exact fun F4 r4 H4 σ4 x4 s4 => h3 F4 r4 H4 σ4 ((x1.trans xx).trans x4) ⟨ul F4 r4 S' H4 s4.hr (xx.trans x4), s4.sl, s4.vr⟩
        | rt w S' =>
          rw [eb] at h3
          exact fun F4 r4 H4 u4 x4 s4 q4 => h3 F4 r4 H4 u4 ((x1.trans xx).trans x4) (ul F4 r4 S' H4 s4 (xx.trans x4)) q4
        | ex => rw [eb] at h3; exact False.elim h3
        | no => rw [eb] at h3; exact False.elim h3
    · have e : i = xs.length := by omega
      subst e
      rw [List.drop_length] at h2
      exact .inl ⟨ie _ (Nat.le_refl _), h2 F2 r2 H2 σ2 (x1.trans x2) ⟨ul F2 r2 S2 H2 s2.hr x2, s2.sl, s2.vr⟩⟩
theorem ss_whl {n : Nat} {tc : ST} (hf : PS X st (tWhile (rdT G n0 tc) (rdS G n0 fb))) : PS X st (rdS G n0 (sWhl n tc fb)) := by
  refine psI hf fun D σ H ⟨F, r, env, S, g, s, h⟩ => ?_
  refine ⟨fun m σ' H' => ∃ F2 r2 env2 S2, Ext F F2 r r2 ∧ Sg G n0 g F2 r2 env2 σ' S2 H' ∧ PoS G n0 g F r (whileR tc fb m env2 S2) D, ⟨n, F, r, env, S, .refl _ _, s, h⟩, ?_⟩
  rintro m σ2 H2 ⟨F2, r2, env2, S2, x2, s2, h2⟩
  cases m with
  | zero => exact False.elim h2
  | succ m =>
    have h2 : PoS G n0 g F r ((tc env2 S2).go fun t S1 => if t = true then
      match fb env2 S1 with
      | .nx e S' => whileR tc fb m e S'
      | .ct e S' => whileR tc fb m e S'
      | .bk e S' => .nx e S'
      | z => z
      else .nx env2 S1) D := h2
    refine ⟨F2, r2, env2, S2, g, s2, ?_⟩
    cases ec : tc env2 S2 with
    | no => rw [ec] at h2; exact False.elim h2
    | ex => rw [ec] at h2; exact False.elim h2
    | ok b S3 =>
      rw [ec] at h2
      intro F3 r3 H3 x3 s3
      cases b with
      | false => exact h2 F3 r3 H3 σ2 (x2.trans x3) s3
      | true =>
        rw [if_pos rfl]
        refine ⟨fun σ' H' => ∃ F2 r2 env2 S2, Ext F F2 r r2 ∧ Sg G n0 g F2 r2 env2 σ' S2 H' ∧ PoS G n0 g F r (whileR tc fb m env2 S2) D, fun σ' H' q => ⟨m, Nat.lt_succ_self m, q⟩, F3, r3, env2, S3, g, s3, ?_⟩
        have h3 : PoS G n0 g F r (match fb env2 S3 with
          | .nx e S' => whileR tc fb m e S'
          | .ct e S' => whileR tc fb m e S'
          | .bk e S' => .nx e S'
          | z => z) D := h2
        have xx : Ext F F3 r r3 := x2.trans x3
        cases eb : fb env2 S3 with
        | nx e S' => rw [eb] at h3; exact fun F4 r4 H4 σ4 x4 s4 => ⟨F4, r4, e, S', xx.trans x4, s4, h3⟩
        | ct e S' => rw [eb] at h3; exact fun F4 r4 H4 σ4 x4 s4 => ⟨F4, r4, e, S', xx.trans x4, s4, h3⟩
        | bk e S' => rw [eb] at h3; exact fun F4 r4 H4 σ4 x4 s4 => h3 F4 r4 H4 σ4 (xx.trans x4) s4
        | rt w S' => rw [eb] at h3; exact fun F4 r4 H4 u4 x4 s4 q4 => h3 F4 r4 H4 u4 (xx.trans x4) s4 q4
        | ex => rw [eb] at h3; exact False.elim h3
        | no => rw [eb] at h3; exact False.elim h3
end
end PX
set_option Elab.async false
set_option linter.all false
set_option maxRecDepth 100000
namespace PX
open PySem PySem.Spec PyProof.Rows L2

section
variable {G : Gam} {n0 : Nat} {g : Gh} {F : Hp} {r : List Addr} {S : Store} {H : Hp}
theorem rv_of_ro {a : Addr} {ho : HO} {v : PV} (hF : F a = some ho) (ro : RO G F r v ho) (hu : unl v = v) : RV G F r v (.ref a) := by
  unfold RO at ro
  rw [hu] at ro
  split at ro
  · obtain ⟨us, rfl, k⟩ := ro
    exact ⟨a, us, rfl, .inl hF, k⟩
  · obtain ⟨us, d, k⟩ := ro
    exact ⟨a, us, ho, rfl, hF, d, k⟩
  · obtain ⟨dx, us, rfl, l, k⟩ := ro
    exact ⟨a, dx, us, rfl, hF, l, k⟩
  · exact ro.elim
/-! the young objects are frozen, but the one at t -/
def frF (n0 t : Nat) (g : Gh) (F : Hp) (r : List Addr) (H : Hp) : Hp := fun a => open Classical in if a ∈ r.drop n0 ∧ g.pn a = none ∧ r[t]? ≠ some a then H a else F a
theorem frF_le (h : HR G n0 g F r S H) (t : Nat) : Le F (frF n0 t g F r H) := fun a o e => by
  unfold frF
  rw [if_neg (fun z => by rw [h.off a (List.mem_of_mem_drop z.1)] at e; cases e)]
  exact e
theorem frF_sub (h : HR G n0 g F r S H) (t : Nat) : LeD (frF n0 t g F r H) H := fun a o e => by
  unfold frF at e
  split at e
  · exact .inl e
  · exact h.sub a o e
theorem take_at (h : HR G n0 g F r S H) {i : Nat} {a : Addr} (hi : i < n0) (e : r[i]? = some a) : (r.take n0)[i]? = some a := by
  rw [List.getElem?_take, if_pos hi]
  exact e
theorem frF_at (h : HR G n0 g F r S H) {t i : Nat} {a : Addr} {ob : PV} (hi : ¬ i < n0) (ht : i ≠ t) (e : r[i]? = some a) (eo : S[i]? = some ob) (hu : unl ob = ob) : frF n0 t g F r H a = H a := by
  unfold frF
  refine if_pos ⟨?_, h.nopin e eo hu, fun e2 => ?_⟩
  · have : (r.drop n0)[i - n0]? = some a := by
      rw [List.getElem?_drop]
      rw [show n0 + (i - n0) = i by omega]
      exact e
    exact List.mem_of_getElem? this
  · obtain ⟨h1, e1⟩ := List.getElem?_eq_some_iff.mp e
    obtain ⟨h2, e2⟩ := List.getElem?_eq_some_iff.mp e2
    exact ht ((List.getElem_inj h.nd).mp (e1.trans e2.symm))
section
variable {t : Nat} (h : HR G n0 g F r S H)
include h
theorem frzL_ok {f : PV → Option PV} (hf : ∀ v u w, RV G F r v u → f v = some w → RV G (frF n0 t g F r H) (r.take n0) w u) : ∀ {vs : List PV} {us : List V} {ws : List PV}, RVs G F r vs us → frzL f vs = some ws → RVs G (frF n0 t g F r H) (r.take n0) ws us
  | [], us, ws, q, e => by cases e; exact q
  | v :: vs, us, ws, q, e => by
    obtain ⟨u, ur, rfl, k, l⟩ := q
    unfold frzL at e
    cases e1 : f v with
    | none => rw [e1] at e; cases e
    | some w =>
      simp only [e1] at e
      cases e2 : frzL f vs with
      | none => rw [e2] at e; cases e
      | some ws' =>
        rw [e2] at e
        cases e
        exact ⟨u, ur, rfl, hf v u w k e1, frzL_ok hf l e2⟩
theorem frzO_ok {f : PV → Option PV} (hf : ∀ v u w, RV G F r v u → f v = some w → RV G (frF n0 t g F r H) (r.take n0) w u) {o w : PV} {ho : HO} (q : RO G F r o ho) (e : frzO f o = some w) : RO G (frF n0 t g F r H) (r.take n0) w ho ∧ unl w = w ∧ unl o = o := by
  unfold frzO at e
  split at e
  · cases e1 : frzL f ‹_› with
    | none => rw [e1] at e; cases e
    | some ws =>
      rw [e1] at e
      cases e
      obtain ⟨us, rfl, k⟩ := q
      exact ⟨⟨us, rfl, frzL_ok h hf k e1⟩, rfl, rfl⟩
  · cases e1 : frzL f ‹List PV› with
    | none => rw [e1] at e; cases e
    | some ws =>
      rw [e1] at e
      cases e
      obtain ⟨us, d, k⟩ := q
      exact ⟨⟨us, d, frzL_ok h hf k e1⟩, rfl, rfl⟩
  · cases e1 : frzL f ‹List PV› with
    | none => rw [e1] at e; cases e
    | some ws =>
      rw [e1] at e
      cases e
      obtain ⟨dx, us, rfl, l, k⟩ := q
      exact ⟨⟨dx, us, rfl, l, frzL_ok h hf k e1⟩, rfl, rfl⟩
  · cases e
theorem frz_ok : ∀ (k : Nat) (v : PV) (u : V) (w : PV), RV G F r v u → frz n0 t S k v = some w → RV G (frF n0 t g F r H) (r.take n0) w u
  | 0, _, _, _, _, e => by cases e
  | k + 1, v, u, w, q, e => by
    have ih := frz_ok k
    have le := frF_le h t
    cases v with
    | non => cases e; exact q
    | bl => cases e; exact q
    | int => cases e; exact q
    | str => cases e; exact q
    | lck => cases e
    | ref i =>
      have e : (if i < n0 then some (.ref i) else if i = t then none else match S[i]? with
        | some o => frzO (frz n0 t S k) o
        | none => none) = some w := e
      split at e
      · rename_i hi
        cases e
        obtain ⟨a, e1, rfl⟩ := q
        exact ⟨a, take_at h hi e1, rfl⟩
      · rename_i hi
        split at e
        · cases e
        · rename_i ht
          cases eo : S[i]? with
          | none => rw [eo] at e; cases e
          | some o =>
            simp only [eo] at e
            obtain ⟨a, ho, rfl, e1, e2, e3⟩ := h.ref q eo
            obtain ⟨z1, z2, z3⟩ := frzO_ok h ih e3 e
            exact rv_of_ro (by rw [frF_at h hi ht e1 eo z3]; exact e2.un z3) z1 z2
    | tup xs =>
      have e : (frzL (frz n0 t S k) xs).map .tup = some w := e
      cases e1 : frzL (frz n0 t S k) xs with
      | none => rw [e1] at e; cases e
      | some ws =>
        rw [e1] at e; cases e
        obtain ⟨a, us, rfl, k1, k2⟩ := q
        exact ⟨a, us, rfl, le _ _ k1, frzL_ok h ih k2 e1⟩
    | lst xs =>
      have e : (frzL (frz n0 t S k) xs).map .lst = some w := e
      cases e1 : frzL (frz n0 t S k) xs with
      | none => rw [e1] at e; cases e
      | some ws =>
        rw [e1] at e; cases e
        obtain ⟨a, us, rfl, k1, k2⟩ := q
        exact ⟨a, us, rfl, le.rd k1, frzL_ok h ih k2 e1⟩
    | dct ks vs =>
      have e : (frzL (frz n0 t S k) vs).map (.dct ks) = some w := e
      cases e1 : frzL (frz n0 t S k) vs with
      | none => rw [e1] at e; cases e
      | some ws =>
        rw [e1] at e; cases e
        obtain ⟨a, us, ho, rfl, k1, d, k2⟩ := q
        exact ⟨a, us, ho, rfl, le _ _ k1, d, frzL_ok h ih k2 e1⟩
    | ins c ns vs =>
      have e : (frzL (frz n0 t S k) vs).map (.ins c ns) = some w := e
      cases e1 : frzL (frz n0 t S k) vs with
      | none => rw [e1] at e; cases e
      | some ws =>
        rw [e1] at e; cases e
        obtain ⟨a, dx, us, rfl, k1, d, k2⟩ := q
        exact ⟨a, dx, us, rfl, le _ _ k1, d, frzL_ok h ih k2 e1⟩
/-! what stays -/
theorem frz_hr (t : Nat) : HR G n0 g (frF n0 t g F r H) (r.take n0) (S.take n0) H := by
  have hnd : r.Nodup := h.nd
  have apart : ∀ a, a ∈ r.take n0 → a ∈ r.drop n0 → False := fun a h1 h2 => by
    have e : r = r.take n0 ++ r.drop n0 := (List.take_append_drop n0 r).symm
    rw [e] at hnd
    exact (List.nodup_append.mp hnd).2.2 a h1 a h2 rfl
  refine ⟨frF_sub h t, (List.take_sublist n0 r).nodup hnd, fun a ha => ?_, by rw [List.length_take, List.length_take, h.len], by rw [List.length_take]; have := h.nle; omega, h.lle, fun i ob a e1 e2 => ?_, fun a o e => ?_, fun i ob a e1 e2 => ?_, fun a o e el ha => h.out a o e el (List.mem_of_mem_take ha)⟩
  · unfold frF
    rw [if_neg (fun z => apart a ha z.1)]
    exact h.off a (List.mem_of_mem_take ha)
  · rw [List.getElem?_take] at e1 e2
    split at e1
    · rename_i hi
      rw [if_pos hi] at e2
      obtain ⟨ho, q1, q2⟩ := h.obj i ob a e1 e2
      refine ⟨ho, q1, RO.mono (frF_le h t) (fun j b e => ?_) q2⟩
      unfold lim at e ⊢
      rw [if_pos hi] at e ⊢
      have hl := h.lle i hi
      rw [List.getElem?_take] at e ⊢
      split at e
      · rename_i hj
        rw [if_pos hj, List.getElem?_take, if_pos (by omega)]
        exact e
      · cases e
    · cases e1
  · obtain ⟨q1, q2, q3⟩ := h.pin a o e
    refine ⟨q1, ?_, fun i hi => ?_⟩
    · unfold frF
      rw [if_neg (fun z => by rw [z.2.1] at e; cases e)]
      exact q2
    · rw [List.getElem?_take] at hi
      split at hi
      · rename_i hi'
        obtain ⟨ob, hb⟩ := q3 i hi
        exact ⟨ob, by rw [List.getElem?_take, if_pos hi']; exact hb⟩
      · cases hi
  · rw [List.getElem?_take] at e1 e2
    split at e1
    · rename_i hi
      rw [if_pos hi] at e2
      exact h.lckd i ob a e1 e2
    · cases e1
end
/-! behind a call -/
theorem norm_ok {v v' : PV} {u : V} {b : Bool} {S' : Store} (h : HR G n0 g F r S H) (q : RV G F r v u) (e : norm n0 v S = .ok (b, v') S') :
    ∃ F', Le F F' ∧ HR G n0 g F' (r.take n0) S' H ∧ RF G g F' (r.take n0) H b v' u := by
  have hl := h.nle
  unfold norm at e
  split at e
  · rename_i hs
    cases e
    have e2 : r.take n0 = r := List.take_of_length_le (by rw [h.len, hs]; exact Nat.le_refl _)
    rw [e2]
    exact ⟨F, .refl F, h, q⟩
  · have any : ∀ w, frz n0 S.length S 8 v = some w → ∃ F', Le F F' ∧ HR G n0 g F' (r.take n0) (S.take n0) H ∧ RF G g F' (r.take n0) H false w u := fun w e =>
      ⟨_, frF_le h S.length, frz_hr h S.length, frz_ok h 8 v u w q e⟩
    split at e
    · rename_i i
      split at e
      · rename_i hi
        cases e
        obtain ⟨a, e1, rfl⟩ := q
        exact ⟨_, frF_le h i, frz_hr h i, ⟨a, take_at h hi e1, rfl⟩⟩
      · rename_i hi
        cases eo : S[i]? with
        | none => simp only [eo] at e; cases e
        | some o =>
          simp only [eo] at e
          cases ew : frzO (frz n0 i S 8) o with
          | none => simp only [ew] at e; cases e
          | some w =>
            simp only [ew] at e
            cases e
            obtain ⟨a, ho, rfl, e1, e2, e3⟩ := h.ref q eo
            obtain ⟨z1, z2, z3⟩ := frzO_ok h (frz_ok h 8) e3 ew
            refine ⟨_, frF_le h i, frz_hr h i, ⟨a, ho, rfl, e2.un z3, ?_, fun hm => ?_, h.nopin e1 eo z3, z1, z2⟩⟩
            · unfold frF
              rw [if_neg (fun z => z.2.2 e1)]
              exact h.off a (List.mem_of_getElem? e1)
            · obtain ⟨j, hj, ej⟩ := List.getElem_of_mem hm
              have hj2 : j < n0 := by rw [List.length_take] at hj; omega
              rw [List.getElem_take] at ej
              obtain ⟨h2, e2⟩ := List.getElem?_eq_some_iff.mp e1
              have := (List.getElem_inj h.nd).mp (ej.trans e2.symm)
              omega
    · cases ew : frz n0 S.length S 8 v with
      | none => rw [ew] at e; cases e
      | some w =>
        rw [ew] at e
        cases e
        exact any _ ew

/-! ### what a def promises -/
def spF (G : Gam) (cf : CF) (f np : Nat) : Sp := fun vs H Q _ => ∃ F r S g n0 args, HR G n0 g F r S H ∧ RVs G F r args vs ∧ args.length = np ∧ match cf f args n0 S with
  | .ok v S' => ∀ F' r' H' u, Ext F F' r r' → HR G n0 g F' r' S' H' → RV G F' r' v u → Q u H'
  | _ => False
theorem spF_len {cf : CF} {f np : Nat} : ∀ vs H Q E, spF G cf f np vs H Q E → vs.length = np := fun vs H Q E ⟨F, r, S, g, n0, args, _, q, l, _⟩ => by rw [← RVs.length q, l]
/-! the callee's frame -/
def subG (n0 : Nat) (g : Gh) (n : Nat) : Gh := ⟨fun i => if i < n0 then g.L i else n, g.pn, g.lk⟩
theorem HR.call (h : HR G n0 g F r S H) : HR G S.length (subG n0 g S.length) F r S H := by
  refine ⟨h.sub, h.nd, h.off, h.len, Nat.le_refl _, fun i hi => ?_, fun i ob a e1 e2 => ?_, h.pin, h.lckd, h.out⟩
  · unfold subG
    show (if i < n0 then g.L i else S.length) ≤ S.length
    split
    · rename_i h1
      exact Nat.le_trans (h.lle i h1) h.nle
    · exact Nat.le_refl _
  · obtain ⟨ho, q1, q2⟩ := h.obj i ob a e1 e2
    refine ⟨ho, q1, RO.mono (.refl F) (fun j b e => ?_) q2⟩
    have hi : i < S.length := (List.getElem?_eq_some_iff.mp e1).1
    unfold lim at e ⊢
    rw [if_pos hi]
    unfold subG
    show (r.take (if i < n0 then g.L i else S.length))[j]? = some b
    split at e
    · rename_i h1
      rw [if_pos h1]
      exact e
    · rename_i h1
      rw [if_neg h1, ← h.len, List.take_length]
      exact e
/-! back from the callee: S the caller's store at the call, r its places -/
theorem HR.back {F2 : Hp} {S2 : Store} {H2 : Hp} (h : HR G n0 g F r S H) (k : HR G S.length (subG n0 g S.length) F2 r S2 H2) : HR G n0 g F2 r S2 H2 := by
  refine ⟨k.sub, k.nd, k.off, k.len, Nat.le_trans h.nle k.nle, h.lle, fun i ob a e1 e2 => ?_, k.pin, k.lckd, k.out⟩
  obtain ⟨ho, q1, q2⟩ := k.obj i ob a e1 e2
  refine ⟨ho, q1, RO.mono (.refl F2) (fun j b e => ?_) q2⟩
  have hi : i < S.length := by
    rw [← h.len, k.len]
    exact (List.getElem?_eq_some_iff.mp e1).1
  unfold lim at e ⊢
  rw [if_pos hi] at e
  unfold subG at e
  have e : (r.take (if i < n0 then g.L i else S.length))[j]? = some b := e
  split
  · rename_i h1
    rw [if_pos h1] at e
    exact e
  · rename_i h1
    rw [if_neg h1, ← h.len, List.take_length] at e
    exact e
theorem take_ext {F2 : Hp} {r2 : List Addr} (h : HR G n0 g F r S H) (x : Ext F F2 r r2) : r2.take S.length = r := by
  obtain ⟨t, ht⟩ := x.2
  rw [← ht, ← h.len, List.take_left']
  rfl
end
section
variable {X : Cx} {G : Gam} {n0 : Nat} {a : Expr} {es : List Expr} {fs : SA} {e : Expr} {cf : CF} {np f : Nat}
/-! f(..) -/
theorem run_call {g : Gh} {F0 F : Hp} {r0 r : List Addr} {env : Env} {σ : L2.St} {S : Store} {H : Hp} {Q : VK} {E : XK} {args : List PV} {us : List V} (s : Sg G n0 g F r env σ S H) (x0 : Ext F0 F r0 r) (q : RVs G F r args us) (hl : args.length = np)
    (h : PoE G n0 g F0 r0 env σ ((cutX S.length (cf f args S.length S)).bind fun v S2 => norm S.length v S2) Q) : spF G cf f np us H Q E := by
  refine ⟨F, r, S, subG n0 g S.length, S.length, args, s.hr.call, q, hl, ?_⟩
  cases ec : cf f args S.length S with
  | no => rw [ec] at h; exact h
  | ex => rw [ec] at h; exact h
  | ok v S2 =>
    rw [ec] at h
    intro F2 r2 H2 u x2 h2 q2
    have h : PoE G n0 g F0 r0 env σ (norm S.length v S2) Q := h
    cases en : norm S.length v S2 with
    | no => rw [en] at h; exact h.elim
    | ex => rw [en] at h; exact h.elim
    | ok p S3 =>
      rw [en] at h
      obtain ⟨b, w⟩ := p
      obtain ⟨F3, x3, h3, q3⟩ := norm_ok h2 q2 en
      rw [take_ext s.hr x2] at h3 q3
      have x4 : Ext F F3 r r := ⟨x2.1.trans x3, List.prefix_refl r⟩
      exact h F3 r H2 u (x0.trans x4) (s.ext x4 (s.hr.back h3)) q3
theorem se_call (hp : PE X e (tCall (spF G cf f np) [] E0 (rdA G n0 fs))) : PE X e (rdE G n0 (eCall cf np f fs)) := by
  refine peI hp fun σ H Q ⟨F, r, env, S, g, s, h⟩ => ?_
  refine stA s cnE h fun p S1 F1 r1 H1 us x1 s1 q1 h1 => ?_
  split at h1
  · rename_i hl
    rw [List.append_nil]
    exact run_call s1 x1 q1 hl h1
  · exact h1.elim
/-! a def: its body gives its promise -/
theorem sg_start {g : Gh} {F : Hp} {r : List Addr} {S : Store} {H : Hp} {N : List Str} {nl : Nat} {args : List PV} {vs : List V} (h : HR G n0 g F r S H) (q : RVs G F r args vs) (hl : args.length = np) (hn : nl - np = N.length - np) :
    Sg G n0 g F r (args.map some ++ List.replicate (nl - np) none) (L2.start N vs) S H := by
  have l := RVs.length q
  refine ⟨h, ?_, fun i v e => ?_⟩
  · unfold L2.start
    rw [List.length_append, List.length_append, List.length_map, List.length_map, List.length_replicate, List.length_replicate, ← l, hl, hn]
  · by_cases hi : i < args.length
    · rw [List.getElem?_append_left (by rw [List.length_map]; exact hi), List.getElem?_map] at e
      cases ea : args[i]? with
      | none => rw [ea] at e; cases e
      | some w =>
        rw [ea] at e
        cases e
        obtain ⟨u, e1, q1⟩ := RVs.get q ea
        refine ⟨u, ?_, q1⟩
        unfold L2.start
        rw [List.getElem?_append_left (by rw [List.length_map, ← l]; exact hi), List.getElem?_map, e1]
        rfl
    · rw [List.getElem?_append_right (by rw [List.length_map]; omega), List.getElem?_replicate] at e
      split at e <;> cases e
theorem body_ok {T : Nat → Option FnB} {n : Nat} {b : FnB} {N : List Str} {vs : List V} {H : Hp} {Q : VK} {E : XK} (hT : T f = some b) (hn : b.nl = N.length) (h : spF G (callF T (n + 1)) f b.np vs H Q E) :
    ∃ n0, rdS G n0 (b.body (callF T n) n0) { nx := fun _ H' => Q .non H', rt := Q } (L2.start N vs) H := by
  obtain ⟨F, r, S, g, n0, args, hr, q, l, h⟩ := h
  refine ⟨n0, F, r, _, S, g, sg_start (nl := b.nl) hr q l (by rw [hn]), ?_⟩
  have h : (match (match T f with
    | some b => runB b (callF T n) args n0 S
    | none => R.no) with
    | .ok v S' => ∀ F' r' H' u, Ext F F' r r' → HR G n0 g F' r' S' H' → RV G F' r' v u → Q u H'
    | _ => False) := h
  rw [hT] at h
  simp only [runB] at h
  rw [if_pos l] at h
  cases eb : b.body (callF T n) n0 (args.map some ++ List.replicate (b.nl - b.np) none) S with
  | nx env' S' => rw [eb] at h; exact fun F' r' H' σ' x s' => h F' r' H' .non x s'.hr rfl
  | rt v S' => rw [eb] at h; exact h
  | bk => rw [eb] at h; exact h.elim
  | ct => rw [eb] at h; exact h.elim
  | ex => rw [eb] at h; exact h.elim
  | no => rw [eb] at h; exact h.elim
end
end PX
set_option Elab.async false
set_option linter.all false
set_option maxRecDepth 100000
namespace PX
open PySem
/-! ### data -/
def toDL (f : PV → Option PyData) : List PV → Option (List PyData)
  | [] => some []
  | v :: vs => match f v with
    | some d => match toDL f vs with
      | some ds => some (d :: ds)
      | none => none
    | none => none
def toD (S : Store) : Nat → PV → Option PyData
  | 0, v => match v with
    | .non => some .none
    | .bl b => some (.bool b)
    | .int i => some (.int i)
    | .str x => if PyData.strOk x then some (.str x) else none
    | _ => none
  | k + 1, v => match deref S v with
    | some .non => some .none
    | some (.bl b) => some (.bool b)
    | some (.int i) => some (.int i)
    | some (.str x) => if PyData.strOk x then some (.str x) else none
    | some (.lst xs) => (toDL (toD S k) xs).map .list
    | some (.tup xs) => (toDL (toD S k) xs).map .tuple
    | _ => none
def eqD (S : Store) (v w : PV) : Option Bool := match toD S 6 v with
  | some d => match toD S 6 w with
    | some e => some (PyData.eqv d e)
    | none => none
  | none => none
def oEq : Op2 := fun x y S => (eqD S x y).map fun b => (false, .bl b)
def oNe : Op2 := fun x y S => (eqD S x y).map fun b => (false, .bl (!b))
def oIsN : Op2 := fun x y S => match y with
  | .non => match deref S x with
    | some .non => some (false, .bl true)
    | some _ => some (false, .bl false)
    | none => none
  | _ => none
def oNotN : Op2 := fun x y S => match y with
  | .non => match deref S x with
    | some .non => some (false, .bl false)
    | some _ => some (false, .bl true)
    | none => none
  | _ => none
/-! ### built-in functions by values -/
def intsOf : List PV → Option (List Int)
  | [] => some []
  | .int i :: r => (intsOf r).map (i :: ·)
  | _ :: _ => none
def blsOf : List PV → Option (List Bool)
  | [] => some []
  | .bl i :: r => (blsOf r).map (i :: ·)
  | _ :: _ => none
def bLen : OpN := fun xs S => match xs with
  | [v] => match deref S v with
    | some (.lst xs) => some (false, .int xs.length)
    | some (.tup xs) => some (false, .int xs.length)
    | _ => none
  | _ => none
def bSum : OpN := fun xs S => match xs with
  | [v] => match itemsOf S v with
    | some ws => (intsOf ws).map fun ns => (false, .int ns.sum)
    | none => none
  | _ => none
def bTuple : OpN := fun xs S => match xs with
  | [v] => match itemsOf S v with
    | some ws => some (false, .tup ws)
    | none => none
  | _ => none
def bList : OpN := fun xs S => match xs with
  | [v] => match itemsOf S v with
    | some ws => some (true, .lst ws)
    | none => none
  | _ => none
def bInt : OpN := fun xs _ => match xs with
  | [.int i] => some (false, .int i)
  | [.bl b] => some (false, .int (if b then 1 else 0))
  | _ => none
def bAbs : OpN := fun xs _ => match xs with
  | [.int i] => some (false, .int (if i < 0 then -i else i))
  | _ => none
def bMax2 : OpN := fun xs _ => match xs with
  | [.int i, .int j] => some (false, .int (if j > i then j else i))
  | _ => none
def bMin2 : OpN := fun xs _ => match xs with
  | [.int i, .int j] => some (false, .int (if j < i then j else i))
  | _ => none
end PX
namespace PX
open PySem PySem.Spec PyProof.Rows L2

section
variable {X : Cx} {G : Gam}
/-! ### ints -/
theorem ok_add : Ok2 G oAdd (rI0 fun i j => .int (i + j)) := fun n0 g F r S H x y u v z Q h q1 q2 e k => by
  unfold oAdd at e
  split at e
  · cases e
    exact ⟨_, _, q1, q2, k F r H _ (.refl F r) h rfl⟩
  · cases e
theorem ok_sub : Ok2 G oSub (rI0 fun i j => .int (i - j)) := fun n0 g F r S H x y u v z Q h q1 q2 e k => by
  unfold oSub at e
  split at e
  · cases e
    exact ⟨_, _, q1, q2, k F r H _ (.refl F r) h rfl⟩
  · cases e
theorem ok_mul : Ok2 G oMul (rI CMul fun i j => .int (i * j)) := fun n0 g F r S H x y u v z Q h q1 q2 e k => by
  unfold oMul at e
  split at e
  · split at e
    · rename_i hm
      cases e
      refine ⟨_, _, q1, q2, ?_, k F r H _ (.refl F r) h rfl⟩
      unfold mulOk at hm
      simp only [Bool.or_eq_true, Bool.and_eq_true, decide_eq_true_eq] at hm
      unfold CMul
      omega
    · cases e
  · cases e
theorem ok_div : Ok2 G oDiv (rI CDiv fun i j => .int (i / j)) := fun n0 g F r S H x y u v z Q h q1 q2 e k => by
  unfold oDiv at e
  split at e
  · split at e
    · rename_i hm
      cases e
      exact ⟨_, _, q1, q2, hm, k F r H _ (.refl F r) h rfl⟩
    · cases e
  · cases e
theorem ok_mod : Ok2 G oMod (rI (fun _ j => 0 < j) fun i j => .int (i % j)) := fun n0 g F r S H x y u v z Q h q1 q2 e k => by
  unfold oMod at e
  split at e
  · split at e
    · rename_i hm
      cases e
      exact ⟨_, _, q1, q2, hm, k F r H _ (.refl F r) h rfl⟩
    · cases e
  · cases e
theorem ok_neg : Ok1 G oNeg (rU fun i => .int (-i)) := fun n0 g F r S H x u z Q h q1 e k => by
  unfold oNeg at e
  split at e
  · cases e
    exact ⟨_, q1, k F r H _ (.refl F r) h rfl⟩
  · cases e
theorem ok_lt : Ok2 G oLt (rI0 fun i j => .bl (decide (i < j))) := fun n0 g F r S H x y u v z Q h q1 q2 e k => by
  unfold oLt at e
  split at e
  · cases e
    exact ⟨_, _, q1, q2, k F r H _ (.refl F r) h rfl⟩
  · cases e
theorem ok_le : Ok2 G oLe (rI0 fun i j => .bl (decide (i ≤ j))) := fun n0 g F r S H x y u v z Q h q1 q2 e k => by
  unfold oLe at e
  split at e
  · cases e
    exact ⟨_, _, q1, q2, k F r H _ (.refl F r) h rfl⟩
  · cases e
theorem ok_gt : Ok2 G oGt (rI0 fun i j => .bl (decide (j < i))) := fun n0 g F r S H x y u v z Q h q1 q2 e k => by
  unfold oGt at e
  split at e
  · cases e
    exact ⟨_, _, q1, q2, k F r H _ (.refl F r) h rfl⟩
  · cases e
theorem ok_ge : Ok2 G oGe (rI0 fun i j => .bl (decide (j ≤ i))) := fun n0 g F r S H x y u v z Q h q1 q2 e k => by
  unfold oGe at e
  split at e
  · cases e
    exact ⟨_, _, q1, q2, k F r H _ (.refl F r) h rfl⟩
  · cases e
/-! ### data -/
theorem toDL_ok {n0 : Nat} {g : Gh} {F : Hp} {r : List Addr} {S : Store} {H : Hp} {f : PV → Option PyData} {k : Nat} (h : HR G n0 g F r S H)
    (hf : ∀ v u d, RV G F r v u → f v = some d → Dp G.K H u d ∧ d.canLay0 = true ∧ d.depth ≤ k) : ∀ {vs : List PV} {us : List V} {ds : List PyData}, RVs G F r vs us → toDL f vs = some ds → DpAll G.K H us ds ∧ PyData.canLayAll0 ds = true ∧ PyData.depthAll ds ≤ k
  | [], us, ds, q, e => by
    cases e
    have e1 : us = [] := q
    subst e1
    exact ⟨.nil, rfl, Nat.zero_le _⟩
  | v :: vs, us, ds, q, e => by
    obtain ⟨u, ur, rfl, q1, q2⟩ := q
    unfold toDL at e
    cases e1 : f v with
    | none => rw [e1] at e; cases e
    | some d =>
      simp only [e1] at e
      cases e2 : toDL f vs with
      | none => rw [e2] at e; cases e
      | some ds' =>
        rw [e2] at e
        cases e
        obtain ⟨a1, a2, a3⟩ := hf v u d q1 e1
        obtain ⟨b1, b2, b3⟩ := toDL_ok h hf q2 e2
        refine ⟨.cons a1 b1, ?_, ?_⟩
        · simp only [PyData.canLayAll0, a2, b2, Bool.and_self]
        · simp only [PyData.depthAll]
          exact Nat.max_le.mpr ⟨a3, b3⟩
theorem toD_ok {n0 : Nat} {g : Gh} {F : Hp} {r : List Addr} {S : Store} {H : Hp} (h : HR G n0 g F r S H) : ∀ (k : Nat) (v : PV) (u : V) (d : PyData), RV G F r v u → toD S k v = some d → Dp G.K H u d ∧ d.canLay0 = true ∧ d.depth ≤ k
  | 0, v, u, d, q, e => by
    unfold toD at e
    split at e
    · cases e; cases (show u = .non from q); exact ⟨.non, rfl, Nat.le_refl _⟩
    · cases e; cases (show u = .bl _ from q); exact ⟨.bl _, rfl, Nat.le_refl _⟩
    · cases e; cases (show u = .int _ from q); exact ⟨.int _, rfl, Nat.le_refl _⟩
    · split at e
      · rename_i hs
        cases e; cases (show u = .str _ from q); exact ⟨.str _, hs, Nat.le_refl _⟩
      · cases e
    · cases e
  | k + 1, v, u, d, q, e => by
    unfold toD at e
    split at e
    · rename_i ed
      cases e; cases view_non h q ed; exact ⟨.non, rfl, Nat.zero_le _⟩
    · rename_i ed
      cases e; cases view_bl h q ed; exact ⟨.bl _, rfl, Nat.zero_le _⟩
    · rename_i ed
      cases e; cases view_int h q ed; exact ⟨.int _, rfl, Nat.zero_le _⟩
    · rename_i ed
      split at e
      · rename_i hs
        cases e; cases view_str h q ed; exact ⟨.str _, hs, Nat.zero_le _⟩
      · cases e
    · rename_i xs ed
      cases e1 : toDL (toD S k) xs with
      | none => rw [e1] at e; cases e
      | some ds =>
        rw [e1] at e
        cases e
        obtain ⟨a, us, rfl, k1, k2⟩ := view_lst h q ed
        obtain ⟨b1, b2, b3⟩ := toDL_ok h (toD_ok h k) k2 e1
        exact ⟨.lst (.inl k1) b1, by simp only [PyData.canLay0]; exact b2, by simp only [PyData.depth]; omega⟩
    · rename_i xs ed
      cases e1 : toDL (toD S k) xs with
      | none => rw [e1] at e; cases e
      | some ds =>
        rw [e1] at e
        cases e
        obtain ⟨a, us, rfl, k1, k2⟩ := view_tup h q ed
        obtain ⟨b1, b2, b3⟩ := toDL_ok h (toD_ok h k) k2 e1
        exact ⟨.tup k1 b1, by simp only [PyData.canLay0]; exact b2, by simp only [PyData.depth]; omega⟩
    · cases e
theorem toD_shaped {d : PyData} {k : Nat} (h1 : d.canLay0 = true) (h2 : d.depth ≤ k) (hk : k ≤ 64) : SeqAt.shaped d = true := by
  unfold SeqAt.shaped
  rw [h1, Bool.true_and]
  exact decide_eq_true (Nat.le_trans h2 hk)
theorem ok_eq : Ok2 G oEq (rEqD G.K) := fun n0 g F r S H x y u v z Q h q1 q2 e k => by
  unfold oEq eqD at e
  cases e1 : toD S 6 x with
  | none => rw [e1] at e; cases e
  | some d =>
    simp only [e1] at e
    cases e2 : toD S 6 y with
    | none => rw [e2] at e; cases e
    | some d' =>
      rw [e2] at e
      cases e
      obtain ⟨a1, a2, a3⟩ := toD_ok h 6 x u d q1 e1
      obtain ⟨b1, b2, b3⟩ := toD_ok h 6 y v d' q2 e2
      exact ⟨d, d', a1, b1, toD_shaped a2 a3 (by decide), toD_shaped b2 b3 (by decide), k F r H _ (.refl F r) h rfl⟩
theorem ok_ne : Ok2 G oNe (rNeD G.K) := fun n0 g F r S H x y u v z Q h q1 q2 e k => by
  unfold oNe eqD at e
  cases e1 : toD S 6 x with
  | none => rw [e1] at e; cases e
  | some d =>
    simp only [e1] at e
    cases e2 : toD S 6 y with
    | none => rw [e2] at e; cases e
    | some d' =>
      rw [e2] at e
      cases e
      obtain ⟨a1, a2, a3⟩ := toD_ok h 6 x u d q1 e1
      obtain ⟨b1, b2, b3⟩ := toD_ok h 6 y v d' q2 e2
      exact ⟨d, d', a1, b1, toD_shaped a2 a3 (by decide), toD_shaped b2 b3 (by decide), k F r H _ (.refl F r) h rfl⟩
theorem non_of {n0 : Nat} {g : Gh} {F : Hp} {r : List Addr} {S : Store} {H : Hp} {x w : PV} {u : V} (h : HR G n0 g F r S H) (q : RV G F r x u) (e : deref S x = some w) (hw : w ≠ .non) : u ≠ .non := by
  rcases view h q e with ⟨k, hr⟩ | ⟨a, ho, e1, e2, k⟩
  · cases w with
    | non => exact (hw rfl).elim
    | bl => have z : u = _ := k; rw [z]; intro y; cases y
    | int => have z : u = _ := k; rw [z]; intro y; cases y
    | str => have z : u = _ := k; rw [z]; intro y; cases y
    | tup => obtain ⟨_, _, z, _⟩ := k; rw [z]; intro y; cases y
    | lst => obtain ⟨_, _, z, _⟩ := k; rw [z]; intro y; cases y
    | dct => obtain ⟨_, _, _, z, _⟩ := k; rw [z]; intro y; cases y
    | ins => obtain ⟨_, _, _, z, _⟩ := k; rw [z]; intro y; cases y
    | ref i => exact (hr i rfl).elim
    | lck => exact k.elim
  · rw [e1]; intro y; cases y
theorem ok_isN : Ok2 G oIsN (fun x y H Q => y = .non ∧ Q (.bl (decide (x = .non))) H) := fun n0 g F r S H x y u v z Q h q1 q2 e k => by
  unfold oIsN at e
  split at e
  · refine ⟨q2, ?_⟩
    split at e
    · rename_i ed
      cases e
      rw [decide_eq_true (view_non h q1 ed)]
      exact k F r H _ (.refl F r) h rfl
    · rename_i w hw ed
      cases e
      rw [decide_eq_false (non_of h q1 ed hw)]
      exact k F r H _ (.refl F r) h rfl
    · cases e
  · cases e
theorem ok_notN : Ok2 G oNotN (fun x y H Q => y = .non ∧ Q (.bl (!decide (x = .non))) H) := fun n0 g F r S H x y u v z Q h q1 q2 e k => by
  unfold oNotN at e
  split at e
  · refine ⟨q2, ?_⟩
    split at e
    · rename_i ed
      cases e
      rw [decide_eq_true (view_non h q1 ed)]
      exact k F r H _ (.refl F r) h rfl
    · rename_i w hw ed
      cases e
      rw [decide_eq_false (non_of h q1 ed hw)]
      exact k F r H _ (.refl F r) h rfl
    · cases e
  · cases e
/-! ### built-in functions -/
theorem se_argB {o : OpN} {t : List V → Hp → VK → Prop} {fs : SA} {n0 : Nat} {ex : Expr} (hp : PE X ex (tCB t (rdA G n0 fs))) (ho : OkN G o t) : PE X ex (rdE G n0 (eArg o fs)) := by
  refine peI hp fun σ H Q ⟨F, r, env, S, g, s, h⟩ => ?_
  refine stA s cnE h fun p S1 F1 r1 H1 us x1 s1 q1 h1 => ?_
  exact endO (T := fun Q => t us H1 Q) s1 x1 h1 fun z ez k => ho n0 g F1 r1 S1 H1 p us z Q s1.hr q1 ez k
theorem intsOf_eq : ∀ {ws : List PV} {ns : List Int}, intsOf ws = some ns → ws = ns.map PV.int
  | [], _, e => by cases e; rfl
  | w :: ws, ns, e => by
    cases w <;> try cases e
    rename_i i
    have e : (intsOf ws).map (i :: ·) = some ns := e
    cases e1 : intsOf ws with
    | none => rw [e1] at e; cases e
    | some ms =>
      rw [e1] at e
      cases e
      rw [intsOf_eq e1]
      rfl
theorem blsOf_eq : ∀ {ws : List PV} {ns : List Bool}, blsOf ws = some ns → ws = ns.map PV.bl
  | [], _, e => by cases e; rfl
  | w :: ws, ns, e => by
    cases w <;> try cases e
    rename_i i
    have e : (blsOf ws).map (i :: ·) = some ns := e
    cases e1 : blsOf ws with
    | none => rw [e1] at e; cases e
    | some ms =>
      rw [e1] at e
      cases e
      rw [blsOf_eq e1]
      rfl
theorem RVs.bls {F : Hp} {r : List Addr} : ∀ {ns : List Bool} {us : List V}, RVs G F r (ns.map PV.bl) us → us = ns.map V.bl
  | [], _, q => q
  | n :: ns, _, q => by
    obtain ⟨u, ur, rfl, k, l⟩ := q
    have e : u = V.bl n := k
    rw [e, RVs.bls l]
    rfl
theorem one_of {F : Hp} {r : List Addr} {v : PV} {us : List V} (q : RVs G F r [v] us) : ∃ u, us = [u] ∧ RV G F r v u := by
  obtain ⟨u, ur, rfl, k, l⟩ := q
  have e : ur = [] := l
  exact ⟨u, by rw [e], k⟩
theorem two_of {F : Hp} {r : List Addr} {v w : PV} {us : List V} (q : RVs G F r [v, w] us) : ∃ u y, us = [u, y] ∧ RV G F r v u ∧ RV G F r w y := by
  obtain ⟨u, ur, rfl, k, l⟩ := q
  obtain ⟨y, rfl, m⟩ := one_of l
  exact ⟨u, y, rfl, k, m⟩
theorem ok_len : OkN G bLen (fun xs H Q => ∃ p ys, xs = [.ref p] ∧ (SqL G.K H p ys ∨ SqT G.K H p ys) ∧ Q (.int ys.length) H) := fun n0 g F r S H xs us z Q h q e k => by
  unfold bLen at e
  split at e
  · obtain ⟨u, rfl, q1⟩ := one_of q
    split at e
    · rename_i ws ed
      cases e
      obtain ⟨a, us, rfl, k1, k2⟩ := view_lst h q1 ed
      exact ⟨a, us, rfl, .inl (.inl k1), by rw [← RVs.length k2]; exact k F r H _ (.refl F r) h rfl⟩
    · rename_i ws ed
      cases e
      obtain ⟨a, us, rfl, k1, k2⟩ := view_tup h q1 ed
      exact ⟨a, us, rfl, .inr k1, by rw [← RVs.length k2]; exact k F r H _ (.refl F r) h rfl⟩
    · cases e
  · cases e
/-! sum, all, any of a list or a tuple -/
def rSumA (K : PySem.W.Frag) : List V → Hp → VK → Prop := fun vs H Q => ∃ (a : Addr) (ns : List Int), vs = [V.ref a] ∧ (SqL K H a (ns.map V.int) ∨ SqT K H a (ns.map V.int)) ∧ Q (.int ns.sum) H
theorem cr_sumA (hc : X.calm = true) : CallR X (.builtin "sum") (rSumA X.K) := by
  intro pins s σ H vs us Q I r h
  obtain ⟨a, ns, rfl, hs | hs, q⟩ := h
  · exact cr_sum hc pins s σ H _ us Q I r ⟨a, ns, rfl, hs, q⟩
  · obtain ⟨its, rv, hl, _⟩ := I.tuple hs
    rw [Vals.ref1 r]
    have hi := rv.ints
    obtain ⟨xs, e⟩ := hi.allInts.items
    have hn : numsOf (intItems xs).toList = ns := by rw [← e]; exact hi.numsOf
    rw [nums_intItems] at hn
    rw [e] at hl
    refine PySem.W.ktm_sumG (I.ok.hd hc) (show s.heap.IsTuple a _ from hl) fun h' tk t' hk => ?_
    refine ⟨.int _, H, I.kept hk, ⟨_, rfl⟩, ?_⟩
    rw [preSum_eq, List.take_of_length_le (by simp), hn]
    exact q
theorem ok_sum : OkN G bSum (rSumA G.K) := fun n0 g F r S H xs us z Q h q e k => by
  unfold bSum at e
  split at e
  · obtain ⟨u, rfl, q1⟩ := one_of q
    cases ei : itemsOf S ‹PV› with
    | none => simp only [ei] at e; cases e
    | some ws =>
      simp only [ei] at e
      cases en : intsOf ws with
      | none => rw [en] at e; cases e
      | some ns =>
        rw [en] at e
        cases e
        obtain ⟨a, us, rfl, k1, k2⟩ := view_seq h q1 ei
        rw [intsOf_eq en] at k2
        rw [RVs.ints k2] at k1
        exact ⟨a, ns, rfl, k1, k F r H _ (.refl F r) h rfl⟩
  · cases e
end
end PX
set_option Elab.async false
set_option linter.all false
set_option maxRecDepth 100000
namespace PX
open PySem PySem.Spec PyProof.Rows L2
/-! ### more values -/
def bMaxL : OpN := fun xs S => match xs with
  | [v] => match itemsOf S v with
    | some ws => match intsOf ws with
      | some (n :: ns) => some (false, .int (ns.foldl max n))
      | _ => none
    | none => none
  | _ => none
def bMinL : OpN := fun xs S => match xs with
  | [v] => match itemsOf S v with
    | some ws => match intsOf ws with
      | some (n :: ns) => some (false, .int (ns.foldl min n))
      | _ => none
    | none => none
  | _ => none
/-! an item by its place -/
def ixP (n : Nat) (i : Int) : Option Nat := if 0 ≤ i then (if i < n then some i.toNat else none) else if -(n : Int) ≤ i then some (i + n).toNat else none
def oIx : Op2 := fun x y S => match y with
  | .int i => match itemsOf S x with
    | some xs => match ixP xs.length i with
      | some j => match xs[j]? with
        | some v => some (false, v)
        | none => none
      | none => none
    | none => none
  | _ => none
/-! a slice -/
abbrev SO := Env → Store → R (Option Int)
def pNo : SO := fun _ S => .ok none S
def pSo (a : SE) : SO := fun env S => (a env S).bind fun p S1 => match p.2 with
  | .int i => .ok (some i) S1
  | _ => .no
def sIxP (n d : Nat) : Option Int → Nat
  | none => d
  | some v => if v < 0 then (v + (n : Int)).toNat else min v.toNat n
def cutP (xs : List PV) (lo hi : Option Int) : List PV := (xs.drop (sIxP xs.length 0 lo)).take (sIxP xs.length xs.length hi - sIxP xs.length 0 lo)
def slP (lo hi : Option Int) : Op1 := fun x S => match deref S x with
  | some (.lst xs) => some (true, .lst (cutP xs lo hi))
  | some (.tup xs) => some (false, .tup (cutP xs lo hi))
  | _ => none
def eSl (a : SE) (lo hi : SO) : SE := fun env S => (a env S).bind fun p S1 => (lo env S1).bind fun l S2 => (hi env S2).bind fun u S3 => ofO (slP l u p.2 S3) S3
/-! + and * of sequences -/
def oCat : Op2 := fun x y S => match deref S x with
  | some (.lst xs) => match deref S y with
    | some (.lst ys) => if small (xs.length + ys.length) then some (true, .lst (xs ++ ys)) else none
    | _ => none
  | some (.tup xs) => match deref S y with
    | some (.tup ys) => if small (xs.length + ys.length) then some (false, .tup (xs ++ ys)) else none
    | _ => none
  | some (.int i) => match y with
    | .int j => some (false, .int (i + j))
    | _ => none
  | _ => none
def oRep : Op2 := fun x y S => match y with
  | .int k => match deref S x with
    | some (.lst xs) => if decide (-1000 ≤ k ∧ k ≤ 1000) && Nat.ble xs.length 1000 then some (true, .lst (List.replicate k.toNat xs).flatten) else none
    | some (.int i) => if mulOk i k then some (false, .int (i * k)) else none
    | _ => none
  | _ => none

def lstOf (S : Store) (v : PV) : Option (List PV) := match deref S v with
  | some (.lst xs) => some xs
  | _ => none
def bAll : OpN := fun xs S => match xs with
  | [v] => match lstOf S v with
    | some ws => match blsOf ws with
      | some ns => some (false, .bl (ns.all id))
      | none => none
    | none => none
  | _ => none
def bAny : OpN := fun xs S => match xs with
  | [v] => match lstOf S v with
    | some ws => match blsOf ws with
      | some ns => some (false, .bl (ns.any id))
      | none => none
    | none => none
  | _ => none

section
variable {X : Cx} {G : Gam}
theorem view_lstOf {n0 : Nat} {g : Gh} {F : Hp} {r : List Addr} {S : Store} {H : Hp} (h : HR G n0 g F r S H) {v : PV} {u : V} {xs : List PV} (q : RV G F r v u) (e : lstOf S v = some xs) : ∃ a us, u = .ref a ∧ Rd H a (.lst us) ∧ RVs G F r xs us := by
  unfold lstOf at e
  split at e
  · rename_i ed
    cases e
    exact view_lst h q ed
  · cases e
theorem ok_all : OkN G bAll (rAll G.K) := fun n0 g F r S H xs us z Q h q e k => by
  unfold bAll at e
  split at e
  · obtain ⟨u, rfl, q1⟩ := one_of q
    split at e
    · rename_i ws ei
      split at e
      · rename_i ns en
        cases e
        obtain ⟨a, us, rfl, k1, k2⟩ := view_lstOf h q1 ei
        rw [blsOf_eq en] at k2
        rw [RVs.bls k2] at k1
        exact ⟨a, ns, rfl, .inl k1, k F r H _ (.refl F r) h rfl⟩
      · cases e
    · cases e
  · cases e
theorem ok_any : OkN G bAny (rAny G.K) := fun n0 g F r S H xs us z Q h q e k => by
  unfold bAny at e
  split at e
  · obtain ⟨u, rfl, q1⟩ := one_of q
    split at e
    · rename_i ws ei
      split at e
      · rename_i ns en
        cases e
        obtain ⟨a, us, rfl, k1, k2⟩ := view_lstOf h q1 ei
        rw [blsOf_eq en] at k2
        rw [RVs.bls k2] at k1
        exact ⟨a, ns, rfl, .inl k1, k F r H _ (.refl F r) h rfl⟩
      · cases e
    · cases e
  · cases e
theorem ok_tuple : OkN G bTuple (fun xs H Q => ∃ p ys, xs = [.ref p] ∧ ((SqL G.K H p ys ∧ ∀ l, H l = none → Q (.ref l) (upd H l (.tup ys))) ∨ (SqT G.K H p ys ∧ Q (.ref p) H))) := fun n0 g F r S H xs us z Q h q e k => by
  unfold bTuple at e
  split at e
  · obtain ⟨u, rfl, q1⟩ := one_of q
    split at e
    · rename_i ws ei
      cases e
      unfold itemsOf at ei
      split at ei
      · rename_i ws' ed
        cases ei
        obtain ⟨a, us, rfl, k1, k2⟩ := view_lst h q1 ed
        refine ⟨a, us, rfl, .inl ⟨.inl k1, fun l hl => ?_⟩⟩
        obtain ⟨F2, x2, h2, k3⟩ := new_tup h hl k2
        exact k F2 r _ _ x2 h2 k3
      · rename_i ws' ed
        cases ei
        rcases view h q1 ed with ⟨k1, _⟩ | ⟨a, ho, e1, e2, k1⟩
        · obtain ⟨a, us, rfl, k2, k3⟩ := id k1
          exact ⟨a, us, rfl, .inr ⟨h.sub.tp k2, k F r H _ (.refl F r) h k1⟩⟩
        · exact k1.elim
      · cases ei
    · cases e
  · cases e
theorem ok_list : OkN G bList (fun xs H Q => ∃ p ys, xs = [.ref p] ∧ (SqL G.K H p ys ∨ SqT G.K H p ys) ∧ ∀ l, H l = none → Q (.ref l) (upd H l (.lst ys))) := fun n0 g F r S H xs us z Q h q e k => by
  unfold bList at e
  split at e
  · obtain ⟨u, rfl, q1⟩ := one_of q
    split at e
    · rename_i ws ei
      cases e
      obtain ⟨a, us, rfl, k1, k2⟩ := view_seq h q1 ei
      refine ⟨a, us, rfl, k1, fun l hl => ?_⟩
      obtain ⟨h2, k3⟩ := new_obj h hl (v := .lst ws) ⟨us, rfl, k2⟩ rfl
      exact k F r _ _ (.refl F r) h2 k3
    · cases e
  · cases e
theorem ok_int : OkN G bInt (fun xs H Q => (∃ i, xs = [.int i] ∧ Q (.int i) H) ∨ ∃ k, xs = [.bl k] ∧ Q (.int (if k then 1 else 0)) H) := fun n0 g F r S H xs us z Q h q e k => by
  unfold bInt at e
  split at e
  · cases e
    obtain ⟨u, rfl, q1⟩ := one_of q
    cases (show u = V.int _ from q1)
    exact .inl ⟨_, rfl, k F r H _ (.refl F r) h rfl⟩
  · cases e
    obtain ⟨u, rfl, q1⟩ := one_of q
    cases (show u = V.bl _ from q1)
    exact .inr ⟨_, rfl, k F r H _ (.refl F r) h rfl⟩
  · cases e
theorem ok_abs : OkN G bAbs (fun xs H Q => ∃ i, xs = [.int i] ∧ Q (.int (if i < 0 then -i else i)) H) := fun n0 g F r S H xs us z Q h q e k => by
  unfold bAbs at e
  split at e
  · cases e
    obtain ⟨u, rfl, q1⟩ := one_of q
    cases (show u = V.int _ from q1)
    exact ⟨_, rfl, k F r H _ (.refl F r) h rfl⟩
  · cases e
theorem ok_max2 : OkN G bMax2 (fun xs H Q => ∃ i j, xs = [.int i, .int j] ∧ Q (.int (if j > i then j else i)) H) := fun n0 g F r S H xs us z Q h q e k => by
  unfold bMax2 at e
  split at e
  · cases e
    obtain ⟨u, y, rfl, q1, q2⟩ := two_of q
    cases (show u = V.int _ from q1)
    cases (show y = V.int _ from q2)
    exact ⟨_, _, rfl, k F r H _ (.refl F r) h rfl⟩
  · cases e
theorem ok_min2 : OkN G bMin2 (fun xs H Q => ∃ i j, xs = [.int i, .int j] ∧ Q (.int (if j < i then j else i)) H) := fun n0 g F r S H xs us z Q h q e k => by
  unfold bMin2 at e
  split at e
  · cases e
    obtain ⟨u, y, rfl, q1, q2⟩ := two_of q
    cases (show u = V.int _ from q1)
    cases (show y = V.int _ from q2)
    exact ⟨_, _, rfl, k F r H _ (.refl F r) h rfl⟩
  · cases e
/-! max, min of a list or a tuple of ints -/
theorem dpAll_ints {K : PySem.W.Frag} {H : Hp} : ∀ ns : List Int, DpAll K H (ns.map V.int) (ns.map PyData.int)
  | [] => .nil
  | n :: ns => .cons (.int n) (dpAll_ints ns)
theorem alike_ints (ns : List Int) : PySem.W.AlikeAll (ns.map PyData.int) := by
  refine ⟨fun x hx y hy => ?_, fun x hx => ?_⟩
  · obtain ⟨i, _, rfl⟩ := List.mem_map.mp hx
    obtain ⟨j, _, rfl⟩ := List.mem_map.mp hy
    rfl
  · obtain ⟨i, _, rfl⟩ := List.mem_map.mp hx
    intro z
    cases z
theorem depth_ints : ∀ ns : List Int, PyData.depthAll (ns.map PyData.int) = 0
  | [] => rfl
  | n :: ns => by
    show max 0 (PyData.depthAll (ns.map PyData.int)) = 0
    rw [depth_ints ns]
    rfl
def rMaxA (K : PySem.W.Frag) : List V → Hp → VK → Prop := fun vs H Q => ∃ (a : Addr) (n : Int) (ns : List Int), vs = [V.ref a] ∧ (SqL K H a ((n :: ns).map V.int) ∨ SqT K H a ((n :: ns).map V.int)) ∧ Q (.int (ns.foldl max n)) H
def rMinA (K : PySem.W.Frag) : List V → Hp → VK → Prop := fun vs H Q => ∃ (a : Addr) (n : Int) (ns : List Int), vs = [V.ref a] ∧ (SqL K H a ((n :: ns).map V.int) ∨ SqT K H a ((n :: ns).map V.int)) ∧ Q (.int (ns.foldl min n)) H
theorem int_reads {h : Heap} {v : Value} {i : Int} {bs : List Addr} (r : Reads h v (.int i) bs) : ∃ t, v = .int i t := by
  cases r
  exact ⟨_, rfl⟩
theorem cr_maxA (hc : X.calm = true) (hu : X.A.units + 64 < cLine) : CallR X (.builtin "max") (rMaxA X.K) := by
  intro pins s σ H vs us Q I r h
  obtain ⟨a, n, ns, rfl, hs, q⟩ := h
  rw [Vals.ref1 r]
  have hd : X.A.units + 1 + PyData.depthAll (PyData.int n :: ns.map PyData.int) < cLine := by
    have e := depth_ints (n :: ns)
    rw [List.map_cons] at e
    rw [e]
    omega
  rcases hs with hs | hs
  · obtain ⟨its, rv, hl, _⟩ := I.list hs
    obtain ⟨as, hr⟩ := Dp.readsAll I _ _ its (dpAll_ints (K := X.K) (H := H) (n :: ns)) rv
    refine PySem.W.max_list_data (I.ok.hd hc) hl.isList (x := .int n) (xs := ns.map .int) (as := as) (by simpa using hr) (alike_ints (n :: ns)) hd fun i v h' tk bs _ rd hk => ?_
    rw [PySem.W.maxD_ints] at rd
    obtain ⟨t, rfl⟩ := int_reads rd
    exact ⟨.int _, H, I.kept hk, ⟨_, rfl⟩, q⟩
  · obtain ⟨its, rv, hl, _⟩ := I.tuple hs
    obtain ⟨as, hr⟩ := Dp.readsAll I _ _ its (dpAll_ints (K := X.K) (H := H) (n :: ns)) rv
    refine PySem.W.max_tuple_data (I.ok.hd hc) (show s.heap.IsTuple a _ from hl) (x := .int n) (xs := ns.map .int) (as := as) (by simpa using hr) (alike_ints (n :: ns)) hd fun i v h' tk bs _ rd hk => ?_
    rw [PySem.W.maxD_ints] at rd
    obtain ⟨t, rfl⟩ := int_reads rd
    exact ⟨.int _, H, I.kept hk, ⟨_, rfl⟩, q⟩
theorem cr_minA (hc : X.calm = true) (hu : X.A.units + 64 < cLine) : CallR X (.builtin "min") (rMinA X.K) := by
  intro pins s σ H vs us Q I r h
  obtain ⟨a, n, ns, rfl, hs, q⟩ := h
  rw [Vals.ref1 r]
  have hd : X.A.units + 1 + PyData.depthAll (PyData.int n :: ns.map PyData.int) < cLine := by
    have e := depth_ints (n :: ns)
    rw [List.map_cons] at e
    rw [e]
    omega
  rcases hs with hs | hs
  · obtain ⟨its, rv, hl, _⟩ := I.list hs
    obtain ⟨as, hr⟩ := Dp.readsAll I _ _ its (dpAll_ints (K := X.K) (H := H) (n :: ns)) rv
    refine PySem.W.min_list_data (I.ok.hd hc) hl.isList (x := .int n) (xs := ns.map .int) (as := as) (by simpa using hr) (alike_ints (n :: ns)) hd fun i v h' tk bs _ rd hk => ?_
    rw [PySem.W.minD_ints] at rd
    obtain ⟨t, rfl⟩ := int_reads rd
    exact ⟨.int _, H, I.kept hk, ⟨_, rfl⟩, q⟩
  · obtain ⟨its, rv, hl, _⟩ := I.tuple hs
    obtain ⟨as, hr⟩ := Dp.readsAll I _ _ its (dpAll_ints (K := X.K) (H := H) (n :: ns)) rv
    refine PySem.W.min_tuple_data (I.ok.hd hc) (show s.heap.IsTuple a _ from hl) (x := .int n) (xs := ns.map .int) (as := as) (by simpa using hr) (alike_ints (n :: ns)) hd fun i v h' tk bs _ rd hk => ?_
    rw [PySem.W.minD_ints] at rd
    obtain ⟨t, rfl⟩ := int_reads rd
    exact ⟨.int _, H, I.kept hk, ⟨_, rfl⟩, q⟩
theorem view_ints {n0 : Nat} {g : Gh} {F : Hp} {r : List Addr} {S : Store} {H : Hp} (h : HR G n0 g F r S H) {v : PV} {u : V} {ws : List PV} {ns : List Int} (q : RV G F r v u) (ei : itemsOf S v = some ws) (en : intsOf ws = some ns) :
    ∃ a, u = .ref a ∧ (SqL G.K H a (ns.map V.int) ∨ SqT G.K H a (ns.map V.int)) := by
  obtain ⟨a, us, rfl, k1, k2⟩ := view_seq h q ei
  rw [intsOf_eq en] at k2
  rw [RVs.ints k2] at k1
  exact ⟨a, rfl, k1⟩
theorem ok_maxL : OkN G bMaxL (rMaxA G.K) := fun n0 g F r S H xs us z Q h q e k => by
  unfold bMaxL at e
  split at e
  · obtain ⟨u, rfl, q1⟩ := one_of q
    split at e
    · rename_i ws ei
      split at e
      · rename_i n ns en
        cases e
        obtain ⟨a, rfl, k1⟩ := view_ints h q1 ei en
        exact ⟨a, n, ns, rfl, k1, k F r H _ (.refl F r) h rfl⟩
      · cases e
    · cases e
  · cases e
theorem ok_minL : OkN G bMinL (rMinA G.K) := fun n0 g F r S H xs us z Q h q e k => by
  unfold bMinL at e
  split at e
  · obtain ⟨u, rfl, q1⟩ := one_of q
    split at e
    · rename_i ws ei
      split at e
      · rename_i n ns en
        cases e
        obtain ⟨a, rfl, k1⟩ := view_ints h q1 ei en
        exact ⟨a, n, ns, rfl, k1, k F r H _ (.refl F r) h rfl⟩
      · cases e
    · cases e
  · cases e
/-! items, slices -/
theorem ixP_eq (n : Nat) (i : Int) : ixP n i = ixN n i := rfl
theorem sIxP_eq (n d : Nat) : ∀ o : Option Int, sIxP n d o = HT.sIx n d o
  | none => rfl
  | some _ => rfl
theorem ok_ix : Ok2 G oIx (rIx G.K) := fun n0 g F r S H x y u v z Q h q1 q2 e k => by
  unfold oIx at e
  split at e
  · rename_i i
    split at e
    · rename_i xs ei
      split at e
      · rename_i j ej
        split at e
        · rename_i w ew
          cases e
          obtain ⟨a, us, rfl, k1, k2⟩ := view_seq h q1 ei
          obtain ⟨w', e1, q3⟩ := RVs.get k2 ew
          have ea : atI us i = some w' := by
            unfold atI
            rw [← RVs.length k2, ← ixP_eq, ej]
            exact e1
          have fin := k F r H w' (.refl F r) h q3
          cases (show v = V.int i from q2)
          rcases k1 with k1 | k1
          · exact .inl ⟨a, us, i, w', rfl, rfl, k1, ea, fin⟩
          · exact .inr (.inl ⟨a, us, i, w', rfl, rfl, k1, ea, fin⟩)
        · cases e
      · cases e
    · cases e
  · cases e
theorem se_ix {n0 : Nat} {a b : Expr} {fa fb : SE} {pos : Pos} {o : Op2} {t : R2} (hr : IxR X t) (ho : Ok2 G o t) (ha : PE X a (rdE G n0 fa)) (hb : PE X b (rdE G n0 fb)) (hs : PlainIx b) : PE X (.Subscript a b pos) (rdE G n0 (eBin o fa fb)) := by
  refine peI (pe_ix hr (toV ha) (toV hb) hs) fun σ H Q ⟨F, r, env, S, g, s, h⟩ => ?_
  refine stV s cnE h fun p S1 F1 r1 H1 u x1 s1 q1 h1 => ?_
  refine stV s1 cnE h1 fun q S2 F2 r2 H2 v x2 s2 q2 h2 => ?_
  exact endO (T := fun Q => t u v H2 Q) s2 (x1.trans x2) h2 fun z ez k => ho n0 g F2 r2 S2 H2 p.2 q.2 u v z Q s2.hr (q1.ext x2) q2 ez k
/-! parts of a slice -/
def PoO (G : Gam) (n0 : Nat) (g : Gh) (F : Hp) (r : List Addr) (env : Env) (σ : L2.St) (z : R (Option Int)) (T : Option Int → Hp → Prop) : Prop := match z with
  | .ok b S' => ∀ F' r' H', Ext F F' r r' → Sg G n0 g F' r' env σ S' H' → T b H'
  | _ => False
def rdO (G : Gam) (n0 : Nat) (f : SO) : TO := fun σ H T => ∃ F r env S g, Sg G n0 g F r env σ S H ∧ PoO G n0 g F r env σ (f env S) T
theorem poI {e : Option Expr} {t t' : TO} (h : PO X e t) (w : ∀ σ H Q, t' σ H Q → t σ H Q) : PO X e t' := ⟨fun pins s σ H Q I q => h.run pins s σ H Q I (w σ H Q q)⟩
theorem so_none {n0 : Nat} : PO X none (rdO G n0 pNo) := poI po_none fun σ H Q ⟨F, r, env, S, g, s, h⟩ => h F r H (.refl F r) s
theorem cnO {n0 : Nat} {g : Gh} {F : Hp} {r : List Addr} {env : Env} {σ : L2.St} {T : Option Int → Hp → Prop} : Cn fun z => PoO G n0 g F r env σ z T := ⟨fun h => h, fun _ _ _ h => h⟩
theorem so_some {n0 : Nat} {e : Expr} {fe : SE} (he : PE X e (rdE G n0 fe)) : PO X (some e) (rdO G n0 (pSo fe)) := by
  refine poI (po_some (toV he)) fun σ H T ⟨F, r, env, S, g, s, h⟩ => ?_
  refine stV s cnO h fun p S1 F1 r1 H1 u x1 s1 q1 h1 => ?_
  obtain ⟨b, v⟩ := p
  cases v with
  | int i => exact ⟨i, q1, h1 F1 r1 H1 x1 s1⟩
  | _ => exact False.elim h1
theorem stO {n0 : Nat} {g : Gh} {F : Hp} {r : List Addr} {env : Env} {σ : L2.St} {S : Store} {H : Hp} {f : SO} {T : Option Int → Hp → Prop} {α : Type} {kk : Option Int → Store → R α} {C : R α → Prop} (s : Sg G n0 g F r env σ S H) (cn : Cn C) (h : C ((f env S).bind kk))
    (step : ∀ p S' F' r' H', Ext F F' r r' → Sg G n0 g F' r' env σ S' H' → C (kk p S') → T p H') : rdO G n0 f σ H T := by
  refine ⟨F, r, env, S, g, s, ?_⟩
  cases e : f env S with
  | ok p S' => rw [e] at h; exact fun F' r' H' ex s' => step p S' F' r' H' ex s' h
  | ex c p S' => rw [e] at h; exact (cn.ex c p S' h).elim
  | no => rw [e] at h; exact (cn.no h).elim
theorem RVs.drop {F : Hp} {r : List Addr} : ∀ {vs : List PV} {us : List V} (n : Nat), RVs G F r vs us → RVs G F r (vs.drop n) (us.drop n)
  | _, _, 0, q => q
  | [], us, n + 1, q => by
    have e : us = [] := q
    subst e
    exact rfl
  | v :: vs, us, n + 1, q => by
    obtain ⟨u, ur, rfl, k, l⟩ := q
    exact RVs.drop n l
theorem RVs.take {F : Hp} {r : List Addr} : ∀ {vs : List PV} {us : List V} (n : Nat), RVs G F r vs us → RVs G F r (vs.take n) (us.take n)
  | _, _, 0, q => rfl
  | [], us, n + 1, q => by
    have e : us = [] := q
    subst e
    exact rfl
  | v :: vs, us, n + 1, q => by
    obtain ⟨u, ur, rfl, k, l⟩ := q
    exact ⟨u, ur.take n, rfl, k, RVs.take n l⟩
theorem RVs.cut {F : Hp} {r : List Addr} {vs : List PV} {us : List V} (lo hi : Option Int) (q : RVs G F r vs us) : RVs G F r (cutP vs lo hi) (cutV us lo hi) := by
  unfold cutP cutV
  rw [sIxP_eq, sIxP_eq, RVs.length q]
  exact (q.drop _).take _
def rSlG (K : PySem.W.Frag) : V → Option Int → Option Int → Hp → VK → Prop := fun x lo hi H Q => rSlL K x lo hi H Q ∨ rSlA K x lo hi H Q
theorem sl_any : SlR X (rSlG X.K) := sl_list.or sl_tupA
theorem se_sl {n0 : Nat} {a : Expr} {lo hi : Option Expr} {fa : SE} {fl fh : SO} {p2 pos : Pos} (hK : G.K = X.K) (ha : PE X a (rdE G n0 fa)) (hl : PO X lo (rdO G n0 fl)) (hh : PO X hi (rdO G n0 fh)) : PE X (.Subscript a (.Slice lo hi none p2) pos) (rdE G n0 (eSl fa fl fh)) := by
  refine peI (pe_slice sl_any (toV ha) hl hh) fun σ H Q ⟨F, r, env, S, g, s, h⟩ => ?_
  refine stV s cnE h fun p S1 F1 r1 H1 u x1 s1 q1 h1 => ?_
  refine stO s1 cnE h1 fun l S2 F2 r2 H2 x2 s2 h2 => ?_
  refine stO s2 cnE h2 fun m S3 F3 r3 H3 x3 s3 h3 => ?_
  have q3 := q1.ext (x2.trans x3)
  have xx := (x1.trans x2).trans x3
  rw [← hK]
  unfold slP at h3
  split at h3
  · rename_i xs ed
    obtain ⟨a', us, rfl, k1, k2⟩ := view_lst s3.hr q3 ed
    refine .inl ⟨a', us, rfl, .inl k1, fun p' hp => ?_⟩
    obtain ⟨h4, k4⟩ := new_obj s3.hr hp (v := .lst (cutP xs l m)) ⟨_, rfl, k2.cut l m⟩ rfl
    exact h3 F3 r3 _ _ xx (s3.ext (.refl _ _) h4) k4
  · rename_i xs ed
    rcases view s3.hr q3 ed with ⟨k1, _⟩ | ⟨a, ho, e1, e2, k1⟩
    · obtain ⟨a', us, rfl, k2, k3⟩ := id k1
      refine .inr ⟨a', us, rfl, s3.hr.sub.tp k2, fun hw => ?_, fun hw p' hp => ?_⟩
      · have e : cutP xs l m = xs := by
          unfold cutP
          rw [sIxP_eq, sIxP_eq, RVs.length k3, hw.1, hw.2, List.drop_zero, ← RVs.length k3]
          simp
        rw [e] at h3
        exact h3 F3 r3 H3 _ xx s3 k1
      · obtain ⟨F4, x4, h4, k4⟩ := new_tup s3.hr hp (k3.cut l m)
        exact h3 F4 r3 _ _ (xx.trans x4) (s3.ext x4 h4) k4
    · exact k1.elim
  · exact False.elim h3
end
end PX
set_option Elab.async false
set_option linter.all false
set_option maxRecDepth 100000
namespace PX
open PySem PySem.Spec PyProof.Rows L2
/-! ### changes of lists -/
def mayPutL (n0 i : Nat) : List PV → Bool
  | [] => true
  | v :: vs => mayPut n0 i v && mayPutL n0 i vs
def isL (S : Store) (v : PV) : Bool := match deref S v with
  | some (.lst _) => true
  | _ => false
def appL (n0 : Nat) (o v : PV) (S : Store) : Option Store := match o with
  | .ref i => match S[i]? with
    | some (.lst xs) => if mayPut n0 i v && small xs.length then some (S.set i (.lst (xs ++ [v]))) else none
    | _ => none
  | _ => none
def extL (n0 : Nat) (o v : PV) (S : Store) : Option Store := match o with
  | .ref i => match S[i]? with
    | some (.lst xs) => match lstOf S v with
      | some ys => if mayPutL n0 i ys && small (xs.length + ys.length) then some (S.set i (.lst (xs ++ ys))) else none
      | none => none
    | _ => none
  | _ => none
/-! o.m(a), m a method of lists that changes the list and gives None -/
def eLm (f : PV → PV → Store → Option Store) (o a : SE) : SE := fun env S => (o env S).bind fun p S1 => if isL S1 p.2 then (a env S1).bind fun q S2 => match f p.2 q.2 S2 with
    | some S3 => .ok (false, .non) S3
    | none => .no
  else .no
def setL (n0 : Nat) (o k v : PV) (S : Store) : Option Store := match o with
  | .ref i => match S[i]? with
    | some (.lst xs) => match k with
      | .int j => match ixP xs.length j with
        | some m => if mayPut n0 i v then some (S.set i (.lst (xs.set m v))) else none
        | none => none
      | _ => none
    | _ => none
  | _ => none
def sSetI (f : PV → PV → PV → Store → Option Store) (o k e : SE) : SS := fun env S => (e env S).go fun p S1 => (o env S1).go fun q S2 => (k env S2).go fun z S3 => match f q.2 z.2 p.2 S3 with
  | some S4 => .nx env S4
  | none => .no
def sAugI (op : Op2) (gt : Op2) (f : PV → PV → PV → Store → Option Store) (o k e : SE) : SS := fun env S => (o env S).go fun p S1 => (k env S1).go fun q S2 => match gt p.2 q.2 S2 with
  | some x => (e env S2).go fun z S3 => match op x.2 z.2 S3 with
    | some y => match f p.2 q.2 y.2 S3 with
      | some S4 => .nx env S4
      | none => .no
    | none => .no
  | none => .no

section
variable {X : Cx} {G : Gam}
/-! + of lists -/
def rCatR (K : PySem.W.Frag) : R2 := fun x y H Q => (∃ l b xs zs, x = .ref l ∧ y = .ref b ∧ Rd H l (.lst xs) ∧ Rd H b (.lst zs) ∧ xs.length + zs.length ≤ sizeLine ∧ ∀ p, H p = none → Q (.ref p) (upd H p (.lst (xs ++ zs)))) ∨ rCatA K x y H Q ∨ rI0 (fun i j => .int (i + j)) x y H Q
theorem op_catR : OpR X (binaryOp .Add) (rCatR X.K) := by
  intro pins s σ H x y v u Q I rx ry h
  rcases h with h | h | h
  · obtain ⟨l, b, xs, zs, rfl, rfl, hH, hB, hz, q⟩ := h
    cases rx
    cases ry
    obtain ⟨z, its, n, r, e⟩ := hH.ok I.hok
    obtain ⟨z2, its2, n2, r2, e2⟩ := hB.ok I.hok
    have hl := r.length
    have hl2 := r2.length
    refine PySem.P.add_list e e2 ?_ (by rw [List.size_toArray, List.size_toArray]; omega)
    have ea : its.toArray ++ its2.toArray = (its ++ its2).toArray := by simp
    rw [ea]
    exact ⟨.ref _, _, I.lnew (t' := s.toks) (r.append r2) (by rw [List.length_append]; omega), rfl, q _ I.fresh⟩
  · exact op_catA pins s σ H x y v u Q I rx ry h
  · exact op_add pins s σ H x y v u Q I rx ry h
theorem ok_cat : Ok2 G oCat (rCatR G.K) := fun n0 g F r S H x y u v z Q h q1 q2 e k => by
  unfold oCat at e
  split at e
  · rename_i xs ex
    split at e
    · rename_i ys ey
      split at e
      · rename_i hz
        cases e
        obtain ⟨a, us, rfl, k1, k2⟩ := view_lst h q1 ex
        obtain ⟨b, vs, rfl, l1, l2⟩ := view_lst h q2 ey
        refine .inl ⟨a, b, us, vs, rfl, rfl, k1, l1, by rw [← RVs.length k2, ← RVs.length l2]; exact small_le hz, fun p hp => ?_⟩
        obtain ⟨h2, k3⟩ := new_obj h hp (v := .lst (xs ++ ys)) ⟨_, rfl, k2.append l2⟩ rfl
        exact k F r _ _ (.refl F r) h2 k3
      · cases e
    · cases e
  · rename_i xs ex
    split at e
    · rename_i ys ey
      split at e
      · rename_i hz
        cases e
        rcases view h q1 ex with ⟨k0, _⟩ | ⟨_, _, _, _, k0⟩
        · rcases view h q2 ey with ⟨l0, _⟩ | ⟨_, _, _, _, l0⟩
          · obtain ⟨a, us, rfl, k1, k2⟩ := id k0
            obtain ⟨b, vs, rfl, l1, l2⟩ := id l0
            refine .inr (.inl ⟨a, b, us, vs, rfl, rfl, h.sub.tp k1, h.sub.tp l1, by rw [← RVs.length k2, ← RVs.length l2]; exact small_le hz, fun hx => ?_, fun hx hy => ?_, fun hx hy p hp => ?_⟩)
            · have e1 : xs = [] := List.eq_nil_of_length_eq_zero (by rw [RVs.length k2, hx]; rfl)
              refine k F r H _ (.refl F r) h ?_
              show RV G F r (.tup (xs ++ ys)) _
              rw [e1]
              exact l0
            · have e1 : ys = [] := List.eq_nil_of_length_eq_zero (by rw [RVs.length l2, hy]; rfl)
              refine k F r H _ (.refl F r) h ?_
              show RV G F r (.tup (xs ++ ys)) _
              rw [e1, List.append_nil]
              exact k0
            · obtain ⟨F4, x4, h4, k4⟩ := new_tup h hp (k2.append l2)
              exact k F4 r _ _ x4 h4 k4
          · exact l0.elim
        · exact k0.elim
      · cases e
    · cases e
  · rename_i i ex
    split at e
    · cases e
      exact .inr (.inr ⟨_, _, view_int h q1 ex, q2, k F r H _ (.refl F r) h rfl⟩)
    · cases e
  · cases e
/-! * -/
def rRepR : R2 := fun x y H Q => (∃ l k xs, x = .ref l ∧ y = .int k ∧ Rd H l (.lst xs) ∧ -1000 ≤ k ∧ k ≤ 1000 ∧ xs.length ≤ 1000 ∧ ∀ p, H p = none → Q (.ref p) (upd H p (.lst (List.replicate k.toNat xs).flatten))) ∨ rI CMul (fun i j => .int (i * j)) x y H Q
theorem op_repR : OpR X (binaryOp .Mult) rRepR := by
  intro pins s σ H x y v u Q I rx ry h
  rcases h with h | h
  · obtain ⟨l, k, xs, rfl, rfl, hH, h1, h2, hx, q⟩ := h
    cases rx
    obtain ⟨t, rfl⟩ := ry
    obtain ⟨z, its, n, r, e⟩ := hH.ok I.hok
    have hl := r.length
    have hm : its.length * k.toNat ≤ 1000 * 1000 := Nat.mul_le_mul (by omega) (by omega)
    have hs : (1000 * 1000 : Nat) ≤ sizeLine := by rw [sizeLine_eq]; decide
    have hlen : its.toArray.size * k.toNat ≤ sizeLine := by rw [List.size_toArray]; exact Nat.le_trans hm hs
    have hcap : ¬ its.toArray.size * k.toNat > (2 ^ 63 - 1) / 8 := by
      have : (sizeLine : Nat) ≤ (2 ^ 63 - 1) / 8 := by decide
      omega
    have hfit : ¬ (!Builtin.List.listFitsIndex k) = true := by
      rw [fitsIndex_both (by omega) (by omega)]
      exact Bool.false_ne_true
    have hlong : ¬ Builtin.List.listTooLong (its.toArray.size * k.toNat) = true := by
      rw [notLongL hlen]
      exact Bool.false_ne_true
    have hnew : List.foldl (fun x1 x2 => x1 ++ x2) #[] (List.replicate (if its.toArray.isEmpty = true then 0 else k.toNat) its.toArray) = (List.replicate k.toNat its).flatten.toArray := by
      have f0 : ∀ m : Nat, List.foldl (fun x1 x2 => x1 ++ x2) #[] (List.replicate m its.toArray) = (List.replicate m its).flatten.toArray := fun m => by
        have := foldl_rep its m []
        rw [List.nil_append] at this
        exact this
      rw [f0]
      cases its with
      | nil => simp
      | cons a r' => rw [if_neg (by simp)]
    refine wpAny_binaryOp_repeat_ref (T := "list") (U := "int") (by decide) ⟨_, e, rfl⟩ (fun s' => typeIs_int s' k t) noFill_list_mul F.fills_int_mul F.slot_int_rmul repeat_list F.slot_int_index.lookup
      (call_meets F.slot_int_rmul (typeIs_int s k t) F.entry_int_rmul (F.args_int_rmul_2 _ _) (int___rmul___int_list k t l its.toArray n)
        ⟨e, rfl, ⟨_, e, rfl⟩, call_meets F.slot_list_mul ⟨_, e, rfl⟩ F.entry_list_mul (F.args_list_mul_2 _ _) (AutoListH.list___mul___list_int_3 l its.toArray n k t hfit hcap hlong) ⟨e, ?_⟩⟩)
    rw [hnew]
    exact ⟨.ref _, _, I.lnew (t' := s.toks) (r.rep k.toNat) (by rw [PyProof.Rows.lm_len_rep_flat, Nat.mul_comm, hl]; omega), rfl, q _ I.fresh⟩
  · exact op_mul pins s σ H x y v u Q I rx ry h
theorem RVs.rep {F : Hp} {r : List Addr} {vs : List PV} {us : List V} (q : RVs G F r vs us) : ∀ n : Nat, RVs G F r (List.replicate n vs).flatten (List.replicate n us).flatten
  | 0 => rfl
  | n + 1 => by
    rw [List.replicate_succ, List.replicate_succ, List.flatten_cons, List.flatten_cons]
    exact q.append (RVs.rep q n)
theorem ok_rep : Ok2 G oRep rRepR := fun n0 g F r S H x y u v z Q h q1 q2 e k => by
  unfold oRep at e
  split at e
  · rename_i m
    split at e
    · rename_i xs ex
      split at e
      · rename_i hz
        cases e
        simp only [Bool.and_eq_true, decide_eq_true_eq] at hz
        obtain ⟨a, us, rfl, k1, k2⟩ := view_lst h q1 ex
        refine .inl ⟨a, m, us, rfl, q2, k1, hz.1.1, hz.1.2, by rw [← RVs.length k2]; exact Nat.le_of_ble_eq_true hz.2, fun p hp => ?_⟩
        obtain ⟨h2, k3⟩ := new_obj h hp (v := .lst (List.replicate m.toNat xs).flatten) ⟨_, rfl, k2.rep _⟩ rfl
        exact k F r _ _ (.refl F r) h2 k3
      · cases e
    · rename_i i ex
      split at e
      · rename_i hm
        cases e
        refine .inr ⟨_, _, view_int h q1 ex, q2, ?_, k F r H _ (.refl F r) h rfl⟩
        unfold mulOk at hm
        simp only [Bool.or_eq_true, Bool.and_eq_true, decide_eq_true_eq] at hm
        unfold CMul
        omega
      · cases e
    · cases e
  · cases e
/-! ### a store object is changed -/
theorem noref_rv {F : Hp} {r r' : List Addr} : (∀ (v : PV) (u : V), noref v = true → RV G F r v u → RV G F r' v u) := by
  have key : ∀ (n : Nat) (v : PV), sizeOf v ≤ n → ∀ u, noref v = true → RV G F r v u → RV G F r' v u := by
    intro n
    induction n with
    | zero =>
      intro v hv
      cases v <;> simp at hv
    | succ n ih =>
      intro v hv u hn q
      have all : ∀ (vs : List PV), sizeOf vs ≤ n → ∀ us, noref.norefL vs = true → RVs G F r vs us → RVs G F r' vs us := by
        intro vs
        induction vs with
        | nil => intro _ us _ q; exact q
        | cons w ws ihw =>
          intro hs us hn q
          obtain ⟨u, ur, rfl, k, l⟩ := q
          simp only [noref.norefL, Bool.and_eq_true] at hn
          simp only [List.cons.sizeOf_spec] at hs
          exact ⟨u, ur, rfl, ih w (by omega) u hn.1 k, ihw (by omega) ur hn.2 l⟩
      cases v with
      | non => exact q
      | bl => exact q
      | int => exact q
      | str => exact q
      | ref i => exact absurd hn (by simp [noref])
      | lck => exact q.elim
      | tup xs =>
        obtain ⟨a, us, e, k1, k2⟩ := q
        simp only [PV.tup.sizeOf_spec] at hv
        exact ⟨a, us, e, k1, all xs (by omega) us hn k2⟩
      | lst xs =>
        obtain ⟨a, us, e, k1, k2⟩ := q
        simp only [PV.lst.sizeOf_spec] at hv
        exact ⟨a, us, e, k1, all xs (by omega) us hn k2⟩
      | dct ks vs =>
        obtain ⟨a, us, ho, e, k1, d, k2⟩ := q
        simp only [PV.dct.sizeOf_spec] at hv
        exact ⟨a, us, ho, e, k1, d, all vs (by omega) us hn k2⟩
      | ins c ns vs =>
        obtain ⟨a, dx, us, e, k1, d, k2⟩ := q
        simp only [PV.ins.sizeOf_spec] at hv
        exact ⟨a, dx, us, e, k1, d, all vs (by omega) us hn k2⟩
  exact fun v u => key (sizeOf v) v (Nat.le_refl _) u
theorem put_rv {n0 i : Nat} {L : Nat → Nat} {F : Hp} {r : List Addr} {v : PV} {u : V} (h : mayPut n0 i v = true) (q : RV G F r v u) : RV G F (lim n0 L r i) v u := by
  unfold mayPut at h
  rw [Bool.or_eq_true] at h
  rcases h with h | h
  · unfold lim
    rw [if_neg (by have := Nat.le_of_ble_eq_true h; omega)]
    exact q
  · exact noref_rv v u h q
theorem put_rvs {n0 i : Nat} {L : Nat → Nat} {F : Hp} {r : List Addr} : ∀ {vs : List PV} {us : List V}, mayPutL n0 i vs = true → RVs G F r vs us → RVs G F (lim n0 L r i) vs us
  | [], _, _, q => q
  | v :: vs, us, h, q => by
    obtain ⟨u, ur, rfl, k, l⟩ := q
    simp only [mayPutL, Bool.and_eq_true] at h
    exact ⟨u, ur, rfl, put_rv h.1 k, put_rvs h.2 l⟩
theorem HR.put {n0 : Nat} {g : Gh} {F : Hp} {r : List Addr} {S : Store} {H : Hp} {i : Nat} {a : Addr} {ob ob' : PV} {ho' : HO} (h : HR G n0 g F r S H) (e1 : r[i]? = some a) (e2 : S[i]? = some ob) (hu : unl ob = ob) (hu' : unl ob' = ob')
    (ro : RO G F (lim n0 g.L r i) ob' ho') : HR G n0 g F r (S.set i ob') (upd H a ho') := by
  have hp := h.nopin e1 e2 hu
  have hi : i < S.length := (List.getElem?_eq_some_iff.mp e2).1
  have hF := h.off a (List.mem_of_getElem? e1)
  have ne_of_pin : ∀ b o, g.pn b = some o → b ≠ a := fun b o e z => by rw [z, hp] at e; cases e
  have lck_ne : ∀ w : PV, PV.lck w ≠ ob' := fun w z => by
    rw [← z] at hu'
    have e4 : w = .lck w := hu'
    exact absurd e4 (by intro z; have := congrArg sizeOf z; simp at this)
  refine ⟨fun b o e => ?_, h.nd, h.off, by rw [List.length_set]; exact h.len, by rw [List.length_set]; exact h.nle, h.lle, fun j oj b e3 e4 => ?_, fun b o e => ?_, fun j oj b e3 e4 => ?_, h.out⟩
  · rw [upd_ne (fun z => by rw [z, hF] at e; cases e)]
    exact h.sub b o e
  · by_cases hj : j = i
    · subst hj
      rw [List.getElem?_set_self hi] at e3
      cases e3
      rw [e1] at e4
      cases e4
      exact ⟨ho', .mk upd_same (isLk_unl hu'), ro⟩
    · rw [List.getElem?_set_ne (Ne.symm hj)] at e3
      obtain ⟨ho, q1, q2⟩ := h.obj j oj b e3 e4
      refine ⟨ho, q1.upd (fun z => ?_), q2⟩
      · rw [z] at e4
        obtain ⟨h2, e2'⟩ := List.getElem?_eq_some_iff.mp e1
        obtain ⟨h3, e3'⟩ := List.getElem?_eq_some_iff.mp e4
        exact hj ((List.getElem_inj h.nd).mp (e3'.trans e2'.symm))
  · obtain ⟨q1, q2, q3⟩ := h.pin b o e
    refine ⟨by rw [upd_ne (ne_of_pin b o e)]; exact q1, q2, fun j hj => ?_⟩
    obtain ⟨w, hw⟩ := q3 j hj
    refine ⟨w, ?_⟩
    rw [List.getElem?_set_ne (fun z => ?_)]
    · exact hw
    · subst z
      rw [e1] at hj
      cases hj
      exact ne_of_pin _ o e rfl
  · by_cases hj : j = i
    · subst hj
      rw [List.getElem?_set_self hi] at e3
      exact absurd (Option.some.inj e3).symm (lck_ne oj)
    · rw [List.getElem?_set_ne (Ne.symm hj)] at e3
      exact h.lckd j oj b e3 e4
theorem store_lst {n0 : Nat} {g : Gh} {F : Hp} {r : List Addr} {S : Store} {H : Hp} {i : Nat} {u : V} {xs : List PV} (h : HR G n0 g F r S H) (q : RV G F r (.ref i) u) (e : S[i]? = some (.lst xs)) :
    ∃ a us, u = .ref a ∧ r[i]? = some a ∧ H a = some (.lst us) ∧ RVs G F (lim n0 g.L r i) xs us := by
  obtain ⟨a, e1, rfl⟩ := q
  obtain ⟨ho, h1, h2⟩ := h.obj i _ a e e1
  obtain ⟨us, rfl, k⟩ := h2
  exact ⟨a, us, rfl, e1, h1.nl rfl, k⟩
theorem small_lt {n : Nat} (h : small n = true) : n < sizeLine := by
  have : n ≤ 1000000 := Nat.le_of_ble_eq_true h
  exact Nat.lt_of_le_of_lt this (by rw [sizeLine_eq]; decide)
def Chg (G : Gam) (n0 : Nat) (f : PV → PV → Store → Option Store) (t : V → List V → Hp → VK → Prop) : Prop := ∀ g F r S H o v u w S' Q, HR G n0 g F r S H → RV G F r o u → RV G F r v w → f o v S = some S' →
  (∀ H', HR G n0 g F r S' H' → Q .non H') → t u [w] H Q
theorem chg_app {n0 : Nat} : Chg G n0 (appL n0) rAppend := fun g F r S H o v u w S' Q h q1 q2 e k => by
  unfold appL at e
  split at e
  · split at e
    · rename_i i xs es
      split at e
      · rename_i hm
        cases e
        rw [Bool.and_eq_true] at hm
        obtain ⟨a, us, rfl, e1, e2, k2⟩ := store_lst h q1 es
        refine ⟨a, us, w, rfl, rfl, e2, by rw [← RVs.length k2]; exact small_lt hm.2, k _ (h.put e1 es rfl rfl ⟨_, rfl, k2.append ⟨w, [], rfl, put_rv hm.1 q2, rfl⟩⟩)⟩
      · cases e
    · cases e
  · cases e
/-! extend by a list of the store or a fresh one: its address is not the changed list's -/
def rExtR : V → List V → Hp → VK → Prop := fun x vs H Q => ∃ l b xs zs, x = .ref l ∧ vs = [.ref b] ∧ H l = some (.lst xs) ∧ Rd H b (.lst zs) ∧ xs.length + zs.length ≤ sizeLine ∧ Q .non (upd H l (.lst (xs ++ zs)))
theorem mt_extR : MtM X "list.extend" rExtR := by
  intro pins s σ H x vs v us Q I rx rv h
  obtain ⟨l, b, xs, zs, rfl, rfl, hH, hB, hz, q⟩ := h
  cases rx
  obtain ⟨u, rfl, ru⟩ := rv.one
  cases ru
  obtain ⟨z, its, n, r, hl, e⟩ := I.lstM hH
  obtain ⟨z2, its2, n2, r2, e2⟩ := hB.ok I.hok
  have hl2 := r2.length
  have hsz : its.toArray.size + its2.toArray.size ≤ sizeLine := by rw [List.size_toArray, List.size_toArray]; omega
  have hlong : ¬ (!its.toArray.isEmpty && Builtin.List.listTooLong (its.toArray.size + its2.toArray.size)) = true := by
    rw [notLongL hsz, Bool.and_false]
    exact Bool.false_ne_true
  refine call_meets F.slot_list_extend ⟨_, e, rfl⟩ F.entry_list_extend (F.args_list_extend_2 _ _)
    (AutoSeq1.list_extend_list_list_0 l its.toArray n b its2.toArray n2 hlong (by rw [List.size_toArray]; omega) (by omega)) ⟨e, e2, ?_⟩
  refine ⟨.non, _, I.lset (its' := its ++ its2) hH e (by simp) (r.append r2) ?_, rfl, q⟩
  rw [List.length_append]
  omega
theorem chg_ext {n0 : Nat} : Chg G n0 (extL n0) rExtR := fun g F r S H o v u w S' Q h q1 q2 e k => by
  unfold extL at e
  split at e
  · split at e
    · rename_i i xs es
      split at e
      · rename_i ys ey
        split at e
        · rename_i hm
          cases e
          rw [Bool.and_eq_true] at hm
          obtain ⟨a, us, rfl, e1, e2, k2⟩ := store_lst h q1 es
          obtain ⟨b, zs, rfl, l1, l2⟩ := view_lstOf h q2 ey
          exact ⟨a, b, us, zs, rfl, rfl, e2, l1, by rw [← RVs.length k2, ← RVs.length l2]; exact small_le hm.2, k _ (h.put e1 es rfl rfl ⟨_, rfl, k2.append (put_rvs hm.1 l2)⟩)⟩
        · cases e
      · cases e
    · cases e
  · cases e
theorem se_lm {n0 : Nat} {ex : Expr} {fo fa : SE} {f : PV → PV → Store → Option Store} {t : V → List V → Hp → VK → Prop} (hK : G.K = X.K) (ho : Chg G n0 f t) (hp : PE X ex (tBM X.K "list" t (rdV G n0 fo) (tCons (rdV G n0 fa) tNil))) : PE X ex (rdE G n0 (eLm f fo fa)) := by
  refine peI hp fun σ H Q ⟨F, r, env, S, g, s, h⟩ => ?_
  refine stV s cnE h fun p S1 F1 r1 H1 u x1 s1 q1 h1 => ?_
  split at h1
  · rename_i hl
    unfold isL at hl
    split at hl
    · rename_i xs ed
      obtain ⟨a, us, rfl, k1, k2⟩ := view_lst s1.hr q1 ed
      refine ⟨.inl ⟨rfl, us, .inl k1⟩, ?_⟩
      refine stV s1 cnE h1 fun q S2 F2 r2 H2 w x2 s2 q2 h2 => ?_
      cases ef : f p.2 q.2 S2 with
      | none => rw [ef] at h2; exact h2.elim
      | some S3 =>
        rw [ef] at h2
        exact ho g F2 r2 S2 H2 p.2 q.2 _ w S3 Q s2.hr (q1.ext x2) q2 ef fun H' hr => h2 F2 r2 H' .non (x1.trans x2) (s2.ext (.refl _ _) hr) rfl
    · cases hl
  · exact h1.elim
/-! o[k] = e -/
def ChgI (G : Gam) (n0 : Nat) (f : PV → PV → PV → Store → Option Store) (t : TSet) : Prop := ∀ g F r S H o k v u y w S' Q, HR G n0 g F r S H → RV G F r o u → RV G F r k y → RV G F r v w → f o k v S = some S' →
  (∀ H', HR G n0 g F r S' H' → Q H') → t u y w H Q
theorem chg_setL {n0 : Nat} : ChgI G n0 (setL n0) rSetL := fun g F r S H o k v u y w S' Q h q1 q2 q3 e kk => by
  unfold setL at e
  split at e
  · rename_i i
    split at e
    · rename_i xs es
      split at e
      · rename_i j
        split at e
        · rename_i m em
          split at e
          · rename_i hm
            cases e
            obtain ⟨a, us, rfl, e1, e2, k2⟩ := store_lst h q1 es
            refine ⟨a, us, j, m, rfl, q2, e2, by rw [← RVs.length k2, ← ixP_eq]; exact em, kk _ (h.put e1 es rfl rfl ⟨_, rfl, RVs.set (put_rv hm q3) m k2⟩)⟩
          · cases e
        · cases e
      · cases e
    · cases e
  · cases e
theorem ss_setI {n0 : Nat} {st : Stmt} {fo fk fe : SE} {f : PV → PV → PV → Store → Option Store} {t : TSet} (ho : ChgI G n0 f t) (hp : PS X st (tAsg (rdV G n0 fe) (gSub (rdV G n0 fo) (rdV G n0 fk) t))) : PS X st (rdS G n0 (sSetI f fo fk fe)) := by
  refine psI hp fun D σ H ⟨F, r, env, S, g, s, h⟩ => ?_
  refine sgV s h fun p S1 F1 r1 H1 w x1 s1 q1 h1 => ?_
  have h1 := PoS.ext h1 x1
  refine sgV s1 h1 fun q S2 F2 r2 H2 u x2 s2 q2 h2 => ?_
  have h2 := PoS.ext h2 x2
  refine sgV s2 h2 fun z S3 F3 r3 H3 y x3 s3 q3 h3 => ?_
  cases ef : f q.2 z.2 p.2 S3 with
  | none => rw [ef] at h3; exact False.elim h3
  | some S4 =>
    rw [ef] at h3
    exact ho g F3 r3 S3 H3 q.2 z.2 p.2 u y w S4 _ s3.hr (q2.ext x3) q3 (q1.ext (x2.trans x3)) ef fun H' hr => h3 F3 r3 H' σ x3 (s3.ext (.refl _ _) hr)
theorem ss_augI {n0 : Nat} {st : Stmt} {fo fk fe : SE} {f : PV → PV → PV → Store → Option Store} {op gt : Op2} {t : TSet} {tg tp : R2} (hg : Ok2 G gt tg) (hop : Ok2 G op tp) (ho : ChgI G n0 f t) (hp : PS X st (tAugS (rdV G n0 fo) (rdV G n0 fk) (rdV G n0 fe) tg tp t)) : PS X st (rdS G n0 (sAugI op gt f fo fk fe)) := by
  refine psI hp fun D σ H ⟨F, r, env, S, g, s, h⟩ => ?_
  refine sgV s h fun p S1 F1 r1 H1 u x1 s1 q1 h1 => ?_
  have h1 := PoS.ext h1 x1
  refine sgV s1 h1 fun q S2 F2 r2 H2 y x2 s2 q2 h2 => ?_
  have h2 := PoS.ext h2 x2
  cases eg : gt p.2 q.2 S2 with
  | none => rw [eg] at h2; exact False.elim h2
  | some x =>
    rw [eg] at h2
    refine hg n0 g F2 r2 S2 H2 p.2 q.2 u y x _ s2.hr (q1.ext x2) q2 eg fun F3 r3 H3 w x3 hr3 rf => ?_
    obtain ⟨F4, x4, hr4, q4⟩ := freeze hr3 rf
    have s4 := s2.ext (x3.trans x4) hr4
    have x34 := x3.trans x4
    have h3 := PoS.ext h2 x34
    refine sgV s4 h3 fun z S5 F5 r5 H5 w5 x5 s5 q5 h5 => ?_
    have h5 := PoS.ext h5 x5
    cases eo : op x.2 z.2 S5 with
    | none => rw [eo] at h5; exact False.elim h5
    | some v6 =>
      simp only [eo] at h5
      refine hop n0 g F5 r5 S5 H5 x.2 z.2 w w5 v6 _ s5.hr (q4.ext x5) q5 eo fun F6 r6 H6 w6 x6 hr6 rf6 => ?_
      obtain ⟨F7, x7, hr7, q7⟩ := freeze hr6 rf6
      have x67 := x6.trans x7
      cases ef : f p.2 q.2 v6.2 S5 with
      | none => rw [ef] at h5; exact False.elim h5
      | some S7 =>
        rw [ef] at h5
        have xa : Ext F2 F7 r2 r6 := (x34.trans x5).trans x67
        exact ho g F7 r6 S5 H6 p.2 q.2 v6.2 u y w6 S7 _ hr7 ((q1.ext x2).ext xa) (q2.ext xa) q7 ef fun H' hr => h5 F7 r6 H' σ x67 ((s5.ext x67 hr7).ext (.refl _ _) hr)
end
end PX
set_option Elab.async false
set_option linter.all false
set_option maxRecDepth 100000
namespace PX
open PySem PySem.Spec PyProof.Rows L2

/-! the defs at hand: what a body may lean on -/
structure Tb (X : Cx) (G : Gam) (cf : CF) (k : Nat) : Prop where
  hK : G.K = X.K
  call : ∀ f np, FnR X.prog X.w X.K X.mg X.base L2.CX0 k (G.fa f) (spF G cf f np)
  room : Room (k + 1) X.A
  calm : X.calm = true
/-! a name of an attribute is no other's -/
def Inj (G : Gam) (f : Nat) : Prop := ∀ j, G.nm j = G.nm f → j = f
structure ClsI (G : Gam) (c : Nat) : Prop where
  cls : Cls G.K (G.ca c)
  isi : SlX.SIsi G.K (G.ca c)

section
variable {G : Gam} {F : Hp} {r : List Addr}
theorem fld_look {f : Nat} (hi : Inj G f) : ∀ {ns : List Nat} {vs : List PV} {us : List V} {w : PV}, ns.length = us.length → RVs G F r vs us → (ns.zip vs).lookup f = some w → ∃ y, ((ns.map G.nm).zip us).lookup (G.nm f) = some y ∧ RV G F r w y
  | [], _, _, _, _, _, e => by cases e
  | n :: ns, [], us, w, _, _, e => by cases e
  | n :: ns, v :: vs, us, w, hl, q, e => by
    obtain ⟨u, ur, rfl, k, l⟩ := q
    rw [List.zip_cons_cons, List.lookup_cons] at e
    rw [List.map_cons, List.zip_cons_cons, List.lookup_cons]
    cases hb : f == n with
    | true =>
      rw [hb] at e
      cases e
      rw [beq_iff_eq.mp hb, beq_self_eq_true]
      exact ⟨u, rfl, k⟩
    | false =>
      rw [hb] at e
      have : (G.nm f == G.nm n) = false := by
        rw [beq_eq_false_iff_ne]
        intro z
        have := hi n z.symm
        rw [this, beq_self_eq_true] at hb
        cases hb
      rw [this]
      exact fld_look hi (by simpa using hl) l e
theorem fld_none {m : Nat} (hi : Inj G m) : ∀ {ns : List Nat} {us : List V}, ns.contains m = false → ((ns.map G.nm).zip us).lookup (G.nm m) = none
  | [], _, _ => rfl
  | n :: ns, [], _ => rfl
  | n :: ns, u :: us, h => by
    rw [List.contains_cons, Bool.or_eq_false_iff] at h
    rw [List.map_cons, List.zip_cons_cons, List.lookup_cons]
    have : (G.nm m == G.nm n) = false := by
      rw [beq_eq_false_iff_ne]
      intro z
      have := hi n z.symm
      rw [this, beq_self_eq_true] at h
      cases h.1
    rw [this]
    exact fld_none hi h.2
theorem fld_put {f : Nat} (hi : Inj G f) {v : PV} {y : V} (q : RV G F r v y) : ∀ {ns : List Nat} {vs : List PV} {us : List V}, ns.length = us.length → RVs G F r vs us →
    ∃ us', putF (G.nm f) y ((ns.map G.nm).zip us) = (((putFld f v ns vs).1).map G.nm).zip us' ∧ (putFld f v ns vs).1.length = us'.length ∧ RVs G F r (putFld f v ns vs).2 us' ∧ (putFld f v ns vs).1.length ≤ ns.length + 1
  | [], vs, us, hl, k => by
    cases us with
    | cons => cases hl
    | nil =>
      cases vs with
      | cons => obtain ⟨_, _, z, _⟩ := k; cases z
      | nil => exact ⟨[y], rfl, rfl, ⟨y, [], rfl, q, rfl⟩, Nat.le_refl _⟩
  | n :: ns, vs, us, hl, k => by
    cases us with
    | nil => cases hl
    | cons u us =>
      cases vs with
      | nil => cases (show (u :: us) = [] from k)
      | cons w ws =>
        obtain ⟨u', ur, e, k1, l⟩ := k
        cases e
        unfold putFld
        rw [List.map_cons, List.zip_cons_cons]
        unfold putF
        by_cases hn : n = f
        · subst hn
          rw [if_pos rfl, if_pos rfl]
          exact ⟨y :: us, rfl, by simpa using hl, ⟨y, us, rfl, q, l⟩, Nat.le_succ _⟩
        · rw [if_neg hn, if_neg (fun z => hn (hi n z))]
          obtain ⟨us', e1, e2, e3, e4⟩ := fld_put hi q (by simpa using hl) l
          refine ⟨u :: us', ?_, ?_, ⟨u, us', rfl, k1, e3⟩, ?_⟩
          · rw [e1]; rfl
          · show _ + 1 = _ + 1
            rw [e2]
          · show _ + 1 ≤ _ + 1
            exact Nat.succ_le_succ e4
end
section
variable {X : Cx} {G : Gam} {n0 : Nat} {cf : CF} {k : Nat}
/-! o.f -/
theorem se_fld {cs : List Nat} {f : Nat} {e : Expr} {fe : SE} {pos : Pos} (hK : G.K = X.K) (hi : Inj G f) (hc : ∀ c ∈ cs, Cls G.K (G.ca c) ∧ NoAttr G.K (G.ca c) (G.nm f)) (he : PE X e (rdE G n0 fe)) (hb : attributeBase e (G.nm f) X.env (eval e X.env) = eval e X.env := by rfl) :
    PE X (.Attribute e (G.nm f) pos) (rdE G n0 (eFld cs f fe)) := by
  refine peI (pe_fld (toV he) hb) fun σ H Q ⟨F, r, env, S, g, s, h⟩ => ?_
  refine stV s cnE h fun p S1 F1 r1 H1 u x1 s1 q1 h1 => ?_
  unfold fldOf at h1
  simp only at h1
  cases ed : deref S1 p.2 with
  | none => rw [ed] at h1; exact h1.elim
  | some o =>
    rw [ed] at h1
    cases o with
    | ins c ns vs =>
      simp only at h1
      cases hcs : cs.contains c with
      | false => rw [hcs] at h1; exact h1.elim
      | true =>
        rw [hcs, if_pos rfl] at h1
        cases el : (ns.zip vs).lookup f with
        | none => rw [el] at h1; exact h1.elim
        | some w =>
          rw [el] at h1
          obtain ⟨a, dx, us, rfl, k1, k2, k3⟩ := view_ins s1.hr q1 ed
          obtain ⟨y, e1, q2⟩ := fld_look hi k2 k3 el
          obtain ⟨h2, h3⟩ := hc c (by simpa using hcs)
          rw [← hK]
          exact ⟨a, G.ca c, dx, _, y, rfl, k1, h2, h3, e1, h1 F1 r1 H1 y x1 s1 q2⟩
    | _ => exact h1.elim
/-! o.f = e -/
theorem ss_fld {cs : List Nat} {f : Nat} {o e : Expr} {fo fe : SE} {pos pos' : Pos} (hK : G.K = X.K) (hi : Inj G f) (hc : ∀ c ∈ cs, Cls G.K (G.ca c) ∧ NoAttr G.K (G.ca c) (G.nm f)) (ho : PE X o (rdE G n0 fo)) (he : PE X e (rdE G n0 fe))
    (hs : swapsWith e (some (.Attribute o (G.nm f) pos')) pos.line X.env = pure false := by rfl) : PS X (.Assign [.Attribute o (G.nm f) pos'] e pos) (rdS G n0 (sFld n0 cs f fo fe)) := by
  refine psI (ps_fld (toV ho) (toV he) hs) fun D σ H ⟨F, r, env, S, g, s, h⟩ => ?_
  refine sgV s h fun p S1 F1 r1 H1 y x1 s1 q1 h1 => ?_
  have h1 := PoS.ext h1 x1
  refine sgV s1 h1 fun q S2 F2 r2 H2 u x2 s2 q2 h2 => ?_
  obtain ⟨b, v⟩ := q
  cases v with
  | ref i =>
    simp only at h2
    cases es : S2[i]? with
    | none => rw [es] at h2; exact False.elim h2
    | some ob =>
      rw [es] at h2
      cases ob with
      | ins c ns vs =>
        simp only at h2
        cases hcond : (cs.contains c && mayPut n0 i p.2 && Nat.ble ns.length 100) with
        | false => rw [hcond] at h2; exact False.elim h2
        | true =>
          rw [hcond, if_pos rfl] at h2
          rw [Bool.and_eq_true, Bool.and_eq_true] at hcond
          obtain ⟨⟨c1, c2⟩, c3⟩ := hcond
          obtain ⟨a, e1, rfl⟩ := q2
          obtain ⟨ho, k1, k2⟩ := s2.hr.obj i _ a es e1
          have k1 := k1.nl rfl
          obtain ⟨dx, us, rfl, k3, k4⟩ := k2
          obtain ⟨hc1, hc2⟩ := hc c (by simpa using c1)
          obtain ⟨us', e2, e3, e4, e5⟩ := fld_put hi (put_rv c2 (q1.ext x2)) k3 k4
          have hl : ns.length ≤ 100 := Nat.le_of_ble_eq_true c3
          rw [← hK]
          refine ⟨a, G.ca c, dx, _, rfl, k1, hc1, hc2, ?_, ?_⟩
          · rw [List.length_zip, List.length_map]
            omega
          · rw [e2]
            have hr := s2.hr.put (ob' := .ins c (putFld f p.2 ns vs).1 (putFld f p.2 ns vs).2) e1 es rfl rfl ⟨dx, us', rfl, e3, e4⟩
            exact h2 F2 r2 _ σ x2 ⟨hr, s2.sl, s2.vr⟩
      | _ => exact False.elim h2
  | _ => exact False.elim h2
/-! f(..) -/
theorem pe_callR {f : Addr} {sp : Sp} {x : Str} {p pos : Pos} {e : Expr} {es : List Expr} {t : TA} (F : FnR X.prog X.w X.K X.mg X.base L2.CX0 k f sp) (hr : Room k X.A) (hg : Gl X x) (hm : X.mg x = some (.ref f)) (hk : PySem.W.keepIn X.K (.ref f) = true)
    (ha : PA X (e :: es) t) (hdb : (x == ("__debug__" : Str)) = false := by decide) (he : starEach (e :: es) X.env = (false, eval e X.env) :: starEach es X.env := by rfl) (hpl : (backTo pos (starEach es X.env)).any (·.1) = false := by rfl) :
    PE X (.Call (.Name x p) (e :: es) [] pos) (tCall sp [] E0 t) := by
  refine ⟨fun pins s σ H Q I h => ?_⟩
  refine wpAny_Call_Name_kw (ld_glob I hg hm ?_ hdb)
  refine PySem.W.callWith_K (h₀ := X.base) I.ok.mod.kin hk (thn (ha.run pos pins s σ H _ I h) fun us s1 ⟨vs, H1, I1, r, q⟩ => ⟨I1.kIn, ?_⟩) he hpl
  have q : sp (vs ++ []) H1 Q E0 := q
  rw [List.append_nil] at q
  exact wpAny_call (run_fnR F hr pass0 I1 r q)
theorem pe_callR0 {f : Addr} {sp : Sp} {x : Str} {p pos : Pos} (F : FnR X.prog X.w X.K X.mg X.base L2.CX0 k f sp) (hr : Room k X.A) (hg : Gl X x) (hm : X.mg x = some (.ref f)) (hk : PySem.W.keepIn X.K (.ref f) = true)
    (hdb : (x == ("__debug__" : Str)) = false := by decide) : PE X (.Call (.Name x p) [] [] pos) (tCall sp [] E0 tNil) := by
  refine ⟨fun pins s σ H Q I h => ?_⟩
  refine wpAny_Call_Name_kw (ld_glob I hg hm ?_ hdb)
  exact PySem.W.callWith_K0 I.kIn hk (wpAny_call (run_fnR (us := []) F hr pass0 I .nil h))
theorem sx_call {f np : Nat} {x : Str} {p pos : Pos} {e : Expr} {es : List Expr} {fs : SA} (T : Tb X G cf k) (hg : Gl X x) (hm : X.mg x = some (.ref (G.fa f))) (hk : PySem.W.keepIn G.K (.ref (G.fa f)) = true) (ha : PA X (e :: es) (rdA G n0 fs))
    (hdb : (x == ("__debug__" : Str)) = false := by decide) (he : starEach (e :: es) X.env = (false, eval e X.env) :: starEach es X.env := by rfl) (hpl : (backTo pos (starEach es X.env)).any (·.1) = false := by rfl) :
    PE X (.Call (.Name x p) (e :: es) [] pos) (rdE G n0 (eCall cf np f fs)) := se_call (pe_callR (T.call f np) (T.room.mono (Nat.le_succ k)) hg hm (T.hK ▸ hk) ha hdb he hpl)
theorem sx_call0 {f : Nat} {x : Str} {p pos : Pos} (T : Tb X G cf k) (hg : Gl X x) (hm : X.mg x = some (.ref (G.fa f))) (hk : PySem.W.keepIn G.K (.ref (G.fa f)) = true)
    (hdb : (x == ("__debug__" : Str)) = false := by decide) : PE X (.Call (.Name x p) [] [] pos) (rdE G n0 (eCall cf 0 f aNil)) := by
  refine peI (pe_callR0 (T.call f 0) (T.room.mono (Nat.le_succ k)) hg hm (T.hK ▸ hk) hdb) fun σ H Q ⟨F, r, env, S, g, s, h⟩ => ?_
  exact run_call (E := E0) s (.refl F r) (show RVs G F r [] [] from rfl) rfl h
/-! o.m(..), the class found at the run -/
def tMethD (X : Cx) (k : Nat) (m : Str) (ta : TE) (t : TA) : TE := fun σ H Q => ta σ H fun x H1 => ∃ a C dx fs g sp, x = .ref a ∧ H1 a = some (.ins C dx fs) ∧ Cls X.K C ∧ Meth X.K C m g ∧ fs.lookup m = none ∧ FnR X.prog X.w X.K X.mg X.base L2.CX0 k g sp ∧ t σ H1 fun vs H2 => sp (x :: vs) H2 Q E0
theorem pe_methD {m : Str} {pos apos : Pos} {o e : Expr} {es : List Expr} {ta : TE} {t : TA} {pl : Sem Bool} (he : PE X o ta) (hr : Room k X.A) (ha : PA X (e :: es) t)
    (hst : starEach (e :: es) X.env = (false, eval e X.env) :: starEach es X.env := by rfl) (hpl : (backTo pos (starEach es X.env)).any (·.1) = false := by rfl)
    (ht : eval (.Call (.Attribute o m apos) (e :: es) [] pos) X.env = (do
      let ov ← eval o X.env
      standAt apos.atName
      let (f, first) ← holding [ov] (getMethod ov m pl)
      callWith pos f first (backTo pos (starEach (e :: es) X.env)) (backToKw pos (keywordEach [] X.env))) := by rfl) :
    PE X (.Call (.Attribute o m apos) (e :: es) [] pos) (tMethD X k m ta t) := by
  refine ⟨fun pins s σ H Q I h => ?_⟩
  refine PySem.W.methodCall_KW (pl := pl) (thn (he.run pins s σ H _ I h) fun u s1 ⟨x, H1, I1, rx, a, C, dx, fs, g, sp, ex, ea, c, hm, l, F, q⟩ => ?_) ht
  subst ex
  obtain rfl : u = Value.ref a := rx
  refine getmeth_ok I1 ea c hm l ?_
  refine PySem.W.callWith_K (first := [.ref a]) (h₀ := X.base) I.ok.mod.kin hm.kp (thn (ha.run pos pins s1 σ H1 _ I1 q) fun us s2 ⟨ws, H2, I2, r, q2⟩ => ⟨I2.kIn, ?_⟩) hst hpl
  exact wpAny_call (run_fnR (us := .ref a :: us) (vs := .ref a :: ws) F hr pass0 I2 (.cons rfl r) q2)
theorem pe_methD0 {m : Str} {pos apos : Pos} {o : Expr} {ta : TE} {pl : Sem Bool} (he : PE X o ta) (hr : Room k X.A)
    (ht : eval (.Call (.Attribute o m apos) [] [] pos) X.env = (do
      let ov ← eval o X.env
      standAt apos.atName
      let (f, first) ← holding [ov] (getMethod ov m pl)
      callWith pos f first (backTo pos (starEach [] X.env)) (backToKw pos (keywordEach [] X.env))) := by rfl) :
    PE X (.Call (.Attribute o m apos) [] [] pos) (tMethD X k m ta tNil) := by
  refine ⟨fun pins s σ H Q I h => ?_⟩
  refine PySem.W.methodCall_KW (pl := pl) (thn (he.run pins s σ H _ I h) fun u s1 ⟨x, H1, I1, rx, a, C, dx, fs, g, sp, ex, ea, c, hm, l, F, q⟩ => ?_) ht
  subst ex
  obtain rfl : u = Value.ref a := rx
  refine getmeth_ok I1 ea c hm l ?_
  exact PySem.W.callWith_K0 (first := [.ref a]) I1.kIn hm.kp (wpAny_call (run_fnR (us := [.ref a]) (vs := [.ref a]) F hr pass0 I1 (.cons rfl .nil) q))
theorem look_mem {α : Type} : ∀ {l : List (Nat × α)} {c : Nat} {f : α}, l.lookup c = some f → (c, f) ∈ l
  | [], _, _, e => by cases e
  | (a, b) :: l, c, f, e => by
    rw [List.lookup_cons] at e
    cases hb : c == a with
    | true =>
      rw [hb] at e
      cases e
      rw [beq_iff_eq.mp hb]
      exact List.mem_cons_self
    | false =>
      rw [hb] at e
      exact List.mem_cons_of_mem _ (look_mem e)
theorem sa_nilT {σ : L2.St} {H : Hp} {Q : List V → Hp → Prop} (h : rdA G n0 aNil σ H Q) : tNil σ H Q := by
  obtain ⟨F, r, env, S, g, s, h⟩ := h
  exact h F r H [] (.refl F r) s rfl
theorem meth_core {np m : Nat} {tb : List (Nat × Nat)} {fo : SE} {fs : SA} {t : TA} {ex : Expr} (T : Tb X G cf k) (ht : ∀ σ H Q, rdA G n0 fs σ H Q → t σ H Q) (hi : Inj G m) (hc : ∀ p ∈ tb, Cls G.K (G.ca p.1) ∧ Meth G.K (G.ca p.1) (G.nm m) (G.fa p.2))
    (hp : PE X ex (tMethD X k (G.nm m) (rdV G n0 fo) t)) : PE X ex (rdE G n0 (eMeth cf np m tb fo fs)) := by
  refine peI hp fun σ H Q ⟨F, r, env, S, g, s, h⟩ => ?_
  refine stV s cnE h fun p S1 F1 r1 H1 u x1 s1 q1 h1 => ?_
  unfold methOf at h1
  cases ed : deref S1 p.2 with
  | none => rw [ed] at h1; exact h1.elim
  | some o =>
    rw [ed] at h1
    cases o with
    | ins c ns vs =>
      simp only at h1
      cases hn : ns.contains m with
      | true => rw [hn] at h1; exact h1.elim
      | false =>
        rw [hn] at h1
        simp only [Bool.false_eq_true, if_false] at h1
        cases el : tb.lookup c with
        | none => rw [el] at h1; exact h1.elim
        | some f =>
          rw [el] at h1
          obtain ⟨a, dx, us, rfl, k1, k2, k3⟩ := view_ins s1.hr q1 ed
          obtain ⟨h2, h3⟩ := hc (c, f) (look_mem el)
          refine ⟨a, G.ca c, dx, _, G.fa f, _, rfl, k1, T.hK ▸ h2, T.hK ▸ h3, fld_none hi hn, T.call f np, ?_⟩
          refine ht _ _ _ (stA s1 cnE h1 fun q S2 F2 r2 H2 ws x2 s2 q2 h4 => ?_)
          split at h4
          · rename_i hl
            exact run_call (E := E0) s2 (x1.trans x2) (show RVs G F2 r2 (p.2 :: q) _ from ⟨_, ws, rfl, q1.ext x2, q2⟩) hl h4
          · exact h4.elim
    | _ => exact h1.elim
theorem se_meth {np m : Nat} {tb : List (Nat × Nat)} {o e : Expr} {es : List Expr} {fo : SE} {fs : SA} {pos apos : Pos} {pl : Sem Bool} (T : Tb X G cf k) (hi : Inj G m) (hc : ∀ p ∈ tb, Cls G.K (G.ca p.1) ∧ Meth G.K (G.ca p.1) (G.nm m) (G.fa p.2)) (ho : PE X o (rdE G n0 fo)) (ha : PA X (e :: es) (rdA G n0 fs))
    (hst : starEach (e :: es) X.env = (false, eval e X.env) :: starEach es X.env := by rfl) (hpl : (backTo pos (starEach es X.env)).any (·.1) = false := by rfl)
    (ht : eval (.Call (.Attribute o (G.nm m) apos) (e :: es) [] pos) X.env = (do
      let ov ← eval o X.env
      standAt apos.atName
      let (f, first) ← holding [ov] (getMethod ov (G.nm m) pl)
      callWith pos f first (backTo pos (starEach (e :: es) X.env)) (backToKw pos (keywordEach [] X.env))) := by rfl) :
    PE X (.Call (.Attribute o (G.nm m) apos) (e :: es) [] pos) (rdE G n0 (eMeth cf np m tb fo fs)) :=
  meth_core T (fun _ _ _ h => h) hi hc (pe_methD (pl := pl) (toV ho) (T.room.mono (Nat.le_succ k)) ha hst hpl ht)
theorem se_meth0 {m : Nat} {tb : List (Nat × Nat)} {o : Expr} {fo : SE} {pos apos : Pos} {pl : Sem Bool} (T : Tb X G cf k) (hi : Inj G m) (hc : ∀ p ∈ tb, Cls G.K (G.ca p.1) ∧ Meth G.K (G.ca p.1) (G.nm m) (G.fa p.2)) (ho : PE X o (rdE G n0 fo))
    (ht : eval (.Call (.Attribute o (G.nm m) apos) [] [] pos) X.env = (do
      let ov ← eval o X.env
      standAt apos.atName
      let (f, first) ← holding [ov] (getMethod ov (G.nm m) pl)
      callWith pos f first (backTo pos (starEach [] X.env)) (backToKw pos (keywordEach [] X.env))) := by rfl) :
    PE X (.Call (.Attribute o (G.nm m) apos) [] [] pos) (rdE G n0 (eMeth cf 1 m tb fo aNil)) :=
  meth_core T (fun _ _ _ h => sa_nilT h) hi hc (pe_methD0 (pl := pl) (toV ho) (T.room.mono (Nat.le_succ k)) ht)
/-! C(..) -/
theorem run_makeR {C f : Addr} {sp : Sp} {pins : List (Addr × Obj)} {σ : L2.St} {H : Hp} {s : Shared} {Q : VK} {us : List Value} {vs : List V} (M : Mk X.K C f) (F : FnR X.prog X.w X.K X.mg X.base L2.CX0 k f sp) (hr : Room (k + 1) X.A)
    (I : Inv X pins σ H s) (r : Vals vs us)
    (h : ∀ x dx, H x = none → H dx = none → dx ≠ x → sp (.ref x :: vs) (upd (upd H dx (.own x)) x (.ins C dx [])) (fun v H2 => v = .non ∧ Q (.ref x) H2) E0) :
    wpAny (model X.prog X.w) X.A (call (.ref C) us) (EP X pins σ Q) X.xe s := by
  have hq := h (s.heap.objs.size + 1) s.heap.objs.size (I.hok.fresh (Nat.le_succ _)) (I.hok.fresh (Nat.le_refl _)) (Nat.ne_of_lt (Nat.lt_succ_self _))
  have I2 := Inv.made (C := C) I
  have r2 : Vals (V.ref (s.heap.objs.size + 1) :: vs) (Value.ref (s.heap.objs.size + 1) :: us) := .cons rfl r
  refine wpAny_call (make_map (f := f) I.kIn M.makes M.init (beq_iff_eq.mp M.fn) (codeAny_mono (F _ X.stack _ _ (Value.ref (s.heap.objs.size + 1) :: us) _ _ E0 (hr.make C us [])
    (I2.env0.make C us []) r2 hq) fun r s' hq' => ?_))
  cases r with
  | error e => exact hq'.elim
  | ok fl =>
    cases fl with
    | ret u =>
      obtain ⟨v, H', I3, rv, ev, q3⟩ := I2.after hq'
      subst ev
      exact ⟨rv, ⟨V.ref (s.heap.objs.size + 1), H', I3, rfl, q3⟩⟩
    | next => exact False.elim hq'
    | brk => exact False.elim hq'
    | cont => exact False.elim hq'
theorem pe_makeR {C f : Addr} {sp : Sp} {x : Str} {p pos : Pos} {e : Expr} {es : List Expr} {t : TA} (M : Mk X.K C f) (F : FnR X.prog X.w X.K X.mg X.base L2.CX0 k f sp) (hr : Room (k + 1) X.A) (hg : Gl X x) (hm : X.mg x = some (.ref C))
    (ha : PA X (e :: es) t) (hdb : (x == ("__debug__" : Str)) = false := by decide) (he : starEach (e :: es) X.env = (false, eval e X.env) :: starEach es X.env := by rfl) (hpl : (backTo pos (starEach es X.env)).any (·.1) = false := by rfl) :
    PE X (.Call (.Name x p) (e :: es) [] pos) (tMake C sp [] E0 t) := by
  refine ⟨fun pins s σ H Q I h => ?_⟩
  refine wpAny_Call_Name_kw (ld_glob I hg hm ?_ hdb)
  refine PySem.W.callWith_K (h₀ := X.base) I.ok.mod.kin M.kp (thn (ha.run pos pins s σ H _ I h) fun us s1 ⟨vs, H1, I1, r, q⟩ => ⟨I1.kIn, ?_⟩) he hpl
  exact run_makeR M F hr I1 r fun x dx h1 h2 h3 => by
    have z := q x dx h1 h2 h3
    rw [List.append_nil] at z
    exact z
theorem se_make {np c f : Nat} {x : Str} {p pos : Pos} {e : Expr} {es : List Expr} {fs : SA} (T : Tb X G cf k) (M : Mk G.K (G.ca c) (G.fa f)) (hg : Gl X x) (hm : X.mg x = some (.ref (G.ca c))) (ha : PA X (e :: es) (rdA G n0 fs))
    (hdb : (x == ("__debug__" : Str)) = false := by decide) (he : starEach (e :: es) X.env = (false, eval e X.env) :: starEach es X.env := by rfl) (hpl : (backTo pos (starEach es X.env)).any (·.1) = false := by rfl) :
    PE X (.Call (.Name x p) (e :: es) [] pos) (rdE G n0 (eMake cf np c f fs)) := by
  refine peI (pe_makeR (T.hK ▸ M) (T.call f np) T.room hg hm ha hdb he hpl) fun σ H Q ⟨F, r, env, S, g, s, h⟩ => ?_
  refine stA s cnE h fun q S1 F1 r1 H1 us x1 s1 q1 h1 => ?_
  split at h1
  · rename_i hl
    intro x dx hx hd hne
    rw [List.append_nil]
    have hc := (s1.hr.call).heap (H' := upd H1 dx (.own x)) fun a o e => by rw [upd_ne (ne_of_none e hd)]; exact e
    obtain ⟨h2, rf⟩ := new_obj (v := .ins c [] []) (ho := .ins (G.ca c) dx []) hc (by rw [upd_ne hne.symm]; exact hx) ⟨dx, [], rfl, rfl, rfl⟩ rfl
    obtain ⟨r2, x2, h3, q3⟩ := store_new h2 rf
    refine ⟨F1, r2, S1 ++ [.ins c [] []], subG n0 g S1.length, S1.length, .ref S1.length :: q, h3, ⟨_, us, rfl, q3, q1.ext x2⟩, hl, ?_⟩
    cases ec : cf f (.ref S1.length :: q) S1.length (S1 ++ [.ins c [] []]) with
    | no => rw [ec] at h1; exact h1
    | ex => rw [ec] at h1; exact h1
    | ok v S2 =>
      rw [ec] at h1
      intro F3 r3 H3 u x3 h4 q4
      cases v with
      | non =>
        refine ⟨q4, ?_⟩
        have h1 : PoE G n0 g F r env σ (norm S1.length (.ref S1.length) S2) Q := h1
        cases en : norm S1.length (.ref S1.length) S2 with
        | no => rw [en] at h1; exact h1.elim
        | ex => rw [en] at h1; exact h1.elim
        | ok p S3 =>
          rw [en] at h1
          obtain ⟨b, w⟩ := p
          obtain ⟨F4, x4, h5, q5⟩ := norm_ok h4 (RV.ext x3 q3) en
          rw [take_ext s1.hr (x2.trans x3)] at h5 q5
          have x5 : Ext F1 F4 r1 r1 := ⟨(x2.trans x3).1.trans x4, List.prefix_refl r1⟩
          exact h1 F4 r1 H3 _ (x1.trans x5) (s1.ext x5 (s1.hr.back h5)) q5
      | _ => exact h1.elim
  · exact h1.elim
/-! ### isinstance -/
inductive TyN where
  | non | bl | int | str | tup | lst | dct
  | own (c : Nat)
  deriving DecidableEq
def tyN (S : Store) (v : PV) : Option TyN := match deref S v with
  | some .non => some .non
  | some (.bl _) => some .bl
  | some (.int _) => some .int
  | some (.str _) => some .str
  | some (.tup _) => some .tup
  | some (.lst _) => some .lst
  | some (.dct _ _) => some .dct
  | some (.ins c _ _) => some (.own c)
  | _ => none
def TyN.val (G : Gam) : TyN → Value
  | .non => .type "NoneType"
  | .bl => .type "bool"
  | .int => .type "int"
  | .str => .type "str"
  | .tup => .type "tuple"
  | .lst => .type "list"
  | .dct => .type "dict"
  | .own c => .ref (G.ca c)
def eIsi (tb : List (TyN × Bool)) : SE → SE := eUn fun v S => match tyN S v with
  | some t => (tb.lookup t).map fun b => (false, .bl b)
  | none => none
theorem tyN_ok {g : Gh} {F : Hp} {r : List Addr} {S : Store} {H : Hp} {v : PV} {u : V} {t : TyN} (h : HR G n0 g F r S H) (q : RV G F r v u) (hc : ∀ c, t = .own c → ClsI G c) (e : tyN S v = some t) : TyX G.K H u (t.val G) := by
  unfold tyN at e
  split at e
  · rename_i ed; cases e; rw [view_non h q ed]; exact .base .non
  · rename_i ed; cases e; rw [view_bl h q ed]; exact .base (.bl _)
  · rename_i ed; cases e; rw [view_int h q ed]; exact .base (.int _)
  · rename_i ed; cases e; rw [view_str h q ed]; exact .base (.str _)
  · rename_i ed
    cases e
    obtain ⟨a, us, rfl, k1, _⟩ := view_tup h q ed
    rcases k1 with (k1 | ⟨o, k1⟩) | ⟨o, its, n, k1, k2, _⟩
    · exact .base (.tup k1)
    · exact .fTuple k1
    · exact .kTuple k1 k2
  · rename_i ed
    cases e
    obtain ⟨a, us, rfl, k1, _⟩ := view_lst h q ed
    rcases k1 with k1 | ⟨o, k1⟩
    · exact .base (.lst k1)
    · exact .base (.frz k1)
  · rename_i ed
    cases e
    rename_i ks vs
    cases ks with
    | k kk =>
      obtain ⟨a, ho, us, rfl, k1, k2, _⟩ := view_dct h q ed
      obtain ⟨rfl, _⟩ := k2
      rcases k1 with k1 | ⟨o, k1⟩
      · exact .base (.dK k1)
      · exact .fDict k1
    | t kk =>
      obtain ⟨a, us, rfl, k1, _⟩ := view_dctT h q ed
      exact .base (.dT k1)
  · rename_i ed
    cases e
    obtain ⟨a, dx, us, rfl, k1, _⟩ := view_ins h q ed
    obtain ⟨c1, c2⟩ := hc _ rfl
    exact .base (.ins k1 c1 c2.ca c2.cn c2.ct c2.cm)
  · cases e
theorem tb_mem {tb : List (TyN × Bool)} {t : TyN} {b : Bool} : tb.lookup t = some b → (t, b) ∈ tb := by
  induction tb with
  | nil => intro e; cases e
  | cons p l ih =>
    obtain ⟨a, c⟩ := p
    intro e
    rw [List.lookup_cons] at e
    cases hb : t == a with
    | true =>
      rw [hb] at e
      cases e
      rw [beq_iff_eq.mp hb]
      exact List.mem_cons_self
    | false =>
      rw [hb] at e
      exact List.mem_cons_of_mem _ (ih e)
theorem se_isi1 {tb : List (TyN × Bool)} {e ce : Expr} {fe : SE} {p pos : Pos} {cv : V} {cu : Value} (hK : G.K = X.K) (hg : Gl X "isinstance") (hm : X.mg "isinstance" = none) (hb : bootBuiltins "isinstance" = some (.builtin "isinstance")) (hcv : ClsV cv cu)
    (hcl : ∀ t b, (t, b) ∈ tb → PySem.W.kitOne G.K (t.val G) cu = some b ∧ ∀ c, t = .own c → ClsI G c) (he : PE X e (rdE G n0 fe)) (hc : PE X ce (tC cv))
    (hs : starEach [e, ce] X.env = (false, eval e X.env) :: starEach [ce] X.env := by rfl) (hs2 : starEach [ce] X.env = (false, eval ce X.env) :: starEach [] X.env := by rfl) (hpl : (backTo pos (starEach [ce] X.env)).any (·.1) = false := by rfl) :
    PE X (.Call (.Name "isinstance" p) [e, ce] [] pos) (rdE G n0 (eIsi tb fe)) := by
  refine peI (pe_callB call_isi hg hm hb (pa_cons (toV he) (pa_cons hc pa_nil hs2) hs) (by decide) (by decide) hs hpl) fun σ H Q ⟨F, r, env, S, g, s, h⟩ => ?_
  refine stV s cnE h fun p S1 F1 r1 H1 u x1 s1 q1 h1 => ?_
  simp only at h1
  cases et : tyN S1 p.2 with
  | none => rw [et] at h1; exact h1.elim
  | some t =>
    rw [et] at h1
    cases el : tb.lookup t with
    | none => simp only [el] at h1; exact h1.elim
    | some b =>
      simp only [el] at h1
      obtain ⟨k1, k2⟩ := hcl t b (tb_mem el)
      exact ⟨u, cv, t.val G, cu, b, rfl, hcv, hK ▸ tyN_ok s1.hr q1 k2 et, hK ▸ k1, h1 F1 r1 H1 _ x1 s1 rfl⟩
end
end PX
set_option Elab.async false
set_option linter.all false
set_option maxRecDepth 100000
namespace PX
open PySem PySem.Spec PyProof.Rows L2

section
open Builtin
variable {prog : Program} {w : World} {A : Around} {E : Value → Shared → Prop} {s : Shared} {K : PySem.W.Frag} {x C L f : Addr} {h₀ : Heap} {m : Str → Option Value} {ox : Obj} {od : Option Obj} {b tb : Value}
theorem ne_entry {Q : Fin → Shared → Prop} {h : Heap} {g : Array GenState} {d : Drawn} {t : Nat} {os : OsState} (hu : A.units < cLine) (X : K.In h) (I : PySem.W.InstAt h x ox C od)
    (hs : PySem.W.findIn K (.ref C) "__eq__" = some (some (.ref f))) (hf : PySem.W.isFn K (.ref f) = true)
    (hcall : wpAny (model prog w) A (call (.ref f) [.ref x, b]) (fun v s' => ∃ b, v = .bool b ∧ Q (.done (.ret (.bool (!b)))) s') E ⟨h, g, d, t, os⟩) :
    wpAny (model prog w) A (Builtin.«object.__ne__» ⟨[.ref x, b], []⟩) Q E ⟨h, g, d, t, os⟩ := by
  unfold Builtin.«object.__ne__»
  repeat (first
    | with_reducible refine wpAny_cRoomFor hu ?_
    | (refine wpAny_bind (m := callSpecialIfBound? (.ref x) (Str.ofString "__eq__") [b])
        (PySem.W.ifBound_K X I hs hf (wpAny_mono hcall (fun r s' hr => by
          obtain ⟨b, rfl, hq⟩ := hr
          repeat (first | exact hq | exact wpAny_pure hq | exact wpAny_truthy_bool hq | (refine wpAny_bind (m := truthy (.bool _)) (wpAny_truthy_bool ?_)) | wp_step)) fun _ _ e => e)))
    | wp_step)
theorem ne_try {Q : Option Value → Shared → Prop} (hu : A.units + 1 < cLine) (X : K.In s.heap) (I : PySem.W.InstAt s.heap x ox C od)
    (hne : PySem.W.findIn K (.ref C) "__ne__" = some (some (.builtin "object.__ne__"))) (hm : PySem.W.mroIn K C (.type "object") = some true) (hs : PySem.W.findIn K (.ref C) "__eq__" = some (some (.ref f))) (hf : PySem.W.isFn K (.ref f) = true)
    (h : wpAny (model prog w) A.in1 (call (.ref f) [.ref x, b]) (fun v s' => ∃ k, v = .bool k ∧ Q (some (.bool (!k))) s') E s) : wpAny (model prog w) A (tryCompare (.ref x) "__ne__" b) Q E s := by
  have S := PySem.F.cmp_object.ne
  simp only [tryCompare]
  refine wpAny_bind (m := callSpecialIfBound? (.ref x) "__ne__" [b]) ?_
  simp only [callSpecialIfBound?, bindSpecialIfBound?]
  have body : wpAny (model prog w) A (call (.builtin "object.__ne__") [.ref x, b]) (fun v s' => ∃ k, v = .bool (!k) ∧ Q (some (.bool (!k))) s') E s := by
    refine wpAny_call (codeAny_call_builtin S.plain F.cmpEntry_ne (PySem.W.check_slot F.cmpKind_ne F.cmpSplit_ne (I.type.andThen (PySem.W.looks_mroIn X hm)) (F.cmpArgs_ne _ _) ?_))
    obtain ⟨hp, g, d, t, os⟩ := s
    refine ne_entry (A := A.in1) hu X I hs hf (wpAny_mono h (fun v s' hv => ?_) fun _ _ e => e)
    obtain ⟨k, rfl, hq⟩ := hv
    exact ⟨k, rfl, k, rfl, hq⟩
  have fin : wpAny (model prog w) A (call (.builtin "object.__ne__") ([.ref x] ++ [b]) >>= fun v => pure (some v)) (fun r s' => wpAny (model prog w) A (match r with
      | some .notImplemented => pure none
      | none => pure none
      | some v => pure (some v)) Q E s') E s := by
    refine wpAny_bind (wpAny_mono body (fun v s' hv => ?_) fun _ _ e => e)
    obtain ⟨k, rfl, hq⟩ := hv
    exact wpAny_pure (wpAny_pure hq)
  refine wpAny_holding (wpAny_bind (wpAny_bind (wpAny_bind (I.type.here ((PySem.W.looks_findIn X hne).here ?_)))))
  simp only [S.bind]
  refine wpAny_bind (wpAny_askSetting (wpAny_ite ?_))
  split
  · exact wpAny_bind (wpAny_pure (wpAny_pure fin))
  · exact wpAny_tryCatch (wpAny_bind (wpAny_pure (wpAny_pure fin)))
theorem ne_K {Q : Value → Shared → Prop} (hu : A.units + 1 < cLine) (X : K.In s.heap) (I : PySem.W.InstAt s.heap x ox C od) (hb : PySem.W.Looks (model prog w) s.heap (typeOf b) tb) (hn : PySem.W.notFirst K C tb = true)
    (hne : PySem.W.findIn K (.ref C) "__ne__" = some (some (.builtin "object.__ne__"))) (hm : PySem.W.mroIn K C (.type "object") = some true) (hs : PySem.W.findIn K (.ref C) "__eq__" = some (some (.ref f))) (hf : PySem.W.isFn K (.ref f) = true)
    (h : wpAny (model prog w) A.in1 (call (.ref f) [.ref x, b]) (fun v s' => ∃ k, v = .bool k ∧ Q (.bool (!k)) s') E s) : wpAny (model prog w) A (richCompare .NotEq (.ref x) b) Q E s := by
  have one : wpAny (model prog w) A (tryCompare (.ref x) (cmpInfo .NotEq).2.1 b) (fun r s' => ∃ v, r = some v ∧ Q v s') E s :=
    ne_try hu X I hne hm hs hf (wpAny_mono h (fun v s' hv => by
      obtain ⟨k, e, q⟩ := hv
      exact ⟨k, e, _, rfl, q⟩) fun _ _ e => e)
  unfold richCompare
  simp only [oneThing_ref]
  refine wpAny_holding (wpAny_bind (wpAny_cRoomFor (Nat.lt_of_succ_lt hu) ?_))
  refine wpAny_bind (I.type.here (wpAny_bind (hb.here ?_)))
  split
  · rename_i q
    have e : PySem.W.subIn K tb (.ref C) = some false := by
      rcases Bool.or_eq_true_iff.mp hn with e | e
      · rw [beq_iff_eq.mp e] at q; simp at q
      · exact beq_iff_eq.mp e
    refine wpAny_bind ((PySem.W.looks_subIn X e).here ?_)
    simp only [Bool.false_eq_true, if_false]
    refine wpAny_bind (wpAny_mono one (fun r s' z => ?_) fun _ _ e => e)
    obtain ⟨v, rfl, hq⟩ := z
    exact wpAny_pure hq
  · refine wpAny_bind (wpAny_pure ?_)
    simp only [Bool.false_eq_true, if_false]
    refine wpAny_bind (wpAny_mono one (fun r s' z => ?_) fun _ _ e => e)
    obtain ⟨v, rfl, hq⟩ := z
    exact wpAny_pure hq
end

/-! ### own specials -/
structure Spc (K : PySem.W.Frag) (C f : Addr) (name : Str) : Prop where
  at_ : PySem.W.findIn K (.ref C) name = some (some (.ref f))
  fn : PySem.W.isFn K (.ref f) = true
def callV (cf : CF) (f : Nat) (args : List PV) (S : Store) : R (Bool × PV) := (cutX S.length (cf f args S.length S)).bind fun v S2 => norm S.length v S2
def ownOf (tb : List (Nat × Nat)) (S : Store) (v : PV) : Option Nat := match deref S v with
  | some (.ins c _ _) => tb.lookup c
  | _ => none
def lenI (z : Bool × PV) (S : Store) : R (Bool × PV) := match z.2 with
  | .int n => if decide (0 ≤ n) && decide (n < 4611686018427387904) then .ok (false, .int n) S else .no
  | _ => .no
def eLen (cf : CF) (tb : List (Nat × Nat)) (a : SE) : SE := fun env S => (a env S).bind fun p S1 => match ownOf tb S1 p.2 with
  | some f => (callV cf f [p.2] S1).bind lenI
  | none => ofO (bLen [p.2] S1) S1
/-! a == b, a != b, an own == -/
def notI (z : Bool × PV) (S : Store) : R (Bool × PV) := match z.2 with
  | .bl b => .ok (false, .bl (!b)) S
  | _ => .no
def okTy (tys : List TyN) (S : Store) (v : PV) : Bool := match tyN S v with
  | some t => tys.contains t
  | none => false
def eEq (cf : CF) (tb : List (Nat × Nat)) (tys : List TyN) (a b : SE) : SE := fun env S => (a env S).bind fun p S1 => (b env S1).bind fun q S2 => match ownOf tb S2 p.2 with
  | some f => if okTy tys S2 q.2 then callV cf f [p.2, q.2] S2 else .no
  | none => ofO (oEq p.2 q.2 S2) S2
def eNe (cf : CF) (tb : List (Nat × Nat)) (tys : List TyN) (a b : SE) : SE := fun env S => (a env S).bind fun p S1 => (b env S1).bind fun q S2 => match ownOf tb S2 p.2 with
  | some f => if okTy tys S2 q.2 then (callV cf f [p.2, q.2] S2).bind notI else .no
  | none => ofO (oNe p.2 q.2 S2) S2

section
variable {X : Cx} {k : Nat}
def rLenOwn (X : Cx) (k : Nat) : List V → Hp → VK → Prop := fun xs H Q => ∃ a C dx fs g sp, xs = [V.ref a] ∧ H a = some (.ins C dx fs) ∧ Spc X.K C g "__len__" ∧ FnR X.prog X.w X.K X.mg X.base L2.CX0 k g sp ∧
  sp [.ref a] H (fun v H' => ∃ n : Int, v = .int n ∧ 0 ≤ n ∧ n < 2 ^ 63 ∧ Q (.int n) H') E0
theorem inst_at {pins : List (Addr × Obj)} {σ : L2.St} {H : Hp} {s : Shared} {a C dx : Addr} {fs : List (Str × V)} (I : Inv X pins σ H s) (ea : H a = some (.ins C dx fs)) : ∃ od, PySem.W.InstAt s.heap a (PySem.W.instObj C dx) C (some od) := by
  obtain ⟨mA, O, _⟩ := ins_get I.hok ea
  obtain ⟨od, J, _⟩ := O.look
  exact ⟨od, J⟩
theorem cr_lenOwn (hr : Room (k + 1) X.A) : CallR X (.builtin "len") (rLenOwn X k) := by
  intro pins s σ H xs us Q I r h
  obtain ⟨a, C, dx, fs, g, sp, rfl, ea, hs, F, q⟩ := h
  rw [Vals.ref1 r]
  obtain ⟨od, J⟩ := inst_at I ea
  obtain ⟨m, hF⟩ := I.fr
  refine PySem.W.len_K hF I.ok.mod.kin J hs.at_ hs.fn (wpAny_mono (wpAny_call (SlX.run_at (us := [.ref a]) (ws := [.ref a]) F hr.in1 I.env0.in1 pass0 I (.cons rfl .nil) q)) (fun w s' z => ?_) fun _ _ x => x)
  obtain ⟨z', H', I', rz, n, ez, h1, h2, qz⟩ := z
  subst ez
  obtain ⟨t, e⟩ := (show ∃ t, w = Value.int n t from rz)
  cases e
  exact ⟨⟨h1, h2⟩, .int n, H', I'.tok _, ⟨_, rfl⟩, qz⟩
def rEqOwn (X : Cx) (k : Nat) : R2 := fun x y H Q => ∃ a C dx fs g sp t, x = .ref a ∧ H a = some (.ins C dx fs) ∧ TyX X.K H y t ∧ PySem.W.notFirst X.K C t = true ∧ Spc X.K C g "__eq__" ∧ FnR X.prog X.w X.K X.mg X.base L2.CX0 k g sp ∧ sp [x, y] H Q E0
theorem op_eqOwn (hr : Room (k + 1) X.A) : OpR X (compareOp .Eq) (rEqOwn X k) := by
  intro pins s σ H x y v u Q I rx ry h
  obtain ⟨a, C, dx, fs, g, sp, t, rfl, ea, ty, hn, hs, F, q⟩ := h
  cases (show v = Value.ref a from rx)
  obtain ⟨od, J⟩ := inst_at I ea
  obtain ⟨m, hF⟩ := I.fr
  obtain ⟨P, Z, p, _⟩ := kit_of I ry ty
  show wpAny (model X.prog X.w) X.A (richCompare .Eq (.ref a) u) (EP X pins σ Q) X.xe s
  refine PySem.W.cmp_K (op := .Eq) (tb := t) hr.units0 hF I.ok.mod.kin J (Z.ty _ _ I.kIn p) hn hs.at_ hs.fn ?_
  refine wpAny_mono (wpAny_call (run_fnR (us := [.ref a, u]) (vs := [.ref a, y]) F (hr.mono (Nat.le_succ k)) pass0 I (.cons rfl (.cons ry .nil)) q)) (fun w s' z => ?_) fun _ _ x => x
  obtain ⟨z', H', I', rz, qz⟩ := z
  exact SlX.cmpback rz ⟨z', H', I', rz, qz⟩
def rNeOwn (X : Cx) (k : Nat) : R2 := fun x y H Q => ∃ a C dx fs g sp t, x = .ref a ∧ H a = some (.ins C dx fs) ∧ TyX X.K H y t ∧ PySem.W.notFirst X.K C t = true ∧ Spc X.K C g "__eq__" ∧
  PySem.W.findIn X.K (.ref C) "__ne__" = some (some (.builtin "object.__ne__")) ∧ PySem.W.mroIn X.K C (.type "object") = some true ∧ FnR X.prog X.w X.K X.mg X.base L2.CX0 k g sp ∧ sp [x, y] H (fun v H' => ∃ b, v = .bl b ∧ Q (.bl (!b)) H') E0
theorem op_neOwn (hr : Room (k + 1) X.A) : OpR X (compareOp .NotEq) (rNeOwn X k) := by
  intro pins s σ H x y v u Q I rx ry h
  obtain ⟨a, C, dx, fs, g, sp, t, rfl, ea, ty, hn, hs, hne, hm, F, q⟩ := h
  cases (show v = Value.ref a from rx)
  obtain ⟨od, J⟩ := inst_at I ea
  obtain ⟨P, Z, p, _⟩ := kit_of I ry ty
  show wpAny (model X.prog X.w) X.A (richCompare .NotEq (.ref a) u) (EP X pins σ Q) X.xe s
  refine ne_K (tb := t) (by have := hr.units; omega) I.kIn J (Z.ty _ _ I.kIn p) hn hne hm hs.at_ hs.fn ?_
  refine wpAny_mono (wpAny_call (SlX.run_at (us := [.ref a, u]) (ws := [.ref a, y]) F hr.in1 I.env0.in1 pass0 I (.cons rfl (.cons ry .nil)) q)) (fun w s' z => ?_) fun _ _ x => x
  obtain ⟨z', H', I', rz, b, ez, qz⟩ := z
  subst ez
  cases (show w = Value.bool b from rz)
  exact ⟨b, rfl, .bl (!b), H', I', rfl, qz⟩
end
section
variable {X : Cx} {G : Gam} {n0 : Nat} {cf : CF} {k : Nat}
theorem poB {g : Gh} {F0 : Hp} {r0 : List Addr} {env : Env} {σ : L2.St} {m : R (Bool × PV)} {kk : Bool × PV → Store → R (Bool × PV)} {Q Q' : VK} (h : PoE G n0 g F0 r0 env σ (m.bind kk) Q)
    (step : ∀ p S' F' r' H' u, Ext F0 F' r0 r' → Sg G n0 g F' r' env σ S' H' → RF G g F' r' H' p.1 p.2 u → PoE G n0 g F0 r0 env σ (kk p S') Q → Q' u H') : PoE G n0 g F0 r0 env σ m Q' := by
  cases m with
  | ok p S' => exact fun F' r' H' u x s q => step p S' F' r' H' u x s q h
  | ex => exact h
  | no => exact h
theorem se_of {ex : Expr} {t : TE} {f : SE} (hp : PE X ex t) (h : ∀ σ H Q, rdE G n0 f σ H Q → t σ H Q) : PE X ex (rdE G n0 f) := peI hp h
theorem st_of {ex : Expr} {t : TE} {f : SE} (hp : PT X ex (tTest t)) (h : ∀ σ H Q, rdE G n0 f σ H Q → t σ H Q) : PT X ex (rdT G n0 (tBl f)) := by
  refine ptI hp fun σ H Q ⟨F, r, env, S, g, s, p⟩ => h σ H _ ⟨F, r, env, S, g, s, ?_⟩
  have p : PoT G n0 g F r env σ ((f env S).bind fun p S1 => match p.2 with
    | .bl b => .ok b S1
    | _ => .no) Q := p
  cases e : f env S with
  | no => rw [e] at p; exact p
  | ex => rw [e] at p; exact p
  | ok q S' =>
    rw [e] at p
    obtain ⟨b, v⟩ := q
    cases v with
    | bl k =>
      intro F' r' H' u x s' rf
      exact ⟨k, bl_of rf, p F' r' H' x s'⟩
    | _ => exact p.elim
/-! len -/
theorem se_len {tb : List (Nat × Nat)} {e : Expr} {fe : SE} {p pos : Pos} (T : Tb X G cf k) (hg : Gl X "len") (hm : X.mg "len" = none) (hc : ∀ p ∈ tb, Spc G.K (G.ca p.1) (G.fa p.2) "__len__") (he : PE X e (rdE G n0 fe))
    (hb : bootBuiltins "len" = some (.builtin "len") := by rfl) (hs : starEach [e] X.env = (false, eval e X.env) :: starEach [] X.env := by rfl) (hpl : (backTo pos (starEach [] X.env)).any (·.1) = false := by rfl) :
    PE X (.Call (.Name "len" p) [e] [] pos) (rdE G n0 (eLen cf tb fe)) := by
  have cr : CallR X (.builtin "len") (fun xs H Q => rLenOwn X k xs H Q ∨ ∃ x n, xs = [x] ∧ LenV X.K x H n ∧ Q (.int n) H) := by
    intro pins s σ H vs us Q I r h
    rcases h with h | h
    · exact cr_lenOwn T.room pins s σ H vs us Q I r h
    · exact call_len pins s σ H vs us Q I r h
  refine peI (pe_callB cr hg hm hb (pa_cons (toV he) pa_nil hs) (by decide) (by decide) hs hpl) fun σ H Q ⟨F, r, env, S, g, s, h⟩ => ?_
  refine stV s cnE h fun p S1 F1 r1 H1 u x1 s1 q1 h1 => ?_
  cases eo : ownOf tb S1 p.2 with
  | none =>
    simp only [eo] at h1
    refine .inr ?_
    unfold bLen at h1
    simp only at h1
    split at h1
    · rename_i ws ed
      obtain ⟨a, us, rfl, k1, k2⟩ := view_lst s1.hr q1 ed
      refine ⟨.ref a, us.length, rfl, .inl ⟨us, .inl k1, rfl⟩, ?_⟩
      rw [← RVs.length k2]
      exact h1 F1 r1 H1 _ x1 s1 rfl
    · rename_i ws ed
      obtain ⟨a, us, rfl, k1, k2⟩ := view_tup s1.hr q1 ed
      refine ⟨.ref a, us.length, rfl, .inr ⟨us, T.hK ▸ k1, rfl⟩, ?_⟩
      rw [← RVs.length k2]
      exact h1 F1 r1 H1 _ x1 s1 rfl
    · exact h1.elim
  | some f =>
    simp only [eo] at h1
    refine .inl ?_
    unfold ownOf at eo
    split at eo
    · rename_i c ns ws ed
      obtain ⟨a, dx, us, rfl, k1, k2, k3⟩ := view_ins s1.hr q1 ed
      refine ⟨a, G.ca c, dx, _, G.fa f, _, rfl, k1, T.hK ▸ hc (c, f) (look_mem eo), T.call f 1, ?_⟩
      refine run_call (np := 1) s1 x1 (show RVs G F1 r1 [p.2] _ from ⟨_, [], rfl, q1, rfl⟩) rfl (poB h1 fun z S2 F2 r2 H2 w x2 s2 q2 h2 => ?_)
      obtain ⟨b, v⟩ := z
      cases v with
      | int n =>
        unfold lenI at h2
        simp only at h2
        split at h2
        · rename_i hn
          rw [Bool.and_eq_true, decide_eq_true_eq, decide_eq_true_eq] at hn
          have ew : w = .int n := by
            cases b with
            | false => exact q2
            | true =>
              obtain ⟨_, _, _, _, _, _, _, ro, _⟩ := q2
              exact ro.elim
          exact ⟨n, ew, hn.1, by omega, h2 F2 r2 H2 _ x2 s2 rfl⟩
        · exact h2.elim
      | _ => exact h2.elim
    · cases eo
/-! == and != -/
structure EqT (G : Gam) (tb : List (Nat × Nat)) (tys : List TyN) : Prop where
  spc : ∀ p ∈ tb, Spc G.K (G.ca p.1) (G.fa p.2) "__eq__"
  ne : ∀ p ∈ tb, PySem.W.findIn G.K (.ref (G.ca p.1)) "__ne__" = some (some (.builtin "object.__ne__")) ∧ PySem.W.mroIn G.K (G.ca p.1) (.type "object") = some true
  nf : ∀ p ∈ tb, ∀ t ∈ tys, PySem.W.notFirst G.K (G.ca p.1) (t.val G) = true
  cl : ∀ c, TyN.own c ∈ tys → ClsI G c
theorem own_at {tb : List (Nat × Nat)} {g : Gh} {F : Hp} {r : List Addr} {S : Store} {H : Hp} {v : PV} {u : V} {f : Nat} (h : HR G n0 g F r S H) (q : RV G F r v u) (e : ownOf tb S v = some f) : ∃ a c dx fs, u = .ref a ∧ H a = some (.ins (G.ca c) dx fs) ∧ (c, f) ∈ tb := by
  unfold ownOf at e
  split at e
  · rename_i c ns ws ed
    obtain ⟨a, dx, us, rfl, k1, k2, k3⟩ := view_ins h q ed
    exact ⟨a, c, dx, _, rfl, k1, look_mem e⟩
  · cases e
theorem okTy_at {tys : List TyN} {g : Gh} {F : Hp} {r : List Addr} {S : Store} {H : Hp} {v : PV} {u : V} (hc : ∀ c, TyN.own c ∈ tys → ClsI G c) (h : HR G n0 g F r S H) (q : RV G F r v u) (e : okTy tys S v = true) : ∃ t ∈ tys, TyX G.K H u (t.val G) := by
  unfold okTy at e
  cases et : tyN S v with
  | none => rw [et] at e; cases e
  | some t =>
    rw [et] at e
    have hm : t ∈ tys := by simpa using e
    exact ⟨t, hm, tyN_ok h q (fun c ec => hc c (ec ▸ hm)) et⟩
theorem eq_core {tb : List (Nat × Nat)} {tys : List TyN} {fa fb : SE} (T : Tb X G cf k) (E : EqT G tb tys) (σ : L2.St) (H : Hp) (Q : VK) (hh : rdE G n0 (eEq cf tb tys fa fb) σ H Q) : tOp (fun x y H Q => rEqOwn X k x y H Q ∨ rEqD G.K x y H Q) (rdV G n0 fa) (rdV G n0 fb) σ H Q := by
  obtain ⟨F, r, env, S, g, s, h⟩ := hh
  refine stV s cnE h fun p S1 F1 r1 H1 u x1 s1 q1 h1 => ?_
  refine stV s1 cnE h1 fun q S2 F2 r2 H2 v x2 s2 q2 h2 => ?_
  have q1' := q1.ext x2
  cases eo : ownOf tb S2 p.2 with
  | none =>
    simp only [eo] at h2
    exact .inr (endO (T := fun Q => rEqD G.K u v H2 Q) s2 (x1.trans x2) h2 fun z ez k => ok_eq n0 g F2 r2 S2 H2 p.2 q.2 u v z Q s2.hr q1' q2 ez k)
  | some f =>
    simp only [eo] at h2
    split at h2
    · rename_i ot
      obtain ⟨a, c, dx, fs, rfl, k1, k2⟩ := own_at s2.hr q1' eo
      obtain ⟨t, ht, ty⟩ := okTy_at E.cl s2.hr q2 ot
      refine .inl ⟨a, G.ca c, dx, fs, G.fa f, _, t.val G, rfl, k1, T.hK ▸ ty, T.hK ▸ E.nf _ k2 t ht, T.hK ▸ E.spc _ k2, T.call f 2, ?_⟩
      exact run_call (np := 2) s2 (x1.trans x2) (show RVs G F2 r2 [p.2, q.2] _ from ⟨_, _, rfl, q1', _, [], rfl, q2, rfl⟩) rfl h2
    · exact h2.elim
theorem ne_core {tb : List (Nat × Nat)} {tys : List TyN} {fa fb : SE} (T : Tb X G cf k) (E : EqT G tb tys) (σ : L2.St) (H : Hp) (Q : VK) (hh : rdE G n0 (eNe cf tb tys fa fb) σ H Q) : tOp (fun x y H Q => rNeOwn X k x y H Q ∨ rNeD G.K x y H Q) (rdV G n0 fa) (rdV G n0 fb) σ H Q := by
  obtain ⟨F, r, env, S, g, s, h⟩ := hh
  refine stV s cnE h fun p S1 F1 r1 H1 u x1 s1 q1 h1 => ?_
  refine stV s1 cnE h1 fun q S2 F2 r2 H2 v x2 s2 q2 h2 => ?_
  have q1' := q1.ext x2
  cases eo : ownOf tb S2 p.2 with
  | none =>
    simp only [eo] at h2
    exact .inr (endO (T := fun Q => rNeD G.K u v H2 Q) s2 (x1.trans x2) h2 fun z ez k => ok_ne n0 g F2 r2 S2 H2 p.2 q.2 u v z Q s2.hr q1' q2 ez k)
  | some f =>
    simp only [eo] at h2
    split at h2
    · rename_i ot
      obtain ⟨a, c, dx, fs, rfl, k1, k2⟩ := own_at s2.hr q1' eo
      obtain ⟨t, ht, ty⟩ := okTy_at E.cl s2.hr q2 ot
      refine .inl ⟨a, G.ca c, dx, fs, G.fa f, _, t.val G, rfl, k1, T.hK ▸ ty, T.hK ▸ E.nf _ k2 t ht, T.hK ▸ E.spc _ k2, T.hK ▸ (E.ne _ k2).1, T.hK ▸ (E.ne _ k2).2, T.call f 2, ?_⟩
      refine run_call (np := 2) s2 (x1.trans x2) (show RVs G F2 r2 [p.2, q.2] _ from ⟨_, _, rfl, q1', _, [], rfl, q2, rfl⟩) rfl (poB h2 fun z S3 F3 r3 H3 w x3 s3 q3 h3 => ?_)
      obtain ⟨b, v⟩ := z
      cases v with
      | bl b' => exact ⟨b', bl_of q3, h3 F3 r3 H3 _ x3 s3 rfl⟩
      | _ => exact h3.elim
    · exact h2.elim
variable {tb : List (Nat × Nat)} {tys : List TyN} {fa fb : SE} {a b : Expr} {pos : Pos}
theorem op_eqAll (T : Tb X G cf k) : OpR X (compareOp .Eq) (fun x y H Q => rEqOwn X k x y H Q ∨ rEqD G.K x y H Q) := (op_eqOwn T.room).or (T.hK ▸ op_eqD T.room.units)
theorem op_neAll (T : Tb X G cf k) : OpR X (compareOp .NotEq) (fun x y H Q => rNeOwn X k x y H Q ∨ rNeD G.K x y H Q) := (op_neOwn T.room).or (T.hK ▸ op_neD T.room.units)
theorem se_eq (T : Tb X G cf k) (E : EqT G tb tys) (ha : PE X a (rdE G n0 fa)) (hb : PE X b (rdE G n0 fb)) (hm : behindInMarks .Eq b = false) : PE X (.Compare a [.Eq] [b] pos) (rdE G n0 (eEq cf tb tys fa fb)) :=
  se_of (pe_cmpR (op_eqAll T) (toV ha) (toV hb) hm) (eq_core T E)
theorem st_eq (T : Tb X G cf k) (E : EqT G tb tys) (ha : PE X a (rdE G n0 fa)) (hb : PE X b (rdE G n0 fb)) (hm : behindInMarks .Eq b = false) : PT X (.Compare a [.Eq] [b] pos) (rdT G n0 (tBl (eEq cf tb tys fa fb))) :=
  st_of (pt_cmpR (op_eqAll T) (toV ha) (toV hb) hm) (eq_core T E)
theorem se_ne (T : Tb X G cf k) (E : EqT G tb tys) (ha : PE X a (rdE G n0 fa)) (hb : PE X b (rdE G n0 fb)) (hm : behindInMarks .NotEq b = false) : PE X (.Compare a [.NotEq] [b] pos) (rdE G n0 (eNe cf tb tys fa fb)) :=
  se_of (pe_cmpR (op_neAll T) (toV ha) (toV hb) hm) (ne_core T E)
theorem st_ne (T : Tb X G cf k) (E : EqT G tb tys) (ha : PE X a (rdE G n0 fa)) (hb : PE X b (rdE G n0 fb)) (hm : behindInMarks .NotEq b = false) : PT X (.Compare a [.NotEq] [b] pos) (rdT G n0 (tBl (eNe cf tb tys fa fb))) :=
  st_of (pt_cmpR (op_neAll T) (toV ha) (toV hb) hm) (ne_core T E)
end
end PX
set_option Elab.async false
set_option linter.all false
set_option maxRecDepth 100000
namespace PX
open PySem PySem.Spec PyProof.Rows L2
/-! ### dicts by values -/
def eqK : Key → Key → Bool
  | .inl i, .inl j => decide (i = j)
  | .inr x, .inr y => decide (x = y)
  | _, _ => false
theorem eqK_ok : ∀ a b : Key, eqK a b = decide (a = b)
  | .inl i, .inl j => by
    show decide (i = j) = _
    exact decide_eq_decide.mpr ⟨fun h => by rw [h], fun h => Sum.inl.inj h⟩
  | .inr i, .inr j => by
    show decide (i = j) = _
    exact decide_eq_decide.mpr ⟨fun h => by rw [h], fun h => Sum.inr.inj h⟩
  | .inl i, .inr j => by rw [decide_eq_false (fun z => nomatch z)]; rfl
  | .inr i, .inl j => by rw [decide_eq_false (fun z => nomatch z)]; rfl
def eqKs : List Key → List Key → Bool
  | [], [] => true
  | a :: as, b :: bs => eqK a b && eqKs as bs
  | _, _ => false
theorem eqKs_ok : ∀ a b : List Key, eqKs a b = decide (a = b)
  | [], [] => by rw [decide_eq_true rfl]; rfl
  | [], b :: bs => by rw [decide_eq_false (fun z => nomatch z)]; rfl
  | a :: as, [] => by rw [decide_eq_false (fun z => nomatch z)]; rfl
  | a :: as, b :: bs => by
    unfold eqKs
    rw [eqK_ok, eqKs_ok]
    by_cases h1 : a = b
    · by_cases h2 : as = bs
      · rw [decide_eq_true h1, decide_eq_true h2, decide_eq_true (by rw [h1, h2])]; rfl
      · rw [decide_eq_true h1, decide_eq_false h2, decide_eq_false (fun z => h2 (List.cons.inj z).2)]; rfl
    · rw [decide_eq_false h1, decide_eq_false (fun z => h1 (List.cons.inj z).1)]; rfl
section
variable {κ : Type}
def lookB (eq : κ → κ → Bool) : List κ → List PV → κ → Option PV
  | k :: ks, v :: vs, q => bif eq k q then some v else lookB eq ks vs q
  | _, _, _ => none
def anyB (eq : κ → κ → Bool) : List κ → κ → Bool
  | k :: ks, q => bif eq k q then true else anyB eq ks q
  | _, _ => false
def replB (eq : κ → κ → Bool) : List κ → List PV → κ → PV → List PV
  | k :: ks, v :: vs, q, w => (bif eq k q then w else v) :: replB eq ks vs q w
  | _, _, _, _ => []
def putB (eq : κ → κ → Bool) (ks : List κ) (vs : List PV) (q : κ) (w : PV) : List κ × List PV := bif anyB eq ks q then (ks, replB eq ks vs q w) else (ks ++ [q], vs ++ [w])
end
def keysOf : List PV → Option (List Key)
  | [] => some []
  | .int i :: r => (keysOf r).map (.inl i :: ·)
  | .str i :: r => (keysOf r).map (.inr i :: ·)
  | _ :: _ => none
def keyOf : PV → Option DK
  | .int i => some (.k (.inl i))
  | .str x => some (.k (.inr x))
  | .tup xs => (keysOf xs).map .t
  | _ => none
/-! none: a key of another kind -/
def dGet (ks : DKs) (vs : List PV) (q : DK) : Option (Option PV) := match ks, q with
  | .k l, .k q => some (lookB eqK l vs q)
  | .t l, .t q => some (lookB eqKs l vs q)
  | _, _ => none
def dPut (ks : DKs) (vs : List PV) (q : DK) (w : PV) : Option (DKs × List PV) := match ks, q with
  | .k l, .k q => let z := putB eqK l vs q w; some (.k z.1, z.2)
  | .t l, .t q => let z := putB eqKs l vs q w; some (.t z.1, z.2)
  | _, _ => none
def OptR (G : Gam) (F : Hp) (r : List Addr) (o : Option PV) (o' : Option V) : Prop := match o with
  | some w => ∃ y, o' = some y ∧ RV G F r w y
  | none => o' = none
section
variable {G : Gam} {F : Hp} {r : List Addr} {κ : Type} [DecidableEq κ] {eq : κ → κ → Bool}
theorem lookB_ok (he : ∀ a b, eq a b = decide (a = b)) (q : κ) : ∀ {ks : List κ} {us : List V} {vs : List PV}, ks.length = us.length → RVs G F r vs us → OptR G F r (lookB eq ks vs q) (valV (ks.zip us) q)
  | [], us, vs, _, _ => by
    cases vs <;> exact valV_nil
  | k :: ks, [], vs, h, _ => by cases h
  | k :: ks, u :: us, [], _, k' => by cases (show (u :: us) = [] from k')
  | k :: ks, u :: us, v :: vs, h, k' => by
    obtain ⟨u', ur, e, k1, k2⟩ := k'
    cases e
    unfold lookB
    rw [he]
    by_cases hq : k = q
    · rw [decide_eq_true hq]
      exact ⟨u, by rw [List.zip_cons_cons, valV_pos hq], k1⟩
    · rw [decide_eq_false hq]
      have ih := lookB_ok he q (by simpa using h) k2
      rw [List.zip_cons_cons, valV_neg hq]
      exact ih
theorem anyB_ok (he : ∀ a b, eq a b = decide (a = b)) (q : κ) : ∀ {ks : List κ} {us : List V}, ks.length = us.length → anyB eq ks q = (ks.zip us).any fun kv => decide (kv.1 = q)
  | [], us, _ => rfl
  | k :: ks, [], h => by cases h
  | k :: ks, u :: us, h => by
    unfold anyB
    rw [he, List.zip_cons_cons, List.any_cons, anyB_ok he q (us := us) (by simpa using h)]
    cases decide (k = q) <;> rfl
theorem replB_ok (he : ∀ a b, eq a b = decide (a = b)) {q : κ} {w : PV} {y : V} (hw : RV G F r w y) : ∀ {ks : List κ} {us : List V} {vs : List PV}, ks.length = us.length → RVs G F r vs us →
    ∃ us', (ks.zip us).map (fun kv => if kv.1 = q then (kv.1, y) else kv) = ks.zip us' ∧ ks.length = us'.length ∧ RVs G F r (replB eq ks vs q w) us'
  | [], us, vs, _, _ => ⟨[], rfl, rfl, by cases vs <;> exact rfl⟩
  | k :: ks, [], vs, h, _ => by cases h
  | k :: ks, u :: us, [], _, k' => by cases (show (u :: us) = [] from k')
  | k :: ks, u :: us, v :: vs, h, k' => by
    obtain ⟨u', ur, e, k1, k2⟩ := k'
    cases e
    obtain ⟨us', e1, e2, e3⟩ := replB_ok he hw (by simpa using h) k2
    unfold replB
    rw [List.zip_cons_cons, List.map_cons, e1, he]
    by_cases hq : k = q
    · rw [decide_eq_true hq, if_pos hq]
      exact ⟨y :: us', rfl, by simpa using e2, y, us', rfl, hw, e3⟩
    · rw [decide_eq_false hq, if_neg hq]
      exact ⟨u :: us', rfl, by simpa using e2, u, us', rfl, k1, e3⟩
theorem putB_ok (he : ∀ a b, eq a b = decide (a = b)) {q : κ} {w : PV} {y : V} (hw : RV G F r w y) {ks : List κ} {us : List V} {vs : List PV} (hl : ks.length = us.length) (k : RVs G F r vs us) :
    ∃ us', putK (ks.zip us) q y = (putB eq ks vs q w).1.zip us' ∧ (putB eq ks vs q w).1.length = us'.length ∧ RVs G F r (putB eq ks vs q w).2 us' := by
  unfold putB putK
  rw [anyB_ok he q hl]
  cases hb : (ks.zip us).any fun kv => decide (kv.1 = q) with
  | true =>
    rw [if_pos rfl]
    exact replB_ok he hw hl k
  | false =>
    rw [if_neg Bool.false_ne_true]
    refine ⟨us ++ [y], ?_, ?_, k.append ⟨y, [], rfl, hw, rfl⟩⟩
    · show ks.zip us ++ [(q, y)] = (ks ++ [q]).zip (us ++ [y])
      rw [List.zip_append hl]
      rfl
    · show (ks ++ [q]).length = (us ++ [y]).length
      rw [List.length_append, List.length_append, hl]
      rfl
end
section
variable {G : Gam} {n0 : Nat} {g : Gh} {F : Hp} {r : List Addr} {S : Store} {H : Hp}
theorem keysOf_ok : ∀ {xs : List PV} {us : List V} {ks : List Key}, RVs G F r xs us → keysOf xs = some ks → us = ks.map kV
  | [], us, ks, q, e => by cases e; exact q
  | v :: vs, us, ks, q, e => by
    obtain ⟨u, ur, rfl, k, l⟩ := q
    cases v <;> try cases e
    · rename_i i
      have e : (keysOf vs).map (.inl i :: ·) = some ks := e
      cases e1 : keysOf vs with
      | none => rw [e1] at e; cases e
      | some ks' =>
        rw [e1] at e
        cases e
        rw [keysOf_ok l e1, show u = V.int i from k]
        rfl
    · rename_i i
      have e : (keysOf vs).map (.inr i :: ·) = some ks := e
      cases e1 : keysOf vs with
      | none => rw [e1] at e; cases e
      | some ks' =>
        rw [e1] at e
        cases e
        rw [keysOf_ok l e1, show u = V.str i from k]
        rfl
theorem keyOf_k {v : PV} {u : V} {k : Key} (q : RV G F r v u) (e : keyOf v = some (.k k)) : u = kV k := by
  cases v <;> try cases e
  · exact q
  · exact q
  · rename_i xs
    have e : (keysOf xs).map .t = some (DK.k k) := e
    cases e1 : keysOf xs with
    | none => rw [e1] at e; cases e
    | some => rw [e1] at e; cases e
theorem keyOf_t {v : PV} {u : V} {k : List Key} (q : RV G F r v u) (e : keyOf v = some (.t k)) : ∃ b, u = .ref b ∧ F b = some (.tup (k.map kV)) := by
  cases v <;> try cases e
  rename_i xs
  have e : (keysOf xs).map .t = some (DK.t k) := e
  cases e1 : keysOf xs with
  | none => rw [e1] at e; cases e
  | some ks =>
    rw [e1] at e
    cases e
    obtain ⟨a, us, rfl, k1, k2⟩ := q
    rw [keysOf_ok k2 e1] at k1
    exact ⟨a, rfl, k1⟩
theorem dGet_ok (h : HR G n0 g F r S H) {v w : PV} {u y : V} {ks : DKs} {vs : List PV} {q : DK} {o : Option PV} (qd : RV G F r v u) (ed : deref S v = some (.dct ks vs)) (qk : RV G F r w y) (ek : keyOf w = some q) (e : dGet ks vs q = some o) :
    ∃ a o', u = .ref a ∧ DGet H a y o' ∧ OptR G F r o o' := by
  obtain ⟨a, ho, us, rfl, k1, k2, k3⟩ := view_dct h qd ed
  cases ks with
  | k l =>
    obtain ⟨rfl, hl⟩ := k2
    cases q with
    | t q => cases e
    | k q =>
      have e : some (lookB eqK l vs q) = some o := e
      have e := Option.some.inj e
      refine ⟨a, valV (l.zip us) q, rfl, .inl ⟨_, q, k1, keyOf_k qk ek, rfl⟩, ?_⟩
      have := lookB_ok eqK_ok q hl k3
      rw [e] at this
      exact this
  | t l =>
    obtain ⟨rfl, hl⟩ := k2
    cases q with
    | k q => cases e
    | t q =>
      have e : some (lookB eqKs l vs q) = some o := e
      have e := Option.some.inj e
      obtain ⟨b, rfl, eb⟩ := keyOf_t qk ek
      refine ⟨a, valV (l.zip us) q, rfl, .inr ⟨_, q, b, k1, rfl, h.sub.tpH eb, rfl⟩, ?_⟩
      have := lookB_ok eqKs_ok q hl k3
      rw [e] at this
      exact this
end
end PX
set_option Elab.async false
set_option linter.all false
set_option maxRecDepth 100000
set_option maxHeartbeats 2000000
/-! zip and enumerate over any mix of lists and tuples -/
namespace ZG
open PySem RZ
/-! a sequence's iterator, a sequence: true for a tuple -/
def SqIt (b : Bool) (h : Heap) (it l : Addr) (i : Nat) : Prop := match b with
  | true => h.IsTupleIter it l i
  | false => h.IsListIter it l i
def SqOb (b : Bool) (h : Heap) (l : Addr) (items : Array Value) : Prop := match b with
  | true => h.IsTuple l items
  | false => h.IsList l items
section
variable {b : Bool} {h h' : Heap} {it l : Addr} {i : Nat} {items : Array Value}
theorem SqIt.at_ (q : SqIt b h it l i) (k : ∀ o, h.get? it = some o → h'.get? it = some o) : SqIt b h' it l i := by
  cases b with
  | true => exact Heap.IsTupleIter.at q k
  | false => exact Heap.IsListIter.at q k
theorem SqIt.obj (q : SqIt b h it l i) : ∃ o vs, h.get? it = some o ∧ o.data = .fields vs := by
  cases b with
  | true =>
    obtain ⟨o, e, _, d⟩ := q
    exact ⟨o, _, e, d⟩
  | false =>
    obtain ⟨o, e, _, d⟩ := q
    exact ⟨o, _, e, d⟩
theorem SqIt.lt (q : SqIt b h it l i) : it < h.objs.size := by
  obtain ⟨o, _, e, _⟩ := q.obj
  exact Heap.lt_size e
theorem SqIt.extBut {z : Addr} (q : SqIt b h it l i) (k : Heap.ExtBut z h h') (hz : it ≠ z) : SqIt b h' it l i := q.at_ fun o e => k _ _ hz e
theorem SqOb.extBut {z : Addr} (q : SqOb b h l items) (k : Heap.ExtBut z h h') (hz : l ≠ z) : SqOb b h' l items := by
  cases b with
  | true =>
    obtain ⟨o, e, r⟩ := (show h.IsTuple l items from q)
    exact (show h'.IsTuple l items from ⟨o, k _ _ hz e, r⟩)
  | false =>
    obtain ⟨o, e, r⟩ := (show h.IsList l items from q)
    exact (show h'.IsList l items from ⟨o, k _ _ hz e, r⟩)
theorem SqOb.push (q : SqOb b h l items) (o : Obj) : SqOb b (h.push o) l items := by
  cases b with
  | true =>
    obtain ⟨o', e, r⟩ := (show h.IsTuple l items from q)
    exact (show (h.push o).IsTuple l items from ⟨o', Heap.get?_push_of_some _ e, r⟩)
  | false =>
    obtain ⟨o', e, r⟩ := (show h.IsList l items from q)
    exact (show (h.push o).IsList l items from ⟨o', Heap.get?_push_of_some _ e, r⟩)
end
section
variable {prog : Program} {w : World} {A : Around} {E : Value → Shared → Prop} {s : Shared}
theorem nextOf_item {b : Bool} {it l : Addr} {i : Nat} {items : Array Value} {x : Value} {Q : Value → Shared → Prop} (hit : SqIt b s.heap it l i)
    (hl : SqOb b s.heap l items) (hx : items[i]? = some x)
    (hQ : ∀ h', SqIt b h' it l (i + 1) → Heap.SameBut it s.heap h' → Q x { s with heap := h' }) :
    wpAny (model prog w) A (Builtin.SmallTypes.nextOf (.ref it)) Q E s := by
  cases b with
  | true => exact nextOf_tuple_item hit hl hx hQ
  | false => exact wpAny_nextOf_list_item hit hl hx hQ
theorem nextOf_end {b : Bool} {it l : Addr} {i : Nat} {items : Array Value} {Q : Value → Shared → Prop} (hh : A.handled = none)
    (hit : SqIt b s.heap it l i) (hl : SqOb b s.heap l items) (hx : items[i]? = none)
    (hE : ∀ h' e, Heap.ExtBut it s.heap h' → (∃ o, h'.get? e = some o ∧ o.cls = .type "StopIteration") → E (.ref e) { s with heap := h' }) :
    wpAny (model prog w) A (Builtin.SmallTypes.nextOf (.ref it)) Q E s := by
  cases b with
  | true => exact nextOf_tuple_end hh hit hl hx hE
  | false => exact wpAny_nextOf_list_end hh hit hl hx hE
theorem zipG_next_item {b1 b2 : Bool} {z TI TO i1 i2 l1 l2 : Addr} {k1 k2 : Nat} {xs ys : Array Value} {x y a b : Value} {Q : Value → Shared → Prop} (D : ZipApart z TI TO i1 i2 l1 l2)
    (hz : IsZip s.heap z TI TO .none) (hTI : IsPair s.heap TI (.ref i1) (.ref i2)) (hTO : IsPair s.heap TO a b)
    (h1 : SqIt b1 s.heap i1 l1 k1) (h2 : SqIt b2 s.heap i2 l2 k2) (hl1 : SqOb b1 s.heap l1 xs) (hl2 : SqOb b2 s.heap l2 ys) (hx : xs[k1]? = some x) (hy : ys[k2]? = some y)
    (hQ : ∀ h', IsZip h' z TI TO (rawInt s.heap.objs.size) → IsPair h' TO x y → SqIt b1 h' i1 l1 (k1 + 1) → SqIt b2 h' i2 l2 (k2 + 1) → IsPair h' s.heap.objs.size x y → h'.objs.size = s.heap.objs.size + 1 →
      (∀ c o, c ≠ z → c ≠ TO → c ≠ i1 → c ≠ i2 → s.heap.get? c = some o → h'.get? c = some o) → Q (.ref s.heap.objs.size) { s with heap := h' }) :
    wpAny (model prog w) A (Builtin.«zip.__next__» ⟨[.ref z], []⟩) (fun fin s' => ∃ v, fin = .done (.ret v) ∧ Q v s') E s := by
  show wpAny _ _ (field (.ref z) 2 >>= _) _ _ _
  refine wpAny_bind (wpAny_field hz rfl (x := .bool false) rfl ?_)
  show wpAny _ _ (field (.ref z) 3 >>= _) _ _ _
  refine wpAny_bind (wpAny_field hz rfl (x := .ref TI) rfl ?_)
  refine wpAny_bind (wpAny_seqItems hTI rfl ?_)
  show wpAny _ _ (Builtin.SmallTypes.ownedTupleIsFree (.ref z) >>= _) _ _ _
  refine wpAny_bind ?_
  unfold Builtin.SmallTypes.ownedTupleIsFree
  refine wpAny_bind (wpAny_field hz rfl (x := .none) rfl (wpAny_pure ?_))
  simp only [if_true]
  refine wpAny_bind (wpAny_rule ?_)
  refine wpAny_bind (wpAny_field hz rfl (x := .ref TO) rfl ?_)
  refine wpAny_bind (wpAny_setField_rec hz (by simp) fun h₁ hz₁ hs₁ => ?_)
  replace hz₁ : IsZip h₁ z TI TO .ellipsis := hz₁
  refine wpAny_bind ?_
  simp only [List.zipIdx_cons, List.zipIdx_nil, List.forIn_cons, List.forIn_nil]

  refine wpAny_bind (wpAny_bind (wpAny_onRaise ?_))
  show wpAny _ _ (Builtin.SmallTypes.nextOf (.ref i1) >>= _) _ _ _
  refine wpAny_bind (nextOf_item (h1.extBut hs₁.extBut D.i1z) (hl1.extBut hs₁.extBut D.l1z) hx fun h₂ h1₂ hs₂ => wpAny_pure ?_)
  have hTO₂ : IsPair h₂ TO a b := hs₂.extBut _ _ D.TOi1 (hs₁.extBut _ _ D.TOz hTO)
  refine wpAny_bind (wpAny_seqItems hTO₂ rfl ?_)
  refine wpAny_bind (wpAny_updateSeq_pair hTO₂ fun h₃ hTO₃ hs₃ => ?_)
  replace hTO₃ : IsPair h₃ TO x b := hTO₃
  refine wpAny_bind (wpAny_letGo (wpAny_pure ?_))

  refine wpAny_bind (wpAny_bind (wpAny_onRaise ?_))
  show wpAny _ _ (Builtin.SmallTypes.nextOf (.ref i2) >>= _) _ _ _
  refine wpAny_bind (nextOf_item (((h2.extBut hs₁.extBut D.i2z).extBut hs₂.extBut D.i12.symm).extBut hs₃.extBut D.TOi2.symm)
    (((hl2.extBut hs₁.extBut D.l2z).extBut hs₂.extBut D.l2i1).extBut hs₃.extBut D.l2TO) hy fun h₄ h2₄ hs₄ => wpAny_pure ?_)
  have hTO₄ : IsPair h₄ TO x b := hs₄.extBut _ _ D.TOi2 hTO₃
  refine wpAny_bind (wpAny_seqItems hTO₄ rfl ?_)
  refine wpAny_bind (wpAny_updateSeq_pair hTO₄ fun h₅ hTO₅ hs₅ => ?_)
  replace hTO₅ : IsPair h₅ TO x y := hTO₅
  refine wpAny_bind (wpAny_letGo (wpAny_pure (wpAny_pure ?_)))

  refine wpAny_bind (wpAny_seqItems hTO₅ rfl ?_)
  refine wpAny_bind (wpAny_newTuple ?_)
  have hsz : h₅.objs.size = s.heap.objs.size := by rw [hs₅.1, hs₄.1, hs₃.1, hs₂.1, hs₁.1]
  have hz₅ : IsZip h₅ z TI TO .ellipsis := hs₅.extBut _ _ D.TOz.symm (hs₄.extBut _ _ D.i2z.symm (hs₃.extBut _ _ D.TOz.symm (hs₂.extBut _ _ D.i1z.symm hz₁)))
  have hk₅ : ∀ c o, c ≠ z → c ≠ TO → c ≠ i1 → c ≠ i2 → s.heap.get? c = some o → h₅.get? c = some o := fun c o c1 c2 c3 c4 e =>
    hs₅.extBut _ _ c2 (hs₄.extBut _ _ c4 (hs₃.extBut _ _ c2 (hs₂.extBut _ _ c3 (hs₁.extBut _ _ c1 e))))
  have h1₅ : SqIt b1 h₅ i1 l1 (k1 + 1) := ((h1₂.extBut hs₃.extBut D.TOi1.symm).extBut hs₄.extBut D.i12).extBut hs₅.extBut D.TOi1.symm
  have h2₅ : SqIt b2 h₅ i2 l2 (k2 + 1) := h2₄.extBut hs₅.extBut D.TOi2.symm
  have hzlt : z < h₅.objs.size := Heap.lt_size hz₅
  have hTOlt : TO < h₅.objs.size := Heap.lt_size hTO₅
  have hi1lt : i1 < h₅.objs.size := h1₅.lt
  have hi2lt : i2 < h₅.objs.size := h2₅.lt
  show wpAny _ _ (Builtin.SmallTypes.ownedTupleHandOut (.ref z) (.ref h₅.objs.size) >>= _) _ _ _
  refine wpAny_bind ?_
  unfold Builtin.SmallTypes.ownedTupleHandOut
  have hz₆ : IsZip (h₅.push { cls := .type "tuple", data := .seq #[x, y] }) z TI TO .ellipsis := Heap.get?_push_of_some _ hz₅
  refine wpAny_bind (wpAny_setField_rec hz₆ (by simp) fun h₇ hz₇ hs₇ => ?_)
  replace hz₇ : IsZip h₇ z TI TO (rawInt h₅.objs.size) := hz₇
  refine wpAny_setField_rec hz₇ (by simp) fun h₈ hz₈ hs₈ => ?_
  replace hz₈ : IsZip h₈ z TI TO (rawInt h₅.objs.size) := hz₈
  have up : ∀ c o, c ≠ z → h₅.get? c = some o → h₈.get? c = some o := fun c o c1 e => hs₈.extBut _ _ c1 (hs₇.extBut _ _ c1 (Heap.get?_push_of_some _ e))
  have hT₈ : IsPair h₈ h₅.objs.size x y := hs₈.extBut _ _ (Nat.ne_of_gt hzlt) (hs₇.extBut _ _ (Nat.ne_of_gt hzlt) (Heap.get?_push_size _ rfl))
  have hz8 : h₈.objs.size = h₅.objs.size + 1 := by rw [hs₈.1, hs₇.1, Heap.size_push]
  rw [hsz] at hz₈ hT₈ hz8
  refine wpAny_pure ⟨_, rfl, ?_⟩
  show Q (.ref h₅.objs.size) _
  rw [hsz]
  exact hQ h₈ hz₈ (up _ _ D.TOz hTO₅) (h1₅.at_ fun o e => up _ o D.i1z e) (h2₅.at_ fun o e => up _ o D.i2z e) hT₈ hz8 fun c o c1 c2 c3 c4 e => up c o c1 (hk₅ c o c1 c2 c3 c4 e)

theorem zipG_next_end {b1 b2 : Bool} {z TI TO i1 i2 l1 l2 : Addr} {k1 k2 : Nat} {xs ys : Array Value} {a b : Value} {Q : Fin → Shared → Prop} (hh : A.handled = none) (D : ZipApart z TI TO i1 i2 l1 l2)
    (hz : IsZip s.heap z TI TO .none) (hTI : IsPair s.heap TI (.ref i1) (.ref i2)) (hTO : IsPair s.heap TO a b)
    (h1 : SqIt b1 s.heap i1 l1 k1) (h2 : SqIt b2 s.heap i2 l2 k2) (hl1 : SqOb b1 s.heap l1 xs) (hl2 : SqOb b2 s.heap l2 ys) (hend : xs[k1]? = none ∨ ys[k2]? = none)
    (hE : ∀ h' e, (∀ c o, c ≠ z → c ≠ TO → c ≠ i1 → c ≠ i2 → s.heap.get? c = some o → h'.get? c = some o) → (∃ o, h'.get? e = some o ∧ o.cls = .type "StopIteration") → E (.ref e) { s with heap := h' }) :
    wpAny (model prog w) A (Builtin.«zip.__next__» ⟨[.ref z], []⟩) Q E s := by
  show wpAny _ _ (field (.ref z) 2 >>= _) _ _ _
  refine wpAny_bind (wpAny_field hz rfl (x := .bool false) rfl ?_)
  show wpAny _ _ (field (.ref z) 3 >>= _) _ _ _
  refine wpAny_bind (wpAny_field hz rfl (x := .ref TI) rfl ?_)
  refine wpAny_bind (wpAny_seqItems hTI rfl ?_)
  show wpAny _ _ (Builtin.SmallTypes.ownedTupleIsFree (.ref z) >>= _) _ _ _
  refine wpAny_bind ?_
  unfold Builtin.SmallTypes.ownedTupleIsFree
  refine wpAny_bind (wpAny_field hz rfl (x := .none) rfl (wpAny_pure ?_))
  simp only [if_true]
  refine wpAny_bind (wpAny_rule ?_)
  refine wpAny_bind (wpAny_field hz rfl (x := .ref TO) rfl ?_)
  refine wpAny_bind (wpAny_setField_rec hz (by simp) fun h₁ hz₁ hs₁ => ?_)
  replace hz₁ : IsZip h₁ z TI TO .ellipsis := hz₁
  refine wpAny_bind ?_
  simp only [List.zipIdx_cons, List.zipIdx_nil, List.forIn_cons, List.forIn_nil]
  refine wpAny_bind (wpAny_bind (wpAny_onRaise ?_))
  show wpAny _ _ (Builtin.SmallTypes.nextOf (.ref i1) >>= _) _ _ _
  cases hx : xs[k1]? with
  | none =>
    refine wpAny_bind (nextOf_end hh (h1.extBut hs₁.extBut D.i1z) (hl1.extBut hs₁.extBut D.l1z) hx fun h₂ e hs₂ he => ?_)
    obtain ⟨oe, hoe, hce⟩ := he
    have hz₂ : IsZip h₂ z TI TO .ellipsis := hs₂ _ _ D.i1z.symm hz₁
    have hez : e ≠ z := fun x => by subst x; rw [hz₂] at hoe; cases hoe; simp at hce
    refine wpAny_setField_rec hz₂ (by simp) fun h₃ _ hs₃ => hE h₃ e (fun c o c1 _ c3 _ x => hs₃.extBut _ _ c1 (hs₂ _ _ c3 (hs₁.extBut _ _ c1 x))) ⟨oe, hs₃.extBut _ _ hez hoe, hce⟩
  | some x =>
    have hy : ys[k2]? = none := by rcases hend with h | h; rw [hx] at h; cases h; exact h
    refine wpAny_bind (nextOf_item (h1.extBut hs₁.extBut D.i1z) (hl1.extBut hs₁.extBut D.l1z) hx fun h₂ h1₂ hs₂ => wpAny_pure ?_)
    have hTO₂ : IsPair h₂ TO a b := hs₂.extBut _ _ D.TOi1 (hs₁.extBut _ _ D.TOz hTO)
    refine wpAny_bind (wpAny_seqItems hTO₂ rfl ?_)
    refine wpAny_bind (wpAny_updateSeq_pair hTO₂ fun h₃ hTO₃ hs₃ => ?_)
    refine wpAny_bind (wpAny_letGo (wpAny_pure ?_))
    refine wpAny_bind (wpAny_bind (wpAny_onRaise ?_))
    show wpAny _ _ (Builtin.SmallTypes.nextOf (.ref i2) >>= _) _ _ _
    refine wpAny_bind (nextOf_end hh (((h2.extBut hs₁.extBut D.i2z).extBut hs₂.extBut D.i12.symm).extBut hs₃.extBut D.TOi2.symm)
      (((hl2.extBut hs₁.extBut D.l2z).extBut hs₂.extBut D.l2i1).extBut hs₃.extBut D.l2TO) hy fun h₄ e hs₄ he => ?_)
    obtain ⟨oe, hoe, hce⟩ := he
    have hz₄ : IsZip h₄ z TI TO .ellipsis := hs₄ _ _ D.i2z.symm (hs₃.extBut _ _ D.TOz.symm (hs₂.extBut _ _ D.i1z.symm hz₁))
    have hez : e ≠ z := fun x => by subst x; rw [hz₄] at hoe; cases hoe; simp at hce
    refine wpAny_setField_rec hz₄ (by simp) fun h₅ _ hs₅ => hE h₅ e (fun c o c1 c2 c3 c4 x => hs₅.extBut _ _ c1 (hs₄ _ _ c4 (hs₃.extBut _ _ c2 (hs₂.extBut _ _ c3 (hs₁.extBut _ _ c1 x))))) ⟨oe, hs₅.extBut _ _ hez hoe, hce⟩

theorem pyNext_zipG_item {b1 b2 : Bool} {z TI TO i1 i2 l1 l2 : Addr} {k1 k2 : Nat} {xs ys : Array Value} {x y a b : Value} {Q : Option Value → Shared → Prop} (D : ZipApart z TI TO i1 i2 l1 l2)
    (hz : IsZip s.heap z TI TO .none) (hTI : IsPair s.heap TI (.ref i1) (.ref i2)) (hTO : IsPair s.heap TO a b)
    (h1 : SqIt b1 s.heap i1 l1 k1) (h2 : SqIt b2 s.heap i2 l2 k2) (hl1 : SqOb b1 s.heap l1 xs) (hl2 : SqOb b2 s.heap l2 ys) (hx : xs[k1]? = some x) (hy : ys[k2]? = some y)
    (hQ : ∀ h', IsZip h' z TI TO (rawInt s.heap.objs.size) → IsPair h' TO x y → SqIt b1 h' i1 l1 (k1 + 1) → SqIt b2 h' i2 l2 (k2 + 1) → IsPair h' s.heap.objs.size x y → h'.objs.size = s.heap.objs.size + 1 →
      (∀ c o, c ≠ z → c ≠ TO → c ≠ i1 → c ≠ i2 → s.heap.get? c = some o → h'.get? c = some o) → Q (some (.ref s.heap.objs.size)) { s with heap := h' }) :
    wpAny (model prog w) A (pyNext (.ref z)) Q E s := by
  have hT : s.TypeIs (.ref z) "zip" := ⟨_, hz, rfl⟩
  unfold pyNext
  exact wpAny_bind (wpAny_attempt (wpAny_callSpecial?_slot (name := Str.ofString "__next__") hT F.slot_zip_next
    (wpAny_call_entry F.slot_zip_next hT F.entry_zip_next
      (zipG_next_item D hz hTI hTO h1 h2 hl1 hl2 hx hy fun h' a1 a2 a3 a4 a5 a6 a7 => wpAny_pure (hQ h' a1 a2 a3 a4 a5 a6 a7)) (F.args_zip_next_1 _))))

theorem pyNext_zipG_end {b1 b2 : Bool} {z TI TO i1 i2 l1 l2 : Addr} {k1 k2 : Nat} {xs ys : Array Value} {a b : Value} {Q : Option Value → Shared → Prop} (hh : A.handled = none) (D : ZipApart z TI TO i1 i2 l1 l2)
    (hz : IsZip s.heap z TI TO .none) (hTI : IsPair s.heap TI (.ref i1) (.ref i2)) (hTO : IsPair s.heap TO a b)
    (h1 : SqIt b1 s.heap i1 l1 k1) (h2 : SqIt b2 s.heap i2 l2 k2) (hl1 : SqOb b1 s.heap l1 xs) (hl2 : SqOb b2 s.heap l2 ys) (hend : xs[k1]? = none ∨ ys[k2]? = none)
    (hQ : ∀ h', (∀ c o, c ≠ z → c ≠ TO → c ≠ i1 → c ≠ i2 → s.heap.get? c = some o → h'.get? c = some o) → Q none { s with heap := h' }) : wpAny (model prog w) A (pyNext (.ref z)) Q E s := by
  have hT : s.TypeIs (.ref z) "zip" := ⟨_, hz, rfl⟩
  unfold pyNext
  refine wpAny_bind (wpAny_attempt (wpAny_callSpecial?_slot (name := Str.ofString "__next__") hT F.slot_zip_next
    (wpAny_call_entry F.slot_zip_next hT F.entry_zip_next (zipG_next_end hh D hz hTI hTO h1 h2 hl1 hl2 hend fun h' e hk he => ?_) (F.args_zip_next_1 _))))
  obtain ⟨o, ho, hc⟩ := he
  refine wpAny_bind (wpAny_isInstance (T := "StopIteration") (b := true) ⟨o, ho, hc⟩ isSubtype_stop ?_)
  exact wpAny_pure (hQ _ hk)
end


/-! making them -/
def itObj (b : Bool) (l : Addr) : Obj := { cls := .type (bif b then "tuple_iterator" else "list_iterator"), data := .fields #[.ref l, .int 0 0] }
theorem SqIt.new {b : Bool} {h : Heap} {it l : Addr} (e : h.get? it = some (itObj b l)) : SqIt b h it l 0 := by
  cases b with
  | true => exact ⟨_, e, rfl, rfl⟩
  | false => exact ⟨_, e, rfl, rfl⟩
theorem pyIter_sq {prog : Program} {w : World} {A : Around} {E : Value → Shared → Prop} {s : Shared} {b : Bool} {l : Addr} {items : Array Value} {Q : Value → Shared → Prop} (hl : SqOb b s.heap l items)
    (h : Q (.ref s.heap.objs.size) { s with heap := s.heap.push (itObj b l) }) : wpAny (model prog w) A (pyIter (.ref l)) Q E s := by
  cases b with
  | true => exact wpAny_pyIter_tuple hl h
  | false => exact wpAny_pyIter_list hl h
abbrev zH1 (b1 : Bool) (h : Heap) (l1 : Addr) : Heap := h.push (itObj b1 l1)
abbrev zH2 (b1 b2 : Bool) (h : Heap) (l1 l2 : Addr) : Heap := (zH1 b1 h l1).push (itObj b2 l2)
abbrev zH3 (b1 b2 : Bool) (h : Heap) (l1 l2 : Addr) : Heap := (zH2 b1 b2 h l1 l2).push { cls := .type "tuple", data := .seq #[.ref h.objs.size, .ref (zH1 b1 h l1).objs.size] }
abbrev zH4 (b1 b2 : Bool) (h : Heap) (l1 l2 : Addr) : Heap := (zH3 b1 b2 h l1 l2).push { cls := .type "tuple", data := .seq #[.none, .none] }
abbrev zH5 (b1 b2 : Bool) (h : Heap) (l1 l2 : Addr) : Heap := (zH4 b1 b2 h l1 l2).push { cls := .type "zip", data := .fields #[.none, .bool false, .bool false, .ref (zH2 b1 b2 h l1 l2).objs.size, .ref (zH3 b1 b2 h l1 l2).objs.size] }
theorem meets_zipG_new (b1 b2 : Bool) (l1 l2 : Addr) (xs ys : Array Value) :
    Meets (Builtin.«zip.__new__» ⟨[.type "zip", .ref l1, .ref l2], []⟩) (fun _ R s => SqOb b1 s.heap l1 xs ∧ SqOb b2 s.heap l2 ys ∧
      R (.ok (.ret (.ref (zH4 b1 b2 s.heap l1 l2).objs.size))) { s with heap := zH5 b1 b2 s.heap l1 l2 }) :=
  .of_wp fun prog w A R s h => by
    obtain ⟨hp, g, d, tk, os⟩ := s; obtain ⟨hl1, hl2, h⟩ := h
    have hsub := sub_zip
    have hL1 : SqOb b1 (Shared.heap ⟨hp, g, d, tk, os⟩) l1 xs := hl1
    have hL2 : SqOb b2 (Shared.heap ⟨hp.push (itObj b1 l1), g, d, tk, os⟩) l2 ys := SqOb.push hl2 _
    wp_walk using pyIter_sq hL1, pyIter_sq hL2
    exact ⟨_, rfl, h⟩
theorem call_zipG {prog : Program} {w : World} {A : Around} {E : Value → Shared → Prop} {s : Shared} {b1 b2 : Bool} {l1 l2 : Addr} {xs ys : Array Value} {Q : Value → Shared → Prop} (hl1 : SqOb b1 s.heap l1 xs) (hl2 : SqOb b2 s.heap l2 ys)
    (h : ∀ h', IsZip h' (s.heap.objs.size + 4) (s.heap.objs.size + 2) (s.heap.objs.size + 3) .none → IsPair h' (s.heap.objs.size + 2) (.ref s.heap.objs.size) (.ref (s.heap.objs.size + 1)) →
      IsPair h' (s.heap.objs.size + 3) .none .none → SqIt b1 h' s.heap.objs.size l1 0 → SqIt b2 h' (s.heap.objs.size + 1) l2 0 → h'.objs.size = s.heap.objs.size + 5 →
      (∀ c o, s.heap.get? c = some o → h'.get? c = some o) → Q (.ref (s.heap.objs.size + 4)) { s with heap := h' }) :
    wpAny (model prog w) A (call (.type "zip") [.ref l1, .ref l2]) Q E s := by
  refine callType_new F.called_zip (by decide) (F.typeCall_zip_2 _ _) (F.newCall_zip_2 _ _) (fun obj => F.args_object_init_3 obj _ _) F.entry_zip_new
    (meets_zipG_new b1 b2 l1 l2 xs ys) ⟨hl1, hl2, ?_⟩
  have fr1 : (itObj b1 l1).isFreed = false := by cases b1 <;> rfl
  have fr2 : (itObj b2 l2).isFreed = false := by cases b2 <;> rfl
  have z1 : (zH1 b1 s.heap l1).objs.size = s.heap.objs.size + 1 := Heap.size_push ..
  have z2 : (zH2 b1 b2 s.heap l1 l2).objs.size = s.heap.objs.size + 2 := by rw [Heap.size_push, z1]
  have z3 : (zH3 b1 b2 s.heap l1 l2).objs.size = s.heap.objs.size + 3 := by rw [Heap.size_push, z2]
  have z4 : (zH4 b1 b2 s.heap l1 l2).objs.size = s.heap.objs.size + 4 := by rw [Heap.size_push, z3]
  have z5 : (zH5 b1 b2 s.heap l1 l2).objs.size = s.heap.objs.size + 5 := by rw [Heap.size_push, z4]
  have g5 : (zH5 b1 b2 s.heap l1 l2).get? (zH4 b1 b2 s.heap l1 l2).objs.size = some _ := Heap.get?_push_size _ rfl
  have g4 : (zH5 b1 b2 s.heap l1 l2).get? (zH3 b1 b2 s.heap l1 l2).objs.size = some _ := Heap.get?_push_of_some _ (Heap.get?_push_size _ rfl)
  have g3 : (zH5 b1 b2 s.heap l1 l2).get? (zH2 b1 b2 s.heap l1 l2).objs.size = some _ := Heap.get?_push_of_some _ (Heap.get?_push_of_some _ (Heap.get?_push_size _ rfl))
  have g2 : (zH5 b1 b2 s.heap l1 l2).get? (zH1 b1 s.heap l1).objs.size = some (itObj b2 l2) := Heap.get?_push_of_some _ (Heap.get?_push_of_some _ (Heap.get?_push_of_some _ (Heap.get?_push_size _ fr2)))
  have g1 : (zH5 b1 b2 s.heap l1 l2).get? s.heap.objs.size = some (itObj b1 l1) := Heap.get?_push_of_some _ (Heap.get?_push_of_some _ (Heap.get?_push_of_some _ (Heap.get?_push_of_some _ (Heap.get?_push_size _ fr1))))
  show _ ∧ _
  rw [z2, z3, z4] at g5
  rw [z1, z2] at g3
  rw [z3] at g4
  rw [z1] at g2
  rw [z4]
  exact ⟨⟨_, g5, rfl⟩, h _ g5 g3 g4 (SqIt.new g1) (SqIt.new g2) z5 fun c o x =>
    Heap.get?_push_of_some _ (Heap.get?_push_of_some _ (Heap.get?_push_of_some _ (Heap.get?_push_of_some _ (Heap.get?_push_of_some _ x))))⟩

/-! enumerate -/
open AutoSeq1 (wpAny_loadPart')
abbrev sqTy (b : Bool) : String := match b with
  | true => "tuple"
  | false => "list"
theorem SqOb.get {b : Bool} {h : Heap} {l : Addr} {items : Array Value} (q : SqOb b h l items) : ∃ dct n sl, h.get? l = some { cls := .type (sqTy b), dict := dct, data := .seq items n, slots := sl } := by
  cases b with
  | true =>
    obtain ⟨⟨c, dct, dt, sl⟩, hl, hc, n, hd⟩ := (show h.IsTuple l items from q)
    replace hc : c = .type "tuple" := hc
    replace hd : dt = .seq items n := hd
    subst hc hd
    exact ⟨dct, n, sl, hl⟩
  | false =>
    obtain ⟨⟨c, dct, dt, sl⟩, hl, hc, n, hd⟩ := (show h.IsList l items from q)
    replace hc : c = .type "list" := hc
    replace hd : dt = .seq items n := hd
    subst hc hd
    exact ⟨dct, n, sl, hl⟩
theorem meets_enumG_new (b : Bool) (l : Addr) (items : Array Value) :
    Meets (Builtin.«enumerate.__new__» ⟨[.type "enumerate", .ref l], []⟩) (fun _ R s => SqOb b s.heap l items ∧
      R (.ok (.ret (.ref (s.heap.push (itObj b l)).objs.size)))
        { s with heap := (s.heap.push (itObj b l)).push { cls := .type "enumerate", data := .fields #[.none, .bool false, .ref s.heap.objs.size, rawInt 0, .none, .none] } }) :=
  .of_wp fun prog w A R s h => by
    obtain ⟨hp, g, d, tk, os⟩ := s; obtain ⟨hl0, h⟩ := h
    obtain ⟨dct, n, sl, hl⟩ := hl0.get
    have hsub := sub_enumerate
    have hL : SqOb b (Shared.heap ⟨hp, g, d, tk, os⟩) l items := hl0
    cases b with
    | true =>
      wp_walk using wpAny_loadPart' hl
      refine wpAny_stack_any fun st => wpAny_pure ?_
      split
      · rename_i c _ _ _ _ _
        cases (c == Value.type "enumerate")
        · wp_walk using wpAny_loadPart' hl, pyIter_sq hL
          exact ⟨_, rfl, h⟩
        · wp_walk using wpAny_loadPart' hl, pyIter_sq hL
          exact ⟨_, rfl, h⟩
      · wp_walk using wpAny_loadPart' hl, pyIter_sq hL
        exact ⟨_, rfl, h⟩
    | false =>
      wp_walk using wpAny_loadPart' hl
      refine wpAny_stack_any fun st => wpAny_pure ?_
      split
      · rename_i c _ _ _ _ _
        cases (c == Value.type "enumerate")
        · wp_walk using wpAny_loadPart' hl, pyIter_sq hL
          exact ⟨_, rfl, h⟩
        · wp_walk using wpAny_loadPart' hl, pyIter_sq hL
          exact ⟨_, rfl, h⟩
      · wp_walk using wpAny_loadPart' hl, pyIter_sq hL
        exact ⟨_, rfl, h⟩
section
variable {prog : Program} {w : World} {A : Around} {E : Value → Shared → Prop} {s : Shared}
theorem call_enumG {b : Bool} {l : Addr} {items : Array Value} {Q : Value → Shared → Prop} (hL : SqOb b s.heap l items)
    (h : ∀ h', IsEnum h' (s.heap.objs.size + 1) s.heap.objs.size 0 .none → SqIt b h' s.heap.objs.size l 0 → h'.objs.size = s.heap.objs.size + 2 →
      (∀ b o, s.heap.get? b = some o → h'.get? b = some o) → Q (.ref (s.heap.objs.size + 1)) { s with heap := h' }) :
    wpAny (model prog w) A (call (.type "enumerate") [.ref l]) Q E s := by
  refine callType_new F.called_enumerate (by decide) (F.typeCall_enumerate_1 _) (F.newCall_enumerate_1 _) (fun obj => F.args_object_init_2 obj _) F.entry_enumerate_new
    (meets_enumG_new b l items) ⟨hL, ?_⟩
  have fr : (itObj b l).isFreed = false := by cases b <;> rfl
  have hz : (s.heap.push (itObj b l)).objs.size = s.heap.objs.size + 1 := Heap.size_push ..
  show _ ∧ _
  rw [hz]
  have he : IsEnum ((s.heap.push (itObj b l)).push
      { cls := .type "enumerate", data := .fields #[.none, .bool false, .ref s.heap.objs.size, rawInt 0, .none, .none] }) (s.heap.objs.size + 1) s.heap.objs.size 0 .none := by
    have := Heap.get?_push_size (s.heap.push (itObj b l))
      (o := { cls := .type "enumerate", data := .fields #[.none, .bool false, .ref s.heap.objs.size, rawInt 0, .none, .none] }) rfl
    rw [hz] at this; exact this
  exact ⟨⟨_, he, rfl⟩, h _ he (SqIt.new (Heap.get?_push_of_some _ (Heap.get?_push_size _ fr))) (by rw [Heap.size_push, hz]) fun b o x => Heap.get?_push_of_some _ (Heap.get?_push_of_some _ x)⟩
theorem drawsG (hh : A.handled = none) (b : Bool) (it l : Addr) (hne : l ≠ it) (items : Array Value) :
    Draws prog w A it [it, l] items.size (fun i v => items[i]? = some v) (fun i h => SqIt b h it l i ∧ SqOb b h l items) where
  live := fun _ _ st => by
    obtain ⟨o, _, e, _⟩ := st.1.obj
    exact ⟨o, e⟩
  frame := fun _ _ _ st hk => ⟨st.1.at_ fun o e => hk it (by simp) o e, by
    have q := st.2
    cases b with
    | true => exact Heap.IsTuple.at q fun o e => hk l (by simp) o e
    | false => exact Heap.IsList.at q fun o e => hk l (by simp) o e⟩
  item := fun i s Q E hi st hQ => by
    refine nextOf_item st.1 st.2 (x := items[i]) (by simp [hi]) fun h' hit' hs' => ?_
    exact hQ _ h' s.toks (by simp [hi]) ⟨hit', st.2.extBut hs'.extBut hne⟩ hs'
  done := fun s Q E st hE => nextOf_end hh st.1 st.2 (by simp) hE
theorem wpAny_pyNext_enum_endG {b : Bool} {e it l : Addr} {i : Nat} {items : Array Value} {old : Value} {Q : Option Value → Shared → Prop} (hh : A.handled = none)
    (he : IsEnum s.heap e it i old) (hit : SqIt b s.heap it l i) (hl : SqOb b s.heap l items) (hx : items[i]? = none)
    (hQ : ∀ h', Heap.ExtBut it s.heap h' → Q none { s with heap := h' }) : wpAny (model prog w) A (pyNext (.ref e)) Q E s := by
  have hT : s.TypeIs (.ref e) "enumerate" := ⟨_, he, rfl⟩
  unfold pyNext
  refine wpAny_bind (wpAny_attempt (wpAny_callSpecial?_slot (name := Str.ofString "__next__") hT F.slot_enumerate_next
    (wpAny_call_entry F.slot_enumerate_next hT F.entry_enumerate_next ?_ (F.args_enumerate_next_1 _))))
  show wpAny _ _ (field (.ref e) 2 >>= _) _ _ _
  refine wpAny_bind (wpAny_field he rfl (x := .ref it) rfl ?_)
  refine wpAny_bind (nextOf_end hh hit hl hx fun h' x he' hx' => ?_)
  obtain ⟨o, ho, hc⟩ := hx'
  refine wpAny_bind (wpAny_isInstance (T := "StopIteration") (b := true) ⟨o, ho, hc⟩ isSubtype_stop ?_)
  exact wpAny_pure (hQ _ he')
end
end ZG
set_option Elab.async false
set_option linter.all false
set_option maxRecDepth 100000
set_option maxHeartbeats 1000000
namespace PX
open PySem PySem.Spec PyProof.Rows L2 ZG
/-! ### turns -/
def SqG (b : Bool) (K : PySem.W.Frag) (H : Hp) (a : Addr) (xs : List V) : Prop := match b with
  | true => SqT K H a xs
  | false => SqL K H a xs
theorem Inv.sqG {X : Cx} {pins : List (Addr × Obj)} {σ : L2.St} {H : Hp} {s : Shared} {b : Bool} {a : Addr} {xs : List V} (I : L2.Inv X pins σ H s) (q : SqG b X.K H a xs) : ∃ its, Vals xs its ∧ SqOb b s.heap a its.toArray ∧ a < s.heap.objs.size := by
  cases b with
  | true =>
    obtain ⟨its, rv, p, _⟩ := I.tuple q
    obtain ⟨o, ho, _⟩ := id p
    exact ⟨its, rv, p, Heap.lt_size ho⟩
  | false =>
    obtain ⟨its, rv, p, _⟩ := I.list q
    exact ⟨its, rv, p.isList, p.lt⟩
theorem Inv.sqG_inj {X : Cx} {pins : List (Addr × Obj)} {σ : L2.St} {H : Hp} {s : Shared} {b : Bool} {a : Addr} {xs ys : List V} (I : L2.Inv X pins σ H s) (q : SqG b X.K H a xs) (q' : SqG b X.K H a ys) : xs = ys := by
  cases b with
  | true => exact I.tuple_inj q q'
  | false => exact I.list_inj q q'
/-! each item with its place, in a new pair -/
def Iteg (K : PySem.W.Frag) (b : Bool) (a : Addr) : It :=
  ⟨fun i H => ∃ (xs : List V) (x : V), SqG b K H a xs ∧ xs[i]? = some x, fun i H v H' => ∃ T x, v = .ref T ∧ H T = none ∧ H' = upd H T (.tup [.int (i : Nat), x]) ∧ ∀ xs, SqG b K H a xs → xs[i]? = some x, fun i H => ∃ xs : List V, SqG b K H a xs ∧ xs.length ≤ i⟩
theorem turn_enumG {P : Program} {w : World} {K : PySem.W.Frag} {elts : List Expr} {kk : Nat} {tpos : Pos} (b : Bool) (a e it : Addr) :
    Turn P w K (.Tuple elts kk tpos) (Iteg K b a) [e, it] e (fun i h => (∃ old, IsEnum h e it ((i : Nat) : Int) old) ∧ SqIt b h it a i ∧ e ≠ it ∧ a ≠ it ∧ e ≠ a) where
  mem := by simp
  obj := fun i h st c hc => by
    obtain ⟨⟨old, he⟩, hit, _⟩ := st
    have e' : c = e ∨ c = it := by simpa using hc
    rcases e' with z | z
    · rw [z]; exact ⟨_, he, fun v q => nomatch q⟩
    · rw [z]
      obtain ⟨o, vs, ho, hd⟩ := hit.obj
      exact ⟨o, ho, fun v q => by rw [hd] at q; cases q⟩
  keep := fun i h h' st k => let ⟨⟨old, he⟩, hi, hne⟩ := st; ⟨⟨old, k e (by simp) _ he⟩, hi.at_ fun o q => k it (by simp) o q, hne⟩
  item := by
    intro X hP hw hK hc i pins s σ H E I hf st hg
    subst hP hw hK
    obtain ⟨⟨old, he⟩, hit, hne, hai, hea⟩ := st
    obtain ⟨xs, x, hq, hx⟩ := hg
    obtain ⟨its, rv, p, hz⟩ := Inv.sqG I hq
    obtain ⟨u, hu, ru⟩ := rv.get hx
    have hel : e < s.heap.objs.size := Heap.lt_size he
    have hil : it < s.heap.objs.size := hit.lt
    have hlt : i < its.toArray.size := by
      have := (List.getElem?_eq_some_iff.mp hu).1
      simpa using this
    refine wpAny_pyNext_enum_itemD (drawsG (A := X.A.in1) (I.ok.hd hc) b it a hai its.toArray) he ⟨hit, p⟩ hlt hne (by simp [hne, hea]) fun u' h' tk hP ho st' hT hsz hk => ?_
    have eu : u' = u := by
      have hP : its.toArray[i]? = some u' := hP
      rw [List.getElem?_toArray, hu] at hP
      exact (Option.some.inj hP).symm
    subst eu
    refine ⟨_, rfl, wpAny_letOwnedTupleGo_enum (s := { s with heap := h', toks := tk + 1 }) ho fun h'' he' sb => ?_⟩
    have hT2 : h''.get? s.heap.objs.size = some { cls := .type "tuple", data := .seq #[.int i tk, u'] } := (sb.2 _ (Nat.ne_of_gt hel)).trans hT
    have new : ObjOk X.prog X.w (upd H s.heap.objs.size (.tup [.int (i : Nat), x])) h'' s.heap.objs.size (.tup [.int (i : Nat), x]) :=
      ⟨by show 2 ≤ sizeLine; decide, [.int i tk, u'], .cons ⟨_, rfl⟩ (.cons ru .nil), ⟨_, hT2, rfl, _, rfl⟩⟩
    have I1 : L2.Inv X pins σ (upd H s.heap.objs.size (.tup [.int (i : Nat), x])) { s with heap := h'', toks := tk + 1 } :=
      I.turnedNew (t' := tk + 1) (ch := [e, it]) (fun c o hb q => (sb.2 c (fun q' => hb (by simp [q']))).trans (hk c o (fun q' => hb (by simp [q'])) (fun q' => hb (by simp [q'])) q)) hf (Nat.le_refl _) new
    refine ⟨.ref s.heap.objs.size, _, I1, rfl, ⟨_, x, rfl, I.hok.fresh (Nat.le_refl _), rfl, fun l hl => by rw [Inv.sqG_inj I hl hq]; exact hx⟩, ⟨⟨_, he'⟩, ?_, hne, hai, hea⟩, fun c hcm => ?_⟩
    · exact st'.1.at_ fun o q => (sb.2 _ hne.symm).trans q
    · have hlt : c < s.heap.objs.size := by
        have e' : c = e ∨ c = it := by simpa using hcm
        rcases e' with z | z
        · rw [z]; exact hel
        · rw [z]; exact hil
      rw [upd_ne (Nat.ne_of_lt hlt)]
      exact (hf c hcm).1
  done := by
    intro X hP hw hK hc i pins s σ H E I hf st hg
    subst hP hw hK
    obtain ⟨⟨old, he⟩, hit, hne, hai, hea⟩ := st
    obtain ⟨xs, hq, hx⟩ := hg
    obtain ⟨its, rv, p, hz⟩ := Inv.sqG I hq
    obtain ⟨f0, f1, f2, f3, f4, f5⟩ := hf it (by simp)
    have hl := rv.length
    have hn : its.toArray[i]? = none := by simp; omega
    refine wpAny_pyNext_enum_endG (I.ok.hd hc) he hit p hn fun h' eb => ⟨rfl, I.turned (t' := s.toks) (fun b o hb q => eb b o hb q) f0 f1 f3 f4 f5⟩
  self := fun A i s Q E st h => let ⟨⟨_, he⟩, _⟩ := st; wpAny_pyIter_enum he h

/-! pairs of items -/
def Itzg (K : PySem.W.Frag) (b1 b2 : Bool) (a b : Addr) : It :=
  ⟨fun i H => ∃ (xs ys : List V) (x y : V), SqG b1 K H a xs ∧ SqG b2 K H b ys ∧ xs[i]? = some x ∧ ys[i]? = some y,
    fun i H v H' => ∃ T x y, v = .ref T ∧ H T = none ∧ H' = upd H T (.tup [x, y]) ∧ (∀ xs, SqG b1 K H a xs → xs[i]? = some x) ∧ ∀ ys, SqG b2 K H b ys → ys[i]? = some y,
    fun i H => ∃ xs ys : List V, SqG b1 K H a xs ∧ SqG b2 K H b ys ∧ (xs.length ≤ i ∨ ys.length ≤ i)⟩
theorem turn_zipG {P : Program} {w : World} {K : PySem.W.Frag} {elts : List Expr} {kk : Nat} {tpos : Pos} (b1 b2 : Bool) {a b z TI TO i1 i2 : Addr} (D : ZipApart z TI TO i1 i2 a b) :
    Turn P w K (.Tuple elts kk tpos) (Itzg K b1 b2 a b) [z, TI, TO, i1, i2] z (fun i h => IsZip h z TI TO .none ∧ IsPair h TI (.ref i1) (.ref i2) ∧ (∃ x y, IsPair h TO x y) ∧ SqIt b1 h i1 a i ∧ SqIt b2 h i2 b i) where
  mem := by simp
  obj := fun i h st c hc => by
    obtain ⟨hz, hTI, ⟨x, y, hTO⟩, h1, h2⟩ := st
    have e' : c = z ∨ c = TI ∨ c = TO ∨ c = i1 ∨ c = i2 := by simpa using hc
    rcases e' with q | q | q | q | q
    · rw [q]; exact ⟨_, hz, fun v q => nomatch q⟩
    · rw [q]; exact ⟨_, hTI, fun v q => nomatch q⟩
    · rw [q]; exact ⟨_, hTO, fun v q => nomatch q⟩
    · rw [q]
      obtain ⟨o1, _, e1, d1⟩ := h1.obj
      exact ⟨o1, e1, fun v q => by rw [d1] at q; cases q⟩
    · rw [q]
      obtain ⟨o1, _, e1, d1⟩ := h2.obj
      exact ⟨o1, e1, fun v q => by rw [d1] at q; cases q⟩
  keep := fun i h h' st k => by
    obtain ⟨hz, hTI, ⟨x, y, hTO⟩, h1, h2⟩ := st
    exact ⟨k z (by simp) _ hz, k TI (by simp) _ hTI, ⟨x, y, k TO (by simp) _ hTO⟩, h1.at_ fun o q => k i1 (by simp) o q, h2.at_ fun o q => k i2 (by simp) o q⟩
  item := by
    intro X hP hw hK hc i pins s σ H E I hf st hg
    subst hP hw hK
    obtain ⟨hz, hTI, ⟨x0, y0, hTO⟩, h1, h2⟩ := st
    obtain ⟨xs, ys, x, y, hqx, hqy, hx, hy⟩ := hg
    obtain ⟨its, rv, p, _⟩ := Inv.sqG I hqx
    obtain ⟨its2, rv2, p2, _⟩ := Inv.sqG I hqy
    obtain ⟨u, hu, ru⟩ := rv.get hx
    obtain ⟨u2, hu2, ru2⟩ := rv2.get hy
    have hzl : z < s.heap.objs.size := Heap.lt_size hz
    refine pyNext_zipG_item D hz hTI hTO h1 h2 p p2 (x := u) (y := u2) (by simpa using hu) (by simpa using hu2) fun h' z' TO' h1' h2' hT hsz hk => ?_
    refine ⟨_, rfl, wpAny_letOwnedTupleGo_zip (s := { s with heap := h' }) z' fun h'' z'' sb => ?_⟩
    have hT2 : h''.get? s.heap.objs.size = some { cls := .type "tuple", data := .seq #[u, u2] } := (sb.2 _ (Nat.ne_of_gt hzl)).trans hT
    have new : ObjOk X.prog X.w (upd H s.heap.objs.size (.tup [x, y])) h'' s.heap.objs.size (.tup [x, y]) :=
      ⟨by show 2 ≤ sizeLine; decide, [u, u2], .cons ru (.cons ru2 .nil), ⟨_, hT2, rfl, _, rfl⟩⟩
    have I1 : L2.Inv X pins σ (upd H s.heap.objs.size (.tup [x, y])) { s with heap := h'' } :=
      I.turnedNew (t' := s.toks) (ch := [z, TI, TO, i1, i2]) (fun c o hb q => (sb.2 c (fun q' => hb (by simp [q']))).trans (hk c o (fun q' => hb (by simp [q'])) (fun q' => hb (by simp [q'])) (fun q' => hb (by simp [q'])) (fun q' => hb (by simp [q'])) q)) hf (Nat.le_refl _) new
    refine ⟨.ref s.heap.objs.size, _, I1, rfl, ⟨_, x, y, rfl, I.hok.fresh (Nat.le_refl _), rfl, fun l hl => by rw [Inv.sqG_inj I hl hqx]; exact hx, fun l hl => by rw [Inv.sqG_inj I hl hqy]; exact hy⟩, ⟨z'', ?_, ⟨u, u2, ?_⟩, ?_, ?_⟩, fun c hcm => ?_⟩
    · exact (sb.2 _ D.TIz).trans (hk _ _ D.TIz D.TITO D.TIi1 D.TIi2 hTI)
    · exact (sb.2 _ D.TOz).trans TO'
    · exact h1'.at_ fun o q => (sb.2 _ D.i1z).trans q
    · exact h2'.at_ fun o q => (sb.2 _ D.i2z).trans q
    · have hlt : c < s.heap.objs.size := by
        have e' : c = z ∨ c = TI ∨ c = TO ∨ c = i1 ∨ c = i2 := by simpa using hcm
        rcases e' with q | q | q | q | q
        · rw [q]; exact hzl
        · rw [q]; exact Heap.lt_size hTI
        · rw [q]; exact Heap.lt_size hTO
        · rw [q]; exact h1.lt
        · rw [q]; exact h2.lt
      rw [upd_ne (Nat.ne_of_lt hlt)]
      exact (hf c hcm).1
  done := by
    intro X hP hw hK hc i pins s σ H E I hf st hg
    subst hP hw hK
    obtain ⟨hz, hTI, ⟨x0, y0, hTO⟩, h1, h2⟩ := st
    obtain ⟨xs, ys, hqx, hqy, hend⟩ := hg
    obtain ⟨its, rv, p, _⟩ := Inv.sqG I hqx
    obtain ⟨its2, rv2, p2, _⟩ := Inv.sqG I hqy
    have l1 := rv.length
    have l2 := rv2.length
    have he : its.toArray[i]? = none ∨ its2.toArray[i]? = none := by
      rcases hend with q | q
      · exact .inl (by simp; omega)
      · exact .inr (by simp; omega)
    exact pyNext_zipG_end (I.ok.hd hc) D hz hTI hTO h1 h2 p p2 he fun h' hk => ⟨rfl, I.turnedL (t' := s.toks) (ch := [z, TI, TO, i1, i2]) (fun c o hb q =>
      hk c o (fun q' => hb (by simp [q'])) (fun q' => hb (by simp [q'])) (fun q' => hb (by simp [q'])) (fun q' => hb (by simp [q'])) q) hf⟩
  self := fun A i s Q E st h => wpAny_pyIter_zip st.1 h
/-! the sources -/
def iSeqG (K : PySem.W.Frag) (tl : TE) : TI := fun σ H R => tl σ H fun x H1 => ∃ a b xs, x = .ref a ∧ SqG b K H1 a xs ∧ R (match b with
  | true => Itt K a
  | false => Itl K a) H1
theorem pi_seqG {X : Cx} {tg l : Expr} {tl : TE} (hl : PE X l tl) : PI X tg l (iSeqG X.K tl) := by
  refine ⟨fun pins s σ H R I h => ?_⟩
  refine thn (hl.run pins s σ H _ I h) fun v s1 ⟨x, H1, I1, r1, q1⟩ => ?_
  obtain ⟨a, b, xs, e, hq, q⟩ := q1
  subst e
  cases r1
  have fp : ∀ c ∈ [s1.heap.objs.size], FpOk X pins H1 c := fun c hc => by
    have e : c = s1.heap.objs.size := by simpa using hc
    subst e
    exact I1.fpOk (Nat.le_refl _) (I1.hok.fresh (Nat.le_refl _))
  cases b with
  | true =>
    obtain ⟨its, rv, p, hz⟩ := I1.tuple hq
    refine wpAny_pyIter_tuple (show s1.heap.IsTuple a its.toArray from p) ?_
    exact ⟨s1.heap.objs.size, [s1.heap.objs.size], _, _, H1, rfl, I1.kept (t' := s1.toks) fun b o e => Heap.get?_push_of_some _ e, turn_tuple a _, ⟨_, Heap.get?_push_size _ rfl, rfl, rfl⟩, fp, q⟩
  | false =>
    obtain ⟨its, rv, p, hz⟩ := I1.list hq
    refine wpAny_pyIter_list p.isList ?_
    exact ⟨s1.heap.objs.size, [s1.heap.objs.size], _, _, H1, rfl, I1.kept (t' := s1.toks) fun b o e => Heap.get?_push_of_some _ e, turn_list a _, ⟨_, Heap.get?_push_size _ rfl, rfl, rfl⟩, fp, q⟩
def iEnumG (K : PySem.W.Frag) (ta : TA) : TI := fun σ H R => ta σ H fun vs H1 => ∃ a b xs, vs = [.ref a] ∧ SqG b K H1 a xs ∧ R (Iteg K b a) H1
theorem pi_enumG {X : Cx} {e : Expr} {ta : TA} {p pos tpos : Pos} {elts : List Expr} {kk : Nat} (hg : Gl X "enumerate") (hm : X.mg "enumerate" = none) (ha : PA X [e] ta) (hs : starEach [e] X.env = [(false, eval e X.env)] := by rfl) :
    PI X (.Tuple elts kk tpos) (.Call (.Name "enumerate" p) [e] [] pos) (iEnumG X.K ta) := by
  refine ⟨fun pins s σ H R I h => ?_⟩
  refine Call_ (ld_blt I hg hm boot_enumerate (PyProof.Rows.callWith_type1 (thn (ha.run pos pins s σ H _ I h) fun us s1 ⟨vs, H1, I1, r1, q1⟩ => ?_) hs rfl))
  obtain ⟨a, b, xs, ex, hq, q⟩ := q1
  subst ex
  rw [Vals.ref1 r1]
  obtain ⟨its, rv, p', hz⟩ := Inv.sqG I1 hq
  refine call_enumG p' fun h' he hit hsz hk => wpAny_pyIter_enum he ?_
  have I2 : L2.Inv X pins σ H1 { s1 with heap := h' } := I1.kept (t' := s1.toks) hk
  refine ⟨s1.heap.objs.size + 1, [s1.heap.objs.size + 1, s1.heap.objs.size], _, _, H1, rfl, I2, turn_enumG b a (s1.heap.objs.size + 1) s1.heap.objs.size, ⟨⟨.none, he⟩, hit, Nat.succ_ne_self _, Nat.ne_of_lt hz, Nat.ne_of_gt (Nat.lt_succ_of_lt hz)⟩, fun c hc => ?_, q⟩
  have e' : c = s1.heap.objs.size + 1 ∨ c = s1.heap.objs.size := by simpa using hc
  have hle : s1.heap.objs.size ≤ c := by
    rcases e' with z | z
    · rw [z]; exact Nat.le_add_right _ _
    · rw [z]; exact Nat.le_refl _
  exact I1.fpOk hle (I1.hok.fresh hle)
def iZipG (K : PySem.W.Frag) (ta : TA) : TI := fun σ H R => ta σ H fun vs H1 => ∃ a b b1 b2 xs ys, vs = [.ref a, .ref b] ∧ SqG b1 K H1 a xs ∧ SqG b2 K H1 b ys ∧ R (Itzg K b1 b2 a b) H1
theorem pi_zipG {X : Cx} {e e2 : Expr} {ta : TA} {p pos tpos : Pos} {elts : List Expr} {kk : Nat} (hg : Gl X "zip") (hm : X.mg "zip" = none) (ha : PA X [e, e2] ta)
    (hs : starEach [e, e2] X.env = (false, eval e X.env) :: starEach [e2] X.env := by rfl) (hpl : (backTo pos (starEach [e2] X.env)).any (·.1) = false := by rfl) :
    PI X (.Tuple elts kk tpos) (.Call (.Name "zip" p) [e, e2] [] pos) (iZipG X.K ta) := by
  refine ⟨fun pins s σ H R I h => ?_⟩
  refine Call_ (ld_blt I hg hm PyProof.Rows.boot_zip (PyProof.Rows.callWith_type1 (thn (ha.run pos pins s σ H _ I h) fun us s1 ⟨vs, H1, I1, r1, q1⟩ => ?_) hs hpl))
  obtain ⟨a, b, b1, b2, xs, ys, ex, hqx, hqy, q⟩ := q1
  subst ex
  obtain ⟨u1, u2, rfl, ra, rb⟩ := r1.two
  cases (show u1 = Value.ref a from ra)
  cases (show u2 = Value.ref b from rb)
  have fresh5 : ∀ c, c ∈ [s1.heap.objs.size + 4, s1.heap.objs.size + 2, s1.heap.objs.size + 3, s1.heap.objs.size, s1.heap.objs.size + 1] → FpOk X pins H1 c := fun c hcm => by
    have hle : s1.heap.objs.size ≤ c := by
      simp only [List.mem_cons, List.mem_singleton, List.not_mem_nil, or_false] at hcm
      omega
    exact I1.fpOk hle (I1.hok.fresh hle)
  obtain ⟨its, rv, p1, l1⟩ := Inv.sqG I1 hqx
  obtain ⟨its2, rv2, p2, l2⟩ := Inv.sqG I1 hqy
  refine call_zipG p1 p2 fun h' hz hTI hTO h1 h2 hsz hk => wpAny_pyIter_zip hz ?_
  have I2 : L2.Inv X pins σ H1 { s1 with heap := h' } := I1.kept (t' := s1.toks) hk
  exact ⟨s1.heap.objs.size + 4, [s1.heap.objs.size + 4, s1.heap.objs.size + 2, s1.heap.objs.size + 3, s1.heap.objs.size, s1.heap.objs.size + 1], _, _, H1, rfl, I2, turn_zipG b1 b2 (PySem.W.ktu_apart s1.heap.objs.size a b l1 l2), ⟨hz, hTI, ⟨_, _, hTO⟩, h1, h2⟩, fresh5, q⟩
end PX
set_option Elab.async false
set_option linter.all false
set_option maxRecDepth 100000
set_option maxHeartbeats 1000000
namespace PX
open PySem PySem.Spec PyProof.Rows L2 ZG
/-! ### what a loop walks, by values -/
def lockS (v : PV) (S : Store) : Option (List PV × List (Nat × PV) × Store) := match v with
  | .ref i => match S[i]? with
    | some (.lst xs) => some (xs, [(i, .lst xs)], S.set i (.lck (.lst xs)))
    | some (.lck (.lst xs)) => some (xs, [], S)
    | _ => none
  | .lst xs => some (xs, [], S)
  | .tup xs => some (xs, [], S)
  | _ => none
def enumL : Int → List PV → List PV
  | _, [] => []
  | k, x :: xs => .tup [.int k, x] :: enumL (k + 1) xs
def zipL : List PV → List PV → List PV
  | x :: xs, y :: ys => .tup [x, y] :: zipL xs ys
  | _, _ => []
def rngL : Int → Nat → List PV
  | _, 0 => []
  | lo, n + 1 => .int lo :: rngL (lo + 1) n
def iSeq (a : SE) : SI := fun env S => (a env S).bind fun p S1 => match lockS p.2 S1 with
  | some z => .ok (z.1, z.2.1) z.2.2
  | none => .no
def iEnu (a : SE) : SI := fun env S => (a env S).bind fun p S1 => match lockS p.2 S1 with
  | some z => .ok (enumL 0 z.1, z.2.1) z.2.2
  | none => .no
def iZip (a b : SE) : SI := fun env S => (a env S).bind fun p S1 => (b env S1).bind fun q S2 => match lockS p.2 S2 with
  | some z => match lockS q.2 z.2.2 with
    | some y => .ok (zipL z.1 y.1, y.2.1 ++ z.2.1) y.2.2
    | none => .no
  | none => .no
def okRg (j : Int) : Bool := decide (-4611686018427387904 ≤ j) && decide (j < 4611686018427387904)
def iRg1 (a : SE) : SI := fun env S => (a env S).bind fun p S1 => match p.2 with
  | .int j => if okRg j then .ok (rngL 0 j.toNat, []) S1 else .no
  | _ => .no
def iRg2 (a b : SE) : SI := fun env S => (a env S).bind fun p S1 => (b env S1).bind fun q S2 => match p.2, q.2 with
  | .int i, .int j => if okRg i && okRg j then .ok (rngL i (j - i).toNat, []) S2 else .no
  | _, _ => .no

def Gh.lock (g : Gh) (a : Addr) (ho : HO) : Gh := ⟨g.L, upd g.pn a ho, fun b => if b = a then true else g.lk b⟩
section
variable {G : Gam} {n0 : Nat} {g : Gh} {F : Hp} {r : List Addr} {S : Store} {H : Hp}
theorem nd_inj {r : List Addr} (h : r.Nodup) {i j : Nat} {a : Addr} (e1 : r[i]? = some a) (e2 : r[j]? = some a) : i = j := by
  obtain ⟨h1, e1'⟩ := List.getElem?_eq_some_iff.mp e1
  obtain ⟨h2, e2'⟩ := List.getElem?_eq_some_iff.mp e2
  exact (List.getElem_inj h).mp (e1'.trans e2'.symm)
theorem HR.lock {i : Nat} {a : Addr} {xs : List PV} {us : List V} (h : HR G n0 g F r S H) (e1 : r[i]? = some a) (e2 : S[i]? = some (.lst xs)) (e3 : H a = some (.lst us)) : HR G n0 (g.lock a (.lst us)) F r (S.set i (.lck (.lst xs))) H := by
  have hi : i < S.length := (List.getElem?_eq_some_iff.mp e2).1
  have hF := h.off a (List.mem_of_getElem? e1)
  refine ⟨h.sub, h.nd, h.off, by rw [List.length_set]; exact h.len, by rw [List.length_set]; exact h.nle, h.lle, fun j oj b e4 e5 => ?_, fun b o e => ?_, fun j oj b e4 e5 => ?_, fun b o e el => ?_⟩
  · by_cases hj : i = j
    · subst hj
      rw [List.getElem?_set_self hi] at e4
      cases e4
      obtain ⟨ho, q1, q2⟩ := h.obj i _ b e2 e5
      exact ⟨ho, .mk (q1.nl rfl) rfl, q2⟩
    · rw [List.getElem?_set_ne hj] at e4
      exact h.obj j oj b e4 e5
  · by_cases hb : b = a
    · subst hb
      have e : upd g.pn b (.lst us) b = some o := e
      rw [upd_same] at e
      cases e
      refine ⟨e3, .inl hF, fun j hj => ?_⟩
      have := nd_inj h.nd e1 hj
      subst this
      exact ⟨_, List.getElem?_set_self hi⟩
    · have e : upd g.pn a (.lst us) b = some o := e
      rw [upd_ne hb] at e
      obtain ⟨q1, q2, q3⟩ := h.pin b o e
      refine ⟨q1, q2.imp (fun q => q) (fun q => ⟨q.1, by show (if b = a then true else g.lk b) = true; rw [if_neg hb]; exact q.2⟩), fun j hj => ?_⟩
      obtain ⟨ob, q⟩ := q3 j hj
      refine ⟨ob, ?_⟩
      rw [List.getElem?_set_ne (fun z => by subst z; rw [e1] at hj; cases hj; exact hb rfl)]
      exact q
  · show ∃ o, upd g.pn a (.lst us) b = some o
    by_cases hb : b = a
    · rw [hb, upd_same]; exact ⟨_, rfl⟩
    · rw [upd_ne hb]
      rw [List.getElem?_set_ne (fun z => by subst z; rw [e1] at e5; cases e5; exact hb rfl)] at e4
      exact h.lckd j oj b e4 e5
  · have e : upd g.pn a (.lst us) b = some o := e
    have el : (if b = a then true else g.lk b) = false := el
    by_cases hb : b = a
    · rw [if_pos hb] at el; cases el
    · rw [upd_ne hb] at e
      rw [if_neg hb] at el
      exact h.out b o e el
theorem HR.unlock {i : Nat} {a : Addr} {xs : List PV} {us : List V} (h : HR G n0 (g.lock a (.lst us)) F r S H) (hp : g.pn a = none) (e1 : r[i]? = some a) (k : RVs G F (lim n0 g.L r i) xs us) : HR G n0 g F r (S.set i (.lst xs)) H := by
  have hi : i < S.length := by rw [← h.len]; exact (List.getElem?_eq_some_iff.mp e1).1
  have ea : (g.lock a (.lst us)).pn a = some (.lst us) := by
    show upd g.pn a (.lst us) a = _
    rw [upd_same]
  have ne_of : ∀ b o, g.pn b = some o → b ≠ a := fun b o e z => by rw [z, hp] at e; cases e
  have pn_ne : ∀ b, b ≠ a → (g.lock a (.lst us)).pn b = g.pn b := fun b hb => by
    show upd g.pn a (.lst us) b = _
    rw [upd_ne hb]
  refine ⟨h.sub, h.nd, h.off, by rw [List.length_set]; exact h.len, by rw [List.length_set]; exact h.nle, h.lle, fun j oj b e4 e5 => ?_, fun b o e => ?_, fun j oj b e4 e5 => ?_, fun b o e el => ?_⟩
  · by_cases hj : i = j
    · subst hj
      rw [List.getElem?_set_self hi] at e4
      cases e4
      rw [e1] at e5
      cases e5
      exact ⟨_, .mk (h.pin a _ ea).1 rfl, ⟨us, rfl, k⟩⟩
    · rw [List.getElem?_set_ne hj] at e4
      exact h.obj j oj b e4 e5
  · have hb := ne_of b o e
    obtain ⟨q1, q2, q3⟩ := h.pin b o (by rw [pn_ne b hb]; exact e)
    refine ⟨q1, q2.imp (fun q => q) (fun q => ⟨q.1, by have z : (if b = a then true else g.lk b) = true := q.2; rw [if_neg hb] at z; exact z⟩), fun j hj => ?_⟩
    obtain ⟨ob, q⟩ := q3 j hj
    refine ⟨ob, ?_⟩
    rw [List.getElem?_set_ne (fun z => by subst z; rw [e1] at hj; cases hj; exact hb rfl)]
    exact q
  · by_cases hj : i = j
    · subst hj
      rw [List.getElem?_set_self hi] at e4
      cases e4
    · rw [List.getElem?_set_ne hj] at e4
      have hb : b ≠ a := fun z => by subst z; exact hj (nd_inj h.nd e1 e5)
      obtain ⟨o, q⟩ := h.lckd j oj b e4 e5
      exact ⟨o, by rw [← pn_ne b hb]; exact q⟩
  · have hb := ne_of b o e
    refine h.out b o (by rw [pn_ne b hb]; exact e) ?_
    show (if b = a then true else g.lk b) = false
    rw [if_neg hb]
    exact el
/-! the items of a sequence, held still -/
structure Held (G : Gam) (n0 : Nat) (g g' : Gh) (F : Hp) (r : List Addr) (S' : Store) (H : Hp) (xs : List PV) (ls : List (Nat × PV)) (b : Bool) (a : Addr) (us : List V) : Prop where
  hr : HR G n0 g' F r S' H
  rv : RVs G F r xs us
  sq : ∀ g2, GhLe g' g2 → ∀ F2 r2 S2 H2, HR G n0 g2 F2 r2 S2 H2 → Ext F F2 r r2 → SqG b G.K H2 a us
  le : GhLe g g'
  pn : GhPin g g'
  un : ∀ rp, g.has rp → ∀ F2 r2 S2 H2, HR G n0 (g'.rep rp) F2 r2 S2 H2 → Ext F F2 r r2 → HR G n0 (g.rep rp) F2 r2 (unlock ls S2) H2
theorem lock_ok {v : PV} {u : V} {xs : List PV} {ls : List (Nat × PV)} {S' : Store} (h : HR G n0 g F r S H) (q : RV G F r v u) (e : lockS v S = some (xs, ls, S')) : ∃ g' b a us, u = .ref a ∧ Held G n0 g g' F r S' H xs ls b a us := by
  unfold lockS at e
  split at e
  · rename_i i
    obtain ⟨a, e1, rfl⟩ := q
    split at e
    · rename_i ys es
      cases e
      obtain ⟨ho, q1, q2⟩ := h.obj i _ a es e1
      obtain ⟨us, rfl, k⟩ := q2
      have q1 := q1.nd rfl
      refine ⟨g.lock a (.lst us), false, a, us, rfl, h.lock e1 es q1, RVs.mono (.refl F) (at_of (lim_le n0 g.L r i)) _ _ k, fun g2 hg F2 r2 S2 H2 h2 x => ?_, fun b o eb el => ?_, fun b o eb el => ?_, fun rp hrp F2 r2 S2 H2 h2 x => ?_⟩
      · have ea : (g.lock a (.lst us)).pn a = some (.lst us) := by
          show upd g.pn a (.lst us) a = _
          rw [upd_same]
        exact (show SqL G.K H2 a us from .inl (.inl (h2.pin a _ (hg a _ ea (by show (if a = a then true else g.lk a) = true; rw [if_pos rfl])).1).1))
      · have hb : b ≠ a := fun z => by rw [z, h.nopin e1 es rfl] at eb; cases eb
        refine ⟨?_, ?_⟩
        · show upd g.pn a (.lst us) b = _
          rw [upd_ne hb]
          exact eb
        · show (if b = a then true else g.lk b) = true
          rw [if_neg hb]
          exact el
      · have hb : b ≠ a := fun z => by rw [z, h.nopin e1 es rfl] at eb; cases eb
        refine ⟨?_, ?_⟩
        · show upd g.pn a (.lst us) b = _
          rw [upd_ne hb]
          exact eb
        · show (if b = a then true else g.lk b) = false
          rw [if_neg hb]
          exact el
      · have hpa : (g.rep rp).pn a = none := by
          cases rp with
          | none => exact h.nopin e1 es rfl
          | some p =>
            obtain ⟨⟨o, ep⟩, el⟩ := hrp p rfl
            have hne : a ≠ p.1 := fun z => h.out p.1 o ep el (z ▸ List.mem_of_getElem? e1)
            show upd g.pn p.1 p.2 a = none
            rw [upd_ne hne]
            exact h.nopin e1 es rfl
        have eg : (g.lock a (.lst us)).rep rp = (g.rep rp).lock a (.lst us) := by
          cases rp with
          | none => rfl
          | some p =>
            obtain ⟨⟨o, ep⟩, el⟩ := hrp p rfl
            have hne : a ≠ p.1 := fun z => h.out p.1 o ep el (z ▸ List.mem_of_getElem? e1)
            show (⟨g.L, upd (upd g.pn a (.lst us)) p.1 p.2, fun b => if b = a then true else g.lk b⟩ : Gh) = ⟨g.L, upd (upd g.pn p.1 p.2) a (.lst us), fun b => if b = a then true else g.lk b⟩
            congr 1
            funext b
            by_cases hb : b = a
            · rw [hb, upd_ne hne, upd_same, upd_same]
            · by_cases hb2 : b = p.1
              · rw [hb2, upd_same, upd_ne (Ne.symm hne), upd_same]
              · rw [upd_ne hb2, upd_ne hb, upd_ne hb, upd_ne hb2]
        rw [eg] at h2
        have eL : (g.rep rp).L = g.L := by cases rp <;> rfl
        exact h2.unlock hpa (x.at_ i a e1) (by rw [eL]; exact RVs.mono x.1 (lim_mono x.2 i) _ _ k)
    · rename_i ys es
      cases e
      obtain ⟨ho, q1, q2⟩ := h.obj i _ a es e1
      obtain ⟨us, rfl, k⟩ := q2
      have q1 := q1.nd rfl
      obtain ⟨o, ep⟩ := h.lckd i _ a es e1
      have eo : o = .lst us := by
        have := (h.pin a o ep).1
        rw [q1] at this
        exact (Option.some.inj this).symm
      subst eo
      have elk : g.lk a = true := by
        cases z : g.lk a with
        | true => rfl
        | false => exact absurd (List.mem_of_getElem? e1) (h.out a _ ep z)
      exact ⟨g, false, a, us, rfl, h, RVs.mono (.refl F) (at_of (lim_le n0 g.L r i)) _ _ k, fun g2 hg F2 r2 S2 H2 h2 x => (show SqL G.K H2 a us from .inl (.inl (h2.pin a _ (hg a _ ep elk).1).1)), .refl g, .refl g, fun _ _ F2 r2 S2 H2 h2 x => h2⟩
    · cases e
  · cases e
    obtain ⟨a, us, rfl, k1, k2⟩ := q
    exact ⟨g, false, a, us, rfl, h, k2, fun g2 hg F2 r2 S2 H2 h2 x => (show SqL G.K H2 a us from .inl (h2.sub.rd (x.1.rd k1))), .refl g, .refl g, fun _ _ F2 r2 S2 H2 h2 x => h2⟩
  · cases e
    obtain ⟨a, us, rfl, k1, k2⟩ := q
    exact ⟨g, true, a, us, rfl, h, k2, fun g2 hg F2 r2 S2 H2 h2 x => (show SqT G.K H2 a us from h2.sub.tp (x.1 _ _ k1)), .refl g, .refl g, fun _ _ F2 r2 S2 H2 h2 x => h2⟩
  · cases e
theorem enumL_get : ∀ {xs : List PV} {k : Int} {i : Nat} {t : PV}, (enumL k xs)[i]? = some t → ∃ x, xs[i]? = some x ∧ t = .tup [.int (k + i), x]
  | [], k, i, t, e => by simp [enumL] at e
  | x :: xs, k, 0, t, e => by
    simp [enumL] at e
    exact ⟨x, by simp, by rw [← e]; simp⟩
  | x :: xs, k, i + 1, t, e => by
    have e : (enumL (k + 1) xs)[i]? = some t := by simpa [enumL] using e
    obtain ⟨y, h1, h2⟩ := enumL_get e
    exact ⟨y, by simpa using h1, by rw [h2]; congr 3; omega⟩
theorem enumL_len : ∀ (xs : List PV) (k : Int), (enumL k xs).length = xs.length
  | [], _ => rfl
  | x :: xs, k => by
    show (enumL (k + 1) xs).length + 1 = xs.length + 1
    rw [enumL_len xs]
theorem zipL_get : ∀ {xs ys : List PV} {i : Nat} {t : PV}, (zipL xs ys)[i]? = some t → ∃ x y, xs[i]? = some x ∧ ys[i]? = some y ∧ t = .tup [x, y]
  | [], ys, i, t, e => by simp [zipL] at e
  | x :: xs, [], i, t, e => by simp [zipL] at e
  | x :: xs, y :: ys, 0, t, e => by
    simp [zipL] at e
    exact ⟨x, y, by simp, by simp, e.symm⟩
  | x :: xs, y :: ys, i + 1, t, e => by
    have e : (zipL xs ys)[i]? = some t := by simpa [zipL] using e
    obtain ⟨x', y', h1, h2, h3⟩ := zipL_get e
    exact ⟨x', y', by simpa using h1, by simpa using h2, h3⟩
theorem zipL_len : ∀ (xs ys : List PV) (i : Nat), (zipL xs ys).length ≤ i → xs.length ≤ i ∨ ys.length ≤ i
  | [], ys, i, h => .inl (Nat.zero_le _)
  | x :: xs, [], i, h => .inr (Nat.zero_le _)
  | x :: xs, y :: ys, 0, h => absurd h (by simp [zipL])
  | x :: xs, y :: ys, i + 1, h => by
    have h : (zipL xs ys).length + 1 ≤ i + 1 := h
    rcases zipL_len xs ys i (by omega) with q | q
    · exact .inl (Nat.succ_le_succ q)
    · exact .inr (Nat.succ_le_succ q)
theorem rngL_get : ∀ {n : Nat} {lo : Int} {i : Nat} {t : PV}, (rngL lo n)[i]? = some t → i < n ∧ t = .int (lo + i)
  | 0, lo, i, t, e => by simp [rngL] at e
  | n + 1, lo, 0, t, e => by
    simp [rngL] at e
    exact ⟨Nat.succ_pos n, by rw [← e]; simp⟩
  | n + 1, lo, i + 1, t, e => by
    have e : (rngL (lo + 1) n)[i]? = some t := by simpa [rngL] using e
    obtain ⟨h1, h2⟩ := rngL_get e
    exact ⟨Nat.succ_lt_succ h1, by rw [h2]; congr 1; omega⟩
theorem rngL_len : ∀ (n : Nat) (lo : Int), (rngL lo n).length = n
  | 0, _ => rfl
  | n + 1, lo => by
    show (rngL (lo + 1) n).length + 1 = n + 1
    rw [rngL_len n]
variable {X : Cx}
theorem cnI {env : Env} {σ : L2.St} {T : It → Hp → Prop} : Cn fun z => PoI G n0 g F r env σ z T := ⟨fun h => h, fun _ _ _ h => h⟩
variable {tg e e2 : Expr} {fe fe2 : SE} {p pos tpos : Pos} {elts : List Expr} {kk : Nat}
theorem si_seq (hK : G.K = X.K) (he : PE X e (rdE G n0 fe)) : PI X tg e (rdI G n0 (iSeq fe)) := by
  refine piI (pi_seqG (toV he)) fun σ H T ⟨F, r, env, S, g, s, h⟩ => ?_
  refine stV s cnI h fun p S1 F1 r1 H1 u x1 s1 q1 h1 => ?_
  cases el : lockS p.2 S1 with
  | none => rw [el] at h1; exact h1.elim
  | some z =>
    obtain ⟨xs, ls, S2⟩ := z
    rw [el] at h1
    obtain ⟨g', b, a, us, rfl, hd⟩ := lock_ok s1.hr q1 el
    refine ⟨a, b, us, rfl, hK ▸ hd.sq g' (.refl g') F1 r1 S2 H1 hd.hr (.refl _ _), h1 F1 r1 H1 _ g' x1 ⟨hd.hr, s1.sl, s1.vr⟩ (fun g2 hg2 F2 r2 S3 H2 h2 x2 => ?_) hd.pn hd.un⟩
    have sq := hd.sq g2 hg2 F2 r2 S3 H2 h2 x2
    rw [← hK]
    cases b with
    | true =>
      refine ⟨fun i x ex => ?_, fun i hi => ⟨us, sq, by rw [← RVs.length hd.rv]; exact hi⟩⟩
      obtain ⟨y, e1, q2⟩ := RVs.get hd.rv ex
      refine ⟨⟨us, y, sq, e1⟩, fun v H3 hy => ?_⟩
      obtain ⟨rfl, hv⟩ := hy
      have := hv us sq
      rw [e1] at this
      cases this
      exact ⟨F2, .refl _ _, h2, q2.ext x2⟩
    | false =>
      refine ⟨fun i x ex => ?_, fun i hi => ⟨us, sq, by rw [← RVs.length hd.rv]; exact hi⟩⟩
      obtain ⟨y, e1, q2⟩ := RVs.get hd.rv ex
      refine ⟨⟨us, y, sq, e1⟩, fun v H3 hy => ?_⟩
      obtain ⟨rfl, hv⟩ := hy
      have := hv us sq
      rw [e1] at this
      cases this
      exact ⟨F2, .refl _ _, h2, q2.ext x2⟩
theorem si_enum (hK : G.K = X.K) (hg : Gl X "enumerate") (hm : X.mg "enumerate" = none) (he : PE X e (rdE G n0 fe)) (hs : starEach [e] X.env = [(false, eval e X.env)] := by rfl) :
    PI X (.Tuple elts kk tpos) (.Call (.Name "enumerate" p) [e] [] pos) (rdI G n0 (iEnu fe)) := by
  refine piI (pi_enumG hg hm (pa_cons (toV he) pa_nil hs) hs) fun σ H T ⟨F, r, env, S, g, s, h⟩ => ?_
  refine stV s cnI h fun p S1 F1 r1 H1 u x1 s1 q1 h1 => ?_
  cases el : lockS p.2 S1 with
  | none => rw [el] at h1; exact h1.elim
  | some z =>
    obtain ⟨xs, ls, S2⟩ := z
    rw [el] at h1
    obtain ⟨g', b, a, us, rfl, hd⟩ := lock_ok s1.hr q1 el
    refine ⟨a, b, us, rfl, hK ▸ hd.sq g' (.refl g') F1 r1 S2 H1 hd.hr (.refl _ _), h1 F1 r1 H1 _ g' x1 ⟨hd.hr, s1.sl, s1.vr⟩ (fun g2 hg2 F2 r2 S3 H2 h2 x2 => ?_) hd.pn hd.un⟩
    have sq := hd.sq g2 hg2 F2 r2 S3 H2 h2 x2
    rw [← hK]
    refine ⟨fun i x ex => ?_, fun i hi => ⟨us, sq, by rw [← RVs.length hd.rv, ← enumL_len xs 0]; exact hi⟩⟩
    obtain ⟨x', ex', rfl⟩ := enumL_get ex
    obtain ⟨y, e1, q2⟩ := RVs.get hd.rv ex'
    refine ⟨⟨us, y, sq, e1⟩, fun v H3 hy => ?_⟩
    obtain ⟨T', y', rfl, hT, rfl, hv⟩ := hy
    have := hv us sq
    rw [e1] at this
    cases this
    obtain ⟨F4, x4, h4, k4⟩ := new_tup (xs := [.int (0 + i), x']) (us := [.int (i : Nat), y]) h2 hT ⟨_, _, rfl, by rw [Int.zero_add]; exact rfl, _, [], rfl, q2.ext x2, rfl⟩
    exact ⟨F4, x4, h4, k4⟩
theorem si_zip (hK : G.K = X.K) (hg : Gl X "zip") (hm : X.mg "zip" = none) (he : PE X e (rdE G n0 fe)) (he2 : PE X e2 (rdE G n0 fe2)) (hs : starEach [e, e2] X.env = (false, eval e X.env) :: starEach [e2] X.env := by rfl) (hs2 : starEach [e2] X.env = (false, eval e2 X.env) :: starEach [] X.env := by rfl)
    (hpl : (backTo pos (starEach [e2] X.env)).any (·.1) = false := by rfl) :
    PI X (.Tuple elts kk tpos) (.Call (.Name "zip" p) [e, e2] [] pos) (rdI G n0 (iZip fe fe2)) := by
  refine piI (pi_zipG hg hm (pa_cons (toV he) (pa_cons (toV he2) pa_nil hs2) hs) hs hpl) fun σ H T ⟨F, r, env, S, g, s, h⟩ => ?_
  refine stV s cnI h fun p S1 F1 r1 H1 u x1 s1 q1 h1 => ?_
  refine stV s1 cnI h1 fun q S2 F2 r2 H2 w x2 s2 q2 h2 => ?_
  cases el : lockS p.2 S2 with
  | none => rw [el] at h2; exact h2.elim
  | some z =>
    obtain ⟨xs, ls, S3⟩ := z
    simp only [el] at h2
    cases el2 : lockS q.2 S3 with
    | none => rw [el2] at h2; exact h2.elim
    | some z2 =>
      obtain ⟨ys, ls2, S4⟩ := z2
      simp only [el2] at h2
      obtain ⟨g1, b1, a1, us1, rfl, hd1⟩ := lock_ok s2.hr (q1.ext x2) el
      obtain ⟨g2, b2, a2, us2, rfl, hd2⟩ := lock_ok hd1.hr q2 el2
      have hpn : GhPin g g2 := fun a o e l => hd2.pn a o (hd1.pn a o e l).1 (hd1.pn a o e l).2
      have hun : ∀ rp, g.has rp → ∀ F5 r5 S5 H5, HR G n0 (g2.rep rp) F5 r5 S5 H5 → Ext F2 F5 r2 r5 → HR G n0 (g.rep rp) F5 r5 (unlock (ls2 ++ ls) S5) H5 := fun rp hrp F5 r5 S5 H5 h5 x5 => by
        have e : ∀ (l1 l2 : List (Nat × PV)) (S : Store), unlock (l1 ++ l2) S = unlock l2 (unlock l1 S) := by
          intro l1
          induction l1 with
          | nil => intro l2 S; rfl
          | cons c l1 ih => intro l2 S; exact ih l2 _
        rw [e]
        exact hd1.un rp hrp F5 r5 _ H5 (hd2.un rp (hd1.pn.has hrp) F5 r5 S5 H5 h5 x5) x5
      refine ⟨a1, a2, b1, b2, us1, us2, rfl, hK ▸ hd1.sq g2 hd2.le F2 r2 S4 H2 hd2.hr (.refl _ _), hK ▸ hd2.sq g2 (.refl g2) F2 r2 S4 H2 hd2.hr (.refl _ _), h2 F2 r2 H2 _ g2 (x1.trans x2) ⟨hd2.hr, s2.sl, s2.vr⟩ (fun g5 hg5 F5 r5 S5 H5 h5 x5 => ?_) hpn hun⟩
      have s1' := hd1.sq g5 (hd2.le.trans hg5) F5 r5 S5 H5 h5 x5
      have s2' := hd2.sq g5 hg5 F5 r5 S5 H5 h5 x5
      rw [← hK]
      refine ⟨fun i x ex => ?_, fun i hi => ⟨us1, us2, s1', s2', by rw [← RVs.length hd1.rv, ← RVs.length hd2.rv]; exact zipL_len xs ys i hi⟩⟩
      obtain ⟨x', y', ex', ey', rfl⟩ := zipL_get ex
      obtain ⟨u1, e1, k1⟩ := RVs.get hd1.rv ex'
      obtain ⟨u2, e2, k2⟩ := RVs.get hd2.rv ey'
      refine ⟨⟨us1, us2, u1, u2, s1', s2', e1, e2⟩, fun v H3 hy => ?_⟩
      obtain ⟨T', y1, y2, rfl, hT, rfl, hv1, hv2⟩ := hy
      have := hv1 us1 s1'
      rw [e1] at this
      cases this
      have := hv2 us2 s2'
      rw [e2] at this
      cases this
      exact new_tup (xs := [x', y']) (us := [u1, u2]) h5 hT ⟨_, _, rfl, k1.ext x5, _, [], rfl, k2.ext x5, rfl⟩
theorem its_rng {g' : Gh} {lo : Int} {n : Nat} : Its G n0 g' F r (Itr lo n) (rngL lo n) := fun g2 hg2 F2 r2 S2 H2 h2 x2 => by
  refine ⟨fun i x ex => ?_, fun i hi => by rw [rngL_len] at hi; exact hi⟩
  obtain ⟨h1, rfl⟩ := rngL_get ex
  refine ⟨h1, fun v H3 hy => ?_⟩
  obtain ⟨rfl, rfl⟩ := hy
  exact ⟨F2, .refl _ _, h2, rfl⟩
theorem okRg_ok {j : Int} (h : okRg j = true) : -(2 ^ 62) ≤ j ∧ j < 2 ^ 62 := by
  unfold okRg at h
  rw [Bool.and_eq_true, decide_eq_true_eq, decide_eq_true_eq] at h
  omega
theorem si_rng1 (hg : Gl X "range") (hm : X.mg "range" = none) (he : PE X e (rdE G n0 fe)) (hs : starEach [e] X.env = [(false, eval e X.env)] := by rfl) : PI X tg (.Call (.Name "range" p) [e] [] pos) (rdI G n0 (iRg1 fe)) := by
  refine piI (pi_range1 hg hm (pa_cons (toV he) pa_nil hs) hs) fun σ H T ⟨F, r, env, S, g, s, h⟩ => ?_
  refine stV s cnI h fun p S1 F1 r1 H1 u x1 s1 q1 h1 => ?_
  obtain ⟨b, v⟩ := p
  cases v with
  | int j =>
    simp only at h1
    split at h1
    · rename_i hj
      obtain ⟨k1, k2⟩ := okRg_ok hj
      exact ⟨j, by rw [show u = V.int j from q1], k1, k2, h1 F1 r1 H1 _ g x1 s1 its_rng (.refl g) (fun _ _ _ _ _ _ h _ => h)⟩
    · exact h1.elim
  | _ => exact h1.elim
theorem si_rng2 (hg : Gl X "range") (hm : X.mg "range" = none) (he : PE X e (rdE G n0 fe)) (he2 : PE X e2 (rdE G n0 fe2)) (hs : starEach [e, e2] X.env = [(false, eval e X.env), (false, eval e2 X.env)] := by rfl) (hs2 : starEach [e2] X.env = [(false, eval e2 X.env)] := by rfl) :
    PI X tg (.Call (.Name "range" p) [e, e2] [] pos) (rdI G n0 (iRg2 fe fe2)) := by
  refine piI (pi_range2 hg hm (pa_cons (toV he) (pa_cons (toV he2) pa_nil hs2) (hs.trans (by rw [hs2]))) hs hs2) fun σ H T ⟨F, r, env, S, g, s, h⟩ => ?_
  refine stV s cnI h fun p S1 F1 r1 H1 u x1 s1 q1 h1 => ?_
  refine stV s1 cnI h1 fun q S2 F2 r2 H2 w x2 s2 q2 h2 => ?_
  obtain ⟨b, v⟩ := p
  obtain ⟨b', v'⟩ := q
  cases v with
  | int i =>
    cases v' with
    | int j =>
      simp only at h2
      split at h2
      · rename_i hj
        rw [Bool.and_eq_true] at hj
        obtain ⟨k1, k2⟩ := okRg_ok hj.1
        obtain ⟨k3, k4⟩ := okRg_ok hj.2
        exact ⟨i, j, by rw [show u = V.int i from q1, show w = V.int j from q2], ⟨k1, k2, k3, k4⟩, h2 F2 r2 H2 _ g (x1.trans x2) s2 its_rng (.refl g) (fun _ _ _ _ _ _ h _ => h)⟩
      · exact h2.elim
    | _ => exact h2.elim
  | _ => exact h2.elim
end
end PX
set_option Elab.async false
set_option linter.all false
set_option maxRecDepth 100000
set_option maxHeartbeats 1000000
namespace PX
open PySem PySem.Spec PyProof.Rows L2 ZG
/-! ### list comprehensions -/
def wipeE (env : Env) : List Nat → Env
  | [] => env
  | v :: vs => (wipeE env vs).set v none
def compR (t : Tg) (c : ST) (e : SE) : List PV → Env → List PV → Store → R (List PV)
  | [], _, acc, S => .ok acc S
  | x :: xs, env, acc, S => match t x env S with
    | none => .no
    | some env' => (c env' S).bind fun b S1 => if b = true then (e env' S1).bind fun q S2 => if small acc.length then compR t c e xs env (acc ++ [q.2]) S2 else .no
      else compR t c e xs env acc S1
def eLc (i : SI) (t : Tg) (vs : List Nat) (c : ST) (e : SE) : SE := fun env S => (i env S).bind fun p S1 => (compR t c e p.1 (wipeE env vs) [] S1).bind fun acc S2 => .ok (true, .lst acc) (unlock p.2 S2)
def tYesP : ST := fun _ S => .ok true S

theorem wipe_get (σ : L2.St) (i : Nat) : ∀ vs : List Nat, (L2.wipe σ vs)[i]? = if i ∈ vs ∧ i < σ.length then some none else σ[i]?
  | [] => by simp [L2.wipe]
  | v :: vs => by
    unfold L2.wipe
    by_cases hv : v = i
    · subst hv
      by_cases hl : v < σ.length
      · rw [List.getElem?_set_self (by rw [wipe_length]; exact hl), if_pos ⟨by simp, hl⟩]
      · rw [if_neg (fun z => hl z.2), List.getElem?_eq_none (by rw [List.length_set, wipe_length]; omega), List.getElem?_eq_none (by omega)]
    · rw [List.getElem?_set_ne hv, wipe_get σ i vs]
      have : (i ∈ v :: vs) ↔ i ∈ vs := by
        rw [List.mem_cons]
        exact ⟨fun h => h.resolve_left (fun z => hv z.symm), .inr⟩
      simp only [this]
theorem wipe_idem (σ : L2.St) (vs : List Nat) : L2.wipe (L2.wipe σ vs) vs = L2.wipe σ vs := by
  refine List.ext_getElem? fun i => ?_
  rw [wipe_get, wipe_length, wipe_get]
  split <;> rfl
theorem wipe_set {σ : L2.St} {vs : List Nat} {i : Nat} {x : Option V} (h : i ∈ vs) : L2.wipe (σ.set i x) vs = L2.wipe σ vs := by
  refine List.ext_getElem? fun j => ?_
  rw [wipe_get, wipe_get, List.length_set]
  by_cases hj : i = j
  · subst hj
    by_cases hl : i < σ.length
    · rw [if_pos ⟨h, hl⟩, if_pos ⟨h, hl⟩]
    · rw [if_neg (fun z => hl z.2), if_neg (fun z => hl z.2), List.getElem?_eq_none (by rw [List.length_set]; omega), List.getElem?_eq_none (by omega)]
  · rw [List.getElem?_set_ne hj]
theorem wipeE_some {env : Env} {i : Nat} {v : PV} : ∀ {vs : List Nat}, (wipeE env vs)[i]? = some (some v) → env[i]? = some (some v) ∧ i ∉ vs
  | [], e => ⟨e, by simp⟩
  | w :: vs, e => by
    unfold wipeE at e
    by_cases hw : w = i
    · subst hw
      rw [List.getElem?_set] at e
      rw [if_pos rfl] at e
      split at e <;> cases e
    · rw [List.getElem?_set_ne hw] at e
      obtain ⟨h1, h2⟩ := wipeE_some e
      exact ⟨h1, by rw [List.mem_cons]; rintro (z | z); exact hw z.symm; exact h2 z⟩
theorem wipeE_len (env : Env) : ∀ vs : List Nat, (wipeE env vs).length = env.length
  | [] => rfl
  | v :: vs => by
    unfold wipeE
    rw [List.length_set, wipeE_len env vs]

section
variable {G : Gam} {n0 : Nat} {g : Gh} {F : Hp} {r : List Addr} {S : Store} {H : Hp}
theorem Sg.wipe {env : Env} {σ : L2.St} (s : Sg G n0 g F r env σ S H) (vs : List Nat) : Sg G n0 g F r (wipeE env vs) (L2.wipe σ vs) S H := by
  refine ⟨s.hr, by rw [wipeE_len, wipe_length, s.sl], fun i v e => ?_⟩
  obtain ⟨h1, h2⟩ := wipeE_some e
  obtain ⟨u, e1, q⟩ := s.vr i v h1
  exact ⟨u, by rw [wipe_get, if_neg (fun z => h2 z.1)]; exact e1, q⟩
/-! a target within the block -/
def TgB (G : Gam) (vs : List Nat) (t : Tg) (gg : TG) : Prop := ∀ n0 g F r env σ S H v u env' w0 (Q : L2.St → Hp → Prop), L2.wipe σ vs = w0 → Sg G n0 g F r env σ S H → RV G F r v u → t v env S = some env' → (∀ σ', L2.wipe σ' vs = w0 → Sg G n0 g F r env' σ' S H → Q σ' H) → gg u σ H Q
def TgsB (G : Gam) (vs : List Nat) (ts : List Tg) (gs : TGs) : Prop := ∀ n0 g F r env σ S H xs us env' w0 (Q : L2.St → Hp → Prop), L2.wipe σ vs = w0 → Sg G n0 g F r env σ S H → RVs G F r xs us → gTps ts xs env S = some env' → (∀ σ', L2.wipe σ' vs = w0 → Sg G n0 g F r env' σ' S H → Q σ' H) → gs us σ H Q
theorem tb_nm {vs : List Nat} (i : Nat) (h : i ∈ vs) : TgB G vs (gNm i) (gName i) := fun n0 g F r env σ S H v u env' w0 Q hw s q e k => by
  cases e
  exact k _ (by rw [wipe_set h]; exact hw) (s.set q)
theorem tbs_nil {vs : List Nat} : TgsB G vs [] gNil := fun n0 g F r env σ S H xs us env' w0 Q hw s q e k => by
  cases xs with
  | nil =>
    cases e
    exact ⟨q, k σ hw s⟩
  | cons v xs => cases e
theorem tbs_cons {vs : List Nat} {t : Tg} {ts : List Tg} {gg : TG} {gs : TGs} (h1 : TgB G vs t gg) (h2 : TgsB G vs ts gs) : TgsB G vs (t :: ts) (gCons gg gs) := fun n0 g F r env σ S H xs us env' w0 Q hw s q e k => by
  cases xs with
  | nil => cases e
  | cons v xs =>
    obtain ⟨u, ur, rfl, q1, q2⟩ := q
    have e : (match t v env S with
      | some env' => gTps ts xs env' S
      | none => none) = some env' := e
    cases e1 : t v env S with
    | none => rw [e1] at e; cases e
    | some env1 =>
      rw [e1] at e
      exact ⟨u, ur, rfl, h1 n0 g F r env σ S H v u env1 w0 _ hw s q1 e1 fun σ' hw' s' => h2 n0 g F r env1 σ' S H xs ur env' w0 Q hw' s' q2 e k⟩
theorem tb_tp {vs : List Nat} {ts : List Tg} {gs : TGs} {n : Nat} (h : TgsB G vs ts gs) (hn : ts.length = n) : TgB G vs (gTp ts) (gTup G.K n gs) := fun n0 g F r env σ S H v u env' w0 Q hw s q e k => by
  unfold gTp at e
  split at e
  · rename_i xs e'
    obtain ⟨a, us, rfl, h1, h2⟩ := view_tup s.hr q e'
    exact ⟨a, us, rfl, h1, by rw [← RVs.length h2, gTps_len e, hn], h n0 g F r env σ S H xs us env' w0 Q hw s h2 e k⟩
  · cases e
/-! the new list, held apart -/
def Gh.pin (g : Gh) (a : Addr) (ho : HO) : Gh := ⟨g.L, upd g.pn a ho, fun b => if b = a then false else g.lk b⟩
theorem HR.pinNew {a : Addr} {ho : HO} (h : HR G n0 g F r S H) (ha : H a = none) : HR G n0 (g.pin a ho) F r S (upd H a ho) := by
  have hF := h.noF ha
  have hr := h.nor ha
  have h1 := h.heap (H' := upd H a ho) fun b o e => by rw [upd_ne (ne_of_none e ha)]; exact e
  refine ⟨h1.sub, h.nd, h.off, h.len, h.nle, h.lle, h1.obj, fun b o e => ?_, fun i ob b e1 e2 => ?_, fun b o e el hb => ?_⟩
  · by_cases hb : b = a
    · subst hb
      have e : upd g.pn b ho b = some o := e
      rw [upd_same] at e
      cases e
      exact ⟨upd_same, .inl hF, fun i hi => absurd (List.mem_of_getElem? hi) hr⟩
    · have e : upd g.pn a ho b = some o := e
      rw [upd_ne hb] at e
      obtain ⟨q1, q2, q3⟩ := h1.pin b o e
      exact ⟨q1, q2.imp (fun q => q) (fun q => ⟨q.1, by show (if b = a then false else g.lk b) = true; rw [if_neg hb]; exact q.2⟩), q3⟩
  · show ∃ o, upd g.pn a ho b = some o
    by_cases hb : b = a
    · rw [hb, upd_same]; exact ⟨_, rfl⟩
    · rw [upd_ne hb]; exact h.lckd i ob b e1 e2
  · by_cases hb' : b = a
    · subst hb'; exact hr hb
    · have e : upd g.pn a ho b = some o := e
      rw [upd_ne hb'] at e
      have el : (if b = a then false else g.lk b) = false := el
      rw [if_neg hb'] at el
      exact h.out b o e el hb
theorem pin_at {a : Addr} {ho : HO} : (g.pin a ho).pn a = some ho := by
  show upd g.pn a ho a = _
  rw [upd_same]
theorem pin_ne {a b : Addr} {ho : HO} (hb : b ≠ a) : (g.pin a ho).pn b = g.pn b := by
  show upd g.pn a ho b = _
  rw [upd_ne hb]
theorem pin_le {a : Addr} {ho : HO} (hp : g.pn a = none) : GhLe g (g.pin a ho) := fun b o e l => by
  have hb : b ≠ a := fun z => by rw [z, hp] at e; cases e
  refine ⟨by rw [pin_ne hb]; exact e, ?_⟩
  show (if b = a then false else g.lk b) = true
  rw [if_neg hb]
  exact l
theorem pin_out {a : Addr} {ho : HO} (h : HR G n0 (g.pin a ho) F r S H) : a ∉ r := h.out a ho pin_at (by show (if a = a then false else g.lk a) = false; rw [if_pos rfl])
theorem HR.pinSet {a : Addr} {ho ho' : HO} (h : HR G n0 (g.pin a ho) F r S H) (hz : isFz ho = false := by rfl) : HR G n0 (g.pin a ho') F r S (upd H a ho') := by
  have hF : F a = none := noFz (h.pin a ho pin_at).2.1 hz
  have hr := pin_out h
  refine ⟨fun b o e => ?_, h.nd, h.off, h.len, h.nle, h.lle, fun i ob b e1 e2 => ?_, fun b o e => ?_, fun i ob b e1 e2 => ?_, fun b o e el hb => ?_⟩
  · rw [upd_ne (fun z => by rw [z, hF] at e; cases e)]
    exact h.sub b o e
  · obtain ⟨ho2, q1, q2⟩ := h.obj i ob b e1 e2
    exact ⟨ho2, q1.upd (fun z => hr (by rw [← z]; exact List.mem_of_getElem? e2)), q2⟩
  · by_cases hb : b = a
    · subst hb
      rw [pin_at] at e
      cases e
      exact ⟨upd_same, .inl hF, fun i hi => absurd (List.mem_of_getElem? hi) hr⟩
    · rw [pin_ne hb] at e
      obtain ⟨q1, q2, q3⟩ := h.pin b o (by rw [pin_ne hb]; exact e)
      exact ⟨by rw [upd_ne hb]; exact q1, q2, q3⟩
  · obtain ⟨o, q⟩ := h.lckd i ob b e1 e2
    by_cases hb : b = a
    · rw [hb, pin_at]; exact ⟨_, rfl⟩
    · rw [pin_ne hb] at q ⊢; exact ⟨o, q⟩
  · by_cases hb' : b = a
    · subst hb'; exact hr hb
    · rw [pin_ne hb'] at e
      exact h.out b o (by rw [pin_ne hb']; exact e) el hb
theorem HR.unpin {a : Addr} {ho : HO} (h : HR G n0 (g.pin a ho) F r S H) (hp : g.pn a = none) : HR G n0 g F r S H := by
  have hr := pin_out h
  have ne_of : ∀ b o, g.pn b = some o → b ≠ a := fun b o e z => by rw [z, hp] at e; cases e
  refine ⟨h.sub, h.nd, h.off, h.len, h.nle, h.lle, h.obj, fun b o e => (let hb := ne_of b o e; let ⟨q1, q2, q3⟩ := h.pin b o (by rw [pin_ne hb]; exact e); ⟨q1, q2.imp (fun q => q) (fun q => ⟨q.1, by have z : (if b = a then false else g.lk b) = true := q.2; rw [if_neg hb] at z; exact z⟩), q3⟩), fun i ob b e1 e2 => ?_, fun b o e el => ?_⟩
  · obtain ⟨o, q⟩ := h.lckd i ob b e1 e2
    have hb : b ≠ a := fun z => hr (by rw [← z]; exact List.mem_of_getElem? e2)
    rw [pin_ne hb] at q
    exact ⟨o, q⟩
  · have hb := ne_of b o e
    refine h.out b o (by rw [pin_ne hb]; exact e) ?_
    show (if b = a then false else g.lk b) = false
    rw [if_neg hb]
    exact el
variable {X : Cx}
def rdB (G : Gam) (n0 : Nat) (f : ST) : TT := rdT G n0 f
theorem lc_core' {fi : SI} {t : Tg} {gg : TG} {vs : List Nat} {c : ST} {fe : SE} (ht : TgB G vs t gg) (σ : L2.St) (H : Hp) (Q : VK) (hh : rdE G n0 (eLc fi t vs c fe) σ H Q) : tLc (rdI G n0 fi) gg (rdT G n0 c) (rdV G n0 fe) vs σ H Q := by
  obtain ⟨F, r, env, S, g, s, h⟩ := hh
  refine ⟨F, r, env, S, g, s, ?_⟩
  have h : PoE G n0 g F r env σ ((fi env S).bind fun p S1 => (compR t c fe p.1 (wipeE env vs) [] S1).bind fun acc S2 => .ok (true, .lst acc) (unlock p.2 S2)) Q := h
  cases ei : fi env S with
  | no => rw [ei] at h; exact h
  | ex => rw [ei] at h; exact h
  | ok p S1 =>
    rw [ei] at h
    obtain ⟨xs, ls⟩ := p
    have h : PoE G n0 g F r env σ ((compR t c fe xs (wipeE env vs) [] S1).bind fun acc S2 => .ok (true, .lst acc) (unlock ls S2)) Q := h
    intro F1 r1 H1 J g' x1 s1 its _ ul D hD
    have ul : ∀ F2 r2 S2 H2, HR G n0 g' F2 r2 S2 H2 → Ext F1 F2 r1 r2 → HR G n0 g F2 r2 (unlock ls S2) H2 := ul none (fun p e => nomatch e)
    have its : Its G n0 g' F1 r1 J xs := its
    have hp : g'.pn D = none := s1.hr.nop hD
    have hgp : g.pn D = none := (ul F1 r1 S1 H1 s1.hr (.refl _ _)).nop hD
    -- what holds ahead of turn i
    refine ⟨fun i m H' => m = xs.length - i ∧ i ≤ xs.length ∧ ∃ F2 r2 S2 acc us, Ext F1 F2 r1 r2 ∧ Sg G n0 (g'.pin D (.lst us)) F2 r2 (wipeE env vs) (L2.wipe σ vs) S2 H' ∧ RVs G F2 r2 acc us ∧
      PoE G n0 g F r env σ ((compR t c fe (xs.drop i) (wipeE env vs) acc S2).bind fun acc S2 => .ok (true, .lst acc) (unlock ls S2)) Q,
      ⟨xs.length, rfl, Nat.zero_le _, F1, r1, S1, [], [], .refl _ _, ⟨s1.hr.pinNew hD, (s1.wipe vs).sl, (s1.wipe vs).vr⟩, rfl, h⟩, ?_⟩
    rintro i m H2 ⟨rfl, hi, F2, r2, S2, acc, us, x2, s2, racc, h2⟩
    have hDr := pin_out s2.hr
    have hDH := (s2.hr.pin D _ pin_at).1
    have hDF := noFz (s2.hr.pin D _ pin_at).2.1 rfl
    have hr2 := s2.hr.unpin hp
    obtain ⟨ig, ie⟩ := its (g'.pin D (.lst us)) (fun a o e l => pin_le hp a o e l) F2 r2 S2 H2 s2.hr x2
    by_cases hlt : i < xs.length
    · have hx : xs[i]? = some xs[i] := List.getElem?_eq_getElem hlt
      have hd : xs.drop i = xs[i] :: xs.drop (i + 1) := List.drop_eq_getElem_cons hlt
      rw [hd] at h2
      obtain ⟨go, yl⟩ := ig i xs[i] hx
      refine .inr ⟨go, fun H' => ∃ F2 r2 S2 acc us, Ext F1 F2 r1 r2 ∧ Sg G n0 (g'.pin D (.lst us)) F2 r2 (wipeE env vs) (L2.wipe σ vs) S2 H' ∧ RVs G F2 r2 acc us ∧
        PoE G n0 g F r env σ ((compR t c fe (xs.drop (i + 1)) (wipeE env vs) acc S2).bind fun acc S2 => .ok (true, .lst acc) (unlock ls S2)) Q,
        fun H' q => ⟨xs.length - (i + 1), by omega, rfl, hlt, q⟩, fun v H3 hy => ?_⟩
      obtain ⟨F3, x3, hr3, q3⟩ := yl v H3 hy
      have h3 : PoE G n0 g F r env σ ((match t xs[i] (wipeE env vs) S2 with
        | none => R.no
        | some env' => (c env' S2).bind fun b S1 => if b = true then (fe env' S1).bind fun q S2 => if small acc.length then compR t c fe (xs.drop (i + 1)) (wipeE env vs) (acc ++ [q.2]) S2 else .no
          else compR t c fe (xs.drop (i + 1)) (wipeE env vs) acc S1).bind fun acc S2 => .ok (true, .lst acc) (unlock ls S2)) Q := h2
      cases et : t xs[i] (wipeE env vs) S2 with
      | none => rw [et] at h3; exact h3.elim
      | some env3 =>
        simp only [et] at h3
        refine ht n0 _ F3 r2 (wipeE env vs) (L2.wipe σ vs) S2 H3 xs[i] v env3 (L2.wipe σ vs) _ (wipe_idem σ vs) (s2.ext x3 hr3) q3 et fun σ3 hw3 s3 => ⟨hw3, ?_⟩
        refine ⟨F3, r2, env3, S2, _, s3, ?_⟩
        cases ec : c env3 S2 with
        | no => rw [ec] at h3; exact h3
        | ex => rw [ec] at h3; exact h3
        | ok b S4 =>
          rw [ec] at h3
          intro F4 r4 H4 x4 s4
          have xx : Ext F1 F4 r1 r4 := (x2.trans x3).trans x4
          have back : ∀ {us' F' r' S' H'}, Ext F4 F' r4 r' → Sg G n0 (g'.pin D (.lst us')) F' r' env3 σ3 S' H' → Sg G n0 (g'.pin D (.lst us')) F' r' (wipeE env vs) (L2.wipe σ vs) S' H' := fun {us' F' r' S' H'} x' s' =>
            ⟨s'.hr, s2.sl, fun j w e => by
              obtain ⟨u, e1, q1⟩ := s2.vr j w e
              exact ⟨u, e1, q1.ext ((x3.trans x4).trans x')⟩⟩
          cases b with
          | false => exact ⟨F4, r4, S4, acc, us, xx, back (.refl _ _) s4, racc.ext (x3.trans x4), h3⟩
          | true =>
            have h4 : PoE G n0 g F r env σ (((fe env3 S4).bind fun q S2 => if small acc.length then compR t c fe (xs.drop (i + 1)) (wipeE env vs) (acc ++ [q.2]) S2 else .no).bind fun acc S2 => .ok (true, .lst acc) (unlock ls S2)) Q := h3
            refine ⟨F4, r4, env3, S4, _, s4, ?_⟩
            cases ee : fe env3 S4 with
            | no => rw [ee] at h4; exact h4
            | ex => rw [ee] at h4; exact h4
            | ok q S5 =>
              rw [ee] at h4
              intro F5 r5 H5 y x5 s5 q5
              have h5 : PoE G n0 g F r env σ ((if small acc.length then compR t c fe (xs.drop (i + 1)) (wipeE env vs) (acc ++ [q.2]) S5 else .no).bind fun acc S2 => .ok (true, .lst acc) (unlock ls S2)) Q := h4
              cases hsm : small acc.length with
              | false => rw [hsm] at h5; exact h5.elim
              | true =>
                rw [hsm, if_pos rfl] at h5
                have hr5 := s5.hr
                refine ⟨us, (hr5.pin D _ pin_at).1, by rw [← RVs.length racc]; exact small_lt hsm, F5, r5, S5, acc ++ [q.2], us ++ [y], xx.trans x5, back x5 ⟨hr5.pinSet, s5.sl, s5.vr⟩, (racc.ext ((x3.trans x4).trans x5)).append ⟨y, [], rfl, q5, rfl⟩, h5⟩
    · have e : i = xs.length := by omega
      subst e
      rw [List.drop_length] at h2
      refine .inl ⟨ie _ (Nat.le_refl _), ?_⟩
      have h6 := ul F2 r2 S2 H2 hr2 x2
      have s6 : Sg G n0 g F2 r2 env σ (unlock ls S2) H2 := ⟨h6, s1.sl, fun j w e => by
        obtain ⟨u, e1, q1⟩ := s1.vr j w e
        exact ⟨u, e1, q1.ext x2⟩⟩
      exact h2 F2 r2 H2 (.ref D) (x1.trans x2) s6 ⟨D, .lst us, rfl, hDH, hDF, hDr, hgp, ⟨us, rfl, racc⟩, rfl⟩
theorem sts_nil : PTs X [] (rdT G n0 tYesP) := ⟨fun pins s σ H Q I h => pts_nil.run pins s σ H Q I (by
  obtain ⟨F, r, env, S, g, s, h⟩ := h
  exact h F r H (.refl F r) s)⟩
theorem sts_one {c : Expr} {tc : ST} (h : PT X c (rdT G n0 tc)) : PTs X [c] (rdT G n0 tc) := pts_one h
theorem Tb.blk {cf : CF} {k : Nat} (T : Tb X G cf k) (s : Shared) (H : Hp) (scope : Scope) (cenv : PySem.Env) (fp : List Addr) : Tb (X.blk s H scope cenv fp) G cf k := ⟨T.hK, T.call, T.room, T.calm⟩
theorem se_lc {elt tg iter : Expr} {ifs : List Expr} {scope : Scope} {own : List (Str × Nat)} {pos : Pos} {fi : SI} {t : Tg} {gg : TG} {c : ST} {fe : SE} (hc : X.calm = true) (hN : X.N.Nodup) (hi : PI X tg iter (rdI G n0 fi)) (ok : BlkOk X.N X.env.scope scope own) (ht : TgB G (own.map (·.2)) t gg)
    (hg : ∀ (s : Shared) (H : Hp) (C : Addr) (cl : List (Str × Addr)) (fp : List Addr), PG (X.blk s H scope (compEnvC scope cl C X.env) fp) tg gg)
    (hts : ∀ (s : Shared) (H : Hp) (C : Addr) (cl : List (Str × Addr)) (fp : List Addr), PTs (X.blk s H scope (compEnvC scope cl C X.env) fp) ifs (rdT G n0 c))
    (he : ∀ (s : Shared) (H : Hp) (C : Addr) (cl : List (Str × Addr)) (fp : List Addr), PE (X.blk s H scope (compEnvC scope cl C X.env) fp) elt (rdE G n0 fe)) (hs : ∀ x, foldedSetIterable iter X.env x = pure x := by intro _; rfl) :
    PE X (.ListComp elt [⟨tg, iter, ifs, 0⟩] scope pos) (rdE G n0 (eLc fi t (own.map (·.2)) c fe)) :=
  se_of (pe_lc hc hN hi ok hg hts (fun s H C cl fp => toV (he s H C cl fp)) hs) (lc_core' ht)
end
end PX
set_option Elab.async false
set_option linter.all false
set_option maxRecDepth 100000
set_option maxHeartbeats 1000000
namespace PX
open PySem PySem.Spec PyProof.Rows L2
/-! ### an item: of a list, a tuple, a dict, an own __getitem__ -/
def dIx (x y : PV) (S : Store) : Option (Bool × PV) := match deref S x with
  | some (.dct ks vs) => match keyOf y with
    | some q => match dGet ks vs q with
      | some (some v) => some (false, v)
      | _ => none
    | none => none
  | _ => none
def eIx (cf : CF) (tb : List (Nat × Nat)) (a b : SE) : SE := fun env S => (a env S).bind fun p S1 => (b env S1).bind fun q S2 => match ownOf tb S2 p.2 with
  | some f => callV cf f [p.2, q.2] S2
  | none => match dIx p.2 q.2 S2 with
    | some z => .ok z S2
    | none => ofO (oIx p.2 q.2 S2) S2
section
variable {X : Cx} {k : Nat}
def rIxOwn (X : Cx) (k : Nat) : R2 := fun x y H Q => ∃ a C dx fs g sp, x = .ref a ∧ H a = some (.ins C dx fs) ∧ Spc X.K C g "__getitem__" ∧ PySem.W.fnIn X.K g = true ∧ FnR X.prog X.w X.K X.mg X.base L2.CX0 k g sp ∧ sp [x, y] H Q E0
def rIxDct : R2 := fun x y H Q => ∃ a v, x = .ref a ∧ DGet H a y (some v) ∧ Q v H
theorem pe_ixG {a b : Expr} {ta tb : TE} {pos : Pos} (hr : Room (k + 1) X.A) (ha : PE X a ta) (hb : PE X b tb) (hs : PlainIx b) (hsl : ∀ x i, subscripted b true (.ref x) i = runValue (.builtin "lifetime.subscript" ⟨[.ref x, i], []⟩)) :
    PE X (.Subscript a b pos) (tOp (fun x y H Q => rIxOwn X k x y H Q ∨ rIxDct x y H Q ∨ rIx X.K x y H Q) ta tb) := by
  refine ⟨fun pins s σ H Q I h => ?_⟩
  refine Subscript_ (binT ha hb I h fun v u s2 x y H2 I2 rx ry q => ?_)
  rcases q with q | q | q
  · obtain ⟨a', C, dx, fs, g, sp, rfl, ea, hs', hf, F, q⟩ := q
    cases (show v = Value.ref a' from rx)
    obtain ⟨od, J⟩ := inst_at I2 ea
    obtain ⟨m, hF⟩ := I2.fr
    refine PySem.W.sub_K hF I2.ok.mod.kin J hs'.at_ hf hs'.fn ?_ (hsl a' u)
    exact wpAny_call (SlX.run_at (us := [.ref a', u]) (ws := [.ref a', y]) F hr.in1 I2.env0.in1 pass0 I2 (.cons rfl (.cons ry .nil)) q)
  · obtain ⟨a', z, rfl, gd, q⟩ := q
    cases (show v = Value.ref a' from rx)
    exact tail_any (dict_typeIs I2 gd) PySem.F.slot_dict_getitem.lookup (d_getItem (by have := hr.units; omega) I2 gd ry fun w' s3 I3 rw' => ⟨z, H2, I3, rw', q⟩) (hs _ _)
  · exact ix_seq a b pins s2 σ H2 x y v u Q I2 rx ry q (hs _ _)
end
section
variable {X : Cx} {G : Gam} {n0 : Nat} {cf : CF} {k : Nat}
theorem se_ixG {tb : List (Nat × Nat)} {a b : Expr} {fa fb : SE} {pos : Pos} (T : Tb X G cf k) (hc : ∀ p ∈ tb, Spc G.K (G.ca p.1) (G.fa p.2) "__getitem__" ∧ PySem.W.fnIn G.K (G.fa p.2) = true) (ha : PE X a (rdE G n0 fa)) (hb : PE X b (rdE G n0 fb))
    (hs : PlainIx b) (hsl : ∀ x i, subscripted b true (.ref x) i = runValue (.builtin "lifetime.subscript" ⟨[.ref x, i], []⟩)) : PE X (.Subscript a b pos) (rdE G n0 (eIx cf tb fa fb)) := by
  refine se_of (pe_ixG T.room (toV ha) (toV hb) hs hsl) fun σ H Q ⟨F, r, env, S, g, s, h⟩ => ?_
  refine stV s cnE h fun p S1 F1 r1 H1 u x1 s1 q1 h1 => ?_
  refine stV s1 cnE h1 fun q S2 F2 r2 H2 v x2 s2 q2 h2 => ?_
  have q1' := q1.ext x2
  cases eo : ownOf tb S2 p.2 with
  | some f =>
    simp only [eo] at h2
    obtain ⟨a', c, dx, fs, rfl, k1, k2⟩ := own_at s2.hr q1' eo
    obtain ⟨c1, c2⟩ := hc _ k2
    refine .inl ⟨a', G.ca c, dx, fs, G.fa f, _, rfl, k1, T.hK ▸ c1, T.hK ▸ c2, T.call f 2, ?_⟩
    exact run_call (np := 2) s2 (x1.trans x2) (show RVs G F2 r2 [p.2, q.2] _ from ⟨_, _, rfl, q1', _, [], rfl, q2, rfl⟩) rfl h2
  | none =>
    simp only [eo] at h2
    cases ed : dIx p.2 q.2 S2 with
    | some z =>
      simp only [ed] at h2
      unfold dIx at ed
      split at ed
      · rename_i ks vs edr
        cases ek : keyOf q.2 with
        | none => simp only [ek] at ed; cases ed
        | some kk =>
          simp only [ek] at ed
          cases eg : dGet ks vs kk with
          | none => simp only [eg] at ed; cases ed
          | some o =>
            cases o with
            | none => simp only [eg] at ed; cases ed
            | some w =>
              simp only [eg] at ed
              cases ed
              obtain ⟨a', o', rfl, gd, y, rfl, rv⟩ := dGet_ok s2.hr q1' edr q2 ek eg
              exact .inr (.inl ⟨a', y, rfl, gd, h2 F2 r2 H2 y (x1.trans x2) s2 rv⟩)
      · cases ed
    | none =>
      simp only [ed] at h2
      exact .inr (.inr (T.hK ▸ endO (T := fun Q => rIx G.K u v H2 Q) s2 (x1.trans x2) h2 fun z ez k => ok_ix n0 g F2 r2 S2 H2 p.2 q.2 u v z Q s2.hr q1' q2 ez k))
/-! isinstance(x, (c1, c2, ..)) -/
theorem se_isiT {tb : List (TyN × Bool)} {e : Expr} {fe : SE} {p pos : Pos} {cvs : List V} {cus : List Value} {ht : TA} {es : List Expr} {x1 : _} {tpos : Pos} (hK : G.K = X.K) (hg : Gl X "isinstance") (hm : X.mg "isinstance" = none) (hb : bootBuiltins "isinstance" = some (.builtin "isinstance")) (hcv : Paired ClsV cvs cus)
    (hcl : ∀ t b, (t, b) ∈ tb → PySem.W.kitAny G.K (t.val G) cus = some b ∧ ∀ c, t = .own c → ClsI G c) (he : PE X e (rdE G n0 fe)) (hc : PA X es ht) (hht : ∀ σ H Q, Q cvs H → ht σ H Q) (hlen : cvs.length ≤ sizeLine)
    (hs : starEach [e, .Tuple es x1 tpos] X.env = (false, eval e X.env) :: starEach [.Tuple es x1 tpos] X.env := by rfl) (hs2 : starEach [.Tuple es x1 tpos] X.env = (false, eval (.Tuple es x1 tpos) X.env) :: starEach [] X.env := by rfl) (hpl : (backTo pos (starEach [.Tuple es x1 tpos] X.env)).any (·.1) = false := by rfl) :
    PE X (.Call (.Name "isinstance" p) [e, .Tuple es x1 tpos] [] pos) (rdE G n0 (eIsi tb fe)) := by
  refine peI (pe_callB call_isiT hg hm hb (pa_cons (toV he) (pa_cons (pe_tup hc) pa_nil hs2) hs) (by decide) (by decide) hs hpl) fun σ H Q ⟨F, r, env, S, g, s, h⟩ => ?_
  refine stV s cnE h fun p S1 F1 r1 H1 u x1 s1 q1 h1 => ?_
  simp only at h1
  cases et : tyN S1 p.2 with
  | none => rw [et] at h1; exact h1.elim
  | some t =>
    rw [et] at h1
    cases el : tb.lookup t with
    | none => simp only [el] at h1; exact h1.elim
    | some b =>
      simp only [el] at h1
      obtain ⟨k1, k2⟩ := hcl t b (tb_mem el)
      refine hht _ _ _ ⟨hlen, fun tp htp => ?_⟩
      have h2 := s1.hr.heap (H' := upd H1 tp (.tup cvs)) fun a o e => by rw [upd_ne (ne_of_none e htp)]; exact e
      refine ⟨u, tp, cvs, t.val G, cus, b, rfl, upd_same, hcv, hK ▸ tyN_ok h2 q1 k2 et, hK ▸ k1, ?_⟩
      exact h1 F1 r1 _ _ x1 (s1.ext (.refl _ _) h2) rfl
/-! xs[::-1] -/
def eRev (a : SE) : SE := fun env S => (a env S).bind fun p S1 => match lstOf S1 p.2 with
  | some xs => .ok (true, .lst xs.reverse) S1
  | none => .no
theorem RVs.rev {F : Hp} {r : List Addr} : ∀ {vs : List PV} {us : List V}, RVs G F r vs us → RVs G F r vs.reverse us.reverse
  | [], us, q => by
    cases (show us = [] from q)
    exact rfl
  | v :: vs, us, q => by
    obtain ⟨u, ur, rfl, k, l⟩ := q
    rw [List.reverse_cons, List.reverse_cons]
    exact (RVs.rev l).append ⟨u, [], rfl, k, rfl⟩
theorem se_rev {e : Expr} {fe : SE} {kk : Nat} {p1 p2 p3 pos : Pos} (hK : G.K = X.K) (he : PE X e (rdE G n0 fe)) : PE X (.Subscript e (.Slice none none (some (.UnaryOp .USub (.Constant (.int 1) kk p1) p2)) p3) pos) (rdE G n0 (eRev fe)) := by
  refine se_of (pe_revL (toV he)) fun σ H Q ⟨F, r, env, S, g, s, h⟩ => ?_
  refine stV s cnE h fun p S1 F1 r1 H1 u x1 s1 q1 h1 => ?_
  cases el : lstOf S1 p.2 with
  | none => simp only [el] at h1; exact h1.elim
  | some xs =>
    simp only [el] at h1
    obtain ⟨a, us, rfl, k1, k2⟩ := view_lstOf s1.hr q1 el
    refine ⟨a, us, rfl, .inl k1, fun p' hp => ?_⟩
    obtain ⟨h2, k3⟩ := new_obj s1.hr hp (v := .lst xs.reverse) ⟨_, rfl, k2.rev⟩ rfl
    exact h1 F1 r1 _ _ x1 (s1.ext (.refl _ _) h2) k3
end
/-! ### sorting ints -/
def insI (x : Int) : List Int → List Int
  | [] => [x]
  | y :: ys => if x ≤ y then x :: y :: ys else y :: insI x ys
def srtI : List Int → List Int
  | [] => []
  | x :: xs => insI x (srtI xs)
theorem insI_perm (x : Int) : ∀ ys : List Int, (insI x ys).Perm (x :: ys)
  | [] => .refl _
  | y :: ys => by
    unfold insI
    split
    · exact .refl _
    · exact ((insI_perm x ys).cons y).trans (.swap x y ys)
theorem srtI_perm : ∀ xs : List Int, (srtI xs).Perm xs
  | [] => .refl _
  | x :: xs => (insI_perm x _).trans ((srtI_perm xs).cons x)
theorem insI_mem {x z : Int} {ys : List Int} (h : z ∈ insI x ys) : z = x ∨ z ∈ ys := by
  have := (insI_perm x ys).mem_iff.mp h
  exact List.mem_cons.mp this
theorem insI_sorted (x : Int) : ∀ {ys : List Int}, ys.Pairwise (· ≤ ·) → (insI x ys).Pairwise (· ≤ ·)
  | [], _ => by simp [insI]
  | y :: ys, h => by
    unfold insI
    have hc := List.pairwise_cons.mp h
    split
    · rename_i hxy
      refine List.pairwise_cons.mpr ⟨fun z hz => ?_, h⟩
      rcases List.mem_cons.mp hz with rfl | hz
      · exact hxy
      · exact Int.le_trans hxy (hc.1 z hz)
    · rename_i hxy
      refine List.pairwise_cons.mpr ⟨fun z hz => ?_, insI_sorted x hc.2⟩
      rcases insI_mem hz with rfl | hz
      · omega
      · exact hc.1 z hz
theorem srtI_sorted : ∀ xs : List Int, (srtI xs).Pairwise (· ≤ ·)
  | [] => .nil
  | x :: xs => insI_sorted x (srtI_sorted xs)
theorem sorted_uniq : ∀ {xs ys : List Int}, xs.Pairwise (· ≤ ·) → ys.Pairwise (· ≤ ·) → xs.Perm ys → xs = ys
  | [], ys, _, _, p => p.nil_eq
  | x :: xs, [], _, _, p => by
    have := p.length_eq
    simp at this
  | x :: xs, y :: ys, h1, h2, p => by
    have c1 := List.pairwise_cons.mp h1
    have c2 := List.pairwise_cons.mp h2
    have hxy : x = y := by
      have hx : x ∈ y :: ys := p.mem_iff.mp List.mem_cons_self
      have hy : y ∈ x :: xs := p.mem_iff.mpr List.mem_cons_self
      rcases List.mem_cons.mp hx with e | hx
      · exact e
      · rcases List.mem_cons.mp hy with e | hy
        · exact e.symm
        · have := c1.1 y hy
          have := c2.1 x hx
          omega
    subst hxy
    rw [sorted_uniq c1.2 c2.2 ((List.perm_cons x).mp p)]
theorem srtI_eq {ns ns' : List Int} (p : ns'.Perm ns) (h : ns'.Pairwise (· ≤ ·)) : ns' = srtI ns := sorted_uniq h (srtI_sorted ns) (p.trans (srtI_perm ns).symm)
def keysI : List Key → Option (List Int)
  | [] => some []
  | .inl i :: r => (keysI r).map (i :: ·)
  | .inr _ :: _ => none
theorem keysI_ok : ∀ {ks : List Key} {ns : List Int}, keysI ks = some ns → ks = ns.map Sum.inl
  | [], ns, e => by cases e; rfl
  | .inl i :: r, ns, e => by
    have e : (keysI r).map (i :: ·) = some ns := e
    cases e1 : keysI r with
    | none => rw [e1] at e; cases e
    | some ms =>
      rw [e1] at e
      cases e
      rw [keysI_ok e1]
      rfl
  | .inr _ :: _, _, e => by cases e
def bSort : OpN := fun xs S => match xs with
  | [v] => match deref S v with
    | some (.lst ws) => (intsOf ws).map fun ns => (true, .lst ((srtI ns).map .int))
    | some (.dct (.k ks) _) => match keysI ks with
      | some ns => if Nat.ble ns.length 63 then some (true, .lst ((srtI ns).map .int)) else none
      | none => none
    | _ => none
  | _ => none
/-! dict(pairs) -/
def pairsK : List PV → Option (List Key × List PV)
  | [] => some ([], [])
  | .tup [a, b] :: r => match keyOf a with
    | some (.k q) => match pairsK r with
      | some z => some (q :: z.1, b :: z.2)
      | none => none
    | _ => none
  | _ :: _ => none
def mergeB : List Key → List PV → List Key → List PV → List Key × List PV
  | ks, vs, q :: qs, w :: ws => let z := putB eqK ks vs q w; mergeB z.1 z.2 qs ws
  | ks, vs, _, _ => (ks, vs)
def bDict : OpN := fun xs S => match xs with
  | [v] => match deref S v with
    | some (.lst ws) => match pairsK ws with
      | some z => let y := mergeB [] [] z.1 z.2; some (true, .dct (.k y.1) y.2)
      | none => none
    | some (.dct (.k ks) vs) => some (true, .dct (.k ks) vs)
    | _ => none
  | _ => none
section
variable {X : Cx} {G : Gam}
def rSort (K : PySem.W.Frag) : List V → Hp → VK → Prop := fun vs H Q => rSortedI K vs H Q ∨ ∃ (a : Addr) (kvs : List (Key × V)) (ks : List Int), vs = [.ref a] ∧ Rd H a (.dK kvs) ∧ kvs.map (·.1) = ks.map Sum.inl ∧ ks.length < 64 ∧
    ∀ (ys : List Int) (p : Addr), ys.Perm ks → ys.Pairwise (· ≤ ·) → H p = none → Q (.ref p) (upd H p (.lst (ys.map V.int)))
theorem cr_sort (hc : X.calm = true) : CallR X (.builtin "sorted") (rSort X.K) := by
  intro pins s σ H vs us Q I r h
  rcases h with h | h
  · exact cr_sortedI pins s σ H vs us Q I r h
  · exact call_sortedDI hc pins s σ H vs us Q I r h
theorem RVs.toI {F : Hp} {r : List Addr} (ns : List Int) : RVs G F r (ns.map PV.int) (ns.map V.int) := RVs.of_ints ns
theorem ok_sort : OkN G bSort (rSort G.K) := fun n0 g F r S H xs us z Q h q e k => by
  unfold bSort at e
  split at e
  · obtain ⟨u, rfl, q1⟩ := one_of q
    split at e
    · rename_i ws ed
      cases en : intsOf ws with
      | none => rw [en] at e; cases e
      | some ns =>
        rw [en] at e
        cases e
        obtain ⟨a, us, rfl, k1, k2⟩ := view_lst h q1 ed
        rw [intsOf_eq en] at k2
        rw [RVs.ints k2] at k1
        refine .inl ⟨a, ns, rfl, .inl k1, fun ns' p hp hs hH => ?_⟩
        rw [srtI_eq hp hs]
        obtain ⟨h2, k3⟩ := new_obj h hH (v := .lst ((srtI ns).map .int)) ⟨_, rfl, RVs.toI _⟩ rfl
        exact k F r _ _ (.refl F r) h2 k3
    · rename_i ks ws ed
      cases en : keysI ks with
      | none => simp only [en] at e; cases e
      | some ns =>
        simp only [en] at e
        split at e
        · rename_i hl
          cases e
          obtain ⟨a, ho, us, rfl, k1, k2, k3⟩ := view_dct h q1 ed
          obtain ⟨rfl, hlen⟩ := k2
          refine .inr ⟨a, _, ns, rfl, k1, ?_, by have := Nat.le_of_ble_eq_true hl; omega, fun ys p hp hs hH => ?_⟩
          · rw [keysI_ok en] at hlen ⊢
            rw [show (fun x : Key × V => x.1) = Prod.fst from rfl, List.map_fst_zip (Nat.le_of_eq hlen)]
          · rw [srtI_eq hp hs]
            obtain ⟨h2, k4⟩ := new_obj h hH (v := .lst ((srtI ns).map .int)) ⟨_, rfl, RVs.toI _⟩ rfl
            exact k F r _ _ (.refl F r) h2 k4
        · cases e
    · cases e
  · cases e
theorem pairsK_ok {F : Hp} {r : List Addr} : ∀ {ws : List PV} {us : List V} {z : List Key × List PV}, RVs G F r ws us → pairsK ws = some z →
    ∃ (ps : List Addr) (ys : List V), us = ps.map V.ref ∧ z.1.length = ys.length ∧ RVs G F r z.2 ys ∧ Paired (fun p kv => F p = some (.tup [kV kv.1, kv.2])) ps (z.1.zip ys)
  | [], us, z, q, e => by
    cases e
    exact ⟨[], [], q, rfl, rfl, .nil⟩
  | w :: ws, us, z, q, e => by
    unfold pairsK at e
    split at e
    · rename_i h0; cases h0
    · rename_i a b r' h0
      cases h0
      split at e
      · rename_i kk ek
        split at e
        · rename_i y ey
          cases e
          obtain ⟨u, ur, rfl, k, l⟩ := q
          obtain ⟨p, ts, rfl, k1, k2⟩ := k
          obtain ⟨ua, ub, rfl, ka, kb⟩ := two_of k2
          obtain ⟨ps, ys, rfl, e1, e2, e3⟩ := pairsK_ok l ey
          rw [keyOf_k ka ek] at k1
          exact ⟨p :: ps, ub :: ys, rfl, by simpa using e1, ⟨ub, ys, rfl, kb, e2⟩, .cons k1 e3⟩
        · cases e
      · cases e
    · cases e
theorem mergeB_ok {F : Hp} {r : List Addr} : ∀ {qs : List Key} {ws : List PV} {ys : List V} {ks : List Key} {vs : List PV} {us : List V}, qs.length = ys.length → RVs G F r ws ys → ks.length = us.length → RVs G F r vs us →
    ∃ us', mergeK (ks.zip us) (qs.zip ys) = (mergeB ks vs qs ws).1.zip us' ∧ (mergeB ks vs qs ws).1.length = us'.length ∧ RVs G F r (mergeB ks vs qs ws).2 us'
  | [], ws, ys, ks, vs, us, _, _, hl, k => by
    have e : mergeB ks vs [] ws = (ks, vs) := by cases ws <;> rfl
    rw [e]
    exact ⟨us, rfl, hl, k⟩
  | q :: qs, ws, [], ks, vs, us, h, _, _, _ => by cases h
  | q :: qs, [], y :: ys, ks, vs, us, _, k', _, _ => by cases (show (y :: ys) = [] from k')
  | q :: qs, w :: ws, y :: ys, ks, vs, us, h, k', hl, k => by
    obtain ⟨u', ur, e, k1, k2⟩ := k'
    cases e
    obtain ⟨us1, e1, e2, e3⟩ := putB_ok eqK_ok k1 (q := q) hl k
    obtain ⟨us2, e4, e5, e6⟩ := mergeB_ok (qs := qs) (by simpa using h) k2 e2 e3
    refine ⟨us2, ?_, e5, e6⟩
    show mergeK (putK (ks.zip us) q y) (qs.zip ys) = _
    rw [e1]
    exact e4
def rDict (K : PySem.W.Frag) : List V → Hp → VK → Prop := fun xs H Q => (∃ (a : Addr) (ps : List Addr) (kvs : List (Key × V)), xs = [.ref a] ∧ SqL K H a (ps.map V.ref) ∧ Paired (fun p kv => SqT K H p [kV kv.1, kv.2]) ps kvs ∧
    ∀ p, H p = none → Q (.ref p) (upd H p (.dK (mergeK [] kvs)))) ∨ ∃ (a : Addr) (kvs : List (Key × V)), xs = [.ref a] ∧ Rd H a (.dK kvs) ∧ ∀ p, H p = none → Q (.ref p) (upd H p (.dK kvs))
theorem cr_dict (hc : X.calm = true) : CallR X (.type "dict") (rDict X.K) := by
  intro pins s σ H vs us Q I r h
  rcases h with h | h
  · exact call_dictP hc pins s σ H vs us Q I r h
  · exact call_dictD pins s σ H vs us Q I r h
theorem Paired.imp' {α β : Type} {R R' : α → β → Prop} (h : ∀ a b, R a b → R' a b) : ∀ {as : List α} {bs : List β}, Paired R as bs → Paired R' as bs
  | _, _, .nil => .nil
  | _, _, .cons a b => .cons (h _ _ a) (Paired.imp' h b)
theorem ok_dict : OkN G bDict (rDict G.K) := fun n0 g F r S H xs us z Q h q e k => by
  unfold bDict at e
  split at e
  · obtain ⟨u, rfl, q1⟩ := one_of q
    split at e
    · rename_i ws ed
      cases ep : pairsK ws with
      | none => simp only [ep] at e; cases e
      | some y =>
        simp only [ep] at e
        cases e
        obtain ⟨a, us, rfl, k1, k2⟩ := view_lst h q1 ed
        obtain ⟨ps, ys, rfl, e1, e2, e3⟩ := pairsK_ok k2 ep
        refine .inl ⟨a, ps, _, rfl, .inl k1, Paired.imp' (fun _ _ e => h.sub.tp e) e3, fun p hp => ?_⟩
        obtain ⟨us', f1, f2, f3⟩ := mergeB_ok (ks := []) (vs := []) (us := []) e1 e2 rfl rfl
        have f1 : mergeK [] (y.1.zip ys) = _ := f1
        rw [f1]
        obtain ⟨h2, k4⟩ := new_obj h hp (v := .dct (.k (mergeB [] [] y.1 y.2).1) (mergeB [] [] y.1 y.2).2) ⟨us', ⟨rfl, f2⟩, f3⟩ rfl
        exact k F r _ _ (.refl F r) h2 k4
    · rename_i ks vs ed
      cases e
      obtain ⟨a, ho, us, rfl, k1, k2, k3⟩ := view_dct h q1 ed
      obtain ⟨rfl, hlen⟩ := k2
      refine .inr ⟨a, _, rfl, k1, fun p hp => ?_⟩
      obtain ⟨h2, k4⟩ := new_obj h hp (v := .dct (.k ks) vs) ⟨us, ⟨rfl, hlen⟩, k3⟩ rfl
      exact k F r _ _ (.refl F r) h2 k4
    · cases e
  · cases e
end
end PX
set_option Elab.async false
set_option linter.all false
set_option maxRecDepth 100000
namespace PX
open PySem PySem.Spec PyProof.Rows L2 He
/-! ### the head: facts as checks of the written part (without its lists) -/
def noLst (g : Addr → Option Obj) : Addr → Option Obj := fun a => match g a with
  | some o => (match o.cls with
    | .type n => if n = "list" then none else some o
    | _ => some o)
  | none => none
theorem noLst_at {g : Addr → Option Obj} {a : Addr} {o : Obj} (h : noLst g a = some o) : g a = some o ∧ o.cls ≠ .type "list" := by
  unfold noLst at h
  cases e : g a with
  | none => rw [e] at h; cases h
  | some ob =>
    rw [e] at h
    simp only at h
    cases ec : ob.cls with
    | type n =>
      rw [ec] at h
      simp only at h
      split at h
      · cases h
      · rename_i hn
        cases h
        rw [ec]
        exact ⟨rfl, fun z => hn (Value.type.inj z)⟩
    | _ =>
      rw [ec] at h
      cases h
      rw [ec]
      exact ⟨rfl, fun z => nomatch z⟩
abbrev Ck : Type := PySem.W.Frag → Bool
def obsP (fb : List Ck) (fn : List DefD) (K : PySem.W.Frag) : AlD := ((fb.all fun f => f K) && fn.all fun d => d.ok K, fn.map fun d => fnW K d.at_)
structure SaysP (fb : List Ck) (fn : List DefD) (K : PySem.W.Frag) : Prop where
  eq : obsP fb fn K = valD fn
  nol : ∀ a o, K.lookup a = some o → o.cls ≠ .type "list"
def obsPG (n : Nat) (fb : List Ck) (fn : List DefD) (g : Addr → Option Obj) : AlD := obsP fb fn (frG (noLst g) (asD g n))
def hookP (n : Nat) (fb : List Ck) (fn : List DefD) : PySem.W.Hook where
  α := AlD
  obs := fun s => obsPG n fb fn s.heap.get?
  val := fun _ => valD fn
  says := fun _ h => ∃ K : PySem.W.Frag, K.In h ∧ SaysP fb fn K
  of := fun _ _ e => ⟨_, fun _ _ e' => (noLst_at (frG_at _ e')).1, e, fun _ _ e' => (noLst_at (frG_at _ e')).2⟩
  keeps := fun _ _ _ ⟨K, hK, c⟩ k => ⟨K, PySem.W.Frag.In.keeps hK k, c⟩
theorem obsPG_eq {n : Nat} {fb : List Ck} {fn : List DefD} {g : Addr → Option Obj} {s : Shared} (h : ∀ a, g a = s.heap.get? a) : obsPG n fb fn g = (hookP n fb fn).obs s := by
  have e : g = s.heap.get? := funext h
  rw [e] <;> rfl
section
variable {fb : List Ck} {fn : List DefD} {K : PySem.W.Frag}
theorem SaysP.fact (c : SaysP fb fn K) (i : Nat) {f : Ck} (h : fb[i]? = some f := by rfl) : f K = true := by
  have c1 := (He.ba (show ((fb.all fun f => f K) && fn.all fun d => d.ok K) = true from congrArg (fun z : AlD => z.1) c.eq)).1
  exact List.all_eq_true.mp c1 f (List.mem_of_getElem? h)
theorem SaysP.def_ (c : SaysP fb fn K) (i : Nat) {d : DefD} (h : fn[i]? = some d := by rfl) : ∃ fd, FunD K d.name d.qual d.params d.body d.scope (d.dvs K) (d.kws K) (fAd K d.at_) fd := by
  have c2 := (He.ba (show ((fb.all fun f => f K) && fn.all fun d => d.ok K) = true from congrArg (fun z : AlD => z.1) c.eq)).2
  have e : fn.map (fun d => fnW K d.at_) = fn.map DefD.val := congrArg (fun z : AlD => z.2) c.eq
  have e2 : (fn.map fun d => fnW K d.at_)[i]? = (fn.map DefD.val)[i]? := by rw [e]
  rw [List.getElem?_map, List.getElem?_map, h] at e2
  exact DefD.funD (Option.some.inj e2) (List.all_eq_true.mp c2 d (List.mem_of_getElem? h))
end
/-! names by number -/
def gam (fs : List (Str × Option Str)) (cs ns : List Str) (K : PySem.W.Frag) : Gam := ⟨K, fun i => fAd K (fs.getD i ("", none)), fun c => ga K (cs.getD c ""), fun n => ns.getD n ""⟩
theorem inj_nm {fs : List (Str × Option Str)} {cs ns : List Str} {K : PySem.W.Frag} (i : Nat) (hi : i < ns.length) (hn : ns.Nodup) (he : ("" : Str) ∉ ns) : Inj (gam fs cs ns K) i := fun j e => by
  have e : ns.getD j "" = ns.getD i "" := e
  have hi' : ns.getD i "" = ns[i] := by simp [List.getD_eq_getElem?_getD, hi]
  by_cases hj : j < ns.length
  · have hj' : ns.getD j "" = ns[j] := by simp [List.getD_eq_getElem?_getD, hj]
    rw [hi', hj'] at e
    exact (List.getElem_inj hn).mp e
  · have hj' : ns.getD j "" = "" := by simp [List.getD_eq_getElem?_getD, hj]
    rw [hi', hj'] at e
    exact absurd (e ▸ List.getElem_mem hi) he
/-! kinds of checks -/
def cGlo (x : Str) : Ck := fun K => eqO (PySem.W.nsIn K mainGlobals x) (some (some (.ref (ga K x))))
def cFree (x : Str) : Ck := fun K => eqO (PySem.W.nsIn K mainGlobals x) (some none)
def cInt (x : Str) (i : Int) : Ck := fun K => Fa.ok K (.int x i)
def cKeep (G : PySem.W.Frag → Gam) (f : Nat) : Ck := fun K => PySem.W.keepIn K (.ref ((G K).fa f))
def clsB (K : PySem.W.Frag) (C : Addr) : Bool := PySem.W.plainGet K C Str.empty && (PySem.W.hasDictIn K C && (PySem.W.plainOver K C && eqO (PySem.W.findIn K (.ref C) "__setattr__") (some (some (.builtin "object.__setattr__")))))
def isiB (K : PySem.W.Frag) (C : Addr) : Bool := eqO (PySem.W.findIn K (.ref C) "__class__") (some (some (.builtin "object.__class__"))) && (eqO (PySem.W.specialIn K (.builtin "object.__class__") "__get__") (some (some (.builtin "getset_descriptor.__get__"))) &&
  (decide (PySem.W.takesIn K (.builtin "object.__class__") = some true) && decide (PySem.W.mroIn K C (.type "object") = some true)))
def methB (K : PySem.W.Frag) (C f : Addr) (m : Str) : Bool := eqO (PySem.W.findIn K (.ref C) m) (some (some (.ref f))) && (PySem.W.isFn K (.ref f) && PySem.W.keepIn K (.ref f))
def cCls (G : PySem.W.Frag → Gam) (cs : List Nat) : Ck := fun K => cs.all fun c => clsB K ((G K).ca c) && isiB K ((G K).ca c)
def cFld (G : PySem.W.Frag → Gam) (f : Nat) (cs : List Nat) : Ck := fun K => cs.all fun c => clsB K ((G K).ca c) && eqO (PySem.W.findIn K (.ref ((G K).ca c)) ((G K).nm f)) (some none)
def cMet (G : PySem.W.Frag → Gam) (m : Nat) (tb : List (Nat × Nat)) : Ck := fun K => tb.all fun p => clsB K ((G K).ca p.1) && methB K ((G K).ca p.1) ((G K).fa p.2) ((G K).nm m)
def cMk (G : PySem.W.Frag → Gam) (c f : Nat) : Ck := fun K => PySem.W.makesIn K ((G K).ca c) && (eqO (PySem.W.findIn K (.ref ((G K).ca c)) "__init__") (some (some (.ref ((G K).fa f)))) && (PySem.W.isFn K (.ref ((G K).fa f)) && PySem.W.keepIn K (.ref ((G K).ca c))))
def cSpc (G : PySem.W.Frag → Gam) (tb : List (Nat × Nat)) (m : Str) : Ck := fun K => tb.all fun p => eqO (PySem.W.findIn K (.ref ((G K).ca p.1)) m) (some (some (.ref ((G K).fa p.2)))) && (PySem.W.isFn K (.ref ((G K).fa p.2)) && PySem.W.fnIn K ((G K).fa p.2))
def cNe (G : PySem.W.Frag → Gam) (tb : List (Nat × Nat)) : Ck := fun K => tb.all fun p => eqO (PySem.W.findIn K (.ref ((G K).ca p.1)) "__ne__") (some (some (.builtin "object.__ne__"))) && decide (PySem.W.mroIn K ((G K).ca p.1) (.type "object") = some true)
def cNf (G : PySem.W.Frag → Gam) (tb : List (Nat × Nat)) (tys : List TyN) : Ck := fun K => tb.all fun p => tys.all fun t => PySem.W.notFirst K ((G K).ca p.1) (t.val (G K))
def cKit (G : PySem.W.Frag → Gam) (tb : List (TyN × Bool)) (cu : PySem.W.Frag → Value) : Ck := fun K => tb.all fun p => decide (PySem.W.kitOne K (p.1.val (G K)) (cu K) = some p.2)
def cKitT (G : PySem.W.Frag → Gam) (tb : List (TyN × Bool)) (cus : PySem.W.Frag → List Value) : Ck := fun K => tb.all fun p => decide (PySem.W.kitAny K (p.1.val (G K)) (cus K) = some p.2)
section
variable {K : PySem.W.Frag} {h : Heap} {mg : Str → Option Value}
theorem cGlo_ok (X : K.In h) (G : h.Ns mainGlobals mg) {x : Str} (c : cGlo x K = true) : mg x = some (.ref (ga K x)) := PySem.W.mg_of X G (eqO_ok c)
theorem cFree_ok (X : K.In h) (G : h.Ns mainGlobals mg) {x : Str} (c : cFree x K = true) : mg x = none := PySem.W.mg_none_of X G (eqO_ok c)
theorem cInt_ok (X : K.In h) (G : h.Ns mainGlobals mg) {x : Str} {i : Int} (c : cInt x i K = true) : ∃ u, mg x = some u ∧ RelV (.int i) u := by
  obtain ⟨t, e⟩ := int_ok X G c
  exact ⟨_, e, ⟨t, rfl⟩⟩
variable {G : PySem.W.Frag → Gam}
theorem clsB_ok {C : Addr} (c : clsB K C = true) : Cls K C := by
  obtain ⟨c1, c⟩ := He.ba c
  obtain ⟨c2, c⟩ := He.ba c
  obtain ⟨c3, c4⟩ := He.ba c
  exact ⟨c1, c2, c3, eqO_ok c4⟩
theorem isiB_ok {C : Addr} (c : isiB K C = true) : SlX.SIsi K C := by
  obtain ⟨c1, c⟩ := He.ba c
  obtain ⟨c2, c⟩ := He.ba c
  obtain ⟨c3, c4⟩ := He.ba c
  exact ⟨eqO_ok c1, eqO_ok c2, of_decide_eq_true c3, of_decide_eq_true c4⟩
theorem methB_ok {C f : Addr} {m : Str} (c : methB K C f m = true) : Meth K C m f := by
  obtain ⟨c1, c⟩ := He.ba c
  obtain ⟨c2, c3⟩ := He.ba c
  exact ⟨eqO_ok c1, c2, c3⟩
theorem cCls_ok (hG : (G K).K = K) {cs : List Nat} (h : cCls G cs K = true) : ∀ c ∈ cs, ClsI (G K) c := fun c hc => by
  obtain ⟨h1, h2⟩ := He.ba (List.all_eq_true.mp h c hc)
  exact ⟨hG.symm ▸ clsB_ok h1, hG.symm ▸ isiB_ok h2⟩
theorem cFld_ok (hG : (G K).K = K) {f : Nat} {cs : List Nat} (h : cFld G f cs K = true) : ∀ c ∈ cs, Cls (G K).K ((G K).ca c) ∧ NoAttr (G K).K ((G K).ca c) ((G K).nm f) := fun c hc => by
  obtain ⟨h1, h2⟩ := He.ba (List.all_eq_true.mp h c hc)
  rw [hG]
  exact ⟨clsB_ok h1, eqO_ok h2⟩
theorem cMet_ok (hG : (G K).K = K) {m : Nat} {tb : List (Nat × Nat)} (h : cMet G m tb K = true) : ∀ p ∈ tb, Cls (G K).K ((G K).ca p.1) ∧ Meth (G K).K ((G K).ca p.1) ((G K).nm m) ((G K).fa p.2) := fun p hp => by
  obtain ⟨h1, h2⟩ := He.ba (List.all_eq_true.mp h p hp)
  rw [hG]
  exact ⟨clsB_ok h1, methB_ok h2⟩
theorem cMk_ok (hG : (G K).K = K) {c f : Nat} (h : cMk G c f K = true) : Mk (G K).K ((G K).ca c) ((G K).fa f) := by
  obtain ⟨h1, h⟩ := He.ba h
  obtain ⟨h2, h⟩ := He.ba h
  obtain ⟨h3, h4⟩ := He.ba h
  rw [hG]
  exact ⟨h1, eqO_ok h2, h3, h4⟩
theorem cSpc_ok (hG : (G K).K = K) {tb : List (Nat × Nat)} {m : Str} (h : cSpc G tb m K = true) : ∀ p ∈ tb, Spc (G K).K ((G K).ca p.1) ((G K).fa p.2) m ∧ PySem.W.fnIn (G K).K ((G K).fa p.2) = true := fun p hp => by
  obtain ⟨h1, h2⟩ := He.ba (List.all_eq_true.mp h p hp)
  obtain ⟨h2, h3⟩ := He.ba h2
  rw [hG]
  exact ⟨⟨eqO_ok h1, h2⟩, h3⟩
def ownIn (cs : List Nat) : TyN → Bool
  | .own c => cs.contains c
  | _ => true
theorem ownIn_ok {cs : List Nat} {c : Nat} (h : ownIn cs (.own c) = true) : c ∈ cs := by
  have h : cs.contains c = true := h
  simpa using h
theorem cEq_ok (hG : (G K).K = K) {tb : List (Nat × Nat)} {tys : List TyN} {cs : List Nat} (h1 : cSpc G tb "__eq__" K = true) (h2 : cNe G tb K = true) (h3 : cNf G tb tys K = true) (h4 : cCls G cs K = true) (h5 : (tys.all fun t => ownIn cs t) = true) : EqT (G K) tb tys := by
  refine ⟨fun p hp => (cSpc_ok hG h1 p hp).1, fun p hp => ?_, fun p hp t ht => ?_, fun c hc => cCls_ok hG h4 c (ownIn_ok (List.all_eq_true.mp h5 _ hc))⟩
  · obtain ⟨a, b⟩ := He.ba (List.all_eq_true.mp h2 p hp)
    rw [hG]
    exact ⟨eqO_ok a, of_decide_eq_true b⟩
  · rw [hG]
    exact List.all_eq_true.mp (List.all_eq_true.mp h3 p hp) t ht
theorem cKit_ok (hG : (G K).K = K) {tb : List (TyN × Bool)} {cu : PySem.W.Frag → Value} {cs : List Nat} (h1 : cKit G tb cu K = true) (h4 : cCls G cs K = true) (h5 : (tb.all fun p => ownIn cs p.1) = true) : ∀ t b, (t, b) ∈ tb → PySem.W.kitOne (G K).K (t.val (G K)) (cu K) = some b ∧ ∀ c, t = .own c → ClsI (G K) c := fun t b hm => by
  refine ⟨?_, fun c hc => ?_⟩
  · rw [hG]
    exact of_decide_eq_true (List.all_eq_true.mp h1 (t, b) hm)
  · subst hc
    exact cCls_ok hG h4 c (ownIn_ok (List.all_eq_true.mp h5 _ hm))
theorem cKitT_ok (hG : (G K).K = K) {tb : List (TyN × Bool)} {cus : PySem.W.Frag → List Value} {cs : List Nat} (h1 : cKitT G tb cus K = true) (h4 : cCls G cs K = true) (h5 : (tb.all fun p => ownIn cs p.1) = true) : ∀ t b, (t, b) ∈ tb → PySem.W.kitAny (G K).K (t.val (G K)) (cus K) = some b ∧ ∀ c, t = .own c → ClsI (G K) c := fun t b hm => by
  refine ⟨?_, fun c hc => ?_⟩
  · rw [hG]
    exact of_decide_eq_true (List.all_eq_true.mp h1 (t, b) hm)
  · subst hc
    exact cCls_ok hG h4 c (ownIn_ok (List.all_eq_true.mp h5 _ hm))
end
/-! ### a def keeps its promise -/
section
variable {P : Program} {w : World} {K : PySem.W.Frag} {mg : Str → Option Value} {base : Heap} {G : Gam}
theorem spF_np {T : Nat → Option FnB} {n f np : Nat} {b : FnB} {vs : List V} {H : Hp} {Q : VK} {E : XK} (hT : T f = some b) (h : spF G (callF T (n + 1)) f np vs H Q E) : np = b.np := by
  obtain ⟨F, r, S, g, n0, args, hr, q, l, h⟩ := h
  have h : (match (match T f with
    | some b => runB b (callF T n) args n0 S
    | none => R.no) with
    | .ok v S' => ∀ F' r' H' u, Ext F F' r r' → HR G n0 g F' r' S' H' → RV G F' r' v u → Q u H'
    | _ => False) := h
  rw [hT] at h
  simp only [runB] at h
  by_cases hl : args.length = b.np
  · rw [← l, hl]
  · rw [if_neg hl] at h
    exact h.elim
theorem spF_none {T : Nat → Option FnB} {n f np : Nat} {vs : List V} {H : Hp} {Q : VK} {E : XK} (hT : T f = none) (h : spF G (callF T n) f np vs H Q E) : False := by
  obtain ⟨F, r, S, g, n0, args, hr, q, l, h⟩ := h
  cases n with
  | zero => exact h
  | succ n =>
    have h : (match (match T f with
      | some b => runB b (callF T n) args n0 S
      | none => R.no) with
      | .ok v S' => ∀ F' r' H' u, Ext F F' r r' → HR G n0 g F' r' S' H' → RV G F' r' v u → Q u H'
      | _ => False) := h
    rw [hT] at h
    exact h
abbrev All (P : Program) (w : World) (K : PySem.W.Frag) (mg : Str → Option Value) (base : Heap) (G : Gam) (T : Nat → Option FnB) (n : Nat) : Prop := ∀ f np, FnR P w K mg base L2.CX0 (2 * n) (G.fa f) (spF G (callF T n) f np)
theorem all_zero {T : Nat → Option FnB} : All P w K mg base G T 0 := fun f np A outer s H us vs Q E hr he hv hs => by
  obtain ⟨F, r, S, g, n0, args, hr, q, l, h⟩ := hs
  exact h.elim
theorem def_fn {T : Nat → Option FnB} {n f : Nat} {b : FnB} {x qual : Str} {params : Arguments} {body : List Stmt} {scope : Scope} {fd : FuncData} {N ps : List Str} (hT : T f = some b) (F : FunD K x qual params body scope [] [] (G.fa f) fd) (S : FnScope N ps scope) (hn : b.nl = N.length) (hp : ps.length = b.np)
    (hbody : ∀ (cdv : Value) (A : Around) (outer : List PySem.Env) (s : Shared) (H : Hp) (E : XK) (n0 : Nat), Room (2 * n + 1) (A.deeper (envOfC qual scope s.heap.objs.size (G.fa f) cdv)) →
      PSs (cxOf L2.CX0 P w K mg base N qual scope (G.fa f) cdv A outer s H E).nox body (rdS G n0 (b.body (callF T n) n0))) : FnOk P w K mg base L2.CX0 (2 * (n + 1)) (G.fa f) fd ps (spF G (callF T (n + 1)) f b.np) :=
  F.ok S (fun vs H Q E h => by rw [spF_len vs H Q E h, hp]) fun cdv A outer s H vs Q E hr h => by
    obtain ⟨n0, hb⟩ := body_ok hT hn h
    exact ⟨_, PSs.nox (hbody cdv A outer s H E n0 hr), hb⟩
theorem def_ok {T : Nat → Option FnB} {n f : Nat} {b : FnB} {x qual : Str} {params : Arguments} {body : List Stmt} {scope : Scope} {fd : FuncData} {N ps : List Str} (hT : T f = some b) (F : FunD K x qual params body scope [] [] (G.fa f) fd) (S : FnScope N ps scope) (hn : b.nl = N.length) (hp : ps.length = b.np)
    (hb : Binds K fd ps []) (hbody : ∀ (cdv : Value) (A : Around) (outer : List PySem.Env) (s : Shared) (H : Hp) (E : XK) (n0 : Nat), Room (2 * n + 1) (A.deeper (envOfC qual scope s.heap.objs.size (G.fa f) cdv)) →
      PSs (cxOf L2.CX0 P w K mg base N qual scope (G.fa f) cdv A outer s H E).nox body (rdS G n0 (b.body (callF T n) n0))) : ∀ np, FnR P w K mg base L2.CX0 (2 * (n + 1)) (G.fa f) (spF G (callF T (n + 1)) f np) := by
  have ok := def_fn hT F S hn hp hbody
  intro np A outer s H us vs Q E hr he hv hs
  have e := spF_np hT hs
  subst e
  exact (ok.raw hb .nil) A outer s H us vs Q E hr he hv (by show spF G (callF T (n + 1)) f b.np (vs ++ []) H Q E; rw [List.append_nil]; exact hs)
end
section
variable {P : Program} {w : World} {K : PySem.W.Frag} {mg : Str → Option Value} {base : Heap} {G : Gam}
/-! ### the law -/
theorem law_sp {T : Nat → Option FnB} {n f : Nat} {H : Hp} {a : Addr} {ns : List Int} {S' : Store} (nol : ∀ a o, K.lookup a = some o → o.cls ≠ .type "list") (hS : SqL K H a (ns.map V.int)) (h : callF T n f [.lst (ns.map .int)] 0 [] = .ok (.bl true) S') :
    spF G (callF T n) f 1 [.ref a] H (fun v _ => v = .bl true) fun _ _ _ => False := by
  have hR : Rd H a (.lst (ns.map V.int)) := by
    rcases hS with h | ⟨o, its, k, h1, h2, _⟩
    · exact h
    · exact absurd h2 (nol a o h1)
  have hF : Le (fun b => if b = a then H a else none) H := fun b o e => by
    have e : (if b = a then H a else none) = some o := e
    split at e
    · rename_i hb
      rw [hb]
      exact e
    · cases e
  refine ⟨fun b => if b = a then H a else none, [], [], ⟨fun _ => 0, fun _ => none, fun _ => false⟩, 0, [.lst (ns.map .int)], ⟨LeD.of hF, .nil, fun b hb => absurd hb (by simp), rfl, Nat.le_refl _, fun i hi => absurd hi (Nat.not_lt_zero i), fun i ob b e => absurd e (by simp), fun b o e => (by cases e), fun i ob b e => absurd e (by simp), fun b o e => (by cases e)⟩, ⟨.ref a, [], rfl, ⟨a, ns.map V.int, rfl, ?_, RVs.of_ints ns⟩, rfl⟩, rfl, ?_⟩
  · rcases hR with h | ⟨o, h⟩
    · exact .inl (by show (if a = a then H a else none) = _; rw [if_pos rfl]; exact h)
    · exact .inr ⟨o, by show (if a = a then H a else none) = _; rw [if_pos rfl]; exact h⟩
  · rw [h]
    exact fun F' r' H' u _ _ q => q
end
end PX
set_option Elab.async false
set_option linter.all false
set_option maxRecDepth 100000
namespace PX
open PySem PySem.Spec PyProof.Rows L2
/-! helps for printed derivations -/
def isFnK : ScopeKind → Bool
  | .function => true
  | _ => false
def blkB (N : List Str) (sc scope : Scope) (own : List (Str × Nat)) : Bool := isFnK scope.kind && (scope.names.all (fun y => decide (scope.names.lookup y.1 = some y.2)) && (own.all (fun p => decide (N[p.2]? = some p.1)) &&
  (scope.names.all (fun y => !decide (y.2 = .free) || (decide (sc.names.lookup y.1 = some .cell) || decide (sc.names.lookup y.1 = some .free))) &&
  scope.names.all (fun y => !(decide (y.2 = .local) || decide (y.2 = .cell)) || (decide (y.1 ∈ own.map (·.1)) || !decide (y.1 ∈ N))))))
theorem blk_ok {N : List Str} {sc scope : Scope} {own : List (Str × Nat)} (h : blkB N sc scope own = true) : BlkOk N sc scope own := by
  unfold blkB at h
  simp only [Bool.and_eq_true, List.all_eq_true, Bool.or_eq_true, Bool.not_eq_true', decide_eq_true_eq, decide_eq_false_iff_not, Bool.or_eq_false_iff] at h
  obtain ⟨h1, h2, h3, h4, h5⟩ := h
  refine ⟨?_, fun y hy => h2 y hy, fun p hp => h3 p hp, fun y hy e => (h4 y hy).resolve_left (fun z => z e), fun y hy e => (h5 y hy).resolve_left (fun z => ?_)⟩
  · cases hk : scope.kind with
    | function => rfl
    | _ => rw [hk] at h1; cases h1
  · rcases e with e | e
    · exact z.1 e
    · exact z.2 e
section
variable {X : Cx} {G : Gam} {n0 : Nat}
/-! name = [..] on one line, the name a local -/
theorem ss_setLc {i : Nat} {y : Str} {py : Pos} {elt tg iter : Expr} {ifs : List Expr} {scope : Scope} {own : List (Str × Nat)} {pos spos : Pos} {fi : SI} {t : Tg} {gg : TG} {c : ST} {fe : SE} (hc : X.calm = true) (hN : X.N.Nodup) (hy : X.N[i]? = some y) (hyl : X.env.scope.names.lookup y = some .local)
    (hsw : swapsWith (.ListComp elt [⟨tg, iter, ifs, 0⟩] scope pos) (some (.Name y py)) spos.line X.env = pure true) (hi : PI X tg iter (rdI G n0 fi)) (ok : BlkOk X.N X.env.scope scope own) (ht : TgB G (own.map (·.2)) t gg)
    (hg : ∀ (s : Shared) (H : Hp) (C : Addr) (cl : List (Str × Addr)) (fp : List Addr), PG (X.blk s H scope (compEnvC scope cl C X.env) fp) tg gg)
    (hts : ∀ (s : Shared) (H : Hp) (C : Addr) (cl : List (Str × Addr)) (fp : List Addr), PTs (X.blk s H scope (compEnvC scope cl C X.env) fp) ifs (rdT G n0 c))
    (he : ∀ (s : Shared) (H : Hp) (C : Addr) (cl : List (Str × Addr)) (fp : List Addr), PE (X.blk s H scope (compEnvC scope cl C X.env) fp) elt (rdE G n0 fe)) (hs : ∀ x, foldedSetIterable iter X.env x = pure x := by intro _; rfl) :
    PS X (.Assign [.Name y py] (.ListComp elt [⟨tg, iter, ifs, 0⟩] scope pos) spos) (tAsg (rdE G n0 (eLc fi t (own.map (·.2)) c fe)) (gName i)) :=
  psI (ps_setLc hc hN hy hyl hsw hi ok hg hts (fun s H C cl fp => toV (he s H C cl fp)) hs) fun D σ H h => lc_core' ht σ H _ h
/-! a fresh value goes to the store ahead of the assignment, or is left as it is -/
theorem asgV {f : SE} {gg : TG} {st : Stmt} (hp : PS X st (tAsg (rdE G n0 f) gg)) : PS X st (tAsg (rdV G n0 f) gg) := by
  refine psI hp fun D σ H ⟨F, r, env, S, g, s, h⟩ => ⟨F, r, env, S, g, s, ?_⟩
  cases e : f env S with
  | ok p S' =>
    rw [e] at h
    intro F' r' H' u x s' q
    obtain ⟨F2, x2, h2, q2⟩ := freeze s'.hr q
    exact h F2 r' H' u (x.trans x2) (s'.ext x2 h2) q2
  | ex => rw [e] at h; exact h
  | no => rw [e] at h; exact h
theorem asgN {f : SE} {gg : TG} {st : Stmt} (hp : PS X st (tAsg (rdE G n0 f) gg)) : PS X st (tAsg (rdE G n0 (eNew f)) gg) := by
  refine psI hp fun D σ H ⟨F, r, env, S, g, s, h⟩ => ?_
  have h : PoE G n0 g F r env σ ((f env S).bind fun p S1 => match p.1 with
    | true => .ok (false, .ref S1.length) (S1 ++ [p.2])
    | false => .ok p S1) (fun x H' => gg x σ H' D.nx) := h
  refine stE s cnE h fun p S1 F1 r1 H1 u x1 s1 q1 h1 => ?_
  obtain ⟨b, v⟩ := p
  cases b with
  | false => exact h1 F1 r1 H1 u x1 s1 q1
  | true =>
    obtain ⟨r2, x2, h2, k⟩ := store_new s1.hr q1
    exact h1 F1 r2 H1 u (x1.trans x2) (s1.ext x2 h2) k
/-! a chain of two comparisons -/
theorem ch_core {o o' : Op2} {t t' : R2} {fa fb fc : SE} (ho : Ok2 G o t) (ho' : Ok2 G o' t') (σ : L2.St) (H : Hp) (Q : VK) (hh : rdE G n0 (eCh o o' fa fb fc) σ H Q) : tChain t t' (rdV G n0 fa) (rdV G n0 fb) (rdV G n0 fc) σ H Q := by
  obtain ⟨F, r, env, S, g, s, h⟩ := hh
  refine stV s cnE h fun p S1 F1 r1 H1 u x1 s1 q1 h1 => ?_
  refine stV s1 cnE h1 fun q S2 F2 r2 H2 v x2 s2 q2 h2 => ?_
  split at h2
  · rename_i eo
    refine ho n0 g F2 r2 S2 H2 p.2 q.2 u v _ _ s2.hr (q1.ext x2) q2 eo fun F3 r3 H3 w x3 hr3 rf => ⟨true, rf, ?_⟩
    refine stV (s2.ext x3 hr3) cnE h2 fun z S4 F4 r4 H4 w' x4 s4 q4 h4 => ?_
    exact endO (T := fun Q => t' v w' H4 Q) s4 (((x1.trans x2).trans x3).trans x4) h4 fun z' ez k => ho' n0 g F4 r4 S4 H4 q.2 z.2 v w' z' Q s4.hr (q2.ext (x3.trans x4)) q4 ez k
  · rename_i eo
    refine ho n0 g F2 r2 S2 H2 p.2 q.2 u v _ _ s2.hr (q1.ext x2) q2 eo fun F3 r3 H3 w x3 hr3 rf => ⟨false, rf, ?_⟩
    exact h2 F3 r3 H3 _ ((x1.trans x2).trans x3) (s2.ext x3 hr3) rfl
  · exact h2.elim
theorem st_ch {o1 o2 : CmpOp} {o o' : Op2} {t t' : R2} {a b c : Expr} {fa fb fc : SE} {pos : Pos} (hop : OpR X (compareOp o1) t) (ho : Ok2 G o t) (hop' : OpR X (compareOp o2) t') (ho' : Ok2 G o' t') (ha : PE X a (rdE G n0 fa)) (hb : PE X b (rdE G n0 fb)) (hc : PE X c (rdE G n0 fc))
    (hm : lastMarks [o1, o2] [b, c] = false := by with_unfolding_all rfl) : PT X (.Compare a [o1, o2] [b, c] pos) (rdT G n0 (tBl (eCh o o' fa fb fc))) :=
  st_of (pt_chain hop hop' (toV ha) (toV hb) (toV hc) hm) (ch_core ho ho')
end
theorem FunD_binds {K : PySem.W.Frag} {x qual : Str} {params : Arguments} {body : List Stmt} {scope : Scope} {f : Addr} {fd : FuncData} {ps : List Str} (F : FunD K x qual params body scope [] [] f fd)
    (h : ∀ (kV doc pm : Value) (an : Option Addr) (cdv ct : Value) (us : List Value), us.length = ps.length → bindArgs (PySem.W.fnOf x qual params body scope .none kV doc pm an cdv ct) ⟨us, []⟩ = pure (ps.zip us)) : Binds K fd ps [] := fun s us _ hl => by
  rw [List.append_nil] at hl ⊢
  exact F.bindsA h s us hl
end PX
set_option Elab.async false
set_option linter.all false
set_option maxRecDepth 100000
set_option maxHeartbeats 1000000
namespace PX
open PySem PySem.Spec PyProof.Rows L2
/-! ### x in y: a dict's key; flat items; nested data in a list -/
def flatP : PV → Bool
  | .non => true
  | .bl _ => true
  | .int _ => true
  | .str _ => true
  | _ => false
def eqP : PV → PV → Bool
  | .non, .non => true
  | .bl a, .bl b => a == b
  | .bl a, .int b => (if a then 1 else 0) == b
  | .int a, .bl b => a == (if b then 1 else 0)
  | .int a, .int b => a == b
  | .str a, .str b => a == b
  | _, _ => false
def flatsP : List PV → Bool
  | [] => true
  | v :: vs => flatP v && flatsP vs
def anyP (x : PV) : List PV → Bool
  | [] => false
  | v :: vs => eqP v x || anyP x vs
def memP (S : Store) (x y : PV) : Option Bool := match deref S y with
  | some (.dct ks vs) => match keyOf x with
    | some q => match dGet ks vs q with
      | some o => some o.isSome
      | none => none
    | none => none
  | _ => match itemsOf S y with
    | some ys => if flatP x && flatsP ys then some (anyP x ys) else match toD S 6 x with
      | some d => match toD S 6 y with
        | some (.list ds) => some (ds.any fun z => PyData.eqv z d)
        | some (.tuple ds) => some (ds.any fun z => PyData.eqv z d)
        | _ => none
      | none => none
    | none => none
def oIn : Op2 := fun x y S => (memP S x y).map fun b => (false, .bl b)
def oNotIn : Op2 := fun x y S => (memP S x y).map fun b => (false, .bl (!b))
section
variable {X : Cx} {G : Gam} {n0 : Nat} {g : Gh} {F : Hp} {r : List Addr} {S : Store} {H : Hp}
theorem flat_ok {v : PV} {u : V} (q : RV G F r v u) (h : flatP v = true) : flatV u = true := by
  cases v <;> first | (cases q; rfl) | cases h
theorem flats_ok : ∀ {vs : List PV} {us : List V}, RVs G F r vs us → flatsP vs = true → us.all flatV = true
  | [], us, q, _ => by
    cases (show us = [] from q)
    rfl
  | v :: vs, us, q, h => by
    obtain ⟨u, ur, rfl, k, l⟩ := q
    simp only [flatsP, Bool.and_eq_true] at h
    rw [List.all_cons, flat_ok k h.1, flats_ok l h.2]
    rfl
theorem eqP_ok {v w : PV} {u y : V} (q : RV G F r v u) (k : RV G F r w y) (h : flatP v = true) (h2 : flatP w = true) : eqP v w = eqV u y := by
  cases v <;> cases w <;> first | (cases q; cases k; rfl) | (simp [flatP] at h; done) | (simp [flatP] at h2; done)
theorem anyP_ok {x : PV} {y : V} (q : RV G F r x y) (h : flatP x = true) : ∀ {vs : List PV} {us : List V}, RVs G F r vs us → flatsP vs = true → anyP x vs = inV y us
  | [], us, k, _ => by
    cases (show us = [] from k)
    rfl
  | v :: vs, us, k, h2 => by
    obtain ⟨u, ur, rfl, k1, k2⟩ := k
    simp only [flatsP, Bool.and_eq_true] at h2
    show (eqP v x || anyP x vs) = (eqV u y || inV y ur)
    rw [eqP_ok k1 q h2.1 h, anyP_ok q h k2 h2.2]
def rInG (K : PySem.W.Frag) (f : Bool → Bool) : R2 := fun x y H Q => (∃ a o, y = .ref a ∧ DGet H a x o ∧ Q (.bl (f o.isSome)) H) ∨ (∃ p xs, y = .ref p ∧ (SqL K H p xs ∨ SqT K H p xs) ∧ flatV x = true ∧ xs.all flatV = true ∧ Q (.bl (f (inV x xs))) H) ∨
  (∃ d ds, Dp K H x d ∧ Dp K H y (.list ds) ∧ SeqAt.shaped d = true ∧ SeqAt.shaped (.list ds) = true ∧ Q (.bl (f (ds.any fun z => PyData.eqv z d))) H) ∨
  ∃ d ds, Dp K H x d ∧ Dp K H y (.tuple ds) ∧ SeqAt.shaped d = true ∧ SeqAt.shaped (.tuple ds) = true ∧ Q (.bl (f (ds.any fun z => PyData.eqv z d))) H
theorem canT {ds : List PyData} (h : SeqAt.shaped (.tuple ds) = true) : PyData.canLayAll0 ds = true := SeqAt.canLay_of_shaped h
theorem roomT {n : Nat} {ds : List PyData} {d : PyData} (h : SeqAt.shaped d = true) (hu : n + 65 < cLine) : n + 1 + min (PyData.depthAll ds) d.depth < cLine := by
  have h2 : d.depth ≤ 64 := by
    unfold SeqAt.shaped at h
    simp only [Bool.and_eq_true, decide_eq_true_eq] at h
    exact h.2
  omega
theorem op_inG (hu : X.A.units + 65 < cLine) : OpR X (compareOp .In) (rInG X.K fun b => b) := by
  intro pins s σ H x y v u Q I rx ry h
  rcases h with ⟨a, o, rfl, g, q⟩ | h | h | h
  · obtain rfl : u = Value.ref a := ry
    exact d_in (by omega) I g rx fun s3 I3 => ⟨.bl o.isSome, H, I3, rfl, q⟩
  · obtain ⟨p, xs, rfl, hq, fx, fs, q⟩ := h
    exact op_in_seq pins s σ H x _ v u Q I rx ry ⟨p, xs, rfl, hq, fx, fs, q⟩
  · exact op_inD hu pins s σ H x y v u Q I rx ry h
  · obtain ⟨d, ds, hd, he, sd, se, q⟩ := h
    obtain ⟨as, r1⟩ := Dp.reads I d x v hd rx
    obtain ⟨bs, r2⟩ := Dp.reads I (.tuple ds) y u he ry
    exact SeqAt.in_tuple_reads r2 r1 (canT se) (SeqAt.canLay_of_shaped sd) (roomT sd hu) ⟨.bl _, H, I, rfl, q⟩
theorem op_notInG (hu : X.A.units + 65 < cLine) : OpR X (compareOp .NotIn) (rInG X.K fun b => !b) := by
  intro pins s σ H x y v u Q I rx ry h
  rcases h with ⟨a, o, rfl, g, q⟩ | h | h | h
  · obtain rfl : u = Value.ref a := ry
    exact d_notIn (by omega) I g rx fun s3 I3 => ⟨.bl (!o.isSome), H, I3, rfl, q⟩
  · obtain ⟨p, xs, rfl, hq, fx, fs, q⟩ := h
    exact op_notIn_seq pins s σ H x _ v u Q I rx ry ⟨p, xs, rfl, hq, fx, fs, q⟩
  · exact op_notInD hu pins s σ H x y v u Q I rx ry h
  · obtain ⟨d, ds, hd, he, sd, se, q⟩ := h
    obtain ⟨as, r1⟩ := Dp.reads I d x v hd rx
    obtain ⟨bs, r2⟩ := Dp.reads I (.tuple ds) y u he ry
    exact SeqAt.notIn_tuple_reads r2 r1 (canT se) (SeqAt.canLay_of_shaped sd) (roomT sd hu) ⟨.bl _, H, I, rfl, q⟩
theorem memP_ok (h : HR G n0 g F r S H) {x y : PV} {u v : V} {b : Bool} {f : Bool → Bool} {Q : VK} (q1 : RV G F r x u) (q2 : RV G F r y v) (e : memP S x y = some b) (k : Q (.bl (f b)) H) : rInG G.K f u v H Q := by
  unfold memP at e
  split at e
  · rename_i ks vs ed
    cases ek : keyOf x with
    | none => simp only [ek] at e; cases e
    | some q =>
      simp only [ek] at e
      cases eg : dGet ks vs q with
      | none => simp only [eg] at e; cases e
      | some o =>
        simp only [eg] at e
        cases e
        obtain ⟨a, o', rfl, gd, oo⟩ := dGet_ok h q2 ed q1 ek eg
        refine .inl ⟨a, o', rfl, gd, ?_⟩
        have : o'.isSome = o.isSome := by
          cases o with
          | none => rw [show o' = none from oo]; rfl
          | some w => obtain ⟨y, rfl, _⟩ := oo; rfl
        rw [this]
        exact k
  · cases ei : itemsOf S y with
    | none => simp only [ei] at e; cases e
    | some ys =>
      simp only [ei] at e
      split at e
      · rename_i hf
        cases e
        simp only [Bool.and_eq_true] at hf
        obtain ⟨a, us, rfl, hs, rv⟩ := view_seq h q2 ei
        exact .inr (.inl ⟨a, us, rfl, hs, flat_ok q1 hf.1, flats_ok rv hf.2, by rw [← anyP_ok q1 hf.1 rv hf.2]; exact k⟩)
      · cases e1 : toD S 6 x with
        | none => simp only [e1] at e; cases e
        | some d =>
          simp only [e1] at e
          cases e2 : toD S 6 y with
          | none => simp only [e2] at e; cases e
          | some d' =>
            simp only [e2] at e
            split at e
            · rename_i ds eds
              cases eds
              cases e
              obtain ⟨a1, a2, a3⟩ := toD_ok h 6 x u d q1 e1
              obtain ⟨b1, b2, b3⟩ := toD_ok h 6 y v _ q2 e2
              exact .inr (.inr (.inl ⟨d, ds, a1, b1, toD_shaped a2 a3 (by decide), toD_shaped b2 b3 (by decide), k⟩))
            · rename_i ds eds
              cases eds
              cases e
              obtain ⟨a1, a2, a3⟩ := toD_ok h 6 x u d q1 e1
              obtain ⟨b1, b2, b3⟩ := toD_ok h 6 y v _ q2 e2
              exact .inr (.inr (.inr ⟨d, ds, a1, b1, toD_shaped a2 a3 (by decide), toD_shaped b2 b3 (by decide), k⟩))
            · cases e
theorem ok_in : Ok2 G oIn (rInG G.K fun b => b) := fun n0 g F r S H x y u v z Q h q1 q2 e k => by
  unfold oIn at e
  cases em : memP S x y with
  | none => rw [em] at e; cases e
  | some b =>
    rw [em] at e
    cases e
    exact memP_ok (f := fun b => b) h q1 q2 em (k F r H _ (.refl F r) h rfl)
theorem ok_notIn : Ok2 G oNotIn (rInG G.K fun b => !b) := fun n0 g F r S H x y u v z Q h q1 q2 e k => by
  unfold oNotIn at e
  cases em : memP S x y with
  | none => rw [em] at e; cases e
  | some b =>
    rw [em] at e
    cases e
    exact memP_ok (f := fun b => !b) h q1 q2 em (k F r H _ (.refl F r) h rfl)
theorem units65 {cf : CF} {k : Nat} (T : Tb X G cf k) : X.A.units + 65 < cLine := by
  have := T.room.un
  omega
end
end PX
set_option Elab.async false
set_option linter.all false
set_option maxRecDepth 100000
set_option maxHeartbeats 2000000
/-! list(zip(a, b)) -/
namespace ZG
open PySem RZ
section
variable {prog : Program} {w : World} {A : Around} {E : Value → Shared → Prop} {s : Shared}
theorem zipG_item_held {b1 b2 : Bool} {z TI TO T i1 i2 l1 l2 : Addr} {f : Bool} {oT : Obj} {k1 k2 : Nat} {xs ys : Array Value} {x y : Value} {Q : Value → Shared → Prop} (D : ZipApart z TI TO i1 i2 l1 l2)
    (hz : IsZipHeld s.heap z TI TO T f) (hT : s.heap.get? T = some oT) (hTI : IsPair s.heap TI (.ref i1) (.ref i2))
    (h1 : SqIt b1 s.heap i1 l1 k1) (h2 : SqIt b2 s.heap i2 l2 k2) (hl1 : SqOb b1 s.heap l1 xs) (hl2 : SqOb b2 s.heap l2 ys) (hx : xs[k1]? = some x) (hy : ys[k2]? = some y)
    (hQ : ∀ h', IsZipHeld h' z TI TO T true → SqIt b1 h' i1 l1 (k1 + 1) → SqIt b2 h' i2 l2 (k2 + 1) → IsPair h' s.heap.objs.size x y → h'.objs.size = s.heap.objs.size + 1 →
      (∀ c o, c ≠ z → c ≠ i1 → c ≠ i2 → s.heap.get? c = some o → h'.get? c = some o) → Q (.ref s.heap.objs.size) { s with heap := h' }) :
    wpAny (model prog w) A (Builtin.«zip.__next__» ⟨[.ref z], []⟩) (fun fin s' => ∃ v, fin = .done (.ret v) ∧ Q v s') E s := by
  show wpAny _ _ (field (.ref z) 2 >>= _) _ _ _
  refine wpAny_bind (wpAny_field hz rfl (x := .bool false) rfl ?_)
  show wpAny _ _ (field (.ref z) 3 >>= _) _ _ _
  refine wpAny_bind (wpAny_field hz rfl (x := .ref TI) rfl ?_)
  refine wpAny_bind (wpAny_seqItems hTI rfl ?_)
  show wpAny _ _ (Builtin.SmallTypes.ownedTupleIsFree (.ref z) >>= _) _ _ _
  refine wpAny_bind (wpAny_tupleHeld_zip hz hT fun h₁ hz₁ hs₁ => ?_)
  simp only [Bool.false_eq_true, if_false]
  refine wpAny_bind ?_
  rw [← Array.forIn_toList]
  simp only [List.forIn_cons, List.forIn_nil]
  refine wpAny_bind (wpAny_bind (wpAny_holding ?_))
  show wpAny _ _ (Builtin.SmallTypes.nextOf (.ref i1) >>= _) _ _ _
  refine wpAny_bind (nextOf_item (s := { s with heap := h₁ }) (h1.extBut hs₁.extBut D.i1z) (hl1.extBut hs₁.extBut D.l1z) hx fun h₂ h1₂ hs₂ => wpAny_pure ?_)
  refine wpAny_pure ?_
  refine wpAny_bind (wpAny_bind (wpAny_holding ?_))
  show wpAny _ _ (Builtin.SmallTypes.nextOf (.ref i2) >>= _) _ _ _
  refine wpAny_bind (nextOf_item (s := { s with heap := h₂ }) ((h2.extBut hs₁.extBut D.i2z).extBut hs₂.extBut D.i12.symm) ((hl2.extBut hs₁.extBut D.l2z).extBut hs₂.extBut D.l2i1) hy fun h₃ h2₃ hs₃ => wpAny_pure ?_)
  refine wpAny_pure (wpAny_pure ?_)
  show wpAny _ _ (newTuple [x, y] >>= _) _ _ _
  refine wpAny_bind (wpAny_newTuple ?_)
  have hsz : h₃.objs.size = s.heap.objs.size := by rw [hs₃.1, hs₂.1, hs₁.1]
  have hz₃ : IsZipHeld h₃ z TI TO T true := hs₃.extBut _ _ D.i2z.symm (hs₂.extBut _ _ D.i1z.symm hz₁)
  have hk : ∀ c o, c ≠ z → c ≠ i1 → c ≠ i2 → s.heap.get? c = some o → h₃.get? c = some o := fun c o c1 c2 c3 e => hs₃.extBut _ _ c3 (hs₂.extBut _ _ c2 (hs₁.extBut _ _ c1 e))
  have h1₃ : SqIt b1 h₃ i1 l1 (k1 + 1) := h1₂.extBut hs₃.extBut D.i12
  refine wpAny_pure ⟨_, rfl, ?_⟩
  show Q (.ref h₃.objs.size) _
  have hp : IsPair (h₃.push { cls := .type "tuple", data := .seq #[x, y] }) h₃.objs.size x y := Heap.get?_push_size _ rfl
  have hz4 : (h₃.push { cls := .type "tuple", data := .seq #[x, y] }).objs.size = h₃.objs.size + 1 := Heap.size_push ..
  rw [hsz] at hp hz4 ⊢
  exact hQ _ (Heap.get?_push_of_some _ hz₃) (h1₃.at_ fun o e => Heap.get?_push_of_some _ e) (h2₃.at_ fun o e => Heap.get?_push_of_some _ e) hp hz4 fun c o c1 c2 c3 e => Heap.get?_push_of_some _ (hk c o c1 c2 c3 e)

theorem zipG_end_held {b1 b2 : Bool} {z TI TO T i1 i2 l1 l2 : Addr} {f : Bool} {oT : Obj} {k1 k2 : Nat} {xs ys : Array Value} {Q : Fin → Shared → Prop} (hh : A.handled = none) (D : ZipApart z TI TO i1 i2 l1 l2)
    (hz : IsZipHeld s.heap z TI TO T f) (hT : s.heap.get? T = some oT) (hTI : IsPair s.heap TI (.ref i1) (.ref i2))
    (h1 : SqIt b1 s.heap i1 l1 k1) (h2 : SqIt b2 s.heap i2 l2 k2) (hl1 : SqOb b1 s.heap l1 xs) (hl2 : SqOb b2 s.heap l2 ys) (hend : xs[k1]? = none ∨ ys[k2]? = none)
    (hE : ∀ h' e, (∀ c o, c ≠ z → c ≠ i1 → c ≠ i2 → s.heap.get? c = some o → h'.get? c = some o) → (∃ o, h'.get? e = some o ∧ o.cls = .type "StopIteration") → E (.ref e) { s with heap := h' }) :
    wpAny (model prog w) A (Builtin.«zip.__next__» ⟨[.ref z], []⟩) Q E s := by
  show wpAny _ _ (field (.ref z) 2 >>= _) _ _ _
  refine wpAny_bind (wpAny_field hz rfl (x := .bool false) rfl ?_)
  show wpAny _ _ (field (.ref z) 3 >>= _) _ _ _
  refine wpAny_bind (wpAny_field hz rfl (x := .ref TI) rfl ?_)
  refine wpAny_bind (wpAny_seqItems hTI rfl ?_)
  show wpAny _ _ (Builtin.SmallTypes.ownedTupleIsFree (.ref z) >>= _) _ _ _
  refine wpAny_bind (wpAny_tupleHeld_zip hz hT fun h₁ hz₁ hs₁ => ?_)
  simp only [Bool.false_eq_true, if_false]
  refine wpAny_bind ?_
  rw [← Array.forIn_toList]
  simp only [List.forIn_cons, List.forIn_nil]
  refine wpAny_bind (wpAny_bind (wpAny_holding ?_))
  show wpAny _ _ (Builtin.SmallTypes.nextOf (.ref i1) >>= _) _ _ _
  cases hx : xs[k1]? with
  | none =>
    refine wpAny_bind (nextOf_end (s := { s with heap := h₁ }) hh (h1.extBut hs₁.extBut D.i1z) (hl1.extBut hs₁.extBut D.l1z) hx fun h₂ e hs₂ he => ?_)
    exact hE h₂ e (fun c o c1 c2 _ x => hs₂ _ _ c2 (hs₁.extBut _ _ c1 x)) he
  | some x =>
    have hy : ys[k2]? = none := by rcases hend with h | h; rw [hx] at h; cases h; exact h
    refine wpAny_bind (nextOf_item (s := { s with heap := h₁ }) (h1.extBut hs₁.extBut D.i1z) (hl1.extBut hs₁.extBut D.l1z) hx fun h₂ h1₂ hs₂ => wpAny_pure ?_)
    refine wpAny_pure ?_
    refine wpAny_bind (wpAny_bind (wpAny_holding ?_))
    show wpAny _ _ (Builtin.SmallTypes.nextOf (.ref i2) >>= _) _ _ _
    refine wpAny_bind (nextOf_end (s := { s with heap := h₂ }) hh ((h2.extBut hs₁.extBut D.i2z).extBut hs₂.extBut D.i12.symm) ((hl2.extBut hs₁.extBut D.l2z).extBut hs₂.extBut D.l2i1) hy fun h₃ e hs₃ he => ?_)
    exact hE h₃ e (fun c o c1 c2 c3 x => hs₃ _ _ c3 (hs₂.extBut _ _ c2 (hs₁.extBut _ _ c1 x))) he

theorem pyNext_zipG_item_held {b1 b2 : Bool} {z TI TO T i1 i2 l1 l2 : Addr} {f : Bool} {oT : Obj} {k1 k2 : Nat} {xs ys : Array Value} {x y : Value} {Q : Option Value → Shared → Prop} (D : ZipApart z TI TO i1 i2 l1 l2)
    (hz : IsZipHeld s.heap z TI TO T f) (hT : s.heap.get? T = some oT) (hTI : IsPair s.heap TI (.ref i1) (.ref i2))
    (h1 : SqIt b1 s.heap i1 l1 k1) (h2 : SqIt b2 s.heap i2 l2 k2) (hl1 : SqOb b1 s.heap l1 xs) (hl2 : SqOb b2 s.heap l2 ys) (hx : xs[k1]? = some x) (hy : ys[k2]? = some y)
    (hQ : ∀ h', IsZipHeld h' z TI TO T true → SqIt b1 h' i1 l1 (k1 + 1) → SqIt b2 h' i2 l2 (k2 + 1) → IsPair h' s.heap.objs.size x y → h'.objs.size = s.heap.objs.size + 1 →
      (∀ c o, c ≠ z → c ≠ i1 → c ≠ i2 → s.heap.get? c = some o → h'.get? c = some o) → Q (some (.ref s.heap.objs.size)) { s with heap := h' }) :
    wpAny (model prog w) A (pyNext (.ref z)) Q E s := by
  have hTy : s.TypeIs (.ref z) "zip" := ⟨_, hz, rfl⟩
  unfold pyNext
  exact wpAny_bind (wpAny_attempt (wpAny_callSpecial?_slot (name := Str.ofString "__next__") hTy F.slot_zip_next
    (wpAny_call_entry F.slot_zip_next hTy F.entry_zip_next
      (zipG_item_held D hz hT hTI h1 h2 hl1 hl2 hx hy fun h' a1 a3 a4 a5 a6 a7 => wpAny_pure (hQ h' a1 a3 a4 a5 a6 a7)) (F.args_zip_next_1 _))))
theorem pyNext_zipG_end_held {b1 b2 : Bool} {z TI TO T i1 i2 l1 l2 : Addr} {f : Bool} {oT : Obj} {k1 k2 : Nat} {xs ys : Array Value} {Q : Option Value → Shared → Prop} (hh : A.handled = none) (D : ZipApart z TI TO i1 i2 l1 l2)
    (hz : IsZipHeld s.heap z TI TO T f) (hT : s.heap.get? T = some oT) (hTI : IsPair s.heap TI (.ref i1) (.ref i2))
    (h1 : SqIt b1 s.heap i1 l1 k1) (h2 : SqIt b2 s.heap i2 l2 k2) (hl1 : SqOb b1 s.heap l1 xs) (hl2 : SqOb b2 s.heap l2 ys) (hend : xs[k1]? = none ∨ ys[k2]? = none)
    (hQ : ∀ h', (∀ c o, c ≠ z → c ≠ i1 → c ≠ i2 → s.heap.get? c = some o → h'.get? c = some o) → Q none { s with heap := h' }) : wpAny (model prog w) A (pyNext (.ref z)) Q E s := by
  have hTy : s.TypeIs (.ref z) "zip" := ⟨_, hz, rfl⟩
  unfold pyNext
  refine wpAny_bind (wpAny_attempt (wpAny_callSpecial?_slot (name := Str.ofString "__next__") hTy F.slot_zip_next
    (wpAny_call_entry F.slot_zip_next hTy F.entry_zip_next (zipG_end_held hh D hz hT hTI h1 h2 hl1 hl2 hend fun h' e hk he => ?_) (F.args_zip_next_1 _))))
  obtain ⟨o, ho, hc⟩ := he
  refine wpAny_bind (wpAny_isInstance (T := "StopIteration") (b := true) ⟨o, ho, hc⟩ isSubtype_stop ?_)
  exact wpAny_pure (hQ _ hk)

end
theorem zip_no_len : typeLookup (.type "zip") "__len__" = pure none := am_miss_of_fast (by decide +kernel)
theorem zip_no_hint : typeLookup (.type "zip") "__length_hint__" = pure none := am_miss_of_fast (by decide +kernel)
end ZG
namespace PX
open PySem PySem.Spec PyProof.Rows L2 ZG
/-- the zip, its last pair perhaps still held -/
def ZSt (H : Hp) (h : Heap) (z TI TO : Addr) : Prop := (∃ x y, IsPair h TO x y) ∧ (IsZip h z TI TO .none ∨ ∃ T f us, IsZipHeld h z TI TO T f ∧ H T = some (.tup us))
theorem SqG.le {K : PySem.W.Frag} {b : Bool} {H H' : Hp} {a : Addr} {xs : List V} (q : SqG b K H a xs) (k : Le H H') : SqG b K H' a xs := by
  cases b with
  | true => exact k.sqT q
  | false => exact k.sqL q
structure ZDone (H0 H' : Hp) (S : Addr) (xs ys : List V) (ts : List Addr) : Prop where
  keep : ∀ c o, H0 c = some o → H' c = some o
  new : H0 S = none
  lst : H' S = some (.lst (ts.map V.ref))
  len : ts.length = min xs.length ys.length
  tup : ∀ (k : Nat) t, ts[k]? = some t → ∃ x y, xs[k]? = some x ∧ ys[k]? = some y ∧ H' t = some (.tup [x, y]) ∧ H0 t = none
section
variable {X : Cx} {pins : List (Addr × Obj)} {σ : L2.St}
theorem drainZ {A : Around} {R : Result → Shared → Prop} {b1 b2 : Bool} {a b z TI TO i1 i2 S : Addr} {xs ys : List V} {res : Value} {H0 : Hp} (hh : A.handled = none) (D : ZipApart z TI TO i1 i2 a b) (hS : S ∉ [z, TI, TO, i1, i2]) (hn : xs.length ≤ 1000000) (h0 : H0 S = none) (hqx0 : SqG b1 X.K H0 a xs) (hqy0 : SqG b2 X.K H0 b ys)
    (hR : ∀ s' H' ts, Inv X pins σ H' s' → ZDone H0 H' S xs ys ts → R (.ok (.ret res)) s') :
    ∀ (m : Nat) (s : Shared) (H : Hp) (ts : List Addr), min xs.length ys.length - ts.length = m → ts.length ≤ min xs.length ys.length → Inv X pins σ H s → (∀ c ∈ [z, TI, TO, i1, i2], FpOk X pins H c) → ZSt H s.heap z TI TO → IsPair s.heap TI (.ref i1) (.ref i2) →
      SqIt b1 s.heap i1 a ts.length → SqIt b2 s.heap i2 b ts.length → H S = some (.lst (ts.map V.ref)) → (∀ c o, H0 c = some o → H c = some o) →
      (∀ (k : Nat) t, ts[k]? = some t → ∃ x y, xs[k]? = some x ∧ ys[k]? = some y ∧ H t = some (.tup [x, y]) ∧ H0 t = none) →
      codeAny (model X.prog X.w) A (.builtin "list.extend.loop" ⟨[.ref S, .ref z, res], []⟩) R s := by
  intro m
  induction m with
  | zero =>
    intro s H ts hm hl I hf hz hTI h1 h2 hS' hk ht
    have hqx := hqx0.le hk
    have hqy := hqy0.le hk
    refine codeAny_builtin F.entry_extend_loop ?_
    rw [Around.under_plainId F.plain_extend_loop _]
    show wpAny _ A.in1 (pyNext (.ref z) >>= _) _ _ s
    obtain ⟨its, rv, p, _⟩ := Inv.sqG I hqx
    obtain ⟨its2, rv2, p2, _⟩ := Inv.sqG I hqy
    have l1 := rv.length
    have l2 := rv2.length
    have he : its.toArray[ts.length]? = none ∨ its2.toArray[ts.length]? = none := by
      simp only [List.getElem?_toArray, List.getElem?_eq_none_iff]
      omega
    have fin : ∀ h', (∀ c o, c ∉ [z, TI, TO, i1, i2] → s.heap.get? c = some o → h'.get? c = some o) → R (.ok (.ret res)) { s with heap := h' } := fun h' hk' =>
      hR _ H ts (I.turnedL (t' := s.toks) (ch := [z, TI, TO, i1, i2]) hk' hf) ⟨hk, h0, hS', by omega, ht⟩
    obtain ⟨⟨x0, y0, hTO⟩, hz | ⟨T, f, us, hz, hT⟩⟩ := hz
    · exact wpAny_bind (pyNext_zipG_end hh D hz hTI hTO h1 h2 p p2 he fun h' hk' => wpAny_pure (fin h' fun c o hb q => hk' c o (fun q' => hb (by simp [q'])) (fun q' => hb (by simp [q'])) (fun q' => hb (by simp [q'])) (fun q' => hb (by simp [q'])) q))
    · obtain ⟨_, oT⟩ := (I.hok T _ hT)
      obtain ⟨itsT, _, ⟨oo, hoo, _⟩⟩ := oT
      exact wpAny_bind (pyNext_zipG_end_held hh D hz hoo hTI h1 h2 p p2 he fun h' hk' => wpAny_pure (fin h' fun c o hb q => hk' c o (fun q' => hb (by simp [q'])) (fun q' => hb (by simp [q'])) (fun q' => hb (by simp [q'])) q))
  | succ m ih =>
    intro s H ts hm hl I hf hz hTI h1 h2 hS' hk ht
    have hqx := hqx0.le hk
    have hqy := hqy0.le hk
    refine codeAny_builtin F.entry_extend_loop ?_
    rw [Around.under_plainId F.plain_extend_loop _]
    show wpAny _ A.in1 (pyNext (.ref z) >>= _) _ _ s
    obtain ⟨its, rv, p, _⟩ := Inv.sqG I hqx
    obtain ⟨its2, rv2, p2, _⟩ := Inv.sqG I hqy
    have l1 := rv.length
    have l2 := rv2.length
    have hx0 : ts.length < xs.length := by omega
    have hy0 : ts.length < ys.length := by omega
    have hx : xs[ts.length]? = some xs[ts.length] := List.getElem?_eq_getElem hx0
    have hy : ys[ts.length]? = some ys[ts.length] := List.getElem?_eq_getElem hy0
    obtain ⟨u, hu, ru⟩ := rv.get hx
    obtain ⟨u2, hu2, ru2⟩ := rv2.get hy
    have fpl : ∀ c ∈ [z, TI, TO, i1, i2], H c = none := fun c hc => (hf c hc).1
    obtain ⟨⟨x0, y0, hTO⟩, hz⟩ := hz
    have hzl : z < s.heap.objs.size := by
      rcases hz with hz | ⟨T, f, us, hz, _⟩
      · exact Heap.lt_size hz
      · exact Heap.lt_size hz
    -- behind the pair
    have step : ∀ h', (∃ x y, IsPair h' TO x y) → (IsZipHeld h' z TI TO s.heap.objs.size false ∨ (∃ T f us, IsZipHeld h' z TI TO T f ∧ H T = some (.tup us))) → SqIt b1 h' i1 a (ts.length + 1) → SqIt b2 h' i2 b (ts.length + 1) → IsPair h' s.heap.objs.size u u2 → h'.objs.size = s.heap.objs.size + 1 →
        (∀ c o, c ∉ [z, TO, i1, i2] → s.heap.get? c = some o → h'.get? c = some o) → wpAny (model X.prog X.w) A.in1 (updateSeq S (·.push (.ref s.heap.objs.size)) >>= fun _ => again (.builtin "list.extend.loop" ⟨[.ref S, .ref z, res], []⟩))
          (fun fin s' => match fin with | .done f => R (.ok f) s' | .again c' => c'.quiet = true ∧ codeAny (model X.prog X.w) A c' R s') (fun e s' => R (.error e) s') { s with heap := h' } := by
      intro h' hTO' hz' h1' h2' hT hsz hk'
      have hTn : H s.heap.objs.size = none := I.hok.fresh (Nat.le_refl _)
      have new : ObjOk X.prog X.w (upd H s.heap.objs.size (.tup [xs[ts.length], ys[ts.length]])) h' s.heap.objs.size (.tup [xs[ts.length], ys[ts.length]]) :=
        ⟨by show 2 ≤ sizeLine; decide, [u, u2], .cons ru (.cons ru2 .nil), ⟨_, hT, rfl, _, rfl⟩⟩
      have I1 : Inv X pins σ (upd H s.heap.objs.size (.tup [xs[ts.length], ys[ts.length]])) { s with heap := h' } :=
        I.turnedNew (t' := s.toks) (ch := [z, TI, TO, i1, i2]) (fun c o hb q => hk' c o (fun z => hb (by simp only [List.mem_cons, List.not_mem_nil, or_false] at z ⊢; rcases z with z | z | z | z <;> simp [z])) q) hf (Nat.le_refl _) new
      have hST : S ≠ s.heap.objs.size := fun e => by rw [e, hTn] at hS'; cases hS'
      have hS1 : (upd H s.heap.objs.size (.tup [xs[ts.length], ys[ts.length]])) S = some (.lst (ts.map V.ref)) := by rw [upd_ne hST]; exact hS'
      obtain ⟨z1, itsS, n, rS, hlS, eS⟩ := I1.lstM hS1
      have hits : itsS.length ≤ 1000000 := by
        rw [← rS.length, List.length_map]; omega
      refine wpAny_bind (wpAny_updateSeq eS rfl (wpAny_pure ⟨plainId_quiet F.plain_extend_loop _, ?_⟩) (by rw [List.size_toArray, sizeLine_eq]; omega) (by show (itsS.toArray.push _).size ≤ sizeLine + 1; rw [Array.size_push, List.size_toArray, sizeLine_eq]; omega))
      have I2 := I1.lset (its' := itsS ++ [.ref s.heap.objs.size]) (ys := (ts ++ [s.heap.objs.size]).map V.ref) (f := (·.push (.ref s.heap.objs.size))) (t' := s.toks) hS1 eS (by simp) (by rw [List.map_append]; exact rS.append (.cons rfl .nil)) (by rw [List.length_map, List.length_append, List.length_singleton, sizeLine_eq]; omega)
      have hne : ∀ {c : Addr}, c ∈ [z, TI, TO, i1, i2] → c ≠ s.heap.objs.size ∧ c ≠ S := fun {c} hc => ⟨fun e => by
        have hlt : c < s.heap.objs.size := by
          simp only [List.mem_cons, List.not_mem_nil, or_false] at hc
          rcases hc with q | q | q | q | q
          · rw [q]; exact hzl
          · rw [q]; exact Heap.lt_size hTI
          · rw [q]
            exact Heap.lt_size hTO
          · rw [q]; exact h1.lt
          · rw [q]; exact h2.lt
        exact absurd hlt (by rw [e]; exact Nat.lt_irrefl _), fun e => hS (e ▸ hc)⟩
      have ot : ∀ c o, c ≠ S → h'.get? c = some o → (h'.update S (Obj.mapSeq (·.push (.ref s.heap.objs.size)))).get? c = some o := fun c o hc e => (Heap.get?_update_other _ _ (Ne.symm hc)).trans e
      have oc : ∀ {c : Addr} {o : HO}, H c = some o → c ≠ S → (upd (upd H s.heap.objs.size (.tup [xs[ts.length], ys[ts.length]])) S (.lst ((ts ++ [s.heap.objs.size]).map V.ref))) c = some o := fun {c o} e hc => by
        rw [upd_ne hc, upd_ne (fun q => by rw [q, hTn] at e; cases e)]
        exact e
      refine ih _ _ (ts ++ [s.heap.objs.size]) (by rw [List.length_append, List.length_singleton]; omega) (by rw [List.length_append, List.length_singleton]; omega) I2 (fun c hc => ⟨?_, (hf c hc).2⟩) ⟨?_, ?_⟩ ?_ ?_ ?_ upd_same (fun c o e => ?_) (fun k t e => ?_)
      · rw [upd_ne (hne hc).2, upd_ne (hne hc).1]
        exact (hf c hc).1
      · obtain ⟨x1, y1, e⟩ := hTO'
        exact ⟨x1, y1, ot _ _ (hne (c := TO) (by simp)).2 e⟩
      · rcases hz' with e | ⟨T, f, us, e, eT⟩
        · exact .inr ⟨_, false, _, ot _ _ (hne (c := z) (by simp)).2 e, by rw [upd_ne (Ne.symm hST)]; exact upd_same⟩
        · exact .inr ⟨T, f, us, ot _ _ (hne (c := z) (by simp)).2 e, oc eT fun q => by rw [q, hS'] at eT; cases eT⟩
      · exact ot _ _ (hne (c := TI) (by simp)).2 (hk' _ _ (fun q => by simp only [List.mem_cons, List.not_mem_nil, or_false] at q; rcases q with q | q | q | q <;> first | exact D.TIz q | exact D.TITO q | exact D.TIi1 q | exact D.TIi2 q) hTI)
      · rw [List.length_append, List.length_singleton]
        exact h1'.at_ fun o e => ot _ _ (hne (c := i1) (by simp)).2 e
      · rw [List.length_append, List.length_singleton]
        exact h2'.at_ fun o e => ot _ _ (hne (c := i2) (by simp)).2 e
      · exact oc (hk c o e) fun q => by rw [q, h0] at e; cases e
      · by_cases hkl : k < ts.length
        · rw [List.getElem?_append_left hkl] at e
          obtain ⟨x1, y1, e1, e2, e3, e4⟩ := ht k t e
          exact ⟨x1, y1, e1, e2, oc e3 (fun q => by rw [q, hS'] at e3; cases e3), e4⟩
        · have hlt := (List.getElem?_eq_some_iff.mp e).1
          rw [List.length_append, List.length_singleton] at hlt
          have hkk : k = ts.length := by omega
          subst hkk
          rw [List.getElem?_append_right (Nat.le_refl _), Nat.sub_self] at e
          cases e
          refine ⟨_, _, hx, hy, by rw [upd_ne (Ne.symm hST)]; exact upd_same, ?_⟩
          cases e0 : H0 s.heap.objs.size with
          | none => rfl
          | some o => rw [hk _ _ e0] at hTn; cases hTn
    have hux : its.toArray[ts.length]? = some u := by simpa using hu
    have huy : its2.toArray[ts.length]? = some u2 := by simpa using hu2
    rcases hz with hz | ⟨T, f, us, hz, hT⟩
    · refine wpAny_bind (pyNext_zipG_item D hz hTI hTO h1 h2 p p2 hux huy fun h' a1 a2 a3 a4 a5 a6 a7 => ?_)
      exact step h' ⟨_, _, a2⟩ (.inl a1) a3 a4 a5 a6 fun c o hc e => a7 c o (fun q => hc (by simp [q])) (fun q => hc (by simp [q])) (fun q => hc (by simp [q])) (fun q => hc (by simp [q])) e
    · obtain ⟨_, oT⟩ := (I.hok T _ hT)
      obtain ⟨itsT, _, ⟨oo, hoo, _⟩⟩ := oT
      refine wpAny_bind (pyNext_zipG_item_held D hz hoo hTI h1 h2 p p2 hux huy fun h' a1 a3 a4 a5 a6 a7 => ?_)
      exact step h' ⟨x0, y0, a7 TO _ D.TOz D.TOi1 D.TOi2 hTO⟩ (.inr ⟨T, true, us, a1, hT⟩) a3 a4 a5 a6 fun c o hc e => a7 c o (fun q => hc (by simp [q])) (fun q => hc (by simp [q])) (fun q => hc (by simp [q])) e
/-- list(z) -/
theorem call_list_zip {A : Around} {Q : Value → Shared → Prop} {E : Value → Shared → Prop} {b1 b2 : Bool} {a b z TI TO i1 i2 : Addr} {xs ys : List V} {s : Shared} {H : Hp} (hh : A.handled = none) (D : ZipApart z TI TO i1 i2 a b) (hn : xs.length ≤ 1000000)
    (I : Inv X pins σ H s) (hf : ∀ c ∈ [z, TI, TO, i1, i2], FpOk X pins H c) (hz : IsZip s.heap z TI TO .none) (hTI : IsPair s.heap TI (.ref i1) (.ref i2)) (hTO : ∃ x y, IsPair s.heap TO x y) (h1 : SqIt b1 s.heap i1 a 0) (h2 : SqIt b2 s.heap i2 b 0) (hqx : SqG b1 X.K H a xs) (hqy : SqG b2 X.K H b ys)
    (hQ : ∀ S s' H' ts, Inv X pins σ H' s' → ZDone H H' S xs ys ts → Q (.ref S) s') : wpAny (model X.prog X.w) A (call (.type "list") [.ref z]) Q E s := by
  have hSf : ∀ {c : Addr}, c ∈ [z, TI, TO, i1, i2] → c < s.heap.objs.size := fun {c} hc => by
    simp only [List.mem_cons, List.not_mem_nil, or_false] at hc
    obtain ⟨x0, y0, hTO⟩ := hTO
    rcases hc with q | q | q | q | q
    · rw [q]; exact Heap.lt_size hz
    · rw [q]; exact Heap.lt_size hTI
    · rw [q]; exact Heap.lt_size hTO
    · rw [q]; exact h1.lt
    · rw [q]; exact h2.lt
  have hSn : s.heap.objs.size ∉ [z, TI, TO, i1, i2] := fun hm => Nat.lt_irrefl _ (hSf hm)
  have hSz : s.heap.objs.size ≠ z := fun e => hSn (by simp [e])
  have hS0 : H s.heap.objs.size = none := I.hok.fresh (Nat.le_refl _)
  refine callType_codes (Q₁ := fun obj s₁ => obj = .ref s.heap.objs.size ∧ s₁ = { s with heap := s.heap.push { cls := .type "list", data := .seq #[] } }) F.called_list (F.typeCall_list_1 _) F.entry_list_init
    (code_list_new _ ⟨rfl, rfl⟩) fun obj s₁ h₁ => ?_
  obtain ⟨rfl, rfl⟩ := h₁
  have hS : (s.heap.push { cls := .type "list", data := .seq #[] }).get? s.heap.objs.size = some { cls := .type "list", data := .seq #[] } := Heap.get?_push_size _ rfl
  have I0 : Inv X pins σ (upd H s.heap.objs.size (.lst [])) { s with heap := s.heap.push { cls := .type "list", data := .seq #[] } } := I.lnew (its := []) (t' := s.toks) .nil (Nat.zero_le _)
  refine ⟨⟨_, hS, rfl⟩, F.args_list_init_2 _ _, ?_⟩
  show wpAny _ A.in1.in1 (do let old ← Builtin.List.listItems (.ref s.heap.objs.size); Builtin.List.listUpdate (.ref s.heap.objs.size) (fun _ => #[]); letGo old.toList.reverse; Builtin.List.listExtendWith (.ref s.heap.objs.size) (.ref z) .none) _ _ _
  refine wpAny_bind ?_
  unfold Builtin.List.listItems
  refine wpAny_bind (wpAny_seqItems hS rfl (wpAny_pure ?_))
  show wpAny _ A.in1.in1 (updateSeq s.heap.objs.size (fun _ => #[]) >>= fun _ => letGo (#[] : Array Value).toList.reverse >>= fun _ => Builtin.List.listExtendWith (.ref s.heap.objs.size) (.ref z) .none) _ _ _
  have I1 := I0.lset (its := []) (its' := []) (ys := []) (f := fun _ => (#[] : Array Value)) (t' := s.toks) upd_same hS rfl .nil (Nat.zero_le _)
  refine wpAny_bind (wpAny_updateSeq hS rfl ?_)
  have hS2 := Heap.get?_update_self (Obj.mapSeq (fun _ => (#[] : Array Value))) hS rfl
  refine wpAny_bind (wpAny_letGo ?_)
  unfold Builtin.List.listExtendWith
  have up : ∀ (h : Heap) (f : Obj → Obj), (∀ b o, s.heap.get? b = some o → h.get? b = some o) → ∀ b o, s.heap.get? b = some o → (h.update s.heap.objs.size f).get? b = some o := fun h f q b o e =>
    (Heap.get?_update_other _ _ (Ne.symm (Nat.ne_of_lt (Heap.lt_size e)))).trans (q b o e)
  have k1 : ∀ b o, s.heap.get? b = some o → (s.heap.push { cls := .type "list", data := .seq #[] }).get? b = some o := fun b o e => Heap.get?_push_of_some _ e
  have k2 := up _ (Obj.mapSeq (fun _ => (#[] : Array Value))) k1
  have zty : ∀ {h : Heap}, (∀ b o, s.heap.get? b = some o → h.get? b = some o) → ∀ g d t os, Shared.TypeIs ⟨h, g, d, t, os⟩ (.ref z) "zip" := fun {h} q g d t os => ⟨_, q _ _ hz, rfl⟩
  refine wpAny_bind (wpAny_typeOf (zty k2 _ _ _ _) ?_)
  have e1 : Builtin.List.listSameRef (.ref s.heap.objs.size) (.ref z) = false := by simp [Builtin.List.listSameRef, hSz]
  have e2 : (Value.type "zip" == Value.type "list") = false := by decide
  have e3 : (Value.type "zip" == Value.type "tuple") = false := by decide
  simp only [e1, e2, e3, Bool.or_false, Bool.false_eq_true, if_false]
  refine wpAny_bind (wpAny_pyIter_zip (s := { s with heap := _ }) (k2 _ _ hz) ?_)
  refine wpAny_bind (wpAny_holding ?_)
  unfold Builtin.List.listLengthHint
  refine wpAny_bind (wpAny_specialOf (zty k2 _ _ _ _) zip_no_len ?_)
  show wpAny _ A.in1.in1 (specialOf (Value.ref z) (Str.ofString "__length_hint__") >>= _) _ _ _
  refine wpAny_bind (wpAny_specialOf (zty k2 _ _ _ _) zip_no_hint ?_)
  refine wpAny_pure ?_
  show wpAny _ A.in1.in1 (rule "list.extend.makes-room" >>= fun _ => Builtin.List.listTouch (.ref s.heap.objs.size) >>= fun _ =>
    again (.builtin "list.extend.loop" ⟨[.ref s.heap.objs.size, .ref z, .none], []⟩)) _ _ _
  refine wpAny_bind (wpAny_rule ?_)
  refine wpAny_bind ?_
  show wpAny _ A.in1.in1 (updateSeq s.heap.objs.size (·.push .none) >>= fun _ => updateSeq s.heap.objs.size (·.pop)) _ _ _
  have I2 := I1.lset (its := []) (its' := [.none]) (ys := [.non]) (f := (·.push Value.none)) (t' := s.toks) upd_same hS2 rfl (.cons rfl .nil) (by decide)
  refine wpAny_bind (wpAny_updateSeq hS2 rfl ?_)
  have hS3 := Heap.get?_update_self (Obj.mapSeq (·.push Value.none)) hS2 rfl
  have I3 := I2.lset (its := [.none]) (its' := []) (ys := []) (f := (·.pop)) (t' := s.toks) upd_same hS3 rfl .nil (Nat.zero_le _)
  refine wpAny_updateSeq (hz := by seq_fits) hS3 rfl ?_
  have k4 := up _ (Obj.mapSeq (·.pop)) (up _ (Obj.mapSeq (·.push Value.none)) k2)
  refine wpAny_pure ⟨plainId_quiet F.plain_extend_loop _, ?_⟩
  rw [upd_upd, upd_upd, upd_upd] at I3
  obtain ⟨x0, y0, hTO⟩ := hTO
  refine drainZ (A := A.in1) (b1 := b1) (b2 := b2) (xs := xs) (ys := ys) (H0 := H) hh D hSn hn hS0 hqx hqy (fun s' H' ts I' dn => ⟨rfl, hQ _ s' H' ts I' dn⟩) _ _ (upd H s.heap.objs.size (.lst [])) [] rfl (Nat.zero_le _) I3 (fun c hc => ⟨?_, (hf c hc).2⟩) ⟨⟨x0, y0, k4 _ _ hTO⟩, .inl (k4 _ _ hz)⟩ (k4 _ _ hTI) (h1.at_ fun o e => k4 _ _ e) (h2.at_ fun o e => k4 _ _ e) upd_same (fun c o e => ?_) (fun k t e => by simp at e)
  · have hcs : c ≠ s.heap.objs.size := fun e => by have q := hSf hc; rw [e] at q; exact Nat.lt_irrefl _ q
    rw [upd_ne hcs]
    exact (hf c hc).1
  · rw [upd_ne (fun q => by rw [q, hS0] at e; cases e)]
    exact e
end
/-! the expression -/
def tLz (K : PySem.W.Frag) (ta : TA) : TE := fun σ H Q => ta σ H fun vs H1 => ∃ a b b1 b2 xs ys, vs = [.ref a, .ref b] ∧ SqG b1 K H1 a xs ∧ SqG b2 K H1 b ys ∧ xs.length ≤ 1000000 ∧ ∀ S H' ts, ZDone H1 H' S xs ys ts → Q (.ref S) H'
theorem pe_lz {X : Cx} {e e2 : Expr} {ta : TA} {p p2 pos pos2 : Pos} (hc : X.calm = true) (hl : Gl X "list") (hml : X.mg "list" = none) (hg : Gl X "zip") (hm : X.mg "zip" = none) (ha : PA X [e, e2] ta)
    (hs : starEach [e, e2] X.env = (false, eval e X.env) :: starEach [e2] X.env := by rfl) (hpl : (backTo pos2 (starEach [e2] X.env)).any (·.1) = false := by rfl)
    (na : starEach [.Call (.Name "zip" p2) [e, e2] [] pos2] X.env = (false, eval (.Call (.Name "zip" p2) [e, e2] [] pos2) X.env) :: starEach [] X.env := by rfl) :
    PE X (.Call (.Name "list" p) [.Call (.Name "zip" p2) [e, e2] [] pos2] [] pos) (tLz X.K ta) := by
  refine ⟨fun pins s σ H Q I h => ?_⟩
  refine Call_ (ld_blt I hl hml boot_list (PyProof.Rows.callWith_type1 (PyProof.Rows.args_cons ?_ na) na rfl))
  refine Call_ (ld_blt I hg hm PyProof.Rows.boot_zip (PyProof.Rows.callWith_type1 (thn (ha.run pos2 pins s σ H _ I h) fun us s1 ⟨vs, H1, I1, r1, q1⟩ => ?_) hs hpl))
  obtain ⟨a, b, b1, b2, xs, ys, ex, hqx, hqy, hn, q⟩ := q1
  subst ex
  obtain ⟨u1, u2, rfl, ra, rb⟩ := r1.two
  cases (show u1 = Value.ref a from ra)
  cases (show u2 = Value.ref b from rb)
  have fresh5 : ∀ c, c ∈ [s1.heap.objs.size + 4, s1.heap.objs.size + 2, s1.heap.objs.size + 3, s1.heap.objs.size, s1.heap.objs.size + 1] → FpOk X pins H1 c := fun c hcm => by
    have hle : s1.heap.objs.size ≤ c := by
      simp only [List.mem_cons, List.mem_singleton, List.not_mem_nil, or_false] at hcm
      omega
    exact I1.fpOk hle (I1.hok.fresh hle)
  obtain ⟨its, rv, p1, l1⟩ := Inv.sqG I1 hqx
  obtain ⟨its2, rv2, p2', l2⟩ := Inv.sqG I1 hqy
  refine call_zipG p1 p2' fun h' hz hTI hTO h1 h2 hsz hk => PyProof.Rows.args_nil ?_
  have I2 : L2.Inv X pins σ H1 { s1 with heap := h' } := I1.kept (t' := s1.toks) hk
  exact call_list_zip (xs := xs) (ys := ys) (I1.ok.hd hc) (PySem.W.ktu_apart s1.heap.objs.size a b l1 l2) hn I2 fresh5 hz hTI ⟨_, _, hTO⟩ h1 h2 hqx hqy fun S s' H' ts I' dn => ⟨.ref S, H', I', rfl, q S H' ts dn⟩
/-! by values -/
def bLz : Op2 := fun x y S => match itemsOf S x with
  | some xs => match itemsOf S y with
    | some ys => if small xs.length then some (true, .lst (zipL xs ys)) else none
    | none => none
  | none => none
def eLz (a b : SE) : SE := eBin bLz a b
theorem sqG_of {K : PySem.W.Frag} {H : Hp} {a : Addr} {us : List V} (h : SqL K H a us ∨ SqT K H a us) : ∃ b, SqG b K H a us := by
  rcases h with h | h
  · exact ⟨false, h⟩
  · exact ⟨true, h⟩
section
variable {G : Gam} {n0 : Nat} {g : Gh} {F : Hp} {r : List Addr} {S : Store} {H H' : Hp}
theorem grow_pairs (h : HR G n0 g F r S H') : ∀ (ts : List Addr) (xs ys : List PV) (us vs : List V), RVs G F r xs us → RVs G F r ys vs → ts.length = min us.length vs.length → (∀ (k : Nat) t, ts[k]? = some t → ∃ x y, us[k]? = some x ∧ vs[k]? = some y ∧ H' t = some (.tup [x, y]) ∧ F t = none ∧ t ∉ r ∧ g.pn t = none) →
    ∃ F', Ext F F' r r ∧ HR G n0 g F' r S H' ∧ RVs G F' r (zipL xs ys) (ts.map V.ref) ∧ ∀ c, F' c ≠ F c → c ∈ ts
  | [], xs, ys, us, vs, q1, q2, hl, _ => by
    refine ⟨F, .refl F r, h, ?_, fun c hc => absurd rfl hc⟩
    cases us with
    | nil =>
      have : xs = [] := by cases xs with
        | nil => rfl
        | cons x xs => obtain ⟨_, _, e, _⟩ := q1; cases e
      subst this
      exact rfl
    | cons u us =>
      cases vs with
      | nil =>
        have : ys = [] := by cases ys with
          | nil => rfl
          | cons x xs => obtain ⟨_, _, e, _⟩ := q2; cases e
        subst this
        cases xs <;> exact rfl
      | cons v vs => simp at hl
  | t :: ts, xs, ys, us, vs, q1, q2, hl, ht => by
    cases us with
    | nil => simp at hl
    | cons u us =>
      cases vs with
      | nil => simp at hl
      | cons v vs =>
        cases xs with
        | nil => cases (show (u :: us) = [] from q1)
        | cons x xs =>
          cases ys with
          | nil => cases (show (v :: vs) = [] from q2)
          | cons y ys =>
            obtain ⟨u', ur, e, k1, k2⟩ := q1
            cases e
            obtain ⟨v', vr, e, m1, m2⟩ := q2
            cases e
            obtain ⟨F1, x1, h1, rv, ch⟩ := grow_pairs h ts xs ys us vs k2 m2 (by simp at hl ⊢; omega) fun k t' e => by
              have := ht (k + 1) t' (by simpa using e)
              simpa using this
            obtain ⟨x0, y0, e1, e2, e3, e4, e5, e6⟩ := ht 0 t rfl
            simp at e1 e2
            subst e1 e2
            cases ef : F1 t with
            | none =>
              have ex : Ext F1 (L2.upd F1 t (.tup [u, v])) r r := ⟨Le.upd ef, List.prefix_refl r⟩
              refine ⟨_, x1.trans ex, h1.grow e3 ef e5 e6, ⟨_, _, rfl, ⟨t, [u, v], rfl, upd_same, _, _, rfl, (k1.ext x1).ext ex, _, _, rfl, (m1.ext x1).ext ex, rfl⟩, rv.ext ex⟩, fun c hc => ?_⟩
              by_cases hct : c = t
              · rw [hct]; exact List.mem_cons_self
              · rw [upd_ne hct] at hc
                exact List.mem_cons_of_mem _ (ch c hc)
            | some o =>
              have ht := h1.sub.any ef
              rcases ht with ht | ⟨z, ht⟩
              rotate_left
              · rw [e3] at ht; cases ht
              rw [e3] at ht
              cases ht
              exact ⟨F1, x1, h1, ⟨_, _, rfl, ⟨t, [u, v], rfl, ef, _, _, rfl, k1.ext x1, _, _, rfl, m1.ext x1, rfl⟩, rv⟩, fun c hc => List.mem_cons_of_mem _ (ch c hc)⟩
end
section
variable {X : Cx} {G : Gam} {n0 : Nat}
theorem se_lz {e e2 : Expr} {fe fe2 : SE} {p p2 pos pos2 : Pos} (hK : G.K = X.K) (hc : X.calm = true) (hl : Gl X "list") (hml : X.mg "list" = none) (hg : Gl X "zip") (hm : X.mg "zip" = none) (he : PE X e (rdE G n0 fe)) (he2 : PE X e2 (rdE G n0 fe2))
    (hs : starEach [e, e2] X.env = (false, eval e X.env) :: starEach [e2] X.env := by rfl) (hs2 : starEach [e2] X.env = (false, eval e2 X.env) :: starEach [] X.env := by rfl) (hpl : (backTo pos2 (starEach [e2] X.env)).any (·.1) = false := by rfl)
    (na : starEach [.Call (.Name "zip" p2) [e, e2] [] pos2] X.env = (false, eval (.Call (.Name "zip" p2) [e, e2] [] pos2) X.env) :: starEach [] X.env := by rfl) :
    PE X (.Call (.Name "list" p) [.Call (.Name "zip" p2) [e, e2] [] pos2] [] pos) (rdE G n0 (eLz fe fe2)) := by
  refine peI (pe_lz hc hl hml hg hm (pa_cons (toV he) (pa_cons (toV he2) pa_nil hs2) hs) hs hpl na) fun σ H Q ⟨F, r, env, S, g, s, h⟩ => ?_
  refine stV s cnE h fun p S1 F1 r1 H1 u x1 s1 q1 h1 => ?_
  refine stV s1 cnE h1 fun q S2 F2 r2 H2 v x2 s2 q2 h2 => ?_
  cases ea : itemsOf S2 p.2 with
  | none => simp only [bLz, ea] at h2; exact h2.elim
  | some xs =>
    cases eb : itemsOf S2 q.2 with
    | none => simp only [bLz, ea, eb] at h2; exact h2.elim
    | some ys =>
      simp only [bLz, ea, eb] at h2
      split at h2
      · rename_i hz
        obtain ⟨a, us, rfl, hs1, rv1⟩ := view_seq s2.hr (q1.ext x2) ea
        obtain ⟨b, vs, rfl, hs2', rv2⟩ := view_seq s2.hr q2 eb
        obtain ⟨b1, k1⟩ := sqG_of hs1
        obtain ⟨b2, k2⟩ := sqG_of hs2'
        have hle : us.length ≤ 1000000 := by rw [← RVs.length rv1]; exact Nat.le_of_ble_eq_true hz
        refine ⟨a, b, b1, b2, us, vs, rfl, hK ▸ k1, hK ▸ k2, hle, fun L H' ts dn => ?_⟩
        have hr' := s2.hr.heap dn.keep
        obtain ⟨F3, x3, h3, rv3, ch⟩ := grow_pairs hr' ts xs ys us vs rv1 rv2 dn.len fun k t e => by
          obtain ⟨x, y, e1, e2, e3, e4⟩ := dn.tup k t e
          exact ⟨x, y, e1, e2, e3, s2.hr.noF e4, s2.hr.nor e4, s2.hr.nop e4⟩
        have hFL : F3 L = none := by
          by_cases hL : F3 L = F2 L
          · rw [hL]; exact s2.hr.noF dn.new
          · obtain ⟨k, hk, e⟩ := List.getElem_of_mem (ch L hL)
            obtain ⟨x, y, _, _, e3, _⟩ := dn.tup k L (by rw [List.getElem?_eq_getElem hk, e])
            rw [dn.lst] at e3
            cases e3
        refine h2 F3 r2 H' _ ((x1.trans x2).trans x3) (s2.ext x3 h3) ⟨L, _, rfl, dn.lst, hFL, s2.hr.nor dn.new, s2.hr.nop dn.new, ⟨_, rfl, rv3⟩, rfl⟩
      · exact h2.elim
end
end PX
set_option Elab.async false
set_option linter.all false
set_option maxRecDepth 100000
set_option maxHeartbeats 1000000
namespace PX
open PySem PySem.Spec PyProof.Rows L2 ZG
/-! ### range of three, list(range(..)) -/
def rngC : Int → Int → Nat → List PV
  | _, _, 0 => []
  | lo, c, n + 1 => .int lo :: rngC (lo + c) c n
def sizeC (i j c : Int) : Nat := (Builtin.Range.rangeSize i j c).toNat
def okC (i j c : Int) : Bool := decide (c ≠ 0) && decide (c.natAbs < 1073741824) && Builtin.Range.small i j c && decide (Builtin.Range.rangeSize i j c = (sizeC i j c : Int))
def iRg3 (a b c : SE) : SI := fun env S => (a env S).bind fun p S1 => (b env S1).bind fun q S2 => (c env S2).bind fun z S3 => match p.2, q.2, z.2 with
  | .int i, .int j, .int k => if okC i j k then .ok (rngC i k (sizeC i j k), []) S3 else .no
  | _, _, _ => .no
def okL (i j : Int) : Bool := decide (-1000000 ≤ i) && decide (i ≤ 1000000) && decide (-1000000 ≤ j) && decide (j ≤ 1000000)
def eLr1 (a : SE) : SE := fun env S => (a env S).bind fun p S1 => match p.2 with
  | .int j => if okL 0 j then .ok (true, .lst (rngL 0 j.toNat)) S1 else .no
  | _ => .no
def eLr2 (a b : SE) : SE := fun env S => (a env S).bind fun p S1 => (b env S1).bind fun q S2 => match p.2, q.2 with
  | .int i, .int j => if okL i j then .ok (true, .lst (rngL i (j - i).toNat)) S2 else .no
  | _, _ => .no
section
variable {G : Gam} {n0 : Nat} {g : Gh} {F : Hp} {r : List Addr} {S : Store} {H : Hp}
theorem rngC_get : ∀ {n : Nat} {lo c : Int} {i : Nat} {t : PV}, (rngC lo c n)[i]? = some t → i < n ∧ t = .int (lo + (i : Nat) * c)
  | 0, lo, c, i, t, e => by simp [rngC] at e
  | n + 1, lo, c, 0, t, e => by
    simp [rngC] at e
    exact ⟨by omega, by rw [← e]; simp⟩
  | n + 1, lo, c, i + 1, t, e => by
    have e : (rngC (lo + c) c n)[i]? = some t := by simpa [rngC] using e
    obtain ⟨h1, h2⟩ := rngC_get e
    refine ⟨by omega, ?_⟩
    rw [h2]
    congr 1
    rw [Int.natCast_succ, Int.add_mul]
    omega
theorem rngC_len : ∀ (n : Nat) (lo c : Int), (rngC lo c n).length = n
  | 0, lo, c => rfl
  | n + 1, lo, c => by
    show (rngC (lo + c) c n).length + 1 = n + 1
    rw [rngC_len n]
theorem its_rngC {g' : Gh} {lo c : Int} {n : Nat} : Its G n0 g' F r (Itc lo c n) (rngC lo c n) := fun g2 hg2 F2 r2 S2 H2 h2 x2 => by
  refine ⟨fun i x ex => ?_, fun i hi => by rw [rngC_len] at hi; exact hi⟩
  obtain ⟨h1, rfl⟩ := rngC_get ex
  refine ⟨h1, fun v H3 hy => ?_⟩
  obtain ⟨rfl, rfl⟩ := hy
  exact ⟨F2, .refl _ _, h2, rfl⟩
variable {X : Cx} {tg e e2 e3 : Expr} {fe fe2 fe3 : SE} {p pos p2 pos2 : Pos}
theorem si_rng3 (hg : Gl X "range") (hm : X.mg "range" = none) (he : PE X e (rdE G n0 fe)) (he2 : PE X e2 (rdE G n0 fe2)) (he3 : PE X e3 (rdE G n0 fe3)) (hs : starEach [e, e2, e3] X.env = (false, eval e X.env) :: starEach [e2, e3] X.env := by rfl)
    (hs2 : starEach [e2, e3] X.env = (false, eval e2 X.env) :: starEach [e3] X.env := by rfl) (hs3 : starEach [e3] X.env = (false, eval e3 X.env) :: starEach [] X.env := by rfl) (hpl : (backTo pos (starEach [e2, e3] X.env)).any (·.1) = false := by rfl) :
    PI X tg (.Call (.Name "range" p) [e, e2, e3] [] pos) (rdI G n0 (iRg3 fe fe2 fe3)) := by
  refine piI (pi_range3 hg hm (pa_cons (toV he) (pa_cons (toV he2) (pa_cons (toV he3) pa_nil hs3) hs2) hs) hs hpl) fun σ H T ⟨F, r, env, S, g, s, h⟩ => ?_
  refine stV s cnI h fun p S1 F1 r1 H1 u x1 s1 q1 h1 => ?_
  refine stV s1 cnI h1 fun q S2 F2 r2 H2 w x2 s2 q2 h2 => ?_
  refine stV s2 cnI h2 fun z S3 F3 r3 H3 y x3 s3 q3 h3 => ?_
  obtain ⟨b, v⟩ := p
  obtain ⟨b', v'⟩ := q
  obtain ⟨b2, v2⟩ := z
  split at h3
  · rename_i i j k ei ej ek
    simp only at ei ej ek
    subst ei ej ek
    split at h3
    · rename_i hj
      unfold okC at hj
      simp only [Bool.and_eq_true, decide_eq_true_eq] at hj
      obtain ⟨⟨⟨k1, k2⟩, k3⟩, k4⟩ := hj
      exact ⟨i, j, k, sizeC i j k, by rw [show u = V.int i from q1, show w = V.int j from q2, show y = V.int k from q3], ⟨k1, k2, k3, k4⟩, h3 F3 r3 H3 _ g ((x1.trans x2).trans x3) s3 its_rngC (.refl g) (fun _ _ _ _ _ _ h _ => h)⟩
    · exact h3.elim
  · exact h3.elim
theorem okL_ok {i j : Int} (h : okL i j = true) : RgOk i j := by
  unfold okL at h
  simp only [Bool.and_eq_true, decide_eq_true_eq] at h
  exact ⟨by omega, by omega, by omega, by omega, by omega⟩
theorem rng_rv : ∀ (n : Nat) (lo : Int), RVs G F r (rngL lo n) ((List.range n).map fun i => V.int (lo + (i : Nat)))
  | 0, lo => rfl
  | n + 1, lo => by
    rw [List.range_succ_eq_map, List.map_cons, List.map_map]
    refine ⟨_, _, rfl, ?_, ?_⟩
    · show V.int (lo + ((0 : Nat) : Int)) = V.int lo
      congr 1
      omega
    · have := rng_rv n (lo + 1)
      have e : ((List.range n).map fun i => V.int (lo + 1 + (i : Nat))) = (List.range n).map ((fun i => V.int (lo + (i : Nat))) ∘ Nat.succ) := by
        apply List.map_congr_left
        intro i _
        show V.int (lo + 1 + (i : Nat)) = V.int (lo + ((i + 1 : Nat) : Int))
        congr 1
        omega
      rw [← e]
      exact this
theorem rg_rv (i j : Int) : RVs G F r (rngL i (j - i).toNat) (rgV i j) := rng_rv _ _
theorem se_lr1 (hc : X.calm = true) (hl : Gl X "list") (hml : X.mg "list" = none) (hg : Gl X "range") (hm : X.mg "range" = none) (he : PE X e (rdE G n0 fe)) (hs : starEach [e] X.env = (false, eval e X.env) :: starEach [] X.env := by rfl)
    (na : starEach [.Call (.Name "range" p2) [e] [] pos2] X.env = (false, eval (.Call (.Name "range" p2) [e] [] pos2) X.env) :: starEach [] X.env := by rfl) : PE X (.Call (.Name "list" p) [.Call (.Name "range" p2) [e] [] pos2] [] pos) (rdE G n0 (eLr1 fe)) := by
  refine peI (pe_listRg hc hl hml (prg_1 hg hm (toV he) hs) na) fun σ H Q ⟨F, r, env, S, g, s, h⟩ => ?_
  refine stV s cnE h fun p S1 F1 r1 H1 u x1 s1 q1 h1 => ?_
  obtain ⟨b, v⟩ := p
  cases v with
  | int j =>
    simp only at h1
    split at h1
    · rename_i hj
      refine ⟨j, q1, okL_ok hj, fun q hq => ?_⟩
      obtain ⟨h3, k3⟩ := new_obj s1.hr hq (v := .lst (rngL 0 j.toNat)) ⟨_, rfl, by have := rg_rv (G := G) (F := F1) (r := r1) 0 j; rw [Int.sub_zero] at this; exact this⟩ rfl
      exact h1 F1 r1 _ _ x1 (s1.ext (.refl _ _) h3) k3
    · exact h1.elim
  | _ => exact h1.elim
theorem se_lr2 (hc : X.calm = true) (hl : Gl X "list") (hml : X.mg "list" = none) (hg : Gl X "range") (hm : X.mg "range" = none) (he : PE X e (rdE G n0 fe)) (he2 : PE X e2 (rdE G n0 fe2)) (hs : starEach [e, e2] X.env = (false, eval e X.env) :: starEach [e2] X.env := by rfl)
    (hs2 : starEach [e2] X.env = (false, eval e2 X.env) :: starEach [] X.env := by rfl) (hpl : (backTo pos2 (starEach [e2] X.env)).any (·.1) = false := by rfl)
    (na : starEach [.Call (.Name "range" p2) [e, e2] [] pos2] X.env = (false, eval (.Call (.Name "range" p2) [e, e2] [] pos2) X.env) :: starEach [] X.env := by rfl) : PE X (.Call (.Name "list" p) [.Call (.Name "range" p2) [e, e2] [] pos2] [] pos) (rdE G n0 (eLr2 fe fe2)) := by
  refine peI (pe_listRg hc hl hml (prg_2 hg hm (toV he) (toV he2) hs hs2 hpl) na) fun σ H Q ⟨F, r, env, S, g, s, h⟩ => ?_
  refine stV s cnE h fun p S1 F1 r1 H1 u x1 s1 q1 h1 => ?_
  refine stV s1 cnE h1 fun q S2 F2 r2 H2 w x2 s2 q2 h2 => ?_
  obtain ⟨b, v⟩ := p
  obtain ⟨b', v'⟩ := q
  split at h2
  · rename_i i j ei ej
    simp only at ei ej
    subst ei ej
    split at h2
    · rename_i hj
      refine ⟨i, j, q1, q2, okL_ok hj, fun q hq => ?_⟩
      obtain ⟨h3, k3⟩ := new_obj s2.hr hq (v := .lst (rngL i (j - i).toNat)) ⟨_, rfl, rg_rv i j⟩ rfl
      exact h2 F2 r2 _ _ (x1.trans x2) (s2.ext (.refl _ _) h3) k3
    · exact h2.elim
  · exact h2.elim
end
end PX
set_option Elab.async false
set_option linter.all false
set_option maxRecDepth 100000
set_option maxHeartbeats 2000000
namespace PX
open PySem PySem.Spec PyProof.Rows L2 ZG
/-! ### [e for t in i if c for t1 in i1 if c1] -/
def compR2 (t : Tg) (c : ST) (i1 : SI) (t1 : Tg) (vs1 : List Nat) (c1 : ST) (e : SE) : List PV → Env → List PV → Store → R (List PV)
  | [], _, acc, S => .ok acc S
  | x :: xs, env, acc, S => match t x env S with
    | none => .no
    | some env' => (c env' S).bind fun b S1 => if b = true then (i1 env' S1).bind fun p S2 => (compR t1 c1 e p.1 (wipeE env' vs1) acc S2).bind fun acc' S3 => compR2 t c i1 t1 vs1 c1 e xs env acc' (unlock p.2 S3)
      else compR2 t c i1 t1 vs1 c1 e xs env acc S1
def eLc2 (i : SI) (t : Tg) (vs : List Nat) (c : ST) (i1 : SI) (t1 : Tg) (vs1 : List Nat) (c1 : ST) (e : SE) : SE := fun env S => (i env S).bind fun p S1 => (compR2 t c i1 t1 vs1 c1 e p.1 (wipeE env vs) [] S1).bind fun acc S2 => .ok (true, .lst acc) (unlock p.2 S2)
section
variable {G : Gam} {n0 : Nat} {g : Gh} {F : Hp} {r : List Addr} {S : Store} {H : Hp}
theorem bind_assoc {α β γ : Type} (m : R α) (k : α → Store → R β) (l : β → Store → R γ) : (m.bind k).bind l = m.bind fun x S => (k x S).bind l := by cases m <;> rfl
/-! the pin at hand, by `rep` -/
theorem rep_pin {a : Addr} {ho ho' : HO} : (g.pin a ho).rep (some (a, ho')) = g.pin a ho' := by
  show (⟨g.L, upd (upd g.pn a ho) a ho', _⟩ : Gh) = ⟨g.L, upd g.pn a ho', _⟩
  rw [upd_upd]
  rfl
theorem rep_at {a : Addr} {ho : HO} : (g.rep (some (a, ho))).pn a = some ho := upd_same
theorem rep_rep {a : Addr} {ho ho' : HO} : (g.rep (some (a, ho))).rep (some (a, ho')) = g.rep (some (a, ho')) := by
  show (⟨g.L, upd (upd g.pn a ho) a ho', _⟩ : Gh) = ⟨g.L, upd g.pn a ho', _⟩
  rw [upd_upd]
  rfl
theorem rep_le {a : Addr} {ho : HO} (hl : g.lk a = false) : GhLe g (g.rep (some (a, ho))) := fun b o e l => by
  have hb : b ≠ a := fun z => by rw [z, hl] at l; cases l
  exact ⟨by show upd g.pn a ho b = _; rw [upd_ne hb]; exact e, l⟩
theorem rep_self {a : Addr} {ho : HO} (hp : g.pn a = some ho) : g.rep (some (a, ho)) = g := by
  show (⟨g.L, upd g.pn a ho, g.lk⟩ : Gh) = g
  have : upd g.pn a ho = g.pn := by
    funext b
    by_cases hb : b = a
    · rw [hb, upd_same, hp]
    · rw [upd_ne hb]
  rw [this]
/-! what stands at a pin that is not locked is another -/
theorem HR.repSet {a : Addr} {ho ho' : HO} (h : HR G n0 g F r S H) (hp : g.pn a = some ho) (hl : g.lk a = false) (hz : isFz ho = false := by rfl) : HR G n0 (g.rep (some (a, ho'))) F r S (upd H a ho') := by
  have hr : a ∉ r := h.out a ho hp hl
  have hF : F a = none := noFz (h.pin a ho hp).2.1 hz
  refine ⟨fun b o e => ?_, h.nd, h.off, h.len, h.nle, h.lle, fun i ob b e1 e2 => ?_, fun b o e => ?_, fun i ob b e1 e2 => ?_, fun b o e el => ?_⟩
  · rw [upd_ne (fun z => by rw [z, hF] at e; cases e)]
    exact h.sub b o e
  · obtain ⟨o, q1, q2⟩ := h.obj i ob b e1 e2
    have hb : b ≠ a := fun z => hr (by rw [← z]; exact List.mem_of_getElem? e2)
    exact ⟨o, q1.upd hb, q2⟩
  · have e : upd g.pn a ho' b = some o := e
    by_cases hb : b = a
    · subst hb
      rw [upd_same] at e
      cases e
      exact ⟨upd_same, .inl hF, fun i hi => absurd (List.mem_of_getElem? hi) hr⟩
    · rw [upd_ne hb] at e
      obtain ⟨q1, q2, q3⟩ := h.pin b o e
      exact ⟨by rw [upd_ne hb]; exact q1, q2, q3⟩
  · have hb : b ≠ a := fun z => hr (by rw [← z]; exact List.mem_of_getElem? e2)
    obtain ⟨o, q⟩ := h.lckd i ob b e1 e2
    exact ⟨o, by show upd g.pn a ho' b = _; rw [upd_ne hb]; exact q⟩
  · have e : upd g.pn a ho' b = some o := e
    by_cases hb : b = a
    · subst hb; exact hr
    · rw [upd_ne hb] at e
      exact h.out b o e el
theorem lc2_core' {fi fi1 : SI} {t t1 : Tg} {gg gg1 : TG} {vs vs1 : List Nat} {c c1 : ST} {fe : SE} (ht : TgB G vs t gg) (ht1 : TgB G vs1 t1 gg1) (σ : L2.St) (H : Hp) (Q : VK) (hh : rdE G n0 (eLc2 fi t vs c fi1 t1 vs1 c1 fe) σ H Q) :
    tLc2 (rdI G n0 fi) gg (rdT G n0 c) (rdI G n0 fi1) gg1 (rdT G n0 c1) (rdV G n0 fe) vs vs1 σ H Q := by
  obtain ⟨F, r, env, S, g, s, h⟩ := hh
  refine ⟨F, r, env, S, g, s, ?_⟩
  have h : PoE G n0 g F r env σ ((fi env S).bind fun p S1 => (compR2 t c fi1 t1 vs1 c1 fe p.1 (wipeE env vs) [] S1).bind fun acc S2 => .ok (true, .lst acc) (unlock p.2 S2)) Q := h
  cases ei : fi env S with
  | no => rw [ei] at h; exact h
  | ex => rw [ei] at h; exact h
  | ok p S1 =>
    rw [ei] at h
    obtain ⟨xs, ls⟩ := p
    have h : PoE G n0 g F r env σ ((compR2 t c fi1 t1 vs1 c1 fe xs (wipeE env vs) [] S1).bind fun acc S2 => .ok (true, .lst acc) (unlock ls S2)) Q := h
    intro F1 r1 H1 J g' x1 s1 its _ ul D hD
    have ul : ∀ F2 r2 S2 H2, HR G n0 g' F2 r2 S2 H2 → Ext F1 F2 r1 r2 → HR G n0 g F2 r2 (unlock ls S2) H2 := ul none (fun p e => nomatch e)
    have its : Its G n0 g' F1 r1 J xs := its
    have hp : g'.pn D = none := s1.hr.nop hD
    have hgp : g.pn D = none := (ul F1 r1 S1 H1 s1.hr (.refl _ _)).nop hD
    refine ⟨fun i m H' => m = xs.length - i ∧ i ≤ xs.length ∧ ∃ F2 r2 S2 acc us, Ext F1 F2 r1 r2 ∧ Sg G n0 (g'.pin D (.lst us)) F2 r2 (wipeE env vs) (L2.wipe σ vs) S2 H' ∧ RVs G F2 r2 acc us ∧
      PoE G n0 g F r env σ ((compR2 t c fi1 t1 vs1 c1 fe (xs.drop i) (wipeE env vs) acc S2).bind fun acc S2 => .ok (true, .lst acc) (unlock ls S2)) Q,
      ⟨xs.length, rfl, Nat.zero_le _, F1, r1, S1, [], [], .refl _ _, ⟨s1.hr.pinNew hD, (s1.wipe vs).sl, (s1.wipe vs).vr⟩, rfl, h⟩, ?_⟩
    rintro i m H2 ⟨rfl, hi, F2, r2, S2, acc, us, x2, s2, racc, h2⟩
    have hDr := pin_out s2.hr
    have hDH := (s2.hr.pin D _ pin_at).1
    have hDF := noFz (s2.hr.pin D _ pin_at).2.1 rfl
    have hr2 := s2.hr.unpin hp
    obtain ⟨ig, ie⟩ := its (g'.pin D (.lst us)) (fun a o e l => pin_le hp a o e l) F2 r2 S2 H2 s2.hr x2
    by_cases hlt : i < xs.length
    · have hx : xs[i]? = some xs[i] := List.getElem?_eq_getElem hlt
      have hd : xs.drop i = xs[i] :: xs.drop (i + 1) := List.drop_eq_getElem_cons hlt
      rw [hd] at h2
      obtain ⟨go, yl⟩ := ig i xs[i] hx
      refine .inr ⟨go, fun H' => ∃ F2 r2 S2 acc us, Ext F1 F2 r1 r2 ∧ Sg G n0 (g'.pin D (.lst us)) F2 r2 (wipeE env vs) (L2.wipe σ vs) S2 H' ∧ RVs G F2 r2 acc us ∧
        PoE G n0 g F r env σ ((compR2 t c fi1 t1 vs1 c1 fe (xs.drop (i + 1)) (wipeE env vs) acc S2).bind fun acc S2 => .ok (true, .lst acc) (unlock ls S2)) Q,
        fun H' q => ⟨xs.length - (i + 1), by omega, rfl, hlt, q⟩, fun v H3 hy => ?_⟩
      obtain ⟨F3, x3, hr3, q3⟩ := yl v H3 hy
      have h3 : PoE G n0 g F r env σ ((match t xs[i] (wipeE env vs) S2 with
        | none => R.no
        | some env' => (c env' S2).bind fun b S1 => if b = true then (fi1 env' S1).bind fun p S2 => (compR t1 c1 fe p.1 (wipeE env' vs1) acc S2).bind fun acc' S3 => compR2 t c fi1 t1 vs1 c1 fe (xs.drop (i + 1)) (wipeE env vs) acc' (unlock p.2 S3)
          else compR2 t c fi1 t1 vs1 c1 fe (xs.drop (i + 1)) (wipeE env vs) acc S1).bind fun acc S2 => .ok (true, .lst acc) (unlock ls S2)) Q := h2
      cases et : t xs[i] (wipeE env vs) S2 with
      | none => rw [et] at h3; exact h3.elim
      | some env3 =>
        simp only [et] at h3
        refine ht n0 _ F3 r2 (wipeE env vs) (L2.wipe σ vs) S2 H3 xs[i] v env3 (L2.wipe σ vs) _ (wipe_idem σ vs) (s2.ext x3 hr3) q3 et fun σ3 hw3 s3 => ⟨hw3, ?_⟩
        refine ⟨F3, r2, env3, S2, _, s3, ?_⟩
        cases ec : c env3 S2 with
        | no => rw [ec] at h3; exact h3
        | ex => rw [ec] at h3; exact h3
        | ok b S4 =>
          rw [ec] at h3
          intro F4 r4 H4 x4 s4
          have xx : Ext F1 F4 r1 r4 := (x2.trans x3).trans x4
          have back : ∀ {us' F' r' S' H'}, Ext F4 F' r4 r' → HR G n0 (g'.pin D (.lst us')) F' r' S' H' → Sg G n0 (g'.pin D (.lst us')) F' r' (wipeE env vs) (L2.wipe σ vs) S' H' := fun {us' F' r' S' H'} x' hr' =>
            ⟨hr', s2.sl, fun j w e => by
              obtain ⟨u, e1, q1⟩ := s2.vr j w e
              exact ⟨u, e1, q1.ext ((x3.trans x4).trans x')⟩⟩
          cases b with
          | false => exact ⟨F4, r4, S4, acc, us, xx, back (.refl _ _) s4.hr, racc.ext (x3.trans x4), h3⟩
          | true =>
            have h4 : PoE G n0 g F r env σ (((fi1 env3 S4).bind fun p S2 => (compR t1 c1 fe p.1 (wipeE env3 vs1) acc S2).bind fun acc' S3 => compR2 t c fi1 t1 vs1 c1 fe (xs.drop (i + 1)) (wipeE env vs) acc' (unlock p.2 S3)).bind fun acc S2 => .ok (true, .lst acc) (unlock ls S2)) Q := h3
            rw [if_pos rfl]
            refine ⟨F4, r4, env3, S4, _, s4, ?_⟩
            cases ei1 : fi1 env3 S4 with
            | no => rw [ei1] at h4; exact h4
            | ex => rw [ei1] at h4; exact h4
            | ok p1 S5 =>
              rw [ei1] at h4
              obtain ⟨ys, ls1⟩ := p1
              have h5 : PoE G n0 g F r env σ (((compR t1 c1 fe ys (wipeE env3 vs1) acc S5).bind fun acc' S3 => compR2 t c fi1 t1 vs1 c1 fe (xs.drop (i + 1)) (wipeE env vs) acc' (unlock ls1 S3)).bind fun acc S2 => .ok (true, .lst acc) (unlock ls S2)) Q := h4
              intro F5 r5 H5 J1 g1 x5 s5 its1 pn1 ul1
              have its1 : Its G n0 g1 F5 r5 J1 ys := its1
              have ul1 : ∀ rp, (g'.pin D (.lst us)).has rp → ∀ F2 r2 S2 H2, HR G n0 (g1.rep rp) F2 r2 S2 H2 → Ext F5 F2 r5 r2 → HR G n0 ((g'.pin D (.lst us)).rep rp) F2 r2 (unlock ls1 S2) H2 := ul1
              have lk0 : (g'.pin D (.lst us)).lk D = false := by show (if D = D then false else g'.lk D) = false; rw [if_pos rfl]
              obtain ⟨pD, lD⟩ := pn1 D _ pin_at lk0
              have hasD : ∀ ho, (g'.pin D (.lst us)).has (some (D, ho)) := fun ho p e => by cases e; exact ⟨⟨_, pin_at⟩, lk0⟩
              -- the inner loop
              refine ⟨fun j m H' => m = ys.length - j ∧ j ≤ ys.length ∧ ∃ F6 r6 S6 acc6 us6, Ext F5 F6 r5 r6 ∧ Sg G n0 (g1.rep (some (D, .lst us6))) F6 r6 (wipeE env3 vs1) (L2.wipe σ3 vs1) S6 H' ∧ RVs G F6 r6 acc6 us6 ∧
                PoE G n0 g F r env σ (((compR t1 c1 fe (ys.drop j) (wipeE env3 vs1) acc6 S6).bind fun acc' S3 => compR2 t c fi1 t1 vs1 c1 fe (xs.drop (i + 1)) (wipeE env vs) acc' (unlock ls1 S3)).bind fun acc S2 => .ok (true, .lst acc) (unlock ls S2)) Q,
                ⟨ys.length, rfl, Nat.zero_le _, F5, r5, S5, acc, us, .refl _ _, ⟨by rw [rep_self pD]; exact s5.hr, (s5.wipe vs1).sl, (s5.wipe vs1).vr⟩, (racc.ext (x3.trans x4)).ext x5, h5⟩, ?_⟩
              rintro j m H6 ⟨rfl, hj, F6, r6, S6, acc6, us6, x6, s6, racc6, h6⟩
              obtain ⟨ig1, ie1⟩ := its1 (g1.rep (some (D, .lst us6))) (rep_le lD) F6 r6 S6 H6 s6.hr x6
              by_cases hlt1 : j < ys.length
              · have hy1 : ys[j]? = some ys[j] := List.getElem?_eq_getElem hlt1
                have hd1 : ys.drop j = ys[j] :: ys.drop (j + 1) := List.drop_eq_getElem_cons hlt1
                rw [hd1] at h6
                obtain ⟨go1, yl1⟩ := ig1 j ys[j] hy1
                refine .inr ⟨go1, fun H' => ∃ F6 r6 S6 acc6 us6, Ext F5 F6 r5 r6 ∧ Sg G n0 (g1.rep (some (D, .lst us6))) F6 r6 (wipeE env3 vs1) (L2.wipe σ3 vs1) S6 H' ∧ RVs G F6 r6 acc6 us6 ∧
                  PoE G n0 g F r env σ (((compR t1 c1 fe (ys.drop (j + 1)) (wipeE env3 vs1) acc6 S6).bind fun acc' S3 => compR2 t c fi1 t1 vs1 c1 fe (xs.drop (i + 1)) (wipeE env vs) acc' (unlock ls1 S3)).bind fun acc S2 => .ok (true, .lst acc) (unlock ls S2)) Q,
                  fun H' q => ⟨ys.length - (j + 1), by omega, rfl, hlt1, q⟩, fun v1 H7 hyv => ?_⟩
                obtain ⟨F7, x7, hr7, q7⟩ := yl1 v1 H7 hyv
                have h7 : PoE G n0 g F r env σ (((match t1 ys[j] (wipeE env3 vs1) S6 with
                  | none => R.no
                  | some env' => (c1 env' S6).bind fun b S1 => if b = true then (fe env' S1).bind fun q S2 => if small acc6.length then compR t1 c1 fe (ys.drop (j + 1)) (wipeE env3 vs1) (acc6 ++ [q.2]) S2 else .no
                    else compR t1 c1 fe (ys.drop (j + 1)) (wipeE env3 vs1) acc6 S1).bind fun acc' S3 => compR2 t c fi1 t1 vs1 c1 fe (xs.drop (i + 1)) (wipeE env vs) acc' (unlock ls1 S3)).bind fun acc S2 => .ok (true, .lst acc) (unlock ls S2)) Q := h6
                cases et1 : t1 ys[j] (wipeE env3 vs1) S6 with
                | none => rw [et1] at h7; exact h7.elim
                | some env8 =>
                  simp only [et1] at h7
                  refine ht1 n0 _ F7 r6 (wipeE env3 vs1) (L2.wipe σ3 vs1) S6 H7 ys[j] v1 env8 (L2.wipe σ3 vs1) _ (wipe_idem σ3 vs1) (s6.ext x7 hr7) q7 et1 fun σ8 hw8 s8 => ⟨hw8, ?_⟩
                  refine ⟨F7, r6, env8, S6, _, s8, ?_⟩
                  cases ec1 : c1 env8 S6 with
                  | no => rw [ec1] at h7; exact h7
                  | ex => rw [ec1] at h7; exact h7
                  | ok b1 S9 =>
                    rw [ec1] at h7
                    intro F9 r9 H9 x9 s9
                    have xx9 : Ext F5 F9 r5 r9 := (x6.trans x7).trans x9
                    have back1 : ∀ {us' F' r' S' H'}, Ext F9 F' r9 r' → HR G n0 (g1.rep (some (D, .lst us'))) F' r' S' H' → Sg G n0 (g1.rep (some (D, .lst us'))) F' r' (wipeE env3 vs1) (L2.wipe σ3 vs1) S' H' := fun {us' F' r' S' H'} x' hr' =>
                      ⟨hr', s6.sl, fun j w e => by
                        obtain ⟨u, e1, q1⟩ := s6.vr j w e
                        exact ⟨u, e1, q1.ext ((x7.trans x9).trans x')⟩⟩
                    cases b1 with
                    | false => exact ⟨F9, r9, S9, acc6, us6, xx9, back1 (.refl _ _) s9.hr, racc6.ext (x7.trans x9), h7⟩
                    | true =>
                      have h8 : PoE G n0 g F r env σ ((((fe env8 S9).bind fun q S2 => if small acc6.length then compR t1 c1 fe (ys.drop (j + 1)) (wipeE env3 vs1) (acc6 ++ [q.2]) S2 else .no).bind fun acc' S3 => compR2 t c fi1 t1 vs1 c1 fe (xs.drop (i + 1)) (wipeE env vs) acc' (unlock ls1 S3)).bind fun acc S2 => .ok (true, .lst acc) (unlock ls S2)) Q := h7
                      rw [if_pos rfl]
                      refine ⟨F9, r9, env8, S9, _, s9, ?_⟩
                      cases ee : fe env8 S9 with
                      | no => rw [ee] at h8; exact h8
                      | ex => rw [ee] at h8; exact h8
                      | ok q S10 =>
                        rw [ee] at h8
                        intro F10 r10 H10 y x10 s10 q10
                        have h9 : PoE G n0 g F r env σ (((if small acc6.length then compR t1 c1 fe (ys.drop (j + 1)) (wipeE env3 vs1) (acc6 ++ [q.2]) S10 else .no).bind fun acc' S3 => compR2 t c fi1 t1 vs1 c1 fe (xs.drop (i + 1)) (wipeE env vs) acc' (unlock ls1 S3)).bind fun acc S2 => .ok (true, .lst acc) (unlock ls S2)) Q := h8
                        cases hsm : small acc6.length with
                        | false => rw [hsm] at h9; exact h9.elim
                        | true =>
                          rw [hsm, if_pos rfl] at h9
                          have hr10 := s10.hr
                          have set10 := hr10.repSet (ho' := .lst (us6 ++ [y])) rep_at lD
                          rw [rep_rep] at set10
                          refine ⟨us6, (hr10.pin D _ rep_at).1, by rw [← RVs.length racc6]; exact small_lt hsm, F10, r10, S10, acc6 ++ [q.2], us6 ++ [y], xx9.trans x10, back1 x10 set10, (racc6.ext ((x7.trans x9).trans x10)).append ⟨y, [], rfl, q10, rfl⟩, h9⟩
              · have e : j = ys.length := by omega
                subst e
                rw [List.drop_length] at h6
                refine .inl ⟨ie1 _ (Nat.le_refl _), ?_⟩
                have h10 := ul1 (some (D, .lst us6)) (hasD _) F6 r6 S6 H6 s6.hr x6
                rw [rep_pin] at h10
                exact ⟨F6, r6, unlock ls1 S6, acc6, us6, (xx.trans x5).trans x6, back (x5.trans x6) h10, racc6, h6⟩
    · have e : i = xs.length := by omega
      subst e
      rw [List.drop_length] at h2
      refine .inl ⟨ie _ (Nat.le_refl _), ?_⟩
      have h6 := ul F2 r2 S2 H2 hr2 x2
      have s6 : Sg G n0 g F2 r2 env σ (unlock ls S2) H2 := ⟨h6, s1.sl, fun j w e => by
        obtain ⟨u, e1, q1⟩ := s1.vr j w e
        exact ⟨u, e1, q1.ext x2⟩⟩
      exact h2 F2 r2 H2 (.ref D) (x1.trans x2) s6 ⟨D, .lst us, rfl, hDH, hDF, hDr, hgp, ⟨us, rfl, racc⟩, rfl⟩
variable {X : Cx}
theorem se_lc2 {elt tg iter tg1 iter1 : Expr} {ifs ifs1 : List Expr} {scope : Scope} {own : List (Str × Nat)} {vs1 : List Nat} {pos : Pos} {fi fi1 : SI} {t t1 : Tg} {gg gg1 : TG} {c c1 : ST} {fe : SE} (hc : X.calm = true) (hN : X.N.Nodup) (hi : PI X tg iter (rdI G n0 fi)) (ok : BlkOk X.N X.env.scope scope own) (hv : ∀ i ∈ vs1, i ∈ own.map (·.2)) (ht : TgB G (own.map (·.2)) t gg) (ht1 : TgB G vs1 t1 gg1)
    (hg : ∀ (s : Shared) (H : Hp) (C : Addr) (cl : List (Str × Addr)) (fp : List Addr), PG (X.blk s H scope (compEnvC scope cl C X.env) fp) tg gg)
    (hts : ∀ (s : Shared) (H : Hp) (C : Addr) (cl : List (Str × Addr)) (fp : List Addr), PTs (X.blk s H scope (compEnvC scope cl C X.env) fp) ifs (rdT G n0 c))
    (hi1 : ∀ (s : Shared) (H : Hp) (C : Addr) (cl : List (Str × Addr)) (fp : List Addr), PI (X.blk s H scope (compEnvC scope cl C X.env) fp) tg1 iter1 (rdI G n0 fi1))
    (hg1 : ∀ (s : Shared) (H : Hp) (C : Addr) (cl : List (Str × Addr)) (fp : List Addr), PG (X.blk s H scope (compEnvC scope cl C X.env) fp) tg1 gg1)
    (hts1 : ∀ (s : Shared) (H : Hp) (C : Addr) (cl : List (Str × Addr)) (fp : List Addr), PTs (X.blk s H scope (compEnvC scope cl C X.env) fp) ifs1 (rdT G n0 c1))
    (he : ∀ (s : Shared) (H : Hp) (C : Addr) (cl : List (Str × Addr)) (fp : List Addr), PE (X.blk s H scope (compEnvC scope cl C X.env) fp) elt (rdE G n0 fe)) (hs : ∀ x, foldedSetIterable iter X.env x = pure x := by intro _; rfl) (hs1 : ∀ env x, foldedSetIterable iter1 env x = pure x := by intro _ _; rfl) :
    PE X (.ListComp elt [⟨tg, iter, ifs, 0⟩, ⟨tg1, iter1, ifs1, 0⟩] scope pos) (rdE G n0 (eLc2 fi t (own.map (·.2)) c fi1 t1 vs1 c1 fe)) :=
  se_of (pe_lc2 hc hN hi ok hv hg hts hi1 hg1 hts1 (fun s H C cl fp => toV (he s H C cl fp)) hs hs1) (lc2_core' ht ht1)
theorem ss_setLc2 {i : Nat} {y : Str} {py : Pos} {elt tg iter tg1 iter1 : Expr} {ifs ifs1 : List Expr} {scope : Scope} {own : List (Str × Nat)} {vs1 : List Nat} {pos spos : Pos} {fi fi1 : SI} {t t1 : Tg} {gg gg1 : TG} {c c1 : ST} {fe : SE} (hc : X.calm = true) (hN : X.N.Nodup) (hy : X.N[i]? = some y) (hyl : X.env.scope.names.lookup y = some .local)
    (hsw : swapsWith (.ListComp elt [⟨tg, iter, ifs, 0⟩, ⟨tg1, iter1, ifs1, 0⟩] scope pos) (some (.Name y py)) spos.line X.env = pure true) (hi : PI X tg iter (rdI G n0 fi)) (ok : BlkOk X.N X.env.scope scope own) (hv : ∀ i ∈ vs1, i ∈ own.map (·.2)) (ht : TgB G (own.map (·.2)) t gg) (ht1 : TgB G vs1 t1 gg1)
    (hg : ∀ (s : Shared) (H : Hp) (C : Addr) (cl : List (Str × Addr)) (fp : List Addr), PG (X.blk s H scope (compEnvC scope cl C X.env) fp) tg gg)
    (hts : ∀ (s : Shared) (H : Hp) (C : Addr) (cl : List (Str × Addr)) (fp : List Addr), PTs (X.blk s H scope (compEnvC scope cl C X.env) fp) ifs (rdT G n0 c))
    (hi1 : ∀ (s : Shared) (H : Hp) (C : Addr) (cl : List (Str × Addr)) (fp : List Addr), PI (X.blk s H scope (compEnvC scope cl C X.env) fp) tg1 iter1 (rdI G n0 fi1))
    (hg1 : ∀ (s : Shared) (H : Hp) (C : Addr) (cl : List (Str × Addr)) (fp : List Addr), PG (X.blk s H scope (compEnvC scope cl C X.env) fp) tg1 gg1)
    (hts1 : ∀ (s : Shared) (H : Hp) (C : Addr) (cl : List (Str × Addr)) (fp : List Addr), PTs (X.blk s H scope (compEnvC scope cl C X.env) fp) ifs1 (rdT G n0 c1))
    (he : ∀ (s : Shared) (H : Hp) (C : Addr) (cl : List (Str × Addr)) (fp : List Addr), PE (X.blk s H scope (compEnvC scope cl C X.env) fp) elt (rdE G n0 fe)) (hs : ∀ x, foldedSetIterable iter X.env x = pure x := by intro _; rfl) (hs1 : ∀ env x, foldedSetIterable iter1 env x = pure x := by intro _ _; rfl) :
    PS X (.Assign [.Name y py] (.ListComp elt [⟨tg, iter, ifs, 0⟩, ⟨tg1, iter1, ifs1, 0⟩] scope pos) spos) (tAsg (rdE G n0 (eLc2 fi t (own.map (·.2)) c fi1 t1 vs1 c1 fe)) (gName i)) :=
  psI (ps_setLc2 hc hN hy hyl hsw hi ok hv hg hts hi1 hg1 hts1 (fun s H C cl fp => toV (he s H C cl fp)) hs hs1) fun D σ H h => lc2_core' ht ht1 σ H _ h
end
end PX
set_option Elab.async false
set_option linter.all false
set_option maxRecDepth 100000
set_option maxHeartbeats 1000000
namespace PX
open PySem PySem.Spec PyProof.Rows L2
/-! ### dicts: {}, d[k] = v, d[k] op= v, d.get(k, v) -/
def eDnK : SE := fun _ S => .ok (true, .dct (.k []) []) S
def eDnT : SE := fun _ S => .ok (true, .dct (.t []) []) S
def setG (n0 : Nat) (o k v : PV) (S : Store) : Option Store := match o with
  | .ref i => match S[i]? with
    | some (.lst xs) => setL n0 o k v S
    | some (.dct ks vs) => match keyOf k with
      | some q => match dPut ks vs q v with
        | some z => if mayPut n0 i v && small vs.length then some (S.set i (.dct z.1 z.2)) else none
        | none => none
      | none => none
    | _ => none
  | _ => none
def oGet : Op2 := fun x y S => match dIx x y S with
  | some z => some z
  | none => match deref S x with
    | some (.lst xs) => match y with
      | .int i => match ixP xs.length i with
        | some j => (xs[j]?).map fun v => (false, v)
        | none => none
      | _ => none
    | _ => none
def dG (x y z : PV) (S : Store) : Option PV := match deref S x with
  | some (.dct ks vs) => match keyOf y with
    | some q => match dGet ks vs q with
      | some (some v) => some v
      | some none => some z
      | none => none
    | none => none
  | _ => none
def isD (S : Store) (v : PV) : Bool := match deref S v with
  | some (.dct _ _) => true
  | _ => false
def eGet2 (d k f : SE) : SE := fun env S => (d env S).bind fun p S1 => if isD S1 p.2 then (k env S1).bind fun q S2 => (f env S2).bind fun z S3 => match dG p.2 q.2 z.2 S3 with
  | some v => .ok (false, v) S3
  | none => .no
  else .no
section
variable {X : Cx} {G : Gam} {n0 : Nat} {g : Gh} {F : Hp} {r : List Addr} {S : Store} {H : Hp}
theorem se_dnK {pos : Pos} : PE X (.Dict [] [] pos) (rdE G n0 eDnK) := by
  refine peI pe_dnewK fun σ H Q ⟨F, r, env, S, g, s, h⟩ => fun p hp => ?_
  obtain ⟨h2, k⟩ := new_obj s.hr hp (v := .dct (.k []) []) (ho := .dK []) ⟨[], ⟨rfl, rfl⟩, rfl⟩ rfl
  exact h F r _ _ (.refl _ _) (s.ext (.refl _ _) h2) k
theorem se_dnT {pos : Pos} : PE X (.Dict [] [] pos) (rdE G n0 eDnT) := by
  refine peI pe_dnewT fun σ H Q ⟨F, r, env, S, g, s, h⟩ => fun p hp => ?_
  obtain ⟨h2, k⟩ := new_obj s.hr hp (v := .dct (.t []) []) (ho := .dT []) ⟨[], ⟨rfl, rfl⟩, rfl⟩ rfl
  exact h F r _ _ (.refl _ _) (s.ext (.refl _ _) h2) k
def rSetG : TSet := fun o i v H Q => rSetL o i v H Q ∨ rSetD o i v H Q
theorem set_G (hu : X.A.units + 1 < cLine) : PSet X rSetG := by
  intro pins s σ H o i v ov iv u Q I ro ri rv h
  rcases h with h | h
  · exact set_list pins s σ H o i v ov iv u Q I ro ri rv h
  · exact set_dict hu pins s σ H o i v ov iv u Q I ro ri rv h
theorem store_dct {i : Nat} {u : V} {ks : DKs} {vs : List PV} (h : HR G n0 g F r S H) (q : RV G F r (.ref i) u) (e : S[i]? = some (.dct ks vs)) : ∃ a ho us, u = .ref a ∧ r[i]? = some a ∧ H a = some ho ∧ DR ho ks us ∧ RVs G F (lim n0 g.L r i) vs us := by
  obtain ⟨a, e1, rfl⟩ := q
  obtain ⟨ho, h1, us, d, k⟩ := h.obj i _ a e e1
  exact ⟨a, ho, us, rfl, e1, h1.nl rfl, d, k⟩
theorem chg_setG : ChgI G n0 (setG n0) rSetG := fun g F r S H o k v u y w S' Q h q1 q2 q3 e kk => by
  unfold setG at e
  split at e
  · rename_i i
    split at e
    · exact .inl (chg_setL g F r S H _ k v u y w S' Q h q1 q2 q3 e kk)
    · rename_i ks vs es
      cases ek : keyOf k with
      | none => simp only [ek] at e; cases e
      | some q =>
        simp only [ek] at e
        cases ep : dPut ks vs q v with
        | none => simp only [ep] at e; cases e
        | some z =>
          simp only [ep] at e
          split at e
          · rename_i hm
            cases e
            rw [Bool.and_eq_true] at hm
            obtain ⟨a, ho, us, rfl, e1, e2, d, k2⟩ := store_dct h q1 es
            have hw := put_rv hm.1 (L := g.L) q3
            have hl : us.length < sizeLine := by rw [← RVs.length k2]; exact small_lt hm.2
            cases ks with
            | k l =>
              obtain ⟨rfl, hll⟩ := d
              cases q with
              | t q => cases ep
              | k q =>
                have ep : some (DKs.k (putB eqK l vs q v).1, (putB eqK l vs q v).2) = some z := ep
                cases ep
                obtain ⟨us', p1, p2, p3⟩ := putB_ok eqK_ok (q := q) hw hll k2
                refine .inr ⟨a, _, rfl, .inl ⟨_, q, e2, keyOf_k q2 ek, by rw [List.length_zip, hll, Nat.min_self]; exact hl, rfl⟩, kk _ ?_⟩
                rw [p1]
                exact h.put e1 es rfl rfl ⟨us', ⟨rfl, p2⟩, p3⟩
            | t l =>
              obtain ⟨rfl, hll⟩ := d
              cases q with
              | k q => cases ep
              | t q =>
                have ep : some (DKs.t (putB eqKs l vs q v).1, (putB eqKs l vs q v).2) = some z := ep
                cases ep
                obtain ⟨b, rfl, eb⟩ := keyOf_t q2 ek
                obtain ⟨us', p1, p2, p3⟩ := putB_ok eqKs_ok (q := q) hw hll k2
                refine .inr ⟨a, _, rfl, .inr ⟨_, q, b, e2, rfl, h.sub.tpH eb, by rw [List.length_zip, hll, Nat.min_self]; exact hl, rfl⟩, kk _ ?_⟩
                rw [p1]
                exact h.put e1 es rfl rfl ⟨us', ⟨rfl, p2⟩, p3⟩
          · cases e
    · cases e
  · cases e
/-! o[k], by values: for o[k] op= v -/
def rGetG (K : PySem.W.Frag) : R2 := fun x y H Q => rIxDct x y H Q ∨ rIxL K x y H Q
theorem get_G (hu : X.A.units + 1 < cLine) : PGet X (rGetG X.K) := by
  intro pins s σ H x y v u Q I rx ry h
  rcases h with h | h
  · obtain ⟨a, z, rfl, gd, q⟩ := h
    cases (show v = Value.ref a from rx)
    exact d_getItem hu I gd ry fun w' s3 I3 rw' => ⟨z, H, I3, rw', q⟩
  · obtain ⟨p, xs, i, z, rfl, rfl, hq, he, q⟩ := h
    cases rx
    obtain ⟨t, rfl⟩ := ry
    obtain ⟨its, r, pl, hz⟩ := I.list hq
    obtain ⟨j, h1, h2, h3, h4, h5⟩ := atI_get he
    obtain ⟨w, ew, rw'⟩ := r.get h2
    have hl := r.length
    have hn := line63
    have fin : EP X pins σ Q w s := ⟨z, H, I, rw', q⟩
    by_cases h0 : 0 ≤ i
    · have hj : i.toNat = j := by
        rw [seqIndex_of h0 h5] at h1
        exact Option.some.inj h1
      exact wpAny_getItem_list pl.isList h0 (by omega) (by rw [hj]; simpa using ew) fin
    · have hj : (i + (its.toArray.size : Int)).toNat = j := by
        rw [seqIndex_neg (by omega) h4] at h1
        rw [List.size_toArray, ← hl]
        exact Option.some.inj h1
      exact wpAny_getItem_list_neg pl.isList (by omega) (by rw [List.size_toArray] <;> omega) (by omega) (by rw [hj]; simpa using ew) fin
theorem dIx_ok (h : HR G n0 g F r S H) {x y : PV} {u v : V} {z : Bool × PV} {Q : VK} (q1 : RV G F r x u) (q2 : RV G F r y v) (e : dIx x y S = some z) (k : ∀ F' r' H' w, Ext F F' r r' → HR G n0 g F' r' S H' → RF G g F' r' H' z.1 z.2 w → Q w H') : rIxDct u v H Q := by
  unfold dIx at e
  split at e
  · rename_i ks vs edr
    cases ek : keyOf y with
    | none => simp only [ek] at e; cases e
    | some kk =>
      simp only [ek] at e
      cases eg : dGet ks vs kk with
      | none => simp only [eg] at e; cases e
      | some o =>
        cases o with
        | none => simp only [eg] at e; cases e
        | some w =>
          simp only [eg] at e
          cases e
          obtain ⟨a', o', rfl, gd, y', rfl, rv⟩ := dGet_ok h q1 edr q2 ek eg
          exact ⟨a', y', rfl, gd, k F r H y' (.refl _ _) h rv⟩
  · cases e
theorem ok_get : Ok2 G oGet (rGetG G.K) := fun n0 g F r S H x y u v z Q h q1 q2 e k => by
  unfold oGet at e
  cases ed : dIx x y S with
  | some w =>
    simp only [ed] at e
    cases e
    exact .inl (dIx_ok h q1 q2 ed k)
  | none =>
    simp only [ed] at e
    split at e
    · rename_i xs edr
      split at e
      · rename_i i
        split at e
        · rename_i j ej
          cases ew : xs[j]? with
          | none => rw [ew] at e; cases e
          | some w =>
            rw [ew] at e
            cases e
            obtain ⟨a, us, rfl, k1, k2⟩ := view_lst h q1 edr
            obtain ⟨w', e1, q3⟩ := RVs.get k2 ew
            have ea : atI us i = some w' := by
              unfold atI
              rw [← RVs.length k2, ← ixP_eq, ej]
              exact e1
            cases (show v = V.int i from q2)
            exact .inr ⟨a, us, i, w', rfl, rfl, .inl k1, ea, k F r H w' (.refl F r) h q3⟩
        · cases e
      · cases e
    · cases e
/-! d.get(k, v) -/
theorem isD_ok (h : HR G n0 g F r S H) {v : PV} {u : V} (q : RV G F r v u) (e : isD S v = true) : ∃ a, u = .ref a ∧ IsD H a := by
  unfold isD at e
  split at e
  · rename_i ks vs ed
    obtain ⟨a, ho, us, rfl, k1, k2, k3⟩ := view_dct h q ed
    refine ⟨a, rfl, ?_⟩
    cases ks with
    | k l => obtain ⟨rfl, _⟩ := k2; exact .inl ⟨_, k1⟩
    | t l => obtain ⟨rfl, _⟩ := k2; exact .inr ⟨_, k1⟩
  · cases e
theorem se_get2 {o e f : Expr} {fo fe ff : SE} {apos cpos : Pos} {cf : CF} {k : Nat} (T : Tb X G cf k) (ho : PE X o (rdE G n0 fo)) (he : PE X e (rdE G n0 fe)) (hf : PE X f (rdE G n0 ff)) (m : M2 X o "get" apos e f cpos) : PE X (.Call (.Attribute o "get" apos) [e, f] [] cpos) (rdE G n0 (eGet2 fo fe ff)) := by
  refine peI (pe_dget2 (by have := T.room.un; omega) (toV ho) (toV he) (toV hf) m) fun σ H Q ⟨F, r, env, S, g, s, h⟩ => ?_
  refine stV s cnE h fun p S1 F1 r1 H1 u x1 s1 q1 h1 => ?_
  split at h1
  · rename_i hd
    obtain ⟨a, rfl, ia⟩ := isD_ok s1.hr q1 hd
    refine ⟨a, rfl, ia, ?_⟩
    refine stV s1 cnE h1 fun q S2 F2 r2 H2 v x2 s2 q2 h2 => ?_
    refine stV s2 cnE h2 fun z S3 F3 r3 H3 w x3 s3 q3 h3 => ?_
    cases ed : dG p.2 q.2 z.2 S3 with
    | none => simp only [ed] at h3; exact h3.elim
    | some y =>
      simp only [ed] at h3
      unfold dG at ed
      split at ed
      · rename_i ks vs edr
        cases ek : keyOf q.2 with
        | none => simp only [ek] at ed; cases ed
        | some kk =>
          simp only [ek] at ed
          cases eg : dGet ks vs kk with
          | none => simp only [eg] at ed; cases ed
          | some oo =>
            obtain ⟨a', o', e', gd, rv⟩ := dGet_ok s3.hr (q1.ext (x2.trans x3)) edr (q2.ext x3) ek eg
            cases e'
            refine ⟨o', gd, ?_⟩
            cases oo with
            | none =>
              simp only [eg] at ed
              cases ed
              rw [show o' = none from rv]
              exact h3 F3 r3 H3 w ((x1.trans x2).trans x3) s3 q3
            | some y' =>
              simp only [eg] at ed
              cases ed
              obtain ⟨u', rfl, rv⟩ := rv
              exact h3 F3 r3 H3 u' ((x1.trans x2).trans x3) s3 rv
      · cases ed
  · exact h1.elim
/-! a pair of names in a target of a store: o[k] = e in an unpacking is not told -/
theorem units2 {cf : CF} {k : Nat} (T : Tb X G cf k) : X.A.units + 1 < cLine := by
  have := T.room.un
  omega
end
end PX
set_option Elab.async false
set_option linter.all false
set_option maxRecDepth 100000
set_option maxHeartbeats 4000000
/-! sorted(set(xs)), len(set(xs)): ints of a list or a tuple -/
namespace L2
open PySem PySem.Spec PyProof.Rows
section
variable {P : Program} {w : World} {A : Around} {E : Value → Shared → Prop} {s : Shared}
set_option maxRecDepth 100000 in
set_option maxHeartbeats 3200000 in
theorem call_set_lstI {l : Addr} {items : Array Value} (ns : List Int) {Q : Value → Shared → Prop} (hh : A.handled = none) (hl : s.heap.IsList l items) (hit : IntsAre items.toList ns) (hb : ns.length + 1 < scanBound)
    (h : ∀ (h' : Heap) (tk c : Nat), SetR w h' s.heap.objs.size (fun j => decide (j ∈ ns)) c → c ≤ ns.length → (∀ b o, s.heap.get? b = some o → h'.get? b = some o) → Q (.ref s.heap.objs.size) { s with heap := h', toks := tk }) :
    wpAny (model P w) A (call (.type "set") [.ref l]) Q E s := by
  have hisz : items.size = ns.length := by
    have q := IntsAre.length hit
    rw [Array.length_toList] at q
    exact q
  obtain ⟨c, tl, hmro⟩ := F.called_set.mro
  have hmade := F.called_set.made
  have hsub := F.called_set.sub
  refine wpAny_call (codeAny_of_tree ?_)
  show wpAny _ _ (callAny (.type "set") _) _ _ _
  refine wpAny_pure ⟨Code.quiet_builtin _ (by decide +kernel), codeAny_builtin F.entry_type_call ?_⟩
  rw [Around.under_plain (weight_type_call_type "set" [.ref l] []) rfl]
  have h1 := F.called_set.notType
  have h2 := F.called_set.canCreate
  have hct := F.typeCall_set_1 (.ref l)
  repeat (any_goals (first | assumption | wp_step))

  refine codeAny_mono (code_set_led1 (.ref l) (E := E) (Q₁ := fun obj s₁ => obj = .ref s.heap.objs.size ∧ s₁ = { s with heap := s.heap.push { cls := .type "set", dict := none, data := .set #[] 0 (.fresh 0 0 (!w.params.followText "set-order")) } }) ⟨rfl, rfl⟩) fun r s₁ hr => ?_
  cases r with
  | error e => exact hr
  | ok fl =>
    cases fl with
    | ret obj =>
      obtain ⟨rfl, rfl⟩ := hr
      have hS : (s.heap.push { cls := .type "set", dict := none, data := .set #[] 0 (.fresh 0 0 (!w.params.followText "set-order")) }).get? s.heap.objs.size = some { cls := .type "set", dict := none, data := .set #[] 0 (.fresh 0 0 (!w.params.followText "set-order")) } := Heap.get?_push_size _ rfl
      have hT : Shared.TypeIs { s with heap := s.heap.push { cls := .type "set", dict := none, data := .set #[] 0 (.fresh 0 0 (!w.params.followText "set-order")) } } (.ref s.heap.objs.size) "set" := ⟨_, hS, rfl⟩
      have hli := F.called_set.init.lookup
      have hbi := F.called_set.init.bind (.ref s.heap.objs.size)
      repeat (any_goals (first | assumption | wp_step))

      refine codeAny_mono (codeAny_call_builtin (R := wants (fun r s₂ => r = .none ∧ ∃ h' tk c, s₂ = { s with heap := h', toks := tk } ∧ SetR w h' s.heap.objs.size (fun j => decide (j ∈ ns)) c ∧ c ≤ ns.length ∧
          (∀ b o, s.heap.get? b = some o → h'.get? b = some o)) E) F.called_set.init.plain F.entry_set_init (check_set_init_1 hT ?_)) fun r₂ s₂ hr₂ => ?_
      · obtain ⟨ol, hol, hcl, nl, hdl⟩ := hl
        obtain ⟨ocls, odict, odata, oslots⟩ := ol
        simp only at hcl hdl
        subst hcl; subst hdl
        have hol' : (s.heap.push { cls := .type "set", dict := none, data := .set #[] 0 (.fresh 0 0 (!w.params.followText "set-order")) }).get? l = some { cls := .type "list", dict := odict, data := .seq items nl, slots := oslots } := Heap.get?_push_of_some _ hol
        have hsls := F.sub_list_set
        have hslf := F.sub_list_frozenset
        have hne : (Value.type "list" == Value.type "dict") = false := by decide
        have hl1 : (s.heap.push { cls := .type "set", dict := none, data := .set #[] 0 (.fresh 0 0 (!w.params.followText "set-order")) }).IsList l items := ⟨_, hol', rfl, nl, rfl⟩
        unfold Builtin.«set.__init__» noKeywords Builtin.Frozenset.updateFrom
        generalize hPI : pyIter = PI
        wp_walk
        subst hPI

        refine wpAny_pyIter_list hl1 ?_
        refine wpAny_bind (wpAny_runValue ?_)
        have hlS : l < s.heap.objs.size := Heap.lt_size hol
        have hh3 : A.in1.in1.in1.handled = none := by simp [hh]
        have hz1 : (s.heap.push { cls := .type "set", dict := none, data := .set #[] 0 (.fresh 0 0 (!w.params.followText "set-order")) }).objs.size = s.heap.objs.size + 1 := Heap.size_push ..
        have hneI : l ≠ (s.heap.push { cls := .type "set", dict := none, data := .set #[] 0 (.fresh 0 0 (!w.params.followText "set-order")) }).objs.size := by
          rw [Heap.size_push]; exact Nat.ne_of_lt (Nat.lt_succ_of_lt hlS)
        have hSf : s.heap.objs.size ∉ [(s.heap.push { cls := .type "set", dict := none, data := .set #[] 0 (.fresh 0 0 (!w.params.followText "set-order")) }).objs.size, l] := by
          rw [Heap.size_push]; simp only [List.mem_cons, List.mem_singleton, List.not_mem_nil, or_false, not_or]
          exact ⟨Nat.ne_of_lt (Nat.lt_succ_self _), Nat.ne_of_gt hlS⟩
        have hval : ∀ (i : Nat) (v : Value), items[i]? = some v → ∃ k t, ns[i]? = some k ∧ v = .int k t := fun i v hv => by
          have hi : i < ns.length := by rw [← hisz]; exact (Array.getElem?_eq_some_iff.mp hv).1
          obtain ⟨t, e⟩ := PyProof.Rows.IntsAre.int_at hit i v (by rw [Array.getElem?_toList]; exact hv)
          refine ⟨ns[i], t, List.getElem?_eq_getElem hi, ?_⟩
          rw [e, List.getD_eq_getElem?_getD, List.getElem?_eq_getElem hi] <;> rfl
        refine set_update_ints ((Walks.list hh3 _ l hneI items).toS) s.heap.objs.size
          hSf ns hisz hb hval (items.size - 0) 0 _ (by omega) (Nat.zero_le _)
          ⟨⟨_, Heap.get?_push_size _ rfl, rfl, rfl⟩, (hl1.push _)⟩ ?hS0 ?hR
        case hS0 =>
          have hget : ((s.heap.push { cls := .type "set", dict := none, data := .set #[] 0 (.fresh 0 0 (!w.params.followText "set-order")) }).push { cls := .type "list_iterator", data := .fields #[.ref l, .int 0 0] }).get? s.heap.objs.size
              = some { cls := .type "set", dict := none, data := .set #[] 0 (.fresh 0 0 (!w.params.followText "set-order")) } := Heap.get?_push_of_some _ hS
          exact ⟨0, Nat.le_refl 0, setR_new_at hget⟩
        case hR =>
          intro s' c' hm hc' hS'
          obtain ⟨h', g2, d', tk', os'⟩ := s'
          have eg : g2 = s.gens := hm.gens
          have ed : d' = s.drawn := hm.drawn
          have eo : os' = s.os := hm.os
          subst eg; subst ed; subst eo
          show wpAny _ _ _ _ _ _
          refine wpAny_pure ?_
          show wpAny _ _ (ret Value.none) _ _ _
          rw [hisz] at hc'
          refine wpAny_pure ⟨rfl, h', tk', c', rfl, hS', hc', fun b o e => ?_⟩
          have hb0 : b < s.heap.objs.size := Heap.lt_size e
          have hb1 : b ≠ s.heap.objs.size := Nat.ne_of_lt hb0
          have hb2 : b ≠ (s.heap.push { cls := .type "set", dict := none, data := .set #[] 0 (.fresh 0 0 (!w.params.followText "set-order")) }).objs.size := by
            rw [Heap.size_push]; exact Nat.ne_of_lt (Nat.lt_succ_of_lt hb0)
          exact hm.heap b o (by simp only [List.mem_cons, List.mem_singleton, List.not_mem_nil, or_false, not_or]; exact ⟨hb1, hb2⟩) (Heap.get?_push_of_some _ (Heap.get?_push_of_some _ e))

      · cases r₂ with
        | error e => exact hr₂
        | ok fl₂ =>
          cases fl₂ with
          | ret r =>
            obtain ⟨rfl, h', tk, c', rfl, hS', hc', hk'⟩ := hr₂
            repeat (any_goals (first | assumption | wp_step))
            exact h _ _ _ hS' hc' hk'
          | _ => exact hr₂.elim
    | _ => exact hr.elim

end
end L2
set_option Elab.async false
set_option linter.all false
set_option maxRecDepth 100000
set_option maxHeartbeats 4000000
namespace L2
open PySem PySem.Spec PyProof.Rows
/-- set(xs) -/
def rSetI (K : PySem.W.Frag) (w : World) : List V → Hp → VK → Prop := fun vs H Q => ∃ (a : Addr) (ns : List Int), vs = [V.ref a] ∧ (SqL K H a (ns.map V.int) ∨ SqT K H a (ns.map V.int)) ∧ ns.length ≤ 4000 ∧
  ∀ (p : Addr) (c : Nat), (∀ ms : List Int, ms.Nodup → (∀ k, k ∈ ms ↔ k ∈ ns) → c = ms.length) → H p = none → Q (.ref p) (upd H p (SetO w p (fun j => decide (j ∈ ns)) c))
theorem cr_setI {X : Cx} (hc : X.calm = true) : CallR X (.type "set") (rSetI X.K X.w) := by
  intro pins s σ H vs us Q I r h
  obtain ⟨a, ns, rfl, hs, hl, q⟩ := h
  rw [Vals.ref1 r]
  have fin : ∀ (h' : Heap) (tk c : Nat), SetR X.w h' s.heap.objs.size (fun j => decide (j ∈ ns)) c → c ≤ ns.length → (∀ b o, s.heap.get? b = some o → h'.get? b = some o) → EP X pins σ Q (.ref s.heap.objs.size) { s with heap := h', toks := tk } := fun h' tk c R hcn k =>
    ⟨.ref s.heap.objs.size, _, I.laid k (Nat.le_refl _) (setO_new R), rfl, q _ c (fun ms nd hm => by
      obtain ⟨o, es, ep, t, ho, hex, hd, g, nd', hm', hb, hf, hn, _, _⟩ := R
      have e : es.size = (es.toList.map keyOf).length := by rw [List.length_map, Array.length_toList]
      rw [← hn, e]
      exact ((List.perm_ext_iff_of_nodup nd' nd).mpr fun z => by rw [← hm' z, hm z]; simp).length_eq) (I.hok.fresh (Nat.le_refl _))⟩
  rcases hs with hs | hs
  · obtain ⟨its, rv, pl, hz⟩ := I.list hs
    exact call_set_lstI ns (I.ok.hd hc) pl.isList (ints_of_vals rv) (by unfold scanBound; omega) fin
  · obtain ⟨its, rv, pt, hz⟩ := I.tuple hs
    exact call_set_tupI ns (I.ok.hd hc) (show s.heap.IsTuple a its.toArray from pt) (ints_of_vals rv) (by unfold scanBound; omega) fin
/-- len of a set -/
def rLenSet (w : World) : List V → Hp → VK → Prop := fun vs H Q => ∃ (a : Addr) (S : Int → Bool) (n : Nat), vs = [V.ref a] ∧ H a = some (SetO w a S n) ∧ ∀ ms : List Int, ms.Nodup → (∀ k, k ∈ ms ↔ S k = true) → Q (.int ms.length) H
theorem cr_lenSet {X : Cx} : CallR X (.builtin "len") (rLenSet X.w) := by
  intro pins s σ H vs us Q I r h
  obtain ⟨a, S, n, rfl, ha, q⟩ := h
  obtain ⟨o, es, ep, t, ho, hex, hd, g, nd, hm, hb, hf, hn, _, _⟩ := setO_get I ha
  rw [Vals.ref1 r]
  have e : es.size = (es.toList.map keyOf).length := by rw [List.length_map, Array.length_toList]
  refine call_len_set ho hex hd hf (by unfold scanBound at hb; omega) ⟨.int es.size, H, I.tok _, ⟨_, rfl⟩, ?_⟩
  rw [e]
  exact q _ nd fun k => (hm k).symm
end L2
namespace PX
open PySem PySem.Spec PyProof.Rows L2
theorem bind_as {α β γ : Type} (m : R α) (k : α → Store → R β) (l : β → Store → R γ) : (m.bind k).bind l = m.bind fun x S => (k x S).bind l := by cases m <;> rfl
/-! ### by values -/
def insU (x : Int) : List Int → List Int
  | [] => [x]
  | y :: ys => if x < y then x :: y :: ys else if x = y then y :: ys else y :: insU x ys
def srtU : List Int → List Int
  | [] => []
  | x :: xs => insU x (srtU xs)
theorem insU_mem (x z : Int) : ∀ ys : List Int, z ∈ insU x ys ↔ z = x ∨ z ∈ ys
  | [] => by simp [insU]
  | y :: ys => by
    unfold insU
    split
    · simp
    · split
      · rename_i h
        subst h
        simp
      · simp only [List.mem_cons, insU_mem x z ys]
        constructor
        · rintro (h | h | h)
          · exact .inr (.inl h)
          · exact .inl h
          · exact .inr (.inr h)
        · rintro (h | h | h)
          · exact .inr (.inl h)
          · exact .inl h
          · exact .inr (.inr h)
theorem insU_sorted (x : Int) : ∀ {ys : List Int}, ys.Pairwise (· < ·) → (insU x ys).Pairwise (· < ·)
  | [], _ => by simp [insU]
  | y :: ys, h => by
    have hc := List.pairwise_cons.mp h
    unfold insU
    split
    · rename_i hxy
      refine List.pairwise_cons.mpr ⟨fun z hz => ?_, h⟩
      rcases List.mem_cons.mp hz with e | hz
      · rw [e]; exact hxy
      · have := hc.1 z hz; omega
    · split
      · exact h
      · rename_i h1 h2
        refine List.pairwise_cons.mpr ⟨fun z hz => ?_, insU_sorted x hc.2⟩
        rcases (insU_mem x z ys).mp hz with e | hz
        · rw [e]; omega
        · exact hc.1 z hz
theorem srtU_mem (z : Int) : ∀ xs : List Int, z ∈ srtU xs ↔ z ∈ xs
  | [] => by simp [srtU]
  | x :: xs => by
    show z ∈ insU x (srtU xs) ↔ _
    rw [insU_mem, srtU_mem z xs, List.mem_cons]
theorem srtU_sorted : ∀ xs : List Int, (srtU xs).Pairwise (· < ·)
  | [] => .nil
  | x :: xs => insU_sorted x (srtU_sorted xs)
theorem uniq_lt : ∀ {xs ys : List Int}, xs.Pairwise (· < ·) → ys.Pairwise (· < ·) → (∀ z, z ∈ xs ↔ z ∈ ys) → xs = ys
  | [], [], _, _, _ => rfl
  | [], y :: ys, _, _, h => absurd ((h y).mpr List.mem_cons_self) (by simp)
  | x :: xs, [], _, _, h => absurd ((h x).mp List.mem_cons_self) (by simp)
  | x :: xs, y :: ys, h1, h2, h => by
    have c1 := List.pairwise_cons.mp h1
    have c2 := List.pairwise_cons.mp h2
    have e : x = y := by
      rcases List.mem_cons.mp ((h x).mp List.mem_cons_self) with e | h3
      · exact e
      · rcases List.mem_cons.mp ((h y).mpr List.mem_cons_self) with e | h4
        · exact e.symm
        · have := c2.1 x h3
          have := c1.1 y h4
          omega
    subst e
    congr 1
    refine uniq_lt c1.2 c2.2 fun z => ⟨fun hz => ?_, fun hz => ?_⟩
    · rcases List.mem_cons.mp ((h z).mp (List.mem_cons_of_mem _ hz)) with e | h3
      · have := c1.1 z hz; omega
      · exact h3
    · rcases List.mem_cons.mp ((h z).mpr (List.mem_cons_of_mem _ hz)) with e | h3
      · have := c2.1 z hz; omega
      · exact h3
theorem nodup_len : ∀ {xs ys : List Int}, xs.Nodup → ys.Nodup → (∀ z, z ∈ xs ↔ z ∈ ys) → xs.length = ys.length := fun {xs ys} h1 h2 h => ((List.perm_ext_iff_of_nodup h1 h2).mpr h).length_eq
def bSset : OpN := fun xs S => match xs with
  | [v] => match itemsOf S v with
    | some ws => match intsOf ws with
      | some ns => if Nat.ble ns.length 4000 && Nat.ble (srtU ns).length 63 then some (true, .lst ((srtU ns).map .int)) else none
      | none => none
    | none => none
  | _ => none
def bLset : OpN := fun xs S => match xs with
  | [v] => match itemsOf S v with
    | some ws => match intsOf ws with
      | some ns => if Nat.ble ns.length 4000 then some (false, .int ((srtU ns).length : Nat)) else none
      | none => none
    | none => none
  | _ => none
section
variable {X : Cx} {G : Gam} {n0 : Nat}
theorem ints_seq {n0 : Nat} {g : Gh} {F : Hp} {r : List Addr} {S : Store} {H : Hp} {v : PV} {u : V} {ws : List PV} {ns : List Int} (h : HR G n0 g F r S H) (q : RV G F r v u) (e : itemsOf S v = some ws) (en : intsOf ws = some ns) : ∃ a, u = .ref a ∧ (SqL G.K H a (ns.map V.int) ∨ SqT G.K H a (ns.map V.int)) := by
  obtain ⟨a, us, rfl, hs, rv⟩ := view_seq h q e
  rw [intsOf_eq en] at rv
  rw [RVs.ints rv] at hs
  exact ⟨a, rfl, hs⟩
theorem nodup_srtU (ns : List Int) : (srtU ns).Nodup := (srtU_sorted ns).imp fun h => Int.ne_of_lt h
theorem se_sset {e : Expr} {fe : SE} {p p2 pos pos2 : Pos} {cf : CF} {k : Nat} (T : Tb X G cf k) (hl : Gl X "sorted") (hml : X.mg "sorted" = none) (hg : Gl X "set") (hm : X.mg "set" = none) (he : PE X e (rdE G n0 fe)) (hs : starEach [e] X.env = (false, eval e X.env) :: starEach [] X.env := by rfl)
    (na : starEach [.Call (.Name "set" p2) [e] [] pos2] X.env = (false, eval (.Call (.Name "set" p2) [e] [] pos2) X.env) :: starEach [] X.env := by rfl) : PE X (.Call (.Name "sorted" p) [.Call (.Name "set" p2) [e] [] pos2] [] pos) (rdE G n0 (eArg bSset (aCons fe aNil))) := by
  refine peI (pe_callB (cr_sortedSet T.calm) hl hml (by rfl) (pa_cons (pe_callTy (cr_setI T.calm) hg hm (by rfl) (pa_cons (toV he) pa_nil hs) (he := hs)) pa_nil na) (he := na)) fun σ H Q ⟨F, r, env, S, g, s, h⟩ => ?_
  have h : PoE G n0 g F r env σ (((fe env S).bind fun p S1 => R.ok [p.2] S1).bind fun q S2 => ofO (bSset q S2) S2) Q := h
  rw [bind_as] at h
  refine stV s cnE h fun p S1 F1 r1 H1 u x1 s1 q1 h1 => ?_
  have h1 : PoE G n0 g F r env σ (ofO (bSset [p.2] S1) S1) Q := h1
  cases eb : bSset [p.2] S1 with
  | none => rw [eb] at h1; exact h1.elim
  | some z =>
    rw [eb] at h1
    simp only [bSset] at eb
    split at eb
    · rename_i ws ei
      split at eb
      · rename_i ns en
        split at eb
        · rename_i hb
          cases eb
          rw [Bool.and_eq_true] at hb
          obtain ⟨a, rfl, hq⟩ := ints_seq s1.hr q1 ei en
          refine ⟨a, ns, rfl, T.hK ▸ hq, Nat.le_of_ble_eq_true hb.1, fun q c hc hH => ?_⟩
          have hlen := hc (srtU ns) (nodup_srtU ns) fun k => srtU_mem k ns
          refine ⟨q, _, c, rfl, upd_same, by have := Nat.le_of_ble_eq_true hb.2; omega, fun ms p' hms hmem _ hp' => ?_⟩
          have e : ms = srtU ns := uniq_lt hms (srtU_sorted ns) fun z => by rw [hmem z, srtU_mem]; simp
          subst e
          have h2 := s1.hr.heap (H' := upd H1 q (SetO X.w q (fun j => decide (j ∈ ns)) c)) fun b o eo => by rw [upd_ne (ne_of_none eo hH)]; exact eo
          obtain ⟨h3, k3⟩ := new_obj h2 hp' (v := .lst ((srtU ns).map .int)) ⟨_, rfl, RVs.of_ints _⟩ rfl
          exact h1 F1 r1 _ _ x1 (s1.ext (.refl _ _) h3) k3
        · cases eb
      · cases eb
    · cases eb
theorem se_lset {e : Expr} {fe : SE} {p p2 pos pos2 : Pos} {cf : CF} {k : Nat} (T : Tb X G cf k) (hl : Gl X "len") (hml : X.mg "len" = none) (hg : Gl X "set") (hm : X.mg "set" = none) (he : PE X e (rdE G n0 fe)) (hs : starEach [e] X.env = (false, eval e X.env) :: starEach [] X.env := by rfl)
    (na : starEach [.Call (.Name "set" p2) [e] [] pos2] X.env = (false, eval (.Call (.Name "set" p2) [e] [] pos2) X.env) :: starEach [] X.env := by rfl) : PE X (.Call (.Name "len" p) [.Call (.Name "set" p2) [e] [] pos2] [] pos) (rdE G n0 (eArg bLset (aCons fe aNil))) := by
  refine peI (pe_callB cr_lenSet hl hml (by rfl) (pa_cons (pe_callTy (cr_setI T.calm) hg hm (by rfl) (pa_cons (toV he) pa_nil hs) (he := hs)) pa_nil na) (he := na)) fun σ H Q ⟨F, r, env, S, g, s, h⟩ => ?_
  have h : PoE G n0 g F r env σ (((fe env S).bind fun p S1 => R.ok [p.2] S1).bind fun q S2 => ofO (bLset q S2) S2) Q := h
  rw [bind_as] at h
  refine stV s cnE h fun p S1 F1 r1 H1 u x1 s1 q1 h1 => ?_
  have h1 : PoE G n0 g F r env σ (ofO (bLset [p.2] S1) S1) Q := h1
  cases eb : bLset [p.2] S1 with
  | none => rw [eb] at h1; exact h1.elim
  | some z =>
    rw [eb] at h1
    simp only [bLset] at eb
    split at eb
    · rename_i ws ei
      split at eb
      · rename_i ns en
        split at eb
        · rename_i hb
          cases eb
          obtain ⟨a, rfl, hq⟩ := ints_seq s1.hr q1 ei en
          refine ⟨a, ns, rfl, T.hK ▸ hq, Nat.le_of_ble_eq_true hb, fun q c hc hH => ?_⟩
          refine ⟨q, _, c, rfl, upd_same, fun ms nd hmem => ?_⟩
          have e : ms.length = (srtU ns).length := nodup_len nd (nodup_srtU ns) fun z => by rw [hmem z, srtU_mem]; simp
          rw [e]
          have h2 := s1.hr.heap (H' := upd H1 q (SetO X.w q (fun j => decide (j ∈ ns)) c)) fun b o eo => by rw [upd_ne (ne_of_none eo hH)]; exact eo
          exact h1 F1 r1 _ _ x1 (s1.ext (.refl _ _) h2) rfl
        · cases eb
      · cases eb
    · cases eb
end
end PX
set_option Elab.async false
set_option linter.all false
set_option maxRecDepth 100000
set_option maxHeartbeats 4000000
/-! sorted of a tuple of ints -/
namespace SrtO
open PySem PyProof.Rows Srt
section
variable {prog : Program} {w : World} {A : Around} {E : Value → Shared → Prop} {s : Shared}
theorem collect_tup {l : Addr} {vs : List Value} {Q : List Value → Shared → Prop} (hl : s.heap.IsTuple l vs.toArray)
    (h : Q vs { s with heap := (s.heap.push (seqObj "list" #[] 0)).update s.heap.objs.size (Obj.mapSeq (· ++ vs.toArray)) }) (hsz : vs.length ≤ sizeLine) :
    wpAny (model prog w) A (collect (.ref l)) Q E s := by
  obtain ⟨o, ho, hc, n, hd⟩ := id hl
  unfold collect
  refine wpAny_bind (wpAny_runValue (codeAny_builtin entry_proto_collect' ?_))
  show wpAny _ _ (do again (.builtin "list.__iadd__" ⟨[← newList [], .ref l], []⟩)) _ _ s
  refine wpAny_bind (wpAny_newList (wpAny_pure ⟨Code.quiet_builtin _ (by decide +kernel), codeAny_builtin entry_list_iadd' ?_⟩))
  show wpAny _ _ (Builtin.List.listExtendWith (.ref s.heap.objs.size) (.ref l) (.ref s.heap.objs.size)) _ _ { s with heap := s.heap.push (seqObj "list" #[] 0) }
  unfold Builtin.List.listExtendWith
  have ho' : (s.heap.push (seqObj "list" #[] 0)).get? l = some o := Heap.get?_push_of_some _ ho
  refine wpAny_bind (wpAny_typeOf (T := "tuple") ⟨o, ho', hc⟩ ?_)
  have ht : (Value.type "tuple" == Value.type "tuple") = true := by rfl
  rw [if_pos (by rw [ht]; simp)]
  refine wpAny_bind (listItems_at ho' hd ?_)
  refine wpAny_bind (listItems_at (xs := #[]) (n := 0) (Heap.get?_push_size _ rfl) rfl ?_)
  rw [if_neg (by simp)]
  refine wpAny_bind (listUpdate_at (xs := #[]) (n := 0) (Heap.get?_push_size _ rfl) rfl ?_ (Nat.zero_le _) (by show (#[] ++ vs.toArray).size ≤ sizeLine + 1; simp only [Array.size_append, List.size_toArray, List.length_nil]; omega))
  refine wpAny_pure ?_
  show wpAny (model prog w) A (do
      let o ← load s.heap.objs.size
      match o.data with
      | .seq xs _ => pure xs.toList
      | _ => unsupported "internal:collect") Q E { s with heap := (s.heap.push (seqObj "list" #[] 0)).update s.heap.objs.size (Obj.mapSeq (· ++ vs.toArray)) }
  refine wpAny_bind (wpAny_load (get?_update_seq (Heap.get?_push_size _ rfl) _) ?_)
  show wpAny _ _ (pure ((#[] : Array Value) ++ vs.toArray).toList) Q E _
  rw [show ((#[] : Array Value) ++ vs.toArray).toList = vs by simp]
  exact wpAny_pure h
theorem sorted_ordT {l : Addr} {vs : List Value} {ltv : Value → Value → Bool} {Q : Value → Shared → Prop} (O : Swo ltv) (hl : s.heap.IsTuple l vs.toArray) (hz : vs.length ≤ sizeLine)
    (hS : 2 ≤ vs.length → ∀ (h₁ : Heap) (a : Addr), h₁.get? a = some (seqObj "list" vs.toArray 0) → (∀ b o, s.heap.get? b = some o → b ≠ a ∧ h₁.get? b = some o) → SortableO prog w A.in1.in1 { s with heap := h₁ } a vs ltv)
    (h : ∀ out : List Value, Srtd ltv out → Stb ltv out vs → Q (.ref (s.heap.objs.size + 1)) { s with heap := sortedAll s.heap vs out.toArray }) :
    wpAny (model prog w) A (call (.builtin "sorted") [.ref l]) Q E s := by
  refine Calls.call_function_entry kind_sorted plain_sorted entry_sorted (args_sorted1 _) ?_
  unfold Builtin.«sorted»
  refine wpAny_bind (m := checkCount "sorted" 1 1 _) (wpAny_pure ?_)
  refine wpAny_bind (collect_tup hl ?_ hz)
  refine wpAny_bind (wpAny_newList ?_ hz)
  have hsz : ((s.heap.push (seqObj "list" #[] 0)).update s.heap.objs.size (Obj.mapSeq (· ++ vs.toArray))).objs.size = s.heap.objs.size + 1 := by
    rw [Heap.size_update, size_push']
  have hoL : (((s.heap.push (seqObj "list" #[] 0)).update s.heap.objs.size (Obj.mapSeq (· ++ vs.toArray))).push (seqObj "list" vs.toArray 0)).get? (s.heap.objs.size + 1) = some (seqObj "list" vs.toArray 0) := by
    rw [← hsz]; exact Heap.get?_push_size _ rfl
  have keep : ∀ b o, s.heap.get? b = some o → b ≠ s.heap.objs.size + 1 ∧ (((s.heap.push (seqObj "list" #[] 0)).update s.heap.objs.size (Obj.mapSeq (· ++ vs.toArray))).push (seqObj "list" vs.toArray 0)).get? b = some o := fun b o q => by
    have hlt : b < s.heap.objs.size := Heap.lt_size q
    refine ⟨Nat.ne_of_lt (Nat.lt_succ_of_lt hlt), Heap.get?_push_of_some _ ?_⟩
    rw [Heap.get?_update_ne _ _ _ _ (Nat.ne_of_lt hlt)]
    exact Heap.get?_push_of_some _ q
  show wpAny _ _ _ _ _ { s with heap := ((s.heap.push (seqObj "list" #[] 0)).update s.heap.objs.size (Obj.mapSeq (· ++ vs.toArray))).push (seqObj "list" vs.toArray 0) }
  rw [hsz]
  refine wpAny_bind (wpAny_holding (wpAny_call_entry slot_list_sort ⟨_, hoL, rfl⟩ entry_list_sort (list_sort_ord O hoL hz (fun h2 => hS h2 _ _ hoL keep) fun out hs hb => ⟨_, rfl, ?_⟩) (args_list_sort _)))
  exact wpAny_pure ⟨_, rfl, h out hs hb⟩
end
end SrtO
namespace SrtR
open PySem PyProof.Rows Srt SrtO
section
variable {prog : Program} {w : World} {A : Around} {E : Value → Shared → Prop} {s : Shared}
theorem sorted_ordKT {l : Addr} {vs : List Value} {b : Bool} {kw : List (Str × Value)} {ltv : Value → Value → Bool} {Q : Value → Shared → Prop} (hk : ∀ a, Builtin.«list.sort» ⟨[.ref a], kw⟩ = Builtin.«list.sort» ⟨[.ref a], [(Str.ofString "reverse", .bool b)]⟩)
    (ha1 : argsOk "sorted" ⟨[.ref l], kw⟩) (ha2 : ∀ a, argsOk "list.sort" ⟨[a], kw⟩) (O : Swo ltv) (hl : s.heap.IsTuple l vs.toArray) (hz : vs.length ≤ sizeLine)
    (hS : 2 ≤ vs.length → ∀ (h₁ : Heap) (a : Addr), h₁.get? a = some (seqObj "list" vs.toArray 0) → (∀ b o, s.heap.get? b = some o → b ≠ a ∧ h₁.get? b = some o) → SortableO prog w A.in1.in1 { s with heap := h₁ } a vs ltv)
    (h : ∀ out : List Value, Srtd ltv out → Stb ltv out (if b = true then vs.reverse else vs) → Q (.ref (s.heap.objs.size + 1)) { s with heap := sortedAll s.heap vs (if b = true then out.toArray.reverse else out.toArray) }) :
    wpAny (model prog w) A (call (.builtin "sorted") [.ref l] kw) Q E s := by
  refine call_function_entry_kw kind_sorted plain_sorted entry_sorted ha1 ?_
  unfold Builtin.«sorted»
  refine wpAny_bind (m := checkCount "sorted" 1 1 _) (wpAny_pure ?_)
  refine wpAny_bind (collect_tup hl ?_ hz)
  refine wpAny_bind (wpAny_newList ?_ hz)
  have hsz : ((s.heap.push (seqObj "list" #[] 0)).update s.heap.objs.size (Obj.mapSeq (· ++ vs.toArray))).objs.size = s.heap.objs.size + 1 := by
    rw [Heap.size_update, size_push']
  have hoL : (((s.heap.push (seqObj "list" #[] 0)).update s.heap.objs.size (Obj.mapSeq (· ++ vs.toArray))).push (seqObj "list" vs.toArray 0)).get? (s.heap.objs.size + 1) = some (seqObj "list" vs.toArray 0) := by
    rw [← hsz]; exact Heap.get?_push_size _ rfl
  have keep : ∀ b o, s.heap.get? b = some o → b ≠ s.heap.objs.size + 1 ∧ (((s.heap.push (seqObj "list" #[] 0)).update s.heap.objs.size (Obj.mapSeq (· ++ vs.toArray))).push (seqObj "list" vs.toArray 0)).get? b = some o := fun b o q => by
    have hlt : b < s.heap.objs.size := Heap.lt_size q
    refine ⟨Nat.ne_of_lt (Nat.lt_succ_of_lt hlt), Heap.get?_push_of_some _ ?_⟩
    rw [Heap.get?_update_ne _ _ _ _ (Nat.ne_of_lt hlt)]
    exact Heap.get?_push_of_some _ q
  show wpAny _ _ _ _ _ { s with heap := ((s.heap.push (seqObj "list" #[] 0)).update s.heap.objs.size (Obj.mapSeq (· ++ vs.toArray))).push (seqObj "list" vs.toArray 0) }
  rw [hsz]
  refine wpAny_bind (wpAny_holding (wpAny_call_entry_kw slot_list_sort ⟨_, hoL, rfl⟩ entry_list_sort ?_ (ha2 _)))
  rw [hk]
  refine list_sort_ordR O hoL hz (fun h2 => hS h2 _ _ hoL keep) fun out hs hb => ⟨_, rfl, ?_⟩
  exact wpAny_pure ⟨_, rfl, h out hs hb⟩
end
end SrtR
namespace L2
open PySem PySem.Spec PyProof.Rows
def rSortedIT (K : PySem.W.Frag) : List V → Hp → VK → Prop := fun vs H Q => ∃ (a : Addr) (ns : List Int), vs = [V.ref a] ∧ SqT K H a (ns.map V.int) ∧
  ∀ (ns' : List Int) (p : Addr), ns'.Perm ns → ns'.Pairwise (· ≤ ·) → H p = none → Q (.ref p) (upd H p (.lst (ns'.map V.int)))
section
variable {X : Cx}
theorem cr_sortedIT : CallR X (.builtin "sorted") (rSortedIT X.K) := by
  intro pins s σ H vs us Q I r h
  obtain ⟨a, ns, rfl, hs, q⟩ := h
  obtain ⟨its, rv, hl, hz⟩ := I.tuple hs
  rw [Vals.ref1 r]
  have hi := rv.ints
  refine SrtO.sorted_ordT SrtO.swo_int (show s.heap.IsTuple a its.toArray from hl) (by rw [← rv.length]; exact hz) (fun h2 h₁ a' _ _ => SrtO.ints_sortable hi h2) fun out h1 h2 => ?_
  obtain ⟨k1, k2, k3⟩ := SrtO.ints_out hi h1 h2
  obtain ⟨ep, he'⟩ := PyProof.Rows.sortedAll_at s.heap its out.toArray
  have hlen : ((out.map SrtO.iv).map V.int).length ≤ sizeLine := by
    rw [List.length_map, k2.length_eq]
    rw [List.length_map] at hz
    exact hz
  exact ⟨.ref _, upd H (s.heap.objs.size + 1) (.lst ((out.map SrtO.iv).map V.int)), I.laid (t' := s.toks) (fun _ _ => PyProof.Rows.sortedAll_old) (Nat.le_succ _) ⟨hlen, out, ep, vals_of_ints k1, he'⟩, rfl, q _ _ k2 k3 (I.hok.fresh (Nat.le_succ _))⟩
theorem sorted_runT {b : Bool} {kw : List (Str × Value)} {pins : List (Addr × Obj)} {s : Shared} {σ : St} {H : Hp} {a : Addr} {ns : List Int} {Q : VK} (I : Inv X pins σ H s) (hs : SqT X.K H a (ns.map V.int))
    (hk : ∀ a, Builtin.«list.sort» ⟨[.ref a], kw⟩ = Builtin.«list.sort» ⟨[.ref a], [(Str.ofString "reverse", .bool b)]⟩) (ha1 : argsOk "sorted" ⟨[.ref a], kw⟩) (ha2 : ∀ a, argsOk "list.sort" ⟨[a], kw⟩)
    (q : ∀ (ns' : List Int) (p : Addr), ns'.Perm ns → OrdB b ns' → H p = none → Q (.ref p) (upd H p (.lst (ns'.map V.int)))) : wpAny (model X.prog X.w) X.A (call (.builtin "sorted") [.ref a] kw) (EP X pins σ Q) X.xe s := by
  obtain ⟨its, rv, hl, hz⟩ := I.tuple hs
  have hi := rv.ints
  refine SrtR.sorted_ordKT hk ha1 ha2 SrtO.swo_int (show s.heap.IsTuple a its.toArray from hl) (by rw [← rv.length]; exact hz) (fun h2 h₁ a' _ _ => SrtO.ints_sortable hi h2) fun out h1 h2 => ?_
  obtain ⟨ns', k1, k2, k3⟩ := SrtR.ints_outR hi h1 h2
  obtain ⟨ep, he'⟩ := PyProof.Rows.sortedAll_at s.heap its (if b = true then out.toArray.reverse else out.toArray)
  have hlen : (ns'.map V.int).length ≤ sizeLine := by
    rw [List.length_map, k2.length_eq]
    rw [List.length_map] at hz
    exact hz
  have e0 : ((if b = true then out.toArray.reverse else out.toArray).toList).toArray = (if b = true then out.toArray.reverse else out.toArray) := by rw [Array.toArray_toList]
  exact ⟨.ref _, upd H (s.heap.objs.size + 1) (.lst (ns'.map V.int)), I.laid (t' := s.toks) (fun _ _ => PyProof.Rows.sortedAll_old) (Nat.le_succ _) ⟨hlen, _, ep, vals_of_ints k1, by rw [e0]; exact he'⟩, rfl, q _ _ k2 k3 (I.hok.fresh (Nat.le_succ _))⟩

/-- sorted(xs, reverse=b): a list or a tuple -/
def rSortedR (K : PySem.W.Frag) (b : Bool) : List V → List V → Hp → VK → Prop := fun vs zs H Q => ∃ (a : Addr) (ns : List Int), vs = [V.ref a] ∧ zs = [.bl b] ∧ (SqL K H a (ns.map V.int) ∨ SqT K H a (ns.map V.int)) ∧
  ∀ (ns' : List Int) (p : Addr), ns'.Perm ns → OrdB b ns' → H p = none → Q (.ref p) (upd H p (.lst (ns'.map V.int)))
theorem cr_sortedR {b : Bool} : CallRK X (.builtin "sorted") [Str.ofString "reverse"] (rSortedR X.K b) := by
  intro pins s σ H vs zs us ws Q I r rz h
  obtain ⟨a, ns, rfl, rfl, hs, q⟩ := h
  obtain rfl := Vals.ref1 r
  obtain ⟨w1, rfl, e1⟩ := vals1 rz
  obtain rfl : w1 = Value.bool b := e1
  rcases hs with hs | hs
  · exact sorted_run I hs (fun _ => rfl) (PyProof.Rows.args_sorted_rev _ _) (fun _ => PyProof.Rows.args_list_sort_rev _ _) q
  · exact sorted_runT I hs (fun _ => rfl) (PyProof.Rows.args_sorted_rev _ _) (fun _ => PyProof.Rows.args_list_sort_rev _ _) q
end
end L2
set_option Elab.async false
set_option linter.all false
set_option maxRecDepth 100000
set_option maxHeartbeats 4000000
namespace PX
open PySem PySem.Spec PyProof.Rows L2
/-! ### a tuple of something, times an int above 0 -/
theorem tuple_mul1 (l : Addr) (items : Array Value) (n : Nat) (dd : Option Addr) (sl : Array (Option Value)) (u : Tok) :
    Meets (Builtin.«tuple.__mul__» ⟨[.ref l, .int 1 u], []⟩) (fun _ R s => s.heap.get? l = some { cls := .type "tuple", dict := dd, data := .seq items n, slots := sl } ∧ R (.ok (.ret (Value.ref l))) s) :=
  .of_wp fun prog w A R s h => by
    obtain ⟨hp, g, d, tk, os⟩ := s
    obtain ⟨hl, h⟩ := h
    have f1 := AutoSeq1.idx_int
    have c1 : (items.isEmpty || (1 : Int) == 1) = true := by simp
    wp_walk using wpAny_loadPart' hl
    repeat (first
      | (refine wpAny_ite_false (decide_eq_false (by decide)) ?_; wp_walk using wpAny_loadPart' hl)
      | (refine wpAny_ite_true (decide_eq_true (by rw [c1])) ?_; wp_walk using wpAny_loadPart' hl))
    exact ⟨_, rfl, h⟩
def rRepTT (K : PySem.W.Frag) : R2 := fun x y H Q => rRepT K x y H Q ∨ ∃ l xs, x = .ref l ∧ y = .int 1 ∧ SqT K H l xs ∧ Q (.ref l) H
section
variable {X : Cx} {G : Gam}
theorem op_repTT : OpR X (binaryOp .Mult) (rRepTT X.K) := by
  intro pins s σ H x y v u Q I rx ry h
  rcases h with h | h
  · exact op_repT pins s σ H x y v u Q I rx ry h
  · obtain ⟨l, xs, rfl, rfl, hT, q⟩ := h
    cases rx
    obtain ⟨t, rfl⟩ := ry
    obtain ⟨its, r, ⟨⟨cls, dd, data, sl⟩, ho, hc, n, hd⟩, hs⟩ := I.tuple hT
    simp only at hc hd
    subst hc hd
    refine wpAny_binaryOp_repeat_ref (T := "tuple") (U := "int") (by decide) ⟨_, ho, rfl⟩ (fun s' => typeIs_int s' 1 t) noFill_tuple_mul F.fills_int_mul F.slot_int_rmul repeat_tuple F.slot_int_index.lookup
      (call_meets F.slot_int_rmul (typeIs_int s 1 t) F.entry_int_rmul (F.args_int_rmul_2 _ _) (int_rmul_tuple 1 t l its.toArray n dd sl)
        ⟨ho, rfl, ⟨_, ho, rfl⟩, call_meets F.slot_tuple_mul ⟨_, ho, rfl⟩ F.entry_tuple_mul (F.args_tuple_mul_2 _ _) (tuple_mul1 l its.toArray n dd sl t) ⟨ho, ?_⟩⟩)
    exact ⟨.ref l, H, I, rfl, q⟩
def oRepT : Op2 := fun x y _ => match y with
  | .int k => match x with
    | .tup (v :: vs) => if decide (1 ≤ k ∧ k ≤ 1000) && Nat.ble vs.length 900 then some (false, .tup (List.replicate k.toNat (v :: vs)).flatten) else none
    | _ => none
  | _ => none
theorem ok_repT : Ok2 G oRepT (rRepTT G.K) := fun n0 g F r S H x y u v z Q h q1 q2 e k => by
  unfold oRepT at e
  split at e
  · rename_i m
    split at e
    · rename_i w ws
      split at e
      · rename_i hz
        cases e
        simp only [Bool.and_eq_true, decide_eq_true_eq] at hz
        obtain ⟨a, us, rfl, k1, k2⟩ := view_tup h q1 (xs := w :: ws) rfl
        have hlen : us.length ≤ 901 := by
          rw [← RVs.length k2, List.length_cons]
          have := Nat.le_of_ble_eq_true hz.2
          omega
        by_cases h1 : m = 1
        · subst h1
          refine .inr ⟨a, us, rfl, q2, k1, ?_⟩
          refine k F r H _ (.refl F r) h ?_
          have e1 : (List.replicate (1 : Int).toNat (w :: ws)).flatten = w :: ws := by
            show ([w :: ws]).flatten = _
            simp
          rw [e1]
          exact q1
        · refine .inl ⟨a, m, us, rfl, q2, k1, fun e0 => ?_, by omega, by omega, by omega, fun p hp => ?_⟩
          · have := RVs.length k2
            rw [e0] at this
            simp at this
          · obtain ⟨F4, x4, h4, k4⟩ := new_tup h hp (k2.rep m.toNat)
            exact k F4 r _ _ x4 h4 k4
      · cases e
    · cases e
  · cases e
end
end PX
set_option Elab.async false
set_option linter.all false
set_option maxRecDepth 100000
set_option maxHeartbeats 4000000
/-! t[::-1], t a tuple with something in it -/
namespace HT
open PySem PySem.Spec PyProof.Rows L2
section
variable {prog : Program} {w : World} {A : Around} {E : Value → Shared → Prop} {s : Shared}
theorem sliceApplied_rev {sl : Addr} {vl vu vs : Value} {n : Nat} {Q : Int × Int × Nat → Shared → Prop} (hs : s.heap.IsSliceOf sl vl vu vs) (pl : IsPart vl none) (pu : IsPart vu none) (ps : IsPart vs (some (-1)))
    (h : Q ((n : Int) - 1, -1, n) s) : wpAny (model prog w) A (Builtin.Slice.sliceApplied (.ref sl) (pure (n : Int))) Q E s := by
  obtain ⟨os, hos, hcs, hds⟩ := id hs
  unfold Builtin.Slice.sliceApplied Builtin.Slice.sliceFields
  refine wpAny_bind (wpAny_bind (wpAny_field hos hds (x := vl) rfl (wpAny_bind (wpAny_field hos hds (x := vu) rfl (wpAny_bind (wpAny_field hos hds (x := vs) rfl (wpAny_pure ?_)))))))
  refine wpAny_bind (slicePart_ ps ?_)
  show wpAny _ _ (if ((-1 : Int) == 0) = true then _ else _) _ _ s
  rw [if_neg (by decide)]
  refine wpAny_bind (slicePart_ pl (wpAny_bind (slicePart_ pu (wpAny_bind (wpAny_pure ?_)))))
  show wpAny _ _ (match Builtin.Slice.sliceAdjust none none (-1) (n : Int) with | (lo, hi) => pure (lo, (-1 : Int), Builtin.Slice.slicePlaces lo hi (-1))) _ _ s
  have e1 : Builtin.Slice.sliceAdjust none none (-1) (n : Int) = ((n : Int) - 1, -1) := by
    unfold Builtin.Slice.sliceAdjust
    simp
  rw [e1]
  show wpAny _ _ (pure ((n : Int) - 1, (-1 : Int), Builtin.Slice.slicePlaces ((n : Int) - 1) (-1) (-1))) _ _ s
  have e2 : Builtin.Slice.slicePlaces ((n : Int) - 1) (-1) (-1) = n := by
    unfold Builtin.Slice.slicePlaces
    simp
    omega
  rw [e2]
  exact wpAny_pure h
theorem pick_rev (xs : Array Value) : ((List.range xs.size).filterMap fun (m : Nat) => xs[((xs.size : Int) - 1 + (m : Int) * (-1)).toNat]?).toArray = xs.toList.reverse.toArray := by
  congr 1
  refine List.ext_getElem? fun i => ?_
  have e : (List.range xs.size).filterMap (fun (m : Nat) => xs[((xs.size : Int) - 1 + (m : Int) * (-1)).toNat]?) = (List.range xs.size).map fun m => xs.toList.reverse.getD m .none := by
    have key : ∀ l : List Nat, (∀ m ∈ l, m < xs.size) → l.filterMap (fun (m : Nat) => xs[((xs.size : Int) - 1 + (m : Int) * (-1)).toNat]?) = l.map fun m => xs.toList.reverse.getD m .none := by
      intro l
      induction l with
      | nil => intro _; rfl
      | cons m l ih =>
        intro h
        have hm := h m List.mem_cons_self
        have e1 : ((xs.size : Int) - 1 + (m : Int) * (-1)).toNat = xs.size - 1 - m := by omega
        have e2 : xs[xs.size - 1 - m]? = some (xs.toList.reverse.getD m .none) := by
          have h3 : xs.size - 1 - m < xs.size := by omega
          rw [Array.getElem?_eq_getElem h3, List.getD_eq_getElem?_getD, List.getElem?_reverse (by rw [Array.length_toList]; exact hm), Array.length_toList, Array.getElem?_toList, Array.getElem?_eq_getElem h3]
          rfl
        rw [List.filterMap_cons, e1, e2, List.map_cons, ih fun k hk => h k (List.mem_cons_of_mem _ hk)]
    exact key _ fun m hm => List.mem_range.mp hm
  rw [e, List.getElem?_map]
  by_cases hi : i < xs.size
  · rw [List.getElem?_range hi]
    show some (xs.toList.reverse.getD i .none) = _
    rw [List.getD_eq_getElem?_getD, List.getElem?_eq_getElem (by rw [List.length_reverse, Array.length_toList]; exact hi)]
    rfl
  · rw [List.getElem?_eq_none (by rw [List.length_range]; omega), List.getElem?_eq_none (by rw [List.length_reverse, Array.length_toList]; omega)]
    rfl
theorem getItem_tuple_rev {t sl : Addr} {items : Array Value} {vl vu vs : Value} {Q : Value → Shared → Prop} (ht : IsTup s.heap t items) (hs : s.heap.IsSliceOf sl vl vu vs) (pl : IsPart vl none) (pu : IsPart vu none) (ps : IsPart vs (some (-1)))
    (h : Q (.ref s.heap.objs.size) { s with heap := s.heap.push { cls := .type "tuple", data := .seq items.toList.reverse.toArray } })
    (hsz : items.size ≤ sizeLine) : wpAny (model prog w) A (getItem (.ref t) (.ref sl)) Q E s := by
  have htake : sizeOk (.seq items.toList.reverse.toArray) := by
    show items.toList.reverse.toArray.size ≤ sizeLine
    rw [List.size_toArray, List.length_reverse, Array.length_toList]
    exact hsz
  obtain ⟨os, hos, hcs, hds⟩ := id hs
  have hTs : s.TypeIs (.ref sl) "slice" := ⟨os, hos, hcs⟩
  unfold getItem
  try with_reducible refine wpAny_holding ?_
  first | refine wpAny_bind (wpAny_pure ?_) | skip
  refine wpAny_bind (wpAny_sequenceKey ht.typeIs (by decide) ?_)
  refine wpAny_bind (wpAny_callSpecial?_slot (name := Str.ofString "__getitem__") ht.typeIs PyProof.Rows.slot_tuple_getitem
    (wpAny_call_entry PyProof.Rows.slot_tuple_getitem ht.typeIs entry_tuple_getitem ?_ (args_tuple_getitem _ _)))
  show wpAny _ _ (Builtin.Tuple.tupleItemsOf (.ref t) >>= _) _ _ s
  refine wpAny_bind (tupleItemsOf_ ht ?_)
  refine wpAny_bind (wpAny_typeOf hTs ?_)
  rw [if_pos (by decide)]
  refine wpAny_bind (sliceApplied_rev hs pl pu ps ?_)
  have hno : ¬ ((((items.size : Int) - 1) == 0 && (-1 : Int) == 1 && items.size == items.size) = true) := by
    simp
  show wpAny _ _ (if (((items.size : Int) - 1) == 0 && (-1 : Int) == 1 && items.size == items.size) = true then _ else _) _ _ s
  rw [if_neg hno, pick_rev]
  first
    | exact wpAny_bind (m := Builtin.Tuple.tupleExact _) (wpAny_newObj_type (wpAny_pure ⟨_, rfl, wpAny_pure h⟩) htake)
    | exact wpAny_bind (m := Builtin.Tuple.tupleExact _) (wpAny_newObj_type (wpAny_bind (wpAny_pure (wpAny_pure ⟨_, rfl, wpAny_pure h⟩))) htake)
    | exact wpAny_bind (wpAny_bind (m := Builtin.Tuple.tupleExact _) (wpAny_newObj_type (wpAny_pure (wpAny_pure ⟨_, rfl, wpAny_pure h⟩)) htake))
    | exact wpAny_bind (wpAny_bind (m := Builtin.Tuple.tupleExact _) (wpAny_newObj_type (wpAny_pure ⟨_, rfl, wpAny_pure h⟩) htake))
end
end HT
namespace PX
open PySem PySem.Spec PyProof.Rows L2
def tRevG (K : PySem.W.Frag) (te : TE) : TE := fun σ H Q => te σ H fun x H1 => ∃ a xs, x = .ref a ∧ ((SqL K H1 a xs ∧ ∀ p, H1 p = none → Q (.ref p) (upd H1 p (.lst xs.reverse))) ∨ (SqT K H1 a xs ∧ ∀ p, H1 p = none → Q (.ref p) (upd H1 p (.tup xs.reverse))))
section
variable {X : Cx} {G : Gam} {n0 : Nat}
theorem pe_revG {e : Expr} {te : TE} {k : Nat} {p1 p2 p3 pos : Pos} (he : PE X e te) : PE X (.Subscript e (.Slice none none (some (.UnaryOp .USub (.Constant (.int 1) k p1) p2)) p3) pos) (tRevG X.K te) := by
  refine ⟨fun pins s σ H Q I h => ?_⟩
  refine Subscript_ (thn (he.run pins s σ H _ I h) fun v s1 ⟨x, H1, I1, r1, q1⟩ => ?_)
  obtain ⟨a, xs, ex, hq⟩ := q1
  subst ex
  cases r1
  have hst : PO X (some (.UnaryOp .USub (.Constant (.int 1) k p1) p2)) (tPart (tUn (rU fun i => .int (-i)) (tC (.int 1)))) := po_some (pe_un un_neg pe_int)
  refine wpAny_Slice (thn (po_none.run pins s1 σ H1 (fun o H2 => o = none ∧ H2 = H1) I1 ⟨rfl, rfl⟩) fun vl s2 ⟨l, H2, I2, pl, el, e2⟩ => ?_)
  subst el e2
  refine thn (po_none.run pins s2 σ H2 (fun o H3 => o = none ∧ H3 = H2) I2 ⟨rfl, rfl⟩) fun vu s3 ⟨u, H3, I3, pu, eu, e3⟩ => ?_
  subst eu e3
  refine thn (hst.run pins s3 σ H3 (fun o H4 => o = some (-1) ∧ H4 = H3) I3 ⟨1, rfl, -1, rfl, rfl, rfl⟩) fun vs s4 ⟨o, H4, I4, ps, eo, e4⟩ => ?_
  subst eo e4
  have I5 : Inv X pins σ H4 { s4 with heap := s4.heap.push { cls := .type "slice", data := .fields #[vl, vu, vs] } } := I4.kept (t' := s4.toks) fun b ob q => Heap.get?_push_of_some _ q
  rcases hq with ⟨hx, q⟩ | ⟨hx, q⟩
  · obtain ⟨its, r, ht, hz⟩ := I5.list hx
    have hlen := r.length
    show wpAny (model X.prog X.w) X.A (subscriptTail e (.Slice none none (some (.UnaryOp .USub (.Constant (.int 1) k p1) p2)) p3) (.ref a) (.ref s4.heap.objs.size)) (EP X pins σ Q) X.xe { s4 with heap := s4.heap.push { cls := .type "slice", data := .fields #[vl, vu, vs] } }
    refine tail_any (ops := [.ref a, .ref s4.heap.objs.size]) ht.isList.typeIs (PySem.slot_list_getitem.lookup) ?_ (by with_unfolding_all rfl)
    refine wpAny_getItem_list_slice ht.isList (Heap.IsSliceOf.new _ vl vu vs) pl pu ps (by decide) ?_ (by rw [List.size_toArray]; omega)
    rw [PySem.W.krv_pick]
    refine ⟨.ref _, _, I5.laid (t' := s4.toks) (o := .lst xs.reverse) (fun b ob q => Heap.get?_push_of_some _ q) (Nat.le_refl _) ?_, rfl, q _ (I5.hok.fresh (Nat.le_refl _))⟩
    exact ⟨by rw [List.length_reverse]; exact hz, _, 0, r.reverse, Heap.get?_push_size _ rfl⟩
  · obtain ⟨its, r, ht, hz⟩ := I5.tuple hx
    have hlen := r.length
    show wpAny (model X.prog X.w) X.A (subscriptTail e (.Slice none none (some (.UnaryOp .USub (.Constant (.int 1) k p1) p2)) p3) (.ref a) (.ref s4.heap.objs.size)) (EP X pins σ Q) X.xe { s4 with heap := s4.heap.push { cls := .type "slice", data := .fields #[vl, vu, vs] } }
    refine tail_any (ops := [.ref a, .ref s4.heap.objs.size]) ht.typeIs (PyProof.Rows.slot_tuple_getitem.lookup) ?_ (by with_unfolding_all rfl)
    refine HT.getItem_tuple_rev ht (Heap.IsSliceOf.new _ vl vu vs) pl pu ps ?_ (by rw [List.size_toArray]; omega)
    refine ⟨.ref _, _, I5.laid (t' := s4.toks) (o := .tup xs.reverse) (fun b ob q => Heap.get?_push_of_some _ q) (Nat.le_refl _) ?_, rfl, q _ (I5.hok.fresh (Nat.le_refl _))⟩
    exact ⟨by rw [List.length_reverse]; exact hz, _, r.reverse, IsTup.new _ _⟩
def eRev2 (a : SE) : SE := fun env S => (a env S).bind fun p S1 => match deref S1 p.2 with
  | some (.lst xs) => .ok (true, .lst xs.reverse) S1
  | some (.tup xs) => .ok (false, .tup xs.reverse) S1
  | _ => .no
theorem se_rev2 {e : Expr} {fe : SE} {kk : Nat} {p1 p2 p3 pos : Pos} (hK : G.K = X.K) (he : PE X e (rdE G n0 fe)) : PE X (.Subscript e (.Slice none none (some (.UnaryOp .USub (.Constant (.int 1) kk p1) p2)) p3) pos) (rdE G n0 (eRev2 fe)) := by
  refine se_of (pe_revG (toV he)) fun σ H Q ⟨F, r, env, S, g, s, h⟩ => ?_
  refine stV s cnE h fun p S1 F1 r1 H1 u x1 s1 q1 h1 => ?_
  cases el : deref S1 p.2 with
  | none => simp only [el] at h1; exact h1.elim
  | some d =>
    simp only [el] at h1
    split at h1
    · rename_i xs ex
      cases ex
      obtain ⟨a, us, rfl, k1, k2⟩ := view_lst s1.hr q1 el
      refine ⟨a, us, rfl, .inl ⟨.inl k1, fun p' hp => ?_⟩⟩
      obtain ⟨h2, k3⟩ := new_obj s1.hr hp (v := .lst xs.reverse) ⟨_, rfl, k2.rev⟩ rfl
      exact h1 F1 r1 _ _ x1 (s1.ext (.refl _ _) h2) k3
    · rename_i xs ex
      cases ex
      obtain ⟨a, us, rfl, k1, k2⟩ := view_tup s1.hr q1 el
      refine ⟨a, us, rfl, .inr ⟨hK ▸ k1, fun p' hp => ?_⟩⟩
      obtain ⟨F4, x4, h4, k4⟩ := new_tup s1.hr hp k2.rev
      exact h1 F4 _ _ _ (x1.trans x4) (s1.ext x4 h4) k4
    · exact h1.elim
end
end PX
set_option Elab.async false
set_option linter.all false
set_option maxRecDepth 100000
set_option maxHeartbeats 1000000
/-! is, is not of two bools -/
namespace PX
open PySem PySem.Spec PyProof.Rows L2
def oIsB : Op2 := fun x y _ => match x, y with
  | .bl a, .bl b => some (false, .bl (decide (a = b)))
  | _, _ => none
def oNotB : Op2 := fun x y _ => match x, y with
  | .bl a, .bl b => some (false, .bl (!decide (a = b)))
  | _, _ => none
section
variable {G : Gam}
theorem ok_isB : Ok2 G oIsB (fun x y H Q => ∃ a b, x = .bl a ∧ y = .bl b ∧ Q (.bl (decide (a = b))) H) := fun n0 g F r S H x y u v z Q h q1 q2 e k => by
  unfold oIsB at e
  split at e
  · rename_i a b
    cases e
    have q1 : u = .bl a := q1
    have q2 : v = .bl b := q2
    exact ⟨a, b, q1, q2, k F r _ _ (.refl F r) h rfl⟩
  · cases e
theorem ok_notB : Ok2 G oNotB (fun x y H Q => ∃ a b, x = .bl a ∧ y = .bl b ∧ Q (.bl (!decide (a = b))) H) := fun n0 g F r S H x y u v z Q h q1 q2 e k => by
  unfold oNotB at e
  split at e
  · rename_i a b
    cases e
    have q1 : u = .bl a := q1
    have q2 : v = .bl b := q2
    exact ⟨a, b, q1, q2, k F r _ _ (.refl F r) h rfl⟩
  · cases e
end
end PX
set_option Elab.async false
set_option linter.all false
set_option maxRecDepth 100000
set_option maxHeartbeats 2000000
/-! zip of three, any mix of lists and tuples -/
namespace ZG
open PySem RZ
section
variable {prog : Program} {w : World} {A : Around} {E : Value → Shared → Prop} {s : Shared}
theorem begins_sq (b : Bool) (l : Addr) (items : Array Value) : Begins (.ref l) (itObj b l) fun h => SqOb b h l items := by
  cases b with
  | true => exact begins_tuple l items
  | false => exact begins_list l items
theorem z3_end {b1 b2 b3 : Bool} {z TI TO i1 i2 i3 l1 l2 l3 : Addr} {k : Nat} {xs ys zs : Array Value} {a1 a2 a3 : Value} {Q : Fin → Shared → Prop} (hh : A.handled = none) (S : ZipSep3 z TI TO i1 i2 i3 [i1, l1] [i2, l2] [i3, l3])
    (hz : IsZip s.heap z TI TO .none) (hTI : IsTupOf3 s.heap TI (.ref i1) (.ref i2) (.ref i3)) (hTO : IsTupOf3 s.heap TO a1 a2 a3)
    (h1 : SqIt b1 s.heap i1 l1 k) (h2 : SqIt b2 s.heap i2 l2 k) (h3 : SqIt b3 s.heap i3 l3 k) (hl1 : SqOb b1 s.heap l1 xs) (hl2 : SqOb b2 s.heap l2 ys) (hl3 : SqOb b3 s.heap l3 zs) (hend : xs[k]? = none ∨ ys[k]? = none ∨ zs[k]? = none)
    (hE : ∀ h' e, (∀ c o, c ≠ z → c ≠ TO → c ≠ i1 → c ≠ i2 → c ≠ i3 → s.heap.get? c = some o → h'.get? c = some o) → (∃ o, h'.get? e = some o ∧ o.cls = .type "StopIteration") → E (.ref e) { s with heap := h' }) :
    wpAny (model prog w) A (Builtin.«zip.__next__» ⟨[.ref z], []⟩) Q E s := by
  have l1z : l1 ≠ z := fun e => S.zf1 (by simp [e])
  have l2z : l2 ≠ z := fun e => S.zf2 (by simp [e])
  have l3z : l3 ≠ z := fun e => S.zf3 (by simp [e])
  have l1T : l1 ≠ TO := fun e => S.Tf1 (by simp [e])
  have l2T : l2 ≠ TO := fun e => S.Tf2 (by simp [e])
  have l3T : l3 ≠ TO := fun e => S.Tf3 (by simp [e])
  have i1z := S.zi1.symm
  have i2z := S.zi2.symm
  have i3z := S.zi3.symm
  have i12 : i1 ≠ i2 := fun e => S.sep1_2 (by simp [e])
  have i13 : i1 ≠ i3 := fun e => S.sep1_3 (by simp [e])
  have i23 : i2 ≠ i3 := fun e => S.sep2_3 (by simp [e])
  have l2i1 : l2 ≠ i1 := fun e => S.sep1_2 (by simp [e])
  have l3i1 : l3 ≠ i1 := fun e => S.sep1_3 (by simp [e])
  have l3i2 : l3 ≠ i2 := fun e => S.sep2_3 (by simp [e])
  show wpAny _ _ (field (.ref z) 2 >>= _) _ _ _
  refine wpAny_bind (wpAny_field hz rfl (x := .bool false) rfl ?_)
  show wpAny _ _ (field (.ref z) 3 >>= _) _ _ _
  refine wpAny_bind (wpAny_field hz rfl (x := .ref TI) rfl ?_)
  refine wpAny_bind (wpAny_seqItems hTI rfl ?_)
  show wpAny _ _ (Builtin.SmallTypes.ownedTupleIsFree (.ref z) >>= _) _ _ _
  refine wpAny_bind ?_
  unfold Builtin.SmallTypes.ownedTupleIsFree
  refine wpAny_bind (wpAny_field hz rfl (x := .none) rfl (wpAny_pure ?_))
  simp only [if_true]
  refine wpAny_bind (wpAny_rule ?_)
  refine wpAny_bind (wpAny_field hz rfl (x := .ref TO) rfl ?_)
  refine wpAny_bind (wpAny_setField_rec hz (by simp) fun h₁ hz₁ hs₁ => ?_)
  replace hz₁ : IsZip h₁ z TI TO .ellipsis := hz₁
  refine wpAny_bind ?_
  simp only [List.zipIdx_cons, List.zipIdx_nil, List.forIn_cons, List.forIn_nil]
  refine wpAny_bind (wpAny_bind (wpAny_onRaise ?_))
  show wpAny _ _ (Builtin.SmallTypes.nextOf (.ref i1) >>= _) _ _ _
  cases hx : xs[k]? with
  | none =>
    refine wpAny_bind (nextOf_end hh (h1.extBut hs₁.extBut i1z) (hl1.extBut hs₁.extBut l1z) hx fun h₂ e hs₂ he => ?_)
    obtain ⟨oe, hoe, hce⟩ := he
    have hz₂ : IsZip h₂ z TI TO .ellipsis := hs₂ _ _ i1z.symm hz₁
    have hez : e ≠ z := fun x => by subst x; rw [hz₂] at hoe; cases hoe; simp at hce
    refine wpAny_setField_rec hz₂ (by simp) fun h₃ _ hs₃ => hE h₃ e (fun c o c1 _ c3 _ _ x => hs₃.extBut _ _ c1 (hs₂ _ _ c3 (hs₁.extBut _ _ c1 x))) ⟨oe, hs₃.extBut _ _ hez hoe, hce⟩
  | some x =>
    have hend : ys[k]? = none ∨ zs[k]? = none := by rcases hend with h | h; rw [hx] at h; cases h; exact h
    refine wpAny_bind (nextOf_item (h1.extBut hs₁.extBut i1z) (hl1.extBut hs₁.extBut l1z) hx fun h₂ h1₂ hs₂ => wpAny_pure ?_)
    have hTO₂ : IsTupOf3 h₂ TO a1 a2 a3 := hs₂.extBut _ _ S.Ti1 (hs₁.extBut _ _ S.TOz hTO)
    refine wpAny_bind (wpAny_seqItems hTO₂ rfl ?_)
    refine wpAny_bind (updateSeq_IsTupOf3 hTO₂ fun h₃ hTO₃ hs₃ => ?_)
    replace hTO₃ : IsTupOf3 h₃ TO x a2 a3 := hTO₃
    refine wpAny_bind (wpAny_letGo (wpAny_pure ?_))
    refine wpAny_bind (wpAny_bind (wpAny_onRaise ?_))
    show wpAny _ _ (Builtin.SmallTypes.nextOf (.ref i2) >>= _) _ _ _
    have h2₃ : SqIt b2 h₃ i2 l2 k := ((h2.extBut hs₁.extBut i2z).extBut hs₂.extBut i12.symm).extBut hs₃.extBut S.Ti2.symm
    have hl2₃ : SqOb b2 h₃ l2 ys := ((hl2.extBut hs₁.extBut l2z).extBut hs₂.extBut l2i1).extBut hs₃.extBut l2T
    have hz₃ : IsZip h₃ z TI TO .ellipsis := hs₃.extBut _ _ S.TOz.symm (hs₂.extBut _ _ i1z.symm hz₁)
    have hk₃ : ∀ c o, c ≠ z → c ≠ TO → c ≠ i1 → s.heap.get? c = some o → h₃.get? c = some o := fun c o c1 c2 c3 q => hs₃.extBut _ _ c2 (hs₂.extBut _ _ c3 (hs₁.extBut _ _ c1 q))
    cases hy : ys[k]? with
    | none =>
      refine wpAny_bind (nextOf_end hh h2₃ hl2₃ hy fun h₄ e hs₄ he => ?_)
      obtain ⟨oe, hoe, hce⟩ := he
      have hz₄ : IsZip h₄ z TI TO .ellipsis := hs₄ _ _ i2z.symm hz₃
      have hez : e ≠ z := fun x => by subst x; rw [hz₄] at hoe; cases hoe; simp at hce
      refine wpAny_setField_rec hz₄ (by simp) fun h₅ _ hs₅ => hE h₅ e (fun c o c1 c2 c3 c4 _ x => hs₅.extBut _ _ c1 (hs₄ _ _ c4 (hk₃ c o c1 c2 c3 x))) ⟨oe, hs₅.extBut _ _ hez hoe, hce⟩
    | some y =>
      have hzz : zs[k]? = none := by rcases hend with h | h; rw [hy] at h; cases h; exact h
      refine wpAny_bind (nextOf_item h2₃ hl2₃ hy fun h₄ h2₄ hs₄ => wpAny_pure ?_)
      have hTO₄ : IsTupOf3 h₄ TO x a2 a3 := hs₄.extBut _ _ S.Ti2 hTO₃
      refine wpAny_bind (wpAny_seqItems hTO₄ rfl ?_)
      refine wpAny_bind (updateSeq_IsTupOf3 hTO₄ fun h₅ hTO₅ hs₅ => ?_)
      refine wpAny_bind (wpAny_letGo (wpAny_pure ?_))
      refine wpAny_bind (wpAny_bind (wpAny_onRaise ?_))
      show wpAny _ _ (Builtin.SmallTypes.nextOf (.ref i3) >>= _) _ _ _
      have hk₅ : ∀ c o, c ≠ z → c ≠ TO → c ≠ i1 → c ≠ i2 → s.heap.get? c = some o → h₅.get? c = some o := fun c o c1 c2 c3 c4 q => hs₅.extBut _ _ c2 (hs₄.extBut _ _ c4 (hk₃ c o c1 c2 c3 q))
      have hz₅ : IsZip h₅ z TI TO .ellipsis := hs₅.extBut _ _ S.TOz.symm (hs₄.extBut _ _ i2z.symm hz₃)
      refine wpAny_bind (nextOf_end hh (h3.at_ fun o q => hk₅ _ o i3z S.Ti3.symm i13.symm i23.symm q) (l := l3) (items := zs) (by
        cases b3 with
        | true => exact Heap.IsTuple.at hl3 fun o q => hk₅ l3 o l3z l3T l3i1 l3i2 q
        | false => exact Heap.IsList.at hl3 fun o q => hk₅ l3 o l3z l3T l3i1 l3i2 q) hzz fun h₆ e hs₆ he => ?_)
      obtain ⟨oe, hoe, hce⟩ := he
      have hz₆ : IsZip h₆ z TI TO .ellipsis := hs₆ _ _ i3z.symm hz₅
      have hez : e ≠ z := fun x => by subst x; rw [hz₆] at hoe; cases hoe; simp at hce
      refine wpAny_setField_rec hz₆ (by simp) fun h₇ _ hs₇ => hE h₇ e (fun c o c1 c2 c3 c4 c5 x => hs₇.extBut _ _ c1 (hs₆ _ _ c5 (hk₅ c o c1 c2 c3 c4 x))) ⟨oe, hs₇.extBut _ _ hez hoe, hce⟩
theorem pyNext_z3_end {b1 b2 b3 : Bool} {z TI TO i1 i2 i3 l1 l2 l3 : Addr} {k : Nat} {xs ys zs : Array Value} {a1 a2 a3 : Value} {Q : Option Value → Shared → Prop} (hh : A.handled = none) (S : ZipSep3 z TI TO i1 i2 i3 [i1, l1] [i2, l2] [i3, l3])
    (hz : IsZip s.heap z TI TO .none) (hTI : IsTupOf3 s.heap TI (.ref i1) (.ref i2) (.ref i3)) (hTO : IsTupOf3 s.heap TO a1 a2 a3)
    (h1 : SqIt b1 s.heap i1 l1 k) (h2 : SqIt b2 s.heap i2 l2 k) (h3 : SqIt b3 s.heap i3 l3 k) (hl1 : SqOb b1 s.heap l1 xs) (hl2 : SqOb b2 s.heap l2 ys) (hl3 : SqOb b3 s.heap l3 zs) (hend : xs[k]? = none ∨ ys[k]? = none ∨ zs[k]? = none)
    (hQ : ∀ h', (∀ c o, c ≠ z → c ≠ TO → c ≠ i1 → c ≠ i2 → c ≠ i3 → s.heap.get? c = some o → h'.get? c = some o) → Q none { s with heap := h' }) : wpAny (model prog w) A (pyNext (.ref z)) Q E s := by
  have hT : s.TypeIs (.ref z) "zip" := ⟨_, hz, rfl⟩
  unfold pyNext
  refine wpAny_bind (wpAny_attempt (wpAny_callSpecial?_slot (name := Str.ofString "__next__") hT F.slot_zip_next
    (wpAny_call_entry F.slot_zip_next hT F.entry_zip_next (z3_end hh S hz hTI hTO h1 h2 h3 hl1 hl2 hl3 hend fun h' e hk he => ?_) (F.args_zip_next_1 _))))
  obtain ⟨o, ho, hc⟩ := he
  refine wpAny_bind (wpAny_isInstance (T := "StopIteration") (b := true) ⟨o, ho, hc⟩ isSubtype_stop ?_)
  exact wpAny_pure (hQ _ hk)
theorem neA {a b : Nat} (h : a < b ∨ b < a) : (a : Addr) ≠ b := fun e => by
  have e : (a : Nat) = b := e
  omega
theorem nm2 {a b c : Nat} (h : a < b ∨ b < a) (h2 : a < c ∨ c < a) : (a : Addr) ∉ ([b, c] : List Addr) := fun e => by
  rcases List.mem_cons.mp e with e | e
  · exact neA h e
  · exact neA h2 (List.mem_singleton.mp e)
theorem sep3 {n l1 l2 l3 : Nat} (h1 : l1 < n) (h2 : l2 < n) (h3 : l3 < n) : ZipSep3 (n + 5) (n + 3) (n + 4) n (n + 1) (n + 2) [n, l1] [n + 1, l2] [n + 2, l3] := by
  constructor <;> first | exact List.mem_cons_self | (refine neA ?_; omega) | (refine nm2 ?_ ?_ <;> omega)
end
end ZG
namespace PX
open PySem PySem.Spec PyProof.Rows L2 ZG
def Itz3 (K : PySem.W.Frag) (b1 b2 b3 : Bool) (a b c : Addr) : It :=
  ⟨fun i H => ∃ (xs ys zs : List V) (x y z : V), SqG b1 K H a xs ∧ SqG b2 K H b ys ∧ SqG b3 K H c zs ∧ xs[i]? = some x ∧ ys[i]? = some y ∧ zs[i]? = some z,
    fun i H v H' => ∃ T x y z, v = .ref T ∧ H T = none ∧ H' = upd H T (.tup [x, y, z]) ∧ (∀ xs, SqG b1 K H a xs → xs[i]? = some x) ∧ (∀ ys, SqG b2 K H b ys → ys[i]? = some y) ∧ ∀ zs, SqG b3 K H c zs → zs[i]? = some z,
    fun i H => ∃ xs ys zs : List V, SqG b1 K H a xs ∧ SqG b2 K H b ys ∧ SqG b3 K H c zs ∧ (xs.length ≤ i ∨ ys.length ≤ i ∨ zs.length ≤ i)⟩
theorem turn_z3 {P : Program} {w : World} {K : PySem.W.Frag} {elts : List Expr} {kk : Nat} {tpos : Pos} (b1 b2 b3 : Bool) {a b c z TI TO i1 i2 i3 : Addr} (D : ZipSep3 z TI TO i1 i2 i3 [i1, a] [i2, b] [i3, c]) (ha : a ≠ i1) (hb : b ≠ i2) (hcc : c ≠ i3) :
    Turn P w K (.Tuple elts kk tpos) (Itz3 K b1 b2 b3 a b c) [z, TI, TO, i1, i2, i3] z (fun i h => IsZip h z TI TO .none ∧ IsTupOf3 h TI (.ref i1) (.ref i2) (.ref i3) ∧ (∃ x y u, IsTupOf3 h TO x y u) ∧ SqIt b1 h i1 a i ∧ SqIt b2 h i2 b i ∧ SqIt b3 h i3 c i) where
  mem := by simp
  obj := fun i h st d hc => by
    obtain ⟨hz, hTI, ⟨x, y, u, hTO⟩, h1, h2, h3⟩ := st
    have e' : d = z ∨ d = TI ∨ d = TO ∨ d = i1 ∨ d = i2 ∨ d = i3 := by simpa using hc
    rcases e' with q | q | q | q | q | q
    · rw [q]; exact ⟨_, hz, fun v q => nomatch q⟩
    · rw [q]; exact ⟨_, hTI, fun v q => nomatch q⟩
    · rw [q]; exact ⟨_, hTO, fun v q => nomatch q⟩
    · rw [q]
      obtain ⟨o1, _, e1, d1⟩ := h1.obj
      exact ⟨o1, e1, fun v q => by rw [d1] at q; cases q⟩
    · rw [q]
      obtain ⟨o1, _, e1, d1⟩ := h2.obj
      exact ⟨o1, e1, fun v q => by rw [d1] at q; cases q⟩
    · rw [q]
      obtain ⟨o1, _, e1, d1⟩ := h3.obj
      exact ⟨o1, e1, fun v q => by rw [d1] at q; cases q⟩
  keep := fun i h h' st k => by
    obtain ⟨hz, hTI, ⟨x, y, u, hTO⟩, h1, h2, h3⟩ := st
    exact ⟨k z (by simp) _ hz, k TI (by simp) _ hTI, ⟨x, y, u, k TO (by simp) _ hTO⟩, h1.at_ fun o q => k i1 (by simp) o q, h2.at_ fun o q => k i2 (by simp) o q, h3.at_ fun o q => k i3 (by simp) o q⟩
  item := by
    intro X hP hw hK hc i pins s σ H E I hf st hg
    subst hP hw hK
    obtain ⟨hz, hTI, ⟨x0, y0, u0, hTO⟩, h1, h2, h3⟩ := st
    obtain ⟨xs, ys, zs, x, y, u, hqx, hqy, hqz, hx, hy, hu⟩ := hg
    obtain ⟨its, rv, p, _⟩ := Inv.sqG I hqx
    obtain ⟨its2, rv2, p2, _⟩ := Inv.sqG I hqy
    obtain ⟨its3, rv3, p3, _⟩ := Inv.sqG I hqz
    obtain ⟨v1, hv1, rv1⟩ := rv.get hx
    obtain ⟨v2, hv2, rv2'⟩ := rv2.get hy
    obtain ⟨v3, hv3, rv3'⟩ := rv3.get hu
    have hzl : z < s.heap.objs.size := Heap.lt_size hz
    have n1 : i < its.toArray.size := by have := (List.getElem?_eq_some_iff.mp hv1).1; simpa using this
    have n2 : i < its2.toArray.size := by have := (List.getElem?_eq_some_iff.mp hv2).1; simpa using this
    have n3 : i < its3.toArray.size := by have := (List.getElem?_eq_some_iff.mp hv3).1; simpa using this
    refine wpAny_pyNext_zipD3_item D (drawsG (A := X.A.in1) (I.ok.hd hc) b1 i1 a ha its.toArray) (drawsG (A := X.A.in1) (I.ok.hd hc) b2 i2 b hb its2.toArray) (drawsG (A := X.A.in1) (I.ok.hd hc) b3 i3 c hcc its3.toArray) hz hTI hTO ⟨h1, p⟩ ⟨h2, p2⟩ ⟨h3, p3⟩ n1 n2 n3 fun u1 u2 u3 h' tk y1 y2 y3 z' TO' h1' h2' h3' hT hsz hk => ?_
    have e1 : u1 = v1 := by
      have y1 : its.toArray[i]? = some u1 := y1
      rw [List.getElem?_toArray, hv1] at y1
      exact (Option.some.inj y1).symm
    have e2 : u2 = v2 := by
      have y2 : its2.toArray[i]? = some u2 := y2
      rw [List.getElem?_toArray, hv2] at y2
      exact (Option.some.inj y2).symm
    have e3 : u3 = v3 := by
      have y3 : its3.toArray[i]? = some u3 := y3
      rw [List.getElem?_toArray, hv3] at y3
      exact (Option.some.inj y3).symm
    subst e1 e2 e3
    refine ⟨_, rfl, wpAny_letOwnedTupleGo_zip (s := { s with heap := h', toks := tk }) z' fun h'' z'' sb => ?_⟩
    have hT2 : h''.get? s.heap.objs.size = some { cls := .type "tuple", data := .seq #[u1, u2, u3] } := (sb.2 _ (Nat.ne_of_gt hzl)).trans hT
    have new : ObjOk X.prog X.w (upd H s.heap.objs.size (.tup [x, y, u])) h'' s.heap.objs.size (.tup [x, y, u]) :=
      ⟨by show 3 ≤ sizeLine; decide, [u1, u2, u3], .cons rv1 (.cons rv2' (.cons rv3' .nil)), ⟨_, hT2, rfl, _, rfl⟩⟩
    have I1 : L2.Inv X pins σ (upd H s.heap.objs.size (.tup [x, y, u])) { s with heap := h'', toks := tk } :=
      I.turnedNew (t' := tk) (ch := [z, TI, TO, i1, i2, i3]) (fun d o hb q => (sb.2 d (fun q' => hb (by simp [q']))).trans (hk d o (fun q' => hb (by simp [q'])) (fun q' => hb (by simp [q'])) (fun q' => hb (by simp [q'])) (fun q' => hb (by simp [q'])) (fun q' => hb (by simp [q'])) q)) hf (Nat.le_refl _) new
    refine ⟨.ref s.heap.objs.size, _, I1, rfl, ⟨_, x, y, u, rfl, I.hok.fresh (Nat.le_refl _), rfl, fun l hl => by rw [Inv.sqG_inj I hl hqx]; exact hx, fun l hl => by rw [Inv.sqG_inj I hl hqy]; exact hy, fun l hl => by rw [Inv.sqG_inj I hl hqz]; exact hu⟩, ⟨z'', ?_, ⟨u1, u2, u3, ?_⟩, ?_, ?_, ?_⟩, fun d hcm => ?_⟩
    · exact (sb.2 _ D.TIz).trans (hk _ _ D.TIz D.TITO D.TIi1 D.TIi2 D.TIi3 hTI)
    · exact (sb.2 _ D.TOz).trans TO'
    · exact h1'.1.at_ fun o q => (sb.2 _ D.zi1.symm).trans q
    · exact h2'.1.at_ fun o q => (sb.2 _ D.zi2.symm).trans q
    · exact h3'.1.at_ fun o q => (sb.2 _ D.zi3.symm).trans q
    · have hlt : d < s.heap.objs.size := by
        have e' : d = z ∨ d = TI ∨ d = TO ∨ d = i1 ∨ d = i2 ∨ d = i3 := by simpa using hcm
        rcases e' with q | q | q | q | q | q
        · rw [q]; exact hzl
        · rw [q]; exact Heap.lt_size hTI
        · rw [q]; exact Heap.lt_size hTO
        · rw [q]; exact h1.lt
        · rw [q]; exact h2.lt
        · rw [q]; exact h3.lt
      rw [upd_ne (Nat.ne_of_lt hlt)]
      exact (hf d hcm).1
  done := by
    intro X hP hw hK hc i pins s σ H E I hf st hg
    subst hP hw hK
    obtain ⟨hz, hTI, ⟨x0, y0, u0, hTO⟩, h1, h2, h3⟩ := st
    obtain ⟨xs, ys, zs, hqx, hqy, hqz, hend⟩ := hg
    obtain ⟨its, rv, p, _⟩ := Inv.sqG I hqx
    obtain ⟨its2, rv2, p2, _⟩ := Inv.sqG I hqy
    obtain ⟨its3, rv3, p3, _⟩ := Inv.sqG I hqz
    have l1 := rv.length
    have l2 := rv2.length
    have l3 := rv3.length
    have he : its.toArray[i]? = none ∨ its2.toArray[i]? = none ∨ its3.toArray[i]? = none := by
      rcases hend with q | q | q
      · exact .inl (by simp; omega)
      · exact .inr (.inl (by simp; omega))
      · exact .inr (.inr (by simp; omega))
    exact pyNext_z3_end (I.ok.hd hc) D hz hTI hTO h1 h2 h3 p p2 p3 he fun h' hk => ⟨rfl, I.turnedL (t' := s.toks) (ch := [z, TI, TO, i1, i2, i3]) (fun d o hb q =>
      hk d o (fun q' => hb (by simp [q'])) (fun q' => hb (by simp [q'])) (fun q' => hb (by simp [q'])) (fun q' => hb (by simp [q'])) (fun q' => hb (by simp [q'])) q) hf⟩
  self := fun A i s Q E st h => wpAny_pyIter_zip st.1 h
def iZip3G (K : PySem.W.Frag) (ta : TA) : TI := fun σ H R => ta σ H fun vs H1 => ∃ a b c b1 b2 b3 xs ys zs, vs = [.ref a, .ref b, .ref c] ∧ SqG b1 K H1 a xs ∧ SqG b2 K H1 b ys ∧ SqG b3 K H1 c zs ∧ R (Itz3 K b1 b2 b3 a b c) H1
theorem pi_zip3G {X : Cx} {e e2 e3 : Expr} {ta : TA} {p pos tpos : Pos} {elts : List Expr} {kk : Nat} (hg : Gl X "zip") (hm : X.mg "zip" = none) (ha : PA X [e, e2, e3] ta)
    (hs : starEach [e, e2, e3] X.env = (false, eval e X.env) :: starEach [e2, e3] X.env := by rfl) (hpl : (backTo pos (starEach [e2, e3] X.env)).any (·.1) = false := by rfl) :
    PI X (.Tuple elts kk tpos) (.Call (.Name "zip" p) [e, e2, e3] [] pos) (iZip3G X.K ta) := by
  refine ⟨fun pins s σ H R I h => ?_⟩
  refine Call_ (ld_blt I hg hm PyProof.Rows.boot_zip (PyProof.Rows.callWith_type1 (thn (ha.run pos pins s σ H _ I h) fun us s1 ⟨vs, H1, I1, r1, q1⟩ => ?_) hs hpl))
  obtain ⟨a, b, c, b1, b2, b3, xs, ys, zs, ex, hqx, hqy, hqz, q⟩ := q1
  subst ex
  obtain ⟨u1, us1, rfl, ra, r2⟩ : ∃ u us', us = u :: us' ∧ RelV (.ref a) u ∧ Vals [.ref b, .ref c] us' := by
    cases r1 with
    | cons h t => exact ⟨_, _, rfl, h, t⟩
  obtain ⟨u2, u3, rfl, rb, rc⟩ := r2.two
  cases (show u1 = Value.ref a from ra)
  cases (show u2 = Value.ref b from rb)
  cases (show u3 = Value.ref c from rc)
  have fresh6 : ∀ d, d ∈ [s1.heap.objs.size + 5, s1.heap.objs.size + 3, s1.heap.objs.size + 4, s1.heap.objs.size, s1.heap.objs.size + 1, s1.heap.objs.size + 2] → FpOk X pins H1 d := fun d hcm => by
    have hle : s1.heap.objs.size ≤ d := by
      simp only [List.mem_cons, List.mem_singleton, List.not_mem_nil, or_false] at hcm
      omega
    exact I1.fpOk hle (I1.hok.fresh hle)
  obtain ⟨its, rv, p1, l1⟩ := Inv.sqG I1 hqx
  obtain ⟨its2, rv2, p2, l2⟩ := Inv.sqG I1 hqy
  obtain ⟨its3, rv3, p3, l3⟩ := Inv.sqG I1 hqz
  refine zip_begins3 (begins_sq b1 a its.toArray) (begins_sq b2 b its2.toArray) (begins_sq b3 c its3.toArray) p1 p2 p3 fun h' hz hTI hTO g1 g2 g3 hsz hk => wpAny_pyIter_zip hz ?_
  have I2 : L2.Inv X pins σ H1 { s1 with heap := h' } := I1.kept (t' := s1.toks) hk
  exact ⟨s1.heap.objs.size + 5, [s1.heap.objs.size + 5, s1.heap.objs.size + 3, s1.heap.objs.size + 4, s1.heap.objs.size, s1.heap.objs.size + 1, s1.heap.objs.size + 2], _, _, H1, rfl, I2, turn_z3 b1 b2 b3 (sep3 l1 l2 l3) (Nat.ne_of_lt l1) (Nat.ne_of_lt (Nat.lt_succ_of_lt l2)) (Nat.ne_of_lt (Nat.lt_succ_of_lt (Nat.lt_succ_of_lt l3))), ⟨hz, hTI, ⟨_, _, _, hTO⟩, SqIt.new g1, SqIt.new g2, SqIt.new g3⟩, fresh6, q⟩
/-! by values -/
def zip3L : List PV → List PV → List PV → List PV
  | x :: xs, y :: ys, z :: zs => .tup [x, y, z] :: zip3L xs ys zs
  | _, _, _ => []
theorem zip3L_get : ∀ {xs ys zs : List PV} {i : Nat} {t : PV}, (zip3L xs ys zs)[i]? = some t → ∃ x y z, xs[i]? = some x ∧ ys[i]? = some y ∧ zs[i]? = some z ∧ t = .tup [x, y, z]
  | [], ys, zs, i, t, e => by simp [zip3L] at e
  | x :: xs, [], zs, i, t, e => by simp [zip3L] at e
  | x :: xs, y :: ys, [], i, t, e => by simp [zip3L] at e
  | x :: xs, y :: ys, z :: zs, 0, t, e => by
    simp [zip3L] at e
    exact ⟨x, y, z, by simp, by simp, by simp, e.symm⟩
  | x :: xs, y :: ys, z :: zs, i + 1, t, e => by
    have e : (zip3L xs ys zs)[i]? = some t := by simpa [zip3L] using e
    obtain ⟨x', y', z', h1, h2, h3, h4⟩ := zip3L_get e
    exact ⟨x', y', z', by simpa using h1, by simpa using h2, by simpa using h3, h4⟩
theorem zip3L_len : ∀ (xs ys zs : List PV) (i : Nat), (zip3L xs ys zs).length ≤ i → xs.length ≤ i ∨ ys.length ≤ i ∨ zs.length ≤ i
  | [], ys, zs, i, h => .inl (Nat.zero_le _)
  | x :: xs, [], zs, i, h => .inr (.inl (Nat.zero_le _))
  | x :: xs, y :: ys, [], i, h => .inr (.inr (Nat.zero_le _))
  | x :: xs, y :: ys, z :: zs, 0, h => absurd h (by simp [zip3L])
  | x :: xs, y :: ys, z :: zs, i + 1, h => by
    have h : (zip3L xs ys zs).length + 1 ≤ i + 1 := h
    rcases zip3L_len xs ys zs i (by omega) with q | q | q
    · exact .inl (Nat.succ_le_succ q)
    · exact .inr (.inl (Nat.succ_le_succ q))
    · exact .inr (.inr (Nat.succ_le_succ q))
def iZip3 (a b c : SE) : SI := fun env S => (a env S).bind fun p S1 => (b env S1).bind fun q S2 => (c env S2).bind fun w S3 => match lockS p.2 S3 with
  | some z => match lockS q.2 z.2.2 with
    | some y => match lockS w.2 y.2.2 with
      | some x => .ok (zip3L z.1 y.1 x.1, x.2.1 ++ (y.2.1 ++ z.2.1)) x.2.2
      | none => .no
    | none => .no
  | none => .no
section
variable {G : Gam} {n0 : Nat} {g : Gh} {F : Hp} {r : List Addr} {S : Store} {H : Hp} {X : Cx} {e e2 e3 : Expr} {fe fe2 fe3 : SE} {p pos tpos : Pos} {elts : List Expr} {kk : Nat}
theorem unlock_app : ∀ (l1 l2 : List (Nat × PV)) (S : Store), unlock (l1 ++ l2) S = unlock l2 (unlock l1 S)
  | [], l2, S => rfl
  | c :: l1, l2, S => unlock_app l1 l2 _
theorem si_zip3 (hK : G.K = X.K) (hg : Gl X "zip") (hm : X.mg "zip" = none) (he : PE X e (rdE G n0 fe)) (he2 : PE X e2 (rdE G n0 fe2)) (he3 : PE X e3 (rdE G n0 fe3)) (hs : starEach [e, e2, e3] X.env = (false, eval e X.env) :: starEach [e2, e3] X.env := by rfl) (hs2 : starEach [e2, e3] X.env = (false, eval e2 X.env) :: starEach [e3] X.env := by rfl)
    (hs3 : starEach [e3] X.env = (false, eval e3 X.env) :: starEach [] X.env := by rfl) (hpl : (backTo pos (starEach [e2, e3] X.env)).any (·.1) = false := by rfl) :
    PI X (.Tuple elts kk tpos) (.Call (.Name "zip" p) [e, e2, e3] [] pos) (rdI G n0 (iZip3 fe fe2 fe3)) := by
  refine piI (pi_zip3G hg hm (pa_cons (toV he) (pa_cons (toV he2) (pa_cons (toV he3) pa_nil hs3) hs2) hs) hs hpl) fun σ H T ⟨F, r, env, S, g, s, h⟩ => ?_
  refine stV s cnI h fun p S1 F1 r1 H1 u x1 s1 q1 h1 => ?_
  refine stV s1 cnI h1 fun q S2 F2 r2 H2 w x2 s2 q2 h2 => ?_
  refine stV s2 cnI h2 fun o S3 F3 r3 H3 w3 x3 s3 q3 h3 => ?_
  cases el : lockS p.2 S3 with
  | none => rw [el] at h3; exact h3.elim
  | some z =>
    obtain ⟨xs, ls, S4⟩ := z
    simp only [el] at h3
    cases el2 : lockS q.2 S4 with
    | none => rw [el2] at h3; exact h3.elim
    | some z2 =>
      obtain ⟨ys, ls2, S5⟩ := z2
      simp only [el2] at h3
      cases el3 : lockS o.2 S5 with
      | none => rw [el3] at h3; exact h3.elim
      | some z3 =>
        obtain ⟨zs, ls3, S6⟩ := z3
        simp only [el3] at h3
        obtain ⟨g1, b1, a1, us1, rfl, hd1⟩ := lock_ok s3.hr ((q1.ext x2).ext x3) el
        obtain ⟨g2, b2, a2, us2, rfl, hd2⟩ := lock_ok hd1.hr (q2.ext x3) el2
        obtain ⟨g3, b3, a3, us3, rfl, hd3⟩ := lock_ok hd2.hr q3 el3
        have hpn : GhPin g g3 := fun a o e l => by
          have k1 := hd1.pn a o e l
          have k2 := hd2.pn a o k1.1 k1.2
          exact hd3.pn a o k2.1 k2.2
        have hun : ∀ rp, g.has rp → ∀ F5 r5 S5 H5, HR G n0 (g3.rep rp) F5 r5 S5 H5 → Ext F3 F5 r3 r5 → HR G n0 (g.rep rp) F5 r5 (unlock (ls3 ++ (ls2 ++ ls)) S5) H5 := fun rp hrp F5 r5 S5 H5 h5 x5 => by
          rw [unlock_app, unlock_app]
          exact hd1.un rp hrp F5 r5 _ H5 (hd2.un rp (hd1.pn.has hrp) F5 r5 _ H5 (hd3.un rp (hd2.pn.has (hd1.pn.has hrp)) F5 r5 S5 H5 h5 x5) x5) x5
        refine ⟨a1, a2, a3, b1, b2, b3, us1, us2, us3, rfl, hK ▸ hd1.sq g3 (hd2.le.trans hd3.le) F3 r3 S6 H3 hd3.hr (.refl _ _), hK ▸ hd2.sq g3 hd3.le F3 r3 S6 H3 hd3.hr (.refl _ _), hK ▸ hd3.sq g3 (.refl g3) F3 r3 S6 H3 hd3.hr (.refl _ _), h3 F3 r3 H3 _ g3 ((x1.trans x2).trans x3) ⟨hd3.hr, s3.sl, s3.vr⟩ (fun g5 hg5 F5 r5 S5 H5 h5 x5 => ?_) hpn hun⟩
        have s1' := hd1.sq g5 ((hd2.le.trans hd3.le).trans hg5) F5 r5 S5 H5 h5 x5
        have s2' := hd2.sq g5 (hd3.le.trans hg5) F5 r5 S5 H5 h5 x5
        have s3' := hd3.sq g5 hg5 F5 r5 S5 H5 h5 x5
        rw [← hK]
        refine ⟨fun i x ex => ?_, fun i hi => ⟨us1, us2, us3, s1', s2', s3', by rw [← RVs.length hd1.rv, ← RVs.length hd2.rv, ← RVs.length hd3.rv]; exact zip3L_len xs ys zs i hi⟩⟩
        obtain ⟨x', y', z', ex', ey', ez', rfl⟩ := zip3L_get ex
        obtain ⟨u1, e1, k1⟩ := RVs.get hd1.rv ex'
        obtain ⟨u2, e2, k2⟩ := RVs.get hd2.rv ey'
        obtain ⟨u3, e3, k3⟩ := RVs.get hd3.rv ez'
        refine ⟨⟨us1, us2, us3, u1, u2, u3, s1', s2', s3', e1, e2, e3⟩, fun v H4 hy => ?_⟩
        obtain ⟨T', y1, y2, y3, rfl, hT, rfl, hv1, hv2, hv3⟩ := hy
        have := hv1 us1 s1'
        rw [e1] at this
        cases this
        have := hv2 us2 s2'
        rw [e2] at this
        cases this
        have := hv3 us3 s3'
        rw [e3] at this
        cases this
        exact new_tup (xs := [x', y', z']) (us := [u1, u2, u3]) h5 hT ⟨_, _, rfl, k1.ext x5, _, _, rfl, k2.ext x5, _, [], rfl, k3.ext x5, rfl⟩
end
end PX
set_option Elab.async false
set_option linter.all false
set_option maxRecDepth 100000
set_option maxHeartbeats 1000000
/-! walking a dict: d.items(), d.values(), its keys -/
namespace PX
open PySem PySem.Spec PyProof.Rows L2 ZG
/-! a thing is locked behind an expression -/
def tGhost (t : TE) : TE := fun σ H Q => t σ H fun x H1 => Q x H1 ∨ ∃ d u, H1 d = some u ∧ Mut (some u) ∧ ∀ od, Q x (upd H1 d (.frz od u))
theorem pe_ghost {X : Cx} {e : Expr} {t : TE} (h : PE X e t) : PE X e (tGhost t) := by
  refine ⟨fun pins s σ H Q I hw => ?_⟩
  refine thn (h.run pins s σ H _ I hw) fun v s1 ⟨x, H1, I1, r, q⟩ => ?_
  rcases q with q | ⟨d, u, hd, mu, q⟩
  · exact ⟨x, H1, I1, r, q⟩
  · obtain ⟨od, I2⟩ := I1.lock hd mu
    exact ⟨x, _, I2, r, q od⟩
def kPV : Key → PV
  | .inl i => .int i
  | .inr s => .str s
def pairL : List Key → List PV → List PV
  | k :: ks, v :: vs => .tup [kPV k, v] :: pairL ks vs
  | _, _ => []
def dctOf (S : Store) (v : PV) : Option (List Key × List PV) := match v with
  | .dct (.k ks) vs => some (ks, vs)
  | .ref i => match S[i]? with
    | some (.lck (.dct (.k ks) vs)) => some (ks, vs)
    | _ => none
  | _ => none
def iItm (a : SE) : SI := fun env S => (a env S).bind fun p S1 => match dctOf S1 p.2 with
  | some z => .ok (pairL z.1 z.2, []) S1
  | none => .no
def iVls (a : SE) : SI := fun env S => (a env S).bind fun p S1 => match dctOf S1 p.2 with
  | some z => .ok (z.2, []) S1
  | none => .no
def iKys (a : SE) : SI := fun env S => (a env S).bind fun p S1 => match dctOf S1 p.2 with
  | some z => .ok (z.1.map kPV, []) S1
  | none => .no
section
variable {G : Gam} {n0 : Nat} {g : Gh} {F : Hp} {r : List Addr} {S : Store} {H : Hp}
theorem kPV_rv (k : Key) : RV G F r (kPV k) (kV k) := by
  cases k with
  | inl i => exact (show kV (.inl i) = V.int i from rfl)
  | inr s => exact (show kV (.inr s) = V.str s from rfl)
theorem pairL_get : ∀ {ks : List Key} {vs : List PV} {i : Nat} {t : PV}, (pairL ks vs)[i]? = some t → ∃ k v, ks[i]? = some k ∧ vs[i]? = some v ∧ t = .tup [kPV k, v]
  | [], vs, i, t, e => by simp [pairL] at e
  | k :: ks, [], i, t, e => by simp [pairL] at e
  | k :: ks, v :: vs, 0, t, e => by
    simp [pairL] at e
    exact ⟨k, v, by simp, by simp, e.symm⟩
  | k :: ks, v :: vs, i + 1, t, e => by
    have e : (pairL ks vs)[i]? = some t := by simpa [pairL] using e
    obtain ⟨a, b, h1, h2, h3⟩ := pairL_get e
    exact ⟨a, b, by simpa using h1, by simpa using h2, h3⟩
theorem pairL_len : ∀ {ks : List Key} {vs : List PV}, ks.length = vs.length → (pairL ks vs).length = ks.length
  | [], vs, _ => by cases vs <;> rfl
  | k :: ks, [], h => by cases h
  | k :: ks, v :: vs, h => by
    show (pairL ks vs).length + 1 = ks.length + 1
    rw [pairL_len (by simpa using h)]
/-! the dict at d is locked, and pinned -/
theorem HR.pinD {d : Addr} {od : Obj} {kvs : List (Key × V)} (h : HR G n0 g F r S H) (hd : H d = some (.frz od (.dK kvs))) (hr : d ∉ r) : HR G n0 (g.lock d (.frz od (.dK kvs))) F r S H := by
  refine ⟨h.sub, h.nd, h.off, h.len, h.nle, h.lle, h.obj, fun b o e => ?_, fun i ob b e1 e2 => ?_, fun b o e el => ?_⟩
  · by_cases hb : b = d
    · subst hb
      have e : upd g.pn b (.frz od (.dK kvs)) b = some o := e
      rw [upd_same] at e
      cases e
      exact ⟨hd, .inr ⟨rfl, by show (if b = b then true else g.lk b) = true; rw [if_pos rfl]⟩, fun j hj => absurd (List.mem_of_getElem? hj) hr⟩
    · have e : upd g.pn d (.frz od (.dK kvs)) b = some o := e
      rw [upd_ne hb] at e
      obtain ⟨q1, q2, q3⟩ := h.pin b o e
      exact ⟨q1, q2.imp (fun q => q) (fun q => ⟨q.1, by show (if b = d then true else g.lk b) = true; rw [if_neg hb]; exact q.2⟩), q3⟩
  · show ∃ o, upd g.pn d (.frz od (.dK kvs)) b = some o
    have hb : b ≠ d := fun z => hr (by rw [← z]; exact List.mem_of_getElem? e2)
    rw [upd_ne hb]
    exact h.lckd i ob b e1 e2
  · have e : upd g.pn d (.frz od (.dK kvs)) b = some o := e
    have el : (if b = d then true else g.lk b) = false := el
    by_cases hb : b = d
    · rw [if_pos hb] at el; cases el
    · rw [upd_ne hb] at e
      rw [if_neg hb] at el
      exact h.out b o e el
theorem HR.lockF {d : Addr} {od : Obj} {kvs : List (Key × V)} (h : HR G n0 g F r S H) (hF : F d = some (.dK kvs)) (hd : H d = some (.dK kvs)) : HR G n0 g F r S (upd H d (.frz od (.dK kvs))) := by
  have hr : d ∉ r := fun hm => by rw [h.off d hm] at hF; cases hF
  refine ⟨fun a o e => ?_, h.nd, h.off, h.len, h.nle, h.lle, fun i ob a e1 e2 => ?_, fun a o e => ?_, h.lckd, h.out⟩
  · by_cases ha : a = d
    · subst ha
      rw [hF] at e
      cases e
      exact .inr ⟨rfl, od, upd_same⟩
    · rw [upd_ne ha]
      exact h.sub a o e
  · obtain ⟨ho, q1, q2⟩ := h.obj i ob a e1 e2
    exact ⟨ho, q1.upd (fun z => hr (by rw [← z]; exact List.mem_of_getElem? e2)), q2⟩
  · obtain ⟨q1, q2, q3⟩ := h.pin a o e
    have ha : a ≠ d := fun z => by
      subst z
      rw [hd] at q1
      cases q1
      rcases q2 with q2 | q2
      · rw [hF] at q2; cases q2
      · cases q2.1
    exact ⟨by rw [upd_ne ha]; exact q1, q2, q3⟩
theorem HR.unpinD {d : Addr} {ho : HO} (h : HR G n0 (g.lock d ho) F r S H) (hp : g.pn d = none) (hr : d ∉ r) : HR G n0 g F r S H := by
  have ne_of : ∀ b o, g.pn b = some o → b ≠ d := fun b o e z => by rw [z, hp] at e; cases e
  have pn_ne : ∀ b, b ≠ d → (g.lock d ho).pn b = g.pn b := fun b hb => by
    show upd g.pn d ho b = _
    rw [upd_ne hb]
  refine ⟨h.sub, h.nd, h.off, h.len, h.nle, h.lle, h.obj, fun b o e => ?_, fun i ob b e1 e2 => ?_, fun b o e el => ?_⟩
  · have hb := ne_of b o e
    obtain ⟨q1, q2, q3⟩ := h.pin b o (by rw [pn_ne b hb]; exact e)
    exact ⟨q1, q2.imp (fun q => q) (fun q => ⟨q.1, by have z : (if b = d then true else g.lk b) = true := q.2; rw [if_neg hb] at z; exact z⟩), q3⟩
  · have hb : b ≠ d := fun z => hr (by rw [← z]; exact List.mem_of_getElem? e2)
    obtain ⟨o, q⟩ := h.lckd i ob b e1 e2
    rw [pn_ne b hb] at q
    exact ⟨o, q⟩
  · have hb := ne_of b o e
    refine h.out b o (by rw [pn_ne b hb]; exact e) ?_
    show (if b = d then true else g.lk b) = false
    rw [if_neg hb]
    exact el
theorem lock_rep {d : Addr} {ho : HO} {rp : Option (Addr × HO)} (h : ∀ p, rp = some p → p.1 ≠ d) : (g.lock d ho).rep rp = (g.rep rp).lock d ho := by
  cases rp with
  | none => rfl
  | some p =>
    have hne := h p rfl
    show (⟨g.L, upd (upd g.pn d ho) p.1 p.2, fun b => if b = d then true else g.lk b⟩ : Gh) = ⟨g.L, upd (upd g.pn p.1 p.2) d ho, fun b => if b = d then true else g.lk b⟩
    congr 1
    funext b
    by_cases hb : b = d
    · rw [hb, upd_ne hne.symm, upd_same, upd_same]
    · by_cases hb2 : b = p.1
      · rw [hb2, upd_same, upd_ne hne, upd_same]
      · rw [upd_ne hb2, upd_ne hb, upd_ne hb, upd_ne hb2]
/-! the dict that is walked: locked and pinned -/
structure HeldD (G : Gam) (n0 : Nat) (g g' : Gh) (F : Hp) (r : List Addr) (S : Store) (H : Hp) (d : Addr) (od : Obj) (kvs : List (Key × V)) : Prop where
  hr : HR G n0 g' F r S H
  at_ : H d = some (.frz od (.dK kvs))
  sq : ∀ g2, GhLe g' g2 → ∀ F2 r2 S2 H2, HR G n0 g2 F2 r2 S2 H2 → H2 d = some (.frz od (.dK kvs))
  pn : GhPin g g'
  un : ∀ rp, g.has rp → ∀ F2 r2 S2 H2, HR G n0 (g'.rep rp) F2 r2 S2 H2 → Ext F F2 r r2 → HR G n0 (g.rep rp) F2 r2 S2 H2
theorem heldF {d : Addr} {od : Obj} {kvs : List (Key × V)} (h : HR G n0 g F r S H) (hF : F d = some (.dK kvs)) (hd : H d = some (.frz od (.dK kvs))) : ∃ g', HeldD G n0 g g' F r S H d od kvs := by
  have hr : d ∉ r := fun hm => by rw [h.off d hm] at hF; cases hF
  cases hp : g.pn d with
  | some o =>
    obtain ⟨q1, q2, _⟩ := h.pin d o hp
    rw [hd] at q1
    cases q1
    have hl : g.lk d = true := by
      rcases q2 with q2 | q2
      · rw [hF] at q2; cases q2
      · exact q2.2
    exact ⟨g, h, hd, fun g2 hg F2 r2 S2 H2 h2 => (h2.pin d _ (hg d _ hp hl).1).1, .refl g, fun _ _ F2 r2 S2 H2 h2 _ => h2⟩
  | none =>
    refine ⟨g.lock d (.frz od (.dK kvs)), h.pinD hd hr, hd, fun g2 hg F2 r2 S2 H2 h2 => (h2.pin d _ (hg d _ (by show upd g.pn d _ d = _; rw [upd_same]) (by show (if d = d then true else g.lk d) = true; rw [if_pos rfl])).1).1, fun b o eb el => ?_, fun rp hrp F2 r2 S2 H2 h2 x => ?_⟩
    · have hb : b ≠ d := fun z => by rw [z, hp] at eb; cases eb
      refine ⟨?_, ?_⟩
      · show upd g.pn d _ b = _
        rw [upd_ne hb]
        exact eb
      · show (if b = d then true else g.lk b) = false
        rw [if_neg hb]
        exact el
    · have hne : ∀ p, rp = some p → p.1 ≠ d := fun p e z => by
        obtain ⟨⟨o, ep⟩, _⟩ := hrp p e
        rw [z, hp] at ep
        cases ep
      rw [lock_rep hne] at h2
      have hF2 : F2 d = some (.dK kvs) := x.1 _ _ hF
      refine h2.unpinD ?_ (fun hm => by rw [h2.off d hm] at hF2; cases hF2)
      cases rp with
      | none => exact hp
      | some p =>
        show upd g.pn p.1 p.2 d = none
        rw [upd_ne (hne p rfl).symm]
        exact hp
theorem dct_ok {v : PV} {u : V} {ks : List Key} {vs : List PV} (h : HR G n0 g F r S H) (q : RV G F r v u) (e : dctOf S v = some (ks, vs)) : ∃ d us, u = .ref d ∧ ks.length = us.length ∧ RVs G F r vs us ∧
    ((H d = some (.dK (ks.zip us)) ∧ F d = some (.dK (ks.zip us))) ∨ ∃ od g', HeldD G n0 g g' F r S H d od (ks.zip us)) := by
  unfold dctOf at e
  split at e
  · cases e
    obtain ⟨a, us, ho, rfl, k1, k2, k3⟩ := q
    obtain ⟨rfl, hl⟩ := k2
    refine ⟨a, us, rfl, hl, k3, ?_⟩
    rcases h.sub a _ k1 with z | ⟨_, od, z⟩
    · exact .inl ⟨z, k1⟩
    · exact .inr ⟨od, heldF h k1 z⟩
  · rename_i i
    split at e
    · rename_i ks' vs' es
      cases e
      obtain ⟨a, e1, rfl⟩ := q
      obtain ⟨ho, q1, q2⟩ := h.obj i _ a es e1
      obtain ⟨us, k2, k3⟩ := q2
      obtain ⟨rfl, hl⟩ := k2
      obtain ⟨_, od, hd⟩ := q1.lk rfl
      obtain ⟨o, ep⟩ := h.lckd i _ a es e1
      have eo := (h.pin a o ep).1
      rw [hd] at eo
      cases eo
      have elk : g.lk a = true := by
        cases z : g.lk a with
        | true => rfl
        | false => exact absurd (List.mem_of_getElem? e1) (h.out a _ ep z)
      exact ⟨a, us, rfl, hl, RVs.mono (.refl F) (at_of (lim_le n0 g.L r i)) _ _ k3, .inr ⟨od, g, h, hd, fun g2 hg F2 r2 S2 H2 h2 => (h2.pin a _ (hg a _ ep elk).1).1, .refl g, fun _ _ F2 r2 S2 H2 h2 _ => h2⟩⟩
    · cases e
  · cases e
/-! the sources -/
variable {X : Cx} {tg e : Expr} {fe : SE} {apos cpos tpos : Pos} {elts : List Expr} {kk : Nat}
theorem src_core {t : TI} {fs : SI} {xsf : List Key → List PV → List PV} {J : Addr → Obj → List (Key × V) → It} (hf : ∀ env S, fs env S = (fe env S).bind fun p S1 => match dctOf S1 p.2 with
    | some z => .ok (xsf z.1 z.2, []) S1
    | none => .no) (ht : ∀ σ H R, tGhost (rdV G n0 fe) σ H (fun x H1 => ∃ d o kvs, x = .ref d ∧ H1 d = some (.frz o (.dK kvs)) ∧ R (J d o kvs) H1) → t σ H R)
    (its : ∀ g' F r S H d od ks us vs, ks.length = us.length → RVs G F r vs us → HR G n0 g' F r S H → (∀ g2, GhLe g' g2 → ∀ F2 r2 S2 H2, HR G n0 g2 F2 r2 S2 H2 → H2 d = some (.frz od (.dK (ks.zip us)))) → Its G n0 g' F r (J d od (ks.zip us)) (xsf ks vs))
    (σ : L2.St) (H : Hp) (R : It → Hp → Prop) (hh : rdI G n0 fs σ H R) : t σ H R := by
  obtain ⟨F, r, env, S, g, s, h⟩ := hh
  refine ht σ H R ?_
  rw [hf] at h
  refine stV s cnI h fun p S1 F1 r1 H1 u x1 s1 q1 h1 => ?_
  cases ed : dctOf S1 p.2 with
  | none => rw [ed] at h1; exact h1.elim
  | some z =>
    obtain ⟨ks, vs⟩ := z
    rw [ed] at h1
    obtain ⟨d, us, rfl, hl, rv, q⟩ := dct_ok s1.hr q1 ed
    have fin : ∀ {H2 : Hp} {od : Obj} {g' : Gh}, HeldD G n0 g g' F1 r1 S1 H2 d od (ks.zip us) → ∃ d' o kvs, V.ref d = .ref d' ∧ H2 d' = some (.frz o (.dK kvs)) ∧ R (J d' o kvs) H2 := fun {H2 od g'} hd =>
      ⟨d, od, ks.zip us, rfl, hd.at_, h1 F1 r1 H2 _ g' x1 ⟨hd.hr, s1.sl, s1.vr⟩ (its g' F1 r1 S1 H2 d od ks us vs hl rv hd.hr hd.sq) hd.pn (fun rp hrp F2 r2 S2 H3 h3 x3 => hd.un rp hrp F2 r2 S2 H3 h3 x3)⟩
    rcases q with ⟨k1, k2⟩ | ⟨od, g', hd⟩
    · refine .inr ⟨d, _, k1, trivial, fun od => ?_⟩
      obtain ⟨g', hd⟩ := heldF (s1.hr.lockF (od := od) k2 k1) k2 upd_same
      exact fin hd
    · exact .inl (fin hd)
theorem zip_at {ks : List Key} {us : List V} (hl : ks.length = us.length) {i : Nat} {k : Key} {u : V} (e1 : ks[i]? = some k) (e2 : us[i]? = some u) : (ks.zip us)[i]? = some (k, u) := by
  rw [List.getElem?_zip_eq_some]
  exact ⟨e1, e2⟩
theorem zip_len {ks : List Key} {us : List V} (hl : ks.length = us.length) : (ks.zip us).length = ks.length := by
  rw [List.length_zip, hl, Nat.min_self]
theorem si_items (he : PE X e (rdE G n0 fe)) (hbase : attributeBase e "items" X.env (eval e X.env) = eval e X.env := by rfl) (hline : (apos.endLine == cpos.line) = true := by rfl) :
    PI X (.Tuple elts kk tpos) (.Call (.Attribute e "items" apos) [] [] cpos) (rdI G n0 (iItm fe)) := by
  refine piI (pi_items (pe_ghost (toV he)) hbase hline) fun σ H R hh => ?_
  refine src_core (J := Iti) (xsf := pairL) (fun _ _ => rfl) (fun σ H R q => q) (fun g' F r S H d od ks us vs hl rv hr sq g2 hg F2 r2 S2 H2 h2 x2 => ?_) σ H R hh
  have hd := sq g2 hg F2 r2 S2 H2 h2
  have hv : ks.length = vs.length := by rw [hl, RVs.length rv]
  refine ⟨fun i x ex => ?_, fun i hi => ⟨hd, by rw [zip_len hl]; rw [pairL_len hv] at hi; exact hi⟩⟩
  obtain ⟨k, v, e1, e2, rfl⟩ := pairL_get ex
  obtain ⟨y, e3, q3⟩ := RVs.get rv e2
  have ez := zip_at hl e1 e3
  refine ⟨⟨hd, (List.getElem?_eq_some_iff.mp ez).1⟩, fun v' H3 hy => ?_⟩
  obtain ⟨T, k', w', ew, rfl, hT, rfl⟩ := hy
  rw [ez] at ew
  cases ew
  exact new_tup (xs := [kPV k, v]) (us := [kV k, y]) h2 hT ⟨_, _, rfl, kPV_rv k, _, [], rfl, q3.ext x2, rfl⟩
theorem si_values (he : PE X e (rdE G n0 fe)) (hbase : attributeBase e "values" X.env (eval e X.env) = eval e X.env := by rfl) (hline : (apos.endLine == cpos.line) = true := by rfl) :
    PI X tg (.Call (.Attribute e "values" apos) [] [] cpos) (rdI G n0 (iVls fe)) := by
  refine piI (pi_values (pe_ghost (toV he)) hbase hline) fun σ H R hh => ?_
  refine src_core (J := Itd) (xsf := fun _ vs => vs) (fun _ _ => rfl) (fun σ H R q => q) (fun g' F r S H d od ks us vs hl rv hr sq g2 hg F2 r2 S2 H2 h2 x2 => ?_) σ H R hh
  have hd := sq g2 hg F2 r2 S2 H2 h2
  have hv : ks.length = vs.length := by rw [hl, RVs.length rv]
  refine ⟨fun i x ex => ?_, fun i hi => ⟨hd, by rw [zip_len hl, hv]; exact hi⟩⟩
  obtain ⟨y, e3, q3⟩ := RVs.get rv ex
  have hlt : i < ks.length := by rw [hv]; exact (List.getElem?_eq_some_iff.mp ex).1
  have ez := zip_at hl (List.getElem?_eq_getElem hlt) e3
  refine ⟨⟨hd, (List.getElem?_eq_some_iff.mp ez).1⟩, fun v' H3 hy => ?_⟩
  obtain ⟨rfl, k', ew⟩ := hy
  rw [ez] at ew
  cases ew
  exact ⟨F2, .refl _ _, h2, q3.ext x2⟩
theorem si_keys (he : PE X e (rdE G n0 fe)) : PI X tg e (rdI G n0 (iKys fe)) := by
  refine piI (pi_keys (pe_ghost (toV he))) fun σ H R hh => ?_
  refine src_core (J := Itk) (xsf := fun ks _ => ks.map kPV) (fun _ _ => rfl) (fun σ H R q => ?_) (fun g' F r S H d od ks us vs hl rv hr sq g2 hg F2 r2 S2 H2 h2 x2 => ?_) σ H R hh
  · obtain ⟨F, r, env, S, g, s, h⟩ := q
    refine ⟨F, r, env, S, g, s, ?_⟩
    cases ez : fe env S with
    | no => rw [ez] at h; exact h
    | ex => rw [ez] at h; exact h
    | ok p S' =>
      rw [ez] at h
      exact fun F' r' H' u x s' q => (h F' r' H' u x s' q).imp (fun ⟨d, o, kvs, e1, e2, e3⟩ => ⟨d, o, e1, .inl ⟨kvs, e2, e3⟩⟩) fun ⟨d, w, e1, e2, e3⟩ => ⟨d, w, e1, e2, fun od => let ⟨d', o, kvs, f1, f2, f3⟩ := e3 od; ⟨d', o, f1, .inl ⟨kvs, f2, f3⟩⟩⟩
  have hd := sq g2 hg F2 r2 S2 H2 h2
  refine ⟨fun i x ex => ?_, fun i hi => ⟨hd, by rw [zip_len hl]; rw [List.length_map] at hi; exact hi⟩⟩
  rw [List.getElem?_map] at ex
  cases ek : ks[i]? with
  | none => rw [ek] at ex; cases ex
  | some k =>
    rw [ek] at ex
    cases ex
    have hlt : i < us.length := by rw [← hl]; exact (List.getElem?_eq_some_iff.mp ek).1
    have ez := zip_at hl ek (List.getElem?_eq_getElem hlt)
    refine ⟨⟨hd, (List.getElem?_eq_some_iff.mp ez).1⟩, fun v' H3 hy => ?_⟩
    obtain ⟨rfl, k', w', ew, rfl⟩ := hy
    rw [ez] at ew
    cases ew
    exact ⟨F2, .refl _ _, h2, kPV_rv k⟩
end
end PX
set_option Elab.async false
set_option linter.all false
set_option maxRecDepth 100000
set_option maxHeartbeats 1000000
/-! a dict of the store, locked while it is walked -/
namespace PX
open PySem PySem.Spec PyProof.Rows L2 ZG
def peekD (fe : SE) (env : Env) (S : Store) : Option (Nat × List Key × List PV) := match fe env S with
  | .ok p _ => match p.2 with
    | .ref i => match S[i]? with
      | some (.dct (.k ks) vs) => some (i, ks, vs)
      | _ => none
    | _ => none
  | _ => none
def eLkD (fe : SE) (inner : SE) : SE := fun env S => match peekD fe env S with
  | some z => (inner env (S.set z.1 (.lck (.dct (.k z.2.1) z.2.2)))).bind fun p S1 => .ok p (S1.set z.1 (.dct (.k z.2.1) z.2.2))
  | none => inner env S
def RS.unl1 (i : Nat) (v : PV) : RS → RS
  | .nx e S => .nx e (S.set i v)
  | .rt w S => .rt w (S.set i v)
  | .bk e S => .bk e (S.set i v)
  | .ct e S => .ct e (S.set i v)
  | .ex c p S => .ex c p S
  | .no => .no
def sLkD (fe : SE) (inner : SS) : SS := fun env S => match peekD fe env S with
  | some z => (inner env (S.set z.1 (.lck (.dct (.k z.2.1) z.2.2)))).unl1 z.1 (.dct (.k z.2.1) z.2.2)
  | none => inner env S
section
variable {G : Gam} {n0 : Nat} {g : Gh} {F : Hp} {r : List Addr} {S : Store} {H : Hp}
theorem peekD_ok {fe : SE} {env : Env} {z : Nat × List Key × List PV} (h : peekD fe env S = some z) : S[z.1]? = some (.dct (.k z.2.1) z.2.2) := by
  unfold peekD at h
  split at h
  · split at h
    · split at h
      · rename_i e
        cases h
        exact e
      · cases h
    · cases h
  · cases h
theorem HR.lockD {i : Nat} {a : Addr} {ks : List Key} {vs : List PV} {us : List V} {od : Obj} (h : HR G n0 g F r S H) (e1 : r[i]? = some a) (e2 : S[i]? = some (.dct (.k ks) vs)) (e3 : H a = some (.dK (ks.zip us))) (hl : ks.length = us.length) (hv : RVs G F (lim n0 g.L r i) vs us) :
    HR G n0 (g.lock a (.frz od (.dK (ks.zip us)))) F r (S.set i (.lck (.dct (.k ks) vs))) (upd H a (.frz od (.dK (ks.zip us)))) := by
  have hi : i < S.length := (List.getElem?_eq_some_iff.mp e2).1
  have hF := h.off a (List.mem_of_getElem? e1)
  have hp : g.pn a = none := h.nopin e1 e2 rfl
  refine ⟨fun b o e => ?_, h.nd, h.off, by rw [List.length_set]; exact h.len, by rw [List.length_set]; exact h.nle, h.lle, fun j oj b e4 e5 => ?_, fun b o e => ?_, fun j oj b e4 e5 => ?_, fun b o e el => ?_⟩
  · rw [upd_ne (fun z => by rw [z, hF] at e; cases e)]
    exact h.sub b o e
  · by_cases hj : i = j
    · subst hj
      rw [List.getElem?_set_self hi] at e4
      cases e4
      rw [e1] at e5
      cases e5
      exact ⟨.dK (ks.zip us), ⟨rfl, od, upd_same⟩, us, ⟨rfl, hl⟩, hv⟩
    · rw [List.getElem?_set_ne hj] at e4
      obtain ⟨ho, q1, q2⟩ := h.obj j oj b e4 e5
      exact ⟨ho, q1.upd (fun z => by subst z; exact hj (nd_inj h.nd e1 e5)), q2⟩
  · by_cases hb : b = a
    · subst hb
      have e : upd g.pn b (.frz od (.dK (ks.zip us))) b = some o := e
      rw [upd_same] at e
      cases e
      refine ⟨upd_same, .inl hF, fun j hj => ?_⟩
      have := nd_inj h.nd e1 hj
      subst this
      exact ⟨_, List.getElem?_set_self hi⟩
    · have e : upd g.pn a (.frz od (.dK (ks.zip us))) b = some o := e
      rw [upd_ne hb] at e
      obtain ⟨q1, q2, q3⟩ := h.pin b o e
      refine ⟨by rw [upd_ne hb]; exact q1, q2.imp (fun q => q) (fun q => ⟨q.1, by show (if b = a then true else g.lk b) = true; rw [if_neg hb]; exact q.2⟩), fun j hj => ?_⟩
      obtain ⟨ob, q⟩ := q3 j hj
      refine ⟨ob, ?_⟩
      rw [List.getElem?_set_ne (fun z => by subst z; rw [e1] at hj; cases hj; exact hb rfl)]
      exact q
  · show ∃ o, upd g.pn a (.frz od (.dK (ks.zip us))) b = some o
    by_cases hb : b = a
    · rw [hb, upd_same]; exact ⟨_, rfl⟩
    · rw [upd_ne hb]
      rw [List.getElem?_set_ne (fun z => by subst z; rw [e1] at e5; cases e5; exact hb rfl)] at e4
      exact h.lckd j oj b e4 e5
  · have e : upd g.pn a (.frz od (.dK (ks.zip us))) b = some o := e
    have el : (if b = a then true else g.lk b) = false := el
    by_cases hb : b = a
    · rw [if_pos hb] at el; cases el
    · rw [upd_ne hb] at e
      rw [if_neg hb] at el
      exact h.out b o e el
theorem HR.unlockD {i : Nat} {a : Addr} {ks : List Key} {vs : List PV} {us : List V} {od : Obj} (h : HR G n0 (g.lock a (.frz od (.dK (ks.zip us)))) F r S H) (hp : g.pn a = none) (e1 : r[i]? = some a) (hl : ks.length = us.length) (hv : RVs G F (lim n0 g.L r i) vs us) :
    HR G n0 g F r (S.set i (.dct (.k ks) vs)) (upd H a (.dK (ks.zip us))) := by
  have hi : i < S.length := by rw [← h.len]; exact (List.getElem?_eq_some_iff.mp e1).1
  have hF := h.off a (List.mem_of_getElem? e1)
  have ne_of : ∀ b o, g.pn b = some o → b ≠ a := fun b o e z => by rw [z, hp] at e; cases e
  have pn_ne : ∀ b, b ≠ a → (g.lock a (.frz od (.dK (ks.zip us)))).pn b = g.pn b := fun b hb => by
    show upd g.pn a _ b = _
    rw [upd_ne hb]
  refine ⟨fun b o e => ?_, h.nd, h.off, by rw [List.length_set]; exact h.len, by rw [List.length_set]; exact h.nle, h.lle, fun j oj b e4 e5 => ?_, fun b o e => ?_, fun j oj b e4 e5 => ?_, fun b o e el => ?_⟩
  · rw [upd_ne (fun z => by rw [z, hF] at e; cases e)]
    exact h.sub b o e
  · by_cases hj : i = j
    · subst hj
      rw [List.getElem?_set_self hi] at e4
      cases e4
      rw [e1] at e5
      cases e5
      exact ⟨.dK (ks.zip us), .mk upd_same rfl, us, ⟨rfl, hl⟩, hv⟩
    · rw [List.getElem?_set_ne hj] at e4
      obtain ⟨ho, q1, q2⟩ := h.obj j oj b e4 e5
      exact ⟨ho, q1.upd (fun z => by subst z; exact hj (nd_inj h.nd e1 e5)), q2⟩
  · have hb := ne_of b o e
    obtain ⟨q1, q2, q3⟩ := h.pin b o (by rw [pn_ne b hb]; exact e)
    refine ⟨by rw [upd_ne hb]; exact q1, q2.imp (fun q => q) (fun q => ⟨q.1, by have z : (if b = a then true else g.lk b) = true := q.2; rw [if_neg hb] at z; exact z⟩), fun j hj => ?_⟩
    obtain ⟨ob, q⟩ := q3 j hj
    refine ⟨ob, ?_⟩
    rw [List.getElem?_set_ne (fun z => by subst z; rw [e1] at hj; cases hj; exact hb rfl)]
    exact q
  · by_cases hj : i = j
    · subst hj
      rw [List.getElem?_set_self hi] at e4
      cases e4
    · rw [List.getElem?_set_ne hj] at e4
      have hb : b ≠ a := fun z => by subst z; exact hj (nd_inj h.nd e1 e5)
      obtain ⟨o, q⟩ := h.lckd j oj b e4 e5
      exact ⟨o, by rw [← pn_ne b hb]; exact q⟩
  · have hb := ne_of b o e
    refine h.out b o (by rw [pn_ne b hb]; exact e) ?_
    show (if b = a then true else g.lk b) = false
    rw [if_neg hb]
    exact el
variable {X : Cx} {e : Expr} {fe inner : SE} {st : Stmt} {fs : SS}
theorem lk_at {d : Addr} {ho : HO} : (g.lock d ho).pn d = some ho := by
  show upd g.pn d ho d = _
  rw [upd_same]
theorem se_lkD (fe : SE) (h : PE X e (rdE G n0 inner)) : PE X e (rdE G n0 (eLkD fe inner)) := by
  refine ⟨fun pins s0 σ H Q I ⟨F, r, env, S, g, s, hh⟩ => ?_⟩
  unfold eLkD at hh
  cases ep : peekD fe env S with
  | none =>
    rw [ep] at hh
    exact h.run pins s0 σ H Q I ⟨F, r, env, S, g, s, hh⟩
  | some z =>
    obtain ⟨i, ks, vs⟩ := z
    rw [ep] at hh
    simp only at hh
    have es : S[i]? = some (.dct (.k ks) vs) := peekD_ok ep
    have hi : i < r.length := by rw [s.hr.len]; exact (List.getElem?_eq_some_iff.mp es).1
    have er : r[i]? = some r[i] := List.getElem?_eq_getElem hi
    obtain ⟨ho, q1, us, ⟨rfl, hl⟩, q3⟩ := s.hr.obj i _ _ es er
    have hH := q1.nl rfl
    have hp : g.pn r[i] = none := s.hr.nopin er es rfl
    refine (pe_lock h).run pins s0 σ H Q I ⟨r[i], .dK (ks.zip us), hH, trivial, fun od => ?_⟩
    refine ⟨F, r, env, S.set i (.lck (.dct (.k ks) vs)), _, ⟨s.hr.lockD (od := od) er es hH hl q3, s.sl, s.vr⟩, ?_⟩
    cases ei : inner env (S.set i (.lck (.dct (.k ks) vs))) with
    | no => rw [ei] at hh; exact hh
    | ex => rw [ei] at hh; exact hh
    | ok p S1 =>
      rw [ei] at hh
      intro F1 r1 H1 u x1 s1 q
      have ef := (s1.hr.pin _ _ lk_at).1
      refine ⟨ef, ?_⟩
      have h2 := s1.hr.unlockD hp (x1.at_ i _ er) hl (RVs.mono x1.1 (lim_mono x1.2 i) _ _ q3)
      refine hh F1 r1 _ u x1 ⟨h2, s1.sl, s1.vr⟩ ?_
      obtain ⟨b, v⟩ := p
      cases b with
      | false => exact q
      | true =>
        obtain ⟨a, ho, rfl, k1, k2, k3, k4, k5, k6⟩ := q
        have hne : a ≠ r[i] := fun z => k3 (z ▸ List.mem_of_getElem? (x1.at_ i _ er))
        refine ⟨a, ho, rfl, by rw [upd_ne hne]; exact k1, k2, k3, ?_, k5, k6⟩
        have z : upd g.pn r[i] _ a = none := k4
        rw [upd_ne hne] at z
        exact z
theorem ss_lkD (fe : SE) (h : PS X st (rdS G n0 fs)) : PS X st (rdS G n0 (sLkD fe fs)) := by
  refine ⟨fun pins s0 σ H D I ⟨F, r, env, S, g, s, hh⟩ => ?_⟩
  unfold sLkD at hh
  cases ep : peekD fe env S with
  | none =>
    rw [ep] at hh
    exact h.run pins s0 σ H D I ⟨F, r, env, S, g, s, hh⟩
  | some z =>
    obtain ⟨i, ks, vs⟩ := z
    rw [ep] at hh
    simp only at hh
    have es : S[i]? = some (.dct (.k ks) vs) := peekD_ok ep
    have hi : i < r.length := by rw [s.hr.len]; exact (List.getElem?_eq_some_iff.mp es).1
    have er : r[i]? = some r[i] := List.getElem?_eq_getElem hi
    obtain ⟨ho, q1, us, ⟨rfl, hl⟩, q3⟩ := s.hr.obj i _ _ es er
    have hH := q1.nl rfl
    have hp : g.pn r[i] = none := s.hr.nopin er es rfl
    refine (ps_lock h).run pins s0 σ H D I ⟨r[i], .dK (ks.zip us), hH, trivial, fun od => ?_⟩
    refine ⟨F, r, env, S.set i (.lck (.dct (.k ks) vs)), _, ⟨s.hr.lockD (od := od) er es hH hl q3, s.sl, s.vr⟩, ?_⟩
    have back : ∀ {F1 r1 H1 S1}, Ext F F1 r r1 → HR G n0 (g.lock r[i] (.frz od (.dK (ks.zip us)))) F1 r1 S1 H1 → H1 r[i] = some (.frz od (.dK (ks.zip us))) ∧ HR G n0 g F1 r1 (S1.set i (.dct (.k ks) vs)) (upd H1 r[i] (.dK (ks.zip us))) := fun {F1 r1 H1 S1} x1 h1 =>
      ⟨(h1.pin _ _ lk_at).1, h1.unlockD hp (x1.at_ i _ er) hl (RVs.mono x1.1 (lim_mono x1.2 i) _ _ q3)⟩
    cases ei : fs env (S.set i (.lck (.dct (.k ks) vs))) with
    | no => rw [ei] at hh; exact hh
    | ex => rw [ei] at hh; exact hh
    | nx e' S1 => rw [ei] at hh; exact fun F1 r1 H1 σ1 x1 s1 => ⟨(back x1 s1.hr).1, hh F1 r1 _ σ1 x1 ⟨(back x1 s1.hr).2, s1.sl, s1.vr⟩⟩
    | bk e' S1 => rw [ei] at hh; exact fun F1 r1 H1 σ1 x1 s1 => ⟨(back x1 s1.hr).1, hh F1 r1 _ σ1 x1 ⟨(back x1 s1.hr).2, s1.sl, s1.vr⟩⟩
    | ct e' S1 => rw [ei] at hh; exact fun F1 r1 H1 σ1 x1 s1 => ⟨(back x1 s1.hr).1, hh F1 r1 _ σ1 x1 ⟨(back x1 s1.hr).2, s1.sl, s1.vr⟩⟩
    | rt w S1 => rw [ei] at hh; exact fun F1 r1 H1 u x1 h1 q => ⟨(back x1 h1).1, hh F1 r1 _ u x1 (back x1 h1).2 q⟩
end
end PX
set_option Elab.async false
set_option linter.all false
set_option maxRecDepth 100000
set_option maxHeartbeats 1000000
/-! {k: v, ..} -/
namespace PX
open PySem PySem.Spec PyProof.Rows L2
def evP : List (SE × SE) → Env → Store → R (List (PV × PV))
  | [], _, S => .ok [] S
  | p :: ps, env, S => (p.1 env S).bind fun k S1 => (p.2 env S1).bind fun v S2 => (evP ps env S2).bind fun r S3 => .ok ((k.2, v.2) :: r) S3
def eDsp (ps : List (SE × SE)) : SE := fun env S => (evP ps env S).bind fun kv S1 => match keysOf (kv.map Prod.fst) with
  | some ks => .ok (true, .dct (.k (mergeB [] [] ks (kv.map Prod.snd)).1) (mergeB [] [] ks (kv.map Prod.snd)).2) S1
  | none => .no
section
variable {G : Gam} {n0 : Nat} {g : Gh} {F : Hp} {r : List Addr} {S : Store} {H : Hp}
def OkR {α : Type} (P : α → Store → Prop) (z : R α) : Prop := match z with
  | .ok a S' => P a S'
  | _ => False
theorem cnR {α : Type} {P : α → Store → Prop} : Cn (OkR P) := ⟨fun h => h, fun _ _ _ h => h⟩
def KvP (G : Gam) (n0 : Nat) (g : Gh) (F : Hp) (r : List Addr) (env : Env) (σ : L2.St) (K : List (V × V) → Hp → Prop) (kv : List (PV × PV)) (S' : Store) : Prop :=
  ∀ F' r' H' us, Ext F F' r r' → Sg G n0 g F' r' env σ S' H' → RVs G F' r' (kv.map Prod.fst) (us.map Prod.fst) → RVs G F' r' (kv.map Prod.snd) (us.map Prod.snd) → K us H'
theorem pairs_core : ∀ (ps : List (SE × SE)) {g : Gh} {F : Hp} {r : List Addr} {env : Env} {σ : L2.St} {S : Store} {H : Hp} (s : Sg G n0 g F r env σ S H) (K : List (V × V) → Hp → Prop),
    OkR (KvP G n0 g F r env σ K) (evP ps env S) → tPairs (ps.map fun p => (rdV G n0 p.1, rdV G n0 p.2)) σ H K
  | [], g, F, r, env, σ, S, H, s, K, h => h F r H [] (.refl _ _) s rfl rfl
  | p :: ps, g, F, r, env, σ, S, H, s, K, h => by
    have h : OkR (KvP G n0 g F r env σ K) ((p.1 env S).bind fun k S1 => (p.2 env S1).bind fun v S2 => (evP ps env S2).bind fun r S3 => R.ok ((k.2, v.2) :: r) S3) := h
    refine stV s cnR h fun k S1 F1 r1 H1 u x1 s1 q1 h1 => ?_
    refine stV s1 cnR h1 fun v S2 F2 r2 H2 w x2 s2 q2 h2 => ?_
    refine pairs_core ps s2 _ ?_
    cases e : evP ps env S2 with
    | no => rw [e] at h2; exact h2
    | ex => rw [e] at h2; exact h2
    | ok kv S3 =>
      rw [e] at h2
      exact fun F3 r3 H3 us x3 s3 q3 q4 => h2 F3 r3 H3 ((u, w) :: us) ((x1.trans x2).trans x3) s3 ⟨_, _, rfl, (q1.ext x2).ext x3, q3⟩ ⟨_, _, rfl, q2.ext x3, q4⟩
theorem unzipK : ∀ {ks : List Key} {us : List (V × V)}, us.map Prod.fst = ks.map kV → us = (ks.zip (us.map Prod.snd)).map fun kv => (kV kv.1, kv.2)
  | [], us, h => by
    cases us with
    | nil => rfl
    | cons u us => cases h
  | k :: ks, us, h => by
    cases us with
    | nil => cases h
    | cons u us =>
      rw [List.map_cons, List.map_cons] at h
      have h1 := (List.cons.inj h).1
      have h2 := unzipK (List.cons.inj h).2
      rw [List.map_cons, List.zip_cons_cons, List.map_cons, ← h2, ← h1]
variable {X : Cx} {pos : Pos} {keys : List (Option Expr)} {values : List Expr}
theorem se_disp {ps : List (SE × SE)} (h : PPs X pos keys values (ps.map fun p => (rdV G n0 p.1, rdV G n0 p.2))) (hn : ps.length ≤ 15) (hall : keys.all (·.isSome) = true := by rfl) (hl : keys.length = values.length := by rfl) (h0 : keys ≠ [] := by (intro z; cases z))
    (h15 : keys.length ≤ 15 := by decide) : PE X (.Dict keys values pos) (rdE G n0 (eDsp ps)) := by
  refine peI (pe_disp h hall hl h0 h15) fun σ H Q ⟨F, r, env, S, g, s, hh⟩ p hp => ?_
  have hgp : g.pn p = none := s.hr.nop hp
  refine pairs_core ps (g := g.pin p (.dK [])) ⟨s.hr.pinNew hp, s.sl, s.vr⟩ _ ?_
  have hh : PoE G n0 g F r env σ ((evP ps env S).bind fun kv S1 => match keysOf (kv.map Prod.fst) with
    | some ks => .ok (true, .dct (.k (mergeB [] [] ks (kv.map Prod.snd)).1) (mergeB [] [] ks (kv.map Prod.snd)).2) S1
    | none => .no) Q := hh
  cases e : evP ps env S with
  | no => rw [e] at hh; exact hh
  | ex => rw [e] at hh; exact hh
  | ok kv S1 =>
    rw [e, R.bind_ok] at hh
    intro F1 r1 H1 us x1 s1 q1 q2
    have hlen : ∀ {ps : List (SE × SE)} {S S1 : Store} {kv : List (PV × PV)}, evP ps env S = .ok kv S1 → kv.length = ps.length := by
      intro ps
      induction ps with
      | nil => intro S S1 kv e; cases e; rfl
      | cons p ps ih =>
        intro S S1 kv e
        have e : ((p.1 env S).bind fun k S1 => (p.2 env S1).bind fun v S2 => (evP ps env S2).bind fun r S3 => .ok ((k.2, v.2) :: r) S3) = R.ok kv S1 := e
        cases e1 : p.1 env S with
        | no => rw [e1] at e; cases e
        | ex => rw [e1] at e; cases e
        | ok a S2 =>
          rw [e1, R.bind_ok] at e
          cases e2 : p.2 env S2 with
          | no => rw [e2] at e; cases e
          | ex => rw [e2] at e; cases e
          | ok b S3 =>
            rw [e2, R.bind_ok] at e
            cases e3 : evP ps env S3 with
            | no => rw [e3] at e; cases e
            | ex => rw [e3] at e; cases e
            | ok c S4 =>
              rw [e3, R.bind_ok] at e
              cases e
              rw [List.length_cons, List.length_cons, ih e3]
    have hk := hlen e
    cases ek : keysOf (kv.map Prod.fst) with
    | none => rw [ek] at hh; exact hh.elim
    | some ks =>
      rw [ek] at hh
      have ef := keysOf_ok q1 ek
      refine ⟨(s1.hr.pin _ _ pin_at).1, ks.zip (us.map Prod.snd), unzipK ef, ?_, ?_⟩
      · have l1 := RVs.length q1
        rw [List.length_map, List.length_map] at l1
        have l2 : us.length = ks.length := by
          have := congrArg List.length ef
          rwa [List.length_map, List.length_map] at this
        rw [List.length_zip, List.length_map]
        omega
      · have l2 : ks.length = (us.map Prod.snd).length := by
          have := congrArg List.length ef
          rw [List.length_map, List.length_map] at this
          rw [List.length_map]
          omega
        obtain ⟨us', f1, f2, f3⟩ := mergeB_ok (ks := []) (vs := []) (us := []) l2 q2 rfl rfl
        have f1 : mergeK [] (ks.zip (us.map Prod.snd)) = _ := f1
        rw [f1]
        have hpr := pin_out s1.hr
        have hpF : F1 p = none := noFz (s1.hr.pin _ _ pin_at).2.1 rfl
        have h2 := (s1.hr.pinSet (ho' := .dK ((mergeB [] [] ks (kv.map Prod.snd)).1.zip us'))).unpin hgp
        exact hh F1 r1 _ (.ref p) x1 ⟨h2, s1.sl, s1.vr⟩ ⟨p, _, rfl, upd_same, hpF, hpr, hgp, ⟨us', ⟨rfl, f2⟩, f3⟩, rfl⟩
end
end PX
set_option Elab.async false
set_option linter.all false
set_option maxRecDepth 100000
set_option maxHeartbeats 4000000
/-! sorted(xs, reverse=b), sorted(d.values(), reverse=b) -/
namespace SrtV
open PySem PyProof.Rows Srt SrtO PySem.W
section
variable {prog : Program} {w : World} {A : Around} {E : Value → Shared → Prop} {s : Shared} {T : String} {r d : Addr} {n : Nat} {P : Nat → Value → Prop} {OK : Heap → Prop}
theorem collect_src {Q : List Value → Shared → Prop} (K : KdlSrc prog w T r d n P OK) (hh : A.handled = none) (hok : OK s.heap) (hn : n ≤ sizeLine)
    (h : ∀ h' tk (acc : Array Value), (∀ b o, s.heap.get? b = some o → h'.get? b = some o) → s.heap.objs.size < h'.objs.size → ItemsOf P acc n → Q acc.toList { s with heap := h', toks := tk }) :
    wpAny (model prog w) A (collect (.ref r)) Q E s := by
  unfold collect
  refine wpAny_bind (wpAny_runValue (codeAny_builtin entry_proto_collect' ?_))
  show wpAny _ _ (do again (.builtin "list.__iadd__" ⟨[← newList [], .ref r], []⟩)) _ _ s
  refine wpAny_bind (wpAny_newList (wpAny_pure ⟨Code.quiet_builtin _ (by decide +kernel), codeAny_builtin entry_list_iadd' ?_⟩))
  have hlt := K.there _ hok
  refine wpAny_mono (kdl_extend (A := A) (R := fun res s' => match res with
    | .ok (.ret v) => wpAny (model prog w) A (match v with
      | .ref a => do
        let o ← load a
        match o.data with
        | .seq xs _ => pure xs.toList
        | _ => unsupported "internal:collect"
      | _ => unsupported "internal:collect") Q E s'
    | .ok _ => False
    | .error e => E e s') K (s := { s with heap := s.heap.push (seqObj "list" #[] 0) }) hh (K.keep _ _ hok fun b _ o e => Heap.get?_push_of_some _ e) s.heap.objs.size (Nat.ne_of_gt hlt.1) (Nat.ne_of_gt hlt.2) (.ref s.heap.objs.size) 0 (Heap.get?_push_size _ rfl) (fun h' tk acc c' hk hS hacc => ?_) hn) (fun fin s' x => ?_) (fun e s' x => x)
  · show wpAny (model prog w) A (do
      let o ← load s.heap.objs.size
      match o.data with
      | .seq xs _ => pure xs.toList
      | _ => unsupported "internal:collect") Q E { s with heap := h', toks := tk }
    refine wpAny_bind (wpAny_load hS ?_)
    exact wpAny_pure (h h' tk acc (fun b o e => hk b o (Nat.ne_of_lt (Heap.lt_size e)) (Heap.get?_push_of_some _ e)) (Heap.lt_size hS) hacc)
  · cases fin with
    | done f =>
      cases f <;> exact x
    | again c' =>
      refine ⟨x.1, ?_⟩
      exact x.2
theorem sorted_src {b : Bool} {kw : List (Str × Value)} {ns : List Int} {Q : Value → Shared → Prop} (K : KdlSrc prog w T r d n P OK) (hh : A.handled = none) (hok : OK s.heap) (hn : n ≤ sizeLine)
    (hk : ∀ a, Builtin.«list.sort» ⟨[.ref a], kw⟩ = Builtin.«list.sort» ⟨[.ref a], [(Str.ofString "reverse", .bool b)]⟩)
    (ha1 : argsOk "sorted" ⟨[.ref r], kw⟩) (ha2 : ∀ a, argsOk "list.sort" ⟨[a], kw⟩) (hi : ∀ acc : Array Value, ItemsOf P acc n → IntsAre acc.toList ns)
    (h : ∀ (h' : Heap) tk (a : Addr) (ep : Nat) (out : Array Value) (ns' : List Int), (∀ b o, s.heap.get? b = some o → h'.get? b = some o) → s.heap.objs.size ≤ a → h'.get? a = some (seqObj "list" out ep) → IntsAre out.toList ns' → ns'.Perm ns → Ordered b ns' → Q (.ref a) { s with heap := h', toks := tk }) :
    wpAny (model prog w) A (call (.builtin "sorted") [.ref r] kw) Q E s := by
  refine call_function_entry_kw kind_sorted plain_sorted entry_sorted ha1 ?_
  unfold Builtin.«sorted»
  refine wpAny_bind (m := checkCount "sorted" 1 1 _) (wpAny_pure ?_)
  refine wpAny_bind (collect_src K hh hok hn fun h1 tk acc k1 hsz hacc => ?_)
  have hI := hi acc hacc
  have hz : acc.toList.length ≤ sizeLine := by rw [Array.length_toList, hacc.1]; exact hn
  refine wpAny_bind (wpAny_newList ?_ hz)
  have hoL : (h1.push (seqObj "list" acc.toList.toArray 0)).get? h1.objs.size = some (seqObj "list" acc.toList.toArray 0) := Heap.get?_push_size _ rfl
  have hle : s.heap.objs.size ≤ h1.objs.size := Nat.le_of_lt hsz
  show wpAny _ _ _ _ _ { s with heap := h1.push (seqObj "list" acc.toList.toArray 0), toks := tk }
  refine wpAny_bind (wpAny_holding (wpAny_call_entry_kw slot_list_sort ⟨_, hoL, rfl⟩ entry_list_sort ?_ (ha2 _)))
  rw [hk]
  refine SrtR.list_sort_ordR swo_int hoL hz (fun h2 => ints_sortable hI h2) fun out hs hb => ⟨_, rfl, ?_⟩
  obtain ⟨ns', q1, q2, q3⟩ := SrtR.ints_outR hI hs hb
  obtain ⟨ep, he⟩ := sortedHeap_at (vs := acc.toList) (out := if b = true then out.toArray.reverse else out.toArray) hoL
  refine wpAny_pure ⟨_, rfl, h _ tk h1.objs.size ep _ ns' (fun c o e => ?_) hle he q1 q2 q3⟩
  have hc := Heap.lt_size (k1 c o e)
  rw [sortedHeap_old (Nat.ne_of_lt hc) (by rw [size_push']; exact Nat.lt_succ_of_lt hc)]
  exact Heap.get?_push_of_some _ (k1 c o e)
end
end SrtV
namespace L2
open PySem PySem.Spec PyProof.Rows PySem.W
/-! d.values() -/
def tVw (td : TE) : TE := fun σ H Q => td σ H fun x H1 => ∃ d kvs, x = .ref d ∧ Rd H1 d (.dK kvs) ∧ ∀ p, H1 p = none → Q (.ref p) (upd H1 p (viewO "dict_values" p d))
theorem pe_vw {X : Cx} {e : Expr} {td : TE} {apos cpos : Pos} (he : PE X e td) (hbase : attributeBase e "values" X.env (eval e X.env) = eval e X.env := by rfl) (hline : (apos.endLine == cpos.line) = true := by rfl) : PE X (.Call (.Attribute e "values" apos) [] [] cpos) (tVw td) := by
  refine ⟨fun pins s σ H Q I h => ?_⟩
  refine wpAny_Call_method (T := "dict") (id := "dict.values") hbase rfl hline F.plainAttrs_dict F.slot_dict_values F.type_dict_values (thn (he.run pins s σ H _ I h) fun u s1 ⟨x, H1, I1, rx, d, kvs, ex, hd, q⟩ => ?_)
  subst ex
  obtain rfl : u = Value.ref d := rx
  obtain ⟨hz, hs, vs, kv, hm⟩ := dk_rd I1.hok hd
  refine ⟨hm.typeIs, hm.mapOf.noDict, ?_⟩
  show wpAny _ _ (callWith cpos (.builtin "dict.values") [.ref d] [] []) _ X.xe s1
  exact method_meetsIn F.slot_dict_values F.entry_dict_values rfl (PySem.evalArgs_none ⟨rfl, hm.typeIs, F.args_dict_values_1 _, _, meets_dict_values (mixKind X.prog X.w) d hs, ⟨vs, hm⟩,
    ⟨.ref s1.heap.objs.size, _, I1.laid (t' := s1.toks) (fun b o q => Heap.get?_push_of_some _ q) (Nat.le_refl _) (viewO_ok (Heap.get?_push_size _ rfl)), rfl, q _ (I1.hok.fresh (Nat.le_refl _))⟩⟩)
/-! sorted of it -/
def rSortV (b : Bool) : List V → List V → Hp → VK → Prop := fun vs zs H Q => ∃ (p d : Addr) (kvs : List (Key × V)) (ns : List Int), vs = [V.ref p] ∧ zs = [.bl b] ∧ H p = some (viewO "dict_values" p d) ∧ Rd H d (.dK kvs) ∧ kvs.map Prod.snd = ns.map V.int ∧
  ∀ (ns' : List Int) (q : Addr), ns'.Perm ns → OrdB b ns' → H q = none → Q (.ref q) (upd H q (.lst (ns'.map V.int)))
theorem cr_sortV {X : Cx} {b : Bool} (hc : X.calm = true) : CallRK X (.builtin "sorted") [Str.ofString "reverse"] (rSortV b) := by
  intro pins s σ H vs zs us ws Q I r rz h
  obtain ⟨p, d, kvs, ns, rfl, rfl, hp, hd, en, q⟩ := h
  obtain rfl := Vals.ref1 r
  obtain ⟨w1, rfl, e1⟩ := vals1 rz
  obtain rfl : w1 = Value.bool b := e1
  obtain ⟨hz, hs, ws, kv, hm⟩ := dk_rd I.hok hd
  have hv : s.heap.get? p = some (DSub.viewOb "dict_values" d) := (show ObjOk X.prog X.w H s.heap p (viewO "dict_values" p d) from I.hok p _ hp).1
  obtain ⟨o, es, ep, hm⟩ := hm
  have hlen : ws.length = kvs.length := (Paired.length kv).symm
  refine SrtV.sorted_src (ns := ns) (kdl_values (knd := mixKind X.prog X.w) (r := p) (d := d) (kvs := ws) (ep := ep)) (I.ok.hd hc) ⟨⟨_, hv, rfl, rfl⟩, ⟨o, es, hm⟩⟩ (by rw [hlen]; exact hz) (fun _ => rfl) (PyProof.Rows.args_sorted_rev _ _) (fun _ => PyProof.Rows.args_list_sort_rev _ _) (fun acc ha => ?_) fun h' tk a ep' out ns' k hle he hI hp' ho => ?_
  · have hvs : Vals (ns.map V.int) acc.toList := by
      have e1 : acc.toList = ws.map Prod.snd := kdl_vals_eq acc.toList (by rw [Array.length_toList, ha.1]) fun j v e => ha.2 j v (by rw [← Array.getElem?_toList]; exact e)
      rw [e1, ← en]
      clear en hz hd ha e1 hm hlen q
      unfold KV at kv
      induction kv with
      | nil => exact .nil
      | cons h t ih => exact .cons h.2 ih
    exact hvs.ints
  · have hl : (ns'.map V.int).length ≤ sizeLine := by
      rw [List.length_map, hp'.length_eq]
      have := congrArg List.length en
      rw [List.length_map, List.length_map] at this
      omega
    exact ⟨.ref _, upd H a (.lst (ns'.map V.int)), I.laid (t' := tk) k hle ⟨hl, out.toList, ep', vals_of_ints hI, by rw [Array.toArray_toList]; exact he⟩, rfl, q _ _ hp' ho (I.hok.fresh hle)⟩
end L2
namespace PX
open PySem PySem.Spec PyProof.Rows L2
/-! by values -/
def srtB (b : Bool) (ns : List Int) : List Int := if b then (srtI ns).reverse else srtI ns
theorem srtB_eq {b : Bool} {ns ns' : List Int} (p : ns'.Perm ns) (h : OrdB b ns') : ns' = srtB b ns := by
  unfold srtB
  unfold OrdB at h
  cases b with
  | false => exact srtI_eq p h
  | true =>
    have e : ns'.reverse = srtI ns := srtI_eq (ns'.reverse_perm.trans p) (List.pairwise_reverse.mpr h)
    show ns' = (srtI ns).reverse
    rw [← e, List.reverse_reverse]
def eSrt (b : Bool) (a : SE) : SE := fun env S => (a env S).bind fun p S1 => match itemsOf S1 p.2 with
  | some ws => match intsOf ws with
    | some ns => .ok (true, .lst ((srtB b ns).map .int)) S1
    | none => .no
  | none => .no
def valsOf (S : Store) (v : PV) : Option (List PV) := match deref S v with
  | some (.dct (.k _) vs) => some vs
  | _ => none
def eSrtV (b : Bool) (a : SE) : SE := fun env S => (a env S).bind fun p S1 => match valsOf S1 p.2 with
  | some ws => match intsOf ws with
    | some ns => .ok (true, .lst ((srtB b ns).map .int)) S1
    | none => .no
  | none => .no
section
variable {G : Gam} {n0 : Nat} {g : Gh} {F : Hp} {r : List Addr} {S : Store} {H : Hp} {X : Cx}
theorem intsOf_ok : ∀ {ws : List PV} {ns : List Int}, intsOf ws = some ns → ws = ns.map .int
  | [], ns, e => by cases e; rfl
  | w :: ws, ns, e => by
    cases w with
    | int i =>
      have e : (intsOf ws).map (i :: ·) = some ns := e
      cases e1 : intsOf ws with
      | none => rw [e1] at e; cases e
      | some ms =>
        rw [e1] at e
        cases e
        rw [intsOf_ok e1]
        rfl
    | _ => cases e
theorem se_srt {b : Bool} {e : Expr} {fe : SE} {p pos kp kp2 : Pos} {kk : Nat} (hK : G.K = X.K) (hg : Gl X "sorted") (hm : X.mg "sorted" = none) (he : PE X e (rdE G n0 fe)) (hs : starEach [e] X.env = [(false, eval e X.env)] := by rfl) (hb : ∀ (X : Cx), PE X (.Constant (.bool b) kk kp) (tC (.bl b)) := by exact fun _ => pe_bl)
    (hes : backTo pos (starEach [e] X.env) = (false, eval e X.env) :: backTo pos (starEach [] X.env) := by rfl) (hpl : (backTo pos (starEach [e] X.env)).any (·.1) = false := by rfl) :
    PE X (.Call (.Name "sorted" p) [e] [⟨some "reverse", .Constant (.bool b) kk kp, kp2⟩] pos) (rdE G n0 (eSrt b fe)) := by
  refine peI (pe_callBK (cr_sortedR (X := X) (b := b)) hg hm (by rfl) (pa_cons (toV he) pa_nil hs) (pk_cons (hb X) pk_nil) (by decide) (by decide) hes hpl) fun σ H Q ⟨F, r, env, S, g, s, h⟩ => ?_
  refine stV s cnE h fun p S1 F1 r1 H1 u x1 s1 q1 h1 => ?_
  cases ei : itemsOf S1 p.2 with
  | none => rw [ei] at h1; exact h1.elim
  | some ws =>
    simp only [ei] at h1
    cases en : intsOf ws with
    | none => rw [en] at h1; exact h1.elim
    | some ns =>
      rw [en] at h1
      obtain ⟨a, us, rfl, hq, rv⟩ := view_seq s1.hr q1 ei
      rw [intsOf_ok en] at rv
      have eu := RVs.ints rv
      subst eu
      refine ⟨a, ns, rfl, rfl, hK ▸ hq, fun ns' p' hp ho hn => ?_⟩
      rw [srtB_eq hp ho]
      obtain ⟨h2, k4⟩ := new_obj s1.hr hn (v := .lst ((srtB b ns).map .int)) ⟨_, rfl, RVs.of_ints _⟩ rfl
      exact h1 F1 r1 _ _ x1 (s1.ext (.refl _ _) h2) k4
theorem se_srtV {b : Bool} {e : Expr} {fe : SE} {p pos apos cpos kp kp2 : Pos} {kk : Nat} (hc : X.calm = true) (hg : Gl X "sorted") (hm : X.mg "sorted" = none) (he : PE X e (rdE G n0 fe)) (hbase : attributeBase e "values" X.env (eval e X.env) = eval e X.env := by rfl) (hline : (apos.endLine == cpos.line) = true := by rfl)
    (hs : starEach [.Call (.Attribute e "values" apos) [] [] cpos] X.env = [(false, eval (.Call (.Attribute e "values" apos) [] [] cpos) X.env)] := by rfl) (hb : ∀ (X : Cx), PE X (.Constant (.bool b) kk kp) (tC (.bl b)) := by exact fun _ => pe_bl)
    (hes : backTo pos (starEach [.Call (.Attribute e "values" apos) [] [] cpos] X.env) = (false, eval (.Call (.Attribute e "values" apos) [] [] cpos) X.env) :: backTo pos (starEach [] X.env) := by rfl) (hpl : (backTo pos (starEach [.Call (.Attribute e "values" apos) [] [] cpos] X.env)).any (·.1) = false := by rfl) :
    PE X (.Call (.Name "sorted" p) [.Call (.Attribute e "values" apos) [] [] cpos] [⟨some "reverse", .Constant (.bool b) kk kp, kp2⟩] pos) (rdE G n0 (eSrtV b fe)) := by
  refine peI (pe_callBK (cr_sortV (X := X) (b := b) hc) hg hm (by rfl) (pa_cons (pe_vw (toV he) hbase hline) pa_nil hs) (pk_cons (hb X) pk_nil) (by decide) (by decide) hes hpl) fun σ H Q ⟨F, r, env, S, g, s, h⟩ => ?_
  refine stV s cnE h fun p S1 F1 r1 H1 u x1 s1 q1 h1 => ?_
  cases ei : valsOf S1 p.2 with
  | none => rw [ei] at h1; exact h1.elim
  | some ws =>
    simp only [ei] at h1
    cases en : intsOf ws with
    | none => rw [en] at h1; exact h1.elim
    | some ns =>
      rw [en] at h1
      unfold valsOf at ei
      split at ei
      · rename_i kd vs ed
        cases ei
        obtain ⟨a, ho, us, rfl, k1, k2, rv⟩ := view_dct s1.hr q1 ed
        obtain ⟨rfl, hl⟩ := k2
        rw [intsOf_ok en] at rv
        have eu := RVs.ints rv
        subst eu
        refine ⟨a, _, rfl, k1, fun p' hp' => ?_⟩
        have hpa : a ≠ p' := fun z => by
          subst z
          rcases k1 with k1 | ⟨_, k1⟩ <;> rw [hp'] at k1 <;> cases k1
        refine ⟨p', a, kd.zip (ns.map V.int), ns, rfl, rfl, upd_same, ?_, ?_, fun ns' q' hp ho hn => ?_⟩
        · rcases k1 with k1 | ⟨o, k1⟩
          · exact .inl (by rw [upd_ne hpa]; exact k1)
          · exact .inr ⟨o, by rw [upd_ne hpa]; exact k1⟩
        · rw [show (Prod.snd : Key × V → V) = Prod.snd from rfl, List.map_snd_zip (Nat.le_of_eq hl.symm)]
        · rw [srtB_eq hp ho]
          have h0 := s1.hr.heap (H' := upd H1 p' (viewO "dict_values" p' a)) fun b o e => by rw [upd_ne (ne_of_none e hp')]; exact e
          obtain ⟨h2, k4⟩ := new_obj h0 hn (v := .lst ((srtB b ns).map .int)) ⟨_, rfl, RVs.of_ints _⟩ rfl
          exact h1 F1 r1 _ _ x1 (s1.ext (.refl _ _) h2) k4
      · cases ei
end
end PX
set_option Elab.async false
set_option linter.all false
set_option maxRecDepth 100000
set_option maxHeartbeats 1000000
/-! x in W, W a tuple of ints of the module -/
namespace PX
open PySem PySem.Spec PyProof.Rows L2
def isInts : List Value → List Int → Bool
  | [], [] => true
  | .int i _ :: vs, n :: ns => i == n && isInts vs ns
  | _, _ => false
theorem isInts_ok : ∀ {vs : List Value} {ns : List Int}, isInts vs ns = true → Vals (ns.map V.int) vs
  | [], [], _ => .nil
  | v :: vs, [], h => by cases v <;> cases h
  | [], n :: ns, h => by cases h
  | v :: vs, n :: ns, h => by
    cases v with
    | int i t =>
      have h : (i == n && isInts vs ns) = true := h
      rw [Bool.and_eq_true, beq_iff_eq] at h
      rw [← h.1]
      exact .cons ⟨t, rfl⟩ (isInts_ok h.2)
    | _ => cases h
structure TupG (K : PySem.W.Frag) (mg : Str → Option Value) (x : Str) (ns : List Int) (a : Addr) : Prop where
  at_ : mg x = some (.ref a)
  sq : ∀ H, SqT K H a (ns.map V.int)
def tupB (o : Obj) (ns : List Int) : Bool := decide (o.cls = .type "tuple") && match o.data with
  | .seq its _ => isInts its.toList ns && Nat.ble its.size 1000
  | _ => false
def cTup (x : Str) (ns : List Int) : Ck := fun K => match PySem.W.nsIn K mainGlobals x with
  | some (some (.ref a)) => match K.lookup a with
    | some o => tupB o ns
    | none => false
  | _ => false
theorem cTup_ok {K : PySem.W.Frag} {h : Heap} {mg : Str → Option Value} (X : K.In h) (G : h.Ns mainGlobals mg) {x : Str} {ns : List Int} (c : cTup x ns K = true) : ∃ a, TupG K mg x ns a := by
  unfold cTup at c
  split at c
  · rename_i a e
    split at c
    · rename_i o eo
      unfold tupB at c
      rw [Bool.and_eq_true, decide_eq_true_eq] at c
      obtain ⟨c1, c2⟩ := c
      split at c2
      · rename_i its n ed
        rw [Bool.and_eq_true] at c2
        refine ⟨a, PySem.W.mg_of X G e, fun H => .inr ⟨o, its, n, eo, c1, ed, ?_, isInts_ok c2.1⟩⟩
        exact Nat.le_trans (Nat.le_of_ble_eq_true c2.2) (by rw [sizeLine_eq]; decide)
      · cases c2
    · cases c
  · cases c
def oInK (ns : List Int) (f : Bool → Bool) : Op1 := fun x _ => if flatP x then some (false, .bl (f (anyP x (ns.map .int)))) else none
section
variable {X : Cx} {G : Gam} {n0 : Nat} {e : Expr} {fe : SE} {x : Str} {ns : List Int} {p pos : Pos}
theorem flats_int : ∀ ns : List Int, flatsP (ns.map .int) = true
  | [] => rfl
  | n :: ns => by
    show (true && flatsP (ns.map .int)) = true
    rw [flats_int ns]
    rfl
theorem st_inK0 {f : Bool → Bool} {op : CmpOp} (hop : OpR X (compareOp op) (rInG X.K f)) (hT : ∃ a, TupG X.K X.mg x ns a) (hg : Gl X x) (he : PE X e (rdE G n0 fe)) (hm : behindInMarks op (.Name x p) = false := by rfl) (hd : (x == ("__debug__" : Str)) = false := by decide) : PT X (.Compare e [op] [.Name x p] pos) (rdT G n0 (tBl (eUn (oInK ns f) fe))) := by
  obtain ⟨a, hT⟩ := hT
  refine ptI (pt_cmpR hop (toV he) (pe_glob (v := .ref a) hg hT.at_ rfl hd) hm) fun σ H Q ⟨F, r, env, S, g, s, h⟩ => ?_
  have h : PoT G n0 g F r env σ (((fe env S).bind fun p S1 => ofO (oInK ns f p.2 S1) S1).bind fun p S1 => match p.2 with
    | .bl b => .ok b S1
    | _ => .no) Q := h
  have assoc : ∀ {α β γ : Type} (m : R α) (k : α → Store → R β) (l : β → Store → R γ), (m.bind k).bind l = m.bind fun x S => (k x S).bind l := fun m k l => by cases m <;> rfl
  rw [assoc] at h
  refine stV s cnT h fun p S1 F1 r1 H1 u x1 s1 q1 h1 => ?_
  unfold oInK at h1
  cases hf : flatP p.2 with
  | false => rw [hf] at h1; exact h1.elim
  | true =>
    rw [hf] at h1
    refine .inr (.inl ⟨a, ns.map V.int, rfl, .inr (hT.sq H1), flat_ok q1 hf, flats_ok (RVs.of_ints (G := G) (F := F1) (r := r1) ns) (flats_int ns), _, rfl, ?_⟩)
    have e2 := anyP_ok q1 hf (RVs.of_ints (G := G) (F := F1) (r := r1) ns) (flats_int ns)
    rw [← e2]
    exact h1 F1 r1 H1 x1 s1
end
end PX
set_option Elab.async false
set_option linter.all false
set_option maxRecDepth 100000
set_option maxHeartbeats 2000000
/-! == and != where dicts of flat values stand: dicts themselves, lists and tuples that hold them -/
namespace PySem.SeqAt
open AutoSeq1 (wpAny_loadPart')
open MeetsSeq MeetsSeq2 MeetsSeq3 SeqRoads2
section
variable {prog : Program} {w : World}
theorem qne_loop (l b : Addr) (items items2 : Array Value) (n n2 : Nat) (dd dd2 : Option Addr) (sl sl2 : Array (Option Value)) (hsz : items.size = items2.size) (e : Nat → Bool) (k : Nat) :
    ∀ i : Nat, items.size - i = k → MeetsIn prog w (Builtin.«list.__eq__.loop» ⟨[.ref l, .ref b, rawInt i, rawInt 3], []⟩)
      (fun A R s => s.heap.get? l = some { cls := .type "list", dict := dd, data := .seq items n, slots := sl } ∧ s.heap.get? b = some { cls := .type "list", dict := dd2, data := .seq items2 n2, slots := sl2 } ∧
        (∀ j (h1 : j < items.size) (h2 : j < items2.size), EqIn prog w A.in1 s items[j] items2[j] (e j)) ∧
        R (.ok (.ret (.bool (!((List.range items.size).drop i).all e)))) s) := by
  induction k with
  | zero =>
    intro i hk A R s h
    obtain ⟨hp, g, d, tk, os⟩ := s
    obtain ⟨hl, hb, he, h⟩ := h
    wp_walk using wpAny_loadPart' hl, wpAny_loadPart' hb
    have z1 : items[((i : Nat) : Int).toNat]? = none := by simp; omega
    have z2 : items2[((i : Nat) : Int).toNat]? = none := by simp; omega
    have zd : (List.range items.size).drop i = [] := by simp; omega
    rw [zd] at h
    rw [z1, z2]
    wp_walk using wpAny_loadPart' hl, wpAny_loadPart' hb
    show R (.ok (.ret (.bool (items.size != items2.size)))) _
    rw [hsz]
    simpa using h
  | succ k ih =>
    intro i hk A R s h
    obtain ⟨hp, g, d, tk, os⟩ := s
    obtain ⟨hl, hb, he, h⟩ := h
    wp_walk using wpAny_loadPart' hl, wpAny_loadPart' hb
    have lt1 : i < items.size := by omega
    have lt2 : i < items2.size := by omega
    have z1 : items[((i : Nat) : Int).toNat]? = some items[i] := by simp [lt1]
    have z2 : items2[((i : Nat) : Int).toNat]? = some items2[i] := by simp [lt2]
    have zd : (List.range items.size).drop i = i :: (List.range items.size).drop (i + 1) := by simp [List.drop_eq_getElem_cons, lt1]
    have zc : ((i : Int) + 1) = ((i + 1 : Nat) : Int) := by push_cast; rfl
    rw [zd, List.all_cons] at h
    rw [z1, z2]
    refine wpAny_bind (he i lt1 lt2 _ _ ?_)
    cases q : e i with
    | true =>
      rw [q] at h
      wp_walk
      rw [zc]
      refine ⟨plainId_quiet plain_eq_loop _, codeAny_builtin entry_eq_loop ?_⟩
      rw [Around.under_plainId plain_eq_loop _]
      exact ih (i + 1) (by omega) A R _ ⟨hl, hb, he, by simpa using h⟩
    | false =>
      rw [q] at h
      wp_walk using wpAny_loadPart' hl, wpAny_loadPart' hb
      rw [z1, z2]
      wp_walk
      simpa using h
theorem qne_list (l b : Addr) (items items2 : Array Value) (n n2 : Nat) (dd dd2 : Option Addr) (sl sl2 : Array (Option Value)) (hsz : items.size = items2.size) (e : Nat → Bool) :
    MeetsIn prog w (Builtin.«list.__ne__» ⟨[.ref l, .ref b], []⟩)
      (fun A R s => s.heap.get? l = some { cls := .type "list", dict := dd, data := .seq items n, slots := sl } ∧ s.heap.get? b = some { cls := .type "list", dict := dd2, data := .seq items2 n2, slots := sl2 } ∧
        (∀ j (h1 : j < items.size) (h2 : j < items2.size), EqIn prog w A.in1 s items[j] items2[j] (e j)) ∧
        R (.ok (.ret (.bool (!(List.range items.size).all e)))) s) := by
  intro A R s h
  obtain ⟨hp, g, d, tk, os⟩ := s
  obtain ⟨hl, hb, he, h⟩ := h
  have f3 := AutoSeq1.sub_list_list
  have hne : ¬ (items.size != items2.size) = true := by simp [hsz]
  wp_walk using wpAny_loadPart' hl, wpAny_loadPart' hb
  refine ⟨plainId_quiet plain_eq_loop _, codeAny_builtin entry_eq_loop ?_⟩
  rw [Around.under_plainId plain_eq_loop _]
  exact qne_loop l b items items2 n n2 dd dd2 sl sl2 hsz e _ 0 rfl A R _ ⟨hl, hb, he, by simpa using h⟩
variable {A : Around} {s : Shared}
theorem qne_lists {E : Value → Shared → Prop} {l b : Addr} {items items2 : Array Value} {e : Nat → Bool} {Q : Value → Shared → Prop} (hl : s.heap.IsList l items) (hb : s.heap.IsList b items2) (hsz : items.size = items2.size) (hu : A.units < cLine)
    (he : ∀ j (h1 : j < items.size) (h2 : j < items2.size), EqIn prog w A.in1 s items[j] items2[j] (e j)) (h : Q (.bool (!(List.range items.size).all e)) s) : wpAny (model prog w) A (richCompare .NotEq (.ref l) (.ref b)) Q E s := by
  obtain ⟨⟨cls, dd, data, sl⟩, ho, hc, n, hd⟩ := id hl
  obtain ⟨⟨cls2, dd2, data2, sl2⟩, ho2, hc2, n2, hd2⟩ := id hb
  simp only at hc hd hc2 hd2
  subst hc hd hc2 hd2
  exact wpAny_richCompare_same_room (T := "list") (op := .NotEq) ⟨_, ho, rfl⟩ ⟨_, ho2, rfl⟩ F.slot_list_ne (call_meetsIn F.slot_list_ne ⟨_, ho, rfl⟩ F.entry_list_ne (F.args_list_ne_2 _ _) (qne_list l b items items2 n n2 dd dd2 sl sl2 hsz e)
    ⟨ho, ho2, he, show Value.bool (!(List.range items.size).all e) ≠ Value.notImplemented ∧ Q (.bool (!(List.range items.size).all e)) s from ⟨(fun x => nomatch x), h⟩⟩) hu
end
end PySem.SeqAt
namespace PySem.W
open PySem PySem.Calls PyProof.Rows PyProof.V PySem.Spec PySem.SeqAt
section
variable {prog : Program} {w : World} {K : Type} [DecidableEq K] {knd : KeyKind prog w K} {A : Around} {E : Value → Shared → Prop} {s : Shared}
theorem qne_dicts {a b : Addr} {ka kb : List (K × Value)} {r : Bool} {Q : Value → Shared → Prop} (ha : (a == sysModules) = false) (hb : (b == sysModules) = false)
    (da : s.heap.DictOf knd a ka) (db : s.heap.DictOf knd b kb) (hu : A.units < cLine) (hits : ka.length = kb.length → KeqHitsIn prog w A.in1 s kb ka r) (h : Q (.bool (!(ka.length == kb.length && r))) s) :
    wpAny (model prog w) A (compareOp .NotEq (.ref a) (.ref b)) Q E s := by
  refine wpAny_richCompare_same_room (op := .NotEq) da.typeIs db.typeIs PySem.F.slot_dict_ne (wpAny_call_entry PySem.F.slot_dict_ne da.typeIs PySem.F.entry_dict_ne ?_ (PySem.F.args_dict_ne_2 _ _)) hu
  show wpAny _ _ (Builtin.Dict.dictSlotArgs "__ne__" ⟨[.ref a, .ref b], []⟩ >>= _) _ _ s
  refine wpAny_bind ?_
  unfold Builtin.Dict.dictSlotArgs
  refine wpAny_bind (wpAny_notOrdered_dict da.typeIs ?_)
  show wpAny _ _ (pure (Value.ref a, Value.ref b)) _ _ s
  refine wpAny_pure ?_
  refine wpAny_bind (wpAny_isInstance (T := "dict") db.typeIs PySem.F.sub_dict_dict ?_)
  simp only [Bool.not_true, Bool.false_eq_true, if_false]
  refine wpAny_bind (wpAny_pure (wpAny_bind (wpAny_pure ?_)))
  refine wpAny_bind (keq_samePairsIn ha hb da db hits ?_)
  exact wpAny_pure ⟨_, rfl, (fun x => nomatch x), by simpa using h⟩
end
end PySem.W
namespace L2
open PySem PySem.Spec PyProof.Rows PySem.SeqAt
/-! at the level of V -/
def beqD (ka kb : List (Key × V)) : Bool := ka.length == kb.length && ka.all fun p => match valV kb p.1 with
  | some u => eqV p.2 u
  | none => false
def flatD (ka : List (Key × V)) : Bool := ka.all fun p => flatV p.2
theorem eqV_refl {x : V} (h : flatV x = true) : eqV x x = true := by
  cases x with
  | non => rfl
  | bl b => exact beq_self_eq_true b
  | int i => exact beq_self_eq_true i
  | str s => exact beq_self_eq_true s
  | _ => cases h
theorem valV_self : ∀ {ka : List (Key × V)}, (ka.map (·.1)).Nodup → ∀ p ∈ ka, valV ka p.1 = some p.2
  | q :: ka, nd, p, hp => by
    rw [List.map_cons, List.nodup_cons] at nd
    unfold valV
    rw [List.find?_cons]
    rcases List.mem_cons.mp hp with e | hp
    · rw [e]; simp
    · have hne : ¬ q.1 = p.1 := fun z => nd.1 (List.mem_map.mpr ⟨p, hp, z.symm⟩)
      have ih := valV_self nd.2 p hp
      unfold valV at ih
      simp only [hne, decide_false]
      exact ih
theorem beqD_self {ka : List (Key × V)} (nd : (ka.map (·.1)).Nodup) (f : flatD ka = true) : beqD ka ka = true := by
  unfold beqD
  rw [beq_self_eq_true, Bool.true_and, List.all_eq_true]
  intro p hp
  rw [valV_self nd p hp]
  exact eqV_refl (List.all_eq_true.mp f p hp)
section
variable {X : Cx} {pins : List (Addr × Obj)} {σ : St} {H : Hp} {s : Shared}
theorem hitsD {P : Program} {w : World} {A : Around} {ls : List (Key × V)} {vb : List (Key × Value)} (rb : KV ls vb) (fb : flatD ls = true) {ks : List (Key × V)} {va : List (Key × Value)} (ra : KV ks va) : flatD ks = true →
    PySem.W.KeqHitsIn P w A s vb va (ks.all fun p => match valV ls p.1 with
      | some u => eqV p.2 u
      | none => false) := by
  unfold KV at ra
  induction ra with
  | nil => intro _; exact .nil
  | @cons p q ps qs h t ih =>
    intro fk
    have fk : (flatV p.2 && flatD ps) = true := fk
    rw [Bool.and_eq_true] at fk
    obtain ⟨key, v⟩ := q
    obtain ⟨h1, h2⟩ := h
    have h1 : p.1 = key := h1
    have rr := rb.val p.1
    rw [List.all_cons]
    cases ev : valV ls p.1 with
    | none =>
      rw [ev] at rr
      rw [h1] at rr
      have hn : valueAt vb key = none := by
        cases z : valueAt vb key with
        | none => rfl
        | some y => rw [z] at rr; exact rr.elim
      exact .miss hn
    | some u =>
      rw [ev] at rr
      obtain ⟨y, hy, ry⟩ := rr.some_of
      rw [h1] at hy
      have fu : flatV u = true := by
        have hm : ∃ q ∈ ls, q.2 = u := by
          unfold valV at ev
          cases ef : ls.find? fun kv => decide (kv.1 = p.1) with
          | none => rw [ef] at ev; cases ev
          | some q => rw [ef] at ev; cases ev; exact ⟨q, List.mem_of_find?_eq_some ef, rfl⟩
        obtain ⟨q, hq, rfl⟩ := hm
        exact List.all_eq_true.mp fb q hq
      exact .hit hy ((eqAt_V h2 ry fk.1 fu).inModel P w) (ih fk.2)
theorem dict_two (I : Inv X pins σ H s) {a b : Addr} {ka kb : List (Key × V)} (ha : Rd H a (.dK ka)) (hb : Rd H b (.dK kb)) (fa : flatD ka = true) (fb : flatD kb = true) {A : Around} (hu : A.units < cLine) :
    (∀ (E Q : Value → Shared → Prop), Q (.bool (beqD ka kb)) s → wpAny (model X.prog X.w) A (compareOp .Eq (.ref a) (.ref b)) Q E s) ∧ (∀ (E Q : Value → Shared → Prop), Q (.bool (!beqD ka kb)) s → wpAny (model X.prog X.w) A (compareOp .NotEq (.ref a) (.ref b)) Q E s) := by
  obtain ⟨_, ya, va, ra, da⟩ := dk_rd I.hok ha
  obtain ⟨_, yb, vb, rb, db⟩ := dk_rd I.hok hb
  have el : (va.length == vb.length) = (ka.length == kb.length) := by rw [← ra.length, ← rb.length]
  refine ⟨fun E Q q => PySem.W.keq_eqIn (knd := mixKind X.prog X.w) ya yb da db hu (fun _ => hitsD rb fb ra fa) ?_, fun E Q q => PySem.W.qne_dicts (knd := mixKind X.prog X.w) ya yb da db hu (fun _ => hitsD rb fb ra fa) ?_⟩
  · rw [el]; exact q
  · rw [el]; exact q
/-- two items: data without dicts, or two dicts of flat values -/
def EqE (K : PySem.W.Frag) (H : Hp) (x y : V) (b : Bool) : Prop := (∃ d e, Dp K H x d ∧ Dp K H y e ∧ SeqAt.shaped d = true ∧ SeqAt.shaped e = true ∧ b = PyData.eqv d e) ∨
  ∃ a c ka kb, x = .ref a ∧ y = .ref c ∧ Rd H a (.dK ka) ∧ Rd H c (.dK kb) ∧ flatD ka = true ∧ flatD kb = true ∧ b = beqD ka kb
theorem eqE_run (I : Inv X pins σ H s) {x y : V} {b : Bool} (h : EqE X.K H x y b) {u v : Value} (rx : RelV x u) (ry : RelV y v) {A : Around} (hu : A.units + 64 < cLine) : SeqAt.EqIn X.prog X.w A s u v b := by
  rcases h with ⟨d, e, hd, he, sd, se, rfl⟩ | ⟨a, c, ka, kb, rfl, rfl, ha, hb, fa, fb, rfl⟩
  · obtain ⟨as, r1⟩ := Dp.reads I d x u hd rx
    obtain ⟨bs, r2⟩ := Dp.reads I e y v he ry
    exact (SeqAt.eqAt_reads d e A s u v as bs r1 r2 (SeqAt.canLay_of_shaped sd) (SeqAt.canLay_of_shaped se) (SeqAt.room_of_shaped sd hu)).inModel X.prog X.w
  · cases (show u = Value.ref a from rx)
    cases (show v = Value.ref c from ry)
    by_cases hac : a = c
    · subst hac
      have hk : ka = kb := by
        rcases ha with ha | ⟨o, ha⟩ <;> rcases hb with hb | ⟨o', hb⟩ <;> rw [ha] at hb <;> cases hb <;> rfl
      subst hk
      obtain ⟨_, _, va, ra, da⟩ := dk_rd I.hok ha
      obtain ⟨_, _, _, _, _, _, _, _, nd⟩ := da
      rw [beqD_self (by rw [ra.keys]; exact nd) fa]
      exact (SeqAt.EqAt.same _).inModel X.prog X.w
    · exact SeqAt.EqIn.of_refs hac fun E Q q => (dict_two I ha hb fa fb (by omega)).1 E Q q
/-- lists and tuples of such items -/
def EqQ (K : PySem.W.Frag) (H : Hp) (x y : V) (b : Bool) : Prop := EqE K H x y b ∨
  (∃ a c xs ys, ∃ e : Nat → Bool, x = .ref a ∧ y = .ref c ∧ SqL K H a xs ∧ SqL K H c ys ∧ xs.length = ys.length ∧ (∀ (j : Nat) x y, xs[j]? = some x → ys[j]? = some y → EqE K H x y (e j)) ∧ b = (List.range xs.length).all e) ∨
  (∃ a c xs ys, x = .ref a ∧ y = .ref c ∧ SqL K H a xs ∧ SqL K H c ys ∧ (xs.length == ys.length) = false ∧ b = false)
def rEqQ (K : PySem.W.Frag) (f : Bool → Bool) : R2 := fun x y H Q => ∃ b, EqQ K H x y b ∧ Q (.bl (f b)) H
theorem eqQ_items (I : Inv X pins σ H s) {xs ys : List V} {e : Nat → Bool} (h : ∀ (j : Nat) x y, xs[j]? = some x → ys[j]? = some y → EqE X.K H x y (e j)) {us vs : List Value} (rx : Vals xs us) (ry : Vals ys vs) {A : Around} (hu : A.units + 64 < cLine) :
    ∀ j (h1 : j < us.toArray.size) (h2 : j < vs.toArray.size), SeqAt.EqIn X.prog X.w A s us.toArray[j] vs.toArray[j] (e j) := fun j h1 h2 => by
  have l1 : j < us.length := by simpa using h1
  have l2 : j < vs.length := by simpa using h2
  have k1 : j < xs.length := by rw [rx.length]; exact l1
  have k2 : j < ys.length := by rw [ry.length]; exact l2
  obtain ⟨u, e1, r1⟩ := rx.get (List.getElem?_eq_getElem k1)
  obtain ⟨v, e2, r2⟩ := ry.get (List.getElem?_eq_getElem k2)
  have q := eqE_run I (h j _ _ (List.getElem?_eq_getElem k1) (List.getElem?_eq_getElem k2)) r1 r2 (A := A) hu
  have z1 : us.toArray[j] = u := by
    have : us[j]? = some us[j] := List.getElem?_eq_getElem l1
    rw [e1] at this
    simpa using (Option.some.inj this).symm
  have z2 : vs.toArray[j] = v := by
    have : vs[j]? = some vs[j] := List.getElem?_eq_getElem l2
    rw [e2] at this
    simpa using (Option.some.inj this).symm
  rw [z1, z2]
  exact q
theorem op_eqQ (hu : X.A.units + 65 < cLine) : OpR X (compareOp .Eq) (rEqQ X.K fun b => b) := by
  intro pins s σ H x y u v Q I rx ry h
  obtain ⟨b, h, q⟩ := h
  have fin : (EP X pins σ Q) (.bool b) s := ⟨.bl b, H, I, rfl, q⟩
  rcases h with (⟨d, e, hd, he, sd, se, rfl⟩ | ⟨a, c, ka, kb, rfl, rfl, ha, hb, fa, fb, rfl⟩) | ⟨a, c, xs, ys, e, rfl, rfl, ha, hb, hl, hi, rfl⟩ | ⟨a, c, xs, ys, rfl, rfl, ha, hb, hl, rfl⟩
  · exact op_eqD (by omega) pins s σ H x y u v Q I rx ry ⟨d, e, hd, he, sd, se, q⟩
  · cases (show u = Value.ref a from rx)
    cases (show v = Value.ref c from ry)
    exact (dict_two I ha hb fa fb (by omega)).1 _ _ fin
  · cases (show u = Value.ref a from rx)
    cases (show v = Value.ref c from ry)
    obtain ⟨us, r1, p1, _⟩ := I.list ha
    obtain ⟨vs, r2, p2, _⟩ := I.list hb
    have hsz : us.toArray.size = vs.toArray.size := by rw [List.size_toArray, List.size_toArray, ← r1.length, ← r2.length, hl]
    refine SeqAt.rcIn_lists p1.isList p2.isList hsz (by omega) (eqQ_items I hi r1 r2 (A := X.A.in1) (by show X.A.units + 1 + 64 < cLine; omega)) ?_
    rw [show us.toArray.size = xs.length by rw [List.size_toArray, ← r1.length]]
    exact fin
  · cases (show u = Value.ref a from rx)
    cases (show v = Value.ref c from ry)
    obtain ⟨us, r1, p1, _⟩ := I.list ha
    obtain ⟨vs, r2, p2, _⟩ := I.list hb
    exact SeqAt.eq_list_lengthsAt p1.isList p2.isList (by rw [List.size_toArray, List.size_toArray, ← r1.length, ← r2.length]; simpa using hl) (by omega) fin
theorem op_neQ (hu : X.A.units + 65 < cLine) : OpR X (compareOp .NotEq) (rEqQ X.K fun b => !b) := by
  intro pins s σ H x y u v Q I rx ry h
  obtain ⟨b, h, q⟩ := h
  have fin : (EP X pins σ Q) (.bool (!b)) s := ⟨.bl (!b), H, I, rfl, q⟩
  rcases h with (⟨d, e, hd, he, sd, se, rfl⟩ | ⟨a, c, ka, kb, rfl, rfl, ha, hb, fa, fb, rfl⟩) | ⟨a, c, xs, ys, e, rfl, rfl, ha, hb, hl, hi, rfl⟩ | ⟨a, c, xs, ys, rfl, rfl, ha, hb, hl, rfl⟩
  · exact op_neD (by omega) pins s σ H x y u v Q I rx ry ⟨d, e, hd, he, sd, se, q⟩
  · cases (show u = Value.ref a from rx)
    cases (show v = Value.ref c from ry)
    exact (dict_two I ha hb fa fb (by omega)).2 _ _ fin
  · cases (show u = Value.ref a from rx)
    cases (show v = Value.ref c from ry)
    obtain ⟨us, r1, p1, _⟩ := I.list ha
    obtain ⟨vs, r2, p2, _⟩ := I.list hb
    have hsz : us.toArray.size = vs.toArray.size := by rw [List.size_toArray, List.size_toArray, ← r1.length, ← r2.length, hl]
    refine SeqAt.qne_lists p1.isList p2.isList hsz (by omega) (eqQ_items I hi r1 r2 (A := X.A.in1) (by show X.A.units + 1 + 64 < cLine; omega)) ?_
    rw [show us.toArray.size = xs.length by rw [List.size_toArray, ← r1.length]]
    exact fin
  · cases (show u = Value.ref a from rx)
    cases (show v = Value.ref c from ry)
    obtain ⟨us, r1, p1, _⟩ := I.list ha
    obtain ⟨vs, r2, p2, _⟩ := I.list hb
    exact SeqAt.RcNeAt.lists_lengths p1.isList p2.isList (by rw [List.size_toArray, List.size_toArray, ← r1.length, ← r2.length]; simpa using hl) (by omega) X.prog X.w X.xe _ fin
end
end L2
set_option Elab.async false
set_option linter.all false
set_option maxRecDepth 100000
set_option maxHeartbeats 2000000
namespace PX
open PySem PySem.Spec PyProof.Rows L2
def allP (kb : List Key) (vb : List PV) : List Key → List PV → Bool
  | k :: ks, v :: vs => (match lookB eqK kb vb k with
    | some w => eqP v w
    | none => false) && allP kb vb ks vs
  | _, _ => true
def dctEq (S : Store) (x y : PV) : Option Bool := match deref S x with
  | some (.dct (.k ka) va) => match deref S y with
    | some (.dct (.k kb) vb) => if flatsP va && flatsP vb then some (ka.length == kb.length && allP kb vb ka va) else none
    | _ => none
  | _ => none
def eqEl (S : Store) (x y : PV) : Option Bool := match eqD S x y with
  | some b => some b
  | none => dctEq S x y
def eqEls (S : Store) : List PV → List PV → Option (List Bool)
  | [], [] => some []
  | x :: xs, y :: ys => match eqEl S x y with
    | some b => match eqEls S xs ys with
      | some bs => some (b :: bs)
      | none => none
    | none => none
  | _, _ => none
def eqQ (S : Store) (x y : PV) : Option Bool := match eqEl S x y with
  | some b => some b
  | none => match deref S x with
    | some (.lst xs) => match deref S y with
      | some (.lst ys) => if xs.length == ys.length then (eqEls S xs ys).map fun l => l.all fun b => b else some false
      | _ => none
    | _ => none
def oEqQ : Op2 := fun x y S => (eqQ S x y).map fun b => (false, .bl b)
def oNeQ : Op2 := fun x y S => (eqQ S x y).map fun b => (false, .bl (!b))
def eEqQ (cf : CF) (tb : List (Nat × Nat)) (tys : List TyN) (a b : SE) : SE := fun env S => (a env S).bind fun p S1 => (b env S1).bind fun q S2 => match ownOf tb S2 p.2 with
  | some f => if okTy tys S2 q.2 then callV cf f [p.2, q.2] S2 else .no
  | none => ofO (oEqQ p.2 q.2 S2) S2
def eNeQ (cf : CF) (tb : List (Nat × Nat)) (tys : List TyN) (a b : SE) : SE := fun env S => (a env S).bind fun p S1 => (b env S1).bind fun q S2 => match ownOf tb S2 p.2 with
  | some f => if okTy tys S2 q.2 then (callV cf f [p.2, q.2] S2).bind notI else .no
  | none => ofO (oNeQ p.2 q.2 S2) S2
section
variable {G : Gam} {n0 : Nat} {g : Gh} {F : Hp} {r : List Addr} {S : Store} {H : Hp} {X : Cx}
theorem flatD_zip {ks : List Key} : ∀ {us : List V} {ks : List Key}, us.all flatV = true → flatD (ks.zip us) = true
  | [], ks, _ => by rw [List.zip_nil_right]; rfl
  | u :: us, [], _ => rfl
  | u :: us, k :: ks, h => by
    rw [List.all_cons, Bool.and_eq_true] at h
    show (flatV u && flatD (ks.zip us)) = true
    rw [h.1, flatD_zip (ks := ks) h.2]
    rfl
theorem allP_ok {kb : List Key} {vb : List PV} {ub : List V} (hlb : kb.length = ub.length) (kb' : RVs G F r vb ub) (fb : flatsP vb = true) : ∀ {ka : List Key} {va : List PV} {ua : List V}, ka.length = ua.length → RVs G F r va ua → flatsP va = true →
    allP kb vb ka va = (ka.zip ua).all fun p => match valV (kb.zip ub) p.1 with
      | some u => eqV p.2 u
      | none => false
  | [], va, ua, h, _, _ => by
    cases ua with
    | nil => cases va <;> rfl
    | cons => cases h
  | k :: ka, va, [], h, _, _ => by cases h
  | k :: ka, [], u :: ua, h, q, _ => by cases (show (u :: ua) = [] from q)
  | k :: ka, v :: va, u :: ua, h, q, f => by
    obtain ⟨u', ur, e, q1, q2⟩ := q
    cases e
    simp only [flatsP, Bool.and_eq_true] at f
    have ih := allP_ok hlb kb' fb (ka := ka) (by simpa using h) q2 f.2
    show ((match lookB eqK kb vb k with
      | some w => eqP v w
      | none => false) && allP kb vb ka va) = ((match valV (kb.zip ub) k with
      | some u' => eqV u u'
      | none => false) && ((ka.zip ua).all fun p => match valV (kb.zip ub) p.1 with
      | some u => eqV p.2 u
      | none => false))
    rw [ih]
    congr 1
    have hl := lookB_ok (G := G) (F := F) (r := r) eqK_ok k hlb kb'
    cases el : lookB eqK kb vb k with
    | none =>
      rw [el] at hl
      cases ev : valV (kb.zip ub) k with
      | none => rfl
      | some u' => rw [ev] at hl; cases hl
    | some w =>
      rw [el] at hl
      cases ev : valV (kb.zip ub) k with
      | none => rw [ev] at hl; obtain ⟨_, z, _⟩ := hl; cases z
      | some u' =>
        rw [ev] at hl
        have fw : flatP w = true := by
          have hm : ∀ {kb : List Key} {vb : List PV}, lookB eqK kb vb k = some w → flatsP vb = true → flatP w = true := by
            intro kb
            induction kb with
            | nil => intro vb e _; cases vb <;> cases e
            | cons c kb ihk =>
              intro vb e fv
              cases vb with
              | nil => cases e
              | cons z vb =>
                simp only [flatsP, Bool.and_eq_true] at fv
                simp only [lookB] at e
                cases hb : eqK c k with
                | true => simp only [hb, cond_true] at e; cases e; exact fv.1
                | false => simp only [hb, cond_false] at e; exact ihk e fv.2
          exact hm el fb
        obtain ⟨y', ey, hl⟩ := hl
        cases ey
        exact eqP_ok q1 hl f.1 fw
theorem eqEl_ok (h : HR G n0 g F r S H) {x y : PV} {u v : V} {b : Bool} (q1 : RV G F r x u) (q2 : RV G F r y v) (e : eqEl S x y = some b) : EqE G.K H u v b := by
  unfold eqEl at e
  cases ed : eqD S x y with
  | some b' =>
    rw [ed] at e
    cases e
    unfold eqD at ed
    cases e1 : toD S 6 x with
    | none => rw [e1] at ed; cases ed
    | some d =>
      simp only [e1] at ed
      cases e2 : toD S 6 y with
      | none => rw [e2] at ed; cases ed
      | some d' =>
        rw [e2] at ed
        cases ed
        obtain ⟨a1, a2, a3⟩ := toD_ok h 6 x u d q1 e1
        obtain ⟨b1, b2, b3⟩ := toD_ok h 6 y v d' q2 e2
        exact .inl ⟨d, d', a1, b1, toD_shaped a2 a3 (by decide), toD_shaped b2 b3 (by decide), rfl⟩
  | none =>
    rw [ed] at e
    have e : dctEq S x y = some b := e
    unfold dctEq at e
    split at e
    · rename_i ka va e1
      split at e
      · rename_i kb vb e2
        split at e
        · rename_i hf
          cases e
          rw [Bool.and_eq_true] at hf
          obtain ⟨a, ho, ua, rfl, k1, ⟨rfl, hla⟩, k3⟩ := view_dct h q1 e1
          obtain ⟨c, ho', ub, rfl, l1, ⟨rfl, hlb⟩, l3⟩ := view_dct h q2 e2
          refine .inr ⟨a, c, ka.zip ua, kb.zip ub, rfl, rfl, k1, l1, flatD_zip (ks := ka) (flats_ok k3 hf.1), flatD_zip (ks := kb) (flats_ok l3 hf.2), ?_⟩
          unfold beqD
          rw [allP_ok hlb l3 hf.2 hla k3 hf.1, List.length_zip, List.length_zip, ← hla, ← hlb, Nat.min_self, Nat.min_self]
          all_goals rfl
        · cases e
      · cases e
    · cases e
theorem eqEls_len : ∀ {xs ys : List PV} {bs : List Bool}, eqEls S xs ys = some bs → bs.length = xs.length
  | [], [], bs, e => by cases e; rfl
  | x :: xs, [], bs, e => by cases e
  | [], y :: ys, bs, e => by cases e
  | x :: xs, y :: ys, bs, e => by
    unfold eqEls at e
    cases e1 : eqEl S x y with
    | none => rw [e1] at e; cases e
    | some b =>
      simp only [e1] at e
      cases e2 : eqEls S xs ys with
      | none => rw [e2] at e; cases e
      | some bs' =>
        rw [e2] at e
        cases e
        rw [List.length_cons, List.length_cons, eqEls_len e2]
theorem eqEls_ok (h : HR G n0 g F r S H) : ∀ {xs ys : List PV} {us vs : List V} {bs : List Bool}, RVs G F r xs us → RVs G F r ys vs → eqEls S xs ys = some bs → ∀ (j : Nat) u v, us[j]? = some u → vs[j]? = some v → EqE G.K H u v (bs.getD j false)
  | [], [], us, vs, bs, q1, q2, e, j, u, v, e1, e2 => by
    have z : us = [] := q1
    rw [z] at e1
    simp at e1
  | x :: xs, [], us, vs, bs, q1, q2, e, j, u, v, e1, e2 => by cases e
  | [], y :: ys, us, vs, bs, q1, q2, e, j, u, v, e1, e2 => by cases e
  | x :: xs, y :: ys, us, vs, bs, q1, q2, e, j, u, v, e1, e2 => by
    obtain ⟨u0, us0, rfl, k1, k2⟩ := q1
    obtain ⟨v0, vs0, rfl, l1, l2⟩ := q2
    unfold eqEls at e
    cases z1 : eqEl S x y with
    | none => rw [z1] at e; cases e
    | some b =>
      simp only [z1] at e
      cases z2 : eqEls S xs ys with
      | none => rw [z2] at e; cases e
      | some bs' =>
        rw [z2] at e
        cases e
        cases j with
        | zero =>
          simp at e1 e2
          subst e1 e2
          exact eqEl_ok h k1 l1 z1
        | succ j =>
          have := eqEls_ok h k2 l2 z2 j u v (by simpa using e1) (by simpa using e2)
          simpa using this
theorem all_getD : ∀ (bs : List Bool), (List.range bs.length).all (fun j => bs.getD j false) = bs.all fun b => b
  | [] => rfl
  | b :: bs => by
    rw [List.length_cons, List.range_succ_eq_map, List.all_cons, List.all_map, List.all_cons, ← all_getD bs]
    rfl
theorem eqQ_ok (h : HR G n0 g F r S H) {x y : PV} {u v : V} {b : Bool} (q1 : RV G F r x u) (q2 : RV G F r y v) (e : eqQ S x y = some b) : EqQ G.K H u v b := by
  unfold eqQ at e
  cases ee : eqEl S x y with
  | some b' => rw [ee] at e; cases e; exact .inl (eqEl_ok h q1 q2 ee)
  | none =>
    simp only [ee] at e
    split at e
    · rename_i xs e1
      split at e
      · rename_i ys e2
        obtain ⟨a, us, rfl, k1, k2⟩ := view_lst h q1 e1
        obtain ⟨c, vs, rfl, l1, l2⟩ := view_lst h q2 e2
        split at e
        · rename_i hl
          cases eb : eqEls S xs ys with
          | none => rw [eb] at e; cases e
          | some bs =>
            rw [eb] at e
            cases e
            have hb := eqEls_len eb
            refine .inr (.inl ⟨a, c, us, vs, fun j => bs.getD j false, rfl, rfl, .inl k1, .inl l1, by rw [← RVs.length k2, ← RVs.length l2]; simpa using hl, eqEls_ok h k2 l2 eb, ?_⟩)
            rw [← RVs.length k2, ← hb, all_getD]
        · rename_i hl
          cases e
          exact .inr (.inr ⟨a, c, us, vs, rfl, rfl, .inl k1, .inl l1, by rw [← RVs.length k2, ← RVs.length l2]; simpa using hl, rfl⟩)
      · cases e
    · cases e
theorem ok_eqQ : Ok2 G oEqQ (rEqQ G.K fun b => b) := fun n0 g F r S H x y u v z Q h q1 q2 e k => by
  unfold oEqQ at e
  cases eq : eqQ S x y with
  | none => rw [eq] at e; cases e
  | some b => rw [eq] at e; cases e; exact ⟨b, eqQ_ok h q1 q2 eq, k F r H _ (.refl F r) h rfl⟩
theorem ok_neQ : Ok2 G oNeQ (rEqQ G.K fun b => !b) := fun n0 g F r S H x y u v z Q h q1 q2 e k => by
  unfold oNeQ at e
  cases eq : eqQ S x y with
  | none => rw [eq] at e; cases e
  | some b => rw [eq] at e; cases e; exact ⟨b, eqQ_ok h q1 q2 eq, k F r H _ (.refl F r) h rfl⟩
variable {cf : CF} {k : Nat}
theorem eqQ_core {tb : List (Nat × Nat)} {tys : List TyN} {fa fb : SE} (T : Tb X G cf k) (E : EqT G tb tys) (σ : L2.St) (H : Hp) (Q : VK) (hh : rdE G n0 (eEqQ cf tb tys fa fb) σ H Q) : tOp (fun x y H Q => rEqOwn X k x y H Q ∨ rEqQ G.K (fun b => b) x y H Q) (rdV G n0 fa) (rdV G n0 fb) σ H Q := by
  obtain ⟨F, r, env, S, g, s, h⟩ := hh
  refine stV s cnE h fun p S1 F1 r1 H1 u x1 s1 q1 h1 => ?_
  refine stV s1 cnE h1 fun q S2 F2 r2 H2 v x2 s2 q2 h2 => ?_
  have q1' := q1.ext x2
  cases eo : ownOf tb S2 p.2 with
  | none =>
    simp only [eo] at h2
    exact .inr (endO (T := fun Q => rEqQ G.K (fun b => b) u v H2 Q) s2 (x1.trans x2) h2 fun z ez k => ok_eqQ n0 g F2 r2 S2 H2 p.2 q.2 u v z Q s2.hr q1' q2 ez k)
  | some f =>
    simp only [eo] at h2
    split at h2
    · rename_i ot
      obtain ⟨a, c, dx, fs, rfl, k1, k2⟩ := own_at s2.hr q1' eo
      obtain ⟨t, ht, ty⟩ := okTy_at E.cl s2.hr q2 ot
      refine .inl ⟨a, G.ca c, dx, fs, G.fa f, _, t.val G, rfl, k1, T.hK ▸ ty, T.hK ▸ E.nf _ k2 t ht, T.hK ▸ E.spc _ k2, T.call f 2, ?_⟩
      exact run_call (np := 2) s2 (x1.trans x2) (show RVs G F2 r2 [p.2, q.2] _ from ⟨_, _, rfl, q1', _, [], rfl, q2, rfl⟩) rfl h2
    · exact h2.elim
theorem neQ_core {tb : List (Nat × Nat)} {tys : List TyN} {fa fb : SE} (T : Tb X G cf k) (E : EqT G tb tys) (σ : L2.St) (H : Hp) (Q : VK) (hh : rdE G n0 (eNeQ cf tb tys fa fb) σ H Q) : tOp (fun x y H Q => rNeOwn X k x y H Q ∨ rEqQ G.K (fun b => !b) x y H Q) (rdV G n0 fa) (rdV G n0 fb) σ H Q := by
  obtain ⟨F, r, env, S, g, s, h⟩ := hh
  refine stV s cnE h fun p S1 F1 r1 H1 u x1 s1 q1 h1 => ?_
  refine stV s1 cnE h1 fun q S2 F2 r2 H2 v x2 s2 q2 h2 => ?_
  have q1' := q1.ext x2
  cases eo : ownOf tb S2 p.2 with
  | none =>
    simp only [eo] at h2
    exact .inr (endO (T := fun Q => rEqQ G.K (fun b => !b) u v H2 Q) s2 (x1.trans x2) h2 fun z ez k => ok_neQ n0 g F2 r2 S2 H2 p.2 q.2 u v z Q s2.hr q1' q2 ez k)
  | some f =>
    simp only [eo] at h2
    split at h2
    · rename_i ot
      obtain ⟨a, c, dx, fs, rfl, k1, k2⟩ := own_at s2.hr q1' eo
      obtain ⟨t, ht, ty⟩ := okTy_at E.cl s2.hr q2 ot
      refine .inl ⟨a, G.ca c, dx, fs, G.fa f, _, t.val G, rfl, k1, T.hK ▸ ty, T.hK ▸ E.nf _ k2 t ht, T.hK ▸ E.spc _ k2, T.hK ▸ (E.ne _ k2).1, T.hK ▸ (E.ne _ k2).2, T.call f 2, ?_⟩
      refine run_call (np := 2) s2 (x1.trans x2) (show RVs G F2 r2 [p.2, q.2] _ from ⟨_, _, rfl, q1', _, [], rfl, q2, rfl⟩) rfl (poB h2 fun z S3 F3 r3 H3 w x3 s3 q3 h3 => ?_)
      obtain ⟨b, v⟩ := z
      cases v with
      | bl b' => exact ⟨b', bl_of q3, h3 F3 r3 H3 _ x3 s3 rfl⟩
      | _ => exact h3.elim
    · exact h2.elim
variable {tb : List (Nat × Nat)} {tys : List TyN} {fa fb : SE} {a b : Expr} {pos : Pos}
theorem un65 (T : Tb X G cf k) : X.A.units + 65 < cLine := units65 T
theorem op_eqAllQ (T : Tb X G cf k) : OpR X (compareOp .Eq) (fun x y H Q => rEqOwn X k x y H Q ∨ rEqQ G.K (fun b => b) x y H Q) := (op_eqOwn T.room).or (T.hK ▸ op_eqQ (un65 T))
theorem op_neAllQ (T : Tb X G cf k) : OpR X (compareOp .NotEq) (fun x y H Q => rNeOwn X k x y H Q ∨ rEqQ G.K (fun b => !b) x y H Q) := (op_neOwn T.room).or (T.hK ▸ op_neQ (un65 T))
theorem se_eqQ (T : Tb X G cf k) (E : EqT G tb tys) (ha : PE X a (rdE G n0 fa)) (hb : PE X b (rdE G n0 fb)) (hm : behindInMarks .Eq b = false) : PE X (.Compare a [.Eq] [b] pos) (rdE G n0 (eEqQ cf tb tys fa fb)) :=
  se_of (pe_cmpR (op_eqAllQ T) (toV ha) (toV hb) hm) (eqQ_core T E)
theorem st_eqQ (T : Tb X G cf k) (E : EqT G tb tys) (ha : PE X a (rdE G n0 fa)) (hb : PE X b (rdE G n0 fb)) (hm : behindInMarks .Eq b = false) : PT X (.Compare a [.Eq] [b] pos) (rdT G n0 (tBl (eEqQ cf tb tys fa fb))) :=
  st_of (pt_cmpR (op_eqAllQ T) (toV ha) (toV hb) hm) (eqQ_core T E)
theorem se_neQ (T : Tb X G cf k) (E : EqT G tb tys) (ha : PE X a (rdE G n0 fa)) (hb : PE X b (rdE G n0 fb)) (hm : behindInMarks .NotEq b = false) : PE X (.Compare a [.NotEq] [b] pos) (rdE G n0 (eNeQ cf tb tys fa fb)) :=
  se_of (pe_cmpR (op_neAllQ T) (toV ha) (toV hb) hm) (neQ_core T E)
theorem st_neQ (T : Tb X G cf k) (E : EqT G tb tys) (ha : PE X a (rdE G n0 fa)) (hb : PE X b (rdE G n0 fb)) (hm : behindInMarks .NotEq b = false) : PT X (.Compare a [.NotEq] [b] pos) (rdT G n0 (tBl (eNeQ cf tb tys fa fb))) :=
  st_of (pt_cmpR (op_neAllQ T) (toV ha) (toV hb) hm) (neQ_core T E)
end
end PX
namespace PX
theorem T_calm {X : L2.Cx} {G : Gam} {cf : CF} {k : Nat} (T : Tb X G cf k) : X.calm = true := T.calm
end PX
set_option Elab.async false
set_option linter.all false
set_option maxRecDepth 100000
set_option maxHeartbeats 2000000
/-! sorted of lists, tuples, dicts' keys, pairs of ints; len of dicts -/
namespace PX
open PySem PySem.Spec PyProof.Rows L2 SrtO
def insQ (x : Int × Int) : List (Int × Int) → List (Int × Int)
  | [] => [x]
  | y :: ys => if lexB y x then y :: insQ x ys else x :: y :: ys
def srtQ : List (Int × Int) → List (Int × Int)
  | [] => []
  | x :: xs => insQ x (srtQ xs)
theorem insQ_perm (x : Int × Int) : ∀ ys, (insQ x ys).Perm (x :: ys)
  | [] => .refl _
  | y :: ys => by
    unfold insQ
    split
    · exact ((insQ_perm x ys).cons y).trans (List.Perm.swap x y ys)
    · exact .refl _
theorem srtQ_perm : ∀ xs, (srtQ xs).Perm xs
  | [] => .refl _
  | x :: xs => (insQ_perm x _).trans ((srtQ_perm xs).cons x)
theorem lex_le {a b c : Int × Int} (h1 : lexB b a = false) (h2 : lexB c b = false) : lexB c a = false := by
  have a1 := lexB_no.mp h1
  have a2 := lexB_no.mp h2
  refine lexB_no.mpr ?_
  omega
theorem lex_as {a b : Int × Int} (h : lexB a b = true) : lexB b a = false := by
  have a1 := lexB_iff.mp h
  refine lexB_no.mpr ?_
  omega
theorem insQ_srt (x : Int × Int) : ∀ {ys}, Srtd lexB ys → Srtd lexB (insQ x ys)
  | [], _ => List.pairwise_singleton _ _
  | y :: ys, h => by
    obtain ⟨h1, h2⟩ := List.pairwise_cons.mp h
    unfold insQ
    cases hb : lexB y x with
    | true =>
      rw [if_pos rfl]
      refine List.pairwise_cons.mpr ⟨fun z hz => ?_, insQ_srt x h2⟩
      rcases List.mem_cons.mp ((insQ_perm x ys).mem_iff.mp hz) with e | hz
      · rw [e]; exact lex_as hb
      · exact h1 z hz
    | false =>
      rw [if_neg (by simp)]
      refine List.pairwise_cons.mpr ⟨fun z hz => ?_, h⟩
      rcases List.mem_cons.mp hz with e | hz
      · rw [e]; exact hb
      · exact lex_le hb (h1 z hz)
theorem srtQ_srt : ∀ xs, Srtd lexB (srtQ xs)
  | [] => .nil
  | x :: xs => insQ_srt x (srtQ_srt xs)
theorem lex_eq {a b : Int × Int} (h1 : lexB a b = false) (h2 : lexB b a = false) : a = b := by
  have a1 := lexB_no.mp h1
  have a2 := lexB_no.mp h2
  exact Prod.ext (by omega) (by omega)
theorem lex_swo : Swo (lexB) := ⟨fun x y h => lex_as h, fun x y z h1 h2 => lex_le h1 h2⟩
theorem stb_of {l m : List (Int × Int)} (p : l.Perm m) : Stb lexB l m := by
  refine ⟨p, fun x => ?_⟩
  have q := p.filter (eqv lexB x)
  have e : ∀ l : List (Int × Int), l.filter (eqv lexB x) = List.replicate (l.filter (eqv lexB x)).length x := fun l => by
    refine List.eq_replicate_of_mem fun y hy => ?_
    obtain ⟨h1, h2⟩ := eqv_iff.mp (List.mem_filter.mp hy).2
    exact (lex_eq h1 h2).symm
  rw [e l, e m, q.length_eq]
def pairsI : List PV → Option (List (Int × Int))
  | [] => some []
  | .tup [.int i, .int j] :: vs => (pairsI vs).map ((i, j) :: ·)
  | _ :: _ => none
def pQ (p : Int × Int) : PV := .tup [.int p.1, .int p.2]
theorem pairsI_ok : ∀ {vs : List PV} {ps : List (Int × Int)}, pairsI vs = some ps → vs = ps.map pQ
  | [], ps, e => by cases e; rfl
  | v :: vs, ps, e => by
    unfold pairsI at e
    split at e
    · cases e; rename_i h; cases h
    · rename_i i j vs' h
      cases h
      cases e1 : pairsI vs with
      | none => rw [e1] at e; cases e
      | some qs =>
        rw [e1] at e
        cases e
        rw [pairsI_ok e1]
        rfl
    · cases e
def bSortG : OpN := fun xs S => match bSort xs S with
  | some z => some z
  | none => match xs with
    | [v] => match deref S v with
      | some (.tup ws) => (intsOf ws).map fun ns => (true, .lst ((srtI ns).map .int))
      | some (.lst ws) => (pairsI ws).map fun ps => (true, .lst ((srtQ ps).map pQ))
      | _ => none
    | _ => none
def rSortG (K : PySem.W.Frag) : List V → Hp → VK → Prop := fun vs H Q => rSort K vs H Q ∨ rSortedIT K vs H Q ∨ rSortedPO K vs H Q
section
variable {G : Gam} {n0 : Nat} {g : Gh} {F : Hp} {r : List Addr} {S : Store} {H : Hp} {X : Cx}
theorem cr_sortG (hc : X.calm = true) : CallR X (.builtin "sorted") (rSortG X.K) := by
  intro pins s σ H vs us Q I r h
  rcases h with h | h | h
  · exact cr_sort hc pins s σ H vs us Q I r h
  · exact cr_sortedIT pins s σ H vs us Q I r h
  · exact cr_sortedPO pins s σ H vs us Q I r h
theorem ok_sortG : OkN G bSortG (rSortG G.K) := fun n0 g F r S H xs us z Q h q e k => by
  unfold bSortG at e
  cases e0 : bSort xs S with
  | some z' => rw [e0] at e; cases e; exact .inl (ok_sort n0 g F r S H xs us z Q h q e0 k)
  | none =>
    simp only [e0] at e
    split at e
    · rename_i v
      obtain ⟨u, ur, rfl, q1, q2⟩ := q
      have q2 : ur = [] := q2
      subst q2
      split at e
      · rename_i ws ed
        cases en : intsOf ws with
        | none => rw [en] at e; cases e
        | some ns =>
          rw [en] at e
          cases e
          obtain ⟨a, us, rfl, k1, k2⟩ := view_tup h q1 ed
          rw [intsOf_ok en] at k2
          have eu := RVs.ints k2
          subst eu
          refine .inr (.inl ⟨a, ns, rfl, k1, fun ns' p hp ho hn => ?_⟩)
          rw [srtI_eq hp ho]
          obtain ⟨h2, k4⟩ := new_obj h hn (v := .lst ((srtI ns).map .int)) ⟨_, rfl, RVs.of_ints _⟩ rfl
          exact k F r _ _ (.refl F r) h2 k4
      · rename_i ws ed
        cases en : pairsI ws with
        | none => rw [en] at e; cases e
        | some ps =>
          rw [en] at e
          cases e
          obtain ⟨a, us, rfl, k1, k2⟩ := view_lst h q1 ed
          rw [pairsI_ok en] at k2
          have kx : ∀ u : V, ∃ p : Int × Int, (∃ p', RV G F r (pQ p') u) → RV G F r (pQ p) u := fun u => by
            by_cases hx : ∃ p', RV G F r (pQ p') u
            · obtain ⟨p, hp⟩ := hx; exact ⟨p, fun _ => hp⟩
            · exact ⟨(0, 0), fun z => absurd z hx⟩
          obtain ⟨kf, hkf⟩ : ∃ kf : V → Int × Int, ∀ u, (∃ p', RV G F r (pQ p') u) → RV G F r (pQ (kf u)) u := ⟨fun u => (kx u).choose, fun u => (kx u).choose_spec⟩
          have at2 : ∀ {p : Int × Int} {u : V}, RV G F r (pQ p) u → ∃ t, u = .ref t ∧ F t = some (.tup [.int p.1, .int p.2]) := fun {p u} q => by
            obtain ⟨t, us, rfl, e1, e2⟩ := q
            obtain ⟨u1, r1, rfl, a1, e2⟩ := e2
            obtain ⟨u2, r2, rfl, a2, e3⟩ := e2
            have e3 : r2 = [] := e3
            have a1 : u1 = .int p.1 := a1
            have a2 : u2 = .int p.2 := a2
            subst a1 a2 e3
            exact ⟨t, rfl, e1⟩
          have uniq : ∀ {p p' : Int × Int} {u : V}, RV G F r (pQ p) u → RV G F r (pQ p') u → p = p' := fun {p p' u} q q' => by
            obtain ⟨t, rfl, e1⟩ := at2 q
            obtain ⟨t', e, e2⟩ := at2 q'
            cases e
            rw [e1] at e2
            have e2 := HO.tup.inj (Option.some.inj e2)
            injection e2 with z1 z2
            injection z2 with z2 z3
            exact Prod.ext (V.int.inj z1) (V.int.inj z2)
          have all : ∀ {ps : List (Int × Int)} {us : List V}, RVs G F r (ps.map pQ) us → us.map kf = ps ∧ ∀ u ∈ us, RV G F r (pQ (kf u)) u := by
            intro ps
            induction ps with
            | nil => intro us q; have q : us = [] := q; subst q; exact ⟨rfl, fun u hu => absurd hu (by simp)⟩
            | cons p ps ih =>
              intro us q
              obtain ⟨u, ur, rfl, a1, a2⟩ := q
              obtain ⟨i1, i2⟩ := ih a2
              have hk := hkf u ⟨p, a1⟩
              refine ⟨by rw [List.map_cons, i1, uniq hk a1], fun w hw => ?_⟩
              rcases List.mem_cons.mp hw with e | hw
              · rw [e]; exact hk
              · exact i2 w hw
          obtain ⟨m1, m2⟩ := all k2
          refine .inr (.inr ⟨a, us, kf, rfl, .inl k1, fun x hx => ?_, fun ys p hs hb hn => ?_⟩)
          · obtain ⟨t, e1, e2⟩ := at2 (m2 x hx)
            exact ⟨t, e1, h.sub.tpH e2⟩
          · have em : ys.map kf = srtQ ps := by
              refine stb_uniq lex_swo (srtd_map hs) (srtQ_srt ps) (stb_of ?_)
              refine (hb.perm.map kf).trans ?_
              rw [m1]
              exact (srtQ_perm ps).symm
            have rv : ∀ {ys : List V}, (∀ y ∈ ys, y ∈ us) → RVs G F r ((ys.map kf).map pQ) ys := by
              intro ys
              induction ys with
              | nil => intro _; rfl
              | cons y ys ih => intro hm; exact ⟨y, ys, rfl, m2 y (hm y List.mem_cons_self), ih fun z hz => hm z (List.mem_cons_of_mem _ hz)⟩
            have r2 := rv fun y hy => hb.perm.mem_iff.mp hy
            rw [em] at r2
            obtain ⟨h2, k4⟩ := new_obj h hn (v := .lst ((srtQ ps).map pQ)) ⟨ys, rfl, r2⟩ rfl
            exact k F r _ _ (.refl F r) h2 k4
      · cases e
    · cases e
/-! len of a dict -/
def rLenD : List V → Hp → VK → Prop := fun xs H Q => (∃ (p : Addr) (kvs : List (Key × V)), xs = [.ref p] ∧ Rd H p (.dK kvs) ∧ Q (.int ((kvs.length : Nat) : Int)) H) ∨ rLenT xs H Q
theorem call_lenD : CallR X (.builtin "len") rLenD := by
  intro pins s σ H xs us Q I r h
  rcases h with ⟨p, kvs, rfl, hp, q⟩ | h
  · obtain ⟨u, rfl, rx⟩ := vals1 r
    obtain rfl : u = .ref p := rx
    exact d_len I hp fun t s' I' => ⟨.int ((kvs.length : Nat) : Int), H, I', ⟨_, rfl⟩, q⟩
  · exact call_len_dT pins s σ H xs us Q I r h
def bLenG : OpN := fun xs S => match bLen xs S with
  | some z => some z
  | none => match xs with
    | [v] => match deref S v with
      | some (.dct _ vs) => some (false, .int vs.length)
      | _ => none
    | _ => none
theorem ok_lenD {S : Store} {v : PV} {u : V} {ks : DKs} {vs : List PV} {Q : VK} (h : HR G n0 g F r S H) (q1 : RV G F r v u) (ed : deref S v = some (.dct ks vs)) (k : Q (.int ((vs.length : Nat) : Int)) H) : rLenD [u] H Q := by
  cases ks with
  | k kk =>
    obtain ⟨a, ho, us, rfl, k1, ⟨rfl, hl⟩, k3⟩ := view_dct h q1 ed
    refine .inl ⟨a, kk.zip us, rfl, k1, ?_⟩
    rw [List.length_zip, hl, Nat.min_self, ← RVs.length k3]
    exact k
  | t kk =>
    obtain ⟨a, us, rfl, k1, hl, k3⟩ := view_dctT h q1 ed
    refine .inr ⟨a, kk.zip us, rfl, k1, ?_⟩
    rw [List.length_zip, hl, Nat.min_self, ← RVs.length k3]
    exact k
def eLenG (cf : CF) (tb : List (Nat × Nat)) (a : SE) : SE := fun env S => (a env S).bind fun p S1 => match ownOf tb S1 p.2 with
  | some f => (callV cf f [p.2] S1).bind lenI
  | none => ofO (bLenG [p.2] S1) S1
variable {cf : CF} {k : Nat}
theorem se_lenG {tb : List (Nat × Nat)} {e : Expr} {fe : SE} {p pos : Pos} (T : Tb X G cf k) (hg : Gl X "len") (hm : X.mg "len" = none) (hc : ∀ p ∈ tb, Spc G.K (G.ca p.1) (G.fa p.2) "__len__") (he : PE X e (rdE G n0 fe))
    (hb : bootBuiltins "len" = some (.builtin "len") := by rfl) (hs : starEach [e] X.env = (false, eval e X.env) :: starEach [] X.env := by rfl) (hpl : (backTo pos (starEach [] X.env)).any (·.1) = false := by rfl) :
    PE X (.Call (.Name "len" p) [e] [] pos) (rdE G n0 (eLenG cf tb fe)) := by
  have cr : CallR X (.builtin "len") (fun xs H Q => rLenOwn X k xs H Q ∨ (∃ x n, xs = [x] ∧ LenV X.K x H n ∧ Q (.int n) H) ∨ rLenD xs H Q) := by
    intro pins s σ H vs us Q I r h
    rcases h with h | h | h
    · exact cr_lenOwn T.room pins s σ H vs us Q I r h
    · exact call_len pins s σ H vs us Q I r h
    · exact call_lenD pins s σ H vs us Q I r h
  refine peI (pe_callB cr hg hm hb (pa_cons (toV he) pa_nil hs) (by decide) (by decide) hs hpl) fun σ H Q ⟨F, r, env, S, g, s, h⟩ => ?_
  refine stV s cnE h fun p S1 F1 r1 H1 u x1 s1 q1 h1 => ?_
  cases eo : ownOf tb S1 p.2 with
  | none =>
    simp only [eo] at h1
    refine .inr ?_
    unfold bLenG at h1
    cases e0 : bLen [p.2] S1 with
    | some z =>
      simp only [e0] at h1
      unfold bLen at e0
      simp only at e0
      split at e0
      · rename_i ws ed
        cases e0
        obtain ⟨a, us, rfl, k1, k2⟩ := view_lst s1.hr q1 ed
        refine .inl ⟨.ref a, us.length, rfl, .inl ⟨us, .inl k1, rfl⟩, ?_⟩
        rw [← RVs.length k2]
        exact h1 F1 r1 H1 _ x1 s1 rfl
      · rename_i ws ed
        cases e0
        obtain ⟨a, us, rfl, k1, k2⟩ := view_tup s1.hr q1 ed
        refine .inl ⟨.ref a, us.length, rfl, .inr ⟨us, T.hK ▸ k1, rfl⟩, ?_⟩
        rw [← RVs.length k2]
        exact h1 F1 r1 H1 _ x1 s1 rfl
      · cases e0
    | none =>
      simp only [e0] at h1
      split at h1
      · rename_i ks vs ed
        exact .inr (ok_lenD s1.hr q1 ed (h1 F1 r1 H1 _ x1 s1 rfl))
      · exact h1.elim
  | some f =>
    simp only [eo] at h1
    refine .inl ?_
    unfold ownOf at eo
    split at eo
    · rename_i c ns ws ed
      obtain ⟨a, dx, us, rfl, k1, k2, k3⟩ := view_ins s1.hr q1 ed
      refine ⟨a, G.ca c, dx, _, G.fa f, _, rfl, k1, T.hK ▸ hc (c, f) (look_mem eo), T.call f 1, ?_⟩
      refine run_call (np := 1) s1 x1 (show RVs G F1 r1 [p.2] _ from ⟨_, [], rfl, q1, rfl⟩) rfl (poB h1 fun z S2 F2 r2 H2 w x2 s2 q2 h2 => ?_)
      obtain ⟨b, v⟩ := z
      cases v with
      | int n =>
        unfold lenI at h2
        simp only at h2
        split at h2
        · rename_i hn
          rw [Bool.and_eq_true, decide_eq_true_eq, decide_eq_true_eq] at hn
          have ew : w = .int n := by
            cases b with
            | false => exact q2
            | true =>
              obtain ⟨_, _, _, _, _, _, _, ro, _⟩ := q2
              exact ro.elim
          exact ⟨n, ew, hn.1, by omega, h2 F2 r2 H2 _ x2 s2 rfl⟩
        · exact h2.elim
      | _ => exact h2.elim
    · cases eo
end
end PX
set_option Elab.async false
set_option linter.all false
set_option maxRecDepth 100000
set_option maxHeartbeats 2000000
/-! dict(pairs) and dict(d) with keys that are tuples of ints -/
namespace PX
open PySem PySem.Spec PyProof.Rows L2
def mergeT (kvs more : List (List Key × V)) : List (List Key × V) := more.foldl (fun acc kv => putK acc kv.1 kv.2) kvs
theorem length_mergeT : ∀ (more kvs : List (List Key × V)), (mergeT kvs more).length ≤ kvs.length + more.length
  | [], kvs => by show kvs.length ≤ kvs.length + 0; omega
  | p :: r, kvs => by
    have h1 := length_mergeT r (putK kvs p.1 p.2)
    have h2 := length_putK kvs p.1 p.2
    show (mergeT (putK kvs p.1 p.2) r).length ≤ _
    rw [List.length_cons]
    omega
theorem KT.merge {H : Hp} : ∀ {more : List (List Key × V)} {rs : List (List Key × Addr × Value)} {kvs : List (List Key × V)} {vs : List (List Key × Addr × Value)}, KT H more rs → KT H kvs vs → KT H (mergeT kvs more) (storedAllH vs rs) := by
  intro more rs kvs vs r
  induction r generalizing kvs vs with
  | nil => intro h; exact h
  | cons h t ih =>
    intro q
    obtain ⟨h1, h2, h3⟩ := h
    rename_i p z _ _
    obtain ⟨zk, zb, zv⟩ := z
    have h1 : p.1 = zk := h1
    subst h1
    exact ih (q.put p.1 h2 h3)
section
variable {X : Cx}
theorem pairs_ofT {pins : List (Addr × Obj)} {σ : L2.St} {H : Hp} {s : Shared} (I : Inv X pins σ H s) : ∀ {ps : List Addr} {kvs : List (List Key × Addr × V)}, Paired (fun p kv => SqT X.K H p [.ref kv.2.1, kv.2.2] ∧ H kv.2.1 = some (.tup (kv.1.map kV))) ps kvs →
    ∃ rs : List (List Key × Addr × Value), KT H (kvs.map fun x => (x.1, x.2.2)) rs ∧ rs.length = ps.length ∧ ∀ (j : Nat) (q : List Key × Addr × Value), rs[j]? = some q → ∃ b : Addr, ps[j]? = some b ∧ IsTup s.heap b #[.ref q.2.1, q.2.2]
  | _, _, .nil => ⟨[], .nil, rfl, fun j q e => by simp at e⟩
  | _, _, .cons (a := p) (b := kv) h t => by
    obtain ⟨rs, r, hl, hp⟩ := pairs_ofT I t
    obtain ⟨its, rv, ht, _⟩ := I.tuple h.1
    obtain ⟨u, y, ei, ru, ry⟩ := vals2 rv
    subst ei
    cases (show u = Value.ref kv.2.1 from ru)
    refine ⟨(kv.1, kv.2.1, y) :: rs, .cons ⟨rfl, h.2, ry⟩ r, by rw [List.length_cons, List.length_cons, hl], fun j q e => ?_⟩
    cases j with
    | zero =>
      have e' : (kv.1, kv.2.1, y) = q := Option.some.inj e
      subst e'
      exact ⟨p, rfl, ht⟩
    | succ j =>
      obtain ⟨b, e1, e3⟩ := hp j q (by simpa using e)
      exact ⟨b, by simpa using e1, e3⟩
/-- dict(xs) of a list of pairs (tuple, value) -/
theorem call_dictPT (hcalm : X.calm = true) (hu : X.A.units + 3 < cLine) : CallR X (.type "dict") (fun xs H Q => ∃ (a : Addr) (ps : List Addr) (kvs : List (List Key × Addr × V)), xs = [.ref a] ∧ SqL X.K H a (ps.map V.ref) ∧
    Paired (fun p kv => SqT X.K H p [.ref kv.2.1, kv.2.2] ∧ H kv.2.1 = some (.tup (kv.1.map kV))) ps kvs ∧
    ∀ p, H p = none → Q (.ref p) (upd H p (.dT (mergeT [] (kvs.map fun x => (x.1, x.2.2)))))) := by
  intro pins s σ H xs us Q I r q
  obtain ⟨a, ps, kvs, ex, hq, hp, q⟩ := q
  subst ex
  obtain ⟨u, eu, rx⟩ := vals1 r
  subst eu
  cases rx
  obtain ⟨its, rv, pl, hz⟩ := I.list hq
  have ei := refs_at rv
  subst ei
  rw [List.length_map] at hz
  obtain ⟨rs, rel, hl, hpr⟩ := pairs_ofT I hp
  obtain ⟨o, n, ho, hc, hd, hdat⟩ := pl
  have hkey : ∀ x ∈ rs, H x.2.1 = some (.tup (x.1.map kV)) := by
    have all : ∀ {l : List (List Key × V)} {m : List (List Key × Addr × Value)}, KT H l m → ∀ x ∈ m, H x.2.1 = some (.tup (x.1.map kV)) := by
      intro l m q
      induction q with
      | nil => intro x hx; exact nomatch hx
      | @cons p q ps qs hq t ih =>
        intro x hx
        rcases List.mem_cons.mp hx with e | hx
        · subst e
          rw [← hq.1]; exact hq.2.1
        · exact ih x hx
    exact all rel
  refine call_dict_pairsH (knd := tupleKind (mixKind X.prog X.w)) (ps := rs) (PairArg.list a _ (fun j => (ps[j]?).getD 0) (rs.map fun x => (Value.ref x.2.1, x.2.2))) (I.ok.hd hcalm) ?_ ⟨⟨o, n, ho, hc, hd, hdat⟩, by simp [hl], fun j k v e => ?_⟩
    ⟨by simp, fun i key v e => ?_⟩ (fun h' hk x hx => ?_) (by rw [List.length_map, hl]; exact hz) fun h' tk hd' k => ?_
  · show X.A.units + 1 + 1 < cLine
    omega
  · rw [List.getElem?_map] at e
    obtain ⟨x, e1, e2⟩ := Option.map_eq_some_iff.mp e
    obtain ⟨b, e3, e4⟩ := hpr j x e1
    injection e2 with e5 e6
    subst e5 e6
    refine ⟨by simp [e3], .inl ?_⟩
    show s.heap.IsTuple ((ps[j]?).getD 0) _
    rw [e3]
    obtain ⟨ob, z1, z2, nn, z3⟩ := e4
    exact ⟨ob, z1, z2, nn, z3⟩
  · have e : (rs.map fun x => (Value.ref x.2.1, x.2.2))[i]? = some (key, v) := e
    rw [List.getElem?_map] at e
    obtain ⟨x, e1, e2⟩ := Option.map_eq_some_iff.mp e
    injection e2 with e5 e6
    subst e5 e6
    exact ⟨x.1, x.2.1, e1, rfl⟩
  · have hk2 := key_of I.hok (hkey x hx)
    exact (tupleKind_stays (knd := mixKind X.prog X.w)).stays (fun b o vs n e _ => hk b o (Nat.ne_of_lt (Heap.lt_size e)) (by simp) e) hk2
  · have hm : (s.heap.objs.size == sysModules) = false := beq_eq_false_iff_ne.mpr (Nat.ne_of_gt I.big)
    have hlen : (mergeT [] (kvs.map fun x => (x.1, x.2.2))).length ≤ sizeLine := by
      refine Nat.le_trans (length_mergeT _ []) ?_
      rw [List.length_nil, Nat.zero_add, Paired.length rel, hl]
      exact hz
    obtain ⟨ob, es, ep, h1, h2, h3, h4, _, h5⟩ := hd'
    have fr : H s.heap.objs.size = none := I.hok.fresh (Nat.le_refl _)
    have rel2 : KT H (mergeT [] (kvs.map fun x => (x.1, x.2.2))) (storedAllH [] rs) := KT.merge rel .nil
    refine ⟨.ref s.heap.objs.size, upd H s.heap.objs.size (.dT (mergeT [] (kvs.map fun x => (x.1, x.2.2)))), I.laid (t' := tk) (fun b o e => k b o (by simp) e) (Nat.le_refl _)
      (show ObjOk X.prog X.w _ _ _ (.dT (mergeT [] (kvs.map fun x => (x.1, x.2.2)))) from ⟨hlen, hm, _, rel2.keeps fun b ys e => ?_, ob, es, ep, h1, h2, h3, h4, h5⟩), rfl, q _ fr⟩
    rw [upd_ne (fun z => by rw [z, fr] at e; cases e)]
    exact e
/-- dict(d): keys that are tuples of hashes apart -/
theorem call_dictDT (hu : X.A.units + 3 < cLine) : CallR X (.type "dict") (fun xs H Q => ∃ (a : Addr) (kvs : List (List Key × V)), xs = [.ref a] ∧ H a = some (.dT kvs) ∧ (kvs.map fun x => (tupleKind (mixKind X.prog X.w)).hash x.1).Nodup ∧
    ∀ p, H p = none → Q (.ref p) (upd H p (.dT kvs))) := by
  intro pins s σ H xs us Q I r q
  obtain ⟨a, kvs, ex, hd, hn, q⟩ := q
  subst ex
  obtain ⟨u, eu, rx⟩ := vals1 r
  subst eu
  cases rx
  obtain ⟨z, lo, xs, rel, dd⟩ := dt_of I.hok hd
  have hm : (s.heap.objs.size == sysModules) = false := beq_eq_false_iff_ne.mpr (Nat.ne_of_gt I.big)
  have fr : H s.heap.objs.size = none := I.hok.fresh (Nat.le_refl _)
  have hne : s.heap.objs.size ≠ a := by
    obtain ⟨_, _, _, hg, _⟩ := dd
    exact fun e => absurd (Heap.lt_size hg) (by rw [e]; exact Nat.lt_irrefl _)
  have eh : xs.map (fun x => (tupleKind (mixKind X.prog X.w)).hash x.1) = kvs.map fun x => (tupleKind (mixKind X.prog X.w)).hash x.1 := by
    have all : ∀ {l : List (List Key × V)} {m : List (List Key × Addr × Value)}, KT H l m → m.map (fun x => (tupleKind (mixKind X.prog X.w)).hash x.1) = l.map fun x => (tupleKind (mixKind X.prog X.w)).hash x.1 := by
      intro l m q
      induction q with
      | nil => rfl
      | cons h t ih => rw [List.map_cons, List.map_cons, ih, h.1]
    exact all rel
  have hnk : (xs.map (·.1)).Nodup := let ⟨_, _, _, _, _, _, _, _, hn⟩ := dd; hn
  refine callType_codes (Q₁ := fun obj s₁ => obj = .ref s.heap.objs.size ∧ s₁ = { s with heap := s.heap.push { cls := .type "dict", data := .dict #[] } }) F.kt_called_dict (F.kt_typeCall_dict_1 _) F.entry_dict_init (kt_code_dict_new _ ⟨rfl, rfl⟩) ?_
  rintro obj s₁ ⟨rfl, rfl⟩
  have hT : Shared.TypeIs { s with heap := s.heap.push { cls := .type "dict", data := .dict #[] } } (.ref s.heap.objs.size) "dict" := ⟨_, Heap.get?_push_size _ rfl, rfl⟩
  refine ⟨hT, F.args_dict_init_2 _ _, ?_⟩
  unfold Builtin.«dict.__init__»
  refine wpAny_bind ?_
  unfold Builtin.Dict.selfAndRest
  refine wpAny_bind (wpAny_notOrdered_dict hT ?_)
  show wpAny _ _ (pure (s.heap.objs.size, [Value.ref a])) _ _ _
  refine wpAny_pure ?_
  have dd' : (s.heap.push { cls := .type "dict", data := .dict #[] }).DictOfH (tupleKind (mixKind X.prog X.w)) a xs := by
    obtain ⟨ob, es, ep, h1, h2, h3, h4, h5, h6⟩ := dd
    exact ⟨ob, es, ep, Heap.get?_push_of_some _ h1, h2, h3, h4, fun x hx => (tupleKind_stays (knd := mixKind X.prog X.w)).stays (fun b o vs n e _ => Heap.get?_push_of_some _ e) (h5 x hx), h6⟩
  refine updateFrom_dictH (A := X.A.in1) (knd := tupleKind (mixKind X.prog X.w)) .none ?_ hne lo (Heap.DictOfH.new s.heap) dd' (.inr ⟨fun x hx => (tupleKind_stays (knd := mixKind X.prog X.w)).tuple (k := x.1) (let ⟨_, _, _, _, _, _, _, h5, _⟩ := dd'; h5 x hx), by rw [eh]; exact hn⟩) ?_ fun h' hd1 hd2 hs => ?_
  · show X.A.units + 1 + 1 < cLine
    omega
  · show 0 + xs.length ≤ sizeLine
    rw [Nat.zero_add, ← Paired.length rel]; exact z
  · rw [storedAllH_nil_of_nodup xs hnk] at hd1
    obtain ⟨ob, es, ep, h1, h2, h3, h4, _, h5⟩ := hd1
    refine ⟨rfl, .ref s.heap.objs.size, upd H s.heap.objs.size (.dT kvs), I.laid (t' := s.toks) (fun b u e => (hs.2 b (Nat.ne_of_lt (Heap.lt_size e))).trans (Heap.get?_push_of_some _ e)) (Nat.le_refl _)
      (show ObjOk X.prog X.w _ _ _ (.dT kvs) from ⟨z, hm, xs, rel.keeps fun b ys e => ?_, ob, es, ep, h1, h2, h3, h4, h5⟩), rfl, q _ fr⟩
    rw [upd_ne (fun z => by rw [z, fr] at e; cases e)]
    exact e
end
/-! the evaluator -/
def pairsT : List PV → Option (List (List Key) × List PV)
  | [] => some ([], [])
  | .tup [a, b] :: r => match keyOf a with
    | some (.t q) => match pairsT r with
      | some z => some (q :: z.1, b :: z.2)
      | none => none
    | _ => none
  | _ :: _ => none
def mergeBT : List (List Key) → List PV → List (List Key) → List PV → List (List Key) × List PV
  | ks, vs, q :: qs, w :: ws => let z := putB eqKs ks vs q w; mergeBT z.1 z.2 qs ws
  | ks, vs, _, _ => (ks, vs)
def hashK (k : List Key) : Option Int := (keysI k).map fun ns => reduceHash (Builtin.Tuple.tupleHashOf (ns.map hashInt))
def hashesK : List (List Key) → Option (List Int)
  | [] => some []
  | k :: ks => match hashK k with
    | some h => match hashesK ks with
      | some hs => some (h :: hs)
      | none => none
    | none => none
def memI (x : Int) : List Int → Bool
  | [] => false
  | y :: ys => decide (x = y) || memI x ys
def nodI : List Int → Bool
  | [] => true
  | x :: xs => !memI x xs && nodI xs
theorem memI_ok {x : Int} : ∀ {l : List Int}, memI x l = false → x ∉ l
  | [], _ => by simp
  | y :: ys, h => by
    obtain ⟨h1, h2⟩ := Bool.or_eq_false_iff.mp (show (decide (x = y) || memI x ys) = false from h)
    have := memI_ok h2
    have h1 := of_decide_eq_false h1
    simp [h1, this]
theorem nodI_ok : ∀ {l : List Int}, nodI l = true → l.Nodup
  | [], _ => .nil
  | x :: xs, h => by
    obtain ⟨h1, h2⟩ := Bool.and_eq_true_iff.mp (show (!memI x xs && nodI xs) = true from h)
    exact List.nodup_cons.mpr ⟨memI_ok (by simpa using h1), nodI_ok h2⟩
def bDictT : OpN := fun xs S => match xs with
  | [v] => match deref S v with
    | some (.lst ws) => match pairsT ws with
      | some z => let y := mergeBT [] [] z.1 z.2; some (true, .dct (.t y.1) y.2)
      | none => none
    | some (.dct (.t ks) vs) => match hashesK ks with
      | some hs => if nodI hs then some (true, .dct (.t ks) vs) else none
      | none => none
    | _ => none
  | _ => none
def bDictG : OpN := fun xs S => match bDict xs S with
  | some z => some z
  | none => bDictT xs S
section
variable {X : Cx} {G : Gam}
theorem hashK_ok {P : Program} {w : World} {k : List Key} {h : Int} (e : hashK k = some h) : (tupleKind (mixKind P w)).hash k = h := by
  unfold hashK at e
  cases e1 : keysI k with
  | none => rw [e1] at e; cases e
  | some ns =>
    rw [e1] at e
    cases e
    rw [keysI_ok e1]
    show reduceHash (Builtin.Tuple.tupleHashOf ((ns.map Sum.inl).map (mixKind P w).hash)) = _
    rw [List.map_map]
    rfl
theorem hashesK_ok {P : Program} {w : World} : ∀ {ks : List (List Key)} {hs : List Int}, hashesK ks = some hs → ks.map (tupleKind (mixKind P w)).hash = hs
  | [], hs, e => by cases e; rfl
  | k :: ks, hs, e => by
    unfold hashesK at e
    split at e
    · rename_i h e1
      split at e
      · rename_i hs' e2
        cases e
        rw [List.map_cons, hashK_ok e1, hashesK_ok e2]
      · cases e
    · cases e
theorem pairsT_ok {F : Hp} {r : List Addr} : ∀ {ws : List PV} {us : List V} {z : List (List Key) × List PV}, RVs G F r ws us → pairsT ws = some z →
    ∃ (ps : List Addr) (bs : List Addr) (ys : List V), us = ps.map V.ref ∧ z.1.length = ys.length ∧ z.1.length = bs.length ∧ RVs G F r z.2 ys ∧
      Paired (fun p (kv : List Key × Addr × V) => F p = some (.tup [.ref kv.2.1, kv.2.2]) ∧ F kv.2.1 = some (.tup (kv.1.map kV))) ps (z.1.zip (bs.zip ys))
  | [], us, z, q, e => by
    cases e
    exact ⟨[], [], [], q, rfl, rfl, rfl, .nil⟩
  | w :: ws, us, z, q, e => by
    unfold pairsT at e
    split at e
    · rename_i h0; cases h0
    · rename_i a b r' h0
      cases h0
      split at e
      · rename_i kk ek
        split at e
        · rename_i y ey
          cases e
          obtain ⟨u, ur, rfl, k, l⟩ := q
          obtain ⟨p, ts, rfl, k1, k2⟩ := k
          obtain ⟨ua, ub, rfl, ka, kb⟩ := two_of k2
          obtain ⟨ps, bs, ys, rfl, e1, e1', e2, e3⟩ := pairsT_ok l ey
          obtain ⟨c, rfl, ec⟩ := keyOf_t ka ek
          exact ⟨p :: ps, c :: bs, ub :: ys, rfl, by simpa using e1, by simpa using e1', ⟨ub, ys, rfl, kb, e2⟩, .cons ⟨k1, ec⟩ e3⟩
        · cases e
      · cases e
    · cases e
theorem mergeBT_ok {F : Hp} {r : List Addr} : ∀ {qs : List (List Key)} {ws : List PV} {ys : List V} {ks : List (List Key)} {vs : List PV} {us : List V}, qs.length = ys.length → RVs G F r ws ys → ks.length = us.length → RVs G F r vs us →
    ∃ us', mergeT (ks.zip us) (qs.zip ys) = (mergeBT ks vs qs ws).1.zip us' ∧ (mergeBT ks vs qs ws).1.length = us'.length ∧ RVs G F r (mergeBT ks vs qs ws).2 us'
  | [], ws, ys, ks, vs, us, _, _, hl, k => by
    have e : mergeBT ks vs [] ws = (ks, vs) := by cases ws <;> rfl
    rw [e]
    exact ⟨us, rfl, hl, k⟩
  | q :: qs, ws, [], ks, vs, us, h, _, _, _ => by cases h
  | q :: qs, [], y :: ys, ks, vs, us, _, k', _, _ => by cases (show (y :: ys) = [] from k')
  | q :: qs, w :: ws, y :: ys, ks, vs, us, h, k', hl, k => by
    obtain ⟨u', ur, e, k1, k2⟩ := k'
    cases e
    obtain ⟨us1, e1, e2, e3⟩ := putB_ok eqKs_ok k1 (q := q) hl k
    obtain ⟨us2, e4, e5, e6⟩ := mergeBT_ok (qs := qs) (by simpa using h) k2 e2 e3
    refine ⟨us2, ?_, e5, e6⟩
    show mergeT (putK (ks.zip us) q y) (qs.zip ys) = _
    rw [e1]
    exact e4
def rDictT (K : PySem.W.Frag) (P : Program) (w : World) : List V → Hp → VK → Prop := fun xs H Q => (∃ (a : Addr) (ps : List Addr) (kvs : List (List Key × Addr × V)), xs = [.ref a] ∧ SqL K H a (ps.map V.ref) ∧
    Paired (fun p kv => SqT K H p [.ref kv.2.1, kv.2.2] ∧ H kv.2.1 = some (.tup (kv.1.map kV))) ps kvs ∧
    ∀ p, H p = none → Q (.ref p) (upd H p (.dT (mergeT [] (kvs.map fun x => (x.1, x.2.2)))))) ∨ (∃ (a : Addr) (kvs : List (List Key × V)), xs = [.ref a] ∧ H a = some (.dT kvs) ∧ (kvs.map fun x => (tupleKind (mixKind P w)).hash x.1).Nodup ∧
    ∀ p, H p = none → Q (.ref p) (upd H p (.dT kvs)))
def rDictG (K : PySem.W.Frag) (P : Program) (w : World) : List V → Hp → VK → Prop := fun xs H Q => rDict K xs H Q ∨ rDictT K P w xs H Q
theorem cr_dictG (hc : X.calm = true) (hu : X.A.units + 65 < cLine) : CallR X (.type "dict") (rDictG X.K X.prog X.w) := by
  intro pins s σ H vs us Q I r h
  rcases h with h | h | h
  · exact cr_dict hc pins s σ H vs us Q I r h
  · exact call_dictPT hc (by omega) pins s σ H vs us Q I r h
  · exact call_dictDT (by omega) pins s σ H vs us Q I r h
theorem zip3_map {α β γ : Type} : ∀ {as : List α} {bs : List β} {cs : List γ}, as.length = bs.length → as.length = cs.length → (as.zip (bs.zip cs)).map (fun x => (x.1, x.2.2)) = as.zip cs
  | [], _, _, _, _ => by simp
  | a :: as, [], _, h, _ => by cases h
  | a :: as, b :: bs, [], _, h => by cases h
  | a :: as, b :: bs, c :: cs, h1, h2 => by
    rw [List.zip_cons_cons, List.zip_cons_cons, List.map_cons, zip3_map (by simpa using h1) (by simpa using h2), List.zip_cons_cons]
theorem ok_dictG {P : Program} {w : World} : OkN G bDictG (rDictG G.K P w) := fun n0 g F r S H xs us z Q h q e k => by
  unfold bDictG at e
  cases e0 : bDict xs S with
  | some z' => rw [e0] at e; cases e; exact .inl (ok_dict n0 g F r S H xs us z Q h q e0 k)
  | none =>
    simp only [e0] at e
    unfold bDictT at e
    split at e
    · obtain ⟨u, rfl, q1⟩ := one_of q
      split at e
      · rename_i ws ed
        cases ep : pairsT ws with
        | none => simp only [ep] at e; cases e
        | some y =>
          simp only [ep] at e
          cases e
          obtain ⟨a, us, rfl, k1, k2⟩ := view_lst h q1 ed
          obtain ⟨ps, bs, ys, rfl, e1, e1', e2, e3⟩ := pairsT_ok k2 ep
          refine .inr (.inl ⟨a, ps, _, rfl, .inl k1, Paired.imp' (fun _ _ e => ⟨h.sub.tp e.1, h.sub.tpH e.2⟩) e3, fun p hp => ?_⟩)
          rw [zip3_map e1' e1]
          obtain ⟨us', f1, f2, f3⟩ := mergeBT_ok (ks := []) (vs := []) (us := []) e1 e2 rfl rfl
          have f1 : mergeT [] (y.1.zip ys) = _ := f1
          rw [f1]
          obtain ⟨h2, k4⟩ := new_obj h hp (v := .dct (.t (mergeBT [] [] y.1 y.2).1) (mergeBT [] [] y.1 y.2).2) ⟨us', ⟨rfl, f2⟩, f3⟩ rfl
          exact k F r _ _ (.refl F r) h2 k4
      · rename_i ks vs ed
        cases eh : hashesK ks with
        | none => simp only [eh] at e; cases e
        | some hs =>
          simp only [eh] at e
          split at e
          · rename_i hn
            cases e
            obtain ⟨a, us, rfl, k1, k2, k3⟩ := view_dctT h q1 ed
            refine .inr (.inr ⟨a, _, rfl, k1, ?_, fun p hp => ?_⟩)
            · have e1 : (ks.zip us).map (fun x => (tupleKind (mixKind P w)).hash x.1) = ks.map (tupleKind (mixKind P w)).hash := by
                conv => rhs; rw [← List.map_fst_zip (l₁ := ks) (l₂ := us) (Nat.le_of_eq k2)]
                rw [List.map_map]
                rfl
              rw [e1, hashesK_ok eh]
              exact nodI_ok hn
            · obtain ⟨h2, k4⟩ := new_obj h hp (v := .dct (.t ks) vs) ⟨us, ⟨rfl, k2⟩, k3⟩ rfl
              exact k F r _ _ (.refl F r) h2 k4
          · cases e
      · cases e
    · cases e
end
end PX
set_option Elab.async false
set_option linter.all false
set_option maxRecDepth 100000
set_option maxHeartbeats 1000000
/-! walking a list, a tuple, or the keys of a dict -/
namespace PX
open PySem PySem.Spec PyProof.Rows L2 ZG
def iSeqH (a : SE) : SI := fun env S => (a env S).bind fun p S1 => match lockS p.2 S1 with
  | some z => .ok (z.1, z.2.1) z.2.2
  | none => match dctOf S1 p.2 with
    | some z => .ok (z.1.map kPV, []) S1
    | none => .no
theorem PI.or {X : Cx} {tg e : Expr} {t1 t2 : TI} (h1 : PI X tg e t1) (h2 : PI X tg e t2) : PI X tg e fun σ H R => t1 σ H R ∨ t2 σ H R :=
  ⟨fun pins s σ H R I q => q.elim (h1.run pins s σ H R I) (h2.run pins s σ H R I)⟩
theorem si_seqH {X : Cx} {G : Gam} {n0 : Nat} {tg e : Expr} {fe : SE} (hK : G.K = X.K) (he : PE X e (rdE G n0 fe)) : PI X tg e (rdI G n0 (iSeqH fe)) := by
  refine piI (PI.or (si_seq hK he) (si_keys he)) fun σ H R ⟨F, r, env, S, g, s, h⟩ => ?_
  unfold iSeqH at h
  cases e0 : fe env S with
  | no => rw [e0] at h; exact h.elim
  | ex => rw [e0] at h; exact h.elim
  | ok p S1 =>
    rw [e0] at h
    have h : PoI G n0 g F r env σ (match lockS p.2 S1 with
      | some z => .ok (z.1, z.2.1) z.2.2
      | none => match dctOf S1 p.2 with
        | some z => .ok (z.1.map kPV, []) S1
        | none => .no) R := h
    cases el : lockS p.2 S1 with
    | some z =>
      rw [el] at h
      refine .inl ⟨F, r, env, S, g, s, ?_⟩
      unfold iSeq
      rw [e0]
      show PoI G n0 g F r env σ (match lockS p.2 S1 with
        | some z => _
        | none => .no) R
      rw [el]
      exact h
    | none =>
      rw [el] at h
      refine .inr ⟨F, r, env, S, g, s, ?_⟩
      unfold iKys
      rw [e0]
      exact h
end PX
set_option Elab.async false
set_option linter.all false
set_option maxRecDepth 100000
set_option maxHeartbeats 1000000
/-! the evaluator's equations and values, for every law -/
namespace PX
open PySem
/-! the evaluator's equations, for simp -/
section
variable (env : Env) (S : Store)
@[simp] theorem q_lit (v : PV) : eLit v env S = .ok (false, v) S := (rfl)
theorem q_var (i : Nat) : eVar i env S = match env[i]? with
  | some (some v) => .ok (false, v) S
  | _ => .no := (rfl)
@[simp] theorem q_un (o : Op1) (a : SE) : eUn o a env S = (a env S).bind fun p S1 => ofO (o p.2 S1) S1 := (rfl)
@[simp] theorem q_bin (o : Op2) (a b : SE) : eBin o a b env S = (a env S).bind fun p S1 => (b env S1).bind fun q S2 => ofO (o p.2 q.2 S2) S2 := (rfl)
@[simp] theorem q_nil : aNil env S = .ok [] S := (rfl)
@[simp] theorem q_cons (a : SE) (r : SA) : aCons a r env S = (a env S).bind fun p S1 => (r env S1).bind fun q S2 => .ok (p.2 :: q) S2 := (rfl)
@[simp] theorem q_arg (o : OpN) (a : SA) : eArg o a env S = (a env S).bind fun p S1 => ofO (o p S1) S1 := (rfl)
@[simp] theorem q_tup (a : SA) : eTup a env S = (a env S).bind fun p S1 => if small p.length then .ok (false, .tup p) S1 else .no := (rfl)
@[simp] theorem q_lst (a : SA) : eLst a env S = (a env S).bind fun p S1 => if small p.length then .ok (true, .lst p) S1 else .no := (rfl)
@[simp] theorem q_tru (a : SE) : tTru a env S = (a env S).bind fun p S1 => match truth S1 p.2 with
  | some b => .ok b S1
  | none => .no := (rfl)
@[simp] theorem q_tbl (a : SE) : tBl a env S = (a env S).bind fun p S1 => match p.2 with
  | .bl b => .ok b S1
  | _ => .no := (rfl)
@[simp] theorem q_tno (a : ST) : tNo a env S = (a env S).bind fun b S1 => .ok (!b) S1 := (rfl)
@[simp] theorem q_tan (a b : ST) : tAn a b env S = (a env S).bind fun c S1 => if c = true then b env S1 else .ok false S1 := (rfl)
@[simp] theorem q_tor (a b : ST) : tOr a b env S = (a env S).bind fun c S1 => if c = true then .ok true S1 else b env S1 := (rfl)
@[simp] theorem q_ean (a b : SE) : eAn a b env S = (a env S).bind fun p S1 => match truth S1 p.2 with
  | some true => b env S1
  | some false => .ok (false, p.2) S1
  | none => .no := (rfl)
@[simp] theorem q_eor (a b : SE) : eOr a b env S = (a env S).bind fun p S1 => match truth S1 p.2 with
  | some true => .ok (false, p.2) S1
  | some false => b env S1
  | none => .no := (rfl)
@[simp] theorem q_not (a : SE) : eNot a env S = (a env S).bind fun p S1 => match truth S1 p.2 with
  | some b => .ok (false, .bl (!b)) S1
  | none => .no := (rfl)
@[simp] theorem q_if (c : ST) (a b : SE) : eIf c a b env S = (c env S).bind fun t S1 => if t = true then a env S1 else b env S1 := (rfl)
@[simp] theorem q_ch (o o' : Op2) (a b c : SE) : eCh o o' a b c env S = (a env S).bind fun p S1 => (b env S1).bind fun q S2 => match o p.2 q.2 S2 with
  | some (false, .bl true) => (c env S2).bind fun z S3 => ofO (o' q.2 z.2 S3) S3
  | some (false, .bl false) => .ok (false, .bl false) S2
  | _ => .no := (rfl)
@[simp] theorem q_new (a : SE) : eNew a env S = (a env S).bind fun p S1 => match p.1 with
  | true => .ok (false, .ref S1.length) (S1 ++ [p.2])
  | false => .ok p S1 := (rfl)
@[simp] theorem q_scons (a b : SS) : sCons a b env S = (a env S).then b := (rfl)
@[simp] theorem q_snil : sNil env S = .nx env S := (rfl)
@[simp] theorem q_sexp (a : SE) : sExp a env S = (a env S).go fun _ S1 => .nx env S1 := (rfl)
@[simp] theorem q_sret (a : SE) : sRet a env S = (a env S).go fun p S1 => .rt p.2 S1 := (rfl)
@[simp] theorem q_sif (c : ST) (a b : SS) : sIf c a b env S = (c env S).go fun t S1 => if t = true then a env S1 else b env S1 := (rfl)
@[simp] theorem q_sasg (t : Tg) (a : SE) : sAsg t a env S = (a env S).go fun p S1 => match t p.2 env S1 with
  | some env' => .nx env' S1
  | none => .no := (rfl)
@[simp] theorem q_gnm (i : Nat) (v : PV) : gNm i v env S = some (env.set i (some v)) := (rfl)
@[simp] theorem q_spar (is : List Nat) (a : SA) : sPar is a env S = (a env S).go fun vs S1 => match gTps (is.map gNm) vs env S1 with
  | some env' => .nx env' S1
  | none => .no := (rfl)
@[simp] theorem q_len (cf : CF) (tb : List (Nat × Nat)) (a : SE) : eLen cf tb a env S = (a env S).bind fun p S1 => match ownOf tb S1 p.2 with
  | some f => (callV cf f [p.2] S1).bind lenI
  | none => ofO (bLen [p.2] S1) S1 := (rfl)
@[simp] theorem q_eq (cf : CF) (tb : List (Nat × Nat)) (tys : List TyN) (a b : SE) : eEq cf tb tys a b env S = (a env S).bind fun p S1 => (b env S1).bind fun q S2 => match ownOf tb S2 p.2 with
  | some f => if okTy tys S2 q.2 then callV cf f [p.2, q.2] S2 else .no
  | none => ofO (oEq p.2 q.2 S2) S2 := (rfl)
@[simp] theorem q_ne (cf : CF) (tb : List (Nat × Nat)) (tys : List TyN) (a b : SE) : eNe cf tb tys a b env S = (a env S).bind fun p S1 => (b env S1).bind fun q S2 => match ownOf tb S2 p.2 with
  | some f => if okTy tys S2 q.2 then (callV cf f [p.2, q.2] S2).bind notI else .no
  | none => ofO (oNe p.2 q.2 S2) S2 := (rfl)
@[simp] theorem q_ix (cf : CF) (tb : List (Nat × Nat)) (a b : SE) : eIx cf tb a b env S = (a env S).bind fun p S1 => (b env S1).bind fun q S2 => match ownOf tb S2 p.2 with
  | some f => callV cf f [p.2, q.2] S2
  | none => match dIx p.2 q.2 S2 with
    | some z => .ok z S2
    | none => ofO (oIx p.2 q.2 S2) S2 := (rfl)
@[simp] theorem q_call (cf : CF) (np f : Nat) (a : SA) : eCall cf np f a env S = (a env S).bind fun args S1 => if args.length = np then callV cf f args S1 else .no := (rfl)
@[simp] theorem q_sl (a : SE) (lo hi : SO) : eSl a lo hi env S = (a env S).bind fun p S1 => (lo env S1).bind fun l S2 => (hi env S2).bind fun u S3 => ofO (slP l u p.2 S3) S3 := (rfl)
@[simp] theorem q_pno : pNo env S = .ok none S := (rfl)
@[simp] theorem q_pso (a : SE) : pSo a env S = (a env S).bind fun p S1 => match p.2 with
  | .int i => .ok (some i) S1
  | _ => .no := (rfl)
@[simp] theorem q_rev (a : SE) : eRev a env S = (a env S).bind fun p S1 => match lstOf S1 p.2 with
  | some xs => .ok (true, .lst xs.reverse) S1
  | none => .no := (rfl)
@[simp] theorem q_fld (cs : List Nat) (f : Nat) (a : SE) : eFld cs f a env S = (a env S).bind fun p S1 => ofO ((fldOf cs f S1 p.2).map fun w => (false, w)) S1 := (rfl)
@[simp] theorem q_isi (tb : List (TyN × Bool)) (a : SE) : eIsi tb a env S = (a env S).bind fun p S1 => ofO (match tyN S1 p.2 with
  | some t => (tb.lookup t).map fun b => (false, .bl b)
  | none => none) S1 := (rfl)
end
@[simp] theorem q_ofO_some (z : Bool × PV) (S : Store) : ofO (some z) S = .ok z S := (rfl)
@[simp] theorem q_ofO_none (S : Store) : ofO none S = .no := (rfl)
@[simp] theorem d_int (S : Store) (i : Int) : deref S (.int i) = some (.int i) := (rfl)
@[simp] theorem d_bl (S : Store) (i : Bool) : deref S (.bl i) = some (.bl i) := (rfl)
@[simp] theorem d_lst (S : Store) (xs : List PV) : deref S (.lst xs) = some (.lst xs) := (rfl)
@[simp] theorem d_tup (S : Store) (xs : List PV) : deref S (.tup xs) = some (.tup xs) := (rfl)
@[simp] theorem d_ins (S : Store) (c : Nat) (ns : List Nat) (xs : List PV) : deref S (.ins c ns xs) = some (.ins c ns xs) := (rfl)
@[simp] theorem d_dct (S : Store) (ks : DKs) (xs : List PV) : deref S (.dct ks xs) = some (.dct ks xs) := (rfl)
@[simp] theorem d_ref (S : Store) (i : Nat) : deref S (.ref i) = match S[i]? with
  | some o => some (unl o)
  | none => none := rfl
/-! calls -/
def fin : RS → R PV
  | .rt v S => .ok v S
  | .nx _ S => .ok .non S
  | .ex c p S => .ex c p S
  | _ => .no
@[simp] theorem fin_rt (v : PV) (S : Store) : fin (.rt v S) = .ok v S := (rfl)
@[simp] theorem fin_nx (e : Env) (S : Store) : fin (.nx e S) = .ok .non S := (rfl)
@[simp] theorem fin_no : fin .no = .no := (rfl)
theorem call_succ {T : Nat → Option FnB} {n f : Nat} {b : FnB} {args : List PV} {n0 : Nat} {S : Store} (h : T f = some b) (hl : args.length = b.np) : callF T (n + 1) f args n0 S = fin (b.body (callF T n) n0 (args.map some ++ List.replicate (b.nl - b.np) none) S) := by
  show (match T f with
    | some b => runB b (callF T n) args n0 S
    | none => R.no) = _
  rw [h]
  show runB b (callF T n) args n0 S = _
  unfold runB
  rw [if_pos hl]
  cases b.body (callF T n) n0 (args.map some ++ List.replicate (b.nl - b.np) none) S <;> rfl
theorem lk_cons (t a : TyN) (b : Bool) (tb : List (TyN × Bool)) : ((a, b) :: tb).lookup t = if t = a then some b else tb.lookup t := by
  rw [List.lookup_cons]
  by_cases h : t = a
  · rw [h, beq_self_eq_true, if_pos rfl]
  · rw [beq_false_of_ne h, if_neg h]
theorem callV_same {cf : CF} {f : Nat} {args : List PV} {S S' : Store} {v : PV} (h : cf f args S.length S = .ok v S') (hl : S'.length = S.length) : callV cf f args S = .ok (false, v) S' := by
  unfold callV
  rw [h]
  show norm S.length v S' = _
  unfold norm
  rw [if_pos hl]
end PX
namespace PX
open PySem
theorem intsOf_map (ns : List Int) : intsOf (ns.map .int) = some ns := by
  induction ns with
  | nil => rfl
  | cons c cs ih =>
    show (intsOf (cs.map .int)).map (c :: ·) = _
    rw [ih]
    rfl
theorem toDL_ints (S : Store) (k : Nat) (ns : List Int) : toDL (toD S (k + 1)) (ns.map .int) = some (ns.map .int) := by
  induction ns with
  | nil => rfl
  | cons c cs ih =>
    show (match toD S (k + 1) (.int c) with
      | some d => match toDL (toD S (k + 1)) (cs.map .int) with
        | some ds => some (d :: ds)
        | none => none
      | none => none) = _
    rw [ih]
    rfl
theorem eqv_ints : ∀ a b : List Int, PyData.eqvAll (a.map .int) (b.map .int) = decide (a = b) := by
  intro a
  induction a with
  | nil =>
    intro b
    cases b with
    | nil => rfl
    | cons y ys => rfl
  | cons x xs ih =>
    intro b
    cases b with
    | nil => rfl
    | cons y ys =>
      show (PyData.eqv (.int x) (.int y) && PyData.eqvAll (xs.map .int) (ys.map .int)) = _
      rw [ih]
      show ((x == y) && decide (xs = ys)) = _
      by_cases h : x = y
      · by_cases h2 : xs = ys
        · simp [h, h2]
        · simp [h, h2]
      · simp [h]
theorem toD_lst (S : Store) (k : Nat) (ns : List Int) : toD S (k + 2) (.lst (ns.map .int)) = some (.list (ns.map .int)) := by
  show (toDL (toD S (k + 1)) (ns.map .int)).map PyData.list = _
  rw [toDL_ints]
  rfl
theorem toD_tup (S : Store) (k : Nat) (ns : List Int) : toD S (k + 2) (.tup (ns.map .int)) = some (.tuple (ns.map .int)) := by
  show (toDL (toD S (k + 1)) (ns.map .int)).map PyData.tuple = _
  rw [toDL_ints]
  rfl
theorem eqD_lst (S : Store) (a b : List Int) : eqD S (.lst (a.map .int)) (.lst (b.map .int)) = some (decide (a = b)) := by
  unfold eqD
  rw [toD_lst S 4, toD_lst S 4]
  exact congrArg some (eqv_ints a b)
theorem eqD_tup (S : Store) (a b : List Int) : eqD S (.tup (a.map .int)) (.tup (b.map .int)) = some (decide (a = b)) := by
  unfold eqD
  rw [toD_tup S 4, toD_tup S 4]
  exact congrArg some (eqv_ints a b)
theorem eqD_int (S : Store) (a b : Int) : eqD S (.int a) (.int b) = some (decide (a = b)) := by
  show some (a == b) = _
  by_cases h : a = b
  · simp [h]
  · simp [h]
theorem eqD_bl (S : Store) (a b : Bool) : eqD S (.bl a) (.bl b) = some (decide (a = b)) := by
  cases a <;> cases b <;> rfl
theorem ownOf_lst (tb : List (Nat × Nat)) (S : Store) (xs : List PV) : ownOf tb S (.lst xs) = none := (rfl)
theorem ownOf_tup (tb : List (Nat × Nat)) (S : Store) (xs : List PV) : ownOf tb S (.tup xs) = none := (rfl)
theorem ownOf_int (tb : List (Nat × Nat)) (S : Store) (i : Int) : ownOf tb S (.int i) = none := (rfl)
theorem ownOf_bl (tb : List (Nat × Nat)) (S : Store) (i : Bool) : ownOf tb S (.bl i) = none := (rfl)
theorem dIx_lst (S : Store) (xs : List PV) (y : PV) : dIx (.lst xs) y S = none := (rfl)
theorem dIx_tup (S : Store) (xs : List PV) (y : PV) : dIx (.tup xs) y S = none := (rfl)
theorem cut_all (xs : List PV) (h : xs.length ≤ 63) : cutP xs none (some 63) = xs := by
  show (xs.drop 0).take (min 63 xs.length - 0) = xs
  rw [List.drop_zero, Nat.min_eq_right h, Nat.sub_zero, List.take_length]
theorem oIx_lst (S : Store) (ns : List Int) (i : Int) (h0 : 0 ≤ i) (h1 : i < ns.length) : ∃ c, oIx (.lst (ns.map .int)) (.int i) S = some (false, .int c) ∧ ns[i.toNat]? = some c := by
  have hl : i.toNat < ns.length := by omega
  refine ⟨ns[i.toNat], ?_, List.getElem?_eq_getElem hl⟩
  show (match itemsOf S (.lst (ns.map .int)) with
    | some xs => match ixP xs.length i with
      | some j => match xs[j]? with
        | some v => some (false, v)
        | none => none
      | none => none
    | none => none) = _
  have e1 : itemsOf S (.lst (ns.map .int)) = some (ns.map .int) := rfl
  have e2 : ixP (ns.map PV.int).length i = some i.toNat := by
    unfold ixP
    rw [if_pos h0, if_pos (by rw [List.length_map]; exact h1)]
  have e3 : (ns.map PV.int)[i.toNat]? = some (.int ns[i.toNat]) := by
    rw [List.getElem?_map, List.getElem?_eq_getElem hl]
    rfl
  simp only [e1, e2, e3]
theorem mulOk_l {i j : Int} (h1 : -18446744073709551616 < i) (h2 : i < 18446744073709551616) : mulOk i j = true := by
  unfold mulOk
  simp [h1, h2]
theorem mulOk_r {i j : Int} (h1 : -18446744073709551616 < j) (h2 : j < 18446744073709551616) : mulOk i j = true := by
  unfold mulOk
  simp [h1, h2]
theorem rep_int (i j : Int) (S : Store) (h : mulOk i j = true) : oRep (.int i) (.int j) S = some (false, .int (i * j)) := by
  show (if mulOk i j then some (false, PV.int (i * j)) else none) = _
  rw [if_pos h]
theorem rep_l (i j : Int) (S : Store) (h1 : -18446744073709551616 < i) (h2 : i < 18446744073709551616) : oRep (.int i) (.int j) S = some (false, .int (i * j)) := rep_int i j S (mulOk_l h1 h2)
theorem rep_r (i j : Int) (S : Store) (h1 : -18446744073709551616 < j) (h2 : j < 18446744073709551616) : oRep (.int i) (.int j) S = some (false, .int (i * j)) := rep_int i j S (mulOk_r h1 h2)
theorem rep_m (a j : Int) (S : Store) : oRep (.int (a % 2147483647)) (.int j) S = some (false, .int (a % 2147483647 * j)) := rep_l _ _ S (by omega) (by omega)
theorem cat_int (i j : Int) (S : Store) : oCat (.int i) (.int j) S = some (false, .int (i + j)) := (rfl)
theorem mod_int (i j : Int) (S : Store) (h : 0 < j) : oMod (.int i) (.int j) S = some (false, .int (i % j)) := by
  show (if 0 < j then some (false, PV.int (i % j)) else none) = _
  rw [if_pos h]
theorem div_int (i j : Int) (S : Store) (h : 0 < j) (h2 : j < 1073741824) : oDiv (.int i) (.int j) S = some (false, .int (i / j)) := by
  show (if 0 < j ∧ j < 1073741824 then some (false, PV.int (i / j)) else none) = _
  rw [if_pos ⟨h, h2⟩]
theorem bInt_int (i : Int) (S : Store) : bInt [.int i] S = some (false, .int i) := (rfl)
theorem bLen_lst (xs : List PV) (S : Store) : bLen [.lst xs] S = some (false, .int xs.length) := (rfl)
theorem bLen_tup (xs : List PV) (S : Store) : bLen [.tup xs] S = some (false, .int xs.length) := (rfl)
theorem bSum_lst (ns : List Int) (S : Store) : bSum [.lst (ns.map .int)] S = some (false, .int ns.sum) := by
  show (intsOf (ns.map .int)).map _ = _
  rw [intsOf_map]
  rfl
theorem bSum_tup (ns : List Int) (S : Store) : bSum [.tup (ns.map .int)] S = some (false, .int ns.sum) := by
  show (intsOf (ns.map .int)).map _ = _
  rw [intsOf_map]
  rfl
end PX
namespace PX
open PySem
section
variable (env : Env) (S : Store)
@[simp] theorem q_sfor (i : SI) (t : Tg) (b : SS) : sFor i t b env S = (i env S).go fun p S1 => (forR t b p.1 env S1).unl p.2 := (rfl)
@[simp] theorem q_rg1 (a : SE) : iRg1 a env S = (a env S).bind fun p S1 => match p.2 with
  | .int j => if okRg j then .ok (rngL 0 j.toNat, []) S1 else .no
  | _ => .no := (rfl)
@[simp] theorem q_lm (f : PV → PV → Store → Option Store) (o a : SE) : eLm f o a env S = (o env S).bind fun p S1 => if isL S1 p.2 then (a env S1).bind fun q S2 => match f p.2 q.2 S2 with
    | some S3 => .ok (false, .non) S3
    | none => .no
  else .no := (rfl)
@[simp] theorem q_forN (t : Tg) (b : SS) : forR t b [] env S = .nx env S := (rfl)
theorem q_forC (t : Tg) (b : SS) (x : PV) (xs : List PV) : forR t b (x :: xs) env S = match t x env S with
    | none => .no
    | some env' => match b env' S with
      | .nx e S' => forR t b xs e S'
      | .ct e S' => forR t b xs e S'
      | .bk e S' => .nx e S'
      | z => z := (rfl)
@[simp] theorem q_unl0 (z : RS) : z.unl [] = z := by cases z <;> rfl
end
theorem map_snoc (acc : List Int) (c : Int) : acc.map PV.int ++ [.int c] = (acc ++ [c]).map .int := by simp
end PX
namespace PX
open PySem
theorem frzL_ints (n0 t : Nat) (S : Store) (k : Nat) (ns : List Int) : frzL (frz n0 t S (k + 1)) (ns.map .int) = some (ns.map .int) := by
  induction ns with
  | nil => rfl
  | cons c cs ih =>
    show (match frz n0 t S (k + 1) (.int c) with
      | some w => match frzL (frz n0 t S (k + 1)) (cs.map .int) with
        | some ws => some (w :: ws)
        | none => none
      | none => none) = _
    rw [ih]
    rfl
end PX
namespace PX
open PySem
theorem compR_map {α : Type} {t : Tg} {c : ST} {e : SE} {env : Env} {S : Store} (g f : α → PV) (p : α → Bool) (en : α → Env) : ∀ (l : List α), (∀ x ∈ l, t (g x) env S = some (en x)) → (∀ x ∈ l, c (en x) S = .ok (p x) S) → (∀ x ∈ l, p x = true → ∃ b, e (en x) S = .ok (b, f x) S) →
    ∀ acc : List PV, acc.length + l.length ≤ 100000 → compR t c e (l.map g) env acc S = .ok (acc ++ (l.filter p).map f) S
  | [], _, _, _, acc, _ => by simp [compR]
  | x :: l, ht, hc, he, acc, hl => by
    have ih := compR_map g f p en l (fun y hy => ht y (List.mem_cons_of_mem _ hy)) (fun y hy => hc y (List.mem_cons_of_mem _ hy)) (fun y hy => he y (List.mem_cons_of_mem _ hy))
    simp only [List.length_cons] at hl
    show (match t (g x) env S with
      | none => R.no
      | some env' => (c env' S).bind fun b S1 => if b = true then (e env' S1).bind fun q S2 => if small acc.length then compR t c e (l.map g) env (acc ++ [q.2]) S2 else .no
        else compR t c e (l.map g) env acc S1) = _
    rw [ht x List.mem_cons_self]
    simp only [hc x List.mem_cons_self, R.bind_ok]
    cases hp : p x with
    | false =>
      rw [if_neg (by simp), ih acc (by omega), List.filter_cons_of_neg (by simp [hp])]
    | true =>
      obtain ⟨b, hb⟩ := he x List.mem_cons_self hp
      have hs : small acc.length = true := by
        unfold small
        exact Nat.ble_eq_true_of_le (by omega)
      rw [if_pos rfl, hb]
      simp only [R.bind_ok, hs, if_true]
      rw [ih (acc ++ [f x]) (by simp; omega), List.filter_cons_of_pos hp]
      simp
@[simp] theorem q_lc (i : SI) (t : Tg) (vs : List Nat) (c : ST) (e : SE) (env : Env) (S : Store) : eLc i t vs c e env S = (i env S).bind fun p S1 => (compR t c e p.1 (wipeE env vs) [] S1).bind fun acc S2 => .ok (true, .lst acc) (unlock p.2 S2) := (rfl)
@[simp] theorem q_seq (a : SE) (env : Env) (S : Store) : iSeq a env S = (a env S).bind fun p S1 => match lockS p.2 S1 with
  | some z => .ok (z.1, z.2.1) z.2.2
  | none => .no := (rfl)
theorem blsOf_true {α : Type} (l : List α) : blsOf (l.map fun _ => PV.bl true) = some (l.map fun _ => true) := by
  induction l with
  | nil => rfl
  | cons x l ih =>
    show (blsOf (l.map fun _ => PV.bl true)).map (true :: ·) = _
    rw [ih]
    rfl
/-! a list or a tuple of ints -/
def sq (b : Bool) (ns : List Int) : PV := bif b then .tup (ns.map .int) else .lst (ns.map .int)
end PX
namespace PX
open PySem
theorem rngL_map : ∀ (n : Nat) (lo : Int), rngL lo n = (List.range n).map fun (i : Nat) => PV.int (lo + i)
  | 0, lo => rfl
  | n + 1, lo => by
    show PV.int lo :: rngL (lo + 1) n = _
    rw [rngL_map n (lo + 1), List.range_succ_eq_map, List.map_cons, List.map_map]
    congr 1
    · simp
    · refine List.map_congr_left fun i _ => ?_
      show PV.int (lo + 1 + (i : Int)) = PV.int (lo + ((i + 1 : Nat) : Int))
      congr 1
      omega
theorem rngL_map0 (n : Nat) : rngL 0 n = (List.range n).map fun (i : Nat) => PV.int i := by
  rw [rngL_map]
  exact List.map_congr_left fun i _ => by rw [Int.zero_add]
theorem enumL_map : ∀ (ns : List Int) (k : Nat), enumL k (ns.map .int) = (ns.zipIdx k).map fun p => PV.tup [.int (p.2 : Nat), .int p.1]
  | [], k => rfl
  | x :: ns, k => by
    show PV.tup [.int k, .int x] :: enumL ((k : Int) + 1) (ns.map .int) = _
    rw [show ((k : Int) + 1) = ((k + 1 : Nat) : Int) by omega, enumL_map ns (k + 1)]
    rfl
theorem zipL_map : ∀ (a b : List Int), zipL (a.map .int) (b.map .int) = (a.zip b).map fun p => PV.tup [.int p.1, .int p.2]
  | [], b => rfl
  | x :: a, [] => rfl
  | x :: a, y :: b => by
    show PV.tup [.int x, .int y] :: zipL (a.map .int) (b.map .int) = _
    rw [zipL_map a b]
    rfl
theorem cutP_map (ns : List Int) (lo hi : Option Int) : cutP (ns.map .int) lo hi = ((ns.drop (sIxP ns.length 0 lo)).take (sIxP ns.length ns.length hi - sIxP ns.length 0 lo)).map .int := by
  unfold cutP
  rw [List.length_map, List.map_take, List.map_drop]
theorem sIx_nat (n d x : Nat) (h : x ≤ n) : sIxP n d (some (x : Int)) = x := by
  show (if (x : Int) < 0 then ((x : Int) + n).toNat else min (x : Int).toNat n) = x
  rw [if_neg (by omega)]
  omega
theorem cut_take (cs : List Int) (x : Nat) (h : x ≤ cs.length) : cutP (cs.map .int) none (some (x : Int)) = (cs.take x).map .int := by
  rw [cutP_map, sIx_nat _ _ _ h]
  show ((cs.drop 0).take (x - 0)).map PV.int = _
  rw [List.drop_zero, Nat.sub_zero]
theorem cut_mid (cs : List Int) (x y : Nat) (h : x ≤ cs.length) (h2 : y ≤ cs.length) : cutP (cs.map .int) (some (x : Int)) (some (y : Int)) = ((cs.drop x).take (y - x)).map .int := by
  rw [cutP_map, sIx_nat _ _ _ h, sIx_nat _ _ _ h2]
theorem cut_drop (cs : List Int) (x : Nat) (h : x ≤ cs.length) : cutP (cs.map .int) (some (x : Int)) none = (cs.drop x).map .int := by
  rw [cutP_map, sIx_nat _ _ _ h]
  show ((cs.drop x).take (cs.length - x)).map PV.int = _
  rw [List.take_of_length_le (by rw [List.length_drop]; exact Nat.le_refl _)]
end PX
namespace PX
open PySem
@[simp] theorem q_enu (a : SE) (env : Env) (S : Store) : iEnu a env S = (a env S).bind fun p S1 => match lockS p.2 S1 with
  | some z => .ok (enumL 0 z.1, z.2.1) z.2.2
  | none => .no := (rfl)
@[simp] theorem q_zip (a b : SE) (env : Env) (S : Store) : iZip a b env S = (a env S).bind fun p S1 => (b env S1).bind fun q S2 => match lockS p.2 S2 with
  | some z => match lockS q.2 z.2.2 with
    | some y => .ok (zipL z.1 y.1, y.2.1 ++ z.2.1) y.2.2
    | none => .no
  | none => .no := (rfl)
theorem enu_val (a : SE) (env : Env) (S : Store) (b : Bool) (ns : List Int) (ha : a env S = .ok (b, .tup (ns.map .int)) S) : iEnu a env S = .ok (ns.zipIdx.map fun p => PV.tup [.int (p.2 : Nat), .int p.1], []) S := by
  rw [q_enu, ha, R.bind_ok]
  have e : enumL 0 (ns.map .int) = _ := enumL_map ns 0
  show R.ok (enumL 0 (ns.map .int), []) S = _
  rw [e]
theorem zip_val (a b : SE) (env : Env) (S : Store) (k k' : Bool) (ns ms : List Int) (ha : a env S = .ok (k, .tup (ns.map .int)) S) (hb : b env S = .ok (k', .tup (ms.map .int)) S) : iZip a b env S = .ok ((ns.zip ms).map fun p => PV.tup [.int p.1, .int p.2], []) S := by
  rw [q_zip, ha, R.bind_ok, hb, R.bind_ok]
  show R.ok (zipL (ns.map .int) (ms.map .int), []) S = _
  rw [zipL_map]
/-! a comprehension, its source at hand -/
theorem lc_val {α : Type} {i : SI} {t : Tg} {vs : List Nat} {c : ST} {e : SE} {env : Env} {S : Store} (l : List α) (g f : α → PV) (p : α → Bool) (en : α → Env) (hi : i env S = .ok (l.map g, []) S) (hl : l.length ≤ 100000)
    (ht : ∀ x ∈ l, t (g x) (wipeE env vs) S = some (en x)) (hc : ∀ x ∈ l, c (en x) S = .ok (p x) S) (he : ∀ x ∈ l, p x = true → ∃ b, e (en x) S = .ok (b, f x) S) : eLc i t vs c e env S = .ok (true, .lst ((l.filter p).map f)) S := by
  rw [q_lc, hi, R.bind_ok]
  simp only [compR_map g f p en l ht hc he [] (by rw [List.length_nil]; omega), R.bind_ok, List.nil_append]
  rfl
end PX
set_option linter.all false
namespace K22M
/-! greatest and least of a list -/
def mx : List Int → Int
  | [] => 0
  | x :: xs => xs.foldl max x
def mn : List Int → Int
  | [] => 0
  | x :: xs => xs.foldl min x
theorem fmax_mem : ∀ (xs : List Int) (x : Int), xs.foldl max x ∈ x :: xs
  | [], x => List.mem_singleton.mpr rfl
  | y :: ys, x => by
    have h := fmax_mem ys (max x y)
    rw [List.foldl_cons]
    rcases List.mem_cons.mp h with h | h
    · rw [h]
      by_cases q : x ≤ y
      · rw [Int.max_eq_right q]; simp
      · rw [Int.max_eq_left (by omega)]; simp
    · exact List.mem_cons_of_mem _ (List.mem_cons_of_mem _ h)
theorem fmin_mem : ∀ (xs : List Int) (x : Int), xs.foldl min x ∈ x :: xs
  | [], x => List.mem_singleton.mpr rfl
  | y :: ys, x => by
    have h := fmin_mem ys (min x y)
    rw [List.foldl_cons]
    rcases List.mem_cons.mp h with h | h
    · rw [h]
      by_cases q : x ≤ y
      · rw [Int.min_eq_left q]; simp
      · rw [Int.min_eq_right (by omega)]; simp
    · exact List.mem_cons_of_mem _ (List.mem_cons_of_mem _ h)
theorem fmax_ge : ∀ (xs : List Int) (x z : Int), z ∈ x :: xs → z ≤ xs.foldl max x
  | [], x, z, h => by rw [List.mem_singleton.mp h]; exact Int.le_refl _
  | y :: ys, x, z, h => by
    rw [List.foldl_cons]
    rcases List.mem_cons.mp h with h | h
    · have := fmax_ge ys (max x y) (max x y) List.mem_cons_self
      omega
    · rcases List.mem_cons.mp h with h | h
      · have := fmax_ge ys (max x y) (max x y) List.mem_cons_self
        omega
      · exact fmax_ge ys (max x y) z (List.mem_cons_of_mem _ h)
theorem fmin_le : ∀ (xs : List Int) (x z : Int), z ∈ x :: xs → xs.foldl min x ≤ z
  | [], x, z, h => by rw [List.mem_singleton.mp h]; exact Int.le_refl _
  | y :: ys, x, z, h => by
    rw [List.foldl_cons]
    rcases List.mem_cons.mp h with h | h
    · have := fmin_le ys (min x y) (min x y) List.mem_cons_self
      omega
    · rcases List.mem_cons.mp h with h | h
      · have := fmin_le ys (min x y) (min x y) List.mem_cons_self
        omega
      · exact fmin_le ys (min x y) z (List.mem_cons_of_mem _ h)
theorem mx_mem {l : List Int} (h : l ≠ []) : mx l ∈ l := by
  cases l with
  | nil => exact absurd rfl h
  | cons x xs => exact fmax_mem xs x
theorem mn_mem {l : List Int} (h : l ≠ []) : mn l ∈ l := by
  cases l with
  | nil => exact absurd rfl h
  | cons x xs => exact fmin_mem xs x
theorem le_mx {l : List Int} {z : Int} (h : z ∈ l) : z ≤ mx l := by
  cases l with
  | nil => cases h
  | cons x xs => exact fmax_ge xs x z h
theorem mn_le {l : List Int} {z : Int} (h : z ∈ l) : mn l ≤ z := by
  cases l with
  | nil => cases h
  | cons x xs => exact fmin_le xs x z h
theorem mx_eq {l : List Int} {z : Int} (h : z ∈ l) (h2 : ∀ y ∈ l, y ≤ z) : mx l = z := by
  have h3 : l ≠ [] := by intro e; rw [e] at h; cases h
  have := le_mx h
  have := h2 _ (mx_mem h3)
  omega
theorem mn_eq {l : List Int} {z : Int} (h : z ∈ l) (h2 : ∀ y ∈ l, z ≤ y) : mn l = z := by
  have h3 : l ≠ [] := by intro e; rw [e] at h; cases h
  have := mn_le h
  have := h2 _ (mn_mem h3)
  omega
def sp (l : List Int) : Int := mx l - mn l
def seg (cs : List Int) (a b : Nat) : List Int := (cs.drop a).take (b - a)
theorem sp_nonneg (l : List Int) : 0 ≤ sp l := by
  cases l with
  | nil => exact Int.le_refl _
  | cons x xs =>
    have h1 : x ≤ mx (x :: xs) := le_mx List.mem_cons_self
    have h2 : mn (x :: xs) ≤ x := mn_le List.mem_cons_self
    unfold sp
    omega
theorem sp_mono {l m : List Int} (h : l ≠ []) (hs : ∀ x ∈ l, x ∈ m) : sp l ≤ sp m := by
  have h1 := le_mx (hs _ (mx_mem h))
  have h2 := mn_le (hs _ (mn_mem h))
  unfold sp
  omega
theorem mem_seg {cs : List Int} {a b : Nat} {x : Int} : x ∈ seg cs a b ↔ ∃ i, a ≤ i ∧ i < b ∧ cs[i]? = some x := by
  unfold seg
  constructor
  · intro h
    obtain ⟨i, hi⟩ := List.mem_iff_getElem?.mp h
    rw [List.getElem?_take] at hi
    split at hi
    · rw [List.getElem?_drop] at hi
      exact ⟨a + i, by omega, by omega, hi⟩
    · cases hi
  · rintro ⟨i, h1, h2, h3⟩
    refine List.mem_iff_getElem?.mpr ⟨i - a, ?_⟩
    rw [List.getElem?_take, if_pos (by omega), List.getElem?_drop, show a + (i - a) = i by omega]
    exact h3
theorem seg_ne {cs : List Int} {a b : Nat} (h : a < b) (h2 : a < cs.length) : seg cs a b ≠ [] := by
  intro e
  have h3 : cs[a] ∈ seg cs a b := mem_seg.mpr ⟨a, Nat.le_refl _, h, List.getElem?_eq_getElem h2⟩
  rw [e] at h3
  cases h3
theorem seg_sub {cs : List Int} {a b c d : Nat} (h1 : c ≤ a) (h2 : b ≤ d) : ∀ x ∈ seg cs a b, x ∈ seg cs c d := by
  intro x hx
  obtain ⟨i, g1, g2, g3⟩ := mem_seg.mp hx
  exact mem_seg.mpr ⟨i, by omega, by omega, g3⟩
theorem sp_seg {cs : List Int} {a b c d : Nat} (h1 : c ≤ a) (h2 : b ≤ d) (h3 : a < b) (h4 : a < cs.length) : sp (seg cs a b) ≤ sp (seg cs c d) := sp_mono (seg_ne h3 h4) (seg_sub h1 h2)
theorem sp_one (cs : List Int) (a : Nat) : sp (seg cs a (a + 1)) = 0 := by
  unfold seg
  rw [show a + 1 - a = 1 by omega]
  cases cs.drop a with
  | nil => rfl
  | cons x xs =>
    show sp [x] = 0
    show x - x = 0
    omega
theorem sp_le9 {l : List Int} (h : ∀ x ∈ l, 0 ≤ x ∧ x ≤ 9) : sp l ≤ 9 := by
  cases l with
  | nil => decide
  | cons x xs =>
    have h1 := h _ (mx_mem (l := x :: xs) (by simp))
    have h2 := h _ (mn_mem (l := x :: xs) (by simp))
    unfold sp
    omega
theorem seg_dig {cs : List Int} (hd : ∀ c ∈ cs, 0 ≤ c ∧ c ≤ 9) (a b : Nat) : ∀ x ∈ seg cs a b, 0 ≤ x ∧ x ≤ 9 := by
  intro x hx
  exact hd x (List.mem_of_mem_drop (List.mem_of_mem_take hx))
/-! cuts -/
def prs : List Nat → Nat → List (Nat × Nat)
  | [], _ => []
  | [a], n => [(a, n)]
  | a :: b :: l, n => (a, b) :: prs (b :: l) n
theorem prs_zip : ∀ (c : List Nat) (n : Nat), c.zip (c.drop 1 ++ [n]) = prs c n
  | [], n => rfl
  | [a], n => rfl
  | a :: b :: l, n => by
    show (a, b) :: (b :: l).zip ((b :: l).drop 1 ++ [n]) = _
    rw [prs_zip (b :: l) n]
    rfl
theorem prs_ne {c : List Nat} {n : Nat} (h : c ≠ []) : prs c n ≠ [] := by
  match c, h with
  | [a], _ => simp [prs]
  | a :: b :: l, _ => simp [prs]
def isC (c : List Nat) (n : Nat) : Prop := c.head? = some 0 ∧ (∀ x ∈ c, x < n) ∧ c.Pairwise (· < ·)
instance (c : List Nat) (n : Nat) : Decidable (isC c n) := by unfold isC; infer_instance
def adj (R : Nat → Nat → Prop) : List Nat → Prop
  | a :: b :: l => R a b ∧ adj R (b :: l)
  | _ => True
theorem adj_iff (R : Nat → Nat → Prop) : ∀ c : List Nat, adj R c ↔ ∀ p ∈ c.zip (c.drop 1), R p.1 p.2
  | [] => by simp [adj]
  | [a] => by simp [adj]
  | a :: b :: l => by
    have h := adj_iff R (b :: l)
    show R a b ∧ adj R (b :: l) ↔ ∀ p ∈ (a, b) :: (b :: l).zip ((b :: l).drop 1), R p.1 p.2
    rw [h]
    constructor
    · rintro ⟨h1, h2⟩ p hp
      rcases List.mem_cons.mp hp with hp | hp
      · rw [hp]; exact h1
      · exact h2 p hp
    · intro h1
      exact ⟨h1 (a, b) List.mem_cons_self, fun p hp => h1 p (List.mem_cons_of_mem _ hp)⟩
theorem adj_take {R : Nat → Nat → Prop} : ∀ (c : List Nat) (k : Nat), adj R c → adj R (c.take k)
  | [], k, h => by cases k <;> exact trivial
  | [a], k, h => by cases k with
    | zero => exact trivial
    | succ k => rw [List.take_succ_cons, List.take_nil]; exact trivial
  | a :: b :: l, 0, h => trivial
  | a :: b :: l, 1, h => trivial
  | a :: b :: l, k + 2, h => ⟨h.1, adj_take (b :: l) (k + 1) h.2⟩
theorem adj_lt : ∀ c : List Nat, adj (· < ·) c ↔ c.Pairwise (· < ·)
  | [] => by simp [adj]
  | [a] => by simp [adj]
  | a :: b :: l => by
    show a < b ∧ adj (· < ·) (b :: l) ↔ _
    rw [adj_lt (b :: l), List.pairwise_cons (l := b :: l)]
    constructor
    · rintro ⟨h1, h2⟩
      refine ⟨fun x hx => ?_, h2⟩
      rcases List.mem_cons.mp hx with hx | hx
      · omega
      · have := (List.pairwise_cons.mp h2).1 x hx
        omega
    · rintro ⟨h1, h2⟩
      exact ⟨h1 b List.mem_cons_self, h2⟩
theorem prs_mem {n : Nat} : ∀ {c : List Nat}, c.Pairwise (· < ·) → (∀ x ∈ c, x < n) → ∀ p ∈ prs c n, p.1 < p.2 ∧ p.2 ≤ n ∧ p.1 ∈ c
  | [], _, _, p, hp => by cases hp
  | [a], _, h2, p, hp => by
    rw [List.mem_singleton.mp hp]
    exact ⟨h2 a List.mem_cons_self, Nat.le_refl _, List.mem_cons_self⟩
  | a :: b :: l, h1, h2, p, hp => by
    rcases List.mem_cons.mp hp with hp | hp
    · rw [hp]
      exact ⟨(List.pairwise_cons.mp h1).1 b List.mem_cons_self, Nat.le_of_lt (h2 b (by simp)), List.mem_cons_self⟩
    · have h := prs_mem (List.pairwise_cons.mp h1).2 (fun x hx => h2 x (List.mem_cons_of_mem _ hx)) p hp
      exact ⟨h.1, h.2.1, List.mem_cons_of_mem _ h.2.2⟩
/-! the greatest span of buckets -/
def spB (cs : List Int) (c : List Nat) : Int := mx ((prs c cs.length).map fun p => sp (seg cs p.1 p.2))
theorem spB_le {cs : List Int} {c : List Nat} {s : Int} (h : c ≠ []) (h2 : ∀ p ∈ prs c cs.length, sp (seg cs p.1 p.2) ≤ s) : spB cs c ≤ s := by
  have h3 := mx_mem (l := (prs c cs.length).map fun p => sp (seg cs p.1 p.2)) (by
    intro e
    exact prs_ne (n := cs.length) h (List.map_eq_nil_iff.mp e))
  obtain ⟨p, hp, e⟩ := List.mem_map.mp h3
  have := h2 p hp
  unfold spB
  omega
theorem le_spB {cs : List Int} {c : List Nat} {p : Nat × Nat} (h : p ∈ prs c cs.length) : sp (seg cs p.1 p.2) ≤ spB cs c := le_mx (List.mem_map.mpr ⟨p, h, rfl⟩)
theorem spB_nonneg (cs : List Int) (c : List Nat) : 0 ≤ spB cs c := by
  match h : prs c cs.length with
  | [] =>
    unfold spB
    rw [h]
    exact Int.le_refl _
  | p :: l =>
    have h1 := le_spB (cs := cs) (c := c) (p := p) (by rw [h]; exact List.mem_cons_self)
    have := sp_nonneg (seg cs p.1 p.2)
    omega
theorem spB_le9 {cs : List Int} (hd : ∀ c ∈ cs, 0 ≤ c ∧ c ≤ 9) {c : List Nat} (h : c ≠ []) : spB cs c ≤ 9 := spB_le h fun p _ => sp_le9 (seg_dig hd _ _)
/-! the walk of cuts -/
def gr (cs : List Int) (s : Int) : Nat → Nat → Nat → List Nat
  | l, v, 0 => [l]
  | l, v, k + 1 => if s < sp (seg cs l (v + 1)) then l :: gr cs s v (v + 1) k else gr cs s l (v + 1) k
def cw (cs : List Int) (s : Int) : List Nat := gr cs s 0 1 (cs.length - 1)
theorem gr_ok (cs : List Int) (s : Int) (h0 : 0 ≤ s) : ∀ (k l v : Nat), l < v → v + k = cs.length → sp (seg cs l v) ≤ s →
    ∃ t, gr cs s l v k = l :: t ∧ (∀ x ∈ t, v ≤ x ∧ x < cs.length) ∧ adj (fun a b => a < b ∧ s < sp (seg cs a (b + 1))) (gr cs s l v k) ∧ ∀ p ∈ prs (gr cs s l v k) cs.length, sp (seg cs p.1 p.2) ≤ s
  | 0, l, v, h1, h2, h3 => by
    refine ⟨[], rfl, (fun x hx => absurd hx (List.not_mem_nil)), trivial, fun p hp => ?_⟩
    rw [List.mem_singleton.mp hp]
    show sp (seg cs l cs.length) ≤ s
    rw [← h2]
    exact h3
  | k + 1, l, v, h1, h2, h3 => by
    by_cases h : s < sp (seg cs l (v + 1))
    · obtain ⟨t, e, g1, g2, g3⟩ := gr_ok cs s h0 k v (v + 1) (by omega) (by omega) (by rw [sp_one]; exact h0)
      have e1 : gr cs s l v (k + 1) = l :: gr cs s v (v + 1) k := by
        show (if _ then _ else _) = _
        rw [if_pos h]
      rw [e1]
      refine ⟨gr cs s v (v + 1) k, rfl, ?_, ?_, ?_⟩
      · intro x hx
        rw [e] at hx
        rcases List.mem_cons.mp hx with hx | hx
        · omega
        · have := g1 x hx
          omega
      · rw [e] at g2 ⊢
        exact ⟨⟨h1, h⟩, g2⟩
      · rw [e] at g3 ⊢
        intro p hp
        rcases List.mem_cons.mp hp with hp | hp
        · rw [hp]; exact h3
        · exact g3 p hp
    · obtain ⟨t, e, g1, g2, g3⟩ := gr_ok cs s h0 k l (v + 1) (by omega) (by omega) (by omega)
      have e1 : gr cs s l v (k + 1) = gr cs s l (v + 1) k := by
        show (if _ then _ else _) = _
        rw [if_neg h]
      rw [e1]
      exact ⟨t, e, fun x hx => by have := g1 x hx; omega, g2, g3⟩
theorem adj_imp {R Q : Nat → Nat → Prop} (h : ∀ a b, R a b → Q a b) : ∀ c : List Nat, adj R c → adj Q c
  | [], _ => trivial
  | [a], _ => trivial
  | a :: b :: l, g => ⟨h _ _ g.1, adj_imp h (b :: l) g.2⟩
theorem cw_cut {cs : List Int} {s : Int} (h0 : 0 ≤ s) (h1 : 1 ≤ cs.length) : isC (cw cs s) cs.length ∧ adj (fun a b => a < b ∧ s < sp (seg cs a (b + 1))) (cw cs s) ∧ spB cs (cw cs s) ≤ s := by
  obtain ⟨t, e, g1, g2, g3⟩ := gr_ok cs s h0 (cs.length - 1) 0 1 (by omega) (by omega) (by rw [sp_one]; exact h0)
  have e1 : cw cs s = 0 :: t := e
  refine ⟨⟨by rw [e1]; rfl, ?_, (adj_lt _).mp (adj_imp (fun a b h => h.1) _ g2)⟩, g2, spB_le (by rw [e1]; simp) g3⟩
  rw [e1]
  intro x hx
  rcases List.mem_cons.mp hx with hx | hx
  · omega
  · exact (g1 x hx).2
/-! no cuts within a span are fewer -/
theorem cover {n a b : Nat} : ∀ (c : List Nat) (p0 : Nat), p0 ≤ a → b < n → (∀ x ∈ p0 :: c, ¬ (a < x ∧ x ≤ b)) → ∃ p ∈ prs (p0 :: c) n, p.1 ≤ a ∧ b + 1 ≤ p.2
  | [], p0, h1, h2, h3 => ⟨(p0, n), List.mem_cons_self, h1, h2⟩
  | p1 :: c, p0, h1, h2, h3 => by
    by_cases h : p1 ≤ a
    · obtain ⟨p, hp, g1, g2⟩ := cover c p1 h h2 fun x hx => h3 x (List.mem_cons_of_mem _ hx)
      exact ⟨p, List.mem_cons_of_mem _ hp, g1, g2⟩
    · have := h3 p1 (by simp)
      exact ⟨(p0, p1), List.mem_cons_self, h1, by show b + 1 ≤ p1; omega⟩
theorem flt_len {c : List Nat} {a b : Nat} (h : ∃ x ∈ c, a < x ∧ x ≤ b) (hab : a ≤ b) : (c.filter fun x => decide (b < x)).length + 1 ≤ (c.filter fun x => decide (a < x)).length := by
  have mono : ∀ d : List Nat, (d.filter fun x => decide (b < x)).length ≤ (d.filter fun x => decide (a < x)).length := by
    intro d
    induction d with
    | nil => exact Nat.le_refl _
    | cons y d ih =>
      by_cases h1 : b < y
      · rw [List.filter_cons_of_pos (by simpa using h1), List.filter_cons_of_pos (by simp; omega)]
        simpa using ih
      · rw [List.filter_cons_of_neg (by simpa using h1)]
        by_cases h2 : a < y
        · rw [List.filter_cons_of_pos (by simpa using h2)]
          simp only [List.length_cons]
          omega
        · rw [List.filter_cons_of_neg (by simpa using h2)]
          exact ih
  obtain ⟨x, hx, h1, h2⟩ := h
  induction c with
  | nil => cases hx
  | cons y d ih =>
    rcases List.mem_cons.mp hx with e | hx
    · subst e
      have := mono d
      rw [List.filter_cons_of_neg (by simp; omega), List.filter_cons_of_pos (by simpa using h1)]
      simp only [List.length_cons]
      omega
    · have := ih hx
      by_cases h3 : b < y
      · rw [List.filter_cons_of_pos (by simpa using h3), List.filter_cons_of_pos (by simp; omega)]
        simp only [List.length_cons]
        omega
      · rw [List.filter_cons_of_neg (by simpa using h3)]
        by_cases h4 : a < y
        · rw [List.filter_cons_of_pos (by simpa using h4)]
          simp only [List.length_cons]
          omega
        · rw [List.filter_cons_of_neg (by simpa using h4)]
          exact this
theorem adj_count {c : List Nat} : ∀ (g : List Nat) (a : Nat), adj (fun a b => a < b ∧ ∃ x ∈ c, a < x ∧ x ≤ b) (a :: g) → g.length ≤ (c.filter fun x => decide (a < x)).length
  | [], a, _ => Nat.zero_le _
  | b :: g, a, h => by
    have h1 := adj_count g b h.2
    have h2 := flt_len h.1.2 (Nat.le_of_lt h.1.1)
    simp only [List.length_cons]
    omega
theorem adj_mem {R Q : Nat → Nat → Prop} : ∀ c : List Nat, (∀ a b, b ∈ c → R a b → Q a b) → adj R c → adj Q c
  | [], _, _ => trivial
  | [a], _, _ => trivial
  | a :: b :: l, h, g => ⟨h _ _ (by simp) g.1, adj_mem (b :: l) (fun x y hy => h x y (List.mem_cons_of_mem _ hy)) g.2⟩
theorem cw_least {cs : List Int} {s : Int} {c : List Nat} (h0 : 0 ≤ s) (h1 : 1 ≤ cs.length) (hc : isC c cs.length) (hs : spB cs c ≤ s) : (cw cs s).length ≤ c.length := by
  obtain ⟨⟨g1, g2, g3⟩, g4, g5⟩ := cw_cut h0 h1
  obtain ⟨c1, c2, c3⟩ := hc
  cases c with
  | nil => cases c1
  | cons z c =>
    have hz : z = 0 := by simpa using c1
    subst hz
    cases e : cw cs s with
    | nil => exact Nat.zero_le _
    | cons a g =>
      rw [e] at g1 g2 g4
      have ha : a = 0 := by simpa using g1
      subst ha
      have k : adj (fun a b => a < b ∧ ∃ x ∈ 0 :: c, a < x ∧ x ≤ b) (0 :: g) := by
        refine adj_mem (0 :: g) (fun a b hb hab => ⟨hab.1, ?_⟩) g4
        apply Classical.byContradiction
        intro hn
        obtain ⟨p, hp, q1, q2⟩ := cover (n := cs.length) (a := a) (b := b) c 0 (Nat.zero_le _) (g2 b hb) fun x hx hx2 => hn ⟨x, hx, hx2⟩
        have r1 := le_spB hp
        have r2 := sp_seg (cs := cs) q1 q2 (by omega) (by have := g2 b hb; omega)
        have := hab.2
        omega
      have := adj_count g 0 k
      rw [List.filter_cons_of_neg (by simp)] at this
      have := List.length_filter_le (fun x => decide (0 < x)) c
      simp only [List.length_cons]
      omega
/-! all cuts -/
def acF : Nat → List (List Nat)
  | 0 => [[0]]
  | v + 1 => acF v ++ (acF v).map (· ++ [v + 1])
theorem mem_acF : ∀ (v : Nat) (c : List Nat), c ∈ acF v ↔ isC c (v + 1)
  | 0, c => by
    show c ∈ [[0]] ↔ _
    rw [List.mem_singleton]
    constructor
    · intro e
      subst e
      exact ⟨rfl, by simp, by simp⟩
    · rintro ⟨h1, h2, h3⟩
      cases c with
      | nil => cases h1
      | cons a c =>
        have : a = 0 := by simpa using h1
        subst this
        cases c with
        | nil => rfl
        | cons b c =>
          have := h2 b (by simp)
          have := (List.pairwise_cons.mp h3).1 b (by simp)
          omega
  | v + 1, c => by
    show c ∈ acF v ++ (acF v).map (· ++ [v + 1]) ↔ _
    rw [List.mem_append, List.mem_map, mem_acF v c]
    constructor
    · rintro (⟨h1, h2, h3⟩ | ⟨d, hd, e⟩)
      · exact ⟨h1, fun x hx => by have := h2 x hx; omega, h3⟩
      · obtain ⟨h1, h2, h3⟩ := (mem_acF v d).mp hd
        subst e
        refine ⟨?_, ?_, ?_⟩
        · cases d with
          | nil => cases h1
          | cons a d => exact h1
        · intro x hx
          rcases List.mem_append.mp hx with hx | hx
          · have := h2 x hx; omega
          · have := List.mem_singleton.mp hx; omega
        · refine List.pairwise_append.mpr ⟨h3, by simp, fun a ha b hb => ?_⟩
          have := List.mem_singleton.mp hb
          have := h2 a ha
          omega
    · rintro ⟨h1, h2, h3⟩
      by_cases h : v + 1 ∈ c
      · right
        obtain ⟨d, t, e⟩ := List.append_of_mem h
        subst e
        obtain ⟨p1, p2, p3⟩ := List.pairwise_append.mp h3
        have ht : t = [] := by
          cases t with
          | nil => rfl
          | cons y t =>
            have := (List.pairwise_cons.mp p2).1 y (by simp)
            have := h2 y (by simp)
            omega
        subst ht
        refine ⟨d, (mem_acF v d).mpr ⟨?_, ?_, p1⟩, rfl⟩
        · cases d with
          | nil => simp at h1
          | cons a d => exact h1
        · intro x hx
          exact p3 x hx (v + 1) (by simp)
      · left
        refine ⟨h1, fun x hx => ?_, h3⟩
        have := h2 x hx
        have : x ≠ v + 1 := fun e => h (e ▸ hx)
        omega
theorem acF_one (v : Nat) : [0] ∈ acF v := (mem_acF v [0]).mpr ⟨rfl, by simp, by simp⟩
theorem acF_len : ∀ v : Nat, (acF v).length = 2 ^ v
  | 0 => rfl
  | v + 1 => by
    show (acF v ++ (acF v).map (· ++ [v + 1])).length = _
    rw [List.length_append, List.length_map, acF_len v, Nat.pow_succ]
    omega
end K22M
set_option Elab.async false
set_option linter.all false
set_option maxRecDepth 100000
set_option maxHeartbeats 1000000
/-! more of the evaluator's values, for every law -/
namespace PX
open PySem
/-! more values, for every law -/
def iN (l : List Nat) : List Int := l.map fun (k : Nat) => (k : Int)
@[simp] theorem iN_len (l : List Nat) : (iN l).length = l.length := List.length_map _
theorem iN_map (l : List Nat) : (iN l).map PV.int = l.map fun (k : Nat) => PV.int k := List.map_map
theorem iN_inj {a b : List Nat} : iN a = iN b ↔ a = b := by
  constructor
  · intro h
    exact (List.map_inj_right (f := fun (k : Nat) => (k : Int)) (fun {x y} (h : (x : Int) = (y : Int)) => by omega)).mp h
  · intro h; rw [h]
theorem iN_drop (l : List Nat) (k : Nat) : (iN l).drop k = iN (l.drop k) := List.map_drop.symm
theorem iN_take (l : List Nat) (k : Nat) : (iN l).take k = iN (l.take k) := List.map_take.symm
theorem iN_app (a b : List Nat) : iN a ++ iN b = iN (a ++ b) := List.map_append.symm
theorem ownOf_ins (tb : List (Nat × Nat)) (S : Store) (c : Nat) (ns : List Nat) (xs : List PV) : ownOf tb S (.ins c ns xs) = tb.lookup c := (rfl)
theorem oNe_int' (a b : Int) (S : Store) : oNe (.int a) (.int b) S = some (false, .bl (!decide (a = b))) := by
  unfold oNe
  rw [eqD_int]
  rfl
theorem oEq_int' (a b : Int) (S : Store) : oEq (.int a) (.int b) S = some (false, .bl (decide (a = b))) := by
  unfold oEq
  rw [eqD_int]
  rfl
theorem oEq_tup (a b : List Int) (S : Store) : oEq (.tup (a.map .int)) (.tup (b.map .int)) S = some (false, .bl (decide (a = b))) := by
  unfold oEq
  rw [eqD_tup]
  rfl
theorem oNe_tup (a b : List Int) (S : Store) : oNe (.tup (a.map .int)) (.tup (b.map .int)) S = some (false, .bl (!decide (a = b))) := by
  unfold oNe
  rw [eqD_tup]
  rfl
theorem oNe_lst (a b : List Int) (S : Store) : oNe (.lst (a.map .int)) (.lst (b.map .int)) S = some (false, .bl (!decide (a = b))) := by
  unfold oNe
  rw [eqD_lst]
  rfl
theorem oEq_tup0 (a : List Int) (S : Store) : oEq (.tup (a.map .int)) (.tup []) S = some (false, .bl (decide (a = []))) := oEq_tup a [] S
/-! a comprehension over any list at hand -/
theorem seq_val (a : SE) (env : Env) (S : Store) (b : Bool) (xs : List PV) (ha : a env S = .ok (b, .tup xs) S) : iSeq a env S = .ok (xs, []) S := by
  rw [q_seq, ha, R.bind_ok]
  rfl
theorem seq_valL (a : SE) (env : Env) (S : Store) (b : Bool) (xs : List PV) (ha : a env S = .ok (b, .lst xs) S) : iSeq a env S = .ok (xs, []) S := by
  rw [q_seq, ha, R.bind_ok]
  rfl
def itP : PV → Option (List PV)
  | .tup xs => some xs
  | .lst xs => some xs
  | _ => none
theorem lockS_it {v : PV} {xs : List PV} (h : itP v = some xs) (S : Store) : lockS v S = some (xs, [], S) := by
  cases v <;> first | (cases h; rfl) | cases h
theorem zip_it (a b : SE) (env : Env) (S : Store) (k k' : Bool) (v w : PV) (xs ys : List PV) (h1 : itP v = some xs) (h2 : itP w = some ys) (ha : a env S = .ok (k, v) S) (hb : b env S = .ok (k', w) S) : iZip a b env S = .ok (zipL xs ys, []) S := by
  rw [q_zip, ha, R.bind_ok, hb, R.bind_ok]
  simp only [lockS_it h1, lockS_it h2, List.append_nil]
theorem zipL_N : ∀ (a b : List Nat), zipL ((iN a).map .int) ((iN b).map .int) = (a.zip b).map fun p => PV.tup [.int (p.1 : Nat), .int (p.2 : Nat)]
  | [], b => rfl
  | x :: a, [] => rfl
  | x :: a, y :: b => by
    show PV.tup [.int x, .int y] :: zipL ((iN a).map .int) ((iN b).map .int) = _
    rw [zipL_N a b]
    rfl
theorem blsOf_map {α : Type} (f : α → Bool) (l : List α) : blsOf (l.map fun x => PV.bl (f x)) = some (l.map f) := by
  induction l with
  | nil => rfl
  | cons x l ih =>
    show (blsOf (l.map fun x => PV.bl (f x))).map (f x :: ·) = _
    rw [ih]
    rfl
theorem all_val {α : Type} (f : α → Bool) (l : List α) (S : Store) : bAll [.lst (l.map fun x => PV.bl (f x))] S = some (false, .bl (l.all f)) := by
  show (match blsOf (l.map fun x => PV.bl (f x)) with
    | some ns => some (false, PV.bl (ns.all id))
    | none => none) = _
  rw [blsOf_map]
  simp [List.all_map]
theorem any_val {α : Type} (f : α → Bool) (l : List α) (S : Store) : bAny [.lst (l.map fun x => PV.bl (f x))] S = some (false, .bl (l.any f)) := by
  show (match blsOf (l.map fun x => PV.bl (f x)) with
    | some ns => some (false, PV.bl (ns.any id))
    | none => none) = _
  rw [blsOf_map]
  simp [List.any_map]
theorem filter_yes {α : Type} (l : List α) : (l.filter fun _ => true) = l := List.filter_eq_self.mpr fun _ _ => rfl
/-! all([.. for x in ..]) -/
theorem all_lc {α : Type} {i : SI} {t : Tg} {vs : List Nat} {e : SE} {env : Env} {S : Store} (l : List α) (g : α → PV) (f : α → Bool) (en : α → Env) (hi : i env S = .ok (l.map g, []) S) (hl : l.length ≤ 100000)
    (ht : ∀ x ∈ l, t (g x) (wipeE env vs) S = some (en x)) (he : ∀ x ∈ l, ∃ b, e (en x) S = .ok (b, .bl (f x)) S) : eArg bAll (aCons (eLc i t vs tYesP e) aNil) env S = .ok (false, .bl (l.all f)) S := by
  have h := lc_val (c := tYesP) l g (fun x => .bl (f x)) (fun _ => true) en hi hl ht (fun x _ => rfl) (fun x hx _ => he x hx)
  rw [filter_yes] at h
  simp only [q_arg, q_cons, h, R.bind_ok, q_nil, all_val, q_ofO_some]
theorem any_lc {α : Type} {i : SI} {t : Tg} {vs : List Nat} {e : SE} {env : Env} {S : Store} (l : List α) (g : α → PV) (f : α → Bool) (en : α → Env) (hi : i env S = .ok (l.map g, []) S) (hl : l.length ≤ 100000)
    (ht : ∀ x ∈ l, t (g x) (wipeE env vs) S = some (en x)) (he : ∀ x ∈ l, ∃ b, e (en x) S = .ok (b, .bl (f x)) S) : eArg bAny (aCons (eLc i t vs tYesP e) aNil) env S = .ok (false, .bl (l.any f)) S := by
  have h := lc_val (c := tYesP) l g (fun x => .bl (f x)) (fun _ => true) en hi hl ht (fun x _ => rfl) (fun x hx _ => he x hx)
  rw [filter_yes] at h
  simp only [q_arg, q_cons, h, R.bind_ok, q_nil, any_val, q_ofO_some]
/-! calls of what leaves the store alone -/
theorem call1 {cf : CF} {f : Nat} {a : SE} {env : Env} {S : Store} {b : Bool} {v w : PV} (ha : a env S = .ok (b, v) S) (h : callV cf f [v] S = .ok (false, w) S) : eCall cf 1 f (aCons a aNil) env S = .ok (false, w) S := by
  rw [q_call, q_cons, ha, R.bind_ok, q_nil, R.bind_ok, R.bind_ok, if_pos (by rfl), h]
theorem call2 {cf : CF} {f : Nat} {a a2 : SE} {env : Env} {S : Store} {b b2 : Bool} {v v2 w : PV} (ha : a env S = .ok (b, v) S) (ha2 : a2 env S = .ok (b2, v2) S) (h : callV cf f [v, v2] S = .ok (false, w) S) : eCall cf 2 f (aCons a (aCons a2 aNil)) env S = .ok (false, w) S := by
  rw [q_call, q_cons, ha, R.bind_ok, q_cons, ha2, R.bind_ok, q_nil, R.bind_ok, R.bind_ok, R.bind_ok, if_pos (by rfl), h]
theorem call3 {cf : CF} {f : Nat} {a a2 a3 : SE} {env : Env} {S : Store} {b b2 b3 : Bool} {v v2 v3 w : PV} (ha : a env S = .ok (b, v) S) (ha2 : a2 env S = .ok (b2, v2) S) (ha3 : a3 env S = .ok (b3, v3) S) (h : callV cf f [v, v2, v3] S = .ok (false, w) S) : eCall cf 3 f (aCons a (aCons a2 (aCons a3 aNil))) env S = .ok (false, w) S := by
  rw [q_call, q_cons, ha, R.bind_ok, q_cons, ha2, R.bind_ok, q_cons, ha3, R.bind_ok, q_nil, R.bind_ok, R.bind_ok, R.bind_ok, R.bind_ok, if_pos (by rfl), h]
theorem call4 {cf : CF} {f : Nat} {a a2 a3 a4 : SE} {env : Env} {S : Store} {b b2 b3 b4 : Bool} {v v2 v3 v4 w : PV} (ha : a env S = .ok (b, v) S) (ha2 : a2 env S = .ok (b2, v2) S) (ha3 : a3 env S = .ok (b3, v3) S) (ha4 : a4 env S = .ok (b4, v4) S) (h : callV cf f [v, v2, v3, v4] S = .ok (false, w) S) : eCall cf 4 f (aCons a (aCons a2 (aCons a3 (aCons a4 aNil)))) env S = .ok (false, w) S := by
  rw [q_call, q_cons, ha, R.bind_ok, q_cons, ha2, R.bind_ok, q_cons, ha3, R.bind_ok, q_cons, ha4, R.bind_ok, q_nil, R.bind_ok, R.bind_ok, R.bind_ok, R.bind_ok, R.bind_ok, if_pos (by rfl), h]
theorem bin_val {o : Op2} {a b : SE} {env : Env} {S : Store} {k k' : Bool} {v w : PV} {z : Bool × PV} (ha : a env S = .ok (k, v) S) (hb : b env S = .ok (k', w) S) (h : o v w S = some z) : eBin o a b env S = .ok z S := by
  rw [q_bin, ha, R.bind_ok, hb, R.bind_ok, h]
  rfl
theorem sl_val {a : SE} {lo hi : SO} {env : Env} {S : Store} {k : Bool} {v : PV} {l u : Option Int} {z : Bool × PV} (ha : a env S = .ok (k, v) S) (h1 : lo env S = .ok l S) (h2 : hi env S = .ok u S) (h : slP l u v S = some z) : eSl a lo hi env S = .ok z S := by
  rw [q_sl, ha, R.bind_ok, h1, R.bind_ok, h2, R.bind_ok, h]
  rfl
theorem pso_val {a : SE} {env : Env} {S : Store} {k : Bool} {i : Int} (ha : a env S = .ok (k, .int i) S) : pSo a env S = .ok (some i) S := by
  rw [q_pso, ha, R.bind_ok]
theorem arg1_val {o : OpN} {a : SE} {env : Env} {S : Store} {k : Bool} {v : PV} {z : Bool × PV} (ha : a env S = .ok (k, v) S) (h : o [v] S = some z) : eArg o (aCons a aNil) env S = .ok z S := by
  rw [q_arg, q_cons, ha, R.bind_ok, q_nil, R.bind_ok, R.bind_ok, h]
  rfl
theorem ne_flat {cf : CF} {tb : List (Nat × Nat)} {tys : List TyN} {a b : SE} {env : Env} {S : Store} {k k' : Bool} {v w : PV} {z : Bool × PV} (ha : a env S = .ok (k, v) S) (hb : b env S = .ok (k', w) S) (ho : ownOf tb S v = none) (h : oNe v w S = some z) : eNe cf tb tys a b env S = .ok z S := by
  rw [q_ne, ha, R.bind_ok, hb, R.bind_ok, ho, h]
  rfl
theorem eq_flat {cf : CF} {tb : List (Nat × Nat)} {tys : List TyN} {a b : SE} {env : Env} {S : Store} {k k' : Bool} {v w : PV} {z : Bool × PV} (ha : a env S = .ok (k, v) S) (hb : b env S = .ok (k', w) S) (ho : ownOf tb S v = none) (h : oEq v w S = some z) : eEq cf tb tys a b env S = .ok z S := by
  rw [q_eq, ha, R.bind_ok, hb, R.bind_ok, ho, h]
  rfl
theorem len_flat {cf : CF} {tb : List (Nat × Nat)} {a : SE} {env : Env} {S : Store} {k : Bool} {v : PV} {z : Bool × PV} (ha : a env S = .ok (k, v) S) (ho : ownOf tb S v = none) (h : bLen [v] S = some z) : eLen cf tb a env S = .ok z S := by
  rw [q_len, ha, R.bind_ok, ho, h]
  rfl
theorem tbl_val {a : SE} {env : Env} {S : Store} {k b : Bool} (ha : a env S = .ok (k, .bl b) S) : tBl a env S = .ok b S := by
  rw [q_tbl, ha, R.bind_ok]
theorem ttru_bl {a : SE} {env : Env} {S : Store} {k b : Bool} (ha : a env S = .ok (k, .bl b) S) : tTru a env S = .ok b S := by
  rw [q_tru, ha, R.bind_ok]
  rfl
theorem tno_val {a : ST} {env : Env} {S : Store} {b : Bool} (ha : a env S = .ok b S) : tNo a env S = .ok (!b) S := by
  rw [q_tno, ha, R.bind_ok]
theorem sif_val {c : ST} {a b : SS} {env : Env} {S : Store} {t : Bool} (ha : c env S = .ok t S) : sIf c a b env S = if t = true then a env S else b env S := by
  rw [q_sif, ha, R.go_ok]
theorem sexp_val {a : SE} {env : Env} {S : Store} {z : Bool × PV} (ha : a env S = .ok z S) : sExp a env S = .nx env S := by
  rw [q_sexp, ha, R.go_ok]
theorem sret_val {a : SE} {env : Env} {S : Store} {k : Bool} {v : PV} (ha : a env S = .ok (k, v) S) : sRet a env S = .rt v S := by
  rw [q_sret, ha, R.go_ok]
theorem sasg_val {i : Nat} {a : SE} {env : Env} {S : Store} {k : Bool} {v : PV} (ha : a env S = .ok (k, v) S) : sAsg (gNm i) a env S = .nx (env.set i (some v)) S := by
  rw [q_sasg, ha, R.go_ok, q_gnm]
theorem tor_val {a b : ST} {env : Env} {S : Store} {x : Bool} (ha : a env S = .ok x S) : tOr a b env S = if x = true then .ok true S else b env S := by
  rw [q_tor, ha, R.bind_ok]
theorem tan_val {a b : ST} {env : Env} {S : Store} {x : Bool} (ha : a env S = .ok x S) : tAn a b env S = if x = true then b env S else .ok false S := by
  rw [q_tan, ha, R.bind_ok]
end PX
namespace PX
open PySem K22M
theorem small_nat {n : Nat} (h : n ≤ 1000000) : small n = true := Nat.ble_eq_true_of_le h
theorem okRg_small {j : Int} (h0 : 0 ≤ j) (h1 : j < 1000000) : okRg j = true := by
  unfold okRg
  rw [decide_eq_true (by omega), decide_eq_true (by omega)]
  rfl
theorem q_star (a : SE) (r : SA) (env : Env) (S : Store) : aStar a r env S = (a env S).bind fun p S1 => match itemsOf S1 p.2 with
  | some xs => (r env S1).bind fun q S2 => .ok (xs ++ q) S2
  | none => .no := (rfl)
theorem mx_lst (ns : List Int) (h : ns ≠ []) (S : Store) : bMaxL [.lst (ns.map .int)] S = some (false, .int (mx ns)) := by
  cases ns with
  | nil => exact absurd rfl h
  | cons x xs =>
    show (match intsOf ((x :: xs).map .int) with
      | some (n :: ns) => some (false, PV.int (ns.foldl max n))
      | _ => none) = _
    rw [intsOf_map]
    rfl
theorem mn_lst (ns : List Int) (h : ns ≠ []) (S : Store) : bMinL [.lst (ns.map .int)] S = some (false, .int (mn ns)) := by
  cases ns with
  | nil => exact absurd rfl h
  | cons x xs =>
    show (match intsOf ((x :: xs).map .int) with
      | some (n :: ns) => some (false, PV.int (ns.foldl min n))
      | _ => none) = _
    rw [intsOf_map]
    rfl
theorem mx_tup (ns : List Int) (h : ns ≠ []) (S : Store) : bMaxL [.tup (ns.map .int)] S = some (false, .int (mx ns)) := mx_lst ns h S
theorem mn_tup (ns : List Int) (h : ns ≠ []) (S : Store) : bMinL [.tup (ns.map .int)] S = some (false, .int (mn ns)) := mn_lst ns h S
/-! max([.. for ..]), min([.. for .. if ..]) of ints -/
theorem lc_int {α : Type} {i : SI} {t : Tg} {vs : List Nat} {c : ST} {e : SE} {env : Env} {S : Store} (l : List α) (g : α → PV) (f : α → Int) (p : α → Bool) (en : α → Env) (hi : i env S = .ok (l.map g, []) S) (hl : l.length ≤ 100000)
    (ht : ∀ x ∈ l, t (g x) (wipeE env vs) S = some (en x)) (hc : ∀ x ∈ l, c (en x) S = .ok (p x) S) (he : ∀ x ∈ l, p x = true → ∃ b, e (en x) S = .ok (b, .int (f x)) S) : eLc i t vs c e env S = .ok (true, .lst (((l.filter p).map f).map .int)) S := by
  rw [lc_val l g (fun x => .int (f x)) p en hi hl ht hc he, List.map_map]
  rfl
theorem max_lc {α : Type} {i : SI} {t : Tg} {vs : List Nat} {e : SE} {env : Env} {S : Store} (l : List α) (g : α → PV) (f : α → Int) (en : α → Env) (hn : l ≠ []) (hi : i env S = .ok (l.map g, []) S) (hl : l.length ≤ 100000)
    (ht : ∀ x ∈ l, t (g x) (wipeE env vs) S = some (en x)) (he : ∀ x ∈ l, ∃ b, e (en x) S = .ok (b, .int (f x)) S) : eArg bMaxL (aCons (eLc i t vs tYesP e) aNil) env S = .ok (false, .int (mx (l.map f))) S := by
  have h := lc_int (c := tYesP) l g f (fun _ => true) en hi hl ht (fun x _ => rfl) (fun x hx _ => he x hx)
  rw [filter_yes] at h
  exact arg1_val h (mx_lst _ (fun e => hn (List.map_eq_nil_iff.mp e)) S)
theorem min_lc {α : Type} {i : SI} {t : Tg} {vs : List Nat} {c : ST} {e : SE} {env : Env} {S : Store} (l : List α) (g : α → PV) (f : α → Int) (p : α → Bool) (en : α → Env) (hn : l.filter p ≠ []) (hi : i env S = .ok (l.map g, []) S) (hl : l.length ≤ 100000)
    (ht : ∀ x ∈ l, t (g x) (wipeE env vs) S = some (en x)) (hc : ∀ x ∈ l, c (en x) S = .ok (p x) S) (he : ∀ x ∈ l, p x = true → ∃ b, e (en x) S = .ok (b, .int (f x)) S) : eArg bMinL (aCons (eLc i t vs c e) aNil) env S = .ok (false, .int (mn ((l.filter p).map f))) S :=
  arg1_val (lc_int l g f p en hi hl ht hc he) (mn_lst _ (fun e => hn (List.map_eq_nil_iff.mp e)) S)
/-! a list of its own in the store -/
theorem at_last (S : Store) (x : PV) : (S ++ [x])[S.length]? = some x := by simp
theorem set_last (S : Store) (x y : PV) : (S ++ [x]).set S.length y = S ++ [y] := by
  rw [List.set_append_right _ _ (Nat.le_refl _), Nat.sub_self]
  rfl
theorem app_last (S : Store) (xs : List PV) (v : PV) (h : xs.length ≤ 100000) : appL S.length (.ref S.length) v (S ++ [.lst xs]) = some (S ++ [.lst (xs ++ [v])]) := by
  have hs : small xs.length = true := Nat.ble_eq_true_of_le (by omega)
  have hm : mayPut S.length S.length v = true := by
    show (Nat.ble S.length S.length || noref v) = true
    rw [Nat.ble_eq_true_of_le (Nat.le_refl _)]
    rfl
  show (match (S ++ [PV.lst xs])[S.length]? with
    | some (.lst ys) => if mayPut S.length S.length v && small ys.length then some ((S ++ [PV.lst xs]).set S.length (.lst (ys ++ [v]))) else none
    | _ => none) = _
  rw [at_last]
  simp only [hs, hm, Bool.and_self, if_true, set_last]
theorem norm_last (S : Store) (ns : List Int) : norm S.length (.ref S.length) (S ++ [.lst (ns.map .int)]) = .ok (true, .lst (ns.map .int)) S := by
  unfold norm
  rw [if_neg (by simp)]
  simp only [Nat.lt_irrefl, if_false, at_last]
  show (match (frzL (frz S.length S.length (S ++ [PV.lst (ns.map .int)]) 8) (ns.map .int)).map PV.lst with
    | some w => R.ok (true, w) ((S ++ [PV.lst (ns.map .int)]).take S.length)
    | none => .no) = _
  rw [frzL_ints]
  simp
theorem items_last (S : Store) (xs : List PV) : itemsOf (S ++ [.lst xs]) (.ref S.length) = some xs := by
  unfold itemsOf
  rw [d_ref, at_last]
  rfl
theorem isL_last (S : Store) (xs : List PV) : isL (S ++ [.lst xs]) (.ref S.length) = true := by
  unfold isL
  rw [d_ref, at_last]
  rfl
theorem own_last (tb : List (Nat × Nat)) (S : Store) (xs : List PV) : ownOf tb (S ++ [.lst xs]) (.ref S.length) = none := by
  unfold ownOf
  rw [d_ref, at_last]
  rfl
theorem dIx_last (S : Store) (xs : List PV) (y : PV) : dIx (.ref S.length) y (S ++ [.lst xs]) = none := by
  unfold dIx
  rw [d_ref, at_last]
  rfl
/-! the last of a list -/
theorem ix_end {v : PV} {S : Store} {xs : List PV} {x : PV} (h : itemsOf S v = some (xs ++ [x])) : oIx v (.int (-1)) S = some (false, x) := by
  have e2 : ixP (xs ++ [x]).length (-1) = some xs.length := by
    unfold ixP
    rw [if_neg (by omega), List.length_append, List.length_singleton, if_pos (by omega)]
    congr 1
    omega
  have e3 : (xs ++ [x])[xs.length]? = some x := by simp
  unfold oIx
  simp only [h, e2, e3]
theorem ix_val {cf : CF} {tb : List (Nat × Nat)} {a b : SE} {env : Env} {S : Store} {k k' : Bool} {v w : PV} {z : Bool × PV} (ha : a env S = .ok (k, v) S) (hb : b env S = .ok (k', w) S) (ho : ownOf tb S v = none) (hd : dIx v w S = none) (h : oIx v w S = some z) : eIx cf tb a b env S = .ok z S := by
  rw [q_ix, ha, R.bind_ok, hb, R.bind_ok, ho, hd, h]
  rfl
theorem neg_val {a : SE} {env : Env} {S : Store} {k : Bool} {i : Int} (ha : a env S = .ok (k, .int i) S) : eUn oNeg a env S = .ok (false, .int (-i)) S := by
  rw [q_un, ha, R.bind_ok]
  rfl
theorem rg2_val {a b : SE} {env : Env} {S : Store} {k k' : Bool} {i j : Int} (ha : a env S = .ok (k, .int i) S) (hb : b env S = .ok (k', .int j) S) (h1 : 0 ≤ i) (h2 : i < 1000000) (h3 : 0 ≤ j) (h4 : j < 1000000) : iRg2 a b env S = .ok (rngL i (j - i).toNat, []) S := by
  show ((a env S).bind fun p S1 => (b env S1).bind fun q S2 => match p.2, q.2 with
    | .int i, .int j => if okRg i && okRg j then R.ok (rngL i (j - i).toNat, []) S2 else .no
    | _, _ => .no) = _
  rw [ha, R.bind_ok, hb, R.bind_ok]
  simp only [okRg_small h1 h2, okRg_small h3 h4, Bool.and_self, if_true]
theorem if_ok {α : Type} {b : Bool} {x y : α} : (if b = true then x else y) = bif b then x else y := by cases b <;> rfl
end PX
namespace PX
open PySem
theorem ix_first {v : PV} {S : Store} {xs : List PV} {x : PV} (h : itemsOf S v = some (x :: xs)) : oIx v (.int 0) S = some (false, x) := by
  have e2 : ixP (x :: xs).length 0 = some 0 := by
    unfold ixP
    rw [if_pos (Int.le_refl 0), if_pos (by simp only [List.length_cons]; omega)]
    rfl
  unfold oIx
  simp only [h, e2, List.getElem?_cons_zero]
end PX
namespace PX
open PySem
theorem frzL_tups (n0 t : Nat) (S : Store) (k : Nat) : ∀ xss : List (List Int), frzL (frz n0 t S (k + 2)) (xss.map fun (xs : List Int) => PV.tup (xs.map .int)) = some (xss.map fun (xs : List Int) => PV.tup (xs.map .int))
  | [] => rfl
  | xs :: xss => by
    show (match (frzL (frz n0 t S (k + 1)) (xs.map .int)).map PV.tup with
      | some w => match frzL (frz n0 t S (k + 2)) (xss.map fun (xs : List Int) => PV.tup (xs.map .int)) with
        | some ws => some (w :: ws)
        | none => none
      | none => none) = _
    rw [frzL_ints, frzL_tups n0 t S k xss]
    rfl
/-! a new instance of tuples -/
theorem norm_ins (S : Store) (c : Nat) (ns : List Nat) (xss : List (List Int)) : norm S.length (.ref S.length) (S ++ [.ins c ns (xss.map fun (xs : List Int) => PV.tup (xs.map .int))]) = .ok (true, .ins c ns (xss.map fun (xs : List Int) => PV.tup (xs.map .int))) S := by
  unfold norm
  rw [if_neg (by simp)]
  simp only [Nat.lt_irrefl, if_false, at_last]
  show (match (frzL (frz S.length S.length (S ++ [PV.ins c ns (xss.map fun (xs : List Int) => PV.tup (xs.map .int))]) 8) (xss.map fun (xs : List Int) => PV.tup (xs.map .int))).map (PV.ins c ns) with
    | some w => R.ok (true, w) ((S ++ [PV.ins c ns (xss.map fun (xs : List Int) => PV.tup (xs.map .int))]).take S.length)
    | none => .no) = _
  rw [frzL_tups]
  simp
theorem fld_last {n0 : Nat} {cs : List Nat} {f : Nat} {o e : SE} {env : Env} {S : Store} {k k' : Bool} {c : Nat} {ns : List Nat} {vs : List PV} {w : PV} (hn : n0 = S.length) (he : e env (S ++ [.ins c ns vs]) = .ok (k, w) (S ++ [.ins c ns vs])) (ho : o env (S ++ [.ins c ns vs]) = .ok (k', .ref S.length) (S ++ [.ins c ns vs])) (hc : cs.contains c = true) (hl : Nat.ble ns.length 100 = true) :
    sFld n0 cs f o e env (S ++ [.ins c ns vs]) = .nx env (S ++ [.ins c (putFld f w ns vs).1 (putFld f w ns vs).2]) := by
  subst hn
  have hm : mayPut S.length S.length w = true := by
    show (Nat.ble S.length S.length || noref w) = true
    rw [Nat.ble_eq_true_of_le (Nat.le_refl _)]
    rfl
  show ((e env (S ++ [.ins c ns vs])).go fun p S1 => (o env S1).go fun q S2 => match q.2 with
    | .ref i => match S2[i]? with
      | some (.ins c ns vs) => if cs.contains c && mayPut S.length i p.2 && Nat.ble ns.length 100 then RS.nx env (S2.set i (.ins c (putFld f p.2 ns vs).1 (putFld f p.2 ns vs).2)) else .no
      | _ => .no
    | _ => .no) = _
  rw [he, R.go_ok, ho, R.go_ok]
  simp only [at_last, hc, hm, hl, Bool.and_self, if_true, set_last]
theorem q_whl (c : ST) (b : SS) (n : Nat) (env : Env) (S : Store) : whileR c b (n + 1) env S = (c env S).go fun t S1 => if t = true then
      match b env S1 with
      | .nx e S' => whileR c b n e S'
      | .ct e S' => whileR c b n e S'
      | .bk e S' => .nx e S'
      | z => z
    else .nx env S1 := (rfl)
theorem tup2_val {a b : SE} {env : Env} {S : Store} {k k' : Bool} {v w : PV} (ha : a env S = .ok (k, v) S) (hb : b env S = .ok (k', w) S) : eTup (aCons a (aCons b aNil)) env S = .ok (false, .tup [v, w]) S := by
  rw [q_tup, q_cons, ha, R.bind_ok, q_cons, hb, R.bind_ok, q_nil, R.bind_ok, R.bind_ok, R.bind_ok]
  rfl
end PX
namespace PX
open PySem
@[simp] theorem q_meth (cf : CF) (np m : Nat) (T : List (Nat × Nat)) (o : SE) (a : SA) (env : Env) (S : Store) : eMeth cf np m T o a env S = (o env S).bind fun p S0 => match methOf m T S0 p.2 with
  | some f => (a env S0).bind fun args S1 => if args.length + 1 = np then callV cf f (p.2 :: args) S1 else .no
  | none => .no := (rfl)
theorem methN {cf : CF} {m f : Nat} {T : List (Nat × Nat)} {o : SE} {a : SA} {env : Env} {S : Store} {v : PV} {vs : List PV} {b : Bool} {z : Bool × PV} {np : Nat} (ho : o env S = .ok (b, v) S) (hm : methOf m T S v = some f) (ha : a env S = .ok vs S) (hl : vs.length + 1 = np) (hc : callV cf f (v :: vs) S = .ok z S) : eMeth cf np m T o a env S = .ok z S := by
  rw [q_meth, ho, R.bind_ok]
  simp only [hm, ha, R.bind_ok, hl, if_true, hc]
theorem args2 {a b : SE} {env : Env} {S : Store} {k k' : Bool} {v w : PV} (ha : a env S = .ok (k, v) S) (hb : b env S = .ok (k', w) S) : aCons a (aCons b aNil) env S = .ok [v, w] S := by
  rw [q_cons, ha, R.bind_ok, q_cons, hb, R.bind_ok, q_nil, R.bind_ok, R.bind_ok]
theorem args1 {a : SE} {env : Env} {S : Store} {k : Bool} {v : PV} (ha : a env S = .ok (k, v) S) : aCons a aNil env S = .ok [v] S := by
  rw [q_cons, ha, R.bind_ok, q_nil, R.bind_ok]
theorem zipN (a b : SE) (env : Env) (S : Store) (k k' : Bool) (xs ys : List Nat) (ha : a env S = .ok (k, .tup ((iN xs).map .int)) S) (hb : b env S = .ok (k', .tup ((iN ys).map .int)) S) : iZip a b env S = .ok ((xs.zip ys).map fun p => PV.tup [.int (p.1 : Nat), .int (p.2 : Nat)], []) S := by
  rw [zip_it a b _ S k k' _ _ _ _ rfl rfl ha hb, zipL_N]
theorem ean_bl {a b : SE} {env : Env} {S : Store} {k x y : Bool} (ha : a env S = .ok (k, .bl x) S) (hb : x = true → ∃ k', b env S = .ok (k', .bl y) S) : ∃ k', eAn a b env S = .ok (k', .bl (x && y)) S := by
  rw [q_ean, ha, R.bind_ok]
  cases x with
  | false => exact ⟨false, rfl⟩
  | true =>
    obtain ⟨k', h⟩ := hb rfl
    exact ⟨k', h⟩
theorem toDL_tups (S : Store) (k : Nat) : ∀ xss : List (List Int), toDL (toD S (k + 2)) (xss.map fun (xs : List Int) => PV.tup (xs.map .int)) = some (xss.map fun (xs : List Int) => PyData.tuple (xs.map .int))
  | [] => rfl
  | xs :: xss => by
    show (match toD S (k + 2) (.tup (xs.map .int)) with
      | some d => match toDL (toD S (k + 2)) (xss.map fun (xs : List Int) => PV.tup (xs.map .int)) with
        | some ds => some (d :: ds)
        | none => none
      | none => none) = _
    rw [toD_tup, toDL_tups S k xss]
    rfl
theorem mem_tups (S : Store) (c : List Int) (xss : List (List Int)) : oNotIn (.tup (c.map .int)) (.lst (xss.map fun (xs : List Int) => PV.tup (xs.map .int))) S = some (false, .bl (!decide (c ∈ xss))) := by
  have e1 : toD S 6 (.tup (c.map .int)) = some (.tuple (c.map .int)) := toD_tup S 4 c
  have e2 : toD S 6 (.lst (xss.map fun (xs : List Int) => PV.tup (xs.map .int))) = some (.list (xss.map fun (xs : List Int) => PyData.tuple (xs.map .int))) := by
    show (toDL (toD S 5) (xss.map fun (xs : List Int) => PV.tup (xs.map .int))).map PyData.list = _
    rw [toDL_tups S 3 xss]
    rfl
  have e3 : memP S (.tup (c.map .int)) (.lst (xss.map fun (xs : List Int) => PV.tup (xs.map .int))) = some ((xss.map fun (xs : List Int) => PyData.tuple (xs.map .int)).any fun z => PyData.eqv z (.tuple (c.map .int))) := by
    show (match toD S 6 (.tup (c.map .int)) with
      | some d => match toD S 6 (.lst (xss.map fun (xs : List Int) => PV.tup (xs.map .int))) with
        | some (.list ds) => some (ds.any fun z => PyData.eqv z d)
        | some (.tuple ds) => some (ds.any fun z => PyData.eqv z d)
        | _ => none
      | none => none) = _
    rw [e1, e2]
  have e4 : ((xss.map fun (xs : List Int) => PyData.tuple (xs.map .int)).any fun z => PyData.eqv z (.tuple (c.map .int))) = decide (c ∈ xss) := by
    induction xss with
    | nil => rfl
    | cons y ys ih =>
      have ih' : (ys.map fun (xs : List Int) => PyData.tuple (xs.map .int)).any (fun z => PyData.eqv z (.tuple (c.map .int))) = decide (c ∈ ys) := ih (by
        show (toDL (toD S 5) (ys.map fun (xs : List Int) => PV.tup (xs.map .int))).map PyData.list = _
        rw [toDL_tups S 3 ys]
        rfl) (by
        show (match toD S 6 (.tup (c.map .int)) with
          | some d => match toD S 6 (.lst (ys.map fun (xs : List Int) => PV.tup (xs.map .int))) with
            | some (.list ds) => some (ds.any fun z => PyData.eqv z d)
            | some (.tuple ds) => some (ds.any fun z => PyData.eqv z d)
            | _ => none
          | none => none) = _
        rw [e1]
        show (match (toDL (toD S 5) (ys.map fun (xs : List Int) => PV.tup (xs.map .int))).map PyData.list with
            | some (.list ds) => some (ds.any fun z => PyData.eqv z (.tuple (c.map .int)))
            | some (.tuple ds) => some (ds.any fun z => PyData.eqv z (.tuple (c.map .int)))
            | _ => none) = _
        rw [toDL_tups S 3 ys]
        rfl)
      rw [List.map_cons, List.any_cons, ih']
      show (PyData.eqvAll (y.map .int) (c.map .int) || _) = _
      rw [eqv_ints]
      by_cases h : c = y
      · simp [h]
      · have h' : ¬ y = c := fun z => h z.symm
        simp [h, h']
  unfold oNotIn
  rw [e3, e4]
  rfl
theorem cat_tup (a b : List Int) (S : Store) (h : a.length + b.length ≤ 1000000) : oCat (.tup (a.map .int)) (.tup (b.map .int)) S = some (false, .tup ((a ++ b).map .int)) := by
  show (if small ((a.map PV.int).length + (b.map PV.int).length) then some (false, PV.tup (a.map .int ++ b.map .int)) else none) = _
  rw [small_nat (by rw [List.length_map, List.length_map]; exact h), if_pos rfl, List.map_append]
theorem cat_lst (a b : List PV) (S : Store) (h : a.length + b.length ≤ 1000000) : oCat (.lst a) (.lst b) S = some (true, .lst (a ++ b)) := by
  show (if small (a.length + b.length) then some (true, PV.lst (a ++ b)) else none) = _
  rw [small_nat h, if_pos rfl]
end PX
namespace PX
open PySem
theorem toD_deref {S : Store} {k : Nat} {v w : PV} (h : deref S v = deref S w) : toD S (k + 1) v = toD S (k + 1) w := by
  simp only [toD, h]
theorem ne_last (S : Store) (acc : List Int) : oNe (.ref S.length) (.lst []) (S ++ [.lst (acc.map .int)]) = some (false, .bl (!decide (acc = []))) := by
  have e : toD (S ++ [.lst (acc.map .int)]) 6 (.ref S.length) = some (.list (acc.map .int)) := by
    rw [toD_deref (w := .lst (acc.map .int)) (by rw [d_ref, at_last]; rfl)]
    exact toD_lst _ 4 acc
  unfold oNe eqD
  rw [e, show toD (S ++ [.lst (acc.map .int)]) 6 (.lst []) = some (.list (([] : List Int).map .int)) from toD_lst _ 4 []]
  show some (false, PV.bl (!(PyData.eqvAll (acc.map .int) (([] : List Int).map .int)))) = _
  rw [eqv_ints]
theorem eif_val {c : ST} {a b : SE} {env : Env} {S : Store} {t : Bool} (ha : c env S = .ok t S) : eIf c a b env S = if t = true then a env S else b env S := by
  rw [q_if, ha, R.bind_ok]
theorem rg1_n {a : SE} {env : Env} {S : Store} {k : Bool} {j : Int} (ha : a env S = .ok (k, .int j) S) (h1 : 0 ≤ j) (h2 : j < 1000000) : iRg1 a env S = .ok (rngL 0 j.toNat, []) S := by
  rw [q_rg1, ha, R.bind_ok]
  simp only [okRg_small h1 h2, if_true]
end PX
namespace PX
open PySem
theorem okc {α : Type} {a b : α} (h : a = b) (S : Store) : R.ok a S = R.ok b S := by rw [h]
theorem eno_bl {a : SE} {env : Env} {S : Store} {k x : Bool} (ha : a env S = .ok (k, .bl x) S) : eNot a env S = .ok (false, .bl (!x)) S := by
  rw [q_not, ha, R.bind_ok]
  rfl
theorem ch_val {o o' : Op2} {a b c : SE} {env : Env} {S : Store} {k1 k2 k3 x : Bool} {u v w : PV} {y : Bool} (ha : a env S = .ok (k1, u) S) (hb : b env S = .ok (k2, v) S) (hc : c env S = .ok (k3, w) S) (h1 : o u v S = some (false, .bl x)) (h2 : o' v w S = some (false, .bl y)) : eCh o o' a b c env S = .ok (false, .bl (x && y)) S := by
  rw [q_ch, ha, R.bind_ok, hb, R.bind_ok, h1]
  cases x with
  | false => rfl
  | true =>
    simp only
    rw [hc, R.bind_ok, h2]
    rfl
end PX
namespace PX
open PySem
theorem toD_ref0 (xs : List Int) : toD [.lst (xs.map .int)] 6 (.ref 0) = some (.list (xs.map .int)) := by
  exact (toD_deref (k := 5) (v := .ref 0) (w := .lst (xs.map .int)) rfl).trans (toD_lst _ 4 xs)
theorem ne_lst_ref (a b : List Int) : oNe (.lst (a.map .int)) (.ref 0) [.lst (b.map .int)] = some (false, .bl (!decide (a = b))) := by
  unfold oNe eqD
  rw [toD_ref0, toD_lst _ 4 a]
  show some (false, PV.bl (!(PyData.eqvAll (a.map .int) (b.map .int)))) = _
  rw [eqv_ints]
theorem oIx_at {v : PV} {S : Store} {xs : List PV} {x : PV} {i : Nat} (h : itemsOf S v = some xs) (hx : xs[i]? = some x) : oIx v (.int i) S = some (false, x) := by
  obtain ⟨hl, _⟩ := List.getElem?_eq_some_iff.mp hx
  have e2 : ixP xs.length (i : Int) = some i := by
    unfold ixP
    rw [if_pos (by omega), if_pos (by omega), Int.toNat_natCast]
  unfold oIx
  simp only [h, e2, hx]
theorem lst1_val {a : SE} {env : Env} {S : Store} {k : Bool} {v : PV} (ha : a env S = .ok (k, v) S) : eLst (aCons a aNil) env S = .ok (true, .lst [v]) S := by
  rw [q_lst, q_cons, ha, R.bind_ok, q_nil, R.bind_ok, R.bind_ok]
  rfl
theorem tuple_lst (ns : List Int) (S : Store) : bTuple [.lst (ns.map .int)] S = some (false, .tup (ns.map .int)) := rfl
theorem list_tup (ns : List Int) (S : Store) : bList [.tup (ns.map .int)] S = some (true, .lst (ns.map .int)) := rfl
end PX
namespace PX
open PySem
theorem callz1 {cf : CF} {f : Nat} {a : SE} {env : Env} {S : Store} {b : Bool} {v : PV} {z : Bool × PV} (ha : a env S = .ok (b, v) S) (h : callV cf f [v] S = .ok z S) : eCall cf 1 f (aCons a aNil) env S = .ok z S := by
  rw [q_call, q_cons, ha, R.bind_ok, q_nil, R.bind_ok, R.bind_ok, if_pos (by rfl), h]
theorem callz3 {cf : CF} {f : Nat} {a a2 a3 : SE} {env : Env} {S : Store} {b b2 b3 : Bool} {v v2 v3 : PV} {z : Bool × PV} (ha : a env S = .ok (b, v) S) (ha2 : a2 env S = .ok (b2, v2) S) (ha3 : a3 env S = .ok (b3, v3) S) (h : callV cf f [v, v2, v3] S = .ok z S) : eCall cf 3 f (aCons a (aCons a2 (aCons a3 aNil))) env S = .ok z S := by
  rw [q_call, q_cons, ha, R.bind_ok, q_cons, ha2, R.bind_ok, q_cons, ha3, R.bind_ok, q_nil, R.bind_ok, R.bind_ok, R.bind_ok, R.bind_ok, if_pos (by rfl), h]
end PX
set_option Elab.async false
set_option linter.all false
set_option maxRecDepth 100000
set_option maxHeartbeats 1000000
/-! still more of the evaluator's values (out of the texts of k03), for every law -/
namespace PX
open PySem K22M
theorem zipL_gen {α β : Type} (f : α → PV) (g : β → PV) : ∀ (a : List α) (b : List β), zipL (a.map f) (b.map g) = (a.zip b).map fun p => PV.tup [f p.1, g p.2]
  | [], b => rfl
  | x :: a, [] => rfl
  | x :: a, y :: b => by
    show PV.tup [f x, g y] :: zipL (a.map f) (b.map g) = _
    rw [zipL_gen f g a b]
    rfl
theorem pair0 (x y : PV) (S : Store) : oIx (.tup [x, y]) (.int 0) S = some (false, x) := rfl
theorem pair1 (x y : PV) (S : Store) : oIx (.tup [x, y]) (.int 1) S = some (false, y) := rfl
def flatT : PV → Bool
  | .int _ => true
  | .tup xs => xs.all fun x => match x with
    | .int _ => true
    | _ => false
  | _ => false
theorem norm_insV (S : Store) (c : Nat) (ns : List Nat) (vs : List PV) (h : frzL (frz S.length S.length (S ++ [.ins c ns vs]) 8) vs = some vs) : norm S.length (.ref S.length) (S ++ [.ins c ns vs]) = .ok (true, .ins c ns vs) S := by
  unfold norm
  rw [if_neg (by simp)]
  simp only [Nat.lt_irrefl, if_false, at_last]
  show (match (frzL (frz S.length S.length (S ++ [PV.ins c ns vs]) 8) vs).map (PV.ins c ns) with
    | some w => R.ok (true, w) ((S ++ [PV.ins c ns vs]).take S.length)
    | none => .no) = _
  rw [h]
  simp
theorem args4 {a b c d : SE} {env : Env} {S : Store} {k1 k2 k3 k4 : Bool} {v w x y : PV} (ha : a env S = .ok (k1, v) S) (hb : b env S = .ok (k2, w) S) (hc : c env S = .ok (k3, x) S) (hd : d env S = .ok (k4, y) S) : aCons a (aCons b (aCons c (aCons d aNil))) env S = .ok [v, w, x, y] S := by
  rw [q_cons, ha, R.bind_ok, q_cons, hb, R.bind_ok, q_cons, hc, R.bind_ok, q_cons, hd, R.bind_ok, q_nil, R.bind_ok, R.bind_ok, R.bind_ok, R.bind_ok]
theorem args3 {a b c : SE} {env : Env} {S : Store} {k1 k2 k3 : Bool} {v w x : PV} (ha : a env S = .ok (k1, v) S) (hb : b env S = .ok (k2, w) S) (hc : c env S = .ok (k3, x) S) : aCons a (aCons b (aCons c aNil)) env S = .ok [v, w, x] S := by
  rw [q_cons, ha, R.bind_ok, q_cons, hb, R.bind_ok, q_cons, hc, R.bind_ok, q_nil, R.bind_ok, R.bind_ok, R.bind_ok]
theorem tup_val {a : SA} {env : Env} {S : Store} {vs : List PV} (ha : a env S = .ok vs S) (h : vs.length ≤ 1000000) : eTup a env S = .ok (false, .tup vs) S := by
  rw [q_tup, ha, R.bind_ok, small_nat h, if_pos rfl]
theorem frzL_c {f : PV → Option PV} {v w : PV} {vs ws : List PV} (h1 : f v = some w) (h2 : frzL f vs = some ws) : frzL f (v :: vs) = some (w :: ws) := by
  simp only [frzL, h1, h2]
theorem frz_tupi (n0 t : Nat) (S : Store) (k : Nat) (ns : List Int) : frz n0 t S (k + 2) (.tup (ns.map .int)) = some (.tup (ns.map .int)) := by
  show (frzL (frz n0 t S (k + 1)) (ns.map .int)).map PV.tup = _
  rw [frzL_ints]
  rfl
theorem toDL_c {f : PV → Option PyData} {v : PV} {w : PyData} {vs : List PV} {ws : List PyData} (h1 : f v = some w) (h2 : toDL f vs = some ws) : toDL f (v :: vs) = some (w :: ws) := by
  simp only [toDL, h1, h2]
theorem meth0 {cf : CF} {m f : Nat} {T : List (Nat × Nat)} {o : SE} {env : Env} {S : Store} {v : PV} {b : Bool} {z : Bool × PV} (ho : o env S = .ok (b, v) S) (hm : methOf m T S v = some f) (hc : callV cf f [v] S = .ok z S) : eMeth cf 1 m T o aNil env S = .ok z S := methN ho hm rfl rfl hc
theorem call_at {T : Nat → Option FnB} {n f : Nat} {b : FnB} {args : List PV} {n0 : Nat} {S : Store} (env : Env) (h : T f = some b) (hl : args.length = b.np) (he : args.map some ++ List.replicate (b.nl - b.np) none = env) : callF T (n + 1) f args n0 S = fin (b.body (callF T n) n0 env S) := by
  rw [call_succ h hl, he]
end PX
namespace PX
open PySem K22M
theorem arg2_val {o : OpN} {a b : SE} {env : Env} {S : Store} {k k' : Bool} {v w : PV} {z : Bool × PV} (ha : a env S = .ok (k, v) S) (hb : b env S = .ok (k', w) S) (h : o [v, w] S = some z) : eArg o (aCons a (aCons b aNil)) env S = .ok z S := by
  rw [q_arg, args2 ha hb, R.bind_ok, h]
  rfl
theorem anyP_int (x : Int) : ∀ ns : List Int, anyP (.int x) (ns.map .int) = decide (x ∈ ns)
  | [] => by simp [anyP]
  | n :: ns => by
    show ((n == x) || anyP (.int x) (ns.map .int)) = _
    rw [anyP_int x ns]
    by_cases h : n = x
    · simp [h]
    · have h' : ¬ x = n := fun z => h z.symm
      simp [h, h']
theorem flatsP_int : ∀ ns : List Int, flatsP (ns.map .int) = true
  | [] => rfl
  | n :: ns => by
    show (true && flatsP (ns.map .int)) = true
    rw [flatsP_int ns]
    rfl
theorem in_tup (x : Int) (ns : List Int) (S : Store) : oIn (.int x) (.tup (ns.map .int)) S = some (false, .bl (decide (x ∈ ns))) := by
  have : memP S (.int x) (.tup (ns.map .int)) = some (decide (x ∈ ns)) := by
    show (if flatP (.int x) && flatsP (ns.map .int) then some (anyP (.int x) (ns.map .int)) else _) = _
    rw [flatsP_int, if_pos (by rfl), anyP_int]
  unfold oIn
  rw [this]
  rfl
theorem norm_flat (S : Store) (x v : PV) (hr : ∀ i, v ≠ .ref i) (h : frz S.length (S ++ [x]).length (S ++ [x]) 8 v = some v) : norm S.length v (S ++ [x]) = .ok (false, v) S := by
  unfold norm
  rw [if_neg (by simp)]
  cases v with
  | ref i => exact absurd rfl (hr i)
  | _ =>
    simp only [h]
    simp
theorem q_augI (op gt : Op2) (f : PV → PV → PV → Store → Option Store) (o k e : SE) (env : Env) (S : Store) : sAugI op gt f o k e env S = (o env S).go fun p S1 => (k env S1).go fun q S2 => match gt p.2 q.2 S2 with
  | some x => (e env S2).go fun z S3 => match op x.2 z.2 S3 with
    | some y => match f p.2 q.2 y.2 S3 with
      | some S4 => .nx env S4
      | none => .no
    | none => .no
  | none => .no := (rfl)
theorem getI_last (S : Store) (xs : List PV) (j : Nat) (x : PV) (h : xs[j]? = some x) : oGet (.ref S.length) (.int j) (S ++ [.lst xs]) = some (false, x) := by
  obtain ⟨hl, _⟩ := List.getElem?_eq_some_iff.mp h
  have e2 : ixP xs.length (j : Int) = some j := by
    unfold ixP
    rw [if_pos (by omega), if_pos (by omega), Int.toNat_natCast]
  unfold oGet
  rw [dIx_last, d_ref, at_last]
  show (match ixP xs.length (j : Int) with
    | some j => (xs[j]?).map fun v => (false, v)
    | none => none) = _
  rw [e2]
  simp only [h]
  rfl
theorem setI_last (S : Store) (xs : List PV) (j : Nat) (v : PV) (h : j < xs.length) : setG S.length (.ref S.length) (.int j) v (S ++ [.lst xs]) = some (S ++ [.lst (xs.set j v)]) := by
  have e2 : ixP xs.length (j : Int) = some j := by
    unfold ixP
    rw [if_pos (by omega), if_pos (by omega), Int.toNat_natCast]
  have hm : mayPut S.length S.length v = true := by
    show (Nat.ble S.length S.length || noref v) = true
    rw [Nat.ble_eq_true_of_le (Nat.le_refl _)]
    rfl
  unfold setG
  simp only [at_last]
  unfold setL
  simp only [at_last, e2, hm, if_true, set_last]
theorem augI_last {op : Op2} {o k e : SE} {env : Env} {S : Store} {n0 : Nat} {b1 b2 b3 : Bool} {xs : List PV} {j : Nat} {x w y : PV} {z : Bool} (hn : n0 = S.length) (ho : o env (S ++ [.lst xs]) = .ok (b1, .ref S.length) (S ++ [.lst xs])) (hk : k env (S ++ [.lst xs]) = .ok (b2, .int j) (S ++ [.lst xs])) (he : e env (S ++ [.lst xs]) = .ok (b3, w) (S ++ [.lst xs])) (hx : xs[j]? = some x) (hop : op x w (S ++ [.lst xs]) = some (z, y)) :
    sAugI op oGet (setG n0) o k e env (S ++ [.lst xs]) = .nx env (S ++ [.lst (xs.set j y)]) := by
  subst hn
  obtain ⟨hl, _⟩ := List.getElem?_eq_some_iff.mp hx
  rw [q_augI, ho, R.go_ok, hk, R.go_ok]
  simp only [getI_last S xs j x hx]
  rw [he, R.go_ok]
  simp only [hop, setI_last S xs j y hl]
end PX
namespace PX
open PySem K22M
theorem sasg_st {i : Nat} {a : SE} {env : Env} {S S' : Store} {k : Bool} {v : PV} (ha : a env S = .ok (k, v) S') : sAsg (gNm i) a env S = .nx (env.set i (some v)) S' := by
  rw [q_sasg, ha, R.go_ok, q_gnm]
/-! a comprehension whose test changes the store -/
theorem compR_st {t : Tg} {c : ST} {e : SE} {env : Env} (I : Store → Prop) (g : Nat → PV) (en : Nat → Env) : ∀ (l : List Nat) (S : Store), I S → (∀ S x, I S → t (g x) env S = some (en x)) → (∀ S x, I S → ∃ b S', I S' ∧ c (en x) S = .ok b S') → (∀ S x, I S → ∃ k, e (en x) S = .ok (k, .int (x : Nat)) S) →
    ∀ acc : List Nat, acc.length + l.length ≤ 100000 → ∃ l' S', I S' ∧ l'.Sublist l ∧ compR t c e (l.map g) env ((iN acc).map .int) S = .ok ((iN (acc ++ l')).map .int) S'
  | [], S, hI, _, _, _, acc, _ => ⟨[], S, hI, List.Sublist.refl _, by rw [List.append_nil]; rfl⟩
  | x :: l, S, hI, ht, hc, he, acc, hl => by
    simp only [List.length_cons] at hl
    obtain ⟨b, S1, hI1, e1⟩ := hc S x hI
    have key : compR t c e ((x :: l).map g) env ((iN acc).map .int) S = (match t (g x) env S with
      | none => R.no
      | some env' => (c env' S).bind fun b S1 => if b = true then (e env' S1).bind fun q S2 => if small ((iN acc).map PV.int).length then compR t c e (l.map g) env ((iN acc).map .int ++ [q.2]) S2 else .no
        else compR t c e (l.map g) env ((iN acc).map .int) S1) := rfl
    rw [key, ht S x hI]
    simp only [e1, R.bind_ok]
    cases b with
    | false =>
      obtain ⟨l', S', h1, h2, h3⟩ := compR_st I g en l S1 hI1 ht hc he acc (by omega)
      refine ⟨l', S', h1, h2.cons _, ?_⟩
      rw [if_neg (by simp), h3]
    | true =>
      obtain ⟨k, e2⟩ := he S1 x hI1
      have hs : small ((iN acc).map PV.int).length = true := small_nat (by rw [List.length_map, iN_len]; omega)
      obtain ⟨l', S', h1, h2, h3⟩ := compR_st I g en l S1 hI1 ht hc he (acc ++ [x]) (by rw [List.length_append, List.length_singleton]; omega)
      refine ⟨x :: l', S', h1, h2.cons_cons _, ?_⟩
      rw [if_pos rfl, e2]
      simp only [R.bind_ok, hs, if_true]
      have e3 : (iN acc).map PV.int ++ [.int (x : Nat)] = (iN (acc ++ [x])).map .int := by
        rw [← iN_app, List.map_append]
        rfl
      rw [e3, h3, List.append_assoc]
      rfl
end PX
namespace PX
open PySem K22M
/-! a comprehension with takes -/
theorem lc_st {i : SI} {t : Tg} {vs : List Nat} {c : ST} {e : SE} {env : Env} {S : Store} (I : Store → Prop) (l : List Nat) (g : Nat → PV) (en : Nat → Env) (hI : I S) (hi : i env S = .ok (l.map g, []) S) (hl : l.length ≤ 100000) (ht : ∀ S x, I S → t (g x) (wipeE env vs) S = some (en x)) (hc : ∀ S x, I S → ∃ b S', I S' ∧ c (en x) S = .ok b S') (he : ∀ S x, I S → ∃ k, e (en x) S = .ok (k, .int (x : Nat)) S) :
    ∃ l' S', I S' ∧ l'.Sublist l ∧ eLc i t vs c e env S = .ok (true, .lst ((iN l').map .int)) S' := by
  obtain ⟨l', S', h1, h2, h3⟩ := compR_st I g en l S hI ht hc he [] (by simp; exact hl)
  refine ⟨l', S', h1, h2, ?_⟩
  rw [List.nil_append] at h3
  rw [q_lc, hi, R.bind_ok]
  rw [show compR t c e (l.map g, ([] : List (Nat × PV))).1 (wipeE env vs) [] S = _ from h3, R.bind_ok]
  rfl
theorem bin_st {o : Op2} {a b : SE} {env : Env} {S S' : Store} {k k' : Bool} {v w : PV} {z : Bool × PV} (ha : a env S = .ok (k, v) S) (hb : b env S = .ok (k', w) S') (h : o v w S' = some z) : eBin o a b env S = .ok z S' := by
  rw [q_bin, ha, R.bind_ok, hb, R.bind_ok, h]
  rfl
theorem arg1_st {o : OpN} {a : SE} {env : Env} {S S' : Store} {k : Bool} {v : PV} {z : Bool × PV} (ha : a env S = .ok (k, v) S') (h : o [v] S' = some z) : eArg o (aCons a aNil) env S = .ok z S' := by
  rw [q_arg, q_cons, ha, R.bind_ok, q_nil, R.bind_ok, R.bind_ok, h]
  rfl
theorem teq_st {cf : CF} {tb : List (Nat × Nat)} {tys : List TyN} {a b : SE} {env : Env} {S S' : Store} {k k' : Bool} {v w : PV} {z x : Bool} (ha : a env S = .ok (k, v) S') (hb : b env S' = .ok (k', w) S') (ho : ownOf tb S' v = none) (h : oEq v w S' = some (z, .bl x)) : tBl (eEq cf tb tys a b) env S = .ok x S' := by
  rw [q_tbl, q_eq, ha, R.bind_ok, hb, R.bind_ok]
  simp only [ho, h]
  rfl
end PX
namespace PX
open PySem K22M
theorem sif_st {c : ST} {a b : SS} {env : Env} {S S' : Store} {t : Bool} (ha : c env S = .ok t S') : sIf c a b env S = if t = true then a env S' else b env S' := by
  rw [q_sif, ha, R.go_ok]
theorem tupi (a b : Int) : PV.tup [.int a, .int b] = .tup ([a, b].map .int) := rfl
end PX
namespace PX
open PySem K22M
theorem eqvAll_tups : ∀ xss : List (List Int), PyData.eqvAll (xss.map fun (xs : List Int) => PyData.tuple (xs.map .int)) (xss.map fun (xs : List Int) => PyData.tuple (xs.map .int)) = true
  | [] => rfl
  | xs :: xss => by
    show (PyData.eqvAll (xs.map .int) (xs.map .int) && PyData.eqvAll (xss.map fun (xs : List Int) => PyData.tuple (xs.map .int)) (xss.map fun (xs : List Int) => PyData.tuple (xs.map .int))) = true
    rw [eqv_ints, eqvAll_tups xss, decide_eq_true rfl]
    rfl
theorem ne_tups (S : Store) (xss : List (List Int)) : oNe (.lst (xss.map fun (xs : List Int) => PV.tup (xs.map .int))) (.lst (xss.map fun (xs : List Int) => PV.tup (xs.map .int))) S = some (false, .bl false) := by
  have e : toD S 6 (.lst (xss.map fun (xs : List Int) => PV.tup (xs.map .int))) = some (.list (xss.map fun (xs : List Int) => PyData.tuple (xs.map .int))) := by
    show (toDL (toD S 5) (xss.map fun (xs : List Int) => PV.tup (xs.map .int))).map PyData.list = _
    rw [toDL_tups S 3 xss]
    rfl
  unfold oNe eqD
  rw [e]
  show some (false, PV.bl (!(PyData.eqvAll _ _))) = _
  rw [eqvAll_tups]
  rfl
end PX
set_option Elab.async false
set_option linter.all false
set_option maxRecDepth 100000
set_option maxHeartbeats 1000000
/-! laws that choose one of some fixed checks -/
namespace PX
open PySem
def isT : R PV → Bool
  | .ok (.bl true) _ => true
  | _ => false
theorem isT_ok : ∀ {z : R PV}, isT z = true → ∃ S', z = .ok (.bl true) S'
  | .ok (.bl true) S, _ => ⟨S, rfl⟩
theorem call0_T {cf : CF} {f : Nat} {env : Env} (h : isT (cf f [] 0 []) = true) : eCall cf 0 f aNil env [] = .ok (false, .bl true) [] := by
  obtain ⟨S', e⟩ := isT_ok h
  have e1 : eCall cf 0 f aNil env [] = (cutX 0 (cf f [] 0 [])).bind fun v S2 => norm 0 v S2 := rfl
  rw [e1, e]
  show norm 0 (.bl true) S' = _
  cases S' with
  | nil => rfl
  | cons a l => rfl
theorem q_seqH (a : SE) : iSeqH a env S = (a env S).bind fun p S1 => match lockS p.2 S1 with
  | some z => .ok (z.1, z.2.1) z.2.2
  | none => match dctOf S1 p.2 with
    | some z => .ok (z.1.map kPV, []) S1
    | none => .no := (rfl)
theorem seqH_valL (a : SE) (env : Env) (S : Store) (b : Bool) (xs : List PV) (ha : a env S = .ok (b, .lst xs) S) : iSeqH a env S = .ok (xs, []) S := by
  rw [q_seqH, ha, R.bind_ok]
  rfl
theorem seqH_val (a : SE) (env : Env) (S : Store) (b : Bool) (xs : List PV) (ha : a env S = .ok (b, .tup xs) S) : iSeqH a env S = .ok (xs, []) S := by
  rw [q_seqH, ha, R.bind_ok]
  rfl
theorem q_eqQ (cf : CF) (tb : List (Nat × Nat)) (tys : List TyN) (a b : SE) : eEqQ cf tb tys a b env S = (a env S).bind fun p S1 => (b env S1).bind fun q S2 => match ownOf tb S2 p.2 with
  | some f => if okTy tys S2 q.2 then callV cf f [p.2, q.2] S2 else .no
  | none => ofO (oEqQ p.2 q.2 S2) S2 := (rfl)
theorem eqQ_int {cf : CF} {tb : List (Nat × Nat)} {tys : List TyN} {a b : SE} {env : Env} {S : Store} {k k' : Bool} {i j : Int} (ha : a env S = .ok (k, .int i) S) (hb : b env S = .ok (k', .int j) S) : eEqQ cf tb tys a b env S = .ok (false, .bl (decide (i = j))) S := by
  rw [q_eqQ, ha, R.bind_ok, hb, R.bind_ok, ownOf_int]
  show ofO (oEqQ (.int i) (.int j) S) S = _
  show ofO ((eqQ S (.int i) (.int j)).map fun b => (false, .bl b)) S = _
  rw [show eqQ S (.int i) (.int j) = eqD S (.int i) (.int j) from rfl, eqD_int]
  rfl
/-- sum([abs(v) for v in values[:n]]) of a list of ints -/
theorem sum_abs (b : Bool) (ns : List Int) (h : ns.length ≤ 63) (w : Nat) (vs : List Nat) (lo hi : SO) (l u : Option Int) (a : SE) (env : Env) (S : Store) (kk : Bool) (ha : a env S = .ok (kk, .lst (ns.map .int)) S) (h1 : lo env S = .ok l S) (h2 : hi env S = .ok u S)
    (hw : ∀ x, ∃ en, gNm w x (wipeE env vs) S = some en ∧ en[w]? = some (some x)) (it : SE → SI) (hit : it = iSeq ∨ it = iSeqH) :
    ∃ m : Int, eArg bSum (aCons (eLc (it (eSl a lo hi)) (gNm w) vs tYesP (eArg bAbs (aCons (eVar w) aNil))) aNil) env S = .ok (false, .int m) S := by
  have e1 : eSl a lo hi env S = .ok (true, .lst (((ns.drop (sIxP ns.length 0 l)).take (sIxP ns.length ns.length u - sIxP ns.length 0 l)).map .int)) S := by
    refine sl_val ha h1 h2 ?_
    have e := cutP_map ns l u
    show some (true, PV.lst (cutP (ns.map .int) l u)) = _
    rw [e]
  generalize hc : (ns.drop (sIxP ns.length 0 l)).take (sIxP ns.length ns.length u - sIxP ns.length 0 l) = cs at e1
  have hl : cs.length ≤ 100000 := by
    rw [← hc, List.length_take, List.length_drop]
    omega
  have e2 : it (eSl a lo hi) env S = .ok (cs.map .int, []) S := by
    rcases hit with r | r <;> subst r
    · exact seq_valL _ _ _ _ _ e1
    · exact seqH_valL _ _ _ _ _ e1
  have hw' : ∀ x : Int, ∃ en, gNm w (.int x) (wipeE env vs) S = some en ∧ en[w]? = some (some (.int x)) := fun x => hw _
  have e3 := lc_int (c := tYesP) (e := eArg bAbs (aCons (eVar w) aNil)) cs PV.int (fun x => if x < 0 then -x else x) (fun _ => true) (fun x => (hw' x).choose) e2 hl (fun x _ => (hw' x).choose_spec.1) (fun _ _ => rfl) (fun x _ _ => ⟨false, by
    refine arg1_val (k := false) (v := .int x) ?_ rfl
    rw [q_var, (hw' x).choose_spec.2]⟩)
  exact ⟨_, arg1_val e3 (bSum_lst _ S)⟩
end PX
set_option Elab.async false
set_option linter.all false
set_option maxRecDepth 100000
namespace PX.K62
open PySem PX
/-! is_number -/
noncomputable def b0 : FnB := ⟨3, 3, fun cf n0 => (sRet (eAn (eIsi [(.non, false), (.bl, true), (.int, true), (.str, false), (.tup, false), (.lst, false), (.dct, false), (.own 0, false)] (eVar 0)) (eAn (eNot (eIsi [(.non, false), (.bl, true), (.int, false), (.str, false), (.tup, false), (.lst, false), (.dct, false), (.own 0, false)] (eVar 0))) (eCh oLe oLe (eVar 1) (eVar 0) (eVar 2)))))⟩
/-! check_number -/
noncomputable def b1 : FnB := ⟨3, 3, fun cf n0 => (sIf (tNo (tTru (eCall cf 3 0 (aCons (eVar 0) (aCons (eVar 1) (aCons (eVar 2) aNil)))))) sNo sNil)⟩
/-! check_known -/
noncomputable def b2 : FnB := ⟨3, 3, fun cf n0 => (sCons (sExp (eCall cf 3 1 (aCons (eVar 0) (aCons (eLit (.int 1)) (aCons (eLit (.int (20))) aNil))))) (sCons (sExp (eCall cf 3 1 (aCons (eVar 1) (aCons (eLit (.int 1)) (aCons (eLit (.int (12))) aNil))))) (sIf (tNo (tTru (eCall cf 3 0 (aCons (eVar 2) (aCons (eLit (.int 0)) (aCons (eBin oRep (eVar 0) (eBin oSub (eVar 1) (eLit (.int 1)))) aNil)))))) sNo sNil)))⟩
/-! spread_over -/
noncomputable def b3 : FnB := ⟨3, 6, fun cf n0 => (sCons (sAsg (gNm 3) (eNew (eArg bList (aCons (eVar 0) aNil)))) (sCons (sFor (iRg3 (eBin oSub (eLen cf [] (eVar 3)) (eLit (.int 1))) (eUn oNeg (eLit (.int 1))) (eUn oNeg (eLit (.int 1)))) (gNm 4) (sCons (sAsg (gNm 5) (eArg bMin2 (aCons (eVar 2) (aCons (eBin oSub (eIx cf [] (eVar 1) (eVar 4)) (eIx cf [] (eVar 3) (eVar 4))) aNil)))) (sCons (sAugI oAdd oGet (setG n0) (eVar 3) (eVar 4) (eVar 5)) (sAug 2 oSub (eVar 5))))) (sRet (eArg bTuple (aCons (eVar 3) aNil)))))⟩
/-! lowest_with -/
noncomputable def b4 : FnB := ⟨3, 3, fun cf n0 => (sRet (eBin oCat (eBin oRep (eLst (aCons (eLit (.int 0)) aNil)) (eBin oSub (eVar 0) (eVar 2))) (eBin oRep (eLst (aCons (eVar 1) aNil)) (eVar 2))))⟩
/-! highest_with -/
noncomputable def b5 : FnB := ⟨4, 4, fun cf n0 => (sRet (eBin oCat (eBin oRep (eLst (aCons (eBin oSub (eVar 2) (eLit (.int 1))) aNil)) (eBin oSub (eVar 0) (eVar 3))) (eBin oRep (eLst (aCons (eBin oSub (eVar 1) (eLit (.int 1))) aNil)) (eVar 3))))⟩
/-! row_with -/
noncomputable def b6 : FnB := ⟨5, 7, fun cf n0 => (sCons (sPar [5, 6] (aCons (eCall cf 3 4 (aCons (eVar 0) (aCons (eVar 3) (aCons (eVar 4) aNil)))) (aCons (eCall cf 4 5 (aCons (eVar 0) (aCons (eVar 1) (aCons (eVar 3) (aCons (eVar 4) aNil))))) aNil))) (sCons (sIf (tNo (tBl (eCh oLe oLe (eArg bSum (aCons (eVar 5) aNil)) (eVar 2) (eArg bSum (aCons (eVar 6) aNil))))) (sRet (eLit .non)) sNil) (sRet (eCall cf 3 3 (aCons (eVar 5) (aCons (eVar 6) (aCons (eBin oSub (eVar 2) (eArg bSum (aCons (eVar 5) aNil))) aNil)))))))⟩
/-! Ends.__init__ -/
noncomputable def b7 : FnB := ⟨3, 3, fun cf n0 => (sCons (sFld n0 [0] 0 (eVar 0) (eArg bTuple (aCons (eVar 1) aNil))) (sFld n0 [0] 1 (eVar 0) (eArg bTuple (aCons (eVar 2) aNil))))⟩
/-! Ends.__eq__ -/
noncomputable def b8 : FnB := ⟨2, 2, fun cf n0 => (sRet (eAn (eIsi [(.non, false), (.bl, false), (.int, false), (.str, false), (.tup, false), (.lst, false), (.dct, false), (.own 0, true)] (eVar 1)) (eEq cf [(0, 8)] [.non, .bl, .int, .str, .tup, .lst, .dct, .own 0] (eTup (aCons (eFld [0] 0 (eVar 0)) (aCons (eFld [0] 1 (eVar 0)) aNil))) (eTup (aCons (eFld [0] 0 (eVar 1)) (aCons (eFld [0] 1 (eVar 1)) aNil))))))⟩
/-! Ends.shows -/
noncomputable def b9 : FnB := ⟨5, 8, fun cf n0 => (sCons (sExp (eCall cf 4 10 (aCons (eVar 1) (aCons (eVar 2) (aCons (eVar 3) (aCons (eVar 4) aNil)))))) (sCons (sFor (iSeq (eTup (aCons (eFld [0] 0 (eVar 0)) (aCons (eFld [0] 1 (eVar 0)) aNil)))) (gNm 5) (sIf (tOr (tBl (eNe cf [(0, 8)] [.non, .bl, .int, .str, .tup, .lst, .dct, .own 0] (eLen cf [] (eVar 5)) (eVar 1))) (tOr (tNo (tTru (eArg bAll (aCons (eLc (iSeq (eVar 5)) (gNm 7) [7] tYesP (eCall cf 3 0 (aCons (eVar 7) (aCons (eLit (.int 0)) (aCons (eBin oSub (eVar 2) (eLit (.int 1))) aNil))))) aNil)))) (tBl (eNe cf [(0, 8)] [.non, .bl, .int, .str, .tup, .lst, .dct, .own 0] (eArg bSum (aCons (eVar 5) aNil)) (eVar 3))))) (sRet (eLit (.bl false))) sNil)) (sCons (sAsg (gNm 6) (eLc (iSeq (eTup (aCons (eFld [0] 0 (eVar 0)) (aCons (eFld [0] 1 (eVar 0)) aNil)))) (gNm 5) [5] tYesP (eLen cf [] (eLc (iSeq (eVar 5)) (gNm 7) [7] (tBl (eBin oGe (eVar 7) (eVar 4))) (eVar 7))))) (sRet (eEq cf [(0, 8)] [.non, .bl, .int, .str, .tup, .lst, .dct, .own 0] (eArg bTuple (aCons (eVar 6) aNil)) (eCall cf 4 11 (aCons (eVar 1) (aCons (eVar 2) (aCons (eVar 3) (aCons (eVar 4) aNil))))))))))⟩
/-! check_asked -/
noncomputable def b10 : FnB := ⟨4, 4, fun cf n0 => (sCons (sExp (eCall cf 3 2 (aCons (eVar 0) (aCons (eVar 1) (aCons (eVar 2) aNil))))) (sIf (tNo (tTru (eCall cf 3 0 (aCons (eVar 3) (aCons (eLit (.int 1)) (aCons (eBin oSub (eVar 1) (eLit (.int 1))) aNil)))))) sNo sNil))⟩
/-! ends_of -/
noncomputable def b11 : FnB := ⟨4, 6, fun cf n0 => (sCons (sPar [4, 5] (aCons (eBin oSub (eVar 2) (eBin oRep (eVar 0) (eBin oSub (eVar 3) (eLit (.int 1))))) (aCons (eBin oSub (eVar 1) (eVar 3)) aNil))) (sRet (eTup (aCons (eArg bMax2 (aCons (eLit (.int 0)) (aCons (eBin oDiv (eBin oSub (eBin oCat (eVar 4) (eVar 5)) (eLit (.int 1))) (eVar 5)) aNil))) (aCons (eArg bMin2 (aCons (eVar 0) (aCons (eBin oDiv (eVar 2) (eVar 3)) aNil))) aNil)))))⟩
/-! at_least -/
noncomputable def b12 : FnB := ⟨4, 4, fun cf n0 => (sCons (sExp (eCall cf 4 10 (aCons (eVar 0) (aCons (eVar 1) (aCons (eVar 2) (aCons (eVar 3) aNil)))))) (sRet (eCall cf 4 11 (aCons (eVar 0) (aCons (eVar 1) (aCons (eVar 2) (aCons (eVar 3) aNil)))))))⟩
/-! reach_both -/
noncomputable def b13 : FnB := ⟨4, 6, fun cf n0 => (sCons (sExp (eCall cf 4 10 (aCons (eVar 0) (aCons (eVar 1) (aCons (eVar 2) (aCons (eVar 3) aNil)))))) (sCons (sAsg (gTp [(gNm 4), (gNm 5)]) (eCall cf 4 11 (aCons (eVar 0) (aCons (eVar 1) (aCons (eVar 2) (aCons (eVar 3) aNil)))))) (sRet (eMake cf 3 0 7 (aCons (eCall cf 5 6 (aCons (eVar 0) (aCons (eVar 1) (aCons (eVar 2) (aCons (eVar 3) (aCons (eVar 4) aNil)))))) (aCons (eCall cf 5 6 (aCons (eVar 0) (aCons (eVar 1) (aCons (eVar 2) (aCons (eVar 3) (aCons (eVar 5) aNil)))))) aNil))))))⟩
/-! rank_values -/
noncomputable def b14 : FnB := ⟨4, 6, fun cf n0 => (sCons (sExp (eCall cf 3 2 (aCons (eVar 0) (aCons (eVar 1) (aCons (eVar 2) aNil))))) (sCons (sExp (eCall cf 3 1 (aCons (eVar 3) (aCons (eLit (.int 0)) (aCons (eBin oSub (eVar 0) (eLit (.int 1))) aNil))))) (sCons (sAsg (gNm 4) (eBin oSub (eVar 0) (eVar 3))) (sCons (sAsg (gNm 5) (eBin oSub (eVar 2) (eBin oRep (eBin oSub (eVar 4) (eLit (.int 1))) (eBin oSub (eVar 1) (eLit (.int 1)))))) (sRet (eTup (aCons (eArg bMax2 (aCons (eLit (.int 0)) (aCons (eBin oDiv (eBin oCat (eVar 5) (eVar 3)) (eBin oCat (eVar 3) (eLit (.int 1)))) aNil))) (aCons (eArg bMin2 (aCons (eBin oSub (eVar 1) (eLit (.int 1))) (aCons (eBin oDiv (eVar 2) (eVar 4)) aNil))) aNil))))))))⟩
/-! _law_number -/
noncomputable def b15 : FnB := ⟨2, 8, fun cf n0 => (sCons (sAsg (gNm 2) (eIf (tBl (eNe cf [(0, 8)] [.non, .bl, .int, .str, .tup, .lst, .dct, .own 0] (eVar 0) (eLst aNil))) (eSl (eVar 0) pNo (pSo (eLit (.int 63)))) (eLst (aCons (eLit (.int 5)) aNil)))) (sCons (sAsg (gNm 3) (eBin oCat (eIx cf [] (eVar 2) (eBin oMod (eArg bInt (aCons (eVar 1) aNil)) (eLen cf [] (eVar 2)))) (eBin oRep (eLit (.int 13)) (eBin oDiv (eVar 1) (eLen cf [] (eVar 2)))))) (sCons (sPar [4, 5] (aCons (eBin oMod (eArg bInt (aCons (eVar 3) aNil)) (eLit (.int 1000003))) (aCons (eBin oMod (eArg bInt (aCons (eBin oDiv (eVar 3) (eLit (.int 1000003))) aNil)) (eLit (.int 999983))) aNil))) (sCons (sAsg (gNm 6) (eBin oMod (eArg bInt (aCons (eArg bSum (aCons (eVar 2) aNil)) aNil)) (eLit (.int 65521)))) (sCons (sAsg (gNm 7) (eBin oMod (eArg bInt (aCons (eBin oCat (eBin oCat (eBin oRep (eBin oCat (eVar 4) (eBin oRep (eLit (.int 977)) (eVar 1))) (eLit (.int 48271))) (eBin oRep (eLit (.int 31)) (eVar 5))) (eVar 6)) aNil)) (eLit (.int 2147483647)))) (sRet (eBin oCat (eBin oRep (eBin oMod (eArg bInt (aCons (eBin oRep (eVar 7) (eBin oCat (eBin oCat (eVar 7) (eBin oRep (eLit (.int 31)) (eVar 1))) (eLit (.int 7)))) aNil)) (eLit (.int 2147483629))) (eLit (.int 65537))) (eVar 5))))))))⟩
/-! _law_take -/
noncomputable def b16 : FnB := ⟨2, 2, fun cf n0 => (sCons (sSetI (setG n0) (eVar 0) (eLit (.int 1)) (eBin oCat (eIx cf [] (eVar 0) (eLit (.int 1))) (eLit (.int 1)))) (sRet (eBin oMod (eArg bInt (aCons (eCall cf 2 15 (aCons (eIx cf [] (eVar 0) (eLit (.int 0))) (aCons (eArg bInt (aCons (eIx cf [] (eVar 0) (eLit (.int 1))) aNil)) aNil))) aNil)) (eVar 1))))⟩
/-! _law_pick -/
noncomputable def b17 : FnB := ⟨2, 2, fun cf n0 => (sRet (eIx cf [] (eVar 1) (eCall cf 2 16 (aCons (eVar 0) (aCons (eLen cf [] (eVar 1)) aNil)))))⟩
/-! _law_lines -/
noncomputable def b18 : FnB := ⟨3, 9, fun cf n0 => (sCons (sAsg (gNm 3) (eLst (aCons (eTup aNil) aNil))) (sCons (sFor (iRg1 (eVar 0)) (gNm 4) (sCons (sAsg (gNm 5) (eLst aNil)) (sCons (sFor (iSeq (eVar 3)) (gNm 6) (sCons (sAsg (gNm 7) (eIf (tBl (eNe cf [(0, 8)] [.non, .bl, .int, .str, .tup, .lst, .dct, .own 0] (eVar 6) (eTup aNil))) (eIx cf [] (eVar 6) (eUn oNeg (eLit (.int 1)))) (eLit (.int 0)))) (sAsg (gNm 5) (eBin oCat (eVar 5) (eLc (iRg2 (eVar 7) (eVar 1)) (gNm 8) [8] (tBl (eBin oLe (eBin oCat (eArg bSum (aCons (eVar 6) aNil)) (eVar 8)) (eVar 2))) (eBin oCat (eVar 6) (eTup (aCons (eVar 8) aNil)))))))) (sAsg (gNm 3) (eVar 5))))) (sRet (eLc (iSeq (eVar 3)) (gNm 6) [6] (tBl (eEq cf [(0, 8)] [.non, .bl, .int, .str, .tup, .lst, .dct, .own 0] (eArg bSum (aCons (eVar 6) aNil)) (eVar 2))) (eVar 6)))))⟩
/-! _law_reaching -/
noncomputable def b19 : FnB := ⟨2, 3, fun cf n0 => (sRet (eLen cf [] (eLc (iSeq (eVar 0)) (gNm 2) [2] (tBl (eBin oGe (eVar 2) (eVar 1))) (eVar 2))))⟩
/-! _law_shows -/
noncomputable def b20 : FnB := ⟨6, 8, fun cf n0 => (sCons (sFor (iSeq (eVar 3)) (gNm 6) (sIf (tOr (tBl (eNe cf [(0, 8)] [.non, .bl, .int, .str, .tup, .lst, .dct, .own 0] (eLen cf [] (eVar 6)) (eVar 0))) (tOr (tNo (tTru (eArg bAll (aCons (eLc (iSeq (eVar 6)) (gNm 7) [7] tYesP (eCh oLe oLt (eLit (.int 0)) (eVar 7) (eVar 1))) aNil)))) (tBl (eNe cf [(0, 8)] [.non, .bl, .int, .str, .tup, .lst, .dct, .own 0] (eArg bSum (aCons (eVar 6) aNil)) (eVar 2))))) (sRet (eLit (.bl false))) sNil)) (sRet (eEq cf [(0, 8)] [.non, .bl, .int, .str, .tup, .lst, .dct, .own 0] (eTup (aCons (eCall cf 2 19 (aCons (eIx cf [] (eVar 3) (eLit (.int 0))) (aCons (eVar 5) aNil))) (aCons (eCall cf 2 19 (aCons (eIx cf [] (eVar 3) (eLit (.int 1))) (aCons (eVar 5) aNil))) aNil))) (eVar 4))))⟩
/-! _law_great_right -/
noncomputable def b21 : FnB := ⟨1, 17, fun cf n0 => (sCons (sPar [1, 2] (aCons (eBin oCat (eLit (.int 1)) (eCall cf 2 16 (aCons (eVar 0) (aCons (eLit (.int 20)) aNil)))) (aCons (eBin oCat (eLit (.int 2)) (eCall cf 2 16 (aCons (eVar 0) (aCons (eLit (.int 11)) aNil)))) aNil))) (sCons (sPar [3, 4] (aCons (eCall cf 2 16 (aCons (eVar 0) (aCons (eBin oCat (eBin oRep (eVar 1) (eBin oSub (eVar 2) (eLit (.int 1)))) (eLit (.int 1))) aNil))) (aCons (eBin oCat (eLit (.int 1)) (eCall cf 2 16 (aCons (eVar 0) (aCons (eBin oSub (eVar 2) (eLit (.int 1))) aNil)))) aNil))) (sCons (sPar [5, 6] (aCons (eCall cf 4 12 (aCons (eVar 1) (aCons (eVar 2) (aCons (eVar 3) (aCons (eVar 4) aNil))))) (aCons (eCall cf 4 13 (aCons (eVar 1) (aCons (eVar 2) (aCons (eVar 3) (aCons (eVar 4) aNil))))) aNil))) (sCons (sIf (tNo (tTru (eCall cf 6 20 (aCons (eVar 1) (aCons (eVar 2) (aCons (eVar 3) (aCons (eTup (aCons (eFld [0] 0 (eVar 6)) (aCons (eFld [0] 1 (eVar 6)) aNil))) (aCons (eVar 5) (aCons (eVar 4) aNil))))))))) (sRet (eLit (.bl false))) sNil) (sCons (sIf (tBl (eBin oNotB (eMeth cf 5 2 [(0, 9)] (eVar 6) (aCons (eVar 1) (aCons (eVar 2) (aCons (eVar 3) (aCons (eVar 4) aNil))))) (eLit (.bl true)))) (sRet (eLit (.bl false))) sNil) (sCons (sAsg (gTp [(gNm 7), (gNm 8)]) (eVar 5)) (sCons (sFor (iSeq (eTup (aCons (eTup (aCons (eBin oSub (eVar 7) (eLit (.int 1))) (aCons (eLit (.bl false)) aNil))) (aCons (eTup (aCons (eVar 7) (aCons (eLit (.bl true)) aNil))) (aCons (eTup (aCons (eVar 8) (aCons (eLit (.bl true)) aNil))) (aCons (eTup (aCons (eBin oCat (eVar 8) (eLit (.int 1))) (aCons (eLit (.bl false)) aNil))) aNil)))))) (gTp [(gNm 9), (gNm 10)]) (sCons (sAsg (gNm 11) (eAn (eCh oLe oLe (eLit (.int 0)) (eVar 9) (eVar 1)) (eCh oLe oLe (eBin oRep (eVar 9) (eVar 4)) (eVar 3) (eBin oCat (eBin oRep (eVar 9) (eBin oSub (eVar 2) (eLit (.int 1)))) (eBin oRep (eBin oSub (eVar 1) (eVar 9)) (eBin oSub (eVar 4) (eLit (.int 1)))))))) (sIf (tBl (eNe cf [(0, 8)] [.non, .bl, .int, .str, .tup, .lst, .dct, .own 0] (eVar 11) (eVar 10))) (sRet (eLit (.bl false))) sNil))) (sCons (sPar [12, 13] (aCons (eFld [0] 0 (eVar 6)) (aCons (eFld [0] 1 (eVar 6)) aNil))) (sCons (sAsg (gNm 14) (eIf (tBl (eBin oGt (eVar 1) (eLit (.int 1)))) (eBin oCat (eBin oCat (eTup (aCons (eUn oNeg (eLit (.int 1))) aNil)) (eSl (eVar 13) (pSo (eLit (.int 1))) (pSo (eUn oNeg (eLit (.int 1)))))) (eTup (aCons (eBin oCat (eBin oCat (eIx cf [] (eVar 13) (eUn oNeg (eLit (.int 1)))) (eIx cf [] (eVar 13) (eLit (.int 0)))) (eLit (.int 1))) aNil))) (eTup (aCons (eVar 2) aNil)))) (sCons (sAsg (gNm 15) (eLst (aCons (eTup (aCons (eVar 13) (aCons (eVar 12) aNil))) (aCons (eTup (aCons (eVar 12) (aCons (eVar 12) aNil))) (aCons (eTup (aCons (eSl (eVar 12) (pSo (eLit (.int 1))) pNo) (aCons (eVar 13) aNil))) (aCons (eTup (aCons (eBin oCat (eVar 12) (eTup (aCons (eLit (.int 0)) aNil))) (aCons (eVar 13) aNil))) (aCons (eTup (aCons (eVar 12) (aCons (eBin oCat (eSl (eVar 13) pNo (pSo (eUn oNeg (eLit (.int 1))))) (eTup (aCons (eVar 2) aNil))) aNil))) (aCons (eTup (aCons (eVar 12) (aCons (eBin oRepT (eTup (aCons (eLit (.int 0)) aNil)) (eVar 1)) aNil))) aNil)))))))) (sCons (sFor (iSeq (eBin oCat (eVar 15) (eLst (aCons (eTup (aCons (eVar 12) (aCons (eVar 14) aNil))) (aCons (eTup (aCons (eVar 14) (aCons (eVar 13) aNil))) (aCons (eTup (aCons (eRev2 (eVar 14)) (aCons (eVar 13) aNil))) aNil)))))) (gNm 16) (sIf (tBl (eNe cf [(0, 8)] [.non, .bl, .int, .str, .tup, .lst, .dct, .own 0] (eMeth cf 5 2 [(0, 9)] (eMake cf 3 0 7 (aCons (eIx cf [] (eVar 16) (eLit (.int 0))) (aCons (eIx cf [] (eVar 16) (eLit (.int 1))) aNil))) (aCons (eVar 1) (aCons (eVar 2) (aCons (eVar 3) (aCons (eVar 4) aNil))))) (eCall cf 6 20 (aCons (eVar 1) (aCons (eVar 2) (aCons (eVar 3) (aCons (eVar 16) (aCons (eVar 5) (aCons (eVar 4) aNil))))))))) (sRet (eLit (.bl false))) sNil)) (sRet (eLit (.bl true))))))))))))))⟩
/-! law -/
noncomputable def b22 : FnB := ⟨1, 18, fun cf n0 => (sCons (sAsg (gNm 1) (eNew (eLst (aCons (eVar 0) (aCons (eLit (.int 0)) aNil))))) (sCons (sFor (iRg1 (eLit (.int 3))) (gNm 2) (sCons (sPar [3, 4] (aCons (eBin oCat (eLit (.int 1)) (eCall cf 2 16 (aCons (eVar 1) (aCons (eLit (.int 6)) aNil)))) (aCons (eBin oCat (eLit (.int 2)) (eCall cf 2 16 (aCons (eVar 1) (aCons (eLit (.int 4)) aNil)))) aNil))) (sCons (sAsg (gNm 5) (eCall cf 2 16 (aCons (eVar 1) (aCons (eBin oCat (eBin oRep (eVar 3) (eBin oSub (eVar 4) (eLit (.int 1)))) (eLit (.int 1))) aNil)))) (sCons (sAsg (gTp [(gNm 6), (gNm 7), (gNm 8)]) (eTup (aCons (eCall cf 3 18 (aCons (eVar 3) (aCons (eVar 4) (aCons (eVar 5) aNil)))) (aCons (eBin oCat (eLit (.int 1)) (eCall cf 2 16 (aCons (eVar 1) (aCons (eBin oSub (eVar 4) (eLit (.int 1))) aNil)))) (aCons (eCall cf 2 16 (aCons (eVar 1) (aCons (eVar 3) aNil))) aNil))))) (sCons (sAsg (gNm 9) (eArg bSset (aCons (eLc (iSeq (eVar 6)) (gNm 17) [17] tYesP (eCall cf 2 19 (aCons (eVar 17) (aCons (eVar 7) aNil)))) aNil))) (sCons (sAsg (gTp [(gNm 10), (gNm 11)]) (eCall cf 4 12 (aCons (eVar 3) (aCons (eVar 4) (aCons (eVar 5) (aCons (eVar 7) aNil)))))) (sCons (sIf (tBl (eNe cf [(0, 8)] [.non, .bl, .int, .str, .tup, .lst, .dct, .own 0] (eVar 9) (eLr2 (eVar 10) (eBin oCat (eVar 11) (eLit (.int 1)))))) (sRet (eLit (.bl false))) sNil) (sCons (sAsg (gNm 12) (eArg bSset (aCons (eLc (iSeq (eVar 6)) (gNm 17) [17] tYesP (eIx cf [] (eVar 17) (eVar 8))) aNil))) (sCons (sAsg (gTp [(gNm 13), (gNm 14)]) (eCall cf 4 14 (aCons (eVar 3) (aCons (eVar 4) (aCons (eVar 5) (aCons (eVar 8) aNil)))))) (sCons (sIf (tBl (eNe cf [(0, 8)] [.non, .bl, .int, .str, .tup, .lst, .dct, .own 0] (eVar 12) (eLr2 (eVar 13) (eBin oCat (eVar 14) (eLit (.int 1)))))) (sRet (eLit (.bl false))) sNil) (sCons (sFor (iRg1 (eLit (.int 3))) (gNm 15) (sCons (sAsg (gNm 16) (eLst (aCons (eCall cf 2 17 (aCons (eVar 1) (aCons (eVar 6) aNil))) (aCons (eCall cf 2 17 (aCons (eVar 1) (aCons (eVar 6) aNil))) aNil)))) (sCons (sAsg (gNm 16) (eLst (aCons (eIf (tBl (eEq cf [(0, 8)] [.non, .bl, .int, .str, .tup, .lst, .dct, .own 0] (eVar 15) (eLit (.int 1)))) (eRev2 (eIx cf [] (eVar 16) (eLit (.int 0)))) (eIx cf [] (eVar 16) (eLit (.int 0)))) (aCons (eIf (tBl (eEq cf [(0, 8)] [.non, .bl, .int, .str, .tup, .lst, .dct, .own 0] (eVar 15) (eLit (.int 2)))) (eArg bList (aCons (eIx cf [] (eVar 16) (eLit (.int 1))) aNil)) (eIx cf [] (eVar 16) (eLit (.int 1)))) aNil)))) (sIf (tBl (eNe cf [(0, 8)] [.non, .bl, .int, .str, .tup, .lst, .dct, .own 0] (eMeth cf 5 2 [(0, 9)] (eMake cf 3 0 7 (aCons (eIx cf [] (eVar 16) (eLit (.int 0))) (aCons (eIx cf [] (eVar 16) (eLit (.int 1))) aNil))) (aCons (eVar 3) (aCons (eVar 4) (aCons (eVar 5) (aCons (eVar 7) aNil))))) (eCall cf 6 20 (aCons (eVar 3) (aCons (eVar 4) (aCons (eVar 5) (aCons (eVar 16) (aCons (eTup (aCons (eVar 10) (aCons (eVar 11) aNil))) (aCons (eVar 7) aNil))))))))) (sRet (eLit (.bl false))) sNil)))) (sIf (tNo (tTru (eCall cf 1 21 (aCons (eVar 1) aNil)))) (sRet (eLit (.bl false))) sNil)))))))))))) (sRet (eLit (.bl true)))))⟩
noncomputable def TT : Nat → Option FnB
  | 0 => some b0
  | 1 => some b1
  | 2 => some b2
  | 3 => some b3
  | 4 => some b4
  | 5 => some b5
  | 6 => some b6
  | 7 => some b7
  | 8 => some b8
  | 9 => some b9
  | 10 => some b10
  | 11 => some b11
  | 12 => some b12
  | 13 => some b13
  | 14 => some b14
  | 15 => some b15
  | 16 => some b16
  | 17 => some b17
  | 18 => some b18
  | 19 => some b19
  | 20 => some b20
  | 21 => some b21
  | 22 => some b22
  | _ => none
end PX.K62
set_option Elab.async false
set_option linter.all false
set_option maxRecDepth 100000
set_option maxHeartbeats 4000000
namespace PX.K62
open PySem PySem.Spec PyProof.Rows L2 He PX
def top (i : Nat) : Stmt := PySem.Challenge.pw_bucketsums_k62_whole_means.main.body.getD i (.Pass ⟨0, 0, 0, 0⟩)
def fs : List (Str × Option Str) := [("is_number", none), ("check_number", none), ("check_known", none), ("spread_over", none), ("lowest_with", none), ("highest_with", none), ("row_with", none), ("Ends", some "__init__"), ("Ends", some "__eq__"), ("Ends", some "shows"), ("check_asked", none), ("ends_of", none), ("at_least", none), ("reach_both", none), ("rank_values", none), ("_law_number", none), ("_law_take", none), ("_law_pick", none), ("_law_lines", none), ("_law_reaching", none), ("_law_shows", none), ("_law_great_right", none), ("law", none)]
def cs : List Str := ["Ends"]
def nms : List Str := ["least", "greatest", "shows", "__init__", "__eq__"]
abbrev GG : PySem.W.Frag → Gam := gam fs cs nms
def fb : List Ck := [cCls GG [0],
  cFree "isinstance",
  cFree "int",
  cKit GG [(.non, false), (.bl, true), (.int, true), (.str, false), (.tup, false), (.lst, false), (.dct, false), (.own 0, false)] (fun K => (.type "int")),
  cFree "bool",
  cKit GG [(.non, false), (.bl, true), (.int, false), (.str, false), (.tup, false), (.lst, false), (.dct, false), (.own 0, false)] (fun K => (.type "bool")),
  cGlo "is_number",
  cKeep GG 0,
  cGlo "check_number",
  cKeep GG 1,
  cInt "MOST_ROWS" (20),
  cInt "MOST_VALUES" (12),
  cFree "list",
  cSpc GG [] "__len__",
  cFree "len",
  cFree "range",
  cSpc GG [] "__getitem__",
  cFree "min",
  cFree "tuple",
  cGlo "lowest_with",
  cKeep GG 4,
  cGlo "highest_with",
  cKeep GG 5,
  cFree "sum",
  cGlo "spread_over",
  cKeep GG 3,
  cFld GG 0 [0],
  cFld GG 1 [0],
  cGlo "Ends",
  cKit GG [(.non, false), (.bl, false), (.int, false), (.str, false), (.tup, false), (.lst, false), (.dct, false), (.own 0, true)] (fun K => (.ref ((GG K).ca 0))),
  cSpc GG [(0, 8)] "__eq__",
  cNe GG [(0, 8)],
  cNf GG [(0, 8)] [.non, .bl, .int, .str, .tup, .lst, .dct, .own 0],
  cGlo "check_asked",
  cKeep GG 10,
  cFree "all",
  cGlo "ends_of",
  cKeep GG 11,
  cGlo "check_known",
  cKeep GG 2,
  cFree "max",
  cGlo "row_with",
  cKeep GG 6,
  cMk GG 0 7,
  cGlo "_law_number",
  cKeep GG 15,
  cGlo "_law_take",
  cKeep GG 16,
  cGlo "_law_reaching",
  cKeep GG 19,
  cGlo "at_least",
  cKeep GG 12,
  cGlo "reach_both",
  cKeep GG 13,
  cGlo "_law_shows",
  cKeep GG 20,
  cMet GG 2 [(0, 9)],
  cGlo "_law_lines",
  cKeep GG 18,
  cFree "sorted",
  cFree "set",
  cGlo "rank_values",
  cKeep GG 14,
  cGlo "_law_pick",
  cKeep GG 17,
  cGlo "_law_great_right",
  cKeep GG 21,
  cGlo "law",
  cKeep GG 22]
def d0 : DefD := ⟨("is_number", none), "is_number", "is_number", defArgs (top 7), defBody (top 7), defScope (top 7), [], []⟩
def d1 : DefD := ⟨("check_number", none), "check_number", "check_number", defArgs (top 8), defBody (top 8), defScope (top 8), [], []⟩
def d2 : DefD := ⟨("check_known", none), "check_known", "check_known", defArgs (top 11), defBody (top 11), defScope (top 11), [], []⟩
def d3 : DefD := ⟨("spread_over", none), "spread_over", "spread_over", defArgs (top 12), defBody (top 12), defScope (top 12), [], []⟩
def d4 : DefD := ⟨("lowest_with", none), "lowest_with", "lowest_with", defArgs (top 13), defBody (top 13), defScope (top 13), [], []⟩
def d5 : DefD := ⟨("highest_with", none), "highest_with", "highest_with", defArgs (top 14), defBody (top 14), defScope (top 14), [], []⟩
def d6 : DefD := ⟨("row_with", none), "row_with", "row_with", defArgs (top 15), defBody (top 15), defScope (top 15), [], []⟩
def d7 : DefD := ⟨("Ends", some "__init__"), "__init__", "Ends.__init__", defArgs (inClass (top 16) 0), defBody (inClass (top 16) 0), defScope (inClass (top 16) 0), [], []⟩
def d8 : DefD := ⟨("Ends", some "__eq__"), "__eq__", "Ends.__eq__", defArgs (inClass (top 16) 1), defBody (inClass (top 16) 1), defScope (inClass (top 16) 1), [], []⟩
def d9 : DefD := ⟨("Ends", some "shows"), "shows", "Ends.shows", defArgs (inClass (top 16) 2), defBody (inClass (top 16) 2), defScope (inClass (top 16) 2), [], []⟩
def d10 : DefD := ⟨("check_asked", none), "check_asked", "check_asked", defArgs (top 17), defBody (top 17), defScope (top 17), [], []⟩
def d11 : DefD := ⟨("ends_of", none), "ends_of", "ends_of", defArgs (top 18), defBody (top 18), defScope (top 18), [], []⟩
def d12 : DefD := ⟨("at_least", none), "at_least", "at_least", defArgs (top 19), defBody (top 19), defScope (top 19), [], []⟩
def d13 : DefD := ⟨("reach_both", none), "reach_both", "reach_both", defArgs (top 20), defBody (top 20), defScope (top 20), [], []⟩
def d14 : DefD := ⟨("rank_values", none), "rank_values", "rank_values", defArgs (top 21), defBody (top 21), defScope (top 21), [], []⟩
def d15 : DefD := ⟨("_law_number", none), "_law_number", "_law_number", defArgs (top 23), defBody (top 23), defScope (top 23), [], []⟩
def d16 : DefD := ⟨("_law_take", none), "_law_take", "_law_take", defArgs (top 24), defBody (top 24), defScope (top 24), [], []⟩
def d17 : DefD := ⟨("_law_pick", none), "_law_pick", "_law_pick", defArgs (top 25), defBody (top 25), defScope (top 25), [], []⟩
def d18 : DefD := ⟨("_law_lines", none), "_law_lines", "_law_lines", defArgs (top 26), defBody (top 26), defScope (top 26), [], []⟩
def d19 : DefD := ⟨("_law_reaching", none), "_law_reaching", "_law_reaching", defArgs (top 27), defBody (top 27), defScope (top 27), [], []⟩
def d20 : DefD := ⟨("_law_shows", none), "_law_shows", "_law_shows", defArgs (top 28), defBody (top 28), defScope (top 28), [], []⟩
def d21 : DefD := ⟨("_law_great_right", none), "_law_great_right", "_law_great_right", defArgs (top 29), defBody (top 29), defScope (top 29), [], []⟩
def d22 : DefD := ⟨("law", none), "law", "law", defArgs (top 30), defBody (top 30), defScope (top 30), [], []⟩
def fn : List DefD := [d0, d1, d2, d3, d4, d5, d6, d7, d8, d9, d10, d11, d12, d13, d14, d15, d16, d17, d18, d19, d20, d21, d22]
structure Ctx (K : PySem.W.Frag) (base : Heap) (mg : Str → Option Value) : Prop where
  inn : K.In base
  ns : base.Ns mainGlobals mg
  says : SaysP fb fn K
theorem inj {K : PySem.W.Frag} (i : Nat) (hi : i < nms.length) : Inj (GG K) i := inj_nm i hi (by decide +kernel) (by decide +kernel)
section
variable {P : Program} {w : World} {K : PySem.W.Frag} {mg : Str → Option Value} {base : Heap}
theorem m_clsall (C : Ctx K base mg) : cCls GG [0] K = true := C.says.fact 0 rfl
theorem m_b_isinstance (C : Ctx K base mg) : mg "isinstance" = none := cFree_ok C.inn C.ns (C.says.fact 1 rfl)
theorem m_b_int (C : Ctx K base mg) : mg "int" = none := cFree_ok C.inn C.ns (C.says.fact 2 rfl)
theorem m_kit_intty (C : Ctx K base mg) : ∀ t b, (t, b) ∈ ([(.non, false), (.bl, true), (.int, true), (.str, false), (.tup, false), (.lst, false), (.dct, false), (.own 0, false)] : List (TyN × Bool)) → PySem.W.kitOne (GG K).K (t.val (GG K)) (.type "int") = some b ∧ ∀ c, t = .own c → ClsI (GG K) c := cKit_ok (G := GG) (cu := fun K => (.type "int")) rfl (C.says.fact 3 rfl) (m_clsall C) (by decide)
theorem m_b_bool (C : Ctx K base mg) : mg "bool" = none := cFree_ok C.inn C.ns (C.says.fact 4 rfl)
theorem m_kit_boolty (C : Ctx K base mg) : ∀ t b, (t, b) ∈ ([(.non, false), (.bl, true), (.int, false), (.str, false), (.tup, false), (.lst, false), (.dct, false), (.own 0, false)] : List (TyN × Bool)) → PySem.W.kitOne (GG K).K (t.val (GG K)) (.type "bool") = some b ∧ ∀ c, t = .own c → ClsI (GG K) c := cKit_ok (G := GG) (cu := fun K => (.type "bool")) rfl (C.says.fact 5 rfl) (m_clsall C) (by decide)
theorem m_f_is_number (C : Ctx K base mg) : mg "is_number" = some (.ref ((GG K).fa 0)) := cGlo_ok C.inn C.ns (C.says.fact 6 rfl)
theorem m_k_is_number (C : Ctx K base mg) : PySem.W.keepIn K (.ref ((GG K).fa 0)) = true := C.says.fact 7 rfl
theorem m_f_check_number (C : Ctx K base mg) : mg "check_number" = some (.ref ((GG K).fa 1)) := cGlo_ok C.inn C.ns (C.says.fact 8 rfl)
theorem m_k_check_number (C : Ctx K base mg) : PySem.W.keepIn K (.ref ((GG K).fa 1)) = true := C.says.fact 9 rfl
theorem m_i_MOST_ROWS (C : Ctx K base mg) : ∃ u, mg "MOST_ROWS" = some u ∧ RelV (.int (20)) u := cInt_ok C.inn C.ns (C.says.fact 10 rfl)
theorem m_i_MOST_VALUES (C : Ctx K base mg) : ∃ u, mg "MOST_VALUES" = some u ∧ RelV (.int (12)) u := cInt_ok C.inn C.ns (C.says.fact 11 rfl)
theorem m_b_list (C : Ctx K base mg) : mg "list" = none := cFree_ok C.inn C.ns (C.says.fact 12 rfl)
theorem m_spc___len__ (C : Ctx K base mg) : ∀ p ∈ ([] : List (Nat × Nat)), Spc (GG K).K ((GG K).ca p.1) ((GG K).fa p.2) "__len__" ∧ PySem.W.fnIn (GG K).K ((GG K).fa p.2) = true := cSpc_ok rfl (C.says.fact 13 rfl)
theorem m_b_len (C : Ctx K base mg) : mg "len" = none := cFree_ok C.inn C.ns (C.says.fact 14 rfl)
theorem m_b_range (C : Ctx K base mg) : mg "range" = none := cFree_ok C.inn C.ns (C.says.fact 15 rfl)
theorem m_spc___getitem__ (C : Ctx K base mg) : ∀ p ∈ ([] : List (Nat × Nat)), Spc (GG K).K ((GG K).ca p.1) ((GG K).fa p.2) "__getitem__" ∧ PySem.W.fnIn (GG K).K ((GG K).fa p.2) = true := cSpc_ok rfl (C.says.fact 16 rfl)
theorem m_b_min (C : Ctx K base mg) : mg "min" = none := cFree_ok C.inn C.ns (C.says.fact 17 rfl)
theorem m_b_tuple (C : Ctx K base mg) : mg "tuple" = none := cFree_ok C.inn C.ns (C.says.fact 18 rfl)
theorem m_f_lowest_with (C : Ctx K base mg) : mg "lowest_with" = some (.ref ((GG K).fa 4)) := cGlo_ok C.inn C.ns (C.says.fact 19 rfl)
theorem m_k_lowest_with (C : Ctx K base mg) : PySem.W.keepIn K (.ref ((GG K).fa 4)) = true := C.says.fact 20 rfl
theorem m_f_highest_with (C : Ctx K base mg) : mg "highest_with" = some (.ref ((GG K).fa 5)) := cGlo_ok C.inn C.ns (C.says.fact 21 rfl)
theorem m_k_highest_with (C : Ctx K base mg) : PySem.W.keepIn K (.ref ((GG K).fa 5)) = true := C.says.fact 22 rfl
theorem m_b_sum (C : Ctx K base mg) : mg "sum" = none := cFree_ok C.inn C.ns (C.says.fact 23 rfl)
theorem m_f_spread_over (C : Ctx K base mg) : mg "spread_over" = some (.ref ((GG K).fa 3)) := cGlo_ok C.inn C.ns (C.says.fact 24 rfl)
theorem m_k_spread_over (C : Ctx K base mg) : PySem.W.keepIn K (.ref ((GG K).fa 3)) = true := C.says.fact 25 rfl
theorem m_fld_least (C : Ctx K base mg) : ∀ c ∈ ([0] : List Nat), Cls (GG K).K ((GG K).ca c) ∧ NoAttr (GG K).K ((GG K).ca c) ((GG K).nm 0) := cFld_ok rfl (C.says.fact 26 rfl)
theorem m_fld_greatest (C : Ctx K base mg) : ∀ c ∈ ([0] : List Nat), Cls (GG K).K ((GG K).ca c) ∧ NoAttr (GG K).K ((GG K).ca c) ((GG K).nm 1) := cFld_ok rfl (C.says.fact 27 rfl)
theorem m_c_Ends (C : Ctx K base mg) : mg "Ends" = some (.ref ((GG K).ca 0)) := cGlo_ok C.inn C.ns (C.says.fact 28 rfl)
theorem m_kit_0own (C : Ctx K base mg) : ∀ t b, (t, b) ∈ ([(.non, false), (.bl, false), (.int, false), (.str, false), (.tup, false), (.lst, false), (.dct, false), (.own 0, true)] : List (TyN × Bool)) → PySem.W.kitOne (GG K).K (t.val (GG K)) (.ref ((GG K).ca 0)) = some b ∧ ∀ c, t = .own c → ClsI (GG K) c := cKit_ok (G := GG) (cu := fun K => (.ref ((GG K).ca 0))) rfl (C.says.fact 29 rfl) (m_clsall C) (by decide)
theorem m_eq_spc (C : Ctx K base mg) : cSpc GG [(0, 8)] "__eq__" K = true := C.says.fact 30 rfl
theorem m_eq_ne (C : Ctx K base mg) : cNe GG [(0, 8)] K = true := C.says.fact 31 rfl
theorem m_eq_nf (C : Ctx K base mg) : cNf GG [(0, 8)] [.non, .bl, .int, .str, .tup, .lst, .dct, .own 0] K = true := C.says.fact 32 rfl
theorem m_f_check_asked (C : Ctx K base mg) : mg "check_asked" = some (.ref ((GG K).fa 10)) := cGlo_ok C.inn C.ns (C.says.fact 33 rfl)
theorem m_k_check_asked (C : Ctx K base mg) : PySem.W.keepIn K (.ref ((GG K).fa 10)) = true := C.says.fact 34 rfl
theorem m_b_all (C : Ctx K base mg) : mg "all" = none := cFree_ok C.inn C.ns (C.says.fact 35 rfl)
theorem m_f_ends_of (C : Ctx K base mg) : mg "ends_of" = some (.ref ((GG K).fa 11)) := cGlo_ok C.inn C.ns (C.says.fact 36 rfl)
theorem m_k_ends_of (C : Ctx K base mg) : PySem.W.keepIn K (.ref ((GG K).fa 11)) = true := C.says.fact 37 rfl
theorem m_f_check_known (C : Ctx K base mg) : mg "check_known" = some (.ref ((GG K).fa 2)) := cGlo_ok C.inn C.ns (C.says.fact 38 rfl)
theorem m_k_check_known (C : Ctx K base mg) : PySem.W.keepIn K (.ref ((GG K).fa 2)) = true := C.says.fact 39 rfl
theorem m_b_max (C : Ctx K base mg) : mg "max" = none := cFree_ok C.inn C.ns (C.says.fact 40 rfl)
theorem m_f_row_with (C : Ctx K base mg) : mg "row_with" = some (.ref ((GG K).fa 6)) := cGlo_ok C.inn C.ns (C.says.fact 41 rfl)
theorem m_k_row_with (C : Ctx K base mg) : PySem.W.keepIn K (.ref ((GG K).fa 6)) = true := C.says.fact 42 rfl
theorem m_mk_Ends (C : Ctx K base mg) : Mk (GG K).K ((GG K).ca 0) ((GG K).fa 7) := cMk_ok rfl (C.says.fact 43 rfl)
theorem m_f__law_number (C : Ctx K base mg) : mg "_law_number" = some (.ref ((GG K).fa 15)) := cGlo_ok C.inn C.ns (C.says.fact 44 rfl)
theorem m_k__law_number (C : Ctx K base mg) : PySem.W.keepIn K (.ref ((GG K).fa 15)) = true := C.says.fact 45 rfl
theorem m_f__law_take (C : Ctx K base mg) : mg "_law_take" = some (.ref ((GG K).fa 16)) := cGlo_ok C.inn C.ns (C.says.fact 46 rfl)
theorem m_k__law_take (C : Ctx K base mg) : PySem.W.keepIn K (.ref ((GG K).fa 16)) = true := C.says.fact 47 rfl
theorem m_f__law_reaching (C : Ctx K base mg) : mg "_law_reaching" = some (.ref ((GG K).fa 19)) := cGlo_ok C.inn C.ns (C.says.fact 48 rfl)
theorem m_k__law_reaching (C : Ctx K base mg) : PySem.W.keepIn K (.ref ((GG K).fa 19)) = true := C.says.fact 49 rfl
theorem m_f_at_least (C : Ctx K base mg) : mg "at_least" = some (.ref ((GG K).fa 12)) := cGlo_ok C.inn C.ns (C.says.fact 50 rfl)
theorem m_k_at_least (C : Ctx K base mg) : PySem.W.keepIn K (.ref ((GG K).fa 12)) = true := C.says.fact 51 rfl
theorem m_f_reach_both (C : Ctx K base mg) : mg "reach_both" = some (.ref ((GG K).fa 13)) := cGlo_ok C.inn C.ns (C.says.fact 52 rfl)
theorem m_k_reach_both (C : Ctx K base mg) : PySem.W.keepIn K (.ref ((GG K).fa 13)) = true := C.says.fact 53 rfl
theorem m_f__law_shows (C : Ctx K base mg) : mg "_law_shows" = some (.ref ((GG K).fa 20)) := cGlo_ok C.inn C.ns (C.says.fact 54 rfl)
theorem m_k__law_shows (C : Ctx K base mg) : PySem.W.keepIn K (.ref ((GG K).fa 20)) = true := C.says.fact 55 rfl
theorem m_met_shows (C : Ctx K base mg) : ∀ p ∈ ([(0, 9)] : List (Nat × Nat)), Cls (GG K).K ((GG K).ca p.1) ∧ Meth (GG K).K ((GG K).ca p.1) ((GG K).nm 2) ((GG K).fa p.2) := cMet_ok rfl (C.says.fact 56 rfl)
theorem m_f__law_lines (C : Ctx K base mg) : mg "_law_lines" = some (.ref ((GG K).fa 18)) := cGlo_ok C.inn C.ns (C.says.fact 57 rfl)
theorem m_k__law_lines (C : Ctx K base mg) : PySem.W.keepIn K (.ref ((GG K).fa 18)) = true := C.says.fact 58 rfl
theorem m_b_sorted (C : Ctx K base mg) : mg "sorted" = none := cFree_ok C.inn C.ns (C.says.fact 59 rfl)
theorem m_b_set (C : Ctx K base mg) : mg "set" = none := cFree_ok C.inn C.ns (C.says.fact 60 rfl)
theorem m_f_rank_values (C : Ctx K base mg) : mg "rank_values" = some (.ref ((GG K).fa 14)) := cGlo_ok C.inn C.ns (C.says.fact 61 rfl)
theorem m_k_rank_values (C : Ctx K base mg) : PySem.W.keepIn K (.ref ((GG K).fa 14)) = true := C.says.fact 62 rfl
theorem m_f__law_pick (C : Ctx K base mg) : mg "_law_pick" = some (.ref ((GG K).fa 17)) := cGlo_ok C.inn C.ns (C.says.fact 63 rfl)
theorem m_k__law_pick (C : Ctx K base mg) : PySem.W.keepIn K (.ref ((GG K).fa 17)) = true := C.says.fact 64 rfl
theorem m_f__law_great_right (C : Ctx K base mg) : mg "_law_great_right" = some (.ref ((GG K).fa 21)) := cGlo_ok C.inn C.ns (C.says.fact 65 rfl)
theorem m_k__law_great_right (C : Ctx K base mg) : PySem.W.keepIn K (.ref ((GG K).fa 21)) = true := C.says.fact 66 rfl
theorem m_f_law (C : Ctx K base mg) : mg "law" = some (.ref ((GG K).fa 22)) := cGlo_ok C.inn C.ns (C.says.fact 67 rfl)
theorem m_k_law (C : Ctx K base mg) : PySem.W.keepIn K (.ref ((GG K).fa 22)) = true := C.says.fact 68 rfl
theorem m_eqt (C : Ctx K base mg) : EqT (GG K) [(0, 8)] [.non, .bl, .int, .str, .tup, .lst, .dct, .own 0] := cEq_ok rfl (m_eq_spc C) (m_eq_ne C) (m_eq_nf C) (m_clsall C) (by decide)
abbrev N0 : List Str := ["thing", "least", "most"]
theorem sc0 : FnScope N0 ["thing", "least", "most"] (defScope (top 7)) := ⟨rfl, rfl, rfl, by decide +kernel, rfl, by decide +kernel, by decide +kernel⟩
theorem dv0 {n : Nat} {cf : CF} (C : Ctx K base mg) (ih : ∀ f np, FnR P w K mg base L2.CX0 (2 * n) ((GG K).fa f) (spF (GG K) cf f np)) (cdv : Value) (A : Around) (outer : List PySem.Env) (s : Shared) (H : Hp) (E : XK) (n0 : Nat) (hr : Room (2 * n + 1) (A.deeper (envOfC "is_number" (defScope (top 7)) s.heap.objs.size ((GG K).fa 0) cdv))) :
    PSs (cxOf L2.CX0 P w K mg base N0 "is_number" (defScope (top 7)) ((GG K).fa 0) cdv A outer s H E).nox (defBody (top 7)) (rdS (GG K) n0 (sRet (eAn (eIsi [(.non, false), (.bl, true), (.int, true), (.str, false), (.tup, false), (.lst, false), (.dct, false), (.own 0, false)] (eVar 0)) (eAn (eNot (eIsi [(.non, false), (.bl, true), (.int, false), (.str, false), (.tup, false), (.lst, false), (.dct, false), (.own 0, false)] (eVar 0))) (eCh oLe oLe (eVar 1) (eVar 0) (eVar 2)))))) := by
  have T : Tb (cxOf L2.CX0 P w K mg base N0 "is_number" (defScope (top 7)) ((GG K).fa 0) cdv A outer s H E).nox (GG K) cf (2 * n) := ⟨rfl, ih, hr, rfl⟩
  have nd := sc0.nd
  exact (ss_one (ss_ret (se_and rfl (se_isi1 (cv := (.ty "int")) (cu := (.type "int")) rfl rfl (m_b_isinstance C) (by rfl) (.ty _) (m_kit_intty C) (se_var (pv 0)) (pe_bltn (v := .ty "int") (u := .type "int") rfl (m_b_int C) (by rfl) rfl (by decide))) (se_and rfl (se_not rfl (se_isi1 (cv := (.ty "bool")) (cu := (.type "bool")) rfl rfl (m_b_isinstance C) (by rfl) (.ty _) (m_kit_boolty C) (se_var (pv 0)) (pe_bltn (v := .ty "bool") (u := .type "bool") rfl (m_b_bool C) (by rfl) rfl (by decide)))) (se_one (se_ch op_le ok_le op_le ok_le (se_var (pv 1)) (se_var (pv 0)) (se_var (pv 2)) (pe_chain op_le op_le (toV (se_var (pv 1))) (toV (se_var (pv 0))) (toV (se_var (pv 2))))))))))
theorem ok0 {n : Nat} (C : Ctx K base mg) (ih : All P w K mg base (GG K) TT n) : ∀ np, FnR P w K mg base L2.CX0 (2 * (n + 1)) ((GG K).fa 0) (spF (GG K) (callF TT (n + 1)) 0 np) := by
  obtain ⟨fd, F⟩ := C.says.def_ 0 (d := d0) rfl
  exact def_ok (b := b0) rfl F sc0 rfl rfl (FunD_binds F fun _ _ _ _ _ _ us hl => match us, hl with | [_, _, _], _ => rfl) fun cdv A outer s H E n0 hr => dv0 C ih cdv A outer s H E n0 hr
abbrev N1 : List Str := ["thing", "least", "most"]
theorem sc1 : FnScope N1 ["thing", "least", "most"] (defScope (top 8)) := ⟨rfl, rfl, rfl, by decide +kernel, rfl, by decide +kernel, by decide +kernel⟩
theorem dv1 {n : Nat} {cf : CF} (C : Ctx K base mg) (ih : ∀ f np, FnR P w K mg base L2.CX0 (2 * n) ((GG K).fa f) (spF (GG K) cf f np)) (cdv : Value) (A : Around) (outer : List PySem.Env) (s : Shared) (H : Hp) (E : XK) (n0 : Nat) (hr : Room (2 * n + 1) (A.deeper (envOfC "check_number" (defScope (top 8)) s.heap.objs.size ((GG K).fa 1) cdv))) :
    PSs (cxOf L2.CX0 P w K mg base N1 "check_number" (defScope (top 8)) ((GG K).fa 1) cdv A outer s H E).nox (defBody (top 8)) (rdS (GG K) n0 (sIf (tNo (tTru (eCall cf 3 0 (aCons (eVar 0) (aCons (eVar 1) (aCons (eVar 2) aNil)))))) sNo sNil)) := by
  have T : Tb (cxOf L2.CX0 P w K mg base N1 "check_number" (defScope (top 8)) ((GG K).fa 1) cdv A outer s H E).nox (GG K) cf (2 * n) := ⟨rfl, ih, hr, rfl⟩
  have nd := sc1.nd
  exact (ss_one (ss_if (st_no (st_tru rfl (sx_call T rfl (m_f_is_number C) (m_k_is_number C) (sa_cons (se_var (pv 0)) (sa_cons (se_var (pv 1)) (sa_cons (se_var (pv 2)) sa_nil)))))) (ss_one ss_no) ss_nil))
theorem ok1 {n : Nat} (C : Ctx K base mg) (ih : All P w K mg base (GG K) TT n) : ∀ np, FnR P w K mg base L2.CX0 (2 * (n + 1)) ((GG K).fa 1) (spF (GG K) (callF TT (n + 1)) 1 np) := by
  obtain ⟨fd, F⟩ := C.says.def_ 1 (d := d1) rfl
  exact def_ok (b := b1) rfl F sc1 rfl rfl (FunD_binds F fun _ _ _ _ _ _ us hl => match us, hl with | [_, _, _], _ => rfl) fun cdv A outer s H E n0 hr => dv1 C ih cdv A outer s H E n0 hr
abbrev N2 : List Str := ["rows", "width", "total"]
theorem sc2 : FnScope N2 ["rows", "width", "total"] (defScope (top 11)) := ⟨rfl, rfl, rfl, by decide +kernel, rfl, by decide +kernel, by decide +kernel⟩
theorem dv2 {n : Nat} {cf : CF} (C : Ctx K base mg) (ih : ∀ f np, FnR P w K mg base L2.CX0 (2 * n) ((GG K).fa f) (spF (GG K) cf f np)) (cdv : Value) (A : Around) (outer : List PySem.Env) (s : Shared) (H : Hp) (E : XK) (n0 : Nat) (hr : Room (2 * n + 1) (A.deeper (envOfC "check_known" (defScope (top 11)) s.heap.objs.size ((GG K).fa 2) cdv))) :
    PSs (cxOf L2.CX0 P w K mg base N2 "check_known" (defScope (top 11)) ((GG K).fa 2) cdv A outer s H E).nox (defBody (top 11)) (rdS (GG K) n0 (sCons (sExp (eCall cf 3 1 (aCons (eVar 0) (aCons (eLit (.int 1)) (aCons (eLit (.int (20))) aNil))))) (sCons (sExp (eCall cf 3 1 (aCons (eVar 1) (aCons (eLit (.int 1)) (aCons (eLit (.int (12))) aNil))))) (sIf (tNo (tTru (eCall cf 3 0 (aCons (eVar 2) (aCons (eLit (.int 0)) (aCons (eBin oRep (eVar 0) (eBin oSub (eVar 1) (eLit (.int 1)))) aNil)))))) sNo sNil)))) := by
  have T : Tb (cxOf L2.CX0 P w K mg base N2 "check_known" (defScope (top 11)) ((GG K).fa 2) cdv A outer s H E).nox (GG K) cf (2 * n) := ⟨rfl, ih, hr, rfl⟩
  have nd := sc2.nd
  exact (ss_cons (ss_expr (sx_call T rfl (m_f_check_number C) (m_k_check_number C) (sa_cons (se_var (pv 0)) (sa_cons (se_lit pe_int fun _ _ => rfl) (sa_cons (se_lit (C8.pe_gc rfl (m_i_MOST_ROWS C)) fun _ _ => rfl) sa_nil)))))
 (ss_cons (ss_expr (sx_call T rfl (m_f_check_number C) (m_k_check_number C) (sa_cons (se_var (pv 1)) (sa_cons (se_lit pe_int fun _ _ => rfl) (sa_cons (se_lit (C8.pe_gc rfl (m_i_MOST_VALUES C)) fun _ _ => rfl) sa_nil)))))
 (ss_one (ss_if (st_no (st_tru rfl (sx_call T rfl (m_f_is_number C) (m_k_is_number C) (sa_cons (se_var (pv 2)) (sa_cons (se_lit pe_int fun _ _ => rfl) (sa_cons (se_bin op_repR ok_rep (se_var (pv 0)) (se_bin op_sub ok_sub (se_var (pv 1)) (se_lit pe_int fun _ _ => rfl))) sa_nil)))))) (ss_one ss_no) ss_nil))))
theorem ok2 {n : Nat} (C : Ctx K base mg) (ih : All P w K mg base (GG K) TT n) : ∀ np, FnR P w K mg base L2.CX0 (2 * (n + 1)) ((GG K).fa 2) (spF (GG K) (callF TT (n + 1)) 2 np) := by
  obtain ⟨fd, F⟩ := C.says.def_ 2 (d := d2) rfl
  exact def_ok (b := b2) rfl F sc2 rfl rfl (FunD_binds F fun _ _ _ _ _ _ us hl => match us, hl with | [_, _, _], _ => rfl) fun cdv A outer s H E n0 hr => dv2 C ih cdv A outer s H E n0 hr
abbrev N3 : List Str := ["row", "room", "more", "found", "at", "step"]
theorem sc3 : FnScope N3 ["row", "room", "more"] (defScope (top 12)) := ⟨rfl, rfl, rfl, by decide +kernel, rfl, by decide +kernel, by decide +kernel⟩
theorem dv3 {n : Nat} {cf : CF} (C : Ctx K base mg) (ih : ∀ f np, FnR P w K mg base L2.CX0 (2 * n) ((GG K).fa f) (spF (GG K) cf f np)) (cdv : Value) (A : Around) (outer : List PySem.Env) (s : Shared) (H : Hp) (E : XK) (n0 : Nat) (hr : Room (2 * n + 1) (A.deeper (envOfC "spread_over" (defScope (top 12)) s.heap.objs.size ((GG K).fa 3) cdv))) :
    PSs (cxOf L2.CX0 P w K mg base N3 "spread_over" (defScope (top 12)) ((GG K).fa 3) cdv A outer s H E).nox (defBody (top 12)) (rdS (GG K) n0 (sCons (sAsg (gNm 3) (eNew (eArg bList (aCons (eVar 0) aNil)))) (sCons (sFor (iRg3 (eBin oSub (eLen cf [] (eVar 3)) (eLit (.int 1))) (eUn oNeg (eLit (.int 1))) (eUn oNeg (eLit (.int 1)))) (gNm 4) (sCons (sAsg (gNm 5) (eArg bMin2 (aCons (eVar 2) (aCons (eBin oSub (eIx cf [] (eVar 1) (eVar 4)) (eIx cf [] (eVar 3) (eVar 4))) aNil)))) (sCons (sAugI oAdd oGet (setG n0) (eVar 3) (eVar 4) (eVar 5)) (sAug 2 oSub (eVar 5))))) (sRet (eArg bTuple (aCons (eVar 3) aNil)))))) := by
  have T : Tb (cxOf L2.CX0 P w K mg base N3 "spread_over" (defScope (top 12)) ((GG K).fa 3) cdv A outer s H E).nox (GG K) cf (2 * n) := ⟨rfl, ih, hr, rfl⟩
  have nd := sc3.nd
  exact (ss_cons (ss_asg (ps_asg (toV (se_new (se_argB (pe_callTy call_list_of rfl (m_b_list C) (by rfl) (sa_cons (se_var (pv 0)) sa_nil)) ok_list))) (pg_name (i := 3) nd rfl (by first | exact Or.inl rfl | exact Or.inr rfl))) (tg_nm 3))
 (ss_cons (ss_for (ps_for PassesOwn.never rfl (si_rng3 rfl (m_b_range C) (se_bin op_sub ok_sub (se_len T rfl (m_b_len C) (fun p hp => ((m_spc___len__ C) p hp).1) (se_var (pv 3))) (se_lit pe_int fun _ _ => rfl)) (se_un un_neg ok_neg (se_lit pe_int fun _ _ => rfl)) (se_un un_neg ok_neg (se_lit pe_int fun _ _ => rfl))) (pg_name (i := 4) nd rfl (by first | exact Or.inl rfl | exact Or.inr rfl)) (ss_cons (ss_asg (ps_asg (toV (se_argB (pe_callB (call_min2 rfl) rfl (m_b_min C) (by rfl) (sa_cons (se_var (pv 2)) (sa_cons (se_bin op_sub ok_sub (se_ixG T (m_spc___getitem__ C) (se_var (pv 1)) (se_var (pv 4)) (fun _ _ => rfl) (fun _ _ => by with_unfolding_all rfl)) (se_ixG T (m_spc___getitem__ C) (se_var (pv 3)) (se_var (pv 4)) (fun _ _ => rfl) (fun _ _ => by with_unfolding_all rfl))) sa_nil))) ok_min2)) (pg_name (i := 5) nd rfl (by first | exact Or.inl rfl | exact Or.inr rfl))) (tg_nm 5))
 (ss_cons (ss_augI ok_get ok_add chg_setG (ps_augS (toV (se_var (pv 3))) (toV (se_var (pv 4))) (get_G (units2 T)) (toV (se_var (pv 5))) iop_add (set_G (units2 T))))
 (ss_one (ss_aug (ps_aug (i := 2) nd rfl (by first | exact Or.inl rfl | exact Or.inr rfl) (toV (se_var (pv 5))) iop_sub) ok_sub))))) (tg_nm 4))
 (ss_one (ss_ret (se_argB (pe_callTy call_tuple_of rfl (m_b_tuple C) (by rfl) (sa_cons (se_var (pv 3)) sa_nil)) ok_tuple)))))
theorem ok3 {n : Nat} (C : Ctx K base mg) (ih : All P w K mg base (GG K) TT n) : ∀ np, FnR P w K mg base L2.CX0 (2 * (n + 1)) ((GG K).fa 3) (spF (GG K) (callF TT (n + 1)) 3 np) := by
  obtain ⟨fd, F⟩ := C.says.def_ 3 (d := d3) rfl
  exact def_ok (b := b3) rfl F sc3 rfl rfl (FunD_binds F fun _ _ _ _ _ _ us hl => match us, hl with | [_, _, _], _ => rfl) fun cdv A outer s H E n0 hr => dv3 C ih cdv A outer s H E n0 hr
abbrev N4 : List Str := ["rows", "value", "many"]
theorem sc4 : FnScope N4 ["rows", "value", "many"] (defScope (top 13)) := ⟨rfl, rfl, rfl, by decide +kernel, rfl, by decide +kernel, by decide +kernel⟩
theorem dv4 {n : Nat} {cf : CF} (C : Ctx K base mg) (ih : ∀ f np, FnR P w K mg base L2.CX0 (2 * n) ((GG K).fa f) (spF (GG K) cf f np)) (cdv : Value) (A : Around) (outer : List PySem.Env) (s : Shared) (H : Hp) (E : XK) (n0 : Nat) (hr : Room (2 * n + 1) (A.deeper (envOfC "lowest_with" (defScope (top 13)) s.heap.objs.size ((GG K).fa 4) cdv))) :
    PSs (cxOf L2.CX0 P w K mg base N4 "lowest_with" (defScope (top 13)) ((GG K).fa 4) cdv A outer s H E).nox (defBody (top 13)) (rdS (GG K) n0 (sRet (eBin oCat (eBin oRep (eLst (aCons (eLit (.int 0)) aNil)) (eBin oSub (eVar 0) (eVar 2))) (eBin oRep (eLst (aCons (eVar 1) aNil)) (eVar 2))))) := by
  have T : Tb (cxOf L2.CX0 P w K mg base N4 "lowest_with" (defScope (top 13)) ((GG K).fa 4) cdv A outer s H E).nox (GG K) cf (2 * n) := ⟨rfl, ih, hr, rfl⟩
  have nd := sc4.nd
  exact (ss_one (ss_ret (se_bin op_catR ok_cat (se_bin op_repR ok_rep (se_lst (sa_cons (se_lit pe_int fun _ _ => rfl) sa_nil)) (se_bin op_sub ok_sub (se_var (pv 0)) (se_var (pv 2)))) (se_bin op_repR ok_rep (se_lst (sa_cons (se_var (pv 1)) sa_nil)) (se_var (pv 2))))))
theorem ok4 {n : Nat} (C : Ctx K base mg) (ih : All P w K mg base (GG K) TT n) : ∀ np, FnR P w K mg base L2.CX0 (2 * (n + 1)) ((GG K).fa 4) (spF (GG K) (callF TT (n + 1)) 4 np) := by
  obtain ⟨fd, F⟩ := C.says.def_ 4 (d := d4) rfl
  exact def_ok (b := b4) rfl F sc4 rfl rfl (FunD_binds F fun _ _ _ _ _ _ us hl => match us, hl with | [_, _, _], _ => rfl) fun cdv A outer s H E n0 hr => dv4 C ih cdv A outer s H E n0 hr
abbrev N5 : List Str := ["rows", "width", "value", "many"]
theorem sc5 : FnScope N5 ["rows", "width", "value", "many"] (defScope (top 14)) := ⟨rfl, rfl, rfl, by decide +kernel, rfl, by decide +kernel, by decide +kernel⟩
theorem dv5 {n : Nat} {cf : CF} (C : Ctx K base mg) (ih : ∀ f np, FnR P w K mg base L2.CX0 (2 * n) ((GG K).fa f) (spF (GG K) cf f np)) (cdv : Value) (A : Around) (outer : List PySem.Env) (s : Shared) (H : Hp) (E : XK) (n0 : Nat) (hr : Room (2 * n + 1) (A.deeper (envOfC "highest_with" (defScope (top 14)) s.heap.objs.size ((GG K).fa 5) cdv))) :
    PSs (cxOf L2.CX0 P w K mg base N5 "highest_with" (defScope (top 14)) ((GG K).fa 5) cdv A outer s H E).nox (defBody (top 14)) (rdS (GG K) n0 (sRet (eBin oCat (eBin oRep (eLst (aCons (eBin oSub (eVar 2) (eLit (.int 1))) aNil)) (eBin oSub (eVar 0) (eVar 3))) (eBin oRep (eLst (aCons (eBin oSub (eVar 1) (eLit (.int 1))) aNil)) (eVar 3))))) := by
  have T : Tb (cxOf L2.CX0 P w K mg base N5 "highest_with" (defScope (top 14)) ((GG K).fa 5) cdv A outer s H E).nox (GG K) cf (2 * n) := ⟨rfl, ih, hr, rfl⟩
  have nd := sc5.nd
  exact (ss_one (ss_ret (se_bin op_catR ok_cat (se_bin op_repR ok_rep (se_lst (sa_cons (se_bin op_sub ok_sub (se_var (pv 2)) (se_lit pe_int fun _ _ => rfl)) sa_nil)) (se_bin op_sub ok_sub (se_var (pv 0)) (se_var (pv 3)))) (se_bin op_repR ok_rep (se_lst (sa_cons (se_bin op_sub ok_sub (se_var (pv 1)) (se_lit pe_int fun _ _ => rfl)) sa_nil)) (se_var (pv 3))))))
theorem ok5 {n : Nat} (C : Ctx K base mg) (ih : All P w K mg base (GG K) TT n) : ∀ np, FnR P w K mg base L2.CX0 (2 * (n + 1)) ((GG K).fa 5) (spF (GG K) (callF TT (n + 1)) 5 np) := by
  obtain ⟨fd, F⟩ := C.says.def_ 5 (d := d5) rfl
  exact def_ok (b := b5) rfl F sc5 rfl rfl (FunD_binds F fun _ _ _ _ _ _ us hl => match us, hl with | [_, _, _, _], _ => rfl) fun cdv A outer s H E n0 hr => dv5 C ih cdv A outer s H E n0 hr
abbrev N6 : List Str := ["rows", "width", "total", "value", "many", "low", "high"]
theorem sc6 : FnScope N6 ["rows", "width", "total", "value", "many"] (defScope (top 15)) := ⟨rfl, rfl, rfl, by decide +kernel, rfl, by decide +kernel, by decide +kernel⟩
theorem dv6 {n : Nat} {cf : CF} (C : Ctx K base mg) (ih : ∀ f np, FnR P w K mg base L2.CX0 (2 * n) ((GG K).fa f) (spF (GG K) cf f np)) (cdv : Value) (A : Around) (outer : List PySem.Env) (s : Shared) (H : Hp) (E : XK) (n0 : Nat) (hr : Room (2 * n + 1) (A.deeper (envOfC "row_with" (defScope (top 15)) s.heap.objs.size ((GG K).fa 6) cdv))) :
    PSs (cxOf L2.CX0 P w K mg base N6 "row_with" (defScope (top 15)) ((GG K).fa 6) cdv A outer s H E).nox (defBody (top 15)) (rdS (GG K) n0 (sCons (sPar [5, 6] (aCons (eCall cf 3 4 (aCons (eVar 0) (aCons (eVar 3) (aCons (eVar 4) aNil)))) (aCons (eCall cf 4 5 (aCons (eVar 0) (aCons (eVar 1) (aCons (eVar 3) (aCons (eVar 4) aNil))))) aNil))) (sCons (sIf (tNo (tBl (eCh oLe oLe (eArg bSum (aCons (eVar 5) aNil)) (eVar 2) (eArg bSum (aCons (eVar 6) aNil))))) (sRet (eLit .non)) sNil) (sRet (eCall cf 3 3 (aCons (eVar 5) (aCons (eVar 6) (aCons (eBin oSub (eVar 2) (eArg bSum (aCons (eVar 5) aNil))) aNil)))))))) := by
  have T : Tb (cxOf L2.CX0 P w K mg base N6 "row_with" (defScope (top 15)) ((GG K).fa 6) cdv A outer s H E).nox (GG K) cf (2 * n) := ⟨rfl, ih, hr, rfl⟩
  have nd := sc6.nd
  exact (ss_cons (ss_par (ps_par (i := 5) (j := 6) rfl nd rfl rfl (by decide) rfl rfl (sa_cons (sx_call T rfl (m_f_lowest_with C) (m_k_lowest_with C) (sa_cons (se_var (pv 0)) (sa_cons (se_var (pv 3)) (sa_cons (se_var (pv 4)) sa_nil)))) (sa_cons (sx_call T rfl (m_f_highest_with C) (m_k_highest_with C) (sa_cons (se_var (pv 0)) (sa_cons (se_var (pv 1)) (sa_cons (se_var (pv 3)) (sa_cons (se_var (pv 4)) sa_nil))))) sa_nil)) (by rfl)))
 (ss_cons (ss_if (st_no (st_ch op_le ok_le op_le ok_le (se_argB (pe_callB (cr_sumA rfl) rfl (m_b_sum C) (by rfl) (sa_cons (se_var (pv 5)) sa_nil)) ok_sum) (se_var (pv 2)) (se_argB (pe_callB (cr_sumA rfl) rfl (m_b_sum C) (by rfl) (sa_cons (se_var (pv 6)) sa_nil)) ok_sum))) (ss_one (ss_ret (se_lit pe_non fun _ _ => rfl))) ss_nil)
 (ss_one (ss_ret (sx_call T rfl (m_f_spread_over C) (m_k_spread_over C) (sa_cons (se_var (pv 5)) (sa_cons (se_var (pv 6)) (sa_cons (se_bin op_sub ok_sub (se_var (pv 2)) (se_argB (pe_callB (cr_sumA rfl) rfl (m_b_sum C) (by rfl) (sa_cons (se_var (pv 5)) sa_nil)) ok_sum)) sa_nil))))))))
theorem ok6 {n : Nat} (C : Ctx K base mg) (ih : All P w K mg base (GG K) TT n) : ∀ np, FnR P w K mg base L2.CX0 (2 * (n + 1)) ((GG K).fa 6) (spF (GG K) (callF TT (n + 1)) 6 np) := by
  obtain ⟨fd, F⟩ := C.says.def_ 6 (d := d6) rfl
  exact def_ok (b := b6) rfl F sc6 rfl rfl (FunD_binds F fun _ _ _ _ _ _ us hl => match us, hl with | [_, _, _, _, _], _ => rfl) fun cdv A outer s H E n0 hr => dv6 C ih cdv A outer s H E n0 hr
abbrev N7 : List Str := ["self", "least", "greatest"]
theorem sc7 : FnScope N7 ["self", "least", "greatest"] (defScope (inClass (top 16) 0)) := ⟨rfl, rfl, rfl, by decide +kernel, rfl, by decide +kernel, by decide +kernel⟩
theorem dv7 {n : Nat} {cf : CF} (C : Ctx K base mg) (ih : ∀ f np, FnR P w K mg base L2.CX0 (2 * n) ((GG K).fa f) (spF (GG K) cf f np)) (cdv : Value) (A : Around) (outer : List PySem.Env) (s : Shared) (H : Hp) (E : XK) (n0 : Nat) (hr : Room (2 * n + 1) (A.deeper (envOfC "Ends.__init__" (defScope (inClass (top 16) 0)) s.heap.objs.size ((GG K).fa 7) cdv))) :
    PSs (cxOf L2.CX0 P w K mg base N7 "Ends.__init__" (defScope (inClass (top 16) 0)) ((GG K).fa 7) cdv A outer s H E).nox (defBody (inClass (top 16) 0)) (rdS (GG K) n0 (sCons (sFld n0 [0] 0 (eVar 0) (eArg bTuple (aCons (eVar 1) aNil))) (sFld n0 [0] 1 (eVar 0) (eArg bTuple (aCons (eVar 2) aNil))))) := by
  have T : Tb (cxOf L2.CX0 P w K mg base N7 "Ends.__init__" (defScope (inClass (top 16) 0)) ((GG K).fa 7) cdv A outer s H E).nox (GG K) cf (2 * n) := ⟨rfl, ih, hr, rfl⟩
  have nd := sc7.nd
  exact (ss_cons (ss_fld (f := 0) rfl (inj 0 (by decide)) (m_fld_least C) (se_var (pv 0)) (se_argB (pe_callTy call_tuple_of rfl (m_b_tuple C) (by rfl) (sa_cons (se_var (pv 1)) sa_nil)) ok_tuple))
 (ss_one (ss_fld (f := 1) rfl (inj 1 (by decide)) (m_fld_greatest C) (se_var (pv 0)) (se_argB (pe_callTy call_tuple_of rfl (m_b_tuple C) (by rfl) (sa_cons (se_var (pv 2)) sa_nil)) ok_tuple))))
theorem ok7 {n : Nat} (C : Ctx K base mg) (ih : All P w K mg base (GG K) TT n) : ∀ np, FnR P w K mg base L2.CX0 (2 * (n + 1)) ((GG K).fa 7) (spF (GG K) (callF TT (n + 1)) 7 np) := by
  obtain ⟨fd, F⟩ := C.says.def_ 7 (d := d7) rfl
  exact def_ok (b := b7) rfl F sc7 rfl rfl (FunD_binds F fun _ _ _ _ _ _ us hl => match us, hl with | [_, _, _], _ => rfl) fun cdv A outer s H E n0 hr => dv7 C ih cdv A outer s H E n0 hr
abbrev N8 : List Str := ["self", "other"]
theorem sc8 : FnScope N8 ["self", "other"] (defScope (inClass (top 16) 1)) := ⟨rfl, rfl, rfl, by decide +kernel, rfl, by decide +kernel, by decide +kernel⟩
theorem dv8 {n : Nat} {cf : CF} (C : Ctx K base mg) (ih : ∀ f np, FnR P w K mg base L2.CX0 (2 * n) ((GG K).fa f) (spF (GG K) cf f np)) (cdv : Value) (A : Around) (outer : List PySem.Env) (s : Shared) (H : Hp) (E : XK) (n0 : Nat) (hr : Room (2 * n + 1) (A.deeper (envOfC "Ends.__eq__" (defScope (inClass (top 16) 1)) s.heap.objs.size ((GG K).fa 8) cdv))) :
    PSs (cxOf L2.CX0 P w K mg base N8 "Ends.__eq__" (defScope (inClass (top 16) 1)) ((GG K).fa 8) cdv A outer s H E).nox (defBody (inClass (top 16) 1)) (rdS (GG K) n0 (sRet (eAn (eIsi [(.non, false), (.bl, false), (.int, false), (.str, false), (.tup, false), (.lst, false), (.dct, false), (.own 0, true)] (eVar 1)) (eEq cf [(0, 8)] [.non, .bl, .int, .str, .tup, .lst, .dct, .own 0] (eTup (aCons (eFld [0] 0 (eVar 0)) (aCons (eFld [0] 1 (eVar 0)) aNil))) (eTup (aCons (eFld [0] 0 (eVar 1)) (aCons (eFld [0] 1 (eVar 1)) aNil))))))) := by
  have T : Tb (cxOf L2.CX0 P w K mg base N8 "Ends.__eq__" (defScope (inClass (top 16) 1)) ((GG K).fa 8) cdv A outer s H E).nox (GG K) cf (2 * n) := ⟨rfl, ih, hr, rfl⟩
  have nd := sc8.nd
  exact (ss_one (ss_ret (se_and rfl (se_isi1 (cv := (.ref ((GG K).ca 0))) (cu := (.ref ((GG K).ca 0))) rfl rfl (m_b_isinstance C) (by rfl) (.own _) (m_kit_0own C) (se_var (pv 1)) (pe_glob (v := .ref ((GG K).ca 0)) rfl (m_c_Ends C) rfl)) (se_one (se_eq T (m_eqt C) (se_tup (sa_cons (se_fld (f := 0) rfl (inj 0 (by decide)) (m_fld_least C) (se_var (pv 0))) (sa_cons (se_fld (f := 1) rfl (inj 1 (by decide)) (m_fld_greatest C) (se_var (pv 0))) sa_nil))) (se_tup (sa_cons (se_fld (f := 0) rfl (inj 0 (by decide)) (m_fld_least C) (se_var (pv 1))) (sa_cons (se_fld (f := 1) rfl (inj 1 (by decide)) (m_fld_greatest C) (se_var (pv 1))) sa_nil))) (nomark _))))))
theorem ok8 {n : Nat} (C : Ctx K base mg) (ih : All P w K mg base (GG K) TT n) : ∀ np, FnR P w K mg base L2.CX0 (2 * (n + 1)) ((GG K).fa 8) (spF (GG K) (callF TT (n + 1)) 8 np) := by
  obtain ⟨fd, F⟩ := C.says.def_ 8 (d := d8) rfl
  exact def_ok (b := b8) rfl F sc8 rfl rfl (FunD_binds F fun _ _ _ _ _ _ us hl => match us, hl with | [_, _], _ => rfl) fun cdv A outer s H E n0 hr => dv8 C ih cdv A outer s H E n0 hr
abbrev N9 : List Str := ["self", "rows", "width", "total", "value", "some", "numbers", "one"]
theorem sc9 : FnScope N9 ["self", "rows", "width", "total", "value"] (defScope (inClass (top 16) 2)) := ⟨rfl, rfl, rfl, by decide +kernel, rfl, by decide +kernel, by decide +kernel⟩
theorem dv9 {n : Nat} {cf : CF} (C : Ctx K base mg) (ih : ∀ f np, FnR P w K mg base L2.CX0 (2 * n) ((GG K).fa f) (spF (GG K) cf f np)) (cdv : Value) (A : Around) (outer : List PySem.Env) (s : Shared) (H : Hp) (E : XK) (n0 : Nat) (hr : Room (2 * n + 1) (A.deeper (envOfC "Ends.shows" (defScope (inClass (top 16) 2)) s.heap.objs.size ((GG K).fa 9) cdv))) :
    PSs (cxOf L2.CX0 P w K mg base N9 "Ends.shows" (defScope (inClass (top 16) 2)) ((GG K).fa 9) cdv A outer s H E).nox (defBody (inClass (top 16) 2)) (rdS (GG K) n0 (sCons (sExp (eCall cf 4 10 (aCons (eVar 1) (aCons (eVar 2) (aCons (eVar 3) (aCons (eVar 4) aNil)))))) (sCons (sFor (iSeq (eTup (aCons (eFld [0] 0 (eVar 0)) (aCons (eFld [0] 1 (eVar 0)) aNil)))) (gNm 5) (sIf (tOr (tBl (eNe cf [(0, 8)] [.non, .bl, .int, .str, .tup, .lst, .dct, .own 0] (eLen cf [] (eVar 5)) (eVar 1))) (tOr (tNo (tTru (eArg bAll (aCons (eLc (iSeq (eVar 5)) (gNm 7) [7] tYesP (eCall cf 3 0 (aCons (eVar 7) (aCons (eLit (.int 0)) (aCons (eBin oSub (eVar 2) (eLit (.int 1))) aNil))))) aNil)))) (tBl (eNe cf [(0, 8)] [.non, .bl, .int, .str, .tup, .lst, .dct, .own 0] (eArg bSum (aCons (eVar 5) aNil)) (eVar 3))))) (sRet (eLit (.bl false))) sNil)) (sCons (sAsg (gNm 6) (eLc (iSeq (eTup (aCons (eFld [0] 0 (eVar 0)) (aCons (eFld [0] 1 (eVar 0)) aNil)))) (gNm 5) [5] tYesP (eLen cf [] (eLc (iSeq (eVar 5)) (gNm 7) [7] (tBl (eBin oGe (eVar 7) (eVar 4))) (eVar 7))))) (sRet (eEq cf [(0, 8)] [.non, .bl, .int, .str, .tup, .lst, .dct, .own 0] (eArg bTuple (aCons (eVar 6) aNil)) (eCall cf 4 11 (aCons (eVar 1) (aCons (eVar 2) (aCons (eVar 3) (aCons (eVar 4) aNil))))))))))) := by
  have T : Tb (cxOf L2.CX0 P w K mg base N9 "Ends.shows" (defScope (inClass (top 16) 2)) ((GG K).fa 9) cdv A outer s H E).nox (GG K) cf (2 * n) := ⟨rfl, ih, hr, rfl⟩
  have nd := sc9.nd
  exact (ss_cons (ss_expr (sx_call T rfl (m_f_check_asked C) (m_k_check_asked C) (sa_cons (se_var (pv 1)) (sa_cons (se_var (pv 2)) (sa_cons (se_var (pv 3)) (sa_cons (se_var (pv 4)) sa_nil))))))
 (ss_cons (ss_for (ps_for PassesOwn.never rfl (si_seq rfl (se_tup (sa_cons (se_fld (f := 0) rfl (inj 0 (by decide)) (m_fld_least C) (se_var (pv 0))) (sa_cons (se_fld (f := 1) rfl (inj 1 (by decide)) (m_fld_greatest C) (se_var (pv 0))) sa_nil)))) (pg_name (i := 5) nd rfl (by first | exact Or.inl rfl | exact Or.inr rfl)) (ss_one (ss_if (PW.pt (sw_or (st_ne T (m_eqt C) (se_len T rfl (m_b_len C) (fun p hp => ((m_spc___len__ C) p hp).1) (se_var (pv 5))) (se_var (pv 1)) (nomark _)) (sw_or (st_no (st_tru rfl (se_argB (pe_callB (cr_all rfl) rfl (m_b_all C) (by rfl) (sa_cons (se_lc (own := [("one", 7)]) rfl nd (si_seq rfl (se_var (pv 5))) (blk_ok (own := [("one", 7)]) (by kernel_rfl)) (tb_nm 7 (by decide)) (fun _ _ _ _ _ => (pg_name (i := 7) nd rfl (by first | exact Or.inl rfl | exact Or.inr rfl))) (fun _ _ _ _ _ => sts_nil) (fun _ _ _ _ _ => (sx_call (T.blk _ _ _ _ _) rfl (m_f_is_number C) (m_k_is_number C) (sa_cons (se_var (pv 7)) (sa_cons (se_lit pe_int fun _ _ => rfl) (sa_cons (se_bin op_sub ok_sub (se_var (pv 2)) (se_lit pe_int fun _ _ => rfl)) sa_nil)))))) sa_nil)) ok_all))) (sw_one (st_ne T (m_eqt C) (se_argB (pe_callB (cr_sumA rfl) rfl (m_b_sum C) (by rfl) (sa_cons (se_var (pv 5)) sa_nil)) ok_sum) (se_var (pv 3)) (nomark _)))))) (ss_one (ss_ret (se_lit pe_bl fun _ _ => rfl))) ss_nil))) (tg_nm 5))
 (ss_cons (ss_asg (asgV (ss_setLc (own := [("some", 5)]) rfl nd (i := 6) rfl rfl (by rfl) (si_seq rfl (se_tup (sa_cons (se_fld (f := 0) rfl (inj 0 (by decide)) (m_fld_least C) (se_var (pv 0))) (sa_cons (se_fld (f := 1) rfl (inj 1 (by decide)) (m_fld_greatest C) (se_var (pv 0))) sa_nil)))) (blk_ok (own := [("some", 5)]) (by kernel_rfl)) (tb_nm 5 (by decide)) (fun _ _ _ _ _ => (pg_name (i := 5) nd rfl (by first | exact Or.inl rfl | exact Or.inr rfl))) (fun _ _ _ _ _ => sts_nil) (fun _ _ _ _ _ => (se_len (T.blk _ _ _ _ _) rfl (m_b_len C) (fun p hp => ((m_spc___len__ C) p hp).1) (se_lc (own := [("one", 7)]) rfl nd (si_seq rfl (se_var (pv 5))) (blk_ok (own := [("one", 7)]) (by kernel_rfl)) (tb_nm 7 (by decide)) (fun _ _ _ _ _ => (pg_name (i := 7) nd rfl (by first | exact Or.inl rfl | exact Or.inr rfl))) (fun _ _ _ _ _ => (sts_one (st_cmp op_ge ok_ge (se_var (pv 7)) (se_var (pv 4)) (nomark _)))) (fun _ _ _ _ _ => (se_var (pv 7)))))))) (tg_nm 6))
 (ss_one (ss_ret (se_eq T (m_eqt C) (se_argB (pe_callTy call_tuple_of rfl (m_b_tuple C) (by rfl) (sa_cons (se_var (pv 6)) sa_nil)) ok_tuple) (sx_call T rfl (m_f_ends_of C) (m_k_ends_of C) (sa_cons (se_var (pv 1)) (sa_cons (se_var (pv 2)) (sa_cons (se_var (pv 3)) (sa_cons (se_var (pv 4)) sa_nil))))) (nomark _)))))))
theorem ok9 {n : Nat} (C : Ctx K base mg) (ih : All P w K mg base (GG K) TT n) : ∀ np, FnR P w K mg base L2.CX0 (2 * (n + 1)) ((GG K).fa 9) (spF (GG K) (callF TT (n + 1)) 9 np) := by
  obtain ⟨fd, F⟩ := C.says.def_ 9 (d := d9) rfl
  exact def_ok (b := b9) rfl F sc9 rfl rfl (FunD_binds F fun _ _ _ _ _ _ us hl => match us, hl with | [_, _, _, _, _], _ => rfl) fun cdv A outer s H E n0 hr => dv9 C ih cdv A outer s H E n0 hr
abbrev N10 : List Str := ["rows", "width", "total", "value"]
theorem sc10 : FnScope N10 ["rows", "width", "total", "value"] (defScope (top 17)) := ⟨rfl, rfl, rfl, by decide +kernel, rfl, by decide +kernel, by decide +kernel⟩
theorem dv10 {n : Nat} {cf : CF} (C : Ctx K base mg) (ih : ∀ f np, FnR P w K mg base L2.CX0 (2 * n) ((GG K).fa f) (spF (GG K) cf f np)) (cdv : Value) (A : Around) (outer : List PySem.Env) (s : Shared) (H : Hp) (E : XK) (n0 : Nat) (hr : Room (2 * n + 1) (A.deeper (envOfC "check_asked" (defScope (top 17)) s.heap.objs.size ((GG K).fa 10) cdv))) :
    PSs (cxOf L2.CX0 P w K mg base N10 "check_asked" (defScope (top 17)) ((GG K).fa 10) cdv A outer s H E).nox (defBody (top 17)) (rdS (GG K) n0 (sCons (sExp (eCall cf 3 2 (aCons (eVar 0) (aCons (eVar 1) (aCons (eVar 2) aNil))))) (sIf (tNo (tTru (eCall cf 3 0 (aCons (eVar 3) (aCons (eLit (.int 1)) (aCons (eBin oSub (eVar 1) (eLit (.int 1))) aNil)))))) sNo sNil))) := by
  have T : Tb (cxOf L2.CX0 P w K mg base N10 "check_asked" (defScope (top 17)) ((GG K).fa 10) cdv A outer s H E).nox (GG K) cf (2 * n) := ⟨rfl, ih, hr, rfl⟩
  have nd := sc10.nd
  exact (ss_cons (ss_expr (sx_call T rfl (m_f_check_known C) (m_k_check_known C) (sa_cons (se_var (pv 0)) (sa_cons (se_var (pv 1)) (sa_cons (se_var (pv 2)) sa_nil)))))
 (ss_one (ss_if (st_no (st_tru rfl (sx_call T rfl (m_f_is_number C) (m_k_is_number C) (sa_cons (se_var (pv 3)) (sa_cons (se_lit pe_int fun _ _ => rfl) (sa_cons (se_bin op_sub ok_sub (se_var (pv 1)) (se_lit pe_int fun _ _ => rfl)) sa_nil)))))) (ss_one ss_no) ss_nil)))
theorem ok10 {n : Nat} (C : Ctx K base mg) (ih : All P w K mg base (GG K) TT n) : ∀ np, FnR P w K mg base L2.CX0 (2 * (n + 1)) ((GG K).fa 10) (spF (GG K) (callF TT (n + 1)) 10 np) := by
  obtain ⟨fd, F⟩ := C.says.def_ 10 (d := d10) rfl
  exact def_ok (b := b10) rfl F sc10 rfl rfl (FunD_binds F fun _ _ _ _ _ _ us hl => match us, hl with | [_, _, _, _], _ => rfl) fun cdv A outer s H E n0 hr => dv10 C ih cdv A outer s H E n0 hr
abbrev N11 : List Str := ["rows", "width", "total", "value", "above", "below"]
theorem sc11 : FnScope N11 ["rows", "width", "total", "value"] (defScope (top 18)) := ⟨rfl, rfl, rfl, by decide +kernel, rfl, by decide +kernel, by decide +kernel⟩
theorem dv11 {n : Nat} {cf : CF} (C : Ctx K base mg) (ih : ∀ f np, FnR P w K mg base L2.CX0 (2 * n) ((GG K).fa f) (spF (GG K) cf f np)) (cdv : Value) (A : Around) (outer : List PySem.Env) (s : Shared) (H : Hp) (E : XK) (n0 : Nat) (hr : Room (2 * n + 1) (A.deeper (envOfC "ends_of" (defScope (top 18)) s.heap.objs.size ((GG K).fa 11) cdv))) :
    PSs (cxOf L2.CX0 P w K mg base N11 "ends_of" (defScope (top 18)) ((GG K).fa 11) cdv A outer s H E).nox (defBody (top 18)) (rdS (GG K) n0 (sCons (sPar [4, 5] (aCons (eBin oSub (eVar 2) (eBin oRep (eVar 0) (eBin oSub (eVar 3) (eLit (.int 1))))) (aCons (eBin oSub (eVar 1) (eVar 3)) aNil))) (sRet (eTup (aCons (eArg bMax2 (aCons (eLit (.int 0)) (aCons (eBin oDiv (eBin oSub (eBin oCat (eVar 4) (eVar 5)) (eLit (.int 1))) (eVar 5)) aNil))) (aCons (eArg bMin2 (aCons (eVar 0) (aCons (eBin oDiv (eVar 2) (eVar 3)) aNil))) aNil)))))) := by
  have T : Tb (cxOf L2.CX0 P w K mg base N11 "ends_of" (defScope (top 18)) ((GG K).fa 11) cdv A outer s H E).nox (GG K) cf (2 * n) := ⟨rfl, ih, hr, rfl⟩
  have nd := sc11.nd
  exact (ss_cons (ss_par (ps_par (i := 4) (j := 5) rfl nd rfl rfl (by decide) rfl rfl (sa_cons (se_bin op_sub ok_sub (se_var (pv 2)) (se_bin op_repR ok_rep (se_var (pv 0)) (se_bin op_sub ok_sub (se_var (pv 3)) (se_lit pe_int fun _ _ => rfl)))) (sa_cons (se_bin op_sub ok_sub (se_var (pv 1)) (se_var (pv 3))) sa_nil)) (by rfl)))
 (ss_one (ss_ret (se_tup (sa_cons (se_argB (pe_callB (call_max2 rfl) rfl (m_b_max C) (by rfl) (sa_cons (se_lit pe_int fun _ _ => rfl) (sa_cons (se_bin op_fdiv ok_div (se_bin op_sub ok_sub (se_bin op_catR ok_cat (se_var (pv 4)) (se_var (pv 5))) (se_lit pe_int fun _ _ => rfl)) (se_var (pv 5))) sa_nil))) ok_max2) (sa_cons (se_argB (pe_callB (call_min2 rfl) rfl (m_b_min C) (by rfl) (sa_cons (se_var (pv 0)) (sa_cons (se_bin op_fdiv ok_div (se_var (pv 2)) (se_var (pv 3))) sa_nil))) ok_min2) sa_nil))))))
theorem ok11 {n : Nat} (C : Ctx K base mg) (ih : All P w K mg base (GG K) TT n) : ∀ np, FnR P w K mg base L2.CX0 (2 * (n + 1)) ((GG K).fa 11) (spF (GG K) (callF TT (n + 1)) 11 np) := by
  obtain ⟨fd, F⟩ := C.says.def_ 11 (d := d11) rfl
  exact def_ok (b := b11) rfl F sc11 rfl rfl (FunD_binds F fun _ _ _ _ _ _ us hl => match us, hl with | [_, _, _, _], _ => rfl) fun cdv A outer s H E n0 hr => dv11 C ih cdv A outer s H E n0 hr
abbrev N12 : List Str := ["rows", "width", "total", "value"]
theorem sc12 : FnScope N12 ["rows", "width", "total", "value"] (defScope (top 19)) := ⟨rfl, rfl, rfl, by decide +kernel, rfl, by decide +kernel, by decide +kernel⟩
theorem dv12 {n : Nat} {cf : CF} (C : Ctx K base mg) (ih : ∀ f np, FnR P w K mg base L2.CX0 (2 * n) ((GG K).fa f) (spF (GG K) cf f np)) (cdv : Value) (A : Around) (outer : List PySem.Env) (s : Shared) (H : Hp) (E : XK) (n0 : Nat) (hr : Room (2 * n + 1) (A.deeper (envOfC "at_least" (defScope (top 19)) s.heap.objs.size ((GG K).fa 12) cdv))) :
    PSs (cxOf L2.CX0 P w K mg base N12 "at_least" (defScope (top 19)) ((GG K).fa 12) cdv A outer s H E).nox (defBody (top 19)) (rdS (GG K) n0 (sCons (sExp (eCall cf 4 10 (aCons (eVar 0) (aCons (eVar 1) (aCons (eVar 2) (aCons (eVar 3) aNil)))))) (sRet (eCall cf 4 11 (aCons (eVar 0) (aCons (eVar 1) (aCons (eVar 2) (aCons (eVar 3) aNil)))))))) := by
  have T : Tb (cxOf L2.CX0 P w K mg base N12 "at_least" (defScope (top 19)) ((GG K).fa 12) cdv A outer s H E).nox (GG K) cf (2 * n) := ⟨rfl, ih, hr, rfl⟩
  have nd := sc12.nd
  exact (ss_cons (ss_expr (sx_call T rfl (m_f_check_asked C) (m_k_check_asked C) (sa_cons (se_var (pv 0)) (sa_cons (se_var (pv 1)) (sa_cons (se_var (pv 2)) (sa_cons (se_var (pv 3)) sa_nil))))))
 (ss_one (ss_ret (sx_call T rfl (m_f_ends_of C) (m_k_ends_of C) (sa_cons (se_var (pv 0)) (sa_cons (se_var (pv 1)) (sa_cons (se_var (pv 2)) (sa_cons (se_var (pv 3)) sa_nil))))))))
theorem ok12 {n : Nat} (C : Ctx K base mg) (ih : All P w K mg base (GG K) TT n) : ∀ np, FnR P w K mg base L2.CX0 (2 * (n + 1)) ((GG K).fa 12) (spF (GG K) (callF TT (n + 1)) 12 np) := by
  obtain ⟨fd, F⟩ := C.says.def_ 12 (d := d12) rfl
  exact def_ok (b := b12) rfl F sc12 rfl rfl (FunD_binds F fun _ _ _ _ _ _ us hl => match us, hl with | [_, _, _, _], _ => rfl) fun cdv A outer s H E n0 hr => dv12 C ih cdv A outer s H E n0 hr
abbrev N13 : List Str := ["rows", "width", "total", "value", "low", "high"]
theorem sc13 : FnScope N13 ["rows", "width", "total", "value"] (defScope (top 20)) := ⟨rfl, rfl, rfl, by decide +kernel, rfl, by decide +kernel, by decide +kernel⟩
theorem dv13 {n : Nat} {cf : CF} (C : Ctx K base mg) (ih : ∀ f np, FnR P w K mg base L2.CX0 (2 * n) ((GG K).fa f) (spF (GG K) cf f np)) (cdv : Value) (A : Around) (outer : List PySem.Env) (s : Shared) (H : Hp) (E : XK) (n0 : Nat) (hr : Room (2 * n + 1) (A.deeper (envOfC "reach_both" (defScope (top 20)) s.heap.objs.size ((GG K).fa 13) cdv))) :
    PSs (cxOf L2.CX0 P w K mg base N13 "reach_both" (defScope (top 20)) ((GG K).fa 13) cdv A outer s H E).nox (defBody (top 20)) (rdS (GG K) n0 (sCons (sExp (eCall cf 4 10 (aCons (eVar 0) (aCons (eVar 1) (aCons (eVar 2) (aCons (eVar 3) aNil)))))) (sCons (sAsg (gTp [(gNm 4), (gNm 5)]) (eCall cf 4 11 (aCons (eVar 0) (aCons (eVar 1) (aCons (eVar 2) (aCons (eVar 3) aNil)))))) (sRet (eMake cf 3 0 7 (aCons (eCall cf 5 6 (aCons (eVar 0) (aCons (eVar 1) (aCons (eVar 2) (aCons (eVar 3) (aCons (eVar 4) aNil)))))) (aCons (eCall cf 5 6 (aCons (eVar 0) (aCons (eVar 1) (aCons (eVar 2) (aCons (eVar 3) (aCons (eVar 5) aNil)))))) aNil))))))) := by
  have T : Tb (cxOf L2.CX0 P w K mg base N13 "reach_both" (defScope (top 20)) ((GG K).fa 13) cdv A outer s H E).nox (GG K) cf (2 * n) := ⟨rfl, ih, hr, rfl⟩
  have nd := sc13.nd
  exact (ss_cons (ss_expr (sx_call T rfl (m_f_check_asked C) (m_k_check_asked C) (sa_cons (se_var (pv 0)) (sa_cons (se_var (pv 1)) (sa_cons (se_var (pv 2)) (sa_cons (se_var (pv 3)) sa_nil))))))
 (ss_cons (ss_asg (ps_asg (toV (sx_call T rfl (m_f_ends_of C) (m_k_ends_of C) (sa_cons (se_var (pv 0)) (sa_cons (se_var (pv 1)) (sa_cons (se_var (pv 2)) (sa_cons (se_var (pv 3)) sa_nil)))))) (pg_tup rfl (pgs_cons (pg_name (i := 4) nd rfl (by first | exact Or.inl rfl | exact Or.inr rfl)) (pgs_cons (pg_name (i := 5) nd rfl (by first | exact Or.inl rfl | exact Or.inr rfl)) pgs_nil)))) (tg_tp (tgs_cons (tg_nm 4) (tgs_cons (tg_nm 5) tgs_nil)) rfl))
 (ss_one (ss_ret (se_make T (m_mk_Ends C) rfl (m_c_Ends C) (sa_cons (sx_call T rfl (m_f_row_with C) (m_k_row_with C) (sa_cons (se_var (pv 0)) (sa_cons (se_var (pv 1)) (sa_cons (se_var (pv 2)) (sa_cons (se_var (pv 3)) (sa_cons (se_var (pv 4)) sa_nil)))))) (sa_cons (sx_call T rfl (m_f_row_with C) (m_k_row_with C) (sa_cons (se_var (pv 0)) (sa_cons (se_var (pv 1)) (sa_cons (se_var (pv 2)) (sa_cons (se_var (pv 3)) (sa_cons (se_var (pv 5)) sa_nil)))))) sa_nil)))))))
theorem ok13 {n : Nat} (C : Ctx K base mg) (ih : All P w K mg base (GG K) TT n) : ∀ np, FnR P w K mg base L2.CX0 (2 * (n + 1)) ((GG K).fa 13) (spF (GG K) (callF TT (n + 1)) 13 np) := by
  obtain ⟨fd, F⟩ := C.says.def_ 13 (d := d13) rfl
  exact def_ok (b := b13) rfl F sc13 rfl rfl (FunD_binds F fun _ _ _ _ _ _ us hl => match us, hl with | [_, _, _, _], _ => rfl) fun cdv A outer s H E n0 hr => dv13 C ih cdv A outer s H E n0 hr
abbrev N14 : List Str := ["rows", "width", "total", "rank", "behind", "least"]
theorem sc14 : FnScope N14 ["rows", "width", "total", "rank"] (defScope (top 21)) := ⟨rfl, rfl, rfl, by decide +kernel, rfl, by decide +kernel, by decide +kernel⟩
theorem dv14 {n : Nat} {cf : CF} (C : Ctx K base mg) (ih : ∀ f np, FnR P w K mg base L2.CX0 (2 * n) ((GG K).fa f) (spF (GG K) cf f np)) (cdv : Value) (A : Around) (outer : List PySem.Env) (s : Shared) (H : Hp) (E : XK) (n0 : Nat) (hr : Room (2 * n + 1) (A.deeper (envOfC "rank_values" (defScope (top 21)) s.heap.objs.size ((GG K).fa 14) cdv))) :
    PSs (cxOf L2.CX0 P w K mg base N14 "rank_values" (defScope (top 21)) ((GG K).fa 14) cdv A outer s H E).nox (defBody (top 21)) (rdS (GG K) n0 (sCons (sExp (eCall cf 3 2 (aCons (eVar 0) (aCons (eVar 1) (aCons (eVar 2) aNil))))) (sCons (sExp (eCall cf 3 1 (aCons (eVar 3) (aCons (eLit (.int 0)) (aCons (eBin oSub (eVar 0) (eLit (.int 1))) aNil))))) (sCons (sAsg (gNm 4) (eBin oSub (eVar 0) (eVar 3))) (sCons (sAsg (gNm 5) (eBin oSub (eVar 2) (eBin oRep (eBin oSub (eVar 4) (eLit (.int 1))) (eBin oSub (eVar 1) (eLit (.int 1)))))) (sRet (eTup (aCons (eArg bMax2 (aCons (eLit (.int 0)) (aCons (eBin oDiv (eBin oCat (eVar 5) (eVar 3)) (eBin oCat (eVar 3) (eLit (.int 1)))) aNil))) (aCons (eArg bMin2 (aCons (eBin oSub (eVar 1) (eLit (.int 1))) (aCons (eBin oDiv (eVar 2) (eVar 4)) aNil))) aNil))))))))) := by
  have T : Tb (cxOf L2.CX0 P w K mg base N14 "rank_values" (defScope (top 21)) ((GG K).fa 14) cdv A outer s H E).nox (GG K) cf (2 * n) := ⟨rfl, ih, hr, rfl⟩
  have nd := sc14.nd
  exact (ss_cons (ss_expr (sx_call T rfl (m_f_check_known C) (m_k_check_known C) (sa_cons (se_var (pv 0)) (sa_cons (se_var (pv 1)) (sa_cons (se_var (pv 2)) sa_nil)))))
 (ss_cons (ss_expr (sx_call T rfl (m_f_check_number C) (m_k_check_number C) (sa_cons (se_var (pv 3)) (sa_cons (se_lit pe_int fun _ _ => rfl) (sa_cons (se_bin op_sub ok_sub (se_var (pv 0)) (se_lit pe_int fun _ _ => rfl)) sa_nil)))))
 (ss_cons (ss_asg (ps_asg (toV (se_bin op_sub ok_sub (se_var (pv 0)) (se_var (pv 3)))) (pg_name (i := 4) nd rfl (by first | exact Or.inl rfl | exact Or.inr rfl))) (tg_nm 4))
 (ss_cons (ss_asg (ps_asg (toV (se_bin op_sub ok_sub (se_var (pv 2)) (se_bin op_repR ok_rep (se_bin op_sub ok_sub (se_var (pv 4)) (se_lit pe_int fun _ _ => rfl)) (se_bin op_sub ok_sub (se_var (pv 1)) (se_lit pe_int fun _ _ => rfl))))) (pg_name (i := 5) nd rfl (by first | exact Or.inl rfl | exact Or.inr rfl))) (tg_nm 5))
 (ss_one (ss_ret (se_tup (sa_cons (se_argB (pe_callB (call_max2 rfl) rfl (m_b_max C) (by rfl) (sa_cons (se_lit pe_int fun _ _ => rfl) (sa_cons (se_bin op_fdiv ok_div (se_bin op_catR ok_cat (se_var (pv 5)) (se_var (pv 3))) (se_bin op_catR ok_cat (se_var (pv 3)) (se_lit pe_int fun _ _ => rfl))) sa_nil))) ok_max2) (sa_cons (se_argB (pe_callB (call_min2 rfl) rfl (m_b_min C) (by rfl) (sa_cons (se_bin op_sub ok_sub (se_var (pv 1)) (se_lit pe_int fun _ _ => rfl)) (sa_cons (se_bin op_fdiv ok_div (se_var (pv 2)) (se_var (pv 4))) sa_nil))) ok_min2) sa_nil)))))))))
theorem ok14 {n : Nat} (C : Ctx K base mg) (ih : All P w K mg base (GG K) TT n) : ∀ np, FnR P w K mg base L2.CX0 (2 * (n + 1)) ((GG K).fa 14) (spF (GG K) (callF TT (n + 1)) 14 np) := by
  obtain ⟨fd, F⟩ := C.says.def_ 14 (d := d14) rfl
  exact def_ok (b := b14) rfl F sc14 rfl rfl (FunD_binds F fun _ _ _ _ _ _ us hl => match us, hl with | [_, _, _, _], _ => rfl) fun cdv A outer s H E n0 hr => dv14 C ih cdv A outer s H E n0 hr
abbrev N15 : List Str := ["_law_script", "_law_index", "_law_cells", "_law_cell", "_law_low", "_law_high", "_law_total", "_law_blend"]
theorem sc15 : FnScope N15 ["_law_script", "_law_index"] (defScope (top 23)) := ⟨rfl, rfl, rfl, by decide +kernel, rfl, by decide +kernel, by decide +kernel⟩
theorem dv15 {n : Nat} {cf : CF} (C : Ctx K base mg) (ih : ∀ f np, FnR P w K mg base L2.CX0 (2 * n) ((GG K).fa f) (spF (GG K) cf f np)) (cdv : Value) (A : Around) (outer : List PySem.Env) (s : Shared) (H : Hp) (E : XK) (n0 : Nat) (hr : Room (2 * n + 1) (A.deeper (envOfC "_law_number" (defScope (top 23)) s.heap.objs.size ((GG K).fa 15) cdv))) :
    PSs (cxOf L2.CX0 P w K mg base N15 "_law_number" (defScope (top 23)) ((GG K).fa 15) cdv A outer s H E).nox (defBody (top 23)) (rdS (GG K) n0 (sCons (sAsg (gNm 2) (eIf (tBl (eNe cf [(0, 8)] [.non, .bl, .int, .str, .tup, .lst, .dct, .own 0] (eVar 0) (eLst aNil))) (eSl (eVar 0) pNo (pSo (eLit (.int 63)))) (eLst (aCons (eLit (.int 5)) aNil)))) (sCons (sAsg (gNm 3) (eBin oCat (eIx cf [] (eVar 2) (eBin oMod (eArg bInt (aCons (eVar 1) aNil)) (eLen cf [] (eVar 2)))) (eBin oRep (eLit (.int 13)) (eBin oDiv (eVar 1) (eLen cf [] (eVar 2)))))) (sCons (sPar [4, 5] (aCons (eBin oMod (eArg bInt (aCons (eVar 3) aNil)) (eLit (.int 1000003))) (aCons (eBin oMod (eArg bInt (aCons (eBin oDiv (eVar 3) (eLit (.int 1000003))) aNil)) (eLit (.int 999983))) aNil))) (sCons (sAsg (gNm 6) (eBin oMod (eArg bInt (aCons (eArg bSum (aCons (eVar 2) aNil)) aNil)) (eLit (.int 65521)))) (sCons (sAsg (gNm 7) (eBin oMod (eArg bInt (aCons (eBin oCat (eBin oCat (eBin oRep (eBin oCat (eVar 4) (eBin oRep (eLit (.int 977)) (eVar 1))) (eLit (.int 48271))) (eBin oRep (eLit (.int 31)) (eVar 5))) (eVar 6)) aNil)) (eLit (.int 2147483647)))) (sRet (eBin oCat (eBin oRep (eBin oMod (eArg bInt (aCons (eBin oRep (eVar 7) (eBin oCat (eBin oCat (eVar 7) (eBin oRep (eLit (.int 31)) (eVar 1))) (eLit (.int 7)))) aNil)) (eLit (.int 2147483629))) (eLit (.int 65537))) (eVar 5))))))))) := by
  have T : Tb (cxOf L2.CX0 P w K mg base N15 "_law_number" (defScope (top 23)) ((GG K).fa 15) cdv A outer s H E).nox (GG K) cf (2 * n) := ⟨rfl, ih, hr, rfl⟩
  have nd := sc15.nd
  exact (ss_cons (ss_asg (ps_asg (toV (se_if (st_ne T (m_eqt C) (se_var (pv 0)) (se_lst sa_nil) (nomark _)) (se_sl rfl (se_var (pv 0)) so_none (so_some (se_lit pe_int fun _ _ => rfl))) (se_lst (sa_cons (se_lit pe_int fun _ _ => rfl) sa_nil)))) (pg_name (i := 2) nd rfl (by first | exact Or.inl rfl | exact Or.inr rfl))) (tg_nm 2))
 (ss_cons (ss_asg (ps_asg (toV (se_bin op_catR ok_cat (se_ixG T (m_spc___getitem__ C) (se_var (pv 2)) (se_bin op_mod ok_mod (se_argB (pe_callTy call_int1 rfl (m_b_int C) (by rfl) (sa_cons (se_var (pv 1)) sa_nil)) ok_int) (se_len T rfl (m_b_len C) (fun p hp => ((m_spc___len__ C) p hp).1) (se_var (pv 2)))) (fun _ _ => rfl) (fun _ _ => by with_unfolding_all rfl)) (se_bin op_repR ok_rep (se_lit pe_int fun _ _ => rfl) (se_bin op_fdiv ok_div (se_var (pv 1)) (se_len T rfl (m_b_len C) (fun p hp => ((m_spc___len__ C) p hp).1) (se_var (pv 2))))))) (pg_name (i := 3) nd rfl (by first | exact Or.inl rfl | exact Or.inr rfl))) (tg_nm 3))
 (ss_cons (ss_par (ps_par (i := 4) (j := 5) rfl nd rfl rfl (by decide) rfl rfl (sa_cons (se_bin op_mod ok_mod (se_argB (pe_callTy call_int1 rfl (m_b_int C) (by rfl) (sa_cons (se_var (pv 3)) sa_nil)) ok_int) (se_lit pe_int fun _ _ => rfl)) (sa_cons (se_bin op_mod ok_mod (se_argB (pe_callTy call_int1 rfl (m_b_int C) (by rfl) (sa_cons (se_bin op_fdiv ok_div (se_var (pv 3)) (se_lit pe_int fun _ _ => rfl)) sa_nil)) ok_int) (se_lit pe_int fun _ _ => rfl)) sa_nil)) (by rfl)))
 (ss_cons (ss_asg (ps_asg (toV (se_bin op_mod ok_mod (se_argB (pe_callTy call_int1 rfl (m_b_int C) (by rfl) (sa_cons (se_argB (pe_callB (cr_sumA rfl) rfl (m_b_sum C) (by rfl) (sa_cons (se_var (pv 2)) sa_nil)) ok_sum) sa_nil)) ok_int) (se_lit pe_int fun _ _ => rfl))) (pg_name (i := 6) nd rfl (by first | exact Or.inl rfl | exact Or.inr rfl))) (tg_nm 6))
 (ss_cons (ss_asg (ps_asg (toV (se_bin op_mod ok_mod (se_argB (pe_callTy call_int1 rfl (m_b_int C) (by rfl) (sa_cons (se_bin op_catR ok_cat (se_bin op_catR ok_cat (se_bin op_repR ok_rep (se_bin op_catR ok_cat (se_var (pv 4)) (se_bin op_repR ok_rep (se_lit pe_int fun _ _ => rfl) (se_var (pv 1)))) (se_lit pe_int fun _ _ => rfl)) (se_bin op_repR ok_rep (se_lit pe_int fun _ _ => rfl) (se_var (pv 5)))) (se_var (pv 6))) sa_nil)) ok_int) (se_lit pe_int fun _ _ => rfl))) (pg_name (i := 7) nd rfl (by first | exact Or.inl rfl | exact Or.inr rfl))) (tg_nm 7))
 (ss_one (ss_ret (se_bin op_catR ok_cat (se_bin op_repR ok_rep (se_bin op_mod ok_mod (se_argB (pe_callTy call_int1 rfl (m_b_int C) (by rfl) (sa_cons (se_bin op_repR ok_rep (se_var (pv 7)) (se_bin op_catR ok_cat (se_bin op_catR ok_cat (se_var (pv 7)) (se_bin op_repR ok_rep (se_lit pe_int fun _ _ => rfl) (se_var (pv 1)))) (se_lit pe_int fun _ _ => rfl))) sa_nil)) ok_int) (se_lit pe_int fun _ _ => rfl)) (se_lit pe_int fun _ _ => rfl)) (se_var (pv 5))))))))))
theorem ok15 {n : Nat} (C : Ctx K base mg) (ih : All P w K mg base (GG K) TT n) : ∀ np, FnR P w K mg base L2.CX0 (2 * (n + 1)) ((GG K).fa 15) (spF (GG K) (callF TT (n + 1)) 15 np) := by
  obtain ⟨fd, F⟩ := C.says.def_ 15 (d := d15) rfl
  exact def_ok (b := b15) rfl F sc15 rfl rfl (FunD_binds F fun _ _ _ _ _ _ us hl => match us, hl with | [_, _], _ => rfl) fun cdv A outer s H E n0 hr => dv15 C ih cdv A outer s H E n0 hr
abbrev N16 : List Str := ["_law_draw", "_law_many"]
theorem sc16 : FnScope N16 ["_law_draw", "_law_many"] (defScope (top 24)) := ⟨rfl, rfl, rfl, by decide +kernel, rfl, by decide +kernel, by decide +kernel⟩
theorem dv16 {n : Nat} {cf : CF} (C : Ctx K base mg) (ih : ∀ f np, FnR P w K mg base L2.CX0 (2 * n) ((GG K).fa f) (spF (GG K) cf f np)) (cdv : Value) (A : Around) (outer : List PySem.Env) (s : Shared) (H : Hp) (E : XK) (n0 : Nat) (hr : Room (2 * n + 1) (A.deeper (envOfC "_law_take" (defScope (top 24)) s.heap.objs.size ((GG K).fa 16) cdv))) :
    PSs (cxOf L2.CX0 P w K mg base N16 "_law_take" (defScope (top 24)) ((GG K).fa 16) cdv A outer s H E).nox (defBody (top 24)) (rdS (GG K) n0 (sCons (sSetI (setG n0) (eVar 0) (eLit (.int 1)) (eBin oCat (eIx cf [] (eVar 0) (eLit (.int 1))) (eLit (.int 1)))) (sRet (eBin oMod (eArg bInt (aCons (eCall cf 2 15 (aCons (eIx cf [] (eVar 0) (eLit (.int 0))) (aCons (eArg bInt (aCons (eIx cf [] (eVar 0) (eLit (.int 1))) aNil)) aNil))) aNil)) (eVar 1))))) := by
  have T : Tb (cxOf L2.CX0 P w K mg base N16 "_law_take" (defScope (top 24)) ((GG K).fa 16) cdv A outer s H E).nox (GG K) cf (2 * n) := ⟨rfl, ih, hr, rfl⟩
  have nd := sc16.nd
  exact (ss_cons (ss_setI chg_setG (ps_asg (toV (se_bin op_catR ok_cat (se_ixG T (m_spc___getitem__ C) (se_var (pv 0)) (se_lit pe_int fun _ _ => rfl) (fun _ _ => rfl) (fun _ _ => by with_unfolding_all rfl)) (se_lit pe_int fun _ _ => rfl))) (pg_sub (toV (se_var (pv 0))) (toV (se_lit pe_int fun _ _ => rfl)) (set_G (units2 T)))))
 (ss_one (ss_ret (se_bin op_mod ok_mod (se_argB (pe_callTy call_int1 rfl (m_b_int C) (by rfl) (sa_cons (sx_call T rfl (m_f__law_number C) (m_k__law_number C) (sa_cons (se_ixG T (m_spc___getitem__ C) (se_var (pv 0)) (se_lit pe_int fun _ _ => rfl) (fun _ _ => rfl) (fun _ _ => by with_unfolding_all rfl)) (sa_cons (se_argB (pe_callTy call_int1 rfl (m_b_int C) (by rfl) (sa_cons (se_ixG T (m_spc___getitem__ C) (se_var (pv 0)) (se_lit pe_int fun _ _ => rfl) (fun _ _ => rfl) (fun _ _ => by with_unfolding_all rfl)) sa_nil)) ok_int) sa_nil))) sa_nil)) ok_int) (se_var (pv 1))))))
theorem ok16 {n : Nat} (C : Ctx K base mg) (ih : All P w K mg base (GG K) TT n) : ∀ np, FnR P w K mg base L2.CX0 (2 * (n + 1)) ((GG K).fa 16) (spF (GG K) (callF TT (n + 1)) 16 np) := by
  obtain ⟨fd, F⟩ := C.says.def_ 16 (d := d16) rfl
  exact def_ok (b := b16) rfl F sc16 rfl rfl (FunD_binds F fun _ _ _ _ _ _ us hl => match us, hl with | [_, _], _ => rfl) fun cdv A outer s H E n0 hr => dv16 C ih cdv A outer s H E n0 hr
abbrev N17 : List Str := ["_law_draw", "_law_things"]
theorem sc17 : FnScope N17 ["_law_draw", "_law_things"] (defScope (top 25)) := ⟨rfl, rfl, rfl, by decide +kernel, rfl, by decide +kernel, by decide +kernel⟩
theorem dv17 {n : Nat} {cf : CF} (C : Ctx K base mg) (ih : ∀ f np, FnR P w K mg base L2.CX0 (2 * n) ((GG K).fa f) (spF (GG K) cf f np)) (cdv : Value) (A : Around) (outer : List PySem.Env) (s : Shared) (H : Hp) (E : XK) (n0 : Nat) (hr : Room (2 * n + 1) (A.deeper (envOfC "_law_pick" (defScope (top 25)) s.heap.objs.size ((GG K).fa 17) cdv))) :
    PSs (cxOf L2.CX0 P w K mg base N17 "_law_pick" (defScope (top 25)) ((GG K).fa 17) cdv A outer s H E).nox (defBody (top 25)) (rdS (GG K) n0 (sRet (eIx cf [] (eVar 1) (eCall cf 2 16 (aCons (eVar 0) (aCons (eLen cf [] (eVar 1)) aNil)))))) := by
  have T : Tb (cxOf L2.CX0 P w K mg base N17 "_law_pick" (defScope (top 25)) ((GG K).fa 17) cdv A outer s H E).nox (GG K) cf (2 * n) := ⟨rfl, ih, hr, rfl⟩
  have nd := sc17.nd
  exact (ss_one (ss_ret (se_ixG T (m_spc___getitem__ C) (se_var (pv 1)) (sx_call T rfl (m_f__law_take C) (m_k__law_take C) (sa_cons (se_var (pv 0)) (sa_cons (se_len T rfl (m_b_len C) (fun p hp => ((m_spc___len__ C) p hp).1) (se_var (pv 1))) sa_nil))) (fun _ _ => rfl) (fun _ _ => by with_unfolding_all rfl))))
theorem ok17 {n : Nat} (C : Ctx K base mg) (ih : All P w K mg base (GG K) TT n) : ∀ np, FnR P w K mg base L2.CX0 (2 * (n + 1)) ((GG K).fa 17) (spF (GG K) (callF TT (n + 1)) 17 np) := by
  obtain ⟨fd, F⟩ := C.says.def_ 17 (d := d17) rfl
  exact def_ok (b := b17) rfl F sc17 rfl rfl (FunD_binds F fun _ _ _ _ _ _ us hl => match us, hl with | [_, _], _ => rfl) fun cdv A outer s H E n0 hr => dv17 C ih cdv A outer s H E n0 hr
abbrev N18 : List Str := ["_law_rows", "_law_width", "_law_total", "_law_found", "_law_row", "_law_late", "_law_some", "_law_least", "_law_value"]
theorem sc18 : FnScope N18 ["_law_rows", "_law_width", "_law_total"] (defScope (top 26)) := ⟨rfl, rfl, rfl, by decide +kernel, rfl, by decide +kernel, by decide +kernel⟩
theorem dv18 {n : Nat} {cf : CF} (C : Ctx K base mg) (ih : ∀ f np, FnR P w K mg base L2.CX0 (2 * n) ((GG K).fa f) (spF (GG K) cf f np)) (cdv : Value) (A : Around) (outer : List PySem.Env) (s : Shared) (H : Hp) (E : XK) (n0 : Nat) (hr : Room (2 * n + 1) (A.deeper (envOfC "_law_lines" (defScope (top 26)) s.heap.objs.size ((GG K).fa 18) cdv))) :
    PSs (cxOf L2.CX0 P w K mg base N18 "_law_lines" (defScope (top 26)) ((GG K).fa 18) cdv A outer s H E).nox (defBody (top 26)) (rdS (GG K) n0 (sCons (sAsg (gNm 3) (eLst (aCons (eTup aNil) aNil))) (sCons (sFor (iRg1 (eVar 0)) (gNm 4) (sCons (sAsg (gNm 5) (eLst aNil)) (sCons (sFor (iSeq (eVar 3)) (gNm 6) (sCons (sAsg (gNm 7) (eIf (tBl (eNe cf [(0, 8)] [.non, .bl, .int, .str, .tup, .lst, .dct, .own 0] (eVar 6) (eTup aNil))) (eIx cf [] (eVar 6) (eUn oNeg (eLit (.int 1)))) (eLit (.int 0)))) (sAsg (gNm 5) (eBin oCat (eVar 5) (eLc (iRg2 (eVar 7) (eVar 1)) (gNm 8) [8] (tBl (eBin oLe (eBin oCat (eArg bSum (aCons (eVar 6) aNil)) (eVar 8)) (eVar 2))) (eBin oCat (eVar 6) (eTup (aCons (eVar 8) aNil)))))))) (sAsg (gNm 3) (eVar 5))))) (sRet (eLc (iSeq (eVar 3)) (gNm 6) [6] (tBl (eEq cf [(0, 8)] [.non, .bl, .int, .str, .tup, .lst, .dct, .own 0] (eArg bSum (aCons (eVar 6) aNil)) (eVar 2))) (eVar 6)))))) := by
  have T : Tb (cxOf L2.CX0 P w K mg base N18 "_law_lines" (defScope (top 26)) ((GG K).fa 18) cdv A outer s H E).nox (GG K) cf (2 * n) := ⟨rfl, ih, hr, rfl⟩
  have nd := sc18.nd
  exact (ss_cons (ss_asg (ps_asg (toV (se_lst (sa_cons (se_tup sa_nil) sa_nil))) (pg_name (i := 3) nd rfl (by first | exact Or.inl rfl | exact Or.inr rfl))) (tg_nm 3))
 (ss_cons (ss_for (ps_for PassesOwn.never rfl (si_rng1 rfl (m_b_range C) (se_var (pv 0))) (pg_name (i := 4) nd rfl (by first | exact Or.inl rfl | exact Or.inr rfl)) (ss_cons (ss_asg (ps_asg (toV (se_lst sa_nil)) (pg_name (i := 5) nd rfl (by first | exact Or.inl rfl | exact Or.inr rfl))) (tg_nm 5))
 (ss_cons (ss_for (ps_for PassesOwn.never rfl (si_seq rfl (se_var (pv 3))) (pg_name (i := 6) nd rfl (by first | exact Or.inl rfl | exact Or.inr rfl)) (ss_cons (ss_asg (ps_asg (toV (se_if (st_ne T (m_eqt C) (se_var (pv 6)) (se_tup sa_nil) (nomark _)) (se_ixG T (m_spc___getitem__ C) (se_var (pv 6)) (se_un un_neg ok_neg (se_lit pe_int fun _ _ => rfl)) (fun _ _ => rfl) (fun _ _ => by with_unfolding_all rfl)) (se_lit pe_int fun _ _ => rfl))) (pg_name (i := 7) nd rfl (by first | exact Or.inl rfl | exact Or.inr rfl))) (tg_nm 7))
 (ss_one (ss_asg (ps_asg (toV (se_bin op_catR ok_cat (se_var (pv 5)) (se_lc (own := [("_law_value", 8)]) rfl nd (si_rng2 rfl (m_b_range C) (se_var (pv 7)) (se_var (pv 1))) (blk_ok (own := [("_law_value", 8)]) (by kernel_rfl)) (tb_nm 8 (by decide)) (fun _ _ _ _ _ => (pg_name (i := 8) nd rfl (by first | exact Or.inl rfl | exact Or.inr rfl))) (fun _ _ _ _ _ => (sts_one (st_cmp op_le ok_le (se_bin op_catR ok_cat (se_argB (pe_callB (cr_sumA rfl) rfl (m_b_sum C) (by rfl) (sa_cons (se_var (pv 6)) sa_nil)) ok_sum) (se_var (pv 8))) (se_var (pv 2)) (nomark _)))) (fun _ _ _ _ _ => (se_bin op_catR ok_cat (se_var (pv 6)) (se_tup (sa_cons (se_var (pv 8)) sa_nil))))))) (pg_name (i := 5) nd rfl (by first | exact Or.inl rfl | exact Or.inr rfl))) (tg_nm 5))))) (tg_nm 6))
 (ss_one (ss_asg (ps_asg (toV (se_var (pv 5))) (pg_name (i := 3) nd rfl (by first | exact Or.inl rfl | exact Or.inr rfl))) (tg_nm 3)))))) (tg_nm 4))
 (ss_one (ss_ret (se_lc (own := [("_law_some", 6)]) rfl nd (si_seq rfl (se_var (pv 3))) (blk_ok (own := [("_law_some", 6)]) (by kernel_rfl)) (tb_nm 6 (by decide)) (fun _ _ _ _ _ => (pg_name (i := 6) nd rfl (by first | exact Or.inl rfl | exact Or.inr rfl))) (fun _ _ _ _ _ => (sts_one (st_eq (T.blk _ _ _ _ _) (m_eqt C) (se_argB (pe_callB (cr_sumA rfl) rfl (m_b_sum C) (by rfl) (sa_cons (se_var (pv 6)) sa_nil)) ok_sum) (se_var (pv 2)) (nomark _)))) (fun _ _ _ _ _ => (se_var (pv 6))))))))
theorem ok18 {n : Nat} (C : Ctx K base mg) (ih : All P w K mg base (GG K) TT n) : ∀ np, FnR P w K mg base L2.CX0 (2 * (n + 1)) ((GG K).fa 18) (spF (GG K) (callF TT (n + 1)) 18 np) := by
  obtain ⟨fd, F⟩ := C.says.def_ 18 (d := d18) rfl
  exact def_ok (b := b18) rfl F sc18 rfl rfl (FunD_binds F fun _ _ _ _ _ _ us hl => match us, hl with | [_, _, _], _ => rfl) fun cdv A outer s H E n0 hr => dv18 C ih cdv A outer s H E n0 hr
abbrev N19 : List Str := ["_law_rows", "_law_value", "_law_one"]
theorem sc19 : FnScope N19 ["_law_rows", "_law_value"] (defScope (top 27)) := ⟨rfl, rfl, rfl, by decide +kernel, rfl, by decide +kernel, by decide +kernel⟩
theorem dv19 {n : Nat} {cf : CF} (C : Ctx K base mg) (ih : ∀ f np, FnR P w K mg base L2.CX0 (2 * n) ((GG K).fa f) (spF (GG K) cf f np)) (cdv : Value) (A : Around) (outer : List PySem.Env) (s : Shared) (H : Hp) (E : XK) (n0 : Nat) (hr : Room (2 * n + 1) (A.deeper (envOfC "_law_reaching" (defScope (top 27)) s.heap.objs.size ((GG K).fa 19) cdv))) :
    PSs (cxOf L2.CX0 P w K mg base N19 "_law_reaching" (defScope (top 27)) ((GG K).fa 19) cdv A outer s H E).nox (defBody (top 27)) (rdS (GG K) n0 (sRet (eLen cf [] (eLc (iSeq (eVar 0)) (gNm 2) [2] (tBl (eBin oGe (eVar 2) (eVar 1))) (eVar 2))))) := by
  have T : Tb (cxOf L2.CX0 P w K mg base N19 "_law_reaching" (defScope (top 27)) ((GG K).fa 19) cdv A outer s H E).nox (GG K) cf (2 * n) := ⟨rfl, ih, hr, rfl⟩
  have nd := sc19.nd
  exact (ss_one (ss_ret (se_len T rfl (m_b_len C) (fun p hp => ((m_spc___len__ C) p hp).1) (se_lc (own := [("_law_one", 2)]) rfl nd (si_seq rfl (se_var (pv 0))) (blk_ok (own := [("_law_one", 2)]) (by kernel_rfl)) (tb_nm 2 (by decide)) (fun _ _ _ _ _ => (pg_name (i := 2) nd rfl (by first | exact Or.inl rfl | exact Or.inr rfl))) (fun _ _ _ _ _ => (sts_one (st_cmp op_ge ok_ge (se_var (pv 2)) (se_var (pv 1)) (nomark _)))) (fun _ _ _ _ _ => (se_var (pv 2)))))))
theorem ok19 {n : Nat} (C : Ctx K base mg) (ih : All P w K mg base (GG K) TT n) : ∀ np, FnR P w K mg base L2.CX0 (2 * (n + 1)) ((GG K).fa 19) (spF (GG K) (callF TT (n + 1)) 19 np) := by
  obtain ⟨fd, F⟩ := C.says.def_ 19 (d := d19) rfl
  exact def_ok (b := b19) rfl F sc19 rfl rfl (FunD_binds F fun _ _ _ _ _ _ us hl => match us, hl with | [_, _], _ => rfl) fun cdv A outer s H E n0 hr => dv19 C ih cdv A outer s H E n0 hr
abbrev N20 : List Str := ["_law_rows", "_law_width", "_law_total", "_law_pair", "_law_ends", "_law_value", "_law_some", "_law_one"]
theorem sc20 : FnScope N20 ["_law_rows", "_law_width", "_law_total", "_law_pair", "_law_ends", "_law_value"] (defScope (top 28)) := ⟨rfl, rfl, rfl, by decide +kernel, rfl, by decide +kernel, by decide +kernel⟩
theorem dv20 {n : Nat} {cf : CF} (C : Ctx K base mg) (ih : ∀ f np, FnR P w K mg base L2.CX0 (2 * n) ((GG K).fa f) (spF (GG K) cf f np)) (cdv : Value) (A : Around) (outer : List PySem.Env) (s : Shared) (H : Hp) (E : XK) (n0 : Nat) (hr : Room (2 * n + 1) (A.deeper (envOfC "_law_shows" (defScope (top 28)) s.heap.objs.size ((GG K).fa 20) cdv))) :
    PSs (cxOf L2.CX0 P w K mg base N20 "_law_shows" (defScope (top 28)) ((GG K).fa 20) cdv A outer s H E).nox (defBody (top 28)) (rdS (GG K) n0 (sCons (sFor (iSeq (eVar 3)) (gNm 6) (sIf (tOr (tBl (eNe cf [(0, 8)] [.non, .bl, .int, .str, .tup, .lst, .dct, .own 0] (eLen cf [] (eVar 6)) (eVar 0))) (tOr (tNo (tTru (eArg bAll (aCons (eLc (iSeq (eVar 6)) (gNm 7) [7] tYesP (eCh oLe oLt (eLit (.int 0)) (eVar 7) (eVar 1))) aNil)))) (tBl (eNe cf [(0, 8)] [.non, .bl, .int, .str, .tup, .lst, .dct, .own 0] (eArg bSum (aCons (eVar 6) aNil)) (eVar 2))))) (sRet (eLit (.bl false))) sNil)) (sRet (eEq cf [(0, 8)] [.non, .bl, .int, .str, .tup, .lst, .dct, .own 0] (eTup (aCons (eCall cf 2 19 (aCons (eIx cf [] (eVar 3) (eLit (.int 0))) (aCons (eVar 5) aNil))) (aCons (eCall cf 2 19 (aCons (eIx cf [] (eVar 3) (eLit (.int 1))) (aCons (eVar 5) aNil))) aNil))) (eVar 4))))) := by
  have T : Tb (cxOf L2.CX0 P w K mg base N20 "_law_shows" (defScope (top 28)) ((GG K).fa 20) cdv A outer s H E).nox (GG K) cf (2 * n) := ⟨rfl, ih, hr, rfl⟩
  have nd := sc20.nd
  exact (ss_cons (ss_for (ps_for PassesOwn.never rfl (si_seq rfl (se_var (pv 3))) (pg_name (i := 6) nd rfl (by first | exact Or.inl rfl | exact Or.inr rfl)) (ss_one (ss_if (PW.pt (sw_or (st_ne T (m_eqt C) (se_len T rfl (m_b_len C) (fun p hp => ((m_spc___len__ C) p hp).1) (se_var (pv 6))) (se_var (pv 0)) (nomark _)) (sw_or (st_no (st_tru rfl (se_argB (pe_callB (cr_all rfl) rfl (m_b_all C) (by rfl) (sa_cons (se_lc (own := [("_law_one", 7)]) rfl nd (si_seq rfl (se_var (pv 6))) (blk_ok (own := [("_law_one", 7)]) (by kernel_rfl)) (tb_nm 7 (by decide)) (fun _ _ _ _ _ => (pg_name (i := 7) nd rfl (by first | exact Or.inl rfl | exact Or.inr rfl))) (fun _ _ _ _ _ => sts_nil) (fun _ _ _ _ _ => (se_ch op_le ok_le op_lt ok_lt (se_lit pe_int fun _ _ => rfl) (se_var (pv 7)) (se_var (pv 1)) (pe_chain op_le op_lt (toV (se_lit pe_int fun _ _ => rfl)) (toV (se_var (pv 7))) (toV (se_var (pv 1))))))) sa_nil)) ok_all))) (sw_one (st_ne T (m_eqt C) (se_argB (pe_callB (cr_sumA rfl) rfl (m_b_sum C) (by rfl) (sa_cons (se_var (pv 6)) sa_nil)) ok_sum) (se_var (pv 2)) (nomark _)))))) (ss_one (ss_ret (se_lit pe_bl fun _ _ => rfl))) ss_nil))) (tg_nm 6))
 (ss_one (ss_ret (se_eq T (m_eqt C) (se_tup (sa_cons (sx_call T rfl (m_f__law_reaching C) (m_k__law_reaching C) (sa_cons (se_ixG T (m_spc___getitem__ C) (se_var (pv 3)) (se_lit pe_int fun _ _ => rfl) (fun _ _ => rfl) (fun _ _ => by with_unfolding_all rfl)) (sa_cons (se_var (pv 5)) sa_nil))) (sa_cons (sx_call T rfl (m_f__law_reaching C) (m_k__law_reaching C) (sa_cons (se_ixG T (m_spc___getitem__ C) (se_var (pv 3)) (se_lit pe_int fun _ _ => rfl) (fun _ _ => rfl) (fun _ _ => by with_unfolding_all rfl)) (sa_cons (se_var (pv 5)) sa_nil))) sa_nil))) (se_var (pv 4)) (nomark _)))))
theorem ok20 {n : Nat} (C : Ctx K base mg) (ih : All P w K mg base (GG K) TT n) : ∀ np, FnR P w K mg base L2.CX0 (2 * (n + 1)) ((GG K).fa 20) (spF (GG K) (callF TT (n + 1)) 20 np) := by
  obtain ⟨fd, F⟩ := C.says.def_ 20 (d := d20) rfl
  exact def_ok (b := b20) rfl F sc20 rfl rfl (FunD_binds F fun _ _ _ _ _ _ us hl => match us, hl with | [_, _, _, _, _, _], _ => rfl) fun cdv A outer s H E n0 hr => dv20 C ih cdv A outer s H E n0 hr
abbrev N21 : List Str := ["_law_draw", "_law_rows", "_law_width", "_law_total", "_law_value", "_law_ends", "_law_found", "_law_low", "_law_high", "_law_many", "_law_is_in", "_law_can", "_law_some", "_law_other", "_law_bent", "_law_cases", "_law_pair"]
theorem sc21 : FnScope N21 ["_law_draw"] (defScope (top 29)) := ⟨rfl, rfl, rfl, by decide +kernel, rfl, by decide +kernel, by decide +kernel⟩
theorem dv21 {n : Nat} {cf : CF} (C : Ctx K base mg) (ih : ∀ f np, FnR P w K mg base L2.CX0 (2 * n) ((GG K).fa f) (spF (GG K) cf f np)) (cdv : Value) (A : Around) (outer : List PySem.Env) (s : Shared) (H : Hp) (E : XK) (n0 : Nat) (hr : Room (2 * n + 1) (A.deeper (envOfC "_law_great_right" (defScope (top 29)) s.heap.objs.size ((GG K).fa 21) cdv))) :
    PSs (cxOf L2.CX0 P w K mg base N21 "_law_great_right" (defScope (top 29)) ((GG K).fa 21) cdv A outer s H E).nox (defBody (top 29)) (rdS (GG K) n0 (sCons (sPar [1, 2] (aCons (eBin oCat (eLit (.int 1)) (eCall cf 2 16 (aCons (eVar 0) (aCons (eLit (.int 20)) aNil)))) (aCons (eBin oCat (eLit (.int 2)) (eCall cf 2 16 (aCons (eVar 0) (aCons (eLit (.int 11)) aNil)))) aNil))) (sCons (sPar [3, 4] (aCons (eCall cf 2 16 (aCons (eVar 0) (aCons (eBin oCat (eBin oRep (eVar 1) (eBin oSub (eVar 2) (eLit (.int 1)))) (eLit (.int 1))) aNil))) (aCons (eBin oCat (eLit (.int 1)) (eCall cf 2 16 (aCons (eVar 0) (aCons (eBin oSub (eVar 2) (eLit (.int 1))) aNil)))) aNil))) (sCons (sPar [5, 6] (aCons (eCall cf 4 12 (aCons (eVar 1) (aCons (eVar 2) (aCons (eVar 3) (aCons (eVar 4) aNil))))) (aCons (eCall cf 4 13 (aCons (eVar 1) (aCons (eVar 2) (aCons (eVar 3) (aCons (eVar 4) aNil))))) aNil))) (sCons (sIf (tNo (tTru (eCall cf 6 20 (aCons (eVar 1) (aCons (eVar 2) (aCons (eVar 3) (aCons (eTup (aCons (eFld [0] 0 (eVar 6)) (aCons (eFld [0] 1 (eVar 6)) aNil))) (aCons (eVar 5) (aCons (eVar 4) aNil))))))))) (sRet (eLit (.bl false))) sNil) (sCons (sIf (tBl (eBin oNotB (eMeth cf 5 2 [(0, 9)] (eVar 6) (aCons (eVar 1) (aCons (eVar 2) (aCons (eVar 3) (aCons (eVar 4) aNil))))) (eLit (.bl true)))) (sRet (eLit (.bl false))) sNil) (sCons (sAsg (gTp [(gNm 7), (gNm 8)]) (eVar 5)) (sCons (sFor (iSeq (eTup (aCons (eTup (aCons (eBin oSub (eVar 7) (eLit (.int 1))) (aCons (eLit (.bl false)) aNil))) (aCons (eTup (aCons (eVar 7) (aCons (eLit (.bl true)) aNil))) (aCons (eTup (aCons (eVar 8) (aCons (eLit (.bl true)) aNil))) (aCons (eTup (aCons (eBin oCat (eVar 8) (eLit (.int 1))) (aCons (eLit (.bl false)) aNil))) aNil)))))) (gTp [(gNm 9), (gNm 10)]) (sCons (sAsg (gNm 11) (eAn (eCh oLe oLe (eLit (.int 0)) (eVar 9) (eVar 1)) (eCh oLe oLe (eBin oRep (eVar 9) (eVar 4)) (eVar 3) (eBin oCat (eBin oRep (eVar 9) (eBin oSub (eVar 2) (eLit (.int 1)))) (eBin oRep (eBin oSub (eVar 1) (eVar 9)) (eBin oSub (eVar 4) (eLit (.int 1)))))))) (sIf (tBl (eNe cf [(0, 8)] [.non, .bl, .int, .str, .tup, .lst, .dct, .own 0] (eVar 11) (eVar 10))) (sRet (eLit (.bl false))) sNil))) (sCons (sPar [12, 13] (aCons (eFld [0] 0 (eVar 6)) (aCons (eFld [0] 1 (eVar 6)) aNil))) (sCons (sAsg (gNm 14) (eIf (tBl (eBin oGt (eVar 1) (eLit (.int 1)))) (eBin oCat (eBin oCat (eTup (aCons (eUn oNeg (eLit (.int 1))) aNil)) (eSl (eVar 13) (pSo (eLit (.int 1))) (pSo (eUn oNeg (eLit (.int 1)))))) (eTup (aCons (eBin oCat (eBin oCat (eIx cf [] (eVar 13) (eUn oNeg (eLit (.int 1)))) (eIx cf [] (eVar 13) (eLit (.int 0)))) (eLit (.int 1))) aNil))) (eTup (aCons (eVar 2) aNil)))) (sCons (sAsg (gNm 15) (eLst (aCons (eTup (aCons (eVar 13) (aCons (eVar 12) aNil))) (aCons (eTup (aCons (eVar 12) (aCons (eVar 12) aNil))) (aCons (eTup (aCons (eSl (eVar 12) (pSo (eLit (.int 1))) pNo) (aCons (eVar 13) aNil))) (aCons (eTup (aCons (eBin oCat (eVar 12) (eTup (aCons (eLit (.int 0)) aNil))) (aCons (eVar 13) aNil))) (aCons (eTup (aCons (eVar 12) (aCons (eBin oCat (eSl (eVar 13) pNo (pSo (eUn oNeg (eLit (.int 1))))) (eTup (aCons (eVar 2) aNil))) aNil))) (aCons (eTup (aCons (eVar 12) (aCons (eBin oRepT (eTup (aCons (eLit (.int 0)) aNil)) (eVar 1)) aNil))) aNil)))))))) (sCons (sFor (iSeq (eBin oCat (eVar 15) (eLst (aCons (eTup (aCons (eVar 12) (aCons (eVar 14) aNil))) (aCons (eTup (aCons (eVar 14) (aCons (eVar 13) aNil))) (aCons (eTup (aCons (eRev2 (eVar 14)) (aCons (eVar 13) aNil))) aNil)))))) (gNm 16) (sIf (tBl (eNe cf [(0, 8)] [.non, .bl, .int, .str, .tup, .lst, .dct, .own 0] (eMeth cf 5 2 [(0, 9)] (eMake cf 3 0 7 (aCons (eIx cf [] (eVar 16) (eLit (.int 0))) (aCons (eIx cf [] (eVar 16) (eLit (.int 1))) aNil))) (aCons (eVar 1) (aCons (eVar 2) (aCons (eVar 3) (aCons (eVar 4) aNil))))) (eCall cf 6 20 (aCons (eVar 1) (aCons (eVar 2) (aCons (eVar 3) (aCons (eVar 16) (aCons (eVar 5) (aCons (eVar 4) aNil))))))))) (sRet (eLit (.bl false))) sNil)) (sRet (eLit (.bl true))))))))))))))) := by
  have T : Tb (cxOf L2.CX0 P w K mg base N21 "_law_great_right" (defScope (top 29)) ((GG K).fa 21) cdv A outer s H E).nox (GG K) cf (2 * n) := ⟨rfl, ih, hr, rfl⟩
  have nd := sc21.nd
  exact (ss_cons (ss_par (ps_par (i := 1) (j := 2) rfl nd rfl rfl (by decide) rfl rfl (sa_cons (se_bin op_catR ok_cat (se_lit pe_int fun _ _ => rfl) (sx_call T rfl (m_f__law_take C) (m_k__law_take C) (sa_cons (se_var (pv 0)) (sa_cons (se_lit pe_int fun _ _ => rfl) sa_nil)))) (sa_cons (se_bin op_catR ok_cat (se_lit pe_int fun _ _ => rfl) (sx_call T rfl (m_f__law_take C) (m_k__law_take C) (sa_cons (se_var (pv 0)) (sa_cons (se_lit pe_int fun _ _ => rfl) sa_nil)))) sa_nil)) (by rfl)))
 (ss_cons (ss_par (ps_par (i := 3) (j := 4) rfl nd rfl rfl (by decide) rfl rfl (sa_cons (sx_call T rfl (m_f__law_take C) (m_k__law_take C) (sa_cons (se_var (pv 0)) (sa_cons (se_bin op_catR ok_cat (se_bin op_repR ok_rep (se_var (pv 1)) (se_bin op_sub ok_sub (se_var (pv 2)) (se_lit pe_int fun _ _ => rfl))) (se_lit pe_int fun _ _ => rfl)) sa_nil))) (sa_cons (se_bin op_catR ok_cat (se_lit pe_int fun _ _ => rfl) (sx_call T rfl (m_f__law_take C) (m_k__law_take C) (sa_cons (se_var (pv 0)) (sa_cons (se_bin op_sub ok_sub (se_var (pv 2)) (se_lit pe_int fun _ _ => rfl)) sa_nil)))) sa_nil)) (by rfl)))
 (ss_cons (ss_par (ps_par (i := 5) (j := 6) rfl nd rfl rfl (by decide) rfl rfl (sa_cons (sx_call T rfl (m_f_at_least C) (m_k_at_least C) (sa_cons (se_var (pv 1)) (sa_cons (se_var (pv 2)) (sa_cons (se_var (pv 3)) (sa_cons (se_var (pv 4)) sa_nil))))) (sa_cons (sx_call T rfl (m_f_reach_both C) (m_k_reach_both C) (sa_cons (se_var (pv 1)) (sa_cons (se_var (pv 2)) (sa_cons (se_var (pv 3)) (sa_cons (se_var (pv 4)) sa_nil))))) sa_nil)) (by rfl)))
 (ss_cons (ss_if (st_no (st_tru rfl (sx_call T rfl (m_f__law_shows C) (m_k__law_shows C) (sa_cons (se_var (pv 1)) (sa_cons (se_var (pv 2)) (sa_cons (se_var (pv 3)) (sa_cons (se_tup (sa_cons (se_fld (f := 0) rfl (inj 0 (by decide)) (m_fld_least C) (se_var (pv 6))) (sa_cons (se_fld (f := 1) rfl (inj 1 (by decide)) (m_fld_greatest C) (se_var (pv 6))) sa_nil))) (sa_cons (se_var (pv 5)) (sa_cons (se_var (pv 4)) sa_nil))))))))) (ss_one (ss_ret (se_lit pe_bl fun _ _ => rfl))) ss_nil)
 (ss_cons (ss_if (st_cmp op_isnot_bl ok_notB (se_meth (m := 2) T (inj 2 (by decide)) (m_met_shows C) (se_var (pv 6)) (sa_cons (se_var (pv 1)) (sa_cons (se_var (pv 2)) (sa_cons (se_var (pv 3)) (sa_cons (se_var (pv 4)) sa_nil))))) (se_lit pe_bl fun _ _ => rfl) (nomark _)) (ss_one (ss_ret (se_lit pe_bl fun _ _ => rfl))) ss_nil)
 (ss_cons (ss_asg (ps_asg (toV (se_var (pv 5))) (pg_tup rfl (pgs_cons (pg_name (i := 7) nd rfl (by first | exact Or.inl rfl | exact Or.inr rfl)) (pgs_cons (pg_name (i := 8) nd rfl (by first | exact Or.inl rfl | exact Or.inr rfl)) pgs_nil)))) (tg_tp (tgs_cons (tg_nm 7) (tgs_cons (tg_nm 8) tgs_nil)) rfl))
 (ss_cons (ss_for (ps_for PassesOwn.never rfl (si_seq rfl (se_tup (sa_cons (se_tup (sa_cons (se_bin op_sub ok_sub (se_var (pv 7)) (se_lit pe_int fun _ _ => rfl)) (sa_cons (se_lit pe_bl fun _ _ => rfl) sa_nil))) (sa_cons (se_tup (sa_cons (se_var (pv 7)) (sa_cons (se_lit pe_bl fun _ _ => rfl) sa_nil))) (sa_cons (se_tup (sa_cons (se_var (pv 8)) (sa_cons (se_lit pe_bl fun _ _ => rfl) sa_nil))) (sa_cons (se_tup (sa_cons (se_bin op_catR ok_cat (se_var (pv 8)) (se_lit pe_int fun _ _ => rfl)) (sa_cons (se_lit pe_bl fun _ _ => rfl) sa_nil))) sa_nil)))))) (pg_tup rfl (pgs_cons (pg_name (i := 9) nd rfl (by first | exact Or.inl rfl | exact Or.inr rfl)) (pgs_cons (pg_name (i := 10) nd rfl (by first | exact Or.inl rfl | exact Or.inr rfl)) pgs_nil))) (ss_cons (ss_asg (ps_asg (toV (se_and rfl (se_ch op_le ok_le op_le ok_le (se_lit pe_int fun _ _ => rfl) (se_var (pv 9)) (se_var (pv 1)) (pe_chain op_le op_le (toV (se_lit pe_int fun _ _ => rfl)) (toV (se_var (pv 9))) (toV (se_var (pv 1))))) (se_one (se_ch op_le ok_le op_le ok_le (se_bin op_repR ok_rep (se_var (pv 9)) (se_var (pv 4))) (se_var (pv 3)) (se_bin op_catR ok_cat (se_bin op_repR ok_rep (se_var (pv 9)) (se_bin op_sub ok_sub (se_var (pv 2)) (se_lit pe_int fun _ _ => rfl))) (se_bin op_repR ok_rep (se_bin op_sub ok_sub (se_var (pv 1)) (se_var (pv 9))) (se_bin op_sub ok_sub (se_var (pv 4)) (se_lit pe_int fun _ _ => rfl)))) (pe_chain op_le op_le (toV (se_bin op_repR ok_rep (se_var (pv 9)) (se_var (pv 4)))) (toV (se_var (pv 3))) (toV (se_bin op_catR ok_cat (se_bin op_repR ok_rep (se_var (pv 9)) (se_bin op_sub ok_sub (se_var (pv 2)) (se_lit pe_int fun _ _ => rfl))) (se_bin op_repR ok_rep (se_bin op_sub ok_sub (se_var (pv 1)) (se_var (pv 9))) (se_bin op_sub ok_sub (se_var (pv 4)) (se_lit pe_int fun _ _ => rfl)))))))))) (pg_name (i := 11) nd rfl (by first | exact Or.inl rfl | exact Or.inr rfl))) (tg_nm 11))
 (ss_one (ss_if (st_ne T (m_eqt C) (se_var (pv 11)) (se_var (pv 10)) (nomark _)) (ss_one (ss_ret (se_lit pe_bl fun _ _ => rfl))) ss_nil)))) (tg_tp (tgs_cons (tg_nm 9) (tgs_cons (tg_nm 10) tgs_nil)) rfl))
 (ss_cons (ss_par (ps_par (i := 12) (j := 13) rfl nd rfl rfl (by decide) rfl rfl (sa_cons (se_fld (f := 0) rfl (inj 0 (by decide)) (m_fld_least C) (se_var (pv 6))) (sa_cons (se_fld (f := 1) rfl (inj 1 (by decide)) (m_fld_greatest C) (se_var (pv 6))) sa_nil)) (by rfl)))
 (ss_cons (ss_asg (ps_asg (toV (se_if (st_cmp op_gt ok_gt (se_var (pv 1)) (se_lit pe_int fun _ _ => rfl) (nomark _)) (se_bin op_catR ok_cat (se_bin op_catR ok_cat (se_tup (sa_cons (se_un un_neg ok_neg (se_lit pe_int fun _ _ => rfl)) sa_nil)) (se_sl rfl (se_var (pv 13)) (so_some (se_lit pe_int fun _ _ => rfl)) (so_some (se_un un_neg ok_neg (se_lit pe_int fun _ _ => rfl))))) (se_tup (sa_cons (se_bin op_catR ok_cat (se_bin op_catR ok_cat (se_ixG T (m_spc___getitem__ C) (se_var (pv 13)) (se_un un_neg ok_neg (se_lit pe_int fun _ _ => rfl)) (fun _ _ => rfl) (fun _ _ => by with_unfolding_all rfl)) (se_ixG T (m_spc___getitem__ C) (se_var (pv 13)) (se_lit pe_int fun _ _ => rfl) (fun _ _ => rfl) (fun _ _ => by with_unfolding_all rfl))) (se_lit pe_int fun _ _ => rfl)) sa_nil))) (se_tup (sa_cons (se_var (pv 2)) sa_nil)))) (pg_name (i := 14) nd rfl (by first | exact Or.inl rfl | exact Or.inr rfl))) (tg_nm 14))
 (ss_cons (ss_asg (ps_asg (toV (se_lst (sa_cons (se_tup (sa_cons (se_var (pv 13)) (sa_cons (se_var (pv 12)) sa_nil))) (sa_cons (se_tup (sa_cons (se_var (pv 12)) (sa_cons (se_var (pv 12)) sa_nil))) (sa_cons (se_tup (sa_cons (se_sl rfl (se_var (pv 12)) (so_some (se_lit pe_int fun _ _ => rfl)) so_none) (sa_cons (se_var (pv 13)) sa_nil))) (sa_cons (se_tup (sa_cons (se_bin op_catR ok_cat (se_var (pv 12)) (se_tup (sa_cons (se_lit pe_int fun _ _ => rfl) sa_nil))) (sa_cons (se_var (pv 13)) sa_nil))) (sa_cons (se_tup (sa_cons (se_var (pv 12)) (sa_cons (se_bin op_catR ok_cat (se_sl rfl (se_var (pv 13)) so_none (so_some (se_un un_neg ok_neg (se_lit pe_int fun _ _ => rfl)))) (se_tup (sa_cons (se_var (pv 2)) sa_nil))) sa_nil))) (sa_cons (se_tup (sa_cons (se_var (pv 12)) (sa_cons (se_bin op_repTT ok_repT (se_tup (sa_cons (se_lit pe_int fun _ _ => rfl) sa_nil)) (se_var (pv 1))) sa_nil))) sa_nil)))))))) (pg_name (i := 15) nd rfl (by first | exact Or.inl rfl | exact Or.inr rfl))) (tg_nm 15))
 (ss_cons (ss_for (ps_for PassesOwn.never rfl (si_seq rfl (se_bin op_catR ok_cat (se_var (pv 15)) (se_lst (sa_cons (se_tup (sa_cons (se_var (pv 12)) (sa_cons (se_var (pv 14)) sa_nil))) (sa_cons (se_tup (sa_cons (se_var (pv 14)) (sa_cons (se_var (pv 13)) sa_nil))) (sa_cons (se_tup (sa_cons (se_rev2 rfl (se_var (pv 14))) (sa_cons (se_var (pv 13)) sa_nil))) sa_nil)))))) (pg_name (i := 16) nd rfl (by first | exact Or.inl rfl | exact Or.inr rfl)) (ss_one (ss_if (st_ne T (m_eqt C) (se_meth (m := 2) T (inj 2 (by decide)) (m_met_shows C) (se_make T (m_mk_Ends C) rfl (m_c_Ends C) (sa_cons (se_ixG T (m_spc___getitem__ C) (se_var (pv 16)) (se_lit pe_int fun _ _ => rfl) (fun _ _ => rfl) (fun _ _ => by with_unfolding_all rfl)) (sa_cons (se_ixG T (m_spc___getitem__ C) (se_var (pv 16)) (se_lit pe_int fun _ _ => rfl) (fun _ _ => rfl) (fun _ _ => by with_unfolding_all rfl)) sa_nil))) (sa_cons (se_var (pv 1)) (sa_cons (se_var (pv 2)) (sa_cons (se_var (pv 3)) (sa_cons (se_var (pv 4)) sa_nil))))) (sx_call T rfl (m_f__law_shows C) (m_k__law_shows C) (sa_cons (se_var (pv 1)) (sa_cons (se_var (pv 2)) (sa_cons (se_var (pv 3)) (sa_cons (se_var (pv 16)) (sa_cons (se_var (pv 5)) (sa_cons (se_var (pv 4)) sa_nil))))))) (nomark _)) (ss_one (ss_ret (se_lit pe_bl fun _ _ => rfl))) ss_nil))) (tg_nm 16))
 (ss_one (ss_ret (se_lit pe_bl fun _ _ => rfl))))))))))))))
theorem ok21 {n : Nat} (C : Ctx K base mg) (ih : All P w K mg base (GG K) TT n) : ∀ np, FnR P w K mg base L2.CX0 (2 * (n + 1)) ((GG K).fa 21) (spF (GG K) (callF TT (n + 1)) 21 np) := by
  obtain ⟨fd, F⟩ := C.says.def_ 21 (d := d21) rfl
  exact def_ok (b := b21) rfl F sc21 rfl rfl (FunD_binds F fun _ _ _ _ _ _ us hl => match us, hl with | [_], _ => rfl) fun cdv A outer s H E n0 hr => dv21 C ih cdv A outer s H E n0 hr
abbrev N22 : List Str := ["_law_script", "_law_draw", "_law_turn", "_law_rows", "_law_width", "_law_total", "_law_lines_here", "_law_value", "_law_rank", "_law_numbers", "_law_low", "_law_high", "_law_ranked", "_law_least", "_law_most", "_law_one", "_law_pair", "_law_some"]
theorem sc22 : FnScope N22 ["_law_script"] (defScope (top 30)) := ⟨rfl, rfl, rfl, by decide +kernel, rfl, by decide +kernel, by decide +kernel⟩
theorem dv22 {n : Nat} {cf : CF} (C : Ctx K base mg) (ih : ∀ f np, FnR P w K mg base L2.CX0 (2 * n) ((GG K).fa f) (spF (GG K) cf f np)) (cdv : Value) (A : Around) (outer : List PySem.Env) (s : Shared) (H : Hp) (E : XK) (n0 : Nat) (hr : Room (2 * n + 1) (A.deeper (envOfC "law" (defScope (top 30)) s.heap.objs.size ((GG K).fa 22) cdv))) :
    PSs (cxOf L2.CX0 P w K mg base N22 "law" (defScope (top 30)) ((GG K).fa 22) cdv A outer s H E).nox (defBody (top 30)) (rdS (GG K) n0 (sCons (sAsg (gNm 1) (eNew (eLst (aCons (eVar 0) (aCons (eLit (.int 0)) aNil))))) (sCons (sFor (iRg1 (eLit (.int 3))) (gNm 2) (sCons (sPar [3, 4] (aCons (eBin oCat (eLit (.int 1)) (eCall cf 2 16 (aCons (eVar 1) (aCons (eLit (.int 6)) aNil)))) (aCons (eBin oCat (eLit (.int 2)) (eCall cf 2 16 (aCons (eVar 1) (aCons (eLit (.int 4)) aNil)))) aNil))) (sCons (sAsg (gNm 5) (eCall cf 2 16 (aCons (eVar 1) (aCons (eBin oCat (eBin oRep (eVar 3) (eBin oSub (eVar 4) (eLit (.int 1)))) (eLit (.int 1))) aNil)))) (sCons (sAsg (gTp [(gNm 6), (gNm 7), (gNm 8)]) (eTup (aCons (eCall cf 3 18 (aCons (eVar 3) (aCons (eVar 4) (aCons (eVar 5) aNil)))) (aCons (eBin oCat (eLit (.int 1)) (eCall cf 2 16 (aCons (eVar 1) (aCons (eBin oSub (eVar 4) (eLit (.int 1))) aNil)))) (aCons (eCall cf 2 16 (aCons (eVar 1) (aCons (eVar 3) aNil))) aNil))))) (sCons (sAsg (gNm 9) (eArg bSset (aCons (eLc (iSeq (eVar 6)) (gNm 17) [17] tYesP (eCall cf 2 19 (aCons (eVar 17) (aCons (eVar 7) aNil)))) aNil))) (sCons (sAsg (gTp [(gNm 10), (gNm 11)]) (eCall cf 4 12 (aCons (eVar 3) (aCons (eVar 4) (aCons (eVar 5) (aCons (eVar 7) aNil)))))) (sCons (sIf (tBl (eNe cf [(0, 8)] [.non, .bl, .int, .str, .tup, .lst, .dct, .own 0] (eVar 9) (eLr2 (eVar 10) (eBin oCat (eVar 11) (eLit (.int 1)))))) (sRet (eLit (.bl false))) sNil) (sCons (sAsg (gNm 12) (eArg bSset (aCons (eLc (iSeq (eVar 6)) (gNm 17) [17] tYesP (eIx cf [] (eVar 17) (eVar 8))) aNil))) (sCons (sAsg (gTp [(gNm 13), (gNm 14)]) (eCall cf 4 14 (aCons (eVar 3) (aCons (eVar 4) (aCons (eVar 5) (aCons (eVar 8) aNil)))))) (sCons (sIf (tBl (eNe cf [(0, 8)] [.non, .bl, .int, .str, .tup, .lst, .dct, .own 0] (eVar 12) (eLr2 (eVar 13) (eBin oCat (eVar 14) (eLit (.int 1)))))) (sRet (eLit (.bl false))) sNil) (sCons (sFor (iRg1 (eLit (.int 3))) (gNm 15) (sCons (sAsg (gNm 16) (eLst (aCons (eCall cf 2 17 (aCons (eVar 1) (aCons (eVar 6) aNil))) (aCons (eCall cf 2 17 (aCons (eVar 1) (aCons (eVar 6) aNil))) aNil)))) (sCons (sAsg (gNm 16) (eLst (aCons (eIf (tBl (eEq cf [(0, 8)] [.non, .bl, .int, .str, .tup, .lst, .dct, .own 0] (eVar 15) (eLit (.int 1)))) (eRev2 (eIx cf [] (eVar 16) (eLit (.int 0)))) (eIx cf [] (eVar 16) (eLit (.int 0)))) (aCons (eIf (tBl (eEq cf [(0, 8)] [.non, .bl, .int, .str, .tup, .lst, .dct, .own 0] (eVar 15) (eLit (.int 2)))) (eArg bList (aCons (eIx cf [] (eVar 16) (eLit (.int 1))) aNil)) (eIx cf [] (eVar 16) (eLit (.int 1)))) aNil)))) (sIf (tBl (eNe cf [(0, 8)] [.non, .bl, .int, .str, .tup, .lst, .dct, .own 0] (eMeth cf 5 2 [(0, 9)] (eMake cf 3 0 7 (aCons (eIx cf [] (eVar 16) (eLit (.int 0))) (aCons (eIx cf [] (eVar 16) (eLit (.int 1))) aNil))) (aCons (eVar 3) (aCons (eVar 4) (aCons (eVar 5) (aCons (eVar 7) aNil))))) (eCall cf 6 20 (aCons (eVar 3) (aCons (eVar 4) (aCons (eVar 5) (aCons (eVar 16) (aCons (eTup (aCons (eVar 10) (aCons (eVar 11) aNil))) (aCons (eVar 7) aNil))))))))) (sRet (eLit (.bl false))) sNil)))) (sIf (tNo (tTru (eCall cf 1 21 (aCons (eVar 1) aNil)))) (sRet (eLit (.bl false))) sNil)))))))))))) (sRet (eLit (.bl true)))))) := by
  have T : Tb (cxOf L2.CX0 P w K mg base N22 "law" (defScope (top 30)) ((GG K).fa 22) cdv A outer s H E).nox (GG K) cf (2 * n) := ⟨rfl, ih, hr, rfl⟩
  have nd := sc22.nd
  exact (ss_cons (ss_asg (ps_asg (toV (se_new (se_lst (sa_cons (se_var (pv 0)) (sa_cons (se_lit pe_int fun _ _ => rfl) sa_nil))))) (pg_name (i := 1) nd rfl (by first | exact Or.inl rfl | exact Or.inr rfl))) (tg_nm 1))
 (ss_cons (ss_for (ps_for PassesOwn.never rfl (si_rng1 rfl (m_b_range C) (se_lit pe_int fun _ _ => rfl)) (pg_name (i := 2) nd rfl (by first | exact Or.inl rfl | exact Or.inr rfl)) (ss_cons (ss_par (ps_par (i := 3) (j := 4) rfl nd rfl rfl (by decide) rfl rfl (sa_cons (se_bin op_catR ok_cat (se_lit pe_int fun _ _ => rfl) (sx_call T rfl (m_f__law_take C) (m_k__law_take C) (sa_cons (se_var (pv 1)) (sa_cons (se_lit pe_int fun _ _ => rfl) sa_nil)))) (sa_cons (se_bin op_catR ok_cat (se_lit pe_int fun _ _ => rfl) (sx_call T rfl (m_f__law_take C) (m_k__law_take C) (sa_cons (se_var (pv 1)) (sa_cons (se_lit pe_int fun _ _ => rfl) sa_nil)))) sa_nil)) (by rfl)))
 (ss_cons (ss_asg (ps_asg (toV (sx_call T rfl (m_f__law_take C) (m_k__law_take C) (sa_cons (se_var (pv 1)) (sa_cons (se_bin op_catR ok_cat (se_bin op_repR ok_rep (se_var (pv 3)) (se_bin op_sub ok_sub (se_var (pv 4)) (se_lit pe_int fun _ _ => rfl))) (se_lit pe_int fun _ _ => rfl)) sa_nil)))) (pg_name (i := 5) nd rfl (by first | exact Or.inl rfl | exact Or.inr rfl))) (tg_nm 5))
 (ss_cons (ss_asg (ps_asg (toV (se_tup (sa_cons (sx_call T rfl (m_f__law_lines C) (m_k__law_lines C) (sa_cons (se_var (pv 3)) (sa_cons (se_var (pv 4)) (sa_cons (se_var (pv 5)) sa_nil)))) (sa_cons (se_bin op_catR ok_cat (se_lit pe_int fun _ _ => rfl) (sx_call T rfl (m_f__law_take C) (m_k__law_take C) (sa_cons (se_var (pv 1)) (sa_cons (se_bin op_sub ok_sub (se_var (pv 4)) (se_lit pe_int fun _ _ => rfl)) sa_nil)))) (sa_cons (sx_call T rfl (m_f__law_take C) (m_k__law_take C) (sa_cons (se_var (pv 1)) (sa_cons (se_var (pv 3)) sa_nil))) sa_nil))))) (pg_tup rfl (pgs_cons (pg_name (i := 6) nd rfl (by first | exact Or.inl rfl | exact Or.inr rfl)) (pgs_cons (pg_name (i := 7) nd rfl (by first | exact Or.inl rfl | exact Or.inr rfl)) (pgs_cons (pg_name (i := 8) nd rfl (by first | exact Or.inl rfl | exact Or.inr rfl)) pgs_nil))))) (tg_tp (tgs_cons (tg_nm 6) (tgs_cons (tg_nm 7) (tgs_cons (tg_nm 8) tgs_nil))) rfl))
 (ss_cons (ss_asg (ps_asg (toV (se_sset T rfl (m_b_sorted C) rfl (m_b_set C) (se_lc (own := [("_law_some", 17)]) rfl nd (si_seq rfl (se_var (pv 6))) (blk_ok (own := [("_law_some", 17)]) (by kernel_rfl)) (tb_nm 17 (by decide)) (fun _ _ _ _ _ => (pg_name (i := 17) nd rfl (by first | exact Or.inl rfl | exact Or.inr rfl))) (fun _ _ _ _ _ => sts_nil) (fun _ _ _ _ _ => (sx_call (T.blk _ _ _ _ _) rfl (m_f__law_reaching C) (m_k__law_reaching C) (sa_cons (se_var (pv 17)) (sa_cons (se_var (pv 7)) sa_nil))))))) (pg_name (i := 9) nd rfl (by first | exact Or.inl rfl | exact Or.inr rfl))) (tg_nm 9))
 (ss_cons (ss_asg (ps_asg (toV (sx_call T rfl (m_f_at_least C) (m_k_at_least C) (sa_cons (se_var (pv 3)) (sa_cons (se_var (pv 4)) (sa_cons (se_var (pv 5)) (sa_cons (se_var (pv 7)) sa_nil)))))) (pg_tup rfl (pgs_cons (pg_name (i := 10) nd rfl (by first | exact Or.inl rfl | exact Or.inr rfl)) (pgs_cons (pg_name (i := 11) nd rfl (by first | exact Or.inl rfl | exact Or.inr rfl)) pgs_nil)))) (tg_tp (tgs_cons (tg_nm 10) (tgs_cons (tg_nm 11) tgs_nil)) rfl))
 (ss_cons (ss_if (st_ne T (m_eqt C) (se_var (pv 9)) (se_lr2 rfl rfl (m_b_list C) rfl (m_b_range C) (se_var (pv 10)) (se_bin op_catR ok_cat (se_var (pv 11)) (se_lit pe_int fun _ _ => rfl))) (nomark _)) (ss_one (ss_ret (se_lit pe_bl fun _ _ => rfl))) ss_nil)
 (ss_cons (ss_asg (ps_asg (toV (se_sset T rfl (m_b_sorted C) rfl (m_b_set C) (se_lc (own := [("_law_some", 17)]) rfl nd (si_seq rfl (se_var (pv 6))) (blk_ok (own := [("_law_some", 17)]) (by kernel_rfl)) (tb_nm 17 (by decide)) (fun _ _ _ _ _ => (pg_name (i := 17) nd rfl (by first | exact Or.inl rfl | exact Or.inr rfl))) (fun _ _ _ _ _ => sts_nil) (fun _ _ _ _ _ => (se_ixG (T.blk _ _ _ _ _) (m_spc___getitem__ C) (se_var (pv 17)) (se_var (pv 8)) (fun _ _ => rfl) (fun _ _ => by with_unfolding_all rfl)))))) (pg_name (i := 12) nd rfl (by first | exact Or.inl rfl | exact Or.inr rfl))) (tg_nm 12))
 (ss_cons (ss_asg (ps_asg (toV (sx_call T rfl (m_f_rank_values C) (m_k_rank_values C) (sa_cons (se_var (pv 3)) (sa_cons (se_var (pv 4)) (sa_cons (se_var (pv 5)) (sa_cons (se_var (pv 8)) sa_nil)))))) (pg_tup rfl (pgs_cons (pg_name (i := 13) nd rfl (by first | exact Or.inl rfl | exact Or.inr rfl)) (pgs_cons (pg_name (i := 14) nd rfl (by first | exact Or.inl rfl | exact Or.inr rfl)) pgs_nil)))) (tg_tp (tgs_cons (tg_nm 13) (tgs_cons (tg_nm 14) tgs_nil)) rfl))
 (ss_cons (ss_if (st_ne T (m_eqt C) (se_var (pv 12)) (se_lr2 rfl rfl (m_b_list C) rfl (m_b_range C) (se_var (pv 13)) (se_bin op_catR ok_cat (se_var (pv 14)) (se_lit pe_int fun _ _ => rfl))) (nomark _)) (ss_one (ss_ret (se_lit pe_bl fun _ _ => rfl))) ss_nil)
 (ss_cons (ss_for (ps_for PassesOwn.never rfl (si_rng1 rfl (m_b_range C) (se_lit pe_int fun _ _ => rfl)) (pg_name (i := 15) nd rfl (by first | exact Or.inl rfl | exact Or.inr rfl)) (ss_cons (ss_asg (ps_asg (toV (se_lst (sa_cons (sx_call T rfl (m_f__law_pick C) (m_k__law_pick C) (sa_cons (se_var (pv 1)) (sa_cons (se_var (pv 6)) sa_nil))) (sa_cons (sx_call T rfl (m_f__law_pick C) (m_k__law_pick C) (sa_cons (se_var (pv 1)) (sa_cons (se_var (pv 6)) sa_nil))) sa_nil)))) (pg_name (i := 16) nd rfl (by first | exact Or.inl rfl | exact Or.inr rfl))) (tg_nm 16))
 (ss_cons (ss_asg (ps_asg (toV (se_lst (sa_cons (se_if (st_eq T (m_eqt C) (se_var (pv 15)) (se_lit pe_int fun _ _ => rfl) (nomark _)) (se_rev2 rfl (se_ixG T (m_spc___getitem__ C) (se_var (pv 16)) (se_lit pe_int fun _ _ => rfl) (fun _ _ => rfl) (fun _ _ => by with_unfolding_all rfl))) (se_ixG T (m_spc___getitem__ C) (se_var (pv 16)) (se_lit pe_int fun _ _ => rfl) (fun _ _ => rfl) (fun _ _ => by with_unfolding_all rfl))) (sa_cons (se_if (st_eq T (m_eqt C) (se_var (pv 15)) (se_lit pe_int fun _ _ => rfl) (nomark _)) (se_argB (pe_callTy call_list_of rfl (m_b_list C) (by rfl) (sa_cons (se_ixG T (m_spc___getitem__ C) (se_var (pv 16)) (se_lit pe_int fun _ _ => rfl) (fun _ _ => rfl) (fun _ _ => by with_unfolding_all rfl)) sa_nil)) ok_list) (se_ixG T (m_spc___getitem__ C) (se_var (pv 16)) (se_lit pe_int fun _ _ => rfl) (fun _ _ => rfl) (fun _ _ => by with_unfolding_all rfl))) sa_nil)))) (pg_name (i := 16) nd rfl (by first | exact Or.inl rfl | exact Or.inr rfl))) (tg_nm 16))
 (ss_one (ss_if (st_ne T (m_eqt C) (se_meth (m := 2) T (inj 2 (by decide)) (m_met_shows C) (se_make T (m_mk_Ends C) rfl (m_c_Ends C) (sa_cons (se_ixG T (m_spc___getitem__ C) (se_var (pv 16)) (se_lit pe_int fun _ _ => rfl) (fun _ _ => rfl) (fun _ _ => by with_unfolding_all rfl)) (sa_cons (se_ixG T (m_spc___getitem__ C) (se_var (pv 16)) (se_lit pe_int fun _ _ => rfl) (fun _ _ => rfl) (fun _ _ => by with_unfolding_all rfl)) sa_nil))) (sa_cons (se_var (pv 3)) (sa_cons (se_var (pv 4)) (sa_cons (se_var (pv 5)) (sa_cons (se_var (pv 7)) sa_nil))))) (sx_call T rfl (m_f__law_shows C) (m_k__law_shows C) (sa_cons (se_var (pv 3)) (sa_cons (se_var (pv 4)) (sa_cons (se_var (pv 5)) (sa_cons (se_var (pv 16)) (sa_cons (se_tup (sa_cons (se_var (pv 10)) (sa_cons (se_var (pv 11)) sa_nil))) (sa_cons (se_var (pv 7)) sa_nil))))))) (nomark _)) (ss_one (ss_ret (se_lit pe_bl fun _ _ => rfl))) ss_nil))))) (tg_nm 15))
 (ss_one (ss_if (st_no (st_tru rfl (sx_call T rfl (m_f__law_great_right C) (m_k__law_great_right C) (sa_cons (se_var (pv 1)) sa_nil)))) (ss_one (ss_ret (se_lit pe_bl fun _ _ => rfl))) ss_nil))))))))))))) (tg_nm 2))
 (ss_one (ss_ret (se_lit pe_bl fun _ _ => rfl)))))
theorem ok22 {n : Nat} (C : Ctx K base mg) (ih : All P w K mg base (GG K) TT n) : ∀ np, FnR P w K mg base L2.CX0 (2 * (n + 1)) ((GG K).fa 22) (spF (GG K) (callF TT (n + 1)) 22 np) := by
  obtain ⟨fd, F⟩ := C.says.def_ 22 (d := d22) rfl
  exact def_ok (b := b22) rfl F sc22 rfl rfl (FunD_binds F fun _ _ _ _ _ _ us hl => match us, hl with | [_], _ => rfl) fun cdv A outer s H E n0 hr => dv22 C ih cdv A outer s H E n0 hr
theorem all_ok (C : Ctx K base mg) (n : Nat) : All P w K mg base (GG K) TT n := by
  induction n with
  | zero => exact all_zero
  | succ n ih =>
    intro f np
    match f with
    | 0 => exact ok0 C ih np
    | 1 => exact ok1 C ih np
    | 2 => exact ok2 C ih np
    | 3 => exact ok3 C ih np
    | 4 => exact ok4 C ih np
    | 5 => exact ok5 C ih np
    | 6 => exact ok6 C ih np
    | 7 => exact ok7 C ih np
    | 8 => exact ok8 C ih np
    | 9 => exact ok9 C ih np
    | 10 => exact ok10 C ih np
    | 11 => exact ok11 C ih np
    | 12 => exact ok12 C ih np
    | 13 => exact ok13 C ih np
    | 14 => exact ok14 C ih np
    | 15 => exact ok15 C ih np
    | 16 => exact ok16 C ih np
    | 17 => exact ok17 C ih np
    | 18 => exact ok18 C ih np
    | 19 => exact ok19 C ih np
    | 20 => exact ok20 C ih np
    | 21 => exact ok21 C ih np
    | 22 => exact ok22 C ih np
    | k + 23 => exact fun A outer s H us vs Q E hr he hv hs => (spF_none (by rfl) hs).elim
theorem lawOk {n : Nat} {fd : FuncData} (C : Ctx K base mg) (F : FunD K d22.name d22.qual d22.params d22.body d22.scope [] [] ((GG K).fa 22) fd) : FnOk P w K mg base L2.CX0 (2 * (n + 1)) ((GG K).fa 22) fd ["_law_script"] (spF (GG K) (callF TT (n + 1)) 22 1) :=
  def_fn (b := b22) rfl F sc22 rfl rfl fun cdv A outer s H E n0 hr => dv22 C (all_ok C n) cdv A outer s H E n0 hr
end
end PX.K62
set_option Elab.async false
set_option linter.all false
set_option maxRecDepth 100000
set_option maxHeartbeats 0
namespace PX.K62
open PySem PySem.Spec PyProof.Rows L2 He PX
abbrev RR : PySem.W.OpenRow := PySem.W.OpenLaw.row PySem.Challenge.rw_bucketsums_k62_whole_means
abbrev hk : PySem.W.Hook := hookP 6 fb fn
def ob (s : PySem.W.SharedT) : He.AlD := obsPG 6 fb fn (HandSHeadRun.getT s)
theorem ob_eq (s : PySem.W.SharedT) : ob s = hk.obs s.abs := obsPG_eq (HandSHeadRun.getT_eq s)
theorem run (w : World) : HandSHeadRun.RunEq RR (PySem.W.view RR.prog [30]) hk ob 20000 ["SumError", "BadValue", "BadNumber", "BadSum", "MOST_VALUES", "is_number", "check_number", "MOST_ROWS", "check_known", "spread_over", "lowest_with", "highest_with", "row_with", "Ends", "check_asked", "ends_of", "at_least", "reach_both", "rank_values", "_law_number", "_law_take", "_law_pick", "_law_lines", "_law_reaching", "_law_shows", "_law_great_right"] w := by
  intro os
  kernel_rfl
end PX.K62
set_option linter.all false
namespace K62M
/-! rows between two rows -/
def spr : List Int → List Int → Int → List Int × Int
  | l :: ls, h :: hs, m => ((l + min (spr ls hs m).2 (h - l)) :: (spr ls hs m).1, (spr ls hs m).2 - min (spr ls hs m).2 (h - l))
  | _, _, m => ([], m)
def ptw : List Int → List Int → Prop
  | a :: as, b :: bs => a ≤ b ∧ ptw as bs
  | [], [] => True
  | _, _ => False
def srt : List Int → Prop
  | a :: b :: l => a ≤ b ∧ srt (b :: l)
  | _ => True
theorem ptw_len : ∀ {a b : List Int}, ptw a b → a.length = b.length
  | [], [], _ => rfl
  | _ :: as, _ :: bs, h => by simp only [List.length_cons]; rw [ptw_len h.2]
  | [], _ :: _, h => h.elim
  | _ :: _, [], h => h.elim
theorem ptw_sum : ∀ {a b : List Int}, ptw a b → a.sum ≤ b.sum
  | [], [], _ => Int.le_refl _
  | x :: as, y :: bs, h => by
    have := ptw_sum h.2
    have := h.1
    simp only [List.sum_cons]
    omega
  | [], _ :: _, h => h.elim
  | _ :: _, [], h => h.elim
theorem spr_ok : ∀ (ls hs : List Int) (m : Int), ptw ls hs → 0 ≤ m →
    ptw ls (spr ls hs m).1 ∧ ptw (spr ls hs m).1 hs ∧ (spr ls hs m).1.sum = ls.sum + m - (spr ls hs m).2 ∧ 0 ≤ (spr ls hs m).2 ∧ (0 < (spr ls hs m).2 → (spr ls hs m).1 = hs) ∧ (srt ls → srt hs → srt (spr ls hs m).1)
  | [], [], m, _, h => ⟨trivial, trivial, by simp [spr], h, fun _ => rfl, fun _ _ => trivial⟩
  | l :: ls, h :: hs, m, hp, h0 => by
    obtain ⟨g1, g2, g3, g4, g5, g6⟩ := spr_ok ls hs m hp.2 h0
    have e1 : (spr (l :: ls) (h :: hs) m).1 = (l + min (spr ls hs m).2 (h - l)) :: (spr ls hs m).1 := rfl
    have e2 : (spr (l :: ls) (h :: hs) m).2 = (spr ls hs m).2 - min (spr ls hs m).2 (h - l) := rfl
    have hlh := hp.1
    rw [e1, e2]
    generalize hX : spr ls hs m = X at *
    obtain ⟨r, k⟩ := X
    simp only at *
    refine ⟨⟨by omega, g1⟩, ⟨by omega, g2⟩, by simp only [List.sum_cons]; omega, by omega, fun hk => ?_, fun s1 s2 => ?_⟩
    · rw [g5 (by omega), show l + min k (h - l) = h by omega]
    · match r, ls, hs, g1, g2, g5, g6, s1, s2 with
      | [], _, _, _, _, _, _, _, _ => trivial
      | x :: r, [], _, g1, _, _, _, _, _ => exact g1.elim
      | x :: r, y :: ls, [], _, g2, _, _, _, _ => exact g2.elim
      | x :: r, y :: ls, z :: hs, g1, g2, g5, g6, s1, s2 =>
        refine ⟨?_, g6 s1.2 s2.2⟩
        by_cases hk : 0 < k
        · have := g5 hk
          cases this
          have := s2.1
          omega
        · have := g1.1
          have := s1.1
          omega
  | [], _ :: _, m, hp, _ => hp.elim
  | _ :: _, [], m, hp, _ => hp.elim
theorem spr_all {ls hs : List Int} {m : Int} (hp : ptw ls hs) (h0 : 0 ≤ m) (h1 : ls.sum + m ≤ hs.sum) : (spr ls hs m).2 = 0 ∧ (spr ls hs m).1.sum = ls.sum + m := by
  obtain ⟨g1, g2, g3, g4, g5, g6⟩ := spr_ok ls hs m hp h0
  by_cases h : 0 < (spr ls hs m).2
  · have := g5 h
    rw [this] at g3
    omega
  · exact ⟨by omega, by omega⟩
end K62M
set_option linter.all false
namespace K62M
def cnt (v : Int) (row : List Int) : Nat := (row.filter fun x => decide (v ≤ x)).length
theorem cnt_cons (v x : Int) (row : List Int) : cnt v (x :: row) = (if v ≤ x then 1 else 0) + cnt v row := by
  unfold cnt
  by_cases h : v ≤ x
  · rw [List.filter_cons_of_pos (by simpa using h), if_pos h, List.length_cons]
    omega
  · rw [List.filter_cons_of_neg (by simpa using h), if_neg h]
    omega
theorem cnt_le (v : Int) (row : List Int) : cnt v row ≤ row.length := List.length_filter_le _ _
theorem cnt_app (v : Int) (a b : List Int) : cnt v (a ++ b) = cnt v a + cnt v b := by
  unfold cnt
  rw [List.filter_append, List.length_append]
/-! what a row of a sum has -/
theorem cnt_bounds {W v : Int} : ∀ (row : List Int), (∀ x ∈ row, 0 ≤ x ∧ x ≤ W - 1) → 
    v * (cnt v row : Int) ≤ row.sum ∧ row.sum ≤ (cnt v row : Int) * (W - 1) + ((row.length : Int) - cnt v row) * (v - 1)
  | [], _ => by simp [cnt]
  | x :: row, h => by
    have hx := h x List.mem_cons_self
    obtain ⟨g1, g2⟩ := cnt_bounds (v := v) row fun y hy => h y (List.mem_cons_of_mem _ hy)
    have hc := cnt_le v row
    rw [cnt_cons, List.sum_cons, List.length_cons]
    generalize hcc : cnt v row = c at *
    by_cases hv : v ≤ x
    · rw [if_pos hv]
      have e1 : v * (((1 + c : Nat)) : Int) = v + v * c := by rw [Int.natCast_add, Int.mul_add]; simp
      have e2 : (((1 + c : Nat)) : Int) * (W - 1) = (W - 1) + c * (W - 1) := by rw [Int.natCast_add, Int.add_mul]; simp
      have e3 : (((row.length + 1 : Nat) : Int) - ((1 + c : Nat) : Int)) = (row.length : Int) - c := by omega
      rw [e1, e2, e3]
      omega
    · rw [if_neg hv]
      have e3 : (((row.length + 1 : Nat) : Int) - ((0 + c : Nat) : Int)) * (v - 1) = ((row.length : Int) - c) * (v - 1) + (v - 1) := by
        rw [show (((row.length + 1 : Nat) : Int) - ((0 + c : Nat) : Int)) = ((row.length : Int) - c) + 1 by omega, Int.add_mul, Int.one_mul]
      rw [e3, Nat.zero_add]
      omega
/-! blocks -/
def blk (n m : Nat) (a b : Int) : List Int := List.replicate n a ++ List.replicate m b
theorem blk_len (n m : Nat) (a b : Int) : (blk n m a b).length = n + m := by simp [blk]
theorem blk_sum (n m : Nat) (a b : Int) : (blk n m a b).sum = n * a + m * b := by
  unfold blk
  rw [List.sum_append, List.sum_replicate_int, List.sum_replicate_int]
theorem rep_ptw : ∀ (n : Nat) {a b : Int}, a ≤ b → ptw (List.replicate n a) (List.replicate n b)
  | 0, _, _, _ => trivial
  | n + 1, a, b, h => ⟨h, rep_ptw n h⟩
theorem ptw_app : ∀ {a b c d : List Int}, ptw a b → ptw c d → ptw (a ++ c) (b ++ d)
  | [], [], _, _, _, h => h
  | _ :: _, _ :: _, _, _, h1, h2 => ⟨h1.1, ptw_app h1.2 h2⟩
  | [], _ :: _, _, _, h, _ => h.elim
  | _ :: _, [], _, _, h, _ => h.elim
theorem blk_ptw (n m : Nat) {a b c d : Int} (h1 : a ≤ c) (h2 : b ≤ d) : ptw (blk n m a b) (blk n m c d) := ptw_app (rep_ptw n h1) (rep_ptw m h2)
theorem srt_cons {a : Int} {l : List Int} (h : ∀ x ∈ l, a ≤ x) (hs : srt l) : srt (a :: l) := by
  cases l with
  | nil => trivial
  | cons b l => exact ⟨h b List.mem_cons_self, hs⟩
theorem rep_srt : ∀ (n : Nat) (a : Int), srt (List.replicate n a)
  | 0, _ => trivial
  | n + 1, a => srt_cons (fun x hx => by rw [(List.mem_replicate.mp hx).2]; exact Int.le_refl _) (rep_srt n a)
theorem blk_srt {a b : Int} (h : a ≤ b) : ∀ (n m : Nat), srt (blk n m a b)
  | 0, m => by
    show srt ([] ++ List.replicate m b)
    exact rep_srt m b
  | n + 1, m => by
    show srt (a :: blk n m a b)
    refine srt_cons (fun x hx => ?_) (blk_srt h n m)
    rcases List.mem_append.mp hx with hx | hx
    · rw [(List.mem_replicate.mp hx).2]; exact Int.le_refl _
    · rw [(List.mem_replicate.mp hx).2]; exact h
theorem ptw_mem : ∀ {a b : List Int} {lo hi : Int}, ptw a b → (∀ x ∈ a, lo ≤ x) → (∀ x ∈ b, x ≤ hi) → ∀ {r : List Int}, ptw a r → ptw r b → ∀ x ∈ r, lo ≤ x ∧ x ≤ hi
  | a, b, lo, hi, _, h1, h2, r, p1, p2 => by
    induction r generalizing a b with
    | nil => intro x hx; cases hx
    | cons y r ih =>
      match a, b, p1, p2 with
      | u :: a, w :: b, p1, p2 =>
        intro x hx
        rcases List.mem_cons.mp hx with hx | hx
        · rw [hx]
          have := h1 u List.mem_cons_self
          have := h2 w List.mem_cons_self
          have := p1.1
          have := p2.1
          omega
        · exact ih (a := a) (b := b) ‹ptw (u :: a) (w :: b)›.2 (fun x hx => h1 x (List.mem_cons_of_mem _ hx)) (fun x hx => h2 x (List.mem_cons_of_mem _ hx)) p1.2 p2.2 x hx
end K62M
set_option linter.all false
namespace K62M
theorem cnt_rep {v b d : Int} (h : v ≤ b) : ∀ (m : Nat) (r : List Int), ptw (List.replicate m b) r → ptw r (List.replicate m d) → cnt v r = m
  | 0, [], _, _ => rfl
  | 0, _ :: _, h, _ => h.elim
  | m + 1, [], h, _ => h.elim
  | m + 1, x :: r, h1, h2 => by
    rw [cnt_cons, if_pos (Int.le_trans h h1.1), cnt_rep h m r h1.2 h2.2]
    omega
theorem cnt_blk {v a b c d : Int} (h1 : c < v) (h2 : v ≤ b) : ∀ (n m : Nat) (r : List Int), ptw (blk n m a b) r → ptw r (blk n m c d) → cnt v r = m
  | 0, m, r, p, q => cnt_rep h2 m r p q
  | n + 1, m, [], p, _ => p.elim
  | n + 1, m, x :: r, p, q => by
    have hx : x ≤ c := q.1
    rw [cnt_cons, if_neg (by omega), cnt_blk h1 h2 n m r p.2 q.2]
    omega
/-- a row of length R, sorted, of values below W, of a sum, of which m reach v -/
theorem row_ex {R m : Nat} {W T v : Int} (hm : m ≤ R) (hv : 1 ≤ v) (hw : v ≤ W - 1) (h1 : m * v ≤ T) (h2 : T ≤ ((R - m : Nat) : Int) * (v - 1) + m * (W - 1)) :
    ∃ r, r = (spr (blk (R - m) m 0 v) (blk (R - m) m (v - 1) (W - 1)) (T - m * v)).1 ∧ r.length = R ∧ srt r ∧ (∀ x ∈ r, 0 ≤ x ∧ x ≤ W - 1) ∧ r.sum = T ∧ cnt v r = m := by
  have hp := blk_ptw (R - m) m (show (0 : Int) ≤ v - 1 by omega) (show v ≤ W - 1 from hw)
  obtain ⟨g1, g2, g3, g4, g5, g6⟩ := spr_ok _ _ (T - m * v) hp (by omega)
  have hs := blk_sum (R - m) m 0 v
  have hs2 := blk_sum (R - m) m (v - 1) (W - 1)
  rw [Int.mul_zero, Int.zero_add] at hs
  obtain ⟨k1, k2⟩ := spr_all hp (show 0 ≤ T - m * v by omega) (by rw [hs, hs2]; omega)
  refine ⟨_, rfl, ?_, g6 (blk_srt (by omega) _ _) (blk_srt (by omega) _ _), ?_, by rw [k2, hs]; omega, cnt_blk (by omega) (Int.le_refl v) _ _ _ g1 g2⟩
  · rw [← ptw_len g1, blk_len]
    omega
  · refine ptw_mem hp (fun x hx => ?_) (fun x hx => ?_) g1 g2
    · rcases List.mem_append.mp hx with hx | hx
      · rw [(List.mem_replicate.mp hx).2]; exact Int.le_refl _
      · rw [(List.mem_replicate.mp hx).2]; omega
    · rcases List.mem_append.mp hx with hx | hx
      · rw [(List.mem_replicate.mp hx).2]; omega
      · rw [(List.mem_replicate.mp hx).2]; exact Int.le_refl _
/-! ends -/
theorem ends_iff {R : Nat} {W T v : Int} (hv : 1 ≤ v) (hw : v ≤ W - 1) (hT : 0 ≤ T) (hT2 : T ≤ R * (W - 1)) (m : Int) :
    (0 ≤ m ∧ m ≤ R ∧ m * v ≤ T ∧ T ≤ m * (W - 1) + ((R : Int) - m) * (v - 1)) ↔ (max 0 ((T - R * (v - 1) + (W - v) - 1) / (W - v)) ≤ m ∧ m ≤ min (R : Int) (T / v)) := by
  have hb : 0 < W - v := by omega
  have e1 : m * (W - 1) + ((R : Int) - m) * (v - 1) = m * (W - v) + R * (v - 1) := by
    rw [Int.sub_mul, show m * (W - 1) = m * (W - v) + m * (v - 1) by rw [← Int.mul_add]; congr 1; omega]
    omega
  have e2 : (T - R * (v - 1) + (W - v) - 1) / (W - v) ≤ m ↔ T - R * (v - 1) ≤ m * (W - v) := by
    constructor
    · intro h
      have h2 : (T - R * (v - 1) + (W - v) - 1) / (W - v) < m + 1 := by omega
      have := (Int.ediv_lt_iff_lt_mul hb).mp h2
      rw [Int.add_mul, Int.one_mul] at this
      omega
    · intro h
      have : (T - R * (v - 1) + (W - v) - 1) / (W - v) < m + 1 := (Int.ediv_lt_iff_lt_mul hb).mpr (by rw [Int.add_mul, Int.one_mul]; omega)
      omega
  have e3 : m ≤ T / v ↔ m * v ≤ T := Int.le_ediv_iff_mul_le (by omega)
  rw [e1]
  constructor
  · rintro ⟨h1, h2, h3, h4⟩
    have := e2.mpr (by omega)
    have := e3.mpr h3
    omega
  · intro h
    have h1 := e2.mp (by omega)
    have h2 := e3.mp (by omega)
    exact ⟨by omega, by omega, h2, by omega⟩
end K62M
set_option linter.all false
namespace K62M
theorem srt_ge : ∀ {a : Int} {l : List Int}, srt (a :: l) → ∀ x ∈ l, a ≤ x
  | a, [], _, x, hx => by cases hx
  | a, b :: l, h, x, hx => by
    rcases List.mem_cons.mp hx with hx | hx
    · rw [hx]; exact h.1
    · exact Int.le_trans h.1 (srt_ge h.2 x hx)
theorem srt_tail {a : Int} {l : List Int} (h : srt (a :: l)) : srt l := by
  cases l with
  | nil => trivial
  | cons b l => exact h.2
theorem sum_ge {a : Int} : ∀ (l : List Int), (∀ x ∈ l, a ≤ x) → (l.length : Int) * a ≤ l.sum
  | [], _ => by simp
  | x :: l, h => by
    have := sum_ge l fun y hy => h y (List.mem_cons_of_mem _ hy)
    have := h x List.mem_cons_self
    rw [List.length_cons, List.sum_cons, Int.natCast_add, Int.add_mul]
    simp only [Int.natCast_one, Int.one_mul]
    omega
theorem sum_le {a : Int} : ∀ (l : List Int), (∀ x ∈ l, x ≤ a) → l.sum ≤ (l.length : Int) * a
  | [], _ => by simp
  | x :: l, h => by
    have := sum_le l fun y hy => h y (List.mem_cons_of_mem _ hy)
    have := h x List.mem_cons_self
    rw [List.length_cons, List.sum_cons, Int.natCast_add, Int.add_mul]
    simp only [Int.natCast_one, Int.one_mul]
    omega
theorem rank_bounds {W : Int} : ∀ (row : List Int) (k : Nat) (x : Int), srt row → row[k]? = some x → (∀ y ∈ row, 0 ≤ y ∧ y ≤ W - 1) →
    ((row.length : Int) - k) * x ≤ row.sum ∧ row.sum ≤ ((k : Int) + 1) * x + ((row.length : Int) - k - 1) * (W - 1)
  | [], k, x, _, h, _ => by simp at h
  | y :: l, 0, x, hs, h, hw => by
    have hy : y = x := by simpa using h
    subst hy
    have h1 := sum_ge l (srt_ge hs)
    have h2 := sum_le (a := W - 1) l fun z hz => (hw z (List.mem_cons_of_mem _ hz)).2
    rw [List.length_cons, List.sum_cons]
    have e1 : ((((l.length + 1 : Nat)) : Int) - ((0 : Nat) : Int)) * y = (l.length : Int) * y + y := by
      rw [show ((((l.length + 1 : Nat)) : Int) - ((0 : Nat) : Int)) = (l.length : Int) + 1 by omega, Int.add_mul, Int.one_mul]
    have e2 : ((((0 : Nat)) : Int) + 1) * y + ((((l.length + 1 : Nat)) : Int) - ((0 : Nat) : Int) - 1) * (W - 1) = y + (l.length : Int) * (W - 1) := by
      rw [show ((((l.length + 1 : Nat)) : Int) - ((0 : Nat) : Int) - 1) = (l.length : Int) by omega, show ((((0 : Nat)) : Int) + 1) = 1 by omega, Int.one_mul]
    rw [e1, e2]
    omega
  | y :: l, k + 1, x, hs, h, hw => by
    have hl : l[k]? = some x := by simpa using h
    obtain ⟨g1, g2⟩ := rank_bounds l k x (srt_tail hs) hl fun z hz => hw z (List.mem_cons_of_mem _ hz)
    have hyx := srt_ge hs x (List.mem_of_getElem? hl)
    have hy := hw y List.mem_cons_self
    rw [List.length_cons, List.sum_cons]
    have e1 : ((((l.length + 1 : Nat)) : Int) - ((k + 1 : Nat) : Int)) = (l.length : Int) - k := by omega
    have e2 : ((((k + 1 : Nat)) : Int) + 1) * x = ((k : Int) + 1) * x + x := by
      rw [show ((((k + 1 : Nat)) : Int) + 1) = ((k : Int) + 1) + 1 by omega, Int.add_mul, Int.one_mul]
    rw [e1, e2]
    omega
/-- a row of which the place k holds x -/
theorem rank_ex {k b : Nat} {W T x : Int} (h0 : 0 ≤ x) (hx : x ≤ W - 1) (h1 : ((b : Int) + 1) * x ≤ T) (h2 : T ≤ ((k : Int) + 1) * x + b * (W - 1)) :
    ∃ r, r.length = k + b + 1 ∧ srt r ∧ (∀ y ∈ r, 0 ≤ y ∧ y ≤ W - 1) ∧ r.sum = T ∧ r[k]? = some x := by
  have eb : blk k (b + 1) 0 x = List.replicate k 0 ++ (x :: List.replicate b x) := rfl
  have eh : blk (k + 1) b x (W - 1) = List.replicate k x ++ (x :: List.replicate b (W - 1)) := by
    unfold blk
    rw [List.replicate_succ', List.append_assoc]
    rfl
  have hp : ptw (blk k (b + 1) 0 x) (blk (k + 1) b x (W - 1)) := by
    rw [eb, eh]
    exact ptw_app (rep_ptw k h0) ⟨Int.le_refl _, rep_ptw b hx⟩
  have hs := blk_sum k (b + 1) 0 x
  have hs2 := blk_sum (k + 1) b x (W - 1)
  have c1 : (((b + 1 : Nat)) : Int) = (b : Int) + 1 := by omega
  have c2 : (((k + 1 : Nat)) : Int) = (k : Int) + 1 := by omega
  rw [Int.mul_zero, Int.zero_add, c1] at hs
  rw [c2] at hs2
  obtain ⟨g1, g2, g3, g4, g5, g6⟩ := spr_ok _ _ (T - ((b : Int) + 1) * x) hp (by omega)
  obtain ⟨k1, k2⟩ := spr_all hp (show 0 ≤ T - ((b : Int) + 1) * x by omega) (by rw [hs, hs2]; omega)
  refine ⟨_, ?_, g6 (blk_srt h0 _ _) (blk_srt hx _ _), ?_, by rw [k2, hs]; omega, ?_⟩
  · rw [← ptw_len g1, blk_len]
    omega
  · refine ptw_mem hp (fun y hy => ?_) (fun y hy => ?_) g1 g2
    · rcases List.mem_append.mp hy with hy | hy
      · rw [(List.mem_replicate.mp hy).2]; exact Int.le_refl _
      · rw [(List.mem_replicate.mp hy).2]; exact h0
    · rcases List.mem_append.mp hy with hy | hy
      · rw [(List.mem_replicate.mp hy).2]; exact hx
      · rw [(List.mem_replicate.mp hy).2]; exact Int.le_refl _
  · have at_k : ∀ (n : Nat) (p q r : List Int), ptw (List.replicate n 0 ++ (x :: p)) r → ptw r (List.replicate n x ++ (x :: q)) → r[n]? = some x := by
      intro n
      induction n with
      | zero =>
        intro p q r p1 p2
        match r, p1, p2 with
        | y :: r, p1, p2 =>
          have h1 : x ≤ y := p1.1
          have h2 : y ≤ x := p2.1
          rw [List.getElem?_cons_zero, show y = x by omega]
      | succ n ih =>
        intro p q r p1 p2
        match r, p1, p2 with
        | y :: r, p1, p2 =>
          rw [List.getElem?_cons_succ]
          exact ih p q r p1.2 p2.2
    rw [eb] at g1
    rw [eb, eh] at g2
    rw [eb, eh]
    rw [eh] at g1
    exact at_k k _ _ _ g1 g2
theorem ranks_iff {k b : Nat} {W T : Int} (x : Int) :
    (0 ≤ x ∧ x ≤ W - 1 ∧ ((b : Int) + 1) * x ≤ T ∧ T ≤ ((k : Int) + 1) * x + b * (W - 1)) ↔ (max 0 ((T - b * (W - 1) + k) / ((k : Int) + 1)) ≤ x ∧ x ≤ min (W - 1) (T / ((b : Int) + 1))) := by
  have hk : 0 < (k : Int) + 1 := by omega
  have hb : 0 < (b : Int) + 1 := by omega
  have e2 : (T - b * (W - 1) + k) / ((k : Int) + 1) ≤ x ↔ T - b * (W - 1) ≤ ((k : Int) + 1) * x := by
    constructor
    · intro h
      have h2 : (T - b * (W - 1) + k) / ((k : Int) + 1) < x + 1 := by omega
      have := (Int.ediv_lt_iff_lt_mul hk).mp h2
      rw [Int.add_mul, Int.one_mul, Int.mul_comm x] at this
      omega
    · intro h
      have : (T - b * (W - 1) + k) / ((k : Int) + 1) < x + 1 := (Int.ediv_lt_iff_lt_mul hk).mpr (by rw [Int.add_mul, Int.one_mul, Int.mul_comm x]; omega)
      omega
  have e3 : x ≤ T / ((b : Int) + 1) ↔ ((b : Int) + 1) * x ≤ T := by
    rw [Int.le_ediv_iff_mul_le hb, Int.mul_comm]
  constructor
  · rintro ⟨h1, h2, h3, h4⟩
    have := e2.mpr (by omega)
    have := e3.mpr h3
    omega
  · intro h
    have h1 := e2.mp (by omega)
    have h2 := e3.mp (by omega)
    exact ⟨by omega, by omega, h2, by omega⟩
end K62M
set_option linter.all false
namespace K62M
theorem srt_snoc : ∀ (c : List Int) (v : Int), srt (c ++ [v]) ↔ srt c ∧ ∀ l, c.getLast? = some l → l ≤ v
  | [], v => by simp [srt]
  | [a], v => by
    show a ≤ v ∧ True ↔ True ∧ _
    simp
  | a :: b :: c, v => by
    have h := srt_snoc (b :: c) v
    show a ≤ b ∧ srt (b :: c ++ [v]) ↔ (a ≤ b ∧ srt (b :: c)) ∧ _
    rw [h, List.getLast?_cons_cons, and_assoc]
def rng (a b : Int) : List Int := (List.range (b - a).toNat).map fun (i : Nat) => a + i
theorem mem_rng {a b x : Int} : x ∈ rng a b ↔ a ≤ x ∧ x < b := by
  unfold rng
  rw [List.mem_map]
  constructor
  · rintro ⟨i, hi, rfl⟩
    have := List.mem_range.mp hi
    omega
  · rintro ⟨h1, h2⟩
    exact ⟨(x - a).toNat, List.mem_range.mpr (by omega), by omega⟩
def lst (c : List Int) : Int := (c.getLast?).getD 0
def more (W T : Int) (c : List Int) : List (List Int) := ((rng (lst c) W).filter fun v => decide (c.sum + v ≤ T)).map fun v => c ++ [v]
def grow (W T : Int) : Nat → List (List Int)
  | 0 => [[]]
  | n + 1 => (grow W T n).flatMap (more W T)
def isRow (W T : Int) (n : Nat) (c : List Int) : Prop := c.length = n ∧ srt c ∧ (∀ x ∈ c, 0 ≤ x ∧ x ≤ W - 1) ∧ c.sum ≤ T
theorem mem_grow {W T : Int} (hT : 0 ≤ T) : ∀ (n : Nat) (c : List Int), c ∈ grow W T n ↔ isRow W T n c
  | 0, c => by
    show c ∈ [[]] ↔ _
    rw [List.mem_singleton]
    constructor
    · intro e
      subst e
      exact ⟨rfl, trivial, by simp, by simpa using hT⟩
    · intro h
      exact List.eq_nil_of_length_eq_zero h.1
  | n + 1, c => by
    show c ∈ (grow W T n).flatMap (more W T) ↔ _
    rw [List.mem_flatMap]
    constructor
    · rintro ⟨d, hd, hc⟩
      obtain ⟨h1, h2, h3, h4⟩ := (mem_grow hT n d).mp hd
      obtain ⟨v, hv, rfl⟩ := List.mem_map.mp hc
      obtain ⟨hv1, hv2⟩ := List.mem_filter.mp hv
      have hv3 := mem_rng.mp hv1
      have hv4 : d.sum + v ≤ T := by simpa using hv2
      have hl0 : 0 ≤ lst d := by
        unfold lst
        cases e : d.getLast? with
        | none => exact Int.le_refl 0
        | some l => exact (h3 l (List.mem_of_getLast? e)).1
      refine ⟨by simp [h1], (srt_snoc d v).mpr ⟨h2, fun l hl => ?_⟩, fun x hx => ?_, by rw [List.sum_append]; simpa using hv4⟩
      · have : lst d = l := by unfold lst; rw [hl]; rfl
        omega
      · rcases List.mem_append.mp hx with hx | hx
        · exact h3 x hx
        · rw [List.mem_singleton.mp hx]
          omega
    · rintro ⟨h1, h2, h3, h4⟩
      have hne : c ≠ [] := by intro e; rw [e] at h1; simp at h1
      have ec := List.dropLast_concat_getLast hne
      generalize c.getLast hne = v at ec
      generalize c.dropLast = d at ec
      subst ec
      obtain ⟨s1, s2⟩ := (srt_snoc d v).mp h2
      have hv := h3 v (by simp)
      have hs : d.sum + v ≤ T := by rw [List.sum_append] at h4; simpa using h4
      refine ⟨d, (mem_grow hT n d).mpr ⟨by simpa using h1, s1, fun x hx => h3 x (List.mem_append_left _ hx), by omega⟩, List.mem_map.mpr ⟨v, List.mem_filter.mpr ⟨mem_rng.mpr ⟨?_, by omega⟩, by simpa using hs⟩, rfl⟩⟩
      unfold lst
      cases e : d.getLast? with
      | none => exact hv.1
      | some l => exact s2 l e
theorem rng_len (a b : Int) : (rng a b).length = (b - a).toNat := by simp [rng]
theorem more_len {W T : Int} (c : List Int) (h : 0 ≤ lst c) (k : Nat) (hW : W ≤ k) : (more W T c).length ≤ k := by
  unfold more
  rw [List.length_map]
  have := List.length_filter_le (fun v => decide (c.sum + v ≤ T)) (rng (lst c) W)
  rw [rng_len] at this
  omega
theorem grow_len {W T : Int} (hT : 0 ≤ T) (k : Nat) (hW : W ≤ k) : ∀ n : Nat, (grow W T n).length ≤ k ^ n
  | 0 => Nat.le_refl 1
  | n + 1 => by
    have ih := grow_len hT k hW n
    have key : ∀ (l : List (List Int)), (∀ c ∈ l, 0 ≤ lst c) → (l.flatMap (more W T)).length ≤ l.length * k := by
      intro l
      induction l with
      | nil => intro _; simp
      | cons c l ihl =>
        intro h
        rw [List.flatMap_cons, List.length_append, List.length_cons, Nat.add_mul, Nat.one_mul]
        have := ihl fun d hd => h d (List.mem_cons_of_mem _ hd)
        have := more_len (W := W) (T := T) c (h c List.mem_cons_self) k hW
        omega
    show ((grow W T n).flatMap (more W T)).length ≤ k ^ (n + 1)
    have := key (grow W T n) fun c hc => by
      obtain ⟨_, _, h3, _⟩ := (mem_grow hT n c).mp hc
      unfold lst
      cases e : c.getLast? with
      | none => exact Int.le_refl 0
      | some l => exact (h3 l (List.mem_of_getLast? e)).1
    rw [Nat.pow_succ]
    exact Nat.le_trans this (Nat.mul_le_mul_right k ih)
/-! ranges out of sets -/
def lines (W T : Int) (n : Nat) : List (List Int) := (grow W T n).filter fun c => decide (c.sum = T)
theorem mem_lines {W T : Int} (hT : 0 ≤ T) {n : Nat} {c : List Int} : c ∈ lines W T n ↔ c.length = n ∧ srt c ∧ (∀ x ∈ c, 0 ≤ x ∧ x ≤ W - 1) ∧ c.sum = T := by
  unfold lines
  rw [List.mem_filter, mem_grow hT]
  constructor
  · rintro ⟨⟨h1, h2, h3, h4⟩, h5⟩
    exact ⟨h1, h2, h3, by simpa using h5⟩
  · rintro ⟨h1, h2, h3, h4⟩
    exact ⟨⟨h1, h2, h3, by omega⟩, by simpa using h4⟩
theorem numbers {R : Nat} {W T v : Int} (hv : 1 ≤ v) (hw : v ≤ W - 1) (hT : 0 ≤ T) (hT2 : T ≤ R * (W - 1)) (m : Int) :
    (∃ c ∈ lines W T R, (cnt v c : Int) = m) ↔ (max 0 ((T - R * (v - 1) + (W - v) - 1) / (W - v)) ≤ m ∧ m ≤ min (R : Int) (T / v)) := by
  rw [← ends_iff hv hw hT hT2 m]
  constructor
  · rintro ⟨c, hc, rfl⟩
    obtain ⟨h1, h2, h3, h4⟩ := (mem_lines hT).mp hc
    have hb := cnt_bounds (v := v) c h3
    have hle := cnt_le v c
    rw [h1, h4] at hb
    exact ⟨by omega, by omega, by rw [Int.mul_comm]; exact hb.1, hb.2⟩
  · rintro ⟨h1, h2, h3, h4⟩
    obtain ⟨k, rfl⟩ : ∃ k : Nat, m = k := ⟨m.toNat, by omega⟩
    obtain ⟨r, _, g1, g2, g3, g4, g5⟩ := row_ex (R := R) (m := k) (W := W) (T := T) (v := v) (by omega) hv hw h3 (by
      rw [show (((R - k : Nat)) : Int) = (R : Int) - k by omega]
      omega)
    exact ⟨r, (mem_lines hT).mpr ⟨g1, g2, g3, g4⟩, by rw [g5]⟩
theorem ranked {k b : Nat} {W T : Int} (hT : 0 ≤ T) (x : Int) :
    (∃ c ∈ lines W T (k + b + 1), c[k]? = some x) ↔ (max 0 ((T - b * (W - 1) + k) / ((k : Int) + 1)) ≤ x ∧ x ≤ min (W - 1) (T / ((b : Int) + 1))) := by
  rw [← ranks_iff]
  constructor
  · rintro ⟨c, hc, hx⟩
    obtain ⟨h1, h2, h3, h4⟩ := (mem_lines hT).mp hc
    obtain ⟨g1, g2⟩ := rank_bounds c k x h2 hx h3
    have hxm := h3 x (List.mem_of_getElem? hx)
    rw [h1, h4] at g1 g2
    rw [show (((k + b + 1 : Nat) : Int) - k) = (b : Int) + 1 by omega] at g1
    rw [show (((k + b + 1 : Nat) : Int) - k - 1) = (b : Int) by omega] at g2
    exact ⟨hxm.1, hxm.2, g1, g2⟩
  · rintro ⟨h1, h2, h3, h4⟩
    obtain ⟨r, g1, g2, g3, g4, g5⟩ := rank_ex (k := k) (b := b) h1 h2 h3 h4
    exact ⟨r, (mem_lines hT).mpr ⟨g1, g2, g3, g4⟩, g5⟩
end K62M
set_option linter.all false
set_option maxRecDepth 100000
namespace K62M
/-! how many rows there are at most -/
def ww (W : Int) : Nat → Int → Nat
  | 0, _ => 1
  | k + 1, l => ((rng l W).map (ww W k)).sum
theorem lst_snoc (c : List Int) (v : Int) : lst (c ++ [v]) = v := by
  unfold lst
  simp
theorem sum_filter (f : Int → Nat) (p : Int → Bool) : ∀ l : List Int, ((l.filter p).map f).sum ≤ (l.map f).sum
  | [] => Nat.le_refl 0
  | x :: l => by
    have := sum_filter f p l
    by_cases h : p x = true
    · rw [List.filter_cons_of_pos h, List.map_cons, List.map_cons, List.sum_cons, List.sum_cons]
      omega
    · rw [List.filter_cons_of_neg h, List.map_cons, List.sum_cons]
      omega
theorem more_ww (W T : Int) (c : List Int) (k : Nat) : ((more W T c).map fun d => ww W k (lst d)).sum ≤ ww W (k + 1) (lst c) := by
  unfold more
  rw [List.map_map]
  rw [show ((fun d => ww W k (lst d)) ∘ fun v => c ++ [v]) = ww W k from funext fun v => by show ww W k (lst (c ++ [v])) = _; rw [lst_snoc]]
  exact sum_filter (ww W k) _ _
theorem flat_ww (W T : Int) (k : Nat) : ∀ l : List (List Int), ((l.flatMap (more W T)).map fun d => ww W k (lst d)).sum ≤ (l.map fun c => ww W (k + 1) (lst c)).sum
  | [] => Nat.le_refl 0
  | c :: l => by
    have h1 := more_ww W T c k
    have h2 := flat_ww W T k l
    rw [List.flatMap_cons, List.map_append, List.sum_append, List.map_cons, List.sum_cons]
    omega
theorem grow_ww (W T : Int) : ∀ (n k : Nat), ((grow W T n).map fun c => ww W k (lst c)).sum ≤ ww W (n + k) 0
  | 0, k => by
    show ww W k (lst []) + 0 ≤ ww W (0 + k) 0
    rw [Nat.zero_add]
    exact Nat.le_refl _
  | n + 1, k => by
    have h := flat_ww W T k (grow W T n)
    have h2 := grow_ww W T n (k + 1)
    rw [show n + 1 + k = n + (k + 1) by omega]
    exact Nat.le_trans h h2
theorem grow_small (W T : Int) (n : Nat) : (grow W T n).length ≤ ww W n 0 := by
  have h := grow_ww W T n 0
  have e : ∀ l : List (List Int), (l.map fun c => ww W 0 (lst c)).sum = l.length := by
    intro l
    induction l with
    | nil => rfl
    | cons c l ih =>
      rw [List.map_cons, List.sum_cons, ih, List.length_cons]
      show 1 + l.length = _
      omega
  rw [e] at h
  exact h
theorem ww_small : ∀ w : Fin 6, ∀ n : Fin 7, ww (w.val : Int) n.val 0 ≤ 210 := by decide +kernel
theorem grow_le {W T : Int} {n : Nat} (h0 : 0 ≤ W) (h1 : W ≤ 5) (h2 : n ≤ 6) : (grow W T n).length ≤ 210 := by
  have h := ww_small ⟨W.toNat, by omega⟩ ⟨n, by omega⟩
  have := grow_small W T n
  simp only at h
  rw [show ((W.toNat : Nat) : Int) = W by omega] at h
  omega
theorem lines_le {W T : Int} {n : Nat} (h0 : 0 ≤ W) (h1 : W ≤ 5) (h2 : n ≤ 6) : (lines W T n).length ≤ 210 := by
  have := grow_le (T := T) h0 h1 h2
  have := List.length_filter_le (fun c : List Int => decide (c.sum = T)) (grow W T n)
  unfold lines
  omega
end K62M
set_option linter.all false
set_option maxRecDepth 100000
set_option maxHeartbeats 1000000
namespace PX.K62
open PySem PX K22M
theorem is_number_int (n n0 : Nat) (S : Store) (v lo hi : Int) : callF TT (n + 1) 0 [.int v, .int lo, .int hi] n0 S = .ok (.bl (decide (lo ≤ v ∧ v ≤ hi))) S := by
  rw [call_succ (b := b0) rfl rfl]
  show fin (b0.body (callF TT n) n0 [some (.int v), some (.int lo), some (.int hi)] S) = _
  unfold b0
  simp [q_var, tyN, truth, oLe, lk_cons]
  by_cases h1 : lo ≤ v
  · simp [h1]
  · simp [h1]
theorem isnumV (n : Nat) (S : Store) (v lo hi : Int) : callV (callF TT (n + 1)) 0 [.int v, .int lo, .int hi] S = .ok (false, .bl (decide (lo ≤ v ∧ v ≤ hi))) S := callV_same (is_number_int n S.length S v lo hi) rfl
theorem lenN {cf : CF} {tb : List (Nat × Nat)} {a : SE} {env : Env} {S : Store} {k : Bool} {c : List Int} (ha : a env S = .ok (k, .tup (c.map .int)) S) : eLen cf tb a env S = .ok (false, .int c.length) S := by
  rw [len_flat ha rfl (bLen_tup _ _), List.length_map]
theorem lenL {cf : CF} {tb : List (Nat × Nat)} {a : SE} {env : Env} {S : Store} {k : Bool} {c : List Int} (ha : a env S = .ok (k, .lst (c.map .int)) S) : eLen cf tb a env S = .ok (false, .int c.length) S := by
  rw [len_flat ha rfl (bLen_lst _ _), List.length_map]
abbrev tN (l : List Nat) : PV := .tup ((iN l).map .int)
theorem number_ok (n n0 : Nat) (S : Store) (ns : List Int) (k : Int) (hn : ns.length ≤ 63) : ∃ x, callF TT (n + 1) 15 [.lst (ns.map .int), .int k] n0 S = .ok (.int x) S := by
  obtain ⟨cells, hc, hne, hl⟩ : ∃ cells : List Int, (if ns = [] then PV.lst ([5].map .int) else .lst (ns.map .int)) = .lst (cells.map .int) ∧ cells ≠ [] ∧ cells.length ≤ 63 := by
    by_cases h : ns = []
    · exact ⟨[5], by rw [if_pos h], by simp, by simp⟩
    · exact ⟨ns, by rw [if_neg h], h, hn⟩
  have hpos : 0 < cells.length := List.length_pos_iff.mpr hne
  obtain ⟨c, e1, _⟩ := oIx_lst S cells (k % cells.length) (Int.emod_nonneg _ (by omega)) (Int.emod_lt_of_pos _ (by omega))
  have he : eNe (callF TT n) [(0, 8)] [.non, .bl, .int, .str, .tup, .lst, .dct, .own 0] (eVar 0) (eLst aNil) [some (.lst (ns.map .int)), some (.int k), none, none, none, none, none, none] S = .ok (false, .bl (!decide (ns = []))) S := by
    simp [q_var, ownOf_lst, small]
    show ofO (oNe (.lst (ns.map .int)) (.lst (List.map .int [])) S) S = _
    unfold oNe
    rw [eqD_lst]
    rfl
  rw [call_succ (b := b15) rfl rfl]
  show ∃ x, fin (b15.body (callF TT n) n0 [some (.lst (ns.map .int)), some (.int k), none, none, none, none, none, none] S) = _
  unfold b15
  have hcell : eIf (tBl (eNe (callF TT n) [(0, 8)] [.non, .bl, .int, .str, .tup, .lst, .dct, .own 0] (eVar 0) (eLst aNil))) (eSl (eVar 0) pNo (pSo (eLit (.int 63)))) (eLst (aCons (eLit (.int 5)) aNil)) [some (.lst (ns.map .int)), some (.int k), none, none, none, none, none, none] S = .ok (true, .lst (cells.map .int)) S := by
    rw [q_if, q_tbl, he]
    by_cases h : ns = []
    · rw [if_pos h] at hc
      simp [h, small]
      exact (PV.lst.inj hc)
    · rw [if_neg h] at hc
      simp [h, q_var, slP]
      rw [cut_all _ (by rw [List.length_map]; exact hn)]
      exact (PV.lst.inj hc)
  simp only [q_scons, q_sasg, hcell, R.go_ok, q_gnm, RS.then_nx]
  simp [q_var, ownOf_lst, dIx_lst, bLen_lst, bInt_int, gTps]
  rw [mod_int _ _ _ (by omega)]
  simp [e1, dIx_lst]
  rw [div_int _ _ _ (by omega) (by omega)]
  simp [cat_int, rep_l, mod_int, div_int, q_var, bInt_int, gTps]
  simp [cat_int, rep_l, rep_r, mod_int, div_int, q_var, bInt_int, gTps, bSum_lst, rep_m]
abbrev DD (ns : List Int) (k : Nat) : PV := .lst [.lst (ns.map .int), .int k]
theorem take_ok (n n0 : Nat) (R : Store) (ns : List Int) (k : Nat) (many : Int) (hn : ns.length ≤ 63) (hm : 0 < many) :
    ∃ v, 0 ≤ v ∧ v < many ∧ callF TT (n + 2) 16 [.ref 0, .int many] n0 (DD ns k :: R) = .ok (.int v) (DD ns (k + 1) :: R) := by
  obtain ⟨x, hx⟩ := number_ok n (DD ns (k + 1) :: R).length (DD ns (k + 1) :: R) ns (k + 1) hn
  refine ⟨x % many, Int.emod_nonneg _ (by omega), Int.emod_lt_of_pos _ hm, ?_⟩
  rw [call_succ (b := b16) rfl rfl]
  show fin (b16.body (callF TT (n + 1)) n0 [some (.ref 0), some (.int many)] (DD ns k :: R)) = _
  unfold b16
  have hs : sSetI (setG n0) (eVar 0) (eLit (.int 1)) (eBin oCat (eIx (callF TT (n + 1)) [] (eVar 0) (eLit (.int 1))) (eLit (.int 1))) [some (.ref 0), some (.int many)] (DD ns k :: R) = .nx [some (.ref 0), some (.int many)] (DD ns (k + 1) :: R) := by
    unfold sSetI
    simp [q_var, ownOf, unl, dIx, oIx, itemsOf, ixP, cat_int, setG, setL, mayPut, noref]
  simp only [q_scons, hs, RS.then_nx]
  have hv : callV (callF TT (n + 1)) 15 [.lst (ns.map .int), .int (k + 1)] (DD ns (k + 1) :: R) = .ok (false, .int x) (DD ns (k + 1) :: R) := callV_same hx rfl
  simp [q_var, ownOf, unl, dIx, oIx, itemsOf, ixP, bInt_int]
  rw [hv]
  simp [bInt_int, mod_int, hm]
theorem takeV (n : Nat) (R : Store) (ns : List Int) (k : Nat) (many : Int) (hn : ns.length ≤ 63) (hm : 0 < many) :
    ∃ v, 0 ≤ v ∧ v < many ∧ callV (callF TT (n + 2)) 16 [.ref 0, .int many] (DD ns k :: R) = .ok (false, .int v) (DD ns (k + 1) :: R) := by
  obtain ⟨v, h1, h2, h3⟩ := take_ok n (DD ns k :: R).length R ns k many hn hm
  exact ⟨v, h1, h2, callV_same h3 rfl⟩
def IsD (ns : List Int) (R0 : Store) (S : Store) : Prop := ∃ k, S = DD ns k :: R0
theorem take0 (n : Nat) (R0 : Store) (ns : List Int) (hn : ns.length ≤ 63) (many : Int) (hm : 0 < many) {S : Store} (hS : IsD ns R0 S) {a b : SE} {env : Env} {k k' : Bool} (ha : ∀ S, a env S = .ok (k, .ref 0) S) (hb : ∀ S, b env S = .ok (k', .int many) S) : ∃ v S', 0 ≤ v ∧ v < many ∧ IsD ns R0 S' ∧ eCall (callF TT (n + 2)) 2 16 (aCons a (aCons b aNil)) env S = .ok (false, .int v) S' := by
  obtain ⟨d, rfl⟩ := hS
  obtain ⟨v, g0, g1, g2⟩ := takeV n R0 ns d many hn hm
  exact ⟨v, _, g0, g1, ⟨d + 1, rfl⟩, by rw [q_call, args2 (ha _) (hb _), R.bind_ok, if_pos (by rfl), g2]⟩
theorem isD_len {ns : List Int} {R0 S S' : Store} (h : IsD ns R0 S) (h' : IsD ns R0 S') : S'.length = S.length := by
  obtain ⟨k, rfl⟩ := h
  obtain ⟨k', rfl⟩ := h'
  rfl
end PX.K62
set_option linter.all false
set_option maxRecDepth 100000
set_option maxHeartbeats 1000000
namespace PX
open PySem
theorem max2 (a b : Int) (S : Store) : bMax2 [.int a, .int b] S = some (false, .int (max a b)) := by
  show some (false, PV.int (if b > a then b else a)) = _
  congr 3
  split <;> omega
theorem min2 (a b : Int) (S : Store) : bMin2 [.int a, .int b] S = some (false, .int (min a b)) := by
  show some (false, PV.int (if b < a then b else a)) = _
  congr 3
  split <;> omega
end PX
namespace PX.K62
open PySem PX K62M
section
variable (n : Nat) (S : Store)
theorem chknumV (v lo hi : Int) (h1 : lo ≤ v) (h2 : v ≤ hi) : callV (callF TT (n + 2)) 1 [.int v, .int lo, .int hi] S = .ok (false, .non) S := by
  refine callV_same ?_ rfl
  rw [call_at (b := b1) [some (.int v), some (.int lo), some (.int hi)] rfl rfl rfl]
  unfold b1
  dsimp only
  rw [sif_val (tno_val (ttru_bl (call3 (a := eVar 0) (a2 := eVar 1) (a3 := eVar 2) (b := false) (b2 := false) (b3 := false) (v := .int v) (v2 := .int lo) (v3 := .int hi) rfl rfl rfl (isnumV n S v lo hi)))), decide_eq_true ⟨h1, h2⟩]
  rfl
/-! what is asked is possible -/
def ask (R W T : Int) : Prop := 1 ≤ R ∧ R ≤ 20 ∧ 1 ≤ W ∧ W ≤ 12 ∧ 0 ≤ T ∧ T ≤ R * (W - 1)
theorem knownV {R W T : Int} (h : ask R W T) : callV (callF TT (n + 3)) 2 [.int R, .int W, .int T] S = .ok (false, .non) S := by
  obtain ⟨h1, h2, h3, h4, h5, h6⟩ := h
  refine callV_same ?_ rfl
  rw [call_at (b := b2) [some (.int R), some (.int W), some (.int T)] rfl rfl rfl]
  unfold b2
  dsimp only
  have e1 := bin_val (o := oRep) (a := eVar 0) (k := false) (v := .int R) (b := eBin oSub (eVar 1) (eLit (.int 1))) (k' := false) (w := .int (W - 1)) (env := [some (.int R), some (.int W), some (.int T)]) rfl rfl (rep_r R (W - 1) S (by omega) (by omega))
  rw [q_scons, sexp_val (call3 (a := eVar 0) (a2 := eLit (.int 1)) (a3 := eLit (.int 20)) (b := false) (b2 := false) (b3 := false) (v := .int R) (v2 := .int 1) (v3 := .int 20) rfl rfl rfl (chknumV n S R 1 20 h1 h2)), RS.then_nx, q_scons,
    sexp_val (call3 (a := eVar 1) (a2 := eLit (.int 1)) (a3 := eLit (.int 12)) (b := false) (b2 := false) (b3 := false) (v := .int W) (v2 := .int 1) (v3 := .int 12) rfl rfl rfl (chknumV n S W 1 12 h3 h4)), RS.then_nx,
    sif_val (tno_val (ttru_bl (call3 (a := eVar 2) (a2 := eLit (.int 0)) (b := false) (b2 := false) (v := .int T) (v2 := .int 0) rfl rfl e1 (isnumV (n + 1) S T 0 (R * (W - 1)))))), decide_eq_true ⟨h5, h6⟩]
  rfl
theorem askedV {R W T v : Int} (h : ask R W T) (h1 : 1 ≤ v) (h2 : v ≤ W - 1) : callV (callF TT (n + 4)) 10 [.int R, .int W, .int T, .int v] S = .ok (false, .non) S := by
  refine callV_same ?_ rfl
  rw [call_at (b := b10) [some (.int R), some (.int W), some (.int T), some (.int v)] rfl rfl rfl]
  unfold b10
  dsimp only
  rw [q_scons, sexp_val (call3 (a := eVar 0) (a2 := eVar 1) (a3 := eVar 2) (b := false) (b2 := false) (b3 := false) (v := .int R) (v2 := .int W) (v3 := .int T) rfl rfl rfl (knownV n S h)), RS.then_nx,
    sif_val (tno_val (ttru_bl (call3 (a := eVar 3) (a2 := eLit (.int 1)) (a3 := eBin oSub (eVar 1) (eLit (.int 1))) (b := false) (b2 := false) (b3 := false) (v := .int v) (v2 := .int 1) (v3 := .int (W - 1)) rfl rfl rfl (isnumV (n + 2) S v 1 (W - 1))))), decide_eq_true ⟨h1, h2⟩]
  rfl
def lowE (R W T v : Int) : Int := max 0 ((T - R * (v - 1) + (W - v) - 1) / (W - v))
def highE (R T v : Int) : Int := min R (T / v)
theorem endsV {R W T v : Int} (h : ask R W T) (h1 : 1 ≤ v) (h2 : v ≤ W - 1) : callV (callF TT (n + 1)) 11 [.int R, .int W, .int T, .int v] S = .ok (false, .tup [.int (lowE R W T v), .int (highE R T v)]) S := by
  obtain ⟨g1, g2, g3, g4, g5, g6⟩ := h
  refine callV_same ?_ rfl
  rw [call_at (b := b11) [some (.int R), some (.int W), some (.int T), some (.int v), none, none] rfl rfl rfl]
  unfold b11
  dsimp only
  have e1 := bin_val (o := oSub) (a := eVar 2) (k := false) (v := .int T) rfl (bin_val (o := oRep) (a := eVar 0) (k := false) (v := .int R) (b := eBin oSub (eVar 3) (eLit (.int 1))) (k' := false) (w := .int (v - 1)) (env := [some (.int R), some (.int W), some (.int T), some (.int v), none, none]) rfl rfl (rep_r R (v - 1) S (by omega) (by omega))) rfl
  have e2 : sPar [4, 5] (aCons (eBin oSub (eVar 2) (eBin oRep (eVar 0) (eBin oSub (eVar 3) (eLit (.int 1))))) (aCons (eBin oSub (eVar 1) (eVar 3)) aNil)) [some (.int R), some (.int W), some (.int T), some (.int v), none, none] S = .nx [some (.int R), some (.int W), some (.int T), some (.int v), some (.int (T - R * (v - 1))), some (.int (W - v))] S := by
    rw [q_spar, args2 e1 (b := eBin oSub (eVar 1) (eVar 3)) (k' := false) (w := .int (W - v)) rfl, PX.R.go_ok]
    rfl
  have e3 := arg2_val (a := eLit (.int 0)) (k := false) (v := .int 0) (env := [some (.int R), some (.int W), some (.int T), some (.int v), some (.int (T - R * (v - 1))), some (.int (W - v))]) (S := S) rfl (bin_val (o := oDiv) (a := eBin oSub (eBin oCat (eVar 4) (eVar 5)) (eLit (.int 1))) (k := false) (v := .int (T - R * (v - 1) + (W - v) - 1)) (b := eVar 5) (k' := false) (w := .int (W - v)) rfl rfl (div_int _ _ S (by omega) (by omega))) (max2 _ _ S)
  have e4 := arg2_val (a := eVar 0) (k := false) (v := .int R) (env := [some (.int R), some (.int W), some (.int T), some (.int v), some (.int (T - R * (v - 1))), some (.int (W - v))]) (S := S) rfl (bin_val (o := oDiv) (a := eVar 2) (k := false) (v := .int T) (b := eVar 3) (k' := false) (w := .int v) rfl rfl (div_int _ _ S (by omega) (by omega))) (min2 _ _ S)
  rw [q_scons, e2, RS.then_nx, sret_val (tup2_val e3 e4)]
  rfl
end
end PX.K62
set_option linter.all false
set_option maxRecDepth 100000
set_option maxHeartbeats 1000000
namespace PX.K62
open PySem PX K62M
section
variable (n : Nat) (S : Store)
theorem atleastV {R W T v : Int} (h : ask R W T) (h1 : 1 ≤ v) (h2 : v ≤ W - 1) : callV (callF TT (n + 5)) 12 [.int R, .int W, .int T, .int v] S = .ok (false, .tup [.int (lowE R W T v), .int (highE R T v)]) S := by
  refine callV_same ?_ rfl
  rw [call_at (b := b12) [some (.int R), some (.int W), some (.int T), some (.int v)] rfl rfl rfl]
  unfold b12
  dsimp only
  rw [q_scons, sexp_val (call4 (a := eVar 0) (a2 := eVar 1) (a3 := eVar 2) (a4 := eVar 3) (b := false) (b2 := false) (b3 := false) (b4 := false) (v := .int R) (v2 := .int W) (v3 := .int T) (v4 := .int v) rfl rfl rfl rfl (askedV n S h h1 h2)), RS.then_nx,
    sret_val (call4 (a := eVar 0) (a2 := eVar 1) (a3 := eVar 2) (a4 := eVar 3) (b := false) (b2 := false) (b3 := false) (b4 := false) (v := .int R) (v2 := .int W) (v3 := .int T) (v4 := .int v) rfl rfl rfl rfl (endsV (n + 3) S h h1 h2))]
  rfl
def rlow (W T k b : Int) : Int := max 0 ((T - b * (W - 1) + k) / (k + 1))
def rhigh (W T b : Int) : Int := min (W - 1) (T / (b + 1))
theorem rankV {R W T k : Int} (h : ask R W T) (h1 : 0 ≤ k) (h2 : k ≤ R - 1) : callV (callF TT (n + 4)) 14 [.int R, .int W, .int T, .int k] S = .ok (false, .tup [.int (rlow W T k (R - k - 1)), .int (rhigh W T (R - k - 1))]) S := by
  obtain ⟨g1, g2, g3, g4, g5, g6⟩ := id h
  refine callV_same ?_ rfl
  rw [call_at (b := b14) [some (.int R), some (.int W), some (.int T), some (.int k), none, none] rfl rfl rfl]
  unfold b14
  dsimp only
  rw [q_scons, sexp_val (call3 (a := eVar 0) (a2 := eVar 1) (a3 := eVar 2) (b := false) (b2 := false) (b3 := false) (v := .int R) (v2 := .int W) (v3 := .int T) rfl rfl rfl (knownV n S h)), RS.then_nx, q_scons,
    sexp_val (call3 (a := eVar 3) (a2 := eLit (.int 0)) (a3 := eBin oSub (eVar 0) (eLit (.int 1))) (b := false) (b2 := false) (b3 := false) (v := .int k) (v2 := .int 0) (v3 := .int (R - 1)) rfl rfl rfl (chknumV (n + 1) S k 0 (R - 1) h1 h2)), RS.then_nx, q_scons,
    sasg_val (a := eBin oSub (eVar 0) (eVar 3)) (k := false) (v := .int (R - k)) rfl, RS.then_nx]
  rw [show ([some (.int R), some (.int W), some (.int T), some (.int k), none, none] : Env).set 4 (some (.int (R - k))) = [some (.int R), some (.int W), some (.int T), some (.int k), some (.int (R - k)), none] from rfl]
  have e5 := bin_val (o := oSub) (a := eVar 2) (k := false) (v := .int T) rfl (bin_val (o := oRep) (a := eBin oSub (eVar 4) (eLit (.int 1))) (k := false) (v := .int (R - k - 1)) (b := eBin oSub (eVar 1) (eLit (.int 1))) (k' := false) (w := .int (W - 1)) (env := [some (.int R), some (.int W), some (.int T), some (.int k), some (.int (R - k)), none]) rfl rfl (rep_r (R - k - 1) (W - 1) S (by omega) (by omega))) rfl
  rw [q_scons, sasg_val e5, RS.then_nx]
  rw [show ([some (.int R), some (.int W), some (.int T), some (.int k), some (.int (R - k)), none] : Env).set 5 (some (.int (T - (R - k - 1) * (W - 1)))) = [some (.int R), some (.int W), some (.int T), some (.int k), some (.int (R - k)), some (.int (T - (R - k - 1) * (W - 1)))] from rfl]
  have e6 := arg2_val (a := eLit (.int 0)) (k := false) (v := .int 0) (env := [some (.int R), some (.int W), some (.int T), some (.int k), some (.int (R - k)), some (.int (T - (R - k - 1) * (W - 1)))]) (S := S) rfl (bin_val (o := oDiv) (a := eBin oCat (eVar 5) (eVar 3)) (k := false) (v := .int (T - (R - k - 1) * (W - 1) + k)) (b := eBin oCat (eVar 3) (eLit (.int 1))) (k' := false) (w := .int (k + 1)) rfl rfl (div_int _ _ S (by omega) (by omega))) (max2 _ _ S)
  have e7 := arg2_val (a := eBin oSub (eVar 1) (eLit (.int 1))) (k := false) (v := .int (W - 1)) (env := [some (.int R), some (.int W), some (.int T), some (.int k), some (.int (R - k)), some (.int (T - (R - k - 1) * (W - 1)))]) (S := S) rfl (bin_val (o := oDiv) (a := eVar 2) (k := false) (v := .int T) (b := eVar 4) (k' := false) (w := .int (R - k)) rfl rfl (div_int _ _ S (by omega) (by omega))) (min2 _ _ S)
  rw [sret_val (tup2_val e6 e7)]
  unfold rlow rhigh
  rw [show R - k - 1 + 1 = R - k by omega]
  rfl
end
end PX.K62
set_option linter.all false
set_option maxRecDepth 100000
set_option maxHeartbeats 1000000
namespace PX.K62
open PySem PX K62M
section
variable (n : Nat) (S : Store)
theorem reachE {i j : Nat} {u x : PV} {cf : CF} {env : Env} (row : List Int) (v : Int) (en : Int → Env) (hl : row.length ≤ 1000) (hi : iSeq (eVar i) env S = .ok (row.map .int, []) S) (ht : ∀ y, gNm j (.int y) (wipeE env [j]) S = some (en y)) (hv : ∀ y, eVar j (en y) S = .ok (false, .int y) S) {k : Nat} (hk : ∀ y, eVar k (en y) S = .ok (false, .int v) S) :
    eLen cf [] (eLc (iSeq (eVar i)) (gNm j) [j] (tBl (eBin oGe (eVar j) (eVar k))) (eVar j)) env S = .ok (false, .int (cnt v row)) S := by
  have e := lc_int (t := gNm j) (vs := [j]) (c := tBl (eBin oGe (eVar j) (eVar k))) (e := eVar j) row (fun y => PV.int y) (fun y => y) (fun y => decide (v ≤ y)) en hi (by omega) (fun y _ => ht y) (fun y _ => tbl_val (bin_val (o := oGe) (hv y) (hk y) rfl)) (fun y _ _ => ⟨false, hv y⟩)
  rw [List.map_id'] at e
  exact lenL e
theorem reachV (b : Bool) (row : List Int) (v : Int) (hl : row.length ≤ 1000) : callV (callF TT (n + 1)) 19 [sq b row, .int v] S = .ok (false, .int (cnt v row)) S := by
  refine callV_same ?_ rfl
  rw [call_at (b := b19) [some (sq b row), some (.int v), none] rfl rfl rfl]
  unfold b19
  dsimp only
  rw [sret_val (reachE (u := .non) (x := .non) S row v (fun y => [some (sq b row), some (.int v), some (.int y)]) hl (by
    cases b
    · exact seq_valL _ _ S false _ rfl
    · exact seq_val _ _ S false _ rfl) (fun y => rfl) (fun y => rfl) (fun y => rfl))]
  rfl
end
end PX.K62
set_option linter.all false
set_option maxRecDepth 100000
set_option maxHeartbeats 1000000
namespace PX
open PySem
theorem down_ok : ∀ n : Fin 21, okC ((n.val : Int) - 1) (-1) (-1) = true ∧ sizeC ((n.val : Int) - 1) (-1) (-1) = n.val := by decide +kernel
theorem rg3_down {a b c : SE} {env : Env} {S : Store} {k1 k2 k3 : Bool} {n : Nat} (hn : n ≤ 20) (ha : a env S = .ok (k1, .int ((n : Int) - 1)) S) (hb : b env S = .ok (k2, .int (-1)) S) (hc : c env S = .ok (k3, .int (-1)) S) : iRg3 a b c env S = .ok (rngC ((n : Int) - 1) (-1) n, []) S := by
  obtain ⟨h1, h2⟩ := down_ok ⟨n, by omega⟩
  simp only at h1 h2
  show ((a env S).bind fun p S1 => (b env S1).bind fun q S2 => (c env S2).bind fun z S3 => match p.2, q.2, z.2 with
    | .int i, .int j, .int c => if okC i j c then R.ok (rngC i c (sizeC i j c), []) S3 else .no
    | _, _, _ => .no) = _
  rw [ha, R.bind_ok, hb, R.bind_ok, hc, R.bind_ok]
  simp only [h1, h2, if_true]
end PX
set_option linter.all false
set_option maxRecDepth 100000
set_option maxHeartbeats 1000000
namespace PX
open PySem
theorem sub_int (i j : Int) (S : Store) : oSub (.int i) (.int j) S = some (false, .int (i - j)) := (rfl)
end PX
namespace PX.K62
open PySem PX K62M
section
variable (n : Nat) (S : Store) (low high : List Int) (m : Int)
def curk (low high : List Int) (m : Int) (k : Nat) : List Int := low.take k ++ (spr (low.drop k) (high.drop k) m).1
def lefk (low high : List Int) (m : Int) (k : Nat) : Int := (spr (low.drop k) (high.drop k) m).2
theorem spr_step {k : Nat} {l h : Int} (h1 : low[k]? = some l) (h2 : high[k]? = some h) :
    curk low high m k = (curk low high m (k + 1)).set k (l + min (lefk low high m (k + 1)) (h - l)) ∧ lefk low high m k = lefk low high m (k + 1) - min (lefk low high m (k + 1)) (h - l) ∧ (curk low high m (k + 1))[k]? = some l := by
  obtain ⟨g1, e1⟩ := List.getElem?_eq_some_iff.mp h1
  obtain ⟨g2, e2⟩ := List.getElem?_eq_some_iff.mp h2
  have d1 : low.drop k = l :: low.drop (k + 1) := by rw [List.drop_eq_getElem_cons g1, e1]
  have d2 : high.drop k = h :: high.drop (k + 1) := by rw [List.drop_eq_getElem_cons g2, e2]
  have t1 : low.take (k + 1) = low.take k ++ [l] := by rw [List.take_add_one, h1]; rfl
  have lt : (low.take k).length = k := by rw [List.length_take]; omega
  unfold curk lefk
  rw [d1, d2, t1]
  refine ⟨?_, rfl, ?_⟩
  · rw [List.append_assoc, List.set_append_right _ _ (by omega), lt, Nat.sub_self]
    rfl
  · rw [List.append_assoc, List.getElem?_append_right (by omega), lt, Nat.sub_self]
    rfl
def bd3 (cf : CF) (n0 : Nat) : SS := sCons (sAsg (gNm 5) (eArg bMin2 (aCons (eVar 2) (aCons (eBin oSub (eIx cf [] (eVar 1) (eVar 4)) (eIx cf [] (eVar 3) (eVar 4))) aNil)))) (sCons (sAugI oAdd oGet (setG n0) (eVar 3) (eVar 4) (eVar 5)) (sAug 2 oSub (eVar 5)))
theorem turn3 {k : Nat} {l h : Int} (h1 : low[k]? = some l) (h2 : high[k]? = some h) (cf : CF) (a5 : Option PV) :
    bd3 cf S.length [some (.lst (low.map .int)), some (.lst (high.map .int)), some (.int (lefk low high m (k + 1))), some (.ref S.length), some (.int k), a5] (S ++ [.lst ((curk low high m (k + 1)).map .int)]) =
      .nx [some (.lst (low.map .int)), some (.lst (high.map .int)), some (.int (lefk low high m k)), some (.ref S.length), some (.int k), some (.int (min (lefk low high m (k + 1)) (h - l)))] (S ++ [.lst ((curk low high m k).map .int)]) := by
  obtain ⟨s1, s2, s3⟩ := spr_step low high m h1 h2
  generalize hc : curk low high m (k + 1) = c at *
  generalize hm : lefk low high m (k + 1) = mm at *
  have x1 : eIx cf [] (eVar 1) (eVar 4) [some (.lst (low.map .int)), some (.lst (high.map .int)), some (.int mm), some (.ref S.length), some (.int k), a5] (S ++ [.lst (c.map .int)]) = .ok (false, .int h) (S ++ [.lst (c.map .int)]) :=
    ix_val (k := false) (k' := false) (v := .lst (high.map .int)) (w := .int k) rfl rfl rfl (dIx_lst _ _ _) (oIx_at (v := .lst (high.map .int)) (xs := high.map .int) rfl (by rw [List.getElem?_map, h2]; rfl))
  have x2 : eIx cf [] (eVar 3) (eVar 4) [some (.lst (low.map .int)), some (.lst (high.map .int)), some (.int mm), some (.ref S.length), some (.int k), a5] (S ++ [.lst (c.map .int)]) = .ok (false, .int l) (S ++ [.lst (c.map .int)]) :=
    ix_val (k := false) (k' := false) (v := .ref S.length) (w := .int k) rfl rfl (own_last _ _ _) (dIx_last _ _ _) (oIx_at (items_last S _) (by rw [List.getElem?_map, s3]; rfl))
  unfold bd3
  rw [q_scons, sasg_val (arg2_val (k := false) (a := eVar 2) (v := .int mm) rfl (bin_val x1 x2 (sub_int h l _)) (min2 mm (h - l) _)), RS.then_nx]
  rw [show ([some (.lst (low.map .int)), some (.lst (high.map .int)), some (.int mm), some (.ref S.length), some (.int k), a5] : Env).set 5 (some (.int (min mm (h - l)))) = [some (.lst (low.map .int)), some (.lst (high.map .int)), some (.int mm), some (.ref S.length), some (.int k), some (.int (min mm (h - l)))] from rfl]
  rw [q_scons, augI_last (x := .int l) (w := .int (min mm (h - l))) (y := .int (l + min mm (h - l))) (z := false) (b1 := false) (b2 := false) (b3 := false) (j := k) rfl rfl rfl rfl (by rw [List.getElem?_map, s3]; rfl) rfl, RS.then_nx]
  rw [← List.map_set, ← s1, s2]
  rfl
theorem loop3 (cf : CF) (hlen : low.length = high.length) : ∀ (k : Nat) (_ : k ≤ low.length) (a4 a5 : Option PV), ∃ b4 b5,
    forR (gNm 4) (bd3 cf S.length) (rngC ((k : Int) - 1) (-1) k) [some (.lst (low.map .int)), some (.lst (high.map .int)), some (.int (lefk low high m k)), some (.ref S.length), a4, a5] (S ++ [.lst ((curk low high m k).map .int)]) =
      .nx [some (.lst (low.map .int)), some (.lst (high.map .int)), some (.int (lefk low high m 0)), some (.ref S.length), b4, b5] (S ++ [.lst ((curk low high m 0).map .int)])
  | 0, _, a4, a5 => ⟨a4, a5, rfl⟩
  | k + 1, hk, a4, a5 => by
    have g1 : k < low.length := hk
    have g2 : k < high.length := by omega
    obtain ⟨b4, b5, ih⟩ := loop3 cf hlen k (by omega) (some (.int k)) (some (.int (min (lefk low high m (k + 1)) (high[k] - low[k]))))
    refine ⟨b4, b5, ?_⟩
    have e := turn3 S low high m (k := k) (l := low[k]) (h := high[k]) (List.getElem?_eq_getElem g1) (List.getElem?_eq_getElem g2) cf a5
    have er : rngC (((k + 1 : Nat) : Int) - 1) (-1) (k + 1) = .int k :: rngC ((k : Int) - 1) (-1) k := by
      rw [show (((k + 1 : Nat) : Int) - 1) = (k : Int) by omega]
      rfl
    have et : gNm 4 (.int k) [some (.lst (low.map .int)), some (.lst (high.map .int)), some (.int (lefk low high m (k + 1))), some (.ref S.length), a4, a5] (S ++ [.lst ((curk low high m (k + 1)).map .int)]) =
      some [some (.lst (low.map .int)), some (.lst (high.map .int)), some (.int (lefk low high m (k + 1))), some (.ref S.length), some (.int k), a5] := rfl
    rw [er, q_forC]
    simp only [et, e]
    exact ih
theorem spreadV (hlen : low.length = high.length) (h20 : low.length ≤ 20) : callV (callF TT (n + 1)) 3 [.lst (low.map .int), .lst (high.map .int), .int m] S = .ok (false, .tup ((spr low high m).1.map .int)) S := by
  have e0 : curk low high m low.length = low := by
    unfold curk
    rw [List.take_length, List.drop_length]
    show low ++ (spr [] _ m).1 = low
    rw [show (spr [] (high.drop low.length) m).1 = [] from rfl, List.append_nil]
  have e1 : lefk low high m low.length = m := by
    unfold lefk
    rw [List.drop_length]
    rfl
  have ec : callF TT (n + 1) 3 [.lst (low.map .int), .lst (high.map .int), .int m] S.length S = .ok (.tup ((spr low high m).1.map .int)) (S ++ [.lst ((spr low high m).1.map .int)]) := by
    rw [call_at (b := b3) [some (.lst (low.map .int)), some (.lst (high.map .int)), some (.int m), none, none, none] rfl rfl rfl]
    unfold b3
    dsimp only
    have h0 : sAsg (gNm 3) (eNew (eArg bList (aCons (eVar 0) aNil))) [some (.lst (low.map .int)), some (.lst (high.map .int)), some (.int m), none, none, none] S = .nx [some (.lst (low.map .int)), some (.lst (high.map .int)), some (.int m), some (.ref S.length), none, none] (S ++ [.lst (low.map .int)]) := rfl
    rw [q_scons, h0, RS.then_nx, q_scons, q_sfor]
    have hl : eLen (callF TT n) [] (eVar 3) [some (.lst (low.map .int)), some (.lst (high.map .int)), some (.int m), some (.ref S.length), none, none] (S ++ [.lst (low.map .int)]) = .ok (false, .int low.length) (S ++ [.lst (low.map .int)]) :=
      len_flat (k := false) (v := .ref S.length) rfl (own_last _ _ _) (by
        unfold bLen
        simp only [d_ref, at_last]
        show some (false, PV.int ((low.map PV.int).length : Nat)) = _
        rw [List.length_map])
    have er := rg3_down (a := eBin oSub (eLen (callF TT n) [] (eVar 3)) (eLit (.int 1))) (b := eUn oNeg (eLit (.int 1))) (c := eUn oNeg (eLit (.int 1))) (n := low.length) h20 (bin_val hl rfl (sub_int low.length 1 _)) (neg_val (a := eLit (.int 1)) (k := false) (i := 1) rfl) (neg_val (a := eLit (.int 1)) (k := false) (i := 1) rfl)
    rw [er, R.go_ok]
    simp only [q_unl0]
    obtain ⟨b4, b5, el⟩ := loop3 S low high m (callF TT n) hlen low.length (Nat.le_refl _) none none
    rw [e0, e1] at el
    unfold bd3 at el
    rw [show forR (gNm 4) _ (rngC ((low.length : Int) - 1) (-1) low.length) [some (.lst (low.map .int)), some (.lst (high.map .int)), some (.int m), some (.ref S.length), none, none] (S ++ [.lst (low.map .int)]) = _ from el, RS.then_nx]
    have e2 : curk low high m 0 = (spr low high m).1 := by
      unfold curk
      rw [List.take_zero, List.drop_zero, List.drop_zero, List.nil_append]
    rw [e2]
    have e3 : eArg bTuple (aCons (eVar 3) aNil) [some (.lst (low.map .int)), some (.lst (high.map .int)), some (.int (lefk low high m 0)), some (.ref S.length), b4, b5] (S ++ [.lst ((spr low high m).1.map .int)]) = .ok (false, .tup ((spr low high m).1.map .int)) (S ++ [.lst ((spr low high m).1.map .int)]) := by
      refine arg1_val (k := false) (v := .ref S.length) rfl ?_
      show (match itemsOf (S ++ [.lst ((spr low high m).1.map .int)]) (.ref S.length) with
        | some ws => some (false, PV.tup ws)
        | none => none) = _
      rw [items_last]
    rw [sret_val e3]
    rfl
  unfold callV
  rw [ec]
  show norm S.length _ _ = _
  exact norm_flat S _ _ (fun i e => by cases e) (frz_tupi _ _ _ 6 _)
end
end PX.K62
set_option linter.all false
set_option maxRecDepth 100000
set_option maxHeartbeats 1000000
namespace PX
open PySem
theorem rep_one (x : Int) (k : Nat) (h : k ≤ 1000) (S : Store) : oRep (.lst [.int x]) (.int k) S = some (true, .lst ((List.replicate k x).map .int)) := by
  have e : oRep (.lst [.int x]) (.int k) S = if decide (-1000 ≤ (k : Int) ∧ (k : Int) ≤ 1000) && Nat.ble 1 1000 then some (true, .lst (List.replicate (k : Int).toNat [PV.int x]).flatten) else none := rfl
  rw [e, decide_eq_true ⟨by omega, by omega⟩, show Nat.ble 1 1000 = true from rfl]
  rw [if_pos (by rfl), Int.toNat_natCast, List.map_replicate]
  congr 3
  induction k with
  | zero => rfl
  | succ k ih => rw [List.replicate_succ, List.flatten_cons, ih (by omega) (by rfl), List.replicate_succ]; rfl
theorem cat_lstI (a b : List Int) (S : Store) (h : a.length + b.length ≤ 1000000) : oCat (.lst (a.map .int)) (.lst (b.map .int)) S = some (true, .lst ((a ++ b).map .int)) := by
  rw [cat_lst _ _ _ (by simpa using h), List.map_append]
end PX
namespace PX.K62
open PySem PX K62M
section
variable (n : Nat) (S : Store)
theorem lowestV (R m : Nat) (v : Int) (hm : m ≤ R) (hR : R ≤ 20) : callV (callF TT (n + 1)) 4 [.int R, .int v, .int m] S = .ok (false, .lst ((blk (R - m) m 0 v).map .int)) S := by
  refine callV_same ?_ rfl
  rw [call_at (b := b4) [some (.int R), some (.int v), some (.int m)] rfl rfl rfl]
  unfold b4
  dsimp only
  have e0 : oSub (.int R) (.int m) S = some (false, .int ((R - m : Nat) : Int)) := by
    rw [sub_int]
    congr 3
    omega
  have e1 := bin_val (o := oRep) (a := eLst (aCons (eLit (.int 0)) aNil)) (k := true) (v := .lst [.int 0]) (env := [some (.int R), some (.int v), some (.int m)]) (S := S) rfl (bin_val (o := oSub) (a := eVar 0) (b := eVar 2) (k := false) (k' := false) (v := .int R) (w := .int m) rfl rfl e0) (rep_one 0 (R - m) (by omega) S)
  have e2 := bin_val (o := oRep) (a := eLst (aCons (eVar 1) aNil)) (k := true) (v := .lst [.int v]) (b := eVar 2) (k' := false) (w := .int m) (env := [some (.int R), some (.int v), some (.int m)]) (S := S) rfl rfl (rep_one v m (by omega) S)
  rw [sret_val (bin_val e1 e2 (cat_lstI _ _ S (by simp only [List.length_replicate]; omega)))]
  rfl
theorem highestV (R m : Nat) (W v : Int) (hm : m ≤ R) (hR : R ≤ 20) : callV (callF TT (n + 1)) 5 [.int R, .int W, .int v, .int m] S = .ok (false, .lst ((blk (R - m) m (v - 1) (W - 1)).map .int)) S := by
  refine callV_same ?_ rfl
  rw [call_at (b := b5) [some (.int R), some (.int W), some (.int v), some (.int m)] rfl rfl rfl]
  unfold b5
  dsimp only
  have e0 : oSub (.int R) (.int m) S = some (false, .int ((R - m : Nat) : Int)) := by
    rw [sub_int]
    congr 3
    omega
  have e1 := bin_val (o := oRep) (a := eLst (aCons (eBin oSub (eVar 2) (eLit (.int 1))) aNil)) (k := true) (v := .lst [.int (v - 1)]) (env := [some (.int R), some (.int W), some (.int v), some (.int m)]) (S := S) rfl (bin_val (o := oSub) (a := eVar 0) (b := eVar 3) (k := false) (k' := false) (v := .int R) (w := .int m) rfl rfl e0) (rep_one (v - 1) (R - m) (by omega) S)
  have e2 := bin_val (o := oRep) (a := eLst (aCons (eBin oSub (eVar 1) (eLit (.int 1))) aNil)) (k := true) (v := .lst [.int (W - 1)]) (b := eVar 3) (k' := false) (w := .int m) (env := [some (.int R), some (.int W), some (.int v), some (.int m)]) (S := S) rfl rfl (rep_one (W - 1) m (by omega) S)
  rw [sret_val (bin_val e1 e2 (cat_lstI _ _ S (by simp only [List.length_replicate]; omega)))]
  rfl
def rowE (R m : Nat) (W T v : Int) : List Int := (spr (blk (R - m) m 0 v) (blk (R - m) m (v - 1) (W - 1)) (T - m * v)).1
theorem rowV (R m : Nat) (W T v : Int) (hm : m ≤ R) (hR : R ≤ 20) (h1 : m * v ≤ T) (h2 : T ≤ ((R - m : Nat) : Int) * (v - 1) + m * (W - 1)) :
    callV (callF TT (n + 2)) 6 [.int R, .int W, .int T, .int v, .int m] S = .ok (false, .tup ((rowE R m W T v).map .int)) S := by
  refine callV_same ?_ rfl
  rw [call_at (b := b6) [some (.int R), some (.int W), some (.int T), some (.int v), some (.int m), none, none] rfl rfl rfl]
  unfold b6
  dsimp only
  have hs1 : (blk (R - m) m 0 v).sum = m * v := by rw [blk_sum]; omega
  have hs2 := blk_sum (R - m) m (v - 1) (W - 1)
  generalize hl : blk (R - m) m 0 v = lo at *
  generalize hh : blk (R - m) m (v - 1) (W - 1) = hi at *
  have c1 := call3 (a := eVar 0) (a2 := eVar 3) (a3 := eVar 4) (b := false) (b2 := false) (b3 := false) (env := [some (.int R), some (.int W), some (.int T), some (.int v), some (.int m), none, none]) rfl rfl rfl (lowestV n S R m v hm hR)
  have c2 := call4 (a := eVar 0) (a2 := eVar 1) (a3 := eVar 3) (a4 := eVar 4) (b := false) (b2 := false) (b3 := false) (b4 := false) (env := [some (.int R), some (.int W), some (.int T), some (.int v), some (.int m), none, none]) rfl rfl rfl rfl (highestV n S R m W v hm hR)
  rw [hl] at c1
  rw [hh] at c2
  have e1 : sPar [5, 6] (aCons (eCall (callF TT (n + 1)) 3 4 (aCons (eVar 0) (aCons (eVar 3) (aCons (eVar 4) aNil)))) (aCons (eCall (callF TT (n + 1)) 4 5 (aCons (eVar 0) (aCons (eVar 1) (aCons (eVar 3) (aCons (eVar 4) aNil))))) aNil)) [some (.int R), some (.int W), some (.int T), some (.int v), some (.int m), none, none] S =
      .nx [some (.int R), some (.int W), some (.int T), some (.int v), some (.int m), some (.lst (lo.map .int)), some (.lst (hi.map .int))] S := by
    rw [q_spar, args2 c1 c2, PX.R.go_ok]
    rfl
  have d1 := arg1_val (a := eVar 5) (k := false) (env := [some (.int R), some (.int W), some (.int T), some (.int v), some (.int m), some (.lst (lo.map .int)), some (.lst (hi.map .int))]) rfl (bSum_lst lo S)
  have d2 := arg1_val (a := eVar 6) (k := false) (env := [some (.int R), some (.int W), some (.int T), some (.int v), some (.int m), some (.lst (lo.map .int)), some (.lst (hi.map .int))]) rfl (bSum_lst hi S)
  have d3 : eCh oLe oLe (eArg bSum (aCons (eVar 5) aNil)) (eVar 2) (eArg bSum (aCons (eVar 6) aNil)) [some (.int R), some (.int W), some (.int T), some (.int v), some (.int m), some (.lst (lo.map .int)), some (.lst (hi.map .int))] S = .ok (false, .bl (decide (lo.sum ≤ T) && decide (T ≤ hi.sum))) S :=
    ch_val d1 (b := eVar 2) (k2 := false) (v := .int T) rfl d2 rfl rfl
  have d4 := call3 (a := eVar 5) (a2 := eVar 6) (b := false) (b2 := false) rfl rfl (bin_val (b := eArg bSum (aCons (eVar 5) aNil)) (a := eVar 2) (k := false) (v := .int T) rfl d1 (sub_int T lo.sum S)) (spreadV n S lo hi (T - lo.sum) (by rw [← hl, ← hh, blk_len, blk_len]) (by rw [← hl, blk_len]; omega))
  rw [q_scons, e1, RS.then_nx, q_scons, sif_val (tno_val (tbl_val d3)), decide_eq_true (by omega), decide_eq_true (by omega)]
  rw [if_neg (by simp), show sNil [some (.int R), some (.int W), some (.int T), some (.int v), some (.int m), some (.lst (lo.map .int)), some (.lst (hi.map .int))] S = .nx _ S from rfl, RS.then_nx, sret_val d4]
  rw [hs1]
  unfold rowE
  rw [hl, hh]
  rfl
end
end PX.K62
set_option linter.all false
set_option maxRecDepth 100000
set_option maxHeartbeats 1000000
namespace PX
open PySem
theorem call5 {cf : CF} {f : Nat} {a a2 a3 a4 a5 : SE} {env : Env} {S : Store} {b b2 b3 b4 b5 : Bool} {v v2 v3 v4 v5 w : PV} (ha : a env S = .ok (b, v) S) (ha2 : a2 env S = .ok (b2, v2) S) (ha3 : a3 env S = .ok (b3, v3) S) (ha4 : a4 env S = .ok (b4, v4) S) (ha5 : a5 env S = .ok (b5, v5) S) (h : callV cf f [v, v2, v3, v4, v5] S = .ok (false, w) S) :
    eCall cf 5 f (aCons a (aCons a2 (aCons a3 (aCons a4 (aCons a5 aNil))))) env S = .ok (false, w) S := by
  rw [q_call, q_cons, ha, R.bind_ok, q_cons, ha2, R.bind_ok, q_cons, ha3, R.bind_ok, q_cons, ha4, R.bind_ok, q_cons, ha5, R.bind_ok, q_nil, R.bind_ok, R.bind_ok, R.bind_ok, R.bind_ok, R.bind_ok, R.bind_ok, if_pos (by rfl), h]
end PX
namespace K62M
/-- some row has the total -/
theorem some_line {R : Nat} {W T : Int} (hW : 1 ≤ W) (hT : 0 ≤ T) (h2 : T ≤ R * (W - 1)) : ∃ c, c ∈ lines W T R := by
  have hp : ptw (blk R 0 0 0) (blk R 0 (W - 1) 0) := blk_ptw R 0 (by omega) (Int.le_refl _)
  obtain ⟨g1, g2, g3, g4, g5, g6⟩ := spr_ok _ _ T hp hT
  have s1 := blk_sum R 0 0 0
  have s2 := blk_sum R 0 (W - 1) 0
  obtain ⟨k1, k2⟩ := spr_all hp hT (by rw [s1, s2]; simp; omega)
  refine ⟨_, (mem_lines hT).mpr ⟨?_, g6 (blk_srt (by omega) _ _) ?_, ?_, by rw [k2, s1]; simp⟩⟩
  · rw [← ptw_len g1, blk_len]; omega
  · show srt (List.replicate R (W - 1) ++ [])
    rw [List.append_nil]
    exact rep_srt R _
  · refine ptw_mem hp (fun x hx => ?_) (fun x hx => ?_) g1 g2
    · rcases List.mem_append.mp hx with hx | hx
      · rw [(List.mem_replicate.mp hx).2]; exact Int.le_refl _
      · exact absurd hx (by simp)
    · rcases List.mem_append.mp hx with hx | hx
      · rw [(List.mem_replicate.mp hx).2]; exact Int.le_refl _
      · exact absurd hx (by simp)
end K62M
namespace PX.K62
open PySem PX K62M
theorem low_high {R : Nat} {W T v : Int} (h : ask R W T) (h1 : 1 ≤ v) (h2 : v ≤ W - 1) : lowE R W T v ≤ highE R T v := by
  obtain ⟨g1, g2, g3, g4, g5, g6⟩ := h
  obtain ⟨c, hc⟩ := some_line (R := R) g3 g5 g6
  have := (numbers h1 h2 g5 g6 (cnt v c : Int)).mp ⟨c, hc, rfl⟩
  unfold lowE highE
  omega
/-- the two ends are numbers of rows -/
theorem end_ok {R : Nat} {W T v e : Int} (h : ask R W T) (h1 : 1 ≤ v) (h2 : v ≤ W - 1) (he : e = lowE R W T v ∨ e = highE R T v) :
    ∃ m : Nat, e = m ∧ m ≤ R ∧ m * v ≤ T ∧ T ≤ ((R - m : Nat) : Int) * (v - 1) + m * (W - 1) := by
  have hl := low_high h h1 h2
  obtain ⟨g1, g2, g3, g4, g5, g6⟩ := h
  have hh : lowE R W T v ≤ e ∧ e ≤ highE R T v := by rcases he with r | r <;> subst r <;> omega
  obtain ⟨k1, k2, k3, k4⟩ := (ends_iff h1 h2 g5 g6 e).mpr hh
  refine ⟨e.toNat, by omega, by omega, ?_, ?_⟩
  · rw [show ((e.toNat : Nat) : Int) = e by omega]; exact k3
  · rw [show (((R - e.toNat : Nat)) : Int) = (R : Int) - e by omega, show ((e.toNat : Nat) : Int) = e by omega]
    omega
def ends (a b : List Int) : PV := .ins 0 [0, 1] [.tup (a.map .int), .tup (b.map .int)]
section
variable (n : Nat) (S : Store)
theorem einit (a b : List Int) : callF TT (n + 1) 7 [.ref S.length, .tup (a.map .int), .tup (b.map .int)] S.length (S ++ [.ins 0 [] []]) = .ok .non (S ++ [ends a b]) := by
  rw [call_at (b := b7) [some (.ref S.length), some (.tup (a.map .int)), some (.tup (b.map .int))] rfl rfl rfl]
  unfold b7
  dsimp only
  have ht : ∀ (ns : List Int) (S : Store), bTuple [.tup (ns.map .int)] S = some (false, .tup (ns.map .int)) := fun ns S => rfl
  rw [q_scons, fld_last (n0 := S.length) (k := false) (w := .tup (a.map .int)) (k' := false) rfl (arg1_val (a := eVar 1) (k := false) (v := .tup (a.map .int)) rfl (ht a _)) rfl rfl rfl, RS.then_nx]
  rw [fld_last (n0 := S.length) (k := false) (w := .tup (b.map .int)) (k' := false) rfl (arg1_val (a := eVar 2) (k := false) (v := .tup (b.map .int)) rfl (ht b _)) rfl rfl rfl]
  rfl
theorem emake {a1 a2 : SE} {env : Env} {S : Store} {k1 k2 : Bool} (a b : List Int) (h1 : a1 env S = .ok (k1, .tup (a.map .int)) S) (h2 : a2 env S = .ok (k2, .tup (b.map .int)) S) : eMake (callF TT (n + 1)) 3 0 7 (aCons a1 (aCons a2 aNil)) env S = .ok (true, ends a b) S := by
  unfold eMake
  rw [q_cons, h1, R.bind_ok, q_cons, h2, R.bind_ok, q_nil, R.bind_ok, R.bind_ok, R.bind_ok, if_pos (by rfl), einit]
  show norm S.length (.ref S.length) (S ++ [ends a b]) = _
  exact norm_ins S 0 [0, 1] [a, b]
/-- reach_both -/
theorem bothV {R ml mh : Nat} {W T v : Int} (h : ask R W T) (h1 : 1 ≤ v) (h2 : v ≤ W - 1) (el : lowE R W T v = ml) (eh : highE R T v = mh) :
    callV (callF TT (n + 5)) 13 [.int R, .int W, .int T, .int v] S = .ok (false, ends (rowE R ml W T v) (rowE R mh W T v)) S := by
  obtain ⟨m1, e1, q1, q2, q3⟩ := end_ok h h1 h2 (.inl rfl)
  obtain ⟨m2, e2, p1, p2, p3⟩ := end_ok h h1 h2 (.inr rfl)
  have : m1 = ml := by omega
  subst this
  have : m2 = mh := by omega
  subst this
  have hR : R ≤ 20 := by have := h.2.1; omega
  refine callV_same ?_ rfl
  rw [call_at (b := b13) [some (.int R), some (.int W), some (.int T), some (.int v), none, none] rfl rfl rfl]
  unfold b13
  dsimp only
  have c1 := call4 (a := eVar 0) (a2 := eVar 1) (a3 := eVar 2) (a4 := eVar 3) (b := false) (b2 := false) (b3 := false) (b4 := false) (env := [some (.int R), some (.int W), some (.int T), some (.int v), none, none]) rfl rfl rfl rfl (askedV n S h h1 h2)
  have c2 := call4 (a := eVar 0) (a2 := eVar 1) (a3 := eVar 2) (a4 := eVar 3) (b := false) (b2 := false) (b3 := false) (b4 := false) (env := [some (.int R), some (.int W), some (.int T), some (.int v), none, none]) rfl rfl rfl rfl (endsV (n + 3) S h h1 h2)
  have c3 : sAsg (gTp [(gNm 4), (gNm 5)]) (eCall (callF TT (n + 4)) 4 11 (aCons (eVar 0) (aCons (eVar 1) (aCons (eVar 2) (aCons (eVar 3) aNil))))) [some (.int R), some (.int W), some (.int T), some (.int v), none, none] S =
      .nx [some (.int R), some (.int W), some (.int T), some (.int v), some (.int m1), some (.int m2)] S := by
    rw [q_sasg, c2, PX.R.go_ok, el, eh]
    rfl
  rw [q_scons, sexp_val c1, RS.then_nx, q_scons, c3, RS.then_nx]
  have d1 := call5 (a := eVar 0) (a2 := eVar 1) (a3 := eVar 2) (a4 := eVar 3) (a5 := eVar 4) (b := false) (b2 := false) (b3 := false) (b4 := false) (b5 := false) (env := [some (.int R), some (.int W), some (.int T), some (.int v), some (.int m1), some (.int m2)]) rfl rfl rfl rfl rfl (rowV (n + 2) S R m1 W T v q1 hR q2 q3)
  have d2 := call5 (a := eVar 0) (a2 := eVar 1) (a3 := eVar 2) (a4 := eVar 3) (a5 := eVar 5) (b := false) (b2 := false) (b3 := false) (b4 := false) (b5 := false) (env := [some (.int R), some (.int W), some (.int T), some (.int v), some (.int m1), some (.int m2)]) rfl rfl rfl rfl rfl (rowV (n + 2) S R m2 W T v p1 hR p2 p3)
  rw [sret_val (emake (n + 3) _ _ d1 d2)]
  rfl
end
end PX.K62
set_option linter.all false
set_option maxRecDepth 100000
set_option maxHeartbeats 1000000
namespace PX
open PySem
theorem lenQ {cf : CF} {tb : List (Nat × Nat)} {a : SE} {env : Env} {S : Store} {k : Bool} {b : Bool} {c : List Int} (ha : a env S = .ok (k, sq b c) S) : eLen cf tb a env S = .ok (false, .int c.length) S := by
  cases b
  · exact len_flat ha rfl (by
      show some (false, PV.int ((c.map PV.int).length : Nat)) = _
      rw [List.length_map])
  · exact len_flat ha rfl (by
      show some (false, PV.int ((c.map PV.int).length : Nat)) = _
      rw [List.length_map])
theorem sumQ (b : Bool) (c : List Int) (S : Store) : bSum [sq b c] S = some (false, .int c.sum) := by
  cases b
  · exact bSum_lst c S
  · exact bSum_tup c S
theorem seqQ (a : SE) (env : Env) (S : Store) (k b : Bool) (c : List Int) (ha : a env S = .ok (k, sq b c) S) : iSeq a env S = .ok (c.map .int, []) S := by
  cases b
  · exact seq_valL _ _ S _ _ ha
  · exact seq_val _ _ S _ _ ha
end PX
namespace K62M
def rowB (R : Nat) (W T : Int) (r : List Int) : Bool := decide (r.length = R) && ((r.all fun x => decide (0 ≤ x ∧ x ≤ W - 1)) && decide (r.sum = T))
theorem rowB_ok {R : Nat} {W T : Int} {r : List Int} (h1 : r.length = R) (h2 : ∀ x ∈ r, 0 ≤ x ∧ x ≤ W - 1) (h3 : r.sum = T) : rowB R W T r = true := by
  unfold rowB
  rw [decide_eq_true h1, decide_eq_true h3, List.all_eq_true.mpr fun x hx => decide_eq_true (h2 x hx)]
  rfl
end K62M
namespace PX.K62
open PySem PX K62M
section
variable (n : Nat) (S : Store)
abbrev env9 (R : Nat) (W T v : Int) (a b : List Int) (x5 x6 x7 : Option PV) : Env := [some (ends a b), some (.int R), some (.int W), some (.int T), some (.int v), x5, x6, x7]
abbrev TB : List (Nat × Nat) := [(0, 8)]
abbrev TY : List TyN := [.non, .bl, .int, .str, .tup, .lst, .dct, .own 0]
def bd9 (cf : CF) : SS := sIf (tOr (tBl (eNe cf TB TY (eLen cf [] (eVar 5)) (eVar 1))) (tOr (tNo (tTru (eArg bAll (aCons (eLc (iSeq (eVar 5)) (gNm 7) [7] tYesP (eCall cf 3 0 (aCons (eVar 7) (aCons (eLit (.int 0)) (aCons (eBin oSub (eVar 2) (eLit (.int 1))) aNil))))) aNil)))) (tBl (eNe cf TB TY (eArg bSum (aCons (eVar 5) aNil)) (eVar 3))))) (sRet (eLit (.bl false))) sNil
theorem three {c1 c2 c3 : ST} {env : Env} {S : Store} {x y z : Bool} (h1 : c1 env S = .ok (!x) S) (h2 : c2 env S = .ok y S) (h3 : c3 env S = .ok (!z) S) : sIf (tOr c1 (tOr (tNo c2) c3)) (sRet (eLit (.bl false))) sNil env S = if (x && (y && z)) = true then .nx env S else .rt (.bl false) S := by
  rw [sif_val (t := !(x && (y && z))) (by
    rw [tor_val h1]
    cases x
    · rfl
    · rw [if_neg (by simp), tor_val (tno_val h2)]
      cases y
      · rfl
      · rw [if_neg (by simp), h3]
        rfl)]
  cases x <;> cases y <;> cases z <;> rfl
theorem turn9 {R : Nat} {W T v : Int} {a b r : List Int} (hl : r.length ≤ 100000) (x6 x7 : Option PV) : bd9 (callF TT (n + 1)) (env9 R W T v a b (some (.tup (r.map .int))) x6 x7) S = if rowB R W T r = true then .nx (env9 R W T v a b (some (.tup (r.map .int))) x6 x7) S else .rt (.bl false) S := by
  refine three ?_ ?_ ?_
  · rw [show decide (r.length = R) = decide ((r.length : Int) = (R : Int)) from decide_eq_decide.mpr (by omega)]
    refine tbl_val (k := false) (ne_flat (k := false) (k' := false) (v := .int r.length) (w := .int R) (lenN (c := r) (k := false) rfl) rfl rfl ?_)
    exact oNe_int' _ _ _
  · exact ttru_bl (all_lc (i := iSeq (eVar 5)) (t := gNm 7) (vs := [7]) (e := eCall (callF TT (n + 1)) 3 0 (aCons (eVar 7) (aCons (eLit (.int 0)) (aCons (eBin oSub (eVar 2) (eLit (.int 1))) aNil)))) (env := env9 R W T v a b (some (.tup (r.map .int))) x6 x7) (S := S) r PV.int (fun x => decide (0 ≤ x ∧ x ≤ W - 1)) (fun x => env9 R W T v a b (some (.tup (r.map .int))) x6 (some (.int x))) (seq_val _ _ S false _ rfl) hl (fun x _ => rfl) (fun x _ => ⟨false, call3 (a := eVar 7) (a2 := eLit (.int 0)) (a3 := eBin oSub (eVar 2) (eLit (.int 1))) (b := false) (b2 := false) (b3 := false) (v := .int x) (v2 := .int 0) (v3 := .int (W - 1)) rfl rfl rfl (isnumV n S x 0 (W - 1))⟩))
  · refine tbl_val (k := false) (ne_flat (k := false) (k' := false) (v := .int r.sum) (w := .int T) (arg1_val (a := eVar 5) (k := false) (v := .tup (r.map .int)) rfl (bSum_tup r S)) rfl rfl ?_)
    exact oNe_int' _ _ _
theorem seq2 {cf : CF} {R : Nat} {W T v : Int} {a b : List Int} (x5 x6 x7 : Option PV) : iSeq (eTup (aCons (eFld [0] 0 (eVar 0)) (aCons (eFld [0] 1 (eVar 0)) aNil))) (env9 R W T v a b x5 x6 x7) S = .ok ([a, b].map fun r => .tup (r.map .int), []) S :=
  seq_val _ _ S false _ (tup2_val (k := false) (k' := false) (v := .tup (a.map .int)) (w := .tup (b.map .int)) rfl rfl)
/-- what shows answers -/
def shB (R : Nat) (W T v lo hi : Int) (a b : List Int) : Bool := rowB R W T a && (rowB R W T b && decide ([(cnt v a : Int), (cnt v b : Int)] = [lo, hi]))
theorem showsV {R : Nat} {W T v : Int} {a b : List Int} (h : ask R W T) (h1 : 1 ≤ v) (h2 : v ≤ W - 1) (la : a.length ≤ 1000) (lb : b.length ≤ 1000) :
    callV (callF TT (n + 5)) 9 [ends a b, .int R, .int W, .int T, .int v] S = .ok (false, .bl (shB R W T v (lowE R W T v) (highE R T v) a b)) S := by
  refine callV_same ?_ rfl
  rw [call_at (b := b9) (env9 R W T v a b none none none) rfl rfl rfl]
  unfold b9
  dsimp only
  have c1 := call4 (a := eVar 1) (a2 := eVar 2) (a3 := eVar 3) (a4 := eVar 4) (b := false) (b2 := false) (b3 := false) (b4 := false) (env := env9 R W T v a b none none none) rfl rfl rfl rfl (askedV n S h h1 h2)
  rw [q_scons, sexp_val c1, RS.then_nx, q_scons, q_sfor, seq2 (cf := callF TT (n + 4)), PX.R.go_ok]
  simp only [q_unl0]
  have t1 := turn9 (n + 3) S (R := R) (W := W) (T := T) (v := v) (a := a) (b := b) (r := a) (by omega) none none
  have t2 := turn9 (n + 3) S (R := R) (W := W) (T := T) (v := v) (a := a) (b := b) (r := b) (by omega) none none
  have el2 : forR (gNm 5) (bd9 (callF TT (n + 4))) ([a, b].map fun r => .tup (r.map .int)) (env9 R W T v a b none none none) S = if (rowB R W T a && rowB R W T b) = true then .nx (env9 R W T v a b (some (.tup (b.map .int))) none none) S else .rt (.bl false) S := by
    show forR _ _ (.tup (a.map .int) :: [.tup (b.map .int)]) _ _ = _
    rw [q_forC]
    have et1 : gNm 5 (.tup (a.map .int)) (env9 R W T v a b none none none) S = some (env9 R W T v a b (some (.tup (a.map .int))) none none) := rfl
    have et2 : gNm 5 (.tup (b.map .int)) (env9 R W T v a b (some (.tup (a.map .int))) none none) S = some (env9 R W T v a b (some (.tup (b.map .int))) none none) := rfl
    simp only [et1, t1]
    cases hra : rowB R W T a with
    | false => rfl
    | true =>
      rw [if_pos rfl]
      show forR _ _ _ _ _ = _
      rw [q_forC]
      simp only [et2, t2]
      cases hrb : rowB R W T b with
      | false => rfl
      | true => rfl
  unfold bd9 at el2
  rw [el2]
  unfold shB
  cases hra : rowB R W T a with
  | false => rfl
  | true =>
  cases hrb : rowB R W T b with
  | false => rfl
  | true =>
  rw [if_pos (by rfl), RS.then_nx]
  have e6 := lc_int (i := iSeq (eTup (aCons (eFld [0] 0 (eVar 0)) (aCons (eFld [0] 1 (eVar 0)) aNil)))) (t := gNm 5) (vs := [5]) (c := tYesP) (e := eLen (callF TT (n + 4)) [] (eLc (iSeq (eVar 5)) (gNm 7) [7] (tBl (eBin oGe (eVar 7) (eVar 4))) (eVar 7))) (env := env9 R W T v a b (some (.tup (b.map .int))) none none) (S := S) [a, b] (fun r => PV.tup (r.map .int)) (fun r => (cnt v r : Int)) (fun _ => true)
    (fun r => env9 R W T v a b (some (.tup (r.map .int))) none none) (seq2 (cf := callF TT (n + 4)) S _ _ _) (by simp) (fun r _ => rfl) (fun r _ => rfl) (fun r hr _ => ⟨false, reachE (i := 5) (j := 7) (u := .non) (x := .non) S r v (fun y => env9 R W T v a b (some (.tup (r.map .int))) none (some (.int y))) (by
      rcases List.mem_cons.mp hr with e | hr
      · rw [e]; exact la
      · rw [List.mem_singleton.mp hr]; exact lb) (seq_val _ _ S false _ rfl) (fun y => rfl) (fun y => rfl) (fun y => rfl)⟩)
  have e7 : (([a, b].filter fun _ => true).map fun r => (cnt v r : Int)) = [(cnt v a : Int), (cnt v b : Int)] := rfl
  rw [e7] at e6
  rw [q_scons, sasg_val e6, RS.then_nx]
  rw [show (env9 R W T v a b (some (.tup (b.map .int))) none none).set 6 (some (.lst ([(cnt v a : Int), (cnt v b : Int)].map .int))) = env9 R W T v a b (some (.tup (b.map .int))) (some (.lst ([(cnt v a : Int), (cnt v b : Int)].map .int))) none from rfl]
  have c2 := call4 (a := eVar 1) (a2 := eVar 2) (a3 := eVar 3) (a4 := eVar 4) (b := false) (b2 := false) (b3 := false) (b4 := false) (env := env9 R W T v a b (some (.tup (b.map .int))) (some (.lst ([(cnt v a : Int), (cnt v b : Int)].map .int))) none) rfl rfl rfl rfl (endsV (n + 3) S h h1 h2)
  have c3 := arg1_val (a := eVar 6) (k := false) (env := env9 R W T v a b (some (.tup (b.map .int))) (some (.lst ([(cnt v a : Int), (cnt v b : Int)].map .int))) none) rfl (tuple_lst [(cnt v a : Int), (cnt v b : Int)] S)
  rw [sret_val (eq_flat c3 c2 rfl (oEq_tup [(cnt v a : Int), (cnt v b : Int)] [lowE R W T v, highE R T v] S))]
  rfl
/-! _law_shows -/
abbrev env20 (R : Nat) (W T lo hi v : Int) (p : PV) (x6 x7 : Option PV) : Env := [some (.int R), some (.int W), some (.int T), some p, some (.tup [.int lo, .int hi]), some (.int v), x6, x7]
def bd20 (cf : CF) : SS := sIf (tOr (tBl (eNe cf TB TY (eLen cf [] (eVar 6)) (eVar 0))) (tOr (tNo (tTru (eArg bAll (aCons (eLc (iSeq (eVar 6)) (gNm 7) [7] tYesP (eCh oLe oLt (eLit (.int 0)) (eVar 7) (eVar 1))) aNil)))) (tBl (eNe cf TB TY (eArg bSum (aCons (eVar 6) aNil)) (eVar 2))))) (sRet (eLit (.bl false))) sNil
theorem turn20 {R : Nat} {W T lo hi v : Int} {p : PV} {r : List Int} (c : Bool) (hl : r.length ≤ 100000) (x7 : Option PV) : bd20 (callF TT n) (env20 R W T lo hi v p (some (sq c r)) x7) S = if rowB R W T r = true then .nx (env20 R W T lo hi v p (some (sq c r)) x7) S else .rt (.bl false) S := by
  refine three ?_ ?_ ?_
  · rw [show decide (r.length = R) = decide ((r.length : Int) = (R : Int)) from decide_eq_decide.mpr (by omega)]
    refine tbl_val (k := false) (ne_flat (k := false) (k' := false) (v := .int r.length) (w := .int R) (lenQ (b := c) (c := r) (k := false) rfl) rfl rfl ?_)
    exact oNe_int' _ _ _
  · refine ttru_bl (k := false) ?_
    have e := all_lc (i := iSeq (eVar 6)) (t := gNm 7) (vs := [7]) (e := eCh oLe oLt (eLit (.int 0)) (eVar 7) (eVar 1)) (env := env20 R W T lo hi v p (some (sq c r)) x7) (S := S) r PV.int (fun x => decide (0 ≤ x) && decide (x < W)) (fun x => env20 R W T lo hi v p (some (sq c r)) (some (.int x))) (seqQ _ _ S false c r rfl) hl (fun x _ => rfl) (fun x _ => ⟨false, ch_val (a := eLit (.int 0)) (b := eVar 7) (c := eVar 1) (k1 := false) (k2 := false) (k3 := false) (u := .int 0) (v := .int x) (w := .int W) rfl rfl rfl rfl rfl⟩)
    rw [e]
    congr 4
    funext x
    rw [← Bool.decide_and, decide_eq_decide]
    omega
  · refine tbl_val (k := false) (ne_flat (k := false) (k' := false) (v := .int r.sum) (w := .int T) (arg1_val (a := eVar 6) (k := false) (v := sq c r) rfl (sumQ c r S)) rfl rfl ?_)
    exact oNe_int' _ _ _
theorem lshowsV {R : Nat} {W T lo hi v : Int} {a b : List Int} (t ca cb : Bool) (la : a.length ≤ 1000) (lb : b.length ≤ 1000) :
    callV (callF TT (n + 2)) 20 [.int R, .int W, .int T, bif t then .tup [sq ca a, sq cb b] else .lst [sq ca a, sq cb b], .tup [.int lo, .int hi], .int v] S = .ok (false, .bl (shB R W T v lo hi a b)) S := by
  refine callV_same ?_ rfl
  generalize hp : (bif t then PV.tup [sq ca a, sq cb b] else .lst [sq ca a, sq cb b]) = p
  rw [call_at (b := b20) (env20 R W T lo hi v p none none) rfl rfl rfl]
  unfold b20
  dsimp only
  have es : ∀ x6 x7, iSeq (eVar 3) (env20 R W T lo hi v p x6 x7) S = .ok ([sq ca a, sq cb b], []) S := fun x6 x7 => by
    cases t
    · subst hp; exact seq_valL _ _ S false _ rfl
    · subst hp; exact seq_val _ _ S false _ rfl
  rw [q_scons, q_sfor, es, PX.R.go_ok]
  simp only [q_unl0]
  have t1 := turn20 (n + 1) S (R := R) (W := W) (T := T) (lo := lo) (hi := hi) (v := v) (p := p) (r := a) ca (by omega) none
  have t2 := turn20 (n + 1) S (R := R) (W := W) (T := T) (lo := lo) (hi := hi) (v := v) (p := p) (r := b) cb (by omega) none
  have el2 : forR (gNm 6) (bd20 (callF TT (n + 1))) [sq ca a, sq cb b] (env20 R W T lo hi v p none none) S = if (rowB R W T a && rowB R W T b) = true then .nx (env20 R W T lo hi v p (some (sq cb b)) none) S else .rt (.bl false) S := by
    rw [q_forC]
    have et1 : gNm 6 (sq ca a) (env20 R W T lo hi v p none none) S = some (env20 R W T lo hi v p (some (sq ca a)) none) := rfl
    have et2 : gNm 6 (sq cb b) (env20 R W T lo hi v p (some (sq ca a)) none) S = some (env20 R W T lo hi v p (some (sq cb b)) none) := rfl
    simp only [et1, t1]
    cases hra : rowB R W T a with
    | false => rfl
    | true =>
      rw [if_pos rfl]
      show forR _ _ _ _ _ = _
      rw [q_forC]
      simp only [et2, t2]
      cases hrb : rowB R W T b with
      | false => rfl
      | true => rfl
  unfold bd20 at el2
  rw [el2]
  unfold shB
  cases hra : rowB R W T a with
  | false => rfl
  | true =>
  cases hrb : rowB R W T b with
  | false => rfl
  | true =>
  rw [if_pos (by rfl), RS.then_nx]
  have xi : itemsOf S p = some [sq ca a, sq cb b] := by
    cases t <;> subst hp <;> rfl
  have xo : ownOf [] S p = none := by
    cases t <;> subst hp <;> rfl
  have xd : ∀ y, dIx p y S = none := fun y => by
    cases t <;> subst hp <;> rfl
  have x0 : eIx (callF TT (n + 1)) [] (eVar 3) (eLit (.int 0)) (env20 R W T lo hi v p (some (sq cb b)) none) S = .ok (false, sq ca a) S := ix_val (k := false) (k' := false) (v := p) (w := .int 0) rfl rfl xo (xd _) (oIx_at (i := 0) xi rfl)
  have x1 : eIx (callF TT (n + 1)) [] (eVar 3) (eLit (.int 1)) (env20 R W T lo hi v p (some (sq cb b)) none) S = .ok (false, sq cb b) S := ix_val (k := false) (k' := false) (v := p) (w := .int 1) rfl rfl xo (xd _) (oIx_at (i := 1) xi rfl)
  have r0 := call2 (a2 := eVar 5) (b2 := false) (v2 := .int v) x0 rfl (reachV n S ca a v la)
  have r1 := call2 (a2 := eVar 5) (b2 := false) (v2 := .int v) x1 rfl (reachV n S cb b v lb)
  rw [sret_val (eq_flat (tup2_val r0 r1) (b := eVar 4) (k' := false) (w := .tup [.int lo, .int hi]) rfl rfl (oEq_tup [(cnt v a : Int), (cnt v b : Int)] [lo, hi] S))]
  rfl
end
end PX.K62
set_option linter.all false
set_option maxRecDepth 100000
set_option maxHeartbeats 1000000
namespace PX.K62
open PySem PX K62M
abbrev tupI (c : List Int) : PV := .tup (c.map .int)
abbrev tups (l : List (List Int)) : PV := .lst (l.map tupI)
section
variable (n : Nat) (S : Store) (R : Nat) (W T : Int)
abbrev env18 (R : Nat) (W T : Int) (l : List (List Int)) (x4 x5 x6 x7 x8 : Option PV) : Env := [some (.int R), some (.int W), some (.int T), some (tups l), x4, x5, x6, x7, x8]
def bdI (cf : CF) : SS := sCons (sAsg (gNm 7) (eIf (tBl (eNe cf TB TY (eVar 6) (eTup aNil))) (eIx cf [] (eVar 6) (eUn oNeg (eLit (.int 1)))) (eLit (.int 0)))) (sAsg (gNm 5) (eBin oCat (eVar 5) (eLc (iRg2 (eVar 7) (eVar 1)) (gNm 8) [8] (tBl (eBin oLe (eBin oCat (eArg bSum (aCons (eVar 6) aNil)) (eVar 8)) (eVar 2))) (eBin oCat (eVar 6) (eTup (aCons (eVar 8) aNil))))))
theorem rng_rngL (a b : Int) : rngL a (b - a).toNat = (rng a b).map .int := by
  rw [rngL_map]
  unfold rng
  rw [List.map_map]
  rfl
theorem turnI (cf : CF) (l acc : List (List Int)) (c : List Int) (x4 x7 : Option PV) (h0 : 0 ≤ lst c) (h1 : lst c < 1000000) (hc : c.length ≤ 1000) (hW0 : 0 ≤ W) (hW : W ≤ 1000) (ha : acc.length + (more W T c).length ≤ 1000000) :
    bdI cf (env18 R W T l x4 (some (tups acc)) (some (tupI c)) x7 none) S = .nx (env18 R W T l x4 (some (tups (acc ++ more W T c))) (some (tupI c)) (some (.int (lst c))) none) S := by
  have e1 : eIf (tBl (eNe cf TB TY (eVar 6) (eTup aNil))) (eIx cf [] (eVar 6) (eUn oNeg (eLit (.int 1)))) (eLit (.int 0)) (env18 R W T l x4 (some (tups acc)) (some (tupI c)) x7 none) S = .ok (false, .int (lst c)) S := by
    rw [eif_val (tbl_val (k := false) (ne_flat (k := false) (k' := false) (v := tupI c) (w := .tup []) rfl rfl rfl (oNe_tup c [] S)))]
    by_cases hn : c = []
    · subst hn
      rfl
    · rw [if_pos (by simp [hn])]
      obtain ⟨d, v, rfl⟩ : ∃ d v, c = d ++ [v] := ⟨_, _, (List.dropLast_concat_getLast hn).symm⟩
      have el : lst (d ++ [v]) = v := by
        unfold lst
        rw [List.getLast?_append]
        rfl
      rw [el]
      refine ix_val (k := false) (k' := false) (v := tupI (d ++ [v])) (w := .int (-1)) rfl rfl rfl rfl (ix_end (xs := d.map .int) ?_)
      show some ((d ++ [v]).map PV.int) = _
      rw [List.map_append]
      rfl
  have e2 := lc_val (i := iRg2 (eVar 7) (eVar 1)) (t := gNm 8) (vs := [8]) (c := tBl (eBin oLe (eBin oCat (eArg bSum (aCons (eVar 6) aNil)) (eVar 8)) (eVar 2))) (e := eBin oCat (eVar 6) (eTup (aCons (eVar 8) aNil))) (env := env18 R W T l x4 (some (tups acc)) (some (tupI c)) (some (.int (lst c))) none) (S := S)
    (rng (lst c) W) PV.int (fun v => tupI (c ++ [v])) (fun v => decide (c.sum + v ≤ T)) (fun v => env18 R W T l x4 (some (tups acc)) (some (tupI c)) (some (.int (lst c))) (some (.int v)))
    (by rw [rg2_val (a := eVar 7) (b := eVar 1) (k := false) (k' := false) (i := lst c) (j := W) rfl rfl h0 h1 hW0 (by omega), rng_rngL]) (by rw [rng_len]; omega) (fun v _ => rfl)
    (fun v _ => tbl_val (k := false) (bin_val (bin_val (arg1_val (a := eVar 6) (k := false) (v := tupI c) rfl (bSum_tup c S)) (b := eVar 8) (k' := false) (w := .int v) rfl (cat_int _ _ S)) (b := eVar 2) (k' := false) (w := .int T) rfl rfl))
    (fun v _ _ => ⟨_, bin_val (a := eVar 6) (b := eTup (aCons (eVar 8) aNil)) (k := false) (k' := false) (v := tupI c) (w := .tup ([v].map .int)) rfl rfl (cat_tup c [v] S (by simp only [List.length_singleton]; omega))⟩)
  have e3 : ((rng (lst c) W).filter fun v => decide (c.sum + v ≤ T)).map (fun v => tupI (c ++ [v])) = (more W T c).map tupI := by
    unfold more
    rw [List.map_map]
    rfl
  rw [e3] at e2
  unfold bdI
  rw [q_scons, sasg_val e1, RS.then_nx]
  rw [show (env18 R W T l x4 (some (tups acc)) (some (tupI c)) x7 none).set 7 (some (.int (lst c))) = env18 R W T l x4 (some (tups acc)) (some (tupI c)) (some (.int (lst c))) none from rfl]
  rw [sasg_val (bin_val (a := eVar 5) (k := false) (v := tups acc) rfl e2 (cat_lst _ _ S (by rw [List.length_map, List.length_map]; exact ha))), ← List.map_append]
  rfl
theorem loopI (cf : CF) (l : List (List Int)) (x4 : Option PV) (hW0 : 0 ≤ W) (hW : W ≤ 1000) : ∀ (m acc : List (List Int)) (x6 x7 : Option PV), (∀ c ∈ m, 0 ≤ lst c ∧ lst c < 1000000 ∧ c.length ≤ 1000) → acc.length + (m.flatMap (more W T)).length ≤ 1000000 →
    ∃ y6 y7, forR (gNm 6) (bdI cf) (m.map tupI) (env18 R W T l x4 (some (tups acc)) x6 x7 none) S = .nx (env18 R W T l x4 (some (tups (acc ++ m.flatMap (more W T)))) y6 y7 none) S
  | [], acc, x6, x7, _, _ => ⟨x6, x7, by rw [List.flatMap_nil, List.append_nil]; rfl⟩
  | c :: m, acc, x6, x7, h, ha => by
    rw [List.flatMap_cons, List.length_append] at ha
    obtain ⟨g1, g2, g3⟩ := h c List.mem_cons_self
    obtain ⟨y6, y7, ih⟩ := loopI cf l x4 hW0 hW m (acc ++ more W T c) (some (tupI c)) (some (.int (lst c))) (fun d hd => h d (List.mem_cons_of_mem _ hd)) (by rw [List.length_append]; omega)
    refine ⟨y6, y7, ?_⟩
    have et : gNm 6 (tupI c) (env18 R W T l x4 (some (tups acc)) x6 x7 none) S = some (env18 R W T l x4 (some (tups acc)) (some (tupI c)) x7 none) := rfl
    rw [List.map_cons, q_forC]
    simp only [et, turnI S R W T cf l acc c x4 x7 g1 g2 g3 hW0 hW (by omega)]
    rw [List.flatMap_cons, ← List.append_assoc]
    exact ih
def bdO (cf : CF) : SS := sCons (sAsg (gNm 5) (eLst aNil)) (sCons (sFor (iSeq (eVar 3)) (gNm 6) (bdI cf)) (sAsg (gNm 3) (eVar 5)))
theorem turnO (cf : CF) (l : List (List Int)) (x4 x5 x6 x7 : Option PV) (hW0 : 0 ≤ W) (hW : W ≤ 1000) (h : ∀ c ∈ l, 0 ≤ lst c ∧ lst c < 1000000 ∧ c.length ≤ 1000) (ha : (l.flatMap (more W T)).length ≤ 1000000) :
    ∃ y5 y6 y7, bdO cf (env18 R W T l x4 x5 x6 x7 none) S = .nx (env18 R W T (l.flatMap (more W T)) x4 y5 y6 y7 none) S := by
  obtain ⟨y6, y7, e⟩ := loopI S R W T cf l x4 hW0 hW l [] x6 x7 h (by rw [List.length_nil]; omega)
  rw [List.nil_append] at e
  refine ⟨some (tups (l.flatMap (more W T))), y6, y7, ?_⟩
  unfold bdO
  have h0 : sAsg (gNm 5) (eLst aNil) (env18 R W T l x4 x5 x6 x7 none) S = .nx (env18 R W T l x4 (some (tups [])) x6 x7 none) S := rfl
  rw [q_scons, h0, RS.then_nx, q_scons, q_sfor, seq_valL (eVar 3) (env18 R W T l x4 (some (tups [])) x6 x7 none) S false (l.map tupI) rfl, PX.R.go_ok]
  simp only [q_unl0]
  rw [e, RS.then_nx, sasg_val (k := false) (v := tups (l.flatMap (more W T))) rfl]
  rfl
theorem loopO (cf : CF) (hT : 0 ≤ T) (hW0 : 0 ≤ W) (hW : W ≤ 5) : ∀ (j k : Nat) (lo : Int) (x4 x5 x6 x7 : Option PV), k + j ≤ 6 →
    ∃ y4 y5 y6 y7, forR (gNm 4) (bdO cf) (rngL lo j) (env18 R W T (grow W T k) x4 x5 x6 x7 none) S = .nx (env18 R W T (grow W T (k + j)) y4 y5 y6 y7 none) S
  | 0, k, lo, x4, x5, x6, x7, _ => ⟨x4, x5, x6, x7, rfl⟩
  | j + 1, k, lo, x4, x5, x6, x7, hk => by
    have hg : ∀ c ∈ grow W T k, 0 ≤ lst c ∧ lst c < 1000000 ∧ c.length ≤ 1000 := fun c hc => by
      obtain ⟨h1, _, h3, _⟩ := (mem_grow hT k c).mp hc
      refine ⟨?_, ?_, by omega⟩
      all_goals
        unfold lst
        cases e : c.getLast? with
        | none => simp
        | some x =>
          have := h3 x (List.mem_of_getLast? e)
          simp only [Option.getD_some]
          omega
    have hl := grow_le (T := T) (n := k + 1) hW0 hW (by omega)
    obtain ⟨z5, z6, z7, e⟩ := turnO S R W T cf (grow W T k) (some (.int lo)) x5 x6 x7 hW0 (by omega) hg (by show (grow W T (k + 1)).length ≤ _; omega)
    obtain ⟨y4, y5, y6, y7, ih⟩ := loopO cf hT hW0 hW j (k + 1) (lo + 1) (some (.int lo)) z5 z6 z7 (by omega)
    refine ⟨y4, y5, y6, y7, ?_⟩
    have et : gNm 4 (.int lo) (env18 R W T (grow W T k) x4 x5 x6 x7 none) S = some (env18 R W T (grow W T k) (some (.int lo)) x5 x6 x7 none) := rfl
    rw [show rngL lo (j + 1) = .int lo :: rngL (lo + 1) j from rfl, q_forC]
    simp only [et, e]
    rw [show k + (j + 1) = k + 1 + j by omega]
    exact ih
theorem linesV (hT : 0 ≤ T) (hW0 : 0 ≤ W) (hW : W ≤ 5) (hR : R ≤ 6) : callV (callF TT (n + 1)) 18 [.int R, .int W, .int T] S = .ok (false, tups (lines W T R)) S := by
  refine callV_same ?_ rfl
  rw [call_at (b := b18) [some (.int R), some (.int W), some (.int T), none, none, none, none, none, none] rfl rfl rfl]
  unfold b18
  dsimp only
  have h0 : sAsg (gNm 3) (eLst (aCons (eTup aNil) aNil)) [some (.int R), some (.int W), some (.int T), none, none, none, none, none, none] S = .nx (env18 R W T (grow W T 0) none none none none none) S := rfl
  obtain ⟨y4, y5, y6, y7, e⟩ := loopO S R W T (callF TT n) hT hW0 hW R 0 0 none none none none (by omega)
  rw [Nat.zero_add] at e
  unfold bdO bdI at e
  rw [q_scons, h0, RS.then_nx, q_scons, q_sfor, rg1_n (a := eVar 0) (k := false) (j := R) rfl (by omega) (by omega), PX.R.go_ok]
  simp only [q_unl0, Int.toNat_natCast]
  rw [e, RS.then_nx]
  have e2 := lc_val (i := iSeq (eVar 3)) (t := gNm 6) (vs := [6]) (c := tBl (eEq (callF TT n) TB TY (eArg bSum (aCons (eVar 6) aNil)) (eVar 2))) (e := eVar 6) (env := env18 R W T (grow W T R) y4 y5 y6 y7 none) (S := S)
    (grow W T R) tupI tupI (fun c => decide (c.sum = T)) (fun c => env18 R W T (grow W T R) y4 y5 (some (tupI c)) y7 none) (seq_valL _ _ S false _ rfl) (by have := grow_le (T := T) (n := R) hW0 hW hR; omega) (fun c _ => rfl)
    (fun c _ => tbl_val (k := false) (eq_flat (arg1_val (a := eVar 6) (k := false) (v := tupI c) rfl (bSum_tup c S)) (b := eVar 2) (k' := false) (w := .int T) rfl rfl (oEq_int' _ _ S))) (fun c _ _ => ⟨false, rfl⟩)
  rw [sret_val e2]
  rfl
end
end PX.K62
set_option linter.all false
set_option maxRecDepth 100000
set_option maxHeartbeats 2000000
namespace PX
open PySem
theorem args2_st {a b : SE} {env : Env} {S S1 S2 : Store} {k k' : Bool} {v w : PV} (ha : a env S = .ok (k, v) S1) (hb : b env S1 = .ok (k', w) S2) : aCons a (aCons b aNil) env S = .ok [v, w] S2 := by
  rw [q_cons, ha, R.bind_ok, q_cons, hb, R.bind_ok, q_nil, R.bind_ok, R.bind_ok]
theorem acons {a : SE} {r : SA} {env : Env} {S : Store} {k : Bool} {v : PV} {vs : List PV} (ha : a env S = .ok (k, v) S) (hr : r env S = .ok vs S) : aCons a r env S = .ok (v :: vs) S := by
  rw [q_cons, ha, R.bind_ok, hr, R.bind_ok]
theorem lst_val {a : SA} {env : Env} {S : Store} {vs : List PV} (ha : a env S = .ok vs S) (h : vs.length ≤ 1000000) : eLst a env S = .ok (true, .lst vs) S := by
  show ((a env S).bind fun p S1 => if small p.length then R.ok (true, PV.lst p) S1 else .no) = _
  rw [ha, R.bind_ok, if_pos (small_nat h)]
theorem oNe_bl (a b : Bool) (S : Store) : oNe (.bl a) (.bl b) S = some (false, .bl (!decide (a = b))) := by
  unfold oNe
  rw [eqD_bl]
  rfl
theorem call6 {cf : CF} {f : Nat} {a a2 a3 a4 a5 a6 : SE} {env : Env} {S : Store} {b b2 b3 b4 b5 b6 : Bool} {v v2 v3 v4 v5 v6 w : PV} (ha : a env S = .ok (b, v) S) (ha2 : a2 env S = .ok (b2, v2) S) (ha3 : a3 env S = .ok (b3, v3) S) (ha4 : a4 env S = .ok (b4, v4) S) (ha5 : a5 env S = .ok (b5, v5) S) (ha6 : a6 env S = .ok (b6, v6) S) (h : callV cf f [v, v2, v3, v4, v5, v6] S = .ok (false, w) S) :
    eCall cf 6 f (aCons a (aCons a2 (aCons a3 (aCons a4 (aCons a5 (aCons a6 aNil)))))) env S = .ok (false, w) S := by
  rw [q_call, acons ha (acons ha2 (acons ha3 (acons ha4 (acons ha5 (acons ha6 rfl))))), R.bind_ok, if_pos (by rfl), h]
theorem slT (xs : List Int) (l u : Option Int) (S : Store) : slP l u (.tup (xs.map .int)) S = some (false, .tup (((xs.drop (sIxP xs.length 0 l)).take (sIxP xs.length xs.length u - sIxP xs.length 0 l)).map .int)) := by
  show some (false, PV.tup (cutP (xs.map .int) l u)) = _
  rw [cutP_map]
theorem repT_one (x : Int) (k : Nat) (h0 : 1 ≤ k) (h : k ≤ 900) (S : Store) : oRepT (.tup [.int x]) (.int k) S = some (false, .tup ((List.replicate k x).map .int)) := by
  have e : oRepT (.tup [.int x]) (.int k) S = if decide (1 ≤ (k : Int) ∧ (k : Int) ≤ 1000) && Nat.ble 0 900 then some (false, .tup (List.replicate (k : Int).toNat [PV.int x]).flatten) else none := rfl
  rw [e, decide_eq_true ⟨by omega, by omega⟩, show Nat.ble 0 900 = true from rfl]
  rw [if_pos (by rfl), Int.toNat_natCast, List.map_replicate]
  congr 3
  clear e h0 h
  induction k with
  | zero => rfl
  | succ k ih => rw [List.replicate_succ, List.flatten_cons, ih, List.replicate_succ]; rfl
theorem rev_tup {a : SE} {env : Env} {S : Store} {k : Bool} {c : List Int} (ha : a env S = .ok (k, .tup (c.map .int)) S) : eRev2 a env S = .ok (false, .tup (c.reverse.map .int)) S := by
  show ((a env S).bind fun p S1 => match deref S1 p.2 with
    | some (.lst xs) => R.ok (true, PV.lst xs.reverse) S1
    | some (.tup xs) => R.ok (false, PV.tup xs.reverse) S1
    | _ => .no) = _
  rw [ha, R.bind_ok, List.map_reverse]
  rfl
theorem rev_lst {a : SE} {env : Env} {S : Store} {k : Bool} {c : List Int} (ha : a env S = .ok (k, .lst (c.map .int)) S) : eRev2 a env S = .ok (true, .lst (c.reverse.map .int)) S := by
  show ((a env S).bind fun p S1 => match deref S1 p.2 with
    | some (.lst xs) => R.ok (true, PV.lst xs.reverse) S1
    | some (.tup xs) => R.ok (false, PV.tup xs.reverse) S1
    | _ => .no) = _
  rw [ha, R.bind_ok, List.map_reverse]
  rfl
end PX
namespace PX.K62
open PySem PX K62M
/-- one comparison of shows with _law_shows, of two sequences in slot i -/
theorem same_shows (n : Nat) (S : Store) {R : Nat} {W T v : Int} {a b : List Int} (t ca cb : Bool) (i r w s l q : SE) {env : Env} (h : ask R W T) (h1 : 1 ≤ v) (h2 : v ≤ W - 1) (la : a.length ≤ 1000) (lb : b.length ≤ 1000)
    (hi : i env S = .ok (false, bif t then .tup [sq ca a, sq cb b] else .lst [sq ca a, sq cb b]) S) (hr : r env S = .ok (false, .int R) S) (hw : w env S = .ok (false, .int W) S) (hs : s env S = .ok (false, .int T) S) (hl : l env S = .ok (false, .int v) S) {kq : Bool} (hq : q env S = .ok (kq, .tup [.int (lowE R W T v), .int (highE R T v)]) S) :
    sIf (tBl (eNe (callF TT (n + 5)) TB TY (eMeth (callF TT (n + 5)) 5 2 [(0, 9)] (eMake (callF TT (n + 5)) 3 0 7 (aCons (eIx (callF TT (n + 5)) [] i (eLit (.int 0))) (aCons (eIx (callF TT (n + 5)) [] i (eLit (.int 1))) aNil))) (aCons r (aCons w (aCons s (aCons l aNil))))) (eCall (callF TT (n + 5)) 6 20 (aCons r (aCons w (aCons s (aCons i (aCons q (aCons l aNil))))))))) (sRet (eLit (.bl false))) sNil env S = .nx env S := by
  generalize hp : (bif t then PV.tup [sq ca a, sq cb b] else .lst [sq ca a, sq cb b]) = p at hi
  have xi : itemsOf S p = some [sq ca a, sq cb b] := by
    cases t <;> subst hp <;> rfl
  have xo : ownOf [] S p = none := by
    cases t <;> subst hp <;> rfl
  have xd : ∀ y, dIx p y S = none := fun y => by
    cases t <;> subst hp <;> rfl
  have x0 : eIx (callF TT (n + 5)) [] i (eLit (.int 0)) env S = .ok (false, sq ca a) S := ix_val (k' := false) (w := .int 0) hi rfl xo (xd _) (oIx_at (i := 0) xi rfl)
  have x1 : eIx (callF TT (n + 5)) [] i (eLit (.int 1)) env S = .ok (false, sq cb b) S := ix_val (k' := false) (w := .int 1) hi rfl xo (xd _) (oIx_at (i := 1) xi rfl)
  have ht : ∀ (c : Bool) (ns : List Int) (S : Store), bTuple [sq c ns] S = some (false, .tup (ns.map .int)) := fun c ns S => by cases c <;> rfl
  have ei : callF TT (n + 5) 7 [.ref S.length, sq ca a, sq cb b] S.length (S ++ [.ins 0 [] []]) = .ok .non (S ++ [ends a b]) := by
    rw [call_at (b := b7) [some (.ref S.length), some (sq ca a), some (sq cb b)] rfl rfl rfl]
    unfold b7
    dsimp only
    rw [q_scons, fld_last (n0 := S.length) (k := false) (w := .tup (a.map .int)) (k' := false) rfl (arg1_val (a := eVar 1) (k := false) (v := sq ca a) rfl (ht ca a _)) rfl rfl rfl, RS.then_nx]
    rw [fld_last (n0 := S.length) (k := false) (w := .tup (b.map .int)) (k' := false) rfl (arg1_val (a := eVar 2) (k := false) (v := sq cb b) rfl (ht cb b _)) rfl rfl rfl]
    rfl
  have em : eMake (callF TT (n + 5)) 3 0 7 (aCons (eIx (callF TT (n + 5)) [] i (eLit (.int 0))) (aCons (eIx (callF TT (n + 5)) [] i (eLit (.int 1))) aNil)) env S = .ok (true, ends a b) S := by
    unfold eMake
    rw [q_cons, x0, PX.R.bind_ok, q_cons, x1, PX.R.bind_ok, q_nil, PX.R.bind_ok, PX.R.bind_ok, PX.R.bind_ok, if_pos (by rfl), ei]
    show norm S.length (.ref S.length) (S ++ [ends a b]) = _
    exact norm_ins S 0 [0, 1] [a, b]
  have e1 : eMeth (callF TT (n + 5)) 5 2 [(0, 9)] (eMake (callF TT (n + 5)) 3 0 7 (aCons (eIx (callF TT (n + 5)) [] i (eLit (.int 0))) (aCons (eIx (callF TT (n + 5)) [] i (eLit (.int 1))) aNil))) (aCons r (aCons w (aCons s (aCons l aNil)))) env S = .ok (false, .bl (shB R W T v (lowE R W T v) (highE R T v) a b)) S :=
    methN (vs := [.int R, .int W, .int T, .int v]) em (show methOf 2 [(0, 9)] S (ends a b) = some 9 from rfl) (acons hr (acons hw (acons hs (acons hl rfl)))) rfl (showsV n S h h1 h2 la lb)
  have lv := lshowsV (n + 3) S (R := R) (W := W) (T := T) (lo := lowE R W T v) (hi := highE R T v) (v := v) (a := a) (b := b) t ca cb la lb
  rw [hp] at lv
  have e2 := call6 hr hw hs hi hq hl lv
  rw [sif_val (tbl_val (k := false) (ne_flat e1 e2 rfl (oNe_bl _ _ S))), decide_eq_true rfl]
  rfl
end PX.K62
set_option linter.all false
set_option maxRecDepth 100000
set_option maxHeartbeats 2000000
namespace PX.K62
open PySem PX K62M
abbrev pairV (p : List Int × List Int) : PV := .tup [tupI p.1, tupI p.2]
section
variable (n : Nat) (S : Store) {R : Nat} {W T v : Int}
abbrev envG (R : Nat) (W T v : Int) (x5 x6 x7 x8 x9 x10 x11 x12 x13 x14 x15 x16 : Option PV) : Env := [some (.ref 0), some (.int R), some (.int W), some (.int T), some (.int v), x5, x6, x7, x8, x9, x10, x11, x12, x13, x14, x15, x16]
def bdE (cf : CF) : SS := sCons (sAsg (gNm 11) (eAn (eCh oLe oLe (eLit (.int 0)) (eVar 9) (eVar 1)) (eCh oLe oLe (eBin oRep (eVar 9) (eVar 4)) (eVar 3) (eBin oCat (eBin oRep (eVar 9) (eBin oSub (eVar 2) (eLit (.int 1)))) (eBin oRep (eBin oSub (eVar 1) (eVar 9)) (eBin oSub (eVar 4) (eLit (.int 1)))))))) (sIf (tBl (eNe cf TB TY (eVar 11) (eVar 10))) (sRet (eLit (.bl false))) sNil)
theorem turnE (cf : CF) (x5 x6 x7 x8 x11 x12 x13 x14 x15 x16 : Option PV) (m : Int) (b : Bool) (h : ask R W T) (h1 : 1 ≤ v) (h2 : v ≤ W - 1) (hb : b = decide (lowE R W T v ≤ m ∧ m ≤ highE R T v)) :
    bdE cf (envG R W T v x5 x6 x7 x8 (some (.int m)) (some (.bl b)) x11 x12 x13 x14 x15 x16) S = .nx (envG R W T v x5 x6 x7 x8 (some (.int m)) (some (.bl b)) (some (.bl b)) x12 x13 x14 x15 x16) S := by
  obtain ⟨g1, g2, g3, g4, g5, g6⟩ := h
  generalize hE : envG R W T v x5 x6 x7 x8 (some (.int m)) (some (.bl b)) x11 x12 x13 x14 x15 x16 = env
  have v1 : eVar 1 env S = .ok (false, .int R) S := by subst hE; rfl
  have v2 : eVar 2 env S = .ok (false, .int W) S := by subst hE; rfl
  have v3 : eVar 3 env S = .ok (false, .int T) S := by subst hE; rfl
  have v4 : eVar 4 env S = .ok (false, .int v) S := by subst hE; rfl
  have v9 : eVar 9 env S = .ok (false, .int m) S := by subst hE; rfl
  have l1 : eLit (.int 1) env S = .ok (false, .int 1) S := rfl
  have a1 : eCh oLe oLe (eLit (.int 0)) (eVar 9) (eVar 1) env S = .ok (false, .bl (decide (0 ≤ m) && decide (m ≤ R))) S := ch_val (a := eLit (.int 0)) (k1 := false) (u := .int 0) rfl v9 v1 rfl rfl
  have a2 := bin_val v9 v4 (rep_r m v S (by omega) (by omega))
  have a3 := bin_val v9 (bin_val v2 l1 (sub_int W 1 S)) (rep_r m (W - 1) S (by omega) (by omega))
  have a4 := bin_val (bin_val v1 v9 (sub_int R m S)) (bin_val v4 l1 (sub_int v 1 S)) (rep_r ((R : Int) - m) (v - 1) S (by omega) (by omega))
  have a5 : eCh oLe oLe (eBin oRep (eVar 9) (eVar 4)) (eVar 3) (eBin oCat (eBin oRep (eVar 9) (eBin oSub (eVar 2) (eLit (.int 1)))) (eBin oRep (eBin oSub (eVar 1) (eVar 9)) (eBin oSub (eVar 4) (eLit (.int 1))))) env S = .ok (false, .bl (decide (m * v ≤ T) && decide (T ≤ m * (W - 1) + ((R : Int) - m) * (v - 1)))) S :=
    ch_val a2 v3 (bin_val a3 a4 (cat_int _ _ S)) rfl rfl
  obtain ⟨k, a6⟩ := ean_bl a1 (fun _ => ⟨_, a5⟩)
  have eb : ((decide (0 ≤ m) && decide (m ≤ (R : Int))) && (decide (m * v ≤ T) && decide (T ≤ m * (W - 1) + ((R : Int) - m) * (v - 1)))) = b := by
    rw [hb, ← Bool.decide_and, ← Bool.decide_and, ← Bool.decide_and, decide_eq_decide]
    have := ends_iff h1 h2 g5 g6 m
    unfold lowE highE
    rw [← this]
    constructor
    · rintro ⟨⟨p1, p2⟩, p3, p4⟩; exact ⟨p1, p2, p3, p4⟩
    · rintro ⟨p1, p2, p3, p4⟩; exact ⟨⟨p1, p2⟩, p3, p4⟩
  rw [eb] at a6
  unfold bdE
  rw [q_scons, sasg_val a6, RS.then_nx]
  subst hE
  rw [show (envG R W T v x5 x6 x7 x8 (some (.int m)) (some (.bl b)) x11 x12 x13 x14 x15 x16).set 11 (some (.bl b)) = envG R W T v x5 x6 x7 x8 (some (.int m)) (some (.bl b)) (some (.bl b)) x12 x13 x14 x15 x16 from rfl]
  rw [sif_val (tbl_val (k := false) (ne_flat (a := eVar 11) (b := eVar 10) (k := false) (k' := false) (v := .bl b) (w := .bl b) rfl rfl rfl (oNe_bl b b S))), decide_eq_true rfl]
  rfl
theorem loopE (cf : CF) (x5 x6 x7 x8 x12 x13 x14 x15 x16 : Option PV) (h : ask R W T) (h1 : 1 ≤ v) (h2 : v ≤ W - 1) : ∀ (l : List (Int × Bool)) (x9 x10 x11 : Option PV), (∀ p ∈ l, p.2 = decide (lowE R W T v ≤ p.1 ∧ p.1 ≤ highE R T v)) →
    ∃ y9 y10 y11, forR (gTp [gNm 9, gNm 10]) (bdE cf) (l.map fun p => PV.tup [.int p.1, .bl p.2]) (envG R W T v x5 x6 x7 x8 x9 x10 x11 x12 x13 x14 x15 x16) S = .nx (envG R W T v x5 x6 x7 x8 y9 y10 y11 x12 x13 x14 x15 x16) S
  | [], x9, x10, x11, _ => ⟨x9, x10, x11, rfl⟩
  | p :: l, x9, x10, x11, hl => by
    obtain ⟨y9, y10, y11, ih⟩ := loopE cf x5 x6 x7 x8 x12 x13 x14 x15 x16 h h1 h2 l (some (.int p.1)) (some (.bl p.2)) (some (.bl p.2)) (fun q hq => hl q (List.mem_cons_of_mem _ hq))
    refine ⟨y9, y10, y11, ?_⟩
    have et : gTp [gNm 9, gNm 10] (PV.tup [.int p.1, .bl p.2]) (envG R W T v x5 x6 x7 x8 x9 x10 x11 x12 x13 x14 x15 x16) S = some (envG R W T v x5 x6 x7 x8 (some (.int p.1)) (some (.bl p.2)) x11 x12 x13 x14 x15 x16) := rfl
    rw [List.map_cons, q_forC]
    simp only [et, turnE S cf x5 x6 x7 x8 x11 x12 x13 x14 x15 x16 p.1 p.2 h h1 h2 (hl p List.mem_cons_self)]
    exact ih
def bdP (cf : CF) : SS := sIf (tBl (eNe cf TB TY (eMeth cf 5 2 [(0, 9)] (eMake cf 3 0 7 (aCons (eIx cf [] (eVar 16) (eLit (.int 0))) (aCons (eIx cf [] (eVar 16) (eLit (.int 1))) aNil))) (aCons (eVar 1) (aCons (eVar 2) (aCons (eVar 3) (aCons (eVar 4) aNil))))) (eCall cf 6 20 (aCons (eVar 1) (aCons (eVar 2) (aCons (eVar 3) (aCons (eVar 16) (aCons (eVar 5) (aCons (eVar 4) aNil))))))))) (sRet (eLit (.bl false))) sNil
theorem loopP (x6 x7 x8 x9 x10 x11 x12 x13 x14 x15 : Option PV) (h : ask R W T) (h1 : 1 ≤ v) (h2 : v ≤ W - 1) : ∀ (l : List (List Int × List Int)) (x16 : Option PV), (∀ p ∈ l, p.1.length ≤ 1000 ∧ p.2.length ≤ 1000) →
    ∃ y16, forR (gNm 16) (bdP (callF TT (n + 5))) (l.map pairV) (envG R W T v (some (.tup [.int (lowE R W T v), .int (highE R T v)])) x6 x7 x8 x9 x10 x11 x12 x13 x14 x15 x16) S = .nx (envG R W T v (some (.tup [.int (lowE R W T v), .int (highE R T v)])) x6 x7 x8 x9 x10 x11 x12 x13 x14 x15 y16) S
  | [], x16, _ => ⟨x16, rfl⟩
  | p :: l, x16, hl => by
    obtain ⟨y16, ih⟩ := loopP x6 x7 x8 x9 x10 x11 x12 x13 x14 x15 h h1 h2 l (some (pairV p)) (fun q hq => hl q (List.mem_cons_of_mem _ hq))
    refine ⟨y16, ?_⟩
    obtain ⟨l1, l2⟩ := hl p List.mem_cons_self
    have et : gNm 16 (pairV p) (envG R W T v (some (.tup [.int (lowE R W T v), .int (highE R T v)])) x6 x7 x8 x9 x10 x11 x12 x13 x14 x15 x16) S = some (envG R W T v (some (.tup [.int (lowE R W T v), .int (highE R T v)])) x6 x7 x8 x9 x10 x11 x12 x13 x14 x15 (some (pairV p))) := rfl
    have e : bdP (callF TT (n + 5)) (envG R W T v (some (.tup [.int (lowE R W T v), .int (highE R T v)])) x6 x7 x8 x9 x10 x11 x12 x13 x14 x15 (some (pairV p))) S = .nx _ S :=
      same_shows n S (a := p.1) (b := p.2) true true true (eVar 16) (eVar 1) (eVar 2) (eVar 3) (eVar 4) (eVar 5) h h1 h2 l1 l2 rfl rfl rfl rfl rfl (kq := false) rfl
    rw [List.map_cons, q_forC]
    simp only [et, e]
    exact ih
end
end PX.K62
set_option linter.all false
set_option maxRecDepth 100000
set_option maxHeartbeats 2000000
namespace PX.K62
open PySem PX K62M
section
variable (n : Nat) (R0 : Store) (ns : List Int)
abbrev vE (R : Nat) (W T v : Int) : PV := .tup [.int (lowE R W T v), .int (highE R T v)]
/-- the tuple between the two rows -/
theorem mid14 (cf : CF) (S : Store) {R : Nat} {W T v : Int} (hR : 1 ≤ R) (hR2 : R ≤ 20) (b : List Int) (hb : b.length = R) (x5 x6 x7 x8 x9 x10 x11 x12 x14 x15 x16 : Option PV) : ∃ (m : List Int) (k : Bool), m.length ≤ 100 ∧
    eIf (tBl (eBin oGt (eVar 1) (eLit (.int 1)))) (eBin oCat (eBin oCat (eTup (aCons (eUn oNeg (eLit (.int 1))) aNil)) (eSl (eVar 13) (pSo (eLit (.int 1))) (pSo (eUn oNeg (eLit (.int 1)))))) (eTup (aCons (eBin oCat (eBin oCat (eIx cf [] (eVar 13) (eUn oNeg (eLit (.int 1)))) (eIx cf [] (eVar 13) (eLit (.int 0)))) (eLit (.int 1))) aNil))) (eTup (aCons (eVar 2) aNil))
      (envG R W T v x5 x6 x7 x8 x9 x10 x11 x12 (some (tupI b)) x14 x15 x16) S = .ok (k, tupI m) S := by
  have hc : tBl (eBin oGt (eVar 1) (eLit (.int 1))) (envG R W T v x5 x6 x7 x8 x9 x10 x11 x12 (some (tupI b)) x14 x15 x16) S = .ok (decide ((R : Int) > 1)) S := tbl_val (k := false) (bin_val (k := false) (k' := false) (v := .int R) (w := .int 1) rfl rfl rfl)
  by_cases h : (R : Int) > 1
  · obtain ⟨y, d, rfl⟩ : ∃ y d, b = y :: d := by
      cases b with
      | nil => simp at hb; omega
      | cons y d => exact ⟨y, d, rfl⟩
    have x0 : eIx cf [] (eVar 13) (eLit (.int 0)) (envG R W T v x5 x6 x7 x8 x9 x10 x11 x12 (some (tupI (y :: d))) x14 x15 x16) S = .ok (false, .int y) S := ix_val (k := false) (k' := false) (v := tupI (y :: d)) (w := .int 0) rfl rfl rfl rfl (ix_first rfl)
    obtain ⟨z, x1⟩ : ∃ z, eIx cf [] (eVar 13) (eUn oNeg (eLit (.int 1))) (envG R W T v x5 x6 x7 x8 x9 x10 x11 x12 (some (tupI (y :: d))) x14 x15 x16) S = .ok (false, .int z) S := by
      obtain ⟨d', z, e⟩ : ∃ d' z, y :: d = d' ++ [z] := ⟨_, _, (List.dropLast_concat_getLast (List.cons_ne_nil y d)).symm⟩
      refine ⟨z, ix_val (k := false) (k' := false) (v := tupI (y :: d)) (w := .int (-1)) rfl rfl rfl rfl (ix_end (xs := d'.map .int) ?_)⟩
      show some ((y :: d).map PV.int) = _
      rw [e, List.map_append]
      rfl
    have s1 := sl_val (a := eVar 13) (lo := pSo (eLit (.int 1))) (hi := pSo (eUn oNeg (eLit (.int 1)))) (env := envG R W T v x5 x6 x7 x8 x9 x10 x11 x12 (some (tupI (y :: d))) x14 x15 x16) (S := S) (k := false) (v := tupI (y :: d)) (l := some 1) (u := some (-1)) rfl rfl rfl (slT (y :: d) (some 1) (some (-1)) S)
    have hl : ((((y :: d).drop (sIxP (y :: d).length 0 (some 1))).take (sIxP (y :: d).length (y :: d).length (some (-1)) - sIxP (y :: d).length 0 (some 1)))).length ≤ 20 := by
      rw [List.length_take, List.length_drop]
      omega
    generalize (((y :: d).drop (sIxP (y :: d).length 0 (some 1))).take (sIxP (y :: d).length (y :: d).length (some (-1)) - sIxP (y :: d).length 0 (some 1))) = c at s1 hl
    have p1 := bin_val (a := eTup (aCons (eUn oNeg (eLit (.int 1))) aNil)) (k := false) (v := .tup ([-1].map .int)) rfl s1 (cat_tup [-1] c S (by simp only [List.length_singleton]; omega))
    have p2 := bin_val (bin_val x1 x0 (cat_int z y S)) (b := eLit (.int 1)) (k' := false) (w := .int 1) rfl (cat_int (z + y) 1 S)
    have p3 : eTup (aCons (eBin oCat (eBin oCat (eIx cf [] (eVar 13) (eUn oNeg (eLit (.int 1)))) (eIx cf [] (eVar 13) (eLit (.int 0)))) (eLit (.int 1))) aNil) (envG R W T v x5 x6 x7 x8 x9 x10 x11 x12 (some (tupI (y :: d))) x14 x15 x16) S = .ok (false, .tup ([z + y + 1].map .int)) S := tup_val (args1 p2) (by simp)
    refine ⟨_, _, ?_, (eif_val hc).trans (by rw [if_pos (by simpa using h)]; exact bin_val p1 p3 (cat_tup ([-1] ++ c) [z + y + 1] S (by simp only [List.length_append, List.length_singleton]; omega)))⟩
    simp only [List.length_append, List.length_singleton]
    omega
  · exact ⟨[W], false, by simp, (eif_val hc).trans (by rw [if_neg (by simpa using h)]; rfl)⟩
theorem greatV (hn : ns.length ≤ 63) {S : Store} (hS : IsD ns R0 S) : ∃ S', IsD ns R0 S' ∧ callV (callF TT (n + 6)) 21 [.ref 0] S = .ok (false, .bl true) S' := by
  obtain ⟨r, S1, r0, r1, d1, e1⟩ := take0 (n + 3) R0 ns hn 20 (by omega) hS (a := eVar 0) (b := eLit (.int 20)) (env := [some (.ref 0), none, none, none, none, none, none, none, none, none, none, none, none, none, none, none, none]) (k := false) (k' := false) (fun _ => rfl) (fun _ => rfl)
  obtain ⟨w, S2, w0, w1, d2, e2⟩ := take0 (n + 3) R0 ns hn 11 (by omega) d1 (a := eVar 0) (b := eLit (.int 11)) (env := [some (.ref 0), none, none, none, none, none, none, none, none, none, none, none, none, none, none, none, none]) (k := false) (k' := false) (fun _ => rfl) (fun _ => rfl)
  have s1 : sPar [1, 2] (aCons (eBin oCat (eLit (.int 1)) (eCall (callF TT (n + 5)) 2 16 (aCons (eVar 0) (aCons (eLit (.int 20)) aNil)))) (aCons (eBin oCat (eLit (.int 2)) (eCall (callF TT (n + 5)) 2 16 (aCons (eVar 0) (aCons (eLit (.int 11)) aNil)))) aNil)) [some (.ref 0), none, none, none, none, none, none, none, none, none, none, none, none, none, none, none, none] S =
      .nx [some (.ref 0), some (.int (1 + r)), some (.int (2 + w)), none, none, none, none, none, none, none, none, none, none, none, none, none, none] S2 := by
    rw [q_spar, args2_st (bin_st (a := eLit (.int 1)) (k := false) rfl e1 (cat_int 1 r S1)) (bin_st (a := eLit (.int 2)) (k := false) rfl e2 (cat_int 2 w S2)), PX.R.go_ok]
    rfl
  obtain ⟨R, hR⟩ : ∃ R : Nat, 1 + r = R := ⟨(1 + r).toNat, by omega⟩
  obtain ⟨W, hW⟩ : ∃ W : Int, 2 + w = W := ⟨_, rfl⟩
  rw [hR, hW] at s1
  have hRW : 0 ≤ (R : Int) * (W - 1) := Int.mul_nonneg (by omega) (by omega)
  obtain ⟨T, S3, t0, t1, d3, e3⟩ := take0 (n + 3) R0 ns hn ((R : Int) * (W - 1) + 1) (by omega) d2 (a := eVar 0) (b := eBin oCat (eBin oRep (eVar 1) (eBin oSub (eVar 2) (eLit (.int 1)))) (eLit (.int 1))) (env := [some (.ref 0), some (.int R), some (.int W), none, none, none, none, none, none, none, none, none, none, none, none, none, none]) (k := false) (k' := false) (fun _ => rfl)
    (fun S => bin_val (bin_val (a := eVar 1) (b := eBin oSub (eVar 2) (eLit (.int 1))) (k := false) (k' := false) (v := .int R) (w := .int (W - 1)) rfl rfl (rep_r R (W - 1) S (by omega) (by omega))) (b := eLit (.int 1)) (k' := false) rfl (cat_int _ 1 S))
  obtain ⟨u, S4, u0, u1, d4, e4⟩ := take0 (n + 3) R0 ns hn (W - 1) (by omega) d3 (a := eVar 0) (b := eBin oSub (eVar 2) (eLit (.int 1))) (env := [some (.ref 0), some (.int R), some (.int W), none, none, none, none, none, none, none, none, none, none, none, none, none, none]) (k := false) (k' := false) (fun _ => rfl) (fun S => rfl)
  have s2 : sPar [3, 4] (aCons (eCall (callF TT (n + 5)) 2 16 (aCons (eVar 0) (aCons (eBin oCat (eBin oRep (eVar 1) (eBin oSub (eVar 2) (eLit (.int 1)))) (eLit (.int 1))) aNil))) (aCons (eBin oCat (eLit (.int 1)) (eCall (callF TT (n + 5)) 2 16 (aCons (eVar 0) (aCons (eBin oSub (eVar 2) (eLit (.int 1))) aNil)))) aNil)) [some (.ref 0), some (.int R), some (.int W), none, none, none, none, none, none, none, none, none, none, none, none, none, none] S2 =
      .nx (envG R W T (1 + u) none none none none none none none none none none none none) S4 := by
    rw [q_spar, args2_st e3 (bin_st (a := eLit (.int 1)) (k := false) rfl e4 (cat_int 1 u S4)), PX.R.go_ok]
    rfl
  obtain ⟨v, hv⟩ : ∃ v : Int, 1 + u = v := ⟨_, rfl⟩
  rw [hv] at s2
  have h1 : 1 ≤ v := by omega
  have h2 : v ≤ W - 1 := by omega
  have hk : ask R W T := ⟨by omega, by omega, by omega, by omega, t0, by omega⟩
  have hR1 : 1 ≤ R := by omega
  have hR2 : R ≤ 20 := by omega
  obtain ⟨ml, em, q1, q2, q3⟩ := end_ok hk h1 h2 (.inl rfl)
  obtain ⟨mh, eh, p1, p2, p3⟩ := end_ok hk h1 h2 (.inr rfl)
  obtain ⟨a, ea, la, _, ba, sa, ca⟩ := row_ex q1 h1 h2 q2 q3
  obtain ⟨b, eb, lb, _, bb, sb, cb⟩ := row_ex p1 h1 h2 p2 p3
  have both := bothV n S4 hk h1 h2 em eh
  rw [show rowE R ml W T v = a from ea.symm, show rowE R mh W T v = b from eb.symm] at both
  have good : shB R W T v (lowE R W T v) (highE R T v) a b = true := by
    unfold shB
    rw [rowB_ok la ba sa, rowB_ok lb bb sb, ca, cb, em, eh, decide_eq_true rfl]
    rfl
  have hlh := low_high hk h1 h2
  -- the calls of at_least and reach_both
  have s3 : sPar [5, 6] (aCons (eCall (callF TT (n + 5)) 4 12 (aCons (eVar 1) (aCons (eVar 2) (aCons (eVar 3) (aCons (eVar 4) aNil))))) (aCons (eCall (callF TT (n + 5)) 4 13 (aCons (eVar 1) (aCons (eVar 2) (aCons (eVar 3) (aCons (eVar 4) aNil))))) aNil)) (envG R W T v none none none none none none none none none none none none) S4 =
      .nx (envG R W T v (some (vE R W T v)) (some (ends a b)) none none none none none none none none none none) S4 := by
    rw [q_spar, args2 (call4 (a := eVar 1) (a2 := eVar 2) (a3 := eVar 3) (a4 := eVar 4) (b := false) (b2 := false) (b3 := false) (b4 := false) rfl rfl rfl rfl (atleastV n S4 hk h1 h2)) (call4 (a := eVar 1) (a2 := eVar 2) (a3 := eVar 3) (a4 := eVar 4) (b := false) (b2 := false) (b3 := false) (b4 := false) rfl rfl rfl rfl both), PX.R.go_ok]
    rfl
  have lsh := lshowsV (n + 3) S4 (R := R) (W := W) (T := T) (lo := lowE R W T v) (hi := highE R T v) (v := v) (a := a) (b := b) true true true (by omega) (by omega)
  rw [good] at lsh
  have s4 := call6 (a := eVar 1) (a2 := eVar 2) (a3 := eVar 3) (a4 := eTup (aCons (eFld [0] 0 (eVar 6)) (aCons (eFld [0] 1 (eVar 6)) aNil))) (a5 := eVar 5) (a6 := eVar 4) (b := false) (b2 := false) (b3 := false) (b4 := false) (b5 := false) (b6 := false) (env := envG R W T v (some (vE R W T v)) (some (ends a b)) none none none none none none none none none none) rfl rfl rfl rfl rfl rfl lsh
  have sh := showsV n S4 hk h1 h2 (a := a) (b := b) (by omega) (by omega)
  rw [good] at sh
  have s5 : eMeth (callF TT (n + 5)) 5 2 [(0, 9)] (eVar 6) (aCons (eVar 1) (aCons (eVar 2) (aCons (eVar 3) (aCons (eVar 4) aNil)))) (envG R W T v (some (vE R W T v)) (some (ends a b)) none none none none none none none none none none) S4 = .ok (false, .bl true) S4 :=
    methN (b := false) (v := ends a b) (vs := [.int R, .int W, .int T, .int v]) rfl rfl (args4 (k1 := false) (k2 := false) (k3 := false) (k4 := false) rfl rfl rfl rfl) rfl sh
  have s7 : sAsg (gTp [(gNm 7), (gNm 8)]) (eVar 5) (envG R W T v (some (vE R W T v)) (some (ends a b)) none none none none none none none none none none) S4 = .nx (envG R W T v (some (vE R W T v)) (some (ends a b)) (some (.int (lowE R W T v))) (some (.int (highE R T v))) none none none none none none none none) S4 := rfl
  obtain ⟨y9, y10, y11, s8⟩ := loopE S4 (callF TT (n + 5)) (some (vE R W T v)) (some (ends a b)) (some (.int (lowE R W T v))) (some (.int (highE R T v))) none none none none none hk h1 h2 [(lowE R W T v - 1, false), (lowE R W T v, true), (highE R T v, true), (highE R T v + 1, false)] none none none (fun p hp => by
    rcases List.mem_cons.mp hp with e | hp
    · rw [e]; exact (decide_eq_false (by simp only; omega)).symm
    rcases List.mem_cons.mp hp with e | hp
    · rw [e]; exact (decide_eq_true ⟨Int.le_refl _, hlh⟩).symm
    rcases List.mem_cons.mp hp with e | hp
    · rw [e]; exact (decide_eq_true ⟨hlh, Int.le_refl _⟩).symm
    · rw [List.mem_singleton.mp hp]; exact (decide_eq_false (by simp only; omega)).symm)
  unfold bdE at s8
  have s9 : sPar [12, 13] (aCons (eFld [0] 0 (eVar 6)) (aCons (eFld [0] 1 (eVar 6)) aNil)) (envG R W T v (some (vE R W T v)) (some (ends a b)) (some (.int (lowE R W T v))) (some (.int (highE R T v))) y9 y10 y11 none none none none none) S4 = .nx (envG R W T v (some (vE R W T v)) (some (ends a b)) (some (.int (lowE R W T v))) (some (.int (highE R T v))) y9 y10 y11 (some (tupI a)) (some (tupI b)) none none none) S4 := rfl
  obtain ⟨m, km, lm, s10⟩ := mid14 (callF TT (n + 5)) S4 (W := W) (T := T) (v := v) hR1 hR2 b lb (some (vE R W T v)) (some (ends a b)) (some (.int (lowE R W T v))) (some (.int (highE R T v))) y9 y10 y11 (some (tupI a)) none none none
  have sa : ∀ (x14 x15 x16 : Option PV), eSl (eVar 12) (pSo (eLit (.int 1))) pNo (envG R W T v (some (vE R W T v)) (some (ends a b)) (some (.int (lowE R W T v))) (some (.int (highE R T v))) y9 y10 y11 (some (tupI a)) (some (tupI b)) x14 x15 x16) S4 = .ok (false, tupI ((a.drop (sIxP a.length 0 (some 1))).take (sIxP a.length a.length none - sIxP a.length 0 (some 1)))) S4 := fun _ _ _ =>
    sl_val (k := false) (v := tupI a) (l := some 1) (u := none) rfl rfl rfl (slT a (some 1) none S4)
  have sb' : ∀ (x14 x15 x16 : Option PV), eSl (eVar 13) pNo (pSo (eUn oNeg (eLit (.int 1)))) (envG R W T v (some (vE R W T v)) (some (ends a b)) (some (.int (lowE R W T v))) (some (.int (highE R T v))) y9 y10 y11 (some (tupI a)) (some (tupI b)) x14 x15 x16) S4 = .ok (false, tupI ((b.drop (sIxP b.length 0 none)).take (sIxP b.length b.length (some (-1)) - sIxP b.length 0 none))) S4 := fun _ _ _ =>
    sl_val (k := false) (v := tupI b) (l := none) (u := some (-1)) rfl rfl rfl (slT b none (some (-1)) S4)
  have la' : ((a.drop (sIxP a.length 0 (some 1))).take (sIxP a.length a.length none - sIxP a.length 0 (some 1))).length ≤ 20 := by
    rw [List.length_take, List.length_drop]; omega
  have lb' : ((b.drop (sIxP b.length 0 none)).take (sIxP b.length b.length (some (-1)) - sIxP b.length 0 none)).length ≤ 20 := by
    rw [List.length_take, List.length_drop]; omega
  generalize ((a.drop (sIxP a.length 0 (some 1))).take (sIxP a.length a.length none - sIxP a.length 0 (some 1))) = a' at sa la'
  generalize ((b.drop (sIxP b.length 0 none)).take (sIxP b.length b.length (some (-1)) - sIxP b.length 0 none)) = b' at sb' lb'
  have s11 : sAsg (gNm 15) (eLst (aCons (eTup (aCons (eVar 13) (aCons (eVar 12) aNil))) (aCons (eTup (aCons (eVar 12) (aCons (eVar 12) aNil))) (aCons (eTup (aCons (eSl (eVar 12) (pSo (eLit (.int 1))) pNo) (aCons (eVar 13) aNil))) (aCons (eTup (aCons (eBin oCat (eVar 12) (eTup (aCons (eLit (.int 0)) aNil))) (aCons (eVar 13) aNil))) (aCons (eTup (aCons (eVar 12) (aCons (eBin oCat (eSl (eVar 13) pNo (pSo (eUn oNeg (eLit (.int 1))))) (eTup (aCons (eVar 2) aNil))) aNil))) (aCons (eTup (aCons (eVar 12) (aCons (eBin oRepT (eTup (aCons (eLit (.int 0)) aNil)) (eVar 1)) aNil))) aNil)))))))
      (envG R W T v (some (vE R W T v)) (some (ends a b)) (some (.int (lowE R W T v))) (some (.int (highE R T v))) y9 y10 y11 (some (tupI a)) (some (tupI b)) (some (tupI m)) none none) S4 =
      .nx (envG R W T v (some (vE R W T v)) (some (ends a b)) (some (.int (lowE R W T v))) (some (.int (highE R T v))) y9 y10 y11 (some (tupI a)) (some (tupI b)) (some (tupI m)) (some (.lst ([(b, a), (a, a), (a', b), (a ++ [0], b), (a, b' ++ [W]), (a, List.replicate R 0)].map pairV))) none) S4 := by
    rw [sasg_val (lst_val (acons (tup2_val (k := false) (k' := false) (v := tupI b) (w := tupI a) rfl rfl) (acons (tup2_val (k := false) (k' := false) (v := tupI a) (w := tupI a) rfl rfl) (acons (tup2_val (b := eVar 13) (k' := false) (w := tupI b) (sa _ _ _) rfl) (acons (tup2_val (b := eVar 13) (k' := false) (w := tupI b) (bin_val (a := eVar 12) (b := eTup (aCons (eLit (.int 0)) aNil)) (k := false) (k' := false) (v := tupI a) (w := .tup ([0].map .int)) rfl rfl (cat_tup a [0] S4 (by simp only [List.length_singleton]; omega))) rfl)
      (acons (tup2_val (a := eVar 12) (k := false) (v := tupI a) rfl (bin_val (b := eTup (aCons (eVar 2) aNil)) (k' := false) (w := .tup ([W].map .int)) (sb' _ _ _) rfl (cat_tup b' [W] S4 (by simp only [List.length_singleton]; omega)))) (acons (tup2_val (a := eVar 12) (k := false) (v := tupI a) rfl (bin_val (a := eTup (aCons (eLit (.int 0)) aNil)) (b := eVar 1) (k := false) (k' := false) (v := .tup [.int 0]) (w := .int R) rfl rfl (repT_one 0 R hR1 (by omega) S4))) (vs := []) rfl)))))) (by simp))]
    rfl
  have s12 : iSeq (eBin oCat (eVar 15) (eLst (aCons (eTup (aCons (eVar 12) (aCons (eVar 14) aNil))) (aCons (eTup (aCons (eVar 14) (aCons (eVar 13) aNil))) (aCons (eTup (aCons (eRev2 (eVar 14)) (aCons (eVar 13) aNil))) aNil)))))
      (envG R W T v (some (vE R W T v)) (some (ends a b)) (some (.int (lowE R W T v))) (some (.int (highE R T v))) y9 y10 y11 (some (tupI a)) (some (tupI b)) (some (tupI m)) (some (.lst ([(b, a), (a, a), (a', b), (a ++ [0], b), (a, b' ++ [W]), (a, List.replicate R 0)].map pairV))) none) S4 =
      .ok (([(b, a), (a, a), (a', b), (a ++ [0], b), (a, b' ++ [W]), (a, List.replicate R 0)] ++ [(a, m), (m, b), (m.reverse, b)]).map pairV, []) S4 := by
    rw [List.map_append]
    exact seq_valL _ _ S4 true _ (bin_val (a := eVar 15) (k := false) rfl (lst_val (acons (tup2_val (a := eVar 12) (b := eVar 14) (k := false) (k' := false) (v := tupI a) (w := tupI m) rfl rfl) (acons (tup2_val (a := eVar 14) (b := eVar 13) (k := false) (k' := false) (v := tupI m) (w := tupI b) rfl rfl) (acons (tup2_val (b := eVar 13) (k' := false) (w := tupI b) (rev_tup (a := eVar 14) (k := false) (c := m) rfl) rfl) (vs := []) rfl))) (by simp)) (cat_lst _ _ S4 (by simp)))
  obtain ⟨y16, s13⟩ := loopP n S4 (some (ends a b)) (some (.int (lowE R W T v))) (some (.int (highE R T v))) y9 y10 y11 (some (tupI a)) (some (tupI b)) (some (tupI m)) (some (.lst ([(b, a), (a, a), (a', b), (a ++ [0], b), (a, b' ++ [W]), (a, List.replicate R 0)].map pairV))) hk h1 h2
    ([(b, a), (a, a), (a', b), (a ++ [0], b), (a, b' ++ [W]), (a, List.replicate R 0)] ++ [(a, m), (m, b), (m.reverse, b)]) none (fun p hp => by
      simp only [List.cons_append, List.nil_append, List.mem_cons, List.not_mem_nil, or_false] at hp
      rcases hp with e | e | e | e | e | e | e | e | e <;> subst e <;> simp only [List.length_append, List.length_singleton, List.length_replicate, List.length_reverse] <;> omega)
  unfold bdP at s13
  refine ⟨S4, d4, callV_same ?_ (isD_len hS d4)⟩
  rw [call_at (b := b21) [some (.ref 0), none, none, none, none, none, none, none, none, none, none, none, none, none, none, none, none] rfl rfl rfl]
  unfold b21
  dsimp only
  rw [q_scons, s1, RS.then_nx, q_scons, s2, RS.then_nx, q_scons, s3, RS.then_nx, q_scons, sif_val (tno_val (ttru_bl s4)), if_neg (by simp)]
  rw [show ∀ env : Env, sNil env S4 = .nx env S4 from fun _ => rfl, RS.then_nx]
  rw [q_scons, sif_val (tbl_val (k := false) (bin_val (b := eLit (.bl true)) (k' := false) (w := .bl true) s5 rfl (show oNotB (.bl true) (.bl true) S4 = some (false, .bl false) from rfl))), if_neg (by simp)]
  rw [show ∀ env : Env, sNil env S4 = .nx env S4 from fun _ => rfl, RS.then_nx]
  rw [q_scons, s7, RS.then_nx, q_scons, q_sfor]
  rw [seq_val (eTup _) _ S4 false ([(lowE R W T v - 1, false), (lowE R W T v, true), (highE R T v, true), (highE R T v + 1, false)].map fun p => PV.tup [.int p.1, .bl p.2]) rfl, PX.R.go_ok]
  simp only [q_unl0]
  rw [s8, RS.then_nx, q_scons, s9, RS.then_nx, q_scons, sasg_val s10, RS.then_nx]
  rw [show (envG R W T v (some (vE R W T v)) (some (ends a b)) (some (.int (lowE R W T v))) (some (.int (highE R T v))) y9 y10 y11 (some (tupI a)) (some (tupI b)) none none none).set 14 (some (tupI m)) = envG R W T v (some (vE R W T v)) (some (ends a b)) (some (.int (lowE R W T v))) (some (.int (highE R T v))) y9 y10 y11 (some (tupI a)) (some (tupI b)) (some (tupI m)) none none from rfl]
  rw [q_scons, s11, RS.then_nx, q_scons, q_sfor, s12, PX.R.go_ok]
  simp only [q_unl0]
  rw [s13, RS.then_nx]
  rfl
end
end PX.K62
set_option linter.all false
set_option maxRecDepth 100000
set_option maxHeartbeats 2000000
namespace PX
open PySem K62M
theorem rng_lt (a b : Int) : (rng a b).Pairwise (· < ·) := by
  unfold rng
  rw [List.pairwise_map]
  exact List.pairwise_lt_range.imp (fun h => by omega)
theorem set_rng {ns : List Int} {lo hi : Int} (h : ∀ z, z ∈ ns ↔ lo ≤ z ∧ z < hi) : srtU ns = rng lo hi :=
  uniq_lt (srtU_sorted ns) (rng_lt lo hi) fun z => by rw [srtU_mem, h z, mem_rng]
theorem setV {ns : List Int} {lo hi : Int} (h : ∀ z, z ∈ ns ↔ lo ≤ z ∧ z < hi) (hl : ns.length ≤ 4000) (hr : hi - lo ≤ 63) (S : Store) : bSset [.lst (ns.map .int)] S = some (true, .lst ((rng lo hi).map .int)) := by
  have e : bSset [.lst (ns.map .int)] S = match intsOf (ns.map .int) with
    | some ns => if Nat.ble ns.length 4000 && Nat.ble (srtU ns).length 63 then some (true, .lst ((srtU ns).map .int)) else none
    | none => none := rfl
  rw [e, intsOf_map]
  simp only
  rw [set_rng h, Nat.ble_eq_true_of_le hl, Nat.ble_eq_true_of_le (show (rng lo hi).length ≤ 63 by rw [rng_len]; omega)]
  rfl
theorem lr2V {a b : SE} {env : Env} {S : Store} {k k' : Bool} {i j : Int} (ha : a env S = .ok (k, .int i) S) (hb : b env S = .ok (k', .int j) S) (ho : okL i j = true) : eLr2 a b env S = .ok (true, .lst ((rng i j).map .int)) S := by
  show ((a env S).bind fun p S1 => (b env S1).bind fun q S2 => match p.2, q.2 with
    | .int i, .int j => if okL i j then R.ok (true, PV.lst (rngL i (j - i).toNat)) S2 else R.no
    | _, _ => R.no) = _
  rw [ha, R.bind_ok, hb, R.bind_ok]
  simp only [ho, if_true]
  rw [PX.K62.rng_rngL]
theorem sret_val' {a : SE} {env : Env} {S S' : Store} {k : Bool} {v : PV} (ha : a env S = .ok (k, v) S') : sRet a env S = .rt v S' := by
  rw [q_sret, ha, R.go_ok]
theorem ix_st {cf : CF} {tb : List (Nat × Nat)} {a b : SE} {env : Env} {S S' : Store} {k k' : Bool} {v w : PV} {z : Bool × PV} (ha : a env S = .ok (k, v) S) (hb : b env S = .ok (k', w) S') (ho : ownOf tb S' v = none) (hd : dIx v w S' = none) (h : oIx v w S' = some z) : eIx cf tb a b env S = .ok z S' := by
  rw [q_ix, ha, R.bind_ok, hb, R.bind_ok, ho, hd, h]
  rfl
end PX
namespace PX.K62
open PySem PX K62M
section
variable (n : Nat) (R0 : Store) (ns : List Int)
theorem pickV (hn : ns.length ≤ 63) {S : Store} (hS : IsD ns R0 S) {l : List (List Int)} (hl : l ≠ []) {a b : SE} {env : Env} {k k' : Bool} (ha : ∀ S, a env S = .ok (k, .ref 0) S) (hb : ∀ S, b env S = .ok (k', tups l) S) :
    ∃ c S', c ∈ l ∧ IsD ns R0 S' ∧ eCall (callF TT (n + 3)) 2 17 (aCons a (aCons b aNil)) env S = .ok (false, tupI c) S' := by
  have hp : 0 < l.length := List.length_pos_iff.mpr hl
  have el : ∀ S, eLen (callF TT (n + 2)) [] (eVar 1) [some (.ref 0), some (tups l)] S = .ok (false, .int l.length) S := fun S => by
    refine len_flat (k := false) (v := tups l) rfl rfl ?_
    rw [bLen_lst, List.length_map]
  obtain ⟨j, S', j0, j1, d, e⟩ := take0 n R0 ns hn (l.length : Int) (by omega) hS (a := eVar 0) (b := eLen (callF TT (n + 2)) [] (eVar 1)) (env := [some (.ref 0), some (tups l)]) (k := false) (k' := false) (fun _ => rfl) el
  obtain ⟨i, hi⟩ : ∃ i : Nat, j = i := ⟨j.toNat, by omega⟩
  subst hi
  have hi : i < l.length := by omega
  refine ⟨l[i], S', List.getElem_mem hi, d, ?_⟩
  have ec : callV (callF TT (n + 3)) 17 [.ref 0, tups l] S = .ok (false, tupI l[i]) S' := by
    refine callV_same ?_ (isD_len hS d)
    rw [call_at (b := b17) [some (.ref 0), some (tups l)] rfl rfl rfl]
    unfold b17
    dsimp only
    rw [sret_val' (ix_st (a := eVar 1) (k := false) (v := tups l) rfl e rfl rfl (oIx_at (i := i) (x := tupI l[i]) rfl (by rw [List.getElem?_map, List.getElem?_eq_getElem hi]; rfl)))]
    rfl
  rw [q_call, args2 (ha _) (hb _), PX.R.bind_ok, if_pos (by rfl), ec]
end
end PX.K62
set_option linter.all false
set_option maxRecDepth 100000
set_option maxHeartbeats 2000000
namespace PX
open PySem
theorem tup3_st {a b c : SE} {env : Env} {S S1 S2 S3 : Store} {k1 k2 k3 : Bool} {u v w : PV} (ha : a env S = .ok (k1, u) S1) (hb : b env S1 = .ok (k2, v) S2) (hc : c env S2 = .ok (k3, w) S3) : eTup (aCons a (aCons b (aCons c aNil))) env S = .ok (false, .tup [u, v, w]) S3 := by
  rw [q_tup, q_cons, ha, R.bind_ok, q_cons, hb, R.bind_ok, q_cons, hc, R.bind_ok, q_nil, R.bind_ok, R.bind_ok, R.bind_ok, R.bind_ok]
  rfl
theorem lst2_st {a b : SE} {env : Env} {S S1 S2 : Store} {k1 k2 : Bool} {u v : PV} (ha : a env S = .ok (k1, u) S1) (hb : b env S1 = .ok (k2, v) S2) : eLst (aCons a (aCons b aNil)) env S = .ok (true, .lst [u, v]) S2 := by
  show ((aCons a (aCons b aNil) env S).bind fun p S1 => if small p.length then R.ok (true, PV.lst p) S1 else R.no) = _
  rw [args2_st ha hb, R.bind_ok]
  rfl
end PX
namespace PX.K62
open PySem PX K62M
section
variable (n : Nat) (R0 : Store) (ns : List Int)
abbrev envL (ns : List Int) (x2 x3 x4 x5 x6 x7 x8 x9 x10 x11 x12 x13 x14 x15 x16 x17 : Option PV) : Env := [some (.lst (ns.map .int)), some (.ref 0), x2, x3, x4, x5, x6, x7, x8, x9, x10, x11, x12, x13, x14, x15, x16, x17]
def bdJ (cf : CF) : SS := sCons (sAsg (gNm 16) (eLst (aCons (eCall cf 2 17 (aCons (eVar 1) (aCons (eVar 6) aNil))) (aCons (eCall cf 2 17 (aCons (eVar 1) (aCons (eVar 6) aNil))) aNil)))) (sCons (sAsg (gNm 16) (eLst (aCons (eIf (tBl (eEq cf TB TY (eVar 15) (eLit (.int 1)))) (eRev2 (eIx cf [] (eVar 16) (eLit (.int 0)))) (eIx cf [] (eVar 16) (eLit (.int 0)))) (aCons (eIf (tBl (eEq cf TB TY (eVar 15) (eLit (.int 2)))) (eArg bList (aCons (eIx cf [] (eVar 16) (eLit (.int 1))) aNil)) (eIx cf [] (eVar 16) (eLit (.int 1)))) aNil)))) (sIf (tBl (eNe cf TB TY (eMeth cf 5 2 [(0, 9)] (eMake cf 3 0 7 (aCons (eIx cf [] (eVar 16) (eLit (.int 0))) (aCons (eIx cf [] (eVar 16) (eLit (.int 1))) aNil))) (aCons (eVar 3) (aCons (eVar 4) (aCons (eVar 5) (aCons (eVar 7) aNil))))) (eCall cf 6 20 (aCons (eVar 3) (aCons (eVar 4) (aCons (eVar 5) (aCons (eVar 16) (aCons (eTup (aCons (eVar 10) (aCons (eVar 11) aNil))) (aCons (eVar 7) aNil))))))))) (sRet (eLit (.bl false))) sNil))
def bdL (cf : CF) : SS := sCons (sPar [3, 4] (aCons (eBin oCat (eLit (.int 1)) (eCall cf 2 16 (aCons (eVar 1) (aCons (eLit (.int 6)) aNil)))) (aCons (eBin oCat (eLit (.int 2)) (eCall cf 2 16 (aCons (eVar 1) (aCons (eLit (.int 4)) aNil)))) aNil))) (sCons (sAsg (gNm 5) (eCall cf 2 16 (aCons (eVar 1) (aCons (eBin oCat (eBin oRep (eVar 3) (eBin oSub (eVar 4) (eLit (.int 1)))) (eLit (.int 1))) aNil)))) (sCons (sAsg (gTp [(gNm 6), (gNm 7), (gNm 8)]) (eTup (aCons (eCall cf 3 18 (aCons (eVar 3) (aCons (eVar 4) (aCons (eVar 5) aNil)))) (aCons (eBin oCat (eLit (.int 1)) (eCall cf 2 16 (aCons (eVar 1) (aCons (eBin oSub (eVar 4) (eLit (.int 1))) aNil)))) (aCons (eCall cf 2 16 (aCons (eVar 1) (aCons (eVar 3) aNil))) aNil))))) (sCons (sAsg (gNm 9) (eArg bSset (aCons (eLc (iSeq (eVar 6)) (gNm 17) [17] tYesP (eCall cf 2 19 (aCons (eVar 17) (aCons (eVar 7) aNil)))) aNil))) (sCons (sAsg (gTp [(gNm 10), (gNm 11)]) (eCall cf 4 12 (aCons (eVar 3) (aCons (eVar 4) (aCons (eVar 5) (aCons (eVar 7) aNil)))))) (sCons (sIf (tBl (eNe cf TB TY (eVar 9) (eLr2 (eVar 10) (eBin oCat (eVar 11) (eLit (.int 1)))))) (sRet (eLit (.bl false))) sNil) (sCons (sAsg (gNm 12) (eArg bSset (aCons (eLc (iSeq (eVar 6)) (gNm 17) [17] tYesP (eIx cf [] (eVar 17) (eVar 8))) aNil))) (sCons (sAsg (gTp [(gNm 13), (gNm 14)]) (eCall cf 4 14 (aCons (eVar 3) (aCons (eVar 4) (aCons (eVar 5) (aCons (eVar 8) aNil)))))) (sCons (sIf (tBl (eNe cf TB TY (eVar 12) (eLr2 (eVar 13) (eBin oCat (eVar 14) (eLit (.int 1)))))) (sRet (eLit (.bl false))) sNil) (sCons (sFor (iRg1 (eLit (.int 3))) (gNm 15) (bdJ cf)) (sIf (tNo (tTru (eCall cf 1 21 (aCons (eVar 1) aNil)))) (sRet (eLit (.bl false))) sNil))))))))))

abbrev envJ (ns : List Int) (R : Nat) (W T v : Int) (l : List (List Int)) (x2 x8 x9 x12 x13 x14 x15 x16 x17 : Option PV) : Env := envL ns x2 (some (.int R)) (some (.int W)) (some (.int T)) (some (tups l)) (some (.int v)) x8 x9 (some (.int (lowE R W T v))) (some (.int (highE R T v))) x12 x13 x14 x15 x16 x17
theorem turnJ (hn : ns.length ≤ 63) {S : Store} (hS : IsD ns R0 S) {R : Nat} {W T v : Int} {l : List (List Int)} (h : ask R W T) (h1 : 1 ≤ v) (h2 : v ≤ W - 1) (hl : l ≠ []) (hc : ∀ c ∈ l, c.length ≤ 1000) (j : Int) (x2 x8 x9 x12 x13 x14 x16 x17 : Option PV) :
    ∃ y16 S', IsD ns R0 S' ∧ bdJ (callF TT (n + 7)) (envJ ns R W T v l x2 x8 x9 x12 x13 x14 (some (.int j)) x16 x17) S = .nx (envJ ns R W T v l x2 x8 x9 x12 x13 x14 (some (.int j)) y16 x17) S' := by
  obtain ⟨c1, S1, m1, d1, e1⟩ := pickV (n + 4) R0 ns hn hS hl (a := eVar 1) (b := eVar 6) (env := envJ ns R W T v l x2 x8 x9 x12 x13 x14 (some (.int j)) x16 x17) (k := false) (k' := false) (fun _ => rfl) (fun _ => rfl)
  obtain ⟨c2, S2, m2, d2, e2⟩ := pickV (n + 4) R0 ns hn d1 hl (a := eVar 1) (b := eVar 6) (env := envJ ns R W T v l x2 x8 x9 x12 x13 x14 (some (.int j)) x16 x17) (k := false) (k' := false) (fun _ => rfl) (fun _ => rfl)
  have l1 := hc c1 m1
  have l2 := hc c2 m2
  have s1 : sAsg (gNm 16) (eLst (aCons (eCall (callF TT (n + 7)) 2 17 (aCons (eVar 1) (aCons (eVar 6) aNil))) (aCons (eCall (callF TT (n + 7)) 2 17 (aCons (eVar 1) (aCons (eVar 6) aNil))) aNil))) (envJ ns R W T v l x2 x8 x9 x12 x13 x14 (some (.int j)) x16 x17) S = .nx (envJ ns R W T v l x2 x8 x9 x12 x13 x14 (some (.int j)) (some (.lst [tupI c1, tupI c2])) x17) S2 := by
    rw [sasg_st (lst2_st e1 e2)]
    rfl
  generalize hE : envJ ns R W T v l x2 x8 x9 x12 x13 x14 (some (.int j)) (some (.lst [tupI c1, tupI c2])) x17 = env at s1
  have i0 : eIx (callF TT (n + 7)) [] (eVar 16) (eLit (.int 0)) env S2 = .ok (false, tupI c1) S2 := by
    subst hE
    exact ix_val (k := false) (k' := false) (v := .lst [tupI c1, tupI c2]) (w := .int 0) rfl rfl rfl rfl (oIx_at (i := 0) (xs := [tupI c1, tupI c2]) rfl rfl)
  have i1 : eIx (callF TT (n + 7)) [] (eVar 16) (eLit (.int 1)) env S2 = .ok (false, tupI c2) S2 := by
    subst hE
    exact ix_val (k := false) (k' := false) (v := .lst [tupI c1, tupI c2]) (w := .int 1) rfl rfl rfl rfl (oIx_at (i := 1) (xs := [tupI c1, tupI c2]) rfl rfl)
  have v15 : ∀ q : Int, tBl (eEq (callF TT (n + 7)) TB TY (eVar 15) (eLit (.int q))) env S2 = .ok (decide (j = q)) S2 := fun q => by
    subst hE
    exact tbl_val (k := false) (eq_flat (k := false) (k' := false) (v := .int j) (w := .int q) rfl rfl rfl (oEq_int' j q S2))
  obtain ⟨a, k1, la, ea⟩ : ∃ (a : List Int) (k1 : Bool), a.length ≤ 1000 ∧ eIf (tBl (eEq (callF TT (n + 7)) TB TY (eVar 15) (eLit (.int 1)))) (eRev2 (eIx (callF TT (n + 7)) [] (eVar 16) (eLit (.int 0)))) (eIx (callF TT (n + 7)) [] (eVar 16) (eLit (.int 0))) env S2 = .ok (k1, sq true a) S2 := by
    by_cases hj : j = 1
    · exact ⟨c1.reverse, false, by simpa using l1, (eif_val (v15 1)).trans (by rw [if_pos (by simp [hj]), rev_tup i0]; rfl)⟩
    · exact ⟨c1, false, l1, (eif_val (v15 1)).trans (by rw [if_neg (by simp [hj]), i0]; rfl)⟩
  obtain ⟨cb, k2, eb⟩ : ∃ (cb : Bool) (k2 : Bool), eIf (tBl (eEq (callF TT (n + 7)) TB TY (eVar 15) (eLit (.int 2)))) (eArg bList (aCons (eIx (callF TT (n + 7)) [] (eVar 16) (eLit (.int 1))) aNil)) (eIx (callF TT (n + 7)) [] (eVar 16) (eLit (.int 1))) env S2 = .ok (k2, sq cb c2) S2 := by
    by_cases hj : j = 2
    · exact ⟨false, true, (eif_val (v15 2)).trans (by rw [if_pos (by simp [hj]), arg1_val i1 (list_tup c2 S2)]; rfl)⟩
    · exact ⟨true, false, (eif_val (v15 2)).trans (by rw [if_neg (by simp [hj]), i1]; rfl)⟩
  have nl : aNil env S2 = .ok [] S2 := rfl
  have s2 := sasg_val (i := 16) (lst_val (acons ea (acons eb nl)) (by simp))
  rw [show env.set 16 (some (.lst [sq true a, sq cb c2])) = envJ ns R W T v l x2 x8 x9 x12 x13 x14 (some (.int j)) (some (.lst [sq true a, sq cb c2])) x17 from by subst hE; rfl] at s2
  refine ⟨some (.lst [sq true a, sq cb c2]), S2, d2, ?_⟩
  unfold bdJ
  rw [q_scons, s1, RS.then_nx, q_scons, s2, RS.then_nx]
  exact same_shows (n + 2) S2 (a := a) (b := c2) false true cb (eVar 16) (eVar 3) (eVar 4) (eVar 5) (eVar 7) (eTup (aCons (eVar 10) (aCons (eVar 11) aNil))) h h1 h2 la l2 rfl rfl rfl rfl rfl (kq := false) rfl
theorem loopJ (hn : ns.length ≤ 63) {R : Nat} {W T v : Int} {l : List (List Int)} (h : ask R W T) (h1 : 1 ≤ v) (h2 : v ≤ W - 1) (hl : l ≠ []) (hc : ∀ c ∈ l, c.length ≤ 1000) (x2 x8 x9 x12 x13 x14 x17 : Option PV) : ∀ (m : Nat) (lo : Int) {S : Store} (hS : IsD ns R0 S) (x15 x16 : Option PV),
    ∃ y15 y16 S', IsD ns R0 S' ∧ forR (gNm 15) (bdJ (callF TT (n + 7))) (rngL lo m) (envJ ns R W T v l x2 x8 x9 x12 x13 x14 x15 x16 x17) S = .nx (envJ ns R W T v l x2 x8 x9 x12 x13 x14 y15 y16 x17) S'
  | 0, lo, S, hS, x15, x16 => ⟨x15, x16, S, hS, rfl⟩
  | m + 1, lo, S, hS, x15, x16 => by
    obtain ⟨z16, S1, d1, e⟩ := turnJ n R0 ns hn hS h h1 h2 hl hc lo x2 x8 x9 x12 x13 x14 x16 x17
    obtain ⟨y15, y16, S', d, ih⟩ := loopJ hn h h1 h2 hl hc x2 x8 x9 x12 x13 x14 x17 m (lo + 1) d1 (some (.int lo)) z16
    refine ⟨y15, y16, S', d, ?_⟩
    have et : gNm 15 (.int lo) (envJ ns R W T v l x2 x8 x9 x12 x13 x14 x15 x16 x17) S = some (envJ ns R W T v l x2 x8 x9 x12 x13 x14 (some (.int lo)) x16 x17) := rfl
    rw [show rngL lo (m + 1) = .int lo :: rngL (lo + 1) m from rfl, q_forC]
    simp only [et, e]
    exact ih
end
end PX.K62
set_option linter.all false
set_option maxRecDepth 100000
set_option maxHeartbeats 2000000
namespace PX
open PySem
theorem ttru_st {a : SE} {env : Env} {S S' : Store} {k b : Bool} (ha : a env S = .ok (k, .bl b) S') : tTru a env S = .ok b S' := by
  rw [q_tru, ha, R.bind_ok]
  rfl
theorem tno_st {a : ST} {env : Env} {S S' : Store} {b : Bool} (ha : a env S = .ok b S') : tNo a env S = .ok (!b) S' := by
  rw [q_tno, ha, R.bind_ok]
end PX
namespace PX.K62
open PySem PX K62M
section
variable (n : Nat) (ns : List Int)
theorem turnL (hn : ns.length ≤ 63) {S : Store} (hS : IsD ns [] S) (x2 x3 x4 x5 x6 x7 x8 x9 x10 x11 x12 x13 x14 x15 x16 x17 : Option PV) :
    ∃ y3 y4 y5 y6 y7 y8 y9 y10 y11 y12 y13 y14 y15 y16 y17 S', IsD ns [] S' ∧ bdL (callF TT (n + 7)) (envL ns x2 x3 x4 x5 x6 x7 x8 x9 x10 x11 x12 x13 x14 x15 x16 x17) S = .nx (envL ns x2 y3 y4 y5 y6 y7 y8 y9 y10 y11 y12 y13 y14 y15 y16 y17) S' := by
  obtain ⟨r, S1, r0, r1, d1, e1⟩ := take0 (n + 5) [] ns hn 6 (by omega) hS (a := eVar 1) (b := eLit (.int 6)) (env := envL ns x2 x3 x4 x5 x6 x7 x8 x9 x10 x11 x12 x13 x14 x15 x16 x17) (k := false) (k' := false) (fun _ => rfl) (fun _ => rfl)
  obtain ⟨w, S2, w0, w1, d2, e2⟩ := take0 (n + 5) [] ns hn 4 (by omega) d1 (a := eVar 1) (b := eLit (.int 4)) (env := envL ns x2 x3 x4 x5 x6 x7 x8 x9 x10 x11 x12 x13 x14 x15 x16 x17) (k := false) (k' := false) (fun _ => rfl) (fun _ => rfl)
  have s1 : sPar [3, 4] (aCons (eBin oCat (eLit (.int 1)) (eCall (callF TT (n + 7)) 2 16 (aCons (eVar 1) (aCons (eLit (.int 6)) aNil)))) (aCons (eBin oCat (eLit (.int 2)) (eCall (callF TT (n + 7)) 2 16 (aCons (eVar 1) (aCons (eLit (.int 4)) aNil)))) aNil)) (envL ns x2 x3 x4 x5 x6 x7 x8 x9 x10 x11 x12 x13 x14 x15 x16 x17) S =
      .nx (envL ns x2 (some (.int (1 + r))) (some (.int (2 + w))) x5 x6 x7 x8 x9 x10 x11 x12 x13 x14 x15 x16 x17) S2 := by
    rw [q_spar, args2_st (bin_st (a := eLit (.int 1)) (k := false) rfl e1 (cat_int 1 r S1)) (bin_st (a := eLit (.int 2)) (k := false) rfl e2 (cat_int 2 w S2)), PX.R.go_ok]
    rfl
  obtain ⟨R, hR⟩ : ∃ R : Nat, 1 + r = R := ⟨(1 + r).toNat, by omega⟩
  obtain ⟨W, hW⟩ : ∃ W : Int, 2 + w = W := ⟨_, rfl⟩
  rw [hR, hW] at s1
  have hRW : 0 ≤ (R : Int) * (W - 1) := Int.mul_nonneg (by omega) (by omega)
  obtain ⟨T, S3, t0, t1, d3, e3⟩ := take0 (n + 5) [] ns hn ((R : Int) * (W - 1) + 1) (by omega) d2 (a := eVar 1) (b := eBin oCat (eBin oRep (eVar 3) (eBin oSub (eVar 4) (eLit (.int 1)))) (eLit (.int 1))) (env := envL ns x2 (some (.int R)) (some (.int W)) x5 x6 x7 x8 x9 x10 x11 x12 x13 x14 x15 x16 x17) (k := false) (k' := false) (fun _ => rfl)
    (fun S => bin_val (bin_val (a := eVar 3) (b := eBin oSub (eVar 4) (eLit (.int 1))) (k := false) (k' := false) (v := .int R) (w := .int (W - 1)) rfl rfl (rep_r R (W - 1) S (by omega) (by omega))) (b := eLit (.int 1)) (k' := false) rfl (cat_int _ 1 S))
  have s2 : sAsg (gNm 5) (eCall (callF TT (n + 7)) 2 16 (aCons (eVar 1) (aCons (eBin oCat (eBin oRep (eVar 3) (eBin oSub (eVar 4) (eLit (.int 1)))) (eLit (.int 1))) aNil))) (envL ns x2 (some (.int R)) (some (.int W)) x5 x6 x7 x8 x9 x10 x11 x12 x13 x14 x15 x16 x17) S2 = .nx (envL ns x2 (some (.int R)) (some (.int W)) (some (.int T)) x6 x7 x8 x9 x10 x11 x12 x13 x14 x15 x16 x17) S3 := by
    rw [sasg_st e3]
    rfl
  obtain ⟨u, S4, u0, u1, d4, e4⟩ := take0 (n + 5) [] ns hn (W - 1) (by omega) d3 (a := eVar 1) (b := eBin oSub (eVar 4) (eLit (.int 1))) (env := envL ns x2 (some (.int R)) (some (.int W)) (some (.int T)) x6 x7 x8 x9 x10 x11 x12 x13 x14 x15 x16 x17) (k := false) (k' := false) (fun _ => rfl) (fun S => rfl)
  obtain ⟨kk, S5, k0, k1, d5, e5⟩ := take0 (n + 5) [] ns hn (R : Int) (by omega) d4 (a := eVar 1) (b := eVar 3) (env := envL ns x2 (some (.int R)) (some (.int W)) (some (.int T)) x6 x7 x8 x9 x10 x11 x12 x13 x14 x15 x16 x17) (k := false) (k' := false) (fun _ => rfl) (fun S => rfl)
  obtain ⟨k, hk⟩ : ∃ k : Nat, kk = k := ⟨kk.toNat, by omega⟩
  subst hk
  have e6 := call3 (a := eVar 3) (a2 := eVar 4) (a3 := eVar 5) (b := false) (b2 := false) (b3 := false) (env := envL ns x2 (some (.int R)) (some (.int W)) (some (.int T)) x6 x7 x8 x9 x10 x11 x12 x13 x14 x15 x16 x17) rfl rfl rfl (linesV (n + 6) S3 R W T t0 (by omega) (by omega) (by omega))
  obtain ⟨v, hv⟩ : ∃ v : Int, 1 + u = v := ⟨_, rfl⟩
  have s3 : sAsg (gTp [(gNm 6), (gNm 7), (gNm 8)]) (eTup (aCons (eCall (callF TT (n + 7)) 3 18 (aCons (eVar 3) (aCons (eVar 4) (aCons (eVar 5) aNil)))) (aCons (eBin oCat (eLit (.int 1)) (eCall (callF TT (n + 7)) 2 16 (aCons (eVar 1) (aCons (eBin oSub (eVar 4) (eLit (.int 1))) aNil)))) (aCons (eCall (callF TT (n + 7)) 2 16 (aCons (eVar 1) (aCons (eVar 3) aNil))) aNil)))) (envL ns x2 (some (.int R)) (some (.int W)) (some (.int T)) x6 x7 x8 x9 x10 x11 x12 x13 x14 x15 x16 x17) S3 =
      .nx (envL ns x2 (some (.int R)) (some (.int W)) (some (.int T)) (some (tups (lines W T R))) (some (.int v)) (some (.int k)) x9 x10 x11 x12 x13 x14 x15 x16 x17) S5 := by
    rw [q_sasg, tup3_st e6 (bin_st (a := eLit (.int 1)) (k := false) rfl e4 (cat_int 1 u S4)) e5, PX.R.go_ok, hv]
    rfl
  have h1 : 1 ≤ v := by omega
  have h2 : v ≤ W - 1 := by omega
  have ha : ask R W T := ⟨by omega, by omega, by omega, by omega, t0, by omega⟩
  have hT2 : T ≤ R * (W - 1) := by omega
  have hlen := lines_le (T := T) (n := R) (W := W) (by omega) (by omega) (by omega)
  have hmem : ∀ c ∈ lines W T R, c.length = R := fun c hc => ((mem_lines t0).mp hc).1
  have hne : lines W T R ≠ [] := by
    obtain ⟨c, hc⟩ := some_line (R := R) (W := W) (T := T) (by omega) t0 hT2
    exact List.ne_nil_of_mem hc
  have nums := numbers (R := R) (W := W) (T := T) h1 h2 t0 hT2
  have lh := low_high ha h1 h2
  have lo0 : 0 ≤ lowE R W T v := by unfold lowE; omega
  have hi0 : highE R T v ≤ R := by unfold highE; omega
  generalize hL : lines W T R = L at *
  generalize hE1 : envL ns x2 (some (.int R)) (some (.int W)) (some (.int T)) (some (tups L)) (some (.int v)) (some (.int k)) x9 x10 x11 x12 x13 x14 x15 x16 x17 = env1 at s3
  have c1 : eLc (iSeq (eVar 6)) (gNm 17) [17] tYesP (eCall (callF TT (n + 7)) 2 19 (aCons (eVar 17) (aCons (eVar 7) aNil))) env1 S5 = .ok (true, .lst ((L.map fun c => (cnt v c : Int)).map .int)) S5 := by
    subst hE1
    have e := lc_int (i := iSeq (eVar 6)) (t := gNm 17) (vs := [17]) (c := tYesP) (e := eCall (callF TT (n + 7)) 2 19 (aCons (eVar 17) (aCons (eVar 7) aNil))) (env := envL ns x2 (some (.int R)) (some (.int W)) (some (.int T)) (some (tups L)) (some (.int v)) (some (.int k)) x9 x10 x11 x12 x13 x14 x15 x16 x17) (S := S5) L tupI (fun c => (cnt v c : Int)) (fun _ => true)
      (fun c => envL ns x2 (some (.int R)) (some (.int W)) (some (.int T)) (some (tups L)) (some (.int v)) (some (.int k)) x9 x10 x11 x12 x13 x14 x15 x16 (some (tupI c))) (seq_valL _ _ S5 false _ rfl) (by omega) (fun c _ => rfl) (fun c _ => rfl)
      (fun c hc _ => ⟨false, call2 (a := eVar 17) (a2 := eVar 7) (b := false) (b2 := false) (v := sq true c) (v2 := .int v) rfl rfl (reachV (n + 6) S5 true c v (by have := hmem c hc; omega))⟩)
    rw [filter_yes] at e
    exact e
  have q1 : ∀ z, z ∈ (L.map fun c => (cnt v c : Int)) ↔ lowE R W T v ≤ z ∧ z < highE R T v + 1 := fun z => by
    rw [List.mem_map, nums z]
    unfold lowE highE
    omega
  have s4 := sasg_val (i := 9) (arg1_val c1 (setV q1 (by rw [List.length_map]; omega) (by omega) S5))
  have E4 : env1.set 9 (some (.lst ((rng (lowE R W T v) (highE R T v + 1)).map .int))) = envL ns x2 (some (.int R)) (some (.int W)) (some (.int T)) (some (tups L)) (some (.int v)) (some (.int k)) (some (.lst ((rng (lowE R W T v) (highE R T v + 1)).map .int))) x10 x11 x12 x13 x14 x15 x16 x17 := by subst hE1; rfl
  rw [E4] at s4
  have s5 : sAsg (gTp [(gNm 10), (gNm 11)]) (eCall (callF TT (n + 7)) 4 12 (aCons (eVar 3) (aCons (eVar 4) (aCons (eVar 5) (aCons (eVar 7) aNil))))) (envL ns x2 (some (.int R)) (some (.int W)) (some (.int T)) (some (tups L)) (some (.int v)) (some (.int k)) (some (.lst ((rng (lowE R W T v) (highE R T v + 1)).map .int))) x10 x11 x12 x13 x14 x15 x16 x17) S5 =
      .nx (envJ ns R W T v L x2 (some (.int k)) (some (.lst ((rng (lowE R W T v) (highE R T v + 1)).map .int))) x12 x13 x14 x15 x16 x17) S5 := by
    rw [q_sasg, call4 (a := eVar 3) (a2 := eVar 4) (a3 := eVar 5) (a4 := eVar 7) (b := false) (b2 := false) (b3 := false) (b4 := false) rfl rfl rfl rfl (atleastV (n + 2) S5 ha h1 h2), PX.R.go_ok]
    rfl
  have s6 : tBl (eNe (callF TT (n + 7)) TB TY (eVar 9) (eLr2 (eVar 10) (eBin oCat (eVar 11) (eLit (.int 1))))) (envJ ns R W T v L x2 (some (.int k)) (some (.lst ((rng (lowE R W T v) (highE R T v + 1)).map .int))) x12 x13 x14 x15 x16 x17) S5 = .ok false S5 := by
    have hok : okL (lowE R W T v) (highE R T v + 1) = true := by
      unfold okL
      simp only [Bool.and_eq_true, decide_eq_true_eq]
      omega
    refine tbl_val (k := false) (ne_flat (k := false) (v := .lst ((rng (lowE R W T v) (highE R T v + 1)).map .int)) rfl (lr2V (k := false) (k' := false) (i := lowE R W T v) (j := highE R T v + 1) rfl rfl hok) rfl ?_)
    rw [oNe_lst, decide_eq_true rfl]
    rfl
  -- values at a rank
  obtain ⟨b, hb⟩ : ∃ b : Nat, R = k + b + 1 := ⟨R - k - 1, by omega⟩
  have rk : ∀ x, (∃ c ∈ L, c[k]? = some x) ↔ (rlow W T k b ≤ x ∧ x ≤ rhigh W T b) := fun x => by
    have := ranked (k := k) (b := b) (W := W) t0 x
    rw [← hb, hL] at this
    exact this
  have eb : (R : Int) - k - 1 = b := by omega
  have rb0 : 0 ≤ rlow W T k b := by unfold rlow; omega
  have rb1 : rhigh W T b ≤ W - 1 := by unfold rhigh; omega
  have c2 : eLc (iSeq (eVar 6)) (gNm 17) [17] tYesP (eIx (callF TT (n + 7)) [] (eVar 17) (eVar 8)) (envJ ns R W T v L x2 (some (.int k)) (some (.lst ((rng (lowE R W T v) (highE R T v + 1)).map .int))) x12 x13 x14 x15 x16 x17) S5 = .ok (true, .lst ((L.map fun c => (c[k]?).getD 0).map .int)) S5 := by
    have e := lc_int (i := iSeq (eVar 6)) (t := gNm 17) (vs := [17]) (c := tYesP) (e := eIx (callF TT (n + 7)) [] (eVar 17) (eVar 8)) (env := envJ ns R W T v L x2 (some (.int k)) (some (.lst ((rng (lowE R W T v) (highE R T v + 1)).map .int))) x12 x13 x14 x15 x16 x17) (S := S5) L tupI (fun c => (c[k]?).getD 0) (fun _ => true)
      (fun c => envJ ns R W T v L x2 (some (.int k)) (some (.lst ((rng (lowE R W T v) (highE R T v + 1)).map .int))) x12 x13 x14 x15 x16 (some (tupI c))) (seq_valL _ _ S5 false _ rfl) (by omega) (fun c _ => rfl) (fun c _ => rfl)
      (fun c hc _ => ⟨false, ix_val (k := false) (k' := false) (v := tupI c) (w := .int k) rfl rfl rfl rfl (oIx_at (i := k) (xs := c.map .int) rfl (by
        have hl := hmem c hc
        have hk' : k < c.length := by omega
        rw [List.getElem?_map, List.getElem?_eq_getElem hk']
        rfl))⟩)
    rw [filter_yes] at e
    exact e
  have q2 : ∀ z, z ∈ (L.map fun c => (c[k]?).getD 0) ↔ rlow W T k b ≤ z ∧ z < rhigh W T b + 1 := fun z => by
    rw [List.mem_map]
    have e : (∃ c ∈ L, c[k]?.getD 0 = z) ↔ ∃ c ∈ L, c[k]? = some z := by
      constructor
      · rintro ⟨c, hc, e⟩
        have hl := hmem c hc
        have hk' : k < c.length := by omega
        refine ⟨c, hc, ?_⟩
        rw [List.getElem?_eq_getElem hk'] at e ⊢
        exact congrArg some e
      · rintro ⟨c, hc, e⟩
        exact ⟨c, hc, by rw [e]; rfl⟩
    rw [e, rk z]
    omega
  have s7 := sasg_val (i := 12) (arg1_val c2 (setV q2 (by rw [List.length_map]; omega) (by omega) S5))
  rw [show (envJ ns R W T v L x2 (some (.int k)) (some (.lst ((rng (lowE R W T v) (highE R T v + 1)).map .int))) x12 x13 x14 x15 x16 x17).set 12 (some (.lst ((rng (rlow W T k b) (rhigh W T b + 1)).map .int))) = envJ ns R W T v L x2 (some (.int k)) (some (.lst ((rng (lowE R W T v) (highE R T v + 1)).map .int))) (some (.lst ((rng (rlow W T k b) (rhigh W T b + 1)).map .int))) x13 x14 x15 x16 x17 from rfl] at s7
  have rv := rankV (n + 3) S5 ha (k := k) (by omega) (by omega)
  rw [eb] at rv
  have s8 : sAsg (gTp [(gNm 13), (gNm 14)]) (eCall (callF TT (n + 7)) 4 14 (aCons (eVar 3) (aCons (eVar 4) (aCons (eVar 5) (aCons (eVar 8) aNil))))) (envJ ns R W T v L x2 (some (.int k)) (some (.lst ((rng (lowE R W T v) (highE R T v + 1)).map .int))) (some (.lst ((rng (rlow W T k b) (rhigh W T b + 1)).map .int))) x13 x14 x15 x16 x17) S5 =
      .nx (envJ ns R W T v L x2 (some (.int k)) (some (.lst ((rng (lowE R W T v) (highE R T v + 1)).map .int))) (some (.lst ((rng (rlow W T k b) (rhigh W T b + 1)).map .int))) (some (.int (rlow W T k b))) (some (.int (rhigh W T b))) x15 x16 x17) S5 := by
    rw [q_sasg, call4 (a := eVar 3) (a2 := eVar 4) (a3 := eVar 5) (a4 := eVar 8) (b := false) (b2 := false) (b3 := false) (b4 := false) rfl rfl rfl rfl rv, PX.R.go_ok]
    rfl
  have s9 : tBl (eNe (callF TT (n + 7)) TB TY (eVar 12) (eLr2 (eVar 13) (eBin oCat (eVar 14) (eLit (.int 1))))) (envJ ns R W T v L x2 (some (.int k)) (some (.lst ((rng (lowE R W T v) (highE R T v + 1)).map .int))) (some (.lst ((rng (rlow W T k b) (rhigh W T b + 1)).map .int))) (some (.int (rlow W T k b))) (some (.int (rhigh W T b))) x15 x16 x17) S5 = .ok false S5 := by
    have hh : 0 ≤ rhigh W T b := by
      unfold rhigh
      have := Int.ediv_nonneg t0 (show (0 : Int) ≤ (b : Int) + 1 by omega)
      omega
    have hlo : rlow W T k b ≤ W := by
      obtain ⟨c, hc⟩ := List.exists_mem_of_ne_nil L hne
      have hl := hmem c hc
      have hk' : k < c.length := by omega
      have := (rk c[k]).mp ⟨c, hc, List.getElem?_eq_getElem hk'⟩
      omega
    have hok : okL (rlow W T k b) (rhigh W T b + 1) = true := by
      unfold okL
      simp only [Bool.and_eq_true, decide_eq_true_eq]
      omega
    refine tbl_val (k := false) (ne_flat (k := false) (v := .lst ((rng (rlow W T k b) (rhigh W T b + 1)).map .int)) rfl (lr2V (k := false) (k' := false) (i := rlow W T k b) (j := rhigh W T b + 1) rfl rfl hok) rfl ?_)
    rw [oNe_lst, decide_eq_true rfl]
    rfl
  obtain ⟨y15, y16, S6, d6, s10⟩ := loopJ n [] ns hn ha h1 h2 hne (fun c hc => by have := hmem c hc; omega) x2 (some (.int k)) (some (.lst ((rng (lowE R W T v) (highE R T v + 1)).map .int))) (some (.lst ((rng (rlow W T k b) (rhigh W T b + 1)).map .int))) (some (.int (rlow W T k b))) (some (.int (rhigh W T b))) x17 3 0 d5 x15 x16
  obtain ⟨S7, d7, g⟩ := greatV (n + 1) [] ns hn d6
  have s11 : tTru (eCall (callF TT (n + 7)) 1 21 (aCons (eVar 1) aNil)) (envJ ns R W T v L x2 (some (.int k)) (some (.lst ((rng (lowE R W T v) (highE R T v + 1)).map .int))) (some (.lst ((rng (rlow W T k b) (rhigh W T b + 1)).map .int))) (some (.int (rlow W T k b))) (some (.int (rhigh W T b))) y15 y16 x17) S6 = .ok true S7 := by
    have e : eCall (callF TT (n + 7)) 1 21 (aCons (eVar 1) aNil) (envJ ns R W T v L x2 (some (.int k)) (some (.lst ((rng (lowE R W T v) (highE R T v + 1)).map .int))) (some (.lst ((rng (rlow W T k b) (rhigh W T b + 1)).map .int))) (some (.int (rlow W T k b))) (some (.int (rhigh W T b))) y15 y16 x17) S6 = .ok (false, .bl true) S7 := by
      rw [q_call, args1 (k := false) (v := .ref 0) rfl, PX.R.bind_ok, if_pos (by rfl), g]
    exact ttru_st e
  have fin : bdL (callF TT (n + 7)) (envL ns x2 x3 x4 x5 x6 x7 x8 x9 x10 x11 x12 x13 x14 x15 x16 x17) S = .nx (envJ ns R W T v L x2 (some (.int k)) (some (.lst ((rng (lowE R W T v) (highE R T v + 1)).map .int))) (some (.lst ((rng (rlow W T k b) (rhigh W T b + 1)).map .int))) (some (.int (rlow W T k b))) (some (.int (rhigh W T b))) y15 y16 x17) S7 := by
    unfold bdL
    rw [q_scons, s1, RS.then_nx, q_scons, s2, RS.then_nx, q_scons, s3, RS.then_nx, q_scons, s4, RS.then_nx, q_scons, s5, RS.then_nx, q_scons, sif_val s6, if_neg (by simp)]
    rw [show ∀ env : Env, sNil env S5 = .nx env S5 from fun _ => rfl, RS.then_nx, q_scons, s7, RS.then_nx, q_scons, s8, RS.then_nx, q_scons, sif_val s9, if_neg (by simp)]
    rw [show ∀ env : Env, sNil env S5 = .nx env S5 from fun _ => rfl, RS.then_nx, q_scons, q_sfor, rg1_n (a := eLit (.int 3)) (k := false) (j := 3) rfl (by omega) (by omega), PX.R.go_ok]
    simp only [q_unl0]
    rw [show (3 : Int).toNat = 3 from rfl, s10, RS.then_nx]
    rw [sif_st (tno_st s11)]
    rfl
  exact ⟨_, _, _, _, _, _, _, _, _, _, _, _, _, _, _, S7, d7, fin⟩
end
end PX.K62
set_option linter.all false
set_option maxRecDepth 100000
set_option maxHeartbeats 2000000
namespace PX.K62
open PySem PX K62M
theorem turns (n : Nat) (ns : List Int) (hn : ns.length ≤ 63) : ∀ (m : Nat) (lo : Int) {S : Store} (hS : IsD ns [] S) (x2 x3 x4 x5 x6 x7 x8 x9 x10 x11 x12 x13 x14 x15 x16 x17 : Option PV),
    ∃ y2 y3 y4 y5 y6 y7 y8 y9 y10 y11 y12 y13 y14 y15 y16 y17 S', IsD ns [] S' ∧ forR (gNm 2) (bdL (callF TT (n + 7))) (rngL lo m) (envL ns x2 x3 x4 x5 x6 x7 x8 x9 x10 x11 x12 x13 x14 x15 x16 x17) S = .nx (envL ns y2 y3 y4 y5 y6 y7 y8 y9 y10 y11 y12 y13 y14 y15 y16 y17) S'
  | 0, lo, S, hS, x2, x3, x4, x5, x6, x7, x8, x9, x10, x11, x12, x13, x14, x15, x16, x17 => ⟨x2, x3, x4, x5, x6, x7, x8, x9, x10, x11, x12, x13, x14, x15, x16, x17, S, hS, rfl⟩
  | m + 1, lo, S, hS, x2, x3, x4, x5, x6, x7, x8, x9, x10, x11, x12, x13, x14, x15, x16, x17 => by
    obtain ⟨z3, z4, z5, z6, z7, z8, z9, z10, z11, z12, z13, z14, z15, z16, z17, S1, d1, e⟩ := turnL n ns hn hS (some (.int lo)) x3 x4 x5 x6 x7 x8 x9 x10 x11 x12 x13 x14 x15 x16 x17
    obtain ⟨y2, y3, y4, y5, y6, y7, y8, y9, y10, y11, y12, y13, y14, y15, y16, y17, S', d, ih⟩ := turns n ns hn m (lo + 1) d1 (some (.int lo)) z3 z4 z5 z6 z7 z8 z9 z10 z11 z12 z13 z14 z15 z16 z17
    refine ⟨y2, y3, y4, y5, y6, y7, y8, y9, y10, y11, y12, y13, y14, y15, y16, y17, S', d, ?_⟩
    have et : gNm 2 (.int lo) (envL ns x2 x3 x4 x5 x6 x7 x8 x9 x10 x11 x12 x13 x14 x15 x16 x17) S = some (envL ns (some (.int lo)) x3 x4 x5 x6 x7 x8 x9 x10 x11 x12 x13 x14 x15 x16 x17) := rfl
    rw [show rngL lo (m + 1) = .int lo :: rngL (lo + 1) m from rfl, q_forC]
    simp only [et, e]
    exact ih
theorem law_eval (ns : List Int) (h : ns.length ≤ 63) : ∃ S', callF TT 60 22 [.lst (ns.map .int)] 0 [] = .ok (.bl true) S' := by
  obtain ⟨y2, y3, y4, y5, y6, y7, y8, y9, y10, y11, y12, y13, y14, y15, y16, y17, S', d, e⟩ := turns 52 ns h 3 0 (S := [DD ns 0]) ⟨0, rfl⟩ none none none none none none none none none none none none none none none none
  refine ⟨S', ?_⟩
  rw [call_at (b := b22) [some (.lst (ns.map .int)), none, none, none, none, none, none, none, none, none, none, none, none, none, none, none, none, none] rfl rfl rfl]
  unfold b22
  dsimp only
  have h0 : sAsg (gNm 1) (eNew (eLst (aCons (eVar 0) (aCons (eLit (.int 0)) aNil)))) [some (.lst (ns.map .int)), none, none, none, none, none, none, none, none, none, none, none, none, none, none, none, none, none] [] = .nx (envL ns none none none none none none none none none none none none none none none none) [DD ns 0] := rfl
  unfold bdL bdJ at e
  rw [q_scons, h0, RS.then_nx, q_scons, q_sfor, rg1_n (a := eLit (.int 3)) (k := false) (j := 3) rfl (by omega) (by omega), R.go_ok]
  simp only [q_unl0]
  rw [show (3 : Int).toNat = 3 from rfl, e, RS.then_nx]
  rfl
end PX.K62
set_option Elab.async false
set_option linter.all false
set_option maxRecDepth 100000
set_option maxHeartbeats 0
open PySem PySem.W PySem.Calls PyProof.Rows PX PX.K62
theorem PySem.Challenge.cw_bucketsums_k62_whole_means_holds : PySem.Challenge.rw_bucketsums_k62_whole_means.Holds := by
  w_on; o_law
  refine HandSHeadRun.head_any (r := OpenLaw.row PySem.Challenge.rw_bucketsums_k62_whole_means) (q := view (OpenLaw.row PySem.Challenge.rw_bucketsums_k62_whole_means).prog [30]) (H := PX.K62.hk) (ob := PX.K62.ob) (M := 20000) (loose := ["SumError", "BadValue", "BadNumber", "BadSum", "MOST_VALUES", "is_number", "check_number", "MOST_ROWS", "check_known", "spread_over", "lowest_with", "highest_with", "row_with", "Ends", "check_asked", "ends_of", "at_least", "reach_both", "rank_values", "_law_number", "_law_take", "_law_pick", "_law_lines", "_law_reaching", "_law_shows", "_law_great_right"]) (d := HandSHeadRun.topDef (OpenLaw.row PySem.Challenge.rw_bucketsums_k62_whole_means).prog 30) (kwd := []) PX.K62.ob_eq
    (by kernel_rfl) (fun s => by kernel_rfl) PX.K62.run (by kernel_rfl) (by kernel_rfl) (by kernel_rfl) (by rfl) (by first | assumption | decide +kernel) (by decide +kernel) ⟨rfl, rfl, rfl, rfl, rfl, by decide +kernel⟩ ?hw ?hc
  case hw => w_witness2
  case hc =>
    refine L2.walk_ofE (l := PySem.Challenge.rw_bucketsums_k62_whole_means) (n := 63) (k := 2 * 60) (x := "_law_script") (CX := L2.CX0) rfl (by decide) (by kernel_rfl) ⟨rfl, by decide, by decide⟩ ?F (fun _ _ _ _ z => z)
    intro w mg fa h Y G hmg0
    obtain ⟨K, KX, c⟩ := Y
    have C : PX.K62.Ctx K h mg := ⟨KX, G, c⟩
    have hmg : mg ("law" : PySem.Str) = some (.ref fa) := by
      have e : (HandSHeadRun.topDef (OpenLaw.row PySem.Challenge.rw_bucketsums_k62_whole_means).prog 30).name = ("law" : PySem.Str) := by kernel_rfl
      rw [← e]
      exact hmg0
    have e := hmg.symm.trans (PX.K62.m_f_law C)
    cases e
    obtain ⟨fd, F⟩ := c.def_ 22 (d := PX.K62.d22) rfl
    have hb := L2.FunD.bindsA (ps := ["_law_script"]) F fun _ _ _ _ _ _ us hl => match us, hl with | [_], _ => rfl
    refine ⟨K, fd, PX.spF (PX.K62.GG K) (PX.callF PX.K62.TT 60) 22 1, KX, fun s u => hb s [u] rfl, fun H a ns hl _ hS => ?_, fun base kb nb => ?_⟩
    · obtain ⟨S', e⟩ := PX.K62.law_eval ns hl
      exact PX.law_sp c.nol hS e
    · exact PX.K62.lawOk ⟨kb, nb, c⟩ F
