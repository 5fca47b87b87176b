import PyProof.Rows.All
import Wide.All
import OpenK.AllK
import Wide.FinOn
import HandS.ForMost
import HandS.Flow
import HandS.Star
import HandS.Style
import HandS.Defaults
import KE.KTupSum
import KE.DataAny
import HandS.TupAny
import HandS.TupMul
import KE.DataMinMax
import PyProof.InstEq
import HandS.IsInst
import HandS.OwnEq
import HandS.SlotsOwn
import HandS.Words
import PyProof.InstNe
import HandS.Dict
import HandS.Finally
import HandS.More
import HandS.RaiseOp
import PyProof.ZipIter
import PyProof.Draws
import HandS.Zip0
import HandS.Zip
import HandS.Iter
import HandS.Comp
import HandS.SortInts
import KE.KStateDown
import HandS.Base
import HandS.Call
import HandS.Ends
import HandS.HeadEnd
import HandS.HeadHook1
import HandS.HeadHook2
import HandS.Codes
import HandS.Deep
import PyProof.ListNew
import KE.KDictZip
import HandS.Conv
import HandS.Small
import Lean
import HandS.Head0
import HandS.Head1
import HandS.Head2
import PySem.Challenge.RW_bucketsums_k03_whole_histograms
set_option Elab.async false
set_option linter.all false
set_option maxRecDepth 100000
/-! The evaluator: values as trees, a store for what is changed, total functions. -/
namespace PX
open PySem

inductive DK where
  | k (x : Sum Int Str)
  | t (xs : List (Sum Int Str))
  deriving DecidableEq

inductive DKs where
  | k (l : List (Sum Int Str))
  | t (l : List (List (Sum Int Str)))
  deriving DecidableEq

inductive PV where
  | non
  | bl (b : Bool)
  | int (i : Int)
  | str (s : Str)
  | tup (xs : List PV)
  | lst (xs : List PV)
  | dct (ks : DKs) (vs : List PV)
  | ins (c : Nat) (ns : List Nat) (vs : List PV)
  | ref (i : Nat)
  | lck (v : PV)

abbrev Store := List PV
abbrev Env := List (Option PV)

inductive R (α : Type) where
  | ok (a : α) (S : Store)
  | ex (c : Nat) (pl : List PV) (S : Store)
  | no

def R.bind {α β : Type} : R α → (α → Store → R β) → R β
  | .ok a S, k => k a S
  | .ex c p S, _ => .ex c p S
  | .no, _ => .no
@[simp] theorem R.bind_ok {α β : Type} (a : α) (S : Store) (k : α → Store → R β) : (R.ok a S).bind k = k a S := (rfl)
@[simp] theorem R.bind_ex {α β : Type} (c : Nat) (p : List PV) (S : Store) (k : α → Store → R β) : (R.ex c p S : R α).bind k = .ex c p S := (rfl)
@[simp] theorem R.bind_no {α β : Type} (k : α → Store → R β) : (R.no : R α).bind k = .no := (rfl)

/-! the object behind a value -/
def unl : PV → PV
  | .lck o => o
  | v => v
def deref (S : Store) : PV → Option PV
  | .ref i => match S[i]? with
    | some o => some (unl o)
    | none => none
  | v => some v

/-! what an expression does: a value (fresh: a new object that nobody else holds), the store behind -/
abbrev SE := Env → Store → R (Bool × PV)
abbrev SA := Env → Store → R (List PV)
/-! a test -/
abbrev ST := Env → Store → R Bool

end PX
namespace PX
open PySem
/-! ### expressions -/
def eLit (v : PV) : SE := fun _ S => .ok (false, v) S
def eVar (i : Nat) : SE := fun env S => match env[i]? with
  | some (some v) => .ok (false, v) S
  | _ => .no
abbrev Op1 := PV → Store → Option (Bool × PV)
abbrev Op2 := PV → PV → Store → Option (Bool × PV)
abbrev OpN := List PV → Store → Option (Bool × PV)
def ofO (o : Option (Bool × PV)) (S : Store) : R (Bool × PV) := match o with
  | some z => .ok z S
  | none => .no
def eUn (o : Op1) (a : SE) : SE := fun env S => (a env S).bind fun p S1 => ofO (o p.2 S1) S1
def eBin (o : Op2) (a b : SE) : SE := fun env S => (a env S).bind fun p S1 => (b env S1).bind fun q S2 => ofO (o p.2 q.2 S2) S2
def aNil : SA := fun _ S => .ok [] S
def aCons (a : SE) (r : SA) : SA := fun env S => (a env S).bind fun p S1 => (r env S1).bind fun q S2 => .ok (p.2 :: q) S2
def itemsOf (S : Store) (v : PV) : Option (List PV) := match deref S v with
  | some (.lst xs) => some xs
  | some (.tup xs) => some xs
  | _ => none
def aStar (a : SE) (r : SA) : SA := fun env S => (a env S).bind fun p S1 => match itemsOf S1 p.2 with
  | some xs => (r env S1).bind fun q S2 => .ok (xs ++ q) S2
  | none => .no
def eArg (o : OpN) (a : SA) : SE := fun env S => (a env S).bind fun p S1 => ofO (o p S1) S1
def small (n : Nat) : Bool := Nat.ble n 1000000
def eTup (a : SA) : SE := fun env S => (a env S).bind fun p S1 => if small p.length then .ok (false, .tup p) S1 else .no
def eLst (a : SA) : SE := fun env S => (a env S).bind fun p S1 => if small p.length then .ok (true, .lst p) S1 else .no
/-! truth -/
def truth (S : Store) (v : PV) : Option Bool := match deref S v with
  | some (.bl b) => some b
  | some (.int i) => some (i != 0)
  | some .non => some false
  | some (.lst xs) => some (!xs.isEmpty)
  | some (.tup xs) => some (!xs.isEmpty)
  | _ => none
def tTru (a : SE) : ST := fun env S => (a env S).bind fun p S1 => match truth S1 p.2 with
  | some b => .ok b S1
  | none => .no
/-! a value that is a bool -/
def tBl (a : SE) : ST := fun env S => (a env S).bind fun p S1 => match p.2 with
  | .bl b => .ok b S1
  | _ => .no
def tNo (a : ST) : ST := fun env S => (a env S).bind fun b S1 => .ok (!b) S1
def tAn (a b : ST) : ST := fun env S => (a env S).bind fun c S1 => if c = true then b env S1 else .ok false S1
def tOr (a b : ST) : ST := fun env S => (a env S).bind fun c S1 => if c = true then .ok true S1 else b env S1
def eAn (a b : SE) : SE := fun env S => (a env S).bind fun p S1 => match truth S1 p.2 with
  | some true => b env S1
  | some false => .ok (false, p.2) S1
  | none => .no
def eOr (a b : SE) : SE := fun env S => (a env S).bind fun p S1 => match truth S1 p.2 with
  | some true => .ok (false, p.2) S1
  | some false => b env S1
  | none => .no
def eNot (a : SE) : SE := fun env S => (a env S).bind fun p S1 => match truth S1 p.2 with
  | some b => .ok (false, .bl (!b)) S1
  | none => .no
def eIf (c : ST) (a b : SE) : SE := fun env S => (c env S).bind fun t S1 => if t = true then a env S1 else b env S1
/-! a op b op c -/
def eCh (o o' : Op2) (a b c : SE) : SE := fun env S => (a env S).bind fun p S1 => (b env S1).bind fun q S2 => match o p.2 q.2 S2 with
  | some (false, .bl true) => (c env S2).bind fun z S3 => ofO (o' q.2 z.2 S3) S3
  | some (false, .bl false) => .ok (false, .bl false) S2
  | _ => .no
/-! a new object goes to the store -/
def eNew (a : SE) : SE := fun env S => (a env S).bind fun p S1 => match p.1 with
  | true => .ok (false, .ref S1.length) (S1 ++ [p.2])
  | false => .ok p S1

/-! ### operators by values -/
def oAdd : Op2 := fun x y S => match x, y with
  | .int i, .int j => some (false, .int (i + j))
  | _, _ => none
def oSub : Op2 := fun x y _ => match x, y with
  | .int i, .int j => some (false, .int (i - j))
  | _, _ => none
def mulOk (i j : Int) : Bool := (decide (-18446744073709551616 < i) && decide (i < 18446744073709551616)) || (decide (-18446744073709551616 < j) && decide (j < 18446744073709551616))
def oMul : Op2 := fun x y _ => match x, y with
  | .int i, .int j => if mulOk i j then some (false, .int (i * j)) else none
  | _, _ => none
def oDiv : Op2 := fun x y _ => match x, y with
  | .int i, .int j => if 0 < j ∧ j < 1073741824 then some (false, .int (i / j)) else none
  | _, _ => none
def oMod : Op2 := fun x y _ => match x, y with
  | .int i, .int j => if 0 < j then some (false, .int (i % j)) else none
  | _, _ => none
def oNeg : Op1 := fun x _ => match x with
  | .int i => some (false, .int (-i))
  | _ => none
def oLt : Op2 := fun x y _ => match x, y with
  | .int i, .int j => some (false, .bl (decide (i < j)))
  | _, _ => none
def oLe : Op2 := fun x y _ => match x, y with
  | .int i, .int j => some (false, .bl (decide (i ≤ j)))
  | _, _ => none
def oGt : Op2 := fun x y _ => match x, y with
  | .int i, .int j => some (false, .bl (decide (j < i)))
  | _, _ => none
def oGe : Op2 := fun x y _ => match x, y with
  | .int i, .int j => some (false, .bl (decide (j ≤ i)))
  | _, _ => none
end PX
namespace PX
open PySem
/-! ### statements -/
inductive RS where
  | nx (env : Env) (S : Store)
  | rt (v : PV) (S : Store)
  | bk (env : Env) (S : Store)
  | ct (env : Env) (S : Store)
  | ex (c : Nat) (pl : List PV) (S : Store)
  | no
abbrev SS := Env → Store → RS
def R.go {α : Type} : R α → (α → Store → RS) → RS
  | .ok a S, k => k a S
  | .ex c p S, _ => .ex c p S
  | .no, _ => .no
@[simp] theorem R.go_ok {α : Type} (a : α) (S : Store) (k : α → Store → RS) : (R.ok a S).go k = k a S := (rfl)
@[simp] theorem R.go_ex {α : Type} (c : Nat) (p : List PV) (S : Store) (k : α → Store → RS) : (R.ex c p S : R α).go k = .ex c p S := (rfl)
@[simp] theorem R.go_no {α : Type} (k : α → Store → RS) : (R.no : R α).go k = .no := (rfl)
def RS.then : RS → (Env → Store → RS) → RS
  | .nx e S, k => k e S
  | z, _ => z
@[simp] theorem RS.then_nx (e : Env) (S : Store) (k : Env → Store → RS) : (RS.nx e S).then k = k e S := (rfl)
@[simp] theorem RS.then_rt (v : PV) (S : Store) (k : Env → Store → RS) : (RS.rt v S).then k = .rt v S := (rfl)
@[simp] theorem RS.then_bk (e : Env) (S : Store) (k : Env → Store → RS) : (RS.bk e S).then k = .bk e S := (rfl)
@[simp] theorem RS.then_ct (e : Env) (S : Store) (k : Env → Store → RS) : (RS.ct e S).then k = .ct e S := (rfl)
@[simp] theorem RS.then_ex (c : Nat) (p : List PV) (S : Store) (k : Env → Store → RS) : (RS.ex c p S).then k = .ex c p S := (rfl)
@[simp] theorem RS.then_no (k : Env → Store → RS) : RS.no.then k = .no := (rfl)
def sNil : SS := fun env S => .nx env S
def sCons (a b : SS) : SS := fun env S => (a env S).then b
def sExp (a : SE) : SS := fun env S => (a env S).go fun _ S1 => .nx env S1
def sRet (a : SE) : SS := fun env S => (a env S).go fun p S1 => .rt p.2 S1
def sRetN : SS := fun _ S => .rt .non S
def sBrk : SS := fun env S => .bk env S
def sCnt : SS := fun env S => .ct env S
def sNo : SS := fun _ _ => .no
def sIf (c : ST) (a b : SS) : SS := fun env S => (c env S).go fun t S1 => if t = true then a env S1 else b env S1
/-! targets -/
abbrev Tg := PV → Env → Store → Option Env
def gNm (i : Nat) : Tg := fun v env _ => some (env.set i (some v))
def gTps (ts : List Tg) : List PV → Env → Store → Option Env := fun vs env S => match ts, vs with
  | [], [] => some env
  | t :: ts, v :: vs => match t v env S with
    | some env' => gTps ts vs env' S
    | none => none
  | _, _ => none
def gTp (ts : List Tg) : Tg := fun v env S => match deref S v with
  | some (.tup xs) => gTps ts xs env S
  | _ => none
def sAsg (t : Tg) (a : SE) : SS := fun env S => (a env S).go fun p S1 => match t p.2 env S1 with
  | some env' => .nx env' S1
  | none => .no
/-! a, b = x, y; a, b, c = x, y, z -/
def sPar (is : List Nat) (a : SA) : SS := fun env S => (a env S).go fun vs S1 => match gTps (is.map gNm) vs env S1 with
  | some env' => .nx env' S1
  | none => .no
def sAug (i : Nat) (o : Op2) (a : SE) : SS := fun env S => match env[i]? with
  | some (some x) => (a env S).go fun p S1 => match o x p.2 S1 with
    | some z => .nx (env.set i (some z.2)) S1
    | none => .no
  | _ => .no
/-! what a loop walks: the items; the lists of the store that are locked meanwhile, with what they are -/
abbrev SI := Env → Store → R (List PV × List (Nat × PV))
def unlock : List (Nat × PV) → Store → Store
  | [], S => S
  | p :: r, S => unlock r (S.set p.1 p.2)
def RS.unl (ls : List (Nat × PV)) : RS → RS
  | .nx e S => .nx e (unlock ls S)
  | .rt v S => .rt v (unlock ls S)
  | .bk e S => .bk e (unlock ls S)
  | .ct e S => .ct e (unlock ls S)
  | .ex c p S => .ex c p (unlock ls S)
  | .no => .no
def forR (t : Tg) (b : SS) : List PV → Env → Store → RS
  | [], env, S => .nx env S
  | x :: xs, env, S => match t x env S with
    | none => .no
    | some env' => match b env' S with
      | .nx e S' => forR t b xs e S'
      | .ct e S' => forR t b xs e S'
      | .bk e S' => .nx e S'
      | z => z
def sFor (i : SI) (t : Tg) (b : SS) : SS := fun env S => (i env S).go fun p S1 => (forR t b p.1 env S1).unl p.2
def whileR (c : ST) (b : SS) : Nat → Env → Store → RS
  | 0, _, _ => .no
  | n + 1, env, S => (c env S).go fun t S1 => if t = true then
      match b env S1 with
      | .nx e S' => whileR c b n e S'
      | .ct e S' => whileR c b n e S'
      | .bk e S' => .nx e S'
      | z => z
    else .nx env S1
def sWhl (n : Nat) (c : ST) (b : SS) : SS := whileR c b n
end PX
namespace PX
open PySem
/-! ### calls -/
abbrev CF := Nat → List PV → Nat → Store → R PV
structure FnB where
  np : Nat
  nl : Nat
  body : CF → Nat → SS
def runB (b : FnB) (cf : CF) (args : List PV) (n0 : Nat) (S : Store) : R PV := if args.length = b.np then
    match b.body cf n0 (args.map some ++ List.replicate (b.nl - b.np) none) S with
    | .rt v S' => .ok v S'
    | .nx _ S' => .ok .non S'
    | .ex c p S' => .ex c p S'
    | _ => .no
  else .no
def callF (T : Nat → Option FnB) : Nat → CF
  | 0 => fun _ _ _ _ => .no
  | n + 1 => fun f args n0 S => match T f with
    | some b => runB b (callF T n) args n0 S
    | none => .no
/-! what was new in a call is frozen, and leaves the store -/
def frzL (f : PV → Option PV) : List PV → Option (List PV)
  | [] => some []
  | v :: vs => match f v with
    | some w => match frzL f vs with
      | some ws => some (w :: ws)
      | none => none
    | none => none
def frzO (f : PV → Option PV) : PV → Option PV
  | .lst xs => (frzL f xs).map .lst
  | .dct ks vs => (frzL f vs).map (.dct ks)
  | .ins c ns vs => (frzL f vs).map (.ins c ns)
  | _ => none
def frz (n0 t : Nat) (S : Store) : Nat → PV → Option PV
  | 0, _ => none
  | k + 1, v => match v with
    | .ref i => if i < n0 then some (.ref i) else if i = t then none else match S[i]? with
      | some o => frzO (frz n0 t S k) o
      | none => none
    | .tup xs => (frzL (frz n0 t S k) xs).map .tup
    | .lst xs => (frzL (frz n0 t S k) xs).map .lst
    | .dct ks vs => (frzL (frz n0 t S k) vs).map (.dct ks)
    | .ins c ns vs => (frzL (frz n0 t S k) vs).map (.ins c ns)
    | .lck _ => none
    | w => some w
def norm (n0 : Nat) (v : PV) (S : Store) : R (Bool × PV) := if S.length = n0 then .ok (false, v) S else match v with
  | .ref i => if i < n0 then .ok (false, .ref i) (S.take n0) else match S[i]? with
    | some o => match frzO (frz n0 i S 8) o with
      | some w => .ok (true, w) (S.take n0)
      | none => .no
    | none => .no
  | v => match frz n0 S.length S 8 v with
    | some w => .ok (false, w) (S.take n0)
    | none => .no
def cutX {α : Type} (n0 : Nat) : R α → R α
  | .ex c p S => .ex c p (S.take n0)
  | z => z
def eCall (cf : CF) (np f : Nat) (a : SA) : SE := fun env S => (a env S).bind fun args S1 => if args.length = np then (cutX S1.length (cf f args S1.length S1)).bind fun v S2 => norm S1.length v S2 else .no
/-! C(..): the new instance goes to the store while __init__ runs -/
def eMake (cf : CF) (np c f : Nat) (a : SA) : SE := fun env S => (a env S).bind fun args S1 => if args.length + 1 = np then
    (cutX S1.length (cf f (.ref S1.length :: args) S1.length (S1 ++ [.ins c [] []]))).bind fun v S2 => match v with
      | .non => norm S1.length (.ref S1.length) S2
      | _ => .no
  else .no
/-! o.m(..): the table by classes -/
def methOf (m : Nat) (T : List (Nat × Nat)) (S : Store) (v : PV) : Option Nat := match deref S v with
  | some (.ins c ns _) => if ns.contains m then none else T.lookup c
  | _ => none
def eMeth (cf : CF) (np m : Nat) (T : List (Nat × Nat)) (o : SE) (a : SA) : SE := fun env S => (o env S).bind fun p S0 => match methOf m T S0 p.2 with
  | some f => (a env S0).bind fun args S1 => if args.length + 1 = np then (cutX S1.length (cf f (p.2 :: args) S1.length S1)).bind fun v S2 => norm S1.length v S2 else .no
  | none => .no
/-! o.f -/
def fldOf (cs : List Nat) (f : Nat) (S : Store) (v : PV) : Option PV := match deref S v with
  | some (.ins c ns vs) => if cs.contains c then (ns.zip vs).lookup f else none
  | _ => none
def eFld (cs : List Nat) (f : Nat) (a : SE) : SE := eUn (fun v S => (fldOf cs f S v).map fun w => (false, w)) a
/-! o.f = e -/
def noref : PV → Bool
  | .non => true
  | .bl _ => true
  | .int _ => true
  | .str _ => true
  | .tup xs => norefL xs
  | .lst xs => norefL xs
  | .dct _ vs => norefL vs
  | .ins _ _ vs => norefL vs
  | .ref _ => false
  | .lck _ => false
where norefL : List PV → Bool
  | [] => true
  | v :: vs => noref v && norefL vs
def mayPut (n0 i : Nat) (v : PV) : Bool := Nat.ble n0 i || noref v
def putFld (f : Nat) (v : PV) : List Nat → List PV → List Nat × List PV
  | n :: ns, w :: ws => if n = f then (n :: ns, v :: ws) else let z := putFld f v ns ws; (n :: z.1, w :: z.2)
  | _, _ => ([f], [v])
def sFld (n0 : Nat) (cs : List Nat) (f : Nat) (o e : SE) : SS := fun env S => (e env S).go fun p S1 => (o env S1).go fun q S2 => match q.2 with
  | .ref i => match S2[i]? with
    | some (.ins c ns vs) => if cs.contains c && mayPut n0 i p.2 && Nat.ble ns.length 100 then .nx env (S2.set i (.ins c (putFld f p.2 ns vs).1 (putFld f p.2 ns vs).2)) else .no
    | _ => .no
  | _ => .no
end PX
set_option Elab.async false
set_option linter.all false
set_option maxRecDepth 100000
namespace PX
open PySem PySem.Spec PyProof.Rows L2

/-! where functions and classes stand, the attributes' names -/
structure Gam where
  K : PySem.W.Frag
  fa : Nat → Addr
  ca : Nat → Addr
  nm : Nat → Str

/-! a dict: its keys all of one kind -/
def DR (ho : HO) (ks : DKs) (us : List V) : Prop := match ks with
  | .k kk => ho = .dK (kk.zip us) ∧ kk.length = us.length
  | .t kt => ho = .dT (kt.zip us) ∧ kt.length = us.length

mutual
def RV (G : Gam) (F : Hp) (r : List Addr) : PV → V → Prop
  | .non, u => u = .non
  | .bl b, u => u = .bl b
  | .int i, u => u = .int i
  | .str x, u => u = .str x
  | .tup xs, u => ∃ a us, u = .ref a ∧ F a = some (.tup us) ∧ RVs G F r xs us
  | .lst xs, u => ∃ a us, u = .ref a ∧ Rd F a (.lst us) ∧ RVs G F r xs us
  | .dct ks vs, u => ∃ a us ho, u = .ref a ∧ F a = some ho ∧ DR ho ks us ∧ RVs G F r vs us
  | .ins c ns vs, u => ∃ a dx us, u = .ref a ∧ F a = some (.ins (G.ca c) dx ((ns.map G.nm).zip us)) ∧ ns.length = us.length ∧ RVs G F r vs us
  | .ref i, u => ∃ a, r[i]? = some a ∧ u = .ref a
  | .lck _, _ => False
def RVs (G : Gam) (F : Hp) (r : List Addr) : List PV → List V → Prop
  | [], us => us = []
  | v :: vs, us => ∃ u ur, us = u :: ur ∧ RV G F r v u ∧ RVs G F r vs ur
end

/-! an object of the store -/
def RO (G : Gam) (F : Hp) (r : List Addr) (v : PV) (ho : HO) : Prop := match unl v with
  | .lst xs => ∃ us, ho = .lst us ∧ RVs G F r xs us
  | .dct ks vs => ∃ us, DR ho ks us ∧ RVs G F r vs us
  | .ins c ns vs => ∃ dx us, ho = .ins (G.ca c) dx ((ns.map G.nm).zip us) ∧ ns.length = us.length ∧ RVs G F r vs us
  | _ => False

def Le (F F' : Hp) : Prop := ∀ a o, F a = some o → F' a = some o
theorem Le.refl (F : Hp) : Le F F := fun _ _ e => e
theorem Le.trans {F F' F2 : Hp} (h : Le F F') (k : Le F' F2) : Le F F2 := fun a o e => k a o (h a o e)
theorem Le.sqT {K : PySem.W.Frag} {F F' : Hp} (h : Le F F') {a : Addr} {us : List V} (q : SqT K F a us) : SqT K F' a us := by
  rcases q with (q | ⟨o, q⟩) | q
  · exact .inl (.inl (h _ _ q))
  · exact .inl (.inr ⟨o, h _ _ q⟩)
  · exact .inr q
theorem Le.tp {K : PySem.W.Frag} {F F' : Hp} (h : Le F F') {a : Addr} {us : List V} (q : F a = some (.tup us)) : SqT K F' a us := .inl (.inl (h _ _ q))
theorem Le.sqL {K : PySem.W.Frag} {F F' : Hp} (h : Le F F') {a : Addr} {us : List V} (q : SqL K F a us) : SqL K F' a us := by
  rcases q with (q | ⟨o, q⟩) | q
  · exact .inl (.inl (h _ _ q))
  · exact .inl (.inr ⟨o, h _ _ q⟩)
  · exact .inr q

theorem Le.rd {F F' : Hp} (h : Le F F') {a : Addr} {o : HO} (q : Rd F a o) : Rd F' a o := by
  rcases q with q | ⟨z, q⟩
  · exact .inl (h _ _ q)
  · exact .inr ⟨z, h _ _ q⟩
mutual
theorem RV.mono {G : Gam} {F F' : Hp} {r r' : List Addr} (h : Le F F') (p : ∀ (i : Nat) a, r[i]? = some a → r'[i]? = some a) : ∀ (v : PV) (u : V), RV G F r v u → RV G F' r' v u
  | .non, _, q => q
  | .bl _, _, q => q
  | .int _, _, q => q
  | .str _, _, q => q
  | .tup xs, _, q => by
    obtain ⟨a, us, e, s, k⟩ := q
    exact ⟨a, us, e, h _ _ s, RVs.mono h p xs us k⟩
  | .lst xs, _, q => by
    obtain ⟨a, us, e, s, k⟩ := q
    exact ⟨a, us, e, h.rd s, RVs.mono h p xs us k⟩
  | .dct ks vs, _, q => by
    obtain ⟨a, us, ho, e, s, d, k⟩ := q
    exact ⟨a, us, ho, e, h _ _ s, d, RVs.mono h p vs us k⟩
  | .ins c ns vs, _, q => by
    obtain ⟨a, dx, us, e, s, d, k⟩ := q
    exact ⟨a, dx, us, e, h _ _ s, d, RVs.mono h p vs us k⟩
  | .ref i, _, q => by
    obtain ⟨a, e, k⟩ := q
    exact ⟨a, p i a e, k⟩
  | .lck _, _, q => q.elim
theorem RVs.mono {G : Gam} {F F' : Hp} {r r' : List Addr} (h : Le F F') (p : ∀ (i : Nat) a, r[i]? = some a → r'[i]? = some a) : ∀ (vs : List PV) (us : List V), RVs G F r vs us → RVs G F' r' vs us
  | [], _, q => q
  | v :: vs, _, q => by
    obtain ⟨u, ur, e, k, l⟩ := q
    exact ⟨u, ur, e, RV.mono h p v u k, RVs.mono h p vs ur l⟩
end
theorem RO.mono {G : Gam} {F F' : Hp} {r r' : List Addr} (h : Le F F') (p : ∀ (i : Nat) a, r[i]? = some a → r'[i]? = some a) {v : PV} {ho : HO} (q : RO G F r v ho) : RO G F' r' v ho := by
  unfold RO at q ⊢
  split at q
  · obtain ⟨us, e, k⟩ := q
    exact ⟨us, e, RVs.mono h p _ us k⟩
  · obtain ⟨us, e, k⟩ := q
    exact ⟨us, e, RVs.mono h p _ us k⟩
  · obtain ⟨dx, us, e, l, k⟩ := q
    exact ⟨dx, us, e, l, RVs.mono h p _ us k⟩
  · exact q.elim
theorem RVs.length {G : Gam} {F : Hp} {r : List Addr} : ∀ {vs : List PV} {us : List V}, RVs G F r vs us → vs.length = us.length
  | [], _, q => by
    have e := (show _ = [] from q)
    rw [e]; rfl
  | v :: vs, _, q => by
    obtain ⟨u, ur, e, k, l⟩ := q
    rw [e, List.length_cons, List.length_cons, RVs.length l]
theorem RVs.get {G : Gam} {F : Hp} {r : List Addr} : ∀ {vs : List PV} {us : List V} {i : Nat} {v : PV}, RVs G F r vs us → vs[i]? = some v → ∃ u, us[i]? = some u ∧ RV G F r v u
  | [], _, i, v, q, e => by simp at e
  | w :: vs, _, 0, v, q, e => by
    obtain ⟨u, ur, rfl, k, l⟩ := q
    simp at e; subst e
    exact ⟨u, by simp, k⟩
  | w :: vs, _, i + 1, v, q, e => by
    obtain ⟨u, ur, rfl, k, l⟩ := q
    obtain ⟨u', h1, h2⟩ := RVs.get (i := i) (v := v) l (by simpa using e)
    exact ⟨u', by simpa using h1, h2⟩
theorem RVs.append {G : Gam} {F : Hp} {r : List Addr} : ∀ {vs : List PV} {us : List V} {ws : List PV} {zs : List V}, RVs G F r vs us → RVs G F r ws zs → RVs G F r (vs ++ ws) (us ++ zs)
  | [], _, ws, zs, q, k => by
    have e := (show _ = [] from q)
    subst e
    exact k
  | v :: vs, _, ws, zs, q, k => by
    obtain ⟨u, ur, rfl, h, l⟩ := q
    exact ⟨u, ur ++ zs, rfl, h, RVs.append l k⟩
theorem RVs.set {G : Gam} {F : Hp} {r : List Addr} {x : PV} {y : V} (h : RV G F r x y) : ∀ {vs : List PV} {us : List V} (i : Nat), RVs G F r vs us → RVs G F r (vs.set i x) (us.set i y)
  | [], _, i, q => by
    have e := (show _ = [] from q)
    subst e
    exact rfl
  | v :: vs, _, 0, q => by
    obtain ⟨u, ur, rfl, k, l⟩ := q
    exact ⟨y, ur, rfl, h, l⟩
  | v :: vs, _, i + 1, q => by
    obtain ⟨u, ur, rfl, k, l⟩ := q
    exact ⟨u, ur.set i y, rfl, k, RVs.set h i l⟩
theorem RVs.ints {G : Gam} {F : Hp} {r : List Addr} : ∀ {ns : List Int} {us : List V}, RVs G F r (ns.map PV.int) us → us = ns.map V.int
  | [], _, q => q
  | n :: ns, _, q => by
    obtain ⟨u, ur, rfl, k, l⟩ := q
    have e : u = V.int n := k
    rw [e, RVs.ints l]
    rfl
theorem RVs.of_ints {G : Gam} {F : Hp} {r : List Addr} : ∀ (ns : List Int), RVs G F r (ns.map PV.int) (ns.map V.int)
  | [] => rfl
  | n :: ns => ⟨_, _, rfl, rfl, RVs.of_ints ns⟩

/-! what an object of the store may lean on -/
def lim (n0 : Nat) (L : Nat → Nat) (r : List Addr) (i : Nat) : List Addr := if i < n0 then r.take (L i) else r
/-! what the frame knows besides: the callers' limits, objects that stand still -/
structure Gh where
  L : Nat → Nat
  pn : Hp
  lk : Addr → Bool

structure HR (G : Gam) (n0 : Nat) (g : Gh) (F : Hp) (r : List Addr) (S : Store) (H : Hp) : Prop where
  sub : Le F H
  nd : r.Nodup
  off : ∀ a ∈ r, F a = none
  len : r.length = S.length
  nle : n0 ≤ S.length
  lle : ∀ i : Nat, i < n0 → g.L i ≤ n0
  obj : ∀ (i : Nat) ob a, S[i]? = some ob → r[i]? = some a → ∃ ho, H a = some ho ∧ RO G F (lim n0 g.L r i) ob ho
  pin : ∀ a o, g.pn a = some o → H a = some o ∧ F a = none ∧ ∀ i : Nat, r[i]? = some a → ∃ ob, S[i]? = some (.lck ob)
  lckd : ∀ (i : Nat) ob a, S[i]? = some (.lck ob) → r[i]? = some a → ∃ o, g.pn a = some o
  out : ∀ a o, g.pn a = some o → g.lk a = false → a ∉ r
/-! with the locals -/
structure Sg (G : Gam) (n0 : Nat) (g : Gh) (F : Hp) (r : List Addr) (env : Env) (σ : L2.St) (S : Store) (H : Hp) : Prop where
  hr : HR G n0 g F r S H
  sl : env.length = σ.length
  vr : ∀ (i : Nat) v, env[i]? = some (some v) → ∃ u, σ[i]? = some (some u) ∧ RV G F r v u

def Ext (F F' : Hp) (r r' : List Addr) : Prop := Le F F' ∧ r <+: r'
theorem Ext.refl (F : Hp) (r : List Addr) : Ext F F r r := ⟨Le.refl F, List.prefix_refl r⟩
theorem Ext.trans {F F' F2 : Hp} {r r' r2 : List Addr} (h : Ext F F' r r') (k : Ext F' F2 r' r2) : Ext F F2 r r2 := ⟨h.1.trans k.1, h.2.trans k.2⟩
theorem at_of {r r' : List Addr} (h : r <+: r') : ∀ (i : Nat) a, r[i]? = some a → r'[i]? = some a := fun i a e => by
  obtain ⟨t, rfl⟩ := h
  have hi := (List.getElem?_eq_some_iff.mp e).1
  rw [List.getElem?_append_left hi]
  exact e
theorem Ext.at_ {F F' : Hp} {r r' : List Addr} (h : Ext F F' r r') : ∀ (i : Nat) a, r[i]? = some a → r'[i]? = some a := at_of h.2
theorem lim_le (n0 : Nat) (L : Nat → Nat) (r : List Addr) (i : Nat) : lim n0 L r i <+: r := by
  unfold lim
  split
  · exact List.take_prefix _ _
  · exact List.prefix_refl r
theorem lim_mono {n0 : Nat} {L : Nat → Nat} {r r' : List Addr} (h : r <+: r') (i : Nat) : ∀ (j : Nat) a, (lim n0 L r i)[j]? = some a → (lim n0 L r' i)[j]? = some a := fun j b e => by
  unfold lim at e ⊢
  split at e
  · rename_i hn
    rw [if_pos hn]
    rw [List.getElem?_take] at e ⊢
    split at e
    · rename_i hj
      rw [if_pos hj]
      exact at_of h j b e
    · cases e
  · rename_i hn
    rw [if_neg hn]
    exact at_of h j b e
theorem RV.ext {G : Gam} {F F' : Hp} {r r' : List Addr} (h : Ext F F' r r') {v : PV} {u : V} (q : RV G F r v u) : RV G F' r' v u := RV.mono h.1 h.at_ v u q
theorem RVs.ext {G : Gam} {F F' : Hp} {r r' : List Addr} (h : Ext F F' r r') {v : List PV} {u : List V} (q : RVs G F r v u) : RVs G F' r' v u := RVs.mono h.1 h.at_ v u q
theorem Sg.ext {G : Gam} {n0 : Nat} {g : Gh} {F F' : Hp} {r r' : List Addr} {env : Env} {σ : L2.St} {S S' : Store} {H H' : Hp} (s : Sg G n0 g F r env σ S H) (h : Ext F F' r r') (k : HR G n0 g F' r' S' H') : Sg G n0 g F' r' env σ S' H' :=
  ⟨k, s.sl, fun i v e => let ⟨u, h1, h2⟩ := s.vr i v e; ⟨u, h1, h2.ext h⟩⟩

/-! a result's value: fresh, or any -/
def RF (G : Gam) (g : Gh) (F : Hp) (r : List Addr) (H : Hp) (b : Bool) (v : PV) (u : V) : Prop := match b with
  | true => ∃ a ho, u = .ref a ∧ H a = some ho ∧ F a = none ∧ a ∉ r ∧ g.pn a = none ∧ RO G F r v ho ∧ unl v = v
  | false => RV G F r v u

section
variable {G : Gam} {n0 : Nat} {g : Gh} {F : Hp} {r : List Addr} {S : Store} {H : Hp}
theorem Le.upd {a : Addr} {ho : HO} (hF : F a = none) : Le F (L2.upd F a ho) := fun b o e => by
  rw [upd_ne (fun z => by rw [z, hF] at e; cases e)]
  exact e
theorem HR.nopin (h : HR G n0 g F r S H) {i : Nat} {a : Addr} {ob : PV} (e1 : r[i]? = some a) (e2 : S[i]? = some ob) (hu : unl ob = ob) : g.pn a = none := by
  cases e : g.pn a with
  | none => rfl
  | some o =>
    obtain ⟨ob', q⟩ := (h.pin a o e).2.2 i e1
    rw [e2] at q
    cases q
    have e4 : ob' = .lck ob' := hu
    exact absurd e4 (by intro z; have := congrArg sizeOf z; simp at this)
theorem HR.mem (h : HR G n0 g F r S H) {a : Addr} (ha : a ∈ r) : ∃ ho, H a = some ho := by
  obtain ⟨i, hi, e⟩ := List.getElem_of_mem ha
  have hs : i < S.length := by rw [← h.len]; exact hi
  obtain ⟨ho, q, _⟩ := h.obj i S[i] a (List.getElem?_eq_getElem hs) (by rw [List.getElem?_eq_getElem hi, e])
  exact ⟨ho, q⟩
theorem HR.noF (h : HR G n0 g F r S H) {a : Addr} (ha : H a = none) : F a = none := by
  cases e : F a with
  | none => rfl
  | some o =>
    rw [h.sub a o e] at ha
    cases ha
theorem HR.nor (h : HR G n0 g F r S H) {a : Addr} (ha : H a = none) : a ∉ r := fun hm => by
  obtain ⟨ho, e⟩ := h.mem hm
  rw [e] at ha
  cases ha
theorem HR.nop (h : HR G n0 g F r S H) {a : Addr} (ha : H a = none) : g.pn a = none := by
  cases e : g.pn a with
  | none => rfl
  | some o =>
    rw [(h.pin a o e).1] at ha
    cases ha
/-! a heap that keeps what is told of -/
theorem HR.heap {H' : Hp} (h : HR G n0 g F r S H) (k : ∀ a o, H a = some o → H' a = some o) : HR G n0 g F r S H' :=
  ⟨fun a o e => k a o (h.sub a o e), h.nd, h.off, h.len, h.nle, h.lle, fun i ob a e1 e2 => let ⟨ho, q, z⟩ := h.obj i ob a e1 e2; ⟨ho, k _ _ q, z⟩, fun a o e => let ⟨q, z⟩ := h.pin a o e; ⟨k _ _ q, z⟩, h.lckd, h.out⟩
/-! more is known to stand still -/
theorem HR.grow {a : Addr} {ho : HO} (h : HR G n0 g F r S H) (hH : H a = some ho) (hF : F a = none) (hr : a ∉ r) (hp : g.pn a = none) : HR G n0 g (L2.upd F a ho) r S H := by
  refine ⟨fun b o e => ?_, h.nd, fun b hb => ?_, h.len, h.nle, h.lle, fun i ob c e1 e2 => ?_, fun b o e => ?_, h.lckd, h.out⟩
  · by_cases hb : b = a
    · subst hb
      rw [upd_same] at e
      rw [hH]; exact e
    · rw [upd_ne hb] at e
      exact h.sub b o e
  · rw [upd_ne (fun z => hr (by rw [← z]; exact hb))]
    exact h.off b hb
  · obtain ⟨o, h1, h2⟩ := h.obj i ob c e1 e2
    exact ⟨o, h1, RO.mono (Le.upd hF) (fun _ _ e => e) h2⟩
  · obtain ⟨q1, q2, q3⟩ := h.pin b o e
    refine ⟨q1, ?_, q3⟩
    rw [upd_ne (fun z => by rw [z, hp] at e; cases e)]
    exact q2
/-! a fresh object is left as it is from now on -/
theorem freeze {b : Bool} {v : PV} {u : V} (h : HR G n0 g F r S H) (q : RF G g F r H b v u) : ∃ F', Ext F F' r r ∧ HR G n0 g F' r S H ∧ RV G F' r v u := by
  cases b with
  | false => exact ⟨F, .refl F r, h, q⟩
  | true =>
    obtain ⟨a, ho, rfl, hH, hF, hr, hp, ro, hu⟩ := q
    refine ⟨L2.upd F a ho, ⟨Le.upd hF, List.prefix_refl r⟩, h.grow hH hF hr hp, ?_⟩
    have ro' : RO G (L2.upd F a ho) r v ho := RO.mono (Le.upd hF) (fun _ _ e => e) ro
    unfold RO at ro'
    rw [hu] at ro'
    split at ro'
    · obtain ⟨us, rfl, k⟩ := ro'
      exact ⟨a, us, rfl, .inl upd_same, k⟩
    · obtain ⟨us, d, k⟩ := ro'
      exact ⟨a, us, ho, rfl, upd_same, d, k⟩
    · obtain ⟨dx, us, rfl, l, k⟩ := ro'
      exact ⟨a, dx, us, rfl, upd_same, l, k⟩
    · exact ro'.elim
/-! a fresh object is held by the store -/
theorem store_new {v : PV} {u : V} (h : HR G n0 g F r S H) (q : RF G g F r H true v u) : ∃ r', Ext F F r r' ∧ HR G n0 g F r' (S ++ [v]) H ∧ RV G F r' (.ref S.length) u := by
  obtain ⟨a, ho, rfl, hH, hF, hr, hp, ro, hu⟩ := q
  have ex : Ext F F r (r ++ [a]) := ⟨.refl F, List.prefix_append r [a]⟩
  refine ⟨r ++ [a], ex, ⟨h.sub, ?_, fun b hb => ?_, by simp [h.len], by rw [List.length_append]; exact Nat.le_trans h.nle (Nat.le_add_right _ _), h.lle, fun i ob c e1 e2 => ?_, fun b o e => ?_, fun i ob c e1 e2 => ?_, fun b o e el hb => ?_⟩, ⟨a, ?_, rfl⟩⟩
  · rw [List.nodup_append]
    refine ⟨h.nd, by simp, fun x hx y hy e => ?_⟩
    have : y = a := by simpa using hy
    exact hr (by rw [← this, ← e]; exact hx)
  · rcases List.mem_append.mp hb with hb | hb
    · exact h.off b hb
    · have : b = a := by simpa using hb
      rw [this]; exact hF
  · by_cases hi : i < S.length
    · rw [List.getElem?_append_left hi] at e1
      rw [List.getElem?_append_left (by rw [h.len]; exact hi)] at e2
      obtain ⟨o, h1, h2⟩ := h.obj i ob c e1 e2
      exact ⟨o, h1, RO.mono (.refl F) (lim_mono ex.2 i) h2⟩
    · have hi' : i = S.length := by
        have := (List.getElem?_eq_some_iff.mp e1).1
        rw [List.length_append, List.length_singleton] at this
        omega
      subst hi'
      rw [List.getElem?_append_right (Nat.le_refl _)] at e1
      rw [← h.len, List.getElem?_append_right (Nat.le_refl _)] at e2
      simp at e1 e2
      subst e1 e2
      refine ⟨ho, hH, ?_⟩
      unfold lim
      rw [if_neg (by have := h.nle; omega)]
      exact RO.mono (.refl F) ex.at_ ro
  · obtain ⟨q1, q2, q3⟩ := h.pin b o e
    refine ⟨q1, q2, fun i hm => ?_⟩
    by_cases hi : i < r.length
    · rw [List.getElem?_append_left hi] at hm
      obtain ⟨ob, hb⟩ := q3 i hm
      exact ⟨ob, by rw [List.getElem?_append_left (by rw [← h.len]; exact hi)]; exact hb⟩
    · have : b = a := by
        rw [List.getElem?_append_right (by omega)] at hm
        have := List.mem_of_getElem? hm
        simpa using this
      rw [this, hp] at e
      cases e
  · by_cases hi : i < S.length
    · rw [List.getElem?_append_left hi] at e1
      rw [List.getElem?_append_left (by rw [h.len]; exact hi)] at e2
      exact h.lckd i ob c e1 e2
    · rw [List.getElem?_append_right (by omega)] at e1
      have := List.mem_of_getElem? e1
      have e3 : PV.lck ob = v := by simpa using this
      rw [← e3] at hu ro
      have e4 : ob = .lck ob := hu
      exact absurd e4 (by intro z; have := congrArg sizeOf z; simp at this)
  · rcases List.mem_append.mp hb with hb | hb
    · exact h.out b o e el hb
    · have : b = a := by simpa using hb
      rw [this, hp] at e
      cases e
  · rw [← h.len, List.getElem?_append_right (Nat.le_refl _)]
    simp
/-! a new object -/
theorem new_obj {p : Addr} {ho : HO} {v : PV} (h : HR G n0 g F r S H) (hp : H p = none) (ro : RO G F r v ho) (hu : unl v = v) : HR G n0 g F r S (L2.upd H p ho) ∧ RF G g F r (L2.upd H p ho) true v (.ref p) :=
  ⟨h.heap fun a o e => by rw [upd_ne (ne_of_none e hp)]; exact e, ⟨p, ho, rfl, upd_same, h.noF hp, h.nor hp, h.nop hp, ro, hu⟩⟩
/-! a new tuple -/
theorem new_tup {p : Addr} {xs : List PV} {us : List V} (h : HR G n0 g F r S H) (hp : H p = none) (q : RVs G F r xs us) : ∃ F', Ext F F' r r ∧ HR G n0 g F' r S (L2.upd H p (.tup us)) ∧ RV G F' r (.tup xs) (.ref p) := by
  have h1 : HR G n0 g F r S (L2.upd H p (.tup us)) := h.heap fun a o e => by rw [upd_ne (ne_of_none e hp)]; exact e
  have x : Ext F (L2.upd F p (.tup us)) r r := ⟨Le.upd (h.noF hp), List.prefix_refl r⟩
  exact ⟨_, x, h1.grow upd_same (h.noF hp) (h.nor hp) (h.nop hp), ⟨p, us, rfl, upd_same, q.ext x⟩⟩

/-! ### what a value is -/
theorem HR.ref (h : HR G n0 g F r S H) {i : Nat} {u : V} {ob : PV} (q : RV G F r (.ref i) u) (e : S[i]? = some ob) : ∃ a ho, u = .ref a ∧ r[i]? = some a ∧ H a = some ho ∧ RO G F r ob ho := by
  obtain ⟨a, e1, rfl⟩ := q
  obtain ⟨ho, h1, h2⟩ := h.obj i ob a e e1
  exact ⟨a, ho, rfl, e1, h1, RO.mono (.refl F) (at_of (lim_le n0 g.L r i)) h2⟩
theorem RO.unl_ {v : PV} {ho : HO} (q : RO G F r v ho) : RO G F r (unl v) ho := by
  unfold RO at q ⊢
  cases v with
  | lck w =>
    cases w <;> first | exact q.elim | exact q
  | _ => exact q
/-! either the value itself, or an object of the store -/
theorem view (h : HR G n0 g F r S H) {v w : PV} {u : V} (q : RV G F r v u) (e : deref S v = some w) : RV G F r w u ∧ (∀ i, w ≠ .ref i) ∨ ∃ a ho, u = .ref a ∧ H a = some ho ∧ RO G F r w ho := by
  cases v with
  | ref i =>
    unfold deref at e
    cases es : S[i]? with
    | none =>
      simp only [es] at e
      cases e
    | some ob =>
      simp only [es] at e
      cases e
      obtain ⟨a, ho, e1, _, e3, e4⟩ := h.ref q es
      exact .inr ⟨a, ho, e1, e3, e4.unl_⟩
  | lck v => exact False.elim q
  | non => cases e; exact .inl ⟨q, fun i z => nomatch z⟩
  | bl b => cases e; exact .inl ⟨q, fun i z => nomatch z⟩
  | int b => cases e; exact .inl ⟨q, fun i z => nomatch z⟩
  | str b => cases e; exact .inl ⟨q, fun i z => nomatch z⟩
  | tup b => cases e; exact .inl ⟨q, fun i z => nomatch z⟩
  | lst b => cases e; exact .inl ⟨q, fun i z => nomatch z⟩
  | dct b c => cases e; exact .inl ⟨q, fun i z => nomatch z⟩
  | ins b c d => cases e; exact .inl ⟨q, fun i z => nomatch z⟩
theorem view_lst (h : HR G n0 g F r S H) {v : PV} {u : V} {xs : List PV} (q : RV G F r v u) (e : deref S v = some (.lst xs)) : ∃ a us, u = .ref a ∧ Rd H a (.lst us) ∧ RVs G F r xs us := by
  rcases view h q e with ⟨k, _⟩ | ⟨a, ho, e1, e2, k⟩
  · obtain ⟨a, us, e1, e2, e3⟩ := k
    exact ⟨a, us, e1, h.sub.rd e2, e3⟩
  · obtain ⟨us, rfl, k⟩ := k
    exact ⟨a, us, e1, .inl e2, k⟩
theorem view_tup (h : HR G n0 g F r S H) {v : PV} {u : V} {xs : List PV} (q : RV G F r v u) (e : deref S v = some (.tup xs)) : ∃ a us, u = .ref a ∧ SqT G.K H a us ∧ RVs G F r xs us := by
  rcases view h q e with ⟨k, _⟩ | ⟨a, ho, e1, e2, k⟩
  · obtain ⟨a, us, e1, e2, e3⟩ := k
    exact ⟨a, us, e1, h.sub.tp e2, e3⟩
  · exact k.elim
theorem view_tupH (h : HR G n0 g F r S H) {v : PV} {u : V} {xs : List PV} (q : RV G F r v u) (e : deref S v = some (.tup xs)) : ∃ a us, u = .ref a ∧ H a = some (.tup us) ∧ RVs G F r xs us := by
  rcases view h q e with ⟨k, _⟩ | ⟨a, ho, e1, e2, k⟩
  · obtain ⟨a, us, e1, e2, e3⟩ := k
    exact ⟨a, us, e1, h.sub _ _ e2, e3⟩
  · exact k.elim
theorem view_ins (h : HR G n0 g F r S H) {v : PV} {u : V} {c : Nat} {ns : List Nat} {vs : List PV} (q : RV G F r v u) (e : deref S v = some (.ins c ns vs)) :
    ∃ a dx us, u = .ref a ∧ H a = some (.ins (G.ca c) dx ((ns.map G.nm).zip us)) ∧ ns.length = us.length ∧ RVs G F r vs us := by
  rcases view h q e with ⟨k, _⟩ | ⟨a, ho, e1, e2, k⟩
  · obtain ⟨a, dx, us, e1, e2, e3, e4⟩ := k
    exact ⟨a, dx, us, e1, h.sub _ _ e2, e3, e4⟩
  · obtain ⟨dx, us, rfl, l, k⟩ := k
    exact ⟨a, dx, us, e1, e2, l, k⟩
theorem view_dct (h : HR G n0 g F r S H) {v : PV} {u : V} {ks : DKs} {vs : List PV} (q : RV G F r v u) (e : deref S v = some (.dct ks vs)) : ∃ a ho us, u = .ref a ∧ H a = some ho ∧ DR ho ks us ∧ RVs G F r vs us := by
  rcases view h q e with ⟨k, _⟩ | ⟨a, ho, e1, e2, k⟩
  · obtain ⟨a, us, ho, e1, e2, e3, e4⟩ := k
    exact ⟨a, ho, us, e1, h.sub _ _ e2, e3, e4⟩
  · obtain ⟨us, d, k⟩ := k
    exact ⟨a, ho, us, e1, e2, d, k⟩
theorem view_int (h : HR G n0 g F r S H) {v : PV} {u : V} {i : Int} (q : RV G F r v u) (e : deref S v = some (.int i)) : u = .int i := by
  rcases view h q e with ⟨k, _⟩ | ⟨a, ho, e1, e2, k⟩
  · exact k
  · exact k.elim
theorem view_bl (h : HR G n0 g F r S H) {v : PV} {u : V} {i : Bool} (q : RV G F r v u) (e : deref S v = some (.bl i)) : u = .bl i := by
  rcases view h q e with ⟨k, _⟩ | ⟨a, ho, e1, e2, k⟩
  · exact k
  · exact k.elim
theorem view_non (h : HR G n0 g F r S H) {v : PV} {u : V} (q : RV G F r v u) (e : deref S v = some .non) : u = .non := by
  rcases view h q e with ⟨k, _⟩ | ⟨a, ho, e1, e2, k⟩
  · exact k
  · exact k.elim
theorem view_str (h : HR G n0 g F r S H) {v : PV} {u : V} {x : Str} (q : RV G F r v u) (e : deref S v = some (.str x)) : u = .str x := by
  rcases view h q e with ⟨k, _⟩ | ⟨a, ho, e1, e2, k⟩
  · exact k
  · exact k.elim
theorem view_seq (h : HR G n0 g F r S H) {v : PV} {u : V} {xs : List PV} (q : RV G F r v u) (e : itemsOf S v = some xs) : ∃ a us, u = .ref a ∧ (SqL G.K H a us ∨ SqT G.K H a us) ∧ RVs G F r xs us := by
  unfold itemsOf at e
  split at e
  · rename_i xs' e'
    cases e
    obtain ⟨a, us, e1, e2, e3⟩ := view_lst h q e'
    exact ⟨a, us, e1, .inl (.inl e2), e3⟩
  · rename_i xs' e'
    cases e
    obtain ⟨a, us, e1, e2, e3⟩ := view_tup h q e'
    exact ⟨a, us, e1, .inr e2, e3⟩
  · cases e
end
end PX
set_option Elab.async false
set_option linter.all false
set_option maxRecDepth 100000
namespace PX
open PySem PySem.Spec PyProof.Rows L2

/-! ### readings -/
def PoE (G : Gam) (n0 : Nat) (g : Gh) (F : Hp) (r : List Addr) (env : Env) (σ : L2.St) (z : R (Bool × PV)) (Q : VK) : Prop := match z with
  | .ok p S' => ∀ F' r' H' u, Ext F F' r r' → Sg G n0 g F' r' env σ S' H' → RF G g F' r' H' p.1 p.2 u → Q u H'
  | _ => False
def PoV (G : Gam) (n0 : Nat) (g : Gh) (F : Hp) (r : List Addr) (env : Env) (σ : L2.St) (z : R (Bool × PV)) (Q : VK) : Prop := match z with
  | .ok p S' => ∀ F' r' H' u, Ext F F' r r' → Sg G n0 g F' r' env σ S' H' → RV G F' r' p.2 u → Q u H'
  | _ => False
def PoT (G : Gam) (n0 : Nat) (g : Gh) (F : Hp) (r : List Addr) (env : Env) (σ : L2.St) (z : R Bool) (Q : Bool → Hp → Prop) : Prop := match z with
  | .ok b S' => ∀ F' r' H', Ext F F' r r' → Sg G n0 g F' r' env σ S' H' → Q b H'
  | _ => False
def PoA (G : Gam) (n0 : Nat) (g : Gh) (F : Hp) (r : List Addr) (env : Env) (σ : L2.St) (z : R (List PV)) (Q : List V → Hp → Prop) : Prop := match z with
  | .ok vs S' => ∀ F' r' H' us, Ext F F' r r' → Sg G n0 g F' r' env σ S' H' → RVs G F' r' vs us → Q us H'
  | _ => False
def rdE (G : Gam) (n0 : Nat) (f : SE) : TE := fun σ H Q => ∃ F r env S g, Sg G n0 g F r env σ S H ∧ PoE G n0 g F r env σ (f env S) Q
def rdV (G : Gam) (n0 : Nat) (f : SE) : TE := fun σ H Q => ∃ F r env S g, Sg G n0 g F r env σ S H ∧ PoV G n0 g F r env σ (f env S) Q
def rdT (G : Gam) (n0 : Nat) (f : ST) : TT := fun σ H Q => ∃ F r env S g, Sg G n0 g F r env σ S H ∧ PoT G n0 g F r env σ (f env S) Q
def rdA (G : Gam) (n0 : Nat) (f : SA) : TA := fun σ H Q => ∃ F r env S g, Sg G n0 g F r env σ S H ∧ PoA G n0 g F r env σ (f env S) Q

theorem peI {X : Cx} {e : Expr} {t t' : TE} (h : PE X e t) (w : ∀ σ H Q, t' σ H Q → t σ H Q) : PE X e t' := ⟨fun pins s σ H Q I q => h.run pins s σ H Q I (w σ H Q q)⟩
theorem ptI {X : Cx} {e : Expr} {t t' : TT} (h : PT X e t) (w : ∀ σ H Q, t' σ H Q → t σ H Q) : PT X e t' := ⟨fun pins s σ H Q I q => h.run pins s σ H Q I (w σ H Q q)⟩
theorem pwI {X : Cx} {e : Expr} {t t' : TT} (h : PW X e t) (w : ∀ σ H Q, t' σ H Q → t σ H Q) : PW X e t' := ⟨fun wh pins s σ H Q I q => h.run wh pins s σ H Q I (w σ H Q q)⟩
theorem paI {X : Cx} {e : List Expr} {t t' : TA} (h : PA X e t) (w : ∀ σ H Q, t' σ H Q → t σ H Q) : PA X e t' := ⟨fun pos pins s σ H Q I q => h.run pos pins s σ H Q I (w σ H Q q)⟩
/-! what a continuation may not be -/
structure Cn {α : Type} (C : R α → Prop) : Prop where
  no : ¬ C .no
  ex : ∀ c p S', ¬ C (.ex c p S')
section
variable {G : Gam} {n0 : Nat} {g : Gh} {F F1 : Hp} {r r1 : List Addr} {env : Env} {σ : L2.St} {S S1 : Store} {H H1 : Hp} {Q : VK} {QT : Bool → Hp → Prop} {QA : List V → Hp → Prop}
theorem cnE : Cn fun z => PoE G n0 g F r env σ z Q := ⟨fun h => h, fun _ _ _ h => h⟩
theorem cnV : Cn fun z => PoV G n0 g F r env σ z Q := ⟨fun h => h, fun _ _ _ h => h⟩
theorem cnT : Cn fun z => PoT G n0 g F r env σ z QT := ⟨fun h => h, fun _ _ _ h => h⟩
theorem cnA : Cn fun z => PoA G n0 g F r env σ z QA := ⟨fun h => h, fun _ _ _ h => h⟩
/-! composing: a, then what follows -/
theorem stE {f : SE} {T : V → Hp → Prop} {α : Type} {kk : Bool × PV → Store → R α} {C : R α → Prop} (s : Sg G n0 g F r env σ S H) (cn : Cn C) (h : C ((f env S).bind kk))
    (step : ∀ p S' F' r' H' u, Ext F F' r r' → Sg G n0 g F' r' env σ S' H' → RF G g F' r' H' p.1 p.2 u → C (kk p S') → T u H') : rdE G n0 f σ H T := by
  refine ⟨F, r, env, S, g, s, ?_⟩
  cases e : f env S with
  | ok p S' =>
    rw [e] at h
    exact fun F' r' H' u ex s' q => step p S' F' r' H' u ex s' q h
  | ex c p S' =>
    rw [e] at h
    exact (cn.ex c p S' h).elim
  | no =>
    rw [e] at h
    exact (cn.no h).elim
theorem stV {f : SE} {T : V → Hp → Prop} {α : Type} {kk : Bool × PV → Store → R α} {C : R α → Prop} (s : Sg G n0 g F r env σ S H) (cn : Cn C) (h : C ((f env S).bind kk))
    (step : ∀ p S' F' r' H' u, Ext F F' r r' → Sg G n0 g F' r' env σ S' H' → RV G F' r' p.2 u → C (kk p S') → T u H') : rdV G n0 f σ H T := by
  refine ⟨F, r, env, S, g, s, ?_⟩
  cases e : f env S with
  | ok p S' =>
    rw [e] at h
    exact fun F' r' H' u ex s' q => step p S' F' r' H' u ex s' q h
  | ex c p S' =>
    rw [e] at h
    exact (cn.ex c p S' h).elim
  | no =>
    rw [e] at h
    exact (cn.no h).elim
theorem stT {f : ST} {T : Bool → Hp → Prop} {α : Type} {kk : Bool → Store → R α} {C : R α → Prop} (s : Sg G n0 g F r env σ S H) (cn : Cn C) (h : C ((f env S).bind kk))
    (step : ∀ p S' F' r' H', Ext F F' r r' → Sg G n0 g F' r' env σ S' H' → C (kk p S') → T p H') : rdT G n0 f σ H T := by
  refine ⟨F, r, env, S, g, s, ?_⟩
  cases e : f env S with
  | ok p S' =>
    rw [e] at h
    exact fun F' r' H' ex s' => step p S' F' r' H' ex s' h
  | ex c p S' =>
    rw [e] at h
    exact (cn.ex c p S' h).elim
  | no =>
    rw [e] at h
    exact (cn.no h).elim
theorem stA {f : SA} {T : List V → Hp → Prop} {α : Type} {kk : List PV → Store → R α} {C : R α → Prop} (s : Sg G n0 g F r env σ S H) (cn : Cn C) (h : C ((f env S).bind kk))
    (step : ∀ p S' F' r' H' us, Ext F F' r r' → Sg G n0 g F' r' env σ S' H' → RVs G F' r' p us → C (kk p S') → T us H') : rdA G n0 f σ H T := by
  refine ⟨F, r, env, S, g, s, ?_⟩
  cases e : f env S with
  | ok p S' =>
    rw [e] at h
    exact fun F' r' H' us ex s' q => step p S' F' r' H' us ex s' q h
  | ex c p S' =>
    rw [e] at h
    exact (cn.ex c p S' h).elim
  | no =>
    rw [e] at h
    exact (cn.no h).elim
/-! going on from a later state -/
theorem goE {f : SE} (s : Sg G n0 g F1 r1 env σ S1 H1) (x : Ext F F1 r r1) (h : PoE G n0 g F r env σ (f env S1) Q) : rdE G n0 f σ H1 Q := by
  refine ⟨F1, r1, env, S1, g, s, ?_⟩
  cases e : f env S1 with
  | ok p S' => rw [e] at h; exact fun F' r' H' u ex s' q => h F' r' H' u (x.trans ex) s' q
  | ex => rw [e] at h; exact h
  | no => rw [e] at h; exact h
theorem goT {f : ST} (s : Sg G n0 g F1 r1 env σ S1 H1) (x : Ext F F1 r r1) (h : PoT G n0 g F r env σ (f env S1) QT) : rdT G n0 f σ H1 QT := by
  refine ⟨F1, r1, env, S1, g, s, ?_⟩
  cases e : f env S1 with
  | ok p S' => rw [e] at h; exact fun F' r' H' ex s' => h F' r' H' (x.trans ex) s'
  | ex => rw [e] at h; exact h
  | no => rw [e] at h; exact h
/-! an end by values -/
theorem endO {o : Option (Bool × PV)} {T : VK → Prop} (s : Sg G n0 g F1 r1 env σ S1 H1) (x : Ext F F1 r r1) (h : PoE G n0 g F r env σ (ofO o S1) Q)
    (ok : ∀ z, o = some z → (∀ F' r' H' w, Ext F1 F' r1 r' → HR G n0 g F' r' S1 H' → RF G g F' r' H' z.1 z.2 w → Q w H') → T Q) : T Q := by
  unfold ofO at h
  cases o with
  | none => exact h.elim
  | some z => exact ok z rfl fun F' r' H' w x' hr rf => h F' r' H' w (x.trans x') (s.ext x' hr) rf
end
section
variable {X : Cx} {G : Gam} {n0 : Nat} {e : Expr} {f : SE}
/-! what is fresh may be left as it is -/
theorem toV (h : PE X e (rdE G n0 f)) : PE X e (rdV G n0 f) := by
  refine peI h fun σ H Q ⟨F, r, env, S, g, s, p⟩ => ⟨F, r, env, S, g, s, ?_⟩
  cases e : f env S with
  | ok p' S' =>
    rw [e] at p
    intro F' r' H' u x s' q
    obtain ⟨F2, x2, h2, q2⟩ := freeze s'.hr q
    exact p F2 r' H' u (x.trans x2) (s'.ext x2 h2) q2
  | ex => rw [e] at p; exact p
  | no => rw [e] at p; exact p

/-! ### values: what an operator by values is asked -/
def Ok1 (G : Gam) (o : Op1) (t : V → Hp → VK → Prop) : Prop := ∀ n0 g F r S H x u z Q, HR G n0 g F r S H → RV G F r x u → o x S = some z →
  (∀ F' r' H' w, Ext F F' r r' → HR G n0 g F' r' S H' → RF G g F' r' H' z.1 z.2 w → Q w H') → t u H Q
def Ok2 (G : Gam) (o : Op2) (t : R2) : Prop := ∀ n0 g F r S H x y u v z Q, HR G n0 g F r S H → RV G F r x u → RV G F r y v → o x y S = some z →
  (∀ F' r' H' w, Ext F F' r r' → HR G n0 g F' r' S H' → RF G g F' r' H' z.1 z.2 w → Q w H') → t u v H Q
def OkN (G : Gam) (o : OpN) (t : List V → Hp → VK → Prop) : Prop := ∀ n0 g F r S H xs us z Q, HR G n0 g F r S H → RVs G F r xs us → o xs S = some z →
  (∀ F' r' H' w, Ext F F' r r' → HR G n0 g F' r' S H' → RF G g F' r' H' z.1 z.2 w → Q w H') → t us H Q

variable {a b c : Expr} {fa fb fc : SE} {pos : Pos} {es : List Expr} {fs : SA} {rest : List Expr}
theorem se_var {i : Nat} (hp : PE X e (tVar i)) : PE X e (rdE G n0 (eVar i)) := by
  refine peI hp fun σ H Q ⟨F, r, env, S, g, s, h⟩ => ?_
  unfold eVar at h
  split at h
  · rename_i v ev
    obtain ⟨u, h1, h2⟩ := s.vr i v ev
    exact ⟨u, h1, h F r H u (.refl F r) s h2⟩
  · exact h.elim
theorem se_lit {u : V} {v : PV} (hp : PE X e (tC u)) (hv : ∀ F r, RV G F r v u) : PE X e (rdE G n0 (eLit v)) :=
  peI hp fun σ H Q ⟨F, r, env, S, g, s, h⟩ => h F r H u (.refl F r) s (hv F r)
theorem se_un {op : UnaryOp} {o : Op1} {t : V → Hp → VK → Prop} (hop : UnR X (unaryOp op) t) (ho : Ok1 G o t) (ha : PE X a (rdE G n0 fa)) : PE X (.UnaryOp op a pos) (rdE G n0 (eUn o fa)) := by
  refine peI (pe_un hop (toV ha)) fun σ H Q ⟨F, r, env, S, g, s, h⟩ => ?_
  refine stV s cnE h fun p S1 F1 r1 H1 u x1 s1 q1 h1 => ?_
  exact endO (T := fun Q => t u H1 Q) s1 x1 h1 fun z ez k => ho n0 g F1 r1 S1 H1 p.2 u z Q s1.hr q1 ez k
theorem se_bin {op : Operator} {o : Op2} {t : R2} (hop : OpR X (binaryOp op) t) (ho : Ok2 G o t) (ha : PE X a (rdE G n0 fa)) (hb : PE X b (rdE G n0 fb)) : PE X (.BinOp a op b pos) (rdE G n0 (eBin o fa fb)) := by
  refine peI (pe_op hop (toV ha) (toV hb)) fun σ H Q ⟨F, r, env, S, g, s, h⟩ => ?_
  refine stV s cnE h fun p S1 F1 r1 H1 u x1 s1 q1 h1 => ?_
  refine stV s1 cnE h1 fun q S2 F2 r2 H2 v x2 s2 q2 h2 => ?_
  exact endO (T := fun Q => t u v H2 Q) s2 (x1.trans x2) h2 fun z ez k => ho n0 g F2 r2 S2 H2 p.2 q.2 u v z Q s2.hr (q1.ext x2) q2 ez k
theorem se_cmp {op : CmpOp} {o : Op2} {t : R2} (hop : OpR X (compareOp op) t) (ho : Ok2 G o t) (ha : PE X a (rdE G n0 fa)) (hb : PE X b (rdE G n0 fb)) (hm : behindInMarks op b = false) : PE X (.Compare a [op] [b] pos) (rdE G n0 (eBin o fa fb)) := by
  refine peI (pe_cmpR hop (toV ha) (toV hb) hm) fun σ H Q ⟨F, r, env, S, g, s, h⟩ => ?_
  refine stV s cnE h fun p S1 F1 r1 H1 u x1 s1 q1 h1 => ?_
  refine stV s1 cnE h1 fun q S2 F2 r2 H2 v x2 s2 q2 h2 => ?_
  exact endO (T := fun Q => t u v H2 Q) s2 (x1.trans x2) h2 fun z ez k => ho n0 g F2 r2 S2 H2 p.2 q.2 u v z Q s2.hr (q1.ext x2) q2 ez k
theorem bl_of {g : Gh} {F : Hp} {r : List Addr} {H : Hp} {b : Bool} {k : Bool} {w : V} (q : RF G g F r H b (.bl k) w) : w = .bl k := by
  cases b with
  | false => exact q
  | true =>
    obtain ⟨_, _, _, _, _, _, _, ro, _⟩ := q
    exact ro.elim
theorem st_cmp {op : CmpOp} {o : Op2} {t : R2} (hop : OpR X (compareOp op) t) (ho : Ok2 G o t) (ha : PE X a (rdE G n0 fa)) (hb : PE X b (rdE G n0 fb)) (hm : behindInMarks op b = false) : PT X (.Compare a [op] [b] pos) (rdT G n0 (tBl (eBin o fa fb))) := by
  refine ptI (pt_cmpR hop (toV ha) (toV hb) hm) fun σ H Q ⟨F, r, env, S, g, s, h⟩ => ?_
  have h : PoT G n0 g F r env σ (((fa env S).bind fun p S1 => (fb env S1).bind fun q S2 => ofO (o p.2 q.2 S2) S2).bind fun p S1 => match p.2 with
    | .bl b => .ok b S1
    | _ => .no) Q := h
  have assoc : ∀ {α β γ : Type} (m : R α) (k : α → Store → R β) (l : β → Store → R γ), (m.bind k).bind l = m.bind fun x S => (k x S).bind l := fun m k l => by cases m <;> rfl
  rw [assoc] at h
  refine stV s cnT h fun p S1 F1 r1 H1 u x1 s1 q1 h1 => ?_
  rw [assoc] at h1
  refine stV s1 cnT h1 fun q S2 F2 r2 H2 v x2 s2 q2 h2 => ?_
  cases eo : o p.2 q.2 S2 with
  | none => rw [eo] at h2; exact h2.elim
  | some z =>
    rw [eo] at h2
    refine ho n0 g F2 r2 S2 H2 p.2 q.2 u v z _ s2.hr (q1.ext x2) q2 eo fun F' r' H' w x hr rf => ?_
    have h3 : PoT G n0 g F r env σ (match z.2 with
      | .bl b => .ok b S2
      | _ => .no) Q := h2
    split at h3
    · rename_i k ek
      rw [ek] at rf
      exact ⟨k, bl_of rf, h3 F' r' H' ((x1.trans x2).trans x) (s2.ext x hr)⟩
    · exact h3.elim
/-! truth -/
theorem truth_ok {g : Gh} {F : Hp} {r : List Addr} {S : Store} {H : Hp} {v : PV} {u : V} {k : Bool} (h : HR G n0 g F r S H) (q : RV G F r v u) (e : truth S v = some k) : TruV G.K u H k := by
  unfold truth at e
  split at e
  · rename_i b e'
    cases e
    rw [view_bl h q e']
    exact rfl
  · rename_i i e'
    cases e
    rw [view_int h q e']
    exact rfl
  · rename_i e'
    cases e
    rw [view_non h q e']
    exact rfl
  · rename_i xs e'
    cases e
    obtain ⟨a, us, rfl, h1, h2⟩ := view_lst h q e'
    refine .inl ⟨us, .inl h1, ?_⟩
    cases xs with
    | nil => have e3 : us = [] := h2; rw [e3]; rfl
    | cons x xs => obtain ⟨_, _, rfl, _, _⟩ := h2; rfl
  · rename_i xs e'
    cases e
    obtain ⟨a, us, rfl, h1, h2⟩ := view_tup h q e'
    refine .inr (.inl ⟨us, h1, ?_⟩)
    cases xs with
    | nil => have e3 : us = [] := h2; rw [e3]; rfl
    | cons x xs => obtain ⟨_, _, rfl, _, _⟩ := h2; rfl
  · cases e
theorem st_tru (hK : G.K = X.K) (ha : PE X a (rdE G n0 fa)) (he : ∀ whole, isTrue a X.env whole = (do let v ← whole; standAt a.pos; holding [v] (truthy v)) := by intro _; rfl) : PT X a (rdT G n0 (tTru fa)) := by
  refine ptI (pt_truth (toV ha) he) fun σ H Q ⟨F, r, env, S, g, s, h⟩ => ?_
  refine stV s cnT h fun p S1 F1 r1 H1 u x1 s1 q1 h1 => ?_
  cases et : truth S1 p.2 with
  | none => rw [et] at h1; exact h1.elim
  | some k =>
    rw [et] at h1
    exact ⟨k, hK ▸ truth_ok s1.hr q1 et, h1 F1 r1 H1 x1 s1⟩
theorem st_no {ta : ST} (ha : PT X a (rdT G n0 ta)) : PT X (.UnaryOp .Not a pos) (rdT G n0 (tNo ta)) := by
  refine ptI (pt_not ha) fun σ H Q ⟨F, r, env, S, g, s, h⟩ => ?_
  exact stT s cnT h fun p S1 F1 r1 H1 x1 s1 h1 => h1 F1 r1 H1 x1 s1
theorem sw_one {op : BoolOp} {ta : ST} (ha : PT X a (rdT G n0 ta)) : PW X (.BoolOp op [a] pos) (rdT G n0 ta) := by
  cases op with
  | And => exact pw_and1 ha
  | Or => exact pw_or1 ha
theorem sw_and {ta tb : ST} (ha : PT X a (rdT G n0 ta)) (hb : PW X (.BoolOp .And (b :: rest) pos) (rdT G n0 tb)) : PW X (.BoolOp .And (a :: b :: rest) pos) (rdT G n0 (tAn ta tb)) := by
  refine pwI (pw_and ha hb) fun σ H Q ⟨F, r, env, S, g, s, h⟩ => ?_
  refine stT s cnT h fun p S1 F1 r1 H1 x1 s1 h1 => ?_
  cases p with
  | true => exact goT s1 x1 h1
  | false => exact h1 F1 r1 H1 x1 s1
theorem sw_or {ta tb : ST} (ha : PT X a (rdT G n0 ta)) (hb : PW X (.BoolOp .Or (b :: rest) pos) (rdT G n0 tb)) : PW X (.BoolOp .Or (a :: b :: rest) pos) (rdT G n0 (tOr ta tb)) := by
  refine pwI (pw_or ha hb) fun σ H Q ⟨F, r, env, S, g, s, h⟩ => ?_
  refine stT s cnT h fun p S1 F1 r1 H1 x1 s1 h1 => ?_
  cases p with
  | true => exact h1 F1 r1 H1 x1 s1
  | false => exact goT s1 x1 h1
theorem se_one {op : BoolOp} (ha : PE X a (rdE G n0 fa)) : PE X (.BoolOp op [a] pos) (rdE G n0 fa) := pe_one ha
theorem se_and (hK : G.K = X.K) (ha : PE X a (rdE G n0 fa)) (hb : PE X (.BoolOp .And (b :: rest) pos) (rdE G n0 fb)) : PE X (.BoolOp .And (a :: b :: rest) pos) (rdE G n0 (eAn fa fb)) := by
  refine peI (pe_andT (toV ha) hb) fun σ H Q ⟨F, r, env, S, g, s, h⟩ => ?_
  refine stV s cnE h fun p S1 F1 r1 H1 u x1 s1 q1 h1 => ?_
  cases et : truth S1 p.2 with
  | none => rw [et] at h1; exact h1.elim
  | some k =>
    rw [et] at h1
    refine ⟨k, hK ▸ truth_ok s1.hr q1 et, ?_⟩
    cases k with
    | true => exact goE s1 x1 h1
    | false => exact h1 F1 r1 H1 u x1 s1 q1
theorem se_or (hK : G.K = X.K) (ha : PE X a (rdE G n0 fa)) (hb : PE X (.BoolOp .Or (b :: rest) pos) (rdE G n0 fb)) : PE X (.BoolOp .Or (a :: b :: rest) pos) (rdE G n0 (eOr fa fb)) := by
  refine peI (pe_orT (toV ha) hb) fun σ H Q ⟨F, r, env, S, g, s, h⟩ => ?_
  refine stV s cnE h fun p S1 F1 r1 H1 u x1 s1 q1 h1 => ?_
  cases et : truth S1 p.2 with
  | none => rw [et] at h1; exact h1.elim
  | some k =>
    rw [et] at h1
    refine ⟨k, hK ▸ truth_ok s1.hr q1 et, ?_⟩
    cases k with
    | true => exact h1 F1 r1 H1 u x1 s1 q1
    | false => exact goE s1 x1 h1
theorem se_not (hK : G.K = X.K) (ha : PE X a (rdE G n0 fa)) : PE X (.UnaryOp .Not a pos) (rdE G n0 (eNot fa)) := by
  refine peI (pe_notT (toV ha)) fun σ H Q ⟨F, r, env, S, g, s, h⟩ => ?_
  refine stV s cnE h fun p S1 F1 r1 H1 u x1 s1 q1 h1 => ?_
  cases et : truth S1 p.2 with
  | none => rw [et] at h1; exact h1.elim
  | some k =>
    rw [et] at h1
    exact ⟨k, hK ▸ truth_ok s1.hr q1 et, h1 F1 r1 H1 _ x1 s1 rfl⟩
theorem se_if {tc : ST} (hc : PT X c (rdT G n0 tc)) (ha : PE X a (rdE G n0 fa)) (hb : PE X b (rdE G n0 fb)) : PE X (.IfExp c a b pos) (rdE G n0 (eIf tc fa fb)) := by
  refine peI (pe_ifExp hc ha hb) fun σ H Q ⟨F, r, env, S, g, s, h⟩ => ?_
  refine stT s cnE h fun p S1 F1 r1 H1 x1 s1 h1 => ?_
  cases p with
  | true => exact goE s1 x1 h1
  | false => exact goE s1 x1 h1
theorem ofO_bl {g : Gh} {F : Hp} {r : List Addr} {env : Env} {σ : L2.St} {S : Store} {Q : VK} {z : Bool × PV} (h : PoE G n0 g F r env σ (ofO (some z) S) Q) : PoE G n0 g F r env σ (.ok z S) Q := h
theorem se_ch {o1 o2 : CmpOp} {o o' : Op2} {t t' : R2} (hop : OpR X (compareOp o1) t) (ho : Ok2 G o t) (hop' : OpR X (compareOp o2) t') (ho' : Ok2 G o' t') (ha : PE X a (rdE G n0 fa)) (hb : PE X b (rdE G n0 fb)) (hc : PE X c (rdE G n0 fc))
    (hp : PE X (.Compare a [o1, o2] [b, c] pos) (tChain t t' (rdV G n0 fa) (rdV G n0 fb) (rdV G n0 fc))) : PE X (.Compare a [o1, o2] [b, c] pos) (rdE G n0 (eCh o o' fa fb fc)) := by
  refine peI hp fun σ H Q ⟨F, r, env, S, g, s, h⟩ => ?_
  refine stV s cnE h fun p S1 F1 r1 H1 u x1 s1 q1 h1 => ?_
  refine stV s1 cnE h1 fun q S2 F2 r2 H2 v x2 s2 q2 h2 => ?_
  split at h2
  · rename_i eo
    refine ho n0 g F2 r2 S2 H2 p.2 q.2 u v _ _ s2.hr (q1.ext x2) q2 eo fun F3 r3 H3 w x3 hr3 rf => ⟨true, rf, ?_⟩
    refine stV (s2.ext x3 hr3) cnE h2 fun z S4 F4 r4 H4 w' x4 s4 q4 h4 => ?_
    exact endO (T := fun Q => t' v w' H4 Q) s4 (((x1.trans x2).trans x3).trans x4) h4 fun z' ez k => ho' n0 g F4 r4 S4 H4 q.2 z.2 v w' z' Q s4.hr (q2.ext (x3.trans x4)) q4 ez k
  · rename_i eo
    refine ho n0 g F2 r2 S2 H2 p.2 q.2 u v _ _ s2.hr (q1.ext x2) q2 eo fun F3 r3 H3 w x3 hr3 rf => ⟨false, rf, ?_⟩
    exact h2 F3 r3 H3 _ ((x1.trans x2).trans x3) (s2.ext x3 hr3) rfl
  · exact h2.elim
/-! arguments -/
theorem sa_nil : PA X [] (rdA G n0 aNil) := paI pa_nil fun σ H Q ⟨F, r, env, S, g, s, h⟩ => h F r H [] (.refl F r) s rfl
theorem sa_cons (ha : PE X a (rdE G n0 fa)) (hr : PA X es (rdA G n0 fs)) (hs : starEach (a :: es) X.env = (false, eval a X.env) :: starEach es X.env := by rfl) : PA X (a :: es) (rdA G n0 (aCons fa fs)) := by
  refine paI (pa_cons (toV ha) hr hs) fun σ H Q ⟨F, r, env, S, g, s, h⟩ => ?_
  refine stV s cnA h fun p S1 F1 r1 H1 u x1 s1 q1 h1 => ?_
  refine stA s1 cnA h1 fun q S2 F2 r2 H2 us x2 s2 q2 h2 => ?_
  exact h2 F2 r2 H2 _ (x1.trans x2) s2 ⟨u, us, rfl, q1.ext x2, q2⟩
theorem sa_star {sp_ : Pos} (hK : G.K = X.K) (ha : PE X a (rdE G n0 fa)) (hr : PA X es (rdA G n0 fs)) (hs : starEach (.Starred a sp_ :: es) X.env = (true, eval a X.env) :: starEach es X.env := by rfl) : PA X (.Starred a sp_ :: es) (rdA G n0 (aStar fa fs)) := by
  refine paI (StX.pa_star (toV ha) hr hs) fun σ H Q ⟨F, r, env, S, g, s, h⟩ => ?_
  refine stV s cnA h fun p S1 F1 r1 H1 u x1 s1 q1 h1 => ?_
  cases ei : itemsOf S1 p.2 with
  | none => simp only [ei] at h1; exact h1.elim
  | some xs =>
    simp only [ei] at h1
    obtain ⟨a', us, rfl, hs', rv⟩ := view_seq s1.hr q1 ei
    refine ⟨a', us, rfl, hK ▸ hs'.symm, ?_⟩
    refine stA s1 cnA h1 fun q S2 F2 r2 H2 ws x2 s2 q2 h2 => ?_
    exact h2 F2 r2 H2 _ (x1.trans x2) s2 ((rv.ext x2).append q2)
theorem small_le {n : Nat} (h : small n = true) : n ≤ sizeLine := by
  have : n ≤ 1000000 := Nat.le_of_ble_eq_true h
  exact Nat.le_trans this (by rw [sizeLine_eq]; decide)
theorem se_tup {x1} (h : PA X es (rdA G n0 fs)) : PE X (.Tuple es x1 pos) (rdE G n0 (eTup fs)) := by
  refine peI (pe_tup h) fun σ H Q ⟨F, r, env, S, g, s, h⟩ => ?_
  refine stA s cnE h fun p S1 F1 r1 H1 us x1 s1 q1 h1 => ?_
  split at h1
  · rename_i hz
    refine ⟨by rw [← RVs.length q1]; exact small_le hz, fun p' hp => ?_⟩
    obtain ⟨F2, x2, h2, k⟩ := new_tup s1.hr hp q1
    exact h1 F2 r1 _ _ (x1.trans x2) (s1.ext x2 h2) k
  · exact h1.elim
theorem se_lst (h : PA X es (rdA G n0 fs)) : PE X (.List es pos) (rdE G n0 (eLst fs)) := by
  refine peI (pe_lst h) fun σ H Q ⟨F, r, env, S, g, s, h⟩ => ?_
  refine stA s cnE h fun p S1 F1 r1 H1 us x1 s1 q1 h1 => ?_
  split at h1
  · rename_i hz
    refine ⟨by rw [← RVs.length q1]; exact small_le hz, fun p' hp => ?_⟩
    obtain ⟨h2, k⟩ := new_obj s1.hr hp (v := .lst p) ⟨us, rfl, q1⟩ rfl
    exact h1 F1 r1 _ _ x1 (s1.ext (.refl _ _) h2) k
  · exact h1.elim
/-! a new object is held by the store -/
theorem se_new (ha : PE X a (rdE G n0 fa)) : PE X a (rdE G n0 (eNew fa)) := by
  refine peI ha fun σ H Q ⟨F, r, env, S, g, s, h⟩ => ?_
  refine stE s cnE h fun p S1 F1 r1 H1 u x1 s1 q1 h1 => ?_
  obtain ⟨b, v⟩ := p
  cases b with
  | false => exact h1 F1 r1 H1 u x1 s1 q1
  | true =>
    obtain ⟨r2, x2, h2, k⟩ := store_new s1.hr q1
    exact h1 F1 r2 H1 u (x1.trans x2) (s1.ext x2 h2) k
end
end PX
set_option Elab.async false
set_option linter.all false
set_option maxRecDepth 100000
namespace PX
open PySem PySem.Spec PyProof.Rows L2

def PoS (G : Gam) (n0 : Nat) (g : Gh) (F : Hp) (r : List Addr) (z : RS) (D : Ends) : Prop := match z with
  | .nx e S' => ∀ F' r' H' σ', Ext F F' r r' → Sg G n0 g F' r' e σ' S' H' → D.nx σ' H'
  | .bk e S' => ∀ F' r' H' σ', Ext F F' r r' → Sg G n0 g F' r' e σ' S' H' → D.bk σ' H'
  | .ct e S' => ∀ F' r' H' σ', Ext F F' r r' → Sg G n0 g F' r' e σ' S' H' → D.ct σ' H'
  | .rt v S' => ∀ F' r' H' u, Ext F F' r r' → HR G n0 g F' r' S' H' → RV G F' r' v u → D.rt u H'
  | _ => False
def rdS (G : Gam) (n0 : Nat) (f : SS) : TS := fun D σ H => ∃ F r env S g, Sg G n0 g F r env σ S H ∧ PoS G n0 g F r (f env S) D
/-! what a loop walks -/
def GhLe (g g2 : Gh) : Prop := ∀ a o, g.pn a = some o → g.lk a = true → g2.pn a = some o ∧ g2.lk a = true
theorem GhLe.refl (g : Gh) : GhLe g g := fun _ _ e l => ⟨e, l⟩
theorem GhLe.trans {g g2 g3 : Gh} (h : GhLe g g2) (k : GhLe g2 g3) : GhLe g g3 := fun a o e l => k a o (h a o e l).1 (h a o e l).2
/-! another object stands at a pin -/
def Gh.rep (g : Gh) (rp : Option (Addr × HO)) : Gh := match rp with
  | none => g
  | some p => ⟨g.L, L2.upd g.pn p.1 p.2, g.lk⟩
def Gh.has (g : Gh) (rp : Option (Addr × HO)) : Prop := ∀ p, rp = some p → (∃ o, g.pn p.1 = some o) ∧ g.lk p.1 = false
def GhPin (g g' : Gh) : Prop := ∀ a o, g.pn a = some o → g.lk a = false → g'.pn a = some o ∧ g'.lk a = false
theorem GhPin.refl (g : Gh) : GhPin g g := fun _ _ e l => ⟨e, l⟩
theorem GhPin.has {g g' : Gh} (h : GhPin g g') {rp : Option (Addr × HO)} (k : g.has rp) : g'.has rp := fun p e => by
  obtain ⟨⟨o, q⟩, l⟩ := k p e
  exact ⟨⟨o, (h _ o q l).1⟩, (h _ o q l).2⟩
def Its (G : Gam) (n0 : Nat) (g : Gh) (F : Hp) (r : List Addr) (J : It) (xs : List PV) : Prop := ∀ g2, GhLe g g2 → ∀ F2 r2 S2 H2, HR G n0 g2 F2 r2 S2 H2 → Ext F F2 r r2 →
  (∀ (i : Nat) x, xs[i]? = some x → J.go i H2 ∧ ∀ v H3, J.yld i H2 v H3 → ∃ F3, Ext F2 F3 r2 r2 ∧ HR G n0 g2 F3 r2 S2 H3 ∧ RV G F3 r2 x v) ∧ (∀ i, xs.length ≤ i → J.stop i H2)
def PoI (G : Gam) (n0 : Nat) (g : Gh) (F : Hp) (r : List Addr) (env : Env) (σ : L2.St) (z : R (List PV × List (Nat × PV))) (T : It → Hp → Prop) : Prop := match z with
  | .ok p S' => ∀ F' r' H' J g', Ext F F' r r' → Sg G n0 g' F' r' env σ S' H' → Its G n0 g' F' r' J p.1 →
      GhPin g g' → (∀ rp, g.has rp → ∀ F2 r2 S2 H2, HR G n0 (g'.rep rp) F2 r2 S2 H2 → Ext F' F2 r' r2 → HR G n0 (g.rep rp) F2 r2 (unlock p.2 S2) H2) → T J H'
  | _ => False
def rdI (G : Gam) (n0 : Nat) (f : SI) : TI := fun σ H T => ∃ F r env S g, Sg G n0 g F r env σ S H ∧ PoI G n0 g F r env σ (f env S) T
theorem psI {X : Cx} {st : Stmt} {t t' : TS} (h : PS X st t) (w : ∀ D σ H, t' D σ H → t D σ H) : PS X st t' := ⟨fun pins s σ H D I q => h.run pins s σ H D I (w D σ H q)⟩
theorem pssI {X : Cx} {st : List Stmt} {t t' : TS} (h : PSs X st t) (w : ∀ D σ H, t' D σ H → t D σ H) : PSs X st t' := ⟨fun pins s σ H D I q => h.run pins s σ H D I (w D σ H q)⟩
theorem piI {X : Cx} {tg e : Expr} {t t' : TI} (h : PI X tg e t) (w : ∀ σ H R, t' σ H R → t σ H R) : PI X tg e t' := ⟨fun pins s σ H R I q => h.run pins s σ H R I (w σ H R q)⟩
/-! a target -/
def TgOk (G : Gam) (t : Tg) (gg : TG) : Prop := ∀ n0 g F r env σ S H v u env' (Q : L2.St → Hp → Prop), Sg G n0 g F r env σ S H → RV G F r v u → t v env S = some env' → (∀ σ', Sg G n0 g F r env' σ' S H → Q σ' H) → gg u σ H Q

section
variable {X : Cx} {G : Gam} {n0 : Nat} {g : Gh} {F F1 : Hp} {r r1 : List Addr} {env : Env} {σ : L2.St} {S S1 : Store} {H H1 : Hp} {D : Ends}
theorem PoS.ext {z : RS} (h : PoS G n0 g F r z D) (x : Ext F F1 r r1) : PoS G n0 g F1 r1 z D := by
  cases z with
  | nx e S' => exact fun F' r' H' σ' e s => h F' r' H' σ' (x.trans e) s
  | bk e S' => exact fun F' r' H' σ' e s => h F' r' H' σ' (x.trans e) s
  | ct e S' => exact fun F' r' H' σ' e s => h F' r' H' σ' (x.trans e) s
  | rt v S' => exact fun F' r' H' u e s => h F' r' H' u (x.trans e) s
  | ex => exact h
  | no => exact h
theorem goS {f : SS} (s : Sg G n0 g F1 r1 env σ S1 H1) (x : Ext F F1 r r1) (h : PoS G n0 g F r (f env S1) D) : rdS G n0 f D σ H1 := ⟨F1, r1, env, S1, g, s, h.ext x⟩
/-! a part of a statement -/
theorem sgV {f : SE} {T : V → Hp → Prop} {kk : Bool × PV → Store → RS} (s : Sg G n0 g F r env σ S H) (h : PoS G n0 g F r ((f env S).go kk) D)
    (step : ∀ p S' F' r' H' u, Ext F F' r r' → Sg G n0 g F' r' env σ S' H' → RV G F' r' p.2 u → PoS G n0 g F r (kk p S') D → T u H') : rdV G n0 f σ H T := by
  refine ⟨F, r, env, S, g, s, ?_⟩
  cases e : f env S with
  | ok p S' => rw [e] at h; exact fun F' r' H' u ex s' q => step p S' F' r' H' u ex s' q h
  | ex c p S' => rw [e] at h; exact False.elim h
  | no => rw [e] at h; exact False.elim h
theorem sgT {f : ST} {T : Bool → Hp → Prop} {kk : Bool → Store → RS} (s : Sg G n0 g F r env σ S H) (h : PoS G n0 g F r ((f env S).go kk) D)
    (step : ∀ p S' F' r' H', Ext F F' r r' → Sg G n0 g F' r' env σ S' H' → PoS G n0 g F r (kk p S') D → T p H') : rdT G n0 f σ H T := by
  refine ⟨F, r, env, S, g, s, ?_⟩
  cases e : f env S with
  | ok p S' => rw [e] at h; exact fun F' r' H' ex s' => step p S' F' r' H' ex s' h
  | ex c p S' => rw [e] at h; exact False.elim h
  | no => rw [e] at h; exact False.elim h
theorem sgA {f : SA} {T : List V → Hp → Prop} {kk : List PV → Store → RS} (s : Sg G n0 g F r env σ S H) (h : PoS G n0 g F r ((f env S).go kk) D)
    (step : ∀ p S' F' r' H' us, Ext F F' r r' → Sg G n0 g F' r' env σ S' H' → RVs G F' r' p us → PoS G n0 g F r (kk p S') D → T us H') : rdA G n0 f σ H T := by
  refine ⟨F, r, env, S, g, s, ?_⟩
  cases e : f env S with
  | ok p S' => rw [e] at h; exact fun F' r' H' us ex s' q => step p S' F' r' H' us ex s' q h
  | ex c p S' => rw [e] at h; exact False.elim h
  | no => rw [e] at h; exact False.elim h

variable {st : Stmt} {rest : List Stmt} {fa fb : SS} {e : Expr} {fe : SE} {pos : Pos}
theorem ss_nil : PSs X [] (rdS G n0 sNil) := pssI pss_nil fun D σ H ⟨F, r, env, S, g, s, h⟩ => h F r H σ (.refl F r) s
theorem ss_cons (h1 : PS X st (rdS G n0 fa)) (h2 : PSs X rest (rdS G n0 fb)) : PSs X (st :: rest) (rdS G n0 (sCons fa fb)) := by
  refine pssI (pss_cons h1 h2) fun D σ H ⟨F, r, env, S, g, s, h⟩ => ?_
  refine ⟨F, r, env, S, g, s, ?_⟩
  have h : PoS G n0 g F r ((fa env S).then fb) D := h
  cases e : fa env S with
  | nx env' S' => rw [e] at h; exact fun F' r' H' σ' x s' => goS s' x h
  | bk => rw [e] at h; exact h
  | ct => rw [e] at h; exact h
  | rt => rw [e] at h; exact h
  | ex => rw [e] at h; exact h
  | no => rw [e] at h; exact h
theorem ss_one (h1 : PS X st (rdS G n0 fa)) : PSs X [st] (rdS G n0 fa) := pss_one h1
theorem ss_expr (he : PE X e (rdE G n0 fe)) (hs : swapsWith e none pos.line X.env = pure false := by rfl) : PS X (.Expr e pos) (rdS G n0 (sExp fe)) := by
  refine psI (ps_expr (toV he) hs) fun D σ H ⟨F, r, env, S, g, s, h⟩ => ?_
  exact sgV s h fun p S1 F1 r1 H1 u x1 s1 q1 h1 => h1 F1 r1 H1 σ x1 s1
theorem ss_ret (he : PE X e (rdE G n0 fe)) : PS X (.Return (some e) pos) (rdS G n0 (sRet fe)) := by
  refine psI (ps_ret (toV he)) fun D σ H ⟨F, r, env, S, g, s, h⟩ => ?_
  exact sgV s h fun p S1 F1 r1 H1 u x1 s1 q1 h1 => h1 F1 r1 H1 u x1 s1.hr q1
theorem ss_retN : PS X (.Return none pos) (rdS G n0 sRetN) := psI ps_retN fun D σ H ⟨F, r, env, S, g, s, h⟩ => h F r H .non (.refl F r) s.hr rfl
theorem ss_pass : PS X (.Pass pos) (rdS G n0 sNil) := psI ps_pass fun D σ H ⟨F, r, env, S, g, s, h⟩ => h F r H σ (.refl F r) s
theorem ss_brk : PS X (.Break pos) (rdS G n0 sBrk) := psI ps_break fun D σ H ⟨F, r, env, S, g, s, h⟩ => h F r H σ (.refl F r) s
theorem ss_cnt : PS X (.Continue pos) (rdS G n0 sCnt) := psI ps_continue fun D σ H ⟨F, r, env, S, g, s, h⟩ => h F r H σ (.refl F r) s
theorem ss_no : PS X st (rdS G n0 sNo) := psI ps_never fun D σ H ⟨F, r, env, S, g, s, h⟩ => h
theorem ss_if {c : Expr} {a b : List Stmt} {tc : ST} (hc : PT X c (rdT G n0 tc)) (ha : PSs X a (rdS G n0 fa)) (hb : PSs X b (rdS G n0 fb)) : PS X (.If c a b pos) (rdS G n0 (sIf tc fa fb)) := by
  refine psI (ps_if hc ha hb) fun D σ H ⟨F, r, env, S, g, s, h⟩ => ?_
  refine sgT s h fun p S1 F1 r1 H1 x1 s1 h1 => ?_
  cases p with
  | true => exact goS s1 x1 h1
  | false => exact goS s1 x1 h1
/-! targets -/
theorem Sg.set {i : Nat} {v : PV} {u : V} (s : Sg G n0 g F r env σ S H) (q : RV G F r v u) : Sg G n0 g F r (env.set i (some v)) (σ.set i (some u)) S H := by
  refine ⟨s.hr, by rw [List.length_set, List.length_set, s.sl], fun j w e => ?_⟩
  by_cases hj : i = j
  · subst hj
    have hi : i < env.length := by
      have := (List.getElem?_eq_some_iff.mp e).1
      rwa [List.length_set] at this
    rw [List.getElem?_set_self hi] at e
    cases e
    exact ⟨u, by rw [List.getElem?_set_self (by rw [← s.sl]; exact hi)], q⟩
  · rw [List.getElem?_set_ne hj] at e
    obtain ⟨u', h1, h2⟩ := s.vr j w e
    exact ⟨u', by rw [List.getElem?_set_ne hj]; exact h1, h2⟩
theorem tg_nm (i : Nat) : TgOk G (gNm i) (gName i) := fun n0 g F r env σ S H v u env' Q s q e h => by
  cases e
  exact h _ (s.set q)
/-! several targets -/
def TgsOk (G : Gam) (ts : List Tg) (gs : TGs) : Prop := ∀ n0 g F r env σ S H vs us env' (Q : L2.St → Hp → Prop), Sg G n0 g F r env σ S H → RVs G F r vs us → gTps ts vs env S = some env' → (∀ σ', Sg G n0 g F r env' σ' S H → Q σ' H) → gs us σ H Q
theorem tgs_nil : TgsOk G [] gNil := fun n0 g F r env σ S H vs us env' Q s q e h => by
  cases vs with
  | nil =>
    cases e
    exact ⟨q, h σ s⟩
  | cons v vs => cases e
theorem tgs_cons {t : Tg} {ts : List Tg} {gg : TG} {gs : TGs} (h1 : TgOk G t gg) (h2 : TgsOk G ts gs) : TgsOk G (t :: ts) (gCons gg gs) := fun n0 g F r env σ S H vs us env' Q s q e h => by
  cases vs with
  | nil => cases e
  | cons v vs =>
    obtain ⟨u, ur, rfl, q1, q2⟩ := q
    have e : (match t v env S with
      | some env' => gTps ts vs env' S
      | none => none) = some env' := e
    cases e1 : t v env S with
    | none => rw [e1] at e; cases e
    | some env1 =>
      rw [e1] at e
      exact ⟨u, ur, rfl, h1 n0 g F r env σ S H v u env1 _ s q1 e1 fun σ' s' => h2 n0 g F r env1 σ' S H vs ur env' Q s' q2 e h⟩
theorem gTps_len {ts : List Tg} : ∀ {vs : List PV} {env env' : Env}, gTps ts vs env S = some env' → vs.length = ts.length := by
  induction ts with
  | nil =>
    intro vs env env' e
    cases vs with
    | nil => rfl
    | cons => cases e
  | cons t ts ih =>
    intro vs env env' e
    cases vs with
    | nil => cases e
    | cons v vs =>
      have e : (match t v env S with
        | some env' => gTps ts vs env' S
        | none => none) = some env' := e
      cases e1 : t v env S with
      | none => rw [e1] at e; cases e
      | some env1 =>
        rw [e1] at e
        rw [List.length_cons, List.length_cons, ih e]
theorem tg_tp {ts : List Tg} {gs : TGs} {n : Nat} (h : TgsOk G ts gs) (hn : ts.length = n) : TgOk G (gTp ts) (gTup G.K n gs) := fun n0 g F r env σ S H v u env' Q s q e k => by
  unfold gTp at e
  split at e
  · rename_i xs e'
    obtain ⟨a, us, rfl, h1, h2⟩ := view_tup s.hr q e'
    exact ⟨a, us, rfl, h1, by rw [← RVs.length h2, gTps_len e, hn], h n0 g F r env σ S H xs us env' Q s h2 e k⟩
  · cases e
theorem ss_asg {gg : TG} {t : Tg} (hp : PS X st (tAsg (rdV G n0 fe) gg)) (ht : TgOk G t gg) : PS X st (rdS G n0 (sAsg t fe)) := by
  refine psI hp fun D σ H ⟨F, r, env, S, g, s, h⟩ => ?_
  refine sgV s h fun p S1 F1 r1 H1 u x1 s1 q1 h1 => ?_
  cases e : t p.2 env S1 with
  | none => rw [e] at h1; exact False.elim h1
  | some env' =>
    rw [e] at h1
    exact ht n0 g F1 r1 env σ S1 H1 p.2 u env' D.nx s1 q1 e fun σ' s' => h1 F1 r1 H1 σ' x1 s'
theorem ss_par {i j : Nat} {ft : SA} (hp : PS X st (tPar i j (rdA G n0 ft))) : PS X st (rdS G n0 (sPar [i, j] ft)) := by
  refine psI hp fun D σ H ⟨F, r, env, S, g, s, h⟩ => ?_
  refine sgA s h fun p S1 F1 r1 H1 us x1 s1 q1 h1 => ?_
  match p, q1, h1 with
  | [], _, h1 => exact False.elim h1
  | [a], _, h1 => exact False.elim h1
  | a :: b :: c :: d, _, h1 => exact False.elim h1
  | [a, b], q1, h1 =>
    obtain ⟨u, ur, rfl, k1, q2⟩ := q1
    obtain ⟨v, vr, rfl, k2, q3⟩ := q2
    have e : vr = [] := q3
    subst e
    exact ⟨u, v, rfl, h1 F1 r1 H1 _ x1 ((s1.set k1).set k2)⟩
theorem ss_par3 {i j l : Nat} {ft : SA} (hp : PS X st (tPar3 i j l (rdA G n0 ft))) : PS X st (rdS G n0 (sPar [i, j, l] ft)) := by
  refine psI hp fun D σ H ⟨F, r, env, S, g, s, h⟩ => ?_
  refine sgA s h fun p S1 F1 r1 H1 us x1 s1 q1 h1 => ?_
  match p, q1, h1 with
  | [], _, h1 => exact False.elim h1
  | [a], _, h1 => exact False.elim h1
  | [a, b], _, h1 => exact False.elim h1
  | a :: b :: c :: d :: e, _, h1 => exact False.elim h1
  | [a, b, c], q1, h1 =>
    obtain ⟨u, ur, rfl, k1, q2⟩ := q1
    obtain ⟨v, vr, rfl, k2, q3⟩ := q2
    obtain ⟨w, wr, rfl, k3, q4⟩ := q3
    have e : wr = [] := q4
    subst e
    exact ⟨u, v, w, rfl, h1 F1 r1 H1 _ x1 (((s1.set k1).set k2).set k3)⟩
theorem ss_aug {i : Nat} {o : Op2} {t : TIp} (hp : PS X st (tAug i (rdV G n0 fe) t)) (ho : Ok2 G o t) : PS X st (rdS G n0 (sAug i o fe)) := by
  refine psI hp fun D σ H ⟨F, r, env, S, g, s, h⟩ => ?_
  unfold sAug at h
  split at h
  · rename_i x ex
    obtain ⟨u, e1, q⟩ := s.vr i x ex
    refine ⟨u, e1, sgV s h fun p S1 F1 r1 H1 w x1 s1 q1 h1 => ?_⟩
    cases eo : o x p.2 S1 with
    | none => rw [eo] at h1; exact False.elim h1
    | some z =>
      rw [eo] at h1
      refine ho n0 g F1 r1 S1 H1 x p.2 u w z _ s1.hr (q.ext x1) q1 eo fun F2 r2 H2 y x2 hr2 rf => ?_
      obtain ⟨F3, x3, hr3, q3⟩ := freeze hr2 rf
      exact h1 F3 r2 H2 _ ((x1.trans x2).trans x3) ((s1.ext (x2.trans x3) hr3).set q3)
  · exact False.elim h
/-! loops -/
theorem unl_nx {ls : List (Nat × PV)} {z : RS} {e : Env} {S' : Store} (h : z = .nx e S') : z.unl ls = .nx e (unlock ls S') := by rw [h]; rfl
theorem ss_for {fi : SI} {t : Tg} {gg : TG} (hf : PS X st (tFor (rdI G n0 fi) gg (rdS G n0 fb))) (ht : TgOk G t gg) : PS X st (rdS G n0 (sFor fi t fb)) := by
  refine psI hf fun D σ H ⟨F, r, env, S, g, s, h⟩ => ?_
  refine ⟨F, r, env, S, g, s, ?_⟩
  have h : PoS G n0 g F r ((fi env S).go fun p S1 => (forR t fb p.1 env S1).unl p.2) D := h
  cases ei : fi env S with
  | no => rw [ei] at h; exact False.elim h
  | ex => rw [ei] at h; exact False.elim h
  | ok p S1 =>
    rw [ei] at h
    obtain ⟨xs, ls⟩ := p
    have h : PoS G n0 g F r ((forR t fb xs env S1).unl ls) D := h
    intro F1 r1 H1 J g' x1 s1 its _ ul
    have ul : ∀ F2 r2 S2 H2, HR G n0 g' F2 r2 S2 H2 → Ext F1 F2 r1 r2 → HR G n0 g F2 r2 (unlock ls S2) H2 := ul none (fun p e => nomatch e)
    have its : Its G n0 g' F1 r1 J xs := its
    refine ⟨fun i m σ' H' => m = xs.length - i ∧ i ≤ xs.length ∧ ∃ F2 r2 env2 S2, Ext F1 F2 r1 r2 ∧ Sg G n0 g' F2 r2 env2 σ' S2 H' ∧ PoS G n0 g F r ((forR t fb (xs.drop i) env2 S2).unl ls) D,
      ⟨xs.length, rfl, Nat.zero_le _, F1, r1, env, S1, .refl _ _, s1, h⟩, ?_⟩
    rintro i m σ2 H2 ⟨rfl, hi, F2, r2, env2, S2, x2, s2, h2⟩
    obtain ⟨ig, ie⟩ := its g' (.refl g') F2 r2 S2 H2 s2.hr x2
    by_cases hlt : i < xs.length
    · have hx : xs[i]? = some xs[i] := List.getElem?_eq_getElem hlt
      have hd : xs.drop i = xs[i] :: xs.drop (i + 1) := List.drop_eq_getElem_cons hlt
      rw [hd] at h2
      obtain ⟨go, yl⟩ := ig i xs[i] hx
      refine .inr ⟨go, fun σ' H' => (xs.length - (i + 1)) < xs.length - i ∧ ∃ F2 r2 env2 S2, Ext F1 F2 r1 r2 ∧ Sg G n0 g' F2 r2 env2 σ' S2 H' ∧ PoS G n0 g F r ((forR t fb (xs.drop (i + 1)) env2 S2).unl ls) D,
        fun σ' H' ⟨q0, q⟩ => ⟨_, q0, rfl, hlt, q⟩, fun v H3 hy => ?_⟩
      obtain ⟨F3, x3, hr3, q3⟩ := yl v H3 hy
      have h3 : PoS G n0 g F r ((match t xs[i] env2 S2 with
        | none => RS.no
        | some env' => match fb env' S2 with
          | .nx e S' => forR t fb (xs.drop (i + 1)) e S'
          | .ct e S' => forR t fb (xs.drop (i + 1)) e S'
          | .bk e S' => .nx e S'
          | z => z).unl ls) D := h2
      cases et : t xs[i] env2 S2 with
      | none => rw [et] at h3; exact False.elim h3
      | some env3 =>
        simp only [et] at h3
        refine ht n0 g' F3 r2 env2 σ2 S2 H3 xs[i] v env3 _ (s2.ext x3 hr3) q3 et fun σ3 s3 => ?_
        refine ⟨F3, r2, env3, S2, g', s3, ?_⟩
        have xx : Ext F1 F3 r1 r2 := x2.trans x3
        cases eb : fb env3 S2 with
        | nx e S' =>
          rw [eb] at h3
          exact fun F4 r4 H4 σ4 x4 s4 => ⟨by omega, F4, r4, e, S', xx.trans x4, s4, h3⟩
        | ct e S' =>
          rw [eb] at h3
          exact fun F4 r4 H4 σ4 x4 s4 => ⟨by omega, F4, r4, e, S', xx.trans x4, s4, h3⟩
        | bk e S' =>
          rw [eb] at h3
          exact fun F4 r4 H4 σ4 x4 s4 => h3 F4 r4 H4 σ4 ((x1.trans xx).trans x4) ⟨ul F4 r4 S' H4 s4.hr (xx.trans x4), s4.sl, s4.vr⟩
        | rt w S' =>
          rw [eb] at h3
          exact fun F4 r4 H4 u4 x4 s4 q4 => h3 F4 r4 H4 u4 ((x1.trans xx).trans x4) (ul F4 r4 S' H4 s4 (xx.trans x4)) q4
        | ex => rw [eb] at h3; exact False.elim h3
        | no => rw [eb] at h3; exact False.elim h3
    · have e : i = xs.length := by omega
      subst e
      rw [List.drop_length] at h2
      exact .inl ⟨ie _ (Nat.le_refl _), h2 F2 r2 H2 σ2 (x1.trans x2) ⟨ul F2 r2 S2 H2 s2.hr x2, s2.sl, s2.vr⟩⟩
theorem ss_whl {n : Nat} {tc : ST} (hf : PS X st (tWhile (rdT G n0 tc) (rdS G n0 fb))) : PS X st (rdS G n0 (sWhl n tc fb)) := by
  refine psI hf fun D σ H ⟨F, r, env, S, g, s, h⟩ => ?_
  refine ⟨fun m σ' H' => ∃ F2 r2 env2 S2, Ext F F2 r r2 ∧ Sg G n0 g F2 r2 env2 σ' S2 H' ∧ PoS G n0 g F r (whileR tc fb m env2 S2) D, ⟨n, F, r, env, S, .refl _ _, s, h⟩, ?_⟩
  rintro m σ2 H2 ⟨F2, r2, env2, S2, x2, s2, h2⟩
  cases m with
  | zero => exact False.elim h2
  | succ m =>
    have h2 : PoS G n0 g F r ((tc env2 S2).go fun t S1 => if t = true then
      match fb env2 S1 with
      | .nx e S' => whileR tc fb m e S'
      | .ct e S' => whileR tc fb m e S'
      | .bk e S' => .nx e S'
      | z => z
      else .nx env2 S1) D := h2
    refine ⟨F2, r2, env2, S2, g, s2, ?_⟩
    cases ec : tc env2 S2 with
    | no => rw [ec] at h2; exact False.elim h2
    | ex => rw [ec] at h2; exact False.elim h2
    | ok b S3 =>
      rw [ec] at h2
      intro F3 r3 H3 x3 s3
      cases b with
      | false => exact h2 F3 r3 H3 σ2 (x2.trans x3) s3
      | true =>
        rw [if_pos rfl]
        refine ⟨fun σ' H' => ∃ F2 r2 env2 S2, Ext F F2 r r2 ∧ Sg G n0 g F2 r2 env2 σ' S2 H' ∧ PoS G n0 g F r (whileR tc fb m env2 S2) D, fun σ' H' q => ⟨m, Nat.lt_succ_self m, q⟩, F3, r3, env2, S3, g, s3, ?_⟩
        have h3 : PoS G n0 g F r (match fb env2 S3 with
          | .nx e S' => whileR tc fb m e S'
          | .ct e S' => whileR tc fb m e S'
          | .bk e S' => .nx e S'
          | z => z) D := h2
        have xx : Ext F F3 r r3 := x2.trans x3
        cases eb : fb env2 S3 with
        | nx e S' => rw [eb] at h3; exact fun F4 r4 H4 σ4 x4 s4 => ⟨F4, r4, e, S', xx.trans x4, s4, h3⟩
        | ct e S' => rw [eb] at h3; exact fun F4 r4 H4 σ4 x4 s4 => ⟨F4, r4, e, S', xx.trans x4, s4, h3⟩
        | bk e S' => rw [eb] at h3; exact fun F4 r4 H4 σ4 x4 s4 => h3 F4 r4 H4 σ4 (xx.trans x4) s4
        | rt w S' => rw [eb] at h3; exact fun F4 r4 H4 u4 x4 s4 q4 => h3 F4 r4 H4 u4 (xx.trans x4) s4 q4
        | ex => rw [eb] at h3; exact False.elim h3
        | no => rw [eb] at h3; exact False.elim h3
end
end PX
set_option Elab.async false
set_option linter.all false
set_option maxRecDepth 100000
namespace PX
open PySem PySem.Spec PyProof.Rows L2

section
variable {G : Gam} {n0 : Nat} {g : Gh} {F : Hp} {r : List Addr} {S : Store} {H : Hp}
theorem rv_of_ro {a : Addr} {ho : HO} {v : PV} (hF : F a = some ho) (ro : RO G F r v ho) (hu : unl v = v) : RV G F r v (.ref a) := by
  unfold RO at ro
  rw [hu] at ro
  split at ro
  · obtain ⟨us, rfl, k⟩ := ro
    exact ⟨a, us, rfl, .inl hF, k⟩
  · obtain ⟨us, d, k⟩ := ro
    exact ⟨a, us, ho, rfl, hF, d, k⟩
  · obtain ⟨dx, us, rfl, l, k⟩ := ro
    exact ⟨a, dx, us, rfl, hF, l, k⟩
  · exact ro.elim
/-! the young objects are frozen, but the one at t -/
def frF (n0 t : Nat) (g : Gh) (F : Hp) (r : List Addr) (H : Hp) : Hp := fun a => open Classical in if a ∈ r.drop n0 ∧ g.pn a = none ∧ r[t]? ≠ some a then H a else F a
theorem frF_le (h : HR G n0 g F r S H) (t : Nat) : Le F (frF n0 t g F r H) := fun a o e => by
  unfold frF
  rw [if_neg (fun z => by rw [h.off a (List.mem_of_mem_drop z.1)] at e; cases e)]
  exact e
theorem frF_sub (h : HR G n0 g F r S H) (t : Nat) : Le (frF n0 t g F r H) H := fun a o e => by
  unfold frF at e
  split at e
  · exact e
  · exact h.sub a o e
theorem take_at (h : HR G n0 g F r S H) {i : Nat} {a : Addr} (hi : i < n0) (e : r[i]? = some a) : (r.take n0)[i]? = some a := by
  rw [List.getElem?_take, if_pos hi]
  exact e
theorem frF_at (h : HR G n0 g F r S H) {t i : Nat} {a : Addr} {ob : PV} (hi : ¬ i < n0) (ht : i ≠ t) (e : r[i]? = some a) (eo : S[i]? = some ob) (hu : unl ob = ob) : frF n0 t g F r H a = H a := by
  unfold frF
  refine if_pos ⟨?_, h.nopin e eo hu, fun e2 => ?_⟩
  · have : (r.drop n0)[i - n0]? = some a := by
      rw [List.getElem?_drop]
      rw [show n0 + (i - n0) = i by omega]
      exact e
    exact List.mem_of_getElem? this
  · obtain ⟨h1, e1⟩ := List.getElem?_eq_some_iff.mp e
    obtain ⟨h2, e2⟩ := List.getElem?_eq_some_iff.mp e2
    exact ht ((List.getElem_inj h.nd).mp (e1.trans e2.symm))
section
variable {t : Nat} (h : HR G n0 g F r S H)
include h
theorem frzL_ok {f : PV → Option PV} (hf : ∀ v u w, RV G F r v u → f v = some w → RV G (frF n0 t g F r H) (r.take n0) w u) : ∀ {vs : List PV} {us : List V} {ws : List PV}, RVs G F r vs us → frzL f vs = some ws → RVs G (frF n0 t g F r H) (r.take n0) ws us
  | [], us, ws, q, e => by cases e; exact q
  | v :: vs, us, ws, q, e => by
    obtain ⟨u, ur, rfl, k, l⟩ := q
    unfold frzL at e
    cases e1 : f v with
    | none => rw [e1] at e; cases e
    | some w =>
      simp only [e1] at e
      cases e2 : frzL f vs with
      | none => rw [e2] at e; cases e
      | some ws' =>
        rw [e2] at e
        cases e
        exact ⟨u, ur, rfl, hf v u w k e1, frzL_ok hf l e2⟩
theorem frzO_ok {f : PV → Option PV} (hf : ∀ v u w, RV G F r v u → f v = some w → RV G (frF n0 t g F r H) (r.take n0) w u) {o w : PV} {ho : HO} (q : RO G F r o ho) (e : frzO f o = some w) : RO G (frF n0 t g F r H) (r.take n0) w ho ∧ unl w = w ∧ unl o = o := by
  unfold frzO at e
  split at e
  · cases e1 : frzL f ‹_› with
    | none => rw [e1] at e; cases e
    | some ws =>
      rw [e1] at e
      cases e
      obtain ⟨us, rfl, k⟩ := q
      exact ⟨⟨us, rfl, frzL_ok h hf k e1⟩, rfl, rfl⟩
  · cases e1 : frzL f ‹List PV› with
    | none => rw [e1] at e; cases e
    | some ws =>
      rw [e1] at e
      cases e
      obtain ⟨us, d, k⟩ := q
      exact ⟨⟨us, d, frzL_ok h hf k e1⟩, rfl, rfl⟩
  · cases e1 : frzL f ‹List PV› with
    | none => rw [e1] at e; cases e
    | some ws =>
      rw [e1] at e
      cases e
      obtain ⟨dx, us, rfl, l, k⟩ := q
      exact ⟨⟨dx, us, rfl, l, frzL_ok h hf k e1⟩, rfl, rfl⟩
  · cases e
theorem frz_ok : ∀ (k : Nat) (v : PV) (u : V) (w : PV), RV G F r v u → frz n0 t S k v = some w → RV G (frF n0 t g F r H) (r.take n0) w u
  | 0, _, _, _, _, e => by cases e
  | k + 1, v, u, w, q, e => by
    have ih := frz_ok k
    have le := frF_le h t
    cases v with
    | non => cases e; exact q
    | bl => cases e; exact q
    | int => cases e; exact q
    | str => cases e; exact q
    | lck => cases e
    | ref i =>
      have e : (if i < n0 then some (.ref i) else if i = t then none else match S[i]? with
        | some o => frzO (frz n0 t S k) o
        | none => none) = some w := e
      split at e
      · rename_i hi
        cases e
        obtain ⟨a, e1, rfl⟩ := q
        exact ⟨a, take_at h hi e1, rfl⟩
      · rename_i hi
        split at e
        · cases e
        · rename_i ht
          cases eo : S[i]? with
          | none => rw [eo] at e; cases e
          | some o =>
            simp only [eo] at e
            obtain ⟨a, ho, rfl, e1, e2, e3⟩ := h.ref q eo
            obtain ⟨z1, z2, z3⟩ := frzO_ok h ih e3 e
            exact rv_of_ro (by rw [frF_at h hi ht e1 eo z3]; exact e2) z1 z2
    | tup xs =>
      have e : (frzL (frz n0 t S k) xs).map .tup = some w := e
      cases e1 : frzL (frz n0 t S k) xs with
      | none => rw [e1] at e; cases e
      | some ws =>
        rw [e1] at e; cases e
        obtain ⟨a, us, rfl, k1, k2⟩ := q
        exact ⟨a, us, rfl, le _ _ k1, frzL_ok h ih k2 e1⟩
    | lst xs =>
      have e : (frzL (frz n0 t S k) xs).map .lst = some w := e
      cases e1 : frzL (frz n0 t S k) xs with
      | none => rw [e1] at e; cases e
      | some ws =>
        rw [e1] at e; cases e
        obtain ⟨a, us, rfl, k1, k2⟩ := q
        exact ⟨a, us, rfl, le.rd k1, frzL_ok h ih k2 e1⟩
    | dct ks vs =>
      have e : (frzL (frz n0 t S k) vs).map (.dct ks) = some w := e
      cases e1 : frzL (frz n0 t S k) vs with
      | none => rw [e1] at e; cases e
      | some ws =>
        rw [e1] at e; cases e
        obtain ⟨a, us, ho, rfl, k1, d, k2⟩ := q
        exact ⟨a, us, ho, rfl, le _ _ k1, d, frzL_ok h ih k2 e1⟩
    | ins c ns vs =>
      have e : (frzL (frz n0 t S k) vs).map (.ins c ns) = some w := e
      cases e1 : frzL (frz n0 t S k) vs with
      | none => rw [e1] at e; cases e
      | some ws =>
        rw [e1] at e; cases e
        obtain ⟨a, dx, us, rfl, k1, d, k2⟩ := q
        exact ⟨a, dx, us, rfl, le _ _ k1, d, frzL_ok h ih k2 e1⟩
/-! what stays -/
theorem frz_hr (t : Nat) : HR G n0 g (frF n0 t g F r H) (r.take n0) (S.take n0) H := by
  have hnd : r.Nodup := h.nd
  have apart : ∀ a, a ∈ r.take n0 → a ∈ r.drop n0 → False := fun a h1 h2 => by
    have e : r = r.take n0 ++ r.drop n0 := (List.take_append_drop n0 r).symm
    rw [e] at hnd
    exact (List.nodup_append.mp hnd).2.2 a h1 a h2 rfl
  refine ⟨frF_sub h t, (List.take_sublist n0 r).nodup hnd, fun a ha => ?_, by rw [List.length_take, List.length_take, h.len], by rw [List.length_take]; have := h.nle; omega, h.lle, fun i ob a e1 e2 => ?_, fun a o e => ?_, fun i ob a e1 e2 => ?_, fun a o e el ha => h.out a o e el (List.mem_of_mem_take ha)⟩
  · unfold frF
    rw [if_neg (fun z => apart a ha z.1)]
    exact h.off a (List.mem_of_mem_take ha)
  · rw [List.getElem?_take] at e1 e2
    split at e1
    · rename_i hi
      rw [if_pos hi] at e2
      obtain ⟨ho, q1, q2⟩ := h.obj i ob a e1 e2
      refine ⟨ho, q1, RO.mono (frF_le h t) (fun j b e => ?_) q2⟩
      unfold lim at e ⊢
      rw [if_pos hi] at e ⊢
      have hl := h.lle i hi
      rw [List.getElem?_take] at e ⊢
      split at e
      · rename_i hj
        rw [if_pos hj, List.getElem?_take, if_pos (by omega)]
        exact e
      · cases e
    · cases e1
  · obtain ⟨q1, q2, q3⟩ := h.pin a o e
    refine ⟨q1, ?_, fun i hi => ?_⟩
    · unfold frF
      rw [if_neg (fun z => by rw [z.2.1] at e; cases e)]
      exact q2
    · rw [List.getElem?_take] at hi
      split at hi
      · rename_i hi'
        obtain ⟨ob, hb⟩ := q3 i hi
        exact ⟨ob, by rw [List.getElem?_take, if_pos hi']; exact hb⟩
      · cases hi
  · rw [List.getElem?_take] at e1 e2
    split at e1
    · rename_i hi
      rw [if_pos hi] at e2
      exact h.lckd i ob a e1 e2
    · cases e1
end
/-! behind a call -/
theorem norm_ok {v v' : PV} {u : V} {b : Bool} {S' : Store} (h : HR G n0 g F r S H) (q : RV G F r v u) (e : norm n0 v S = .ok (b, v') S') :
    ∃ F', Le F F' ∧ HR G n0 g F' (r.take n0) S' H ∧ RF G g F' (r.take n0) H b v' u := by
  have hl := h.nle
  unfold norm at e
  split at e
  · rename_i hs
    cases e
    have e2 : r.take n0 = r := List.take_of_length_le (by rw [h.len, hs]; exact Nat.le_refl _)
    rw [e2]
    exact ⟨F, .refl F, h, q⟩
  · have any : ∀ w, frz n0 S.length S 8 v = some w → ∃ F', Le F F' ∧ HR G n0 g F' (r.take n0) (S.take n0) H ∧ RF G g F' (r.take n0) H false w u := fun w e =>
      ⟨_, frF_le h S.length, frz_hr h S.length, frz_ok h 8 v u w q e⟩
    split at e
    · rename_i i
      split at e
      · rename_i hi
        cases e
        obtain ⟨a, e1, rfl⟩ := q
        exact ⟨_, frF_le h i, frz_hr h i, ⟨a, take_at h hi e1, rfl⟩⟩
      · rename_i hi
        cases eo : S[i]? with
        | none => simp only [eo] at e; cases e
        | some o =>
          simp only [eo] at e
          cases ew : frzO (frz n0 i S 8) o with
          | none => simp only [ew] at e; cases e
          | some w =>
            simp only [ew] at e
            cases e
            obtain ⟨a, ho, rfl, e1, e2, e3⟩ := h.ref q eo
            obtain ⟨z1, z2, z3⟩ := frzO_ok h (frz_ok h 8) e3 ew
            refine ⟨_, frF_le h i, frz_hr h i, ⟨a, ho, rfl, e2, ?_, fun hm => ?_, h.nopin e1 eo z3, z1, z2⟩⟩
            · unfold frF
              rw [if_neg (fun z => z.2.2 e1)]
              exact h.off a (List.mem_of_getElem? e1)
            · obtain ⟨j, hj, ej⟩ := List.getElem_of_mem hm
              have hj2 : j < n0 := by rw [List.length_take] at hj; omega
              rw [List.getElem_take] at ej
              obtain ⟨h2, e2⟩ := List.getElem?_eq_some_iff.mp e1
              have := (List.getElem_inj h.nd).mp (ej.trans e2.symm)
              omega
    · cases ew : frz n0 S.length S 8 v with
      | none => rw [ew] at e; cases e
      | some w =>
        rw [ew] at e
        cases e
        exact any _ ew

/-! ### what a def promises -/
def spF (G : Gam) (cf : CF) (f np : Nat) : Sp := fun vs H Q _ => ∃ F r S g n0 args, HR G n0 g F r S H ∧ RVs G F r args vs ∧ args.length = np ∧ match cf f args n0 S with
  | .ok v S' => ∀ F' r' H' u, Ext F F' r r' → HR G n0 g F' r' S' H' → RV G F' r' v u → Q u H'
  | _ => False
theorem spF_len {cf : CF} {f np : Nat} : ∀ vs H Q E, spF G cf f np vs H Q E → vs.length = np := fun vs H Q E ⟨F, r, S, g, n0, args, _, q, l, _⟩ => by rw [← RVs.length q, l]
/-! the callee's frame -/
def subG (n0 : Nat) (g : Gh) (n : Nat) : Gh := ⟨fun i => if i < n0 then g.L i else n, g.pn, g.lk⟩
theorem HR.call (h : HR G n0 g F r S H) : HR G S.length (subG n0 g S.length) F r S H := by
  refine ⟨h.sub, h.nd, h.off, h.len, Nat.le_refl _, fun i hi => ?_, fun i ob a e1 e2 => ?_, h.pin, h.lckd, h.out⟩
  · unfold subG
    show (if i < n0 then g.L i else S.length) ≤ S.length
    split
    · rename_i h1
      exact Nat.le_trans (h.lle i h1) h.nle
    · exact Nat.le_refl _
  · obtain ⟨ho, q1, q2⟩ := h.obj i ob a e1 e2
    refine ⟨ho, q1, RO.mono (.refl F) (fun j b e => ?_) q2⟩
    have hi : i < S.length := (List.getElem?_eq_some_iff.mp e1).1
    unfold lim at e ⊢
    rw [if_pos hi]
    unfold subG
    show (r.take (if i < n0 then g.L i else S.length))[j]? = some b
    split at e
    · rename_i h1
      rw [if_pos h1]
      exact e
    · rename_i h1
      rw [if_neg h1, ← h.len, List.take_length]
      exact e
/-! back from the callee: S the caller's store at the call, r its places -/
theorem HR.back {F2 : Hp} {S2 : Store} {H2 : Hp} (h : HR G n0 g F r S H) (k : HR G S.length (subG n0 g S.length) F2 r S2 H2) : HR G n0 g F2 r S2 H2 := by
  refine ⟨k.sub, k.nd, k.off, k.len, Nat.le_trans h.nle k.nle, h.lle, fun i ob a e1 e2 => ?_, k.pin, k.lckd, k.out⟩
  obtain ⟨ho, q1, q2⟩ := k.obj i ob a e1 e2
  refine ⟨ho, q1, RO.mono (.refl F2) (fun j b e => ?_) q2⟩
  have hi : i < S.length := by
    rw [← h.len, k.len]
    exact (List.getElem?_eq_some_iff.mp e1).1
  unfold lim at e ⊢
  rw [if_pos hi] at e
  unfold subG at e
  have e : (r.take (if i < n0 then g.L i else S.length))[j]? = some b := e
  split
  · rename_i h1
    rw [if_pos h1] at e
    exact e
  · rename_i h1
    rw [if_neg h1, ← h.len, List.take_length] at e
    exact e
theorem take_ext {F2 : Hp} {r2 : List Addr} (h : HR G n0 g F r S H) (x : Ext F F2 r r2) : r2.take S.length = r := by
  obtain ⟨t, ht⟩ := x.2
  rw [← ht, ← h.len, List.take_left']
  rfl
end
section
variable {X : Cx} {G : Gam} {n0 : Nat} {a : Expr} {es : List Expr} {fs : SA} {e : Expr} {cf : CF} {np f : Nat}
/-! f(..) -/
theorem run_call {g : Gh} {F0 F : Hp} {r0 r : List Addr} {env : Env} {σ : L2.St} {S : Store} {H : Hp} {Q : VK} {E : XK} {args : List PV} {us : List V} (s : Sg G n0 g F r env σ S H) (x0 : Ext F0 F r0 r) (q : RVs G F r args us) (hl : args.length = np)
    (h : PoE G n0 g F0 r0 env σ ((cutX S.length (cf f args S.length S)).bind fun v S2 => norm S.length v S2) Q) : spF G cf f np us H Q E := by
  refine ⟨F, r, S, subG n0 g S.length, S.length, args, s.hr.call, q, hl, ?_⟩
  cases ec : cf f args S.length S with
  | no => rw [ec] at h; exact h
  | ex => rw [ec] at h; exact h
  | ok v S2 =>
    rw [ec] at h
    intro F2 r2 H2 u x2 h2 q2
    have h : PoE G n0 g F0 r0 env σ (norm S.length v S2) Q := h
    cases en : norm S.length v S2 with
    | no => rw [en] at h; exact h.elim
    | ex => rw [en] at h; exact h.elim
    | ok p S3 =>
      rw [en] at h
      obtain ⟨b, w⟩ := p
      obtain ⟨F3, x3, h3, q3⟩ := norm_ok h2 q2 en
      rw [take_ext s.hr x2] at h3 q3
      have x4 : Ext F F3 r r := ⟨x2.1.trans x3, List.prefix_refl r⟩
      exact h F3 r H2 u (x0.trans x4) (s.ext x4 (s.hr.back h3)) q3
theorem se_call (hp : PE X e (tCall (spF G cf f np) [] E0 (rdA G n0 fs))) : PE X e (rdE G n0 (eCall cf np f fs)) := by
  refine peI hp fun σ H Q ⟨F, r, env, S, g, s, h⟩ => ?_
  refine stA s cnE h fun p S1 F1 r1 H1 us x1 s1 q1 h1 => ?_
  split at h1
  · rename_i hl
    rw [List.append_nil]
    exact run_call s1 x1 q1 hl h1
  · exact h1.elim
/-! a def: its body gives its promise -/
theorem sg_start {g : Gh} {F : Hp} {r : List Addr} {S : Store} {H : Hp} {N : List Str} {nl : Nat} {args : List PV} {vs : List V} (h : HR G n0 g F r S H) (q : RVs G F r args vs) (hl : args.length = np) (hn : nl - np = N.length - np) :
    Sg G n0 g F r (args.map some ++ List.replicate (nl - np) none) (L2.start N vs) S H := by
  have l := RVs.length q
  refine ⟨h, ?_, fun i v e => ?_⟩
  · unfold L2.start
    rw [List.length_append, List.length_append, List.length_map, List.length_map, List.length_replicate, List.length_replicate, ← l, hl, hn]
  · by_cases hi : i < args.length
    · rw [List.getElem?_append_left (by rw [List.length_map]; exact hi), List.getElem?_map] at e
      cases ea : args[i]? with
      | none => rw [ea] at e; cases e
      | some w =>
        rw [ea] at e
        cases e
        obtain ⟨u, e1, q1⟩ := RVs.get q ea
        refine ⟨u, ?_, q1⟩
        unfold L2.start
        rw [List.getElem?_append_left (by rw [List.length_map, ← l]; exact hi), List.getElem?_map, e1]
        rfl
    · rw [List.getElem?_append_right (by rw [List.length_map]; omega), List.getElem?_replicate] at e
      split at e <;> cases e
theorem body_ok {T : Nat → Option FnB} {n : Nat} {b : FnB} {N : List Str} {vs : List V} {H : Hp} {Q : VK} {E : XK} (hT : T f = some b) (hn : b.nl = N.length) (h : spF G (callF T (n + 1)) f b.np vs H Q E) :
    ∃ n0, rdS G n0 (b.body (callF T n) n0) { nx := fun _ H' => Q .non H', rt := Q } (L2.start N vs) H := by
  obtain ⟨F, r, S, g, n0, args, hr, q, l, h⟩ := h
  refine ⟨n0, F, r, _, S, g, sg_start (nl := b.nl) hr q l (by rw [hn]), ?_⟩
  have h : (match (match T f with
    | some b => runB b (callF T n) args n0 S
    | none => R.no) with
    | .ok v S' => ∀ F' r' H' u, Ext F F' r r' → HR G n0 g F' r' S' H' → RV G F' r' v u → Q u H'
    | _ => False) := h
  rw [hT] at h
  simp only [runB] at h
  rw [if_pos l] at h
  cases eb : b.body (callF T n) n0 (args.map some ++ List.replicate (b.nl - b.np) none) S with
  | nx env' S' => rw [eb] at h; exact fun F' r' H' σ' x s' => h F' r' H' .non x s'.hr rfl
  | rt v S' => rw [eb] at h; exact h
  | bk => rw [eb] at h; exact h.elim
  | ct => rw [eb] at h; exact h.elim
  | ex => rw [eb] at h; exact h.elim
  | no => rw [eb] at h; exact h.elim
end
end PX
set_option Elab.async false
set_option linter.all false
set_option maxRecDepth 100000
namespace PX
open PySem
/-! ### data -/
def toDL (f : PV → Option PyData) : List PV → Option (List PyData)
  | [] => some []
  | v :: vs => match f v with
    | some d => match toDL f vs with
      | some ds => some (d :: ds)
      | none => none
    | none => none
def toD (S : Store) : Nat → PV → Option PyData
  | 0, v => match v with
    | .non => some .none
    | .bl b => some (.bool b)
    | .int i => some (.int i)
    | .str x => if PyData.strOk x then some (.str x) else none
    | _ => none
  | k + 1, v => match deref S v with
    | some .non => some .none
    | some (.bl b) => some (.bool b)
    | some (.int i) => some (.int i)
    | some (.str x) => if PyData.strOk x then some (.str x) else none
    | some (.lst xs) => (toDL (toD S k) xs).map .list
    | some (.tup xs) => (toDL (toD S k) xs).map .tuple
    | _ => none
def eqD (S : Store) (v w : PV) : Option Bool := match toD S 6 v with
  | some d => match toD S 6 w with
    | some e => some (PyData.eqv d e)
    | none => none
  | none => none
def oEq : Op2 := fun x y S => (eqD S x y).map fun b => (false, .bl b)
def oNe : Op2 := fun x y S => (eqD S x y).map fun b => (false, .bl (!b))
def oIsN : Op2 := fun x y S => match y with
  | .non => match deref S x with
    | some .non => some (false, .bl true)
    | some _ => some (false, .bl false)
    | none => none
  | _ => none
def oNotN : Op2 := fun x y S => match y with
  | .non => match deref S x with
    | some .non => some (false, .bl false)
    | some _ => some (false, .bl true)
    | none => none
  | _ => none
/-! ### built-in functions by values -/
def intsOf : List PV → Option (List Int)
  | [] => some []
  | .int i :: r => (intsOf r).map (i :: ·)
  | _ :: _ => none
def blsOf : List PV → Option (List Bool)
  | [] => some []
  | .bl i :: r => (blsOf r).map (i :: ·)
  | _ :: _ => none
def bLen : OpN := fun xs S => match xs with
  | [v] => match deref S v with
    | some (.lst xs) => some (false, .int xs.length)
    | some (.tup xs) => some (false, .int xs.length)
    | _ => none
  | _ => none
def bSum : OpN := fun xs S => match xs with
  | [v] => match itemsOf S v with
    | some ws => (intsOf ws).map fun ns => (false, .int ns.sum)
    | none => none
  | _ => none
def bTuple : OpN := fun xs S => match xs with
  | [v] => match itemsOf S v with
    | some ws => some (false, .tup ws)
    | none => none
  | _ => none
def bList : OpN := fun xs S => match xs with
  | [v] => match itemsOf S v with
    | some ws => some (true, .lst ws)
    | none => none
  | _ => none
def bInt : OpN := fun xs _ => match xs with
  | [.int i] => some (false, .int i)
  | [.bl b] => some (false, .int (if b then 1 else 0))
  | _ => none
def bAbs : OpN := fun xs _ => match xs with
  | [.int i] => some (false, .int (if i < 0 then -i else i))
  | _ => none
def bMax2 : OpN := fun xs _ => match xs with
  | [.int i, .int j] => some (false, .int (if j > i then j else i))
  | _ => none
def bMin2 : OpN := fun xs _ => match xs with
  | [.int i, .int j] => some (false, .int (if j < i then j else i))
  | _ => none
end PX
namespace PX
open PySem PySem.Spec PyProof.Rows L2

section
variable {X : Cx} {G : Gam}
/-! ### ints -/
theorem ok_add : Ok2 G oAdd (rI0 fun i j => .int (i + j)) := fun n0 g F r S H x y u v z Q h q1 q2 e k => by
  unfold oAdd at e
  split at e
  · cases e
    exact ⟨_, _, q1, q2, k F r H _ (.refl F r) h rfl⟩
  · cases e
theorem ok_sub : Ok2 G oSub (rI0 fun i j => .int (i - j)) := fun n0 g F r S H x y u v z Q h q1 q2 e k => by
  unfold oSub at e
  split at e
  · cases e
    exact ⟨_, _, q1, q2, k F r H _ (.refl F r) h rfl⟩
  · cases e
theorem ok_mul : Ok2 G oMul (rI CMul fun i j => .int (i * j)) := fun n0 g F r S H x y u v z Q h q1 q2 e k => by
  unfold oMul at e
  split at e
  · split at e
    · rename_i hm
      cases e
      refine ⟨_, _, q1, q2, ?_, k F r H _ (.refl F r) h rfl⟩
      unfold mulOk at hm
      simp only [Bool.or_eq_true, Bool.and_eq_true, decide_eq_true_eq] at hm
      unfold CMul
      omega
    · cases e
  · cases e
theorem ok_div : Ok2 G oDiv (rI CDiv fun i j => .int (i / j)) := fun n0 g F r S H x y u v z Q h q1 q2 e k => by
  unfold oDiv at e
  split at e
  · split at e
    · rename_i hm
      cases e
      exact ⟨_, _, q1, q2, hm, k F r H _ (.refl F r) h rfl⟩
    · cases e
  · cases e
theorem ok_mod : Ok2 G oMod (rI (fun _ j => 0 < j) fun i j => .int (i % j)) := fun n0 g F r S H x y u v z Q h q1 q2 e k => by
  unfold oMod at e
  split at e
  · split at e
    · rename_i hm
      cases e
      exact ⟨_, _, q1, q2, hm, k F r H _ (.refl F r) h rfl⟩
    · cases e
  · cases e
theorem ok_neg : Ok1 G oNeg (rU fun i => .int (-i)) := fun n0 g F r S H x u z Q h q1 e k => by
  unfold oNeg at e
  split at e
  · cases e
    exact ⟨_, q1, k F r H _ (.refl F r) h rfl⟩
  · cases e
theorem ok_lt : Ok2 G oLt (rI0 fun i j => .bl (decide (i < j))) := fun n0 g F r S H x y u v z Q h q1 q2 e k => by
  unfold oLt at e
  split at e
  · cases e
    exact ⟨_, _, q1, q2, k F r H _ (.refl F r) h rfl⟩
  · cases e
theorem ok_le : Ok2 G oLe (rI0 fun i j => .bl (decide (i ≤ j))) := fun n0 g F r S H x y u v z Q h q1 q2 e k => by
  unfold oLe at e
  split at e
  · cases e
    exact ⟨_, _, q1, q2, k F r H _ (.refl F r) h rfl⟩
  · cases e
theorem ok_gt : Ok2 G oGt (rI0 fun i j => .bl (decide (j < i))) := fun n0 g F r S H x y u v z Q h q1 q2 e k => by
  unfold oGt at e
  split at e
  · cases e
    exact ⟨_, _, q1, q2, k F r H _ (.refl F r) h rfl⟩
  · cases e
theorem ok_ge : Ok2 G oGe (rI0 fun i j => .bl (decide (j ≤ i))) := fun n0 g F r S H x y u v z Q h q1 q2 e k => by
  unfold oGe at e
  split at e
  · cases e
    exact ⟨_, _, q1, q2, k F r H _ (.refl F r) h rfl⟩
  · cases e
/-! ### data -/
theorem toDL_ok {n0 : Nat} {g : Gh} {F : Hp} {r : List Addr} {S : Store} {H : Hp} {f : PV → Option PyData} {k : Nat} (h : HR G n0 g F r S H)
    (hf : ∀ v u d, RV G F r v u → f v = some d → Dp G.K H u d ∧ d.canLay0 = true ∧ d.depth ≤ k) : ∀ {vs : List PV} {us : List V} {ds : List PyData}, RVs G F r vs us → toDL f vs = some ds → DpAll G.K H us ds ∧ PyData.canLayAll0 ds = true ∧ PyData.depthAll ds ≤ k
  | [], us, ds, q, e => by
    cases e
    have e1 : us = [] := q
    subst e1
    exact ⟨.nil, rfl, Nat.zero_le _⟩
  | v :: vs, us, ds, q, e => by
    obtain ⟨u, ur, rfl, q1, q2⟩ := q
    unfold toDL at e
    cases e1 : f v with
    | none => rw [e1] at e; cases e
    | some d =>
      simp only [e1] at e
      cases e2 : toDL f vs with
      | none => rw [e2] at e; cases e
      | some ds' =>
        rw [e2] at e
        cases e
        obtain ⟨a1, a2, a3⟩ := hf v u d q1 e1
        obtain ⟨b1, b2, b3⟩ := toDL_ok h hf q2 e2
        refine ⟨.cons a1 b1, ?_, ?_⟩
        · simp only [PyData.canLayAll0, a2, b2, Bool.and_self]
        · simp only [PyData.depthAll]
          exact Nat.max_le.mpr ⟨a3, b3⟩
theorem toD_ok {n0 : Nat} {g : Gh} {F : Hp} {r : List Addr} {S : Store} {H : Hp} (h : HR G n0 g F r S H) : ∀ (k : Nat) (v : PV) (u : V) (d : PyData), RV G F r v u → toD S k v = some d → Dp G.K H u d ∧ d.canLay0 = true ∧ d.depth ≤ k
  | 0, v, u, d, q, e => by
    unfold toD at e
    split at e
    · cases e; cases (show u = .non from q); exact ⟨.non, rfl, Nat.le_refl _⟩
    · cases e; cases (show u = .bl _ from q); exact ⟨.bl _, rfl, Nat.le_refl _⟩
    · cases e; cases (show u = .int _ from q); exact ⟨.int _, rfl, Nat.le_refl _⟩
    · split at e
      · rename_i hs
        cases e; cases (show u = .str _ from q); exact ⟨.str _, hs, Nat.le_refl _⟩
      · cases e
    · cases e
  | k + 1, v, u, d, q, e => by
    unfold toD at e
    split at e
    · rename_i ed
      cases e; cases view_non h q ed; exact ⟨.non, rfl, Nat.zero_le _⟩
    · rename_i ed
      cases e; cases view_bl h q ed; exact ⟨.bl _, rfl, Nat.zero_le _⟩
    · rename_i ed
      cases e; cases view_int h q ed; exact ⟨.int _, rfl, Nat.zero_le _⟩
    · rename_i ed
      split at e
      · rename_i hs
        cases e; cases view_str h q ed; exact ⟨.str _, hs, Nat.zero_le _⟩
      · cases e
    · rename_i xs ed
      cases e1 : toDL (toD S k) xs with
      | none => rw [e1] at e; cases e
      | some ds =>
        rw [e1] at e
        cases e
        obtain ⟨a, us, rfl, k1, k2⟩ := view_lst h q ed
        obtain ⟨b1, b2, b3⟩ := toDL_ok h (toD_ok h k) k2 e1
        exact ⟨.lst (.inl k1) b1, by simp only [PyData.canLay0]; exact b2, by simp only [PyData.depth]; omega⟩
    · rename_i xs ed
      cases e1 : toDL (toD S k) xs with
      | none => rw [e1] at e; cases e
      | some ds =>
        rw [e1] at e
        cases e
        obtain ⟨a, us, rfl, k1, k2⟩ := view_tup h q ed
        obtain ⟨b1, b2, b3⟩ := toDL_ok h (toD_ok h k) k2 e1
        exact ⟨.tup k1 b1, by simp only [PyData.canLay0]; exact b2, by simp only [PyData.depth]; omega⟩
    · cases e
theorem toD_shaped {d : PyData} {k : Nat} (h1 : d.canLay0 = true) (h2 : d.depth ≤ k) (hk : k ≤ 64) : SeqAt.shaped d = true := by
  unfold SeqAt.shaped
  rw [h1, Bool.true_and]
  exact decide_eq_true (Nat.le_trans h2 hk)
theorem ok_eq : Ok2 G oEq (rEqD G.K) := fun n0 g F r S H x y u v z Q h q1 q2 e k => by
  unfold oEq eqD at e
  cases e1 : toD S 6 x with
  | none => rw [e1] at e; cases e
  | some d =>
    simp only [e1] at e
    cases e2 : toD S 6 y with
    | none => rw [e2] at e; cases e
    | some d' =>
      rw [e2] at e
      cases e
      obtain ⟨a1, a2, a3⟩ := toD_ok h 6 x u d q1 e1
      obtain ⟨b1, b2, b3⟩ := toD_ok h 6 y v d' q2 e2
      exact ⟨d, d', a1, b1, toD_shaped a2 a3 (by decide), toD_shaped b2 b3 (by decide), k F r H _ (.refl F r) h rfl⟩
theorem ok_ne : Ok2 G oNe (rNeD G.K) := fun n0 g F r S H x y u v z Q h q1 q2 e k => by
  unfold oNe eqD at e
  cases e1 : toD S 6 x with
  | none => rw [e1] at e; cases e
  | some d =>
    simp only [e1] at e
    cases e2 : toD S 6 y with
    | none => rw [e2] at e; cases e
    | some d' =>
      rw [e2] at e
      cases e
      obtain ⟨a1, a2, a3⟩ := toD_ok h 6 x u d q1 e1
      obtain ⟨b1, b2, b3⟩ := toD_ok h 6 y v d' q2 e2
      exact ⟨d, d', a1, b1, toD_shaped a2 a3 (by decide), toD_shaped b2 b3 (by decide), k F r H _ (.refl F r) h rfl⟩
theorem non_of {n0 : Nat} {g : Gh} {F : Hp} {r : List Addr} {S : Store} {H : Hp} {x w : PV} {u : V} (h : HR G n0 g F r S H) (q : RV G F r x u) (e : deref S x = some w) (hw : w ≠ .non) : u ≠ .non := by
  rcases view h q e with ⟨k, hr⟩ | ⟨a, ho, e1, e2, k⟩
  · cases w with
    | non => exact (hw rfl).elim
    | bl => have z : u = _ := k; rw [z]; intro y; cases y
    | int => have z : u = _ := k; rw [z]; intro y; cases y
    | str => have z : u = _ := k; rw [z]; intro y; cases y
    | tup => obtain ⟨_, _, z, _⟩ := k; rw [z]; intro y; cases y
    | lst => obtain ⟨_, _, z, _⟩ := k; rw [z]; intro y; cases y
    | dct => obtain ⟨_, _, _, z, _⟩ := k; rw [z]; intro y; cases y
    | ins => obtain ⟨_, _, _, z, _⟩ := k; rw [z]; intro y; cases y
    | ref i => exact (hr i rfl).elim
    | lck => exact k.elim
  · rw [e1]; intro y; cases y
theorem ok_isN : Ok2 G oIsN (fun x y H Q => y = .non ∧ Q (.bl (decide (x = .non))) H) := fun n0 g F r S H x y u v z Q h q1 q2 e k => by
  unfold oIsN at e
  split at e
  · refine ⟨q2, ?_⟩
    split at e
    · rename_i ed
      cases e
      rw [decide_eq_true (view_non h q1 ed)]
      exact k F r H _ (.refl F r) h rfl
    · rename_i w hw ed
      cases e
      rw [decide_eq_false (non_of h q1 ed hw)]
      exact k F r H _ (.refl F r) h rfl
    · cases e
  · cases e
theorem ok_notN : Ok2 G oNotN (fun x y H Q => y = .non ∧ Q (.bl (!decide (x = .non))) H) := fun n0 g F r S H x y u v z Q h q1 q2 e k => by
  unfold oNotN at e
  split at e
  · refine ⟨q2, ?_⟩
    split at e
    · rename_i ed
      cases e
      rw [decide_eq_true (view_non h q1 ed)]
      exact k F r H _ (.refl F r) h rfl
    · rename_i w hw ed
      cases e
      rw [decide_eq_false (non_of h q1 ed hw)]
      exact k F r H _ (.refl F r) h rfl
    · cases e
  · cases e
/-! ### built-in functions -/
theorem se_argB {o : OpN} {t : List V → Hp → VK → Prop} {fs : SA} {n0 : Nat} {ex : Expr} (hp : PE X ex (tCB t (rdA G n0 fs))) (ho : OkN G o t) : PE X ex (rdE G n0 (eArg o fs)) := by
  refine peI hp fun σ H Q ⟨F, r, env, S, g, s, h⟩ => ?_
  refine stA s cnE h fun p S1 F1 r1 H1 us x1 s1 q1 h1 => ?_
  exact endO (T := fun Q => t us H1 Q) s1 x1 h1 fun z ez k => ho n0 g F1 r1 S1 H1 p us z Q s1.hr q1 ez k
theorem intsOf_eq : ∀ {ws : List PV} {ns : List Int}, intsOf ws = some ns → ws = ns.map PV.int
  | [], _, e => by cases e; rfl
  | w :: ws, ns, e => by
    cases w <;> try cases e
    rename_i i
    have e : (intsOf ws).map (i :: ·) = some ns := e
    cases e1 : intsOf ws with
    | none => rw [e1] at e; cases e
    | some ms =>
      rw [e1] at e
      cases e
      rw [intsOf_eq e1]
      rfl
theorem blsOf_eq : ∀ {ws : List PV} {ns : List Bool}, blsOf ws = some ns → ws = ns.map PV.bl
  | [], _, e => by cases e; rfl
  | w :: ws, ns, e => by
    cases w <;> try cases e
    rename_i i
    have e : (blsOf ws).map (i :: ·) = some ns := e
    cases e1 : blsOf ws with
    | none => rw [e1] at e; cases e
    | some ms =>
      rw [e1] at e
      cases e
      rw [blsOf_eq e1]
      rfl
theorem RVs.bls {F : Hp} {r : List Addr} : ∀ {ns : List Bool} {us : List V}, RVs G F r (ns.map PV.bl) us → us = ns.map V.bl
  | [], _, q => q
  | n :: ns, _, q => by
    obtain ⟨u, ur, rfl, k, l⟩ := q
    have e : u = V.bl n := k
    rw [e, RVs.bls l]
    rfl
theorem one_of {F : Hp} {r : List Addr} {v : PV} {us : List V} (q : RVs G F r [v] us) : ∃ u, us = [u] ∧ RV G F r v u := by
  obtain ⟨u, ur, rfl, k, l⟩ := q
  have e : ur = [] := l
  exact ⟨u, by rw [e], k⟩
theorem two_of {F : Hp} {r : List Addr} {v w : PV} {us : List V} (q : RVs G F r [v, w] us) : ∃ u y, us = [u, y] ∧ RV G F r v u ∧ RV G F r w y := by
  obtain ⟨u, ur, rfl, k, l⟩ := q
  obtain ⟨y, rfl, m⟩ := one_of l
  exact ⟨u, y, rfl, k, m⟩
theorem ok_len : OkN G bLen (fun xs H Q => ∃ p ys, xs = [.ref p] ∧ (SqL G.K H p ys ∨ SqT G.K H p ys) ∧ Q (.int ys.length) H) := fun n0 g F r S H xs us z Q h q e k => by
  unfold bLen at e
  split at e
  · obtain ⟨u, rfl, q1⟩ := one_of q
    split at e
    · rename_i ws ed
      cases e
      obtain ⟨a, us, rfl, k1, k2⟩ := view_lst h q1 ed
      exact ⟨a, us, rfl, .inl (.inl k1), by rw [← RVs.length k2]; exact k F r H _ (.refl F r) h rfl⟩
    · rename_i ws ed
      cases e
      obtain ⟨a, us, rfl, k1, k2⟩ := view_tup h q1 ed
      exact ⟨a, us, rfl, .inr k1, by rw [← RVs.length k2]; exact k F r H _ (.refl F r) h rfl⟩
    · cases e
  · cases e
/-! sum, all, any of a list or a tuple -/
def rSumA (K : PySem.W.Frag) : List V → Hp → VK → Prop := fun vs H Q => ∃ (a : Addr) (ns : List Int), vs = [V.ref a] ∧ (SqL K H a (ns.map V.int) ∨ SqT K H a (ns.map V.int)) ∧ Q (.int ns.sum) H
theorem cr_sumA (hc : X.calm = true) : CallR X (.builtin "sum") (rSumA X.K) := by
  intro pins s σ H vs us Q I r h
  obtain ⟨a, ns, rfl, hs | hs, q⟩ := h
  · exact cr_sum hc pins s σ H _ us Q I r ⟨a, ns, rfl, hs, q⟩
  · obtain ⟨its, rv, hl, _⟩ := I.tuple hs
    rw [Vals.ref1 r]
    have hi := rv.ints
    obtain ⟨xs, e⟩ := hi.allInts.items
    have hn : numsOf (intItems xs).toList = ns := by rw [← e]; exact hi.numsOf
    rw [nums_intItems] at hn
    rw [e] at hl
    refine PySem.W.ktm_sumG (I.ok.hd hc) (show s.heap.IsTuple a _ from hl) fun h' tk t' hk => ?_
    refine ⟨.int _, H, I.kept hk, ⟨_, rfl⟩, ?_⟩
    rw [preSum_eq, List.take_of_length_le (by simp), hn]
    exact q
theorem ok_sum : OkN G bSum (rSumA G.K) := fun n0 g F r S H xs us z Q h q e k => by
  unfold bSum at e
  split at e
  · obtain ⟨u, rfl, q1⟩ := one_of q
    cases ei : itemsOf S ‹PV› with
    | none => simp only [ei] at e; cases e
    | some ws =>
      simp only [ei] at e
      cases en : intsOf ws with
      | none => rw [en] at e; cases e
      | some ns =>
        rw [en] at e
        cases e
        obtain ⟨a, us, rfl, k1, k2⟩ := view_seq h q1 ei
        rw [intsOf_eq en] at k2
        rw [RVs.ints k2] at k1
        exact ⟨a, ns, rfl, k1, k F r H _ (.refl F r) h rfl⟩
  · cases e
end
end PX
set_option Elab.async false
set_option linter.all false
set_option maxRecDepth 100000
namespace PX
open PySem PySem.Spec PyProof.Rows L2
/-! ### more values -/
def bMaxL : OpN := fun xs S => match xs with
  | [v] => match itemsOf S v with
    | some ws => match intsOf ws with
      | some (n :: ns) => some (false, .int (ns.foldl max n))
      | _ => none
    | none => none
  | _ => none
def bMinL : OpN := fun xs S => match xs with
  | [v] => match itemsOf S v with
    | some ws => match intsOf ws with
      | some (n :: ns) => some (false, .int (ns.foldl min n))
      | _ => none
    | none => none
  | _ => none
/-! an item by its place -/
def ixP (n : Nat) (i : Int) : Option Nat := if 0 ≤ i then (if i < n then some i.toNat else none) else if -(n : Int) ≤ i then some (i + n).toNat else none
def oIx : Op2 := fun x y S => match y with
  | .int i => match itemsOf S x with
    | some xs => match ixP xs.length i with
      | some j => match xs[j]? with
        | some v => some (false, v)
        | none => none
      | none => none
    | none => none
  | _ => none
/-! a slice -/
abbrev SO := Env → Store → R (Option Int)
def pNo : SO := fun _ S => .ok none S
def pSo (a : SE) : SO := fun env S => (a env S).bind fun p S1 => match p.2 with
  | .int i => .ok (some i) S1
  | _ => .no
def sIxP (n d : Nat) : Option Int → Nat
  | none => d
  | some v => if v < 0 then (v + (n : Int)).toNat else min v.toNat n
def cutP (xs : List PV) (lo hi : Option Int) : List PV := (xs.drop (sIxP xs.length 0 lo)).take (sIxP xs.length xs.length hi - sIxP xs.length 0 lo)
def slP (lo hi : Option Int) : Op1 := fun x S => match deref S x with
  | some (.lst xs) => some (true, .lst (cutP xs lo hi))
  | some (.tup xs) => some (false, .tup (cutP xs lo hi))
  | _ => none
def eSl (a : SE) (lo hi : SO) : SE := fun env S => (a env S).bind fun p S1 => (lo env S1).bind fun l S2 => (hi env S2).bind fun u S3 => ofO (slP l u p.2 S3) S3
/-! + and * of sequences -/
def oCat : Op2 := fun x y S => match deref S x with
  | some (.lst xs) => match deref S y with
    | some (.lst ys) => if small (xs.length + ys.length) then some (true, .lst (xs ++ ys)) else none
    | _ => none
  | some (.tup xs) => match deref S y with
    | some (.tup ys) => if small (xs.length + ys.length) then some (false, .tup (xs ++ ys)) else none
    | _ => none
  | some (.int i) => match y with
    | .int j => some (false, .int (i + j))
    | _ => none
  | _ => none
def oRep : Op2 := fun x y S => match y with
  | .int k => match deref S x with
    | some (.lst xs) => if decide (-1000 ≤ k ∧ k ≤ 1000) && Nat.ble xs.length 1000 then some (true, .lst (List.replicate k.toNat xs).flatten) else none
    | some (.int i) => if mulOk i k then some (false, .int (i * k)) else none
    | _ => none
  | _ => none

def lstOf (S : Store) (v : PV) : Option (List PV) := match deref S v with
  | some (.lst xs) => some xs
  | _ => none
def bAll : OpN := fun xs S => match xs with
  | [v] => match lstOf S v with
    | some ws => match blsOf ws with
      | some ns => some (false, .bl (ns.all id))
      | none => none
    | none => none
  | _ => none
def bAny : OpN := fun xs S => match xs with
  | [v] => match lstOf S v with
    | some ws => match blsOf ws with
      | some ns => some (false, .bl (ns.any id))
      | none => none
    | none => none
  | _ => none

section
variable {X : Cx} {G : Gam}
theorem view_lstOf {n0 : Nat} {g : Gh} {F : Hp} {r : List Addr} {S : Store} {H : Hp} (h : HR G n0 g F r S H) {v : PV} {u : V} {xs : List PV} (q : RV G F r v u) (e : lstOf S v = some xs) : ∃ a us, u = .ref a ∧ Rd H a (.lst us) ∧ RVs G F r xs us := by
  unfold lstOf at e
  split at e
  · rename_i ed
    cases e
    exact view_lst h q ed
  · cases e
theorem ok_all : OkN G bAll (rAll G.K) := fun n0 g F r S H xs us z Q h q e k => by
  unfold bAll at e
  split at e
  · obtain ⟨u, rfl, q1⟩ := one_of q
    split at e
    · rename_i ws ei
      split at e
      · rename_i ns en
        cases e
        obtain ⟨a, us, rfl, k1, k2⟩ := view_lstOf h q1 ei
        rw [blsOf_eq en] at k2
        rw [RVs.bls k2] at k1
        exact ⟨a, ns, rfl, .inl k1, k F r H _ (.refl F r) h rfl⟩
      · cases e
    · cases e
  · cases e
theorem ok_any : OkN G bAny (rAny G.K) := fun n0 g F r S H xs us z Q h q e k => by
  unfold bAny at e
  split at e
  · obtain ⟨u, rfl, q1⟩ := one_of q
    split at e
    · rename_i ws ei
      split at e
      · rename_i ns en
        cases e
        obtain ⟨a, us, rfl, k1, k2⟩ := view_lstOf h q1 ei
        rw [blsOf_eq en] at k2
        rw [RVs.bls k2] at k1
        exact ⟨a, ns, rfl, .inl k1, k F r H _ (.refl F r) h rfl⟩
      · cases e
    · cases e
  · cases e
theorem ok_tuple : OkN G bTuple (fun xs H Q => ∃ p ys, xs = [.ref p] ∧ ((SqL G.K H p ys ∧ ∀ l, H l = none → Q (.ref l) (upd H l (.tup ys))) ∨ (SqT G.K H p ys ∧ Q (.ref p) H))) := fun n0 g F r S H xs us z Q h q e k => by
  unfold bTuple at e
  split at e
  · obtain ⟨u, rfl, q1⟩ := one_of q
    split at e
    · rename_i ws ei
      cases e
      unfold itemsOf at ei
      split at ei
      · rename_i ws' ed
        cases ei
        obtain ⟨a, us, rfl, k1, k2⟩ := view_lst h q1 ed
        refine ⟨a, us, rfl, .inl ⟨.inl k1, fun l hl => ?_⟩⟩
        obtain ⟨F2, x2, h2, k3⟩ := new_tup h hl k2
        exact k F2 r _ _ x2 h2 k3
      · rename_i ws' ed
        cases ei
        rcases view h q1 ed with ⟨k1, _⟩ | ⟨a, ho, e1, e2, k1⟩
        · obtain ⟨a, us, rfl, k2, k3⟩ := id k1
          exact ⟨a, us, rfl, .inr ⟨h.sub.tp k2, k F r H _ (.refl F r) h k1⟩⟩
        · exact k1.elim
      · cases ei
    · cases e
  · cases e
theorem ok_list : OkN G bList (fun xs H Q => ∃ p ys, xs = [.ref p] ∧ (SqL G.K H p ys ∨ SqT G.K H p ys) ∧ ∀ l, H l = none → Q (.ref l) (upd H l (.lst ys))) := fun n0 g F r S H xs us z Q h q e k => by
  unfold bList at e
  split at e
  · obtain ⟨u, rfl, q1⟩ := one_of q
    split at e
    · rename_i ws ei
      cases e
      obtain ⟨a, us, rfl, k1, k2⟩ := view_seq h q1 ei
      refine ⟨a, us, rfl, k1, fun l hl => ?_⟩
      obtain ⟨h2, k3⟩ := new_obj h hl (v := .lst ws) ⟨us, rfl, k2⟩ rfl
      exact k F r _ _ (.refl F r) h2 k3
    · cases e
  · cases e
theorem ok_int : OkN G bInt (fun xs H Q => (∃ i, xs = [.int i] ∧ Q (.int i) H) ∨ ∃ k, xs = [.bl k] ∧ Q (.int (if k then 1 else 0)) H) := fun n0 g F r S H xs us z Q h q e k => by
  unfold bInt at e
  split at e
  · cases e
    obtain ⟨u, rfl, q1⟩ := one_of q
    cases (show u = V.int _ from q1)
    exact .inl ⟨_, rfl, k F r H _ (.refl F r) h rfl⟩
  · cases e
    obtain ⟨u, rfl, q1⟩ := one_of q
    cases (show u = V.bl _ from q1)
    exact .inr ⟨_, rfl, k F r H _ (.refl F r) h rfl⟩
  · cases e
theorem ok_abs : OkN G bAbs (fun xs H Q => ∃ i, xs = [.int i] ∧ Q (.int (if i < 0 then -i else i)) H) := fun n0 g F r S H xs us z Q h q e k => by
  unfold bAbs at e
  split at e
  · cases e
    obtain ⟨u, rfl, q1⟩ := one_of q
    cases (show u = V.int _ from q1)
    exact ⟨_, rfl, k F r H _ (.refl F r) h rfl⟩
  · cases e
theorem ok_max2 : OkN G bMax2 (fun xs H Q => ∃ i j, xs = [.int i, .int j] ∧ Q (.int (if j > i then j else i)) H) := fun n0 g F r S H xs us z Q h q e k => by
  unfold bMax2 at e
  split at e
  · cases e
    obtain ⟨u, y, rfl, q1, q2⟩ := two_of q
    cases (show u = V.int _ from q1)
    cases (show y = V.int _ from q2)
    exact ⟨_, _, rfl, k F r H _ (.refl F r) h rfl⟩
  · cases e
theorem ok_min2 : OkN G bMin2 (fun xs H Q => ∃ i j, xs = [.int i, .int j] ∧ Q (.int (if j < i then j else i)) H) := fun n0 g F r S H xs us z Q h q e k => by
  unfold bMin2 at e
  split at e
  · cases e
    obtain ⟨u, y, rfl, q1, q2⟩ := two_of q
    cases (show u = V.int _ from q1)
    cases (show y = V.int _ from q2)
    exact ⟨_, _, rfl, k F r H _ (.refl F r) h rfl⟩
  · cases e
/-! max, min of a list or a tuple of ints -/
theorem dpAll_ints {K : PySem.W.Frag} {H : Hp} : ∀ ns : List Int, DpAll K H (ns.map V.int) (ns.map PyData.int)
  | [] => .nil
  | n :: ns => .cons (.int n) (dpAll_ints ns)
theorem alike_ints (ns : List Int) : PySem.W.AlikeAll (ns.map PyData.int) := by
  refine ⟨fun x hx y hy => ?_, fun x hx => ?_⟩
  · obtain ⟨i, _, rfl⟩ := List.mem_map.mp hx
    obtain ⟨j, _, rfl⟩ := List.mem_map.mp hy
    rfl
  · obtain ⟨i, _, rfl⟩ := List.mem_map.mp hx
    intro z
    cases z
theorem depth_ints : ∀ ns : List Int, PyData.depthAll (ns.map PyData.int) = 0
  | [] => rfl
  | n :: ns => by
    show max 0 (PyData.depthAll (ns.map PyData.int)) = 0
    rw [depth_ints ns]
    rfl
def rMaxA (K : PySem.W.Frag) : List V → Hp → VK → Prop := fun vs H Q => ∃ (a : Addr) (n : Int) (ns : List Int), vs = [V.ref a] ∧ (SqL K H a ((n :: ns).map V.int) ∨ SqT K H a ((n :: ns).map V.int)) ∧ Q (.int (ns.foldl max n)) H
def rMinA (K : PySem.W.Frag) : List V → Hp → VK → Prop := fun vs H Q => ∃ (a : Addr) (n : Int) (ns : List Int), vs = [V.ref a] ∧ (SqL K H a ((n :: ns).map V.int) ∨ SqT K H a ((n :: ns).map V.int)) ∧ Q (.int (ns.foldl min n)) H
theorem int_reads {h : Heap} {v : Value} {i : Int} {bs : List Addr} (r : Reads h v (.int i) bs) : ∃ t, v = .int i t := by
  cases r
  exact ⟨_, rfl⟩
theorem cr_maxA (hc : X.calm = true) (hu : X.A.units + 64 < cLine) : CallR X (.builtin "max") (rMaxA X.K) := by
  intro pins s σ H vs us Q I r h
  obtain ⟨a, n, ns, rfl, hs, q⟩ := h
  rw [Vals.ref1 r]
  have hd : X.A.units + 1 + PyData.depthAll (PyData.int n :: ns.map PyData.int) < cLine := by
    have e := depth_ints (n :: ns)
    rw [List.map_cons] at e
    rw [e]
    omega
  rcases hs with hs | hs
  · obtain ⟨its, rv, hl, _⟩ := I.list hs
    obtain ⟨as, hr⟩ := Dp.readsAll I _ _ its (dpAll_ints (K := X.K) (H := H) (n :: ns)) rv
    refine PySem.W.max_list_data (I.ok.hd hc) hl.isList (x := .int n) (xs := ns.map .int) (as := as) (by simpa using hr) (alike_ints (n :: ns)) hd fun i v h' tk bs _ rd hk => ?_
    rw [PySem.W.maxD_ints] at rd
    obtain ⟨t, rfl⟩ := int_reads rd
    exact ⟨.int _, H, I.kept hk, ⟨_, rfl⟩, q⟩
  · obtain ⟨its, rv, hl, _⟩ := I.tuple hs
    obtain ⟨as, hr⟩ := Dp.readsAll I _ _ its (dpAll_ints (K := X.K) (H := H) (n :: ns)) rv
    refine PySem.W.max_tuple_data (I.ok.hd hc) (show s.heap.IsTuple a _ from hl) (x := .int n) (xs := ns.map .int) (as := as) (by simpa using hr) (alike_ints (n :: ns)) hd fun i v h' tk bs _ rd hk => ?_
    rw [PySem.W.maxD_ints] at rd
    obtain ⟨t, rfl⟩ := int_reads rd
    exact ⟨.int _, H, I.kept hk, ⟨_, rfl⟩, q⟩
theorem cr_minA (hc : X.calm = true) (hu : X.A.units + 64 < cLine) : CallR X (.builtin "min") (rMinA X.K) := by
  intro pins s σ H vs us Q I r h
  obtain ⟨a, n, ns, rfl, hs, q⟩ := h
  rw [Vals.ref1 r]
  have hd : X.A.units + 1 + PyData.depthAll (PyData.int n :: ns.map PyData.int) < cLine := by
    have e := depth_ints (n :: ns)
    rw [List.map_cons] at e
    rw [e]
    omega
  rcases hs with hs | hs
  · obtain ⟨its, rv, hl, _⟩ := I.list hs
    obtain ⟨as, hr⟩ := Dp.readsAll I _ _ its (dpAll_ints (K := X.K) (H := H) (n :: ns)) rv
    refine PySem.W.min_list_data (I.ok.hd hc) hl.isList (x := .int n) (xs := ns.map .int) (as := as) (by simpa using hr) (alike_ints (n :: ns)) hd fun i v h' tk bs _ rd hk => ?_
    rw [PySem.W.minD_ints] at rd
    obtain ⟨t, rfl⟩ := int_reads rd
    exact ⟨.int _, H, I.kept hk, ⟨_, rfl⟩, q⟩
  · obtain ⟨its, rv, hl, _⟩ := I.tuple hs
    obtain ⟨as, hr⟩ := Dp.readsAll I _ _ its (dpAll_ints (K := X.K) (H := H) (n :: ns)) rv
    refine PySem.W.min_tuple_data (I.ok.hd hc) (show s.heap.IsTuple a _ from hl) (x := .int n) (xs := ns.map .int) (as := as) (by simpa using hr) (alike_ints (n :: ns)) hd fun i v h' tk bs _ rd hk => ?_
    rw [PySem.W.minD_ints] at rd
    obtain ⟨t, rfl⟩ := int_reads rd
    exact ⟨.int _, H, I.kept hk, ⟨_, rfl⟩, q⟩
theorem view_ints {n0 : Nat} {g : Gh} {F : Hp} {r : List Addr} {S : Store} {H : Hp} (h : HR G n0 g F r S H) {v : PV} {u : V} {ws : List PV} {ns : List Int} (q : RV G F r v u) (ei : itemsOf S v = some ws) (en : intsOf ws = some ns) :
    ∃ a, u = .ref a ∧ (SqL G.K H a (ns.map V.int) ∨ SqT G.K H a (ns.map V.int)) := by
  obtain ⟨a, us, rfl, k1, k2⟩ := view_seq h q ei
  rw [intsOf_eq en] at k2
  rw [RVs.ints k2] at k1
  exact ⟨a, rfl, k1⟩
theorem ok_maxL : OkN G bMaxL (rMaxA G.K) := fun n0 g F r S H xs us z Q h q e k => by
  unfold bMaxL at e
  split at e
  · obtain ⟨u, rfl, q1⟩ := one_of q
    split at e
    · rename_i ws ei
      split at e
      · rename_i n ns en
        cases e
        obtain ⟨a, rfl, k1⟩ := view_ints h q1 ei en
        exact ⟨a, n, ns, rfl, k1, k F r H _ (.refl F r) h rfl⟩
      · cases e
    · cases e
  · cases e
theorem ok_minL : OkN G bMinL (rMinA G.K) := fun n0 g F r S H xs us z Q h q e k => by
  unfold bMinL at e
  split at e
  · obtain ⟨u, rfl, q1⟩ := one_of q
    split at e
    · rename_i ws ei
      split at e
      · rename_i n ns en
        cases e
        obtain ⟨a, rfl, k1⟩ := view_ints h q1 ei en
        exact ⟨a, n, ns, rfl, k1, k F r H _ (.refl F r) h rfl⟩
      · cases e
    · cases e
  · cases e
/-! items, slices -/
theorem ixP_eq (n : Nat) (i : Int) : ixP n i = ixN n i := rfl
theorem sIxP_eq (n d : Nat) : ∀ o : Option Int, sIxP n d o = HT.sIx n d o
  | none => rfl
  | some _ => rfl
theorem ok_ix : Ok2 G oIx (rIx G.K) := fun n0 g F r S H x y u v z Q h q1 q2 e k => by
  unfold oIx at e
  split at e
  · rename_i i
    split at e
    · rename_i xs ei
      split at e
      · rename_i j ej
        split at e
        · rename_i w ew
          cases e
          obtain ⟨a, us, rfl, k1, k2⟩ := view_seq h q1 ei
          obtain ⟨w', e1, q3⟩ := RVs.get k2 ew
          have ea : atI us i = some w' := by
            unfold atI
            rw [← RVs.length k2, ← ixP_eq, ej]
            exact e1
          have fin := k F r H w' (.refl F r) h q3
          cases (show v = V.int i from q2)
          rcases k1 with k1 | k1
          · exact .inl ⟨a, us, i, w', rfl, rfl, k1, ea, fin⟩
          · exact .inr (.inl ⟨a, us, i, w', rfl, rfl, k1, ea, fin⟩)
        · cases e
      · cases e
    · cases e
  · cases e
theorem se_ix {n0 : Nat} {a b : Expr} {fa fb : SE} {pos : Pos} {o : Op2} {t : R2} (hr : IxR X t) (ho : Ok2 G o t) (ha : PE X a (rdE G n0 fa)) (hb : PE X b (rdE G n0 fb)) (hs : PlainIx b) : PE X (.Subscript a b pos) (rdE G n0 (eBin o fa fb)) := by
  refine peI (pe_ix hr (toV ha) (toV hb) hs) fun σ H Q ⟨F, r, env, S, g, s, h⟩ => ?_
  refine stV s cnE h fun p S1 F1 r1 H1 u x1 s1 q1 h1 => ?_
  refine stV s1 cnE h1 fun q S2 F2 r2 H2 v x2 s2 q2 h2 => ?_
  exact endO (T := fun Q => t u v H2 Q) s2 (x1.trans x2) h2 fun z ez k => ho n0 g F2 r2 S2 H2 p.2 q.2 u v z Q s2.hr (q1.ext x2) q2 ez k
/-! parts of a slice -/
def PoO (G : Gam) (n0 : Nat) (g : Gh) (F : Hp) (r : List Addr) (env : Env) (σ : L2.St) (z : R (Option Int)) (T : Option Int → Hp → Prop) : Prop := match z with
  | .ok b S' => ∀ F' r' H', Ext F F' r r' → Sg G n0 g F' r' env σ S' H' → T b H'
  | _ => False
def rdO (G : Gam) (n0 : Nat) (f : SO) : TO := fun σ H T => ∃ F r env S g, Sg G n0 g F r env σ S H ∧ PoO G n0 g F r env σ (f env S) T
theorem poI {e : Option Expr} {t t' : TO} (h : PO X e t) (w : ∀ σ H Q, t' σ H Q → t σ H Q) : PO X e t' := ⟨fun pins s σ H Q I q => h.run pins s σ H Q I (w σ H Q q)⟩
theorem so_none {n0 : Nat} : PO X none (rdO G n0 pNo) := poI po_none fun σ H Q ⟨F, r, env, S, g, s, h⟩ => h F r H (.refl F r) s
theorem cnO {n0 : Nat} {g : Gh} {F : Hp} {r : List Addr} {env : Env} {σ : L2.St} {T : Option Int → Hp → Prop} : Cn fun z => PoO G n0 g F r env σ z T := ⟨fun h => h, fun _ _ _ h => h⟩
theorem so_some {n0 : Nat} {e : Expr} {fe : SE} (he : PE X e (rdE G n0 fe)) : PO X (some e) (rdO G n0 (pSo fe)) := by
  refine poI (po_some (toV he)) fun σ H T ⟨F, r, env, S, g, s, h⟩ => ?_
  refine stV s cnO h fun p S1 F1 r1 H1 u x1 s1 q1 h1 => ?_
  obtain ⟨b, v⟩ := p
  cases v with
  | int i => exact ⟨i, q1, h1 F1 r1 H1 x1 s1⟩
  | _ => exact False.elim h1
theorem stO {n0 : Nat} {g : Gh} {F : Hp} {r : List Addr} {env : Env} {σ : L2.St} {S : Store} {H : Hp} {f : SO} {T : Option Int → Hp → Prop} {α : Type} {kk : Option Int → Store → R α} {C : R α → Prop} (s : Sg G n0 g F r env σ S H) (cn : Cn C) (h : C ((f env S).bind kk))
    (step : ∀ p S' F' r' H', Ext F F' r r' → Sg G n0 g F' r' env σ S' H' → C (kk p S') → T p H') : rdO G n0 f σ H T := by
  refine ⟨F, r, env, S, g, s, ?_⟩
  cases e : f env S with
  | ok p S' => rw [e] at h; exact fun F' r' H' ex s' => step p S' F' r' H' ex s' h
  | ex c p S' => rw [e] at h; exact (cn.ex c p S' h).elim
  | no => rw [e] at h; exact (cn.no h).elim
theorem RVs.drop {F : Hp} {r : List Addr} : ∀ {vs : List PV} {us : List V} (n : Nat), RVs G F r vs us → RVs G F r (vs.drop n) (us.drop n)
  | _, _, 0, q => q
  | [], us, n + 1, q => by
    have e : us = [] := q
    subst e
    exact rfl
  | v :: vs, us, n + 1, q => by
    obtain ⟨u, ur, rfl, k, l⟩ := q
    exact RVs.drop n l
theorem RVs.take {F : Hp} {r : List Addr} : ∀ {vs : List PV} {us : List V} (n : Nat), RVs G F r vs us → RVs G F r (vs.take n) (us.take n)
  | _, _, 0, q => rfl
  | [], us, n + 1, q => by
    have e : us = [] := q
    subst e
    exact rfl
  | v :: vs, us, n + 1, q => by
    obtain ⟨u, ur, rfl, k, l⟩ := q
    exact ⟨u, ur.take n, rfl, k, RVs.take n l⟩
theorem RVs.cut {F : Hp} {r : List Addr} {vs : List PV} {us : List V} (lo hi : Option Int) (q : RVs G F r vs us) : RVs G F r (cutP vs lo hi) (cutV us lo hi) := by
  unfold cutP cutV
  rw [sIxP_eq, sIxP_eq, RVs.length q]
  exact (q.drop _).take _
def rSlG (K : PySem.W.Frag) : V → Option Int → Option Int → Hp → VK → Prop := fun x lo hi H Q => rSlL K x lo hi H Q ∨ rSlA K x lo hi H Q
theorem sl_any : SlR X (rSlG X.K) := sl_list.or sl_tupA
theorem se_sl {n0 : Nat} {a : Expr} {lo hi : Option Expr} {fa : SE} {fl fh : SO} {p2 pos : Pos} (hK : G.K = X.K) (ha : PE X a (rdE G n0 fa)) (hl : PO X lo (rdO G n0 fl)) (hh : PO X hi (rdO G n0 fh)) : PE X (.Subscript a (.Slice lo hi none p2) pos) (rdE G n0 (eSl fa fl fh)) := by
  refine peI (pe_slice sl_any (toV ha) hl hh) fun σ H Q ⟨F, r, env, S, g, s, h⟩ => ?_
  refine stV s cnE h fun p S1 F1 r1 H1 u x1 s1 q1 h1 => ?_
  refine stO s1 cnE h1 fun l S2 F2 r2 H2 x2 s2 h2 => ?_
  refine stO s2 cnE h2 fun m S3 F3 r3 H3 x3 s3 h3 => ?_
  have q3 := q1.ext (x2.trans x3)
  have xx := (x1.trans x2).trans x3
  rw [← hK]
  unfold slP at h3
  split at h3
  · rename_i xs ed
    obtain ⟨a', us, rfl, k1, k2⟩ := view_lst s3.hr q3 ed
    refine .inl ⟨a', us, rfl, .inl k1, fun p' hp => ?_⟩
    obtain ⟨h4, k4⟩ := new_obj s3.hr hp (v := .lst (cutP xs l m)) ⟨_, rfl, k2.cut l m⟩ rfl
    exact h3 F3 r3 _ _ xx (s3.ext (.refl _ _) h4) k4
  · rename_i xs ed
    rcases view s3.hr q3 ed with ⟨k1, _⟩ | ⟨a, ho, e1, e2, k1⟩
    · obtain ⟨a', us, rfl, k2, k3⟩ := id k1
      refine .inr ⟨a', us, rfl, s3.hr.sub.tp k2, fun hw => ?_, fun hw p' hp => ?_⟩
      · have e : cutP xs l m = xs := by
          unfold cutP
          rw [sIxP_eq, sIxP_eq, RVs.length k3, hw.1, hw.2, List.drop_zero, ← RVs.length k3]
          simp
        rw [e] at h3
        exact h3 F3 r3 H3 _ xx s3 k1
      · obtain ⟨F4, x4, h4, k4⟩ := new_tup s3.hr hp (k3.cut l m)
        exact h3 F4 r3 _ _ (xx.trans x4) (s3.ext x4 h4) k4
    · exact k1.elim
  · exact False.elim h3
end
end PX
set_option Elab.async false
set_option linter.all false
set_option maxRecDepth 100000
namespace PX
open PySem PySem.Spec PyProof.Rows L2
/-! ### changes of lists -/
def mayPutL (n0 i : Nat) : List PV → Bool
  | [] => true
  | v :: vs => mayPut n0 i v && mayPutL n0 i vs
def isL (S : Store) (v : PV) : Bool := match deref S v with
  | some (.lst _) => true
  | _ => false
def appL (n0 : Nat) (o v : PV) (S : Store) : Option Store := match o with
  | .ref i => match S[i]? with
    | some (.lst xs) => if mayPut n0 i v && small xs.length then some (S.set i (.lst (xs ++ [v]))) else none
    | _ => none
  | _ => none
def extL (n0 : Nat) (o v : PV) (S : Store) : Option Store := match o with
  | .ref i => match S[i]? with
    | some (.lst xs) => match lstOf S v with
      | some ys => if mayPutL n0 i ys && small (xs.length + ys.length) then some (S.set i (.lst (xs ++ ys))) else none
      | none => none
    | _ => none
  | _ => none
/-! o.m(a), m a method of lists that changes the list and gives None -/
def eLm (f : PV → PV → Store → Option Store) (o a : SE) : SE := fun env S => (o env S).bind fun p S1 => if isL S1 p.2 then (a env S1).bind fun q S2 => match f p.2 q.2 S2 with
    | some S3 => .ok (false, .non) S3
    | none => .no
  else .no
def setL (n0 : Nat) (o k v : PV) (S : Store) : Option Store := match o with
  | .ref i => match S[i]? with
    | some (.lst xs) => match k with
      | .int j => match ixP xs.length j with
        | some m => if mayPut n0 i v then some (S.set i (.lst (xs.set m v))) else none
        | none => none
      | _ => none
    | _ => none
  | _ => none
def sSetI (f : PV → PV → PV → Store → Option Store) (o k e : SE) : SS := fun env S => (e env S).go fun p S1 => (o env S1).go fun q S2 => (k env S2).go fun z S3 => match f q.2 z.2 p.2 S3 with
  | some S4 => .nx env S4
  | none => .no
def sAugI (op : Op2) (gt : Op2) (f : PV → PV → PV → Store → Option Store) (o k e : SE) : SS := fun env S => (o env S).go fun p S1 => (k env S1).go fun q S2 => match gt p.2 q.2 S2 with
  | some x => (e env S2).go fun z S3 => match op x.2 z.2 S3 with
    | some y => match f p.2 q.2 y.2 S3 with
      | some S4 => .nx env S4
      | none => .no
    | none => .no
  | none => .no

section
variable {X : Cx} {G : Gam}
/-! + of lists -/
def rCatR (K : PySem.W.Frag) : R2 := fun x y H Q => (∃ l b xs zs, x = .ref l ∧ y = .ref b ∧ Rd H l (.lst xs) ∧ Rd H b (.lst zs) ∧ xs.length + zs.length ≤ sizeLine ∧ ∀ p, H p = none → Q (.ref p) (upd H p (.lst (xs ++ zs)))) ∨ rCatA K x y H Q ∨ rI0 (fun i j => .int (i + j)) x y H Q
theorem op_catR : OpR X (binaryOp .Add) (rCatR X.K) := by
  intro pins s σ H x y v u Q I rx ry h
  rcases h with h | h | h
  · obtain ⟨l, b, xs, zs, rfl, rfl, hH, hB, hz, q⟩ := h
    cases rx
    cases ry
    obtain ⟨z, its, n, r, e⟩ := hH.ok I.hok
    obtain ⟨z2, its2, n2, r2, e2⟩ := hB.ok I.hok
    have hl := r.length
    have hl2 := r2.length
    refine PySem.P.add_list e e2 ?_ (by rw [List.size_toArray, List.size_toArray]; omega)
    have ea : its.toArray ++ its2.toArray = (its ++ its2).toArray := by simp
    rw [ea]
    exact ⟨.ref _, _, I.lnew (t' := s.toks) (r.append r2) (by rw [List.length_append]; omega), rfl, q _ I.fresh⟩
  · exact op_catA pins s σ H x y v u Q I rx ry h
  · exact op_add pins s σ H x y v u Q I rx ry h
theorem ok_cat : Ok2 G oCat (rCatR G.K) := fun n0 g F r S H x y u v z Q h q1 q2 e k => by
  unfold oCat at e
  split at e
  · rename_i xs ex
    split at e
    · rename_i ys ey
      split at e
      · rename_i hz
        cases e
        obtain ⟨a, us, rfl, k1, k2⟩ := view_lst h q1 ex
        obtain ⟨b, vs, rfl, l1, l2⟩ := view_lst h q2 ey
        refine .inl ⟨a, b, us, vs, rfl, rfl, k1, l1, by rw [← RVs.length k2, ← RVs.length l2]; exact small_le hz, fun p hp => ?_⟩
        obtain ⟨h2, k3⟩ := new_obj h hp (v := .lst (xs ++ ys)) ⟨_, rfl, k2.append l2⟩ rfl
        exact k F r _ _ (.refl F r) h2 k3
      · cases e
    · cases e
  · rename_i xs ex
    split at e
    · rename_i ys ey
      split at e
      · rename_i hz
        cases e
        rcases view h q1 ex with ⟨k0, _⟩ | ⟨_, _, _, _, k0⟩
        · rcases view h q2 ey with ⟨l0, _⟩ | ⟨_, _, _, _, l0⟩
          · obtain ⟨a, us, rfl, k1, k2⟩ := id k0
            obtain ⟨b, vs, rfl, l1, l2⟩ := id l0
            refine .inr (.inl ⟨a, b, us, vs, rfl, rfl, h.sub.tp k1, h.sub.tp l1, by rw [← RVs.length k2, ← RVs.length l2]; exact small_le hz, fun hx => ?_, fun hx hy => ?_, fun hx hy p hp => ?_⟩)
            · have e1 : xs = [] := List.eq_nil_of_length_eq_zero (by rw [RVs.length k2, hx]; rfl)
              refine k F r H _ (.refl F r) h ?_
              show RV G F r (.tup (xs ++ ys)) _
              rw [e1]
              exact l0
            · have e1 : ys = [] := List.eq_nil_of_length_eq_zero (by rw [RVs.length l2, hy]; rfl)
              refine k F r H _ (.refl F r) h ?_
              show RV G F r (.tup (xs ++ ys)) _
              rw [e1, List.append_nil]
              exact k0
            · obtain ⟨F4, x4, h4, k4⟩ := new_tup h hp (k2.append l2)
              exact k F4 r _ _ x4 h4 k4
          · exact l0.elim
        · exact k0.elim
      · cases e
    · cases e
  · rename_i i ex
    split at e
    · cases e
      exact .inr (.inr ⟨_, _, view_int h q1 ex, q2, k F r H _ (.refl F r) h rfl⟩)
    · cases e
  · cases e
/-! * -/
def rRepR : R2 := fun x y H Q => (∃ l k xs, x = .ref l ∧ y = .int k ∧ Rd H l (.lst xs) ∧ -1000 ≤ k ∧ k ≤ 1000 ∧ xs.length ≤ 1000 ∧ ∀ p, H p = none → Q (.ref p) (upd H p (.lst (List.replicate k.toNat xs).flatten))) ∨ rI CMul (fun i j => .int (i * j)) x y H Q
theorem op_repR : OpR X (binaryOp .Mult) rRepR := by
  intro pins s σ H x y v u Q I rx ry h
  rcases h with h | h
  · obtain ⟨l, k, xs, rfl, rfl, hH, h1, h2, hx, q⟩ := h
    cases rx
    obtain ⟨t, rfl⟩ := ry
    obtain ⟨z, its, n, r, e⟩ := hH.ok I.hok
    have hl := r.length
    have hm : its.length * k.toNat ≤ 1000 * 1000 := Nat.mul_le_mul (by omega) (by omega)
    have hs : (1000 * 1000 : Nat) ≤ sizeLine := by rw [sizeLine_eq]; decide
    have hlen : its.toArray.size * k.toNat ≤ sizeLine := by rw [List.size_toArray]; exact Nat.le_trans hm hs
    have hcap : ¬ its.toArray.size * k.toNat > (2 ^ 63 - 1) / 8 := by
      have : (sizeLine : Nat) ≤ (2 ^ 63 - 1) / 8 := by decide
      omega
    have hfit : ¬ (!Builtin.List.listFitsIndex k) = true := by
      rw [fitsIndex_both (by omega) (by omega)]
      exact Bool.false_ne_true
    have hlong : ¬ Builtin.List.listTooLong (its.toArray.size * k.toNat) = true := by
      rw [notLongL hlen]
      exact Bool.false_ne_true
    have hnew : List.foldl (fun x1 x2 => x1 ++ x2) #[] (List.replicate (if its.toArray.isEmpty = true then 0 else k.toNat) its.toArray) = (List.replicate k.toNat its).flatten.toArray := by
      have f0 : ∀ m : Nat, List.foldl (fun x1 x2 => x1 ++ x2) #[] (List.replicate m its.toArray) = (List.replicate m its).flatten.toArray := fun m => by
        have := foldl_rep its m []
        rw [List.nil_append] at this
        exact this
      rw [f0]
      cases its with
      | nil => simp
      | cons a r' => rw [if_neg (by simp)]
    refine wpAny_binaryOp_repeat_ref (T := "list") (U := "int") (by decide) ⟨_, e, rfl⟩ (fun s' => typeIs_int s' k t) noFill_list_mul F.fills_int_mul F.slot_int_rmul repeat_list F.slot_int_index.lookup
      (call_meets F.slot_int_rmul (typeIs_int s k t) F.entry_int_rmul (F.args_int_rmul_2 _ _) (int___rmul___int_list k t l its.toArray n)
        ⟨e, rfl, ⟨_, e, rfl⟩, call_meets F.slot_list_mul ⟨_, e, rfl⟩ F.entry_list_mul (F.args_list_mul_2 _ _) (AutoListH.list___mul___list_int_3 l its.toArray n k t hfit hcap hlong) ⟨e, ?_⟩⟩)
    rw [hnew]
    exact ⟨.ref _, _, I.lnew (t' := s.toks) (r.rep k.toNat) (by rw [PyProof.Rows.lm_len_rep_flat, Nat.mul_comm, hl]; omega), rfl, q _ I.fresh⟩
  · exact op_mul pins s σ H x y v u Q I rx ry h
theorem RVs.rep {F : Hp} {r : List Addr} {vs : List PV} {us : List V} (q : RVs G F r vs us) : ∀ n : Nat, RVs G F r (List.replicate n vs).flatten (List.replicate n us).flatten
  | 0 => rfl
  | n + 1 => by
    rw [List.replicate_succ, List.replicate_succ, List.flatten_cons, List.flatten_cons]
    exact q.append (RVs.rep q n)
theorem ok_rep : Ok2 G oRep rRepR := fun n0 g F r S H x y u v z Q h q1 q2 e k => by
  unfold oRep at e
  split at e
  · rename_i m
    split at e
    · rename_i xs ex
      split at e
      · rename_i hz
        cases e
        simp only [Bool.and_eq_true, decide_eq_true_eq] at hz
        obtain ⟨a, us, rfl, k1, k2⟩ := view_lst h q1 ex
        refine .inl ⟨a, m, us, rfl, q2, k1, hz.1.1, hz.1.2, by rw [← RVs.length k2]; exact Nat.le_of_ble_eq_true hz.2, fun p hp => ?_⟩
        obtain ⟨h2, k3⟩ := new_obj h hp (v := .lst (List.replicate m.toNat xs).flatten) ⟨_, rfl, k2.rep _⟩ rfl
        exact k F r _ _ (.refl F r) h2 k3
      · cases e
    · rename_i i ex
      split at e
      · rename_i hm
        cases e
        refine .inr ⟨_, _, view_int h q1 ex, q2, ?_, k F r H _ (.refl F r) h rfl⟩
        unfold mulOk at hm
        simp only [Bool.or_eq_true, Bool.and_eq_true, decide_eq_true_eq] at hm
        unfold CMul
        omega
      · cases e
    · cases e
  · cases e
/-! ### a store object is changed -/
theorem noref_rv {F : Hp} {r r' : List Addr} : (∀ (v : PV) (u : V), noref v = true → RV G F r v u → RV G F r' v u) := by
  have key : ∀ (n : Nat) (v : PV), sizeOf v ≤ n → ∀ u, noref v = true → RV G F r v u → RV G F r' v u := by
    intro n
    induction n with
    | zero =>
      intro v hv
      cases v <;> simp at hv
    | succ n ih =>
      intro v hv u hn q
      have all : ∀ (vs : List PV), sizeOf vs ≤ n → ∀ us, noref.norefL vs = true → RVs G F r vs us → RVs G F r' vs us := by
        intro vs
        induction vs with
        | nil => intro _ us _ q; exact q
        | cons w ws ihw =>
          intro hs us hn q
          obtain ⟨u, ur, rfl, k, l⟩ := q
          simp only [noref.norefL, Bool.and_eq_true] at hn
          simp only [List.cons.sizeOf_spec] at hs
          exact ⟨u, ur, rfl, ih w (by omega) u hn.1 k, ihw (by omega) ur hn.2 l⟩
      cases v with
      | non => exact q
      | bl => exact q
      | int => exact q
      | str => exact q
      | ref i => exact absurd hn (by simp [noref])
      | lck => exact q.elim
      | tup xs =>
        obtain ⟨a, us, e, k1, k2⟩ := q
        simp only [PV.tup.sizeOf_spec] at hv
        exact ⟨a, us, e, k1, all xs (by omega) us hn k2⟩
      | lst xs =>
        obtain ⟨a, us, e, k1, k2⟩ := q
        simp only [PV.lst.sizeOf_spec] at hv
        exact ⟨a, us, e, k1, all xs (by omega) us hn k2⟩
      | dct ks vs =>
        obtain ⟨a, us, ho, e, k1, d, k2⟩ := q
        simp only [PV.dct.sizeOf_spec] at hv
        exact ⟨a, us, ho, e, k1, d, all vs (by omega) us hn k2⟩
      | ins c ns vs =>
        obtain ⟨a, dx, us, e, k1, d, k2⟩ := q
        simp only [PV.ins.sizeOf_spec] at hv
        exact ⟨a, dx, us, e, k1, d, all vs (by omega) us hn k2⟩
  exact fun v u => key (sizeOf v) v (Nat.le_refl _) u
theorem put_rv {n0 i : Nat} {L : Nat → Nat} {F : Hp} {r : List Addr} {v : PV} {u : V} (h : mayPut n0 i v = true) (q : RV G F r v u) : RV G F (lim n0 L r i) v u := by
  unfold mayPut at h
  rw [Bool.or_eq_true] at h
  rcases h with h | h
  · unfold lim
    rw [if_neg (by have := Nat.le_of_ble_eq_true h; omega)]
    exact q
  · exact noref_rv v u h q
theorem put_rvs {n0 i : Nat} {L : Nat → Nat} {F : Hp} {r : List Addr} : ∀ {vs : List PV} {us : List V}, mayPutL n0 i vs = true → RVs G F r vs us → RVs G F (lim n0 L r i) vs us
  | [], _, _, q => q
  | v :: vs, us, h, q => by
    obtain ⟨u, ur, rfl, k, l⟩ := q
    simp only [mayPutL, Bool.and_eq_true] at h
    exact ⟨u, ur, rfl, put_rv h.1 k, put_rvs h.2 l⟩
theorem HR.put {n0 : Nat} {g : Gh} {F : Hp} {r : List Addr} {S : Store} {H : Hp} {i : Nat} {a : Addr} {ob ob' : PV} {ho' : HO} (h : HR G n0 g F r S H) (e1 : r[i]? = some a) (e2 : S[i]? = some ob) (hu : unl ob = ob) (hu' : unl ob' = ob')
    (ro : RO G F (lim n0 g.L r i) ob' ho') : HR G n0 g F r (S.set i ob') (upd H a ho') := by
  have hp := h.nopin e1 e2 hu
  have hi : i < S.length := (List.getElem?_eq_some_iff.mp e2).1
  have hF := h.off a (List.mem_of_getElem? e1)
  have ne_of_pin : ∀ b o, g.pn b = some o → b ≠ a := fun b o e z => by rw [z, hp] at e; cases e
  have lck_ne : ∀ w : PV, PV.lck w ≠ ob' := fun w z => by
    rw [← z] at hu'
    have e4 : w = .lck w := hu'
    exact absurd e4 (by intro z; have := congrArg sizeOf z; simp at this)
  refine ⟨fun b o e => ?_, h.nd, h.off, by rw [List.length_set]; exact h.len, by rw [List.length_set]; exact h.nle, h.lle, fun j oj b e3 e4 => ?_, fun b o e => ?_, fun j oj b e3 e4 => ?_, h.out⟩
  · rw [upd_ne (fun z => by rw [z, hF] at e; cases e)]
    exact h.sub b o e
  · by_cases hj : j = i
    · subst hj
      rw [List.getElem?_set_self hi] at e3
      cases e3
      rw [e1] at e4
      cases e4
      exact ⟨ho', upd_same, ro⟩
    · rw [List.getElem?_set_ne (Ne.symm hj)] at e3
      obtain ⟨ho, q1, q2⟩ := h.obj j oj b e3 e4
      refine ⟨ho, ?_, q2⟩
      rw [upd_ne (fun z => ?_)]
      · exact q1
      · rw [z] at e4
        obtain ⟨h2, e2'⟩ := List.getElem?_eq_some_iff.mp e1
        obtain ⟨h3, e3'⟩ := List.getElem?_eq_some_iff.mp e4
        exact hj ((List.getElem_inj h.nd).mp (e3'.trans e2'.symm))
  · obtain ⟨q1, q2, q3⟩ := h.pin b o e
    refine ⟨by rw [upd_ne (ne_of_pin b o e)]; exact q1, q2, fun j hj => ?_⟩
    obtain ⟨w, hw⟩ := q3 j hj
    refine ⟨w, ?_⟩
    rw [List.getElem?_set_ne (fun z => ?_)]
    · exact hw
    · subst z
      rw [e1] at hj
      cases hj
      exact ne_of_pin _ o e rfl
  · by_cases hj : j = i
    · subst hj
      rw [List.getElem?_set_self hi] at e3
      exact absurd (Option.some.inj e3).symm (lck_ne oj)
    · rw [List.getElem?_set_ne (Ne.symm hj)] at e3
      exact h.lckd j oj b e3 e4
theorem store_lst {n0 : Nat} {g : Gh} {F : Hp} {r : List Addr} {S : Store} {H : Hp} {i : Nat} {u : V} {xs : List PV} (h : HR G n0 g F r S H) (q : RV G F r (.ref i) u) (e : S[i]? = some (.lst xs)) :
    ∃ a us, u = .ref a ∧ r[i]? = some a ∧ H a = some (.lst us) ∧ RVs G F (lim n0 g.L r i) xs us := by
  obtain ⟨a, e1, rfl⟩ := q
  obtain ⟨ho, h1, h2⟩ := h.obj i _ a e e1
  obtain ⟨us, rfl, k⟩ := h2
  exact ⟨a, us, rfl, e1, h1, k⟩
theorem small_lt {n : Nat} (h : small n = true) : n < sizeLine := by
  have : n ≤ 1000000 := Nat.le_of_ble_eq_true h
  exact Nat.lt_of_le_of_lt this (by rw [sizeLine_eq]; decide)
def Chg (G : Gam) (n0 : Nat) (f : PV → PV → Store → Option Store) (t : V → List V → Hp → VK → Prop) : Prop := ∀ g F r S H o v u w S' Q, HR G n0 g F r S H → RV G F r o u → RV G F r v w → f o v S = some S' →
  (∀ H', HR G n0 g F r S' H' → Q .non H') → t u [w] H Q
theorem chg_app {n0 : Nat} : Chg G n0 (appL n0) rAppend := fun g F r S H o v u w S' Q h q1 q2 e k => by
  unfold appL at e
  split at e
  · split at e
    · rename_i i xs es
      split at e
      · rename_i hm
        cases e
        rw [Bool.and_eq_true] at hm
        obtain ⟨a, us, rfl, e1, e2, k2⟩ := store_lst h q1 es
        refine ⟨a, us, w, rfl, rfl, e2, by rw [← RVs.length k2]; exact small_lt hm.2, k _ (h.put e1 es rfl rfl ⟨_, rfl, k2.append ⟨w, [], rfl, put_rv hm.1 q2, rfl⟩⟩)⟩
      · cases e
    · cases e
  · cases e
/-! extend by a list of the store or a fresh one: its address is not the changed list's -/
def rExtR : V → List V → Hp → VK → Prop := fun x vs H Q => ∃ l b xs zs, x = .ref l ∧ vs = [.ref b] ∧ H l = some (.lst xs) ∧ Rd H b (.lst zs) ∧ xs.length + zs.length ≤ sizeLine ∧ Q .non (upd H l (.lst (xs ++ zs)))
theorem mt_extR : MtM X "list.extend" rExtR := by
  intro pins s σ H x vs v us Q I rx rv h
  obtain ⟨l, b, xs, zs, rfl, rfl, hH, hB, hz, q⟩ := h
  cases rx
  obtain ⟨u, rfl, ru⟩ := rv.one
  cases ru
  obtain ⟨z, its, n, r, hl, e⟩ := I.lstM hH
  obtain ⟨z2, its2, n2, r2, e2⟩ := hB.ok I.hok
  have hl2 := r2.length
  have hsz : its.toArray.size + its2.toArray.size ≤ sizeLine := by rw [List.size_toArray, List.size_toArray]; omega
  have hlong : ¬ (!its.toArray.isEmpty && Builtin.List.listTooLong (its.toArray.size + its2.toArray.size)) = true := by
    rw [notLongL hsz, Bool.and_false]
    exact Bool.false_ne_true
  refine call_meets F.slot_list_extend ⟨_, e, rfl⟩ F.entry_list_extend (F.args_list_extend_2 _ _)
    (AutoSeq1.list_extend_list_list_0 l its.toArray n b its2.toArray n2 hlong (by rw [List.size_toArray]; omega) (by omega)) ⟨e, e2, ?_⟩
  refine ⟨.non, _, I.lset (its' := its ++ its2) hH e (by simp) (r.append r2) ?_, rfl, q⟩
  rw [List.length_append]
  omega
theorem chg_ext {n0 : Nat} : Chg G n0 (extL n0) rExtR := fun g F r S H o v u w S' Q h q1 q2 e k => by
  unfold extL at e
  split at e
  · split at e
    · rename_i i xs es
      split at e
      · rename_i ys ey
        split at e
        · rename_i hm
          cases e
          rw [Bool.and_eq_true] at hm
          obtain ⟨a, us, rfl, e1, e2, k2⟩ := store_lst h q1 es
          obtain ⟨b, zs, rfl, l1, l2⟩ := view_lstOf h q2 ey
          exact ⟨a, b, us, zs, rfl, rfl, e2, l1, by rw [← RVs.length k2, ← RVs.length l2]; exact small_le hm.2, k _ (h.put e1 es rfl rfl ⟨_, rfl, k2.append (put_rvs hm.1 l2)⟩)⟩
        · cases e
      · cases e
    · cases e
  · cases e
theorem se_lm {n0 : Nat} {ex : Expr} {fo fa : SE} {f : PV → PV → Store → Option Store} {t : V → List V → Hp → VK → Prop} (hK : G.K = X.K) (ho : Chg G n0 f t) (hp : PE X ex (tBM X.K "list" t (rdV G n0 fo) (tCons (rdV G n0 fa) tNil))) : PE X ex (rdE G n0 (eLm f fo fa)) := by
  refine peI hp fun σ H Q ⟨F, r, env, S, g, s, h⟩ => ?_
  refine stV s cnE h fun p S1 F1 r1 H1 u x1 s1 q1 h1 => ?_
  split at h1
  · rename_i hl
    unfold isL at hl
    split at hl
    · rename_i xs ed
      obtain ⟨a, us, rfl, k1, k2⟩ := view_lst s1.hr q1 ed
      refine ⟨.inl ⟨rfl, us, .inl k1⟩, ?_⟩
      refine stV s1 cnE h1 fun q S2 F2 r2 H2 w x2 s2 q2 h2 => ?_
      cases ef : f p.2 q.2 S2 with
      | none => rw [ef] at h2; exact h2.elim
      | some S3 =>
        rw [ef] at h2
        exact ho g F2 r2 S2 H2 p.2 q.2 _ w S3 Q s2.hr (q1.ext x2) q2 ef fun H' hr => h2 F2 r2 H' .non (x1.trans x2) (s2.ext (.refl _ _) hr) rfl
    · cases hl
  · exact h1.elim
/-! o[k] = e -/
def ChgI (G : Gam) (n0 : Nat) (f : PV → PV → PV → Store → Option Store) (t : TSet) : Prop := ∀ g F r S H o k v u y w S' Q, HR G n0 g F r S H → RV G F r o u → RV G F r k y → RV G F r v w → f o k v S = some S' →
  (∀ H', HR G n0 g F r S' H' → Q H') → t u y w H Q
theorem chg_setL {n0 : Nat} : ChgI G n0 (setL n0) rSetL := fun g F r S H o k v u y w S' Q h q1 q2 q3 e kk => by
  unfold setL at e
  split at e
  · rename_i i
    split at e
    · rename_i xs es
      split at e
      · rename_i j
        split at e
        · rename_i m em
          split at e
          · rename_i hm
            cases e
            obtain ⟨a, us, rfl, e1, e2, k2⟩ := store_lst h q1 es
            refine ⟨a, us, j, m, rfl, q2, e2, by rw [← RVs.length k2, ← ixP_eq]; exact em, kk _ (h.put e1 es rfl rfl ⟨_, rfl, RVs.set (put_rv hm q3) m k2⟩)⟩
          · cases e
        · cases e
      · cases e
    · cases e
  · cases e
theorem ss_setI {n0 : Nat} {st : Stmt} {fo fk fe : SE} {f : PV → PV → PV → Store → Option Store} {t : TSet} (ho : ChgI G n0 f t) (hp : PS X st (tAsg (rdV G n0 fe) (gSub (rdV G n0 fo) (rdV G n0 fk) t))) : PS X st (rdS G n0 (sSetI f fo fk fe)) := by
  refine psI hp fun D σ H ⟨F, r, env, S, g, s, h⟩ => ?_
  refine sgV s h fun p S1 F1 r1 H1 w x1 s1 q1 h1 => ?_
  have h1 := PoS.ext h1 x1
  refine sgV s1 h1 fun q S2 F2 r2 H2 u x2 s2 q2 h2 => ?_
  have h2 := PoS.ext h2 x2
  refine sgV s2 h2 fun z S3 F3 r3 H3 y x3 s3 q3 h3 => ?_
  cases ef : f q.2 z.2 p.2 S3 with
  | none => rw [ef] at h3; exact False.elim h3
  | some S4 =>
    rw [ef] at h3
    exact ho g F3 r3 S3 H3 q.2 z.2 p.2 u y w S4 _ s3.hr (q2.ext x3) q3 (q1.ext (x2.trans x3)) ef fun H' hr => h3 F3 r3 H' σ x3 (s3.ext (.refl _ _) hr)
theorem ss_augI {n0 : Nat} {st : Stmt} {fo fk fe : SE} {f : PV → PV → PV → Store → Option Store} {op gt : Op2} {t : TSet} {tg tp : R2} (hg : Ok2 G gt tg) (hop : Ok2 G op tp) (ho : ChgI G n0 f t) (hp : PS X st (tAugS (rdV G n0 fo) (rdV G n0 fk) (rdV G n0 fe) tg tp t)) : PS X st (rdS G n0 (sAugI op gt f fo fk fe)) := by
  refine psI hp fun D σ H ⟨F, r, env, S, g, s, h⟩ => ?_
  refine sgV s h fun p S1 F1 r1 H1 u x1 s1 q1 h1 => ?_
  have h1 := PoS.ext h1 x1
  refine sgV s1 h1 fun q S2 F2 r2 H2 y x2 s2 q2 h2 => ?_
  have h2 := PoS.ext h2 x2
  cases eg : gt p.2 q.2 S2 with
  | none => rw [eg] at h2; exact False.elim h2
  | some x =>
    rw [eg] at h2
    refine hg n0 g F2 r2 S2 H2 p.2 q.2 u y x _ s2.hr (q1.ext x2) q2 eg fun F3 r3 H3 w x3 hr3 rf => ?_
    obtain ⟨F4, x4, hr4, q4⟩ := freeze hr3 rf
    have s4 := s2.ext (x3.trans x4) hr4
    have x34 := x3.trans x4
    have h3 := PoS.ext h2 x34
    refine sgV s4 h3 fun z S5 F5 r5 H5 w5 x5 s5 q5 h5 => ?_
    have h5 := PoS.ext h5 x5
    cases eo : op x.2 z.2 S5 with
    | none => rw [eo] at h5; exact False.elim h5
    | some v6 =>
      simp only [eo] at h5
      refine hop n0 g F5 r5 S5 H5 x.2 z.2 w w5 v6 _ s5.hr (q4.ext x5) q5 eo fun F6 r6 H6 w6 x6 hr6 rf6 => ?_
      obtain ⟨F7, x7, hr7, q7⟩ := freeze hr6 rf6
      have x67 := x6.trans x7
      cases ef : f p.2 q.2 v6.2 S5 with
      | none => rw [ef] at h5; exact False.elim h5
      | some S7 =>
        rw [ef] at h5
        have xa : Ext F2 F7 r2 r6 := (x34.trans x5).trans x67
        exact ho g F7 r6 S5 H6 p.2 q.2 v6.2 u y w6 S7 _ hr7 ((q1.ext x2).ext xa) (q2.ext xa) q7 ef fun H' hr => h5 F7 r6 H' σ x67 ((s5.ext x67 hr7).ext (.refl _ _) hr)
end
end PX
set_option Elab.async false
set_option linter.all false
set_option maxRecDepth 100000
namespace PX
open PySem PySem.Spec PyProof.Rows L2

/-! the defs at hand: what a body may lean on -/
structure Tb (X : Cx) (G : Gam) (cf : CF) (k : Nat) : Prop where
  hK : G.K = X.K
  call : ∀ f np, FnR X.prog X.w X.K X.mg X.base L2.CX0 k (G.fa f) (spF G cf f np)
  room : Room (k + 1) X.A
  calm : X.calm = true
/-! a name of an attribute is no other's -/
def Inj (G : Gam) (f : Nat) : Prop := ∀ j, G.nm j = G.nm f → j = f
structure ClsI (G : Gam) (c : Nat) : Prop where
  cls : Cls G.K (G.ca c)
  isi : SlX.SIsi G.K (G.ca c)

section
variable {G : Gam} {F : Hp} {r : List Addr}
theorem fld_look {f : Nat} (hi : Inj G f) : ∀ {ns : List Nat} {vs : List PV} {us : List V} {w : PV}, ns.length = us.length → RVs G F r vs us → (ns.zip vs).lookup f = some w → ∃ y, ((ns.map G.nm).zip us).lookup (G.nm f) = some y ∧ RV G F r w y
  | [], _, _, _, _, _, e => by cases e
  | n :: ns, [], us, w, _, _, e => by cases e
  | n :: ns, v :: vs, us, w, hl, q, e => by
    obtain ⟨u, ur, rfl, k, l⟩ := q
    rw [List.zip_cons_cons, List.lookup_cons] at e
    rw [List.map_cons, List.zip_cons_cons, List.lookup_cons]
    cases hb : f == n with
    | true =>
      rw [hb] at e
      cases e
      rw [beq_iff_eq.mp hb, beq_self_eq_true]
      exact ⟨u, rfl, k⟩
    | false =>
      rw [hb] at e
      have : (G.nm f == G.nm n) = false := by
        rw [beq_eq_false_iff_ne]
        intro z
        have := hi n z.symm
        rw [this, beq_self_eq_true] at hb
        cases hb
      rw [this]
      exact fld_look hi (by simpa using hl) l e
theorem fld_none {m : Nat} (hi : Inj G m) : ∀ {ns : List Nat} {us : List V}, ns.contains m = false → ((ns.map G.nm).zip us).lookup (G.nm m) = none
  | [], _, _ => rfl
  | n :: ns, [], _ => rfl
  | n :: ns, u :: us, h => by
    rw [List.contains_cons, Bool.or_eq_false_iff] at h
    rw [List.map_cons, List.zip_cons_cons, List.lookup_cons]
    have : (G.nm m == G.nm n) = false := by
      rw [beq_eq_false_iff_ne]
      intro z
      have := hi n z.symm
      rw [this, beq_self_eq_true] at h
      cases h.1
    rw [this]
    exact fld_none hi h.2
theorem fld_put {f : Nat} (hi : Inj G f) {v : PV} {y : V} (q : RV G F r v y) : ∀ {ns : List Nat} {vs : List PV} {us : List V}, ns.length = us.length → RVs G F r vs us →
    ∃ us', putF (G.nm f) y ((ns.map G.nm).zip us) = (((putFld f v ns vs).1).map G.nm).zip us' ∧ (putFld f v ns vs).1.length = us'.length ∧ RVs G F r (putFld f v ns vs).2 us' ∧ (putFld f v ns vs).1.length ≤ ns.length + 1
  | [], vs, us, hl, k => by
    cases us with
    | cons => cases hl
    | nil =>
      cases vs with
      | cons => obtain ⟨_, _, z, _⟩ := k; cases z
      | nil => exact ⟨[y], rfl, rfl, ⟨y, [], rfl, q, rfl⟩, Nat.le_refl _⟩
  | n :: ns, vs, us, hl, k => by
    cases us with
    | nil => cases hl
    | cons u us =>
      cases vs with
      | nil => cases (show (u :: us) = [] from k)
      | cons w ws =>
        obtain ⟨u', ur, e, k1, l⟩ := k
        cases e
        unfold putFld
        rw [List.map_cons, List.zip_cons_cons]
        unfold putF
        by_cases hn : n = f
        · subst hn
          rw [if_pos rfl, if_pos rfl]
          exact ⟨y :: us, rfl, by simpa using hl, ⟨y, us, rfl, q, l⟩, Nat.le_succ _⟩
        · rw [if_neg hn, if_neg (fun z => hn (hi n z))]
          obtain ⟨us', e1, e2, e3, e4⟩ := fld_put hi q (by simpa using hl) l
          refine ⟨u :: us', ?_, ?_, ⟨u, us', rfl, k1, e3⟩, ?_⟩
          · rw [e1]; rfl
          · show _ + 1 = _ + 1
            rw [e2]
          · show _ + 1 ≤ _ + 1
            exact Nat.succ_le_succ e4
end
section
variable {X : Cx} {G : Gam} {n0 : Nat} {cf : CF} {k : Nat}
/-! o.f -/
theorem se_fld {cs : List Nat} {f : Nat} {e : Expr} {fe : SE} {pos : Pos} (hK : G.K = X.K) (hi : Inj G f) (hc : ∀ c ∈ cs, Cls G.K (G.ca c) ∧ NoAttr G.K (G.ca c) (G.nm f)) (he : PE X e (rdE G n0 fe)) (hb : attributeBase e (G.nm f) X.env (eval e X.env) = eval e X.env := by rfl) :
    PE X (.Attribute e (G.nm f) pos) (rdE G n0 (eFld cs f fe)) := by
  refine peI (pe_fld (toV he) hb) fun σ H Q ⟨F, r, env, S, g, s, h⟩ => ?_
  refine stV s cnE h fun p S1 F1 r1 H1 u x1 s1 q1 h1 => ?_
  unfold fldOf at h1
  simp only at h1
  cases ed : deref S1 p.2 with
  | none => rw [ed] at h1; exact h1.elim
  | some o =>
    rw [ed] at h1
    cases o with
    | ins c ns vs =>
      simp only at h1
      cases hcs : cs.contains c with
      | false => rw [hcs] at h1; exact h1.elim
      | true =>
        rw [hcs, if_pos rfl] at h1
        cases el : (ns.zip vs).lookup f with
        | none => rw [el] at h1; exact h1.elim
        | some w =>
          rw [el] at h1
          obtain ⟨a, dx, us, rfl, k1, k2, k3⟩ := view_ins s1.hr q1 ed
          obtain ⟨y, e1, q2⟩ := fld_look hi k2 k3 el
          obtain ⟨h2, h3⟩ := hc c (by simpa using hcs)
          rw [← hK]
          exact ⟨a, G.ca c, dx, _, y, rfl, k1, h2, h3, e1, h1 F1 r1 H1 y x1 s1 q2⟩
    | _ => exact h1.elim
/-! o.f = e -/
theorem ss_fld {cs : List Nat} {f : Nat} {o e : Expr} {fo fe : SE} {pos pos' : Pos} (hK : G.K = X.K) (hi : Inj G f) (hc : ∀ c ∈ cs, Cls G.K (G.ca c) ∧ NoAttr G.K (G.ca c) (G.nm f)) (ho : PE X o (rdE G n0 fo)) (he : PE X e (rdE G n0 fe))
    (hs : swapsWith e (some (.Attribute o (G.nm f) pos')) pos.line X.env = pure false := by rfl) : PS X (.Assign [.Attribute o (G.nm f) pos'] e pos) (rdS G n0 (sFld n0 cs f fo fe)) := by
  refine psI (ps_fld (toV ho) (toV he) hs) fun D σ H ⟨F, r, env, S, g, s, h⟩ => ?_
  refine sgV s h fun p S1 F1 r1 H1 y x1 s1 q1 h1 => ?_
  have h1 := PoS.ext h1 x1
  refine sgV s1 h1 fun q S2 F2 r2 H2 u x2 s2 q2 h2 => ?_
  obtain ⟨b, v⟩ := q
  cases v with
  | ref i =>
    simp only at h2
    cases es : S2[i]? with
    | none => rw [es] at h2; exact False.elim h2
    | some ob =>
      rw [es] at h2
      cases ob with
      | ins c ns vs =>
        simp only at h2
        cases hcond : (cs.contains c && mayPut n0 i p.2 && Nat.ble ns.length 100) with
        | false => rw [hcond] at h2; exact False.elim h2
        | true =>
          rw [hcond, if_pos rfl] at h2
          rw [Bool.and_eq_true, Bool.and_eq_true] at hcond
          obtain ⟨⟨c1, c2⟩, c3⟩ := hcond
          obtain ⟨a, e1, rfl⟩ := q2
          obtain ⟨ho, k1, k2⟩ := s2.hr.obj i _ a es e1
          obtain ⟨dx, us, rfl, k3, k4⟩ := k2
          obtain ⟨hc1, hc2⟩ := hc c (by simpa using c1)
          obtain ⟨us', e2, e3, e4, e5⟩ := fld_put hi (put_rv c2 (q1.ext x2)) k3 k4
          have hl : ns.length ≤ 100 := Nat.le_of_ble_eq_true c3
          rw [← hK]
          refine ⟨a, G.ca c, dx, _, rfl, k1, hc1, hc2, ?_, ?_⟩
          · rw [List.length_zip, List.length_map]
            omega
          · rw [e2]
            have hr := s2.hr.put (ob' := .ins c (putFld f p.2 ns vs).1 (putFld f p.2 ns vs).2) e1 es rfl rfl ⟨dx, us', rfl, e3, e4⟩
            exact h2 F2 r2 _ σ x2 ⟨hr, s2.sl, s2.vr⟩
      | _ => exact False.elim h2
  | _ => exact False.elim h2
/-! f(..) -/
theorem pe_callR {f : Addr} {sp : Sp} {x : Str} {p pos : Pos} {e : Expr} {es : List Expr} {t : TA} (F : FnR X.prog X.w X.K X.mg X.base L2.CX0 k f sp) (hr : Room k X.A) (hg : Gl X x) (hm : X.mg x = some (.ref f)) (hk : PySem.W.keepIn X.K (.ref f) = true)
    (ha : PA X (e :: es) t) (hdb : (x == ("__debug__" : Str)) = false := by decide) (he : starEach (e :: es) X.env = (false, eval e X.env) :: starEach es X.env := by rfl) (hpl : (backTo pos (starEach es X.env)).any (·.1) = false := by rfl) :
    PE X (.Call (.Name x p) (e :: es) [] pos) (tCall sp [] E0 t) := by
  refine ⟨fun pins s σ H Q I h => ?_⟩
  refine wpAny_Call_Name_kw (ld_glob I hg hm ?_ hdb)
  refine PySem.W.callWith_K (h₀ := X.base) I.ok.mod.kin hk (thn (ha.run pos pins s σ H _ I h) fun us s1 ⟨vs, H1, I1, r, q⟩ => ⟨I1.kIn, ?_⟩) he hpl
  have q : sp (vs ++ []) H1 Q E0 := q
  rw [List.append_nil] at q
  exact wpAny_call (run_fnR F hr pass0 I1 r q)
theorem pe_callR0 {f : Addr} {sp : Sp} {x : Str} {p pos : Pos} (F : FnR X.prog X.w X.K X.mg X.base L2.CX0 k f sp) (hr : Room k X.A) (hg : Gl X x) (hm : X.mg x = some (.ref f)) (hk : PySem.W.keepIn X.K (.ref f) = true)
    (hdb : (x == ("__debug__" : Str)) = false := by decide) : PE X (.Call (.Name x p) [] [] pos) (tCall sp [] E0 tNil) := by
  refine ⟨fun pins s σ H Q I h => ?_⟩
  refine wpAny_Call_Name_kw (ld_glob I hg hm ?_ hdb)
  exact PySem.W.callWith_K0 I.kIn hk (wpAny_call (run_fnR (us := []) F hr pass0 I .nil h))
theorem sx_call {f np : Nat} {x : Str} {p pos : Pos} {e : Expr} {es : List Expr} {fs : SA} (T : Tb X G cf k) (hg : Gl X x) (hm : X.mg x = some (.ref (G.fa f))) (hk : PySem.W.keepIn G.K (.ref (G.fa f)) = true) (ha : PA X (e :: es) (rdA G n0 fs))
    (hdb : (x == ("__debug__" : Str)) = false := by decide) (he : starEach (e :: es) X.env = (false, eval e X.env) :: starEach es X.env := by rfl) (hpl : (backTo pos (starEach es X.env)).any (·.1) = false := by rfl) :
    PE X (.Call (.Name x p) (e :: es) [] pos) (rdE G n0 (eCall cf np f fs)) := se_call (pe_callR (T.call f np) (T.room.mono (Nat.le_succ k)) hg hm (T.hK ▸ hk) ha hdb he hpl)
theorem sx_call0 {f : Nat} {x : Str} {p pos : Pos} (T : Tb X G cf k) (hg : Gl X x) (hm : X.mg x = some (.ref (G.fa f))) (hk : PySem.W.keepIn G.K (.ref (G.fa f)) = true)
    (hdb : (x == ("__debug__" : Str)) = false := by decide) : PE X (.Call (.Name x p) [] [] pos) (rdE G n0 (eCall cf 0 f aNil)) := by
  refine peI (pe_callR0 (T.call f 0) (T.room.mono (Nat.le_succ k)) hg hm (T.hK ▸ hk) hdb) fun σ H Q ⟨F, r, env, S, g, s, h⟩ => ?_
  exact run_call (E := E0) s (.refl F r) (show RVs G F r [] [] from rfl) rfl h
/-! o.m(..), the class found at the run -/
def tMethD (X : Cx) (k : Nat) (m : Str) (ta : TE) (t : TA) : TE := fun σ H Q => ta σ H fun x H1 => ∃ a C dx fs g sp, x = .ref a ∧ H1 a = some (.ins C dx fs) ∧ Cls X.K C ∧ Meth X.K C m g ∧ fs.lookup m = none ∧ FnR X.prog X.w X.K X.mg X.base L2.CX0 k g sp ∧ t σ H1 fun vs H2 => sp (x :: vs) H2 Q E0
theorem pe_methD {m : Str} {pos apos : Pos} {o e : Expr} {es : List Expr} {ta : TE} {t : TA} {pl : Sem Bool} (he : PE X o ta) (hr : Room k X.A) (ha : PA X (e :: es) t)
    (hst : starEach (e :: es) X.env = (false, eval e X.env) :: starEach es X.env := by rfl) (hpl : (backTo pos (starEach es X.env)).any (·.1) = false := by rfl)
    (ht : eval (.Call (.Attribute o m apos) (e :: es) [] pos) X.env = (do
      let ov ← eval o X.env
      standAt apos.atName
      let (f, first) ← holding [ov] (getMethod ov m pl)
      callWith pos f first (backTo pos (starEach (e :: es) X.env)) (backToKw pos (keywordEach [] X.env))) := by rfl) :
    PE X (.Call (.Attribute o m apos) (e :: es) [] pos) (tMethD X k m ta t) := by
  refine ⟨fun pins s σ H Q I h => ?_⟩
  refine PySem.W.methodCall_KW (pl := pl) (thn (he.run pins s σ H _ I h) fun u s1 ⟨x, H1, I1, rx, a, C, dx, fs, g, sp, ex, ea, c, hm, l, F, q⟩ => ?_) ht
  subst ex
  obtain rfl : u = Value.ref a := rx
  refine getmeth_ok I1 ea c hm l ?_
  refine PySem.W.callWith_K (first := [.ref a]) (h₀ := X.base) I.ok.mod.kin hm.kp (thn (ha.run pos pins s1 σ H1 _ I1 q) fun us s2 ⟨ws, H2, I2, r, q2⟩ => ⟨I2.kIn, ?_⟩) hst hpl
  exact wpAny_call (run_fnR (us := .ref a :: us) (vs := .ref a :: ws) F hr pass0 I2 (.cons rfl r) q2)
theorem pe_methD0 {m : Str} {pos apos : Pos} {o : Expr} {ta : TE} {pl : Sem Bool} (he : PE X o ta) (hr : Room k X.A)
    (ht : eval (.Call (.Attribute o m apos) [] [] pos) X.env = (do
      let ov ← eval o X.env
      standAt apos.atName
      let (f, first) ← holding [ov] (getMethod ov m pl)
      callWith pos f first (backTo pos (starEach [] X.env)) (backToKw pos (keywordEach [] X.env))) := by rfl) :
    PE X (.Call (.Attribute o m apos) [] [] pos) (tMethD X k m ta tNil) := by
  refine ⟨fun pins s σ H Q I h => ?_⟩
  refine PySem.W.methodCall_KW (pl := pl) (thn (he.run pins s σ H _ I h) fun u s1 ⟨x, H1, I1, rx, a, C, dx, fs, g, sp, ex, ea, c, hm, l, F, q⟩ => ?_) ht
  subst ex
  obtain rfl : u = Value.ref a := rx
  refine getmeth_ok I1 ea c hm l ?_
  exact PySem.W.callWith_K0 (first := [.ref a]) I1.kIn hm.kp (wpAny_call (run_fnR (us := [.ref a]) (vs := [.ref a]) F hr pass0 I1 (.cons rfl .nil) q))
theorem look_mem {α : Type} : ∀ {l : List (Nat × α)} {c : Nat} {f : α}, l.lookup c = some f → (c, f) ∈ l
  | [], _, _, e => by cases e
  | (a, b) :: l, c, f, e => by
    rw [List.lookup_cons] at e
    cases hb : c == a with
    | true =>
      rw [hb] at e
      cases e
      rw [beq_iff_eq.mp hb]
      exact List.mem_cons_self
    | false =>
      rw [hb] at e
      exact List.mem_cons_of_mem _ (look_mem e)
theorem sa_nilT {σ : L2.St} {H : Hp} {Q : List V → Hp → Prop} (h : rdA G n0 aNil σ H Q) : tNil σ H Q := by
  obtain ⟨F, r, env, S, g, s, h⟩ := h
  exact h F r H [] (.refl F r) s rfl
theorem meth_core {np m : Nat} {tb : List (Nat × Nat)} {fo : SE} {fs : SA} {t : TA} {ex : Expr} (T : Tb X G cf k) (ht : ∀ σ H Q, rdA G n0 fs σ H Q → t σ H Q) (hi : Inj G m) (hc : ∀ p ∈ tb, Cls G.K (G.ca p.1) ∧ Meth G.K (G.ca p.1) (G.nm m) (G.fa p.2))
    (hp : PE X ex (tMethD X k (G.nm m) (rdV G n0 fo) t)) : PE X ex (rdE G n0 (eMeth cf np m tb fo fs)) := by
  refine peI hp fun σ H Q ⟨F, r, env, S, g, s, h⟩ => ?_
  refine stV s cnE h fun p S1 F1 r1 H1 u x1 s1 q1 h1 => ?_
  unfold methOf at h1
  cases ed : deref S1 p.2 with
  | none => rw [ed] at h1; exact h1.elim
  | some o =>
    rw [ed] at h1
    cases o with
    | ins c ns vs =>
      simp only at h1
      cases hn : ns.contains m with
      | true => rw [hn] at h1; exact h1.elim
      | false =>
        rw [hn] at h1
        simp only [Bool.false_eq_true, if_false] at h1
        cases el : tb.lookup c with
        | none => rw [el] at h1; exact h1.elim
        | some f =>
          rw [el] at h1
          obtain ⟨a, dx, us, rfl, k1, k2, k3⟩ := view_ins s1.hr q1 ed
          obtain ⟨h2, h3⟩ := hc (c, f) (look_mem el)
          refine ⟨a, G.ca c, dx, _, G.fa f, _, rfl, k1, T.hK ▸ h2, T.hK ▸ h3, fld_none hi hn, T.call f np, ?_⟩
          refine ht _ _ _ (stA s1 cnE h1 fun q S2 F2 r2 H2 ws x2 s2 q2 h4 => ?_)
          split at h4
          · rename_i hl
            exact run_call (E := E0) s2 (x1.trans x2) (show RVs G F2 r2 (p.2 :: q) _ from ⟨_, ws, rfl, q1.ext x2, q2⟩) hl h4
          · exact h4.elim
    | _ => exact h1.elim
theorem se_meth {np m : Nat} {tb : List (Nat × Nat)} {o e : Expr} {es : List Expr} {fo : SE} {fs : SA} {pos apos : Pos} {pl : Sem Bool} (T : Tb X G cf k) (hi : Inj G m) (hc : ∀ p ∈ tb, Cls G.K (G.ca p.1) ∧ Meth G.K (G.ca p.1) (G.nm m) (G.fa p.2)) (ho : PE X o (rdE G n0 fo)) (ha : PA X (e :: es) (rdA G n0 fs))
    (hst : starEach (e :: es) X.env = (false, eval e X.env) :: starEach es X.env := by rfl) (hpl : (backTo pos (starEach es X.env)).any (·.1) = false := by rfl)
    (ht : eval (.Call (.Attribute o (G.nm m) apos) (e :: es) [] pos) X.env = (do
      let ov ← eval o X.env
      standAt apos.atName
      let (f, first) ← holding [ov] (getMethod ov (G.nm m) pl)
      callWith pos f first (backTo pos (starEach (e :: es) X.env)) (backToKw pos (keywordEach [] X.env))) := by rfl) :
    PE X (.Call (.Attribute o (G.nm m) apos) (e :: es) [] pos) (rdE G n0 (eMeth cf np m tb fo fs)) :=
  meth_core T (fun _ _ _ h => h) hi hc (pe_methD (pl := pl) (toV ho) (T.room.mono (Nat.le_succ k)) ha hst hpl ht)
theorem se_meth0 {m : Nat} {tb : List (Nat × Nat)} {o : Expr} {fo : SE} {pos apos : Pos} {pl : Sem Bool} (T : Tb X G cf k) (hi : Inj G m) (hc : ∀ p ∈ tb, Cls G.K (G.ca p.1) ∧ Meth G.K (G.ca p.1) (G.nm m) (G.fa p.2)) (ho : PE X o (rdE G n0 fo))
    (ht : eval (.Call (.Attribute o (G.nm m) apos) [] [] pos) X.env = (do
      let ov ← eval o X.env
      standAt apos.atName
      let (f, first) ← holding [ov] (getMethod ov (G.nm m) pl)
      callWith pos f first (backTo pos (starEach [] X.env)) (backToKw pos (keywordEach [] X.env))) := by rfl) :
    PE X (.Call (.Attribute o (G.nm m) apos) [] [] pos) (rdE G n0 (eMeth cf 1 m tb fo aNil)) :=
  meth_core T (fun _ _ _ h => sa_nilT h) hi hc (pe_methD0 (pl := pl) (toV ho) (T.room.mono (Nat.le_succ k)) ht)
/-! C(..) -/
theorem run_makeR {C f : Addr} {sp : Sp} {pins : List (Addr × Obj)} {σ : L2.St} {H : Hp} {s : Shared} {Q : VK} {us : List Value} {vs : List V} (M : Mk X.K C f) (F : FnR X.prog X.w X.K X.mg X.base L2.CX0 k f sp) (hr : Room (k + 1) X.A)
    (I : Inv X pins σ H s) (r : Vals vs us)
    (h : ∀ x dx, H x = none → H dx = none → dx ≠ x → sp (.ref x :: vs) (upd (upd H dx (.own x)) x (.ins C dx [])) (fun v H2 => v = .non ∧ Q (.ref x) H2) E0) :
    wpAny (model X.prog X.w) X.A (call (.ref C) us) (EP X pins σ Q) X.xe s := by
  have hq := h (s.heap.objs.size + 1) s.heap.objs.size (I.hok.fresh (Nat.le_succ _)) (I.hok.fresh (Nat.le_refl _)) (Nat.ne_of_lt (Nat.lt_succ_self _))
  have I2 := Inv.made (C := C) I
  have r2 : Vals (V.ref (s.heap.objs.size + 1) :: vs) (Value.ref (s.heap.objs.size + 1) :: us) := .cons rfl r
  refine wpAny_call (make_map (f := f) I.kIn M.makes M.init (beq_iff_eq.mp M.fn) (codeAny_mono (F _ X.stack _ _ (Value.ref (s.heap.objs.size + 1) :: us) _ _ E0 (hr.make C us [])
    (I2.env0.make C us []) r2 hq) fun r s' hq' => ?_))
  cases r with
  | error e => exact hq'.elim
  | ok fl =>
    cases fl with
    | ret u =>
      obtain ⟨v, H', I3, rv, ev, q3⟩ := I2.after hq'
      subst ev
      exact ⟨rv, ⟨V.ref (s.heap.objs.size + 1), H', I3, rfl, q3⟩⟩
    | next => exact False.elim hq'
    | brk => exact False.elim hq'
    | cont => exact False.elim hq'
theorem pe_makeR {C f : Addr} {sp : Sp} {x : Str} {p pos : Pos} {e : Expr} {es : List Expr} {t : TA} (M : Mk X.K C f) (F : FnR X.prog X.w X.K X.mg X.base L2.CX0 k f sp) (hr : Room (k + 1) X.A) (hg : Gl X x) (hm : X.mg x = some (.ref C))
    (ha : PA X (e :: es) t) (hdb : (x == ("__debug__" : Str)) = false := by decide) (he : starEach (e :: es) X.env = (false, eval e X.env) :: starEach es X.env := by rfl) (hpl : (backTo pos (starEach es X.env)).any (·.1) = false := by rfl) :
    PE X (.Call (.Name x p) (e :: es) [] pos) (tMake C sp [] E0 t) := by
  refine ⟨fun pins s σ H Q I h => ?_⟩
  refine wpAny_Call_Name_kw (ld_glob I hg hm ?_ hdb)
  refine PySem.W.callWith_K (h₀ := X.base) I.ok.mod.kin M.kp (thn (ha.run pos pins s σ H _ I h) fun us s1 ⟨vs, H1, I1, r, q⟩ => ⟨I1.kIn, ?_⟩) he hpl
  exact run_makeR M F hr I1 r fun x dx h1 h2 h3 => by
    have z := q x dx h1 h2 h3
    rw [List.append_nil] at z
    exact z
theorem se_make {np c f : Nat} {x : Str} {p pos : Pos} {e : Expr} {es : List Expr} {fs : SA} (T : Tb X G cf k) (M : Mk G.K (G.ca c) (G.fa f)) (hg : Gl X x) (hm : X.mg x = some (.ref (G.ca c))) (ha : PA X (e :: es) (rdA G n0 fs))
    (hdb : (x == ("__debug__" : Str)) = false := by decide) (he : starEach (e :: es) X.env = (false, eval e X.env) :: starEach es X.env := by rfl) (hpl : (backTo pos (starEach es X.env)).any (·.1) = false := by rfl) :
    PE X (.Call (.Name x p) (e :: es) [] pos) (rdE G n0 (eMake cf np c f fs)) := by
  refine peI (pe_makeR (T.hK ▸ M) (T.call f np) T.room hg hm ha hdb he hpl) fun σ H Q ⟨F, r, env, S, g, s, h⟩ => ?_
  refine stA s cnE h fun q S1 F1 r1 H1 us x1 s1 q1 h1 => ?_
  split at h1
  · rename_i hl
    intro x dx hx hd hne
    rw [List.append_nil]
    have hc := (s1.hr.call).heap (H' := upd H1 dx (.own x)) fun a o e => by rw [upd_ne (ne_of_none e hd)]; exact e
    obtain ⟨h2, rf⟩ := new_obj (v := .ins c [] []) (ho := .ins (G.ca c) dx []) hc (by rw [upd_ne hne.symm]; exact hx) ⟨dx, [], rfl, rfl, rfl⟩ rfl
    obtain ⟨r2, x2, h3, q3⟩ := store_new h2 rf
    refine ⟨F1, r2, S1 ++ [.ins c [] []], subG n0 g S1.length, S1.length, .ref S1.length :: q, h3, ⟨_, us, rfl, q3, q1.ext x2⟩, hl, ?_⟩
    cases ec : cf f (.ref S1.length :: q) S1.length (S1 ++ [.ins c [] []]) with
    | no => rw [ec] at h1; exact h1
    | ex => rw [ec] at h1; exact h1
    | ok v S2 =>
      rw [ec] at h1
      intro F3 r3 H3 u x3 h4 q4
      cases v with
      | non =>
        refine ⟨q4, ?_⟩
        have h1 : PoE G n0 g F r env σ (norm S1.length (.ref S1.length) S2) Q := h1
        cases en : norm S1.length (.ref S1.length) S2 with
        | no => rw [en] at h1; exact h1.elim
        | ex => rw [en] at h1; exact h1.elim
        | ok p S3 =>
          rw [en] at h1
          obtain ⟨b, w⟩ := p
          obtain ⟨F4, x4, h5, q5⟩ := norm_ok h4 (RV.ext x3 q3) en
          rw [take_ext s1.hr (x2.trans x3)] at h5 q5
          have x5 : Ext F1 F4 r1 r1 := ⟨(x2.trans x3).1.trans x4, List.prefix_refl r1⟩
          exact h1 F4 r1 H3 _ (x1.trans x5) (s1.ext x5 (s1.hr.back h5)) q5
      | _ => exact h1.elim
  · exact h1.elim
/-! ### isinstance -/
inductive TyN where
  | non | bl | int | str | tup | lst | dct
  | own (c : Nat)
  deriving DecidableEq
def tyN (S : Store) (v : PV) : Option TyN := match deref S v with
  | some .non => some .non
  | some (.bl _) => some .bl
  | some (.int _) => some .int
  | some (.str _) => some .str
  | some (.tup _) => some .tup
  | some (.lst _) => some .lst
  | some (.dct _ _) => some .dct
  | some (.ins c _ _) => some (.own c)
  | _ => none
def TyN.val (G : Gam) : TyN → Value
  | .non => .type "NoneType"
  | .bl => .type "bool"
  | .int => .type "int"
  | .str => .type "str"
  | .tup => .type "tuple"
  | .lst => .type "list"
  | .dct => .type "dict"
  | .own c => .ref (G.ca c)
def eIsi (tb : List (TyN × Bool)) : SE → SE := eUn fun v S => match tyN S v with
  | some t => (tb.lookup t).map fun b => (false, .bl b)
  | none => none
theorem tyN_ok {g : Gh} {F : Hp} {r : List Addr} {S : Store} {H : Hp} {v : PV} {u : V} {t : TyN} (h : HR G n0 g F r S H) (q : RV G F r v u) (hc : ∀ c, t = .own c → ClsI G c) (e : tyN S v = some t) : TyX G.K H u (t.val G) := by
  unfold tyN at e
  split at e
  · rename_i ed; cases e; rw [view_non h q ed]; exact .base .non
  · rename_i ed; cases e; rw [view_bl h q ed]; exact .base (.bl _)
  · rename_i ed; cases e; rw [view_int h q ed]; exact .base (.int _)
  · rename_i ed; cases e; rw [view_str h q ed]; exact .base (.str _)
  · rename_i ed
    cases e
    obtain ⟨a, us, rfl, k1, _⟩ := view_tup h q ed
    rcases k1 with (k1 | ⟨o, k1⟩) | ⟨o, its, n, k1, k2, _⟩
    · exact .base (.tup k1)
    · exact .fTuple k1
    · exact .kTuple k1 k2
  · rename_i ed
    cases e
    obtain ⟨a, us, rfl, k1, _⟩ := view_lst h q ed
    rcases k1 with k1 | ⟨o, k1⟩
    · exact .base (.lst k1)
    · exact .base (.frz k1)
  · rename_i ed
    cases e
    obtain ⟨a, ho, us, rfl, k1, k2, _⟩ := view_dct h q ed
    rename_i ks vs ed
    cases ks with
    | k kk =>
      obtain ⟨rfl, _⟩ := k2
      exact .base (.dK k1)
    | t kk =>
      obtain ⟨rfl, _⟩ := k2
      exact .base (.dT k1)
  · rename_i ed
    cases e
    obtain ⟨a, dx, us, rfl, k1, _⟩ := view_ins h q ed
    obtain ⟨c1, c2⟩ := hc _ rfl
    exact .base (.ins k1 c1 c2.ca c2.cn c2.ct c2.cm)
  · cases e
theorem tb_mem {tb : List (TyN × Bool)} {t : TyN} {b : Bool} : tb.lookup t = some b → (t, b) ∈ tb := by
  induction tb with
  | nil => intro e; cases e
  | cons p l ih =>
    obtain ⟨a, c⟩ := p
    intro e
    rw [List.lookup_cons] at e
    cases hb : t == a with
    | true =>
      rw [hb] at e
      cases e
      rw [beq_iff_eq.mp hb]
      exact List.mem_cons_self
    | false =>
      rw [hb] at e
      exact List.mem_cons_of_mem _ (ih e)
theorem se_isi1 {tb : List (TyN × Bool)} {e ce : Expr} {fe : SE} {p pos : Pos} {cv : V} {cu : Value} (hK : G.K = X.K) (hg : Gl X "isinstance") (hm : X.mg "isinstance" = none) (hb : bootBuiltins "isinstance" = some (.builtin "isinstance")) (hcv : ClsV cv cu)
    (hcl : ∀ t b, (t, b) ∈ tb → PySem.W.kitOne G.K (t.val G) cu = some b ∧ ∀ c, t = .own c → ClsI G c) (he : PE X e (rdE G n0 fe)) (hc : PE X ce (tC cv))
    (hs : starEach [e, ce] X.env = (false, eval e X.env) :: starEach [ce] X.env := by rfl) (hs2 : starEach [ce] X.env = (false, eval ce X.env) :: starEach [] X.env := by rfl) (hpl : (backTo pos (starEach [ce] X.env)).any (·.1) = false := by rfl) :
    PE X (.Call (.Name "isinstance" p) [e, ce] [] pos) (rdE G n0 (eIsi tb fe)) := by
  refine peI (pe_callB call_isi hg hm hb (pa_cons (toV he) (pa_cons hc pa_nil hs2) hs) (by decide) (by decide) hs hpl) fun σ H Q ⟨F, r, env, S, g, s, h⟩ => ?_
  refine stV s cnE h fun p S1 F1 r1 H1 u x1 s1 q1 h1 => ?_
  simp only at h1
  cases et : tyN S1 p.2 with
  | none => rw [et] at h1; exact h1.elim
  | some t =>
    rw [et] at h1
    cases el : tb.lookup t with
    | none => simp only [el] at h1; exact h1.elim
    | some b =>
      simp only [el] at h1
      obtain ⟨k1, k2⟩ := hcl t b (tb_mem el)
      exact ⟨u, cv, t.val G, cu, b, rfl, hcv, hK ▸ tyN_ok s1.hr q1 k2 et, hK ▸ k1, h1 F1 r1 H1 _ x1 s1 rfl⟩
end
end PX
set_option Elab.async false
set_option linter.all false
set_option maxRecDepth 100000
namespace PX
open PySem PySem.Spec PyProof.Rows L2

section
open Builtin
variable {prog : Program} {w : World} {A : Around} {E : Value → Shared → Prop} {s : Shared} {K : PySem.W.Frag} {x C L f : Addr} {h₀ : Heap} {m : Str → Option Value} {ox : Obj} {od : Option Obj} {b tb : Value}
theorem ne_entry {Q : Fin → Shared → Prop} {h : Heap} {g : Array GenState} {d : Drawn} {t : Nat} {os : OsState} (hu : A.units < cLine) (X : K.In h) (I : PySem.W.InstAt h x ox C od)
    (hs : PySem.W.findIn K (.ref C) "__eq__" = some (some (.ref f))) (hf : PySem.W.isFn K (.ref f) = true)
    (hcall : wpAny (model prog w) A (call (.ref f) [.ref x, b]) (fun v s' => ∃ b, v = .bool b ∧ Q (.done (.ret (.bool (!b)))) s') E ⟨h, g, d, t, os⟩) :
    wpAny (model prog w) A (Builtin.«object.__ne__» ⟨[.ref x, b], []⟩) Q E ⟨h, g, d, t, os⟩ := by
  unfold Builtin.«object.__ne__»
  repeat (first
    | with_reducible refine wpAny_cRoomFor hu ?_
    | (refine wpAny_bind (m := callSpecialIfBound? (.ref x) (Str.ofString "__eq__") [b])
        (PySem.W.ifBound_K X I hs hf (wpAny_mono hcall (fun r s' hr => by
          obtain ⟨b, rfl, hq⟩ := hr
          repeat (first | exact hq | exact wpAny_pure hq | exact wpAny_truthy_bool hq | (refine wpAny_bind (m := truthy (.bool _)) (wpAny_truthy_bool ?_)) | wp_step)) fun _ _ e => e)))
    | wp_step)
theorem ne_try {Q : Option Value → Shared → Prop} (hu : A.units + 1 < cLine) (X : K.In s.heap) (I : PySem.W.InstAt s.heap x ox C od)
    (hne : PySem.W.findIn K (.ref C) "__ne__" = some (some (.builtin "object.__ne__"))) (hm : PySem.W.mroIn K C (.type "object") = some true) (hs : PySem.W.findIn K (.ref C) "__eq__" = some (some (.ref f))) (hf : PySem.W.isFn K (.ref f) = true)
    (h : wpAny (model prog w) A.in1 (call (.ref f) [.ref x, b]) (fun v s' => ∃ k, v = .bool k ∧ Q (some (.bool (!k))) s') E s) : wpAny (model prog w) A (tryCompare (.ref x) "__ne__" b) Q E s := by
  have S := PySem.F.cmp_object.ne
  simp only [tryCompare]
  refine wpAny_bind (m := callSpecialIfBound? (.ref x) "__ne__" [b]) ?_
  simp only [callSpecialIfBound?, bindSpecialIfBound?]
  have body : wpAny (model prog w) A (call (.builtin "object.__ne__") [.ref x, b]) (fun v s' => ∃ k, v = .bool (!k) ∧ Q (some (.bool (!k))) s') E s := by
    refine wpAny_call (codeAny_call_builtin S.plain F.cmpEntry_ne (PySem.W.check_slot F.cmpKind_ne F.cmpSplit_ne (I.type.andThen (PySem.W.looks_mroIn X hm)) (F.cmpArgs_ne _ _) ?_))
    obtain ⟨hp, g, d, t, os⟩ := s
    refine ne_entry (A := A.in1) hu X I hs hf (wpAny_mono h (fun v s' hv => ?_) fun _ _ e => e)
    obtain ⟨k, rfl, hq⟩ := hv
    exact ⟨k, rfl, k, rfl, hq⟩
  have fin : wpAny (model prog w) A (call (.builtin "object.__ne__") ([.ref x] ++ [b]) >>= fun v => pure (some v)) (fun r s' => wpAny (model prog w) A (match r with
      | some .notImplemented => pure none
      | none => pure none
      | some v => pure (some v)) Q E s') E s := by
    refine wpAny_bind (wpAny_mono body (fun v s' hv => ?_) fun _ _ e => e)
    obtain ⟨k, rfl, hq⟩ := hv
    exact wpAny_pure (wpAny_pure hq)
  refine wpAny_holding (wpAny_bind (wpAny_bind (wpAny_bind (I.type.here ((PySem.W.looks_findIn X hne).here ?_)))))
  simp only [S.bind]
  refine wpAny_bind (wpAny_askSetting (wpAny_ite ?_))
  split
  · exact wpAny_bind (wpAny_pure (wpAny_pure fin))
  · exact wpAny_tryCatch (wpAny_bind (wpAny_pure (wpAny_pure fin)))
theorem ne_K {Q : Value → Shared → Prop} (hu : A.units + 1 < cLine) (X : K.In s.heap) (I : PySem.W.InstAt s.heap x ox C od) (hb : PySem.W.Looks (model prog w) s.heap (typeOf b) tb) (hn : PySem.W.notFirst K C tb = true)
    (hne : PySem.W.findIn K (.ref C) "__ne__" = some (some (.builtin "object.__ne__"))) (hm : PySem.W.mroIn K C (.type "object") = some true) (hs : PySem.W.findIn K (.ref C) "__eq__" = some (some (.ref f))) (hf : PySem.W.isFn K (.ref f) = true)
    (h : wpAny (model prog w) A.in1 (call (.ref f) [.ref x, b]) (fun v s' => ∃ k, v = .bool k ∧ Q (.bool (!k)) s') E s) : wpAny (model prog w) A (richCompare .NotEq (.ref x) b) Q E s := by
  have one : wpAny (model prog w) A (tryCompare (.ref x) (cmpInfo .NotEq).2.1 b) (fun r s' => ∃ v, r = some v ∧ Q v s') E s :=
    ne_try hu X I hne hm hs hf (wpAny_mono h (fun v s' hv => by
      obtain ⟨k, e, q⟩ := hv
      exact ⟨k, e, _, rfl, q⟩) fun _ _ e => e)
  unfold richCompare
  simp only [oneThing_ref]
  refine wpAny_holding (wpAny_bind (wpAny_cRoomFor (Nat.lt_of_succ_lt hu) ?_))
  refine wpAny_bind (I.type.here (wpAny_bind (hb.here ?_)))
  split
  · rename_i q
    have e : PySem.W.subIn K tb (.ref C) = some false := by
      rcases Bool.or_eq_true_iff.mp hn with e | e
      · rw [beq_iff_eq.mp e] at q; simp at q
      · exact beq_iff_eq.mp e
    refine wpAny_bind ((PySem.W.looks_subIn X e).here ?_)
    simp only [Bool.false_eq_true, if_false]
    refine wpAny_bind (wpAny_mono one (fun r s' z => ?_) fun _ _ e => e)
    obtain ⟨v, rfl, hq⟩ := z
    exact wpAny_pure hq
  · refine wpAny_bind (wpAny_pure ?_)
    simp only [Bool.false_eq_true, if_false]
    refine wpAny_bind (wpAny_mono one (fun r s' z => ?_) fun _ _ e => e)
    obtain ⟨v, rfl, hq⟩ := z
    exact wpAny_pure hq
end

/-! ### own specials -/
structure Spc (K : PySem.W.Frag) (C f : Addr) (name : Str) : Prop where
  at_ : PySem.W.findIn K (.ref C) name = some (some (.ref f))
  fn : PySem.W.isFn K (.ref f) = true
def callV (cf : CF) (f : Nat) (args : List PV) (S : Store) : R (Bool × PV) := (cutX S.length (cf f args S.length S)).bind fun v S2 => norm S.length v S2
def ownOf (tb : List (Nat × Nat)) (S : Store) (v : PV) : Option Nat := match deref S v with
  | some (.ins c _ _) => tb.lookup c
  | _ => none
def lenI (z : Bool × PV) (S : Store) : R (Bool × PV) := match z.2 with
  | .int n => if decide (0 ≤ n) && decide (n < 4611686018427387904) then .ok (false, .int n) S else .no
  | _ => .no
def eLen (cf : CF) (tb : List (Nat × Nat)) (a : SE) : SE := fun env S => (a env S).bind fun p S1 => match ownOf tb S1 p.2 with
  | some f => (callV cf f [p.2] S1).bind lenI
  | none => ofO (bLen [p.2] S1) S1
/-! a == b, a != b, an own == -/
def notI (z : Bool × PV) (S : Store) : R (Bool × PV) := match z.2 with
  | .bl b => .ok (false, .bl (!b)) S
  | _ => .no
def okTy (tys : List TyN) (S : Store) (v : PV) : Bool := match tyN S v with
  | some t => tys.contains t
  | none => false
def eEq (cf : CF) (tb : List (Nat × Nat)) (tys : List TyN) (a b : SE) : SE := fun env S => (a env S).bind fun p S1 => (b env S1).bind fun q S2 => match ownOf tb S2 p.2 with
  | some f => if okTy tys S2 q.2 then callV cf f [p.2, q.2] S2 else .no
  | none => ofO (oEq p.2 q.2 S2) S2
def eNe (cf : CF) (tb : List (Nat × Nat)) (tys : List TyN) (a b : SE) : SE := fun env S => (a env S).bind fun p S1 => (b env S1).bind fun q S2 => match ownOf tb S2 p.2 with
  | some f => if okTy tys S2 q.2 then (callV cf f [p.2, q.2] S2).bind notI else .no
  | none => ofO (oNe p.2 q.2 S2) S2

section
variable {X : Cx} {k : Nat}
def rLenOwn (X : Cx) (k : Nat) : List V → Hp → VK → Prop := fun xs H Q => ∃ a C dx fs g sp, xs = [V.ref a] ∧ H a = some (.ins C dx fs) ∧ Spc X.K C g "__len__" ∧ FnR X.prog X.w X.K X.mg X.base L2.CX0 k g sp ∧
  sp [.ref a] H (fun v H' => ∃ n : Int, v = .int n ∧ 0 ≤ n ∧ n < 2 ^ 63 ∧ Q (.int n) H') E0
theorem inst_at {pins : List (Addr × Obj)} {σ : L2.St} {H : Hp} {s : Shared} {a C dx : Addr} {fs : List (Str × V)} (I : Inv X pins σ H s) (ea : H a = some (.ins C dx fs)) : ∃ od, PySem.W.InstAt s.heap a (PySem.W.instObj C dx) C (some od) := by
  obtain ⟨mA, O, _⟩ := ins_get I.hok ea
  obtain ⟨od, J, _⟩ := O.look
  exact ⟨od, J⟩
theorem cr_lenOwn (hr : Room (k + 1) X.A) : CallR X (.builtin "len") (rLenOwn X k) := by
  intro pins s σ H xs us Q I r h
  obtain ⟨a, C, dx, fs, g, sp, rfl, ea, hs, F, q⟩ := h
  rw [Vals.ref1 r]
  obtain ⟨od, J⟩ := inst_at I ea
  obtain ⟨m, hF⟩ := I.fr
  refine PySem.W.len_K hF I.ok.mod.kin J hs.at_ hs.fn (wpAny_mono (wpAny_call (SlX.run_at (us := [.ref a]) (ws := [.ref a]) F hr.in1 I.env0.in1 pass0 I (.cons rfl .nil) q)) (fun w s' z => ?_) fun _ _ x => x)
  obtain ⟨z', H', I', rz, n, ez, h1, h2, qz⟩ := z
  subst ez
  obtain ⟨t, e⟩ := (show ∃ t, w = Value.int n t from rz)
  cases e
  exact ⟨⟨h1, h2⟩, .int n, H', I'.tok _, ⟨_, rfl⟩, qz⟩
def rEqOwn (X : Cx) (k : Nat) : R2 := fun x y H Q => ∃ a C dx fs g sp t, x = .ref a ∧ H a = some (.ins C dx fs) ∧ TyX X.K H y t ∧ PySem.W.notFirst X.K C t = true ∧ Spc X.K C g "__eq__" ∧ FnR X.prog X.w X.K X.mg X.base L2.CX0 k g sp ∧ sp [x, y] H Q E0
theorem op_eqOwn (hr : Room (k + 1) X.A) : OpR X (compareOp .Eq) (rEqOwn X k) := by
  intro pins s σ H x y v u Q I rx ry h
  obtain ⟨a, C, dx, fs, g, sp, t, rfl, ea, ty, hn, hs, F, q⟩ := h
  cases (show v = Value.ref a from rx)
  obtain ⟨od, J⟩ := inst_at I ea
  obtain ⟨m, hF⟩ := I.fr
  obtain ⟨P, Z, p, _⟩ := kit_of I ry ty
  show wpAny (model X.prog X.w) X.A (richCompare .Eq (.ref a) u) (EP X pins σ Q) X.xe s
  refine PySem.W.cmp_K (op := .Eq) (tb := t) hr.units0 hF I.ok.mod.kin J (Z.ty _ _ I.kIn p) hn hs.at_ hs.fn ?_
  refine wpAny_mono (wpAny_call (run_fnR (us := [.ref a, u]) (vs := [.ref a, y]) F (hr.mono (Nat.le_succ k)) pass0 I (.cons rfl (.cons ry .nil)) q)) (fun w s' z => ?_) fun _ _ x => x
  obtain ⟨z', H', I', rz, qz⟩ := z
  exact SlX.cmpback rz ⟨z', H', I', rz, qz⟩
def rNeOwn (X : Cx) (k : Nat) : R2 := fun x y H Q => ∃ a C dx fs g sp t, x = .ref a ∧ H a = some (.ins C dx fs) ∧ TyX X.K H y t ∧ PySem.W.notFirst X.K C t = true ∧ Spc X.K C g "__eq__" ∧
  PySem.W.findIn X.K (.ref C) "__ne__" = some (some (.builtin "object.__ne__")) ∧ PySem.W.mroIn X.K C (.type "object") = some true ∧ FnR X.prog X.w X.K X.mg X.base L2.CX0 k g sp ∧ sp [x, y] H (fun v H' => ∃ b, v = .bl b ∧ Q (.bl (!b)) H') E0
theorem op_neOwn (hr : Room (k + 1) X.A) : OpR X (compareOp .NotEq) (rNeOwn X k) := by
  intro pins s σ H x y v u Q I rx ry h
  obtain ⟨a, C, dx, fs, g, sp, t, rfl, ea, ty, hn, hs, hne, hm, F, q⟩ := h
  cases (show v = Value.ref a from rx)
  obtain ⟨od, J⟩ := inst_at I ea
  obtain ⟨P, Z, p, _⟩ := kit_of I ry ty
  show wpAny (model X.prog X.w) X.A (richCompare .NotEq (.ref a) u) (EP X pins σ Q) X.xe s
  refine ne_K (tb := t) (by have := hr.units; omega) I.kIn J (Z.ty _ _ I.kIn p) hn hne hm hs.at_ hs.fn ?_
  refine wpAny_mono (wpAny_call (SlX.run_at (us := [.ref a, u]) (ws := [.ref a, y]) F hr.in1 I.env0.in1 pass0 I (.cons rfl (.cons ry .nil)) q)) (fun w s' z => ?_) fun _ _ x => x
  obtain ⟨z', H', I', rz, b, ez, qz⟩ := z
  subst ez
  cases (show w = Value.bool b from rz)
  exact ⟨b, rfl, .bl (!b), H', I', rfl, qz⟩
end
section
variable {X : Cx} {G : Gam} {n0 : Nat} {cf : CF} {k : Nat}
theorem poB {g : Gh} {F0 : Hp} {r0 : List Addr} {env : Env} {σ : L2.St} {m : R (Bool × PV)} {kk : Bool × PV → Store → R (Bool × PV)} {Q Q' : VK} (h : PoE G n0 g F0 r0 env σ (m.bind kk) Q)
    (step : ∀ p S' F' r' H' u, Ext F0 F' r0 r' → Sg G n0 g F' r' env σ S' H' → RF G g F' r' H' p.1 p.2 u → PoE G n0 g F0 r0 env σ (kk p S') Q → Q' u H') : PoE G n0 g F0 r0 env σ m Q' := by
  cases m with
  | ok p S' => exact fun F' r' H' u x s q => step p S' F' r' H' u x s q h
  | ex => exact h
  | no => exact h
theorem se_of {ex : Expr} {t : TE} {f : SE} (hp : PE X ex t) (h : ∀ σ H Q, rdE G n0 f σ H Q → t σ H Q) : PE X ex (rdE G n0 f) := peI hp h
theorem st_of {ex : Expr} {t : TE} {f : SE} (hp : PT X ex (tTest t)) (h : ∀ σ H Q, rdE G n0 f σ H Q → t σ H Q) : PT X ex (rdT G n0 (tBl f)) := by
  refine ptI hp fun σ H Q ⟨F, r, env, S, g, s, p⟩ => h σ H _ ⟨F, r, env, S, g, s, ?_⟩
  have p : PoT G n0 g F r env σ ((f env S).bind fun p S1 => match p.2 with
    | .bl b => .ok b S1
    | _ => .no) Q := p
  cases e : f env S with
  | no => rw [e] at p; exact p
  | ex => rw [e] at p; exact p
  | ok q S' =>
    rw [e] at p
    obtain ⟨b, v⟩ := q
    cases v with
    | bl k =>
      intro F' r' H' u x s' rf
      exact ⟨k, bl_of rf, p F' r' H' x s'⟩
    | _ => exact p.elim
/-! len -/
theorem se_len {tb : List (Nat × Nat)} {e : Expr} {fe : SE} {p pos : Pos} (T : Tb X G cf k) (hg : Gl X "len") (hm : X.mg "len" = none) (hc : ∀ p ∈ tb, Spc G.K (G.ca p.1) (G.fa p.2) "__len__") (he : PE X e (rdE G n0 fe))
    (hb : bootBuiltins "len" = some (.builtin "len") := by rfl) (hs : starEach [e] X.env = (false, eval e X.env) :: starEach [] X.env := by rfl) (hpl : (backTo pos (starEach [] X.env)).any (·.1) = false := by rfl) :
    PE X (.Call (.Name "len" p) [e] [] pos) (rdE G n0 (eLen cf tb fe)) := by
  have cr : CallR X (.builtin "len") (fun xs H Q => rLenOwn X k xs H Q ∨ ∃ x n, xs = [x] ∧ LenV X.K x H n ∧ Q (.int n) H) := by
    intro pins s σ H vs us Q I r h
    rcases h with h | h
    · exact cr_lenOwn T.room pins s σ H vs us Q I r h
    · exact call_len pins s σ H vs us Q I r h
  refine peI (pe_callB cr hg hm hb (pa_cons (toV he) pa_nil hs) (by decide) (by decide) hs hpl) fun σ H Q ⟨F, r, env, S, g, s, h⟩ => ?_
  refine stV s cnE h fun p S1 F1 r1 H1 u x1 s1 q1 h1 => ?_
  cases eo : ownOf tb S1 p.2 with
  | none =>
    simp only [eo] at h1
    refine .inr ?_
    unfold bLen at h1
    simp only at h1
    split at h1
    · rename_i ws ed
      obtain ⟨a, us, rfl, k1, k2⟩ := view_lst s1.hr q1 ed
      refine ⟨.ref a, us.length, rfl, .inl ⟨us, .inl k1, rfl⟩, ?_⟩
      rw [← RVs.length k2]
      exact h1 F1 r1 H1 _ x1 s1 rfl
    · rename_i ws ed
      obtain ⟨a, us, rfl, k1, k2⟩ := view_tup s1.hr q1 ed
      refine ⟨.ref a, us.length, rfl, .inr ⟨us, T.hK ▸ k1, rfl⟩, ?_⟩
      rw [← RVs.length k2]
      exact h1 F1 r1 H1 _ x1 s1 rfl
    · exact h1.elim
  | some f =>
    simp only [eo] at h1
    refine .inl ?_
    unfold ownOf at eo
    split at eo
    · rename_i c ns ws ed
      obtain ⟨a, dx, us, rfl, k1, k2, k3⟩ := view_ins s1.hr q1 ed
      refine ⟨a, G.ca c, dx, _, G.fa f, _, rfl, k1, T.hK ▸ hc (c, f) (look_mem eo), T.call f 1, ?_⟩
      refine run_call (np := 1) s1 x1 (show RVs G F1 r1 [p.2] _ from ⟨_, [], rfl, q1, rfl⟩) rfl (poB h1 fun z S2 F2 r2 H2 w x2 s2 q2 h2 => ?_)
      obtain ⟨b, v⟩ := z
      cases v with
      | int n =>
        unfold lenI at h2
        simp only at h2
        split at h2
        · rename_i hn
          rw [Bool.and_eq_true, decide_eq_true_eq, decide_eq_true_eq] at hn
          have ew : w = .int n := by
            cases b with
            | false => exact q2
            | true =>
              obtain ⟨_, _, _, _, _, _, _, ro, _⟩ := q2
              exact ro.elim
          exact ⟨n, ew, hn.1, by omega, h2 F2 r2 H2 _ x2 s2 rfl⟩
        · exact h2.elim
      | _ => exact h2.elim
    · cases eo
/-! == and != -/
structure EqT (G : Gam) (tb : List (Nat × Nat)) (tys : List TyN) : Prop where
  spc : ∀ p ∈ tb, Spc G.K (G.ca p.1) (G.fa p.2) "__eq__"
  ne : ∀ p ∈ tb, PySem.W.findIn G.K (.ref (G.ca p.1)) "__ne__" = some (some (.builtin "object.__ne__")) ∧ PySem.W.mroIn G.K (G.ca p.1) (.type "object") = some true
  nf : ∀ p ∈ tb, ∀ t ∈ tys, PySem.W.notFirst G.K (G.ca p.1) (t.val G) = true
  cl : ∀ c, TyN.own c ∈ tys → ClsI G c
theorem own_at {tb : List (Nat × Nat)} {g : Gh} {F : Hp} {r : List Addr} {S : Store} {H : Hp} {v : PV} {u : V} {f : Nat} (h : HR G n0 g F r S H) (q : RV G F r v u) (e : ownOf tb S v = some f) : ∃ a c dx fs, u = .ref a ∧ H a = some (.ins (G.ca c) dx fs) ∧ (c, f) ∈ tb := by
  unfold ownOf at e
  split at e
  · rename_i c ns ws ed
    obtain ⟨a, dx, us, rfl, k1, k2, k3⟩ := view_ins h q ed
    exact ⟨a, c, dx, _, rfl, k1, look_mem e⟩
  · cases e
theorem okTy_at {tys : List TyN} {g : Gh} {F : Hp} {r : List Addr} {S : Store} {H : Hp} {v : PV} {u : V} (hc : ∀ c, TyN.own c ∈ tys → ClsI G c) (h : HR G n0 g F r S H) (q : RV G F r v u) (e : okTy tys S v = true) : ∃ t ∈ tys, TyX G.K H u (t.val G) := by
  unfold okTy at e
  cases et : tyN S v with
  | none => rw [et] at e; cases e
  | some t =>
    rw [et] at e
    have hm : t ∈ tys := by simpa using e
    exact ⟨t, hm, tyN_ok h q (fun c ec => hc c (ec ▸ hm)) et⟩
theorem eq_core {tb : List (Nat × Nat)} {tys : List TyN} {fa fb : SE} (T : Tb X G cf k) (E : EqT G tb tys) (σ : L2.St) (H : Hp) (Q : VK) (hh : rdE G n0 (eEq cf tb tys fa fb) σ H Q) : tOp (fun x y H Q => rEqOwn X k x y H Q ∨ rEqD G.K x y H Q) (rdV G n0 fa) (rdV G n0 fb) σ H Q := by
  obtain ⟨F, r, env, S, g, s, h⟩ := hh
  refine stV s cnE h fun p S1 F1 r1 H1 u x1 s1 q1 h1 => ?_
  refine stV s1 cnE h1 fun q S2 F2 r2 H2 v x2 s2 q2 h2 => ?_
  have q1' := q1.ext x2
  cases eo : ownOf tb S2 p.2 with
  | none =>
    simp only [eo] at h2
    exact .inr (endO (T := fun Q => rEqD G.K u v H2 Q) s2 (x1.trans x2) h2 fun z ez k => ok_eq n0 g F2 r2 S2 H2 p.2 q.2 u v z Q s2.hr q1' q2 ez k)
  | some f =>
    simp only [eo] at h2
    split at h2
    · rename_i ot
      obtain ⟨a, c, dx, fs, rfl, k1, k2⟩ := own_at s2.hr q1' eo
      obtain ⟨t, ht, ty⟩ := okTy_at E.cl s2.hr q2 ot
      refine .inl ⟨a, G.ca c, dx, fs, G.fa f, _, t.val G, rfl, k1, T.hK ▸ ty, T.hK ▸ E.nf _ k2 t ht, T.hK ▸ E.spc _ k2, T.call f 2, ?_⟩
      exact run_call (np := 2) s2 (x1.trans x2) (show RVs G F2 r2 [p.2, q.2] _ from ⟨_, _, rfl, q1', _, [], rfl, q2, rfl⟩) rfl h2
    · exact h2.elim
theorem ne_core {tb : List (Nat × Nat)} {tys : List TyN} {fa fb : SE} (T : Tb X G cf k) (E : EqT G tb tys) (σ : L2.St) (H : Hp) (Q : VK) (hh : rdE G n0 (eNe cf tb tys fa fb) σ H Q) : tOp (fun x y H Q => rNeOwn X k x y H Q ∨ rNeD G.K x y H Q) (rdV G n0 fa) (rdV G n0 fb) σ H Q := by
  obtain ⟨F, r, env, S, g, s, h⟩ := hh
  refine stV s cnE h fun p S1 F1 r1 H1 u x1 s1 q1 h1 => ?_
  refine stV s1 cnE h1 fun q S2 F2 r2 H2 v x2 s2 q2 h2 => ?_
  have q1' := q1.ext x2
  cases eo : ownOf tb S2 p.2 with
  | none =>
    simp only [eo] at h2
    exact .inr (endO (T := fun Q => rNeD G.K u v H2 Q) s2 (x1.trans x2) h2 fun z ez k => ok_ne n0 g F2 r2 S2 H2 p.2 q.2 u v z Q s2.hr q1' q2 ez k)
  | some f =>
    simp only [eo] at h2
    split at h2
    · rename_i ot
      obtain ⟨a, c, dx, fs, rfl, k1, k2⟩ := own_at s2.hr q1' eo
      obtain ⟨t, ht, ty⟩ := okTy_at E.cl s2.hr q2 ot
      refine .inl ⟨a, G.ca c, dx, fs, G.fa f, _, t.val G, rfl, k1, T.hK ▸ ty, T.hK ▸ E.nf _ k2 t ht, T.hK ▸ E.spc _ k2, T.hK ▸ (E.ne _ k2).1, T.hK ▸ (E.ne _ k2).2, T.call f 2, ?_⟩
      refine run_call (np := 2) s2 (x1.trans x2) (show RVs G F2 r2 [p.2, q.2] _ from ⟨_, _, rfl, q1', _, [], rfl, q2, rfl⟩) rfl (poB h2 fun z S3 F3 r3 H3 w x3 s3 q3 h3 => ?_)
      obtain ⟨b, v⟩ := z
      cases v with
      | bl b' => exact ⟨b', bl_of q3, h3 F3 r3 H3 _ x3 s3 rfl⟩
      | _ => exact h3.elim
    · exact h2.elim
variable {tb : List (Nat × Nat)} {tys : List TyN} {fa fb : SE} {a b : Expr} {pos : Pos}
theorem op_eqAll (T : Tb X G cf k) : OpR X (compareOp .Eq) (fun x y H Q => rEqOwn X k x y H Q ∨ rEqD G.K x y H Q) := (op_eqOwn T.room).or (T.hK ▸ op_eqD T.room.units)
theorem op_neAll (T : Tb X G cf k) : OpR X (compareOp .NotEq) (fun x y H Q => rNeOwn X k x y H Q ∨ rNeD G.K x y H Q) := (op_neOwn T.room).or (T.hK ▸ op_neD T.room.units)
theorem se_eq (T : Tb X G cf k) (E : EqT G tb tys) (ha : PE X a (rdE G n0 fa)) (hb : PE X b (rdE G n0 fb)) (hm : behindInMarks .Eq b = false) : PE X (.Compare a [.Eq] [b] pos) (rdE G n0 (eEq cf tb tys fa fb)) :=
  se_of (pe_cmpR (op_eqAll T) (toV ha) (toV hb) hm) (eq_core T E)
theorem st_eq (T : Tb X G cf k) (E : EqT G tb tys) (ha : PE X a (rdE G n0 fa)) (hb : PE X b (rdE G n0 fb)) (hm : behindInMarks .Eq b = false) : PT X (.Compare a [.Eq] [b] pos) (rdT G n0 (tBl (eEq cf tb tys fa fb))) :=
  st_of (pt_cmpR (op_eqAll T) (toV ha) (toV hb) hm) (eq_core T E)
theorem se_ne (T : Tb X G cf k) (E : EqT G tb tys) (ha : PE X a (rdE G n0 fa)) (hb : PE X b (rdE G n0 fb)) (hm : behindInMarks .NotEq b = false) : PE X (.Compare a [.NotEq] [b] pos) (rdE G n0 (eNe cf tb tys fa fb)) :=
  se_of (pe_cmpR (op_neAll T) (toV ha) (toV hb) hm) (ne_core T E)
theorem st_ne (T : Tb X G cf k) (E : EqT G tb tys) (ha : PE X a (rdE G n0 fa)) (hb : PE X b (rdE G n0 fb)) (hm : behindInMarks .NotEq b = false) : PT X (.Compare a [.NotEq] [b] pos) (rdT G n0 (tBl (eNe cf tb tys fa fb))) :=
  st_of (pt_cmpR (op_neAll T) (toV ha) (toV hb) hm) (ne_core T E)
end
end PX
set_option Elab.async false
set_option linter.all false
set_option maxRecDepth 100000
namespace PX
open PySem PySem.Spec PyProof.Rows L2
/-! ### dicts by values -/
def eqK : Key → Key → Bool
  | .inl i, .inl j => decide (i = j)
  | .inr x, .inr y => decide (x = y)
  | _, _ => false
theorem eqK_ok : ∀ a b : Key, eqK a b = decide (a = b)
  | .inl i, .inl j => by
    show decide (i = j) = _
    exact decide_eq_decide.mpr ⟨fun h => by rw [h], fun h => Sum.inl.inj h⟩
  | .inr i, .inr j => by
    show decide (i = j) = _
    exact decide_eq_decide.mpr ⟨fun h => by rw [h], fun h => Sum.inr.inj h⟩
  | .inl i, .inr j => by rw [decide_eq_false (fun z => nomatch z)]; rfl
  | .inr i, .inl j => by rw [decide_eq_false (fun z => nomatch z)]; rfl
def eqKs : List Key → List Key → Bool
  | [], [] => true
  | a :: as, b :: bs => eqK a b && eqKs as bs
  | _, _ => false
theorem eqKs_ok : ∀ a b : List Key, eqKs a b = decide (a = b)
  | [], [] => by rw [decide_eq_true rfl]; rfl
  | [], b :: bs => by rw [decide_eq_false (fun z => nomatch z)]; rfl
  | a :: as, [] => by rw [decide_eq_false (fun z => nomatch z)]; rfl
  | a :: as, b :: bs => by
    unfold eqKs
    rw [eqK_ok, eqKs_ok]
    by_cases h1 : a = b
    · by_cases h2 : as = bs
      · rw [decide_eq_true h1, decide_eq_true h2, decide_eq_true (by rw [h1, h2])]; rfl
      · rw [decide_eq_true h1, decide_eq_false h2, decide_eq_false (fun z => h2 (List.cons.inj z).2)]; rfl
    · rw [decide_eq_false h1, decide_eq_false (fun z => h1 (List.cons.inj z).1)]; rfl
section
variable {κ : Type}
def lookB (eq : κ → κ → Bool) : List κ → List PV → κ → Option PV
  | k :: ks, v :: vs, q => bif eq k q then some v else lookB eq ks vs q
  | _, _, _ => none
def anyB (eq : κ → κ → Bool) : List κ → κ → Bool
  | k :: ks, q => bif eq k q then true else anyB eq ks q
  | _, _ => false
def replB (eq : κ → κ → Bool) : List κ → List PV → κ → PV → List PV
  | k :: ks, v :: vs, q, w => (bif eq k q then w else v) :: replB eq ks vs q w
  | _, _, _, _ => []
def putB (eq : κ → κ → Bool) (ks : List κ) (vs : List PV) (q : κ) (w : PV) : List κ × List PV := bif anyB eq ks q then (ks, replB eq ks vs q w) else (ks ++ [q], vs ++ [w])
end
def keysOf : List PV → Option (List Key)
  | [] => some []
  | .int i :: r => (keysOf r).map (.inl i :: ·)
  | .str i :: r => (keysOf r).map (.inr i :: ·)
  | _ :: _ => none
def keyOf : PV → Option DK
  | .int i => some (.k (.inl i))
  | .str x => some (.k (.inr x))
  | .tup xs => (keysOf xs).map .t
  | _ => none
/-! none: a key of another kind -/
def dGet (ks : DKs) (vs : List PV) (q : DK) : Option (Option PV) := match ks, q with
  | .k l, .k q => some (lookB eqK l vs q)
  | .t l, .t q => some (lookB eqKs l vs q)
  | _, _ => none
def dPut (ks : DKs) (vs : List PV) (q : DK) (w : PV) : Option (DKs × List PV) := match ks, q with
  | .k l, .k q => let z := putB eqK l vs q w; some (.k z.1, z.2)
  | .t l, .t q => let z := putB eqKs l vs q w; some (.t z.1, z.2)
  | _, _ => none
def OptR (G : Gam) (F : Hp) (r : List Addr) (o : Option PV) (o' : Option V) : Prop := match o with
  | some w => ∃ y, o' = some y ∧ RV G F r w y
  | none => o' = none
section
variable {G : Gam} {F : Hp} {r : List Addr} {κ : Type} [DecidableEq κ] {eq : κ → κ → Bool}
theorem lookB_ok (he : ∀ a b, eq a b = decide (a = b)) (q : κ) : ∀ {ks : List κ} {us : List V} {vs : List PV}, ks.length = us.length → RVs G F r vs us → OptR G F r (lookB eq ks vs q) (valV (ks.zip us) q)
  | [], us, vs, _, _ => by
    cases vs <;> exact valV_nil
  | k :: ks, [], vs, h, _ => by cases h
  | k :: ks, u :: us, [], _, k' => by cases (show (u :: us) = [] from k')
  | k :: ks, u :: us, v :: vs, h, k' => by
    obtain ⟨u', ur, e, k1, k2⟩ := k'
    cases e
    unfold lookB
    rw [he]
    by_cases hq : k = q
    · rw [decide_eq_true hq]
      exact ⟨u, by rw [List.zip_cons_cons, valV_pos hq], k1⟩
    · rw [decide_eq_false hq]
      have ih := lookB_ok he q (by simpa using h) k2
      rw [List.zip_cons_cons, valV_neg hq]
      exact ih
theorem anyB_ok (he : ∀ a b, eq a b = decide (a = b)) (q : κ) : ∀ {ks : List κ} {us : List V}, ks.length = us.length → anyB eq ks q = (ks.zip us).any fun kv => decide (kv.1 = q)
  | [], us, _ => rfl
  | k :: ks, [], h => by cases h
  | k :: ks, u :: us, h => by
    unfold anyB
    rw [he, List.zip_cons_cons, List.any_cons, anyB_ok he q (us := us) (by simpa using h)]
    cases decide (k = q) <;> rfl
theorem replB_ok (he : ∀ a b, eq a b = decide (a = b)) {q : κ} {w : PV} {y : V} (hw : RV G F r w y) : ∀ {ks : List κ} {us : List V} {vs : List PV}, ks.length = us.length → RVs G F r vs us →
    ∃ us', (ks.zip us).map (fun kv => if kv.1 = q then (kv.1, y) else kv) = ks.zip us' ∧ ks.length = us'.length ∧ RVs G F r (replB eq ks vs q w) us'
  | [], us, vs, _, _ => ⟨[], rfl, rfl, by cases vs <;> exact rfl⟩
  | k :: ks, [], vs, h, _ => by cases h
  | k :: ks, u :: us, [], _, k' => by cases (show (u :: us) = [] from k')
  | k :: ks, u :: us, v :: vs, h, k' => by
    obtain ⟨u', ur, e, k1, k2⟩ := k'
    cases e
    obtain ⟨us', e1, e2, e3⟩ := replB_ok he hw (by simpa using h) k2
    unfold replB
    rw [List.zip_cons_cons, List.map_cons, e1, he]
    by_cases hq : k = q
    · rw [decide_eq_true hq, if_pos hq]
      exact ⟨y :: us', rfl, by simpa using e2, y, us', rfl, hw, e3⟩
    · rw [decide_eq_false hq, if_neg hq]
      exact ⟨u :: us', rfl, by simpa using e2, u, us', rfl, k1, e3⟩
theorem putB_ok (he : ∀ a b, eq a b = decide (a = b)) {q : κ} {w : PV} {y : V} (hw : RV G F r w y) {ks : List κ} {us : List V} {vs : List PV} (hl : ks.length = us.length) (k : RVs G F r vs us) :
    ∃ us', putK (ks.zip us) q y = (putB eq ks vs q w).1.zip us' ∧ (putB eq ks vs q w).1.length = us'.length ∧ RVs G F r (putB eq ks vs q w).2 us' := by
  unfold putB putK
  rw [anyB_ok he q hl]
  cases hb : (ks.zip us).any fun kv => decide (kv.1 = q) with
  | true =>
    rw [if_pos rfl]
    exact replB_ok he hw hl k
  | false =>
    rw [if_neg Bool.false_ne_true]
    refine ⟨us ++ [y], ?_, ?_, k.append ⟨y, [], rfl, hw, rfl⟩⟩
    · show ks.zip us ++ [(q, y)] = (ks ++ [q]).zip (us ++ [y])
      rw [List.zip_append hl]
      rfl
    · show (ks ++ [q]).length = (us ++ [y]).length
      rw [List.length_append, List.length_append, hl]
      rfl
end
section
variable {G : Gam} {n0 : Nat} {g : Gh} {F : Hp} {r : List Addr} {S : Store} {H : Hp}
theorem keysOf_ok : ∀ {xs : List PV} {us : List V} {ks : List Key}, RVs G F r xs us → keysOf xs = some ks → us = ks.map kV
  | [], us, ks, q, e => by cases e; exact q
  | v :: vs, us, ks, q, e => by
    obtain ⟨u, ur, rfl, k, l⟩ := q
    cases v <;> try cases e
    · rename_i i
      have e : (keysOf vs).map (.inl i :: ·) = some ks := e
      cases e1 : keysOf vs with
      | none => rw [e1] at e; cases e
      | some ks' =>
        rw [e1] at e
        cases e
        rw [keysOf_ok l e1, show u = V.int i from k]
        rfl
    · rename_i i
      have e : (keysOf vs).map (.inr i :: ·) = some ks := e
      cases e1 : keysOf vs with
      | none => rw [e1] at e; cases e
      | some ks' =>
        rw [e1] at e
        cases e
        rw [keysOf_ok l e1, show u = V.str i from k]
        rfl
theorem keyOf_k {v : PV} {u : V} {k : Key} (q : RV G F r v u) (e : keyOf v = some (.k k)) : u = kV k := by
  cases v <;> try cases e
  · exact q
  · exact q
  · rename_i xs
    have e : (keysOf xs).map .t = some (DK.k k) := e
    cases e1 : keysOf xs with
    | none => rw [e1] at e; cases e
    | some => rw [e1] at e; cases e
theorem keyOf_t {v : PV} {u : V} {k : List Key} (q : RV G F r v u) (e : keyOf v = some (.t k)) : ∃ b, u = .ref b ∧ F b = some (.tup (k.map kV)) := by
  cases v <;> try cases e
  rename_i xs
  have e : (keysOf xs).map .t = some (DK.t k) := e
  cases e1 : keysOf xs with
  | none => rw [e1] at e; cases e
  | some ks =>
    rw [e1] at e
    cases e
    obtain ⟨a, us, rfl, k1, k2⟩ := q
    rw [keysOf_ok k2 e1] at k1
    exact ⟨a, rfl, k1⟩
theorem dGet_ok (h : HR G n0 g F r S H) {v w : PV} {u y : V} {ks : DKs} {vs : List PV} {q : DK} {o : Option PV} (qd : RV G F r v u) (ed : deref S v = some (.dct ks vs)) (qk : RV G F r w y) (ek : keyOf w = some q) (e : dGet ks vs q = some o) :
    ∃ a o', u = .ref a ∧ DGet H a y o' ∧ OptR G F r o o' := by
  obtain ⟨a, ho, us, rfl, k1, k2, k3⟩ := view_dct h qd ed
  cases ks with
  | k l =>
    obtain ⟨rfl, hl⟩ := k2
    cases q with
    | t q => cases e
    | k q =>
      have e : some (lookB eqK l vs q) = some o := e
      have e := Option.some.inj e
      refine ⟨a, valV (l.zip us) q, rfl, .inl ⟨_, q, .inl k1, keyOf_k qk ek, rfl⟩, ?_⟩
      have := lookB_ok eqK_ok q hl k3
      rw [e] at this
      exact this
  | t l =>
    obtain ⟨rfl, hl⟩ := k2
    cases q with
    | k q => cases e
    | t q =>
      have e : some (lookB eqKs l vs q) = some o := e
      have e := Option.some.inj e
      obtain ⟨b, rfl, eb⟩ := keyOf_t qk ek
      refine ⟨a, valV (l.zip us) q, rfl, .inr ⟨_, q, b, .inl k1, rfl, h.sub _ _ eb, rfl⟩, ?_⟩
      have := lookB_ok eqKs_ok q hl k3
      rw [e] at this
      exact this
end
end PX
set_option Elab.async false
set_option linter.all false
set_option maxRecDepth 100000
set_option maxHeartbeats 2000000
/-! zip and enumerate over any mix of lists and tuples -/
namespace ZG
open PySem RZ
/-! a sequence's iterator, a sequence: true for a tuple -/
def SqIt (b : Bool) (h : Heap) (it l : Addr) (i : Nat) : Prop := match b with
  | true => h.IsTupleIter it l i
  | false => h.IsListIter it l i
def SqOb (b : Bool) (h : Heap) (l : Addr) (items : Array Value) : Prop := match b with
  | true => h.IsTuple l items
  | false => h.IsList l items
section
variable {b : Bool} {h h' : Heap} {it l : Addr} {i : Nat} {items : Array Value}
theorem SqIt.at_ (q : SqIt b h it l i) (k : ∀ o, h.get? it = some o → h'.get? it = some o) : SqIt b h' it l i := by
  cases b with
  | true => exact Heap.IsTupleIter.at q k
  | false => exact Heap.IsListIter.at q k
theorem SqIt.obj (q : SqIt b h it l i) : ∃ o vs, h.get? it = some o ∧ o.data = .fields vs := by
  cases b with
  | true =>
    obtain ⟨o, e, _, d⟩ := q
    exact ⟨o, _, e, d⟩
  | false =>
    obtain ⟨o, e, _, d⟩ := q
    exact ⟨o, _, e, d⟩
theorem SqIt.lt (q : SqIt b h it l i) : it < h.objs.size := by
  obtain ⟨o, _, e, _⟩ := q.obj
  exact Heap.lt_size e
theorem SqIt.extBut {z : Addr} (q : SqIt b h it l i) (k : Heap.ExtBut z h h') (hz : it ≠ z) : SqIt b h' it l i := q.at_ fun o e => k _ _ hz e
theorem SqOb.extBut {z : Addr} (q : SqOb b h l items) (k : Heap.ExtBut z h h') (hz : l ≠ z) : SqOb b h' l items := by
  cases b with
  | true =>
    obtain ⟨o, e, r⟩ := (show h.IsTuple l items from q)
    exact (show h'.IsTuple l items from ⟨o, k _ _ hz e, r⟩)
  | false =>
    obtain ⟨o, e, r⟩ := (show h.IsList l items from q)
    exact (show h'.IsList l items from ⟨o, k _ _ hz e, r⟩)
theorem SqOb.push (q : SqOb b h l items) (o : Obj) : SqOb b (h.push o) l items := by
  cases b with
  | true =>
    obtain ⟨o', e, r⟩ := (show h.IsTuple l items from q)
    exact (show (h.push o).IsTuple l items from ⟨o', Heap.get?_push_of_some _ e, r⟩)
  | false =>
    obtain ⟨o', e, r⟩ := (show h.IsList l items from q)
    exact (show (h.push o).IsList l items from ⟨o', Heap.get?_push_of_some _ e, r⟩)
end
section
variable {prog : Program} {w : World} {A : Around} {E : Value → Shared → Prop} {s : Shared}
theorem nextOf_item {b : Bool} {it l : Addr} {i : Nat} {items : Array Value} {x : Value} {Q : Value → Shared → Prop} (hit : SqIt b s.heap it l i)
    (hl : SqOb b s.heap l items) (hx : items[i]? = some x)
    (hQ : ∀ h', SqIt b h' it l (i + 1) → Heap.SameBut it s.heap h' → Q x { s with heap := h' }) :
    wpAny (model prog w) A (Builtin.SmallTypes.nextOf (.ref it)) Q E s := by
  cases b with
  | true => exact nextOf_tuple_item hit hl hx hQ
  | false => exact wpAny_nextOf_list_item hit hl hx hQ
theorem nextOf_end {b : Bool} {it l : Addr} {i : Nat} {items : Array Value} {Q : Value → Shared → Prop} (hh : A.handled = none)
    (hit : SqIt b s.heap it l i) (hl : SqOb b s.heap l items) (hx : items[i]? = none)
    (hE : ∀ h' e, Heap.ExtBut it s.heap h' → (∃ o, h'.get? e = some o ∧ o.cls = .type "StopIteration") → E (.ref e) { s with heap := h' }) :
    wpAny (model prog w) A (Builtin.SmallTypes.nextOf (.ref it)) Q E s := by
  cases b with
  | true => exact nextOf_tuple_end hh hit hl hx hE
  | false => exact wpAny_nextOf_list_end hh hit hl hx hE
theorem zipG_next_item {b1 b2 : Bool} {z TI TO i1 i2 l1 l2 : Addr} {k1 k2 : Nat} {xs ys : Array Value} {x y a b : Value} {Q : Value → Shared → Prop} (D : ZipApart z TI TO i1 i2 l1 l2)
    (hz : IsZip s.heap z TI TO .none) (hTI : IsPair s.heap TI (.ref i1) (.ref i2)) (hTO : IsPair s.heap TO a b)
    (h1 : SqIt b1 s.heap i1 l1 k1) (h2 : SqIt b2 s.heap i2 l2 k2) (hl1 : SqOb b1 s.heap l1 xs) (hl2 : SqOb b2 s.heap l2 ys) (hx : xs[k1]? = some x) (hy : ys[k2]? = some y)
    (hQ : ∀ h', IsZip h' z TI TO (rawInt s.heap.objs.size) → IsPair h' TO x y → SqIt b1 h' i1 l1 (k1 + 1) → SqIt b2 h' i2 l2 (k2 + 1) → IsPair h' s.heap.objs.size x y → h'.objs.size = s.heap.objs.size + 1 →
      (∀ c o, c ≠ z → c ≠ TO → c ≠ i1 → c ≠ i2 → s.heap.get? c = some o → h'.get? c = some o) → Q (.ref s.heap.objs.size) { s with heap := h' }) :
    wpAny (model prog w) A (Builtin.«zip.__next__» ⟨[.ref z], []⟩) (fun fin s' => ∃ v, fin = .done (.ret v) ∧ Q v s') E s := by
  show wpAny _ _ (field (.ref z) 2 >>= _) _ _ _
  refine wpAny_bind (wpAny_field hz rfl (x := .bool false) rfl ?_)
  show wpAny _ _ (field (.ref z) 3 >>= _) _ _ _
  refine wpAny_bind (wpAny_field hz rfl (x := .ref TI) rfl ?_)
  refine wpAny_bind (wpAny_seqItems hTI rfl ?_)
  show wpAny _ _ (Builtin.SmallTypes.ownedTupleIsFree (.ref z) >>= _) _ _ _
  refine wpAny_bind ?_
  unfold Builtin.SmallTypes.ownedTupleIsFree
  refine wpAny_bind (wpAny_field hz rfl (x := .none) rfl (wpAny_pure ?_))
  simp only [if_true]
  refine wpAny_bind (wpAny_rule ?_)
  refine wpAny_bind (wpAny_field hz rfl (x := .ref TO) rfl ?_)
  refine wpAny_bind (wpAny_setField_rec hz (by simp) fun h₁ hz₁ hs₁ => ?_)
  replace hz₁ : IsZip h₁ z TI TO .ellipsis := hz₁
  refine wpAny_bind ?_
  simp only [List.zipIdx_cons, List.zipIdx_nil, List.forIn_cons, List.forIn_nil]

  refine wpAny_bind (wpAny_bind (wpAny_onRaise ?_))
  show wpAny _ _ (Builtin.SmallTypes.nextOf (.ref i1) >>= _) _ _ _
  refine wpAny_bind (nextOf_item (h1.extBut hs₁.extBut D.i1z) (hl1.extBut hs₁.extBut D.l1z) hx fun h₂ h1₂ hs₂ => wpAny_pure ?_)
  have hTO₂ : IsPair h₂ TO a b := hs₂.extBut _ _ D.TOi1 (hs₁.extBut _ _ D.TOz hTO)
  refine wpAny_bind (wpAny_seqItems hTO₂ rfl ?_)
  refine wpAny_bind (wpAny_updateSeq_pair hTO₂ fun h₃ hTO₃ hs₃ => ?_)
  replace hTO₃ : IsPair h₃ TO x b := hTO₃
  refine wpAny_bind (wpAny_letGo (wpAny_pure ?_))

  refine wpAny_bind (wpAny_bind (wpAny_onRaise ?_))
  show wpAny _ _ (Builtin.SmallTypes.nextOf (.ref i2) >>= _) _ _ _
  refine wpAny_bind (nextOf_item (((h2.extBut hs₁.extBut D.i2z).extBut hs₂.extBut D.i12.symm).extBut hs₃.extBut D.TOi2.symm)
    (((hl2.extBut hs₁.extBut D.l2z).extBut hs₂.extBut D.l2i1).extBut hs₃.extBut D.l2TO) hy fun h₄ h2₄ hs₄ => wpAny_pure ?_)
  have hTO₄ : IsPair h₄ TO x b := hs₄.extBut _ _ D.TOi2 hTO₃
  refine wpAny_bind (wpAny_seqItems hTO₄ rfl ?_)
  refine wpAny_bind (wpAny_updateSeq_pair hTO₄ fun h₅ hTO₅ hs₅ => ?_)
  replace hTO₅ : IsPair h₅ TO x y := hTO₅
  refine wpAny_bind (wpAny_letGo (wpAny_pure (wpAny_pure ?_)))

  refine wpAny_bind (wpAny_seqItems hTO₅ rfl ?_)
  refine wpAny_bind (wpAny_newTuple ?_)
  have hsz : h₅.objs.size = s.heap.objs.size := by rw [hs₅.1, hs₄.1, hs₃.1, hs₂.1, hs₁.1]
  have hz₅ : IsZip h₅ z TI TO .ellipsis := hs₅.extBut _ _ D.TOz.symm (hs₄.extBut _ _ D.i2z.symm (hs₃.extBut _ _ D.TOz.symm (hs₂.extBut _ _ D.i1z.symm hz₁)))
  have hk₅ : ∀ c o, c ≠ z → c ≠ TO → c ≠ i1 → c ≠ i2 → s.heap.get? c = some o → h₅.get? c = some o := fun c o c1 c2 c3 c4 e =>
    hs₅.extBut _ _ c2 (hs₄.extBut _ _ c4 (hs₃.extBut _ _ c2 (hs₂.extBut _ _ c3 (hs₁.extBut _ _ c1 e))))
  have h1₅ : SqIt b1 h₅ i1 l1 (k1 + 1) := ((h1₂.extBut hs₃.extBut D.TOi1.symm).extBut hs₄.extBut D.i12).extBut hs₅.extBut D.TOi1.symm
  have h2₅ : SqIt b2 h₅ i2 l2 (k2 + 1) := h2₄.extBut hs₅.extBut D.TOi2.symm
  have hzlt : z < h₅.objs.size := Heap.lt_size hz₅
  have hTOlt : TO < h₅.objs.size := Heap.lt_size hTO₅
  have hi1lt : i1 < h₅.objs.size := h1₅.lt
  have hi2lt : i2 < h₅.objs.size := h2₅.lt
  show wpAny _ _ (Builtin.SmallTypes.ownedTupleHandOut (.ref z) (.ref h₅.objs.size) >>= _) _ _ _
  refine wpAny_bind ?_
  unfold Builtin.SmallTypes.ownedTupleHandOut
  have hz₆ : IsZip (h₅.push { cls := .type "tuple", data := .seq #[x, y] }) z TI TO .ellipsis := Heap.get?_push_of_some _ hz₅
  refine wpAny_bind (wpAny_setField_rec hz₆ (by simp) fun h₇ hz₇ hs₇ => ?_)
  replace hz₇ : IsZip h₇ z TI TO (rawInt h₅.objs.size) := hz₇
  refine wpAny_setField_rec hz₇ (by simp) fun h₈ hz₈ hs₈ => ?_
  replace hz₈ : IsZip h₈ z TI TO (rawInt h₅.objs.size) := hz₈
  have up : ∀ c o, c ≠ z → h₅.get? c = some o → h₈.get? c = some o := fun c o c1 e => hs₈.extBut _ _ c1 (hs₇.extBut _ _ c1 (Heap.get?_push_of_some _ e))
  have hT₈ : IsPair h₈ h₅.objs.size x y := hs₈.extBut _ _ (Nat.ne_of_gt hzlt) (hs₇.extBut _ _ (Nat.ne_of_gt hzlt) (Heap.get?_push_size _ rfl))
  have hz8 : h₈.objs.size = h₅.objs.size + 1 := by rw [hs₈.1, hs₇.1, Heap.size_push]
  rw [hsz] at hz₈ hT₈ hz8
  refine wpAny_pure ⟨_, rfl, ?_⟩
  show Q (.ref h₅.objs.size) _
  rw [hsz]
  exact hQ h₈ hz₈ (up _ _ D.TOz hTO₅) (h1₅.at_ fun o e => up _ o D.i1z e) (h2₅.at_ fun o e => up _ o D.i2z e) hT₈ hz8 fun c o c1 c2 c3 c4 e => up c o c1 (hk₅ c o c1 c2 c3 c4 e)

theorem zipG_next_end {b1 b2 : Bool} {z TI TO i1 i2 l1 l2 : Addr} {k1 k2 : Nat} {xs ys : Array Value} {a b : Value} {Q : Fin → Shared → Prop} (hh : A.handled = none) (D : ZipApart z TI TO i1 i2 l1 l2)
    (hz : IsZip s.heap z TI TO .none) (hTI : IsPair s.heap TI (.ref i1) (.ref i2)) (hTO : IsPair s.heap TO a b)
    (h1 : SqIt b1 s.heap i1 l1 k1) (h2 : SqIt b2 s.heap i2 l2 k2) (hl1 : SqOb b1 s.heap l1 xs) (hl2 : SqOb b2 s.heap l2 ys) (hend : xs[k1]? = none ∨ ys[k2]? = none)
    (hE : ∀ h' e, (∀ c o, c ≠ z → c ≠ TO → c ≠ i1 → c ≠ i2 → s.heap.get? c = some o → h'.get? c = some o) → (∃ o, h'.get? e = some o ∧ o.cls = .type "StopIteration") → E (.ref e) { s with heap := h' }) :
    wpAny (model prog w) A (Builtin.«zip.__next__» ⟨[.ref z], []⟩) Q E s := by
  show wpAny _ _ (field (.ref z) 2 >>= _) _ _ _
  refine wpAny_bind (wpAny_field hz rfl (x := .bool false) rfl ?_)
  show wpAny _ _ (field (.ref z) 3 >>= _) _ _ _
  refine wpAny_bind (wpAny_field hz rfl (x := .ref TI) rfl ?_)
  refine wpAny_bind (wpAny_seqItems hTI rfl ?_)
  show wpAny _ _ (Builtin.SmallTypes.ownedTupleIsFree (.ref z) >>= _) _ _ _
  refine wpAny_bind ?_
  unfold Builtin.SmallTypes.ownedTupleIsFree
  refine wpAny_bind (wpAny_field hz rfl (x := .none) rfl (wpAny_pure ?_))
  simp only [if_true]
  refine wpAny_bind (wpAny_rule ?_)
  refine wpAny_bind (wpAny_field hz rfl (x := .ref TO) rfl ?_)
  refine wpAny_bind (wpAny_setField_rec hz (by simp) fun h₁ hz₁ hs₁ => ?_)
  replace hz₁ : IsZip h₁ z TI TO .ellipsis := hz₁
  refine wpAny_bind ?_
  simp only [List.zipIdx_cons, List.zipIdx_nil, List.forIn_cons, List.forIn_nil]
  refine wpAny_bind (wpAny_bind (wpAny_onRaise ?_))
  show wpAny _ _ (Builtin.SmallTypes.nextOf (.ref i1) >>= _) _ _ _
  cases hx : xs[k1]? with
  | none =>
    refine wpAny_bind (nextOf_end hh (h1.extBut hs₁.extBut D.i1z) (hl1.extBut hs₁.extBut D.l1z) hx fun h₂ e hs₂ he => ?_)
    obtain ⟨oe, hoe, hce⟩ := he
    have hz₂ : IsZip h₂ z TI TO .ellipsis := hs₂ _ _ D.i1z.symm hz₁
    have hez : e ≠ z := fun x => by subst x; rw [hz₂] at hoe; cases hoe; simp at hce
    refine wpAny_setField_rec hz₂ (by simp) fun h₃ _ hs₃ => hE h₃ e (fun c o c1 _ c3 _ x => hs₃.extBut _ _ c1 (hs₂ _ _ c3 (hs₁.extBut _ _ c1 x))) ⟨oe, hs₃.extBut _ _ hez hoe, hce⟩
  | some x =>
    have hy : ys[k2]? = none := by rcases hend with h | h; rw [hx] at h; cases h; exact h
    refine wpAny_bind (nextOf_item (h1.extBut hs₁.extBut D.i1z) (hl1.extBut hs₁.extBut D.l1z) hx fun h₂ h1₂ hs₂ => wpAny_pure ?_)
    have hTO₂ : IsPair h₂ TO a b := hs₂.extBut _ _ D.TOi1 (hs₁.extBut _ _ D.TOz hTO)
    refine wpAny_bind (wpAny_seqItems hTO₂ rfl ?_)
    refine wpAny_bind (wpAny_updateSeq_pair hTO₂ fun h₃ hTO₃ hs₃ => ?_)
    refine wpAny_bind (wpAny_letGo (wpAny_pure ?_))
    refine wpAny_bind (wpAny_bind (wpAny_onRaise ?_))
    show wpAny _ _ (Builtin.SmallTypes.nextOf (.ref i2) >>= _) _ _ _
    refine wpAny_bind (nextOf_end hh (((h2.extBut hs₁.extBut D.i2z).extBut hs₂.extBut D.i12.symm).extBut hs₃.extBut D.TOi2.symm)
      (((hl2.extBut hs₁.extBut D.l2z).extBut hs₂.extBut D.l2i1).extBut hs₃.extBut D.l2TO) hy fun h₄ e hs₄ he => ?_)
    obtain ⟨oe, hoe, hce⟩ := he
    have hz₄ : IsZip h₄ z TI TO .ellipsis := hs₄ _ _ D.i2z.symm (hs₃.extBut _ _ D.TOz.symm (hs₂.extBut _ _ D.i1z.symm hz₁))
    have hez : e ≠ z := fun x => by subst x; rw [hz₄] at hoe; cases hoe; simp at hce
    refine wpAny_setField_rec hz₄ (by simp) fun h₅ _ hs₅ => hE h₅ e (fun c o c1 c2 c3 c4 x => hs₅.extBut _ _ c1 (hs₄ _ _ c4 (hs₃.extBut _ _ c2 (hs₂.extBut _ _ c3 (hs₁.extBut _ _ c1 x))))) ⟨oe, hs₅.extBut _ _ hez hoe, hce⟩

theorem pyNext_zipG_item {b1 b2 : Bool} {z TI TO i1 i2 l1 l2 : Addr} {k1 k2 : Nat} {xs ys : Array Value} {x y a b : Value} {Q : Option Value → Shared → Prop} (D : ZipApart z TI TO i1 i2 l1 l2)
    (hz : IsZip s.heap z TI TO .none) (hTI : IsPair s.heap TI (.ref i1) (.ref i2)) (hTO : IsPair s.heap TO a b)
    (h1 : SqIt b1 s.heap i1 l1 k1) (h2 : SqIt b2 s.heap i2 l2 k2) (hl1 : SqOb b1 s.heap l1 xs) (hl2 : SqOb b2 s.heap l2 ys) (hx : xs[k1]? = some x) (hy : ys[k2]? = some y)
    (hQ : ∀ h', IsZip h' z TI TO (rawInt s.heap.objs.size) → IsPair h' TO x y → SqIt b1 h' i1 l1 (k1 + 1) → SqIt b2 h' i2 l2 (k2 + 1) → IsPair h' s.heap.objs.size x y → h'.objs.size = s.heap.objs.size + 1 →
      (∀ c o, c ≠ z → c ≠ TO → c ≠ i1 → c ≠ i2 → s.heap.get? c = some o → h'.get? c = some o) → Q (some (.ref s.heap.objs.size)) { s with heap := h' }) :
    wpAny (model prog w) A (pyNext (.ref z)) Q E s := by
  have hT : s.TypeIs (.ref z) "zip" := ⟨_, hz, rfl⟩
  unfold pyNext
  exact wpAny_bind (wpAny_attempt (wpAny_callSpecial?_slot (name := Str.ofString "__next__") hT F.slot_zip_next
    (wpAny_call_entry F.slot_zip_next hT F.entry_zip_next
      (zipG_next_item D hz hTI hTO h1 h2 hl1 hl2 hx hy fun h' a1 a2 a3 a4 a5 a6 a7 => wpAny_pure (hQ h' a1 a2 a3 a4 a5 a6 a7)) (F.args_zip_next_1 _))))

theorem pyNext_zipG_end {b1 b2 : Bool} {z TI TO i1 i2 l1 l2 : Addr} {k1 k2 : Nat} {xs ys : Array Value} {a b : Value} {Q : Option Value → Shared → Prop} (hh : A.handled = none) (D : ZipApart z TI TO i1 i2 l1 l2)
    (hz : IsZip s.heap z TI TO .none) (hTI : IsPair s.heap TI (.ref i1) (.ref i2)) (hTO : IsPair s.heap TO a b)
    (h1 : SqIt b1 s.heap i1 l1 k1) (h2 : SqIt b2 s.heap i2 l2 k2) (hl1 : SqOb b1 s.heap l1 xs) (hl2 : SqOb b2 s.heap l2 ys) (hend : xs[k1]? = none ∨ ys[k2]? = none)
    (hQ : ∀ h', (∀ c o, c ≠ z → c ≠ TO → c ≠ i1 → c ≠ i2 → s.heap.get? c = some o → h'.get? c = some o) → Q none { s with heap := h' }) : wpAny (model prog w) A (pyNext (.ref z)) Q E s := by
  have hT : s.TypeIs (.ref z) "zip" := ⟨_, hz, rfl⟩
  unfold pyNext
  refine wpAny_bind (wpAny_attempt (wpAny_callSpecial?_slot (name := Str.ofString "__next__") hT F.slot_zip_next
    (wpAny_call_entry F.slot_zip_next hT F.entry_zip_next (zipG_next_end hh D hz hTI hTO h1 h2 hl1 hl2 hend fun h' e hk he => ?_) (F.args_zip_next_1 _))))
  obtain ⟨o, ho, hc⟩ := he
  refine wpAny_bind (wpAny_isInstance (T := "StopIteration") (b := true) ⟨o, ho, hc⟩ isSubtype_stop ?_)
  exact wpAny_pure (hQ _ hk)
end


/-! making them -/
def itObj (b : Bool) (l : Addr) : Obj := { cls := .type (bif b then "tuple_iterator" else "list_iterator"), data := .fields #[.ref l, .int 0 0] }
theorem SqIt.new {b : Bool} {h : Heap} {it l : Addr} (e : h.get? it = some (itObj b l)) : SqIt b h it l 0 := by
  cases b with
  | true => exact ⟨_, e, rfl, rfl⟩
  | false => exact ⟨_, e, rfl, rfl⟩
theorem pyIter_sq {prog : Program} {w : World} {A : Around} {E : Value → Shared → Prop} {s : Shared} {b : Bool} {l : Addr} {items : Array Value} {Q : Value → Shared → Prop} (hl : SqOb b s.heap l items)
    (h : Q (.ref s.heap.objs.size) { s with heap := s.heap.push (itObj b l) }) : wpAny (model prog w) A (pyIter (.ref l)) Q E s := by
  cases b with
  | true => exact wpAny_pyIter_tuple hl h
  | false => exact wpAny_pyIter_list hl h
abbrev zH1 (b1 : Bool) (h : Heap) (l1 : Addr) : Heap := h.push (itObj b1 l1)
abbrev zH2 (b1 b2 : Bool) (h : Heap) (l1 l2 : Addr) : Heap := (zH1 b1 h l1).push (itObj b2 l2)
abbrev zH3 (b1 b2 : Bool) (h : Heap) (l1 l2 : Addr) : Heap := (zH2 b1 b2 h l1 l2).push { cls := .type "tuple", data := .seq #[.ref h.objs.size, .ref (zH1 b1 h l1).objs.size] }
abbrev zH4 (b1 b2 : Bool) (h : Heap) (l1 l2 : Addr) : Heap := (zH3 b1 b2 h l1 l2).push { cls := .type "tuple", data := .seq #[.none, .none] }
abbrev zH5 (b1 b2 : Bool) (h : Heap) (l1 l2 : Addr) : Heap := (zH4 b1 b2 h l1 l2).push { cls := .type "zip", data := .fields #[.none, .bool false, .bool false, .ref (zH2 b1 b2 h l1 l2).objs.size, .ref (zH3 b1 b2 h l1 l2).objs.size] }
theorem meets_zipG_new (b1 b2 : Bool) (l1 l2 : Addr) (xs ys : Array Value) :
    Meets (Builtin.«zip.__new__» ⟨[.type "zip", .ref l1, .ref l2], []⟩) (fun _ R s => SqOb b1 s.heap l1 xs ∧ SqOb b2 s.heap l2 ys ∧
      R (.ok (.ret (.ref (zH4 b1 b2 s.heap l1 l2).objs.size))) { s with heap := zH5 b1 b2 s.heap l1 l2 }) :=
  .of_wp fun prog w A R s h => by
    obtain ⟨hp, g, d, tk, os⟩ := s; obtain ⟨hl1, hl2, h⟩ := h
    have hsub := sub_zip
    have hL1 : SqOb b1 (Shared.heap ⟨hp, g, d, tk, os⟩) l1 xs := hl1
    have hL2 : SqOb b2 (Shared.heap ⟨hp.push (itObj b1 l1), g, d, tk, os⟩) l2 ys := SqOb.push hl2 _
    wp_walk using pyIter_sq hL1, pyIter_sq hL2
    exact ⟨_, rfl, h⟩
theorem call_zipG {prog : Program} {w : World} {A : Around} {E : Value → Shared → Prop} {s : Shared} {b1 b2 : Bool} {l1 l2 : Addr} {xs ys : Array Value} {Q : Value → Shared → Prop} (hl1 : SqOb b1 s.heap l1 xs) (hl2 : SqOb b2 s.heap l2 ys)
    (h : ∀ h', IsZip h' (s.heap.objs.size + 4) (s.heap.objs.size + 2) (s.heap.objs.size + 3) .none → IsPair h' (s.heap.objs.size + 2) (.ref s.heap.objs.size) (.ref (s.heap.objs.size + 1)) →
      IsPair h' (s.heap.objs.size + 3) .none .none → SqIt b1 h' s.heap.objs.size l1 0 → SqIt b2 h' (s.heap.objs.size + 1) l2 0 → h'.objs.size = s.heap.objs.size + 5 →
      (∀ c o, s.heap.get? c = some o → h'.get? c = some o) → Q (.ref (s.heap.objs.size + 4)) { s with heap := h' }) :
    wpAny (model prog w) A (call (.type "zip") [.ref l1, .ref l2]) Q E s := by
  refine callType_new F.called_zip (by decide) (F.typeCall_zip_2 _ _) (F.newCall_zip_2 _ _) (fun obj => F.args_object_init_3 obj _ _) F.entry_zip_new
    (meets_zipG_new b1 b2 l1 l2 xs ys) ⟨hl1, hl2, ?_⟩
  have fr1 : (itObj b1 l1).isFreed = false := by cases b1 <;> rfl
  have fr2 : (itObj b2 l2).isFreed = false := by cases b2 <;> rfl
  have z1 : (zH1 b1 s.heap l1).objs.size = s.heap.objs.size + 1 := Heap.size_push ..
  have z2 : (zH2 b1 b2 s.heap l1 l2).objs.size = s.heap.objs.size + 2 := by rw [Heap.size_push, z1]
  have z3 : (zH3 b1 b2 s.heap l1 l2).objs.size = s.heap.objs.size + 3 := by rw [Heap.size_push, z2]
  have z4 : (zH4 b1 b2 s.heap l1 l2).objs.size = s.heap.objs.size + 4 := by rw [Heap.size_push, z3]
  have z5 : (zH5 b1 b2 s.heap l1 l2).objs.size = s.heap.objs.size + 5 := by rw [Heap.size_push, z4]
  have g5 : (zH5 b1 b2 s.heap l1 l2).get? (zH4 b1 b2 s.heap l1 l2).objs.size = some _ := Heap.get?_push_size _ rfl
  have g4 : (zH5 b1 b2 s.heap l1 l2).get? (zH3 b1 b2 s.heap l1 l2).objs.size = some _ := Heap.get?_push_of_some _ (Heap.get?_push_size _ rfl)
  have g3 : (zH5 b1 b2 s.heap l1 l2).get? (zH2 b1 b2 s.heap l1 l2).objs.size = some _ := Heap.get?_push_of_some _ (Heap.get?_push_of_some _ (Heap.get?_push_size _ rfl))
  have g2 : (zH5 b1 b2 s.heap l1 l2).get? (zH1 b1 s.heap l1).objs.size = some (itObj b2 l2) := Heap.get?_push_of_some _ (Heap.get?_push_of_some _ (Heap.get?_push_of_some _ (Heap.get?_push_size _ fr2)))
  have g1 : (zH5 b1 b2 s.heap l1 l2).get? s.heap.objs.size = some (itObj b1 l1) := Heap.get?_push_of_some _ (Heap.get?_push_of_some _ (Heap.get?_push_of_some _ (Heap.get?_push_of_some _ (Heap.get?_push_size _ fr1))))
  show _ ∧ _
  rw [z2, z3, z4] at g5
  rw [z1, z2] at g3
  rw [z3] at g4
  rw [z1] at g2
  rw [z4]
  exact ⟨⟨_, g5, rfl⟩, h _ g5 g3 g4 (SqIt.new g1) (SqIt.new g2) z5 fun c o x =>
    Heap.get?_push_of_some _ (Heap.get?_push_of_some _ (Heap.get?_push_of_some _ (Heap.get?_push_of_some _ (Heap.get?_push_of_some _ x))))⟩

/-! enumerate -/
open AutoSeq1 (wpAny_loadPart')
abbrev sqTy (b : Bool) : String := match b with
  | true => "tuple"
  | false => "list"
theorem SqOb.get {b : Bool} {h : Heap} {l : Addr} {items : Array Value} (q : SqOb b h l items) : ∃ dct n sl, h.get? l = some { cls := .type (sqTy b), dict := dct, data := .seq items n, slots := sl } := by
  cases b with
  | true =>
    obtain ⟨⟨c, dct, dt, sl⟩, hl, hc, n, hd⟩ := (show h.IsTuple l items from q)
    replace hc : c = .type "tuple" := hc
    replace hd : dt = .seq items n := hd
    subst hc hd
    exact ⟨dct, n, sl, hl⟩
  | false =>
    obtain ⟨⟨c, dct, dt, sl⟩, hl, hc, n, hd⟩ := (show h.IsList l items from q)
    replace hc : c = .type "list" := hc
    replace hd : dt = .seq items n := hd
    subst hc hd
    exact ⟨dct, n, sl, hl⟩
theorem meets_enumG_new (b : Bool) (l : Addr) (items : Array Value) :
    Meets (Builtin.«enumerate.__new__» ⟨[.type "enumerate", .ref l], []⟩) (fun _ R s => SqOb b s.heap l items ∧
      R (.ok (.ret (.ref (s.heap.push (itObj b l)).objs.size)))
        { s with heap := (s.heap.push (itObj b l)).push { cls := .type "enumerate", data := .fields #[.none, .bool false, .ref s.heap.objs.size, rawInt 0, .none, .none] } }) :=
  .of_wp fun prog w A R s h => by
    obtain ⟨hp, g, d, tk, os⟩ := s; obtain ⟨hl0, h⟩ := h
    obtain ⟨dct, n, sl, hl⟩ := hl0.get
    have hsub := sub_enumerate
    have hL : SqOb b (Shared.heap ⟨hp, g, d, tk, os⟩) l items := hl0
    cases b with
    | true =>
      wp_walk using wpAny_loadPart' hl
      refine wpAny_stack_any fun st => wpAny_pure ?_
      split
      · rename_i c _ _ _ _ _
        cases (c == Value.type "enumerate")
        · wp_walk using wpAny_loadPart' hl, pyIter_sq hL
          exact ⟨_, rfl, h⟩
        · wp_walk using wpAny_loadPart' hl, pyIter_sq hL
          exact ⟨_, rfl, h⟩
      · wp_walk using wpAny_loadPart' hl, pyIter_sq hL
        exact ⟨_, rfl, h⟩
    | false =>
      wp_walk using wpAny_loadPart' hl
      refine wpAny_stack_any fun st => wpAny_pure ?_
      split
      · rename_i c _ _ _ _ _
        cases (c == Value.type "enumerate")
        · wp_walk using wpAny_loadPart' hl, pyIter_sq hL
          exact ⟨_, rfl, h⟩
        · wp_walk using wpAny_loadPart' hl, pyIter_sq hL
          exact ⟨_, rfl, h⟩
      · wp_walk using wpAny_loadPart' hl, pyIter_sq hL
        exact ⟨_, rfl, h⟩
section
variable {prog : Program} {w : World} {A : Around} {E : Value → Shared → Prop} {s : Shared}
theorem call_enumG {b : Bool} {l : Addr} {items : Array Value} {Q : Value → Shared → Prop} (hL : SqOb b s.heap l items)
    (h : ∀ h', IsEnum h' (s.heap.objs.size + 1) s.heap.objs.size 0 .none → SqIt b h' s.heap.objs.size l 0 → h'.objs.size = s.heap.objs.size + 2 →
      (∀ b o, s.heap.get? b = some o → h'.get? b = some o) → Q (.ref (s.heap.objs.size + 1)) { s with heap := h' }) :
    wpAny (model prog w) A (call (.type "enumerate") [.ref l]) Q E s := by
  refine callType_new F.called_enumerate (by decide) (F.typeCall_enumerate_1 _) (F.newCall_enumerate_1 _) (fun obj => F.args_object_init_2 obj _) F.entry_enumerate_new
    (meets_enumG_new b l items) ⟨hL, ?_⟩
  have fr : (itObj b l).isFreed = false := by cases b <;> rfl
  have hz : (s.heap.push (itObj b l)).objs.size = s.heap.objs.size + 1 := Heap.size_push ..
  show _ ∧ _
  rw [hz]
  have he : IsEnum ((s.heap.push (itObj b l)).push
      { cls := .type "enumerate", data := .fields #[.none, .bool false, .ref s.heap.objs.size, rawInt 0, .none, .none] }) (s.heap.objs.size + 1) s.heap.objs.size 0 .none := by
    have := Heap.get?_push_size (s.heap.push (itObj b l))
      (o := { cls := .type "enumerate", data := .fields #[.none, .bool false, .ref s.heap.objs.size, rawInt 0, .none, .none] }) rfl
    rw [hz] at this; exact this
  exact ⟨⟨_, he, rfl⟩, h _ he (SqIt.new (Heap.get?_push_of_some _ (Heap.get?_push_size _ fr))) (by rw [Heap.size_push, hz]) fun b o x => Heap.get?_push_of_some _ (Heap.get?_push_of_some _ x)⟩
theorem drawsG (hh : A.handled = none) (b : Bool) (it l : Addr) (hne : l ≠ it) (items : Array Value) :
    Draws prog w A it [it, l] items.size (fun i v => items[i]? = some v) (fun i h => SqIt b h it l i ∧ SqOb b h l items) where
  live := fun _ _ st => by
    obtain ⟨o, _, e, _⟩ := st.1.obj
    exact ⟨o, e⟩
  frame := fun _ _ _ st hk => ⟨st.1.at_ fun o e => hk it (by simp) o e, by
    have q := st.2
    cases b with
    | true => exact Heap.IsTuple.at q fun o e => hk l (by simp) o e
    | false => exact Heap.IsList.at q fun o e => hk l (by simp) o e⟩
  item := fun i s Q E hi st hQ => by
    refine nextOf_item st.1 st.2 (x := items[i]) (by simp [hi]) fun h' hit' hs' => ?_
    exact hQ _ h' s.toks (by simp [hi]) ⟨hit', st.2.extBut hs'.extBut hne⟩ hs'
  done := fun s Q E st hE => nextOf_end hh st.1 st.2 (by simp) hE
theorem wpAny_pyNext_enum_endG {b : Bool} {e it l : Addr} {i : Nat} {items : Array Value} {old : Value} {Q : Option Value → Shared → Prop} (hh : A.handled = none)
    (he : IsEnum s.heap e it i old) (hit : SqIt b s.heap it l i) (hl : SqOb b s.heap l items) (hx : items[i]? = none)
    (hQ : ∀ h', Heap.ExtBut it s.heap h' → Q none { s with heap := h' }) : wpAny (model prog w) A (pyNext (.ref e)) Q E s := by
  have hT : s.TypeIs (.ref e) "enumerate" := ⟨_, he, rfl⟩
  unfold pyNext
  refine wpAny_bind (wpAny_attempt (wpAny_callSpecial?_slot (name := Str.ofString "__next__") hT F.slot_enumerate_next
    (wpAny_call_entry F.slot_enumerate_next hT F.entry_enumerate_next ?_ (F.args_enumerate_next_1 _))))
  show wpAny _ _ (field (.ref e) 2 >>= _) _ _ _
  refine wpAny_bind (wpAny_field he rfl (x := .ref it) rfl ?_)
  refine wpAny_bind (nextOf_end hh hit hl hx fun h' x he' hx' => ?_)
  obtain ⟨o, ho, hc⟩ := hx'
  refine wpAny_bind (wpAny_isInstance (T := "StopIteration") (b := true) ⟨o, ho, hc⟩ isSubtype_stop ?_)
  exact wpAny_pure (hQ _ he')
end
end ZG
set_option Elab.async false
set_option linter.all false
set_option maxRecDepth 100000
set_option maxHeartbeats 1000000
namespace PX
open PySem PySem.Spec PyProof.Rows L2 ZG
/-! ### turns -/
def SqG (b : Bool) (K : PySem.W.Frag) (H : Hp) (a : Addr) (xs : List V) : Prop := match b with
  | true => SqT K H a xs
  | false => SqL K H a xs
theorem Inv.sqG {X : Cx} {pins : List (Addr × Obj)} {σ : L2.St} {H : Hp} {s : Shared} {b : Bool} {a : Addr} {xs : List V} (I : L2.Inv X pins σ H s) (q : SqG b X.K H a xs) : ∃ its, Vals xs its ∧ SqOb b s.heap a its.toArray ∧ a < s.heap.objs.size := by
  cases b with
  | true =>
    obtain ⟨its, rv, p, _⟩ := I.tuple q
    obtain ⟨o, ho, _⟩ := id p
    exact ⟨its, rv, p, Heap.lt_size ho⟩
  | false =>
    obtain ⟨its, rv, p, _⟩ := I.list q
    exact ⟨its, rv, p.isList, p.lt⟩
theorem Inv.sqG_inj {X : Cx} {pins : List (Addr × Obj)} {σ : L2.St} {H : Hp} {s : Shared} {b : Bool} {a : Addr} {xs ys : List V} (I : L2.Inv X pins σ H s) (q : SqG b X.K H a xs) (q' : SqG b X.K H a ys) : xs = ys := by
  cases b with
  | true => exact I.tuple_inj q q'
  | false => exact I.list_inj q q'
/-! each item with its place, in a new pair -/
def Iteg (K : PySem.W.Frag) (b : Bool) (a : Addr) : It :=
  ⟨fun i H => ∃ (xs : List V) (x : V), SqG b K H a xs ∧ xs[i]? = some x, fun i H v H' => ∃ T x, v = .ref T ∧ H T = none ∧ H' = upd H T (.tup [.int (i : Nat), x]) ∧ ∀ xs, SqG b K H a xs → xs[i]? = some x, fun i H => ∃ xs : List V, SqG b K H a xs ∧ xs.length ≤ i⟩
theorem turn_enumG {P : Program} {w : World} {K : PySem.W.Frag} {elts : List Expr} {kk : Nat} {tpos : Pos} (b : Bool) (a e it : Addr) :
    Turn P w K (.Tuple elts kk tpos) (Iteg K b a) [e, it] e (fun i h => (∃ old, IsEnum h e it ((i : Nat) : Int) old) ∧ SqIt b h it a i ∧ e ≠ it ∧ a ≠ it ∧ e ≠ a) where
  mem := by simp
  obj := fun i h st c hc => by
    obtain ⟨⟨old, he⟩, hit, _⟩ := st
    have e' : c = e ∨ c = it := by simpa using hc
    rcases e' with z | z
    · rw [z]; exact ⟨_, he, fun v q => nomatch q⟩
    · rw [z]
      obtain ⟨o, vs, ho, hd⟩ := hit.obj
      exact ⟨o, ho, fun v q => by rw [hd] at q; cases q⟩
  keep := fun i h h' st k => let ⟨⟨old, he⟩, hi, hne⟩ := st; ⟨⟨old, k e (by simp) _ he⟩, hi.at_ fun o q => k it (by simp) o q, hne⟩
  item := by
    intro X hP hw hK hc i pins s σ H E I hf st hg
    subst hP hw hK
    obtain ⟨⟨old, he⟩, hit, hne, hai, hea⟩ := st
    obtain ⟨xs, x, hq, hx⟩ := hg
    obtain ⟨its, rv, p, hz⟩ := Inv.sqG I hq
    obtain ⟨u, hu, ru⟩ := rv.get hx
    have hel : e < s.heap.objs.size := Heap.lt_size he
    have hil : it < s.heap.objs.size := hit.lt
    have hlt : i < its.toArray.size := by
      have := (List.getElem?_eq_some_iff.mp hu).1
      simpa using this
    refine wpAny_pyNext_enum_itemD (drawsG (A := X.A.in1) (I.ok.hd hc) b it a hai its.toArray) he ⟨hit, p⟩ hlt hne (by simp [hne, hea]) fun u' h' tk hP ho st' hT hsz hk => ?_
    have eu : u' = u := by
      have hP : its.toArray[i]? = some u' := hP
      rw [List.getElem?_toArray, hu] at hP
      exact (Option.some.inj hP).symm
    subst eu
    refine ⟨_, rfl, wpAny_letOwnedTupleGo_enum (s := { s with heap := h', toks := tk + 1 }) ho fun h'' he' sb => ?_⟩
    have hT2 : h''.get? s.heap.objs.size = some { cls := .type "tuple", data := .seq #[.int i tk, u'] } := (sb.2 _ (Nat.ne_of_gt hel)).trans hT
    have new : ObjOk X.prog X.w (upd H s.heap.objs.size (.tup [.int (i : Nat), x])) h'' s.heap.objs.size (.tup [.int (i : Nat), x]) :=
      ⟨by show 2 ≤ sizeLine; decide, [.int i tk, u'], .cons ⟨_, rfl⟩ (.cons ru .nil), ⟨_, hT2, rfl, _, rfl⟩⟩
    have I1 : L2.Inv X pins σ (upd H s.heap.objs.size (.tup [.int (i : Nat), x])) { s with heap := h'', toks := tk + 1 } :=
      I.turnedNew (t' := tk + 1) (ch := [e, it]) (fun c o hb q => (sb.2 c (fun q' => hb (by simp [q']))).trans (hk c o (fun q' => hb (by simp [q'])) (fun q' => hb (by simp [q'])) q)) hf (Nat.le_refl _) new
    refine ⟨.ref s.heap.objs.size, _, I1, rfl, ⟨_, x, rfl, I.hok.fresh (Nat.le_refl _), rfl, fun l hl => by rw [Inv.sqG_inj I hl hq]; exact hx⟩, ⟨⟨_, he'⟩, ?_, hne, hai, hea⟩, fun c hcm => ?_⟩
    · exact st'.1.at_ fun o q => (sb.2 _ hne.symm).trans q
    · have hlt : c < s.heap.objs.size := by
        have e' : c = e ∨ c = it := by simpa using hcm
        rcases e' with z | z
        · rw [z]; exact hel
        · rw [z]; exact hil
      rw [upd_ne (Nat.ne_of_lt hlt)]
      exact (hf c hcm).1
  done := by
    intro X hP hw hK hc i pins s σ H E I hf st hg
    subst hP hw hK
    obtain ⟨⟨old, he⟩, hit, hne, hai, hea⟩ := st
    obtain ⟨xs, hq, hx⟩ := hg
    obtain ⟨its, rv, p, hz⟩ := Inv.sqG I hq
    obtain ⟨f0, f1, f2, f3, f4, f5⟩ := hf it (by simp)
    have hl := rv.length
    have hn : its.toArray[i]? = none := by simp; omega
    refine wpAny_pyNext_enum_endG (I.ok.hd hc) he hit p hn fun h' eb => ⟨rfl, I.turned (t' := s.toks) (fun b o hb q => eb b o hb q) f0 f1 f3 f4 f5⟩
  self := fun A i s Q E st h => let ⟨⟨_, he⟩, _⟩ := st; wpAny_pyIter_enum he h

/-! pairs of items -/
def Itzg (K : PySem.W.Frag) (b1 b2 : Bool) (a b : Addr) : It :=
  ⟨fun i H => ∃ (xs ys : List V) (x y : V), SqG b1 K H a xs ∧ SqG b2 K H b ys ∧ xs[i]? = some x ∧ ys[i]? = some y,
    fun i H v H' => ∃ T x y, v = .ref T ∧ H T = none ∧ H' = upd H T (.tup [x, y]) ∧ (∀ xs, SqG b1 K H a xs → xs[i]? = some x) ∧ ∀ ys, SqG b2 K H b ys → ys[i]? = some y,
    fun i H => ∃ xs ys : List V, SqG b1 K H a xs ∧ SqG b2 K H b ys ∧ (xs.length ≤ i ∨ ys.length ≤ i)⟩
theorem turn_zipG {P : Program} {w : World} {K : PySem.W.Frag} {elts : List Expr} {kk : Nat} {tpos : Pos} (b1 b2 : Bool) {a b z TI TO i1 i2 : Addr} (D : ZipApart z TI TO i1 i2 a b) :
    Turn P w K (.Tuple elts kk tpos) (Itzg K b1 b2 a b) [z, TI, TO, i1, i2] z (fun i h => IsZip h z TI TO .none ∧ IsPair h TI (.ref i1) (.ref i2) ∧ (∃ x y, IsPair h TO x y) ∧ SqIt b1 h i1 a i ∧ SqIt b2 h i2 b i) where
  mem := by simp
  obj := fun i h st c hc => by
    obtain ⟨hz, hTI, ⟨x, y, hTO⟩, h1, h2⟩ := st
    have e' : c = z ∨ c = TI ∨ c = TO ∨ c = i1 ∨ c = i2 := by simpa using hc
    rcases e' with q | q | q | q | q
    · rw [q]; exact ⟨_, hz, fun v q => nomatch q⟩
    · rw [q]; exact ⟨_, hTI, fun v q => nomatch q⟩
    · rw [q]; exact ⟨_, hTO, fun v q => nomatch q⟩
    · rw [q]
      obtain ⟨o1, _, e1, d1⟩ := h1.obj
      exact ⟨o1, e1, fun v q => by rw [d1] at q; cases q⟩
    · rw [q]
      obtain ⟨o1, _, e1, d1⟩ := h2.obj
      exact ⟨o1, e1, fun v q => by rw [d1] at q; cases q⟩
  keep := fun i h h' st k => by
    obtain ⟨hz, hTI, ⟨x, y, hTO⟩, h1, h2⟩ := st
    exact ⟨k z (by simp) _ hz, k TI (by simp) _ hTI, ⟨x, y, k TO (by simp) _ hTO⟩, h1.at_ fun o q => k i1 (by simp) o q, h2.at_ fun o q => k i2 (by simp) o q⟩
  item := by
    intro X hP hw hK hc i pins s σ H E I hf st hg
    subst hP hw hK
    obtain ⟨hz, hTI, ⟨x0, y0, hTO⟩, h1, h2⟩ := st
    obtain ⟨xs, ys, x, y, hqx, hqy, hx, hy⟩ := hg
    obtain ⟨its, rv, p, _⟩ := Inv.sqG I hqx
    obtain ⟨its2, rv2, p2, _⟩ := Inv.sqG I hqy
    obtain ⟨u, hu, ru⟩ := rv.get hx
    obtain ⟨u2, hu2, ru2⟩ := rv2.get hy
    have hzl : z < s.heap.objs.size := Heap.lt_size hz
    refine pyNext_zipG_item D hz hTI hTO h1 h2 p p2 (x := u) (y := u2) (by simpa using hu) (by simpa using hu2) fun h' z' TO' h1' h2' hT hsz hk => ?_
    refine ⟨_, rfl, wpAny_letOwnedTupleGo_zip (s := { s with heap := h' }) z' fun h'' z'' sb => ?_⟩
    have hT2 : h''.get? s.heap.objs.size = some { cls := .type "tuple", data := .seq #[u, u2] } := (sb.2 _ (Nat.ne_of_gt hzl)).trans hT
    have new : ObjOk X.prog X.w (upd H s.heap.objs.size (.tup [x, y])) h'' s.heap.objs.size (.tup [x, y]) :=
      ⟨by show 2 ≤ sizeLine; decide, [u, u2], .cons ru (.cons ru2 .nil), ⟨_, hT2, rfl, _, rfl⟩⟩
    have I1 : L2.Inv X pins σ (upd H s.heap.objs.size (.tup [x, y])) { s with heap := h'' } :=
      I.turnedNew (t' := s.toks) (ch := [z, TI, TO, i1, i2]) (fun c o hb q => (sb.2 c (fun q' => hb (by simp [q']))).trans (hk c o (fun q' => hb (by simp [q'])) (fun q' => hb (by simp [q'])) (fun q' => hb (by simp [q'])) (fun q' => hb (by simp [q'])) q)) hf (Nat.le_refl _) new
    refine ⟨.ref s.heap.objs.size, _, I1, rfl, ⟨_, x, y, rfl, I.hok.fresh (Nat.le_refl _), rfl, fun l hl => by rw [Inv.sqG_inj I hl hqx]; exact hx, fun l hl => by rw [Inv.sqG_inj I hl hqy]; exact hy⟩, ⟨z'', ?_, ⟨u, u2, ?_⟩, ?_, ?_⟩, fun c hcm => ?_⟩
    · exact (sb.2 _ D.TIz).trans (hk _ _ D.TIz D.TITO D.TIi1 D.TIi2 hTI)
    · exact (sb.2 _ D.TOz).trans TO'
    · exact h1'.at_ fun o q => (sb.2 _ D.i1z).trans q
    · exact h2'.at_ fun o q => (sb.2 _ D.i2z).trans q
    · have hlt : c < s.heap.objs.size := by
        have e' : c = z ∨ c = TI ∨ c = TO ∨ c = i1 ∨ c = i2 := by simpa using hcm
        rcases e' with q | q | q | q | q
        · rw [q]; exact hzl
        · rw [q]; exact Heap.lt_size hTI
        · rw [q]; exact Heap.lt_size hTO
        · rw [q]; exact h1.lt
        · rw [q]; exact h2.lt
      rw [upd_ne (Nat.ne_of_lt hlt)]
      exact (hf c hcm).1
  done := by
    intro X hP hw hK hc i pins s σ H E I hf st hg
    subst hP hw hK
    obtain ⟨hz, hTI, ⟨x0, y0, hTO⟩, h1, h2⟩ := st
    obtain ⟨xs, ys, hqx, hqy, hend⟩ := hg
    obtain ⟨its, rv, p, _⟩ := Inv.sqG I hqx
    obtain ⟨its2, rv2, p2, _⟩ := Inv.sqG I hqy
    have l1 := rv.length
    have l2 := rv2.length
    have he : its.toArray[i]? = none ∨ its2.toArray[i]? = none := by
      rcases hend with q | q
      · exact .inl (by simp; omega)
      · exact .inr (by simp; omega)
    exact pyNext_zipG_end (I.ok.hd hc) D hz hTI hTO h1 h2 p p2 he fun h' hk => ⟨rfl, I.turnedL (t' := s.toks) (ch := [z, TI, TO, i1, i2]) (fun c o hb q =>
      hk c o (fun q' => hb (by simp [q'])) (fun q' => hb (by simp [q'])) (fun q' => hb (by simp [q'])) (fun q' => hb (by simp [q'])) q) hf⟩
  self := fun A i s Q E st h => wpAny_pyIter_zip st.1 h
/-! the sources -/
def iSeqG (K : PySem.W.Frag) (tl : TE) : TI := fun σ H R => tl σ H fun x H1 => ∃ a b xs, x = .ref a ∧ SqG b K H1 a xs ∧ R (match b with
  | true => Itt K a
  | false => Itl K a) H1
theorem pi_seqG {X : Cx} {tg l : Expr} {tl : TE} (hl : PE X l tl) : PI X tg l (iSeqG X.K tl) := by
  refine ⟨fun pins s σ H R I h => ?_⟩
  refine thn (hl.run pins s σ H _ I h) fun v s1 ⟨x, H1, I1, r1, q1⟩ => ?_
  obtain ⟨a, b, xs, e, hq, q⟩ := q1
  subst e
  cases r1
  have fp : ∀ c ∈ [s1.heap.objs.size], FpOk X pins H1 c := fun c hc => by
    have e : c = s1.heap.objs.size := by simpa using hc
    subst e
    exact I1.fpOk (Nat.le_refl _) (I1.hok.fresh (Nat.le_refl _))
  cases b with
  | true =>
    obtain ⟨its, rv, p, hz⟩ := I1.tuple hq
    refine wpAny_pyIter_tuple (show s1.heap.IsTuple a its.toArray from p) ?_
    exact ⟨s1.heap.objs.size, [s1.heap.objs.size], _, _, H1, rfl, I1.kept (t' := s1.toks) fun b o e => Heap.get?_push_of_some _ e, turn_tuple a _, ⟨_, Heap.get?_push_size _ rfl, rfl, rfl⟩, fp, q⟩
  | false =>
    obtain ⟨its, rv, p, hz⟩ := I1.list hq
    refine wpAny_pyIter_list p.isList ?_
    exact ⟨s1.heap.objs.size, [s1.heap.objs.size], _, _, H1, rfl, I1.kept (t' := s1.toks) fun b o e => Heap.get?_push_of_some _ e, turn_list a _, ⟨_, Heap.get?_push_size _ rfl, rfl, rfl⟩, fp, q⟩
def iEnumG (K : PySem.W.Frag) (ta : TA) : TI := fun σ H R => ta σ H fun vs H1 => ∃ a b xs, vs = [.ref a] ∧ SqG b K H1 a xs ∧ R (Iteg K b a) H1
theorem pi_enumG {X : Cx} {e : Expr} {ta : TA} {p pos tpos : Pos} {elts : List Expr} {kk : Nat} (hg : Gl X "enumerate") (hm : X.mg "enumerate" = none) (ha : PA X [e] ta) (hs : starEach [e] X.env = [(false, eval e X.env)] := by rfl) :
    PI X (.Tuple elts kk tpos) (.Call (.Name "enumerate" p) [e] [] pos) (iEnumG X.K ta) := by
  refine ⟨fun pins s σ H R I h => ?_⟩
  refine Call_ (ld_blt I hg hm boot_enumerate (PyProof.Rows.callWith_type1 (thn (ha.run pos pins s σ H _ I h) fun us s1 ⟨vs, H1, I1, r1, q1⟩ => ?_) hs rfl))
  obtain ⟨a, b, xs, ex, hq, q⟩ := q1
  subst ex
  rw [Vals.ref1 r1]
  obtain ⟨its, rv, p', hz⟩ := Inv.sqG I1 hq
  refine call_enumG p' fun h' he hit hsz hk => wpAny_pyIter_enum he ?_
  have I2 : L2.Inv X pins σ H1 { s1 with heap := h' } := I1.kept (t' := s1.toks) hk
  refine ⟨s1.heap.objs.size + 1, [s1.heap.objs.size + 1, s1.heap.objs.size], _, _, H1, rfl, I2, turn_enumG b a (s1.heap.objs.size + 1) s1.heap.objs.size, ⟨⟨.none, he⟩, hit, Nat.succ_ne_self _, Nat.ne_of_lt hz, Nat.ne_of_gt (Nat.lt_succ_of_lt hz)⟩, fun c hc => ?_, q⟩
  have e' : c = s1.heap.objs.size + 1 ∨ c = s1.heap.objs.size := by simpa using hc
  have hle : s1.heap.objs.size ≤ c := by
    rcases e' with z | z
    · rw [z]; exact Nat.le_add_right _ _
    · rw [z]; exact Nat.le_refl _
  exact I1.fpOk hle (I1.hok.fresh hle)
def iZipG (K : PySem.W.Frag) (ta : TA) : TI := fun σ H R => ta σ H fun vs H1 => ∃ a b b1 b2 xs ys, vs = [.ref a, .ref b] ∧ SqG b1 K H1 a xs ∧ SqG b2 K H1 b ys ∧ R (Itzg K b1 b2 a b) H1
theorem pi_zipG {X : Cx} {e e2 : Expr} {ta : TA} {p pos tpos : Pos} {elts : List Expr} {kk : Nat} (hg : Gl X "zip") (hm : X.mg "zip" = none) (ha : PA X [e, e2] ta)
    (hs : starEach [e, e2] X.env = (false, eval e X.env) :: starEach [e2] X.env := by rfl) (hpl : (backTo pos (starEach [e2] X.env)).any (·.1) = false := by rfl) :
    PI X (.Tuple elts kk tpos) (.Call (.Name "zip" p) [e, e2] [] pos) (iZipG X.K ta) := by
  refine ⟨fun pins s σ H R I h => ?_⟩
  refine Call_ (ld_blt I hg hm PyProof.Rows.boot_zip (PyProof.Rows.callWith_type1 (thn (ha.run pos pins s σ H _ I h) fun us s1 ⟨vs, H1, I1, r1, q1⟩ => ?_) hs hpl))
  obtain ⟨a, b, b1, b2, xs, ys, ex, hqx, hqy, q⟩ := q1
  subst ex
  obtain ⟨u1, u2, rfl, ra, rb⟩ := r1.two
  cases (show u1 = Value.ref a from ra)
  cases (show u2 = Value.ref b from rb)
  have fresh5 : ∀ c, c ∈ [s1.heap.objs.size + 4, s1.heap.objs.size + 2, s1.heap.objs.size + 3, s1.heap.objs.size, s1.heap.objs.size + 1] → FpOk X pins H1 c := fun c hcm => by
    have hle : s1.heap.objs.size ≤ c := by
      simp only [List.mem_cons, List.mem_singleton, List.not_mem_nil, or_false] at hcm
      omega
    exact I1.fpOk hle (I1.hok.fresh hle)
  obtain ⟨its, rv, p1, l1⟩ := Inv.sqG I1 hqx
  obtain ⟨its2, rv2, p2, l2⟩ := Inv.sqG I1 hqy
  refine call_zipG p1 p2 fun h' hz hTI hTO h1 h2 hsz hk => wpAny_pyIter_zip hz ?_
  have I2 : L2.Inv X pins σ H1 { s1 with heap := h' } := I1.kept (t' := s1.toks) hk
  exact ⟨s1.heap.objs.size + 4, [s1.heap.objs.size + 4, s1.heap.objs.size + 2, s1.heap.objs.size + 3, s1.heap.objs.size, s1.heap.objs.size + 1], _, _, H1, rfl, I2, turn_zipG b1 b2 (PySem.W.ktu_apart s1.heap.objs.size a b l1 l2), ⟨hz, hTI, ⟨_, _, hTO⟩, h1, h2⟩, fresh5, q⟩
end PX
set_option Elab.async false
set_option linter.all false
set_option maxRecDepth 100000
set_option maxHeartbeats 1000000
namespace PX
open PySem PySem.Spec PyProof.Rows L2 ZG
/-! ### what a loop walks, by values -/
def lockS (v : PV) (S : Store) : Option (List PV × List (Nat × PV) × Store) := match v with
  | .ref i => match S[i]? with
    | some (.lst xs) => some (xs, [(i, .lst xs)], S.set i (.lck (.lst xs)))
    | some (.lck (.lst xs)) => some (xs, [], S)
    | _ => none
  | .lst xs => some (xs, [], S)
  | .tup xs => some (xs, [], S)
  | _ => none
def enumL : Int → List PV → List PV
  | _, [] => []
  | k, x :: xs => .tup [.int k, x] :: enumL (k + 1) xs
def zipL : List PV → List PV → List PV
  | x :: xs, y :: ys => .tup [x, y] :: zipL xs ys
  | _, _ => []
def rngL : Int → Nat → List PV
  | _, 0 => []
  | lo, n + 1 => .int lo :: rngL (lo + 1) n
def iSeq (a : SE) : SI := fun env S => (a env S).bind fun p S1 => match lockS p.2 S1 with
  | some z => .ok (z.1, z.2.1) z.2.2
  | none => .no
def iEnu (a : SE) : SI := fun env S => (a env S).bind fun p S1 => match lockS p.2 S1 with
  | some z => .ok (enumL 0 z.1, z.2.1) z.2.2
  | none => .no
def iZip (a b : SE) : SI := fun env S => (a env S).bind fun p S1 => (b env S1).bind fun q S2 => match lockS p.2 S2 with
  | some z => match lockS q.2 z.2.2 with
    | some y => .ok (zipL z.1 y.1, y.2.1 ++ z.2.1) y.2.2
    | none => .no
  | none => .no
def okRg (j : Int) : Bool := decide (-4611686018427387904 ≤ j) && decide (j < 4611686018427387904)
def iRg1 (a : SE) : SI := fun env S => (a env S).bind fun p S1 => match p.2 with
  | .int j => if okRg j then .ok (rngL 0 j.toNat, []) S1 else .no
  | _ => .no
def iRg2 (a b : SE) : SI := fun env S => (a env S).bind fun p S1 => (b env S1).bind fun q S2 => match p.2, q.2 with
  | .int i, .int j => if okRg i && okRg j then .ok (rngL i (j - i).toNat, []) S2 else .no
  | _, _ => .no

def Gh.lock (g : Gh) (a : Addr) (ho : HO) : Gh := ⟨g.L, upd g.pn a ho, fun b => if b = a then true else g.lk b⟩
section
variable {G : Gam} {n0 : Nat} {g : Gh} {F : Hp} {r : List Addr} {S : Store} {H : Hp}
theorem nd_inj {r : List Addr} (h : r.Nodup) {i j : Nat} {a : Addr} (e1 : r[i]? = some a) (e2 : r[j]? = some a) : i = j := by
  obtain ⟨h1, e1'⟩ := List.getElem?_eq_some_iff.mp e1
  obtain ⟨h2, e2'⟩ := List.getElem?_eq_some_iff.mp e2
  exact (List.getElem_inj h).mp (e1'.trans e2'.symm)
theorem HR.lock {i : Nat} {a : Addr} {xs : List PV} {us : List V} (h : HR G n0 g F r S H) (e1 : r[i]? = some a) (e2 : S[i]? = some (.lst xs)) (e3 : H a = some (.lst us)) : HR G n0 (g.lock a (.lst us)) F r (S.set i (.lck (.lst xs))) H := by
  have hi : i < S.length := (List.getElem?_eq_some_iff.mp e2).1
  have hF := h.off a (List.mem_of_getElem? e1)
  refine ⟨h.sub, h.nd, h.off, by rw [List.length_set]; exact h.len, by rw [List.length_set]; exact h.nle, h.lle, fun j oj b e4 e5 => ?_, fun b o e => ?_, fun j oj b e4 e5 => ?_, fun b o e el => ?_⟩
  · by_cases hj : i = j
    · subst hj
      rw [List.getElem?_set_self hi] at e4
      cases e4
      obtain ⟨ho, q1, q2⟩ := h.obj i _ b e2 e5
      exact ⟨ho, q1, q2⟩
    · rw [List.getElem?_set_ne hj] at e4
      exact h.obj j oj b e4 e5
  · by_cases hb : b = a
    · subst hb
      have e : upd g.pn b (.lst us) b = some o := e
      rw [upd_same] at e
      cases e
      refine ⟨e3, hF, fun j hj => ?_⟩
      have := nd_inj h.nd e1 hj
      subst this
      exact ⟨_, List.getElem?_set_self hi⟩
    · have e : upd g.pn a (.lst us) b = some o := e
      rw [upd_ne hb] at e
      obtain ⟨q1, q2, q3⟩ := h.pin b o e
      refine ⟨q1, q2, fun j hj => ?_⟩
      obtain ⟨ob, q⟩ := q3 j hj
      refine ⟨ob, ?_⟩
      rw [List.getElem?_set_ne (fun z => by subst z; rw [e1] at hj; cases hj; exact hb rfl)]
      exact q
  · show ∃ o, upd g.pn a (.lst us) b = some o
    by_cases hb : b = a
    · rw [hb, upd_same]; exact ⟨_, rfl⟩
    · rw [upd_ne hb]
      rw [List.getElem?_set_ne (fun z => by subst z; rw [e1] at e5; cases e5; exact hb rfl)] at e4
      exact h.lckd j oj b e4 e5
  · have e : upd g.pn a (.lst us) b = some o := e
    have el : (if b = a then true else g.lk b) = false := el
    by_cases hb : b = a
    · rw [if_pos hb] at el; cases el
    · rw [upd_ne hb] at e
      rw [if_neg hb] at el
      exact h.out b o e el
theorem HR.unlock {i : Nat} {a : Addr} {xs : List PV} {us : List V} (h : HR G n0 (g.lock a (.lst us)) F r S H) (hp : g.pn a = none) (e1 : r[i]? = some a) (k : RVs G F (lim n0 g.L r i) xs us) : HR G n0 g F r (S.set i (.lst xs)) H := by
  have hi : i < S.length := by rw [← h.len]; exact (List.getElem?_eq_some_iff.mp e1).1
  have ea : (g.lock a (.lst us)).pn a = some (.lst us) := by
    show upd g.pn a (.lst us) a = _
    rw [upd_same]
  have ne_of : ∀ b o, g.pn b = some o → b ≠ a := fun b o e z => by rw [z, hp] at e; cases e
  have pn_ne : ∀ b, b ≠ a → (g.lock a (.lst us)).pn b = g.pn b := fun b hb => by
    show upd g.pn a (.lst us) b = _
    rw [upd_ne hb]
  refine ⟨h.sub, h.nd, h.off, by rw [List.length_set]; exact h.len, by rw [List.length_set]; exact h.nle, h.lle, fun j oj b e4 e5 => ?_, fun b o e => ?_, fun j oj b e4 e5 => ?_, fun b o e el => ?_⟩
  · by_cases hj : i = j
    · subst hj
      rw [List.getElem?_set_self hi] at e4
      cases e4
      rw [e1] at e5
      cases e5
      exact ⟨_, (h.pin a _ ea).1, ⟨us, rfl, k⟩⟩
    · rw [List.getElem?_set_ne hj] at e4
      exact h.obj j oj b e4 e5
  · have hb := ne_of b o e
    obtain ⟨q1, q2, q3⟩ := h.pin b o (by rw [pn_ne b hb]; exact e)
    refine ⟨q1, q2, fun j hj => ?_⟩
    obtain ⟨ob, q⟩ := q3 j hj
    refine ⟨ob, ?_⟩
    rw [List.getElem?_set_ne (fun z => by subst z; rw [e1] at hj; cases hj; exact hb rfl)]
    exact q
  · by_cases hj : i = j
    · subst hj
      rw [List.getElem?_set_self hi] at e4
      cases e4
    · rw [List.getElem?_set_ne hj] at e4
      have hb : b ≠ a := fun z => by subst z; exact hj (nd_inj h.nd e1 e5)
      obtain ⟨o, q⟩ := h.lckd j oj b e4 e5
      exact ⟨o, by rw [← pn_ne b hb]; exact q⟩
  · have hb := ne_of b o e
    refine h.out b o (by rw [pn_ne b hb]; exact e) ?_
    show (if b = a then true else g.lk b) = false
    rw [if_neg hb]
    exact el
/-! the items of a sequence, held still -/
structure Held (G : Gam) (n0 : Nat) (g g' : Gh) (F : Hp) (r : List Addr) (S' : Store) (H : Hp) (xs : List PV) (ls : List (Nat × PV)) (b : Bool) (a : Addr) (us : List V) : Prop where
  hr : HR G n0 g' F r S' H
  rv : RVs G F r xs us
  sq : ∀ g2, GhLe g' g2 → ∀ F2 r2 S2 H2, HR G n0 g2 F2 r2 S2 H2 → Ext F F2 r r2 → SqG b G.K H2 a us
  le : GhLe g g'
  pn : GhPin g g'
  un : ∀ rp, g.has rp → ∀ F2 r2 S2 H2, HR G n0 (g'.rep rp) F2 r2 S2 H2 → Ext F F2 r r2 → HR G n0 (g.rep rp) F2 r2 (unlock ls S2) H2
theorem lock_ok {v : PV} {u : V} {xs : List PV} {ls : List (Nat × PV)} {S' : Store} (h : HR G n0 g F r S H) (q : RV G F r v u) (e : lockS v S = some (xs, ls, S')) : ∃ g' b a us, u = .ref a ∧ Held G n0 g g' F r S' H xs ls b a us := by
  unfold lockS at e
  split at e
  · rename_i i
    obtain ⟨a, e1, rfl⟩ := q
    split at e
    · rename_i ys es
      cases e
      obtain ⟨ho, q1, q2⟩ := h.obj i _ a es e1
      obtain ⟨us, rfl, k⟩ := q2
      refine ⟨g.lock a (.lst us), false, a, us, rfl, h.lock e1 es q1, RVs.mono (.refl F) (at_of (lim_le n0 g.L r i)) _ _ k, fun g2 hg F2 r2 S2 H2 h2 x => ?_, fun b o eb el => ?_, fun b o eb el => ?_, fun rp hrp F2 r2 S2 H2 h2 x => ?_⟩
      · have ea : (g.lock a (.lst us)).pn a = some (.lst us) := by
          show upd g.pn a (.lst us) a = _
          rw [upd_same]
        exact (show SqL G.K H2 a us from .inl (.inl (h2.pin a _ (hg a _ ea (by show (if a = a then true else g.lk a) = true; rw [if_pos rfl])).1).1))
      · have hb : b ≠ a := fun z => by rw [z, h.nopin e1 es rfl] at eb; cases eb
        refine ⟨?_, ?_⟩
        · show upd g.pn a (.lst us) b = _
          rw [upd_ne hb]
          exact eb
        · show (if b = a then true else g.lk b) = true
          rw [if_neg hb]
          exact el
      · have hb : b ≠ a := fun z => by rw [z, h.nopin e1 es rfl] at eb; cases eb
        refine ⟨?_, ?_⟩
        · show upd g.pn a (.lst us) b = _
          rw [upd_ne hb]
          exact eb
        · show (if b = a then true else g.lk b) = false
          rw [if_neg hb]
          exact el
      · have hpa : (g.rep rp).pn a = none := by
          cases rp with
          | none => exact h.nopin e1 es rfl
          | some p =>
            obtain ⟨⟨o, ep⟩, el⟩ := hrp p rfl
            have hne : a ≠ p.1 := fun z => h.out p.1 o ep el (z ▸ List.mem_of_getElem? e1)
            show upd g.pn p.1 p.2 a = none
            rw [upd_ne hne]
            exact h.nopin e1 es rfl
        have eg : (g.lock a (.lst us)).rep rp = (g.rep rp).lock a (.lst us) := by
          cases rp with
          | none => rfl
          | some p =>
            obtain ⟨⟨o, ep⟩, el⟩ := hrp p rfl
            have hne : a ≠ p.1 := fun z => h.out p.1 o ep el (z ▸ List.mem_of_getElem? e1)
            show (⟨g.L, upd (upd g.pn a (.lst us)) p.1 p.2, fun b => if b = a then true else g.lk b⟩ : Gh) = ⟨g.L, upd (upd g.pn p.1 p.2) a (.lst us), fun b => if b = a then true else g.lk b⟩
            congr 1
            funext b
            by_cases hb : b = a
            · rw [hb, upd_ne hne, upd_same, upd_same]
            · by_cases hb2 : b = p.1
              · rw [hb2, upd_same, upd_ne (Ne.symm hne), upd_same]
              · rw [upd_ne hb2, upd_ne hb, upd_ne hb, upd_ne hb2]
        rw [eg] at h2
        have eL : (g.rep rp).L = g.L := by cases rp <;> rfl
        exact h2.unlock hpa (x.at_ i a e1) (by rw [eL]; exact RVs.mono x.1 (lim_mono x.2 i) _ _ k)
    · rename_i ys es
      cases e
      obtain ⟨ho, q1, q2⟩ := h.obj i _ a es e1
      obtain ⟨us, rfl, k⟩ := q2
      obtain ⟨o, ep⟩ := h.lckd i _ a es e1
      have eo : o = .lst us := by
        have := (h.pin a o ep).1
        rw [q1] at this
        exact (Option.some.inj this).symm
      subst eo
      have elk : g.lk a = true := by
        cases z : g.lk a with
        | true => rfl
        | false => exact absurd (List.mem_of_getElem? e1) (h.out a _ ep z)
      exact ⟨g, false, a, us, rfl, h, RVs.mono (.refl F) (at_of (lim_le n0 g.L r i)) _ _ k, fun g2 hg F2 r2 S2 H2 h2 x => (show SqL G.K H2 a us from .inl (.inl (h2.pin a _ (hg a _ ep elk).1).1)), .refl g, .refl g, fun _ _ F2 r2 S2 H2 h2 x => h2⟩
    · cases e
  · cases e
    obtain ⟨a, us, rfl, k1, k2⟩ := q
    exact ⟨g, false, a, us, rfl, h, k2, fun g2 hg F2 r2 S2 H2 h2 x => (show SqL G.K H2 a us from .inl (h2.sub.rd (x.1.rd k1))), .refl g, .refl g, fun _ _ F2 r2 S2 H2 h2 x => h2⟩
  · cases e
    obtain ⟨a, us, rfl, k1, k2⟩ := q
    exact ⟨g, true, a, us, rfl, h, k2, fun g2 hg F2 r2 S2 H2 h2 x => (show SqT G.K H2 a us from h2.sub.tp (x.1 _ _ k1)), .refl g, .refl g, fun _ _ F2 r2 S2 H2 h2 x => h2⟩
  · cases e
theorem enumL_get : ∀ {xs : List PV} {k : Int} {i : Nat} {t : PV}, (enumL k xs)[i]? = some t → ∃ x, xs[i]? = some x ∧ t = .tup [.int (k + i), x]
  | [], k, i, t, e => by simp [enumL] at e
  | x :: xs, k, 0, t, e => by
    simp [enumL] at e
    exact ⟨x, by simp, by rw [← e]; simp⟩
  | x :: xs, k, i + 1, t, e => by
    have e : (enumL (k + 1) xs)[i]? = some t := by simpa [enumL] using e
    obtain ⟨y, h1, h2⟩ := enumL_get e
    exact ⟨y, by simpa using h1, by rw [h2]; congr 3; omega⟩
theorem enumL_len : ∀ (xs : List PV) (k : Int), (enumL k xs).length = xs.length
  | [], _ => rfl
  | x :: xs, k => by
    show (enumL (k + 1) xs).length + 1 = xs.length + 1
    rw [enumL_len xs]
theorem zipL_get : ∀ {xs ys : List PV} {i : Nat} {t : PV}, (zipL xs ys)[i]? = some t → ∃ x y, xs[i]? = some x ∧ ys[i]? = some y ∧ t = .tup [x, y]
  | [], ys, i, t, e => by simp [zipL] at e
  | x :: xs, [], i, t, e => by simp [zipL] at e
  | x :: xs, y :: ys, 0, t, e => by
    simp [zipL] at e
    exact ⟨x, y, by simp, by simp, e.symm⟩
  | x :: xs, y :: ys, i + 1, t, e => by
    have e : (zipL xs ys)[i]? = some t := by simpa [zipL] using e
    obtain ⟨x', y', h1, h2, h3⟩ := zipL_get e
    exact ⟨x', y', by simpa using h1, by simpa using h2, h3⟩
theorem zipL_len : ∀ (xs ys : List PV) (i : Nat), (zipL xs ys).length ≤ i → xs.length ≤ i ∨ ys.length ≤ i
  | [], ys, i, h => .inl (Nat.zero_le _)
  | x :: xs, [], i, h => .inr (Nat.zero_le _)
  | x :: xs, y :: ys, 0, h => absurd h (by simp [zipL])
  | x :: xs, y :: ys, i + 1, h => by
    have h : (zipL xs ys).length + 1 ≤ i + 1 := h
    rcases zipL_len xs ys i (by omega) with q | q
    · exact .inl (Nat.succ_le_succ q)
    · exact .inr (Nat.succ_le_succ q)
theorem rngL_get : ∀ {n : Nat} {lo : Int} {i : Nat} {t : PV}, (rngL lo n)[i]? = some t → i < n ∧ t = .int (lo + i)
  | 0, lo, i, t, e => by simp [rngL] at e
  | n + 1, lo, 0, t, e => by
    simp [rngL] at e
    exact ⟨Nat.succ_pos n, by rw [← e]; simp⟩
  | n + 1, lo, i + 1, t, e => by
    have e : (rngL (lo + 1) n)[i]? = some t := by simpa [rngL] using e
    obtain ⟨h1, h2⟩ := rngL_get e
    exact ⟨Nat.succ_lt_succ h1, by rw [h2]; congr 1; omega⟩
theorem rngL_len : ∀ (n : Nat) (lo : Int), (rngL lo n).length = n
  | 0, _ => rfl
  | n + 1, lo => by
    show (rngL (lo + 1) n).length + 1 = n + 1
    rw [rngL_len n]
variable {X : Cx}
theorem cnI {env : Env} {σ : L2.St} {T : It → Hp → Prop} : Cn fun z => PoI G n0 g F r env σ z T := ⟨fun h => h, fun _ _ _ h => h⟩
variable {tg e e2 : Expr} {fe fe2 : SE} {p pos tpos : Pos} {elts : List Expr} {kk : Nat}
theorem si_seq (hK : G.K = X.K) (he : PE X e (rdE G n0 fe)) : PI X tg e (rdI G n0 (iSeq fe)) := by
  refine piI (pi_seqG (toV he)) fun σ H T ⟨F, r, env, S, g, s, h⟩ => ?_
  refine stV s cnI h fun p S1 F1 r1 H1 u x1 s1 q1 h1 => ?_
  cases el : lockS p.2 S1 with
  | none => rw [el] at h1; exact h1.elim
  | some z =>
    obtain ⟨xs, ls, S2⟩ := z
    rw [el] at h1
    obtain ⟨g', b, a, us, rfl, hd⟩ := lock_ok s1.hr q1 el
    refine ⟨a, b, us, rfl, hK ▸ hd.sq g' (.refl g') F1 r1 S2 H1 hd.hr (.refl _ _), h1 F1 r1 H1 _ g' x1 ⟨hd.hr, s1.sl, s1.vr⟩ (fun g2 hg2 F2 r2 S3 H2 h2 x2 => ?_) hd.pn hd.un⟩
    have sq := hd.sq g2 hg2 F2 r2 S3 H2 h2 x2
    rw [← hK]
    cases b with
    | true =>
      refine ⟨fun i x ex => ?_, fun i hi => ⟨us, sq, by rw [← RVs.length hd.rv]; exact hi⟩⟩
      obtain ⟨y, e1, q2⟩ := RVs.get hd.rv ex
      refine ⟨⟨us, y, sq, e1⟩, fun v H3 hy => ?_⟩
      obtain ⟨rfl, hv⟩ := hy
      have := hv us sq
      rw [e1] at this
      cases this
      exact ⟨F2, .refl _ _, h2, q2.ext x2⟩
    | false =>
      refine ⟨fun i x ex => ?_, fun i hi => ⟨us, sq, by rw [← RVs.length hd.rv]; exact hi⟩⟩
      obtain ⟨y, e1, q2⟩ := RVs.get hd.rv ex
      refine ⟨⟨us, y, sq, e1⟩, fun v H3 hy => ?_⟩
      obtain ⟨rfl, hv⟩ := hy
      have := hv us sq
      rw [e1] at this
      cases this
      exact ⟨F2, .refl _ _, h2, q2.ext x2⟩
theorem si_enum (hK : G.K = X.K) (hg : Gl X "enumerate") (hm : X.mg "enumerate" = none) (he : PE X e (rdE G n0 fe)) (hs : starEach [e] X.env = [(false, eval e X.env)] := by rfl) :
    PI X (.Tuple elts kk tpos) (.Call (.Name "enumerate" p) [e] [] pos) (rdI G n0 (iEnu fe)) := by
  refine piI (pi_enumG hg hm (pa_cons (toV he) pa_nil hs) hs) fun σ H T ⟨F, r, env, S, g, s, h⟩ => ?_
  refine stV s cnI h fun p S1 F1 r1 H1 u x1 s1 q1 h1 => ?_
  cases el : lockS p.2 S1 with
  | none => rw [el] at h1; exact h1.elim
  | some z =>
    obtain ⟨xs, ls, S2⟩ := z
    rw [el] at h1
    obtain ⟨g', b, a, us, rfl, hd⟩ := lock_ok s1.hr q1 el
    refine ⟨a, b, us, rfl, hK ▸ hd.sq g' (.refl g') F1 r1 S2 H1 hd.hr (.refl _ _), h1 F1 r1 H1 _ g' x1 ⟨hd.hr, s1.sl, s1.vr⟩ (fun g2 hg2 F2 r2 S3 H2 h2 x2 => ?_) hd.pn hd.un⟩
    have sq := hd.sq g2 hg2 F2 r2 S3 H2 h2 x2
    rw [← hK]
    refine ⟨fun i x ex => ?_, fun i hi => ⟨us, sq, by rw [← RVs.length hd.rv, ← enumL_len xs 0]; exact hi⟩⟩
    obtain ⟨x', ex', rfl⟩ := enumL_get ex
    obtain ⟨y, e1, q2⟩ := RVs.get hd.rv ex'
    refine ⟨⟨us, y, sq, e1⟩, fun v H3 hy => ?_⟩
    obtain ⟨T', y', rfl, hT, rfl, hv⟩ := hy
    have := hv us sq
    rw [e1] at this
    cases this
    obtain ⟨F4, x4, h4, k4⟩ := new_tup (xs := [.int (0 + i), x']) (us := [.int (i : Nat), y]) h2 hT ⟨_, _, rfl, by rw [Int.zero_add]; exact rfl, _, [], rfl, q2.ext x2, rfl⟩
    exact ⟨F4, x4, h4, k4⟩
theorem si_zip (hK : G.K = X.K) (hg : Gl X "zip") (hm : X.mg "zip" = none) (he : PE X e (rdE G n0 fe)) (he2 : PE X e2 (rdE G n0 fe2)) (hs : starEach [e, e2] X.env = (false, eval e X.env) :: starEach [e2] X.env := by rfl) (hs2 : starEach [e2] X.env = (false, eval e2 X.env) :: starEach [] X.env := by rfl)
    (hpl : (backTo pos (starEach [e2] X.env)).any (·.1) = false := by rfl) :
    PI X (.Tuple elts kk tpos) (.Call (.Name "zip" p) [e, e2] [] pos) (rdI G n0 (iZip fe fe2)) := by
  refine piI (pi_zipG hg hm (pa_cons (toV he) (pa_cons (toV he2) pa_nil hs2) hs) hs hpl) fun σ H T ⟨F, r, env, S, g, s, h⟩ => ?_
  refine stV s cnI h fun p S1 F1 r1 H1 u x1 s1 q1 h1 => ?_
  refine stV s1 cnI h1 fun q S2 F2 r2 H2 w x2 s2 q2 h2 => ?_
  cases el : lockS p.2 S2 with
  | none => rw [el] at h2; exact h2.elim
  | some z =>
    obtain ⟨xs, ls, S3⟩ := z
    simp only [el] at h2
    cases el2 : lockS q.2 S3 with
    | none => rw [el2] at h2; exact h2.elim
    | some z2 =>
      obtain ⟨ys, ls2, S4⟩ := z2
      simp only [el2] at h2
      obtain ⟨g1, b1, a1, us1, rfl, hd1⟩ := lock_ok s2.hr (q1.ext x2) el
      obtain ⟨g2, b2, a2, us2, rfl, hd2⟩ := lock_ok hd1.hr q2 el2
      have hpn : GhPin g g2 := fun a o e l => hd2.pn a o (hd1.pn a o e l).1 (hd1.pn a o e l).2
      have hun : ∀ rp, g.has rp → ∀ F5 r5 S5 H5, HR G n0 (g2.rep rp) F5 r5 S5 H5 → Ext F2 F5 r2 r5 → HR G n0 (g.rep rp) F5 r5 (unlock (ls2 ++ ls) S5) H5 := fun rp hrp F5 r5 S5 H5 h5 x5 => by
        have e : ∀ (l1 l2 : List (Nat × PV)) (S : Store), unlock (l1 ++ l2) S = unlock l2 (unlock l1 S) := by
          intro l1
          induction l1 with
          | nil => intro l2 S; rfl
          | cons c l1 ih => intro l2 S; exact ih l2 _
        rw [e]
        exact hd1.un rp hrp F5 r5 _ H5 (hd2.un rp (hd1.pn.has hrp) F5 r5 S5 H5 h5 x5) x5
      refine ⟨a1, a2, b1, b2, us1, us2, rfl, hK ▸ hd1.sq g2 hd2.le F2 r2 S4 H2 hd2.hr (.refl _ _), hK ▸ hd2.sq g2 (.refl g2) F2 r2 S4 H2 hd2.hr (.refl _ _), h2 F2 r2 H2 _ g2 (x1.trans x2) ⟨hd2.hr, s2.sl, s2.vr⟩ (fun g5 hg5 F5 r5 S5 H5 h5 x5 => ?_) hpn hun⟩
      have s1' := hd1.sq g5 (hd2.le.trans hg5) F5 r5 S5 H5 h5 x5
      have s2' := hd2.sq g5 hg5 F5 r5 S5 H5 h5 x5
      rw [← hK]
      refine ⟨fun i x ex => ?_, fun i hi => ⟨us1, us2, s1', s2', by rw [← RVs.length hd1.rv, ← RVs.length hd2.rv]; exact zipL_len xs ys i hi⟩⟩
      obtain ⟨x', y', ex', ey', rfl⟩ := zipL_get ex
      obtain ⟨u1, e1, k1⟩ := RVs.get hd1.rv ex'
      obtain ⟨u2, e2, k2⟩ := RVs.get hd2.rv ey'
      refine ⟨⟨us1, us2, u1, u2, s1', s2', e1, e2⟩, fun v H3 hy => ?_⟩
      obtain ⟨T', y1, y2, rfl, hT, rfl, hv1, hv2⟩ := hy
      have := hv1 us1 s1'
      rw [e1] at this
      cases this
      have := hv2 us2 s2'
      rw [e2] at this
      cases this
      exact new_tup (xs := [x', y']) (us := [u1, u2]) h5 hT ⟨_, _, rfl, k1.ext x5, _, [], rfl, k2.ext x5, rfl⟩
theorem its_rng {g' : Gh} {lo : Int} {n : Nat} : Its G n0 g' F r (Itr lo n) (rngL lo n) := fun g2 hg2 F2 r2 S2 H2 h2 x2 => by
  refine ⟨fun i x ex => ?_, fun i hi => by rw [rngL_len] at hi; exact hi⟩
  obtain ⟨h1, rfl⟩ := rngL_get ex
  refine ⟨h1, fun v H3 hy => ?_⟩
  obtain ⟨rfl, rfl⟩ := hy
  exact ⟨F2, .refl _ _, h2, rfl⟩
theorem okRg_ok {j : Int} (h : okRg j = true) : -(2 ^ 62) ≤ j ∧ j < 2 ^ 62 := by
  unfold okRg at h
  rw [Bool.and_eq_true, decide_eq_true_eq, decide_eq_true_eq] at h
  omega
theorem si_rng1 (hg : Gl X "range") (hm : X.mg "range" = none) (he : PE X e (rdE G n0 fe)) (hs : starEach [e] X.env = [(false, eval e X.env)] := by rfl) : PI X tg (.Call (.Name "range" p) [e] [] pos) (rdI G n0 (iRg1 fe)) := by
  refine piI (pi_range1 hg hm (pa_cons (toV he) pa_nil hs) hs) fun σ H T ⟨F, r, env, S, g, s, h⟩ => ?_
  refine stV s cnI h fun p S1 F1 r1 H1 u x1 s1 q1 h1 => ?_
  obtain ⟨b, v⟩ := p
  cases v with
  | int j =>
    simp only at h1
    split at h1
    · rename_i hj
      obtain ⟨k1, k2⟩ := okRg_ok hj
      exact ⟨j, by rw [show u = V.int j from q1], k1, k2, h1 F1 r1 H1 _ g x1 s1 its_rng (.refl g) (fun _ _ _ _ _ _ h _ => h)⟩
    · exact h1.elim
  | _ => exact h1.elim
theorem si_rng2 (hg : Gl X "range") (hm : X.mg "range" = none) (he : PE X e (rdE G n0 fe)) (he2 : PE X e2 (rdE G n0 fe2)) (hs : starEach [e, e2] X.env = [(false, eval e X.env), (false, eval e2 X.env)] := by rfl) (hs2 : starEach [e2] X.env = [(false, eval e2 X.env)] := by rfl) :
    PI X tg (.Call (.Name "range" p) [e, e2] [] pos) (rdI G n0 (iRg2 fe fe2)) := by
  refine piI (pi_range2 hg hm (pa_cons (toV he) (pa_cons (toV he2) pa_nil hs2) (hs.trans (by rw [hs2]))) hs hs2) fun σ H T ⟨F, r, env, S, g, s, h⟩ => ?_
  refine stV s cnI h fun p S1 F1 r1 H1 u x1 s1 q1 h1 => ?_
  refine stV s1 cnI h1 fun q S2 F2 r2 H2 w x2 s2 q2 h2 => ?_
  obtain ⟨b, v⟩ := p
  obtain ⟨b', v'⟩ := q
  cases v with
  | int i =>
    cases v' with
    | int j =>
      simp only at h2
      split at h2
      · rename_i hj
        rw [Bool.and_eq_true] at hj
        obtain ⟨k1, k2⟩ := okRg_ok hj.1
        obtain ⟨k3, k4⟩ := okRg_ok hj.2
        exact ⟨i, j, by rw [show u = V.int i from q1, show w = V.int j from q2], ⟨k1, k2, k3, k4⟩, h2 F2 r2 H2 _ g (x1.trans x2) s2 its_rng (.refl g) (fun _ _ _ _ _ _ h _ => h)⟩
      · exact h2.elim
    | _ => exact h2.elim
  | _ => exact h2.elim
end
end PX
set_option Elab.async false
set_option linter.all false
set_option maxRecDepth 100000
set_option maxHeartbeats 1000000
namespace PX
open PySem PySem.Spec PyProof.Rows L2 ZG
/-! ### list comprehensions -/
def wipeE (env : Env) : List Nat → Env
  | [] => env
  | v :: vs => (wipeE env vs).set v none
def compR (t : Tg) (c : ST) (e : SE) : List PV → Env → List PV → Store → R (List PV)
  | [], _, acc, S => .ok acc S
  | x :: xs, env, acc, S => match t x env S with
    | none => .no
    | some env' => (c env' S).bind fun b S1 => if b = true then (e env' S1).bind fun q S2 => if small acc.length then compR t c e xs env (acc ++ [q.2]) S2 else .no
      else compR t c e xs env acc S1
def eLc (i : SI) (t : Tg) (vs : List Nat) (c : ST) (e : SE) : SE := fun env S => (i env S).bind fun p S1 => (compR t c e p.1 (wipeE env vs) [] S1).bind fun acc S2 => .ok (true, .lst acc) (unlock p.2 S2)
def tYesP : ST := fun _ S => .ok true S

theorem wipe_get (σ : L2.St) (i : Nat) : ∀ vs : List Nat, (L2.wipe σ vs)[i]? = if i ∈ vs ∧ i < σ.length then some none else σ[i]?
  | [] => by simp [L2.wipe]
  | v :: vs => by
    unfold L2.wipe
    by_cases hv : v = i
    · subst hv
      by_cases hl : v < σ.length
      · rw [List.getElem?_set_self (by rw [wipe_length]; exact hl), if_pos ⟨by simp, hl⟩]
      · rw [if_neg (fun z => hl z.2), List.getElem?_eq_none (by rw [List.length_set, wipe_length]; omega), List.getElem?_eq_none (by omega)]
    · rw [List.getElem?_set_ne hv, wipe_get σ i vs]
      have : (i ∈ v :: vs) ↔ i ∈ vs := by
        rw [List.mem_cons]
        exact ⟨fun h => h.resolve_left (fun z => hv z.symm), .inr⟩
      simp only [this]
theorem wipe_idem (σ : L2.St) (vs : List Nat) : L2.wipe (L2.wipe σ vs) vs = L2.wipe σ vs := by
  refine List.ext_getElem? fun i => ?_
  rw [wipe_get, wipe_length, wipe_get]
  split <;> rfl
theorem wipe_set {σ : L2.St} {vs : List Nat} {i : Nat} {x : Option V} (h : i ∈ vs) : L2.wipe (σ.set i x) vs = L2.wipe σ vs := by
  refine List.ext_getElem? fun j => ?_
  rw [wipe_get, wipe_get, List.length_set]
  by_cases hj : i = j
  · subst hj
    by_cases hl : i < σ.length
    · rw [if_pos ⟨h, hl⟩, if_pos ⟨h, hl⟩]
    · rw [if_neg (fun z => hl z.2), if_neg (fun z => hl z.2), List.getElem?_eq_none (by rw [List.length_set]; omega), List.getElem?_eq_none (by omega)]
  · rw [List.getElem?_set_ne hj]
theorem wipeE_some {env : Env} {i : Nat} {v : PV} : ∀ {vs : List Nat}, (wipeE env vs)[i]? = some (some v) → env[i]? = some (some v) ∧ i ∉ vs
  | [], e => ⟨e, by simp⟩
  | w :: vs, e => by
    unfold wipeE at e
    by_cases hw : w = i
    · subst hw
      rw [List.getElem?_set] at e
      rw [if_pos rfl] at e
      split at e <;> cases e
    · rw [List.getElem?_set_ne hw] at e
      obtain ⟨h1, h2⟩ := wipeE_some e
      exact ⟨h1, by rw [List.mem_cons]; rintro (z | z); exact hw z.symm; exact h2 z⟩
theorem wipeE_len (env : Env) : ∀ vs : List Nat, (wipeE env vs).length = env.length
  | [] => rfl
  | v :: vs => by
    unfold wipeE
    rw [List.length_set, wipeE_len env vs]

section
variable {G : Gam} {n0 : Nat} {g : Gh} {F : Hp} {r : List Addr} {S : Store} {H : Hp}
theorem Sg.wipe {env : Env} {σ : L2.St} (s : Sg G n0 g F r env σ S H) (vs : List Nat) : Sg G n0 g F r (wipeE env vs) (L2.wipe σ vs) S H := by
  refine ⟨s.hr, by rw [wipeE_len, wipe_length, s.sl], fun i v e => ?_⟩
  obtain ⟨h1, h2⟩ := wipeE_some e
  obtain ⟨u, e1, q⟩ := s.vr i v h1
  exact ⟨u, by rw [wipe_get, if_neg (fun z => h2 z.1)]; exact e1, q⟩
/-! a target within the block -/
def TgB (G : Gam) (vs : List Nat) (t : Tg) (gg : TG) : Prop := ∀ n0 g F r env σ S H v u env' w0 (Q : L2.St → Hp → Prop), L2.wipe σ vs = w0 → Sg G n0 g F r env σ S H → RV G F r v u → t v env S = some env' → (∀ σ', L2.wipe σ' vs = w0 → Sg G n0 g F r env' σ' S H → Q σ' H) → gg u σ H Q
def TgsB (G : Gam) (vs : List Nat) (ts : List Tg) (gs : TGs) : Prop := ∀ n0 g F r env σ S H xs us env' w0 (Q : L2.St → Hp → Prop), L2.wipe σ vs = w0 → Sg G n0 g F r env σ S H → RVs G F r xs us → gTps ts xs env S = some env' → (∀ σ', L2.wipe σ' vs = w0 → Sg G n0 g F r env' σ' S H → Q σ' H) → gs us σ H Q
theorem tb_nm {vs : List Nat} (i : Nat) (h : i ∈ vs) : TgB G vs (gNm i) (gName i) := fun n0 g F r env σ S H v u env' w0 Q hw s q e k => by
  cases e
  exact k _ (by rw [wipe_set h]; exact hw) (s.set q)
theorem tbs_nil {vs : List Nat} : TgsB G vs [] gNil := fun n0 g F r env σ S H xs us env' w0 Q hw s q e k => by
  cases xs with
  | nil =>
    cases e
    exact ⟨q, k σ hw s⟩
  | cons v xs => cases e
theorem tbs_cons {vs : List Nat} {t : Tg} {ts : List Tg} {gg : TG} {gs : TGs} (h1 : TgB G vs t gg) (h2 : TgsB G vs ts gs) : TgsB G vs (t :: ts) (gCons gg gs) := fun n0 g F r env σ S H xs us env' w0 Q hw s q e k => by
  cases xs with
  | nil => cases e
  | cons v xs =>
    obtain ⟨u, ur, rfl, q1, q2⟩ := q
    have e : (match t v env S with
      | some env' => gTps ts xs env' S
      | none => none) = some env' := e
    cases e1 : t v env S with
    | none => rw [e1] at e; cases e
    | some env1 =>
      rw [e1] at e
      exact ⟨u, ur, rfl, h1 n0 g F r env σ S H v u env1 w0 _ hw s q1 e1 fun σ' hw' s' => h2 n0 g F r env1 σ' S H xs ur env' w0 Q hw' s' q2 e k⟩
theorem tb_tp {vs : List Nat} {ts : List Tg} {gs : TGs} {n : Nat} (h : TgsB G vs ts gs) (hn : ts.length = n) : TgB G vs (gTp ts) (gTup G.K n gs) := fun n0 g F r env σ S H v u env' w0 Q hw s q e k => by
  unfold gTp at e
  split at e
  · rename_i xs e'
    obtain ⟨a, us, rfl, h1, h2⟩ := view_tup s.hr q e'
    exact ⟨a, us, rfl, h1, by rw [← RVs.length h2, gTps_len e, hn], h n0 g F r env σ S H xs us env' w0 Q hw s h2 e k⟩
  · cases e
/-! the new list, held apart -/
def Gh.pin (g : Gh) (a : Addr) (ho : HO) : Gh := ⟨g.L, upd g.pn a ho, fun b => if b = a then false else g.lk b⟩
theorem HR.pinNew {a : Addr} {ho : HO} (h : HR G n0 g F r S H) (ha : H a = none) : HR G n0 (g.pin a ho) F r S (upd H a ho) := by
  have hF := h.noF ha
  have hr := h.nor ha
  have h1 := h.heap (H' := upd H a ho) fun b o e => by rw [upd_ne (ne_of_none e ha)]; exact e
  refine ⟨h1.sub, h.nd, h.off, h.len, h.nle, h.lle, h1.obj, fun b o e => ?_, fun i ob b e1 e2 => ?_, fun b o e el hb => ?_⟩
  · by_cases hb : b = a
    · subst hb
      have e : upd g.pn b ho b = some o := e
      rw [upd_same] at e
      cases e
      exact ⟨upd_same, hF, fun i hi => absurd (List.mem_of_getElem? hi) hr⟩
    · have e : upd g.pn a ho b = some o := e
      rw [upd_ne hb] at e
      exact h1.pin b o e
  · show ∃ o, upd g.pn a ho b = some o
    by_cases hb : b = a
    · rw [hb, upd_same]; exact ⟨_, rfl⟩
    · rw [upd_ne hb]; exact h.lckd i ob b e1 e2
  · by_cases hb' : b = a
    · subst hb'; exact hr hb
    · have e : upd g.pn a ho b = some o := e
      rw [upd_ne hb'] at e
      have el : (if b = a then false else g.lk b) = false := el
      rw [if_neg hb'] at el
      exact h.out b o e el hb
theorem pin_at {a : Addr} {ho : HO} : (g.pin a ho).pn a = some ho := by
  show upd g.pn a ho a = _
  rw [upd_same]
theorem pin_ne {a b : Addr} {ho : HO} (hb : b ≠ a) : (g.pin a ho).pn b = g.pn b := by
  show upd g.pn a ho b = _
  rw [upd_ne hb]
theorem pin_le {a : Addr} {ho : HO} (hp : g.pn a = none) : GhLe g (g.pin a ho) := fun b o e l => by
  have hb : b ≠ a := fun z => by rw [z, hp] at e; cases e
  refine ⟨by rw [pin_ne hb]; exact e, ?_⟩
  show (if b = a then false else g.lk b) = true
  rw [if_neg hb]
  exact l
theorem pin_out {a : Addr} {ho : HO} (h : HR G n0 (g.pin a ho) F r S H) : a ∉ r := h.out a ho pin_at (by show (if a = a then false else g.lk a) = false; rw [if_pos rfl])
theorem HR.pinSet {a : Addr} {ho ho' : HO} (h : HR G n0 (g.pin a ho) F r S H) : HR G n0 (g.pin a ho') F r S (upd H a ho') := by
  have hF : F a = none := (h.pin a ho pin_at).2.1
  have hr := pin_out h
  refine ⟨fun b o e => ?_, h.nd, h.off, h.len, h.nle, h.lle, fun i ob b e1 e2 => ?_, fun b o e => ?_, fun i ob b e1 e2 => ?_, fun b o e el hb => ?_⟩
  · rw [upd_ne (fun z => by rw [z, hF] at e; cases e)]
    exact h.sub b o e
  · obtain ⟨ho2, q1, q2⟩ := h.obj i ob b e1 e2
    exact ⟨ho2, by rw [upd_ne (fun z => hr (by rw [← z]; exact List.mem_of_getElem? e2))]; exact q1, q2⟩
  · by_cases hb : b = a
    · subst hb
      rw [pin_at] at e
      cases e
      exact ⟨upd_same, hF, fun i hi => absurd (List.mem_of_getElem? hi) hr⟩
    · rw [pin_ne hb] at e
      obtain ⟨q1, q2, q3⟩ := h.pin b o (by rw [pin_ne hb]; exact e)
      exact ⟨by rw [upd_ne hb]; exact q1, q2, q3⟩
  · obtain ⟨o, q⟩ := h.lckd i ob b e1 e2
    by_cases hb : b = a
    · rw [hb, pin_at]; exact ⟨_, rfl⟩
    · rw [pin_ne hb] at q ⊢; exact ⟨o, q⟩
  · by_cases hb' : b = a
    · subst hb'; exact hr hb
    · rw [pin_ne hb'] at e
      exact h.out b o (by rw [pin_ne hb']; exact e) el hb
theorem HR.unpin {a : Addr} {ho : HO} (h : HR G n0 (g.pin a ho) F r S H) (hp : g.pn a = none) : HR G n0 g F r S H := by
  have hr := pin_out h
  have ne_of : ∀ b o, g.pn b = some o → b ≠ a := fun b o e z => by rw [z, hp] at e; cases e
  refine ⟨h.sub, h.nd, h.off, h.len, h.nle, h.lle, h.obj, fun b o e => h.pin b o (by rw [pin_ne (ne_of b o e)]; exact e), fun i ob b e1 e2 => ?_, fun b o e el => ?_⟩
  · obtain ⟨o, q⟩ := h.lckd i ob b e1 e2
    have hb : b ≠ a := fun z => hr (by rw [← z]; exact List.mem_of_getElem? e2)
    rw [pin_ne hb] at q
    exact ⟨o, q⟩
  · have hb := ne_of b o e
    refine h.out b o (by rw [pin_ne hb]; exact e) ?_
    show (if b = a then false else g.lk b) = false
    rw [if_neg hb]
    exact el
variable {X : Cx}
def rdB (G : Gam) (n0 : Nat) (f : ST) : TT := rdT G n0 f
theorem lc_core' {fi : SI} {t : Tg} {gg : TG} {vs : List Nat} {c : ST} {fe : SE} (ht : TgB G vs t gg) (σ : L2.St) (H : Hp) (Q : VK) (hh : rdE G n0 (eLc fi t vs c fe) σ H Q) : tLc (rdI G n0 fi) gg (rdT G n0 c) (rdV G n0 fe) vs σ H Q := by
  obtain ⟨F, r, env, S, g, s, h⟩ := hh
  refine ⟨F, r, env, S, g, s, ?_⟩
  have h : PoE G n0 g F r env σ ((fi env S).bind fun p S1 => (compR t c fe p.1 (wipeE env vs) [] S1).bind fun acc S2 => .ok (true, .lst acc) (unlock p.2 S2)) Q := h
  cases ei : fi env S with
  | no => rw [ei] at h; exact h
  | ex => rw [ei] at h; exact h
  | ok p S1 =>
    rw [ei] at h
    obtain ⟨xs, ls⟩ := p
    have h : PoE G n0 g F r env σ ((compR t c fe xs (wipeE env vs) [] S1).bind fun acc S2 => .ok (true, .lst acc) (unlock ls S2)) Q := h
    intro F1 r1 H1 J g' x1 s1 its _ ul D hD
    have ul : ∀ F2 r2 S2 H2, HR G n0 g' F2 r2 S2 H2 → Ext F1 F2 r1 r2 → HR G n0 g F2 r2 (unlock ls S2) H2 := ul none (fun p e => nomatch e)
    have its : Its G n0 g' F1 r1 J xs := its
    have hp : g'.pn D = none := s1.hr.nop hD
    have hgp : g.pn D = none := (ul F1 r1 S1 H1 s1.hr (.refl _ _)).nop hD
    -- what holds ahead of turn i
    refine ⟨fun i m H' => m = xs.length - i ∧ i ≤ xs.length ∧ ∃ F2 r2 S2 acc us, Ext F1 F2 r1 r2 ∧ Sg G n0 (g'.pin D (.lst us)) F2 r2 (wipeE env vs) (L2.wipe σ vs) S2 H' ∧ RVs G F2 r2 acc us ∧
      PoE G n0 g F r env σ ((compR t c fe (xs.drop i) (wipeE env vs) acc S2).bind fun acc S2 => .ok (true, .lst acc) (unlock ls S2)) Q,
      ⟨xs.length, rfl, Nat.zero_le _, F1, r1, S1, [], [], .refl _ _, ⟨s1.hr.pinNew hD, (s1.wipe vs).sl, (s1.wipe vs).vr⟩, rfl, h⟩, ?_⟩
    rintro i m H2 ⟨rfl, hi, F2, r2, S2, acc, us, x2, s2, racc, h2⟩
    have hDr := pin_out s2.hr
    have hDH := (s2.hr.pin D _ pin_at).1
    have hDF := (s2.hr.pin D _ pin_at).2.1
    have hr2 := s2.hr.unpin hp
    obtain ⟨ig, ie⟩ := its (g'.pin D (.lst us)) (fun a o e l => pin_le hp a o e l) F2 r2 S2 H2 s2.hr x2
    by_cases hlt : i < xs.length
    · have hx : xs[i]? = some xs[i] := List.getElem?_eq_getElem hlt
      have hd : xs.drop i = xs[i] :: xs.drop (i + 1) := List.drop_eq_getElem_cons hlt
      rw [hd] at h2
      obtain ⟨go, yl⟩ := ig i xs[i] hx
      refine .inr ⟨go, fun H' => ∃ F2 r2 S2 acc us, Ext F1 F2 r1 r2 ∧ Sg G n0 (g'.pin D (.lst us)) F2 r2 (wipeE env vs) (L2.wipe σ vs) S2 H' ∧ RVs G F2 r2 acc us ∧
        PoE G n0 g F r env σ ((compR t c fe (xs.drop (i + 1)) (wipeE env vs) acc S2).bind fun acc S2 => .ok (true, .lst acc) (unlock ls S2)) Q,
        fun H' q => ⟨xs.length - (i + 1), by omega, rfl, hlt, q⟩, fun v H3 hy => ?_⟩
      obtain ⟨F3, x3, hr3, q3⟩ := yl v H3 hy
      have h3 : PoE G n0 g F r env σ ((match t xs[i] (wipeE env vs) S2 with
        | none => R.no
        | some env' => (c env' S2).bind fun b S1 => if b = true then (fe env' S1).bind fun q S2 => if small acc.length then compR t c fe (xs.drop (i + 1)) (wipeE env vs) (acc ++ [q.2]) S2 else .no
          else compR t c fe (xs.drop (i + 1)) (wipeE env vs) acc S1).bind fun acc S2 => .ok (true, .lst acc) (unlock ls S2)) Q := h2
      cases et : t xs[i] (wipeE env vs) S2 with
      | none => rw [et] at h3; exact h3.elim
      | some env3 =>
        simp only [et] at h3
        refine ht n0 _ F3 r2 (wipeE env vs) (L2.wipe σ vs) S2 H3 xs[i] v env3 (L2.wipe σ vs) _ (wipe_idem σ vs) (s2.ext x3 hr3) q3 et fun σ3 hw3 s3 => ⟨hw3, ?_⟩
        refine ⟨F3, r2, env3, S2, _, s3, ?_⟩
        cases ec : c env3 S2 with
        | no => rw [ec] at h3; exact h3
        | ex => rw [ec] at h3; exact h3
        | ok b S4 =>
          rw [ec] at h3
          intro F4 r4 H4 x4 s4
          have xx : Ext F1 F4 r1 r4 := (x2.trans x3).trans x4
          have back : ∀ {us' F' r' S' H'}, Ext F4 F' r4 r' → Sg G n0 (g'.pin D (.lst us')) F' r' env3 σ3 S' H' → Sg G n0 (g'.pin D (.lst us')) F' r' (wipeE env vs) (L2.wipe σ vs) S' H' := fun {us' F' r' S' H'} x' s' =>
            ⟨s'.hr, s2.sl, fun j w e => by
              obtain ⟨u, e1, q1⟩ := s2.vr j w e
              exact ⟨u, e1, q1.ext ((x3.trans x4).trans x')⟩⟩
          cases b with
          | false => exact ⟨F4, r4, S4, acc, us, xx, back (.refl _ _) s4, racc.ext (x3.trans x4), h3⟩
          | true =>
            have h4 : PoE G n0 g F r env σ (((fe env3 S4).bind fun q S2 => if small acc.length then compR t c fe (xs.drop (i + 1)) (wipeE env vs) (acc ++ [q.2]) S2 else .no).bind fun acc S2 => .ok (true, .lst acc) (unlock ls S2)) Q := h3
            refine ⟨F4, r4, env3, S4, _, s4, ?_⟩
            cases ee : fe env3 S4 with
            | no => rw [ee] at h4; exact h4
            | ex => rw [ee] at h4; exact h4
            | ok q S5 =>
              rw [ee] at h4
              intro F5 r5 H5 y x5 s5 q5
              have h5 : PoE G n0 g F r env σ ((if small acc.length then compR t c fe (xs.drop (i + 1)) (wipeE env vs) (acc ++ [q.2]) S5 else .no).bind fun acc S2 => .ok (true, .lst acc) (unlock ls S2)) Q := h4
              cases hsm : small acc.length with
              | false => rw [hsm] at h5; exact h5.elim
              | true =>
                rw [hsm, if_pos rfl] at h5
                have hr5 := s5.hr
                refine ⟨us, (hr5.pin D _ pin_at).1, by rw [← RVs.length racc]; exact small_lt hsm, F5, r5, S5, acc ++ [q.2], us ++ [y], xx.trans x5, back x5 ⟨hr5.pinSet, s5.sl, s5.vr⟩, (racc.ext ((x3.trans x4).trans x5)).append ⟨y, [], rfl, q5, rfl⟩, h5⟩
    · have e : i = xs.length := by omega
      subst e
      rw [List.drop_length] at h2
      refine .inl ⟨ie _ (Nat.le_refl _), ?_⟩
      have h6 := ul F2 r2 S2 H2 hr2 x2
      have s6 : Sg G n0 g F2 r2 env σ (unlock ls S2) H2 := ⟨h6, s1.sl, fun j w e => by
        obtain ⟨u, e1, q1⟩ := s1.vr j w e
        exact ⟨u, e1, q1.ext x2⟩⟩
      exact h2 F2 r2 H2 (.ref D) (x1.trans x2) s6 ⟨D, .lst us, rfl, hDH, hDF, hDr, hgp, ⟨us, rfl, racc⟩, rfl⟩
theorem sts_nil : PTs X [] (rdT G n0 tYesP) := ⟨fun pins s σ H Q I h => pts_nil.run pins s σ H Q I (by
  obtain ⟨F, r, env, S, g, s, h⟩ := h
  exact h F r H (.refl F r) s)⟩
theorem sts_one {c : Expr} {tc : ST} (h : PT X c (rdT G n0 tc)) : PTs X [c] (rdT G n0 tc) := pts_one h
theorem Tb.blk {cf : CF} {k : Nat} (T : Tb X G cf k) (s : Shared) (H : Hp) (scope : Scope) (cenv : PySem.Env) (fp : List Addr) : Tb (X.blk s H scope cenv fp) G cf k := ⟨T.hK, T.call, T.room, T.calm⟩
theorem se_lc {elt tg iter : Expr} {ifs : List Expr} {scope : Scope} {own : List (Str × Nat)} {pos : Pos} {fi : SI} {t : Tg} {gg : TG} {c : ST} {fe : SE} (hc : X.calm = true) (hN : X.N.Nodup) (hi : PI X tg iter (rdI G n0 fi)) (ok : BlkOk X.N X.env.scope scope own) (ht : TgB G (own.map (·.2)) t gg)
    (hg : ∀ (s : Shared) (H : Hp) (C : Addr) (cl : List (Str × Addr)) (fp : List Addr), PG (X.blk s H scope (compEnvC scope cl C X.env) fp) tg gg)
    (hts : ∀ (s : Shared) (H : Hp) (C : Addr) (cl : List (Str × Addr)) (fp : List Addr), PTs (X.blk s H scope (compEnvC scope cl C X.env) fp) ifs (rdT G n0 c))
    (he : ∀ (s : Shared) (H : Hp) (C : Addr) (cl : List (Str × Addr)) (fp : List Addr), PE (X.blk s H scope (compEnvC scope cl C X.env) fp) elt (rdE G n0 fe)) (hs : ∀ x, foldedSetIterable iter X.env x = pure x := by intro _; rfl) :
    PE X (.ListComp elt [⟨tg, iter, ifs, 0⟩] scope pos) (rdE G n0 (eLc fi t (own.map (·.2)) c fe)) :=
  se_of (pe_lc hc hN hi ok hg hts (fun s H C cl fp => toV (he s H C cl fp)) hs) (lc_core' ht)
end
end PX
set_option Elab.async false
set_option linter.all false
set_option maxRecDepth 100000
set_option maxHeartbeats 1000000
namespace PX
open PySem PySem.Spec PyProof.Rows L2
/-! ### an item: of a list, a tuple, a dict, an own __getitem__ -/
def dIx (x y : PV) (S : Store) : Option (Bool × PV) := match deref S x with
  | some (.dct ks vs) => match keyOf y with
    | some q => match dGet ks vs q with
      | some (some v) => some (false, v)
      | _ => none
    | none => none
  | _ => none
def eIx (cf : CF) (tb : List (Nat × Nat)) (a b : SE) : SE := fun env S => (a env S).bind fun p S1 => (b env S1).bind fun q S2 => match ownOf tb S2 p.2 with
  | some f => callV cf f [p.2, q.2] S2
  | none => match dIx p.2 q.2 S2 with
    | some z => .ok z S2
    | none => ofO (oIx p.2 q.2 S2) S2
section
variable {X : Cx} {k : Nat}
def rIxOwn (X : Cx) (k : Nat) : R2 := fun x y H Q => ∃ a C dx fs g sp, x = .ref a ∧ H a = some (.ins C dx fs) ∧ Spc X.K C g "__getitem__" ∧ PySem.W.fnIn X.K g = true ∧ FnR X.prog X.w X.K X.mg X.base L2.CX0 k g sp ∧ sp [x, y] H Q E0
def rIxDct : R2 := fun x y H Q => ∃ a v, x = .ref a ∧ DGet H a y (some v) ∧ Q v H
theorem pe_ixG {a b : Expr} {ta tb : TE} {pos : Pos} (hr : Room (k + 1) X.A) (ha : PE X a ta) (hb : PE X b tb) (hs : PlainIx b) (hsl : ∀ x i, subscripted b true (.ref x) i = runValue (.builtin "lifetime.subscript" ⟨[.ref x, i], []⟩)) :
    PE X (.Subscript a b pos) (tOp (fun x y H Q => rIxOwn X k x y H Q ∨ rIxDct x y H Q ∨ rIx X.K x y H Q) ta tb) := by
  refine ⟨fun pins s σ H Q I h => ?_⟩
  refine Subscript_ (binT ha hb I h fun v u s2 x y H2 I2 rx ry q => ?_)
  rcases q with q | q | q
  · obtain ⟨a', C, dx, fs, g, sp, rfl, ea, hs', hf, F, q⟩ := q
    cases (show v = Value.ref a' from rx)
    obtain ⟨od, J⟩ := inst_at I2 ea
    obtain ⟨m, hF⟩ := I2.fr
    refine PySem.W.sub_K hF I2.ok.mod.kin J hs'.at_ hf hs'.fn ?_ (hsl a' u)
    exact wpAny_call (SlX.run_at (us := [.ref a', u]) (ws := [.ref a', y]) F hr.in1 I2.env0.in1 pass0 I2 (.cons rfl (.cons ry .nil)) q)
  · obtain ⟨a', z, rfl, gd, q⟩ := q
    cases (show v = Value.ref a' from rx)
    exact tail_any (dict_typeIs I2 gd) PySem.F.slot_dict_getitem.lookup (d_getItem (by have := hr.units; omega) I2 gd ry fun w' s3 I3 rw' => ⟨z, H2, I3, rw', q⟩) (hs _ _)
  · exact ix_seq a b pins s2 σ H2 x y v u Q I2 rx ry q (hs _ _)
end
section
variable {X : Cx} {G : Gam} {n0 : Nat} {cf : CF} {k : Nat}
theorem se_ixG {tb : List (Nat × Nat)} {a b : Expr} {fa fb : SE} {pos : Pos} (T : Tb X G cf k) (hc : ∀ p ∈ tb, Spc G.K (G.ca p.1) (G.fa p.2) "__getitem__" ∧ PySem.W.fnIn G.K (G.fa p.2) = true) (ha : PE X a (rdE G n0 fa)) (hb : PE X b (rdE G n0 fb))
    (hs : PlainIx b) (hsl : ∀ x i, subscripted b true (.ref x) i = runValue (.builtin "lifetime.subscript" ⟨[.ref x, i], []⟩)) : PE X (.Subscript a b pos) (rdE G n0 (eIx cf tb fa fb)) := by
  refine se_of (pe_ixG T.room (toV ha) (toV hb) hs hsl) fun σ H Q ⟨F, r, env, S, g, s, h⟩ => ?_
  refine stV s cnE h fun p S1 F1 r1 H1 u x1 s1 q1 h1 => ?_
  refine stV s1 cnE h1 fun q S2 F2 r2 H2 v x2 s2 q2 h2 => ?_
  have q1' := q1.ext x2
  cases eo : ownOf tb S2 p.2 with
  | some f =>
    simp only [eo] at h2
    obtain ⟨a', c, dx, fs, rfl, k1, k2⟩ := own_at s2.hr q1' eo
    obtain ⟨c1, c2⟩ := hc _ k2
    refine .inl ⟨a', G.ca c, dx, fs, G.fa f, _, rfl, k1, T.hK ▸ c1, T.hK ▸ c2, T.call f 2, ?_⟩
    exact run_call (np := 2) s2 (x1.trans x2) (show RVs G F2 r2 [p.2, q.2] _ from ⟨_, _, rfl, q1', _, [], rfl, q2, rfl⟩) rfl h2
  | none =>
    simp only [eo] at h2
    cases ed : dIx p.2 q.2 S2 with
    | some z =>
      simp only [ed] at h2
      unfold dIx at ed
      split at ed
      · rename_i ks vs edr
        cases ek : keyOf q.2 with
        | none => simp only [ek] at ed; cases ed
        | some kk =>
          simp only [ek] at ed
          cases eg : dGet ks vs kk with
          | none => simp only [eg] at ed; cases ed
          | some o =>
            cases o with
            | none => simp only [eg] at ed; cases ed
            | some w =>
              simp only [eg] at ed
              cases ed
              obtain ⟨a', o', rfl, gd, y, rfl, rv⟩ := dGet_ok s2.hr q1' edr q2 ek eg
              exact .inr (.inl ⟨a', y, rfl, gd, h2 F2 r2 H2 y (x1.trans x2) s2 rv⟩)
      · cases ed
    | none =>
      simp only [ed] at h2
      exact .inr (.inr (T.hK ▸ endO (T := fun Q => rIx G.K u v H2 Q) s2 (x1.trans x2) h2 fun z ez k => ok_ix n0 g F2 r2 S2 H2 p.2 q.2 u v z Q s2.hr q1' q2 ez k))
/-! isinstance(x, (c1, c2, ..)) -/
theorem se_isiT {tb : List (TyN × Bool)} {e : Expr} {fe : SE} {p pos : Pos} {cvs : List V} {cus : List Value} {ht : TA} {es : List Expr} {x1 : _} {tpos : Pos} (hK : G.K = X.K) (hg : Gl X "isinstance") (hm : X.mg "isinstance" = none) (hb : bootBuiltins "isinstance" = some (.builtin "isinstance")) (hcv : Paired ClsV cvs cus)
    (hcl : ∀ t b, (t, b) ∈ tb → PySem.W.kitAny G.K (t.val G) cus = some b ∧ ∀ c, t = .own c → ClsI G c) (he : PE X e (rdE G n0 fe)) (hc : PA X es ht) (hht : ∀ σ H Q, Q cvs H → ht σ H Q) (hlen : cvs.length ≤ sizeLine)
    (hs : starEach [e, .Tuple es x1 tpos] X.env = (false, eval e X.env) :: starEach [.Tuple es x1 tpos] X.env := by rfl) (hs2 : starEach [.Tuple es x1 tpos] X.env = (false, eval (.Tuple es x1 tpos) X.env) :: starEach [] X.env := by rfl) (hpl : (backTo pos (starEach [.Tuple es x1 tpos] X.env)).any (·.1) = false := by rfl) :
    PE X (.Call (.Name "isinstance" p) [e, .Tuple es x1 tpos] [] pos) (rdE G n0 (eIsi tb fe)) := by
  refine peI (pe_callB call_isiT hg hm hb (pa_cons (toV he) (pa_cons (pe_tup hc) pa_nil hs2) hs) (by decide) (by decide) hs hpl) fun σ H Q ⟨F, r, env, S, g, s, h⟩ => ?_
  refine stV s cnE h fun p S1 F1 r1 H1 u x1 s1 q1 h1 => ?_
  simp only at h1
  cases et : tyN S1 p.2 with
  | none => rw [et] at h1; exact h1.elim
  | some t =>
    rw [et] at h1
    cases el : tb.lookup t with
    | none => simp only [el] at h1; exact h1.elim
    | some b =>
      simp only [el] at h1
      obtain ⟨k1, k2⟩ := hcl t b (tb_mem el)
      refine hht _ _ _ ⟨hlen, fun tp htp => ?_⟩
      have h2 := s1.hr.heap (H' := upd H1 tp (.tup cvs)) fun a o e => by rw [upd_ne (ne_of_none e htp)]; exact e
      refine ⟨u, tp, cvs, t.val G, cus, b, rfl, upd_same, hcv, hK ▸ tyN_ok h2 q1 k2 et, hK ▸ k1, ?_⟩
      exact h1 F1 r1 _ _ x1 (s1.ext (.refl _ _) h2) rfl
/-! xs[::-1] -/
def eRev (a : SE) : SE := fun env S => (a env S).bind fun p S1 => match lstOf S1 p.2 with
  | some xs => .ok (true, .lst xs.reverse) S1
  | none => .no
theorem RVs.rev {F : Hp} {r : List Addr} : ∀ {vs : List PV} {us : List V}, RVs G F r vs us → RVs G F r vs.reverse us.reverse
  | [], us, q => by
    cases (show us = [] from q)
    exact rfl
  | v :: vs, us, q => by
    obtain ⟨u, ur, rfl, k, l⟩ := q
    rw [List.reverse_cons, List.reverse_cons]
    exact (RVs.rev l).append ⟨u, [], rfl, k, rfl⟩
theorem se_rev {e : Expr} {fe : SE} {kk : Nat} {p1 p2 p3 pos : Pos} (hK : G.K = X.K) (he : PE X e (rdE G n0 fe)) : PE X (.Subscript e (.Slice none none (some (.UnaryOp .USub (.Constant (.int 1) kk p1) p2)) p3) pos) (rdE G n0 (eRev fe)) := by
  refine se_of (pe_revL (toV he)) fun σ H Q ⟨F, r, env, S, g, s, h⟩ => ?_
  refine stV s cnE h fun p S1 F1 r1 H1 u x1 s1 q1 h1 => ?_
  cases el : lstOf S1 p.2 with
  | none => simp only [el] at h1; exact h1.elim
  | some xs =>
    simp only [el] at h1
    obtain ⟨a, us, rfl, k1, k2⟩ := view_lstOf s1.hr q1 el
    refine ⟨a, us, rfl, .inl k1, fun p' hp => ?_⟩
    obtain ⟨h2, k3⟩ := new_obj s1.hr hp (v := .lst xs.reverse) ⟨_, rfl, k2.rev⟩ rfl
    exact h1 F1 r1 _ _ x1 (s1.ext (.refl _ _) h2) k3
end
/-! ### sorting ints -/
def insI (x : Int) : List Int → List Int
  | [] => [x]
  | y :: ys => if x ≤ y then x :: y :: ys else y :: insI x ys
def srtI : List Int → List Int
  | [] => []
  | x :: xs => insI x (srtI xs)
theorem insI_perm (x : Int) : ∀ ys : List Int, (insI x ys).Perm (x :: ys)
  | [] => .refl _
  | y :: ys => by
    unfold insI
    split
    · exact .refl _
    · exact ((insI_perm x ys).cons y).trans (.swap x y ys)
theorem srtI_perm : ∀ xs : List Int, (srtI xs).Perm xs
  | [] => .refl _
  | x :: xs => (insI_perm x _).trans ((srtI_perm xs).cons x)
theorem insI_mem {x z : Int} {ys : List Int} (h : z ∈ insI x ys) : z = x ∨ z ∈ ys := by
  have := (insI_perm x ys).mem_iff.mp h
  exact List.mem_cons.mp this
theorem insI_sorted (x : Int) : ∀ {ys : List Int}, ys.Pairwise (· ≤ ·) → (insI x ys).Pairwise (· ≤ ·)
  | [], _ => by simp [insI]
  | y :: ys, h => by
    unfold insI
    have hc := List.pairwise_cons.mp h
    split
    · rename_i hxy
      refine List.pairwise_cons.mpr ⟨fun z hz => ?_, h⟩
      rcases List.mem_cons.mp hz with rfl | hz
      · exact hxy
      · exact Int.le_trans hxy (hc.1 z hz)
    · rename_i hxy
      refine List.pairwise_cons.mpr ⟨fun z hz => ?_, insI_sorted x hc.2⟩
      rcases insI_mem hz with rfl | hz
      · omega
      · exact hc.1 z hz
theorem srtI_sorted : ∀ xs : List Int, (srtI xs).Pairwise (· ≤ ·)
  | [] => .nil
  | x :: xs => insI_sorted x (srtI_sorted xs)
theorem sorted_uniq : ∀ {xs ys : List Int}, xs.Pairwise (· ≤ ·) → ys.Pairwise (· ≤ ·) → xs.Perm ys → xs = ys
  | [], ys, _, _, p => p.nil_eq
  | x :: xs, [], _, _, p => by
    have := p.length_eq
    simp at this
  | x :: xs, y :: ys, h1, h2, p => by
    have c1 := List.pairwise_cons.mp h1
    have c2 := List.pairwise_cons.mp h2
    have hxy : x = y := by
      have hx : x ∈ y :: ys := p.mem_iff.mp List.mem_cons_self
      have hy : y ∈ x :: xs := p.mem_iff.mpr List.mem_cons_self
      rcases List.mem_cons.mp hx with e | hx
      · exact e
      · rcases List.mem_cons.mp hy with e | hy
        · exact e.symm
        · have := c1.1 y hy
          have := c2.1 x hx
          omega
    subst hxy
    rw [sorted_uniq c1.2 c2.2 ((List.perm_cons x).mp p)]
theorem srtI_eq {ns ns' : List Int} (p : ns'.Perm ns) (h : ns'.Pairwise (· ≤ ·)) : ns' = srtI ns := sorted_uniq h (srtI_sorted ns) (p.trans (srtI_perm ns).symm)
def keysI : List Key → Option (List Int)
  | [] => some []
  | .inl i :: r => (keysI r).map (i :: ·)
  | .inr _ :: _ => none
theorem keysI_ok : ∀ {ks : List Key} {ns : List Int}, keysI ks = some ns → ks = ns.map Sum.inl
  | [], ns, e => by cases e; rfl
  | .inl i :: r, ns, e => by
    have e : (keysI r).map (i :: ·) = some ns := e
    cases e1 : keysI r with
    | none => rw [e1] at e; cases e
    | some ms =>
      rw [e1] at e
      cases e
      rw [keysI_ok e1]
      rfl
  | .inr _ :: _, _, e => by cases e
def bSort : OpN := fun xs S => match xs with
  | [v] => match deref S v with
    | some (.lst ws) => (intsOf ws).map fun ns => (true, .lst ((srtI ns).map .int))
    | some (.dct (.k ks) _) => match keysI ks with
      | some ns => if Nat.ble ns.length 63 then some (true, .lst ((srtI ns).map .int)) else none
      | none => none
    | _ => none
  | _ => none
/-! dict(pairs) -/
def pairsK : List PV → Option (List Key × List PV)
  | [] => some ([], [])
  | .tup [a, b] :: r => match keyOf a with
    | some (.k q) => match pairsK r with
      | some z => some (q :: z.1, b :: z.2)
      | none => none
    | _ => none
  | _ :: _ => none
def mergeB : List Key → List PV → List Key → List PV → List Key × List PV
  | ks, vs, q :: qs, w :: ws => let z := putB eqK ks vs q w; mergeB z.1 z.2 qs ws
  | ks, vs, _, _ => (ks, vs)
def bDict : OpN := fun xs S => match xs with
  | [v] => match deref S v with
    | some (.lst ws) => match pairsK ws with
      | some z => let y := mergeB [] [] z.1 z.2; some (true, .dct (.k y.1) y.2)
      | none => none
    | some (.dct (.k ks) vs) => some (true, .dct (.k ks) vs)
    | _ => none
  | _ => none
section
variable {X : Cx} {G : Gam}
def rSort (K : PySem.W.Frag) : List V → Hp → VK → Prop := fun vs H Q => rSortedI K vs H Q ∨ ∃ (a : Addr) (kvs : List (Key × V)) (ks : List Int), vs = [.ref a] ∧ Rd H a (.dK kvs) ∧ kvs.map (·.1) = ks.map Sum.inl ∧ ks.length < 64 ∧
    ∀ (ys : List Int) (p : Addr), ys.Perm ks → ys.Pairwise (· ≤ ·) → H p = none → Q (.ref p) (upd H p (.lst (ys.map V.int)))
theorem cr_sort (hc : X.calm = true) : CallR X (.builtin "sorted") (rSort X.K) := by
  intro pins s σ H vs us Q I r h
  rcases h with h | h
  · exact cr_sortedI pins s σ H vs us Q I r h
  · exact call_sortedDI hc pins s σ H vs us Q I r h
theorem RVs.toI {F : Hp} {r : List Addr} (ns : List Int) : RVs G F r (ns.map PV.int) (ns.map V.int) := RVs.of_ints ns
theorem ok_sort : OkN G bSort (rSort G.K) := fun n0 g F r S H xs us z Q h q e k => by
  unfold bSort at e
  split at e
  · obtain ⟨u, rfl, q1⟩ := one_of q
    split at e
    · rename_i ws ed
      cases en : intsOf ws with
      | none => rw [en] at e; cases e
      | some ns =>
        rw [en] at e
        cases e
        obtain ⟨a, us, rfl, k1, k2⟩ := view_lst h q1 ed
        rw [intsOf_eq en] at k2
        rw [RVs.ints k2] at k1
        refine .inl ⟨a, ns, rfl, .inl k1, fun ns' p hp hs hH => ?_⟩
        rw [srtI_eq hp hs]
        obtain ⟨h2, k3⟩ := new_obj h hH (v := .lst ((srtI ns).map .int)) ⟨_, rfl, RVs.toI _⟩ rfl
        exact k F r _ _ (.refl F r) h2 k3
    · rename_i ks ws ed
      cases en : keysI ks with
      | none => simp only [en] at e; cases e
      | some ns =>
        simp only [en] at e
        split at e
        · rename_i hl
          cases e
          obtain ⟨a, ho, us, rfl, k1, k2, k3⟩ := view_dct h q1 ed
          obtain ⟨rfl, hlen⟩ := k2
          refine .inr ⟨a, _, ns, rfl, .inl k1, ?_, by have := Nat.le_of_ble_eq_true hl; omega, fun ys p hp hs hH => ?_⟩
          · rw [keysI_ok en] at hlen ⊢
            rw [show (fun x : Key × V => x.1) = Prod.fst from rfl, List.map_fst_zip (Nat.le_of_eq hlen)]
          · rw [srtI_eq hp hs]
            obtain ⟨h2, k4⟩ := new_obj h hH (v := .lst ((srtI ns).map .int)) ⟨_, rfl, RVs.toI _⟩ rfl
            exact k F r _ _ (.refl F r) h2 k4
        · cases e
    · cases e
  · cases e
theorem pairsK_ok {F : Hp} {r : List Addr} : ∀ {ws : List PV} {us : List V} {z : List Key × List PV}, RVs G F r ws us → pairsK ws = some z →
    ∃ (ps : List Addr) (ys : List V), us = ps.map V.ref ∧ z.1.length = ys.length ∧ RVs G F r z.2 ys ∧ Paired (fun p kv => F p = some (.tup [kV kv.1, kv.2])) ps (z.1.zip ys)
  | [], us, z, q, e => by
    cases e
    exact ⟨[], [], q, rfl, rfl, .nil⟩
  | w :: ws, us, z, q, e => by
    unfold pairsK at e
    split at e
    · rename_i h0; cases h0
    · rename_i a b r' h0
      cases h0
      split at e
      · rename_i kk ek
        split at e
        · rename_i y ey
          cases e
          obtain ⟨u, ur, rfl, k, l⟩ := q
          obtain ⟨p, ts, rfl, k1, k2⟩ := k
          obtain ⟨ua, ub, rfl, ka, kb⟩ := two_of k2
          obtain ⟨ps, ys, rfl, e1, e2, e3⟩ := pairsK_ok l ey
          rw [keyOf_k ka ek] at k1
          exact ⟨p :: ps, ub :: ys, rfl, by simpa using e1, ⟨ub, ys, rfl, kb, e2⟩, .cons k1 e3⟩
        · cases e
      · cases e
    · cases e
theorem mergeB_ok {F : Hp} {r : List Addr} : ∀ {qs : List Key} {ws : List PV} {ys : List V} {ks : List Key} {vs : List PV} {us : List V}, qs.length = ys.length → RVs G F r ws ys → ks.length = us.length → RVs G F r vs us →
    ∃ us', mergeK (ks.zip us) (qs.zip ys) = (mergeB ks vs qs ws).1.zip us' ∧ (mergeB ks vs qs ws).1.length = us'.length ∧ RVs G F r (mergeB ks vs qs ws).2 us'
  | [], ws, ys, ks, vs, us, _, _, hl, k => by
    have e : mergeB ks vs [] ws = (ks, vs) := by cases ws <;> rfl
    rw [e]
    exact ⟨us, rfl, hl, k⟩
  | q :: qs, ws, [], ks, vs, us, h, _, _, _ => by cases h
  | q :: qs, [], y :: ys, ks, vs, us, _, k', _, _ => by cases (show (y :: ys) = [] from k')
  | q :: qs, w :: ws, y :: ys, ks, vs, us, h, k', hl, k => by
    obtain ⟨u', ur, e, k1, k2⟩ := k'
    cases e
    obtain ⟨us1, e1, e2, e3⟩ := putB_ok eqK_ok k1 (q := q) hl k
    obtain ⟨us2, e4, e5, e6⟩ := mergeB_ok (qs := qs) (by simpa using h) k2 e2 e3
    refine ⟨us2, ?_, e5, e6⟩
    show mergeK (putK (ks.zip us) q y) (qs.zip ys) = _
    rw [e1]
    exact e4
def rDict (K : PySem.W.Frag) : List V → Hp → VK → Prop := fun xs H Q => (∃ (a : Addr) (ps : List Addr) (kvs : List (Key × V)), xs = [.ref a] ∧ SqL K H a (ps.map V.ref) ∧ Paired (fun p kv => SqT K H p [kV kv.1, kv.2]) ps kvs ∧
    ∀ p, H p = none → Q (.ref p) (upd H p (.dK (mergeK [] kvs)))) ∨ ∃ (a : Addr) (kvs : List (Key × V)), xs = [.ref a] ∧ Rd H a (.dK kvs) ∧ ∀ p, H p = none → Q (.ref p) (upd H p (.dK kvs))
theorem cr_dict (hc : X.calm = true) : CallR X (.type "dict") (rDict X.K) := by
  intro pins s σ H vs us Q I r h
  rcases h with h | h
  · exact call_dictP hc pins s σ H vs us Q I r h
  · exact call_dictD pins s σ H vs us Q I r h
theorem Paired.imp' {α β : Type} {R R' : α → β → Prop} (h : ∀ a b, R a b → R' a b) : ∀ {as : List α} {bs : List β}, Paired R as bs → Paired R' as bs
  | _, _, .nil => .nil
  | _, _, .cons a b => .cons (h _ _ a) (Paired.imp' h b)
theorem ok_dict : OkN G bDict (rDict G.K) := fun n0 g F r S H xs us z Q h q e k => by
  unfold bDict at e
  split at e
  · obtain ⟨u, rfl, q1⟩ := one_of q
    split at e
    · rename_i ws ed
      cases ep : pairsK ws with
      | none => simp only [ep] at e; cases e
      | some y =>
        simp only [ep] at e
        cases e
        obtain ⟨a, us, rfl, k1, k2⟩ := view_lst h q1 ed
        obtain ⟨ps, ys, rfl, e1, e2, e3⟩ := pairsK_ok k2 ep
        refine .inl ⟨a, ps, _, rfl, .inl k1, Paired.imp' (fun _ _ e => h.sub.tp e) e3, fun p hp => ?_⟩
        obtain ⟨us', f1, f2, f3⟩ := mergeB_ok (ks := []) (vs := []) (us := []) e1 e2 rfl rfl
        have f1 : mergeK [] (y.1.zip ys) = _ := f1
        rw [f1]
        obtain ⟨h2, k4⟩ := new_obj h hp (v := .dct (.k (mergeB [] [] y.1 y.2).1) (mergeB [] [] y.1 y.2).2) ⟨us', ⟨rfl, f2⟩, f3⟩ rfl
        exact k F r _ _ (.refl F r) h2 k4
    · rename_i ks vs ed
      cases e
      obtain ⟨a, ho, us, rfl, k1, k2, k3⟩ := view_dct h q1 ed
      obtain ⟨rfl, hlen⟩ := k2
      refine .inr ⟨a, _, rfl, .inl k1, fun p hp => ?_⟩
      obtain ⟨h2, k4⟩ := new_obj h hp (v := .dct (.k ks) vs) ⟨us, ⟨rfl, hlen⟩, k3⟩ rfl
      exact k F r _ _ (.refl F r) h2 k4
    · cases e
  · cases e
end
end PX
set_option Elab.async false
set_option linter.all false
set_option maxRecDepth 100000
namespace PX
open PySem PySem.Spec PyProof.Rows L2 He
/-! ### the head: facts as checks of the written part (without its lists) -/
def noLst (g : Addr → Option Obj) : Addr → Option Obj := fun a => match g a with
  | some o => (match o.cls with
    | .type n => if n = "list" then none else some o
    | _ => some o)
  | none => none
theorem noLst_at {g : Addr → Option Obj} {a : Addr} {o : Obj} (h : noLst g a = some o) : g a = some o ∧ o.cls ≠ .type "list" := by
  unfold noLst at h
  cases e : g a with
  | none => rw [e] at h; cases h
  | some ob =>
    rw [e] at h
    simp only at h
    cases ec : ob.cls with
    | type n =>
      rw [ec] at h
      simp only at h
      split at h
      · cases h
      · rename_i hn
        cases h
        rw [ec]
        exact ⟨rfl, fun z => hn (Value.type.inj z)⟩
    | _ =>
      rw [ec] at h
      cases h
      rw [ec]
      exact ⟨rfl, fun z => nomatch z⟩
abbrev Ck : Type := PySem.W.Frag → Bool
def obsP (fb : List Ck) (fn : List DefD) (K : PySem.W.Frag) : AlD := ((fb.all fun f => f K) && fn.all fun d => d.ok K, fn.map fun d => fnW K d.at_)
structure SaysP (fb : List Ck) (fn : List DefD) (K : PySem.W.Frag) : Prop where
  eq : obsP fb fn K = valD fn
  nol : ∀ a o, K.lookup a = some o → o.cls ≠ .type "list"
def obsPG (n : Nat) (fb : List Ck) (fn : List DefD) (g : Addr → Option Obj) : AlD := obsP fb fn (frG (noLst g) (asD g n))
def hookP (n : Nat) (fb : List Ck) (fn : List DefD) : PySem.W.Hook where
  α := AlD
  obs := fun s => obsPG n fb fn s.heap.get?
  val := fun _ => valD fn
  says := fun _ h => ∃ K : PySem.W.Frag, K.In h ∧ SaysP fb fn K
  of := fun _ _ e => ⟨_, fun _ _ e' => (noLst_at (frG_at _ e')).1, e, fun _ _ e' => (noLst_at (frG_at _ e')).2⟩
  keeps := fun _ _ _ ⟨K, hK, c⟩ k => ⟨K, PySem.W.Frag.In.keeps hK k, c⟩
theorem obsPG_eq {n : Nat} {fb : List Ck} {fn : List DefD} {g : Addr → Option Obj} {s : Shared} (h : ∀ a, g a = s.heap.get? a) : obsPG n fb fn g = (hookP n fb fn).obs s := by
  have e : g = s.heap.get? := funext h
  rw [e] <;> rfl
section
variable {fb : List Ck} {fn : List DefD} {K : PySem.W.Frag}
theorem SaysP.fact (c : SaysP fb fn K) (i : Nat) {f : Ck} (h : fb[i]? = some f := by rfl) : f K = true := by
  have c1 := (He.ba (show ((fb.all fun f => f K) && fn.all fun d => d.ok K) = true from congrArg (fun z : AlD => z.1) c.eq)).1
  exact List.all_eq_true.mp c1 f (List.mem_of_getElem? h)
theorem SaysP.def_ (c : SaysP fb fn K) (i : Nat) {d : DefD} (h : fn[i]? = some d := by rfl) : ∃ fd, FunD K d.name d.qual d.params d.body d.scope (d.dvs K) (d.kws K) (fAd K d.at_) fd := by
  have c2 := (He.ba (show ((fb.all fun f => f K) && fn.all fun d => d.ok K) = true from congrArg (fun z : AlD => z.1) c.eq)).2
  have e : fn.map (fun d => fnW K d.at_) = fn.map DefD.val := congrArg (fun z : AlD => z.2) c.eq
  have e2 : (fn.map fun d => fnW K d.at_)[i]? = (fn.map DefD.val)[i]? := by rw [e]
  rw [List.getElem?_map, List.getElem?_map, h] at e2
  exact DefD.funD (Option.some.inj e2) (List.all_eq_true.mp c2 d (List.mem_of_getElem? h))
end
/-! names by number -/
def gam (fs : List (Str × Option Str)) (cs ns : List Str) (K : PySem.W.Frag) : Gam := ⟨K, fun i => fAd K (fs.getD i ("", none)), fun c => ga K (cs.getD c ""), fun n => ns.getD n ""⟩
theorem inj_nm {fs : List (Str × Option Str)} {cs ns : List Str} {K : PySem.W.Frag} (i : Nat) (hi : i < ns.length) (hn : ns.Nodup) (he : ("" : Str) ∉ ns) : Inj (gam fs cs ns K) i := fun j e => by
  have e : ns.getD j "" = ns.getD i "" := e
  have hi' : ns.getD i "" = ns[i] := by simp [List.getD_eq_getElem?_getD, hi]
  by_cases hj : j < ns.length
  · have hj' : ns.getD j "" = ns[j] := by simp [List.getD_eq_getElem?_getD, hj]
    rw [hi', hj'] at e
    exact (List.getElem_inj hn).mp e
  · have hj' : ns.getD j "" = "" := by simp [List.getD_eq_getElem?_getD, hj]
    rw [hi', hj'] at e
    exact absurd (e ▸ List.getElem_mem hi) he
/-! kinds of checks -/
def cGlo (x : Str) : Ck := fun K => eqO (PySem.W.nsIn K mainGlobals x) (some (some (.ref (ga K x))))
def cFree (x : Str) : Ck := fun K => eqO (PySem.W.nsIn K mainGlobals x) (some none)
def cInt (x : Str) (i : Int) : Ck := fun K => Fa.ok K (.int x i)
def cKeep (G : PySem.W.Frag → Gam) (f : Nat) : Ck := fun K => PySem.W.keepIn K (.ref ((G K).fa f))
def clsB (K : PySem.W.Frag) (C : Addr) : Bool := PySem.W.plainGet K C Str.empty && (PySem.W.hasDictIn K C && (PySem.W.plainOver K C && eqO (PySem.W.findIn K (.ref C) "__setattr__") (some (some (.builtin "object.__setattr__")))))
def isiB (K : PySem.W.Frag) (C : Addr) : Bool := eqO (PySem.W.findIn K (.ref C) "__class__") (some (some (.builtin "object.__class__"))) && (eqO (PySem.W.specialIn K (.builtin "object.__class__") "__get__") (some (some (.builtin "getset_descriptor.__get__"))) &&
  (decide (PySem.W.takesIn K (.builtin "object.__class__") = some true) && decide (PySem.W.mroIn K C (.type "object") = some true)))
def methB (K : PySem.W.Frag) (C f : Addr) (m : Str) : Bool := eqO (PySem.W.findIn K (.ref C) m) (some (some (.ref f))) && (PySem.W.isFn K (.ref f) && PySem.W.keepIn K (.ref f))
def cCls (G : PySem.W.Frag → Gam) (cs : List Nat) : Ck := fun K => cs.all fun c => clsB K ((G K).ca c) && isiB K ((G K).ca c)
def cFld (G : PySem.W.Frag → Gam) (f : Nat) (cs : List Nat) : Ck := fun K => cs.all fun c => clsB K ((G K).ca c) && eqO (PySem.W.findIn K (.ref ((G K).ca c)) ((G K).nm f)) (some none)
def cMet (G : PySem.W.Frag → Gam) (m : Nat) (tb : List (Nat × Nat)) : Ck := fun K => tb.all fun p => clsB K ((G K).ca p.1) && methB K ((G K).ca p.1) ((G K).fa p.2) ((G K).nm m)
def cMk (G : PySem.W.Frag → Gam) (c f : Nat) : Ck := fun K => PySem.W.makesIn K ((G K).ca c) && (eqO (PySem.W.findIn K (.ref ((G K).ca c)) "__init__") (some (some (.ref ((G K).fa f)))) && (PySem.W.isFn K (.ref ((G K).fa f)) && PySem.W.keepIn K (.ref ((G K).ca c))))
def cSpc (G : PySem.W.Frag → Gam) (tb : List (Nat × Nat)) (m : Str) : Ck := fun K => tb.all fun p => eqO (PySem.W.findIn K (.ref ((G K).ca p.1)) m) (some (some (.ref ((G K).fa p.2)))) && (PySem.W.isFn K (.ref ((G K).fa p.2)) && PySem.W.fnIn K ((G K).fa p.2))
def cNe (G : PySem.W.Frag → Gam) (tb : List (Nat × Nat)) : Ck := fun K => tb.all fun p => eqO (PySem.W.findIn K (.ref ((G K).ca p.1)) "__ne__") (some (some (.builtin "object.__ne__"))) && decide (PySem.W.mroIn K ((G K).ca p.1) (.type "object") = some true)
def cNf (G : PySem.W.Frag → Gam) (tb : List (Nat × Nat)) (tys : List TyN) : Ck := fun K => tb.all fun p => tys.all fun t => PySem.W.notFirst K ((G K).ca p.1) (t.val (G K))
def cKit (G : PySem.W.Frag → Gam) (tb : List (TyN × Bool)) (cu : PySem.W.Frag → Value) : Ck := fun K => tb.all fun p => decide (PySem.W.kitOne K (p.1.val (G K)) (cu K) = some p.2)
def cKitT (G : PySem.W.Frag → Gam) (tb : List (TyN × Bool)) (cus : PySem.W.Frag → List Value) : Ck := fun K => tb.all fun p => decide (PySem.W.kitAny K (p.1.val (G K)) (cus K) = some p.2)
section
variable {K : PySem.W.Frag} {h : Heap} {mg : Str → Option Value}
theorem cGlo_ok (X : K.In h) (G : h.Ns mainGlobals mg) {x : Str} (c : cGlo x K = true) : mg x = some (.ref (ga K x)) := PySem.W.mg_of X G (eqO_ok c)
theorem cFree_ok (X : K.In h) (G : h.Ns mainGlobals mg) {x : Str} (c : cFree x K = true) : mg x = none := PySem.W.mg_none_of X G (eqO_ok c)
theorem cInt_ok (X : K.In h) (G : h.Ns mainGlobals mg) {x : Str} {i : Int} (c : cInt x i K = true) : ∃ u, mg x = some u ∧ RelV (.int i) u := by
  obtain ⟨t, e⟩ := int_ok X G c
  exact ⟨_, e, ⟨t, rfl⟩⟩
variable {G : PySem.W.Frag → Gam}
theorem clsB_ok {C : Addr} (c : clsB K C = true) : Cls K C := by
  obtain ⟨c1, c⟩ := He.ba c
  obtain ⟨c2, c⟩ := He.ba c
  obtain ⟨c3, c4⟩ := He.ba c
  exact ⟨c1, c2, c3, eqO_ok c4⟩
theorem isiB_ok {C : Addr} (c : isiB K C = true) : SlX.SIsi K C := by
  obtain ⟨c1, c⟩ := He.ba c
  obtain ⟨c2, c⟩ := He.ba c
  obtain ⟨c3, c4⟩ := He.ba c
  exact ⟨eqO_ok c1, eqO_ok c2, of_decide_eq_true c3, of_decide_eq_true c4⟩
theorem methB_ok {C f : Addr} {m : Str} (c : methB K C f m = true) : Meth K C m f := by
  obtain ⟨c1, c⟩ := He.ba c
  obtain ⟨c2, c3⟩ := He.ba c
  exact ⟨eqO_ok c1, c2, c3⟩
theorem cCls_ok (hG : (G K).K = K) {cs : List Nat} (h : cCls G cs K = true) : ∀ c ∈ cs, ClsI (G K) c := fun c hc => by
  obtain ⟨h1, h2⟩ := He.ba (List.all_eq_true.mp h c hc)
  exact ⟨hG.symm ▸ clsB_ok h1, hG.symm ▸ isiB_ok h2⟩
theorem cFld_ok (hG : (G K).K = K) {f : Nat} {cs : List Nat} (h : cFld G f cs K = true) : ∀ c ∈ cs, Cls (G K).K ((G K).ca c) ∧ NoAttr (G K).K ((G K).ca c) ((G K).nm f) := fun c hc => by
  obtain ⟨h1, h2⟩ := He.ba (List.all_eq_true.mp h c hc)
  rw [hG]
  exact ⟨clsB_ok h1, eqO_ok h2⟩
theorem cMet_ok (hG : (G K).K = K) {m : Nat} {tb : List (Nat × Nat)} (h : cMet G m tb K = true) : ∀ p ∈ tb, Cls (G K).K ((G K).ca p.1) ∧ Meth (G K).K ((G K).ca p.1) ((G K).nm m) ((G K).fa p.2) := fun p hp => by
  obtain ⟨h1, h2⟩ := He.ba (List.all_eq_true.mp h p hp)
  rw [hG]
  exact ⟨clsB_ok h1, methB_ok h2⟩
theorem cMk_ok (hG : (G K).K = K) {c f : Nat} (h : cMk G c f K = true) : Mk (G K).K ((G K).ca c) ((G K).fa f) := by
  obtain ⟨h1, h⟩ := He.ba h
  obtain ⟨h2, h⟩ := He.ba h
  obtain ⟨h3, h4⟩ := He.ba h
  rw [hG]
  exact ⟨h1, eqO_ok h2, h3, h4⟩
theorem cSpc_ok (hG : (G K).K = K) {tb : List (Nat × Nat)} {m : Str} (h : cSpc G tb m K = true) : ∀ p ∈ tb, Spc (G K).K ((G K).ca p.1) ((G K).fa p.2) m ∧ PySem.W.fnIn (G K).K ((G K).fa p.2) = true := fun p hp => by
  obtain ⟨h1, h2⟩ := He.ba (List.all_eq_true.mp h p hp)
  obtain ⟨h2, h3⟩ := He.ba h2
  rw [hG]
  exact ⟨⟨eqO_ok h1, h2⟩, h3⟩
def ownIn (cs : List Nat) : TyN → Bool
  | .own c => cs.contains c
  | _ => true
theorem ownIn_ok {cs : List Nat} {c : Nat} (h : ownIn cs (.own c) = true) : c ∈ cs := by
  have h : cs.contains c = true := h
  simpa using h
theorem cEq_ok (hG : (G K).K = K) {tb : List (Nat × Nat)} {tys : List TyN} {cs : List Nat} (h1 : cSpc G tb "__eq__" K = true) (h2 : cNe G tb K = true) (h3 : cNf G tb tys K = true) (h4 : cCls G cs K = true) (h5 : (tys.all fun t => ownIn cs t) = true) : EqT (G K) tb tys := by
  refine ⟨fun p hp => (cSpc_ok hG h1 p hp).1, fun p hp => ?_, fun p hp t ht => ?_, fun c hc => cCls_ok hG h4 c (ownIn_ok (List.all_eq_true.mp h5 _ hc))⟩
  · obtain ⟨a, b⟩ := He.ba (List.all_eq_true.mp h2 p hp)
    rw [hG]
    exact ⟨eqO_ok a, of_decide_eq_true b⟩
  · rw [hG]
    exact List.all_eq_true.mp (List.all_eq_true.mp h3 p hp) t ht
theorem cKit_ok (hG : (G K).K = K) {tb : List (TyN × Bool)} {cu : PySem.W.Frag → Value} {cs : List Nat} (h1 : cKit G tb cu K = true) (h4 : cCls G cs K = true) (h5 : (tb.all fun p => ownIn cs p.1) = true) : ∀ t b, (t, b) ∈ tb → PySem.W.kitOne (G K).K (t.val (G K)) (cu K) = some b ∧ ∀ c, t = .own c → ClsI (G K) c := fun t b hm => by
  refine ⟨?_, fun c hc => ?_⟩
  · rw [hG]
    exact of_decide_eq_true (List.all_eq_true.mp h1 (t, b) hm)
  · subst hc
    exact cCls_ok hG h4 c (ownIn_ok (List.all_eq_true.mp h5 _ hm))
theorem cKitT_ok (hG : (G K).K = K) {tb : List (TyN × Bool)} {cus : PySem.W.Frag → List Value} {cs : List Nat} (h1 : cKitT G tb cus K = true) (h4 : cCls G cs K = true) (h5 : (tb.all fun p => ownIn cs p.1) = true) : ∀ t b, (t, b) ∈ tb → PySem.W.kitAny (G K).K (t.val (G K)) (cus K) = some b ∧ ∀ c, t = .own c → ClsI (G K) c := fun t b hm => by
  refine ⟨?_, fun c hc => ?_⟩
  · rw [hG]
    exact of_decide_eq_true (List.all_eq_true.mp h1 (t, b) hm)
  · subst hc
    exact cCls_ok hG h4 c (ownIn_ok (List.all_eq_true.mp h5 _ hm))
end
/-! ### a def keeps its promise -/
section
variable {P : Program} {w : World} {K : PySem.W.Frag} {mg : Str → Option Value} {base : Heap} {G : Gam}
theorem spF_np {T : Nat → Option FnB} {n f np : Nat} {b : FnB} {vs : List V} {H : Hp} {Q : VK} {E : XK} (hT : T f = some b) (h : spF G (callF T (n + 1)) f np vs H Q E) : np = b.np := by
  obtain ⟨F, r, S, g, n0, args, hr, q, l, h⟩ := h
  have h : (match (match T f with
    | some b => runB b (callF T n) args n0 S
    | none => R.no) with
    | .ok v S' => ∀ F' r' H' u, Ext F F' r r' → HR G n0 g F' r' S' H' → RV G F' r' v u → Q u H'
    | _ => False) := h
  rw [hT] at h
  simp only [runB] at h
  by_cases hl : args.length = b.np
  · rw [← l, hl]
  · rw [if_neg hl] at h
    exact h.elim
theorem spF_none {T : Nat → Option FnB} {n f np : Nat} {vs : List V} {H : Hp} {Q : VK} {E : XK} (hT : T f = none) (h : spF G (callF T n) f np vs H Q E) : False := by
  obtain ⟨F, r, S, g, n0, args, hr, q, l, h⟩ := h
  cases n with
  | zero => exact h
  | succ n =>
    have h : (match (match T f with
      | some b => runB b (callF T n) args n0 S
      | none => R.no) with
      | .ok v S' => ∀ F' r' H' u, Ext F F' r r' → HR G n0 g F' r' S' H' → RV G F' r' v u → Q u H'
      | _ => False) := h
    rw [hT] at h
    exact h
abbrev All (P : Program) (w : World) (K : PySem.W.Frag) (mg : Str → Option Value) (base : Heap) (G : Gam) (T : Nat → Option FnB) (n : Nat) : Prop := ∀ f np, FnR P w K mg base L2.CX0 (2 * n) (G.fa f) (spF G (callF T n) f np)
theorem all_zero {T : Nat → Option FnB} : All P w K mg base G T 0 := fun f np A outer s H us vs Q E hr he hv hs => by
  obtain ⟨F, r, S, g, n0, args, hr, q, l, h⟩ := hs
  exact h.elim
theorem def_fn {T : Nat → Option FnB} {n f : Nat} {b : FnB} {x qual : Str} {params : Arguments} {body : List Stmt} {scope : Scope} {fd : FuncData} {N ps : List Str} (hT : T f = some b) (F : FunD K x qual params body scope [] [] (G.fa f) fd) (S : FnScope N ps scope) (hn : b.nl = N.length) (hp : ps.length = b.np)
    (hbody : ∀ (cdv : Value) (A : Around) (outer : List PySem.Env) (s : Shared) (H : Hp) (E : XK) (n0 : Nat), Room (2 * n + 1) (A.deeper (envOfC qual scope s.heap.objs.size (G.fa f) cdv)) →
      PSs (cxOf L2.CX0 P w K mg base N qual scope (G.fa f) cdv A outer s H E).nox body (rdS G n0 (b.body (callF T n) n0))) : FnOk P w K mg base L2.CX0 (2 * (n + 1)) (G.fa f) fd ps (spF G (callF T (n + 1)) f b.np) :=
  F.ok S (fun vs H Q E h => by rw [spF_len vs H Q E h, hp]) fun cdv A outer s H vs Q E hr h => by
    obtain ⟨n0, hb⟩ := body_ok hT hn h
    exact ⟨_, PSs.nox (hbody cdv A outer s H E n0 hr), hb⟩
theorem def_ok {T : Nat → Option FnB} {n f : Nat} {b : FnB} {x qual : Str} {params : Arguments} {body : List Stmt} {scope : Scope} {fd : FuncData} {N ps : List Str} (hT : T f = some b) (F : FunD K x qual params body scope [] [] (G.fa f) fd) (S : FnScope N ps scope) (hn : b.nl = N.length) (hp : ps.length = b.np)
    (hb : Binds K fd ps []) (hbody : ∀ (cdv : Value) (A : Around) (outer : List PySem.Env) (s : Shared) (H : Hp) (E : XK) (n0 : Nat), Room (2 * n + 1) (A.deeper (envOfC qual scope s.heap.objs.size (G.fa f) cdv)) →
      PSs (cxOf L2.CX0 P w K mg base N qual scope (G.fa f) cdv A outer s H E).nox body (rdS G n0 (b.body (callF T n) n0))) : ∀ np, FnR P w K mg base L2.CX0 (2 * (n + 1)) (G.fa f) (spF G (callF T (n + 1)) f np) := by
  have ok := def_fn hT F S hn hp hbody
  intro np A outer s H us vs Q E hr he hv hs
  have e := spF_np hT hs
  subst e
  exact (ok.raw hb .nil) A outer s H us vs Q E hr he hv (by show spF G (callF T (n + 1)) f b.np (vs ++ []) H Q E; rw [List.append_nil]; exact hs)
end
section
variable {P : Program} {w : World} {K : PySem.W.Frag} {mg : Str → Option Value} {base : Heap} {G : Gam}
/-! ### the law -/
theorem law_sp {T : Nat → Option FnB} {n f : Nat} {H : Hp} {a : Addr} {ns : List Int} {S' : Store} (nol : ∀ a o, K.lookup a = some o → o.cls ≠ .type "list") (hS : SqL K H a (ns.map V.int)) (h : callF T n f [.lst (ns.map .int)] 0 [] = .ok (.bl true) S') :
    spF G (callF T n) f 1 [.ref a] H (fun v _ => v = .bl true) fun _ _ _ => False := by
  have hR : Rd H a (.lst (ns.map V.int)) := by
    rcases hS with h | ⟨o, its, k, h1, h2, _⟩
    · exact h
    · exact absurd h2 (nol a o h1)
  have hF : Le (fun b => if b = a then H a else none) H := fun b o e => by
    have e : (if b = a then H a else none) = some o := e
    split at e
    · rename_i hb
      rw [hb]
      exact e
    · cases e
  refine ⟨fun b => if b = a then H a else none, [], [], ⟨fun _ => 0, fun _ => none, fun _ => false⟩, 0, [.lst (ns.map .int)], ⟨hF, .nil, fun b hb => absurd hb (by simp), rfl, Nat.le_refl _, fun i hi => absurd hi (Nat.not_lt_zero i), fun i ob b e => absurd e (by simp), fun b o e => (by cases e), fun i ob b e => absurd e (by simp), fun b o e => (by cases e)⟩, ⟨.ref a, [], rfl, ⟨a, ns.map V.int, rfl, ?_, RVs.of_ints ns⟩, rfl⟩, rfl, ?_⟩
  · rcases hR with h | ⟨o, h⟩
    · exact .inl (by show (if a = a then H a else none) = _; rw [if_pos rfl]; exact h)
    · exact .inr ⟨o, by show (if a = a then H a else none) = _; rw [if_pos rfl]; exact h⟩
  · rw [h]
    exact fun F' r' H' u _ _ q => q
end
end PX
set_option Elab.async false
set_option linter.all false
set_option maxRecDepth 100000
namespace PX
open PySem PySem.Spec PyProof.Rows L2
/-! helps for printed derivations -/
def isFnK : ScopeKind → Bool
  | .function => true
  | _ => false
def blkB (N : List Str) (sc scope : Scope) (own : List (Str × Nat)) : Bool := isFnK scope.kind && (scope.names.all (fun y => decide (scope.names.lookup y.1 = some y.2)) && (own.all (fun p => decide (N[p.2]? = some p.1)) &&
  (scope.names.all (fun y => !decide (y.2 = .free) || (decide (sc.names.lookup y.1 = some .cell) || decide (sc.names.lookup y.1 = some .free))) &&
  scope.names.all (fun y => !(decide (y.2 = .local) || decide (y.2 = .cell)) || (decide (y.1 ∈ own.map (·.1)) || !decide (y.1 ∈ N))))))
theorem blk_ok {N : List Str} {sc scope : Scope} {own : List (Str × Nat)} (h : blkB N sc scope own = true) : BlkOk N sc scope own := by
  unfold blkB at h
  simp only [Bool.and_eq_true, List.all_eq_true, Bool.or_eq_true, Bool.not_eq_true', decide_eq_true_eq, decide_eq_false_iff_not, Bool.or_eq_false_iff] at h
  obtain ⟨h1, h2, h3, h4, h5⟩ := h
  refine ⟨?_, fun y hy => h2 y hy, fun p hp => h3 p hp, fun y hy e => (h4 y hy).resolve_left (fun z => z e), fun y hy e => (h5 y hy).resolve_left (fun z => ?_)⟩
  · cases hk : scope.kind with
    | function => rfl
    | _ => rw [hk] at h1; cases h1
  · rcases e with e | e
    · exact z.1 e
    · exact z.2 e
section
variable {X : Cx} {G : Gam} {n0 : Nat}
/-! name = [..] on one line, the name a local -/
theorem ss_setLc {i : Nat} {y : Str} {py : Pos} {elt tg iter : Expr} {ifs : List Expr} {scope : Scope} {own : List (Str × Nat)} {pos spos : Pos} {fi : SI} {t : Tg} {gg : TG} {c : ST} {fe : SE} (hc : X.calm = true) (hN : X.N.Nodup) (hy : X.N[i]? = some y) (hyl : X.env.scope.names.lookup y = some .local)
    (hsw : swapsWith (.ListComp elt [⟨tg, iter, ifs, 0⟩] scope pos) (some (.Name y py)) spos.line X.env = pure true) (hi : PI X tg iter (rdI G n0 fi)) (ok : BlkOk X.N X.env.scope scope own) (ht : TgB G (own.map (·.2)) t gg)
    (hg : ∀ (s : Shared) (H : Hp) (C : Addr) (cl : List (Str × Addr)) (fp : List Addr), PG (X.blk s H scope (compEnvC scope cl C X.env) fp) tg gg)
    (hts : ∀ (s : Shared) (H : Hp) (C : Addr) (cl : List (Str × Addr)) (fp : List Addr), PTs (X.blk s H scope (compEnvC scope cl C X.env) fp) ifs (rdT G n0 c))
    (he : ∀ (s : Shared) (H : Hp) (C : Addr) (cl : List (Str × Addr)) (fp : List Addr), PE (X.blk s H scope (compEnvC scope cl C X.env) fp) elt (rdE G n0 fe)) (hs : ∀ x, foldedSetIterable iter X.env x = pure x := by intro _; rfl) :
    PS X (.Assign [.Name y py] (.ListComp elt [⟨tg, iter, ifs, 0⟩] scope pos) spos) (tAsg (rdE G n0 (eLc fi t (own.map (·.2)) c fe)) (gName i)) :=
  psI (ps_setLc hc hN hy hyl hsw hi ok hg hts (fun s H C cl fp => toV (he s H C cl fp)) hs) fun D σ H h => lc_core' ht σ H _ h
/-! a fresh value goes to the store ahead of the assignment, or is left as it is -/
theorem asgV {f : SE} {gg : TG} {st : Stmt} (hp : PS X st (tAsg (rdE G n0 f) gg)) : PS X st (tAsg (rdV G n0 f) gg) := by
  refine psI hp fun D σ H ⟨F, r, env, S, g, s, h⟩ => ⟨F, r, env, S, g, s, ?_⟩
  cases e : f env S with
  | ok p S' =>
    rw [e] at h
    intro F' r' H' u x s' q
    obtain ⟨F2, x2, h2, q2⟩ := freeze s'.hr q
    exact h F2 r' H' u (x.trans x2) (s'.ext x2 h2) q2
  | ex => rw [e] at h; exact h
  | no => rw [e] at h; exact h
theorem asgN {f : SE} {gg : TG} {st : Stmt} (hp : PS X st (tAsg (rdE G n0 f) gg)) : PS X st (tAsg (rdE G n0 (eNew f)) gg) := by
  refine psI hp fun D σ H ⟨F, r, env, S, g, s, h⟩ => ?_
  have h : PoE G n0 g F r env σ ((f env S).bind fun p S1 => match p.1 with
    | true => .ok (false, .ref S1.length) (S1 ++ [p.2])
    | false => .ok p S1) (fun x H' => gg x σ H' D.nx) := h
  refine stE s cnE h fun p S1 F1 r1 H1 u x1 s1 q1 h1 => ?_
  obtain ⟨b, v⟩ := p
  cases b with
  | false => exact h1 F1 r1 H1 u x1 s1 q1
  | true =>
    obtain ⟨r2, x2, h2, k⟩ := store_new s1.hr q1
    exact h1 F1 r2 H1 u (x1.trans x2) (s1.ext x2 h2) k
/-! a chain of two comparisons -/
theorem ch_core {o o' : Op2} {t t' : R2} {fa fb fc : SE} (ho : Ok2 G o t) (ho' : Ok2 G o' t') (σ : L2.St) (H : Hp) (Q : VK) (hh : rdE G n0 (eCh o o' fa fb fc) σ H Q) : tChain t t' (rdV G n0 fa) (rdV G n0 fb) (rdV G n0 fc) σ H Q := by
  obtain ⟨F, r, env, S, g, s, h⟩ := hh
  refine stV s cnE h fun p S1 F1 r1 H1 u x1 s1 q1 h1 => ?_
  refine stV s1 cnE h1 fun q S2 F2 r2 H2 v x2 s2 q2 h2 => ?_
  split at h2
  · rename_i eo
    refine ho n0 g F2 r2 S2 H2 p.2 q.2 u v _ _ s2.hr (q1.ext x2) q2 eo fun F3 r3 H3 w x3 hr3 rf => ⟨true, rf, ?_⟩
    refine stV (s2.ext x3 hr3) cnE h2 fun z S4 F4 r4 H4 w' x4 s4 q4 h4 => ?_
    exact endO (T := fun Q => t' v w' H4 Q) s4 (((x1.trans x2).trans x3).trans x4) h4 fun z' ez k => ho' n0 g F4 r4 S4 H4 q.2 z.2 v w' z' Q s4.hr (q2.ext (x3.trans x4)) q4 ez k
  · rename_i eo
    refine ho n0 g F2 r2 S2 H2 p.2 q.2 u v _ _ s2.hr (q1.ext x2) q2 eo fun F3 r3 H3 w x3 hr3 rf => ⟨false, rf, ?_⟩
    exact h2 F3 r3 H3 _ ((x1.trans x2).trans x3) (s2.ext x3 hr3) rfl
  · exact h2.elim
theorem st_ch {o1 o2 : CmpOp} {o o' : Op2} {t t' : R2} {a b c : Expr} {fa fb fc : SE} {pos : Pos} (hop : OpR X (compareOp o1) t) (ho : Ok2 G o t) (hop' : OpR X (compareOp o2) t') (ho' : Ok2 G o' t') (ha : PE X a (rdE G n0 fa)) (hb : PE X b (rdE G n0 fb)) (hc : PE X c (rdE G n0 fc))
    (hm : lastMarks [o1, o2] [b, c] = false := by with_unfolding_all rfl) : PT X (.Compare a [o1, o2] [b, c] pos) (rdT G n0 (tBl (eCh o o' fa fb fc))) :=
  st_of (pt_chain hop hop' (toV ha) (toV hb) (toV hc) hm) (ch_core ho ho')
end
theorem FunD_binds {K : PySem.W.Frag} {x qual : Str} {params : Arguments} {body : List Stmt} {scope : Scope} {f : Addr} {fd : FuncData} {ps : List Str} (F : FunD K x qual params body scope [] [] f fd)
    (h : ∀ (kV doc pm : Value) (an : Option Addr) (cdv ct : Value) (us : List Value), us.length = ps.length → bindArgs (PySem.W.fnOf x qual params body scope .none kV doc pm an cdv ct) ⟨us, []⟩ = pure (ps.zip us)) : Binds K fd ps [] := fun s us _ hl => by
  rw [List.append_nil] at hl ⊢
  exact F.bindsA h s us hl
end PX
set_option Elab.async false
set_option linter.all false
set_option maxRecDepth 100000
set_option maxHeartbeats 1000000
namespace PX
open PySem PySem.Spec PyProof.Rows L2
/-! ### x in y: a dict's key; flat items; nested data in a list -/
def flatP : PV → Bool
  | .non => true
  | .bl _ => true
  | .int _ => true
  | .str _ => true
  | _ => false
def eqP : PV → PV → Bool
  | .non, .non => true
  | .bl a, .bl b => a == b
  | .bl a, .int b => (if a then 1 else 0) == b
  | .int a, .bl b => a == (if b then 1 else 0)
  | .int a, .int b => a == b
  | .str a, .str b => a == b
  | _, _ => false
def flatsP : List PV → Bool
  | [] => true
  | v :: vs => flatP v && flatsP vs
def anyP (x : PV) : List PV → Bool
  | [] => false
  | v :: vs => eqP v x || anyP x vs
def memP (S : Store) (x y : PV) : Option Bool := match deref S y with
  | some (.dct ks vs) => match keyOf x with
    | some q => match dGet ks vs q with
      | some o => some o.isSome
      | none => none
    | none => none
  | _ => match itemsOf S y with
    | some ys => if flatP x && flatsP ys then some (anyP x ys) else match toD S 6 x with
      | some d => match toD S 6 y with
        | some (.list ds) => some (ds.any fun z => PyData.eqv z d)
        | some (.tuple ds) => some (ds.any fun z => PyData.eqv z d)
        | _ => none
      | none => none
    | none => none
def oIn : Op2 := fun x y S => (memP S x y).map fun b => (false, .bl b)
def oNotIn : Op2 := fun x y S => (memP S x y).map fun b => (false, .bl (!b))
section
variable {X : Cx} {G : Gam} {n0 : Nat} {g : Gh} {F : Hp} {r : List Addr} {S : Store} {H : Hp}
theorem flat_ok {v : PV} {u : V} (q : RV G F r v u) (h : flatP v = true) : flatV u = true := by
  cases v <;> first | (cases q; rfl) | cases h
theorem flats_ok : ∀ {vs : List PV} {us : List V}, RVs G F r vs us → flatsP vs = true → us.all flatV = true
  | [], us, q, _ => by
    cases (show us = [] from q)
    rfl
  | v :: vs, us, q, h => by
    obtain ⟨u, ur, rfl, k, l⟩ := q
    simp only [flatsP, Bool.and_eq_true] at h
    rw [List.all_cons, flat_ok k h.1, flats_ok l h.2]
    rfl
theorem eqP_ok {v w : PV} {u y : V} (q : RV G F r v u) (k : RV G F r w y) (h : flatP v = true) (h2 : flatP w = true) : eqP v w = eqV u y := by
  cases v <;> cases w <;> first | (cases q; cases k; rfl) | (simp [flatP] at h; done) | (simp [flatP] at h2; done)
theorem anyP_ok {x : PV} {y : V} (q : RV G F r x y) (h : flatP x = true) : ∀ {vs : List PV} {us : List V}, RVs G F r vs us → flatsP vs = true → anyP x vs = inV y us
  | [], us, k, _ => by
    cases (show us = [] from k)
    rfl
  | v :: vs, us, k, h2 => by
    obtain ⟨u, ur, rfl, k1, k2⟩ := k
    simp only [flatsP, Bool.and_eq_true] at h2
    show (eqP v x || anyP x vs) = (eqV u y || inV y ur)
    rw [eqP_ok k1 q h2.1 h, anyP_ok q h k2 h2.2]
def rInG (K : PySem.W.Frag) (f : Bool → Bool) : R2 := fun x y H Q => (∃ a o, y = .ref a ∧ DGet H a x o ∧ Q (.bl (f o.isSome)) H) ∨ (∃ p xs, y = .ref p ∧ (SqL K H p xs ∨ SqT K H p xs) ∧ flatV x = true ∧ xs.all flatV = true ∧ Q (.bl (f (inV x xs))) H) ∨
  (∃ d ds, Dp K H x d ∧ Dp K H y (.list ds) ∧ SeqAt.shaped d = true ∧ SeqAt.shaped (.list ds) = true ∧ Q (.bl (f (ds.any fun z => PyData.eqv z d))) H) ∨
  ∃ d ds, Dp K H x d ∧ Dp K H y (.tuple ds) ∧ SeqAt.shaped d = true ∧ SeqAt.shaped (.tuple ds) = true ∧ Q (.bl (f (ds.any fun z => PyData.eqv z d))) H
theorem canT {ds : List PyData} (h : SeqAt.shaped (.tuple ds) = true) : PyData.canLayAll0 ds = true := SeqAt.canLay_of_shaped h
theorem roomT {n : Nat} {ds : List PyData} {d : PyData} (h : SeqAt.shaped d = true) (hu : n + 65 < cLine) : n + 1 + min (PyData.depthAll ds) d.depth < cLine := by
  have h2 : d.depth ≤ 64 := by
    unfold SeqAt.shaped at h
    simp only [Bool.and_eq_true, decide_eq_true_eq] at h
    exact h.2
  omega
theorem op_inG (hu : X.A.units + 65 < cLine) : OpR X (compareOp .In) (rInG X.K fun b => b) := by
  intro pins s σ H x y v u Q I rx ry h
  rcases h with ⟨a, o, rfl, g, q⟩ | h | h | h
  · obtain rfl : u = Value.ref a := ry
    exact d_in (by omega) I g rx fun s3 I3 => ⟨.bl o.isSome, H, I3, rfl, q⟩
  · obtain ⟨p, xs, rfl, hq, fx, fs, q⟩ := h
    exact op_in_seq pins s σ H x _ v u Q I rx ry ⟨p, xs, rfl, hq, fx, fs, q⟩
  · exact op_inD hu pins s σ H x y v u Q I rx ry h
  · obtain ⟨d, ds, hd, he, sd, se, q⟩ := h
    obtain ⟨as, r1⟩ := Dp.reads I d x v hd rx
    obtain ⟨bs, r2⟩ := Dp.reads I (.tuple ds) y u he ry
    exact SeqAt.in_tuple_reads r2 r1 (canT se) (SeqAt.canLay_of_shaped sd) (roomT sd hu) ⟨.bl _, H, I, rfl, q⟩
theorem op_notInG (hu : X.A.units + 65 < cLine) : OpR X (compareOp .NotIn) (rInG X.K fun b => !b) := by
  intro pins s σ H x y v u Q I rx ry h
  rcases h with ⟨a, o, rfl, g, q⟩ | h | h | h
  · obtain rfl : u = Value.ref a := ry
    exact d_notIn (by omega) I g rx fun s3 I3 => ⟨.bl (!o.isSome), H, I3, rfl, q⟩
  · obtain ⟨p, xs, rfl, hq, fx, fs, q⟩ := h
    exact op_notIn_seq pins s σ H x _ v u Q I rx ry ⟨p, xs, rfl, hq, fx, fs, q⟩
  · exact op_notInD hu pins s σ H x y v u Q I rx ry h
  · obtain ⟨d, ds, hd, he, sd, se, q⟩ := h
    obtain ⟨as, r1⟩ := Dp.reads I d x v hd rx
    obtain ⟨bs, r2⟩ := Dp.reads I (.tuple ds) y u he ry
    exact SeqAt.notIn_tuple_reads r2 r1 (canT se) (SeqAt.canLay_of_shaped sd) (roomT sd hu) ⟨.bl _, H, I, rfl, q⟩
theorem memP_ok (h : HR G n0 g F r S H) {x y : PV} {u v : V} {b : Bool} {f : Bool → Bool} {Q : VK} (q1 : RV G F r x u) (q2 : RV G F r y v) (e : memP S x y = some b) (k : Q (.bl (f b)) H) : rInG G.K f u v H Q := by
  unfold memP at e
  split at e
  · rename_i ks vs ed
    cases ek : keyOf x with
    | none => simp only [ek] at e; cases e
    | some q =>
      simp only [ek] at e
      cases eg : dGet ks vs q with
      | none => simp only [eg] at e; cases e
      | some o =>
        simp only [eg] at e
        cases e
        obtain ⟨a, o', rfl, gd, oo⟩ := dGet_ok h q2 ed q1 ek eg
        refine .inl ⟨a, o', rfl, gd, ?_⟩
        have : o'.isSome = o.isSome := by
          cases o with
          | none => rw [show o' = none from oo]; rfl
          | some w => obtain ⟨y, rfl, _⟩ := oo; rfl
        rw [this]
        exact k
  · cases ei : itemsOf S y with
    | none => simp only [ei] at e; cases e
    | some ys =>
      simp only [ei] at e
      split at e
      · rename_i hf
        cases e
        simp only [Bool.and_eq_true] at hf
        obtain ⟨a, us, rfl, hs, rv⟩ := view_seq h q2 ei
        exact .inr (.inl ⟨a, us, rfl, hs, flat_ok q1 hf.1, flats_ok rv hf.2, by rw [← anyP_ok q1 hf.1 rv hf.2]; exact k⟩)
      · cases e1 : toD S 6 x with
        | none => simp only [e1] at e; cases e
        | some d =>
          simp only [e1] at e
          cases e2 : toD S 6 y with
          | none => simp only [e2] at e; cases e
          | some d' =>
            simp only [e2] at e
            split at e
            · rename_i ds eds
              cases eds
              cases e
              obtain ⟨a1, a2, a3⟩ := toD_ok h 6 x u d q1 e1
              obtain ⟨b1, b2, b3⟩ := toD_ok h 6 y v _ q2 e2
              exact .inr (.inr (.inl ⟨d, ds, a1, b1, toD_shaped a2 a3 (by decide), toD_shaped b2 b3 (by decide), k⟩))
            · rename_i ds eds
              cases eds
              cases e
              obtain ⟨a1, a2, a3⟩ := toD_ok h 6 x u d q1 e1
              obtain ⟨b1, b2, b3⟩ := toD_ok h 6 y v _ q2 e2
              exact .inr (.inr (.inr ⟨d, ds, a1, b1, toD_shaped a2 a3 (by decide), toD_shaped b2 b3 (by decide), k⟩))
            · cases e
theorem ok_in : Ok2 G oIn (rInG G.K fun b => b) := fun n0 g F r S H x y u v z Q h q1 q2 e k => by
  unfold oIn at e
  cases em : memP S x y with
  | none => rw [em] at e; cases e
  | some b =>
    rw [em] at e
    cases e
    exact memP_ok (f := fun b => b) h q1 q2 em (k F r H _ (.refl F r) h rfl)
theorem ok_notIn : Ok2 G oNotIn (rInG G.K fun b => !b) := fun n0 g F r S H x y u v z Q h q1 q2 e k => by
  unfold oNotIn at e
  cases em : memP S x y with
  | none => rw [em] at e; cases e
  | some b =>
    rw [em] at e
    cases e
    exact memP_ok (f := fun b => !b) h q1 q2 em (k F r H _ (.refl F r) h rfl)
theorem units65 {cf : CF} {k : Nat} (T : Tb X G cf k) : X.A.units + 65 < cLine := by
  have := T.room.un
  omega
end
end PX
set_option Elab.async false
set_option linter.all false
set_option maxRecDepth 100000
set_option maxHeartbeats 2000000
/-! list(zip(a, b)) -/
namespace ZG
open PySem RZ
section
variable {prog : Program} {w : World} {A : Around} {E : Value → Shared → Prop} {s : Shared}
theorem zipG_item_held {b1 b2 : Bool} {z TI TO T i1 i2 l1 l2 : Addr} {f : Bool} {oT : Obj} {k1 k2 : Nat} {xs ys : Array Value} {x y : Value} {Q : Value → Shared → Prop} (D : ZipApart z TI TO i1 i2 l1 l2)
    (hz : IsZipHeld s.heap z TI TO T f) (hT : s.heap.get? T = some oT) (hTI : IsPair s.heap TI (.ref i1) (.ref i2))
    (h1 : SqIt b1 s.heap i1 l1 k1) (h2 : SqIt b2 s.heap i2 l2 k2) (hl1 : SqOb b1 s.heap l1 xs) (hl2 : SqOb b2 s.heap l2 ys) (hx : xs[k1]? = some x) (hy : ys[k2]? = some y)
    (hQ : ∀ h', IsZipHeld h' z TI TO T true → SqIt b1 h' i1 l1 (k1 + 1) → SqIt b2 h' i2 l2 (k2 + 1) → IsPair h' s.heap.objs.size x y → h'.objs.size = s.heap.objs.size + 1 →
      (∀ c o, c ≠ z → c ≠ i1 → c ≠ i2 → s.heap.get? c = some o → h'.get? c = some o) → Q (.ref s.heap.objs.size) { s with heap := h' }) :
    wpAny (model prog w) A (Builtin.«zip.__next__» ⟨[.ref z], []⟩) (fun fin s' => ∃ v, fin = .done (.ret v) ∧ Q v s') E s := by
  show wpAny _ _ (field (.ref z) 2 >>= _) _ _ _
  refine wpAny_bind (wpAny_field hz rfl (x := .bool false) rfl ?_)
  show wpAny _ _ (field (.ref z) 3 >>= _) _ _ _
  refine wpAny_bind (wpAny_field hz rfl (x := .ref TI) rfl ?_)
  refine wpAny_bind (wpAny_seqItems hTI rfl ?_)
  show wpAny _ _ (Builtin.SmallTypes.ownedTupleIsFree (.ref z) >>= _) _ _ _
  refine wpAny_bind (wpAny_tupleHeld_zip hz hT fun h₁ hz₁ hs₁ => ?_)
  simp only [Bool.false_eq_true, if_false]
  refine wpAny_bind ?_
  rw [← Array.forIn_toList]
  simp only [List.forIn_cons, List.forIn_nil]
  refine wpAny_bind (wpAny_bind (wpAny_holding ?_))
  show wpAny _ _ (Builtin.SmallTypes.nextOf (.ref i1) >>= _) _ _ _
  refine wpAny_bind (nextOf_item (s := { s with heap := h₁ }) (h1.extBut hs₁.extBut D.i1z) (hl1.extBut hs₁.extBut D.l1z) hx fun h₂ h1₂ hs₂ => wpAny_pure ?_)
  refine wpAny_pure ?_
  refine wpAny_bind (wpAny_bind (wpAny_holding ?_))
  show wpAny _ _ (Builtin.SmallTypes.nextOf (.ref i2) >>= _) _ _ _
  refine wpAny_bind (nextOf_item (s := { s with heap := h₂ }) ((h2.extBut hs₁.extBut D.i2z).extBut hs₂.extBut D.i12.symm) ((hl2.extBut hs₁.extBut D.l2z).extBut hs₂.extBut D.l2i1) hy fun h₃ h2₃ hs₃ => wpAny_pure ?_)
  refine wpAny_pure (wpAny_pure ?_)
  show wpAny _ _ (newTuple [x, y] >>= _) _ _ _
  refine wpAny_bind (wpAny_newTuple ?_)
  have hsz : h₃.objs.size = s.heap.objs.size := by rw [hs₃.1, hs₂.1, hs₁.1]
  have hz₃ : IsZipHeld h₃ z TI TO T true := hs₃.extBut _ _ D.i2z.symm (hs₂.extBut _ _ D.i1z.symm hz₁)
  have hk : ∀ c o, c ≠ z → c ≠ i1 → c ≠ i2 → s.heap.get? c = some o → h₃.get? c = some o := fun c o c1 c2 c3 e => hs₃.extBut _ _ c3 (hs₂.extBut _ _ c2 (hs₁.extBut _ _ c1 e))
  have h1₃ : SqIt b1 h₃ i1 l1 (k1 + 1) := h1₂.extBut hs₃.extBut D.i12
  refine wpAny_pure ⟨_, rfl, ?_⟩
  show Q (.ref h₃.objs.size) _
  have hp : IsPair (h₃.push { cls := .type "tuple", data := .seq #[x, y] }) h₃.objs.size x y := Heap.get?_push_size _ rfl
  have hz4 : (h₃.push { cls := .type "tuple", data := .seq #[x, y] }).objs.size = h₃.objs.size + 1 := Heap.size_push ..
  rw [hsz] at hp hz4 ⊢
  exact hQ _ (Heap.get?_push_of_some _ hz₃) (h1₃.at_ fun o e => Heap.get?_push_of_some _ e) (h2₃.at_ fun o e => Heap.get?_push_of_some _ e) hp hz4 fun c o c1 c2 c3 e => Heap.get?_push_of_some _ (hk c o c1 c2 c3 e)

theorem zipG_end_held {b1 b2 : Bool} {z TI TO T i1 i2 l1 l2 : Addr} {f : Bool} {oT : Obj} {k1 k2 : Nat} {xs ys : Array Value} {Q : Fin → Shared → Prop} (hh : A.handled = none) (D : ZipApart z TI TO i1 i2 l1 l2)
    (hz : IsZipHeld s.heap z TI TO T f) (hT : s.heap.get? T = some oT) (hTI : IsPair s.heap TI (.ref i1) (.ref i2))
    (h1 : SqIt b1 s.heap i1 l1 k1) (h2 : SqIt b2 s.heap i2 l2 k2) (hl1 : SqOb b1 s.heap l1 xs) (hl2 : SqOb b2 s.heap l2 ys) (hend : xs[k1]? = none ∨ ys[k2]? = none)
    (hE : ∀ h' e, (∀ c o, c ≠ z → c ≠ i1 → c ≠ i2 → s.heap.get? c = some o → h'.get? c = some o) → (∃ o, h'.get? e = some o ∧ o.cls = .type "StopIteration") → E (.ref e) { s with heap := h' }) :
    wpAny (model prog w) A (Builtin.«zip.__next__» ⟨[.ref z], []⟩) Q E s := by
  show wpAny _ _ (field (.ref z) 2 >>= _) _ _ _
  refine wpAny_bind (wpAny_field hz rfl (x := .bool false) rfl ?_)
  show wpAny _ _ (field (.ref z) 3 >>= _) _ _ _
  refine wpAny_bind (wpAny_field hz rfl (x := .ref TI) rfl ?_)
  refine wpAny_bind (wpAny_seqItems hTI rfl ?_)
  show wpAny _ _ (Builtin.SmallTypes.ownedTupleIsFree (.ref z) >>= _) _ _ _
  refine wpAny_bind (wpAny_tupleHeld_zip hz hT fun h₁ hz₁ hs₁ => ?_)
  simp only [Bool.false_eq_true, if_false]
  refine wpAny_bind ?_
  rw [← Array.forIn_toList]
  simp only [List.forIn_cons, List.forIn_nil]
  refine wpAny_bind (wpAny_bind (wpAny_holding ?_))
  show wpAny _ _ (Builtin.SmallTypes.nextOf (.ref i1) >>= _) _ _ _
  cases hx : xs[k1]? with
  | none =>
    refine wpAny_bind (nextOf_end (s := { s with heap := h₁ }) hh (h1.extBut hs₁.extBut D.i1z) (hl1.extBut hs₁.extBut D.l1z) hx fun h₂ e hs₂ he => ?_)
    exact hE h₂ e (fun c o c1 c2 _ x => hs₂ _ _ c2 (hs₁.extBut _ _ c1 x)) he
  | some x =>
    have hy : ys[k2]? = none := by rcases hend with h | h; rw [hx] at h; cases h; exact h
    refine wpAny_bind (nextOf_item (s := { s with heap := h₁ }) (h1.extBut hs₁.extBut D.i1z) (hl1.extBut hs₁.extBut D.l1z) hx fun h₂ h1₂ hs₂ => wpAny_pure ?_)
    refine wpAny_pure ?_
    refine wpAny_bind (wpAny_bind (wpAny_holding ?_))
    show wpAny _ _ (Builtin.SmallTypes.nextOf (.ref i2) >>= _) _ _ _
    refine wpAny_bind (nextOf_end (s := { s with heap := h₂ }) hh ((h2.extBut hs₁.extBut D.i2z).extBut hs₂.extBut D.i12.symm) ((hl2.extBut hs₁.extBut D.l2z).extBut hs₂.extBut D.l2i1) hy fun h₃ e hs₃ he => ?_)
    exact hE h₃ e (fun c o c1 c2 c3 x => hs₃ _ _ c3 (hs₂.extBut _ _ c2 (hs₁.extBut _ _ c1 x))) he

theorem pyNext_zipG_item_held {b1 b2 : Bool} {z TI TO T i1 i2 l1 l2 : Addr} {f : Bool} {oT : Obj} {k1 k2 : Nat} {xs ys : Array Value} {x y : Value} {Q : Option Value → Shared → Prop} (D : ZipApart z TI TO i1 i2 l1 l2)
    (hz : IsZipHeld s.heap z TI TO T f) (hT : s.heap.get? T = some oT) (hTI : IsPair s.heap TI (.ref i1) (.ref i2))
    (h1 : SqIt b1 s.heap i1 l1 k1) (h2 : SqIt b2 s.heap i2 l2 k2) (hl1 : SqOb b1 s.heap l1 xs) (hl2 : SqOb b2 s.heap l2 ys) (hx : xs[k1]? = some x) (hy : ys[k2]? = some y)
    (hQ : ∀ h', IsZipHeld h' z TI TO T true → SqIt b1 h' i1 l1 (k1 + 1) → SqIt b2 h' i2 l2 (k2 + 1) → IsPair h' s.heap.objs.size x y → h'.objs.size = s.heap.objs.size + 1 →
      (∀ c o, c ≠ z → c ≠ i1 → c ≠ i2 → s.heap.get? c = some o → h'.get? c = some o) → Q (some (.ref s.heap.objs.size)) { s with heap := h' }) :
    wpAny (model prog w) A (pyNext (.ref z)) Q E s := by
  have hTy : s.TypeIs (.ref z) "zip" := ⟨_, hz, rfl⟩
  unfold pyNext
  exact wpAny_bind (wpAny_attempt (wpAny_callSpecial?_slot (name := Str.ofString "__next__") hTy F.slot_zip_next
    (wpAny_call_entry F.slot_zip_next hTy F.entry_zip_next
      (zipG_item_held D hz hT hTI h1 h2 hl1 hl2 hx hy fun h' a1 a3 a4 a5 a6 a7 => wpAny_pure (hQ h' a1 a3 a4 a5 a6 a7)) (F.args_zip_next_1 _))))
theorem pyNext_zipG_end_held {b1 b2 : Bool} {z TI TO T i1 i2 l1 l2 : Addr} {f : Bool} {oT : Obj} {k1 k2 : Nat} {xs ys : Array Value} {Q : Option Value → Shared → Prop} (hh : A.handled = none) (D : ZipApart z TI TO i1 i2 l1 l2)
    (hz : IsZipHeld s.heap z TI TO T f) (hT : s.heap.get? T = some oT) (hTI : IsPair s.heap TI (.ref i1) (.ref i2))
    (h1 : SqIt b1 s.heap i1 l1 k1) (h2 : SqIt b2 s.heap i2 l2 k2) (hl1 : SqOb b1 s.heap l1 xs) (hl2 : SqOb b2 s.heap l2 ys) (hend : xs[k1]? = none ∨ ys[k2]? = none)
    (hQ : ∀ h', (∀ c o, c ≠ z → c ≠ i1 → c ≠ i2 → s.heap.get? c = some o → h'.get? c = some o) → Q none { s with heap := h' }) : wpAny (model prog w) A (pyNext (.ref z)) Q E s := by
  have hTy : s.TypeIs (.ref z) "zip" := ⟨_, hz, rfl⟩
  unfold pyNext
  refine wpAny_bind (wpAny_attempt (wpAny_callSpecial?_slot (name := Str.ofString "__next__") hTy F.slot_zip_next
    (wpAny_call_entry F.slot_zip_next hTy F.entry_zip_next (zipG_end_held hh D hz hT hTI h1 h2 hl1 hl2 hend fun h' e hk he => ?_) (F.args_zip_next_1 _))))
  obtain ⟨o, ho, hc⟩ := he
  refine wpAny_bind (wpAny_isInstance (T := "StopIteration") (b := true) ⟨o, ho, hc⟩ isSubtype_stop ?_)
  exact wpAny_pure (hQ _ hk)

end
theorem zip_no_len : typeLookup (.type "zip") "__len__" = pure none := am_miss_of_fast (by decide +kernel)
theorem zip_no_hint : typeLookup (.type "zip") "__length_hint__" = pure none := am_miss_of_fast (by decide +kernel)
end ZG
namespace PX
open PySem PySem.Spec PyProof.Rows L2 ZG
/-- the zip, its last pair perhaps still held -/
def ZSt (H : Hp) (h : Heap) (z TI TO : Addr) : Prop := (∃ x y, IsPair h TO x y) ∧ (IsZip h z TI TO .none ∨ ∃ T f us, IsZipHeld h z TI TO T f ∧ H T = some (.tup us))
theorem SqG.le {K : PySem.W.Frag} {b : Bool} {H H' : Hp} {a : Addr} {xs : List V} (q : SqG b K H a xs) (k : Le H H') : SqG b K H' a xs := by
  cases b with
  | true => exact k.sqT q
  | false => exact k.sqL q
structure ZDone (H0 H' : Hp) (S : Addr) (xs ys : List V) (ts : List Addr) : Prop where
  keep : ∀ c o, H0 c = some o → H' c = some o
  new : H0 S = none
  lst : H' S = some (.lst (ts.map V.ref))
  len : ts.length = min xs.length ys.length
  tup : ∀ (k : Nat) t, ts[k]? = some t → ∃ x y, xs[k]? = some x ∧ ys[k]? = some y ∧ H' t = some (.tup [x, y]) ∧ H0 t = none
section
variable {X : Cx} {pins : List (Addr × Obj)} {σ : L2.St}
theorem drainZ {A : Around} {R : Result → Shared → Prop} {b1 b2 : Bool} {a b z TI TO i1 i2 S : Addr} {xs ys : List V} {res : Value} {H0 : Hp} (hh : A.handled = none) (D : ZipApart z TI TO i1 i2 a b) (hS : S ∉ [z, TI, TO, i1, i2]) (hn : xs.length ≤ 1000000) (h0 : H0 S = none) (hqx0 : SqG b1 X.K H0 a xs) (hqy0 : SqG b2 X.K H0 b ys)
    (hR : ∀ s' H' ts, Inv X pins σ H' s' → ZDone H0 H' S xs ys ts → R (.ok (.ret res)) s') :
    ∀ (m : Nat) (s : Shared) (H : Hp) (ts : List Addr), min xs.length ys.length - ts.length = m → ts.length ≤ min xs.length ys.length → Inv X pins σ H s → (∀ c ∈ [z, TI, TO, i1, i2], FpOk X pins H c) → ZSt H s.heap z TI TO → IsPair s.heap TI (.ref i1) (.ref i2) →
      SqIt b1 s.heap i1 a ts.length → SqIt b2 s.heap i2 b ts.length → H S = some (.lst (ts.map V.ref)) → (∀ c o, H0 c = some o → H c = some o) →
      (∀ (k : Nat) t, ts[k]? = some t → ∃ x y, xs[k]? = some x ∧ ys[k]? = some y ∧ H t = some (.tup [x, y]) ∧ H0 t = none) →
      codeAny (model X.prog X.w) A (.builtin "list.extend.loop" ⟨[.ref S, .ref z, res], []⟩) R s := by
  intro m
  induction m with
  | zero =>
    intro s H ts hm hl I hf hz hTI h1 h2 hS' hk ht
    have hqx := hqx0.le hk
    have hqy := hqy0.le hk
    refine codeAny_builtin F.entry_extend_loop ?_
    rw [Around.under_plainId F.plain_extend_loop _]
    show wpAny _ A.in1 (pyNext (.ref z) >>= _) _ _ s
    obtain ⟨its, rv, p, _⟩ := Inv.sqG I hqx
    obtain ⟨its2, rv2, p2, _⟩ := Inv.sqG I hqy
    have l1 := rv.length
    have l2 := rv2.length
    have he : its.toArray[ts.length]? = none ∨ its2.toArray[ts.length]? = none := by
      simp only [List.getElem?_toArray, List.getElem?_eq_none_iff]
      omega
    have fin : ∀ h', (∀ c o, c ∉ [z, TI, TO, i1, i2] → s.heap.get? c = some o → h'.get? c = some o) → R (.ok (.ret res)) { s with heap := h' } := fun h' hk' =>
      hR _ H ts (I.turnedL (t' := s.toks) (ch := [z, TI, TO, i1, i2]) hk' hf) ⟨hk, h0, hS', by omega, ht⟩
    obtain ⟨⟨x0, y0, hTO⟩, hz | ⟨T, f, us, hz, hT⟩⟩ := hz
    · exact wpAny_bind (pyNext_zipG_end hh D hz hTI hTO h1 h2 p p2 he fun h' hk' => wpAny_pure (fin h' fun c o hb q => hk' c o (fun q' => hb (by simp [q'])) (fun q' => hb (by simp [q'])) (fun q' => hb (by simp [q'])) (fun q' => hb (by simp [q'])) q))
    · obtain ⟨_, oT⟩ := (I.hok T _ hT)
      obtain ⟨itsT, _, ⟨oo, hoo, _⟩⟩ := oT
      exact wpAny_bind (pyNext_zipG_end_held hh D hz hoo hTI h1 h2 p p2 he fun h' hk' => wpAny_pure (fin h' fun c o hb q => hk' c o (fun q' => hb (by simp [q'])) (fun q' => hb (by simp [q'])) (fun q' => hb (by simp [q'])) q))
  | succ m ih =>
    intro s H ts hm hl I hf hz hTI h1 h2 hS' hk ht
    have hqx := hqx0.le hk
    have hqy := hqy0.le hk
    refine codeAny_builtin F.entry_extend_loop ?_
    rw [Around.under_plainId F.plain_extend_loop _]
    show wpAny _ A.in1 (pyNext (.ref z) >>= _) _ _ s
    obtain ⟨its, rv, p, _⟩ := Inv.sqG I hqx
    obtain ⟨its2, rv2, p2, _⟩ := Inv.sqG I hqy
    have l1 := rv.length
    have l2 := rv2.length
    have hx0 : ts.length < xs.length := by omega
    have hy0 : ts.length < ys.length := by omega
    have hx : xs[ts.length]? = some xs[ts.length] := List.getElem?_eq_getElem hx0
    have hy : ys[ts.length]? = some ys[ts.length] := List.getElem?_eq_getElem hy0
    obtain ⟨u, hu, ru⟩ := rv.get hx
    obtain ⟨u2, hu2, ru2⟩ := rv2.get hy
    have fpl : ∀ c ∈ [z, TI, TO, i1, i2], H c = none := fun c hc => (hf c hc).1
    obtain ⟨⟨x0, y0, hTO⟩, hz⟩ := hz
    have hzl : z < s.heap.objs.size := by
      rcases hz with hz | ⟨T, f, us, hz, _⟩
      · exact Heap.lt_size hz
      · exact Heap.lt_size hz
    -- behind the pair
    have step : ∀ h', (∃ x y, IsPair h' TO x y) → (IsZipHeld h' z TI TO s.heap.objs.size false ∨ (∃ T f us, IsZipHeld h' z TI TO T f ∧ H T = some (.tup us))) → SqIt b1 h' i1 a (ts.length + 1) → SqIt b2 h' i2 b (ts.length + 1) → IsPair h' s.heap.objs.size u u2 → h'.objs.size = s.heap.objs.size + 1 →
        (∀ c o, c ∉ [z, TO, i1, i2] → s.heap.get? c = some o → h'.get? c = some o) → wpAny (model X.prog X.w) A.in1 (updateSeq S (·.push (.ref s.heap.objs.size)) >>= fun _ => again (.builtin "list.extend.loop" ⟨[.ref S, .ref z, res], []⟩))
          (fun fin s' => match fin with | .done f => R (.ok f) s' | .again c' => c'.quiet = true ∧ codeAny (model X.prog X.w) A c' R s') (fun e s' => R (.error e) s') { s with heap := h' } := by
      intro h' hTO' hz' h1' h2' hT hsz hk'
      have hTn : H s.heap.objs.size = none := I.hok.fresh (Nat.le_refl _)
      have new : ObjOk X.prog X.w (upd H s.heap.objs.size (.tup [xs[ts.length], ys[ts.length]])) h' s.heap.objs.size (.tup [xs[ts.length], ys[ts.length]]) :=
        ⟨by show 2 ≤ sizeLine; decide, [u, u2], .cons ru (.cons ru2 .nil), ⟨_, hT, rfl, _, rfl⟩⟩
      have I1 : Inv X pins σ (upd H s.heap.objs.size (.tup [xs[ts.length], ys[ts.length]])) { s with heap := h' } :=
        I.turnedNew (t' := s.toks) (ch := [z, TI, TO, i1, i2]) (fun c o hb q => hk' c o (fun z => hb (by simp only [List.mem_cons, List.not_mem_nil, or_false] at z ⊢; rcases z with z | z | z | z <;> simp [z])) q) hf (Nat.le_refl _) new
      have hST : S ≠ s.heap.objs.size := fun e => by rw [e, hTn] at hS'; cases hS'
      have hS1 : (upd H s.heap.objs.size (.tup [xs[ts.length], ys[ts.length]])) S = some (.lst (ts.map V.ref)) := by rw [upd_ne hST]; exact hS'
      obtain ⟨z1, itsS, n, rS, hlS, eS⟩ := I1.lstM hS1
      have hits : itsS.length ≤ 1000000 := by
        rw [← rS.length, List.length_map]; omega
      refine wpAny_bind (wpAny_updateSeq eS rfl (wpAny_pure ⟨plainId_quiet F.plain_extend_loop _, ?_⟩) (by rw [List.size_toArray, sizeLine_eq]; omega) (by show (itsS.toArray.push _).size ≤ sizeLine + 1; rw [Array.size_push, List.size_toArray, sizeLine_eq]; omega))
      have I2 := I1.lset (its' := itsS ++ [.ref s.heap.objs.size]) (ys := (ts ++ [s.heap.objs.size]).map V.ref) (f := (·.push (.ref s.heap.objs.size))) (t' := s.toks) hS1 eS (by simp) (by rw [List.map_append]; exact rS.append (.cons rfl .nil)) (by rw [List.length_map, List.length_append, List.length_singleton, sizeLine_eq]; omega)
      have hne : ∀ {c : Addr}, c ∈ [z, TI, TO, i1, i2] → c ≠ s.heap.objs.size ∧ c ≠ S := fun {c} hc => ⟨fun e => by
        have hlt : c < s.heap.objs.size := by
          simp only [List.mem_cons, List.not_mem_nil, or_false] at hc
          rcases hc with q | q | q | q | q
          · rw [q]; exact hzl
          · rw [q]; exact Heap.lt_size hTI
          · rw [q]
            exact Heap.lt_size hTO
          · rw [q]; exact h1.lt
          · rw [q]; exact h2.lt
        exact absurd hlt (by rw [e]; exact Nat.lt_irrefl _), fun e => hS (e ▸ hc)⟩
      have ot : ∀ c o, c ≠ S → h'.get? c = some o → (h'.update S (Obj.mapSeq (·.push (.ref s.heap.objs.size)))).get? c = some o := fun c o hc e => (Heap.get?_update_other _ _ (Ne.symm hc)).trans e
      have oc : ∀ {c : Addr} {o : HO}, H c = some o → c ≠ S → (upd (upd H s.heap.objs.size (.tup [xs[ts.length], ys[ts.length]])) S (.lst ((ts ++ [s.heap.objs.size]).map V.ref))) c = some o := fun {c o} e hc => by
        rw [upd_ne hc, upd_ne (fun q => by rw [q, hTn] at e; cases e)]
        exact e
      refine ih _ _ (ts ++ [s.heap.objs.size]) (by rw [List.length_append, List.length_singleton]; omega) (by rw [List.length_append, List.length_singleton]; omega) I2 (fun c hc => ⟨?_, (hf c hc).2⟩) ⟨?_, ?_⟩ ?_ ?_ ?_ upd_same (fun c o e => ?_) (fun k t e => ?_)
      · rw [upd_ne (hne hc).2, upd_ne (hne hc).1]
        exact (hf c hc).1
      · obtain ⟨x1, y1, e⟩ := hTO'
        exact ⟨x1, y1, ot _ _ (hne (c := TO) (by simp)).2 e⟩
      · rcases hz' with e | ⟨T, f, us, e, eT⟩
        · exact .inr ⟨_, false, _, ot _ _ (hne (c := z) (by simp)).2 e, by rw [upd_ne (Ne.symm hST)]; exact upd_same⟩
        · exact .inr ⟨T, f, us, ot _ _ (hne (c := z) (by simp)).2 e, oc eT fun q => by rw [q, hS'] at eT; cases eT⟩
      · exact ot _ _ (hne (c := TI) (by simp)).2 (hk' _ _ (fun q => by simp only [List.mem_cons, List.not_mem_nil, or_false] at q; rcases q with q | q | q | q <;> first | exact D.TIz q | exact D.TITO q | exact D.TIi1 q | exact D.TIi2 q) hTI)
      · rw [List.length_append, List.length_singleton]
        exact h1'.at_ fun o e => ot _ _ (hne (c := i1) (by simp)).2 e
      · rw [List.length_append, List.length_singleton]
        exact h2'.at_ fun o e => ot _ _ (hne (c := i2) (by simp)).2 e
      · exact oc (hk c o e) fun q => by rw [q, h0] at e; cases e
      · by_cases hkl : k < ts.length
        · rw [List.getElem?_append_left hkl] at e
          obtain ⟨x1, y1, e1, e2, e3, e4⟩ := ht k t e
          exact ⟨x1, y1, e1, e2, oc e3 (fun q => by rw [q, hS'] at e3; cases e3), e4⟩
        · have hlt := (List.getElem?_eq_some_iff.mp e).1
          rw [List.length_append, List.length_singleton] at hlt
          have hkk : k = ts.length := by omega
          subst hkk
          rw [List.getElem?_append_right (Nat.le_refl _), Nat.sub_self] at e
          cases e
          refine ⟨_, _, hx, hy, by rw [upd_ne (Ne.symm hST)]; exact upd_same, ?_⟩
          cases e0 : H0 s.heap.objs.size with
          | none => rfl
          | some o => rw [hk _ _ e0] at hTn; cases hTn
    have hux : its.toArray[ts.length]? = some u := by simpa using hu
    have huy : its2.toArray[ts.length]? = some u2 := by simpa using hu2
    rcases hz with hz | ⟨T, f, us, hz, hT⟩
    · refine wpAny_bind (pyNext_zipG_item D hz hTI hTO h1 h2 p p2 hux huy fun h' a1 a2 a3 a4 a5 a6 a7 => ?_)
      exact step h' ⟨_, _, a2⟩ (.inl a1) a3 a4 a5 a6 fun c o hc e => a7 c o (fun q => hc (by simp [q])) (fun q => hc (by simp [q])) (fun q => hc (by simp [q])) (fun q => hc (by simp [q])) e
    · obtain ⟨_, oT⟩ := (I.hok T _ hT)
      obtain ⟨itsT, _, ⟨oo, hoo, _⟩⟩ := oT
      refine wpAny_bind (pyNext_zipG_item_held D hz hoo hTI h1 h2 p p2 hux huy fun h' a1 a3 a4 a5 a6 a7 => ?_)
      exact step h' ⟨x0, y0, a7 TO _ D.TOz D.TOi1 D.TOi2 hTO⟩ (.inr ⟨T, true, us, a1, hT⟩) a3 a4 a5 a6 fun c o hc e => a7 c o (fun q => hc (by simp [q])) (fun q => hc (by simp [q])) (fun q => hc (by simp [q])) e
/-- list(z) -/
theorem call_list_zip {A : Around} {Q : Value → Shared → Prop} {E : Value → Shared → Prop} {b1 b2 : Bool} {a b z TI TO i1 i2 : Addr} {xs ys : List V} {s : Shared} {H : Hp} (hh : A.handled = none) (D : ZipApart z TI TO i1 i2 a b) (hn : xs.length ≤ 1000000)
    (I : Inv X pins σ H s) (hf : ∀ c ∈ [z, TI, TO, i1, i2], FpOk X pins H c) (hz : IsZip s.heap z TI TO .none) (hTI : IsPair s.heap TI (.ref i1) (.ref i2)) (hTO : ∃ x y, IsPair s.heap TO x y) (h1 : SqIt b1 s.heap i1 a 0) (h2 : SqIt b2 s.heap i2 b 0) (hqx : SqG b1 X.K H a xs) (hqy : SqG b2 X.K H b ys)
    (hQ : ∀ S s' H' ts, Inv X pins σ H' s' → ZDone H H' S xs ys ts → Q (.ref S) s') : wpAny (model X.prog X.w) A (call (.type "list") [.ref z]) Q E s := by
  have hSf : ∀ {c : Addr}, c ∈ [z, TI, TO, i1, i2] → c < s.heap.objs.size := fun {c} hc => by
    simp only [List.mem_cons, List.not_mem_nil, or_false] at hc
    obtain ⟨x0, y0, hTO⟩ := hTO
    rcases hc with q | q | q | q | q
    · rw [q]; exact Heap.lt_size hz
    · rw [q]; exact Heap.lt_size hTI
    · rw [q]; exact Heap.lt_size hTO
    · rw [q]; exact h1.lt
    · rw [q]; exact h2.lt
  have hSn : s.heap.objs.size ∉ [z, TI, TO, i1, i2] := fun hm => Nat.lt_irrefl _ (hSf hm)
  have hSz : s.heap.objs.size ≠ z := fun e => hSn (by simp [e])
  have hS0 : H s.heap.objs.size = none := I.hok.fresh (Nat.le_refl _)
  refine callType_codes (Q₁ := fun obj s₁ => obj = .ref s.heap.objs.size ∧ s₁ = { s with heap := s.heap.push { cls := .type "list", data := .seq #[] } }) F.called_list (F.typeCall_list_1 _) F.entry_list_init
    (code_list_new _ ⟨rfl, rfl⟩) fun obj s₁ h₁ => ?_
  obtain ⟨rfl, rfl⟩ := h₁
  have hS : (s.heap.push { cls := .type "list", data := .seq #[] }).get? s.heap.objs.size = some { cls := .type "list", data := .seq #[] } := Heap.get?_push_size _ rfl
  have I0 : Inv X pins σ (upd H s.heap.objs.size (.lst [])) { s with heap := s.heap.push { cls := .type "list", data := .seq #[] } } := I.lnew (its := []) (t' := s.toks) .nil (Nat.zero_le _)
  refine ⟨⟨_, hS, rfl⟩, F.args_list_init_2 _ _, ?_⟩
  show wpAny _ A.in1.in1 (do let old ← Builtin.List.listItems (.ref s.heap.objs.size); Builtin.List.listUpdate (.ref s.heap.objs.size) (fun _ => #[]); letGo old.toList.reverse; Builtin.List.listExtendWith (.ref s.heap.objs.size) (.ref z) .none) _ _ _
  refine wpAny_bind ?_
  unfold Builtin.List.listItems
  refine wpAny_bind (wpAny_seqItems hS rfl (wpAny_pure ?_))
  show wpAny _ A.in1.in1 (updateSeq s.heap.objs.size (fun _ => #[]) >>= fun _ => letGo (#[] : Array Value).toList.reverse >>= fun _ => Builtin.List.listExtendWith (.ref s.heap.objs.size) (.ref z) .none) _ _ _
  have I1 := I0.lset (its := []) (its' := []) (ys := []) (f := fun _ => (#[] : Array Value)) (t' := s.toks) upd_same hS rfl .nil (Nat.zero_le _)
  refine wpAny_bind (wpAny_updateSeq hS rfl ?_)
  have hS2 := Heap.get?_update_self (Obj.mapSeq (fun _ => (#[] : Array Value))) hS rfl
  refine wpAny_bind (wpAny_letGo ?_)
  unfold Builtin.List.listExtendWith
  have up : ∀ (h : Heap) (f : Obj → Obj), (∀ b o, s.heap.get? b = some o → h.get? b = some o) → ∀ b o, s.heap.get? b = some o → (h.update s.heap.objs.size f).get? b = some o := fun h f q b o e =>
    (Heap.get?_update_other _ _ (Ne.symm (Nat.ne_of_lt (Heap.lt_size e)))).trans (q b o e)
  have k1 : ∀ b o, s.heap.get? b = some o → (s.heap.push { cls := .type "list", data := .seq #[] }).get? b = some o := fun b o e => Heap.get?_push_of_some _ e
  have k2 := up _ (Obj.mapSeq (fun _ => (#[] : Array Value))) k1
  have zty : ∀ {h : Heap}, (∀ b o, s.heap.get? b = some o → h.get? b = some o) → ∀ g d t os, Shared.TypeIs ⟨h, g, d, t, os⟩ (.ref z) "zip" := fun {h} q g d t os => ⟨_, q _ _ hz, rfl⟩
  refine wpAny_bind (wpAny_typeOf (zty k2 _ _ _ _) ?_)
  have e1 : Builtin.List.listSameRef (.ref s.heap.objs.size) (.ref z) = false := by simp [Builtin.List.listSameRef, hSz]
  have e2 : (Value.type "zip" == Value.type "list") = false := by decide
  have e3 : (Value.type "zip" == Value.type "tuple") = false := by decide
  simp only [e1, e2, e3, Bool.or_false, Bool.false_eq_true, if_false]
  refine wpAny_bind (wpAny_pyIter_zip (s := { s with heap := _ }) (k2 _ _ hz) ?_)
  refine wpAny_bind (wpAny_holding ?_)
  unfold Builtin.List.listLengthHint
  refine wpAny_bind (wpAny_specialOf (zty k2 _ _ _ _) zip_no_len ?_)
  show wpAny _ A.in1.in1 (specialOf (Value.ref z) (Str.ofString "__length_hint__") >>= _) _ _ _
  refine wpAny_bind (wpAny_specialOf (zty k2 _ _ _ _) zip_no_hint ?_)
  refine wpAny_pure ?_
  show wpAny _ A.in1.in1 (rule "list.extend.makes-room" >>= fun _ => Builtin.List.listTouch (.ref s.heap.objs.size) >>= fun _ =>
    again (.builtin "list.extend.loop" ⟨[.ref s.heap.objs.size, .ref z, .none], []⟩)) _ _ _
  refine wpAny_bind (wpAny_rule ?_)
  refine wpAny_bind ?_
  show wpAny _ A.in1.in1 (updateSeq s.heap.objs.size (·.push .none) >>= fun _ => updateSeq s.heap.objs.size (·.pop)) _ _ _
  have I2 := I1.lset (its := []) (its' := [.none]) (ys := [.non]) (f := (·.push Value.none)) (t' := s.toks) upd_same hS2 rfl (.cons rfl .nil) (by decide)
  refine wpAny_bind (wpAny_updateSeq hS2 rfl ?_)
  have hS3 := Heap.get?_update_self (Obj.mapSeq (·.push Value.none)) hS2 rfl
  have I3 := I2.lset (its := [.none]) (its' := []) (ys := []) (f := (·.pop)) (t' := s.toks) upd_same hS3 rfl .nil (Nat.zero_le _)
  refine wpAny_updateSeq (hz := by seq_fits) hS3 rfl ?_
  have k4 := up _ (Obj.mapSeq (·.pop)) (up _ (Obj.mapSeq (·.push Value.none)) k2)
  refine wpAny_pure ⟨plainId_quiet F.plain_extend_loop _, ?_⟩
  rw [upd_upd, upd_upd, upd_upd] at I3
  obtain ⟨x0, y0, hTO⟩ := hTO
  refine drainZ (A := A.in1) (b1 := b1) (b2 := b2) (xs := xs) (ys := ys) (H0 := H) hh D hSn hn hS0 hqx hqy (fun s' H' ts I' dn => ⟨rfl, hQ _ s' H' ts I' dn⟩) _ _ (upd H s.heap.objs.size (.lst [])) [] rfl (Nat.zero_le _) I3 (fun c hc => ⟨?_, (hf c hc).2⟩) ⟨⟨x0, y0, k4 _ _ hTO⟩, .inl (k4 _ _ hz)⟩ (k4 _ _ hTI) (h1.at_ fun o e => k4 _ _ e) (h2.at_ fun o e => k4 _ _ e) upd_same (fun c o e => ?_) (fun k t e => by simp at e)
  · have hcs : c ≠ s.heap.objs.size := fun e => by have q := hSf hc; rw [e] at q; exact Nat.lt_irrefl _ q
    rw [upd_ne hcs]
    exact (hf c hc).1
  · rw [upd_ne (fun q => by rw [q, hS0] at e; cases e)]
    exact e
end
/-! the expression -/
def tLz (K : PySem.W.Frag) (ta : TA) : TE := fun σ H Q => ta σ H fun vs H1 => ∃ a b b1 b2 xs ys, vs = [.ref a, .ref b] ∧ SqG b1 K H1 a xs ∧ SqG b2 K H1 b ys ∧ xs.length ≤ 1000000 ∧ ∀ S H' ts, ZDone H1 H' S xs ys ts → Q (.ref S) H'
theorem pe_lz {X : Cx} {e e2 : Expr} {ta : TA} {p p2 pos pos2 : Pos} (hc : X.calm = true) (hl : Gl X "list") (hml : X.mg "list" = none) (hg : Gl X "zip") (hm : X.mg "zip" = none) (ha : PA X [e, e2] ta)
    (hs : starEach [e, e2] X.env = (false, eval e X.env) :: starEach [e2] X.env := by rfl) (hpl : (backTo pos2 (starEach [e2] X.env)).any (·.1) = false := by rfl)
    (na : starEach [.Call (.Name "zip" p2) [e, e2] [] pos2] X.env = (false, eval (.Call (.Name "zip" p2) [e, e2] [] pos2) X.env) :: starEach [] X.env := by rfl) :
    PE X (.Call (.Name "list" p) [.Call (.Name "zip" p2) [e, e2] [] pos2] [] pos) (tLz X.K ta) := by
  refine ⟨fun pins s σ H Q I h => ?_⟩
  refine Call_ (ld_blt I hl hml boot_list (PyProof.Rows.callWith_type1 (PyProof.Rows.args_cons ?_ na) na rfl))
  refine Call_ (ld_blt I hg hm PyProof.Rows.boot_zip (PyProof.Rows.callWith_type1 (thn (ha.run pos2 pins s σ H _ I h) fun us s1 ⟨vs, H1, I1, r1, q1⟩ => ?_) hs hpl))
  obtain ⟨a, b, b1, b2, xs, ys, ex, hqx, hqy, hn, q⟩ := q1
  subst ex
  obtain ⟨u1, u2, rfl, ra, rb⟩ := r1.two
  cases (show u1 = Value.ref a from ra)
  cases (show u2 = Value.ref b from rb)
  have fresh5 : ∀ c, c ∈ [s1.heap.objs.size + 4, s1.heap.objs.size + 2, s1.heap.objs.size + 3, s1.heap.objs.size, s1.heap.objs.size + 1] → FpOk X pins H1 c := fun c hcm => by
    have hle : s1.heap.objs.size ≤ c := by
      simp only [List.mem_cons, List.mem_singleton, List.not_mem_nil, or_false] at hcm
      omega
    exact I1.fpOk hle (I1.hok.fresh hle)
  obtain ⟨its, rv, p1, l1⟩ := Inv.sqG I1 hqx
  obtain ⟨its2, rv2, p2', l2⟩ := Inv.sqG I1 hqy
  refine call_zipG p1 p2' fun h' hz hTI hTO h1 h2 hsz hk => PyProof.Rows.args_nil ?_
  have I2 : L2.Inv X pins σ H1 { s1 with heap := h' } := I1.kept (t' := s1.toks) hk
  exact call_list_zip (xs := xs) (ys := ys) (I1.ok.hd hc) (PySem.W.ktu_apart s1.heap.objs.size a b l1 l2) hn I2 fresh5 hz hTI ⟨_, _, hTO⟩ h1 h2 hqx hqy fun S s' H' ts I' dn => ⟨.ref S, H', I', rfl, q S H' ts dn⟩
/-! by values -/
def bLz : Op2 := fun x y S => match itemsOf S x with
  | some xs => match itemsOf S y with
    | some ys => if small xs.length then some (true, .lst (zipL xs ys)) else none
    | none => none
  | none => none
def eLz (a b : SE) : SE := eBin bLz a b
theorem sqG_of {K : PySem.W.Frag} {H : Hp} {a : Addr} {us : List V} (h : SqL K H a us ∨ SqT K H a us) : ∃ b, SqG b K H a us := by
  rcases h with h | h
  · exact ⟨false, h⟩
  · exact ⟨true, h⟩
section
variable {G : Gam} {n0 : Nat} {g : Gh} {F : Hp} {r : List Addr} {S : Store} {H H' : Hp}
theorem grow_pairs (h : HR G n0 g F r S H') : ∀ (ts : List Addr) (xs ys : List PV) (us vs : List V), RVs G F r xs us → RVs G F r ys vs → ts.length = min us.length vs.length → (∀ (k : Nat) t, ts[k]? = some t → ∃ x y, us[k]? = some x ∧ vs[k]? = some y ∧ H' t = some (.tup [x, y]) ∧ F t = none ∧ t ∉ r ∧ g.pn t = none) →
    ∃ F', Ext F F' r r ∧ HR G n0 g F' r S H' ∧ RVs G F' r (zipL xs ys) (ts.map V.ref) ∧ ∀ c, F' c ≠ F c → c ∈ ts
  | [], xs, ys, us, vs, q1, q2, hl, _ => by
    refine ⟨F, .refl F r, h, ?_, fun c hc => absurd rfl hc⟩
    cases us with
    | nil =>
      have : xs = [] := by cases xs with
        | nil => rfl
        | cons x xs => obtain ⟨_, _, e, _⟩ := q1; cases e
      subst this
      exact rfl
    | cons u us =>
      cases vs with
      | nil =>
        have : ys = [] := by cases ys with
          | nil => rfl
          | cons x xs => obtain ⟨_, _, e, _⟩ := q2; cases e
        subst this
        cases xs <;> exact rfl
      | cons v vs => simp at hl
  | t :: ts, xs, ys, us, vs, q1, q2, hl, ht => by
    cases us with
    | nil => simp at hl
    | cons u us =>
      cases vs with
      | nil => simp at hl
      | cons v vs =>
        cases xs with
        | nil => cases (show (u :: us) = [] from q1)
        | cons x xs =>
          cases ys with
          | nil => cases (show (v :: vs) = [] from q2)
          | cons y ys =>
            obtain ⟨u', ur, e, k1, k2⟩ := q1
            cases e
            obtain ⟨v', vr, e, m1, m2⟩ := q2
            cases e
            obtain ⟨F1, x1, h1, rv, ch⟩ := grow_pairs h ts xs ys us vs k2 m2 (by simp at hl ⊢; omega) fun k t' e => by
              have := ht (k + 1) t' (by simpa using e)
              simpa using this
            obtain ⟨x0, y0, e1, e2, e3, e4, e5, e6⟩ := ht 0 t rfl
            simp at e1 e2
            subst e1 e2
            cases ef : F1 t with
            | none =>
              have ex : Ext F1 (L2.upd F1 t (.tup [u, v])) r r := ⟨Le.upd ef, List.prefix_refl r⟩
              refine ⟨_, x1.trans ex, h1.grow e3 ef e5 e6, ⟨_, _, rfl, ⟨t, [u, v], rfl, upd_same, _, _, rfl, (k1.ext x1).ext ex, _, _, rfl, (m1.ext x1).ext ex, rfl⟩, rv.ext ex⟩, fun c hc => ?_⟩
              by_cases hct : c = t
              · rw [hct]; exact List.mem_cons_self
              · rw [upd_ne hct] at hc
                exact List.mem_cons_of_mem _ (ch c hc)
            | some o =>
              have := h1.sub t o ef
              rw [e3] at this
              cases this
              exact ⟨F1, x1, h1, ⟨_, _, rfl, ⟨t, [u, v], rfl, ef, _, _, rfl, k1.ext x1, _, _, rfl, m1.ext x1, rfl⟩, rv⟩, fun c hc => List.mem_cons_of_mem _ (ch c hc)⟩
end
section
variable {X : Cx} {G : Gam} {n0 : Nat}
theorem se_lz {e e2 : Expr} {fe fe2 : SE} {p p2 pos pos2 : Pos} (hK : G.K = X.K) (hc : X.calm = true) (hl : Gl X "list") (hml : X.mg "list" = none) (hg : Gl X "zip") (hm : X.mg "zip" = none) (he : PE X e (rdE G n0 fe)) (he2 : PE X e2 (rdE G n0 fe2))
    (hs : starEach [e, e2] X.env = (false, eval e X.env) :: starEach [e2] X.env := by rfl) (hs2 : starEach [e2] X.env = (false, eval e2 X.env) :: starEach [] X.env := by rfl) (hpl : (backTo pos2 (starEach [e2] X.env)).any (·.1) = false := by rfl)
    (na : starEach [.Call (.Name "zip" p2) [e, e2] [] pos2] X.env = (false, eval (.Call (.Name "zip" p2) [e, e2] [] pos2) X.env) :: starEach [] X.env := by rfl) :
    PE X (.Call (.Name "list" p) [.Call (.Name "zip" p2) [e, e2] [] pos2] [] pos) (rdE G n0 (eLz fe fe2)) := by
  refine peI (pe_lz hc hl hml hg hm (pa_cons (toV he) (pa_cons (toV he2) pa_nil hs2) hs) hs hpl na) fun σ H Q ⟨F, r, env, S, g, s, h⟩ => ?_
  refine stV s cnE h fun p S1 F1 r1 H1 u x1 s1 q1 h1 => ?_
  refine stV s1 cnE h1 fun q S2 F2 r2 H2 v x2 s2 q2 h2 => ?_
  cases ea : itemsOf S2 p.2 with
  | none => simp only [bLz, ea] at h2; exact h2.elim
  | some xs =>
    cases eb : itemsOf S2 q.2 with
    | none => simp only [bLz, ea, eb] at h2; exact h2.elim
    | some ys =>
      simp only [bLz, ea, eb] at h2
      split at h2
      · rename_i hz
        obtain ⟨a, us, rfl, hs1, rv1⟩ := view_seq s2.hr (q1.ext x2) ea
        obtain ⟨b, vs, rfl, hs2', rv2⟩ := view_seq s2.hr q2 eb
        obtain ⟨b1, k1⟩ := sqG_of hs1
        obtain ⟨b2, k2⟩ := sqG_of hs2'
        have hle : us.length ≤ 1000000 := by rw [← RVs.length rv1]; exact Nat.le_of_ble_eq_true hz
        refine ⟨a, b, b1, b2, us, vs, rfl, hK ▸ k1, hK ▸ k2, hle, fun L H' ts dn => ?_⟩
        have hr' := s2.hr.heap dn.keep
        obtain ⟨F3, x3, h3, rv3, ch⟩ := grow_pairs hr' ts xs ys us vs rv1 rv2 dn.len fun k t e => by
          obtain ⟨x, y, e1, e2, e3, e4⟩ := dn.tup k t e
          exact ⟨x, y, e1, e2, e3, s2.hr.noF e4, s2.hr.nor e4, s2.hr.nop e4⟩
        have hFL : F3 L = none := by
          by_cases hL : F3 L = F2 L
          · rw [hL]; exact s2.hr.noF dn.new
          · obtain ⟨k, hk, e⟩ := List.getElem_of_mem (ch L hL)
            obtain ⟨x, y, _, _, e3, _⟩ := dn.tup k L (by rw [List.getElem?_eq_getElem hk, e])
            rw [dn.lst] at e3
            cases e3
        refine h2 F3 r2 H' _ ((x1.trans x2).trans x3) (s2.ext x3 h3) ⟨L, _, rfl, dn.lst, hFL, s2.hr.nor dn.new, s2.hr.nop dn.new, ⟨_, rfl, rv3⟩, rfl⟩
      · exact h2.elim
end
end PX
set_option Elab.async false
set_option linter.all false
set_option maxRecDepth 100000
set_option maxHeartbeats 1000000
namespace PX
open PySem PySem.Spec PyProof.Rows L2 ZG
/-! ### range of three, list(range(..)) -/
def rngC : Int → Int → Nat → List PV
  | _, _, 0 => []
  | lo, c, n + 1 => .int lo :: rngC (lo + c) c n
def sizeC (i j c : Int) : Nat := (Builtin.Range.rangeSize i j c).toNat
def okC (i j c : Int) : Bool := decide (c ≠ 0) && decide (c.natAbs < 1073741824) && Builtin.Range.small i j c && decide (Builtin.Range.rangeSize i j c = (sizeC i j c : Int))
def iRg3 (a b c : SE) : SI := fun env S => (a env S).bind fun p S1 => (b env S1).bind fun q S2 => (c env S2).bind fun z S3 => match p.2, q.2, z.2 with
  | .int i, .int j, .int k => if okC i j k then .ok (rngC i k (sizeC i j k), []) S3 else .no
  | _, _, _ => .no
def okL (i j : Int) : Bool := decide (-1000000 ≤ i) && decide (i ≤ 1000000) && decide (-1000000 ≤ j) && decide (j ≤ 1000000)
def eLr1 (a : SE) : SE := fun env S => (a env S).bind fun p S1 => match p.2 with
  | .int j => if okL 0 j then .ok (true, .lst (rngL 0 j.toNat)) S1 else .no
  | _ => .no
def eLr2 (a b : SE) : SE := fun env S => (a env S).bind fun p S1 => (b env S1).bind fun q S2 => match p.2, q.2 with
  | .int i, .int j => if okL i j then .ok (true, .lst (rngL i (j - i).toNat)) S2 else .no
  | _, _ => .no
section
variable {G : Gam} {n0 : Nat} {g : Gh} {F : Hp} {r : List Addr} {S : Store} {H : Hp}
theorem rngC_get : ∀ {n : Nat} {lo c : Int} {i : Nat} {t : PV}, (rngC lo c n)[i]? = some t → i < n ∧ t = .int (lo + (i : Nat) * c)
  | 0, lo, c, i, t, e => by simp [rngC] at e
  | n + 1, lo, c, 0, t, e => by
    simp [rngC] at e
    exact ⟨by omega, by rw [← e]; simp⟩
  | n + 1, lo, c, i + 1, t, e => by
    have e : (rngC (lo + c) c n)[i]? = some t := by simpa [rngC] using e
    obtain ⟨h1, h2⟩ := rngC_get e
    refine ⟨by omega, ?_⟩
    rw [h2]
    congr 1
    rw [Int.natCast_succ, Int.add_mul]
    omega
theorem rngC_len : ∀ (n : Nat) (lo c : Int), (rngC lo c n).length = n
  | 0, lo, c => rfl
  | n + 1, lo, c => by
    show (rngC (lo + c) c n).length + 1 = n + 1
    rw [rngC_len n]
theorem its_rngC {g' : Gh} {lo c : Int} {n : Nat} : Its G n0 g' F r (Itc lo c n) (rngC lo c n) := fun g2 hg2 F2 r2 S2 H2 h2 x2 => by
  refine ⟨fun i x ex => ?_, fun i hi => by rw [rngC_len] at hi; exact hi⟩
  obtain ⟨h1, rfl⟩ := rngC_get ex
  refine ⟨h1, fun v H3 hy => ?_⟩
  obtain ⟨rfl, rfl⟩ := hy
  exact ⟨F2, .refl _ _, h2, rfl⟩
variable {X : Cx} {tg e e2 e3 : Expr} {fe fe2 fe3 : SE} {p pos p2 pos2 : Pos}
theorem si_rng3 (hg : Gl X "range") (hm : X.mg "range" = none) (he : PE X e (rdE G n0 fe)) (he2 : PE X e2 (rdE G n0 fe2)) (he3 : PE X e3 (rdE G n0 fe3)) (hs : starEach [e, e2, e3] X.env = (false, eval e X.env) :: starEach [e2, e3] X.env := by rfl)
    (hs2 : starEach [e2, e3] X.env = (false, eval e2 X.env) :: starEach [e3] X.env := by rfl) (hs3 : starEach [e3] X.env = (false, eval e3 X.env) :: starEach [] X.env := by rfl) (hpl : (backTo pos (starEach [e2, e3] X.env)).any (·.1) = false := by rfl) :
    PI X tg (.Call (.Name "range" p) [e, e2, e3] [] pos) (rdI G n0 (iRg3 fe fe2 fe3)) := by
  refine piI (pi_range3 hg hm (pa_cons (toV he) (pa_cons (toV he2) (pa_cons (toV he3) pa_nil hs3) hs2) hs) hs hpl) fun σ H T ⟨F, r, env, S, g, s, h⟩ => ?_
  refine stV s cnI h fun p S1 F1 r1 H1 u x1 s1 q1 h1 => ?_
  refine stV s1 cnI h1 fun q S2 F2 r2 H2 w x2 s2 q2 h2 => ?_
  refine stV s2 cnI h2 fun z S3 F3 r3 H3 y x3 s3 q3 h3 => ?_
  obtain ⟨b, v⟩ := p
  obtain ⟨b', v'⟩ := q
  obtain ⟨b2, v2⟩ := z
  split at h3
  · rename_i i j k ei ej ek
    simp only at ei ej ek
    subst ei ej ek
    split at h3
    · rename_i hj
      unfold okC at hj
      simp only [Bool.and_eq_true, decide_eq_true_eq] at hj
      obtain ⟨⟨⟨k1, k2⟩, k3⟩, k4⟩ := hj
      exact ⟨i, j, k, sizeC i j k, by rw [show u = V.int i from q1, show w = V.int j from q2, show y = V.int k from q3], ⟨k1, k2, k3, k4⟩, h3 F3 r3 H3 _ g ((x1.trans x2).trans x3) s3 its_rngC (.refl g) (fun _ _ _ _ _ _ h _ => h)⟩
    · exact h3.elim
  · exact h3.elim
theorem okL_ok {i j : Int} (h : okL i j = true) : RgOk i j := by
  unfold okL at h
  simp only [Bool.and_eq_true, decide_eq_true_eq] at h
  exact ⟨by omega, by omega, by omega, by omega, by omega⟩
theorem rng_rv : ∀ (n : Nat) (lo : Int), RVs G F r (rngL lo n) ((List.range n).map fun i => V.int (lo + (i : Nat)))
  | 0, lo => rfl
  | n + 1, lo => by
    rw [List.range_succ_eq_map, List.map_cons, List.map_map]
    refine ⟨_, _, rfl, ?_, ?_⟩
    · show V.int (lo + ((0 : Nat) : Int)) = V.int lo
      congr 1
      omega
    · have := rng_rv n (lo + 1)
      have e : ((List.range n).map fun i => V.int (lo + 1 + (i : Nat))) = (List.range n).map ((fun i => V.int (lo + (i : Nat))) ∘ Nat.succ) := by
        apply List.map_congr_left
        intro i _
        show V.int (lo + 1 + (i : Nat)) = V.int (lo + ((i + 1 : Nat) : Int))
        congr 1
        omega
      rw [← e]
      exact this
theorem rg_rv (i j : Int) : RVs G F r (rngL i (j - i).toNat) (rgV i j) := rng_rv _ _
theorem se_lr1 (hc : X.calm = true) (hl : Gl X "list") (hml : X.mg "list" = none) (hg : Gl X "range") (hm : X.mg "range" = none) (he : PE X e (rdE G n0 fe)) (hs : starEach [e] X.env = (false, eval e X.env) :: starEach [] X.env := by rfl)
    (na : starEach [.Call (.Name "range" p2) [e] [] pos2] X.env = (false, eval (.Call (.Name "range" p2) [e] [] pos2) X.env) :: starEach [] X.env := by rfl) : PE X (.Call (.Name "list" p) [.Call (.Name "range" p2) [e] [] pos2] [] pos) (rdE G n0 (eLr1 fe)) := by
  refine peI (pe_listRg hc hl hml (prg_1 hg hm (toV he) hs) na) fun σ H Q ⟨F, r, env, S, g, s, h⟩ => ?_
  refine stV s cnE h fun p S1 F1 r1 H1 u x1 s1 q1 h1 => ?_
  obtain ⟨b, v⟩ := p
  cases v with
  | int j =>
    simp only at h1
    split at h1
    · rename_i hj
      refine ⟨j, q1, okL_ok hj, fun q hq => ?_⟩
      obtain ⟨h3, k3⟩ := new_obj s1.hr hq (v := .lst (rngL 0 j.toNat)) ⟨_, rfl, by have := rg_rv (G := G) (F := F1) (r := r1) 0 j; rw [Int.sub_zero] at this; exact this⟩ rfl
      exact h1 F1 r1 _ _ x1 (s1.ext (.refl _ _) h3) k3
    · exact h1.elim
  | _ => exact h1.elim
theorem se_lr2 (hc : X.calm = true) (hl : Gl X "list") (hml : X.mg "list" = none) (hg : Gl X "range") (hm : X.mg "range" = none) (he : PE X e (rdE G n0 fe)) (he2 : PE X e2 (rdE G n0 fe2)) (hs : starEach [e, e2] X.env = (false, eval e X.env) :: starEach [e2] X.env := by rfl)
    (hs2 : starEach [e2] X.env = (false, eval e2 X.env) :: starEach [] X.env := by rfl) (hpl : (backTo pos2 (starEach [e2] X.env)).any (·.1) = false := by rfl)
    (na : starEach [.Call (.Name "range" p2) [e, e2] [] pos2] X.env = (false, eval (.Call (.Name "range" p2) [e, e2] [] pos2) X.env) :: starEach [] X.env := by rfl) : PE X (.Call (.Name "list" p) [.Call (.Name "range" p2) [e, e2] [] pos2] [] pos) (rdE G n0 (eLr2 fe fe2)) := by
  refine peI (pe_listRg hc hl hml (prg_2 hg hm (toV he) (toV he2) hs hs2 hpl) na) fun σ H Q ⟨F, r, env, S, g, s, h⟩ => ?_
  refine stV s cnE h fun p S1 F1 r1 H1 u x1 s1 q1 h1 => ?_
  refine stV s1 cnE h1 fun q S2 F2 r2 H2 w x2 s2 q2 h2 => ?_
  obtain ⟨b, v⟩ := p
  obtain ⟨b', v'⟩ := q
  split at h2
  · rename_i i j ei ej
    simp only at ei ej
    subst ei ej
    split at h2
    · rename_i hj
      refine ⟨i, j, q1, q2, okL_ok hj, fun q hq => ?_⟩
      obtain ⟨h3, k3⟩ := new_obj s2.hr hq (v := .lst (rngL i (j - i).toNat)) ⟨_, rfl, rg_rv i j⟩ rfl
      exact h2 F2 r2 _ _ (x1.trans x2) (s2.ext (.refl _ _) h3) k3
    · exact h2.elim
  · exact h2.elim
end
end PX
set_option Elab.async false
set_option linter.all false
set_option maxRecDepth 100000
set_option maxHeartbeats 2000000
namespace PX
open PySem PySem.Spec PyProof.Rows L2 ZG
/-! ### [e for t in i if c for t1 in i1 if c1] -/
def compR2 (t : Tg) (c : ST) (i1 : SI) (t1 : Tg) (vs1 : List Nat) (c1 : ST) (e : SE) : List PV → Env → List PV → Store → R (List PV)
  | [], _, acc, S => .ok acc S
  | x :: xs, env, acc, S => match t x env S with
    | none => .no
    | some env' => (c env' S).bind fun b S1 => if b = true then (i1 env' S1).bind fun p S2 => (compR t1 c1 e p.1 (wipeE env' vs1) acc S2).bind fun acc' S3 => compR2 t c i1 t1 vs1 c1 e xs env acc' (unlock p.2 S3)
      else compR2 t c i1 t1 vs1 c1 e xs env acc S1
def eLc2 (i : SI) (t : Tg) (vs : List Nat) (c : ST) (i1 : SI) (t1 : Tg) (vs1 : List Nat) (c1 : ST) (e : SE) : SE := fun env S => (i env S).bind fun p S1 => (compR2 t c i1 t1 vs1 c1 e p.1 (wipeE env vs) [] S1).bind fun acc S2 => .ok (true, .lst acc) (unlock p.2 S2)
section
variable {G : Gam} {n0 : Nat} {g : Gh} {F : Hp} {r : List Addr} {S : Store} {H : Hp}
theorem bind_assoc {α β γ : Type} (m : R α) (k : α → Store → R β) (l : β → Store → R γ) : (m.bind k).bind l = m.bind fun x S => (k x S).bind l := by cases m <;> rfl
/-! the pin at hand, by `rep` -/
theorem rep_pin {a : Addr} {ho ho' : HO} : (g.pin a ho).rep (some (a, ho')) = g.pin a ho' := by
  show (⟨g.L, upd (upd g.pn a ho) a ho', _⟩ : Gh) = ⟨g.L, upd g.pn a ho', _⟩
  rw [upd_upd]
  rfl
theorem rep_at {a : Addr} {ho : HO} : (g.rep (some (a, ho))).pn a = some ho := upd_same
theorem rep_rep {a : Addr} {ho ho' : HO} : (g.rep (some (a, ho))).rep (some (a, ho')) = g.rep (some (a, ho')) := by
  show (⟨g.L, upd (upd g.pn a ho) a ho', _⟩ : Gh) = ⟨g.L, upd g.pn a ho', _⟩
  rw [upd_upd]
  rfl
theorem rep_le {a : Addr} {ho : HO} (hl : g.lk a = false) : GhLe g (g.rep (some (a, ho))) := fun b o e l => by
  have hb : b ≠ a := fun z => by rw [z, hl] at l; cases l
  exact ⟨by show upd g.pn a ho b = _; rw [upd_ne hb]; exact e, l⟩
theorem rep_self {a : Addr} {ho : HO} (hp : g.pn a = some ho) : g.rep (some (a, ho)) = g := by
  show (⟨g.L, upd g.pn a ho, g.lk⟩ : Gh) = g
  have : upd g.pn a ho = g.pn := by
    funext b
    by_cases hb : b = a
    · rw [hb, upd_same, hp]
    · rw [upd_ne hb]
  rw [this]
/-! what stands at a pin that is not locked is another -/
theorem HR.repSet {a : Addr} {ho ho' : HO} (h : HR G n0 g F r S H) (hp : g.pn a = some ho) (hl : g.lk a = false) : HR G n0 (g.rep (some (a, ho'))) F r S (upd H a ho') := by
  have hr : a ∉ r := h.out a ho hp hl
  have hF : F a = none := (h.pin a ho hp).2.1
  refine ⟨fun b o e => ?_, h.nd, h.off, h.len, h.nle, h.lle, fun i ob b e1 e2 => ?_, fun b o e => ?_, fun i ob b e1 e2 => ?_, fun b o e el => ?_⟩
  · rw [upd_ne (fun z => by rw [z, hF] at e; cases e)]
    exact h.sub b o e
  · obtain ⟨o, q1, q2⟩ := h.obj i ob b e1 e2
    refine ⟨o, ?_, q2⟩
    have hb : b ≠ a := fun z => hr (by rw [← z]; exact List.mem_of_getElem? e2)
    rw [upd_ne hb]
    exact q1
  · have e : upd g.pn a ho' b = some o := e
    by_cases hb : b = a
    · subst hb
      rw [upd_same] at e
      cases e
      exact ⟨upd_same, hF, fun i hi => absurd (List.mem_of_getElem? hi) hr⟩
    · rw [upd_ne hb] at e
      obtain ⟨q1, q2, q3⟩ := h.pin b o e
      exact ⟨by rw [upd_ne hb]; exact q1, q2, q3⟩
  · have hb : b ≠ a := fun z => hr (by rw [← z]; exact List.mem_of_getElem? e2)
    obtain ⟨o, q⟩ := h.lckd i ob b e1 e2
    exact ⟨o, by show upd g.pn a ho' b = _; rw [upd_ne hb]; exact q⟩
  · have e : upd g.pn a ho' b = some o := e
    by_cases hb : b = a
    · subst hb; exact hr
    · rw [upd_ne hb] at e
      exact h.out b o e el
theorem lc2_core' {fi fi1 : SI} {t t1 : Tg} {gg gg1 : TG} {vs vs1 : List Nat} {c c1 : ST} {fe : SE} (ht : TgB G vs t gg) (ht1 : TgB G vs1 t1 gg1) (σ : L2.St) (H : Hp) (Q : VK) (hh : rdE G n0 (eLc2 fi t vs c fi1 t1 vs1 c1 fe) σ H Q) :
    tLc2 (rdI G n0 fi) gg (rdT G n0 c) (rdI G n0 fi1) gg1 (rdT G n0 c1) (rdV G n0 fe) vs vs1 σ H Q := by
  obtain ⟨F, r, env, S, g, s, h⟩ := hh
  refine ⟨F, r, env, S, g, s, ?_⟩
  have h : PoE G n0 g F r env σ ((fi env S).bind fun p S1 => (compR2 t c fi1 t1 vs1 c1 fe p.1 (wipeE env vs) [] S1).bind fun acc S2 => .ok (true, .lst acc) (unlock p.2 S2)) Q := h
  cases ei : fi env S with
  | no => rw [ei] at h; exact h
  | ex => rw [ei] at h; exact h
  | ok p S1 =>
    rw [ei] at h
    obtain ⟨xs, ls⟩ := p
    have h : PoE G n0 g F r env σ ((compR2 t c fi1 t1 vs1 c1 fe xs (wipeE env vs) [] S1).bind fun acc S2 => .ok (true, .lst acc) (unlock ls S2)) Q := h
    intro F1 r1 H1 J g' x1 s1 its _ ul D hD
    have ul : ∀ F2 r2 S2 H2, HR G n0 g' F2 r2 S2 H2 → Ext F1 F2 r1 r2 → HR G n0 g F2 r2 (unlock ls S2) H2 := ul none (fun p e => nomatch e)
    have its : Its G n0 g' F1 r1 J xs := its
    have hp : g'.pn D = none := s1.hr.nop hD
    have hgp : g.pn D = none := (ul F1 r1 S1 H1 s1.hr (.refl _ _)).nop hD
    refine ⟨fun i m H' => m = xs.length - i ∧ i ≤ xs.length ∧ ∃ F2 r2 S2 acc us, Ext F1 F2 r1 r2 ∧ Sg G n0 (g'.pin D (.lst us)) F2 r2 (wipeE env vs) (L2.wipe σ vs) S2 H' ∧ RVs G F2 r2 acc us ∧
      PoE G n0 g F r env σ ((compR2 t c fi1 t1 vs1 c1 fe (xs.drop i) (wipeE env vs) acc S2).bind fun acc S2 => .ok (true, .lst acc) (unlock ls S2)) Q,
      ⟨xs.length, rfl, Nat.zero_le _, F1, r1, S1, [], [], .refl _ _, ⟨s1.hr.pinNew hD, (s1.wipe vs).sl, (s1.wipe vs).vr⟩, rfl, h⟩, ?_⟩
    rintro i m H2 ⟨rfl, hi, F2, r2, S2, acc, us, x2, s2, racc, h2⟩
    have hDr := pin_out s2.hr
    have hDH := (s2.hr.pin D _ pin_at).1
    have hDF := (s2.hr.pin D _ pin_at).2.1
    have hr2 := s2.hr.unpin hp
    obtain ⟨ig, ie⟩ := its (g'.pin D (.lst us)) (fun a o e l => pin_le hp a o e l) F2 r2 S2 H2 s2.hr x2
    by_cases hlt : i < xs.length
    · have hx : xs[i]? = some xs[i] := List.getElem?_eq_getElem hlt
      have hd : xs.drop i = xs[i] :: xs.drop (i + 1) := List.drop_eq_getElem_cons hlt
      rw [hd] at h2
      obtain ⟨go, yl⟩ := ig i xs[i] hx
      refine .inr ⟨go, fun H' => ∃ F2 r2 S2 acc us, Ext F1 F2 r1 r2 ∧ Sg G n0 (g'.pin D (.lst us)) F2 r2 (wipeE env vs) (L2.wipe σ vs) S2 H' ∧ RVs G F2 r2 acc us ∧
        PoE G n0 g F r env σ ((compR2 t c fi1 t1 vs1 c1 fe (xs.drop (i + 1)) (wipeE env vs) acc S2).bind fun acc S2 => .ok (true, .lst acc) (unlock ls S2)) Q,
        fun H' q => ⟨xs.length - (i + 1), by omega, rfl, hlt, q⟩, fun v H3 hy => ?_⟩
      obtain ⟨F3, x3, hr3, q3⟩ := yl v H3 hy
      have h3 : PoE G n0 g F r env σ ((match t xs[i] (wipeE env vs) S2 with
        | none => R.no
        | some env' => (c env' S2).bind fun b S1 => if b = true then (fi1 env' S1).bind fun p S2 => (compR t1 c1 fe p.1 (wipeE env' vs1) acc S2).bind fun acc' S3 => compR2 t c fi1 t1 vs1 c1 fe (xs.drop (i + 1)) (wipeE env vs) acc' (unlock p.2 S3)
          else compR2 t c fi1 t1 vs1 c1 fe (xs.drop (i + 1)) (wipeE env vs) acc S1).bind fun acc S2 => .ok (true, .lst acc) (unlock ls S2)) Q := h2
      cases et : t xs[i] (wipeE env vs) S2 with
      | none => rw [et] at h3; exact h3.elim
      | some env3 =>
        simp only [et] at h3
        refine ht n0 _ F3 r2 (wipeE env vs) (L2.wipe σ vs) S2 H3 xs[i] v env3 (L2.wipe σ vs) _ (wipe_idem σ vs) (s2.ext x3 hr3) q3 et fun σ3 hw3 s3 => ⟨hw3, ?_⟩
        refine ⟨F3, r2, env3, S2, _, s3, ?_⟩
        cases ec : c env3 S2 with
        | no => rw [ec] at h3; exact h3
        | ex => rw [ec] at h3; exact h3
        | ok b S4 =>
          rw [ec] at h3
          intro F4 r4 H4 x4 s4
          have xx : Ext F1 F4 r1 r4 := (x2.trans x3).trans x4
          have back : ∀ {us' F' r' S' H'}, Ext F4 F' r4 r' → HR G n0 (g'.pin D (.lst us')) F' r' S' H' → Sg G n0 (g'.pin D (.lst us')) F' r' (wipeE env vs) (L2.wipe σ vs) S' H' := fun {us' F' r' S' H'} x' hr' =>
            ⟨hr', s2.sl, fun j w e => by
              obtain ⟨u, e1, q1⟩ := s2.vr j w e
              exact ⟨u, e1, q1.ext ((x3.trans x4).trans x')⟩⟩
          cases b with
          | false => exact ⟨F4, r4, S4, acc, us, xx, back (.refl _ _) s4.hr, racc.ext (x3.trans x4), h3⟩
          | true =>
            have h4 : PoE G n0 g F r env σ (((fi1 env3 S4).bind fun p S2 => (compR t1 c1 fe p.1 (wipeE env3 vs1) acc S2).bind fun acc' S3 => compR2 t c fi1 t1 vs1 c1 fe (xs.drop (i + 1)) (wipeE env vs) acc' (unlock p.2 S3)).bind fun acc S2 => .ok (true, .lst acc) (unlock ls S2)) Q := h3
            rw [if_pos rfl]
            refine ⟨F4, r4, env3, S4, _, s4, ?_⟩
            cases ei1 : fi1 env3 S4 with
            | no => rw [ei1] at h4; exact h4
            | ex => rw [ei1] at h4; exact h4
            | ok p1 S5 =>
              rw [ei1] at h4
              obtain ⟨ys, ls1⟩ := p1
              have h5 : PoE G n0 g F r env σ (((compR t1 c1 fe ys (wipeE env3 vs1) acc S5).bind fun acc' S3 => compR2 t c fi1 t1 vs1 c1 fe (xs.drop (i + 1)) (wipeE env vs) acc' (unlock ls1 S3)).bind fun acc S2 => .ok (true, .lst acc) (unlock ls S2)) Q := h4
              intro F5 r5 H5 J1 g1 x5 s5 its1 pn1 ul1
              have its1 : Its G n0 g1 F5 r5 J1 ys := its1
              have ul1 : ∀ rp, (g'.pin D (.lst us)).has rp → ∀ F2 r2 S2 H2, HR G n0 (g1.rep rp) F2 r2 S2 H2 → Ext F5 F2 r5 r2 → HR G n0 ((g'.pin D (.lst us)).rep rp) F2 r2 (unlock ls1 S2) H2 := ul1
              have lk0 : (g'.pin D (.lst us)).lk D = false := by show (if D = D then false else g'.lk D) = false; rw [if_pos rfl]
              obtain ⟨pD, lD⟩ := pn1 D _ pin_at lk0
              have hasD : ∀ ho, (g'.pin D (.lst us)).has (some (D, ho)) := fun ho p e => by cases e; exact ⟨⟨_, pin_at⟩, lk0⟩
              -- the inner loop
              refine ⟨fun j m H' => m = ys.length - j ∧ j ≤ ys.length ∧ ∃ F6 r6 S6 acc6 us6, Ext F5 F6 r5 r6 ∧ Sg G n0 (g1.rep (some (D, .lst us6))) F6 r6 (wipeE env3 vs1) (L2.wipe σ3 vs1) S6 H' ∧ RVs G F6 r6 acc6 us6 ∧
                PoE G n0 g F r env σ (((compR t1 c1 fe (ys.drop j) (wipeE env3 vs1) acc6 S6).bind fun acc' S3 => compR2 t c fi1 t1 vs1 c1 fe (xs.drop (i + 1)) (wipeE env vs) acc' (unlock ls1 S3)).bind fun acc S2 => .ok (true, .lst acc) (unlock ls S2)) Q,
                ⟨ys.length, rfl, Nat.zero_le _, F5, r5, S5, acc, us, .refl _ _, ⟨by rw [rep_self pD]; exact s5.hr, (s5.wipe vs1).sl, (s5.wipe vs1).vr⟩, (racc.ext (x3.trans x4)).ext x5, h5⟩, ?_⟩
              rintro j m H6 ⟨rfl, hj, F6, r6, S6, acc6, us6, x6, s6, racc6, h6⟩
              obtain ⟨ig1, ie1⟩ := its1 (g1.rep (some (D, .lst us6))) (rep_le lD) F6 r6 S6 H6 s6.hr x6
              by_cases hlt1 : j < ys.length
              · have hy1 : ys[j]? = some ys[j] := List.getElem?_eq_getElem hlt1
                have hd1 : ys.drop j = ys[j] :: ys.drop (j + 1) := List.drop_eq_getElem_cons hlt1
                rw [hd1] at h6
                obtain ⟨go1, yl1⟩ := ig1 j ys[j] hy1
                refine .inr ⟨go1, fun H' => ∃ F6 r6 S6 acc6 us6, Ext F5 F6 r5 r6 ∧ Sg G n0 (g1.rep (some (D, .lst us6))) F6 r6 (wipeE env3 vs1) (L2.wipe σ3 vs1) S6 H' ∧ RVs G F6 r6 acc6 us6 ∧
                  PoE G n0 g F r env σ (((compR t1 c1 fe (ys.drop (j + 1)) (wipeE env3 vs1) acc6 S6).bind fun acc' S3 => compR2 t c fi1 t1 vs1 c1 fe (xs.drop (i + 1)) (wipeE env vs) acc' (unlock ls1 S3)).bind fun acc S2 => .ok (true, .lst acc) (unlock ls S2)) Q,
                  fun H' q => ⟨ys.length - (j + 1), by omega, rfl, hlt1, q⟩, fun v1 H7 hyv => ?_⟩
                obtain ⟨F7, x7, hr7, q7⟩ := yl1 v1 H7 hyv
                have h7 : PoE G n0 g F r env σ (((match t1 ys[j] (wipeE env3 vs1) S6 with
                  | none => R.no
                  | some env' => (c1 env' S6).bind fun b S1 => if b = true then (fe env' S1).bind fun q S2 => if small acc6.length then compR t1 c1 fe (ys.drop (j + 1)) (wipeE env3 vs1) (acc6 ++ [q.2]) S2 else .no
                    else compR t1 c1 fe (ys.drop (j + 1)) (wipeE env3 vs1) acc6 S1).bind fun acc' S3 => compR2 t c fi1 t1 vs1 c1 fe (xs.drop (i + 1)) (wipeE env vs) acc' (unlock ls1 S3)).bind fun acc S2 => .ok (true, .lst acc) (unlock ls S2)) Q := h6
                cases et1 : t1 ys[j] (wipeE env3 vs1) S6 with
                | none => rw [et1] at h7; exact h7.elim
                | some env8 =>
                  simp only [et1] at h7
                  refine ht1 n0 _ F7 r6 (wipeE env3 vs1) (L2.wipe σ3 vs1) S6 H7 ys[j] v1 env8 (L2.wipe σ3 vs1) _ (wipe_idem σ3 vs1) (s6.ext x7 hr7) q7 et1 fun σ8 hw8 s8 => ⟨hw8, ?_⟩
                  refine ⟨F7, r6, env8, S6, _, s8, ?_⟩
                  cases ec1 : c1 env8 S6 with
                  | no => rw [ec1] at h7; exact h7
                  | ex => rw [ec1] at h7; exact h7
                  | ok b1 S9 =>
                    rw [ec1] at h7
                    intro F9 r9 H9 x9 s9
                    have xx9 : Ext F5 F9 r5 r9 := (x6.trans x7).trans x9
                    have back1 : ∀ {us' F' r' S' H'}, Ext F9 F' r9 r' → HR G n0 (g1.rep (some (D, .lst us'))) F' r' S' H' → Sg G n0 (g1.rep (some (D, .lst us'))) F' r' (wipeE env3 vs1) (L2.wipe σ3 vs1) S' H' := fun {us' F' r' S' H'} x' hr' =>
                      ⟨hr', s6.sl, fun j w e => by
                        obtain ⟨u, e1, q1⟩ := s6.vr j w e
                        exact ⟨u, e1, q1.ext ((x7.trans x9).trans x')⟩⟩
                    cases b1 with
                    | false => exact ⟨F9, r9, S9, acc6, us6, xx9, back1 (.refl _ _) s9.hr, racc6.ext (x7.trans x9), h7⟩
                    | true =>
                      have h8 : PoE G n0 g F r env σ ((((fe env8 S9).bind fun q S2 => if small acc6.length then compR t1 c1 fe (ys.drop (j + 1)) (wipeE env3 vs1) (acc6 ++ [q.2]) S2 else .no).bind fun acc' S3 => compR2 t c fi1 t1 vs1 c1 fe (xs.drop (i + 1)) (wipeE env vs) acc' (unlock ls1 S3)).bind fun acc S2 => .ok (true, .lst acc) (unlock ls S2)) Q := h7
                      rw [if_pos rfl]
                      refine ⟨F9, r9, env8, S9, _, s9, ?_⟩
                      cases ee : fe env8 S9 with
                      | no => rw [ee] at h8; exact h8
                      | ex => rw [ee] at h8; exact h8
                      | ok q S10 =>
                        rw [ee] at h8
                        intro F10 r10 H10 y x10 s10 q10
                        have h9 : PoE G n0 g F r env σ (((if small acc6.length then compR t1 c1 fe (ys.drop (j + 1)) (wipeE env3 vs1) (acc6 ++ [q.2]) S10 else .no).bind fun acc' S3 => compR2 t c fi1 t1 vs1 c1 fe (xs.drop (i + 1)) (wipeE env vs) acc' (unlock ls1 S3)).bind fun acc S2 => .ok (true, .lst acc) (unlock ls S2)) Q := h8
                        cases hsm : small acc6.length with
                        | false => rw [hsm] at h9; exact h9.elim
                        | true =>
                          rw [hsm, if_pos rfl] at h9
                          have hr10 := s10.hr
                          have set10 := hr10.repSet (ho' := .lst (us6 ++ [y])) rep_at lD
                          rw [rep_rep] at set10
                          refine ⟨us6, (hr10.pin D _ rep_at).1, by rw [← RVs.length racc6]; exact small_lt hsm, F10, r10, S10, acc6 ++ [q.2], us6 ++ [y], xx9.trans x10, back1 x10 set10, (racc6.ext ((x7.trans x9).trans x10)).append ⟨y, [], rfl, q10, rfl⟩, h9⟩
              · have e : j = ys.length := by omega
                subst e
                rw [List.drop_length] at h6
                refine .inl ⟨ie1 _ (Nat.le_refl _), ?_⟩
                have h10 := ul1 (some (D, .lst us6)) (hasD _) F6 r6 S6 H6 s6.hr x6
                rw [rep_pin] at h10
                exact ⟨F6, r6, unlock ls1 S6, acc6, us6, (xx.trans x5).trans x6, back (x5.trans x6) h10, racc6, h6⟩
    · have e : i = xs.length := by omega
      subst e
      rw [List.drop_length] at h2
      refine .inl ⟨ie _ (Nat.le_refl _), ?_⟩
      have h6 := ul F2 r2 S2 H2 hr2 x2
      have s6 : Sg G n0 g F2 r2 env σ (unlock ls S2) H2 := ⟨h6, s1.sl, fun j w e => by
        obtain ⟨u, e1, q1⟩ := s1.vr j w e
        exact ⟨u, e1, q1.ext x2⟩⟩
      exact h2 F2 r2 H2 (.ref D) (x1.trans x2) s6 ⟨D, .lst us, rfl, hDH, hDF, hDr, hgp, ⟨us, rfl, racc⟩, rfl⟩
variable {X : Cx}
theorem se_lc2 {elt tg iter tg1 iter1 : Expr} {ifs ifs1 : List Expr} {scope : Scope} {own : List (Str × Nat)} {vs1 : List Nat} {pos : Pos} {fi fi1 : SI} {t t1 : Tg} {gg gg1 : TG} {c c1 : ST} {fe : SE} (hc : X.calm = true) (hN : X.N.Nodup) (hi : PI X tg iter (rdI G n0 fi)) (ok : BlkOk X.N X.env.scope scope own) (hv : ∀ i ∈ vs1, i ∈ own.map (·.2)) (ht : TgB G (own.map (·.2)) t gg) (ht1 : TgB G vs1 t1 gg1)
    (hg : ∀ (s : Shared) (H : Hp) (C : Addr) (cl : List (Str × Addr)) (fp : List Addr), PG (X.blk s H scope (compEnvC scope cl C X.env) fp) tg gg)
    (hts : ∀ (s : Shared) (H : Hp) (C : Addr) (cl : List (Str × Addr)) (fp : List Addr), PTs (X.blk s H scope (compEnvC scope cl C X.env) fp) ifs (rdT G n0 c))
    (hi1 : ∀ (s : Shared) (H : Hp) (C : Addr) (cl : List (Str × Addr)) (fp : List Addr), PI (X.blk s H scope (compEnvC scope cl C X.env) fp) tg1 iter1 (rdI G n0 fi1))
    (hg1 : ∀ (s : Shared) (H : Hp) (C : Addr) (cl : List (Str × Addr)) (fp : List Addr), PG (X.blk s H scope (compEnvC scope cl C X.env) fp) tg1 gg1)
    (hts1 : ∀ (s : Shared) (H : Hp) (C : Addr) (cl : List (Str × Addr)) (fp : List Addr), PTs (X.blk s H scope (compEnvC scope cl C X.env) fp) ifs1 (rdT G n0 c1))
    (he : ∀ (s : Shared) (H : Hp) (C : Addr) (cl : List (Str × Addr)) (fp : List Addr), PE (X.blk s H scope (compEnvC scope cl C X.env) fp) elt (rdE G n0 fe)) (hs : ∀ x, foldedSetIterable iter X.env x = pure x := by intro _; rfl) (hs1 : ∀ env x, foldedSetIterable iter1 env x = pure x := by intro _ _; rfl) :
    PE X (.ListComp elt [⟨tg, iter, ifs, 0⟩, ⟨tg1, iter1, ifs1, 0⟩] scope pos) (rdE G n0 (eLc2 fi t (own.map (·.2)) c fi1 t1 vs1 c1 fe)) :=
  se_of (pe_lc2 hc hN hi ok hv hg hts hi1 hg1 hts1 (fun s H C cl fp => toV (he s H C cl fp)) hs hs1) (lc2_core' ht ht1)
theorem ss_setLc2 {i : Nat} {y : Str} {py : Pos} {elt tg iter tg1 iter1 : Expr} {ifs ifs1 : List Expr} {scope : Scope} {own : List (Str × Nat)} {vs1 : List Nat} {pos spos : Pos} {fi fi1 : SI} {t t1 : Tg} {gg gg1 : TG} {c c1 : ST} {fe : SE} (hc : X.calm = true) (hN : X.N.Nodup) (hy : X.N[i]? = some y) (hyl : X.env.scope.names.lookup y = some .local)
    (hsw : swapsWith (.ListComp elt [⟨tg, iter, ifs, 0⟩, ⟨tg1, iter1, ifs1, 0⟩] scope pos) (some (.Name y py)) spos.line X.env = pure true) (hi : PI X tg iter (rdI G n0 fi)) (ok : BlkOk X.N X.env.scope scope own) (hv : ∀ i ∈ vs1, i ∈ own.map (·.2)) (ht : TgB G (own.map (·.2)) t gg) (ht1 : TgB G vs1 t1 gg1)
    (hg : ∀ (s : Shared) (H : Hp) (C : Addr) (cl : List (Str × Addr)) (fp : List Addr), PG (X.blk s H scope (compEnvC scope cl C X.env) fp) tg gg)
    (hts : ∀ (s : Shared) (H : Hp) (C : Addr) (cl : List (Str × Addr)) (fp : List Addr), PTs (X.blk s H scope (compEnvC scope cl C X.env) fp) ifs (rdT G n0 c))
    (hi1 : ∀ (s : Shared) (H : Hp) (C : Addr) (cl : List (Str × Addr)) (fp : List Addr), PI (X.blk s H scope (compEnvC scope cl C X.env) fp) tg1 iter1 (rdI G n0 fi1))
    (hg1 : ∀ (s : Shared) (H : Hp) (C : Addr) (cl : List (Str × Addr)) (fp : List Addr), PG (X.blk s H scope (compEnvC scope cl C X.env) fp) tg1 gg1)
    (hts1 : ∀ (s : Shared) (H : Hp) (C : Addr) (cl : List (Str × Addr)) (fp : List Addr), PTs (X.blk s H scope (compEnvC scope cl C X.env) fp) ifs1 (rdT G n0 c1))
    (he : ∀ (s : Shared) (H : Hp) (C : Addr) (cl : List (Str × Addr)) (fp : List Addr), PE (X.blk s H scope (compEnvC scope cl C X.env) fp) elt (rdE G n0 fe)) (hs : ∀ x, foldedSetIterable iter X.env x = pure x := by intro _; rfl) (hs1 : ∀ env x, foldedSetIterable iter1 env x = pure x := by intro _ _; rfl) :
    PS X (.Assign [.Name y py] (.ListComp elt [⟨tg, iter, ifs, 0⟩, ⟨tg1, iter1, ifs1, 0⟩] scope pos) spos) (tAsg (rdE G n0 (eLc2 fi t (own.map (·.2)) c fi1 t1 vs1 c1 fe)) (gName i)) :=
  psI (ps_setLc2 hc hN hy hyl hsw hi ok hv hg hts hi1 hg1 hts1 (fun s H C cl fp => toV (he s H C cl fp)) hs hs1) fun D σ H h => lc2_core' ht ht1 σ H _ h
end
end PX
set_option Elab.async false
set_option linter.all false
set_option maxRecDepth 100000
set_option maxHeartbeats 1000000
namespace PX
open PySem PySem.Spec PyProof.Rows L2
/-! ### dicts: {}, d[k] = v, d[k] op= v, d.get(k, v) -/
def eDnK : SE := fun _ S => .ok (true, .dct (.k []) []) S
def eDnT : SE := fun _ S => .ok (true, .dct (.t []) []) S
def setG (n0 : Nat) (o k v : PV) (S : Store) : Option Store := match o with
  | .ref i => match S[i]? with
    | some (.lst xs) => setL n0 o k v S
    | some (.dct ks vs) => match keyOf k with
      | some q => match dPut ks vs q v with
        | some z => if mayPut n0 i v && small vs.length then some (S.set i (.dct z.1 z.2)) else none
        | none => none
      | none => none
    | _ => none
  | _ => none
def oGet : Op2 := fun x y S => match dIx x y S with
  | some z => some z
  | none => match deref S x with
    | some (.lst xs) => match y with
      | .int i => match ixP xs.length i with
        | some j => (xs[j]?).map fun v => (false, v)
        | none => none
      | _ => none
    | _ => none
def dG (x y z : PV) (S : Store) : Option PV := match deref S x with
  | some (.dct ks vs) => match keyOf y with
    | some q => match dGet ks vs q with
      | some (some v) => some v
      | some none => some z
      | none => none
    | none => none
  | _ => none
def isD (S : Store) (v : PV) : Bool := match deref S v with
  | some (.dct _ _) => true
  | _ => false
def eGet2 (d k f : SE) : SE := fun env S => (d env S).bind fun p S1 => if isD S1 p.2 then (k env S1).bind fun q S2 => (f env S2).bind fun z S3 => match dG p.2 q.2 z.2 S3 with
  | some v => .ok (false, v) S3
  | none => .no
  else .no
section
variable {X : Cx} {G : Gam} {n0 : Nat} {g : Gh} {F : Hp} {r : List Addr} {S : Store} {H : Hp}
theorem se_dnK {pos : Pos} : PE X (.Dict [] [] pos) (rdE G n0 eDnK) := by
  refine peI pe_dnewK fun σ H Q ⟨F, r, env, S, g, s, h⟩ => fun p hp => ?_
  obtain ⟨h2, k⟩ := new_obj s.hr hp (v := .dct (.k []) []) (ho := .dK []) ⟨[], ⟨rfl, rfl⟩, rfl⟩ rfl
  exact h F r _ _ (.refl _ _) (s.ext (.refl _ _) h2) k
theorem se_dnT {pos : Pos} : PE X (.Dict [] [] pos) (rdE G n0 eDnT) := by
  refine peI pe_dnewT fun σ H Q ⟨F, r, env, S, g, s, h⟩ => fun p hp => ?_
  obtain ⟨h2, k⟩ := new_obj s.hr hp (v := .dct (.t []) []) (ho := .dT []) ⟨[], ⟨rfl, rfl⟩, rfl⟩ rfl
  exact h F r _ _ (.refl _ _) (s.ext (.refl _ _) h2) k
def rSetG : TSet := fun o i v H Q => rSetL o i v H Q ∨ rSetD o i v H Q
theorem set_G (hu : X.A.units + 1 < cLine) : PSet X rSetG := by
  intro pins s σ H o i v ov iv u Q I ro ri rv h
  rcases h with h | h
  · exact set_list pins s σ H o i v ov iv u Q I ro ri rv h
  · exact set_dict hu pins s σ H o i v ov iv u Q I ro ri rv h
theorem store_dct {i : Nat} {u : V} {ks : DKs} {vs : List PV} (h : HR G n0 g F r S H) (q : RV G F r (.ref i) u) (e : S[i]? = some (.dct ks vs)) : ∃ a ho us, u = .ref a ∧ r[i]? = some a ∧ H a = some ho ∧ DR ho ks us ∧ RVs G F (lim n0 g.L r i) vs us := by
  obtain ⟨a, e1, rfl⟩ := q
  obtain ⟨ho, h1, us, d, k⟩ := h.obj i _ a e e1
  exact ⟨a, ho, us, rfl, e1, h1, d, k⟩
theorem chg_setG : ChgI G n0 (setG n0) rSetG := fun g F r S H o k v u y w S' Q h q1 q2 q3 e kk => by
  unfold setG at e
  split at e
  · rename_i i
    split at e
    · exact .inl (chg_setL g F r S H _ k v u y w S' Q h q1 q2 q3 e kk)
    · rename_i ks vs es
      cases ek : keyOf k with
      | none => simp only [ek] at e; cases e
      | some q =>
        simp only [ek] at e
        cases ep : dPut ks vs q v with
        | none => simp only [ep] at e; cases e
        | some z =>
          simp only [ep] at e
          split at e
          · rename_i hm
            cases e
            rw [Bool.and_eq_true] at hm
            obtain ⟨a, ho, us, rfl, e1, e2, d, k2⟩ := store_dct h q1 es
            have hw := put_rv hm.1 (L := g.L) q3
            have hl : us.length < sizeLine := by rw [← RVs.length k2]; exact small_lt hm.2
            cases ks with
            | k l =>
              obtain ⟨rfl, hll⟩ := d
              cases q with
              | t q => cases ep
              | k q =>
                have ep : some (DKs.k (putB eqK l vs q v).1, (putB eqK l vs q v).2) = some z := ep
                cases ep
                obtain ⟨us', p1, p2, p3⟩ := putB_ok eqK_ok (q := q) hw hll k2
                refine .inr ⟨a, _, rfl, .inl ⟨_, q, e2, keyOf_k q2 ek, by rw [List.length_zip, hll, Nat.min_self]; exact hl, rfl⟩, kk _ ?_⟩
                rw [p1]
                exact h.put e1 es rfl rfl ⟨us', ⟨rfl, p2⟩, p3⟩
            | t l =>
              obtain ⟨rfl, hll⟩ := d
              cases q with
              | k q => cases ep
              | t q =>
                have ep : some (DKs.t (putB eqKs l vs q v).1, (putB eqKs l vs q v).2) = some z := ep
                cases ep
                obtain ⟨b, rfl, eb⟩ := keyOf_t q2 ek
                obtain ⟨us', p1, p2, p3⟩ := putB_ok eqKs_ok (q := q) hw hll k2
                refine .inr ⟨a, _, rfl, .inr ⟨_, q, b, e2, rfl, h.sub _ _ eb, by rw [List.length_zip, hll, Nat.min_self]; exact hl, rfl⟩, kk _ ?_⟩
                rw [p1]
                exact h.put e1 es rfl rfl ⟨us', ⟨rfl, p2⟩, p3⟩
          · cases e
    · cases e
  · cases e
/-! o[k], by values: for o[k] op= v -/
def rGetG (K : PySem.W.Frag) : R2 := fun x y H Q => rIxDct x y H Q ∨ rIxL K x y H Q
theorem get_G (hu : X.A.units + 1 < cLine) : PGet X (rGetG X.K) := by
  intro pins s σ H x y v u Q I rx ry h
  rcases h with h | h
  · obtain ⟨a, z, rfl, gd, q⟩ := h
    cases (show v = Value.ref a from rx)
    exact d_getItem hu I gd ry fun w' s3 I3 rw' => ⟨z, H, I3, rw', q⟩
  · obtain ⟨p, xs, i, z, rfl, rfl, hq, he, q⟩ := h
    cases rx
    obtain ⟨t, rfl⟩ := ry
    obtain ⟨its, r, pl, hz⟩ := I.list hq
    obtain ⟨j, h1, h2, h3, h4, h5⟩ := atI_get he
    obtain ⟨w, ew, rw'⟩ := r.get h2
    have hl := r.length
    have hn := line63
    have fin : EP X pins σ Q w s := ⟨z, H, I, rw', q⟩
    by_cases h0 : 0 ≤ i
    · have hj : i.toNat = j := by
        rw [seqIndex_of h0 h5] at h1
        exact Option.some.inj h1
      exact wpAny_getItem_list pl.isList h0 (by omega) (by rw [hj]; simpa using ew) fin
    · have hj : (i + (its.toArray.size : Int)).toNat = j := by
        rw [seqIndex_neg (by omega) h4] at h1
        rw [List.size_toArray, ← hl]
        exact Option.some.inj h1
      exact wpAny_getItem_list_neg pl.isList (by omega) (by rw [List.size_toArray] <;> omega) (by omega) (by rw [hj]; simpa using ew) fin
theorem dIx_ok (h : HR G n0 g F r S H) {x y : PV} {u v : V} {z : Bool × PV} {Q : VK} (q1 : RV G F r x u) (q2 : RV G F r y v) (e : dIx x y S = some z) (k : ∀ F' r' H' w, Ext F F' r r' → HR G n0 g F' r' S H' → RF G g F' r' H' z.1 z.2 w → Q w H') : rIxDct u v H Q := by
  unfold dIx at e
  split at e
  · rename_i ks vs edr
    cases ek : keyOf y with
    | none => simp only [ek] at e; cases e
    | some kk =>
      simp only [ek] at e
      cases eg : dGet ks vs kk with
      | none => simp only [eg] at e; cases e
      | some o =>
        cases o with
        | none => simp only [eg] at e; cases e
        | some w =>
          simp only [eg] at e
          cases e
          obtain ⟨a', o', rfl, gd, y', rfl, rv⟩ := dGet_ok h q1 edr q2 ek eg
          exact ⟨a', y', rfl, gd, k F r H y' (.refl _ _) h rv⟩
  · cases e
theorem ok_get : Ok2 G oGet (rGetG G.K) := fun n0 g F r S H x y u v z Q h q1 q2 e k => by
  unfold oGet at e
  cases ed : dIx x y S with
  | some w =>
    simp only [ed] at e
    cases e
    exact .inl (dIx_ok h q1 q2 ed k)
  | none =>
    simp only [ed] at e
    split at e
    · rename_i xs edr
      split at e
      · rename_i i
        split at e
        · rename_i j ej
          cases ew : xs[j]? with
          | none => rw [ew] at e; cases e
          | some w =>
            rw [ew] at e
            cases e
            obtain ⟨a, us, rfl, k1, k2⟩ := view_lst h q1 edr
            obtain ⟨w', e1, q3⟩ := RVs.get k2 ew
            have ea : atI us i = some w' := by
              unfold atI
              rw [← RVs.length k2, ← ixP_eq, ej]
              exact e1
            cases (show v = V.int i from q2)
            exact .inr ⟨a, us, i, w', rfl, rfl, .inl k1, ea, k F r H w' (.refl F r) h q3⟩
        · cases e
      · cases e
    · cases e
/-! d.get(k, v) -/
theorem isD_ok (h : HR G n0 g F r S H) {v : PV} {u : V} (q : RV G F r v u) (e : isD S v = true) : ∃ a, u = .ref a ∧ IsD H a := by
  unfold isD at e
  split at e
  · rename_i ks vs ed
    obtain ⟨a, ho, us, rfl, k1, k2, k3⟩ := view_dct h q ed
    refine ⟨a, rfl, ?_⟩
    cases ks with
    | k l => obtain ⟨rfl, _⟩ := k2; exact .inl ⟨_, .inl k1⟩
    | t l => obtain ⟨rfl, _⟩ := k2; exact .inr ⟨_, .inl k1⟩
  · cases e
theorem se_get2 {o e f : Expr} {fo fe ff : SE} {apos cpos : Pos} {cf : CF} {k : Nat} (T : Tb X G cf k) (ho : PE X o (rdE G n0 fo)) (he : PE X e (rdE G n0 fe)) (hf : PE X f (rdE G n0 ff)) (m : M2 X o "get" apos e f cpos) : PE X (.Call (.Attribute o "get" apos) [e, f] [] cpos) (rdE G n0 (eGet2 fo fe ff)) := by
  refine peI (pe_dget2 (by have := T.room.un; omega) (toV ho) (toV he) (toV hf) m) fun σ H Q ⟨F, r, env, S, g, s, h⟩ => ?_
  refine stV s cnE h fun p S1 F1 r1 H1 u x1 s1 q1 h1 => ?_
  split at h1
  · rename_i hd
    obtain ⟨a, rfl, ia⟩ := isD_ok s1.hr q1 hd
    refine ⟨a, rfl, ia, ?_⟩
    refine stV s1 cnE h1 fun q S2 F2 r2 H2 v x2 s2 q2 h2 => ?_
    refine stV s2 cnE h2 fun z S3 F3 r3 H3 w x3 s3 q3 h3 => ?_
    cases ed : dG p.2 q.2 z.2 S3 with
    | none => simp only [ed] at h3; exact h3.elim
    | some y =>
      simp only [ed] at h3
      unfold dG at ed
      split at ed
      · rename_i ks vs edr
        cases ek : keyOf q.2 with
        | none => simp only [ek] at ed; cases ed
        | some kk =>
          simp only [ek] at ed
          cases eg : dGet ks vs kk with
          | none => simp only [eg] at ed; cases ed
          | some oo =>
            obtain ⟨a', o', e', gd, rv⟩ := dGet_ok s3.hr (q1.ext (x2.trans x3)) edr (q2.ext x3) ek eg
            cases e'
            refine ⟨o', gd, ?_⟩
            cases oo with
            | none =>
              simp only [eg] at ed
              cases ed
              rw [show o' = none from rv]
              exact h3 F3 r3 H3 w ((x1.trans x2).trans x3) s3 q3
            | some y' =>
              simp only [eg] at ed
              cases ed
              obtain ⟨u', rfl, rv⟩ := rv
              exact h3 F3 r3 H3 u' ((x1.trans x2).trans x3) s3 rv
      · cases ed
  · exact h1.elim
/-! a pair of names in a target of a store: o[k] = e in an unpacking is not told -/
theorem units2 {cf : CF} {k : Nat} (T : Tb X G cf k) : X.A.units + 1 < cLine := by
  have := T.room.un
  omega
end
end PX
set_option Elab.async false
set_option linter.all false
set_option maxRecDepth 100000
set_option maxHeartbeats 1000000
/-! the evaluator's equations and values, for every law -/
namespace PX
open PySem
/-! the evaluator's equations, for simp -/
section
variable (env : Env) (S : Store)
@[simp] theorem q_lit (v : PV) : eLit v env S = .ok (false, v) S := (rfl)
theorem q_var (i : Nat) : eVar i env S = match env[i]? with
  | some (some v) => .ok (false, v) S
  | _ => .no := (rfl)
@[simp] theorem q_un (o : Op1) (a : SE) : eUn o a env S = (a env S).bind fun p S1 => ofO (o p.2 S1) S1 := (rfl)
@[simp] theorem q_bin (o : Op2) (a b : SE) : eBin o a b env S = (a env S).bind fun p S1 => (b env S1).bind fun q S2 => ofO (o p.2 q.2 S2) S2 := (rfl)
@[simp] theorem q_nil : aNil env S = .ok [] S := (rfl)
@[simp] theorem q_cons (a : SE) (r : SA) : aCons a r env S = (a env S).bind fun p S1 => (r env S1).bind fun q S2 => .ok (p.2 :: q) S2 := (rfl)
@[simp] theorem q_arg (o : OpN) (a : SA) : eArg o a env S = (a env S).bind fun p S1 => ofO (o p S1) S1 := (rfl)
@[simp] theorem q_tup (a : SA) : eTup a env S = (a env S).bind fun p S1 => if small p.length then .ok (false, .tup p) S1 else .no := (rfl)
@[simp] theorem q_lst (a : SA) : eLst a env S = (a env S).bind fun p S1 => if small p.length then .ok (true, .lst p) S1 else .no := (rfl)
@[simp] theorem q_tru (a : SE) : tTru a env S = (a env S).bind fun p S1 => match truth S1 p.2 with
  | some b => .ok b S1
  | none => .no := (rfl)
@[simp] theorem q_tbl (a : SE) : tBl a env S = (a env S).bind fun p S1 => match p.2 with
  | .bl b => .ok b S1
  | _ => .no := (rfl)
@[simp] theorem q_tno (a : ST) : tNo a env S = (a env S).bind fun b S1 => .ok (!b) S1 := (rfl)
@[simp] theorem q_tan (a b : ST) : tAn a b env S = (a env S).bind fun c S1 => if c = true then b env S1 else .ok false S1 := (rfl)
@[simp] theorem q_tor (a b : ST) : tOr a b env S = (a env S).bind fun c S1 => if c = true then .ok true S1 else b env S1 := (rfl)
@[simp] theorem q_ean (a b : SE) : eAn a b env S = (a env S).bind fun p S1 => match truth S1 p.2 with
  | some true => b env S1
  | some false => .ok (false, p.2) S1
  | none => .no := (rfl)
@[simp] theorem q_eor (a b : SE) : eOr a b env S = (a env S).bind fun p S1 => match truth S1 p.2 with
  | some true => .ok (false, p.2) S1
  | some false => b env S1
  | none => .no := (rfl)
@[simp] theorem q_not (a : SE) : eNot a env S = (a env S).bind fun p S1 => match truth S1 p.2 with
  | some b => .ok (false, .bl (!b)) S1
  | none => .no := (rfl)
@[simp] theorem q_if (c : ST) (a b : SE) : eIf c a b env S = (c env S).bind fun t S1 => if t = true then a env S1 else b env S1 := (rfl)
@[simp] theorem q_ch (o o' : Op2) (a b c : SE) : eCh o o' a b c env S = (a env S).bind fun p S1 => (b env S1).bind fun q S2 => match o p.2 q.2 S2 with
  | some (false, .bl true) => (c env S2).bind fun z S3 => ofO (o' q.2 z.2 S3) S3
  | some (false, .bl false) => .ok (false, .bl false) S2
  | _ => .no := (rfl)
@[simp] theorem q_new (a : SE) : eNew a env S = (a env S).bind fun p S1 => match p.1 with
  | true => .ok (false, .ref S1.length) (S1 ++ [p.2])
  | false => .ok p S1 := (rfl)
@[simp] theorem q_scons (a b : SS) : sCons a b env S = (a env S).then b := (rfl)
@[simp] theorem q_snil : sNil env S = .nx env S := (rfl)
@[simp] theorem q_sexp (a : SE) : sExp a env S = (a env S).go fun _ S1 => .nx env S1 := (rfl)
@[simp] theorem q_sret (a : SE) : sRet a env S = (a env S).go fun p S1 => .rt p.2 S1 := (rfl)
@[simp] theorem q_sif (c : ST) (a b : SS) : sIf c a b env S = (c env S).go fun t S1 => if t = true then a env S1 else b env S1 := (rfl)
@[simp] theorem q_sasg (t : Tg) (a : SE) : sAsg t a env S = (a env S).go fun p S1 => match t p.2 env S1 with
  | some env' => .nx env' S1
  | none => .no := (rfl)
@[simp] theorem q_gnm (i : Nat) (v : PV) : gNm i v env S = some (env.set i (some v)) := (rfl)
@[simp] theorem q_spar (is : List Nat) (a : SA) : sPar is a env S = (a env S).go fun vs S1 => match gTps (is.map gNm) vs env S1 with
  | some env' => .nx env' S1
  | none => .no := (rfl)
@[simp] theorem q_len (cf : CF) (tb : List (Nat × Nat)) (a : SE) : eLen cf tb a env S = (a env S).bind fun p S1 => match ownOf tb S1 p.2 with
  | some f => (callV cf f [p.2] S1).bind lenI
  | none => ofO (bLen [p.2] S1) S1 := (rfl)
@[simp] theorem q_eq (cf : CF) (tb : List (Nat × Nat)) (tys : List TyN) (a b : SE) : eEq cf tb tys a b env S = (a env S).bind fun p S1 => (b env S1).bind fun q S2 => match ownOf tb S2 p.2 with
  | some f => if okTy tys S2 q.2 then callV cf f [p.2, q.2] S2 else .no
  | none => ofO (oEq p.2 q.2 S2) S2 := (rfl)
@[simp] theorem q_ne (cf : CF) (tb : List (Nat × Nat)) (tys : List TyN) (a b : SE) : eNe cf tb tys a b env S = (a env S).bind fun p S1 => (b env S1).bind fun q S2 => match ownOf tb S2 p.2 with
  | some f => if okTy tys S2 q.2 then (callV cf f [p.2, q.2] S2).bind notI else .no
  | none => ofO (oNe p.2 q.2 S2) S2 := (rfl)
@[simp] theorem q_ix (cf : CF) (tb : List (Nat × Nat)) (a b : SE) : eIx cf tb a b env S = (a env S).bind fun p S1 => (b env S1).bind fun q S2 => match ownOf tb S2 p.2 with
  | some f => callV cf f [p.2, q.2] S2
  | none => match dIx p.2 q.2 S2 with
    | some z => .ok z S2
    | none => ofO (oIx p.2 q.2 S2) S2 := (rfl)
@[simp] theorem q_call (cf : CF) (np f : Nat) (a : SA) : eCall cf np f a env S = (a env S).bind fun args S1 => if args.length = np then callV cf f args S1 else .no := (rfl)
@[simp] theorem q_sl (a : SE) (lo hi : SO) : eSl a lo hi env S = (a env S).bind fun p S1 => (lo env S1).bind fun l S2 => (hi env S2).bind fun u S3 => ofO (slP l u p.2 S3) S3 := (rfl)
@[simp] theorem q_pno : pNo env S = .ok none S := (rfl)
@[simp] theorem q_pso (a : SE) : pSo a env S = (a env S).bind fun p S1 => match p.2 with
  | .int i => .ok (some i) S1
  | _ => .no := (rfl)
@[simp] theorem q_rev (a : SE) : eRev a env S = (a env S).bind fun p S1 => match lstOf S1 p.2 with
  | some xs => .ok (true, .lst xs.reverse) S1
  | none => .no := (rfl)
@[simp] theorem q_fld (cs : List Nat) (f : Nat) (a : SE) : eFld cs f a env S = (a env S).bind fun p S1 => ofO ((fldOf cs f S1 p.2).map fun w => (false, w)) S1 := (rfl)
@[simp] theorem q_isi (tb : List (TyN × Bool)) (a : SE) : eIsi tb a env S = (a env S).bind fun p S1 => ofO (match tyN S1 p.2 with
  | some t => (tb.lookup t).map fun b => (false, .bl b)
  | none => none) S1 := (rfl)
end
@[simp] theorem q_ofO_some (z : Bool × PV) (S : Store) : ofO (some z) S = .ok z S := (rfl)
@[simp] theorem q_ofO_none (S : Store) : ofO none S = .no := (rfl)
@[simp] theorem d_int (S : Store) (i : Int) : deref S (.int i) = some (.int i) := (rfl)
@[simp] theorem d_bl (S : Store) (i : Bool) : deref S (.bl i) = some (.bl i) := (rfl)
@[simp] theorem d_lst (S : Store) (xs : List PV) : deref S (.lst xs) = some (.lst xs) := (rfl)
@[simp] theorem d_tup (S : Store) (xs : List PV) : deref S (.tup xs) = some (.tup xs) := (rfl)
@[simp] theorem d_ins (S : Store) (c : Nat) (ns : List Nat) (xs : List PV) : deref S (.ins c ns xs) = some (.ins c ns xs) := (rfl)
@[simp] theorem d_dct (S : Store) (ks : DKs) (xs : List PV) : deref S (.dct ks xs) = some (.dct ks xs) := (rfl)
@[simp] theorem d_ref (S : Store) (i : Nat) : deref S (.ref i) = match S[i]? with
  | some o => some (unl o)
  | none => none := rfl
/-! calls -/
def fin : RS → R PV
  | .rt v S => .ok v S
  | .nx _ S => .ok .non S
  | .ex c p S => .ex c p S
  | _ => .no
@[simp] theorem fin_rt (v : PV) (S : Store) : fin (.rt v S) = .ok v S := (rfl)
@[simp] theorem fin_nx (e : Env) (S : Store) : fin (.nx e S) = .ok .non S := (rfl)
@[simp] theorem fin_no : fin .no = .no := (rfl)
theorem call_succ {T : Nat → Option FnB} {n f : Nat} {b : FnB} {args : List PV} {n0 : Nat} {S : Store} (h : T f = some b) (hl : args.length = b.np) : callF T (n + 1) f args n0 S = fin (b.body (callF T n) n0 (args.map some ++ List.replicate (b.nl - b.np) none) S) := by
  show (match T f with
    | some b => runB b (callF T n) args n0 S
    | none => R.no) = _
  rw [h]
  show runB b (callF T n) args n0 S = _
  unfold runB
  rw [if_pos hl]
  cases b.body (callF T n) n0 (args.map some ++ List.replicate (b.nl - b.np) none) S <;> rfl
theorem lk_cons (t a : TyN) (b : Bool) (tb : List (TyN × Bool)) : ((a, b) :: tb).lookup t = if t = a then some b else tb.lookup t := by
  rw [List.lookup_cons]
  by_cases h : t = a
  · rw [h, beq_self_eq_true, if_pos rfl]
  · rw [beq_false_of_ne h, if_neg h]
theorem callV_same {cf : CF} {f : Nat} {args : List PV} {S S' : Store} {v : PV} (h : cf f args S.length S = .ok v S') (hl : S'.length = S.length) : callV cf f args S = .ok (false, v) S' := by
  unfold callV
  rw [h]
  show norm S.length v S' = _
  unfold norm
  rw [if_pos hl]
end PX
namespace PX
open PySem
theorem intsOf_map (ns : List Int) : intsOf (ns.map .int) = some ns := by
  induction ns with
  | nil => rfl
  | cons c cs ih =>
    show (intsOf (cs.map .int)).map (c :: ·) = _
    rw [ih]
    rfl
theorem toDL_ints (S : Store) (k : Nat) (ns : List Int) : toDL (toD S (k + 1)) (ns.map .int) = some (ns.map .int) := by
  induction ns with
  | nil => rfl
  | cons c cs ih =>
    show (match toD S (k + 1) (.int c) with
      | some d => match toDL (toD S (k + 1)) (cs.map .int) with
        | some ds => some (d :: ds)
        | none => none
      | none => none) = _
    rw [ih]
    rfl
theorem eqv_ints : ∀ a b : List Int, PyData.eqvAll (a.map .int) (b.map .int) = decide (a = b) := by
  intro a
  induction a with
  | nil =>
    intro b
    cases b with
    | nil => rfl
    | cons y ys => rfl
  | cons x xs ih =>
    intro b
    cases b with
    | nil => rfl
    | cons y ys =>
      show (PyData.eqv (.int x) (.int y) && PyData.eqvAll (xs.map .int) (ys.map .int)) = _
      rw [ih]
      show ((x == y) && decide (xs = ys)) = _
      by_cases h : x = y
      · by_cases h2 : xs = ys
        · simp [h, h2]
        · simp [h, h2]
      · simp [h]
theorem toD_lst (S : Store) (k : Nat) (ns : List Int) : toD S (k + 2) (.lst (ns.map .int)) = some (.list (ns.map .int)) := by
  show (toDL (toD S (k + 1)) (ns.map .int)).map PyData.list = _
  rw [toDL_ints]
  rfl
theorem toD_tup (S : Store) (k : Nat) (ns : List Int) : toD S (k + 2) (.tup (ns.map .int)) = some (.tuple (ns.map .int)) := by
  show (toDL (toD S (k + 1)) (ns.map .int)).map PyData.tuple = _
  rw [toDL_ints]
  rfl
theorem eqD_lst (S : Store) (a b : List Int) : eqD S (.lst (a.map .int)) (.lst (b.map .int)) = some (decide (a = b)) := by
  unfold eqD
  rw [toD_lst S 4, toD_lst S 4]
  exact congrArg some (eqv_ints a b)
theorem eqD_tup (S : Store) (a b : List Int) : eqD S (.tup (a.map .int)) (.tup (b.map .int)) = some (decide (a = b)) := by
  unfold eqD
  rw [toD_tup S 4, toD_tup S 4]
  exact congrArg some (eqv_ints a b)
theorem eqD_int (S : Store) (a b : Int) : eqD S (.int a) (.int b) = some (decide (a = b)) := by
  show some (a == b) = _
  by_cases h : a = b
  · simp [h]
  · simp [h]
theorem eqD_bl (S : Store) (a b : Bool) : eqD S (.bl a) (.bl b) = some (decide (a = b)) := by
  cases a <;> cases b <;> rfl
theorem ownOf_lst (tb : List (Nat × Nat)) (S : Store) (xs : List PV) : ownOf tb S (.lst xs) = none := (rfl)
theorem ownOf_tup (tb : List (Nat × Nat)) (S : Store) (xs : List PV) : ownOf tb S (.tup xs) = none := (rfl)
theorem ownOf_int (tb : List (Nat × Nat)) (S : Store) (i : Int) : ownOf tb S (.int i) = none := (rfl)
theorem ownOf_bl (tb : List (Nat × Nat)) (S : Store) (i : Bool) : ownOf tb S (.bl i) = none := (rfl)
theorem dIx_lst (S : Store) (xs : List PV) (y : PV) : dIx (.lst xs) y S = none := (rfl)
theorem dIx_tup (S : Store) (xs : List PV) (y : PV) : dIx (.tup xs) y S = none := (rfl)
theorem cut_all (xs : List PV) (h : xs.length ≤ 63) : cutP xs none (some 63) = xs := by
  show (xs.drop 0).take (min 63 xs.length - 0) = xs
  rw [List.drop_zero, Nat.min_eq_right h, Nat.sub_zero, List.take_length]
theorem oIx_lst (S : Store) (ns : List Int) (i : Int) (h0 : 0 ≤ i) (h1 : i < ns.length) : ∃ c, oIx (.lst (ns.map .int)) (.int i) S = some (false, .int c) ∧ ns[i.toNat]? = some c := by
  have hl : i.toNat < ns.length := by omega
  refine ⟨ns[i.toNat], ?_, List.getElem?_eq_getElem hl⟩
  show (match itemsOf S (.lst (ns.map .int)) with
    | some xs => match ixP xs.length i with
      | some j => match xs[j]? with
        | some v => some (false, v)
        | none => none
      | none => none
    | none => none) = _
  have e1 : itemsOf S (.lst (ns.map .int)) = some (ns.map .int) := rfl
  have e2 : ixP (ns.map PV.int).length i = some i.toNat := by
    unfold ixP
    rw [if_pos h0, if_pos (by rw [List.length_map]; exact h1)]
  have e3 : (ns.map PV.int)[i.toNat]? = some (.int ns[i.toNat]) := by
    rw [List.getElem?_map, List.getElem?_eq_getElem hl]
    rfl
  simp only [e1, e2, e3]
theorem mulOk_l {i j : Int} (h1 : -18446744073709551616 < i) (h2 : i < 18446744073709551616) : mulOk i j = true := by
  unfold mulOk
  simp [h1, h2]
theorem mulOk_r {i j : Int} (h1 : -18446744073709551616 < j) (h2 : j < 18446744073709551616) : mulOk i j = true := by
  unfold mulOk
  simp [h1, h2]
theorem rep_int (i j : Int) (S : Store) (h : mulOk i j = true) : oRep (.int i) (.int j) S = some (false, .int (i * j)) := by
  show (if mulOk i j then some (false, PV.int (i * j)) else none) = _
  rw [if_pos h]
theorem rep_l (i j : Int) (S : Store) (h1 : -18446744073709551616 < i) (h2 : i < 18446744073709551616) : oRep (.int i) (.int j) S = some (false, .int (i * j)) := rep_int i j S (mulOk_l h1 h2)
theorem rep_r (i j : Int) (S : Store) (h1 : -18446744073709551616 < j) (h2 : j < 18446744073709551616) : oRep (.int i) (.int j) S = some (false, .int (i * j)) := rep_int i j S (mulOk_r h1 h2)
theorem rep_m (a j : Int) (S : Store) : oRep (.int (a % 2147483647)) (.int j) S = some (false, .int (a % 2147483647 * j)) := rep_l _ _ S (by omega) (by omega)
theorem cat_int (i j : Int) (S : Store) : oCat (.int i) (.int j) S = some (false, .int (i + j)) := (rfl)
theorem mod_int (i j : Int) (S : Store) (h : 0 < j) : oMod (.int i) (.int j) S = some (false, .int (i % j)) := by
  show (if 0 < j then some (false, PV.int (i % j)) else none) = _
  rw [if_pos h]
theorem div_int (i j : Int) (S : Store) (h : 0 < j) (h2 : j < 1073741824) : oDiv (.int i) (.int j) S = some (false, .int (i / j)) := by
  show (if 0 < j ∧ j < 1073741824 then some (false, PV.int (i / j)) else none) = _
  rw [if_pos ⟨h, h2⟩]
theorem bInt_int (i : Int) (S : Store) : bInt [.int i] S = some (false, .int i) := (rfl)
theorem bLen_lst (xs : List PV) (S : Store) : bLen [.lst xs] S = some (false, .int xs.length) := (rfl)
theorem bLen_tup (xs : List PV) (S : Store) : bLen [.tup xs] S = some (false, .int xs.length) := (rfl)
theorem bSum_lst (ns : List Int) (S : Store) : bSum [.lst (ns.map .int)] S = some (false, .int ns.sum) := by
  show (intsOf (ns.map .int)).map _ = _
  rw [intsOf_map]
  rfl
theorem bSum_tup (ns : List Int) (S : Store) : bSum [.tup (ns.map .int)] S = some (false, .int ns.sum) := by
  show (intsOf (ns.map .int)).map _ = _
  rw [intsOf_map]
  rfl
end PX
namespace PX
open PySem
section
variable (env : Env) (S : Store)
@[simp] theorem q_sfor (i : SI) (t : Tg) (b : SS) : sFor i t b env S = (i env S).go fun p S1 => (forR t b p.1 env S1).unl p.2 := (rfl)
@[simp] theorem q_rg1 (a : SE) : iRg1 a env S = (a env S).bind fun p S1 => match p.2 with
  | .int j => if okRg j then .ok (rngL 0 j.toNat, []) S1 else .no
  | _ => .no := (rfl)
@[simp] theorem q_lm (f : PV → PV → Store → Option Store) (o a : SE) : eLm f o a env S = (o env S).bind fun p S1 => if isL S1 p.2 then (a env S1).bind fun q S2 => match f p.2 q.2 S2 with
    | some S3 => .ok (false, .non) S3
    | none => .no
  else .no := (rfl)
@[simp] theorem q_forN (t : Tg) (b : SS) : forR t b [] env S = .nx env S := (rfl)
theorem q_forC (t : Tg) (b : SS) (x : PV) (xs : List PV) : forR t b (x :: xs) env S = match t x env S with
    | none => .no
    | some env' => match b env' S with
      | .nx e S' => forR t b xs e S'
      | .ct e S' => forR t b xs e S'
      | .bk e S' => .nx e S'
      | z => z := (rfl)
@[simp] theorem q_unl0 (z : RS) : z.unl [] = z := by cases z <;> rfl
end
theorem map_snoc (acc : List Int) (c : Int) : acc.map PV.int ++ [.int c] = (acc ++ [c]).map .int := by simp
end PX
namespace PX
open PySem
theorem frzL_ints (n0 t : Nat) (S : Store) (k : Nat) (ns : List Int) : frzL (frz n0 t S (k + 1)) (ns.map .int) = some (ns.map .int) := by
  induction ns with
  | nil => rfl
  | cons c cs ih =>
    show (match frz n0 t S (k + 1) (.int c) with
      | some w => match frzL (frz n0 t S (k + 1)) (cs.map .int) with
        | some ws => some (w :: ws)
        | none => none
      | none => none) = _
    rw [ih]
    rfl
end PX
namespace PX
open PySem
theorem compR_map {α : Type} {t : Tg} {c : ST} {e : SE} {env : Env} {S : Store} (g f : α → PV) (p : α → Bool) (en : α → Env) : ∀ (l : List α), (∀ x ∈ l, t (g x) env S = some (en x)) → (∀ x ∈ l, c (en x) S = .ok (p x) S) → (∀ x ∈ l, p x = true → ∃ b, e (en x) S = .ok (b, f x) S) →
    ∀ acc : List PV, acc.length + l.length ≤ 100000 → compR t c e (l.map g) env acc S = .ok (acc ++ (l.filter p).map f) S
  | [], _, _, _, acc, _ => by simp [compR]
  | x :: l, ht, hc, he, acc, hl => by
    have ih := compR_map g f p en l (fun y hy => ht y (List.mem_cons_of_mem _ hy)) (fun y hy => hc y (List.mem_cons_of_mem _ hy)) (fun y hy => he y (List.mem_cons_of_mem _ hy))
    simp only [List.length_cons] at hl
    show (match t (g x) env S with
      | none => R.no
      | some env' => (c env' S).bind fun b S1 => if b = true then (e env' S1).bind fun q S2 => if small acc.length then compR t c e (l.map g) env (acc ++ [q.2]) S2 else .no
        else compR t c e (l.map g) env acc S1) = _
    rw [ht x List.mem_cons_self]
    simp only [hc x List.mem_cons_self, R.bind_ok]
    cases hp : p x with
    | false =>
      rw [if_neg (by simp), ih acc (by omega), List.filter_cons_of_neg (by simp [hp])]
    | true =>
      obtain ⟨b, hb⟩ := he x List.mem_cons_self hp
      have hs : small acc.length = true := by
        unfold small
        exact Nat.ble_eq_true_of_le (by omega)
      rw [if_pos rfl, hb]
      simp only [R.bind_ok, hs, if_true]
      rw [ih (acc ++ [f x]) (by simp; omega), List.filter_cons_of_pos hp]
      simp
@[simp] theorem q_lc (i : SI) (t : Tg) (vs : List Nat) (c : ST) (e : SE) (env : Env) (S : Store) : eLc i t vs c e env S = (i env S).bind fun p S1 => (compR t c e p.1 (wipeE env vs) [] S1).bind fun acc S2 => .ok (true, .lst acc) (unlock p.2 S2) := (rfl)
@[simp] theorem q_seq (a : SE) (env : Env) (S : Store) : iSeq a env S = (a env S).bind fun p S1 => match lockS p.2 S1 with
  | some z => .ok (z.1, z.2.1) z.2.2
  | none => .no := (rfl)
theorem blsOf_true {α : Type} (l : List α) : blsOf (l.map fun _ => PV.bl true) = some (l.map fun _ => true) := by
  induction l with
  | nil => rfl
  | cons x l ih =>
    show (blsOf (l.map fun _ => PV.bl true)).map (true :: ·) = _
    rw [ih]
    rfl
/-! a list or a tuple of ints -/
def sq (b : Bool) (ns : List Int) : PV := bif b then .tup (ns.map .int) else .lst (ns.map .int)
end PX
namespace PX
open PySem
theorem rngL_map : ∀ (n : Nat) (lo : Int), rngL lo n = (List.range n).map fun (i : Nat) => PV.int (lo + i)
  | 0, lo => rfl
  | n + 1, lo => by
    show PV.int lo :: rngL (lo + 1) n = _
    rw [rngL_map n (lo + 1), List.range_succ_eq_map, List.map_cons, List.map_map]
    congr 1
    · simp
    · refine List.map_congr_left fun i _ => ?_
      show PV.int (lo + 1 + (i : Int)) = PV.int (lo + ((i + 1 : Nat) : Int))
      congr 1
      omega
theorem rngL_map0 (n : Nat) : rngL 0 n = (List.range n).map fun (i : Nat) => PV.int i := by
  rw [rngL_map]
  exact List.map_congr_left fun i _ => by rw [Int.zero_add]
theorem enumL_map : ∀ (ns : List Int) (k : Nat), enumL k (ns.map .int) = (ns.zipIdx k).map fun p => PV.tup [.int (p.2 : Nat), .int p.1]
  | [], k => rfl
  | x :: ns, k => by
    show PV.tup [.int k, .int x] :: enumL ((k : Int) + 1) (ns.map .int) = _
    rw [show ((k : Int) + 1) = ((k + 1 : Nat) : Int) by omega, enumL_map ns (k + 1)]
    rfl
theorem zipL_map : ∀ (a b : List Int), zipL (a.map .int) (b.map .int) = (a.zip b).map fun p => PV.tup [.int p.1, .int p.2]
  | [], b => rfl
  | x :: a, [] => rfl
  | x :: a, y :: b => by
    show PV.tup [.int x, .int y] :: zipL (a.map .int) (b.map .int) = _
    rw [zipL_map a b]
    rfl
theorem cutP_map (ns : List Int) (lo hi : Option Int) : cutP (ns.map .int) lo hi = ((ns.drop (sIxP ns.length 0 lo)).take (sIxP ns.length ns.length hi - sIxP ns.length 0 lo)).map .int := by
  unfold cutP
  rw [List.length_map, List.map_take, List.map_drop]
theorem sIx_nat (n d x : Nat) (h : x ≤ n) : sIxP n d (some (x : Int)) = x := by
  show (if (x : Int) < 0 then ((x : Int) + n).toNat else min (x : Int).toNat n) = x
  rw [if_neg (by omega)]
  omega
theorem cut_take (cs : List Int) (x : Nat) (h : x ≤ cs.length) : cutP (cs.map .int) none (some (x : Int)) = (cs.take x).map .int := by
  rw [cutP_map, sIx_nat _ _ _ h]
  show ((cs.drop 0).take (x - 0)).map PV.int = _
  rw [List.drop_zero, Nat.sub_zero]
theorem cut_mid (cs : List Int) (x y : Nat) (h : x ≤ cs.length) (h2 : y ≤ cs.length) : cutP (cs.map .int) (some (x : Int)) (some (y : Int)) = ((cs.drop x).take (y - x)).map .int := by
  rw [cutP_map, sIx_nat _ _ _ h, sIx_nat _ _ _ h2]
theorem cut_drop (cs : List Int) (x : Nat) (h : x ≤ cs.length) : cutP (cs.map .int) (some (x : Int)) none = (cs.drop x).map .int := by
  rw [cutP_map, sIx_nat _ _ _ h]
  show ((cs.drop x).take (cs.length - x)).map PV.int = _
  rw [List.take_of_length_le (by rw [List.length_drop]; exact Nat.le_refl _)]
end PX
namespace PX
open PySem
@[simp] theorem q_enu (a : SE) (env : Env) (S : Store) : iEnu a env S = (a env S).bind fun p S1 => match lockS p.2 S1 with
  | some z => .ok (enumL 0 z.1, z.2.1) z.2.2
  | none => .no := (rfl)
@[simp] theorem q_zip (a b : SE) (env : Env) (S : Store) : iZip a b env S = (a env S).bind fun p S1 => (b env S1).bind fun q S2 => match lockS p.2 S2 with
  | some z => match lockS q.2 z.2.2 with
    | some y => .ok (zipL z.1 y.1, y.2.1 ++ z.2.1) y.2.2
    | none => .no
  | none => .no := (rfl)
theorem enu_val (a : SE) (env : Env) (S : Store) (b : Bool) (ns : List Int) (ha : a env S = .ok (b, .tup (ns.map .int)) S) : iEnu a env S = .ok (ns.zipIdx.map fun p => PV.tup [.int (p.2 : Nat), .int p.1], []) S := by
  rw [q_enu, ha, R.bind_ok]
  have e : enumL 0 (ns.map .int) = _ := enumL_map ns 0
  show R.ok (enumL 0 (ns.map .int), []) S = _
  rw [e]
theorem zip_val (a b : SE) (env : Env) (S : Store) (k k' : Bool) (ns ms : List Int) (ha : a env S = .ok (k, .tup (ns.map .int)) S) (hb : b env S = .ok (k', .tup (ms.map .int)) S) : iZip a b env S = .ok ((ns.zip ms).map fun p => PV.tup [.int p.1, .int p.2], []) S := by
  rw [q_zip, ha, R.bind_ok, hb, R.bind_ok]
  show R.ok (zipL (ns.map .int) (ms.map .int), []) S = _
  rw [zipL_map]
/-! a comprehension, its source at hand -/
theorem lc_val {α : Type} {i : SI} {t : Tg} {vs : List Nat} {c : ST} {e : SE} {env : Env} {S : Store} (l : List α) (g f : α → PV) (p : α → Bool) (en : α → Env) (hi : i env S = .ok (l.map g, []) S) (hl : l.length ≤ 100000)
    (ht : ∀ x ∈ l, t (g x) (wipeE env vs) S = some (en x)) (hc : ∀ x ∈ l, c (en x) S = .ok (p x) S) (he : ∀ x ∈ l, p x = true → ∃ b, e (en x) S = .ok (b, f x) S) : eLc i t vs c e env S = .ok (true, .lst ((l.filter p).map f)) S := by
  rw [q_lc, hi, R.bind_ok]
  simp only [compR_map g f p en l ht hc he [] (by rw [List.length_nil]; omega), R.bind_ok, List.nil_append]
  rfl
end PX
set_option linter.all false
namespace K22M
/-! greatest and least of a list -/
def mx : List Int → Int
  | [] => 0
  | x :: xs => xs.foldl max x
def mn : List Int → Int
  | [] => 0
  | x :: xs => xs.foldl min x
theorem fmax_mem : ∀ (xs : List Int) (x : Int), xs.foldl max x ∈ x :: xs
  | [], x => List.mem_singleton.mpr rfl
  | y :: ys, x => by
    have h := fmax_mem ys (max x y)
    rw [List.foldl_cons]
    rcases List.mem_cons.mp h with h | h
    · rw [h]
      by_cases q : x ≤ y
      · rw [Int.max_eq_right q]; simp
      · rw [Int.max_eq_left (by omega)]; simp
    · exact List.mem_cons_of_mem _ (List.mem_cons_of_mem _ h)
theorem fmin_mem : ∀ (xs : List Int) (x : Int), xs.foldl min x ∈ x :: xs
  | [], x => List.mem_singleton.mpr rfl
  | y :: ys, x => by
    have h := fmin_mem ys (min x y)
    rw [List.foldl_cons]
    rcases List.mem_cons.mp h with h | h
    · rw [h]
      by_cases q : x ≤ y
      · rw [Int.min_eq_left q]; simp
      · rw [Int.min_eq_right (by omega)]; simp
    · exact List.mem_cons_of_mem _ (List.mem_cons_of_mem _ h)
theorem fmax_ge : ∀ (xs : List Int) (x z : Int), z ∈ x :: xs → z ≤ xs.foldl max x
  | [], x, z, h => by rw [List.mem_singleton.mp h]; exact Int.le_refl _
  | y :: ys, x, z, h => by
    rw [List.foldl_cons]
    rcases List.mem_cons.mp h with h | h
    · have := fmax_ge ys (max x y) (max x y) List.mem_cons_self
      omega
    · rcases List.mem_cons.mp h with h | h
      · have := fmax_ge ys (max x y) (max x y) List.mem_cons_self
        omega
      · exact fmax_ge ys (max x y) z (List.mem_cons_of_mem _ h)
theorem fmin_le : ∀ (xs : List Int) (x z : Int), z ∈ x :: xs → xs.foldl min x ≤ z
  | [], x, z, h => by rw [List.mem_singleton.mp h]; exact Int.le_refl _
  | y :: ys, x, z, h => by
    rw [List.foldl_cons]
    rcases List.mem_cons.mp h with h | h
    · have := fmin_le ys (min x y) (min x y) List.mem_cons_self
      omega
    · rcases List.mem_cons.mp h with h | h
      · have := fmin_le ys (min x y) (min x y) List.mem_cons_self
        omega
      · exact fmin_le ys (min x y) z (List.mem_cons_of_mem _ h)
theorem mx_mem {l : List Int} (h : l ≠ []) : mx l ∈ l := by
  cases l with
  | nil => exact absurd rfl h
  | cons x xs => exact fmax_mem xs x
theorem mn_mem {l : List Int} (h : l ≠ []) : mn l ∈ l := by
  cases l with
  | nil => exact absurd rfl h
  | cons x xs => exact fmin_mem xs x
theorem le_mx {l : List Int} {z : Int} (h : z ∈ l) : z ≤ mx l := by
  cases l with
  | nil => cases h
  | cons x xs => exact fmax_ge xs x z h
theorem mn_le {l : List Int} {z : Int} (h : z ∈ l) : mn l ≤ z := by
  cases l with
  | nil => cases h
  | cons x xs => exact fmin_le xs x z h
theorem mx_eq {l : List Int} {z : Int} (h : z ∈ l) (h2 : ∀ y ∈ l, y ≤ z) : mx l = z := by
  have h3 : l ≠ [] := by intro e; rw [e] at h; cases h
  have := le_mx h
  have := h2 _ (mx_mem h3)
  omega
theorem mn_eq {l : List Int} {z : Int} (h : z ∈ l) (h2 : ∀ y ∈ l, z ≤ y) : mn l = z := by
  have h3 : l ≠ [] := by intro e; rw [e] at h; cases h
  have := mn_le h
  have := h2 _ (mn_mem h3)
  omega
def sp (l : List Int) : Int := mx l - mn l
def seg (cs : List Int) (a b : Nat) : List Int := (cs.drop a).take (b - a)
theorem sp_nonneg (l : List Int) : 0 ≤ sp l := by
  cases l with
  | nil => exact Int.le_refl _
  | cons x xs =>
    have h1 : x ≤ mx (x :: xs) := le_mx List.mem_cons_self
    have h2 : mn (x :: xs) ≤ x := mn_le List.mem_cons_self
    unfold sp
    omega
theorem sp_mono {l m : List Int} (h : l ≠ []) (hs : ∀ x ∈ l, x ∈ m) : sp l ≤ sp m := by
  have h1 := le_mx (hs _ (mx_mem h))
  have h2 := mn_le (hs _ (mn_mem h))
  unfold sp
  omega
theorem mem_seg {cs : List Int} {a b : Nat} {x : Int} : x ∈ seg cs a b ↔ ∃ i, a ≤ i ∧ i < b ∧ cs[i]? = some x := by
  unfold seg
  constructor
  · intro h
    obtain ⟨i, hi⟩ := List.mem_iff_getElem?.mp h
    rw [List.getElem?_take] at hi
    split at hi
    · rw [List.getElem?_drop] at hi
      exact ⟨a + i, by omega, by omega, hi⟩
    · cases hi
  · rintro ⟨i, h1, h2, h3⟩
    refine List.mem_iff_getElem?.mpr ⟨i - a, ?_⟩
    rw [List.getElem?_take, if_pos (by omega), List.getElem?_drop, show a + (i - a) = i by omega]
    exact h3
theorem seg_ne {cs : List Int} {a b : Nat} (h : a < b) (h2 : a < cs.length) : seg cs a b ≠ [] := by
  intro e
  have h3 : cs[a] ∈ seg cs a b := mem_seg.mpr ⟨a, Nat.le_refl _, h, List.getElem?_eq_getElem h2⟩
  rw [e] at h3
  cases h3
theorem seg_sub {cs : List Int} {a b c d : Nat} (h1 : c ≤ a) (h2 : b ≤ d) : ∀ x ∈ seg cs a b, x ∈ seg cs c d := by
  intro x hx
  obtain ⟨i, g1, g2, g3⟩ := mem_seg.mp hx
  exact mem_seg.mpr ⟨i, by omega, by omega, g3⟩
theorem sp_seg {cs : List Int} {a b c d : Nat} (h1 : c ≤ a) (h2 : b ≤ d) (h3 : a < b) (h4 : a < cs.length) : sp (seg cs a b) ≤ sp (seg cs c d) := sp_mono (seg_ne h3 h4) (seg_sub h1 h2)
theorem sp_one (cs : List Int) (a : Nat) : sp (seg cs a (a + 1)) = 0 := by
  unfold seg
  rw [show a + 1 - a = 1 by omega]
  cases cs.drop a with
  | nil => rfl
  | cons x xs =>
    show sp [x] = 0
    show x - x = 0
    omega
theorem sp_le9 {l : List Int} (h : ∀ x ∈ l, 0 ≤ x ∧ x ≤ 9) : sp l ≤ 9 := by
  cases l with
  | nil => decide
  | cons x xs =>
    have h1 := h _ (mx_mem (l := x :: xs) (by simp))
    have h2 := h _ (mn_mem (l := x :: xs) (by simp))
    unfold sp
    omega
theorem seg_dig {cs : List Int} (hd : ∀ c ∈ cs, 0 ≤ c ∧ c ≤ 9) (a b : Nat) : ∀ x ∈ seg cs a b, 0 ≤ x ∧ x ≤ 9 := by
  intro x hx
  exact hd x (List.mem_of_mem_drop (List.mem_of_mem_take hx))
/-! cuts -/
def prs : List Nat → Nat → List (Nat × Nat)
  | [], _ => []
  | [a], n => [(a, n)]
  | a :: b :: l, n => (a, b) :: prs (b :: l) n
theorem prs_zip : ∀ (c : List Nat) (n : Nat), c.zip (c.drop 1 ++ [n]) = prs c n
  | [], n => rfl
  | [a], n => rfl
  | a :: b :: l, n => by
    show (a, b) :: (b :: l).zip ((b :: l).drop 1 ++ [n]) = _
    rw [prs_zip (b :: l) n]
    rfl
theorem prs_ne {c : List Nat} {n : Nat} (h : c ≠ []) : prs c n ≠ [] := by
  match c, h with
  | [a], _ => simp [prs]
  | a :: b :: l, _ => simp [prs]
def isC (c : List Nat) (n : Nat) : Prop := c.head? = some 0 ∧ (∀ x ∈ c, x < n) ∧ c.Pairwise (· < ·)
instance (c : List Nat) (n : Nat) : Decidable (isC c n) := by unfold isC; infer_instance
def adj (R : Nat → Nat → Prop) : List Nat → Prop
  | a :: b :: l => R a b ∧ adj R (b :: l)
  | _ => True
theorem adj_iff (R : Nat → Nat → Prop) : ∀ c : List Nat, adj R c ↔ ∀ p ∈ c.zip (c.drop 1), R p.1 p.2
  | [] => by simp [adj]
  | [a] => by simp [adj]
  | a :: b :: l => by
    have h := adj_iff R (b :: l)
    show R a b ∧ adj R (b :: l) ↔ ∀ p ∈ (a, b) :: (b :: l).zip ((b :: l).drop 1), R p.1 p.2
    rw [h]
    constructor
    · rintro ⟨h1, h2⟩ p hp
      rcases List.mem_cons.mp hp with hp | hp
      · rw [hp]; exact h1
      · exact h2 p hp
    · intro h1
      exact ⟨h1 (a, b) List.mem_cons_self, fun p hp => h1 p (List.mem_cons_of_mem _ hp)⟩
theorem adj_take {R : Nat → Nat → Prop} : ∀ (c : List Nat) (k : Nat), adj R c → adj R (c.take k)
  | [], k, h => by cases k <;> exact trivial
  | [a], k, h => by cases k with
    | zero => exact trivial
    | succ k => rw [List.take_succ_cons, List.take_nil]; exact trivial
  | a :: b :: l, 0, h => trivial
  | a :: b :: l, 1, h => trivial
  | a :: b :: l, k + 2, h => ⟨h.1, adj_take (b :: l) (k + 1) h.2⟩
theorem adj_lt : ∀ c : List Nat, adj (· < ·) c ↔ c.Pairwise (· < ·)
  | [] => by simp [adj]
  | [a] => by simp [adj]
  | a :: b :: l => by
    show a < b ∧ adj (· < ·) (b :: l) ↔ _
    rw [adj_lt (b :: l), List.pairwise_cons (l := b :: l)]
    constructor
    · rintro ⟨h1, h2⟩
      refine ⟨fun x hx => ?_, h2⟩
      rcases List.mem_cons.mp hx with hx | hx
      · omega
      · have := (List.pairwise_cons.mp h2).1 x hx
        omega
    · rintro ⟨h1, h2⟩
      exact ⟨h1 b List.mem_cons_self, h2⟩
theorem prs_mem {n : Nat} : ∀ {c : List Nat}, c.Pairwise (· < ·) → (∀ x ∈ c, x < n) → ∀ p ∈ prs c n, p.1 < p.2 ∧ p.2 ≤ n ∧ p.1 ∈ c
  | [], _, _, p, hp => by cases hp
  | [a], _, h2, p, hp => by
    rw [List.mem_singleton.mp hp]
    exact ⟨h2 a List.mem_cons_self, Nat.le_refl _, List.mem_cons_self⟩
  | a :: b :: l, h1, h2, p, hp => by
    rcases List.mem_cons.mp hp with hp | hp
    · rw [hp]
      exact ⟨(List.pairwise_cons.mp h1).1 b List.mem_cons_self, Nat.le_of_lt (h2 b (by simp)), List.mem_cons_self⟩
    · have h := prs_mem (List.pairwise_cons.mp h1).2 (fun x hx => h2 x (List.mem_cons_of_mem _ hx)) p hp
      exact ⟨h.1, h.2.1, List.mem_cons_of_mem _ h.2.2⟩
/-! the greatest span of buckets -/
def spB (cs : List Int) (c : List Nat) : Int := mx ((prs c cs.length).map fun p => sp (seg cs p.1 p.2))
theorem spB_le {cs : List Int} {c : List Nat} {s : Int} (h : c ≠ []) (h2 : ∀ p ∈ prs c cs.length, sp (seg cs p.1 p.2) ≤ s) : spB cs c ≤ s := by
  have h3 := mx_mem (l := (prs c cs.length).map fun p => sp (seg cs p.1 p.2)) (by
    intro e
    exact prs_ne (n := cs.length) h (List.map_eq_nil_iff.mp e))
  obtain ⟨p, hp, e⟩ := List.mem_map.mp h3
  have := h2 p hp
  unfold spB
  omega
theorem le_spB {cs : List Int} {c : List Nat} {p : Nat × Nat} (h : p ∈ prs c cs.length) : sp (seg cs p.1 p.2) ≤ spB cs c := le_mx (List.mem_map.mpr ⟨p, h, rfl⟩)
theorem spB_nonneg (cs : List Int) (c : List Nat) : 0 ≤ spB cs c := by
  match h : prs c cs.length with
  | [] =>
    unfold spB
    rw [h]
    exact Int.le_refl _
  | p :: l =>
    have h1 := le_spB (cs := cs) (c := c) (p := p) (by rw [h]; exact List.mem_cons_self)
    have := sp_nonneg (seg cs p.1 p.2)
    omega
theorem spB_le9 {cs : List Int} (hd : ∀ c ∈ cs, 0 ≤ c ∧ c ≤ 9) {c : List Nat} (h : c ≠ []) : spB cs c ≤ 9 := spB_le h fun p _ => sp_le9 (seg_dig hd _ _)
/-! the walk of cuts -/
def gr (cs : List Int) (s : Int) : Nat → Nat → Nat → List Nat
  | l, v, 0 => [l]
  | l, v, k + 1 => if s < sp (seg cs l (v + 1)) then l :: gr cs s v (v + 1) k else gr cs s l (v + 1) k
def cw (cs : List Int) (s : Int) : List Nat := gr cs s 0 1 (cs.length - 1)
theorem gr_ok (cs : List Int) (s : Int) (h0 : 0 ≤ s) : ∀ (k l v : Nat), l < v → v + k = cs.length → sp (seg cs l v) ≤ s →
    ∃ t, gr cs s l v k = l :: t ∧ (∀ x ∈ t, v ≤ x ∧ x < cs.length) ∧ adj (fun a b => a < b ∧ s < sp (seg cs a (b + 1))) (gr cs s l v k) ∧ ∀ p ∈ prs (gr cs s l v k) cs.length, sp (seg cs p.1 p.2) ≤ s
  | 0, l, v, h1, h2, h3 => by
    refine ⟨[], rfl, (fun x hx => absurd hx (List.not_mem_nil)), trivial, fun p hp => ?_⟩
    rw [List.mem_singleton.mp hp]
    show sp (seg cs l cs.length) ≤ s
    rw [← h2]
    exact h3
  | k + 1, l, v, h1, h2, h3 => by
    by_cases h : s < sp (seg cs l (v + 1))
    · obtain ⟨t, e, g1, g2, g3⟩ := gr_ok cs s h0 k v (v + 1) (by omega) (by omega) (by rw [sp_one]; exact h0)
      have e1 : gr cs s l v (k + 1) = l :: gr cs s v (v + 1) k := by
        show (if _ then _ else _) = _
        rw [if_pos h]
      rw [e1]
      refine ⟨gr cs s v (v + 1) k, rfl, ?_, ?_, ?_⟩
      · intro x hx
        rw [e] at hx
        rcases List.mem_cons.mp hx with hx | hx
        · omega
        · have := g1 x hx
          omega
      · rw [e] at g2 ⊢
        exact ⟨⟨h1, h⟩, g2⟩
      · rw [e] at g3 ⊢
        intro p hp
        rcases List.mem_cons.mp hp with hp | hp
        · rw [hp]; exact h3
        · exact g3 p hp
    · obtain ⟨t, e, g1, g2, g3⟩ := gr_ok cs s h0 k l (v + 1) (by omega) (by omega) (by omega)
      have e1 : gr cs s l v (k + 1) = gr cs s l (v + 1) k := by
        show (if _ then _ else _) = _
        rw [if_neg h]
      rw [e1]
      exact ⟨t, e, fun x hx => by have := g1 x hx; omega, g2, g3⟩
theorem adj_imp {R Q : Nat → Nat → Prop} (h : ∀ a b, R a b → Q a b) : ∀ c : List Nat, adj R c → adj Q c
  | [], _ => trivial
  | [a], _ => trivial
  | a :: b :: l, g => ⟨h _ _ g.1, adj_imp h (b :: l) g.2⟩
theorem cw_cut {cs : List Int} {s : Int} (h0 : 0 ≤ s) (h1 : 1 ≤ cs.length) : isC (cw cs s) cs.length ∧ adj (fun a b => a < b ∧ s < sp (seg cs a (b + 1))) (cw cs s) ∧ spB cs (cw cs s) ≤ s := by
  obtain ⟨t, e, g1, g2, g3⟩ := gr_ok cs s h0 (cs.length - 1) 0 1 (by omega) (by omega) (by rw [sp_one]; exact h0)
  have e1 : cw cs s = 0 :: t := e
  refine ⟨⟨by rw [e1]; rfl, ?_, (adj_lt _).mp (adj_imp (fun a b h => h.1) _ g2)⟩, g2, spB_le (by rw [e1]; simp) g3⟩
  rw [e1]
  intro x hx
  rcases List.mem_cons.mp hx with hx | hx
  · omega
  · exact (g1 x hx).2
/-! no cuts within a span are fewer -/
theorem cover {n a b : Nat} : ∀ (c : List Nat) (p0 : Nat), p0 ≤ a → b < n → (∀ x ∈ p0 :: c, ¬ (a < x ∧ x ≤ b)) → ∃ p ∈ prs (p0 :: c) n, p.1 ≤ a ∧ b + 1 ≤ p.2
  | [], p0, h1, h2, h3 => ⟨(p0, n), List.mem_cons_self, h1, h2⟩
  | p1 :: c, p0, h1, h2, h3 => by
    by_cases h : p1 ≤ a
    · obtain ⟨p, hp, g1, g2⟩ := cover c p1 h h2 fun x hx => h3 x (List.mem_cons_of_mem _ hx)
      exact ⟨p, List.mem_cons_of_mem _ hp, g1, g2⟩
    · have := h3 p1 (by simp)
      exact ⟨(p0, p1), List.mem_cons_self, h1, by show b + 1 ≤ p1; omega⟩
theorem flt_len {c : List Nat} {a b : Nat} (h : ∃ x ∈ c, a < x ∧ x ≤ b) (hab : a ≤ b) : (c.filter fun x => decide (b < x)).length + 1 ≤ (c.filter fun x => decide (a < x)).length := by
  have mono : ∀ d : List Nat, (d.filter fun x => decide (b < x)).length ≤ (d.filter fun x => decide (a < x)).length := by
    intro d
    induction d with
    | nil => exact Nat.le_refl _
    | cons y d ih =>
      by_cases h1 : b < y
      · rw [List.filter_cons_of_pos (by simpa using h1), List.filter_cons_of_pos (by simp; omega)]
        simpa using ih
      · rw [List.filter_cons_of_neg (by simpa using h1)]
        by_cases h2 : a < y
        · rw [List.filter_cons_of_pos (by simpa using h2)]
          simp only [List.length_cons]
          omega
        · rw [List.filter_cons_of_neg (by simpa using h2)]
          exact ih
  obtain ⟨x, hx, h1, h2⟩ := h
  induction c with
  | nil => cases hx
  | cons y d ih =>
    rcases List.mem_cons.mp hx with e | hx
    · subst e
      have := mono d
      rw [List.filter_cons_of_neg (by simp; omega), List.filter_cons_of_pos (by simpa using h1)]
      simp only [List.length_cons]
      omega
    · have := ih hx
      by_cases h3 : b < y
      · rw [List.filter_cons_of_pos (by simpa using h3), List.filter_cons_of_pos (by simp; omega)]
        simp only [List.length_cons]
        omega
      · rw [List.filter_cons_of_neg (by simpa using h3)]
        by_cases h4 : a < y
        · rw [List.filter_cons_of_pos (by simpa using h4)]
          simp only [List.length_cons]
          omega
        · rw [List.filter_cons_of_neg (by simpa using h4)]
          exact this
theorem adj_count {c : List Nat} : ∀ (g : List Nat) (a : Nat), adj (fun a b => a < b ∧ ∃ x ∈ c, a < x ∧ x ≤ b) (a :: g) → g.length ≤ (c.filter fun x => decide (a < x)).length
  | [], a, _ => Nat.zero_le _
  | b :: g, a, h => by
    have h1 := adj_count g b h.2
    have h2 := flt_len h.1.2 (Nat.le_of_lt h.1.1)
    simp only [List.length_cons]
    omega
theorem adj_mem {R Q : Nat → Nat → Prop} : ∀ c : List Nat, (∀ a b, b ∈ c → R a b → Q a b) → adj R c → adj Q c
  | [], _, _ => trivial
  | [a], _, _ => trivial
  | a :: b :: l, h, g => ⟨h _ _ (by simp) g.1, adj_mem (b :: l) (fun x y hy => h x y (List.mem_cons_of_mem _ hy)) g.2⟩
theorem cw_least {cs : List Int} {s : Int} {c : List Nat} (h0 : 0 ≤ s) (h1 : 1 ≤ cs.length) (hc : isC c cs.length) (hs : spB cs c ≤ s) : (cw cs s).length ≤ c.length := by
  obtain ⟨⟨g1, g2, g3⟩, g4, g5⟩ := cw_cut h0 h1
  obtain ⟨c1, c2, c3⟩ := hc
  cases c with
  | nil => cases c1
  | cons z c =>
    have hz : z = 0 := by simpa using c1
    subst hz
    cases e : cw cs s with
    | nil => exact Nat.zero_le _
    | cons a g =>
      rw [e] at g1 g2 g4
      have ha : a = 0 := by simpa using g1
      subst ha
      have k : adj (fun a b => a < b ∧ ∃ x ∈ 0 :: c, a < x ∧ x ≤ b) (0 :: g) := by
        refine adj_mem (0 :: g) (fun a b hb hab => ⟨hab.1, ?_⟩) g4
        apply Classical.byContradiction
        intro hn
        obtain ⟨p, hp, q1, q2⟩ := cover (n := cs.length) (a := a) (b := b) c 0 (Nat.zero_le _) (g2 b hb) fun x hx hx2 => hn ⟨x, hx, hx2⟩
        have r1 := le_spB hp
        have r2 := sp_seg (cs := cs) q1 q2 (by omega) (by have := g2 b hb; omega)
        have := hab.2
        omega
      have := adj_count g 0 k
      rw [List.filter_cons_of_neg (by simp)] at this
      have := List.length_filter_le (fun x => decide (0 < x)) c
      simp only [List.length_cons]
      omega
/-! all cuts -/
def acF : Nat → List (List Nat)
  | 0 => [[0]]
  | v + 1 => acF v ++ (acF v).map (· ++ [v + 1])
theorem mem_acF : ∀ (v : Nat) (c : List Nat), c ∈ acF v ↔ isC c (v + 1)
  | 0, c => by
    show c ∈ [[0]] ↔ _
    rw [List.mem_singleton]
    constructor
    · intro e
      subst e
      exact ⟨rfl, by simp, by simp⟩
    · rintro ⟨h1, h2, h3⟩
      cases c with
      | nil => cases h1
      | cons a c =>
        have : a = 0 := by simpa using h1
        subst this
        cases c with
        | nil => rfl
        | cons b c =>
          have := h2 b (by simp)
          have := (List.pairwise_cons.mp h3).1 b (by simp)
          omega
  | v + 1, c => by
    show c ∈ acF v ++ (acF v).map (· ++ [v + 1]) ↔ _
    rw [List.mem_append, List.mem_map, mem_acF v c]
    constructor
    · rintro (⟨h1, h2, h3⟩ | ⟨d, hd, e⟩)
      · exact ⟨h1, fun x hx => by have := h2 x hx; omega, h3⟩
      · obtain ⟨h1, h2, h3⟩ := (mem_acF v d).mp hd
        subst e
        refine ⟨?_, ?_, ?_⟩
        · cases d with
          | nil => cases h1
          | cons a d => exact h1
        · intro x hx
          rcases List.mem_append.mp hx with hx | hx
          · have := h2 x hx; omega
          · have := List.mem_singleton.mp hx; omega
        · refine List.pairwise_append.mpr ⟨h3, by simp, fun a ha b hb => ?_⟩
          have := List.mem_singleton.mp hb
          have := h2 a ha
          omega
    · rintro ⟨h1, h2, h3⟩
      by_cases h : v + 1 ∈ c
      · right
        obtain ⟨d, t, e⟩ := List.append_of_mem h
        subst e
        obtain ⟨p1, p2, p3⟩ := List.pairwise_append.mp h3
        have ht : t = [] := by
          cases t with
          | nil => rfl
          | cons y t =>
            have := (List.pairwise_cons.mp p2).1 y (by simp)
            have := h2 y (by simp)
            omega
        subst ht
        refine ⟨d, (mem_acF v d).mpr ⟨?_, ?_, p1⟩, rfl⟩
        · cases d with
          | nil => simp at h1
          | cons a d => exact h1
        · intro x hx
          exact p3 x hx (v + 1) (by simp)
      · left
        refine ⟨h1, fun x hx => ?_, h3⟩
        have := h2 x hx
        have : x ≠ v + 1 := fun e => h (e ▸ hx)
        omega
theorem acF_one (v : Nat) : [0] ∈ acF v := (mem_acF v [0]).mpr ⟨rfl, by simp, by simp⟩
theorem acF_len : ∀ v : Nat, (acF v).length = 2 ^ v
  | 0 => rfl
  | v + 1 => by
    show (acF v ++ (acF v).map (· ++ [v + 1])).length = _
    rw [List.length_append, List.length_map, acF_len v, Nat.pow_succ]
    omega
end K22M
set_option Elab.async false
set_option linter.all false
set_option maxRecDepth 100000
set_option maxHeartbeats 1000000
/-! more of the evaluator's values, for every law -/
namespace PX
open PySem
/-! more values, for every law -/
def iN (l : List Nat) : List Int := l.map fun (k : Nat) => (k : Int)
@[simp] theorem iN_len (l : List Nat) : (iN l).length = l.length := List.length_map _
theorem iN_map (l : List Nat) : (iN l).map PV.int = l.map fun (k : Nat) => PV.int k := List.map_map
theorem iN_inj {a b : List Nat} : iN a = iN b ↔ a = b := by
  constructor
  · intro h
    exact (List.map_inj_right (f := fun (k : Nat) => (k : Int)) (fun {x y} (h : (x : Int) = (y : Int)) => by omega)).mp h
  · intro h; rw [h]
theorem iN_drop (l : List Nat) (k : Nat) : (iN l).drop k = iN (l.drop k) := List.map_drop.symm
theorem iN_take (l : List Nat) (k : Nat) : (iN l).take k = iN (l.take k) := List.map_take.symm
theorem iN_app (a b : List Nat) : iN a ++ iN b = iN (a ++ b) := List.map_append.symm
theorem ownOf_ins (tb : List (Nat × Nat)) (S : Store) (c : Nat) (ns : List Nat) (xs : List PV) : ownOf tb S (.ins c ns xs) = tb.lookup c := (rfl)
theorem oNe_int' (a b : Int) (S : Store) : oNe (.int a) (.int b) S = some (false, .bl (!decide (a = b))) := by
  unfold oNe
  rw [eqD_int]
  rfl
theorem oEq_int' (a b : Int) (S : Store) : oEq (.int a) (.int b) S = some (false, .bl (decide (a = b))) := by
  unfold oEq
  rw [eqD_int]
  rfl
theorem oEq_tup (a b : List Int) (S : Store) : oEq (.tup (a.map .int)) (.tup (b.map .int)) S = some (false, .bl (decide (a = b))) := by
  unfold oEq
  rw [eqD_tup]
  rfl
theorem oNe_tup (a b : List Int) (S : Store) : oNe (.tup (a.map .int)) (.tup (b.map .int)) S = some (false, .bl (!decide (a = b))) := by
  unfold oNe
  rw [eqD_tup]
  rfl
theorem oNe_lst (a b : List Int) (S : Store) : oNe (.lst (a.map .int)) (.lst (b.map .int)) S = some (false, .bl (!decide (a = b))) := by
  unfold oNe
  rw [eqD_lst]
  rfl
theorem oEq_tup0 (a : List Int) (S : Store) : oEq (.tup (a.map .int)) (.tup []) S = some (false, .bl (decide (a = []))) := oEq_tup a [] S
/-! a comprehension over any list at hand -/
theorem seq_val (a : SE) (env : Env) (S : Store) (b : Bool) (xs : List PV) (ha : a env S = .ok (b, .tup xs) S) : iSeq a env S = .ok (xs, []) S := by
  rw [q_seq, ha, R.bind_ok]
  rfl
theorem seq_valL (a : SE) (env : Env) (S : Store) (b : Bool) (xs : List PV) (ha : a env S = .ok (b, .lst xs) S) : iSeq a env S = .ok (xs, []) S := by
  rw [q_seq, ha, R.bind_ok]
  rfl
def itP : PV → Option (List PV)
  | .tup xs => some xs
  | .lst xs => some xs
  | _ => none
theorem lockS_it {v : PV} {xs : List PV} (h : itP v = some xs) (S : Store) : lockS v S = some (xs, [], S) := by
  cases v <;> first | (cases h; rfl) | cases h
theorem zip_it (a b : SE) (env : Env) (S : Store) (k k' : Bool) (v w : PV) (xs ys : List PV) (h1 : itP v = some xs) (h2 : itP w = some ys) (ha : a env S = .ok (k, v) S) (hb : b env S = .ok (k', w) S) : iZip a b env S = .ok (zipL xs ys, []) S := by
  rw [q_zip, ha, R.bind_ok, hb, R.bind_ok]
  simp only [lockS_it h1, lockS_it h2, List.append_nil]
theorem zipL_N : ∀ (a b : List Nat), zipL ((iN a).map .int) ((iN b).map .int) = (a.zip b).map fun p => PV.tup [.int (p.1 : Nat), .int (p.2 : Nat)]
  | [], b => rfl
  | x :: a, [] => rfl
  | x :: a, y :: b => by
    show PV.tup [.int x, .int y] :: zipL ((iN a).map .int) ((iN b).map .int) = _
    rw [zipL_N a b]
    rfl
theorem blsOf_map {α : Type} (f : α → Bool) (l : List α) : blsOf (l.map fun x => PV.bl (f x)) = some (l.map f) := by
  induction l with
  | nil => rfl
  | cons x l ih =>
    show (blsOf (l.map fun x => PV.bl (f x))).map (f x :: ·) = _
    rw [ih]
    rfl
theorem all_val {α : Type} (f : α → Bool) (l : List α) (S : Store) : bAll [.lst (l.map fun x => PV.bl (f x))] S = some (false, .bl (l.all f)) := by
  show (match blsOf (l.map fun x => PV.bl (f x)) with
    | some ns => some (false, PV.bl (ns.all id))
    | none => none) = _
  rw [blsOf_map]
  simp [List.all_map]
theorem any_val {α : Type} (f : α → Bool) (l : List α) (S : Store) : bAny [.lst (l.map fun x => PV.bl (f x))] S = some (false, .bl (l.any f)) := by
  show (match blsOf (l.map fun x => PV.bl (f x)) with
    | some ns => some (false, PV.bl (ns.any id))
    | none => none) = _
  rw [blsOf_map]
  simp [List.any_map]
theorem filter_yes {α : Type} (l : List α) : (l.filter fun _ => true) = l := List.filter_eq_self.mpr fun _ _ => rfl
/-! all([.. for x in ..]) -/
theorem all_lc {α : Type} {i : SI} {t : Tg} {vs : List Nat} {e : SE} {env : Env} {S : Store} (l : List α) (g : α → PV) (f : α → Bool) (en : α → Env) (hi : i env S = .ok (l.map g, []) S) (hl : l.length ≤ 100000)
    (ht : ∀ x ∈ l, t (g x) (wipeE env vs) S = some (en x)) (he : ∀ x ∈ l, ∃ b, e (en x) S = .ok (b, .bl (f x)) S) : eArg bAll (aCons (eLc i t vs tYesP e) aNil) env S = .ok (false, .bl (l.all f)) S := by
  have h := lc_val (c := tYesP) l g (fun x => .bl (f x)) (fun _ => true) en hi hl ht (fun x _ => rfl) (fun x hx _ => he x hx)
  rw [filter_yes] at h
  simp only [q_arg, q_cons, h, R.bind_ok, q_nil, all_val, q_ofO_some]
theorem any_lc {α : Type} {i : SI} {t : Tg} {vs : List Nat} {e : SE} {env : Env} {S : Store} (l : List α) (g : α → PV) (f : α → Bool) (en : α → Env) (hi : i env S = .ok (l.map g, []) S) (hl : l.length ≤ 100000)
    (ht : ∀ x ∈ l, t (g x) (wipeE env vs) S = some (en x)) (he : ∀ x ∈ l, ∃ b, e (en x) S = .ok (b, .bl (f x)) S) : eArg bAny (aCons (eLc i t vs tYesP e) aNil) env S = .ok (false, .bl (l.any f)) S := by
  have h := lc_val (c := tYesP) l g (fun x => .bl (f x)) (fun _ => true) en hi hl ht (fun x _ => rfl) (fun x hx _ => he x hx)
  rw [filter_yes] at h
  simp only [q_arg, q_cons, h, R.bind_ok, q_nil, any_val, q_ofO_some]
/-! calls of what leaves the store alone -/
theorem call1 {cf : CF} {f : Nat} {a : SE} {env : Env} {S : Store} {b : Bool} {v w : PV} (ha : a env S = .ok (b, v) S) (h : callV cf f [v] S = .ok (false, w) S) : eCall cf 1 f (aCons a aNil) env S = .ok (false, w) S := by
  rw [q_call, q_cons, ha, R.bind_ok, q_nil, R.bind_ok, R.bind_ok, if_pos (by rfl), h]
theorem call2 {cf : CF} {f : Nat} {a a2 : SE} {env : Env} {S : Store} {b b2 : Bool} {v v2 w : PV} (ha : a env S = .ok (b, v) S) (ha2 : a2 env S = .ok (b2, v2) S) (h : callV cf f [v, v2] S = .ok (false, w) S) : eCall cf 2 f (aCons a (aCons a2 aNil)) env S = .ok (false, w) S := by
  rw [q_call, q_cons, ha, R.bind_ok, q_cons, ha2, R.bind_ok, q_nil, R.bind_ok, R.bind_ok, R.bind_ok, if_pos (by rfl), h]
theorem call3 {cf : CF} {f : Nat} {a a2 a3 : SE} {env : Env} {S : Store} {b b2 b3 : Bool} {v v2 v3 w : PV} (ha : a env S = .ok (b, v) S) (ha2 : a2 env S = .ok (b2, v2) S) (ha3 : a3 env S = .ok (b3, v3) S) (h : callV cf f [v, v2, v3] S = .ok (false, w) S) : eCall cf 3 f (aCons a (aCons a2 (aCons a3 aNil))) env S = .ok (false, w) S := by
  rw [q_call, q_cons, ha, R.bind_ok, q_cons, ha2, R.bind_ok, q_cons, ha3, R.bind_ok, q_nil, R.bind_ok, R.bind_ok, R.bind_ok, R.bind_ok, if_pos (by rfl), h]
theorem call4 {cf : CF} {f : Nat} {a a2 a3 a4 : SE} {env : Env} {S : Store} {b b2 b3 b4 : Bool} {v v2 v3 v4 w : PV} (ha : a env S = .ok (b, v) S) (ha2 : a2 env S = .ok (b2, v2) S) (ha3 : a3 env S = .ok (b3, v3) S) (ha4 : a4 env S = .ok (b4, v4) S) (h : callV cf f [v, v2, v3, v4] S = .ok (false, w) S) : eCall cf 4 f (aCons a (aCons a2 (aCons a3 (aCons a4 aNil)))) env S = .ok (false, w) S := by
  rw [q_call, q_cons, ha, R.bind_ok, q_cons, ha2, R.bind_ok, q_cons, ha3, R.bind_ok, q_cons, ha4, R.bind_ok, q_nil, R.bind_ok, R.bind_ok, R.bind_ok, R.bind_ok, R.bind_ok, if_pos (by rfl), h]
theorem bin_val {o : Op2} {a b : SE} {env : Env} {S : Store} {k k' : Bool} {v w : PV} {z : Bool × PV} (ha : a env S = .ok (k, v) S) (hb : b env S = .ok (k', w) S) (h : o v w S = some z) : eBin o a b env S = .ok z S := by
  rw [q_bin, ha, R.bind_ok, hb, R.bind_ok, h]
  rfl
theorem sl_val {a : SE} {lo hi : SO} {env : Env} {S : Store} {k : Bool} {v : PV} {l u : Option Int} {z : Bool × PV} (ha : a env S = .ok (k, v) S) (h1 : lo env S = .ok l S) (h2 : hi env S = .ok u S) (h : slP l u v S = some z) : eSl a lo hi env S = .ok z S := by
  rw [q_sl, ha, R.bind_ok, h1, R.bind_ok, h2, R.bind_ok, h]
  rfl
theorem pso_val {a : SE} {env : Env} {S : Store} {k : Bool} {i : Int} (ha : a env S = .ok (k, .int i) S) : pSo a env S = .ok (some i) S := by
  rw [q_pso, ha, R.bind_ok]
theorem arg1_val {o : OpN} {a : SE} {env : Env} {S : Store} {k : Bool} {v : PV} {z : Bool × PV} (ha : a env S = .ok (k, v) S) (h : o [v] S = some z) : eArg o (aCons a aNil) env S = .ok z S := by
  rw [q_arg, q_cons, ha, R.bind_ok, q_nil, R.bind_ok, R.bind_ok, h]
  rfl
theorem ne_flat {cf : CF} {tb : List (Nat × Nat)} {tys : List TyN} {a b : SE} {env : Env} {S : Store} {k k' : Bool} {v w : PV} {z : Bool × PV} (ha : a env S = .ok (k, v) S) (hb : b env S = .ok (k', w) S) (ho : ownOf tb S v = none) (h : oNe v w S = some z) : eNe cf tb tys a b env S = .ok z S := by
  rw [q_ne, ha, R.bind_ok, hb, R.bind_ok, ho, h]
  rfl
theorem eq_flat {cf : CF} {tb : List (Nat × Nat)} {tys : List TyN} {a b : SE} {env : Env} {S : Store} {k k' : Bool} {v w : PV} {z : Bool × PV} (ha : a env S = .ok (k, v) S) (hb : b env S = .ok (k', w) S) (ho : ownOf tb S v = none) (h : oEq v w S = some z) : eEq cf tb tys a b env S = .ok z S := by
  rw [q_eq, ha, R.bind_ok, hb, R.bind_ok, ho, h]
  rfl
theorem len_flat {cf : CF} {tb : List (Nat × Nat)} {a : SE} {env : Env} {S : Store} {k : Bool} {v : PV} {z : Bool × PV} (ha : a env S = .ok (k, v) S) (ho : ownOf tb S v = none) (h : bLen [v] S = some z) : eLen cf tb a env S = .ok z S := by
  rw [q_len, ha, R.bind_ok, ho, h]
  rfl
theorem tbl_val {a : SE} {env : Env} {S : Store} {k b : Bool} (ha : a env S = .ok (k, .bl b) S) : tBl a env S = .ok b S := by
  rw [q_tbl, ha, R.bind_ok]
theorem ttru_bl {a : SE} {env : Env} {S : Store} {k b : Bool} (ha : a env S = .ok (k, .bl b) S) : tTru a env S = .ok b S := by
  rw [q_tru, ha, R.bind_ok]
  rfl
theorem tno_val {a : ST} {env : Env} {S : Store} {b : Bool} (ha : a env S = .ok b S) : tNo a env S = .ok (!b) S := by
  rw [q_tno, ha, R.bind_ok]
theorem sif_val {c : ST} {a b : SS} {env : Env} {S : Store} {t : Bool} (ha : c env S = .ok t S) : sIf c a b env S = if t = true then a env S else b env S := by
  rw [q_sif, ha, R.go_ok]
theorem sexp_val {a : SE} {env : Env} {S : Store} {z : Bool × PV} (ha : a env S = .ok z S) : sExp a env S = .nx env S := by
  rw [q_sexp, ha, R.go_ok]
theorem sret_val {a : SE} {env : Env} {S : Store} {k : Bool} {v : PV} (ha : a env S = .ok (k, v) S) : sRet a env S = .rt v S := by
  rw [q_sret, ha, R.go_ok]
theorem sasg_val {i : Nat} {a : SE} {env : Env} {S : Store} {k : Bool} {v : PV} (ha : a env S = .ok (k, v) S) : sAsg (gNm i) a env S = .nx (env.set i (some v)) S := by
  rw [q_sasg, ha, R.go_ok, q_gnm]
theorem tor_val {a b : ST} {env : Env} {S : Store} {x : Bool} (ha : a env S = .ok x S) : tOr a b env S = if x = true then .ok true S else b env S := by
  rw [q_tor, ha, R.bind_ok]
theorem tan_val {a b : ST} {env : Env} {S : Store} {x : Bool} (ha : a env S = .ok x S) : tAn a b env S = if x = true then b env S else .ok false S := by
  rw [q_tan, ha, R.bind_ok]
end PX
namespace PX
open PySem K22M
theorem small_nat {n : Nat} (h : n ≤ 1000000) : small n = true := Nat.ble_eq_true_of_le h
theorem okRg_small {j : Int} (h0 : 0 ≤ j) (h1 : j < 1000000) : okRg j = true := by
  unfold okRg
  rw [decide_eq_true (by omega), decide_eq_true (by omega)]
  rfl
theorem q_star (a : SE) (r : SA) (env : Env) (S : Store) : aStar a r env S = (a env S).bind fun p S1 => match itemsOf S1 p.2 with
  | some xs => (r env S1).bind fun q S2 => .ok (xs ++ q) S2
  | none => .no := (rfl)
theorem mx_lst (ns : List Int) (h : ns ≠ []) (S : Store) : bMaxL [.lst (ns.map .int)] S = some (false, .int (mx ns)) := by
  cases ns with
  | nil => exact absurd rfl h
  | cons x xs =>
    show (match intsOf ((x :: xs).map .int) with
      | some (n :: ns) => some (false, PV.int (ns.foldl max n))
      | _ => none) = _
    rw [intsOf_map]
    rfl
theorem mn_lst (ns : List Int) (h : ns ≠ []) (S : Store) : bMinL [.lst (ns.map .int)] S = some (false, .int (mn ns)) := by
  cases ns with
  | nil => exact absurd rfl h
  | cons x xs =>
    show (match intsOf ((x :: xs).map .int) with
      | some (n :: ns) => some (false, PV.int (ns.foldl min n))
      | _ => none) = _
    rw [intsOf_map]
    rfl
theorem mx_tup (ns : List Int) (h : ns ≠ []) (S : Store) : bMaxL [.tup (ns.map .int)] S = some (false, .int (mx ns)) := mx_lst ns h S
theorem mn_tup (ns : List Int) (h : ns ≠ []) (S : Store) : bMinL [.tup (ns.map .int)] S = some (false, .int (mn ns)) := mn_lst ns h S
/-! max([.. for ..]), min([.. for .. if ..]) of ints -/
theorem lc_int {α : Type} {i : SI} {t : Tg} {vs : List Nat} {c : ST} {e : SE} {env : Env} {S : Store} (l : List α) (g : α → PV) (f : α → Int) (p : α → Bool) (en : α → Env) (hi : i env S = .ok (l.map g, []) S) (hl : l.length ≤ 100000)
    (ht : ∀ x ∈ l, t (g x) (wipeE env vs) S = some (en x)) (hc : ∀ x ∈ l, c (en x) S = .ok (p x) S) (he : ∀ x ∈ l, p x = true → ∃ b, e (en x) S = .ok (b, .int (f x)) S) : eLc i t vs c e env S = .ok (true, .lst (((l.filter p).map f).map .int)) S := by
  rw [lc_val l g (fun x => .int (f x)) p en hi hl ht hc he, List.map_map]
  rfl
theorem max_lc {α : Type} {i : SI} {t : Tg} {vs : List Nat} {e : SE} {env : Env} {S : Store} (l : List α) (g : α → PV) (f : α → Int) (en : α → Env) (hn : l ≠ []) (hi : i env S = .ok (l.map g, []) S) (hl : l.length ≤ 100000)
    (ht : ∀ x ∈ l, t (g x) (wipeE env vs) S = some (en x)) (he : ∀ x ∈ l, ∃ b, e (en x) S = .ok (b, .int (f x)) S) : eArg bMaxL (aCons (eLc i t vs tYesP e) aNil) env S = .ok (false, .int (mx (l.map f))) S := by
  have h := lc_int (c := tYesP) l g f (fun _ => true) en hi hl ht (fun x _ => rfl) (fun x hx _ => he x hx)
  rw [filter_yes] at h
  exact arg1_val h (mx_lst _ (fun e => hn (List.map_eq_nil_iff.mp e)) S)
theorem min_lc {α : Type} {i : SI} {t : Tg} {vs : List Nat} {c : ST} {e : SE} {env : Env} {S : Store} (l : List α) (g : α → PV) (f : α → Int) (p : α → Bool) (en : α → Env) (hn : l.filter p ≠ []) (hi : i env S = .ok (l.map g, []) S) (hl : l.length ≤ 100000)
    (ht : ∀ x ∈ l, t (g x) (wipeE env vs) S = some (en x)) (hc : ∀ x ∈ l, c (en x) S = .ok (p x) S) (he : ∀ x ∈ l, p x = true → ∃ b, e (en x) S = .ok (b, .int (f x)) S) : eArg bMinL (aCons (eLc i t vs c e) aNil) env S = .ok (false, .int (mn ((l.filter p).map f))) S :=
  arg1_val (lc_int l g f p en hi hl ht hc he) (mn_lst _ (fun e => hn (List.map_eq_nil_iff.mp e)) S)
/-! a list of its own in the store -/
theorem at_last (S : Store) (x : PV) : (S ++ [x])[S.length]? = some x := by simp
theorem set_last (S : Store) (x y : PV) : (S ++ [x]).set S.length y = S ++ [y] := by
  rw [List.set_append_right _ _ (Nat.le_refl _), Nat.sub_self]
  rfl
theorem app_last (S : Store) (xs : List PV) (v : PV) (h : xs.length ≤ 100000) : appL S.length (.ref S.length) v (S ++ [.lst xs]) = some (S ++ [.lst (xs ++ [v])]) := by
  have hs : small xs.length = true := Nat.ble_eq_true_of_le (by omega)
  have hm : mayPut S.length S.length v = true := by
    show (Nat.ble S.length S.length || noref v) = true
    rw [Nat.ble_eq_true_of_le (Nat.le_refl _)]
    rfl
  show (match (S ++ [PV.lst xs])[S.length]? with
    | some (.lst ys) => if mayPut S.length S.length v && small ys.length then some ((S ++ [PV.lst xs]).set S.length (.lst (ys ++ [v]))) else none
    | _ => none) = _
  rw [at_last]
  simp only [hs, hm, Bool.and_self, if_true, set_last]
theorem norm_last (S : Store) (ns : List Int) : norm S.length (.ref S.length) (S ++ [.lst (ns.map .int)]) = .ok (true, .lst (ns.map .int)) S := by
  unfold norm
  rw [if_neg (by simp)]
  simp only [Nat.lt_irrefl, if_false, at_last]
  show (match (frzL (frz S.length S.length (S ++ [PV.lst (ns.map .int)]) 8) (ns.map .int)).map PV.lst with
    | some w => R.ok (true, w) ((S ++ [PV.lst (ns.map .int)]).take S.length)
    | none => .no) = _
  rw [frzL_ints]
  simp
theorem items_last (S : Store) (xs : List PV) : itemsOf (S ++ [.lst xs]) (.ref S.length) = some xs := by
  unfold itemsOf
  rw [d_ref, at_last]
  rfl
theorem isL_last (S : Store) (xs : List PV) : isL (S ++ [.lst xs]) (.ref S.length) = true := by
  unfold isL
  rw [d_ref, at_last]
  rfl
theorem own_last (tb : List (Nat × Nat)) (S : Store) (xs : List PV) : ownOf tb (S ++ [.lst xs]) (.ref S.length) = none := by
  unfold ownOf
  rw [d_ref, at_last]
  rfl
theorem dIx_last (S : Store) (xs : List PV) (y : PV) : dIx (.ref S.length) y (S ++ [.lst xs]) = none := by
  unfold dIx
  rw [d_ref, at_last]
  rfl
/-! the last of a list -/
theorem ix_end {v : PV} {S : Store} {xs : List PV} {x : PV} (h : itemsOf S v = some (xs ++ [x])) : oIx v (.int (-1)) S = some (false, x) := by
  have e2 : ixP (xs ++ [x]).length (-1) = some xs.length := by
    unfold ixP
    rw [if_neg (by omega), List.length_append, List.length_singleton, if_pos (by omega)]
    congr 1
    omega
  have e3 : (xs ++ [x])[xs.length]? = some x := by simp
  unfold oIx
  simp only [h, e2, e3]
theorem ix_val {cf : CF} {tb : List (Nat × Nat)} {a b : SE} {env : Env} {S : Store} {k k' : Bool} {v w : PV} {z : Bool × PV} (ha : a env S = .ok (k, v) S) (hb : b env S = .ok (k', w) S) (ho : ownOf tb S v = none) (hd : dIx v w S = none) (h : oIx v w S = some z) : eIx cf tb a b env S = .ok z S := by
  rw [q_ix, ha, R.bind_ok, hb, R.bind_ok, ho, hd, h]
  rfl
theorem neg_val {a : SE} {env : Env} {S : Store} {k : Bool} {i : Int} (ha : a env S = .ok (k, .int i) S) : eUn oNeg a env S = .ok (false, .int (-i)) S := by
  rw [q_un, ha, R.bind_ok]
  rfl
theorem rg2_val {a b : SE} {env : Env} {S : Store} {k k' : Bool} {i j : Int} (ha : a env S = .ok (k, .int i) S) (hb : b env S = .ok (k', .int j) S) (h1 : 0 ≤ i) (h2 : i < 1000000) (h3 : 0 ≤ j) (h4 : j < 1000000) : iRg2 a b env S = .ok (rngL i (j - i).toNat, []) S := by
  show ((a env S).bind fun p S1 => (b env S1).bind fun q S2 => match p.2, q.2 with
    | .int i, .int j => if okRg i && okRg j then R.ok (rngL i (j - i).toNat, []) S2 else .no
    | _, _ => .no) = _
  rw [ha, R.bind_ok, hb, R.bind_ok]
  simp only [okRg_small h1 h2, okRg_small h3 h4, Bool.and_self, if_true]
theorem if_ok {α : Type} {b : Bool} {x y : α} : (if b = true then x else y) = bif b then x else y := by cases b <;> rfl
end PX
namespace PX
open PySem
theorem ix_first {v : PV} {S : Store} {xs : List PV} {x : PV} (h : itemsOf S v = some (x :: xs)) : oIx v (.int 0) S = some (false, x) := by
  have e2 : ixP (x :: xs).length 0 = some 0 := by
    unfold ixP
    rw [if_pos (Int.le_refl 0), if_pos (by simp only [List.length_cons]; omega)]
    rfl
  unfold oIx
  simp only [h, e2, List.getElem?_cons_zero]
end PX
namespace PX
open PySem
theorem frzL_tups (n0 t : Nat) (S : Store) (k : Nat) : ∀ xss : List (List Int), frzL (frz n0 t S (k + 2)) (xss.map fun (xs : List Int) => PV.tup (xs.map .int)) = some (xss.map fun (xs : List Int) => PV.tup (xs.map .int))
  | [] => rfl
  | xs :: xss => by
    show (match (frzL (frz n0 t S (k + 1)) (xs.map .int)).map PV.tup with
      | some w => match frzL (frz n0 t S (k + 2)) (xss.map fun (xs : List Int) => PV.tup (xs.map .int)) with
        | some ws => some (w :: ws)
        | none => none
      | none => none) = _
    rw [frzL_ints, frzL_tups n0 t S k xss]
    rfl
/-! a new instance of tuples -/
theorem norm_ins (S : Store) (c : Nat) (ns : List Nat) (xss : List (List Int)) : norm S.length (.ref S.length) (S ++ [.ins c ns (xss.map fun (xs : List Int) => PV.tup (xs.map .int))]) = .ok (true, .ins c ns (xss.map fun (xs : List Int) => PV.tup (xs.map .int))) S := by
  unfold norm
  rw [if_neg (by simp)]
  simp only [Nat.lt_irrefl, if_false, at_last]
  show (match (frzL (frz S.length S.length (S ++ [PV.ins c ns (xss.map fun (xs : List Int) => PV.tup (xs.map .int))]) 8) (xss.map fun (xs : List Int) => PV.tup (xs.map .int))).map (PV.ins c ns) with
    | some w => R.ok (true, w) ((S ++ [PV.ins c ns (xss.map fun (xs : List Int) => PV.tup (xs.map .int))]).take S.length)
    | none => .no) = _
  rw [frzL_tups]
  simp
theorem fld_last {n0 : Nat} {cs : List Nat} {f : Nat} {o e : SE} {env : Env} {S : Store} {k k' : Bool} {c : Nat} {ns : List Nat} {vs : List PV} {w : PV} (hn : n0 = S.length) (he : e env (S ++ [.ins c ns vs]) = .ok (k, w) (S ++ [.ins c ns vs])) (ho : o env (S ++ [.ins c ns vs]) = .ok (k', .ref S.length) (S ++ [.ins c ns vs])) (hc : cs.contains c = true) (hl : Nat.ble ns.length 100 = true) :
    sFld n0 cs f o e env (S ++ [.ins c ns vs]) = .nx env (S ++ [.ins c (putFld f w ns vs).1 (putFld f w ns vs).2]) := by
  subst hn
  have hm : mayPut S.length S.length w = true := by
    show (Nat.ble S.length S.length || noref w) = true
    rw [Nat.ble_eq_true_of_le (Nat.le_refl _)]
    rfl
  show ((e env (S ++ [.ins c ns vs])).go fun p S1 => (o env S1).go fun q S2 => match q.2 with
    | .ref i => match S2[i]? with
      | some (.ins c ns vs) => if cs.contains c && mayPut S.length i p.2 && Nat.ble ns.length 100 then RS.nx env (S2.set i (.ins c (putFld f p.2 ns vs).1 (putFld f p.2 ns vs).2)) else .no
      | _ => .no
    | _ => .no) = _
  rw [he, R.go_ok, ho, R.go_ok]
  simp only [at_last, hc, hm, hl, Bool.and_self, if_true, set_last]
theorem q_whl (c : ST) (b : SS) (n : Nat) (env : Env) (S : Store) : whileR c b (n + 1) env S = (c env S).go fun t S1 => if t = true then
      match b env S1 with
      | .nx e S' => whileR c b n e S'
      | .ct e S' => whileR c b n e S'
      | .bk e S' => .nx e S'
      | z => z
    else .nx env S1 := (rfl)
theorem tup2_val {a b : SE} {env : Env} {S : Store} {k k' : Bool} {v w : PV} (ha : a env S = .ok (k, v) S) (hb : b env S = .ok (k', w) S) : eTup (aCons a (aCons b aNil)) env S = .ok (false, .tup [v, w]) S := by
  rw [q_tup, q_cons, ha, R.bind_ok, q_cons, hb, R.bind_ok, q_nil, R.bind_ok, R.bind_ok, R.bind_ok]
  rfl
end PX
namespace PX
open PySem
@[simp] theorem q_meth (cf : CF) (np m : Nat) (T : List (Nat × Nat)) (o : SE) (a : SA) (env : Env) (S : Store) : eMeth cf np m T o a env S = (o env S).bind fun p S0 => match methOf m T S0 p.2 with
  | some f => (a env S0).bind fun args S1 => if args.length + 1 = np then callV cf f (p.2 :: args) S1 else .no
  | none => .no := (rfl)
theorem methN {cf : CF} {m f : Nat} {T : List (Nat × Nat)} {o : SE} {a : SA} {env : Env} {S : Store} {v : PV} {vs : List PV} {b : Bool} {z : Bool × PV} {np : Nat} (ho : o env S = .ok (b, v) S) (hm : methOf m T S v = some f) (ha : a env S = .ok vs S) (hl : vs.length + 1 = np) (hc : callV cf f (v :: vs) S = .ok z S) : eMeth cf np m T o a env S = .ok z S := by
  rw [q_meth, ho, R.bind_ok]
  simp only [hm, ha, R.bind_ok, hl, if_true, hc]
theorem args2 {a b : SE} {env : Env} {S : Store} {k k' : Bool} {v w : PV} (ha : a env S = .ok (k, v) S) (hb : b env S = .ok (k', w) S) : aCons a (aCons b aNil) env S = .ok [v, w] S := by
  rw [q_cons, ha, R.bind_ok, q_cons, hb, R.bind_ok, q_nil, R.bind_ok, R.bind_ok]
theorem args1 {a : SE} {env : Env} {S : Store} {k : Bool} {v : PV} (ha : a env S = .ok (k, v) S) : aCons a aNil env S = .ok [v] S := by
  rw [q_cons, ha, R.bind_ok, q_nil, R.bind_ok]
theorem zipN (a b : SE) (env : Env) (S : Store) (k k' : Bool) (xs ys : List Nat) (ha : a env S = .ok (k, .tup ((iN xs).map .int)) S) (hb : b env S = .ok (k', .tup ((iN ys).map .int)) S) : iZip a b env S = .ok ((xs.zip ys).map fun p => PV.tup [.int (p.1 : Nat), .int (p.2 : Nat)], []) S := by
  rw [zip_it a b _ S k k' _ _ _ _ rfl rfl ha hb, zipL_N]
theorem ean_bl {a b : SE} {env : Env} {S : Store} {k x y : Bool} (ha : a env S = .ok (k, .bl x) S) (hb : x = true → ∃ k', b env S = .ok (k', .bl y) S) : ∃ k', eAn a b env S = .ok (k', .bl (x && y)) S := by
  rw [q_ean, ha, R.bind_ok]
  cases x with
  | false => exact ⟨false, rfl⟩
  | true =>
    obtain ⟨k', h⟩ := hb rfl
    exact ⟨k', h⟩
theorem toDL_tups (S : Store) (k : Nat) : ∀ xss : List (List Int), toDL (toD S (k + 2)) (xss.map fun (xs : List Int) => PV.tup (xs.map .int)) = some (xss.map fun (xs : List Int) => PyData.tuple (xs.map .int))
  | [] => rfl
  | xs :: xss => by
    show (match toD S (k + 2) (.tup (xs.map .int)) with
      | some d => match toDL (toD S (k + 2)) (xss.map fun (xs : List Int) => PV.tup (xs.map .int)) with
        | some ds => some (d :: ds)
        | none => none
      | none => none) = _
    rw [toD_tup, toDL_tups S k xss]
    rfl
theorem mem_tups (S : Store) (c : List Int) (xss : List (List Int)) : oNotIn (.tup (c.map .int)) (.lst (xss.map fun (xs : List Int) => PV.tup (xs.map .int))) S = some (false, .bl (!decide (c ∈ xss))) := by
  have e1 : toD S 6 (.tup (c.map .int)) = some (.tuple (c.map .int)) := toD_tup S 4 c
  have e2 : toD S 6 (.lst (xss.map fun (xs : List Int) => PV.tup (xs.map .int))) = some (.list (xss.map fun (xs : List Int) => PyData.tuple (xs.map .int))) := by
    show (toDL (toD S 5) (xss.map fun (xs : List Int) => PV.tup (xs.map .int))).map PyData.list = _
    rw [toDL_tups S 3 xss]
    rfl
  have e3 : memP S (.tup (c.map .int)) (.lst (xss.map fun (xs : List Int) => PV.tup (xs.map .int))) = some ((xss.map fun (xs : List Int) => PyData.tuple (xs.map .int)).any fun z => PyData.eqv z (.tuple (c.map .int))) := by
    show (match toD S 6 (.tup (c.map .int)) with
      | some d => match toD S 6 (.lst (xss.map fun (xs : List Int) => PV.tup (xs.map .int))) with
        | some (.list ds) => some (ds.any fun z => PyData.eqv z d)
        | some (.tuple ds) => some (ds.any fun z => PyData.eqv z d)
        | _ => none
      | none => none) = _
    rw [e1, e2]
  have e4 : ((xss.map fun (xs : List Int) => PyData.tuple (xs.map .int)).any fun z => PyData.eqv z (.tuple (c.map .int))) = decide (c ∈ xss) := by
    induction xss with
    | nil => rfl
    | cons y ys ih =>
      have ih' : (ys.map fun (xs : List Int) => PyData.tuple (xs.map .int)).any (fun z => PyData.eqv z (.tuple (c.map .int))) = decide (c ∈ ys) := ih (by
        show (toDL (toD S 5) (ys.map fun (xs : List Int) => PV.tup (xs.map .int))).map PyData.list = _
        rw [toDL_tups S 3 ys]
        rfl) (by
        show (match toD S 6 (.tup (c.map .int)) with
          | some d => match toD S 6 (.lst (ys.map fun (xs : List Int) => PV.tup (xs.map .int))) with
            | some (.list ds) => some (ds.any fun z => PyData.eqv z d)
            | some (.tuple ds) => some (ds.any fun z => PyData.eqv z d)
            | _ => none
          | none => none) = _
        rw [e1]
        show (match (toDL (toD S 5) (ys.map fun (xs : List Int) => PV.tup (xs.map .int))).map PyData.list with
            | some (.list ds) => some (ds.any fun z => PyData.eqv z (.tuple (c.map .int)))
            | some (.tuple ds) => some (ds.any fun z => PyData.eqv z (.tuple (c.map .int)))
            | _ => none) = _
        rw [toDL_tups S 3 ys]
        rfl)
      rw [List.map_cons, List.any_cons, ih']
      show (PyData.eqvAll (y.map .int) (c.map .int) || _) = _
      rw [eqv_ints]
      by_cases h : c = y
      · simp [h]
      · have h' : ¬ y = c := fun z => h z.symm
        simp [h, h']
  unfold oNotIn
  rw [e3, e4]
  rfl
theorem cat_tup (a b : List Int) (S : Store) (h : a.length + b.length ≤ 1000000) : oCat (.tup (a.map .int)) (.tup (b.map .int)) S = some (false, .tup ((a ++ b).map .int)) := by
  show (if small ((a.map PV.int).length + (b.map PV.int).length) then some (false, PV.tup (a.map .int ++ b.map .int)) else none) = _
  rw [small_nat (by rw [List.length_map, List.length_map]; exact h), if_pos rfl, List.map_append]
theorem cat_lst (a b : List PV) (S : Store) (h : a.length + b.length ≤ 1000000) : oCat (.lst a) (.lst b) S = some (true, .lst (a ++ b)) := by
  show (if small (a.length + b.length) then some (true, PV.lst (a ++ b)) else none) = _
  rw [small_nat h, if_pos rfl]
end PX
namespace PX
open PySem
theorem toD_deref {S : Store} {k : Nat} {v w : PV} (h : deref S v = deref S w) : toD S (k + 1) v = toD S (k + 1) w := by
  simp only [toD, h]
theorem ne_last (S : Store) (acc : List Int) : oNe (.ref S.length) (.lst []) (S ++ [.lst (acc.map .int)]) = some (false, .bl (!decide (acc = []))) := by
  have e : toD (S ++ [.lst (acc.map .int)]) 6 (.ref S.length) = some (.list (acc.map .int)) := by
    rw [toD_deref (w := .lst (acc.map .int)) (by rw [d_ref, at_last]; rfl)]
    exact toD_lst _ 4 acc
  unfold oNe eqD
  rw [e, show toD (S ++ [.lst (acc.map .int)]) 6 (.lst []) = some (.list (([] : List Int).map .int)) from toD_lst _ 4 []]
  show some (false, PV.bl (!(PyData.eqvAll (acc.map .int) (([] : List Int).map .int)))) = _
  rw [eqv_ints]
theorem eif_val {c : ST} {a b : SE} {env : Env} {S : Store} {t : Bool} (ha : c env S = .ok t S) : eIf c a b env S = if t = true then a env S else b env S := by
  rw [q_if, ha, R.bind_ok]
theorem rg1_n {a : SE} {env : Env} {S : Store} {k : Bool} {j : Int} (ha : a env S = .ok (k, .int j) S) (h1 : 0 ≤ j) (h2 : j < 1000000) : iRg1 a env S = .ok (rngL 0 j.toNat, []) S := by
  rw [q_rg1, ha, R.bind_ok]
  simp only [okRg_small h1 h2, if_true]
end PX
namespace PX
open PySem
theorem okc {α : Type} {a b : α} (h : a = b) (S : Store) : R.ok a S = R.ok b S := by rw [h]
theorem eno_bl {a : SE} {env : Env} {S : Store} {k x : Bool} (ha : a env S = .ok (k, .bl x) S) : eNot a env S = .ok (false, .bl (!x)) S := by
  rw [q_not, ha, R.bind_ok]
  rfl
theorem ch_val {o o' : Op2} {a b c : SE} {env : Env} {S : Store} {k1 k2 k3 x : Bool} {u v w : PV} {y : Bool} (ha : a env S = .ok (k1, u) S) (hb : b env S = .ok (k2, v) S) (hc : c env S = .ok (k3, w) S) (h1 : o u v S = some (false, .bl x)) (h2 : o' v w S = some (false, .bl y)) : eCh o o' a b c env S = .ok (false, .bl (x && y)) S := by
  rw [q_ch, ha, R.bind_ok, hb, R.bind_ok, h1]
  cases x with
  | false => rfl
  | true =>
    simp only
    rw [hc, R.bind_ok, h2]
    rfl
end PX
namespace PX
open PySem
theorem toD_ref0 (xs : List Int) : toD [.lst (xs.map .int)] 6 (.ref 0) = some (.list (xs.map .int)) := by
  exact (toD_deref (k := 5) (v := .ref 0) (w := .lst (xs.map .int)) rfl).trans (toD_lst _ 4 xs)
theorem ne_lst_ref (a b : List Int) : oNe (.lst (a.map .int)) (.ref 0) [.lst (b.map .int)] = some (false, .bl (!decide (a = b))) := by
  unfold oNe eqD
  rw [toD_ref0, toD_lst _ 4 a]
  show some (false, PV.bl (!(PyData.eqvAll (a.map .int) (b.map .int)))) = _
  rw [eqv_ints]
theorem oIx_at {v : PV} {S : Store} {xs : List PV} {x : PV} {i : Nat} (h : itemsOf S v = some xs) (hx : xs[i]? = some x) : oIx v (.int i) S = some (false, x) := by
  obtain ⟨hl, _⟩ := List.getElem?_eq_some_iff.mp hx
  have e2 : ixP xs.length (i : Int) = some i := by
    unfold ixP
    rw [if_pos (by omega), if_pos (by omega), Int.toNat_natCast]
  unfold oIx
  simp only [h, e2, hx]
theorem lst1_val {a : SE} {env : Env} {S : Store} {k : Bool} {v : PV} (ha : a env S = .ok (k, v) S) : eLst (aCons a aNil) env S = .ok (true, .lst [v]) S := by
  rw [q_lst, q_cons, ha, R.bind_ok, q_nil, R.bind_ok, R.bind_ok]
  rfl
theorem tuple_lst (ns : List Int) (S : Store) : bTuple [.lst (ns.map .int)] S = some (false, .tup (ns.map .int)) := rfl
theorem list_tup (ns : List Int) (S : Store) : bList [.tup (ns.map .int)] S = some (true, .lst (ns.map .int)) := rfl
end PX
namespace PX
open PySem
theorem callz1 {cf : CF} {f : Nat} {a : SE} {env : Env} {S : Store} {b : Bool} {v : PV} {z : Bool × PV} (ha : a env S = .ok (b, v) S) (h : callV cf f [v] S = .ok z S) : eCall cf 1 f (aCons a aNil) env S = .ok z S := by
  rw [q_call, q_cons, ha, R.bind_ok, q_nil, R.bind_ok, R.bind_ok, if_pos (by rfl), h]
theorem callz3 {cf : CF} {f : Nat} {a a2 a3 : SE} {env : Env} {S : Store} {b b2 b3 : Bool} {v v2 v3 : PV} {z : Bool × PV} (ha : a env S = .ok (b, v) S) (ha2 : a2 env S = .ok (b2, v2) S) (ha3 : a3 env S = .ok (b3, v3) S) (h : callV cf f [v, v2, v3] S = .ok z S) : eCall cf 3 f (aCons a (aCons a2 (aCons a3 aNil))) env S = .ok z S := by
  rw [q_call, q_cons, ha, R.bind_ok, q_cons, ha2, R.bind_ok, q_cons, ha3, R.bind_ok, q_nil, R.bind_ok, R.bind_ok, R.bind_ok, R.bind_ok, if_pos (by rfl), h]
end PX
set_option Elab.async false
set_option linter.all false
set_option maxRecDepth 100000
namespace PX.K03
open PySem PX
/-! is_number -/
noncomputable def b0 : FnB := ⟨3, 3, fun cf n0 => (sRet (eAn (eIsi [(.non, false), (.bl, true), (.int, true), (.str, false), (.tup, false), (.lst, false), (.dct, false), (.own 0, false), (.own 1, false)] (eVar 0)) (eAn (eNot (eIsi [(.non, false), (.bl, true), (.int, false), (.str, false), (.tup, false), (.lst, false), (.dct, false), (.own 0, false), (.own 1, false)] (eVar 0))) (eCh oLe oLe (eVar 1) (eVar 0) (eVar 2)))))⟩
/-! Column.__init__ -/
noncomputable def b1 : FnB := ⟨2, 3, fun cf n0 => (sCons (sIf (tOr (tNo (tTru (eIsi [(.non, false), (.bl, false), (.int, false), (.str, false), (.tup, true), (.lst, true), (.dct, false), (.own 0, false), (.own 1, false)] (eVar 1)))) (tNo (tBl (eCh oLe oLe (eLit (.int 1)) (eLen cf [(0, 3), (1, 14)] (eVar 1)) (eLit (.int (12))))))) sNo sNil) (sCons (sIf (tNo (tTru (eArg bAll (aCons (eLc (iSeq (eVar 1)) (gNm 2) [2] tYesP (eCall cf 3 0 (aCons (eVar 2) (aCons (eLit (.int 0)) (aCons (eLit (.int (9))) aNil))))) aNil)))) sNo sNil) (sFld n0 [0] 0 (eVar 0) (eArg bTuple (aCons (eVar 1) aNil)))))⟩
/-! Column.__eq__ -/
noncomputable def b2 : FnB := ⟨2, 2, fun cf n0 => (sRet (eAn (eIsi [(.non, false), (.bl, false), (.int, false), (.str, false), (.tup, false), (.lst, false), (.dct, false), (.own 0, true), (.own 1, false)] (eVar 1)) (eEq cf [(0, 2), (1, 13)] [.non, .bl, .int, .str, .tup, .lst, .dct, .own 0, .own 1] (eFld [0] 0 (eVar 0)) (eFld [0] 0 (eVar 1)))))⟩
/-! Column.__len__ -/
noncomputable def b3 : FnB := ⟨1, 1, fun cf n0 => (sRet (eLen cf [(0, 3), (1, 14)] (eFld [0] 0 (eVar 0))))⟩
/-! Column.__getitem__ -/
noncomputable def b4 : FnB := ⟨2, 2, fun cf n0 => (sCons (sIf (tNo (tTru (eCall cf 3 0 (aCons (eVar 1) (aCons (eLit (.int 0)) (aCons (eBin oSub (eLen cf [(0, 3), (1, 14)] (eFld [0] 0 (eVar 0))) (eLit (.int 1))) aNil)))))) sNo sNil) (sRet (eIx cf [(0, 4)] (eFld [0] 0 (eVar 0)) (eVar 1))))⟩
/-! Column.__iter__ -/
noncomputable def b5 : FnB := ⟨1, 1, fun cf n0 => sNo⟩
/-! Column.rows -/
noncomputable def b6 : FnB := ⟨1, 1, fun cf n0 => (sRet (eArg bSum (aCons (eFld [0] 0 (eVar 0)) aNil)))⟩
/-! check_column -/
noncomputable def b7 : FnB := ⟨1, 1, fun cf n0 => (sIf (tNo (tTru (eIsi [(.non, false), (.bl, false), (.int, false), (.str, false), (.tup, false), (.lst, false), (.dct, false), (.own 0, true), (.own 1, false)] (eVar 0)))) sNo sNil)⟩
/-! lowest -/
noncomputable def b8 : FnB := ⟨2, 4, fun cf n0 => (sCons (sPar [2, 3] (aCons (eArg bAbs (aCons (eVar 0) aNil)) (aCons (eVar 1) aNil))) (sCons (sWhl 100 (tBl (eNe cf [(0, 2), (1, 13)] [.non, .bl, .int, .str, .tup, .lst, .dct, .own 0, .own 1] (eVar 3) (eLit (.int 0)))) (sPar [2, 3] (aCons (eVar 3) (aCons (eBin oMod (eVar 2) (eVar 3)) aNil)))) (sRet (eTup (aCons (eBin oDiv (eVar 0) (eVar 2)) (aCons (eBin oDiv (eVar 1) (eVar 2)) aNil))))))⟩
/-! are_cuts -/
noncomputable def b9 : FnB := ⟨2, 5, fun cf n0 => (sCons (sIf (tOr (tNo (tTru (eIsi [(.non, false), (.bl, false), (.int, false), (.str, false), (.tup, true), (.lst, false), (.dct, false), (.own 0, false), (.own 1, false)] (eVar 0)))) (tOr (tBl (eEq cf [(0, 2), (1, 13)] [.non, .bl, .int, .str, .tup, .lst, .dct, .own 0, .own 1] (eVar 0) (eTup aNil))) (tBl (eNe cf [(0, 2), (1, 13)] [.non, .bl, .int, .str, .tup, .lst, .dct, .own 0, .own 1] (eIx cf [(0, 4)] (eVar 0) (eLit (.int 0))) (eLit (.int 0)))))) (sRet (eLit (.bl false))) sNil) (sCons (sIf (tNo (tTru (eArg bAll (aCons (eLc (iSeq (eVar 0)) (gNm 4) [4] tYesP (eCall cf 3 0 (aCons (eVar 4) (aCons (eLit (.int 0)) (aCons (eBin oSub (eVar 1) (eLit (.int 1))) aNil))))) aNil)))) (sRet (eLit (.bl false))) sNil) (sRet (eArg bAll (aCons (eLc (iZip (eVar 0) (eSl (eVar 0) (pSo (eLit (.int 1))) pNo)) (gTp [(gNm 2), (gNm 3)]) [2, 3] tYesP (eBin oLt (eVar 2) (eVar 3))) aNil)))))⟩
/-! check_cuts -/
noncomputable def b10 : FnB := ⟨2, 2, fun cf n0 => (sIf (tNo (tTru (eCall cf 2 9 (aCons (eVar 1) (aCons (eVar 0) aNil))))) sNo sNil)⟩
/-! buckets_of -/
noncomputable def b11 : FnB := ⟨2, 2, fun cf n0 => (sRet (eLz (eVar 1) (eLst (aStar (eSl (eVar 1) (pSo (eLit (.int 1))) pNo) (aCons (eVar 0) aNil)))))⟩
/-! Histogram.__init__ -/
noncomputable def b12 : FnB := ⟨4, 6, fun cf n0 => (sCons (sIf (tOr (tNo (tTru (eCall cf 3 0 (aCons (eVar 1) (aCons (eLit (.int 1)) (aCons (eLit (.int (12))) aNil)))))) (tNo (tTru (eCall cf 2 9 (aCons (eVar 2) (aCons (eVar 1) aNil)))))) sNo sNil) (sCons (sIf (tOr (tNo (tTru (eIsi [(.non, false), (.bl, false), (.int, false), (.str, false), (.tup, true), (.lst, false), (.dct, false), (.own 0, false), (.own 1, false)] (eVar 3)))) (tBl (eNe cf [(0, 2), (1, 13)] [.non, .bl, .int, .str, .tup, .lst, .dct, .own 0, .own 1] (eLen cf [(0, 3), (1, 14)] (eVar 3)) (eLen cf [(0, 3), (1, 14)] (eVar 2))))) sNo sNil) (sCons (sFor (iZip (eVar 3) (eCall cf 2 11 (aCons (eVar 1) (aCons (eVar 2) aNil)))) (gTp [(gNm 4), (gNm 5)]) (sIf (tNo (tTru (eCall cf 3 0 (aCons (eVar 4) (aCons (eLit (.int 0)) (aCons (eBin oRep (eLit (.int (9))) (eBin oSub (eIx cf [(0, 4)] (eVar 5) (eLit (.int 1))) (eIx cf [(0, 4)] (eVar 5) (eLit (.int 0))))) aNil)))))) sNo sNil)) (sCons (sFld n0 [1] 1 (eVar 0) (eVar 1)) (sCons (sFld n0 [1] 2 (eVar 0) (eVar 2)) (sFld n0 [1] 3 (eVar 0) (eVar 3)))))))⟩
/-! Histogram.__eq__ -/
noncomputable def b13 : FnB := ⟨2, 2, fun cf n0 => (sRet (eAn (eIsi [(.non, false), (.bl, false), (.int, false), (.str, false), (.tup, false), (.lst, false), (.dct, false), (.own 0, false), (.own 1, true)] (eVar 1)) (eEq cf [(0, 2), (1, 13)] [.non, .bl, .int, .str, .tup, .lst, .dct, .own 0, .own 1] (eMeth cf 1 4 [(1, 15)] (eVar 0) aNil) (eMeth cf 1 4 [(1, 15)] (eVar 1) aNil))))⟩
/-! Histogram.__len__ -/
noncomputable def b14 : FnB := ⟨1, 1, fun cf n0 => (sRet (eLen cf [(0, 3), (1, 14)] (eFld [1] 2 (eVar 0))))⟩
/-! Histogram.all_three -/
noncomputable def b15 : FnB := ⟨1, 1, fun cf n0 => (sRet (eTup (aCons (eFld [1] 1 (eVar 0)) (aCons (eFld [1] 2 (eVar 0)) (aCons (eFld [1] 3 (eVar 0)) aNil)))))⟩
/-! Histogram.buckets -/
noncomputable def b16 : FnB := ⟨1, 1, fun cf n0 => (sRet (eCall cf 2 11 (aCons (eFld [1] 1 (eVar 0)) (aCons (eFld [1] 2 (eVar 0)) aNil))))⟩
/-! check_histogram -/
noncomputable def b17 : FnB := ⟨1, 1, fun cf n0 => (sIf (tNo (tTru (eIsi [(.non, false), (.bl, false), (.int, false), (.str, false), (.tup, false), (.lst, false), (.dct, false), (.own 0, false), (.own 1, true)] (eVar 0)))) sNo sNil)⟩
/-! histogram -/
noncomputable def b18 : FnB := ⟨2, 5, fun cf n0 => (sCons (sExp (eCall cf 1 7 (aCons (eVar 0) aNil))) (sCons (sExp (eCall cf 2 10 (aCons (eLen cf [(0, 3), (1, 14)] (eVar 0)) (aCons (eVar 1) aNil)))) (sCons (sAsg (gNm 2) (eCall cf 2 11 (aCons (eLen cf [(0, 3), (1, 14)] (eVar 0)) (aCons (eVar 1) aNil)))) (sRet (eMake cf 4 1 12 (aCons (eLen cf [(0, 3), (1, 14)] (eVar 0)) (aCons (eVar 1) (aCons (eArg bTuple (aCons (eLc (iSeq (eVar 2)) (gTp [(gNm 3), (gNm 4)]) [3, 4] tYesP (eArg bSum (aCons (eSl (eFld [0] 0 (eVar 0)) (pSo (eVar 3)) (pSo (eVar 4))) aNil))) aNil)) aNil))))))))⟩
/-! caps_of -/
noncomputable def b19 : FnB := ⟨2, 4, fun cf n0 => (sCons (sExp (eCall cf 1 7 (aCons (eVar 0) aNil))) (sCons (sExp (eCall cf 2 10 (aCons (eLen cf [(0, 3), (1, 14)] (eVar 0)) (aCons (eVar 1) aNil)))) (sRet (eArg bTuple (aCons (eLc (iSeq (eCall cf 2 11 (aCons (eLen cf [(0, 3), (1, 14)] (eVar 0)) (aCons (eVar 1) aNil)))) (gTp [(gNm 2), (gNm 3)]) [2, 3] tYesP (eArg bMaxL (aCons (eSl (eFld [0] 0 (eVar 0)) (pSo (eVar 2)) (pSo (eVar 3))) aNil))) aNil)))))⟩
/-! fills_of -/
noncomputable def b20 : FnB := ⟨2, 6, fun cf n0 => (sCons (sExp (eCall cf 1 7 (aCons (eVar 0) aNil))) (sCons (sExp (eCall cf 2 10 (aCons (eLen cf [(0, 3), (1, 14)] (eVar 0)) (aCons (eVar 1) aNil)))) (sCons (sAsg (gNm 2) (eCall cf 2 11 (aCons (eLen cf [(0, 3), (1, 14)] (eVar 0)) (aCons (eVar 1) aNil)))) (sRet (eArg bTuple (aCons (eLc (iSeq (eVar 2)) (gTp [(gNm 3), (gNm 4)]) [3, 4] tYesP (eLen cf [(0, 3), (1, 14)] (eLc (iSeq (eSl (eFld [0] 0 (eVar 0)) (pSo (eVar 3)) (pSo (eVar 4)))) (gNm 5) [5] (tBl (eBin oGt (eVar 5) (eLit (.int 0)))) (eVar 5)))) aNil))))))⟩
/-! estimate -/
noncomputable def b21 : FnB := ⟨3, 9, fun cf n0 => (sCons (sExp (eCall cf 1 17 (aCons (eVar 0) aNil))) (sCons (sIf (tOr (tNo (tTru (eCall cf 3 0 (aCons (eVar 1) (aCons (eLit (.int 0)) (aCons (eBin oSub (eFld [1] 1 (eVar 0)) (eLit (.int 1))) aNil)))))) (tNo (tTru (eCall cf 3 0 (aCons (eVar 2) (aCons (eBin oCat (eVar 1) (eLit (.int 1))) (aCons (eFld [1] 1 (eVar 0)) aNil))))))) sNo sNil) (sCons (sAsg (gTp [(gNm 3), (gNm 4)]) (eTup (aCons (eLit (.int 0)) (aCons (eLit (.int 1)) aNil)))) (sCons (sFor (iZip (eFld [1] 3 (eVar 0)) (eMeth cf 1 5 [(1, 16)] (eVar 0) aNil)) (gTp [(gNm 5), (gTp [(gNm 6), (gNm 7)])]) (sCons (sAsg (gNm 8) (eArg bMax2 (aCons (eLit (.int 0)) (aCons (eBin oSub (eArg bMin2 (aCons (eVar 2) (aCons (eVar 7) aNil))) (eArg bMax2 (aCons (eVar 1) (aCons (eVar 6) aNil)))) aNil)))) (sPar [3, 4] (aCons (eBin oCat (eBin oRep (eVar 3) (eBin oSub (eVar 7) (eVar 6))) (eBin oRep (eBin oRep (eVar 5) (eVar 8)) (eVar 4))) (aCons (eBin oRep (eVar 4) (eBin oSub (eVar 7) (eVar 6))) aNil))))) (sRet (eCall cf 2 8 (aCons (eVar 3) (aCons (eVar 4) aNil))))))))⟩
/-! coarser -/
noncomputable def b22 : FnB := ⟨2, 6, fun cf n0 => (sCons (sExp (eCall cf 1 17 (aCons (eVar 0) aNil))) (sCons (sIf (tOr (tNo (tTru (eCall cf 2 9 (aCons (eVar 1) (aCons (eFld [1] 1 (eVar 0)) aNil))))) (tNo (tTru (eArg bAll (aCons (eLc (iSeq (eVar 1)) (gNm 4) [4] tYesP (eBin oIn (eVar 4) (eFld [1] 2 (eVar 0)))) aNil))))) sNo sNil) (sCons (sAsg (gNm 2) (eNew (eBin oRep (eLst (aCons (eLit (.int 0)) aNil)) (eLen cf [(0, 3), (1, 14)] (eVar 1))))) (sCons (sFor (iZip (eFld [1] 3 (eVar 0)) (eFld [1] 2 (eVar 0))) (gTp [(gNm 3), (gNm 4)]) (sAugI oAdd oGet (setG n0) (eVar 2) (eBin oSub (eLen cf [(0, 3), (1, 14)] (eLc (iSeq (eVar 1)) (gNm 5) [5] (tBl (eBin oLe (eVar 5) (eVar 4))) (eVar 5))) (eLit (.int 1))) (eVar 3))) (sRet (eMake cf 4 1 12 (aCons (eFld [1] 1 (eVar 0)) (aCons (eVar 1) (aCons (eArg bTuple (aCons (eVar 2) aNil)) aNil)))))))))⟩
/-! _law_number -/
noncomputable def b23 : FnB := ⟨2, 8, fun cf n0 => (sCons (sAsg (gNm 2) (eIf (tBl (eNe cf [(0, 2), (1, 13)] [.non, .bl, .int, .str, .tup, .lst, .dct, .own 0, .own 1] (eVar 0) (eLst aNil))) (eSl (eVar 0) pNo (pSo (eLit (.int 63)))) (eLst (aCons (eLit (.int 5)) aNil)))) (sCons (sAsg (gNm 3) (eBin oCat (eIx cf [(0, 4)] (eVar 2) (eBin oMod (eArg bInt (aCons (eVar 1) aNil)) (eLen cf [(0, 3), (1, 14)] (eVar 2)))) (eBin oRep (eLit (.int 13)) (eBin oDiv (eVar 1) (eLen cf [(0, 3), (1, 14)] (eVar 2)))))) (sCons (sPar [4, 5] (aCons (eBin oMod (eArg bInt (aCons (eVar 3) aNil)) (eLit (.int 1000003))) (aCons (eBin oMod (eArg bInt (aCons (eBin oDiv (eVar 3) (eLit (.int 1000003))) aNil)) (eLit (.int 999983))) aNil))) (sCons (sAsg (gNm 6) (eBin oMod (eArg bInt (aCons (eArg bSum (aCons (eVar 2) aNil)) aNil)) (eLit (.int 65521)))) (sCons (sAsg (gNm 7) (eBin oMod (eArg bInt (aCons (eBin oCat (eBin oCat (eBin oRep (eBin oCat (eVar 4) (eBin oRep (eLit (.int 977)) (eVar 1))) (eLit (.int 48271))) (eBin oRep (eLit (.int 31)) (eVar 5))) (eVar 6)) aNil)) (eLit (.int 2147483647)))) (sRet (eBin oCat (eBin oRep (eBin oMod (eArg bInt (aCons (eBin oRep (eVar 7) (eBin oCat (eBin oCat (eVar 7) (eBin oRep (eLit (.int 31)) (eVar 1))) (eLit (.int 7)))) aNil)) (eLit (.int 2147483629))) (eLit (.int 65537))) (eVar 5))))))))⟩
/-! _law_take -/
noncomputable def b24 : FnB := ⟨2, 2, fun cf n0 => (sCons (sSetI (setG n0) (eVar 0) (eLit (.int 1)) (eBin oCat (eIx cf [(0, 4)] (eVar 0) (eLit (.int 1))) (eLit (.int 1)))) (sRet (eBin oMod (eArg bInt (aCons (eCall cf 2 23 (aCons (eIx cf [(0, 4)] (eVar 0) (eLit (.int 0))) (aCons (eArg bInt (aCons (eIx cf [(0, 4)] (eVar 0) (eLit (.int 1))) aNil)) aNil))) aNil)) (eVar 1))))⟩
/-! _law_counts -/
noncomputable def b25 : FnB := ⟨2, 5, fun cf n0 => (sCons (sAsg (gNm 2) (eNew (eLst aNil))) (sCons (sFor (iRg1 (eBin oCat (eLit (.int 1)) (eCall cf 2 24 (aCons (eVar 0) (aCons (eVar 1) aNil))))) (gNm 3) (sCons (sAsg (gNm 4) (eIf (tBl (eEq cf [(0, 2), (1, 13)] [.non, .bl, .int, .str, .tup, .lst, .dct, .own 0, .own 1] (eCall cf 2 24 (aCons (eVar 0) (aCons (eLit (.int 3)) aNil))) (eLit (.int 0)))) (eCall cf 2 24 (aCons (eVar 0) (aCons (eLit (.int 10)) aNil))) (eCall cf 2 24 (aCons (eVar 0) (aCons (eLit (.int 4)) aNil))))) (sExp (eLm (appL n0) (eVar 2) (eIf (tAn (tBl (eNe cf [(0, 2), (1, 13)] [.non, .bl, .int, .str, .tup, .lst, .dct, .own 0, .own 1] (eVar 2) (eLst aNil))) (tBl (eEq cf [(0, 2), (1, 13)] [.non, .bl, .int, .str, .tup, .lst, .dct, .own 0, .own 1] (eCall cf 2 24 (aCons (eVar 0) (aCons (eLit (.int 4)) aNil))) (eLit (.int 0))))) (eIx cf [(0, 4)] (eVar 2) (eUn oNeg (eLit (.int 1)))) (eVar 4)))))) (sRet (eVar 2))))⟩
/-! _law_cuts -/
noncomputable def b26 : FnB := ⟨2, 3, fun cf n0 => (sRet (eArg bTuple (aCons (eBin oCat (eLst (aCons (eLit (.int 0)) aNil)) (eLc (iRg2 (eLit (.int 1)) (eVar 1)) (gNm 2) [2] (tBl (eEq cf [(0, 2), (1, 13)] [.non, .bl, .int, .str, .tup, .lst, .dct, .own 0, .own 1] (eCall cf 2 24 (aCons (eVar 0) (aCons (eLit (.int 2)) aNil))) (eLit (.int 0)))) (eVar 2))) aNil)))⟩
/-! _law_buckets -/
noncomputable def b27 : FnB := ⟨2, 2, fun cf n0 => (sRet (eLz (eVar 1) (eBin oCat (eArg bList (aCons (eSl (eVar 1) (pSo (eLit (.int 1))) pNo) aNil)) (eLst (aCons (eVar 0) aNil)))))⟩
/-! _law_fraction -/
noncomputable def b28 : FnB := ⟨2, 4, fun cf n0 => (sCons (sPar [2, 3] (aCons (eVar 0) (aCons (eVar 1) aNil))) (sCons (sWhl 100 (tBl (eNe cf [(0, 2), (1, 13)] [.non, .bl, .int, .str, .tup, .lst, .dct, .own 0, .own 1] (eVar 3) (eLit (.int 0)))) (sPar [2, 3] (aCons (eVar 3) (aCons (eBin oMod (eVar 2) (eVar 3)) aNil)))) (sRet (eTup (aCons (eBin oDiv (eVar 0) (eVar 2)) (aCons (eBin oDiv (eVar 1) (eVar 2)) aNil))))))⟩
/-! _law_estimates_right -/
noncomputable def b29 : FnB := ⟨7, 17, fun cf n0 => (sCons (sAsg (gNm 7) (eCall cf 2 24 (aCons (eVar 0) (aCons (eVar 1) aNil)))) (sCons (sAsg (gNm 8) (eBin oCat (eBin oCat (eVar 7) (eLit (.int 1))) (eCall cf 2 24 (aCons (eVar 0) (aCons (eBin oSub (eVar 1) (eVar 7)) aNil))))) (sCons (sAsg (gNm 9) (eLst aNil)) (sCons (sFor (iZip (eVar 5) (eVar 4)) (gTp [(gNm 10), (gTp [(gNm 11), (gNm 12)])]) (sAsg (gNm 9) (eBin oCat (eVar 9) (eBin oRep (eLst (aCons (eBin oRep (eVar 10) (eBin oDiv (eLit (.int 27720)) (eBin oSub (eVar 12) (eVar 11)))) aNil)) (eBin oSub (eVar 12) (eVar 11)))))) (sCons (sIf (tBl (eNe cf [(0, 2), (1, 13)] [.non, .bl, .int, .str, .tup, .lst, .dct, .own 0, .own 1] (eCall cf 3 21 (aCons (eVar 6) (aCons (eVar 7) (aCons (eVar 8) aNil)))) (eCall cf 2 28 (aCons (eArg bSum (aCons (eSl (eVar 9) (pSo (eVar 7)) (pSo (eVar 8))) aNil)) (aCons (eLit (.int 27720)) aNil))))) (sRet (eLit (.bl false))) sNil) (sCons (sAsg (gNm 13) (eArg bTuple (aCons (eBin oCat (eLst (aCons (eLit (.int 0)) aNil)) (eLc (iSeq (eSl (eVar 3) (pSo (eLit (.int 1))) pNo)) (gNm 16) [16] (tBl (eEq cf [(0, 2), (1, 13)] [.non, .bl, .int, .str, .tup, .lst, .dct, .own 0, .own 1] (eCall cf 2 24 (aCons (eVar 0) (aCons (eLit (.int 2)) aNil))) (eLit (.int 0)))) (eVar 16))) aNil))) (sCons (sIf (tOr (tBl (eNe cf [(0, 2), (1, 13)] [.non, .bl, .int, .str, .tup, .lst, .dct, .own 0, .own 1] (eCall cf 2 22 (aCons (eVar 6) (aCons (eVar 13) aNil))) (eCall cf 2 18 (aCons (eVar 2) (aCons (eVar 13) aNil))))) (tBl (eNe cf [(0, 2), (1, 13)] [.non, .bl, .int, .str, .tup, .lst, .dct, .own 0, .own 1] (eCall cf 2 22 (aCons (eVar 6) (aCons (eVar 3) aNil))) (eVar 6)))) (sRet (eLit (.bl false))) sNil) (sCons (sIf (tOr (tBl (eNe cf [(0, 2), (1, 13)] [.non, .bl, .int, .str, .tup, .lst, .dct, .own 0, .own 1] (eArg bSum (aCons (eFld [1] 3 (eVar 6)) aNil)) (eMeth cf 1 7 [(0, 6)] (eVar 2) aNil))) (tBl (eNe cf [(0, 2), (1, 13)] [.non, .bl, .int, .str, .tup, .lst, .dct, .own 0, .own 1] (eCall cf 3 21 (aCons (eVar 6) (aCons (eLit (.int 0)) (aCons (eVar 1) aNil)))) (eTup (aCons (eMeth cf 1 7 [(0, 6)] (eVar 2) aNil) (aCons (eLit (.int 1)) aNil)))))) (sRet (eLit (.bl false))) sNil) (sCons (sAsg (gNm 14) (eNew (eArg bList (aCons (eVar 5) aNil)))) (sCons (sAsg (gNm 15) (eCall cf 2 24 (aCons (eVar 0) (aCons (eLen cf [(0, 3), (1, 14)] (eVar 14)) aNil)))) (sCons (sSetI (setG n0) (eVar 14) (eVar 15) (eIf (tBl (eBin oGt (eIx cf [(0, 4)] (eVar 14) (eVar 15)) (eLit (.int 0)))) (eLit (.int 0)) (eLit (.int 1)))) (sCons (sIf (tOr (tBl (eEq cf [(0, 2), (1, 13)] [.non, .bl, .int, .str, .tup, .lst, .dct, .own 0, .own 1] (eVar 6) (eMake cf 4 1 12 (aCons (eVar 1) (aCons (eVar 3) (aCons (eArg bTuple (aCons (eVar 14) aNil)) aNil)))))) (tAn (tBl (eBin oLt (eVar 1) (eLit (.int 12)))) (tBl (eEq cf [(0, 2), (1, 13)] [.non, .bl, .int, .str, .tup, .lst, .dct, .own 0, .own 1] (eVar 6) (eMake cf 4 1 12 (aCons (eBin oCat (eVar 1) (eLit (.int 1))) (aCons (eVar 3) (aCons (eVar 5) aNil)))))))) (sRet (eLit (.bl false))) sNil) (sRet (eLit (.bl true)))))))))))))))⟩
/-! law -/
noncomputable def b30 : FnB := ⟨1, 13, fun cf n0 => (sCons (sAsg (gNm 1) (eNew (eLst (aCons (eVar 0) (aCons (eLit (.int 0)) aNil))))) (sCons (sFor (iRg1 (eLit (.int 5))) (gNm 2) (sCons (sAsg (gNm 3) (eCall cf 2 25 (aCons (eVar 1) (aCons (eLit (.int 12)) aNil)))) (sCons (sPar [4, 5] (aCons (eLen cf [(0, 3), (1, 14)] (eVar 3)) (aCons (eMake cf 2 0 1 (aCons (eVar 3) aNil)) aNil))) (sCons (sAsg (gNm 6) (eCall cf 2 26 (aCons (eVar 1) (aCons (eVar 4) aNil)))) (sCons (sAsg (gNm 7) (eCall cf 2 27 (aCons (eVar 4) (aCons (eVar 6) aNil)))) (sCons (sAsg (gNm 8) (eArg bTuple (aCons (eLc (iSeq (eVar 7)) (gTp [(gNm 10), (gNm 11)]) [10, 11] tYesP (eArg bSum (aCons (eSl (eVar 3) (pSo (eVar 10)) (pSo (eVar 11))) aNil))) aNil))) (sCons (sAsg (gNm 9) (eCall cf 2 18 (aCons (eVar 5) (aCons (eVar 6) aNil)))) (sCons (sIf (tBl (eNe cf [(0, 2), (1, 13)] [.non, .bl, .int, .str, .tup, .lst, .dct, .own 0, .own 1] (eTup (aCons (eFld [1] 1 (eVar 9)) (aCons (eFld [1] 2 (eVar 9)) (aCons (eFld [1] 3 (eVar 9)) (aCons (eLen cf [(0, 3), (1, 14)] (eVar 9)) aNil))))) (eTup (aCons (eVar 4) (aCons (eVar 6) (aCons (eVar 8) (aCons (eLen cf [(0, 3), (1, 14)] (eVar 6)) aNil))))))) (sRet (eLit (.bl false))) sNil) (sCons (sIf (tBl (eNe cf [(0, 2), (1, 13)] [.non, .bl, .int, .str, .tup, .lst, .dct, .own 0, .own 1] (eMeth cf 1 5 [(1, 16)] (eVar 9) aNil) (eVar 7))) (sRet (eLit (.bl false))) sNil) (sCons (sIf (tBl (eNe cf [(0, 2), (1, 13)] [.non, .bl, .int, .str, .tup, .lst, .dct, .own 0, .own 1] (eCall cf 2 19 (aCons (eVar 5) (aCons (eVar 6) aNil))) (eArg bTuple (aCons (eLc (iSeq (eVar 7)) (gTp [(gNm 10), (gNm 11)]) [10, 11] tYesP (eArg bMaxL (aCons (eSl (eVar 3) (pSo (eVar 10)) (pSo (eVar 11))) aNil))) aNil)))) (sRet (eLit (.bl false))) sNil) (sCons (sIf (tBl (eNe cf [(0, 2), (1, 13)] [.non, .bl, .int, .str, .tup, .lst, .dct, .own 0, .own 1] (eCall cf 2 20 (aCons (eVar 5) (aCons (eVar 6) aNil))) (eArg bTuple (aCons (eLc (iSeq (eVar 7)) (gTp [(gNm 10), (gNm 11)]) [10, 11] tYesP (eLen cf [(0, 3), (1, 14)] (eLc (iSeq (eSl (eVar 3) (pSo (eVar 10)) (pSo (eVar 11)))) (gNm 12) [12] (tBl (eBin oGt (eVar 12) (eLit (.int 0)))) (eVar 12)))) aNil)))) (sRet (eLit (.bl false))) sNil) (sCons (sIf (tOr (tBl (eNe cf [(0, 2), (1, 13)] [.non, .bl, .int, .str, .tup, .lst, .dct, .own 0, .own 1] (eVar 9) (eMake cf 4 1 12 (aCons (eVar 4) (aCons (eVar 6) (aCons (eVar 8) aNil)))))) (tAn (tBl (eBin oGt (eLen cf [(0, 3), (1, 14)] (eVar 6)) (eLit (.int 1)))) (tBl (eEq cf [(0, 2), (1, 13)] [.non, .bl, .int, .str, .tup, .lst, .dct, .own 0, .own 1] (eVar 9) (eCall cf 2 18 (aCons (eVar 5) (aCons (eSl (eVar 6) pNo (pSo (eUn oNeg (eLit (.int 1))))) aNil))))))) (sRet (eLit (.bl false))) sNil) (sIf (tNo (tTru (eCall cf 7 29 (aCons (eVar 1) (aCons (eVar 4) (aCons (eVar 5) (aCons (eVar 6) (aCons (eVar 7) (aCons (eVar 8) (aCons (eVar 9) aNil)))))))))) (sRet (eLit (.bl false))) sNil))))))))))))) (sRet (eLit (.bl true)))))⟩
noncomputable def TT : Nat → Option FnB
  | 0 => some b0
  | 1 => some b1
  | 2 => some b2
  | 3 => some b3
  | 4 => some b4
  | 5 => some b5
  | 6 => some b6
  | 7 => some b7
  | 8 => some b8
  | 9 => some b9
  | 10 => some b10
  | 11 => some b11
  | 12 => some b12
  | 13 => some b13
  | 14 => some b14
  | 15 => some b15
  | 16 => some b16
  | 17 => some b17
  | 18 => some b18
  | 19 => some b19
  | 20 => some b20
  | 21 => some b21
  | 22 => some b22
  | 23 => some b23
  | 24 => some b24
  | 25 => some b25
  | 26 => some b26
  | 27 => some b27
  | 28 => some b28
  | 29 => some b29
  | 30 => some b30
  | _ => none
end PX.K03
set_option Elab.async false
set_option linter.all false
set_option maxRecDepth 100000
set_option maxHeartbeats 4000000
namespace PX.K03
open PySem PySem.Spec PyProof.Rows L2 He PX
def top (i : Nat) : Stmt := PySem.Challenge.pw_bucketsums_k03_whole_histograms.main.body.getD i (.Pass ⟨0, 0, 0, 0⟩)
def fs : List (Str × Option Str) := [("is_number", none), ("Column", some "__init__"), ("Column", some "__eq__"), ("Column", some "__len__"), ("Column", some "__getitem__"), ("Column", some "__iter__"), ("Column", some "rows"), ("check_column", none), ("lowest", none), ("are_cuts", none), ("check_cuts", none), ("buckets_of", none), ("Histogram", some "__init__"), ("Histogram", some "__eq__"), ("Histogram", some "__len__"), ("Histogram", some "all_three"), ("Histogram", some "buckets"), ("check_histogram", none), ("histogram", none), ("caps_of", none), ("fills_of", none), ("estimate", none), ("coarser", none), ("_law_number", none), ("_law_take", none), ("_law_counts", none), ("_law_cuts", none), ("_law_buckets", none), ("_law_fraction", none), ("_law_estimates_right", none), ("law", none)]
def cs : List Str := ["Column", "Histogram"]
def nms : List Str := ["counts", "width", "cuts", "totals", "all_three", "buckets", "append", "rows", "__init__", "__eq__", "__len__", "__getitem__", "__iter__"]
abbrev GG : PySem.W.Frag → Gam := gam fs cs nms
def fb : List Ck := [cCls GG [0, 1],
  cFree "isinstance",
  cFree "int",
  cKit GG [(.non, false), (.bl, true), (.int, true), (.str, false), (.tup, false), (.lst, false), (.dct, false), (.own 0, false), (.own 1, false)] (fun K => (.type "int")),
  cFree "bool",
  cKit GG [(.non, false), (.bl, true), (.int, false), (.str, false), (.tup, false), (.lst, false), (.dct, false), (.own 0, false), (.own 1, false)] (fun K => (.type "bool")),
  cFree "list",
  cFree "tuple",
  cKitT GG [(.non, false), (.bl, false), (.int, false), (.str, false), (.tup, true), (.lst, true), (.dct, false), (.own 0, false), (.own 1, false)] (fun K => [(.type "list"), (.type "tuple")]),
  cSpc GG [(0, 3), (1, 14)] "__len__",
  cFree "len",
  cInt "MOST_VALUES" (12),
  cGlo "is_number",
  cKeep GG 0,
  cInt "MOST_COUNT" (9),
  cFree "all",
  cFld GG 0 [0],
  cGlo "Column",
  cKit GG [(.non, false), (.bl, false), (.int, false), (.str, false), (.tup, false), (.lst, false), (.dct, false), (.own 0, true), (.own 1, false)] (fun K => (.ref ((GG K).ca 0))),
  cSpc GG [(0, 2), (1, 13)] "__eq__",
  cNe GG [(0, 2), (1, 13)],
  cNf GG [(0, 2), (1, 13)] [.non, .bl, .int, .str, .tup, .lst, .dct, .own 0, .own 1],
  cSpc GG [(0, 4)] "__getitem__",
  cFree "sum",
  cFree "abs",
  cKit GG [(.non, false), (.bl, false), (.int, false), (.str, false), (.tup, true), (.lst, false), (.dct, false), (.own 0, false), (.own 1, false)] (fun K => (.type "tuple")),
  cFree "zip",
  cGlo "are_cuts",
  cKeep GG 9,
  cGlo "buckets_of",
  cKeep GG 11,
  cFld GG 1 [1],
  cFld GG 2 [1],
  cFld GG 3 [1],
  cGlo "Histogram",
  cKit GG [(.non, false), (.bl, false), (.int, false), (.str, false), (.tup, false), (.lst, false), (.dct, false), (.own 0, false), (.own 1, true)] (fun K => (.ref ((GG K).ca 1))),
  cMet GG 4 [(1, 15)],
  cGlo "check_column",
  cKeep GG 7,
  cGlo "check_cuts",
  cKeep GG 10,
  cMk GG 1 12,
  cFree "max",
  cGlo "check_histogram",
  cKeep GG 17,
  cMet GG 5 [(1, 16)],
  cFree "min",
  cGlo "lowest",
  cKeep GG 8,
  cGlo "_law_number",
  cKeep GG 23,
  cGlo "_law_take",
  cKeep GG 24,
  cFree "range",
  cGlo "estimate",
  cKeep GG 21,
  cGlo "_law_fraction",
  cKeep GG 28,
  cGlo "coarser",
  cKeep GG 22,
  cGlo "histogram",
  cKeep GG 18,
  cMet GG 7 [(0, 6)],
  cGlo "_law_counts",
  cKeep GG 25,
  cMk GG 0 1,
  cGlo "_law_cuts",
  cKeep GG 26,
  cGlo "_law_buckets",
  cKeep GG 27,
  cGlo "caps_of",
  cKeep GG 19,
  cGlo "fills_of",
  cKeep GG 20,
  cGlo "_law_estimates_right",
  cKeep GG 29,
  cGlo "law",
  cKeep GG 30]
def d0 : DefD := ⟨("is_number", none), "is_number", "is_number", defArgs (top 12), defBody (top 12), defScope (top 12), [], []⟩
def d1 : DefD := ⟨("Column", some "__init__"), "__init__", "Column.__init__", defArgs (inClass (top 13) 0), defBody (inClass (top 13) 0), defScope (inClass (top 13) 0), [], []⟩
def d2 : DefD := ⟨("Column", some "__eq__"), "__eq__", "Column.__eq__", defArgs (inClass (top 13) 1), defBody (inClass (top 13) 1), defScope (inClass (top 13) 1), [], []⟩
def d3 : DefD := ⟨("Column", some "__len__"), "__len__", "Column.__len__", defArgs (inClass (top 13) 2), defBody (inClass (top 13) 2), defScope (inClass (top 13) 2), [], []⟩
def d4 : DefD := ⟨("Column", some "__getitem__"), "__getitem__", "Column.__getitem__", defArgs (inClass (top 13) 3), defBody (inClass (top 13) 3), defScope (inClass (top 13) 3), [], []⟩
def d5 : DefD := ⟨("Column", some "__iter__"), "__iter__", "Column.__iter__", defArgs (inClass (top 13) 4), defBody (inClass (top 13) 4), defScope (inClass (top 13) 4), [], []⟩
def d6 : DefD := ⟨("Column", some "rows"), "rows", "Column.rows", defArgs (inClass (top 13) 5), defBody (inClass (top 13) 5), defScope (inClass (top 13) 5), [], []⟩
def d7 : DefD := ⟨("check_column", none), "check_column", "check_column", defArgs (top 14), defBody (top 14), defScope (top 14), [], []⟩
def d8 : DefD := ⟨("lowest", none), "lowest", "lowest", defArgs (top 15), defBody (top 15), defScope (top 15), [], []⟩
def d9 : DefD := ⟨("are_cuts", none), "are_cuts", "are_cuts", defArgs (top 17), defBody (top 17), defScope (top 17), [], []⟩
def d10 : DefD := ⟨("check_cuts", none), "check_cuts", "check_cuts", defArgs (top 18), defBody (top 18), defScope (top 18), [], []⟩
def d11 : DefD := ⟨("buckets_of", none), "buckets_of", "buckets_of", defArgs (top 19), defBody (top 19), defScope (top 19), [], []⟩
def d12 : DefD := ⟨("Histogram", some "__init__"), "__init__", "Histogram.__init__", defArgs (inClass (top 20) 0), defBody (inClass (top 20) 0), defScope (inClass (top 20) 0), [], []⟩
def d13 : DefD := ⟨("Histogram", some "__eq__"), "__eq__", "Histogram.__eq__", defArgs (inClass (top 20) 1), defBody (inClass (top 20) 1), defScope (inClass (top 20) 1), [], []⟩
def d14 : DefD := ⟨("Histogram", some "__len__"), "__len__", "Histogram.__len__", defArgs (inClass (top 20) 2), defBody (inClass (top 20) 2), defScope (inClass (top 20) 2), [], []⟩
def d15 : DefD := ⟨("Histogram", some "all_three"), "all_three", "Histogram.all_three", defArgs (inClass (top 20) 3), defBody (inClass (top 20) 3), defScope (inClass (top 20) 3), [], []⟩
def d16 : DefD := ⟨("Histogram", some "buckets"), "buckets", "Histogram.buckets", defArgs (inClass (top 20) 4), defBody (inClass (top 20) 4), defScope (inClass (top 20) 4), [], []⟩
def d17 : DefD := ⟨("check_histogram", none), "check_histogram", "check_histogram", defArgs (top 21), defBody (top 21), defScope (top 21), [], []⟩
def d18 : DefD := ⟨("histogram", none), "histogram", "histogram", defArgs (top 22), defBody (top 22), defScope (top 22), [], []⟩
def d19 : DefD := ⟨("caps_of", none), "caps_of", "caps_of", defArgs (top 23), defBody (top 23), defScope (top 23), [], []⟩
def d20 : DefD := ⟨("fills_of", none), "fills_of", "fills_of", defArgs (top 24), defBody (top 24), defScope (top 24), [], []⟩
def d21 : DefD := ⟨("estimate", none), "estimate", "estimate", defArgs (top 25), defBody (top 25), defScope (top 25), [], []⟩
def d22 : DefD := ⟨("coarser", none), "coarser", "coarser", defArgs (top 26), defBody (top 26), defScope (top 26), [], []⟩
def d23 : DefD := ⟨("_law_number", none), "_law_number", "_law_number", defArgs (top 28), defBody (top 28), defScope (top 28), [], []⟩
def d24 : DefD := ⟨("_law_take", none), "_law_take", "_law_take", defArgs (top 29), defBody (top 29), defScope (top 29), [], []⟩
def d25 : DefD := ⟨("_law_counts", none), "_law_counts", "_law_counts", defArgs (top 30), defBody (top 30), defScope (top 30), [], []⟩
def d26 : DefD := ⟨("_law_cuts", none), "_law_cuts", "_law_cuts", defArgs (top 31), defBody (top 31), defScope (top 31), [], []⟩
def d27 : DefD := ⟨("_law_buckets", none), "_law_buckets", "_law_buckets", defArgs (top 32), defBody (top 32), defScope (top 32), [], []⟩
def d28 : DefD := ⟨("_law_fraction", none), "_law_fraction", "_law_fraction", defArgs (top 33), defBody (top 33), defScope (top 33), [], []⟩
def d29 : DefD := ⟨("_law_estimates_right", none), "_law_estimates_right", "_law_estimates_right", defArgs (top 34), defBody (top 34), defScope (top 34), [], []⟩
def d30 : DefD := ⟨("law", none), "law", "law", defArgs (top 35), defBody (top 35), defScope (top 35), [], []⟩
def fn : List DefD := [d0, d1, d2, d3, d4, d5, d6, d7, d8, d9, d10, d11, d12, d13, d14, d15, d16, d17, d18, d19, d20, d21, d22, d23, d24, d25, d26, d27, d28, d29, d30]
structure Ctx (K : PySem.W.Frag) (base : Heap) (mg : Str → Option Value) : Prop where
  inn : K.In base
  ns : base.Ns mainGlobals mg
  says : SaysP fb fn K
theorem inj {K : PySem.W.Frag} (i : Nat) (hi : i < nms.length) : Inj (GG K) i := inj_nm i hi (by decide +kernel) (by decide +kernel)
section
variable {P : Program} {w : World} {K : PySem.W.Frag} {mg : Str → Option Value} {base : Heap}
theorem m_clsall (C : Ctx K base mg) : cCls GG [0, 1] K = true := C.says.fact 0 rfl
theorem m_b_isinstance (C : Ctx K base mg) : mg "isinstance" = none := cFree_ok C.inn C.ns (C.says.fact 1 rfl)
theorem m_b_int (C : Ctx K base mg) : mg "int" = none := cFree_ok C.inn C.ns (C.says.fact 2 rfl)
theorem m_kit_intty (C : Ctx K base mg) : ∀ t b, (t, b) ∈ ([(.non, false), (.bl, true), (.int, true), (.str, false), (.tup, false), (.lst, false), (.dct, false), (.own 0, false), (.own 1, false)] : List (TyN × Bool)) → PySem.W.kitOne (GG K).K (t.val (GG K)) (.type "int") = some b ∧ ∀ c, t = .own c → ClsI (GG K) c := cKit_ok (G := GG) (cu := fun K => (.type "int")) rfl (C.says.fact 3 rfl) (m_clsall C) (by decide)
theorem m_b_bool (C : Ctx K base mg) : mg "bool" = none := cFree_ok C.inn C.ns (C.says.fact 4 rfl)
theorem m_kit_boolty (C : Ctx K base mg) : ∀ t b, (t, b) ∈ ([(.non, false), (.bl, true), (.int, false), (.str, false), (.tup, false), (.lst, false), (.dct, false), (.own 0, false), (.own 1, false)] : List (TyN × Bool)) → PySem.W.kitOne (GG K).K (t.val (GG K)) (.type "bool") = some b ∧ ∀ c, t = .own c → ClsI (GG K) c := cKit_ok (G := GG) (cu := fun K => (.type "bool")) rfl (C.says.fact 5 rfl) (m_clsall C) (by decide)
theorem m_b_list (C : Ctx K base mg) : mg "list" = none := cFree_ok C.inn C.ns (C.says.fact 6 rfl)
theorem m_b_tuple (C : Ctx K base mg) : mg "tuple" = none := cFree_ok C.inn C.ns (C.says.fact 7 rfl)
theorem m_kitT_list_tuple (C : Ctx K base mg) : ∀ t b, (t, b) ∈ ([(.non, false), (.bl, false), (.int, false), (.str, false), (.tup, true), (.lst, true), (.dct, false), (.own 0, false), (.own 1, false)] : List (TyN × Bool)) → PySem.W.kitAny (GG K).K (t.val (GG K)) [(.type "list"), (.type "tuple")] = some b ∧ ∀ c, t = .own c → ClsI (GG K) c := cKitT_ok (G := GG) (cus := fun K => [(.type "list"), (.type "tuple")]) rfl (C.says.fact 8 rfl) (m_clsall C) (by decide)
theorem m_spc___len__ (C : Ctx K base mg) : ∀ p ∈ ([(0, 3), (1, 14)] : List (Nat × Nat)), Spc (GG K).K ((GG K).ca p.1) ((GG K).fa p.2) "__len__" ∧ PySem.W.fnIn (GG K).K ((GG K).fa p.2) = true := cSpc_ok rfl (C.says.fact 9 rfl)
theorem m_b_len (C : Ctx K base mg) : mg "len" = none := cFree_ok C.inn C.ns (C.says.fact 10 rfl)
theorem m_i_MOST_VALUES (C : Ctx K base mg) : ∃ u, mg "MOST_VALUES" = some u ∧ RelV (.int (12)) u := cInt_ok C.inn C.ns (C.says.fact 11 rfl)
theorem m_f_is_number (C : Ctx K base mg) : mg "is_number" = some (.ref ((GG K).fa 0)) := cGlo_ok C.inn C.ns (C.says.fact 12 rfl)
theorem m_k_is_number (C : Ctx K base mg) : PySem.W.keepIn K (.ref ((GG K).fa 0)) = true := C.says.fact 13 rfl
theorem m_i_MOST_COUNT (C : Ctx K base mg) : ∃ u, mg "MOST_COUNT" = some u ∧ RelV (.int (9)) u := cInt_ok C.inn C.ns (C.says.fact 14 rfl)
theorem m_b_all (C : Ctx K base mg) : mg "all" = none := cFree_ok C.inn C.ns (C.says.fact 15 rfl)
theorem m_fld_counts (C : Ctx K base mg) : ∀ c ∈ ([0] : List Nat), Cls (GG K).K ((GG K).ca c) ∧ NoAttr (GG K).K ((GG K).ca c) ((GG K).nm 0) := cFld_ok rfl (C.says.fact 16 rfl)
theorem m_c_Column (C : Ctx K base mg) : mg "Column" = some (.ref ((GG K).ca 0)) := cGlo_ok C.inn C.ns (C.says.fact 17 rfl)
theorem m_kit_0own (C : Ctx K base mg) : ∀ t b, (t, b) ∈ ([(.non, false), (.bl, false), (.int, false), (.str, false), (.tup, false), (.lst, false), (.dct, false), (.own 0, true), (.own 1, false)] : List (TyN × Bool)) → PySem.W.kitOne (GG K).K (t.val (GG K)) (.ref ((GG K).ca 0)) = some b ∧ ∀ c, t = .own c → ClsI (GG K) c := cKit_ok (G := GG) (cu := fun K => (.ref ((GG K).ca 0))) rfl (C.says.fact 18 rfl) (m_clsall C) (by decide)
theorem m_eq_spc (C : Ctx K base mg) : cSpc GG [(0, 2), (1, 13)] "__eq__" K = true := C.says.fact 19 rfl
theorem m_eq_ne (C : Ctx K base mg) : cNe GG [(0, 2), (1, 13)] K = true := C.says.fact 20 rfl
theorem m_eq_nf (C : Ctx K base mg) : cNf GG [(0, 2), (1, 13)] [.non, .bl, .int, .str, .tup, .lst, .dct, .own 0, .own 1] K = true := C.says.fact 21 rfl
theorem m_spc___getitem__ (C : Ctx K base mg) : ∀ p ∈ ([(0, 4)] : List (Nat × Nat)), Spc (GG K).K ((GG K).ca p.1) ((GG K).fa p.2) "__getitem__" ∧ PySem.W.fnIn (GG K).K ((GG K).fa p.2) = true := cSpc_ok rfl (C.says.fact 22 rfl)
theorem m_b_sum (C : Ctx K base mg) : mg "sum" = none := cFree_ok C.inn C.ns (C.says.fact 23 rfl)
theorem m_b_abs (C : Ctx K base mg) : mg "abs" = none := cFree_ok C.inn C.ns (C.says.fact 24 rfl)
theorem m_kit_tuplety (C : Ctx K base mg) : ∀ t b, (t, b) ∈ ([(.non, false), (.bl, false), (.int, false), (.str, false), (.tup, true), (.lst, false), (.dct, false), (.own 0, false), (.own 1, false)] : List (TyN × Bool)) → PySem.W.kitOne (GG K).K (t.val (GG K)) (.type "tuple") = some b ∧ ∀ c, t = .own c → ClsI (GG K) c := cKit_ok (G := GG) (cu := fun K => (.type "tuple")) rfl (C.says.fact 25 rfl) (m_clsall C) (by decide)
theorem m_b_zip (C : Ctx K base mg) : mg "zip" = none := cFree_ok C.inn C.ns (C.says.fact 26 rfl)
theorem m_f_are_cuts (C : Ctx K base mg) : mg "are_cuts" = some (.ref ((GG K).fa 9)) := cGlo_ok C.inn C.ns (C.says.fact 27 rfl)
theorem m_k_are_cuts (C : Ctx K base mg) : PySem.W.keepIn K (.ref ((GG K).fa 9)) = true := C.says.fact 28 rfl
theorem m_f_buckets_of (C : Ctx K base mg) : mg "buckets_of" = some (.ref ((GG K).fa 11)) := cGlo_ok C.inn C.ns (C.says.fact 29 rfl)
theorem m_k_buckets_of (C : Ctx K base mg) : PySem.W.keepIn K (.ref ((GG K).fa 11)) = true := C.says.fact 30 rfl
theorem m_fld_width (C : Ctx K base mg) : ∀ c ∈ ([1] : List Nat), Cls (GG K).K ((GG K).ca c) ∧ NoAttr (GG K).K ((GG K).ca c) ((GG K).nm 1) := cFld_ok rfl (C.says.fact 31 rfl)
theorem m_fld_cuts (C : Ctx K base mg) : ∀ c ∈ ([1] : List Nat), Cls (GG K).K ((GG K).ca c) ∧ NoAttr (GG K).K ((GG K).ca c) ((GG K).nm 2) := cFld_ok rfl (C.says.fact 32 rfl)
theorem m_fld_totals (C : Ctx K base mg) : ∀ c ∈ ([1] : List Nat), Cls (GG K).K ((GG K).ca c) ∧ NoAttr (GG K).K ((GG K).ca c) ((GG K).nm 3) := cFld_ok rfl (C.says.fact 33 rfl)
theorem m_c_Histogram (C : Ctx K base mg) : mg "Histogram" = some (.ref ((GG K).ca 1)) := cGlo_ok C.inn C.ns (C.says.fact 34 rfl)
theorem m_kit_1own (C : Ctx K base mg) : ∀ t b, (t, b) ∈ ([(.non, false), (.bl, false), (.int, false), (.str, false), (.tup, false), (.lst, false), (.dct, false), (.own 0, false), (.own 1, true)] : List (TyN × Bool)) → PySem.W.kitOne (GG K).K (t.val (GG K)) (.ref ((GG K).ca 1)) = some b ∧ ∀ c, t = .own c → ClsI (GG K) c := cKit_ok (G := GG) (cu := fun K => (.ref ((GG K).ca 1))) rfl (C.says.fact 35 rfl) (m_clsall C) (by decide)
theorem m_met_all_three (C : Ctx K base mg) : ∀ p ∈ ([(1, 15)] : List (Nat × Nat)), Cls (GG K).K ((GG K).ca p.1) ∧ Meth (GG K).K ((GG K).ca p.1) ((GG K).nm 4) ((GG K).fa p.2) := cMet_ok rfl (C.says.fact 36 rfl)
theorem m_f_check_column (C : Ctx K base mg) : mg "check_column" = some (.ref ((GG K).fa 7)) := cGlo_ok C.inn C.ns (C.says.fact 37 rfl)
theorem m_k_check_column (C : Ctx K base mg) : PySem.W.keepIn K (.ref ((GG K).fa 7)) = true := C.says.fact 38 rfl
theorem m_f_check_cuts (C : Ctx K base mg) : mg "check_cuts" = some (.ref ((GG K).fa 10)) := cGlo_ok C.inn C.ns (C.says.fact 39 rfl)
theorem m_k_check_cuts (C : Ctx K base mg) : PySem.W.keepIn K (.ref ((GG K).fa 10)) = true := C.says.fact 40 rfl
theorem m_mk_Histogram (C : Ctx K base mg) : Mk (GG K).K ((GG K).ca 1) ((GG K).fa 12) := cMk_ok rfl (C.says.fact 41 rfl)
theorem m_b_max (C : Ctx K base mg) : mg "max" = none := cFree_ok C.inn C.ns (C.says.fact 42 rfl)
theorem m_f_check_histogram (C : Ctx K base mg) : mg "check_histogram" = some (.ref ((GG K).fa 17)) := cGlo_ok C.inn C.ns (C.says.fact 43 rfl)
theorem m_k_check_histogram (C : Ctx K base mg) : PySem.W.keepIn K (.ref ((GG K).fa 17)) = true := C.says.fact 44 rfl
theorem m_met_buckets (C : Ctx K base mg) : ∀ p ∈ ([(1, 16)] : List (Nat × Nat)), Cls (GG K).K ((GG K).ca p.1) ∧ Meth (GG K).K ((GG K).ca p.1) ((GG K).nm 5) ((GG K).fa p.2) := cMet_ok rfl (C.says.fact 45 rfl)
theorem m_b_min (C : Ctx K base mg) : mg "min" = none := cFree_ok C.inn C.ns (C.says.fact 46 rfl)
theorem m_f_lowest (C : Ctx K base mg) : mg "lowest" = some (.ref ((GG K).fa 8)) := cGlo_ok C.inn C.ns (C.says.fact 47 rfl)
theorem m_k_lowest (C : Ctx K base mg) : PySem.W.keepIn K (.ref ((GG K).fa 8)) = true := C.says.fact 48 rfl
theorem m_f__law_number (C : Ctx K base mg) : mg "_law_number" = some (.ref ((GG K).fa 23)) := cGlo_ok C.inn C.ns (C.says.fact 49 rfl)
theorem m_k__law_number (C : Ctx K base mg) : PySem.W.keepIn K (.ref ((GG K).fa 23)) = true := C.says.fact 50 rfl
theorem m_f__law_take (C : Ctx K base mg) : mg "_law_take" = some (.ref ((GG K).fa 24)) := cGlo_ok C.inn C.ns (C.says.fact 51 rfl)
theorem m_k__law_take (C : Ctx K base mg) : PySem.W.keepIn K (.ref ((GG K).fa 24)) = true := C.says.fact 52 rfl
theorem m_b_range (C : Ctx K base mg) : mg "range" = none := cFree_ok C.inn C.ns (C.says.fact 53 rfl)
theorem m_f_estimate (C : Ctx K base mg) : mg "estimate" = some (.ref ((GG K).fa 21)) := cGlo_ok C.inn C.ns (C.says.fact 54 rfl)
theorem m_k_estimate (C : Ctx K base mg) : PySem.W.keepIn K (.ref ((GG K).fa 21)) = true := C.says.fact 55 rfl
theorem m_f__law_fraction (C : Ctx K base mg) : mg "_law_fraction" = some (.ref ((GG K).fa 28)) := cGlo_ok C.inn C.ns (C.says.fact 56 rfl)
theorem m_k__law_fraction (C : Ctx K base mg) : PySem.W.keepIn K (.ref ((GG K).fa 28)) = true := C.says.fact 57 rfl
theorem m_f_coarser (C : Ctx K base mg) : mg "coarser" = some (.ref ((GG K).fa 22)) := cGlo_ok C.inn C.ns (C.says.fact 58 rfl)
theorem m_k_coarser (C : Ctx K base mg) : PySem.W.keepIn K (.ref ((GG K).fa 22)) = true := C.says.fact 59 rfl
theorem m_f_histogram (C : Ctx K base mg) : mg "histogram" = some (.ref ((GG K).fa 18)) := cGlo_ok C.inn C.ns (C.says.fact 60 rfl)
theorem m_k_histogram (C : Ctx K base mg) : PySem.W.keepIn K (.ref ((GG K).fa 18)) = true := C.says.fact 61 rfl
theorem m_met_rows (C : Ctx K base mg) : ∀ p ∈ ([(0, 6)] : List (Nat × Nat)), Cls (GG K).K ((GG K).ca p.1) ∧ Meth (GG K).K ((GG K).ca p.1) ((GG K).nm 7) ((GG K).fa p.2) := cMet_ok rfl (C.says.fact 62 rfl)
theorem m_f__law_counts (C : Ctx K base mg) : mg "_law_counts" = some (.ref ((GG K).fa 25)) := cGlo_ok C.inn C.ns (C.says.fact 63 rfl)
theorem m_k__law_counts (C : Ctx K base mg) : PySem.W.keepIn K (.ref ((GG K).fa 25)) = true := C.says.fact 64 rfl
theorem m_mk_Column (C : Ctx K base mg) : Mk (GG K).K ((GG K).ca 0) ((GG K).fa 1) := cMk_ok rfl (C.says.fact 65 rfl)
theorem m_f__law_cuts (C : Ctx K base mg) : mg "_law_cuts" = some (.ref ((GG K).fa 26)) := cGlo_ok C.inn C.ns (C.says.fact 66 rfl)
theorem m_k__law_cuts (C : Ctx K base mg) : PySem.W.keepIn K (.ref ((GG K).fa 26)) = true := C.says.fact 67 rfl
theorem m_f__law_buckets (C : Ctx K base mg) : mg "_law_buckets" = some (.ref ((GG K).fa 27)) := cGlo_ok C.inn C.ns (C.says.fact 68 rfl)
theorem m_k__law_buckets (C : Ctx K base mg) : PySem.W.keepIn K (.ref ((GG K).fa 27)) = true := C.says.fact 69 rfl
theorem m_f_caps_of (C : Ctx K base mg) : mg "caps_of" = some (.ref ((GG K).fa 19)) := cGlo_ok C.inn C.ns (C.says.fact 70 rfl)
theorem m_k_caps_of (C : Ctx K base mg) : PySem.W.keepIn K (.ref ((GG K).fa 19)) = true := C.says.fact 71 rfl
theorem m_f_fills_of (C : Ctx K base mg) : mg "fills_of" = some (.ref ((GG K).fa 20)) := cGlo_ok C.inn C.ns (C.says.fact 72 rfl)
theorem m_k_fills_of (C : Ctx K base mg) : PySem.W.keepIn K (.ref ((GG K).fa 20)) = true := C.says.fact 73 rfl
theorem m_f__law_estimates_right (C : Ctx K base mg) : mg "_law_estimates_right" = some (.ref ((GG K).fa 29)) := cGlo_ok C.inn C.ns (C.says.fact 74 rfl)
theorem m_k__law_estimates_right (C : Ctx K base mg) : PySem.W.keepIn K (.ref ((GG K).fa 29)) = true := C.says.fact 75 rfl
theorem m_f_law (C : Ctx K base mg) : mg "law" = some (.ref ((GG K).fa 30)) := cGlo_ok C.inn C.ns (C.says.fact 76 rfl)
theorem m_k_law (C : Ctx K base mg) : PySem.W.keepIn K (.ref ((GG K).fa 30)) = true := C.says.fact 77 rfl
theorem m_eqt (C : Ctx K base mg) : EqT (GG K) [(0, 2), (1, 13)] [.non, .bl, .int, .str, .tup, .lst, .dct, .own 0, .own 1] := cEq_ok rfl (m_eq_spc C) (m_eq_ne C) (m_eq_nf C) (m_clsall C) (by decide)
abbrev N0 : List Str := ["thing", "least", "most"]
theorem sc0 : FnScope N0 ["thing", "least", "most"] (defScope (top 12)) := ⟨rfl, rfl, rfl, by decide +kernel, rfl, by decide +kernel, by decide +kernel⟩
theorem dv0 {n : Nat} {cf : CF} (C : Ctx K base mg) (ih : ∀ f np, FnR P w K mg base L2.CX0 (2 * n) ((GG K).fa f) (spF (GG K) cf f np)) (cdv : Value) (A : Around) (outer : List PySem.Env) (s : Shared) (H : Hp) (E : XK) (n0 : Nat) (hr : Room (2 * n + 1) (A.deeper (envOfC "is_number" (defScope (top 12)) s.heap.objs.size ((GG K).fa 0) cdv))) :
    PSs (cxOf L2.CX0 P w K mg base N0 "is_number" (defScope (top 12)) ((GG K).fa 0) cdv A outer s H E).nox (defBody (top 12)) (rdS (GG K) n0 (sRet (eAn (eIsi [(.non, false), (.bl, true), (.int, true), (.str, false), (.tup, false), (.lst, false), (.dct, false), (.own 0, false), (.own 1, false)] (eVar 0)) (eAn (eNot (eIsi [(.non, false), (.bl, true), (.int, false), (.str, false), (.tup, false), (.lst, false), (.dct, false), (.own 0, false), (.own 1, false)] (eVar 0))) (eCh oLe oLe (eVar 1) (eVar 0) (eVar 2)))))) := by
  have T : Tb (cxOf L2.CX0 P w K mg base N0 "is_number" (defScope (top 12)) ((GG K).fa 0) cdv A outer s H E).nox (GG K) cf (2 * n) := ⟨rfl, ih, hr, rfl⟩
  have nd := sc0.nd
  exact (ss_one (ss_ret (se_and rfl (se_isi1 (cv := (.ty "int")) (cu := (.type "int")) rfl rfl (m_b_isinstance C) (by rfl) (.ty _) (m_kit_intty C) (se_var (pv 0)) (pe_bltn (v := .ty "int") (u := .type "int") rfl (m_b_int C) (by rfl) rfl (by decide))) (se_and rfl (se_not rfl (se_isi1 (cv := (.ty "bool")) (cu := (.type "bool")) rfl rfl (m_b_isinstance C) (by rfl) (.ty _) (m_kit_boolty C) (se_var (pv 0)) (pe_bltn (v := .ty "bool") (u := .type "bool") rfl (m_b_bool C) (by rfl) rfl (by decide)))) (se_one (se_ch op_le ok_le op_le ok_le (se_var (pv 1)) (se_var (pv 0)) (se_var (pv 2)) (pe_chain op_le op_le (toV (se_var (pv 1))) (toV (se_var (pv 0))) (toV (se_var (pv 2))))))))))
theorem ok0 {n : Nat} (C : Ctx K base mg) (ih : All P w K mg base (GG K) TT n) : ∀ np, FnR P w K mg base L2.CX0 (2 * (n + 1)) ((GG K).fa 0) (spF (GG K) (callF TT (n + 1)) 0 np) := by
  obtain ⟨fd, F⟩ := C.says.def_ 0 (d := d0) rfl
  exact def_ok (b := b0) rfl F sc0 rfl rfl (FunD_binds F fun _ _ _ _ _ _ us hl => match us, hl with | [_, _, _], _ => rfl) fun cdv A outer s H E n0 hr => dv0 C ih cdv A outer s H E n0 hr
abbrev N1 : List Str := ["self", "counts", "count"]
theorem sc1 : FnScope N1 ["self", "counts"] (defScope (inClass (top 13) 0)) := ⟨rfl, rfl, rfl, by decide +kernel, rfl, by decide +kernel, by decide +kernel⟩
theorem dv1 {n : Nat} {cf : CF} (C : Ctx K base mg) (ih : ∀ f np, FnR P w K mg base L2.CX0 (2 * n) ((GG K).fa f) (spF (GG K) cf f np)) (cdv : Value) (A : Around) (outer : List PySem.Env) (s : Shared) (H : Hp) (E : XK) (n0 : Nat) (hr : Room (2 * n + 1) (A.deeper (envOfC "Column.__init__" (defScope (inClass (top 13) 0)) s.heap.objs.size ((GG K).fa 1) cdv))) :
    PSs (cxOf L2.CX0 P w K mg base N1 "Column.__init__" (defScope (inClass (top 13) 0)) ((GG K).fa 1) cdv A outer s H E).nox (defBody (inClass (top 13) 0)) (rdS (GG K) n0 (sCons (sIf (tOr (tNo (tTru (eIsi [(.non, false), (.bl, false), (.int, false), (.str, false), (.tup, true), (.lst, true), (.dct, false), (.own 0, false), (.own 1, false)] (eVar 1)))) (tNo (tBl (eCh oLe oLe (eLit (.int 1)) (eLen cf [(0, 3), (1, 14)] (eVar 1)) (eLit (.int (12))))))) sNo sNil) (sCons (sIf (tNo (tTru (eArg bAll (aCons (eLc (iSeq (eVar 1)) (gNm 2) [2] tYesP (eCall cf 3 0 (aCons (eVar 2) (aCons (eLit (.int 0)) (aCons (eLit (.int (9))) aNil))))) aNil)))) sNo sNil) (sFld n0 [0] 0 (eVar 0) (eArg bTuple (aCons (eVar 1) aNil)))))) := by
  have T : Tb (cxOf L2.CX0 P w K mg base N1 "Column.__init__" (defScope (inClass (top 13) 0)) ((GG K).fa 1) cdv A outer s H E).nox (GG K) cf (2 * n) := ⟨rfl, ih, hr, rfl⟩
  have nd := sc1.nd
  exact (ss_cons (ss_if (PW.pt (sw_or (st_no (st_tru rfl (se_isiT (cvs := [(.ty "list"), (.ty "tuple")]) (cus := [(.type "list"), (.type "tuple")]) rfl rfl (m_b_isinstance C) (by rfl) (.cons (.ty _) (.cons (.ty _) .nil)) (m_kitT_list_tuple C) (se_var (pv 1)) (pa_cons (pe_bltn (v := .ty "list") (u := .type "list") rfl (m_b_list C) (by rfl) rfl (by decide)) (pa_cons (pe_bltn (v := .ty "tuple") (u := .type "tuple") rfl (m_b_tuple C) (by rfl) rfl (by decide)) pa_nil)) (fun _ _ _ h => h) (by decide)))) (sw_one (st_no (st_ch op_le ok_le op_le ok_le (se_lit pe_int fun _ _ => rfl) (se_len T rfl (m_b_len C) (fun p hp => ((m_spc___len__ C) p hp).1) (se_var (pv 1))) (se_lit (C8.pe_gc rfl (m_i_MOST_VALUES C)) fun _ _ => rfl)))))) (ss_one ss_no) ss_nil)
 (ss_cons (ss_if (st_no (st_tru rfl (se_argB (pe_callB (cr_all rfl) rfl (m_b_all C) (by rfl) (sa_cons (se_lc (own := [("count", 2)]) rfl nd (si_seq rfl (se_var (pv 1))) (blk_ok (own := [("count", 2)]) (by kernel_rfl)) (tb_nm 2 (by decide)) (fun _ _ _ _ _ => (pg_name (i := 2) nd rfl (by first | exact Or.inl rfl | exact Or.inr rfl))) (fun _ _ _ _ _ => sts_nil) (fun _ _ _ _ _ => (sx_call (T.blk _ _ _ _ _) rfl (m_f_is_number C) (m_k_is_number C) (sa_cons (se_var (pv 2)) (sa_cons (se_lit pe_int fun _ _ => rfl) (sa_cons (se_lit (C8.pe_gc rfl (m_i_MOST_COUNT C)) fun _ _ => rfl) sa_nil)))))) sa_nil)) ok_all))) (ss_one ss_no) ss_nil)
 (ss_one (ss_fld (f := 0) rfl (inj 0 (by decide)) (m_fld_counts C) (se_var (pv 0)) (se_argB (pe_callTy call_tuple_of rfl (m_b_tuple C) (by rfl) (sa_cons (se_var (pv 1)) sa_nil)) ok_tuple)))))
theorem ok1 {n : Nat} (C : Ctx K base mg) (ih : All P w K mg base (GG K) TT n) : ∀ np, FnR P w K mg base L2.CX0 (2 * (n + 1)) ((GG K).fa 1) (spF (GG K) (callF TT (n + 1)) 1 np) := by
  obtain ⟨fd, F⟩ := C.says.def_ 1 (d := d1) rfl
  exact def_ok (b := b1) rfl F sc1 rfl rfl (FunD_binds F fun _ _ _ _ _ _ us hl => match us, hl with | [_, _], _ => rfl) fun cdv A outer s H E n0 hr => dv1 C ih cdv A outer s H E n0 hr
abbrev N2 : List Str := ["self", "other"]
theorem sc2 : FnScope N2 ["self", "other"] (defScope (inClass (top 13) 1)) := ⟨rfl, rfl, rfl, by decide +kernel, rfl, by decide +kernel, by decide +kernel⟩
theorem dv2 {n : Nat} {cf : CF} (C : Ctx K base mg) (ih : ∀ f np, FnR P w K mg base L2.CX0 (2 * n) ((GG K).fa f) (spF (GG K) cf f np)) (cdv : Value) (A : Around) (outer : List PySem.Env) (s : Shared) (H : Hp) (E : XK) (n0 : Nat) (hr : Room (2 * n + 1) (A.deeper (envOfC "Column.__eq__" (defScope (inClass (top 13) 1)) s.heap.objs.size ((GG K).fa 2) cdv))) :
    PSs (cxOf L2.CX0 P w K mg base N2 "Column.__eq__" (defScope (inClass (top 13) 1)) ((GG K).fa 2) cdv A outer s H E).nox (defBody (inClass (top 13) 1)) (rdS (GG K) n0 (sRet (eAn (eIsi [(.non, false), (.bl, false), (.int, false), (.str, false), (.tup, false), (.lst, false), (.dct, false), (.own 0, true), (.own 1, false)] (eVar 1)) (eEq cf [(0, 2), (1, 13)] [.non, .bl, .int, .str, .tup, .lst, .dct, .own 0, .own 1] (eFld [0] 0 (eVar 0)) (eFld [0] 0 (eVar 1)))))) := by
  have T : Tb (cxOf L2.CX0 P w K mg base N2 "Column.__eq__" (defScope (inClass (top 13) 1)) ((GG K).fa 2) cdv A outer s H E).nox (GG K) cf (2 * n) := ⟨rfl, ih, hr, rfl⟩
  have nd := sc2.nd
  exact (ss_one (ss_ret (se_and rfl (se_isi1 (cv := (.ref ((GG K).ca 0))) (cu := (.ref ((GG K).ca 0))) rfl rfl (m_b_isinstance C) (by rfl) (.own _) (m_kit_0own C) (se_var (pv 1)) (pe_glob (v := .ref ((GG K).ca 0)) rfl (m_c_Column C) rfl)) (se_one (se_eq T (m_eqt C) (se_fld (f := 0) rfl (inj 0 (by decide)) (m_fld_counts C) (se_var (pv 0))) (se_fld (f := 0) rfl (inj 0 (by decide)) (m_fld_counts C) (se_var (pv 1))) (nomark _))))))
theorem ok2 {n : Nat} (C : Ctx K base mg) (ih : All P w K mg base (GG K) TT n) : ∀ np, FnR P w K mg base L2.CX0 (2 * (n + 1)) ((GG K).fa 2) (spF (GG K) (callF TT (n + 1)) 2 np) := by
  obtain ⟨fd, F⟩ := C.says.def_ 2 (d := d2) rfl
  exact def_ok (b := b2) rfl F sc2 rfl rfl (FunD_binds F fun _ _ _ _ _ _ us hl => match us, hl with | [_, _], _ => rfl) fun cdv A outer s H E n0 hr => dv2 C ih cdv A outer s H E n0 hr
abbrev N3 : List Str := ["self"]
theorem sc3 : FnScope N3 ["self"] (defScope (inClass (top 13) 2)) := ⟨rfl, rfl, rfl, by decide +kernel, rfl, by decide +kernel, by decide +kernel⟩
theorem dv3 {n : Nat} {cf : CF} (C : Ctx K base mg) (ih : ∀ f np, FnR P w K mg base L2.CX0 (2 * n) ((GG K).fa f) (spF (GG K) cf f np)) (cdv : Value) (A : Around) (outer : List PySem.Env) (s : Shared) (H : Hp) (E : XK) (n0 : Nat) (hr : Room (2 * n + 1) (A.deeper (envOfC "Column.__len__" (defScope (inClass (top 13) 2)) s.heap.objs.size ((GG K).fa 3) cdv))) :
    PSs (cxOf L2.CX0 P w K mg base N3 "Column.__len__" (defScope (inClass (top 13) 2)) ((GG K).fa 3) cdv A outer s H E).nox (defBody (inClass (top 13) 2)) (rdS (GG K) n0 (sRet (eLen cf [(0, 3), (1, 14)] (eFld [0] 0 (eVar 0))))) := by
  have T : Tb (cxOf L2.CX0 P w K mg base N3 "Column.__len__" (defScope (inClass (top 13) 2)) ((GG K).fa 3) cdv A outer s H E).nox (GG K) cf (2 * n) := ⟨rfl, ih, hr, rfl⟩
  have nd := sc3.nd
  exact (ss_one (ss_ret (se_len T rfl (m_b_len C) (fun p hp => ((m_spc___len__ C) p hp).1) (se_fld (f := 0) rfl (inj 0 (by decide)) (m_fld_counts C) (se_var (pv 0))))))
theorem ok3 {n : Nat} (C : Ctx K base mg) (ih : All P w K mg base (GG K) TT n) : ∀ np, FnR P w K mg base L2.CX0 (2 * (n + 1)) ((GG K).fa 3) (spF (GG K) (callF TT (n + 1)) 3 np) := by
  obtain ⟨fd, F⟩ := C.says.def_ 3 (d := d3) rfl
  exact def_ok (b := b3) rfl F sc3 rfl rfl (FunD_binds F fun _ _ _ _ _ _ us hl => match us, hl with | [_], _ => rfl) fun cdv A outer s H E n0 hr => dv3 C ih cdv A outer s H E n0 hr
abbrev N4 : List Str := ["self", "value"]
theorem sc4 : FnScope N4 ["self", "value"] (defScope (inClass (top 13) 3)) := ⟨rfl, rfl, rfl, by decide +kernel, rfl, by decide +kernel, by decide +kernel⟩
theorem dv4 {n : Nat} {cf : CF} (C : Ctx K base mg) (ih : ∀ f np, FnR P w K mg base L2.CX0 (2 * n) ((GG K).fa f) (spF (GG K) cf f np)) (cdv : Value) (A : Around) (outer : List PySem.Env) (s : Shared) (H : Hp) (E : XK) (n0 : Nat) (hr : Room (2 * n + 1) (A.deeper (envOfC "Column.__getitem__" (defScope (inClass (top 13) 3)) s.heap.objs.size ((GG K).fa 4) cdv))) :
    PSs (cxOf L2.CX0 P w K mg base N4 "Column.__getitem__" (defScope (inClass (top 13) 3)) ((GG K).fa 4) cdv A outer s H E).nox (defBody (inClass (top 13) 3)) (rdS (GG K) n0 (sCons (sIf (tNo (tTru (eCall cf 3 0 (aCons (eVar 1) (aCons (eLit (.int 0)) (aCons (eBin oSub (eLen cf [(0, 3), (1, 14)] (eFld [0] 0 (eVar 0))) (eLit (.int 1))) aNil)))))) sNo sNil) (sRet (eIx cf [(0, 4)] (eFld [0] 0 (eVar 0)) (eVar 1))))) := by
  have T : Tb (cxOf L2.CX0 P w K mg base N4 "Column.__getitem__" (defScope (inClass (top 13) 3)) ((GG K).fa 4) cdv A outer s H E).nox (GG K) cf (2 * n) := ⟨rfl, ih, hr, rfl⟩
  have nd := sc4.nd
  exact (ss_cons (ss_if (st_no (st_tru rfl (sx_call T rfl (m_f_is_number C) (m_k_is_number C) (sa_cons (se_var (pv 1)) (sa_cons (se_lit pe_int fun _ _ => rfl) (sa_cons (se_bin op_sub ok_sub (se_len T rfl (m_b_len C) (fun p hp => ((m_spc___len__ C) p hp).1) (se_fld (f := 0) rfl (inj 0 (by decide)) (m_fld_counts C) (se_var (pv 0)))) (se_lit pe_int fun _ _ => rfl)) sa_nil)))))) (ss_one ss_no) ss_nil)
 (ss_one (ss_ret (se_ixG T (m_spc___getitem__ C) (se_fld (f := 0) rfl (inj 0 (by decide)) (m_fld_counts C) (se_var (pv 0))) (se_var (pv 1)) (fun _ _ => rfl) (fun _ _ => by with_unfolding_all rfl)))))
theorem ok4 {n : Nat} (C : Ctx K base mg) (ih : All P w K mg base (GG K) TT n) : ∀ np, FnR P w K mg base L2.CX0 (2 * (n + 1)) ((GG K).fa 4) (spF (GG K) (callF TT (n + 1)) 4 np) := by
  obtain ⟨fd, F⟩ := C.says.def_ 4 (d := d4) rfl
  exact def_ok (b := b4) rfl F sc4 rfl rfl (FunD_binds F fun _ _ _ _ _ _ us hl => match us, hl with | [_, _], _ => rfl) fun cdv A outer s H E n0 hr => dv4 C ih cdv A outer s H E n0 hr
abbrev N5 : List Str := ["self"]
theorem sc5 : FnScope N5 ["self"] (defScope (inClass (top 13) 4)) := ⟨rfl, rfl, rfl, by decide +kernel, rfl, by decide +kernel, by decide +kernel⟩
theorem dv5 {n : Nat} {cf : CF} (C : Ctx K base mg) (ih : ∀ f np, FnR P w K mg base L2.CX0 (2 * n) ((GG K).fa f) (spF (GG K) cf f np)) (cdv : Value) (A : Around) (outer : List PySem.Env) (s : Shared) (H : Hp) (E : XK) (n0 : Nat) (hr : Room (2 * n + 1) (A.deeper (envOfC "Column.__iter__" (defScope (inClass (top 13) 4)) s.heap.objs.size ((GG K).fa 5) cdv))) :
    PSs (cxOf L2.CX0 P w K mg base N5 "Column.__iter__" (defScope (inClass (top 13) 4)) ((GG K).fa 5) cdv A outer s H E).nox (defBody (inClass (top 13) 4)) (rdS (GG K) n0 sNo) := by
  have T : Tb (cxOf L2.CX0 P w K mg base N5 "Column.__iter__" (defScope (inClass (top 13) 4)) ((GG K).fa 5) cdv A outer s H E).nox (GG K) cf (2 * n) := ⟨rfl, ih, hr, rfl⟩
  have nd := sc5.nd
  exact (ss_one ss_no)
theorem ok5 {n : Nat} (C : Ctx K base mg) (ih : All P w K mg base (GG K) TT n) : ∀ np, FnR P w K mg base L2.CX0 (2 * (n + 1)) ((GG K).fa 5) (spF (GG K) (callF TT (n + 1)) 5 np) := by
  obtain ⟨fd, F⟩ := C.says.def_ 5 (d := d5) rfl
  exact def_ok (b := b5) rfl F sc5 rfl rfl (FunD_binds F fun _ _ _ _ _ _ us hl => match us, hl with | [_], _ => rfl) fun cdv A outer s H E n0 hr => dv5 C ih cdv A outer s H E n0 hr
abbrev N6 : List Str := ["self"]
theorem sc6 : FnScope N6 ["self"] (defScope (inClass (top 13) 5)) := ⟨rfl, rfl, rfl, by decide +kernel, rfl, by decide +kernel, by decide +kernel⟩
theorem dv6 {n : Nat} {cf : CF} (C : Ctx K base mg) (ih : ∀ f np, FnR P w K mg base L2.CX0 (2 * n) ((GG K).fa f) (spF (GG K) cf f np)) (cdv : Value) (A : Around) (outer : List PySem.Env) (s : Shared) (H : Hp) (E : XK) (n0 : Nat) (hr : Room (2 * n + 1) (A.deeper (envOfC "Column.rows" (defScope (inClass (top 13) 5)) s.heap.objs.size ((GG K).fa 6) cdv))) :
    PSs (cxOf L2.CX0 P w K mg base N6 "Column.rows" (defScope (inClass (top 13) 5)) ((GG K).fa 6) cdv A outer s H E).nox (defBody (inClass (top 13) 5)) (rdS (GG K) n0 (sRet (eArg bSum (aCons (eFld [0] 0 (eVar 0)) aNil)))) := by
  have T : Tb (cxOf L2.CX0 P w K mg base N6 "Column.rows" (defScope (inClass (top 13) 5)) ((GG K).fa 6) cdv A outer s H E).nox (GG K) cf (2 * n) := ⟨rfl, ih, hr, rfl⟩
  have nd := sc6.nd
  exact (ss_one (ss_ret (se_argB (pe_callB (cr_sumA rfl) rfl (m_b_sum C) (by rfl) (sa_cons (se_fld (f := 0) rfl (inj 0 (by decide)) (m_fld_counts C) (se_var (pv 0))) sa_nil)) ok_sum)))
theorem ok6 {n : Nat} (C : Ctx K base mg) (ih : All P w K mg base (GG K) TT n) : ∀ np, FnR P w K mg base L2.CX0 (2 * (n + 1)) ((GG K).fa 6) (spF (GG K) (callF TT (n + 1)) 6 np) := by
  obtain ⟨fd, F⟩ := C.says.def_ 6 (d := d6) rfl
  exact def_ok (b := b6) rfl F sc6 rfl rfl (FunD_binds F fun _ _ _ _ _ _ us hl => match us, hl with | [_], _ => rfl) fun cdv A outer s H E n0 hr => dv6 C ih cdv A outer s H E n0 hr
abbrev N7 : List Str := ["column"]
theorem sc7 : FnScope N7 ["column"] (defScope (top 14)) := ⟨rfl, rfl, rfl, by decide +kernel, rfl, by decide +kernel, by decide +kernel⟩
theorem dv7 {n : Nat} {cf : CF} (C : Ctx K base mg) (ih : ∀ f np, FnR P w K mg base L2.CX0 (2 * n) ((GG K).fa f) (spF (GG K) cf f np)) (cdv : Value) (A : Around) (outer : List PySem.Env) (s : Shared) (H : Hp) (E : XK) (n0 : Nat) (hr : Room (2 * n + 1) (A.deeper (envOfC "check_column" (defScope (top 14)) s.heap.objs.size ((GG K).fa 7) cdv))) :
    PSs (cxOf L2.CX0 P w K mg base N7 "check_column" (defScope (top 14)) ((GG K).fa 7) cdv A outer s H E).nox (defBody (top 14)) (rdS (GG K) n0 (sIf (tNo (tTru (eIsi [(.non, false), (.bl, false), (.int, false), (.str, false), (.tup, false), (.lst, false), (.dct, false), (.own 0, true), (.own 1, false)] (eVar 0)))) sNo sNil)) := by
  have T : Tb (cxOf L2.CX0 P w K mg base N7 "check_column" (defScope (top 14)) ((GG K).fa 7) cdv A outer s H E).nox (GG K) cf (2 * n) := ⟨rfl, ih, hr, rfl⟩
  have nd := sc7.nd
  exact (ss_one (ss_if (st_no (st_tru rfl (se_isi1 (cv := (.ref ((GG K).ca 0))) (cu := (.ref ((GG K).ca 0))) rfl rfl (m_b_isinstance C) (by rfl) (.own _) (m_kit_0own C) (se_var (pv 0)) (pe_glob (v := .ref ((GG K).ca 0)) rfl (m_c_Column C) rfl)))) (ss_one ss_no) ss_nil))
theorem ok7 {n : Nat} (C : Ctx K base mg) (ih : All P w K mg base (GG K) TT n) : ∀ np, FnR P w K mg base L2.CX0 (2 * (n + 1)) ((GG K).fa 7) (spF (GG K) (callF TT (n + 1)) 7 np) := by
  obtain ⟨fd, F⟩ := C.says.def_ 7 (d := d7) rfl
  exact def_ok (b := b7) rfl F sc7 rfl rfl (FunD_binds F fun _ _ _ _ _ _ us hl => match us, hl with | [_], _ => rfl) fun cdv A outer s H E n0 hr => dv7 C ih cdv A outer s H E n0 hr
abbrev N8 : List Str := ["numerator", "denominator", "one", "other"]
theorem sc8 : FnScope N8 ["numerator", "denominator"] (defScope (top 15)) := ⟨rfl, rfl, rfl, by decide +kernel, rfl, by decide +kernel, by decide +kernel⟩
theorem dv8 {n : Nat} {cf : CF} (C : Ctx K base mg) (ih : ∀ f np, FnR P w K mg base L2.CX0 (2 * n) ((GG K).fa f) (spF (GG K) cf f np)) (cdv : Value) (A : Around) (outer : List PySem.Env) (s : Shared) (H : Hp) (E : XK) (n0 : Nat) (hr : Room (2 * n + 1) (A.deeper (envOfC "lowest" (defScope (top 15)) s.heap.objs.size ((GG K).fa 8) cdv))) :
    PSs (cxOf L2.CX0 P w K mg base N8 "lowest" (defScope (top 15)) ((GG K).fa 8) cdv A outer s H E).nox (defBody (top 15)) (rdS (GG K) n0 (sCons (sPar [2, 3] (aCons (eArg bAbs (aCons (eVar 0) aNil)) (aCons (eVar 1) aNil))) (sCons (sWhl 100 (tBl (eNe cf [(0, 2), (1, 13)] [.non, .bl, .int, .str, .tup, .lst, .dct, .own 0, .own 1] (eVar 3) (eLit (.int 0)))) (sPar [2, 3] (aCons (eVar 3) (aCons (eBin oMod (eVar 2) (eVar 3)) aNil)))) (sRet (eTup (aCons (eBin oDiv (eVar 0) (eVar 2)) (aCons (eBin oDiv (eVar 1) (eVar 2)) aNil))))))) := by
  have T : Tb (cxOf L2.CX0 P w K mg base N8 "lowest" (defScope (top 15)) ((GG K).fa 8) cdv A outer s H E).nox (GG K) cf (2 * n) := ⟨rfl, ih, hr, rfl⟩
  have nd := sc8.nd
  exact (ss_cons (ss_par (ps_par (i := 2) (j := 3) rfl nd rfl rfl (by decide) rfl rfl (sa_cons (se_argB (pe_callB call_abs rfl (m_b_abs C) (by rfl) (sa_cons (se_var (pv 0)) sa_nil)) ok_abs) (sa_cons (se_var (pv 1)) sa_nil)) (by rfl)))
 (ss_cons (ss_whl (ps_while PassesOwn.never (st_ne T (m_eqt C) (se_var (pv 3)) (se_lit pe_int fun _ _ => rfl) (nomark _)) (ss_one (ss_par (ps_par (i := 2) (j := 3) rfl nd rfl rfl (by decide) rfl rfl (sa_cons (se_var (pv 3)) (sa_cons (se_bin op_mod ok_mod (se_var (pv 2)) (se_var (pv 3))) sa_nil)) (by rfl))))))
 (ss_one (ss_ret (se_tup (sa_cons (se_bin op_fdiv ok_div (se_var (pv 0)) (se_var (pv 2))) (sa_cons (se_bin op_fdiv ok_div (se_var (pv 1)) (se_var (pv 2))) sa_nil)))))))
theorem ok8 {n : Nat} (C : Ctx K base mg) (ih : All P w K mg base (GG K) TT n) : ∀ np, FnR P w K mg base L2.CX0 (2 * (n + 1)) ((GG K).fa 8) (spF (GG K) (callF TT (n + 1)) 8 np) := by
  obtain ⟨fd, F⟩ := C.says.def_ 8 (d := d8) rfl
  exact def_ok (b := b8) rfl F sc8 rfl rfl (FunD_binds F fun _ _ _ _ _ _ us hl => match us, hl with | [_, _], _ => rfl) fun cdv A outer s H E n0 hr => dv8 C ih cdv A outer s H E n0 hr
abbrev N9 : List Str := ["cuts", "values", "one", "other", "cut"]
theorem sc9 : FnScope N9 ["cuts", "values"] (defScope (top 17)) := ⟨rfl, rfl, rfl, by decide +kernel, rfl, by decide +kernel, by decide +kernel⟩
theorem dv9 {n : Nat} {cf : CF} (C : Ctx K base mg) (ih : ∀ f np, FnR P w K mg base L2.CX0 (2 * n) ((GG K).fa f) (spF (GG K) cf f np)) (cdv : Value) (A : Around) (outer : List PySem.Env) (s : Shared) (H : Hp) (E : XK) (n0 : Nat) (hr : Room (2 * n + 1) (A.deeper (envOfC "are_cuts" (defScope (top 17)) s.heap.objs.size ((GG K).fa 9) cdv))) :
    PSs (cxOf L2.CX0 P w K mg base N9 "are_cuts" (defScope (top 17)) ((GG K).fa 9) cdv A outer s H E).nox (defBody (top 17)) (rdS (GG K) n0 (sCons (sIf (tOr (tNo (tTru (eIsi [(.non, false), (.bl, false), (.int, false), (.str, false), (.tup, true), (.lst, false), (.dct, false), (.own 0, false), (.own 1, false)] (eVar 0)))) (tOr (tBl (eEq cf [(0, 2), (1, 13)] [.non, .bl, .int, .str, .tup, .lst, .dct, .own 0, .own 1] (eVar 0) (eTup aNil))) (tBl (eNe cf [(0, 2), (1, 13)] [.non, .bl, .int, .str, .tup, .lst, .dct, .own 0, .own 1] (eIx cf [(0, 4)] (eVar 0) (eLit (.int 0))) (eLit (.int 0)))))) (sRet (eLit (.bl false))) sNil) (sCons (sIf (tNo (tTru (eArg bAll (aCons (eLc (iSeq (eVar 0)) (gNm 4) [4] tYesP (eCall cf 3 0 (aCons (eVar 4) (aCons (eLit (.int 0)) (aCons (eBin oSub (eVar 1) (eLit (.int 1))) aNil))))) aNil)))) (sRet (eLit (.bl false))) sNil) (sRet (eArg bAll (aCons (eLc (iZip (eVar 0) (eSl (eVar 0) (pSo (eLit (.int 1))) pNo)) (gTp [(gNm 2), (gNm 3)]) [2, 3] tYesP (eBin oLt (eVar 2) (eVar 3))) aNil)))))) := by
  have T : Tb (cxOf L2.CX0 P w K mg base N9 "are_cuts" (defScope (top 17)) ((GG K).fa 9) cdv A outer s H E).nox (GG K) cf (2 * n) := ⟨rfl, ih, hr, rfl⟩
  have nd := sc9.nd
  exact (ss_cons (ss_if (PW.pt (sw_or (st_no (st_tru rfl (se_isi1 (cv := (.ty "tuple")) (cu := (.type "tuple")) rfl rfl (m_b_isinstance C) (by rfl) (.ty _) (m_kit_tuplety C) (se_var (pv 0)) (pe_bltn (v := .ty "tuple") (u := .type "tuple") rfl (m_b_tuple C) (by rfl) rfl (by decide))))) (sw_or (st_eq T (m_eqt C) (se_var (pv 0)) (se_tup sa_nil) (nomark _)) (sw_one (st_ne T (m_eqt C) (se_ixG T (m_spc___getitem__ C) (se_var (pv 0)) (se_lit pe_int fun _ _ => rfl) (fun _ _ => rfl) (fun _ _ => by with_unfolding_all rfl)) (se_lit pe_int fun _ _ => rfl) (nomark _)))))) (ss_one (ss_ret (se_lit pe_bl fun _ _ => rfl))) ss_nil)
 (ss_cons (ss_if (st_no (st_tru rfl (se_argB (pe_callB (cr_all rfl) rfl (m_b_all C) (by rfl) (sa_cons (se_lc (own := [("cut", 4)]) rfl nd (si_seq rfl (se_var (pv 0))) (blk_ok (own := [("cut", 4)]) (by kernel_rfl)) (tb_nm 4 (by decide)) (fun _ _ _ _ _ => (pg_name (i := 4) nd rfl (by first | exact Or.inl rfl | exact Or.inr rfl))) (fun _ _ _ _ _ => sts_nil) (fun _ _ _ _ _ => (sx_call (T.blk _ _ _ _ _) rfl (m_f_is_number C) (m_k_is_number C) (sa_cons (se_var (pv 4)) (sa_cons (se_lit pe_int fun _ _ => rfl) (sa_cons (se_bin op_sub ok_sub (se_var (pv 1)) (se_lit pe_int fun _ _ => rfl)) sa_nil)))))) sa_nil)) ok_all))) (ss_one (ss_ret (se_lit pe_bl fun _ _ => rfl))) ss_nil)
 (ss_one (ss_ret (se_argB (pe_callB (cr_all rfl) rfl (m_b_all C) (by rfl) (sa_cons (se_lc (own := [("one", 2), ("other", 3)]) rfl nd (si_zip rfl rfl (m_b_zip C) (se_var (pv 0)) (se_sl rfl (se_var (pv 0)) (so_some (se_lit pe_int fun _ _ => rfl)) so_none)) (blk_ok (own := [("one", 2), ("other", 3)]) (by kernel_rfl)) (tb_tp (tbs_cons (tb_nm 2 (by decide)) (tbs_cons (tb_nm 3 (by decide)) tbs_nil)) rfl) (fun _ _ _ _ _ => (pg_tup rfl (pgs_cons (pg_name (i := 2) nd rfl (by first | exact Or.inl rfl | exact Or.inr rfl)) (pgs_cons (pg_name (i := 3) nd rfl (by first | exact Or.inl rfl | exact Or.inr rfl)) pgs_nil)))) (fun _ _ _ _ _ => sts_nil) (fun _ _ _ _ _ => (se_cmp op_lt ok_lt (se_var (pv 2)) (se_var (pv 3)) (nomark _)))) sa_nil)) ok_all)))))
theorem ok9 {n : Nat} (C : Ctx K base mg) (ih : All P w K mg base (GG K) TT n) : ∀ np, FnR P w K mg base L2.CX0 (2 * (n + 1)) ((GG K).fa 9) (spF (GG K) (callF TT (n + 1)) 9 np) := by
  obtain ⟨fd, F⟩ := C.says.def_ 9 (d := d9) rfl
  exact def_ok (b := b9) rfl F sc9 rfl rfl (FunD_binds F fun _ _ _ _ _ _ us hl => match us, hl with | [_, _], _ => rfl) fun cdv A outer s H E n0 hr => dv9 C ih cdv A outer s H E n0 hr
abbrev N10 : List Str := ["values", "cuts"]
theorem sc10 : FnScope N10 ["values", "cuts"] (defScope (top 18)) := ⟨rfl, rfl, rfl, by decide +kernel, rfl, by decide +kernel, by decide +kernel⟩
theorem dv10 {n : Nat} {cf : CF} (C : Ctx K base mg) (ih : ∀ f np, FnR P w K mg base L2.CX0 (2 * n) ((GG K).fa f) (spF (GG K) cf f np)) (cdv : Value) (A : Around) (outer : List PySem.Env) (s : Shared) (H : Hp) (E : XK) (n0 : Nat) (hr : Room (2 * n + 1) (A.deeper (envOfC "check_cuts" (defScope (top 18)) s.heap.objs.size ((GG K).fa 10) cdv))) :
    PSs (cxOf L2.CX0 P w K mg base N10 "check_cuts" (defScope (top 18)) ((GG K).fa 10) cdv A outer s H E).nox (defBody (top 18)) (rdS (GG K) n0 (sIf (tNo (tTru (eCall cf 2 9 (aCons (eVar 1) (aCons (eVar 0) aNil))))) sNo sNil)) := by
  have T : Tb (cxOf L2.CX0 P w K mg base N10 "check_cuts" (defScope (top 18)) ((GG K).fa 10) cdv A outer s H E).nox (GG K) cf (2 * n) := ⟨rfl, ih, hr, rfl⟩
  have nd := sc10.nd
  exact (ss_one (ss_if (st_no (st_tru rfl (sx_call T rfl (m_f_are_cuts C) (m_k_are_cuts C) (sa_cons (se_var (pv 1)) (sa_cons (se_var (pv 0)) sa_nil))))) (ss_one ss_no) ss_nil))
theorem ok10 {n : Nat} (C : Ctx K base mg) (ih : All P w K mg base (GG K) TT n) : ∀ np, FnR P w K mg base L2.CX0 (2 * (n + 1)) ((GG K).fa 10) (spF (GG K) (callF TT (n + 1)) 10 np) := by
  obtain ⟨fd, F⟩ := C.says.def_ 10 (d := d10) rfl
  exact def_ok (b := b10) rfl F sc10 rfl rfl (FunD_binds F fun _ _ _ _ _ _ us hl => match us, hl with | [_, _], _ => rfl) fun cdv A outer s H E n0 hr => dv10 C ih cdv A outer s H E n0 hr
abbrev N11 : List Str := ["values", "cuts"]
theorem sc11 : FnScope N11 ["values", "cuts"] (defScope (top 19)) := ⟨rfl, rfl, rfl, by decide +kernel, rfl, by decide +kernel, by decide +kernel⟩
theorem dv11 {n : Nat} {cf : CF} (C : Ctx K base mg) (ih : ∀ f np, FnR P w K mg base L2.CX0 (2 * n) ((GG K).fa f) (spF (GG K) cf f np)) (cdv : Value) (A : Around) (outer : List PySem.Env) (s : Shared) (H : Hp) (E : XK) (n0 : Nat) (hr : Room (2 * n + 1) (A.deeper (envOfC "buckets_of" (defScope (top 19)) s.heap.objs.size ((GG K).fa 11) cdv))) :
    PSs (cxOf L2.CX0 P w K mg base N11 "buckets_of" (defScope (top 19)) ((GG K).fa 11) cdv A outer s H E).nox (defBody (top 19)) (rdS (GG K) n0 (sRet (eLz (eVar 1) (eLst (aStar (eSl (eVar 1) (pSo (eLit (.int 1))) pNo) (aCons (eVar 0) aNil)))))) := by
  have T : Tb (cxOf L2.CX0 P w K mg base N11 "buckets_of" (defScope (top 19)) ((GG K).fa 11) cdv A outer s H E).nox (GG K) cf (2 * n) := ⟨rfl, ih, hr, rfl⟩
  have nd := sc11.nd
  exact (ss_one (ss_ret (se_lz rfl rfl rfl (m_b_list C) rfl (m_b_zip C) (se_var (pv 1)) (se_lst (sa_star rfl (se_sl rfl (se_var (pv 1)) (so_some (se_lit pe_int fun _ _ => rfl)) so_none) (sa_cons (se_var (pv 0)) sa_nil))))))
theorem ok11 {n : Nat} (C : Ctx K base mg) (ih : All P w K mg base (GG K) TT n) : ∀ np, FnR P w K mg base L2.CX0 (2 * (n + 1)) ((GG K).fa 11) (spF (GG K) (callF TT (n + 1)) 11 np) := by
  obtain ⟨fd, F⟩ := C.says.def_ 11 (d := d11) rfl
  exact def_ok (b := b11) rfl F sc11 rfl rfl (FunD_binds F fun _ _ _ _ _ _ us hl => match us, hl with | [_, _], _ => rfl) fun cdv A outer s H E n0 hr => dv11 C ih cdv A outer s H E n0 hr
abbrev N12 : List Str := ["self", "width", "cuts", "totals", "total", "bucket"]
theorem sc12 : FnScope N12 ["self", "width", "cuts", "totals"] (defScope (inClass (top 20) 0)) := ⟨rfl, rfl, rfl, by decide +kernel, rfl, by decide +kernel, by decide +kernel⟩
theorem dv12 {n : Nat} {cf : CF} (C : Ctx K base mg) (ih : ∀ f np, FnR P w K mg base L2.CX0 (2 * n) ((GG K).fa f) (spF (GG K) cf f np)) (cdv : Value) (A : Around) (outer : List PySem.Env) (s : Shared) (H : Hp) (E : XK) (n0 : Nat) (hr : Room (2 * n + 1) (A.deeper (envOfC "Histogram.__init__" (defScope (inClass (top 20) 0)) s.heap.objs.size ((GG K).fa 12) cdv))) :
    PSs (cxOf L2.CX0 P w K mg base N12 "Histogram.__init__" (defScope (inClass (top 20) 0)) ((GG K).fa 12) cdv A outer s H E).nox (defBody (inClass (top 20) 0)) (rdS (GG K) n0 (sCons (sIf (tOr (tNo (tTru (eCall cf 3 0 (aCons (eVar 1) (aCons (eLit (.int 1)) (aCons (eLit (.int (12))) aNil)))))) (tNo (tTru (eCall cf 2 9 (aCons (eVar 2) (aCons (eVar 1) aNil)))))) sNo sNil) (sCons (sIf (tOr (tNo (tTru (eIsi [(.non, false), (.bl, false), (.int, false), (.str, false), (.tup, true), (.lst, false), (.dct, false), (.own 0, false), (.own 1, false)] (eVar 3)))) (tBl (eNe cf [(0, 2), (1, 13)] [.non, .bl, .int, .str, .tup, .lst, .dct, .own 0, .own 1] (eLen cf [(0, 3), (1, 14)] (eVar 3)) (eLen cf [(0, 3), (1, 14)] (eVar 2))))) sNo sNil) (sCons (sFor (iZip (eVar 3) (eCall cf 2 11 (aCons (eVar 1) (aCons (eVar 2) aNil)))) (gTp [(gNm 4), (gNm 5)]) (sIf (tNo (tTru (eCall cf 3 0 (aCons (eVar 4) (aCons (eLit (.int 0)) (aCons (eBin oRep (eLit (.int (9))) (eBin oSub (eIx cf [(0, 4)] (eVar 5) (eLit (.int 1))) (eIx cf [(0, 4)] (eVar 5) (eLit (.int 0))))) aNil)))))) sNo sNil)) (sCons (sFld n0 [1] 1 (eVar 0) (eVar 1)) (sCons (sFld n0 [1] 2 (eVar 0) (eVar 2)) (sFld n0 [1] 3 (eVar 0) (eVar 3)))))))) := by
  have T : Tb (cxOf L2.CX0 P w K mg base N12 "Histogram.__init__" (defScope (inClass (top 20) 0)) ((GG K).fa 12) cdv A outer s H E).nox (GG K) cf (2 * n) := ⟨rfl, ih, hr, rfl⟩
  have nd := sc12.nd
  exact (ss_cons (ss_if (PW.pt (sw_or (st_no (st_tru rfl (sx_call T rfl (m_f_is_number C) (m_k_is_number C) (sa_cons (se_var (pv 1)) (sa_cons (se_lit pe_int fun _ _ => rfl) (sa_cons (se_lit (C8.pe_gc rfl (m_i_MOST_VALUES C)) fun _ _ => rfl) sa_nil)))))) (sw_one (st_no (st_tru rfl (sx_call T rfl (m_f_are_cuts C) (m_k_are_cuts C) (sa_cons (se_var (pv 2)) (sa_cons (se_var (pv 1)) sa_nil)))))))) (ss_one ss_no) ss_nil)
 (ss_cons (ss_if (PW.pt (sw_or (st_no (st_tru rfl (se_isi1 (cv := (.ty "tuple")) (cu := (.type "tuple")) rfl rfl (m_b_isinstance C) (by rfl) (.ty _) (m_kit_tuplety C) (se_var (pv 3)) (pe_bltn (v := .ty "tuple") (u := .type "tuple") rfl (m_b_tuple C) (by rfl) rfl (by decide))))) (sw_one (st_ne T (m_eqt C) (se_len T rfl (m_b_len C) (fun p hp => ((m_spc___len__ C) p hp).1) (se_var (pv 3))) (se_len T rfl (m_b_len C) (fun p hp => ((m_spc___len__ C) p hp).1) (se_var (pv 2))) (nomark _))))) (ss_one ss_no) ss_nil)
 (ss_cons (ss_for (ps_for PassesOwn.never rfl (si_zip rfl rfl (m_b_zip C) (se_var (pv 3)) (sx_call T rfl (m_f_buckets_of C) (m_k_buckets_of C) (sa_cons (se_var (pv 1)) (sa_cons (se_var (pv 2)) sa_nil)))) (pg_tup rfl (pgs_cons (pg_name (i := 4) nd rfl (by first | exact Or.inl rfl | exact Or.inr rfl)) (pgs_cons (pg_name (i := 5) nd rfl (by first | exact Or.inl rfl | exact Or.inr rfl)) pgs_nil))) (ss_one (ss_if (st_no (st_tru rfl (sx_call T rfl (m_f_is_number C) (m_k_is_number C) (sa_cons (se_var (pv 4)) (sa_cons (se_lit pe_int fun _ _ => rfl) (sa_cons (se_bin op_repR ok_rep (se_lit (C8.pe_gc rfl (m_i_MOST_COUNT C)) fun _ _ => rfl) (se_bin op_sub ok_sub (se_ixG T (m_spc___getitem__ C) (se_var (pv 5)) (se_lit pe_int fun _ _ => rfl) (fun _ _ => rfl) (fun _ _ => by with_unfolding_all rfl)) (se_ixG T (m_spc___getitem__ C) (se_var (pv 5)) (se_lit pe_int fun _ _ => rfl) (fun _ _ => rfl) (fun _ _ => by with_unfolding_all rfl)))) sa_nil)))))) (ss_one ss_no) ss_nil))) (tg_tp (tgs_cons (tg_nm 4) (tgs_cons (tg_nm 5) tgs_nil)) rfl))
 (ss_cons (ss_fld (f := 1) rfl (inj 1 (by decide)) (m_fld_width C) (se_var (pv 0)) (se_var (pv 1)))
 (ss_cons (ss_fld (f := 2) rfl (inj 2 (by decide)) (m_fld_cuts C) (se_var (pv 0)) (se_var (pv 2)))
 (ss_one (ss_fld (f := 3) rfl (inj 3 (by decide)) (m_fld_totals C) (se_var (pv 0)) (se_var (pv 3)))))))))
theorem ok12 {n : Nat} (C : Ctx K base mg) (ih : All P w K mg base (GG K) TT n) : ∀ np, FnR P w K mg base L2.CX0 (2 * (n + 1)) ((GG K).fa 12) (spF (GG K) (callF TT (n + 1)) 12 np) := by
  obtain ⟨fd, F⟩ := C.says.def_ 12 (d := d12) rfl
  exact def_ok (b := b12) rfl F sc12 rfl rfl (FunD_binds F fun _ _ _ _ _ _ us hl => match us, hl with | [_, _, _, _], _ => rfl) fun cdv A outer s H E n0 hr => dv12 C ih cdv A outer s H E n0 hr
abbrev N13 : List Str := ["self", "other"]
theorem sc13 : FnScope N13 ["self", "other"] (defScope (inClass (top 20) 1)) := ⟨rfl, rfl, rfl, by decide +kernel, rfl, by decide +kernel, by decide +kernel⟩
theorem dv13 {n : Nat} {cf : CF} (C : Ctx K base mg) (ih : ∀ f np, FnR P w K mg base L2.CX0 (2 * n) ((GG K).fa f) (spF (GG K) cf f np)) (cdv : Value) (A : Around) (outer : List PySem.Env) (s : Shared) (H : Hp) (E : XK) (n0 : Nat) (hr : Room (2 * n + 1) (A.deeper (envOfC "Histogram.__eq__" (defScope (inClass (top 20) 1)) s.heap.objs.size ((GG K).fa 13) cdv))) :
    PSs (cxOf L2.CX0 P w K mg base N13 "Histogram.__eq__" (defScope (inClass (top 20) 1)) ((GG K).fa 13) cdv A outer s H E).nox (defBody (inClass (top 20) 1)) (rdS (GG K) n0 (sRet (eAn (eIsi [(.non, false), (.bl, false), (.int, false), (.str, false), (.tup, false), (.lst, false), (.dct, false), (.own 0, false), (.own 1, true)] (eVar 1)) (eEq cf [(0, 2), (1, 13)] [.non, .bl, .int, .str, .tup, .lst, .dct, .own 0, .own 1] (eMeth cf 1 4 [(1, 15)] (eVar 0) aNil) (eMeth cf 1 4 [(1, 15)] (eVar 1) aNil))))) := by
  have T : Tb (cxOf L2.CX0 P w K mg base N13 "Histogram.__eq__" (defScope (inClass (top 20) 1)) ((GG K).fa 13) cdv A outer s H E).nox (GG K) cf (2 * n) := ⟨rfl, ih, hr, rfl⟩
  have nd := sc13.nd
  exact (ss_one (ss_ret (se_and rfl (se_isi1 (cv := (.ref ((GG K).ca 1))) (cu := (.ref ((GG K).ca 1))) rfl rfl (m_b_isinstance C) (by rfl) (.own _) (m_kit_1own C) (se_var (pv 1)) (pe_glob (v := .ref ((GG K).ca 1)) rfl (m_c_Histogram C) rfl)) (se_one (se_eq T (m_eqt C) (se_meth0 (m := 4) T (inj 4 (by decide)) (m_met_all_three C) (se_var (pv 0))) (se_meth0 (m := 4) T (inj 4 (by decide)) (m_met_all_three C) (se_var (pv 1))) (nomark _))))))
theorem ok13 {n : Nat} (C : Ctx K base mg) (ih : All P w K mg base (GG K) TT n) : ∀ np, FnR P w K mg base L2.CX0 (2 * (n + 1)) ((GG K).fa 13) (spF (GG K) (callF TT (n + 1)) 13 np) := by
  obtain ⟨fd, F⟩ := C.says.def_ 13 (d := d13) rfl
  exact def_ok (b := b13) rfl F sc13 rfl rfl (FunD_binds F fun _ _ _ _ _ _ us hl => match us, hl with | [_, _], _ => rfl) fun cdv A outer s H E n0 hr => dv13 C ih cdv A outer s H E n0 hr
abbrev N14 : List Str := ["self"]
theorem sc14 : FnScope N14 ["self"] (defScope (inClass (top 20) 2)) := ⟨rfl, rfl, rfl, by decide +kernel, rfl, by decide +kernel, by decide +kernel⟩
theorem dv14 {n : Nat} {cf : CF} (C : Ctx K base mg) (ih : ∀ f np, FnR P w K mg base L2.CX0 (2 * n) ((GG K).fa f) (spF (GG K) cf f np)) (cdv : Value) (A : Around) (outer : List PySem.Env) (s : Shared) (H : Hp) (E : XK) (n0 : Nat) (hr : Room (2 * n + 1) (A.deeper (envOfC "Histogram.__len__" (defScope (inClass (top 20) 2)) s.heap.objs.size ((GG K).fa 14) cdv))) :
    PSs (cxOf L2.CX0 P w K mg base N14 "Histogram.__len__" (defScope (inClass (top 20) 2)) ((GG K).fa 14) cdv A outer s H E).nox (defBody (inClass (top 20) 2)) (rdS (GG K) n0 (sRet (eLen cf [(0, 3), (1, 14)] (eFld [1] 2 (eVar 0))))) := by
  have T : Tb (cxOf L2.CX0 P w K mg base N14 "Histogram.__len__" (defScope (inClass (top 20) 2)) ((GG K).fa 14) cdv A outer s H E).nox (GG K) cf (2 * n) := ⟨rfl, ih, hr, rfl⟩
  have nd := sc14.nd
  exact (ss_one (ss_ret (se_len T rfl (m_b_len C) (fun p hp => ((m_spc___len__ C) p hp).1) (se_fld (f := 2) rfl (inj 2 (by decide)) (m_fld_cuts C) (se_var (pv 0))))))
theorem ok14 {n : Nat} (C : Ctx K base mg) (ih : All P w K mg base (GG K) TT n) : ∀ np, FnR P w K mg base L2.CX0 (2 * (n + 1)) ((GG K).fa 14) (spF (GG K) (callF TT (n + 1)) 14 np) := by
  obtain ⟨fd, F⟩ := C.says.def_ 14 (d := d14) rfl
  exact def_ok (b := b14) rfl F sc14 rfl rfl (FunD_binds F fun _ _ _ _ _ _ us hl => match us, hl with | [_], _ => rfl) fun cdv A outer s H E n0 hr => dv14 C ih cdv A outer s H E n0 hr
abbrev N15 : List Str := ["self"]
theorem sc15 : FnScope N15 ["self"] (defScope (inClass (top 20) 3)) := ⟨rfl, rfl, rfl, by decide +kernel, rfl, by decide +kernel, by decide +kernel⟩
theorem dv15 {n : Nat} {cf : CF} (C : Ctx K base mg) (ih : ∀ f np, FnR P w K mg base L2.CX0 (2 * n) ((GG K).fa f) (spF (GG K) cf f np)) (cdv : Value) (A : Around) (outer : List PySem.Env) (s : Shared) (H : Hp) (E : XK) (n0 : Nat) (hr : Room (2 * n + 1) (A.deeper (envOfC "Histogram.all_three" (defScope (inClass (top 20) 3)) s.heap.objs.size ((GG K).fa 15) cdv))) :
    PSs (cxOf L2.CX0 P w K mg base N15 "Histogram.all_three" (defScope (inClass (top 20) 3)) ((GG K).fa 15) cdv A outer s H E).nox (defBody (inClass (top 20) 3)) (rdS (GG K) n0 (sRet (eTup (aCons (eFld [1] 1 (eVar 0)) (aCons (eFld [1] 2 (eVar 0)) (aCons (eFld [1] 3 (eVar 0)) aNil)))))) := by
  have T : Tb (cxOf L2.CX0 P w K mg base N15 "Histogram.all_three" (defScope (inClass (top 20) 3)) ((GG K).fa 15) cdv A outer s H E).nox (GG K) cf (2 * n) := ⟨rfl, ih, hr, rfl⟩
  have nd := sc15.nd
  exact (ss_one (ss_ret (se_tup (sa_cons (se_fld (f := 1) rfl (inj 1 (by decide)) (m_fld_width C) (se_var (pv 0))) (sa_cons (se_fld (f := 2) rfl (inj 2 (by decide)) (m_fld_cuts C) (se_var (pv 0))) (sa_cons (se_fld (f := 3) rfl (inj 3 (by decide)) (m_fld_totals C) (se_var (pv 0))) sa_nil))))))
theorem ok15 {n : Nat} (C : Ctx K base mg) (ih : All P w K mg base (GG K) TT n) : ∀ np, FnR P w K mg base L2.CX0 (2 * (n + 1)) ((GG K).fa 15) (spF (GG K) (callF TT (n + 1)) 15 np) := by
  obtain ⟨fd, F⟩ := C.says.def_ 15 (d := d15) rfl
  exact def_ok (b := b15) rfl F sc15 rfl rfl (FunD_binds F fun _ _ _ _ _ _ us hl => match us, hl with | [_], _ => rfl) fun cdv A outer s H E n0 hr => dv15 C ih cdv A outer s H E n0 hr
abbrev N16 : List Str := ["self"]
theorem sc16 : FnScope N16 ["self"] (defScope (inClass (top 20) 4)) := ⟨rfl, rfl, rfl, by decide +kernel, rfl, by decide +kernel, by decide +kernel⟩
theorem dv16 {n : Nat} {cf : CF} (C : Ctx K base mg) (ih : ∀ f np, FnR P w K mg base L2.CX0 (2 * n) ((GG K).fa f) (spF (GG K) cf f np)) (cdv : Value) (A : Around) (outer : List PySem.Env) (s : Shared) (H : Hp) (E : XK) (n0 : Nat) (hr : Room (2 * n + 1) (A.deeper (envOfC "Histogram.buckets" (defScope (inClass (top 20) 4)) s.heap.objs.size ((GG K).fa 16) cdv))) :
    PSs (cxOf L2.CX0 P w K mg base N16 "Histogram.buckets" (defScope (inClass (top 20) 4)) ((GG K).fa 16) cdv A outer s H E).nox (defBody (inClass (top 20) 4)) (rdS (GG K) n0 (sRet (eCall cf 2 11 (aCons (eFld [1] 1 (eVar 0)) (aCons (eFld [1] 2 (eVar 0)) aNil))))) := by
  have T : Tb (cxOf L2.CX0 P w K mg base N16 "Histogram.buckets" (defScope (inClass (top 20) 4)) ((GG K).fa 16) cdv A outer s H E).nox (GG K) cf (2 * n) := ⟨rfl, ih, hr, rfl⟩
  have nd := sc16.nd
  exact (ss_one (ss_ret (sx_call T rfl (m_f_buckets_of C) (m_k_buckets_of C) (sa_cons (se_fld (f := 1) rfl (inj 1 (by decide)) (m_fld_width C) (se_var (pv 0))) (sa_cons (se_fld (f := 2) rfl (inj 2 (by decide)) (m_fld_cuts C) (se_var (pv 0))) sa_nil)))))
theorem ok16 {n : Nat} (C : Ctx K base mg) (ih : All P w K mg base (GG K) TT n) : ∀ np, FnR P w K mg base L2.CX0 (2 * (n + 1)) ((GG K).fa 16) (spF (GG K) (callF TT (n + 1)) 16 np) := by
  obtain ⟨fd, F⟩ := C.says.def_ 16 (d := d16) rfl
  exact def_ok (b := b16) rfl F sc16 rfl rfl (FunD_binds F fun _ _ _ _ _ _ us hl => match us, hl with | [_], _ => rfl) fun cdv A outer s H E n0 hr => dv16 C ih cdv A outer s H E n0 hr
abbrev N17 : List Str := ["histogram"]
theorem sc17 : FnScope N17 ["histogram"] (defScope (top 21)) := ⟨rfl, rfl, rfl, by decide +kernel, rfl, by decide +kernel, by decide +kernel⟩
theorem dv17 {n : Nat} {cf : CF} (C : Ctx K base mg) (ih : ∀ f np, FnR P w K mg base L2.CX0 (2 * n) ((GG K).fa f) (spF (GG K) cf f np)) (cdv : Value) (A : Around) (outer : List PySem.Env) (s : Shared) (H : Hp) (E : XK) (n0 : Nat) (hr : Room (2 * n + 1) (A.deeper (envOfC "check_histogram" (defScope (top 21)) s.heap.objs.size ((GG K).fa 17) cdv))) :
    PSs (cxOf L2.CX0 P w K mg base N17 "check_histogram" (defScope (top 21)) ((GG K).fa 17) cdv A outer s H E).nox (defBody (top 21)) (rdS (GG K) n0 (sIf (tNo (tTru (eIsi [(.non, false), (.bl, false), (.int, false), (.str, false), (.tup, false), (.lst, false), (.dct, false), (.own 0, false), (.own 1, true)] (eVar 0)))) sNo sNil)) := by
  have T : Tb (cxOf L2.CX0 P w K mg base N17 "check_histogram" (defScope (top 21)) ((GG K).fa 17) cdv A outer s H E).nox (GG K) cf (2 * n) := ⟨rfl, ih, hr, rfl⟩
  have nd := sc17.nd
  exact (ss_one (ss_if (st_no (st_tru rfl (se_isi1 (cv := (.ref ((GG K).ca 1))) (cu := (.ref ((GG K).ca 1))) rfl rfl (m_b_isinstance C) (by rfl) (.own _) (m_kit_1own C) (se_var (pv 0)) (pe_glob (v := .ref ((GG K).ca 1)) rfl (m_c_Histogram C) rfl)))) (ss_one ss_no) ss_nil))
theorem ok17 {n : Nat} (C : Ctx K base mg) (ih : All P w K mg base (GG K) TT n) : ∀ np, FnR P w K mg base L2.CX0 (2 * (n + 1)) ((GG K).fa 17) (spF (GG K) (callF TT (n + 1)) 17 np) := by
  obtain ⟨fd, F⟩ := C.says.def_ 17 (d := d17) rfl
  exact def_ok (b := b17) rfl F sc17 rfl rfl (FunD_binds F fun _ _ _ _ _ _ us hl => match us, hl with | [_], _ => rfl) fun cdv A outer s H E n0 hr => dv17 C ih cdv A outer s H E n0 hr
abbrev N18 : List Str := ["column", "cuts", "rows", "first", "past"]
theorem sc18 : FnScope N18 ["column", "cuts"] (defScope (top 22)) := ⟨rfl, rfl, rfl, by decide +kernel, rfl, by decide +kernel, by decide +kernel⟩
theorem dv18 {n : Nat} {cf : CF} (C : Ctx K base mg) (ih : ∀ f np, FnR P w K mg base L2.CX0 (2 * n) ((GG K).fa f) (spF (GG K) cf f np)) (cdv : Value) (A : Around) (outer : List PySem.Env) (s : Shared) (H : Hp) (E : XK) (n0 : Nat) (hr : Room (2 * n + 1) (A.deeper (envOfC "histogram" (defScope (top 22)) s.heap.objs.size ((GG K).fa 18) cdv))) :
    PSs (cxOf L2.CX0 P w K mg base N18 "histogram" (defScope (top 22)) ((GG K).fa 18) cdv A outer s H E).nox (defBody (top 22)) (rdS (GG K) n0 (sCons (sExp (eCall cf 1 7 (aCons (eVar 0) aNil))) (sCons (sExp (eCall cf 2 10 (aCons (eLen cf [(0, 3), (1, 14)] (eVar 0)) (aCons (eVar 1) aNil)))) (sCons (sAsg (gNm 2) (eCall cf 2 11 (aCons (eLen cf [(0, 3), (1, 14)] (eVar 0)) (aCons (eVar 1) aNil)))) (sRet (eMake cf 4 1 12 (aCons (eLen cf [(0, 3), (1, 14)] (eVar 0)) (aCons (eVar 1) (aCons (eArg bTuple (aCons (eLc (iSeq (eVar 2)) (gTp [(gNm 3), (gNm 4)]) [3, 4] tYesP (eArg bSum (aCons (eSl (eFld [0] 0 (eVar 0)) (pSo (eVar 3)) (pSo (eVar 4))) aNil))) aNil)) aNil))))))))) := by
  have T : Tb (cxOf L2.CX0 P w K mg base N18 "histogram" (defScope (top 22)) ((GG K).fa 18) cdv A outer s H E).nox (GG K) cf (2 * n) := ⟨rfl, ih, hr, rfl⟩
  have nd := sc18.nd
  exact (ss_cons (ss_expr (sx_call T rfl (m_f_check_column C) (m_k_check_column C) (sa_cons (se_var (pv 0)) sa_nil)))
 (ss_cons (ss_expr (sx_call T rfl (m_f_check_cuts C) (m_k_check_cuts C) (sa_cons (se_len T rfl (m_b_len C) (fun p hp => ((m_spc___len__ C) p hp).1) (se_var (pv 0))) (sa_cons (se_var (pv 1)) sa_nil))))
 (ss_cons (ss_asg (ps_asg (toV (sx_call T rfl (m_f_buckets_of C) (m_k_buckets_of C) (sa_cons (se_len T rfl (m_b_len C) (fun p hp => ((m_spc___len__ C) p hp).1) (se_var (pv 0))) (sa_cons (se_var (pv 1)) sa_nil)))) (pg_name (i := 2) nd rfl (by first | exact Or.inl rfl | exact Or.inr rfl))) (tg_nm 2))
 (ss_one (ss_ret (se_make T (m_mk_Histogram C) rfl (m_c_Histogram C) (sa_cons (se_len T rfl (m_b_len C) (fun p hp => ((m_spc___len__ C) p hp).1) (se_var (pv 0))) (sa_cons (se_var (pv 1)) (sa_cons (se_argB (pe_callTy call_tuple_of rfl (m_b_tuple C) (by rfl) (sa_cons (se_lc (own := [("first", 3), ("past", 4)]) rfl nd (si_seq rfl (se_var (pv 2))) (blk_ok (own := [("first", 3), ("past", 4)]) (by kernel_rfl)) (tb_tp (tbs_cons (tb_nm 3 (by decide)) (tbs_cons (tb_nm 4 (by decide)) tbs_nil)) rfl) (fun _ _ _ _ _ => (pg_tup rfl (pgs_cons (pg_name (i := 3) nd rfl (by first | exact Or.inl rfl | exact Or.inr rfl)) (pgs_cons (pg_name (i := 4) nd rfl (by first | exact Or.inl rfl | exact Or.inr rfl)) pgs_nil)))) (fun _ _ _ _ _ => sts_nil) (fun _ _ _ _ _ => (se_argB (pe_callB (cr_sumA rfl) rfl (m_b_sum C) (by rfl) (sa_cons (se_sl rfl (se_fld (f := 0) rfl (inj 0 (by decide)) (m_fld_counts C) (se_var (pv 0))) (so_some (se_var (pv 3))) (so_some (se_var (pv 4)))) sa_nil)) ok_sum))) sa_nil)) ok_tuple) sa_nil)))))))))
theorem ok18 {n : Nat} (C : Ctx K base mg) (ih : All P w K mg base (GG K) TT n) : ∀ np, FnR P w K mg base L2.CX0 (2 * (n + 1)) ((GG K).fa 18) (spF (GG K) (callF TT (n + 1)) 18 np) := by
  obtain ⟨fd, F⟩ := C.says.def_ 18 (d := d18) rfl
  exact def_ok (b := b18) rfl F sc18 rfl rfl (FunD_binds F fun _ _ _ _ _ _ us hl => match us, hl with | [_, _], _ => rfl) fun cdv A outer s H E n0 hr => dv18 C ih cdv A outer s H E n0 hr
abbrev N19 : List Str := ["column", "cuts", "first", "past"]
theorem sc19 : FnScope N19 ["column", "cuts"] (defScope (top 23)) := ⟨rfl, rfl, rfl, by decide +kernel, rfl, by decide +kernel, by decide +kernel⟩
theorem dv19 {n : Nat} {cf : CF} (C : Ctx K base mg) (ih : ∀ f np, FnR P w K mg base L2.CX0 (2 * n) ((GG K).fa f) (spF (GG K) cf f np)) (cdv : Value) (A : Around) (outer : List PySem.Env) (s : Shared) (H : Hp) (E : XK) (n0 : Nat) (hr : Room (2 * n + 1) (A.deeper (envOfC "caps_of" (defScope (top 23)) s.heap.objs.size ((GG K).fa 19) cdv))) :
    PSs (cxOf L2.CX0 P w K mg base N19 "caps_of" (defScope (top 23)) ((GG K).fa 19) cdv A outer s H E).nox (defBody (top 23)) (rdS (GG K) n0 (sCons (sExp (eCall cf 1 7 (aCons (eVar 0) aNil))) (sCons (sExp (eCall cf 2 10 (aCons (eLen cf [(0, 3), (1, 14)] (eVar 0)) (aCons (eVar 1) aNil)))) (sRet (eArg bTuple (aCons (eLc (iSeq (eCall cf 2 11 (aCons (eLen cf [(0, 3), (1, 14)] (eVar 0)) (aCons (eVar 1) aNil)))) (gTp [(gNm 2), (gNm 3)]) [2, 3] tYesP (eArg bMaxL (aCons (eSl (eFld [0] 0 (eVar 0)) (pSo (eVar 2)) (pSo (eVar 3))) aNil))) aNil)))))) := by
  have T : Tb (cxOf L2.CX0 P w K mg base N19 "caps_of" (defScope (top 23)) ((GG K).fa 19) cdv A outer s H E).nox (GG K) cf (2 * n) := ⟨rfl, ih, hr, rfl⟩
  have nd := sc19.nd
  exact (ss_cons (ss_expr (sx_call T rfl (m_f_check_column C) (m_k_check_column C) (sa_cons (se_var (pv 0)) sa_nil)))
 (ss_cons (ss_expr (sx_call T rfl (m_f_check_cuts C) (m_k_check_cuts C) (sa_cons (se_len T rfl (m_b_len C) (fun p hp => ((m_spc___len__ C) p hp).1) (se_var (pv 0))) (sa_cons (se_var (pv 1)) sa_nil))))
 (ss_one (ss_ret (se_argB (pe_callTy call_tuple_of rfl (m_b_tuple C) (by rfl) (sa_cons (se_lc (own := [("first", 2), ("past", 3)]) rfl nd (si_seq rfl (sx_call T rfl (m_f_buckets_of C) (m_k_buckets_of C) (sa_cons (se_len T rfl (m_b_len C) (fun p hp => ((m_spc___len__ C) p hp).1) (se_var (pv 0))) (sa_cons (se_var (pv 1)) sa_nil)))) (blk_ok (own := [("first", 2), ("past", 3)]) (by kernel_rfl)) (tb_tp (tbs_cons (tb_nm 2 (by decide)) (tbs_cons (tb_nm 3 (by decide)) tbs_nil)) rfl) (fun _ _ _ _ _ => (pg_tup rfl (pgs_cons (pg_name (i := 2) nd rfl (by first | exact Or.inl rfl | exact Or.inr rfl)) (pgs_cons (pg_name (i := 3) nd rfl (by first | exact Or.inl rfl | exact Or.inr rfl)) pgs_nil)))) (fun _ _ _ _ _ => sts_nil) (fun _ _ _ _ _ => (se_argB (pe_callB (cr_maxA rfl (Tb.room (T.blk _ _ _ _ _)).units) rfl (m_b_max C) (by rfl) (sa_cons (se_sl rfl (se_fld (f := 0) rfl (inj 0 (by decide)) (m_fld_counts C) (se_var (pv 0))) (so_some (se_var (pv 2))) (so_some (se_var (pv 3)))) sa_nil)) ok_maxL))) sa_nil)) ok_tuple)))))
theorem ok19 {n : Nat} (C : Ctx K base mg) (ih : All P w K mg base (GG K) TT n) : ∀ np, FnR P w K mg base L2.CX0 (2 * (n + 1)) ((GG K).fa 19) (spF (GG K) (callF TT (n + 1)) 19 np) := by
  obtain ⟨fd, F⟩ := C.says.def_ 19 (d := d19) rfl
  exact def_ok (b := b19) rfl F sc19 rfl rfl (FunD_binds F fun _ _ _ _ _ _ us hl => match us, hl with | [_, _], _ => rfl) fun cdv A outer s H E n0 hr => dv19 C ih cdv A outer s H E n0 hr
abbrev N20 : List Str := ["column", "cuts", "rows", "first", "past", "count"]
theorem sc20 : FnScope N20 ["column", "cuts"] (defScope (top 24)) := ⟨rfl, rfl, rfl, by decide +kernel, rfl, by decide +kernel, by decide +kernel⟩
theorem dv20 {n : Nat} {cf : CF} (C : Ctx K base mg) (ih : ∀ f np, FnR P w K mg base L2.CX0 (2 * n) ((GG K).fa f) (spF (GG K) cf f np)) (cdv : Value) (A : Around) (outer : List PySem.Env) (s : Shared) (H : Hp) (E : XK) (n0 : Nat) (hr : Room (2 * n + 1) (A.deeper (envOfC "fills_of" (defScope (top 24)) s.heap.objs.size ((GG K).fa 20) cdv))) :
    PSs (cxOf L2.CX0 P w K mg base N20 "fills_of" (defScope (top 24)) ((GG K).fa 20) cdv A outer s H E).nox (defBody (top 24)) (rdS (GG K) n0 (sCons (sExp (eCall cf 1 7 (aCons (eVar 0) aNil))) (sCons (sExp (eCall cf 2 10 (aCons (eLen cf [(0, 3), (1, 14)] (eVar 0)) (aCons (eVar 1) aNil)))) (sCons (sAsg (gNm 2) (eCall cf 2 11 (aCons (eLen cf [(0, 3), (1, 14)] (eVar 0)) (aCons (eVar 1) aNil)))) (sRet (eArg bTuple (aCons (eLc (iSeq (eVar 2)) (gTp [(gNm 3), (gNm 4)]) [3, 4] tYesP (eLen cf [(0, 3), (1, 14)] (eLc (iSeq (eSl (eFld [0] 0 (eVar 0)) (pSo (eVar 3)) (pSo (eVar 4)))) (gNm 5) [5] (tBl (eBin oGt (eVar 5) (eLit (.int 0)))) (eVar 5)))) aNil))))))) := by
  have T : Tb (cxOf L2.CX0 P w K mg base N20 "fills_of" (defScope (top 24)) ((GG K).fa 20) cdv A outer s H E).nox (GG K) cf (2 * n) := ⟨rfl, ih, hr, rfl⟩
  have nd := sc20.nd
  exact (ss_cons (ss_expr (sx_call T rfl (m_f_check_column C) (m_k_check_column C) (sa_cons (se_var (pv 0)) sa_nil)))
 (ss_cons (ss_expr (sx_call T rfl (m_f_check_cuts C) (m_k_check_cuts C) (sa_cons (se_len T rfl (m_b_len C) (fun p hp => ((m_spc___len__ C) p hp).1) (se_var (pv 0))) (sa_cons (se_var (pv 1)) sa_nil))))
 (ss_cons (ss_asg (ps_asg (toV (sx_call T rfl (m_f_buckets_of C) (m_k_buckets_of C) (sa_cons (se_len T rfl (m_b_len C) (fun p hp => ((m_spc___len__ C) p hp).1) (se_var (pv 0))) (sa_cons (se_var (pv 1)) sa_nil)))) (pg_name (i := 2) nd rfl (by first | exact Or.inl rfl | exact Or.inr rfl))) (tg_nm 2))
 (ss_one (ss_ret (se_argB (pe_callTy call_tuple_of rfl (m_b_tuple C) (by rfl) (sa_cons (se_lc (own := [("first", 3), ("past", 4)]) rfl nd (si_seq rfl (se_var (pv 2))) (blk_ok (own := [("first", 3), ("past", 4)]) (by kernel_rfl)) (tb_tp (tbs_cons (tb_nm 3 (by decide)) (tbs_cons (tb_nm 4 (by decide)) tbs_nil)) rfl) (fun _ _ _ _ _ => (pg_tup rfl (pgs_cons (pg_name (i := 3) nd rfl (by first | exact Or.inl rfl | exact Or.inr rfl)) (pgs_cons (pg_name (i := 4) nd rfl (by first | exact Or.inl rfl | exact Or.inr rfl)) pgs_nil)))) (fun _ _ _ _ _ => sts_nil) (fun _ _ _ _ _ => (se_len (T.blk _ _ _ _ _) rfl (m_b_len C) (fun p hp => ((m_spc___len__ C) p hp).1) (se_lc (own := [("count", 5)]) rfl nd (si_seq rfl (se_sl rfl (se_fld (f := 0) rfl (inj 0 (by decide)) (m_fld_counts C) (se_var (pv 0))) (so_some (se_var (pv 3))) (so_some (se_var (pv 4))))) (blk_ok (own := [("count", 5)]) (by kernel_rfl)) (tb_nm 5 (by decide)) (fun _ _ _ _ _ => (pg_name (i := 5) nd rfl (by first | exact Or.inl rfl | exact Or.inr rfl))) (fun _ _ _ _ _ => (sts_one (st_cmp op_gt ok_gt (se_var (pv 5)) (se_lit pe_int fun _ _ => rfl) (nomark _)))) (fun _ _ _ _ _ => (se_var (pv 5))))))) sa_nil)) ok_tuple))))))
theorem ok20 {n : Nat} (C : Ctx K base mg) (ih : All P w K mg base (GG K) TT n) : ∀ np, FnR P w K mg base L2.CX0 (2 * (n + 1)) ((GG K).fa 20) (spF (GG K) (callF TT (n + 1)) 20 np) := by
  obtain ⟨fd, F⟩ := C.says.def_ 20 (d := d20) rfl
  exact def_ok (b := b20) rfl F sc20 rfl rfl (FunD_binds F fun _ _ _ _ _ _ us hl => match us, hl with | [_, _], _ => rfl) fun cdv A outer s H E n0 hr => dv20 C ih cdv A outer s H E n0 hr
abbrev N21 : List Str := ["hist", "first", "past", "above", "below", "total", "begin", "end", "inside"]
theorem sc21 : FnScope N21 ["hist", "first", "past"] (defScope (top 25)) := ⟨rfl, rfl, rfl, by decide +kernel, rfl, by decide +kernel, by decide +kernel⟩
theorem dv21 {n : Nat} {cf : CF} (C : Ctx K base mg) (ih : ∀ f np, FnR P w K mg base L2.CX0 (2 * n) ((GG K).fa f) (spF (GG K) cf f np)) (cdv : Value) (A : Around) (outer : List PySem.Env) (s : Shared) (H : Hp) (E : XK) (n0 : Nat) (hr : Room (2 * n + 1) (A.deeper (envOfC "estimate" (defScope (top 25)) s.heap.objs.size ((GG K).fa 21) cdv))) :
    PSs (cxOf L2.CX0 P w K mg base N21 "estimate" (defScope (top 25)) ((GG K).fa 21) cdv A outer s H E).nox (defBody (top 25)) (rdS (GG K) n0 (sCons (sExp (eCall cf 1 17 (aCons (eVar 0) aNil))) (sCons (sIf (tOr (tNo (tTru (eCall cf 3 0 (aCons (eVar 1) (aCons (eLit (.int 0)) (aCons (eBin oSub (eFld [1] 1 (eVar 0)) (eLit (.int 1))) aNil)))))) (tNo (tTru (eCall cf 3 0 (aCons (eVar 2) (aCons (eBin oCat (eVar 1) (eLit (.int 1))) (aCons (eFld [1] 1 (eVar 0)) aNil))))))) sNo sNil) (sCons (sAsg (gTp [(gNm 3), (gNm 4)]) (eTup (aCons (eLit (.int 0)) (aCons (eLit (.int 1)) aNil)))) (sCons (sFor (iZip (eFld [1] 3 (eVar 0)) (eMeth cf 1 5 [(1, 16)] (eVar 0) aNil)) (gTp [(gNm 5), (gTp [(gNm 6), (gNm 7)])]) (sCons (sAsg (gNm 8) (eArg bMax2 (aCons (eLit (.int 0)) (aCons (eBin oSub (eArg bMin2 (aCons (eVar 2) (aCons (eVar 7) aNil))) (eArg bMax2 (aCons (eVar 1) (aCons (eVar 6) aNil)))) aNil)))) (sPar [3, 4] (aCons (eBin oCat (eBin oRep (eVar 3) (eBin oSub (eVar 7) (eVar 6))) (eBin oRep (eBin oRep (eVar 5) (eVar 8)) (eVar 4))) (aCons (eBin oRep (eVar 4) (eBin oSub (eVar 7) (eVar 6))) aNil))))) (sRet (eCall cf 2 8 (aCons (eVar 3) (aCons (eVar 4) aNil))))))))) := by
  have T : Tb (cxOf L2.CX0 P w K mg base N21 "estimate" (defScope (top 25)) ((GG K).fa 21) cdv A outer s H E).nox (GG K) cf (2 * n) := ⟨rfl, ih, hr, rfl⟩
  have nd := sc21.nd
  exact (ss_cons (ss_expr (sx_call T rfl (m_f_check_histogram C) (m_k_check_histogram C) (sa_cons (se_var (pv 0)) sa_nil)))
 (ss_cons (ss_if (PW.pt (sw_or (st_no (st_tru rfl (sx_call T rfl (m_f_is_number C) (m_k_is_number C) (sa_cons (se_var (pv 1)) (sa_cons (se_lit pe_int fun _ _ => rfl) (sa_cons (se_bin op_sub ok_sub (se_fld (f := 1) rfl (inj 1 (by decide)) (m_fld_width C) (se_var (pv 0))) (se_lit pe_int fun _ _ => rfl)) sa_nil)))))) (sw_one (st_no (st_tru rfl (sx_call T rfl (m_f_is_number C) (m_k_is_number C) (sa_cons (se_var (pv 2)) (sa_cons (se_bin op_catR ok_cat (se_var (pv 1)) (se_lit pe_int fun _ _ => rfl)) (sa_cons (se_fld (f := 1) rfl (inj 1 (by decide)) (m_fld_width C) (se_var (pv 0))) sa_nil))))))))) (ss_one ss_no) ss_nil)
 (ss_cons (ss_asg (ps_asg (toV (se_tup (sa_cons (se_lit pe_int fun _ _ => rfl) (sa_cons (se_lit pe_int fun _ _ => rfl) sa_nil)))) (pg_tup rfl (pgs_cons (pg_name (i := 3) nd rfl (by first | exact Or.inl rfl | exact Or.inr rfl)) (pgs_cons (pg_name (i := 4) nd rfl (by first | exact Or.inl rfl | exact Or.inr rfl)) pgs_nil)))) (tg_tp (tgs_cons (tg_nm 3) (tgs_cons (tg_nm 4) tgs_nil)) rfl))
 (ss_cons (ss_for (ps_for PassesOwn.never rfl (si_zip rfl rfl (m_b_zip C) (se_fld (f := 3) rfl (inj 3 (by decide)) (m_fld_totals C) (se_var (pv 0))) (se_meth0 (m := 5) T (inj 5 (by decide)) (m_met_buckets C) (se_var (pv 0)))) (pg_tup rfl (pgs_cons (pg_name (i := 5) nd rfl (by first | exact Or.inl rfl | exact Or.inr rfl)) (pgs_cons (pg_tup rfl (pgs_cons (pg_name (i := 6) nd rfl (by first | exact Or.inl rfl | exact Or.inr rfl)) (pgs_cons (pg_name (i := 7) nd rfl (by first | exact Or.inl rfl | exact Or.inr rfl)) pgs_nil))) pgs_nil))) (ss_cons (ss_asg (ps_asg (toV (se_argB (pe_callB (call_max2 rfl) rfl (m_b_max C) (by rfl) (sa_cons (se_lit pe_int fun _ _ => rfl) (sa_cons (se_bin op_sub ok_sub (se_argB (pe_callB (call_min2 rfl) rfl (m_b_min C) (by rfl) (sa_cons (se_var (pv 2)) (sa_cons (se_var (pv 7)) sa_nil))) ok_min2) (se_argB (pe_callB (call_max2 rfl) rfl (m_b_max C) (by rfl) (sa_cons (se_var (pv 1)) (sa_cons (se_var (pv 6)) sa_nil))) ok_max2)) sa_nil))) ok_max2)) (pg_name (i := 8) nd rfl (by first | exact Or.inl rfl | exact Or.inr rfl))) (tg_nm 8))
 (ss_one (ss_par (ps_par (i := 3) (j := 4) rfl nd rfl rfl (by decide) rfl rfl (sa_cons (se_bin op_catR ok_cat (se_bin op_repR ok_rep (se_var (pv 3)) (se_bin op_sub ok_sub (se_var (pv 7)) (se_var (pv 6)))) (se_bin op_repR ok_rep (se_bin op_repR ok_rep (se_var (pv 5)) (se_var (pv 8))) (se_var (pv 4)))) (sa_cons (se_bin op_repR ok_rep (se_var (pv 4)) (se_bin op_sub ok_sub (se_var (pv 7)) (se_var (pv 6)))) sa_nil)) (by rfl)))))) (tg_tp (tgs_cons (tg_nm 5) (tgs_cons (tg_tp (tgs_cons (tg_nm 6) (tgs_cons (tg_nm 7) tgs_nil)) rfl) tgs_nil)) rfl))
 (ss_one (ss_ret (sx_call T rfl (m_f_lowest C) (m_k_lowest C) (sa_cons (se_var (pv 3)) (sa_cons (se_var (pv 4)) sa_nil)))))))))
theorem ok21 {n : Nat} (C : Ctx K base mg) (ih : All P w K mg base (GG K) TT n) : ∀ np, FnR P w K mg base L2.CX0 (2 * (n + 1)) ((GG K).fa 21) (spF (GG K) (callF TT (n + 1)) 21 np) := by
  obtain ⟨fd, F⟩ := C.says.def_ 21 (d := d21) rfl
  exact def_ok (b := b21) rfl F sc21 rfl rfl (FunD_binds F fun _ _ _ _ _ _ us hl => match us, hl with | [_, _, _], _ => rfl) fun cdv A outer s H E n0 hr => dv21 C ih cdv A outer s H E n0 hr
abbrev N22 : List Str := ["hist", "cuts", "found", "total", "cut", "late"]
theorem sc22 : FnScope N22 ["hist", "cuts"] (defScope (top 26)) := ⟨rfl, rfl, rfl, by decide +kernel, rfl, by decide +kernel, by decide +kernel⟩
theorem dv22 {n : Nat} {cf : CF} (C : Ctx K base mg) (ih : ∀ f np, FnR P w K mg base L2.CX0 (2 * n) ((GG K).fa f) (spF (GG K) cf f np)) (cdv : Value) (A : Around) (outer : List PySem.Env) (s : Shared) (H : Hp) (E : XK) (n0 : Nat) (hr : Room (2 * n + 1) (A.deeper (envOfC "coarser" (defScope (top 26)) s.heap.objs.size ((GG K).fa 22) cdv))) :
    PSs (cxOf L2.CX0 P w K mg base N22 "coarser" (defScope (top 26)) ((GG K).fa 22) cdv A outer s H E).nox (defBody (top 26)) (rdS (GG K) n0 (sCons (sExp (eCall cf 1 17 (aCons (eVar 0) aNil))) (sCons (sIf (tOr (tNo (tTru (eCall cf 2 9 (aCons (eVar 1) (aCons (eFld [1] 1 (eVar 0)) aNil))))) (tNo (tTru (eArg bAll (aCons (eLc (iSeq (eVar 1)) (gNm 4) [4] tYesP (eBin oIn (eVar 4) (eFld [1] 2 (eVar 0)))) aNil))))) sNo sNil) (sCons (sAsg (gNm 2) (eNew (eBin oRep (eLst (aCons (eLit (.int 0)) aNil)) (eLen cf [(0, 3), (1, 14)] (eVar 1))))) (sCons (sFor (iZip (eFld [1] 3 (eVar 0)) (eFld [1] 2 (eVar 0))) (gTp [(gNm 3), (gNm 4)]) (sAugI oAdd oGet (setG n0) (eVar 2) (eBin oSub (eLen cf [(0, 3), (1, 14)] (eLc (iSeq (eVar 1)) (gNm 5) [5] (tBl (eBin oLe (eVar 5) (eVar 4))) (eVar 5))) (eLit (.int 1))) (eVar 3))) (sRet (eMake cf 4 1 12 (aCons (eFld [1] 1 (eVar 0)) (aCons (eVar 1) (aCons (eArg bTuple (aCons (eVar 2) aNil)) aNil)))))))))) := by
  have T : Tb (cxOf L2.CX0 P w K mg base N22 "coarser" (defScope (top 26)) ((GG K).fa 22) cdv A outer s H E).nox (GG K) cf (2 * n) := ⟨rfl, ih, hr, rfl⟩
  have nd := sc22.nd
  exact (ss_cons (ss_expr (sx_call T rfl (m_f_check_histogram C) (m_k_check_histogram C) (sa_cons (se_var (pv 0)) sa_nil)))
 (ss_cons (ss_if (PW.pt (sw_or (st_no (st_tru rfl (sx_call T rfl (m_f_are_cuts C) (m_k_are_cuts C) (sa_cons (se_var (pv 1)) (sa_cons (se_fld (f := 1) rfl (inj 1 (by decide)) (m_fld_width C) (se_var (pv 0))) sa_nil))))) (sw_one (st_no (st_tru rfl (se_argB (pe_callB (cr_all rfl) rfl (m_b_all C) (by rfl) (sa_cons (se_lc (own := [("cut", 4)]) rfl nd (si_seq rfl (se_var (pv 1))) (blk_ok (own := [("cut", 4)]) (by kernel_rfl)) (tb_nm 4 (by decide)) (fun _ _ _ _ _ => (pg_name (i := 4) nd rfl (by first | exact Or.inl rfl | exact Or.inr rfl))) (fun _ _ _ _ _ => sts_nil) (fun _ _ _ _ _ => (se_cmp (op_inG (units65 (T.blk _ _ _ _ _))) ok_in (se_var (pv 4)) (se_fld (f := 2) rfl (inj 2 (by decide)) (m_fld_cuts C) (se_var (pv 0))) (by rfl)))) sa_nil)) ok_all)))))) (ss_one ss_no) ss_nil)
 (ss_cons (ss_asg (ps_asg (toV (se_new (se_bin op_repR ok_rep (se_lst (sa_cons (se_lit pe_int fun _ _ => rfl) sa_nil)) (se_len T rfl (m_b_len C) (fun p hp => ((m_spc___len__ C) p hp).1) (se_var (pv 1)))))) (pg_name (i := 2) nd rfl (by first | exact Or.inl rfl | exact Or.inr rfl))) (tg_nm 2))
 (ss_cons (ss_for (ps_for PassesOwn.never rfl (si_zip rfl rfl (m_b_zip C) (se_fld (f := 3) rfl (inj 3 (by decide)) (m_fld_totals C) (se_var (pv 0))) (se_fld (f := 2) rfl (inj 2 (by decide)) (m_fld_cuts C) (se_var (pv 0)))) (pg_tup rfl (pgs_cons (pg_name (i := 3) nd rfl (by first | exact Or.inl rfl | exact Or.inr rfl)) (pgs_cons (pg_name (i := 4) nd rfl (by first | exact Or.inl rfl | exact Or.inr rfl)) pgs_nil))) (ss_one (ss_augI ok_get ok_add chg_setG (ps_augS (toV (se_var (pv 2))) (toV (se_bin op_sub ok_sub (se_len T rfl (m_b_len C) (fun p hp => ((m_spc___len__ C) p hp).1) (se_lc (own := [("late", 5)]) rfl nd (si_seq rfl (se_var (pv 1))) (blk_ok (own := [("late", 5)]) (by kernel_rfl)) (tb_nm 5 (by decide)) (fun _ _ _ _ _ => (pg_name (i := 5) nd rfl (by first | exact Or.inl rfl | exact Or.inr rfl))) (fun _ _ _ _ _ => (sts_one (st_cmp op_le ok_le (se_var (pv 5)) (se_var (pv 4)) (nomark _)))) (fun _ _ _ _ _ => (se_var (pv 5))))) (se_lit pe_int fun _ _ => rfl))) (get_G (units2 T)) (toV (se_var (pv 3))) iop_add (set_G (units2 T)))))) (tg_tp (tgs_cons (tg_nm 3) (tgs_cons (tg_nm 4) tgs_nil)) rfl))
 (ss_one (ss_ret (se_make T (m_mk_Histogram C) rfl (m_c_Histogram C) (sa_cons (se_fld (f := 1) rfl (inj 1 (by decide)) (m_fld_width C) (se_var (pv 0))) (sa_cons (se_var (pv 1)) (sa_cons (se_argB (pe_callTy call_tuple_of rfl (m_b_tuple C) (by rfl) (sa_cons (se_var (pv 2)) sa_nil)) ok_tuple) sa_nil))))))))))
theorem ok22 {n : Nat} (C : Ctx K base mg) (ih : All P w K mg base (GG K) TT n) : ∀ np, FnR P w K mg base L2.CX0 (2 * (n + 1)) ((GG K).fa 22) (spF (GG K) (callF TT (n + 1)) 22 np) := by
  obtain ⟨fd, F⟩ := C.says.def_ 22 (d := d22) rfl
  exact def_ok (b := b22) rfl F sc22 rfl rfl (FunD_binds F fun _ _ _ _ _ _ us hl => match us, hl with | [_, _], _ => rfl) fun cdv A outer s H E n0 hr => dv22 C ih cdv A outer s H E n0 hr
abbrev N23 : List Str := ["_law_script", "_law_index", "_law_cells", "_law_cell", "_law_low", "_law_high", "_law_total", "_law_blend"]
theorem sc23 : FnScope N23 ["_law_script", "_law_index"] (defScope (top 28)) := ⟨rfl, rfl, rfl, by decide +kernel, rfl, by decide +kernel, by decide +kernel⟩
theorem dv23 {n : Nat} {cf : CF} (C : Ctx K base mg) (ih : ∀ f np, FnR P w K mg base L2.CX0 (2 * n) ((GG K).fa f) (spF (GG K) cf f np)) (cdv : Value) (A : Around) (outer : List PySem.Env) (s : Shared) (H : Hp) (E : XK) (n0 : Nat) (hr : Room (2 * n + 1) (A.deeper (envOfC "_law_number" (defScope (top 28)) s.heap.objs.size ((GG K).fa 23) cdv))) :
    PSs (cxOf L2.CX0 P w K mg base N23 "_law_number" (defScope (top 28)) ((GG K).fa 23) cdv A outer s H E).nox (defBody (top 28)) (rdS (GG K) n0 (sCons (sAsg (gNm 2) (eIf (tBl (eNe cf [(0, 2), (1, 13)] [.non, .bl, .int, .str, .tup, .lst, .dct, .own 0, .own 1] (eVar 0) (eLst aNil))) (eSl (eVar 0) pNo (pSo (eLit (.int 63)))) (eLst (aCons (eLit (.int 5)) aNil)))) (sCons (sAsg (gNm 3) (eBin oCat (eIx cf [(0, 4)] (eVar 2) (eBin oMod (eArg bInt (aCons (eVar 1) aNil)) (eLen cf [(0, 3), (1, 14)] (eVar 2)))) (eBin oRep (eLit (.int 13)) (eBin oDiv (eVar 1) (eLen cf [(0, 3), (1, 14)] (eVar 2)))))) (sCons (sPar [4, 5] (aCons (eBin oMod (eArg bInt (aCons (eVar 3) aNil)) (eLit (.int 1000003))) (aCons (eBin oMod (eArg bInt (aCons (eBin oDiv (eVar 3) (eLit (.int 1000003))) aNil)) (eLit (.int 999983))) aNil))) (sCons (sAsg (gNm 6) (eBin oMod (eArg bInt (aCons (eArg bSum (aCons (eVar 2) aNil)) aNil)) (eLit (.int 65521)))) (sCons (sAsg (gNm 7) (eBin oMod (eArg bInt (aCons (eBin oCat (eBin oCat (eBin oRep (eBin oCat (eVar 4) (eBin oRep (eLit (.int 977)) (eVar 1))) (eLit (.int 48271))) (eBin oRep (eLit (.int 31)) (eVar 5))) (eVar 6)) aNil)) (eLit (.int 2147483647)))) (sRet (eBin oCat (eBin oRep (eBin oMod (eArg bInt (aCons (eBin oRep (eVar 7) (eBin oCat (eBin oCat (eVar 7) (eBin oRep (eLit (.int 31)) (eVar 1))) (eLit (.int 7)))) aNil)) (eLit (.int 2147483629))) (eLit (.int 65537))) (eVar 5))))))))) := by
  have T : Tb (cxOf L2.CX0 P w K mg base N23 "_law_number" (defScope (top 28)) ((GG K).fa 23) cdv A outer s H E).nox (GG K) cf (2 * n) := ⟨rfl, ih, hr, rfl⟩
  have nd := sc23.nd
  exact (ss_cons (ss_asg (ps_asg (toV (se_if (st_ne T (m_eqt C) (se_var (pv 0)) (se_lst sa_nil) (nomark _)) (se_sl rfl (se_var (pv 0)) so_none (so_some (se_lit pe_int fun _ _ => rfl))) (se_lst (sa_cons (se_lit pe_int fun _ _ => rfl) sa_nil)))) (pg_name (i := 2) nd rfl (by first | exact Or.inl rfl | exact Or.inr rfl))) (tg_nm 2))
 (ss_cons (ss_asg (ps_asg (toV (se_bin op_catR ok_cat (se_ixG T (m_spc___getitem__ C) (se_var (pv 2)) (se_bin op_mod ok_mod (se_argB (pe_callTy call_int1 rfl (m_b_int C) (by rfl) (sa_cons (se_var (pv 1)) sa_nil)) ok_int) (se_len T rfl (m_b_len C) (fun p hp => ((m_spc___len__ C) p hp).1) (se_var (pv 2)))) (fun _ _ => rfl) (fun _ _ => by with_unfolding_all rfl)) (se_bin op_repR ok_rep (se_lit pe_int fun _ _ => rfl) (se_bin op_fdiv ok_div (se_var (pv 1)) (se_len T rfl (m_b_len C) (fun p hp => ((m_spc___len__ C) p hp).1) (se_var (pv 2))))))) (pg_name (i := 3) nd rfl (by first | exact Or.inl rfl | exact Or.inr rfl))) (tg_nm 3))
 (ss_cons (ss_par (ps_par (i := 4) (j := 5) rfl nd rfl rfl (by decide) rfl rfl (sa_cons (se_bin op_mod ok_mod (se_argB (pe_callTy call_int1 rfl (m_b_int C) (by rfl) (sa_cons (se_var (pv 3)) sa_nil)) ok_int) (se_lit pe_int fun _ _ => rfl)) (sa_cons (se_bin op_mod ok_mod (se_argB (pe_callTy call_int1 rfl (m_b_int C) (by rfl) (sa_cons (se_bin op_fdiv ok_div (se_var (pv 3)) (se_lit pe_int fun _ _ => rfl)) sa_nil)) ok_int) (se_lit pe_int fun _ _ => rfl)) sa_nil)) (by rfl)))
 (ss_cons (ss_asg (ps_asg (toV (se_bin op_mod ok_mod (se_argB (pe_callTy call_int1 rfl (m_b_int C) (by rfl) (sa_cons (se_argB (pe_callB (cr_sumA rfl) rfl (m_b_sum C) (by rfl) (sa_cons (se_var (pv 2)) sa_nil)) ok_sum) sa_nil)) ok_int) (se_lit pe_int fun _ _ => rfl))) (pg_name (i := 6) nd rfl (by first | exact Or.inl rfl | exact Or.inr rfl))) (tg_nm 6))
 (ss_cons (ss_asg (ps_asg (toV (se_bin op_mod ok_mod (se_argB (pe_callTy call_int1 rfl (m_b_int C) (by rfl) (sa_cons (se_bin op_catR ok_cat (se_bin op_catR ok_cat (se_bin op_repR ok_rep (se_bin op_catR ok_cat (se_var (pv 4)) (se_bin op_repR ok_rep (se_lit pe_int fun _ _ => rfl) (se_var (pv 1)))) (se_lit pe_int fun _ _ => rfl)) (se_bin op_repR ok_rep (se_lit pe_int fun _ _ => rfl) (se_var (pv 5)))) (se_var (pv 6))) sa_nil)) ok_int) (se_lit pe_int fun _ _ => rfl))) (pg_name (i := 7) nd rfl (by first | exact Or.inl rfl | exact Or.inr rfl))) (tg_nm 7))
 (ss_one (ss_ret (se_bin op_catR ok_cat (se_bin op_repR ok_rep (se_bin op_mod ok_mod (se_argB (pe_callTy call_int1 rfl (m_b_int C) (by rfl) (sa_cons (se_bin op_repR ok_rep (se_var (pv 7)) (se_bin op_catR ok_cat (se_bin op_catR ok_cat (se_var (pv 7)) (se_bin op_repR ok_rep (se_lit pe_int fun _ _ => rfl) (se_var (pv 1)))) (se_lit pe_int fun _ _ => rfl))) sa_nil)) ok_int) (se_lit pe_int fun _ _ => rfl)) (se_lit pe_int fun _ _ => rfl)) (se_var (pv 5))))))))))
theorem ok23 {n : Nat} (C : Ctx K base mg) (ih : All P w K mg base (GG K) TT n) : ∀ np, FnR P w K mg base L2.CX0 (2 * (n + 1)) ((GG K).fa 23) (spF (GG K) (callF TT (n + 1)) 23 np) := by
  obtain ⟨fd, F⟩ := C.says.def_ 23 (d := d23) rfl
  exact def_ok (b := b23) rfl F sc23 rfl rfl (FunD_binds F fun _ _ _ _ _ _ us hl => match us, hl with | [_, _], _ => rfl) fun cdv A outer s H E n0 hr => dv23 C ih cdv A outer s H E n0 hr
abbrev N24 : List Str := ["_law_draw", "_law_many"]
theorem sc24 : FnScope N24 ["_law_draw", "_law_many"] (defScope (top 29)) := ⟨rfl, rfl, rfl, by decide +kernel, rfl, by decide +kernel, by decide +kernel⟩
theorem dv24 {n : Nat} {cf : CF} (C : Ctx K base mg) (ih : ∀ f np, FnR P w K mg base L2.CX0 (2 * n) ((GG K).fa f) (spF (GG K) cf f np)) (cdv : Value) (A : Around) (outer : List PySem.Env) (s : Shared) (H : Hp) (E : XK) (n0 : Nat) (hr : Room (2 * n + 1) (A.deeper (envOfC "_law_take" (defScope (top 29)) s.heap.objs.size ((GG K).fa 24) cdv))) :
    PSs (cxOf L2.CX0 P w K mg base N24 "_law_take" (defScope (top 29)) ((GG K).fa 24) cdv A outer s H E).nox (defBody (top 29)) (rdS (GG K) n0 (sCons (sSetI (setG n0) (eVar 0) (eLit (.int 1)) (eBin oCat (eIx cf [(0, 4)] (eVar 0) (eLit (.int 1))) (eLit (.int 1)))) (sRet (eBin oMod (eArg bInt (aCons (eCall cf 2 23 (aCons (eIx cf [(0, 4)] (eVar 0) (eLit (.int 0))) (aCons (eArg bInt (aCons (eIx cf [(0, 4)] (eVar 0) (eLit (.int 1))) aNil)) aNil))) aNil)) (eVar 1))))) := by
  have T : Tb (cxOf L2.CX0 P w K mg base N24 "_law_take" (defScope (top 29)) ((GG K).fa 24) cdv A outer s H E).nox (GG K) cf (2 * n) := ⟨rfl, ih, hr, rfl⟩
  have nd := sc24.nd
  exact (ss_cons (ss_setI chg_setG (ps_asg (toV (se_bin op_catR ok_cat (se_ixG T (m_spc___getitem__ C) (se_var (pv 0)) (se_lit pe_int fun _ _ => rfl) (fun _ _ => rfl) (fun _ _ => by with_unfolding_all rfl)) (se_lit pe_int fun _ _ => rfl))) (pg_sub (toV (se_var (pv 0))) (toV (se_lit pe_int fun _ _ => rfl)) (set_G (units2 T)))))
 (ss_one (ss_ret (se_bin op_mod ok_mod (se_argB (pe_callTy call_int1 rfl (m_b_int C) (by rfl) (sa_cons (sx_call T rfl (m_f__law_number C) (m_k__law_number C) (sa_cons (se_ixG T (m_spc___getitem__ C) (se_var (pv 0)) (se_lit pe_int fun _ _ => rfl) (fun _ _ => rfl) (fun _ _ => by with_unfolding_all rfl)) (sa_cons (se_argB (pe_callTy call_int1 rfl (m_b_int C) (by rfl) (sa_cons (se_ixG T (m_spc___getitem__ C) (se_var (pv 0)) (se_lit pe_int fun _ _ => rfl) (fun _ _ => rfl) (fun _ _ => by with_unfolding_all rfl)) sa_nil)) ok_int) sa_nil))) sa_nil)) ok_int) (se_var (pv 1))))))
theorem ok24 {n : Nat} (C : Ctx K base mg) (ih : All P w K mg base (GG K) TT n) : ∀ np, FnR P w K mg base L2.CX0 (2 * (n + 1)) ((GG K).fa 24) (spF (GG K) (callF TT (n + 1)) 24 np) := by
  obtain ⟨fd, F⟩ := C.says.def_ 24 (d := d24) rfl
  exact def_ok (b := b24) rfl F sc24 rfl rfl (FunD_binds F fun _ _ _ _ _ _ us hl => match us, hl with | [_, _], _ => rfl) fun cdv A outer s H E n0 hr => dv24 C ih cdv A outer s H E n0 hr
abbrev N25 : List Str := ["_law_draw", "_law_most", "_law_found", "_law_value", "_law_count"]
theorem sc25 : FnScope N25 ["_law_draw", "_law_most"] (defScope (top 30)) := ⟨rfl, rfl, rfl, by decide +kernel, rfl, by decide +kernel, by decide +kernel⟩
theorem dv25 {n : Nat} {cf : CF} (C : Ctx K base mg) (ih : ∀ f np, FnR P w K mg base L2.CX0 (2 * n) ((GG K).fa f) (spF (GG K) cf f np)) (cdv : Value) (A : Around) (outer : List PySem.Env) (s : Shared) (H : Hp) (E : XK) (n0 : Nat) (hr : Room (2 * n + 1) (A.deeper (envOfC "_law_counts" (defScope (top 30)) s.heap.objs.size ((GG K).fa 25) cdv))) :
    PSs (cxOf L2.CX0 P w K mg base N25 "_law_counts" (defScope (top 30)) ((GG K).fa 25) cdv A outer s H E).nox (defBody (top 30)) (rdS (GG K) n0 (sCons (sAsg (gNm 2) (eNew (eLst aNil))) (sCons (sFor (iRg1 (eBin oCat (eLit (.int 1)) (eCall cf 2 24 (aCons (eVar 0) (aCons (eVar 1) aNil))))) (gNm 3) (sCons (sAsg (gNm 4) (eIf (tBl (eEq cf [(0, 2), (1, 13)] [.non, .bl, .int, .str, .tup, .lst, .dct, .own 0, .own 1] (eCall cf 2 24 (aCons (eVar 0) (aCons (eLit (.int 3)) aNil))) (eLit (.int 0)))) (eCall cf 2 24 (aCons (eVar 0) (aCons (eLit (.int 10)) aNil))) (eCall cf 2 24 (aCons (eVar 0) (aCons (eLit (.int 4)) aNil))))) (sExp (eLm (appL n0) (eVar 2) (eIf (tAn (tBl (eNe cf [(0, 2), (1, 13)] [.non, .bl, .int, .str, .tup, .lst, .dct, .own 0, .own 1] (eVar 2) (eLst aNil))) (tBl (eEq cf [(0, 2), (1, 13)] [.non, .bl, .int, .str, .tup, .lst, .dct, .own 0, .own 1] (eCall cf 2 24 (aCons (eVar 0) (aCons (eLit (.int 4)) aNil))) (eLit (.int 0))))) (eIx cf [(0, 4)] (eVar 2) (eUn oNeg (eLit (.int 1)))) (eVar 4)))))) (sRet (eVar 2))))) := by
  have T : Tb (cxOf L2.CX0 P w K mg base N25 "_law_counts" (defScope (top 30)) ((GG K).fa 25) cdv A outer s H E).nox (GG K) cf (2 * n) := ⟨rfl, ih, hr, rfl⟩
  have nd := sc25.nd
  exact (ss_cons (ss_asg (ps_asg (toV (se_new (se_lst sa_nil))) (pg_name (i := 2) nd rfl (by first | exact Or.inl rfl | exact Or.inr rfl))) (tg_nm 2))
 (ss_cons (ss_for (ps_for PassesOwn.never rfl (si_rng1 rfl (m_b_range C) (se_bin op_catR ok_cat (se_lit pe_int fun _ _ => rfl) (sx_call T rfl (m_f__law_take C) (m_k__law_take C) (sa_cons (se_var (pv 0)) (sa_cons (se_var (pv 1)) sa_nil))))) (pg_name (i := 3) nd rfl (by first | exact Or.inl rfl | exact Or.inr rfl)) (ss_cons (ss_asg (ps_asg (toV (se_if (st_eq T (m_eqt C) (sx_call T rfl (m_f__law_take C) (m_k__law_take C) (sa_cons (se_var (pv 0)) (sa_cons (se_lit pe_int fun _ _ => rfl) sa_nil))) (se_lit pe_int fun _ _ => rfl) (nomark _)) (sx_call T rfl (m_f__law_take C) (m_k__law_take C) (sa_cons (se_var (pv 0)) (sa_cons (se_lit pe_int fun _ _ => rfl) sa_nil))) (sx_call T rfl (m_f__law_take C) (m_k__law_take C) (sa_cons (se_var (pv 0)) (sa_cons (se_lit pe_int fun _ _ => rfl) sa_nil))))) (pg_name (i := 4) nd rfl (by first | exact Or.inl rfl | exact Or.inr rfl))) (tg_nm 4))
 (ss_one (ss_expr (se_lm rfl chg_app (pe_bm PySem.F.plainAttrs_list PySem.F.slot_list_append PySem.F.type_list_append mt_append (toV (se_var (pv 2))) (pa_cons (toV (se_if (PW.pt (sw_and (st_ne T (m_eqt C) (se_var (pv 2)) (se_lst sa_nil) (nomark _)) (sw_one (st_eq T (m_eqt C) (sx_call T rfl (m_f__law_take C) (m_k__law_take C) (sa_cons (se_var (pv 0)) (sa_cons (se_lit pe_int fun _ _ => rfl) sa_nil))) (se_lit pe_int fun _ _ => rfl) (nomark _))))) (se_ixG T (m_spc___getitem__ C) (se_var (pv 2)) (se_un un_neg ok_neg (se_lit pe_int fun _ _ => rfl)) (fun _ _ => rfl) (fun _ _ => by with_unfolding_all rfl)) (se_var (pv 4)))) pa_nil))))))) (tg_nm 3))
 (ss_one (ss_ret (se_var (pv 2))))))
theorem ok25 {n : Nat} (C : Ctx K base mg) (ih : All P w K mg base (GG K) TT n) : ∀ np, FnR P w K mg base L2.CX0 (2 * (n + 1)) ((GG K).fa 25) (spF (GG K) (callF TT (n + 1)) 25 np) := by
  obtain ⟨fd, F⟩ := C.says.def_ 25 (d := d25) rfl
  exact def_ok (b := b25) rfl F sc25 rfl rfl (FunD_binds F fun _ _ _ _ _ _ us hl => match us, hl with | [_, _], _ => rfl) fun cdv A outer s H E n0 hr => dv25 C ih cdv A outer s H E n0 hr
abbrev N26 : List Str := ["_law_draw", "_law_width", "_law_value"]
theorem sc26 : FnScope N26 ["_law_draw", "_law_width"] (defScope (top 31)) := ⟨rfl, rfl, rfl, by decide +kernel, rfl, by decide +kernel, by decide +kernel⟩
theorem dv26 {n : Nat} {cf : CF} (C : Ctx K base mg) (ih : ∀ f np, FnR P w K mg base L2.CX0 (2 * n) ((GG K).fa f) (spF (GG K) cf f np)) (cdv : Value) (A : Around) (outer : List PySem.Env) (s : Shared) (H : Hp) (E : XK) (n0 : Nat) (hr : Room (2 * n + 1) (A.deeper (envOfC "_law_cuts" (defScope (top 31)) s.heap.objs.size ((GG K).fa 26) cdv))) :
    PSs (cxOf L2.CX0 P w K mg base N26 "_law_cuts" (defScope (top 31)) ((GG K).fa 26) cdv A outer s H E).nox (defBody (top 31)) (rdS (GG K) n0 (sRet (eArg bTuple (aCons (eBin oCat (eLst (aCons (eLit (.int 0)) aNil)) (eLc (iRg2 (eLit (.int 1)) (eVar 1)) (gNm 2) [2] (tBl (eEq cf [(0, 2), (1, 13)] [.non, .bl, .int, .str, .tup, .lst, .dct, .own 0, .own 1] (eCall cf 2 24 (aCons (eVar 0) (aCons (eLit (.int 2)) aNil))) (eLit (.int 0)))) (eVar 2))) aNil)))) := by
  have T : Tb (cxOf L2.CX0 P w K mg base N26 "_law_cuts" (defScope (top 31)) ((GG K).fa 26) cdv A outer s H E).nox (GG K) cf (2 * n) := ⟨rfl, ih, hr, rfl⟩
  have nd := sc26.nd
  exact (ss_one (ss_ret (se_argB (pe_callTy call_tuple_of rfl (m_b_tuple C) (by rfl) (sa_cons (se_bin op_catR ok_cat (se_lst (sa_cons (se_lit pe_int fun _ _ => rfl) sa_nil)) (se_lc (own := [("_law_value", 2)]) rfl nd (si_rng2 rfl (m_b_range C) (se_lit pe_int fun _ _ => rfl) (se_var (pv 1))) (blk_ok (own := [("_law_value", 2)]) (by kernel_rfl)) (tb_nm 2 (by decide)) (fun _ _ _ _ _ => (pg_name (i := 2) nd rfl (by first | exact Or.inl rfl | exact Or.inr rfl))) (fun _ _ _ _ _ => (sts_one (st_eq (T.blk _ _ _ _ _) (m_eqt C) (sx_call (T.blk _ _ _ _ _) rfl (m_f__law_take C) (m_k__law_take C) (sa_cons (se_var (pv 0)) (sa_cons (se_lit pe_int fun _ _ => rfl) sa_nil))) (se_lit pe_int fun _ _ => rfl) (nomark _)))) (fun _ _ _ _ _ => (se_var (pv 2))))) sa_nil)) ok_tuple)))
theorem ok26 {n : Nat} (C : Ctx K base mg) (ih : All P w K mg base (GG K) TT n) : ∀ np, FnR P w K mg base L2.CX0 (2 * (n + 1)) ((GG K).fa 26) (spF (GG K) (callF TT (n + 1)) 26 np) := by
  obtain ⟨fd, F⟩ := C.says.def_ 26 (d := d26) rfl
  exact def_ok (b := b26) rfl F sc26 rfl rfl (FunD_binds F fun _ _ _ _ _ _ us hl => match us, hl with | [_, _], _ => rfl) fun cdv A outer s H E n0 hr => dv26 C ih cdv A outer s H E n0 hr
abbrev N27 : List Str := ["_law_width", "_law_cuts_here"]
theorem sc27 : FnScope N27 ["_law_width", "_law_cuts_here"] (defScope (top 32)) := ⟨rfl, rfl, rfl, by decide +kernel, rfl, by decide +kernel, by decide +kernel⟩
theorem dv27 {n : Nat} {cf : CF} (C : Ctx K base mg) (ih : ∀ f np, FnR P w K mg base L2.CX0 (2 * n) ((GG K).fa f) (spF (GG K) cf f np)) (cdv : Value) (A : Around) (outer : List PySem.Env) (s : Shared) (H : Hp) (E : XK) (n0 : Nat) (hr : Room (2 * n + 1) (A.deeper (envOfC "_law_buckets" (defScope (top 32)) s.heap.objs.size ((GG K).fa 27) cdv))) :
    PSs (cxOf L2.CX0 P w K mg base N27 "_law_buckets" (defScope (top 32)) ((GG K).fa 27) cdv A outer s H E).nox (defBody (top 32)) (rdS (GG K) n0 (sRet (eLz (eVar 1) (eBin oCat (eArg bList (aCons (eSl (eVar 1) (pSo (eLit (.int 1))) pNo) aNil)) (eLst (aCons (eVar 0) aNil)))))) := by
  have T : Tb (cxOf L2.CX0 P w K mg base N27 "_law_buckets" (defScope (top 32)) ((GG K).fa 27) cdv A outer s H E).nox (GG K) cf (2 * n) := ⟨rfl, ih, hr, rfl⟩
  have nd := sc27.nd
  exact (ss_one (ss_ret (se_lz rfl rfl rfl (m_b_list C) rfl (m_b_zip C) (se_var (pv 1)) (se_bin op_catR ok_cat (se_argB (pe_callTy call_list_of rfl (m_b_list C) (by rfl) (sa_cons (se_sl rfl (se_var (pv 1)) (so_some (se_lit pe_int fun _ _ => rfl)) so_none) sa_nil)) ok_list) (se_lst (sa_cons (se_var (pv 0)) sa_nil))))))
theorem ok27 {n : Nat} (C : Ctx K base mg) (ih : All P w K mg base (GG K) TT n) : ∀ np, FnR P w K mg base L2.CX0 (2 * (n + 1)) ((GG K).fa 27) (spF (GG K) (callF TT (n + 1)) 27 np) := by
  obtain ⟨fd, F⟩ := C.says.def_ 27 (d := d27) rfl
  exact def_ok (b := b27) rfl F sc27 rfl rfl (FunD_binds F fun _ _ _ _ _ _ us hl => match us, hl with | [_, _], _ => rfl) fun cdv A outer s H E n0 hr => dv27 C ih cdv A outer s H E n0 hr
abbrev N28 : List Str := ["_law_above", "_law_below", "_law_one", "_law_other"]
theorem sc28 : FnScope N28 ["_law_above", "_law_below"] (defScope (top 33)) := ⟨rfl, rfl, rfl, by decide +kernel, rfl, by decide +kernel, by decide +kernel⟩
theorem dv28 {n : Nat} {cf : CF} (C : Ctx K base mg) (ih : ∀ f np, FnR P w K mg base L2.CX0 (2 * n) ((GG K).fa f) (spF (GG K) cf f np)) (cdv : Value) (A : Around) (outer : List PySem.Env) (s : Shared) (H : Hp) (E : XK) (n0 : Nat) (hr : Room (2 * n + 1) (A.deeper (envOfC "_law_fraction" (defScope (top 33)) s.heap.objs.size ((GG K).fa 28) cdv))) :
    PSs (cxOf L2.CX0 P w K mg base N28 "_law_fraction" (defScope (top 33)) ((GG K).fa 28) cdv A outer s H E).nox (defBody (top 33)) (rdS (GG K) n0 (sCons (sPar [2, 3] (aCons (eVar 0) (aCons (eVar 1) aNil))) (sCons (sWhl 100 (tBl (eNe cf [(0, 2), (1, 13)] [.non, .bl, .int, .str, .tup, .lst, .dct, .own 0, .own 1] (eVar 3) (eLit (.int 0)))) (sPar [2, 3] (aCons (eVar 3) (aCons (eBin oMod (eVar 2) (eVar 3)) aNil)))) (sRet (eTup (aCons (eBin oDiv (eVar 0) (eVar 2)) (aCons (eBin oDiv (eVar 1) (eVar 2)) aNil))))))) := by
  have T : Tb (cxOf L2.CX0 P w K mg base N28 "_law_fraction" (defScope (top 33)) ((GG K).fa 28) cdv A outer s H E).nox (GG K) cf (2 * n) := ⟨rfl, ih, hr, rfl⟩
  have nd := sc28.nd
  exact (ss_cons (ss_par (ps_par (i := 2) (j := 3) rfl nd rfl rfl (by decide) rfl rfl (sa_cons (se_var (pv 0)) (sa_cons (se_var (pv 1)) sa_nil)) (by rfl)))
 (ss_cons (ss_whl (ps_while PassesOwn.never (st_ne T (m_eqt C) (se_var (pv 3)) (se_lit pe_int fun _ _ => rfl) (nomark _)) (ss_one (ss_par (ps_par (i := 2) (j := 3) rfl nd rfl rfl (by decide) rfl rfl (sa_cons (se_var (pv 3)) (sa_cons (se_bin op_mod ok_mod (se_var (pv 2)) (se_var (pv 3))) sa_nil)) (by rfl))))))
 (ss_one (ss_ret (se_tup (sa_cons (se_bin op_fdiv ok_div (se_var (pv 0)) (se_var (pv 2))) (sa_cons (se_bin op_fdiv ok_div (se_var (pv 1)) (se_var (pv 2))) sa_nil)))))))
theorem ok28 {n : Nat} (C : Ctx K base mg) (ih : All P w K mg base (GG K) TT n) : ∀ np, FnR P w K mg base L2.CX0 (2 * (n + 1)) ((GG K).fa 28) (spF (GG K) (callF TT (n + 1)) 28 np) := by
  obtain ⟨fd, F⟩ := C.says.def_ 28 (d := d28) rfl
  exact def_ok (b := b28) rfl F sc28 rfl rfl (FunD_binds F fun _ _ _ _ _ _ us hl => match us, hl with | [_, _], _ => rfl) fun cdv A outer s H E n0 hr => dv28 C ih cdv A outer s H E n0 hr
abbrev N29 : List Str := ["_law_draw", "_law_width", "_law_column", "_law_cuts_here", "_law_buckets_here", "_law_totals", "_law_hist", "_law_first", "_law_past", "_law_even", "_law_total", "_law_begin", "_law_end", "_law_some", "_law_bent", "_law_at", "_law_cut"]
theorem sc29 : FnScope N29 ["_law_draw", "_law_width", "_law_column", "_law_cuts_here", "_law_buckets_here", "_law_totals", "_law_hist"] (defScope (top 34)) := ⟨rfl, rfl, rfl, by decide +kernel, rfl, by decide +kernel, by decide +kernel⟩
theorem dv29 {n : Nat} {cf : CF} (C : Ctx K base mg) (ih : ∀ f np, FnR P w K mg base L2.CX0 (2 * n) ((GG K).fa f) (spF (GG K) cf f np)) (cdv : Value) (A : Around) (outer : List PySem.Env) (s : Shared) (H : Hp) (E : XK) (n0 : Nat) (hr : Room (2 * n + 1) (A.deeper (envOfC "_law_estimates_right" (defScope (top 34)) s.heap.objs.size ((GG K).fa 29) cdv))) :
    PSs (cxOf L2.CX0 P w K mg base N29 "_law_estimates_right" (defScope (top 34)) ((GG K).fa 29) cdv A outer s H E).nox (defBody (top 34)) (rdS (GG K) n0 (sCons (sAsg (gNm 7) (eCall cf 2 24 (aCons (eVar 0) (aCons (eVar 1) aNil)))) (sCons (sAsg (gNm 8) (eBin oCat (eBin oCat (eVar 7) (eLit (.int 1))) (eCall cf 2 24 (aCons (eVar 0) (aCons (eBin oSub (eVar 1) (eVar 7)) aNil))))) (sCons (sAsg (gNm 9) (eLst aNil)) (sCons (sFor (iZip (eVar 5) (eVar 4)) (gTp [(gNm 10), (gTp [(gNm 11), (gNm 12)])]) (sAsg (gNm 9) (eBin oCat (eVar 9) (eBin oRep (eLst (aCons (eBin oRep (eVar 10) (eBin oDiv (eLit (.int 27720)) (eBin oSub (eVar 12) (eVar 11)))) aNil)) (eBin oSub (eVar 12) (eVar 11)))))) (sCons (sIf (tBl (eNe cf [(0, 2), (1, 13)] [.non, .bl, .int, .str, .tup, .lst, .dct, .own 0, .own 1] (eCall cf 3 21 (aCons (eVar 6) (aCons (eVar 7) (aCons (eVar 8) aNil)))) (eCall cf 2 28 (aCons (eArg bSum (aCons (eSl (eVar 9) (pSo (eVar 7)) (pSo (eVar 8))) aNil)) (aCons (eLit (.int 27720)) aNil))))) (sRet (eLit (.bl false))) sNil) (sCons (sAsg (gNm 13) (eArg bTuple (aCons (eBin oCat (eLst (aCons (eLit (.int 0)) aNil)) (eLc (iSeq (eSl (eVar 3) (pSo (eLit (.int 1))) pNo)) (gNm 16) [16] (tBl (eEq cf [(0, 2), (1, 13)] [.non, .bl, .int, .str, .tup, .lst, .dct, .own 0, .own 1] (eCall cf 2 24 (aCons (eVar 0) (aCons (eLit (.int 2)) aNil))) (eLit (.int 0)))) (eVar 16))) aNil))) (sCons (sIf (tOr (tBl (eNe cf [(0, 2), (1, 13)] [.non, .bl, .int, .str, .tup, .lst, .dct, .own 0, .own 1] (eCall cf 2 22 (aCons (eVar 6) (aCons (eVar 13) aNil))) (eCall cf 2 18 (aCons (eVar 2) (aCons (eVar 13) aNil))))) (tBl (eNe cf [(0, 2), (1, 13)] [.non, .bl, .int, .str, .tup, .lst, .dct, .own 0, .own 1] (eCall cf 2 22 (aCons (eVar 6) (aCons (eVar 3) aNil))) (eVar 6)))) (sRet (eLit (.bl false))) sNil) (sCons (sIf (tOr (tBl (eNe cf [(0, 2), (1, 13)] [.non, .bl, .int, .str, .tup, .lst, .dct, .own 0, .own 1] (eArg bSum (aCons (eFld [1] 3 (eVar 6)) aNil)) (eMeth cf 1 7 [(0, 6)] (eVar 2) aNil))) (tBl (eNe cf [(0, 2), (1, 13)] [.non, .bl, .int, .str, .tup, .lst, .dct, .own 0, .own 1] (eCall cf 3 21 (aCons (eVar 6) (aCons (eLit (.int 0)) (aCons (eVar 1) aNil)))) (eTup (aCons (eMeth cf 1 7 [(0, 6)] (eVar 2) aNil) (aCons (eLit (.int 1)) aNil)))))) (sRet (eLit (.bl false))) sNil) (sCons (sAsg (gNm 14) (eNew (eArg bList (aCons (eVar 5) aNil)))) (sCons (sAsg (gNm 15) (eCall cf 2 24 (aCons (eVar 0) (aCons (eLen cf [(0, 3), (1, 14)] (eVar 14)) aNil)))) (sCons (sSetI (setG n0) (eVar 14) (eVar 15) (eIf (tBl (eBin oGt (eIx cf [(0, 4)] (eVar 14) (eVar 15)) (eLit (.int 0)))) (eLit (.int 0)) (eLit (.int 1)))) (sCons (sIf (tOr (tBl (eEq cf [(0, 2), (1, 13)] [.non, .bl, .int, .str, .tup, .lst, .dct, .own 0, .own 1] (eVar 6) (eMake cf 4 1 12 (aCons (eVar 1) (aCons (eVar 3) (aCons (eArg bTuple (aCons (eVar 14) aNil)) aNil)))))) (tAn (tBl (eBin oLt (eVar 1) (eLit (.int 12)))) (tBl (eEq cf [(0, 2), (1, 13)] [.non, .bl, .int, .str, .tup, .lst, .dct, .own 0, .own 1] (eVar 6) (eMake cf 4 1 12 (aCons (eBin oCat (eVar 1) (eLit (.int 1))) (aCons (eVar 3) (aCons (eVar 5) aNil)))))))) (sRet (eLit (.bl false))) sNil) (sRet (eLit (.bl true)))))))))))))))) := by
  have T : Tb (cxOf L2.CX0 P w K mg base N29 "_law_estimates_right" (defScope (top 34)) ((GG K).fa 29) cdv A outer s H E).nox (GG K) cf (2 * n) := ⟨rfl, ih, hr, rfl⟩
  have nd := sc29.nd
  exact (ss_cons (ss_asg (ps_asg (toV (sx_call T rfl (m_f__law_take C) (m_k__law_take C) (sa_cons (se_var (pv 0)) (sa_cons (se_var (pv 1)) sa_nil)))) (pg_name (i := 7) nd rfl (by first | exact Or.inl rfl | exact Or.inr rfl))) (tg_nm 7))
 (ss_cons (ss_asg (ps_asg (toV (se_bin op_catR ok_cat (se_bin op_catR ok_cat (se_var (pv 7)) (se_lit pe_int fun _ _ => rfl)) (sx_call T rfl (m_f__law_take C) (m_k__law_take C) (sa_cons (se_var (pv 0)) (sa_cons (se_bin op_sub ok_sub (se_var (pv 1)) (se_var (pv 7))) sa_nil))))) (pg_name (i := 8) nd rfl (by first | exact Or.inl rfl | exact Or.inr rfl))) (tg_nm 8))
 (ss_cons (ss_asg (ps_asg (toV (se_lst sa_nil)) (pg_name (i := 9) nd rfl (by first | exact Or.inl rfl | exact Or.inr rfl))) (tg_nm 9))
 (ss_cons (ss_for (ps_for PassesOwn.never rfl (si_zip rfl rfl (m_b_zip C) (se_var (pv 5)) (se_var (pv 4))) (pg_tup rfl (pgs_cons (pg_name (i := 10) nd rfl (by first | exact Or.inl rfl | exact Or.inr rfl)) (pgs_cons (pg_tup rfl (pgs_cons (pg_name (i := 11) nd rfl (by first | exact Or.inl rfl | exact Or.inr rfl)) (pgs_cons (pg_name (i := 12) nd rfl (by first | exact Or.inl rfl | exact Or.inr rfl)) pgs_nil))) pgs_nil))) (ss_one (ss_asg (ps_asg (toV (se_bin op_catR ok_cat (se_var (pv 9)) (se_bin op_repR ok_rep (se_lst (sa_cons (se_bin op_repR ok_rep (se_var (pv 10)) (se_bin op_fdiv ok_div (se_lit pe_int fun _ _ => rfl) (se_bin op_sub ok_sub (se_var (pv 12)) (se_var (pv 11))))) sa_nil)) (se_bin op_sub ok_sub (se_var (pv 12)) (se_var (pv 11)))))) (pg_name (i := 9) nd rfl (by first | exact Or.inl rfl | exact Or.inr rfl))) (tg_nm 9)))) (tg_tp (tgs_cons (tg_nm 10) (tgs_cons (tg_tp (tgs_cons (tg_nm 11) (tgs_cons (tg_nm 12) tgs_nil)) rfl) tgs_nil)) rfl))
 (ss_cons (ss_if (st_ne T (m_eqt C) (sx_call T rfl (m_f_estimate C) (m_k_estimate C) (sa_cons (se_var (pv 6)) (sa_cons (se_var (pv 7)) (sa_cons (se_var (pv 8)) sa_nil)))) (sx_call T rfl (m_f__law_fraction C) (m_k__law_fraction C) (sa_cons (se_argB (pe_callB (cr_sumA rfl) rfl (m_b_sum C) (by rfl) (sa_cons (se_sl rfl (se_var (pv 9)) (so_some (se_var (pv 7))) (so_some (se_var (pv 8)))) sa_nil)) ok_sum) (sa_cons (se_lit pe_int fun _ _ => rfl) sa_nil))) (nomark _)) (ss_one (ss_ret (se_lit pe_bl fun _ _ => rfl))) ss_nil)
 (ss_cons (ss_asg (ps_asg (toV (se_argB (pe_callTy call_tuple_of rfl (m_b_tuple C) (by rfl) (sa_cons (se_bin op_catR ok_cat (se_lst (sa_cons (se_lit pe_int fun _ _ => rfl) sa_nil)) (se_lc (own := [("_law_cut", 16)]) rfl nd (si_seq rfl (se_sl rfl (se_var (pv 3)) (so_some (se_lit pe_int fun _ _ => rfl)) so_none)) (blk_ok (own := [("_law_cut", 16)]) (by kernel_rfl)) (tb_nm 16 (by decide)) (fun _ _ _ _ _ => (pg_name (i := 16) nd rfl (by first | exact Or.inl rfl | exact Or.inr rfl))) (fun _ _ _ _ _ => (sts_one (st_eq (T.blk _ _ _ _ _) (m_eqt C) (sx_call (T.blk _ _ _ _ _) rfl (m_f__law_take C) (m_k__law_take C) (sa_cons (se_var (pv 0)) (sa_cons (se_lit pe_int fun _ _ => rfl) sa_nil))) (se_lit pe_int fun _ _ => rfl) (nomark _)))) (fun _ _ _ _ _ => (se_var (pv 16))))) sa_nil)) ok_tuple)) (pg_name (i := 13) nd rfl (by first | exact Or.inl rfl | exact Or.inr rfl))) (tg_nm 13))
 (ss_cons (ss_if (PW.pt (sw_or (st_ne T (m_eqt C) (sx_call T rfl (m_f_coarser C) (m_k_coarser C) (sa_cons (se_var (pv 6)) (sa_cons (se_var (pv 13)) sa_nil))) (sx_call T rfl (m_f_histogram C) (m_k_histogram C) (sa_cons (se_var (pv 2)) (sa_cons (se_var (pv 13)) sa_nil))) (nomark _)) (sw_one (st_ne T (m_eqt C) (sx_call T rfl (m_f_coarser C) (m_k_coarser C) (sa_cons (se_var (pv 6)) (sa_cons (se_var (pv 3)) sa_nil))) (se_var (pv 6)) (nomark _))))) (ss_one (ss_ret (se_lit pe_bl fun _ _ => rfl))) ss_nil)
 (ss_cons (ss_if (PW.pt (sw_or (st_ne T (m_eqt C) (se_argB (pe_callB (cr_sumA rfl) rfl (m_b_sum C) (by rfl) (sa_cons (se_fld (f := 3) rfl (inj 3 (by decide)) (m_fld_totals C) (se_var (pv 6))) sa_nil)) ok_sum) (se_meth0 (m := 7) T (inj 7 (by decide)) (m_met_rows C) (se_var (pv 2))) (nomark _)) (sw_one (st_ne T (m_eqt C) (sx_call T rfl (m_f_estimate C) (m_k_estimate C) (sa_cons (se_var (pv 6)) (sa_cons (se_lit pe_int fun _ _ => rfl) (sa_cons (se_var (pv 1)) sa_nil)))) (se_tup (sa_cons (se_meth0 (m := 7) T (inj 7 (by decide)) (m_met_rows C) (se_var (pv 2))) (sa_cons (se_lit pe_int fun _ _ => rfl) sa_nil))) (nomark _))))) (ss_one (ss_ret (se_lit pe_bl fun _ _ => rfl))) ss_nil)
 (ss_cons (ss_asg (ps_asg (toV (se_new (se_argB (pe_callTy call_list_of rfl (m_b_list C) (by rfl) (sa_cons (se_var (pv 5)) sa_nil)) ok_list))) (pg_name (i := 14) nd rfl (by first | exact Or.inl rfl | exact Or.inr rfl))) (tg_nm 14))
 (ss_cons (ss_asg (ps_asg (toV (sx_call T rfl (m_f__law_take C) (m_k__law_take C) (sa_cons (se_var (pv 0)) (sa_cons (se_len T rfl (m_b_len C) (fun p hp => ((m_spc___len__ C) p hp).1) (se_var (pv 14))) sa_nil)))) (pg_name (i := 15) nd rfl (by first | exact Or.inl rfl | exact Or.inr rfl))) (tg_nm 15))
 (ss_cons (ss_setI chg_setG (ps_asg (toV (se_if (st_cmp op_gt ok_gt (se_ixG T (m_spc___getitem__ C) (se_var (pv 14)) (se_var (pv 15)) (fun _ _ => rfl) (fun _ _ => by with_unfolding_all rfl)) (se_lit pe_int fun _ _ => rfl) (nomark _)) (se_lit pe_int fun _ _ => rfl) (se_lit pe_int fun _ _ => rfl))) (pg_sub (toV (se_var (pv 14))) (toV (se_var (pv 15))) (set_G (units2 T)))))
 (ss_cons (ss_if (PW.pt (sw_or (st_eq T (m_eqt C) (se_var (pv 6)) (se_make T (m_mk_Histogram C) rfl (m_c_Histogram C) (sa_cons (se_var (pv 1)) (sa_cons (se_var (pv 3)) (sa_cons (se_argB (pe_callTy call_tuple_of rfl (m_b_tuple C) (by rfl) (sa_cons (se_var (pv 14)) sa_nil)) ok_tuple) sa_nil)))) (nomark _)) (sw_one (PW.pt (sw_and (st_cmp op_lt ok_lt (se_var (pv 1)) (se_lit pe_int fun _ _ => rfl) (nomark _)) (sw_one (st_eq T (m_eqt C) (se_var (pv 6)) (se_make T (m_mk_Histogram C) rfl (m_c_Histogram C) (sa_cons (se_bin op_catR ok_cat (se_var (pv 1)) (se_lit pe_int fun _ _ => rfl)) (sa_cons (se_var (pv 3)) (sa_cons (se_var (pv 5)) sa_nil)))) (nomark _)))))))) (ss_one (ss_ret (se_lit pe_bl fun _ _ => rfl))) ss_nil)
 (ss_one (ss_ret (se_lit pe_bl fun _ _ => rfl)))))))))))))))
theorem ok29 {n : Nat} (C : Ctx K base mg) (ih : All P w K mg base (GG K) TT n) : ∀ np, FnR P w K mg base L2.CX0 (2 * (n + 1)) ((GG K).fa 29) (spF (GG K) (callF TT (n + 1)) 29 np) := by
  obtain ⟨fd, F⟩ := C.says.def_ 29 (d := d29) rfl
  exact def_ok (b := b29) rfl F sc29 rfl rfl (FunD_binds F fun _ _ _ _ _ _ us hl => match us, hl with | [_, _, _, _, _, _, _], _ => rfl) fun cdv A outer s H E n0 hr => dv29 C ih cdv A outer s H E n0 hr
abbrev N30 : List Str := ["_law_script", "_law_draw", "_law_turn", "_law_counts_here", "_law_width", "_law_column", "_law_cuts_here", "_law_buckets_here", "_law_totals", "_law_hist", "_law_first", "_law_past", "_law_one"]
theorem sc30 : FnScope N30 ["_law_script"] (defScope (top 35)) := ⟨rfl, rfl, rfl, by decide +kernel, rfl, by decide +kernel, by decide +kernel⟩
theorem dv30 {n : Nat} {cf : CF} (C : Ctx K base mg) (ih : ∀ f np, FnR P w K mg base L2.CX0 (2 * n) ((GG K).fa f) (spF (GG K) cf f np)) (cdv : Value) (A : Around) (outer : List PySem.Env) (s : Shared) (H : Hp) (E : XK) (n0 : Nat) (hr : Room (2 * n + 1) (A.deeper (envOfC "law" (defScope (top 35)) s.heap.objs.size ((GG K).fa 30) cdv))) :
    PSs (cxOf L2.CX0 P w K mg base N30 "law" (defScope (top 35)) ((GG K).fa 30) cdv A outer s H E).nox (defBody (top 35)) (rdS (GG K) n0 (sCons (sAsg (gNm 1) (eNew (eLst (aCons (eVar 0) (aCons (eLit (.int 0)) aNil))))) (sCons (sFor (iRg1 (eLit (.int 5))) (gNm 2) (sCons (sAsg (gNm 3) (eCall cf 2 25 (aCons (eVar 1) (aCons (eLit (.int 12)) aNil)))) (sCons (sPar [4, 5] (aCons (eLen cf [(0, 3), (1, 14)] (eVar 3)) (aCons (eMake cf 2 0 1 (aCons (eVar 3) aNil)) aNil))) (sCons (sAsg (gNm 6) (eCall cf 2 26 (aCons (eVar 1) (aCons (eVar 4) aNil)))) (sCons (sAsg (gNm 7) (eCall cf 2 27 (aCons (eVar 4) (aCons (eVar 6) aNil)))) (sCons (sAsg (gNm 8) (eArg bTuple (aCons (eLc (iSeq (eVar 7)) (gTp [(gNm 10), (gNm 11)]) [10, 11] tYesP (eArg bSum (aCons (eSl (eVar 3) (pSo (eVar 10)) (pSo (eVar 11))) aNil))) aNil))) (sCons (sAsg (gNm 9) (eCall cf 2 18 (aCons (eVar 5) (aCons (eVar 6) aNil)))) (sCons (sIf (tBl (eNe cf [(0, 2), (1, 13)] [.non, .bl, .int, .str, .tup, .lst, .dct, .own 0, .own 1] (eTup (aCons (eFld [1] 1 (eVar 9)) (aCons (eFld [1] 2 (eVar 9)) (aCons (eFld [1] 3 (eVar 9)) (aCons (eLen cf [(0, 3), (1, 14)] (eVar 9)) aNil))))) (eTup (aCons (eVar 4) (aCons (eVar 6) (aCons (eVar 8) (aCons (eLen cf [(0, 3), (1, 14)] (eVar 6)) aNil))))))) (sRet (eLit (.bl false))) sNil) (sCons (sIf (tBl (eNe cf [(0, 2), (1, 13)] [.non, .bl, .int, .str, .tup, .lst, .dct, .own 0, .own 1] (eMeth cf 1 5 [(1, 16)] (eVar 9) aNil) (eVar 7))) (sRet (eLit (.bl false))) sNil) (sCons (sIf (tBl (eNe cf [(0, 2), (1, 13)] [.non, .bl, .int, .str, .tup, .lst, .dct, .own 0, .own 1] (eCall cf 2 19 (aCons (eVar 5) (aCons (eVar 6) aNil))) (eArg bTuple (aCons (eLc (iSeq (eVar 7)) (gTp [(gNm 10), (gNm 11)]) [10, 11] tYesP (eArg bMaxL (aCons (eSl (eVar 3) (pSo (eVar 10)) (pSo (eVar 11))) aNil))) aNil)))) (sRet (eLit (.bl false))) sNil) (sCons (sIf (tBl (eNe cf [(0, 2), (1, 13)] [.non, .bl, .int, .str, .tup, .lst, .dct, .own 0, .own 1] (eCall cf 2 20 (aCons (eVar 5) (aCons (eVar 6) aNil))) (eArg bTuple (aCons (eLc (iSeq (eVar 7)) (gTp [(gNm 10), (gNm 11)]) [10, 11] tYesP (eLen cf [(0, 3), (1, 14)] (eLc (iSeq (eSl (eVar 3) (pSo (eVar 10)) (pSo (eVar 11)))) (gNm 12) [12] (tBl (eBin oGt (eVar 12) (eLit (.int 0)))) (eVar 12)))) aNil)))) (sRet (eLit (.bl false))) sNil) (sCons (sIf (tOr (tBl (eNe cf [(0, 2), (1, 13)] [.non, .bl, .int, .str, .tup, .lst, .dct, .own 0, .own 1] (eVar 9) (eMake cf 4 1 12 (aCons (eVar 4) (aCons (eVar 6) (aCons (eVar 8) aNil)))))) (tAn (tBl (eBin oGt (eLen cf [(0, 3), (1, 14)] (eVar 6)) (eLit (.int 1)))) (tBl (eEq cf [(0, 2), (1, 13)] [.non, .bl, .int, .str, .tup, .lst, .dct, .own 0, .own 1] (eVar 9) (eCall cf 2 18 (aCons (eVar 5) (aCons (eSl (eVar 6) pNo (pSo (eUn oNeg (eLit (.int 1))))) aNil))))))) (sRet (eLit (.bl false))) sNil) (sIf (tNo (tTru (eCall cf 7 29 (aCons (eVar 1) (aCons (eVar 4) (aCons (eVar 5) (aCons (eVar 6) (aCons (eVar 7) (aCons (eVar 8) (aCons (eVar 9) aNil)))))))))) (sRet (eLit (.bl false))) sNil))))))))))))) (sRet (eLit (.bl true)))))) := by
  have T : Tb (cxOf L2.CX0 P w K mg base N30 "law" (defScope (top 35)) ((GG K).fa 30) cdv A outer s H E).nox (GG K) cf (2 * n) := ⟨rfl, ih, hr, rfl⟩
  have nd := sc30.nd
  exact (ss_cons (ss_asg (ps_asg (toV (se_new (se_lst (sa_cons (se_var (pv 0)) (sa_cons (se_lit pe_int fun _ _ => rfl) sa_nil))))) (pg_name (i := 1) nd rfl (by first | exact Or.inl rfl | exact Or.inr rfl))) (tg_nm 1))
 (ss_cons (ss_for (ps_for PassesOwn.never rfl (si_rng1 rfl (m_b_range C) (se_lit pe_int fun _ _ => rfl)) (pg_name (i := 2) nd rfl (by first | exact Or.inl rfl | exact Or.inr rfl)) (ss_cons (ss_asg (ps_asg (toV (sx_call T rfl (m_f__law_counts C) (m_k__law_counts C) (sa_cons (se_var (pv 1)) (sa_cons (se_lit pe_int fun _ _ => rfl) sa_nil)))) (pg_name (i := 3) nd rfl (by first | exact Or.inl rfl | exact Or.inr rfl))) (tg_nm 3))
 (ss_cons (ss_par (ps_par (i := 4) (j := 5) rfl nd rfl rfl (by decide) rfl rfl (sa_cons (se_len T rfl (m_b_len C) (fun p hp => ((m_spc___len__ C) p hp).1) (se_var (pv 3))) (sa_cons (se_make T (m_mk_Column C) rfl (m_c_Column C) (sa_cons (se_var (pv 3)) sa_nil)) sa_nil)) (by rfl)))
 (ss_cons (ss_asg (ps_asg (toV (sx_call T rfl (m_f__law_cuts C) (m_k__law_cuts C) (sa_cons (se_var (pv 1)) (sa_cons (se_var (pv 4)) sa_nil)))) (pg_name (i := 6) nd rfl (by first | exact Or.inl rfl | exact Or.inr rfl))) (tg_nm 6))
 (ss_cons (ss_asg (ps_asg (toV (sx_call T rfl (m_f__law_buckets C) (m_k__law_buckets C) (sa_cons (se_var (pv 4)) (sa_cons (se_var (pv 6)) sa_nil)))) (pg_name (i := 7) nd rfl (by first | exact Or.inl rfl | exact Or.inr rfl))) (tg_nm 7))
 (ss_cons (ss_asg (ps_asg (toV (se_argB (pe_callTy call_tuple_of rfl (m_b_tuple C) (by rfl) (sa_cons (se_lc (own := [("_law_first", 10), ("_law_past", 11)]) rfl nd (si_seq rfl (se_var (pv 7))) (blk_ok (own := [("_law_first", 10), ("_law_past", 11)]) (by kernel_rfl)) (tb_tp (tbs_cons (tb_nm 10 (by decide)) (tbs_cons (tb_nm 11 (by decide)) tbs_nil)) rfl) (fun _ _ _ _ _ => (pg_tup rfl (pgs_cons (pg_name (i := 10) nd rfl (by first | exact Or.inl rfl | exact Or.inr rfl)) (pgs_cons (pg_name (i := 11) nd rfl (by first | exact Or.inl rfl | exact Or.inr rfl)) pgs_nil)))) (fun _ _ _ _ _ => sts_nil) (fun _ _ _ _ _ => (se_argB (pe_callB (cr_sumA rfl) rfl (m_b_sum C) (by rfl) (sa_cons (se_sl rfl (se_var (pv 3)) (so_some (se_var (pv 10))) (so_some (se_var (pv 11)))) sa_nil)) ok_sum))) sa_nil)) ok_tuple)) (pg_name (i := 8) nd rfl (by first | exact Or.inl rfl | exact Or.inr rfl))) (tg_nm 8))
 (ss_cons (ss_asg (ps_asg (toV (sx_call T rfl (m_f_histogram C) (m_k_histogram C) (sa_cons (se_var (pv 5)) (sa_cons (se_var (pv 6)) sa_nil)))) (pg_name (i := 9) nd rfl (by first | exact Or.inl rfl | exact Or.inr rfl))) (tg_nm 9))
 (ss_cons (ss_if (st_ne T (m_eqt C) (se_tup (sa_cons (se_fld (f := 1) rfl (inj 1 (by decide)) (m_fld_width C) (se_var (pv 9))) (sa_cons (se_fld (f := 2) rfl (inj 2 (by decide)) (m_fld_cuts C) (se_var (pv 9))) (sa_cons (se_fld (f := 3) rfl (inj 3 (by decide)) (m_fld_totals C) (se_var (pv 9))) (sa_cons (se_len T rfl (m_b_len C) (fun p hp => ((m_spc___len__ C) p hp).1) (se_var (pv 9))) sa_nil))))) (se_tup (sa_cons (se_var (pv 4)) (sa_cons (se_var (pv 6)) (sa_cons (se_var (pv 8)) (sa_cons (se_len T rfl (m_b_len C) (fun p hp => ((m_spc___len__ C) p hp).1) (se_var (pv 6))) sa_nil))))) (nomark _)) (ss_one (ss_ret (se_lit pe_bl fun _ _ => rfl))) ss_nil)
 (ss_cons (ss_if (st_ne T (m_eqt C) (se_meth0 (m := 5) T (inj 5 (by decide)) (m_met_buckets C) (se_var (pv 9))) (se_var (pv 7)) (nomark _)) (ss_one (ss_ret (se_lit pe_bl fun _ _ => rfl))) ss_nil)
 (ss_cons (ss_if (st_ne T (m_eqt C) (sx_call T rfl (m_f_caps_of C) (m_k_caps_of C) (sa_cons (se_var (pv 5)) (sa_cons (se_var (pv 6)) sa_nil))) (se_argB (pe_callTy call_tuple_of rfl (m_b_tuple C) (by rfl) (sa_cons (se_lc (own := [("_law_first", 10), ("_law_past", 11)]) rfl nd (si_seq rfl (se_var (pv 7))) (blk_ok (own := [("_law_first", 10), ("_law_past", 11)]) (by kernel_rfl)) (tb_tp (tbs_cons (tb_nm 10 (by decide)) (tbs_cons (tb_nm 11 (by decide)) tbs_nil)) rfl) (fun _ _ _ _ _ => (pg_tup rfl (pgs_cons (pg_name (i := 10) nd rfl (by first | exact Or.inl rfl | exact Or.inr rfl)) (pgs_cons (pg_name (i := 11) nd rfl (by first | exact Or.inl rfl | exact Or.inr rfl)) pgs_nil)))) (fun _ _ _ _ _ => sts_nil) (fun _ _ _ _ _ => (se_argB (pe_callB (cr_maxA rfl (Tb.room (T.blk _ _ _ _ _)).units) rfl (m_b_max C) (by rfl) (sa_cons (se_sl rfl (se_var (pv 3)) (so_some (se_var (pv 10))) (so_some (se_var (pv 11)))) sa_nil)) ok_maxL))) sa_nil)) ok_tuple) (nomark _)) (ss_one (ss_ret (se_lit pe_bl fun _ _ => rfl))) ss_nil)
 (ss_cons (ss_if (st_ne T (m_eqt C) (sx_call T rfl (m_f_fills_of C) (m_k_fills_of C) (sa_cons (se_var (pv 5)) (sa_cons (se_var (pv 6)) sa_nil))) (se_argB (pe_callTy call_tuple_of rfl (m_b_tuple C) (by rfl) (sa_cons (se_lc (own := [("_law_first", 10), ("_law_past", 11)]) rfl nd (si_seq rfl (se_var (pv 7))) (blk_ok (own := [("_law_first", 10), ("_law_past", 11)]) (by kernel_rfl)) (tb_tp (tbs_cons (tb_nm 10 (by decide)) (tbs_cons (tb_nm 11 (by decide)) tbs_nil)) rfl) (fun _ _ _ _ _ => (pg_tup rfl (pgs_cons (pg_name (i := 10) nd rfl (by first | exact Or.inl rfl | exact Or.inr rfl)) (pgs_cons (pg_name (i := 11) nd rfl (by first | exact Or.inl rfl | exact Or.inr rfl)) pgs_nil)))) (fun _ _ _ _ _ => sts_nil) (fun _ _ _ _ _ => (se_len (T.blk _ _ _ _ _) rfl (m_b_len C) (fun p hp => ((m_spc___len__ C) p hp).1) (se_lc (own := [("_law_one", 12)]) rfl nd (si_seq rfl (se_sl rfl (se_var (pv 3)) (so_some (se_var (pv 10))) (so_some (se_var (pv 11))))) (blk_ok (own := [("_law_one", 12)]) (by kernel_rfl)) (tb_nm 12 (by decide)) (fun _ _ _ _ _ => (pg_name (i := 12) nd rfl (by first | exact Or.inl rfl | exact Or.inr rfl))) (fun _ _ _ _ _ => (sts_one (st_cmp op_gt ok_gt (se_var (pv 12)) (se_lit pe_int fun _ _ => rfl) (nomark _)))) (fun _ _ _ _ _ => (se_var (pv 12))))))) sa_nil)) ok_tuple) (nomark _)) (ss_one (ss_ret (se_lit pe_bl fun _ _ => rfl))) ss_nil)
 (ss_cons (ss_if (PW.pt (sw_or (st_ne T (m_eqt C) (se_var (pv 9)) (se_make T (m_mk_Histogram C) rfl (m_c_Histogram C) (sa_cons (se_var (pv 4)) (sa_cons (se_var (pv 6)) (sa_cons (se_var (pv 8)) sa_nil)))) (nomark _)) (sw_one (PW.pt (sw_and (st_cmp op_gt ok_gt (se_len T rfl (m_b_len C) (fun p hp => ((m_spc___len__ C) p hp).1) (se_var (pv 6))) (se_lit pe_int fun _ _ => rfl) (nomark _)) (sw_one (st_eq T (m_eqt C) (se_var (pv 9)) (sx_call T rfl (m_f_histogram C) (m_k_histogram C) (sa_cons (se_var (pv 5)) (sa_cons (se_sl rfl (se_var (pv 6)) so_none (so_some (se_un un_neg ok_neg (se_lit pe_int fun _ _ => rfl)))) sa_nil))) (nomark _)))))))) (ss_one (ss_ret (se_lit pe_bl fun _ _ => rfl))) ss_nil)
 (ss_one (ss_if (st_no (st_tru rfl (sx_call T rfl (m_f__law_estimates_right C) (m_k__law_estimates_right C) (sa_cons (se_var (pv 1)) (sa_cons (se_var (pv 4)) (sa_cons (se_var (pv 5)) (sa_cons (se_var (pv 6)) (sa_cons (se_var (pv 7)) (sa_cons (se_var (pv 8)) (sa_cons (se_var (pv 9)) sa_nil)))))))))) (ss_one (ss_ret (se_lit pe_bl fun _ _ => rfl))) ss_nil)))))))))))))) (tg_nm 2))
 (ss_one (ss_ret (se_lit pe_bl fun _ _ => rfl)))))
theorem ok30 {n : Nat} (C : Ctx K base mg) (ih : All P w K mg base (GG K) TT n) : ∀ np, FnR P w K mg base L2.CX0 (2 * (n + 1)) ((GG K).fa 30) (spF (GG K) (callF TT (n + 1)) 30 np) := by
  obtain ⟨fd, F⟩ := C.says.def_ 30 (d := d30) rfl
  exact def_ok (b := b30) rfl F sc30 rfl rfl (FunD_binds F fun _ _ _ _ _ _ us hl => match us, hl with | [_], _ => rfl) fun cdv A outer s H E n0 hr => dv30 C ih cdv A outer s H E n0 hr
theorem all_ok (C : Ctx K base mg) (n : Nat) : All P w K mg base (GG K) TT n := by
  induction n with
  | zero => exact all_zero
  | succ n ih =>
    intro f np
    match f with
    | 0 => exact ok0 C ih np
    | 1 => exact ok1 C ih np
    | 2 => exact ok2 C ih np
    | 3 => exact ok3 C ih np
    | 4 => exact ok4 C ih np
    | 5 => exact ok5 C ih np
    | 6 => exact ok6 C ih np
    | 7 => exact ok7 C ih np
    | 8 => exact ok8 C ih np
    | 9 => exact ok9 C ih np
    | 10 => exact ok10 C ih np
    | 11 => exact ok11 C ih np
    | 12 => exact ok12 C ih np
    | 13 => exact ok13 C ih np
    | 14 => exact ok14 C ih np
    | 15 => exact ok15 C ih np
    | 16 => exact ok16 C ih np
    | 17 => exact ok17 C ih np
    | 18 => exact ok18 C ih np
    | 19 => exact ok19 C ih np
    | 20 => exact ok20 C ih np
    | 21 => exact ok21 C ih np
    | 22 => exact ok22 C ih np
    | 23 => exact ok23 C ih np
    | 24 => exact ok24 C ih np
    | 25 => exact ok25 C ih np
    | 26 => exact ok26 C ih np
    | 27 => exact ok27 C ih np
    | 28 => exact ok28 C ih np
    | 29 => exact ok29 C ih np
    | 30 => exact ok30 C ih np
    | k + 31 => exact fun A outer s H us vs Q E hr he hv hs => (spF_none (by rfl) hs).elim
theorem lawOk {n : Nat} {fd : FuncData} (C : Ctx K base mg) (F : FunD K d30.name d30.qual d30.params d30.body d30.scope [] [] ((GG K).fa 30) fd) : FnOk P w K mg base L2.CX0 (2 * (n + 1)) ((GG K).fa 30) fd ["_law_script"] (spF (GG K) (callF TT (n + 1)) 30 1) :=
  def_fn (b := b30) rfl F sc30 rfl rfl fun cdv A outer s H E n0 hr => dv30 C (all_ok C n) cdv A outer s H E n0 hr
end
end PX.K03
set_option Elab.async false
set_option linter.all false
set_option maxRecDepth 100000
set_option maxHeartbeats 0
namespace PX.K03
open PySem PySem.Spec PyProof.Rows L2 He PX
abbrev RR : PySem.W.OpenRow := PySem.W.OpenLaw.row PySem.Challenge.rw_bucketsums_k03_whole_histograms
abbrev hk : PySem.W.Hook := hookP 6 fb fn
def ob (s : PySem.W.SharedT) : He.AlD := obsPG 6 fb fn (HandSHeadRun.getT s)
theorem ob_eq (s : PySem.W.SharedT) : ob s = hk.obs s.abs := obsPG_eq (HandSHeadRun.getT_eq s)
theorem run (w : World) : HandSHeadRun.RunEq RR (PySem.W.view RR.prog [35]) hk ob 20000 ["_wall", "SumError", "BadCounts", "BadColumn", "BadValue", "BadRange", "BadCuts", "BadHistogram", "MOST_VALUES", "MOST_COUNT", "is_number", "Column", "check_column", "lowest", "are_cuts", "check_cuts", "buckets_of", "Histogram", "check_histogram", "histogram", "caps_of", "fills_of", "estimate", "coarser", "_law_number", "_law_take", "_law_counts", "_law_cuts", "_law_buckets", "_law_fraction", "_law_estimates_right"] w := by
  intro os
  kernel_rfl
end PX.K03
set_option linter.all false
namespace K22M
/-! reduced fractions -/
theorem red_eq {a b c d : Nat} (hb : 0 < b) (hd : 0 < d) (h : a * d = c * b) : a / Nat.gcd a b = c / Nat.gcd c d ∧ b / Nat.gcd a b = d / Nat.gcd c d := by
  have hg : 0 < Nat.gcd a b := Nat.gcd_pos_of_pos_right a hb
  have hh : 0 < Nat.gcd c d := Nat.gcd_pos_of_pos_right c hd
  have ea : a / Nat.gcd a b * Nat.gcd a b = a := Nat.div_mul_cancel (Nat.gcd_dvd_left a b)
  have eb : b / Nat.gcd a b * Nat.gcd a b = b := Nat.div_mul_cancel (Nat.gcd_dvd_right a b)
  have ec : c / Nat.gcd c d * Nat.gcd c d = c := Nat.div_mul_cancel (Nat.gcd_dvd_left c d)
  have ed : d / Nat.gcd c d * Nat.gcd c d = d := Nat.div_mul_cancel (Nat.gcd_dvd_right c d)
  have c1 : Nat.Coprime (a / Nat.gcd a b) (b / Nat.gcd a b) := Nat.coprime_div_gcd_div_gcd hg
  have c2 : Nat.Coprime (c / Nat.gcd c d) (d / Nat.gcd c d) := Nat.coprime_div_gcd_div_gcd hh
  generalize Nat.gcd a b = g at *
  generalize Nat.gcd c d = k at *
  generalize a / g = a' at *
  generalize b / g = b' at *
  generalize c / k = c' at *
  generalize d / k = d' at *
  subst ea eb ec ed
  have e : a' * d' = c' * b' := by
    have : (g * k) * (a' * d') = (g * k) * (c' * b') := by
      rw [show (g * k) * (a' * d') = a' * g * (d' * k) by ac_rfl, h]
      ac_rfl
    exact Nat.eq_of_mul_eq_mul_left (Nat.mul_pos hg hh) this
  have h1 : a' ∣ c' := Nat.Coprime.dvd_of_dvd_mul_right c1 ⟨d', e.symm⟩
  have h2 : c' ∣ a' := Nat.Coprime.dvd_of_dvd_mul_right c2 ⟨b', e⟩
  have h3 : b' ∣ d' := Nat.Coprime.dvd_of_dvd_mul_left c1.symm ⟨c', by rw [e, Nat.mul_comm]⟩
  have h4 : d' ∣ b' := Nat.Coprime.dvd_of_dvd_mul_left c2.symm ⟨a', by rw [← e, Nat.mul_comm]⟩
  exact ⟨Nat.dvd_antisymm h1 h2, Nat.dvd_antisymm h3 h4⟩
/-! sums within a range -/
def slc (fs pt : Nat) : List Int → Nat → Int
  | [], _ => 0
  | x :: xs, o => (if fs ≤ o ∧ o < pt then x else 0) + slc fs pt xs (o + 1)
theorem slc_app (fs pt : Nat) : ∀ (a b : List Int) (o : Nat), slc fs pt (a ++ b) o = slc fs pt a o + slc fs pt b (o + a.length)
  | [], b, o => by simp [slc]
  | x :: a, b, o => by
    show _ + slc fs pt (a ++ b) (o + 1) = _ + slc fs pt a (o + 1) + slc fs pt b (o + (a.length + 1))
    rw [slc_app fs pt a b (o + 1), show o + (a.length + 1) = o + 1 + a.length by omega]
    omega
theorem slc_zero (fs pt : Nat) : ∀ (a : List Int) (o : Nat), pt ≤ o → slc fs pt a o = 0
  | [], o, h => rfl
  | x :: a, o, h => by
    show (if _ then _ else _) + slc fs pt a (o + 1) = 0
    rw [if_neg (by omega), slc_zero fs pt a (o + 1) (by omega)]
    rfl
theorem slc_take (pt : Nat) : ∀ (a : List Int) (fs o : Nat), fs ≤ o → slc fs pt a o = (a.take (pt - o)).sum
  | [], fs, o, h => by simp [slc]
  | x :: a, fs, o, h => by
    show (if _ then _ else _) + slc fs pt a (o + 1) = _
    rw [slc_take pt a fs (o + 1) (by omega)]
    by_cases h2 : o < pt
    · rw [if_pos ⟨h, h2⟩, show pt - o = (pt - (o + 1)) + 1 by omega, List.take_succ_cons, List.sum_cons]
    · rw [if_neg (by omega), show pt - o = 0 by omega, show pt - (o + 1) = 0 by omega]
      simp
theorem slc_sum (fs pt : Nat) : ∀ (a : List Int) (o : Nat), o ≤ fs → slc fs pt a o = ((a.drop (fs - o)).take (pt - fs)).sum
  | [], o, h => by simp [slc]
  | x :: a, o, h => by
    by_cases h2 : o = fs
    · subst h2
      rw [slc_take pt (x :: a) o o (Nat.le_refl _), Nat.sub_self, List.drop_zero]
    · show (if _ then _ else _) + slc fs pt a (o + 1) = _
      rw [if_neg (by omega), slc_sum fs pt a (o + 1) (by omega), show fs - o = (fs - (o + 1)) + 1 by omega, List.drop_succ_cons]
      omega
def ins (fs pt b e : Nat) : Nat := min pt e - max fs b
theorem slc_rep (fs pt : Nat) (x : Int) : ∀ (w o : Nat), slc fs pt (List.replicate w x) o = x * (ins fs pt o (o + w) : Nat)
  | 0, o => by
    have : ins fs pt o (o + 0) = 0 := by unfold ins; omega
    rw [this]
    simp [slc]
  | w + 1, o => by
    rw [List.replicate_succ]
    show (if _ then _ else _) + slc fs pt (List.replicate w x) (o + 1) = _
    rw [slc_rep fs pt x w (o + 1)]
    by_cases h : fs ≤ o ∧ o < pt
    · have e : ins fs pt o (o + (w + 1)) = ins fs pt (o + 1) (o + 1 + w) + 1 := by unfold ins; omega
      rw [if_pos h, e, show (((ins fs pt (o + 1) (o + 1 + w) + 1 : Nat)) : Int) = (ins fs pt (o + 1) (o + 1 + w) : Nat) + 1 by omega, Int.mul_add, Int.mul_one]
      omega
    · have e : ins fs pt o (o + (w + 1)) = ins fs pt (o + 1) (o + 1 + w) := by unfold ins; omega
      rw [if_neg h, e]
      omega
/-! the estimate -/
def estF (fs pt : Nat) : List (Int × (Nat × Nat)) → Int → Int → Int × Int
  | [], a, b => (a, b)
  | (t, (x, y)) :: l, a, b => estF fs pt l (a * ((y : Int) - x) + t * (ins fs pt x y : Nat) * b) (b * ((y : Int) - x))
def evn : List (Int × (Nat × Nat)) → List Int
  | [] => []
  | (t, (x, y)) :: l => List.replicate (y - x) (t * (27720 / ((y : Int) - x))) ++ evn l
def chn : List (Int × (Nat × Nat)) → Nat → Prop
  | [], _ => True
  | (_, (x, y)) :: l, o => x = o ∧ x < y ∧ chn l y
theorem w27720 {w : Nat} (h1 : 1 ≤ w) (h2 : w ≤ 12) : (w : Int) * (27720 / (w : Int)) = 27720 := by
  have : ∀ w : Fin 13, 1 ≤ w.val → ((w.val : Nat) : Int) * (27720 / ((w.val : Nat) : Int)) = 27720 := by decide
  exact this ⟨w, by omega⟩ h1
theorem est_even (fs pt : Nat) : ∀ (l : List (Int × (Nat × Nat))) (o : Nat) (a b E : Int), chn l o → (∀ p ∈ l, p.2.2 ≤ 12) → a * 27720 = b * E →
    (estF fs pt l a b).1 * 27720 = (estF fs pt l a b).2 * (E + slc fs pt (evn l) o)
  | [], o, a, b, E, _, _, h => by
    show a * 27720 = b * (E + 0)
    rw [Int.add_zero]
    exact h
  | (t, (x, y)) :: l, o, a, b, E, hc, hw, h => by
    obtain ⟨h1, h2, h3⟩ := hc
    subst h1
    have hy : y ≤ 12 := hw (t, (x, y)) List.mem_cons_self
    have hwd := w27720 (w := y - x) (by omega) (by omega)
    have ew : ((y : Int) - x) = ((y - x : Nat) : Int) := by omega
    show (estF fs pt l (a * ((y : Int) - x) + t * (ins fs pt x y : Nat) * b) (b * ((y : Int) - x))).1 * 27720 = (estF fs pt l (a * ((y : Int) - x) + t * (ins fs pt x y : Nat) * b) (b * ((y : Int) - x))).2 * (E + slc fs pt (List.replicate (y - x) (t * (27720 / ((y : Int) - x))) ++ evn l) x)
    rw [slc_app, List.length_replicate, slc_rep, show x + (y - x) = y by omega, ← Int.add_assoc]
    refine est_even fs pt l y _ _ _ h3 (fun p hp => hw p (List.mem_cons_of_mem _ hp)) ?_
    rw [ew]
    generalize ((y - x : Nat) : Int) = w at *
    generalize (ins fs pt x y : Int) = i at *
    generalize hq : (27720 : Int) / w = q at *
    rw [Int.add_mul, Int.mul_add]
    have k1 : a * w * 27720 = b * w * E := by
      rw [show a * w * 27720 = (a * 27720) * w by ac_rfl, h]
      ac_rfl
    have k2 : t * i * b * 27720 = b * w * (t * q * i) := by
      rw [← hwd]
      ac_rfl
    rw [k1, k2]
theorem estF_pos (fs pt : Nat) : ∀ (l : List (Int × (Nat × Nat))) (o : Nat) (a b : Int), chn l o → (∀ p ∈ l, 0 ≤ p.1) → 0 ≤ a → 0 < b → 0 ≤ (estF fs pt l a b).1 ∧ 0 < (estF fs pt l a b).2
  | [], o, a, b, _, _, h1, h2 => ⟨h1, h2⟩
  | (t, (x, y)) :: l, o, a, b, hc, ht, h1, h2 => by
    obtain ⟨g1, g2, g3⟩ := hc
    have h0 : 0 ≤ t := ht (t, (x, y)) List.mem_cons_self
    have hw : 0 < (y : Int) - x := by omega
    refine estF_pos fs pt l y _ _ g3 (fun p hp => ht p (List.mem_cons_of_mem _ hp)) ?_ (Int.mul_pos h2 hw)
    exact Int.add_nonneg (Int.mul_nonneg h1 (Int.le_of_lt hw)) (Int.mul_nonneg (Int.mul_nonneg h0 (by omega)) (Int.le_of_lt h2))
theorem pow_ge (w : Nat) : w < 2 ^ w := Nat.lt_two_pow_self
theorem estF_le (fs pt n : Nat) : ∀ (l : List (Int × (Nat × Nat))) (o : Nat) (a : Int) (b : Nat), chn l o → (∀ p ∈ l, p.2.2 ≤ n) → o ≤ n → b ≤ 2 ^ o → ∃ b' : Nat, (estF fs pt l a b).2 = b' ∧ b' ≤ 2 ^ n
  | [], o, a, b, _, _, h1, h2 => ⟨b, rfl, Nat.le_trans h2 (Nat.pow_le_pow_right (by omega) h1)⟩
  | (t, (x, y)) :: l, o, a, b, hc, hn, h1, h2 => by
    obtain ⟨g1, g2, g3⟩ := hc
    subst g1
    have hy : y ≤ n := hn (t, (x, y)) List.mem_cons_self
    have e : (b : Int) * ((y : Int) - x) = ((b * (y - x) : Nat) : Int) := by
      rw [show ((y : Int) - x) = ((y - x : Nat) : Int) by omega, Int.natCast_mul]
    show ∃ b' : Nat, (estF fs pt l (a * ((y : Int) - x) + t * (ins fs pt x y : Nat) * b) ((b : Int) * ((y : Int) - x))).2 = b' ∧ b' ≤ 2 ^ n
    rw [e]
    refine estF_le fs pt n l y _ (b * (y - x)) g3 (fun p hp => hn p (List.mem_cons_of_mem _ hp)) hy ?_
    have : 2 ^ y = 2 ^ x * 2 ^ (y - x) := by rw [← Nat.pow_add]; congr 1; omega
    rw [this]
    exact Nat.mul_le_mul h2 (Nat.le_of_lt (pow_ge _))
theorem prs_chn {ts : List Int} {n : Nat} : ∀ (c : List Nat) (a : Nat) (ts : List Int), (a :: c).Pairwise (· < ·) → (∀ x ∈ a :: c, x < n) → chn (ts.zip (prs (a :: c) n)) a
  | [], a, [], _, _ => trivial
  | [], a, t :: ts, _, h => by
    refine ⟨rfl, h a List.mem_cons_self, ?_⟩
    cases ts <;> trivial
  | b :: c, a, [], _, _ => trivial
  | b :: c, a, t :: ts, h1, h2 => ⟨rfl, (List.pairwise_cons.mp h1).1 b List.mem_cons_self, prs_chn (ts := ts) c b ts (List.pairwise_cons.mp h1).2 fun x hx => h2 x (List.mem_cons_of_mem _ hx)⟩
/-! sums by prefixes -/
def P (cs : List Int) (v : Nat) : Int := (cs.take v).sum
theorem P_add (cs : List Int) (a : Nat) : ∀ k : Nat, P cs (a + k) = P cs a + ((cs.drop a).take k).sum := by
  intro k
  unfold P
  rw [List.take_add, List.sum_append]
theorem seg_P {cs : List Int} {a b : Nat} (h : a ≤ b) : (seg cs a b).sum = P cs b - P cs a := by
  have := P_add cs a (b - a)
  rw [show a + (b - a) = b by omega] at this
  unfold seg
  omega
def tot (cs : List Int) (c : List Nat) : List Int := (prs c cs.length).map fun p => (seg cs p.1 p.2).sum
theorem prs_len' : ∀ (c : List Nat) (n : Nat), (prs c n).length = c.length
  | [], n => rfl
  | [a], n => rfl
  | a :: b :: l, n => by
    show (prs (b :: l) n).length + 1 = _
    rw [prs_len' (b :: l) n]
    rfl
theorem tot_len (cs : List Int) (c : List Nat) : (tot cs c).length = c.length := by
  unfold tot
  rw [List.length_map, prs_len']
/-! coarser: totals so far -/
def G (cs : List Int) (z : Nat) (p : Nat × Nat) : Int := P cs (min p.2 z) - P cs (min p.1 z)
theorem add_at (cs : List Int) (n b e : Nat) (hbe : b < e) (hen : e ≤ n) : ∀ (so : List Nat) (a : Nat), (a :: so).Pairwise (· < ·) → a ≤ b → (∀ x ∈ a :: so, ¬ (b < x ∧ x < e)) →
    ∃ j v, ((a :: so).filter fun x => decide (x ≤ b)).length = j + 1 ∧ ((prs (a :: so) n).map (G cs b))[j]? = some v ∧ ((prs (a :: so) n).map (G cs b)).set j (v + (P cs e - P cs b)) = (prs (a :: so) n).map (G cs e)
  | [], a, _, h, _ => by
    refine ⟨0, G cs b (a, n), ?_, rfl, ?_⟩
    · rw [List.filter_cons_of_pos (by simpa using h)]
      rfl
    · show [G cs b (a, n) + (P cs e - P cs b)] = [G cs e (a, n)]
      unfold G
      simp only
      rw [Nat.min_eq_right (by omega : b ≤ n), Nat.min_eq_left h, Nat.min_eq_right hen, Nat.min_eq_left (by omega : a ≤ e)]
      congr 1
      omega
  | s :: so, a, h1, h, hx => by
    have has := (List.pairwise_cons.mp h1).1 s List.mem_cons_self
    by_cases hs : s ≤ b
    · obtain ⟨j, v, g1, g2, g3⟩ := add_at cs n b e hbe hen so s (List.pairwise_cons.mp h1).2 hs fun x hx2 => hx x (List.mem_cons_of_mem _ hx2)
      refine ⟨j + 1, v, ?_, ?_, ?_⟩
      · rw [List.filter_cons_of_pos (by simpa using h), List.length_cons, g1]
      · show (G cs b (a, s) :: (prs (s :: so) n).map (G cs b))[j + 1]? = some v
        rw [List.getElem?_cons_succ]
        exact g2
      · show (G cs b (a, s) :: (prs (s :: so) n).map (G cs b)).set (j + 1) _ = G cs e (a, s) :: (prs (s :: so) n).map (G cs e)
        rw [List.set_cons_succ, g3]
        congr 1
        unfold G
        simp only
        rw [Nat.min_eq_left hs, Nat.min_eq_left h, Nat.min_eq_left (by omega : s ≤ e), Nat.min_eq_left (by omega : a ≤ e)]
    · have hse : e ≤ s := by
        have := hx s (by simp)
        omega
      have hfil : so.filter (fun x => decide (x ≤ b)) = [] := by
        rw [List.filter_eq_nil_iff]
        intro x hx2
        have := (List.pairwise_cons.mp (List.pairwise_cons.mp h1).2).1 x hx2
        simp
        omega
      refine ⟨0, G cs b (a, s), ?_, rfl, ?_⟩
      · rw [List.filter_cons_of_pos (by simpa using h), List.filter_cons_of_neg (by simpa using hs), hfil]
        rfl
      · show (G cs b (a, s) + (P cs e - P cs b)) :: (prs (s :: so) n).map (G cs b) = G cs e (a, s) :: (prs (s :: so) n).map (G cs e)
        congr 1
        · unfold G
          simp only
          rw [Nat.min_eq_right (by omega : b ≤ s), Nat.min_eq_left h, Nat.min_eq_right hse, Nat.min_eq_left (by omega : a ≤ e)]
          omega
        · refine List.map_congr_left fun p hp => ?_
          have hge : ∀ (l : List Nat) (q : Nat), (q :: l).Pairwise (· < ·) → ∀ p ∈ prs (q :: l) n, q ≤ p.1 := by
            intro l
            induction l with
            | nil => intro q _ p hp; rw [List.mem_singleton.mp hp]; exact Nat.le_refl _
            | cons r l ih =>
              intro q hq p hp
              rcases List.mem_cons.mp hp with hp | hp
              · rw [hp]; exact Nat.le_refl _
              · have := ih r (List.pairwise_cons.mp hq).2 p hp
                have := (List.pairwise_cons.mp hq).1 r List.mem_cons_self
                omega
          have q1 := hge so s (List.pairwise_cons.mp h1).2 p hp
          have q2 : p.1 ≤ p.2 ∨ p.2 = n := by
            have hp2 : ∀ (l : List Nat) (q : Nat), (q :: l).Pairwise (· < ·) → ∀ p ∈ prs (q :: l) n, p.1 ≤ p.2 ∨ p.2 = n := by
              intro l
              induction l with
              | nil => intro q _ p hp; rw [List.mem_singleton.mp hp]; exact Or.inr rfl
              | cons r l ih =>
                intro q hq p hp
                rcases List.mem_cons.mp hp with hp | hp
                · rw [hp]
                  exact Or.inl (Nat.le_of_lt ((List.pairwise_cons.mp hq).1 r List.mem_cons_self))
                · exact ih r (List.pairwise_cons.mp hq).2 p hp
            exact hp2 so s (List.pairwise_cons.mp h1).2 p hp
          unfold G
          rw [Nat.min_eq_right (by omega : b ≤ p.2), Nat.min_eq_right (by omega : b ≤ p.1), Nat.min_eq_right (by omega : e ≤ p.2), Nat.min_eq_right (by omega : e ≤ p.1)]
          omega
theorem G_end {cs : List Int} {c : List Nat} (hc : isC c cs.length) : (prs c cs.length).map (G cs cs.length) = tot cs c := by
  unfold tot
  refine List.map_congr_left fun p hp => ?_
  obtain ⟨h1, h2, h3⟩ := prs_mem hc.2.2 hc.2.1 p hp
  unfold G
  rw [seg_P (by omega), Nat.min_eq_left h2, Nat.min_eq_left (by omega)]
theorem G_zero (cs : List Int) (c : List Nat) (n : Nat) : (prs c n).map (G cs 0) = List.replicate c.length 0 := by
  rw [← prs_len' c n]
  generalize prs c n = l
  induction l with
  | nil => rfl
  | cons p l ih =>
    rw [List.map_cons, ih, List.length_cons, List.replicate_succ]
    congr 1
    unfold G
    rw [Nat.min_zero, Nat.min_zero]
    omega
end K22M
set_option linter.all false
namespace K22M
theorem isC_sub {t l : List Nat} {n : Nat} (h : isC (0 :: t) n) (hs : l.Sublist t) : isC (0 :: l) n := by
  refine ⟨rfl, fun x hx => ?_, h.2.2.sublist (hs.cons_cons 0)⟩
  rcases List.mem_cons.mp hx with hx | hx
  · exact h.2.1 x (by rw [hx]; exact List.mem_cons_self)
  · exact h.2.1 x (List.mem_cons_of_mem _ (hs.subset hx))
theorem isC_rng {n : Nat} (h : 1 ≤ n) : isC (0 :: (List.range (n - 1)).map (· + 1)) n := by
  refine ⟨rfl, fun x hx => ?_, List.pairwise_cons.mpr ⟨fun x hx => ?_, ?_⟩⟩
  · rcases List.mem_cons.mp hx with hx | hx
    · omega
    · obtain ⟨i, hi, rfl⟩ := List.mem_map.mp hx
      have := List.mem_range.mp hi
      omega
  · obtain ⟨i, hi, rfl⟩ := List.mem_map.mp hx
    omega
  · exact List.Pairwise.map _ (fun a b hab => by omega) List.pairwise_lt_range
theorem evn_len (n : Nat) : ∀ (c : List Nat) (a : Nat) (ts : List Int), (a :: c).Pairwise (· < ·) → (∀ x ∈ a :: c, x < n) → ts.length = (a :: c).length → (evn (ts.zip (prs (a :: c) n))).length + a = n
  | _, _, [], _, _, h => by simp at h
  | [], a, t :: ts, h1, h2, h => by
    have := h2 a List.mem_cons_self
    cases ts with
    | cons y ys => simp at h
    | nil =>
      show (List.replicate (n - a) (t * (27720 / ((n : Int) - a))) ++ []).length + a = n
      rw [List.append_nil, List.length_replicate]
      omega
  | b :: c, a, t :: ts, h1, h2, h => by
    have hab := (List.pairwise_cons.mp h1).1 b List.mem_cons_self
    have ih := evn_len n c b ts (List.pairwise_cons.mp h1).2 (fun x hx => h2 x (List.mem_cons_of_mem _ hx)) (by simpa using h)
    show (List.replicate (b - a) (t * (27720 / ((b : Int) - a))) ++ evn (ts.zip (prs (b :: c) n))).length + a = n
    rw [List.length_append, List.length_replicate]
    omega
theorem evn_sum (n : Nat) (hn : n ≤ 12) : ∀ (c : List Nat) (a : Nat) (ts : List Int), (a :: c).Pairwise (· < ·) → (∀ x ∈ a :: c, x < n) → ts.length = (a :: c).length → (evn (ts.zip (prs (a :: c) n))).sum = 27720 * ts.sum
  | _, _, [], _, _, h => by simp at h
  | [], a, t :: ts, h1, h2, h => by
    have ha := h2 a List.mem_cons_self
    cases ts with
    | cons y ys => simp at h
    | nil =>
      have hw := w27720 (w := n - a) (by omega) (by omega)
      show (List.replicate (n - a) (t * (27720 / ((n : Int) - a))) ++ []).sum = _
      rw [List.append_nil, List.sum_replicate_int, show ((n : Int) - a) = ((n - a : Nat) : Int) by omega, List.sum_cons, List.sum_nil, Int.add_zero, show (((n - a : Nat) : Int)) * (t * (27720 / ((n - a : Nat) : Int))) = ((n - a : Nat) : Int) * (27720 / ((n - a : Nat) : Int)) * t by ac_rfl, hw]
  | b :: c, a, t :: ts, h1, h2, h => by
    have hab := (List.pairwise_cons.mp h1).1 b List.mem_cons_self
    have hb := h2 b (by simp)
    have ih := evn_sum n hn c b ts (List.pairwise_cons.mp h1).2 (fun x hx => h2 x (List.mem_cons_of_mem _ hx)) (by simpa using h)
    have hw := w27720 (w := b - a) (by omega) (by omega)
    show (List.replicate (b - a) (t * (27720 / ((b : Int) - a))) ++ evn (ts.zip (prs (b :: c) n))).sum = _
    rw [List.sum_append, ih, List.sum_replicate_int, show ((b : Int) - a) = ((b - a : Nat) : Int) by omega, List.sum_cons, Int.mul_add, show (((b - a : Nat) : Int)) * (t * (27720 / ((b - a : Nat) : Int))) = ((b - a : Nat) : Int) * (27720 / ((b - a : Nat) : Int)) * t by ac_rfl, hw]
theorem tot_sum (cs : List Int) : ∀ (c : List Nat) (a : Nat), (a :: c).Pairwise (· < ·) → (∀ x ∈ a :: c, x < cs.length) → (tot cs (a :: c)).sum = P cs cs.length - P cs a
  | [], a, h1, h2 => by
    have := h2 a List.mem_cons_self
    show (seg cs a cs.length).sum + 0 = _
    rw [seg_P (by omega)]
    omega
  | b :: c, a, h1, h2 => by
    have hab := (List.pairwise_cons.mp h1).1 b List.mem_cons_self
    have ih := tot_sum cs c b (List.pairwise_cons.mp h1).2 (fun x hx => h2 x (List.mem_cons_of_mem _ hx))
    show ((seg cs a b).sum :: tot cs (b :: c)).sum = _
    rw [List.sum_cons, ih, seg_P (by omega)]
    omega
theorem tot_all {cs : List Int} {c : List Nat} (hc : isC c cs.length) : (tot cs c).sum = cs.sum := by
  cases c with
  | nil => cases hc.1
  | cons a c =>
    have : a = 0 := by simpa using hc.1
    subst this
    rw [tot_sum cs c 0 hc.2.2 hc.2.1]
    unfold P
    rw [List.take_length]
    simp
theorem wider {n : Nat} : ∀ (c : List Nat) (ts : List Int), (∀ q ∈ ts.zip (prs c n), 0 ≤ q.1 ∧ q.1 ≤ 9 * ((q.2.2 : Int) - q.2.1)) → ∀ q ∈ ts.zip (prs c (n + 1)), 0 ≤ q.1 ∧ q.1 ≤ 9 * ((q.2.2 : Int) - q.2.1)
  | _, [], _, q, hq => by cases hq
  | [], t :: ts, _, q, hq => by cases hq
  | [a], t :: ts, h, q, hq => by
    have h0 := h (t, (a, n)) List.mem_cons_self
    have : q = (t, (a, n + 1)) := by
      rw [show prs [a] (n + 1) = [(a, n + 1)] from rfl, List.zip_cons_cons, List.zip_nil_right] at hq
      exact List.mem_singleton.mp hq
    rw [this]
    simp only at h0 ⊢
    omega
  | a :: b :: c, t :: ts, h, q, hq => by
    rw [show prs (a :: b :: c) (n + 1) = (a, b) :: prs (b :: c) (n + 1) from rfl, List.zip_cons_cons] at hq
    rcases List.mem_cons.mp hq with hq | hq
    · rw [hq]
      exact h (t, (a, b)) List.mem_cons_self
    · exact wider (b :: c) ts (fun q hq2 => h q (List.mem_cons_of_mem _ hq2)) q hq
theorem bent_ok {n : Nat} : ∀ (l : List (Nat × Nat)) (ts : List Int) (j : Nat) (v : Int), (∀ p ∈ l, p.1 < p.2) → (∀ q ∈ ts.zip l, 0 ≤ q.1 ∧ q.1 ≤ 9 * ((q.2.2 : Int) - q.2.1)) → 0 ≤ v → v ≤ 1 → ∀ q ∈ (ts.set j v).zip l, 0 ≤ q.1 ∧ q.1 ≤ 9 * ((q.2.2 : Int) - q.2.1)
  | [], ts, j, v, _, _, _, _, q, hq => by
    rw [List.zip_nil_right] at hq
    cases hq
  | p :: l, [], j, v, _, _, _, _, q, hq => by
    rw [List.set_nil] at hq
    cases hq
  | p :: l, t :: ts, 0, v, hl, h, h0, h1, q, hq => by
    rw [List.set_cons_zero, List.zip_cons_cons] at hq
    have hp := hl p List.mem_cons_self
    rcases List.mem_cons.mp hq with hq | hq
    · rw [hq]
      simp only
      omega
    · exact h q (List.mem_cons_of_mem _ hq)
  | p :: l, t :: ts, j + 1, v, hl, h, h0, h1, q, hq => by
    rw [List.set_cons_succ, List.zip_cons_cons] at hq
    rcases List.mem_cons.mp hq with hq | hq
    · rw [hq]
      exact h (t, p) List.mem_cons_self
    · exact bent_ok (n := n) l ts j v (fun p hp => hl p (List.mem_cons_of_mem _ hp)) (fun q hq2 => h q (List.mem_cons_of_mem _ hq2)) h0 h1 q hq
theorem red_one (r : Nat) : 27720 * r / Nat.gcd (27720 * r) 27720 = r ∧ 27720 / Nat.gcd (27720 * r) 27720 = 1 := by
  have h : Nat.gcd (27720 * r) 27720 = 27720 := Nat.gcd_eq_right ⟨r, rfl⟩
  rw [h]
  exact ⟨Nat.mul_div_cancel_left r (by omega), by decide⟩
end K22M
set_option linter.all false
set_option maxRecDepth 100000
set_option maxHeartbeats 1000000
namespace PX.K03
open PySem PX K22M
abbrev dig (c : Int) : Prop := 0 ≤ c ∧ c ≤ 9
abbrev col (cs : List Int) : PV := .ins 0 [0] [.tup (cs.map .int)]
theorem is_number_int (n n0 : Nat) (S : Store) (v lo hi : Int) : callF TT (n + 1) 0 [.int v, .int lo, .int hi] n0 S = .ok (.bl (decide (lo ≤ v ∧ v ≤ hi))) S := by
  rw [call_succ (b := b0) rfl rfl]
  show fin (b0.body (callF TT n) n0 [some (.int v), some (.int lo), some (.int hi)] S) = _
  unfold b0
  simp [q_var, tyN, truth, oLe, lk_cons]
  by_cases h1 : lo ≤ v
  · simp [h1]
  · simp [h1]
theorem isnumV (n : Nat) (S : Store) (v lo hi : Int) : callV (callF TT (n + 1)) 0 [.int v, .int lo, .int hi] S = .ok (false, .bl (decide (lo ≤ v ∧ v ≤ hi))) S := callV_same (is_number_int n S.length S v lo hi) rfl
theorem len_ok (n n0 : Nat) (S : Store) (cs : List Int) : callF TT (n + 1) 3 [col cs] n0 S = .ok (.int cs.length) S := by
  rw [call_succ (b := b3) rfl rfl]
  show fin (b3.body (callF TT n) n0 [some (col cs)] S) = _
  unfold b3
  simp [q_var, fldOf, ownOf, bLen]
theorem lenV (n : Nat) (S : Store) (cs : List Int) : callV (callF TT (n + 1)) 3 [col cs] S = .ok (false, .int cs.length) S := callV_same (len_ok n S.length S cs) rfl
theorem len_col (n : Nat) (S : Store) (cs : List Int) (a : SE) (env : Env) (b : Bool) (hl : cs.length ≤ 1000) (ha : a env S = .ok (b, col cs) S) : eLen (callF TT (n + 1)) [(0, 3), (1, 14)] a env S = .ok (false, .int cs.length) S := by
  rw [q_len, ha, R.bind_ok]
  show (callV (callF TT (n + 1)) 3 [col cs] S).bind lenI = _
  rw [lenV, R.bind_ok]
  unfold lenI
  simp only
  rw [decide_eq_true (by omega), decide_eq_true (by omega)]
  rfl
theorem chkcol_ok (n n0 : Nat) (S : Store) (cs : List Int) : callF TT (n + 1) 7 [col cs] n0 S = .ok .non S := by
  rw [call_succ (b := b7) rfl rfl]
  show fin (b7.body (callF TT n) n0 [some (col cs)] S) = _
  unfold b7
  simp [q_var, tyN, truth, lk_cons]
theorem chkcolV (n : Nat) (S : Store) (cs : List Int) : callV (callF TT (n + 1)) 7 [col cs] S = .ok (false, .non) S := callV_same (chkcol_ok n S.length S cs) rfl
abbrev EQT : List (Nat × Nat) := [(0, 2), (1, 13)]
abbrev TYS : List TyN := [.non, .bl, .int, .str, .tup, .lst, .dct, .own 0, .own 1]
theorem seg_sl (cs : List Int) (a b : Nat) (h : a ≤ cs.length) (h2 : b ≤ cs.length) (S : Store) : slP (some (a : Int)) (some (b : Int)) (.tup (cs.map .int)) S = some (false, .tup ((seg cs a b).map .int)) := by
  show some (false, PV.tup (cutP (cs.map .int) (some (a : Int)) (some (b : Int)))) = _
  rw [cut_mid cs a b h h2]
  rfl
theorem seg_slL (cs : List Int) (a b : Nat) (h : a ≤ cs.length) (h2 : b ≤ cs.length) (S : Store) : slP (some (a : Int)) (some (b : Int)) (.lst (cs.map .int)) S = some (true, .lst ((seg cs a b).map .int)) := by
  show some (true, PV.lst (cutP (cs.map .int) (some (a : Int)) (some (b : Int)))) = _
  rw [cut_mid cs a b h h2]
  rfl
theorem drop_sl (c : List Nat) (h : 1 ≤ c.length) (S : Store) : slP (some 1) none (.tup ((iN c).map .int)) S = some (false, .tup ((iN (c.drop 1)).map .int)) := by
  show some (false, PV.tup (cutP ((iN c).map .int) (some ((1 : Nat) : Int)) none)) = _
  rw [cut_drop (iN c) 1 (by rw [iN_len]; exact h), iN_drop]
theorem drop_slA (c : List Nat) (S : Store) : slP (some 1) none (.tup ((iN c).map .int)) S = some (false, .tup ((iN (c.drop 1)).map .int)) := by
  cases c with
  | nil => rfl
  | cons x xs => exact drop_sl (x :: xs) (by simp) S
theorem bucketsV (n : Nat) (S : Store) (c : List Nat) (m : Nat) (hl : c.length ≤ 1000) : callV (callF TT (n + 1)) 11 [.int m, .tup ((iN c).map .int)] S = .ok (false, .lst ((prs c m).map fun p => PV.tup [.int (p.1 : Nat), .int (p.2 : Nat)])) S := by
  refine callV_same ?_ rfl
  rw [call_succ (b := b11) rfl rfl]
  show fin (b11.body (callF TT n) S.length [some (.int m), some (.tup ((iN c).map .int))] S) = _
  unfold b11
  dsimp only
  have v1 : eVar 1 [some (.int m), some (.tup ((iN c).map .int))] S = .ok (false, .tup ((iN c).map .int)) S := rfl
  have v0 : eVar 0 [some (.int m), some (.tup ((iN c).map .int))] S = .ok (false, .int m) S := rfl
  have e1 := sl_val (lo := pSo (eLit (.int 1))) (hi := pNo) v1 rfl rfl (drop_slA c S)
  have e2 : eLst (aStar (eSl (eVar 1) (pSo (eLit (.int 1))) pNo) (aCons (eVar 0) aNil)) [some (.int m), some (.tup ((iN c).map .int))] S = .ok (true, .lst ((iN (c.drop 1 ++ [m])).map .int)) S := by
    rw [q_lst, q_star, e1, R.bind_ok]
    show (((aCons (eVar 0) aNil) [some (.int m), some (.tup ((iN c).map .int))] S).bind fun q S2 => R.ok ((iN (c.drop 1)).map .int ++ q) S2).bind _ = _
    rw [q_cons, v0, R.bind_ok, q_nil, R.bind_ok, R.bind_ok, R.bind_ok]
    have : (iN (c.drop 1)).map PV.int ++ [.int m] = (iN (c.drop 1 ++ [m])).map .int := by
      rw [← iN_app, List.map_append]
      rfl
    rw [this, small_nat (by rw [List.length_map, iN_len, List.length_append, List.length_drop, List.length_singleton]; omega), if_pos rfl]
  have e3 : bLz (.tup ((iN c).map .int)) (.lst ((iN (c.drop 1 ++ [m])).map .int)) S = some (true, .lst ((prs c m).map fun p => PV.tup [.int (p.1 : Nat), .int (p.2 : Nat)])) := by
    show (if small ((iN c).map PV.int).length then some (true, PV.lst (zipL ((iN c).map .int) ((iN (c.drop 1 ++ [m])).map .int))) else none) = _
    rw [small_nat (by rw [List.length_map, iN_len]; omega), if_pos rfl, zipL_N, prs_zip]
  unfold eLz
  rw [sret_val (bin_val v1 e2 e3)]
  rfl
theorem prs_len : ∀ (c : List Nat) (n : Nat), (prs c n).length = c.length
  | [], n => rfl
  | [a], n => rfl
  | a :: b :: l, n => by
    show (prs (b :: l) n).length + 1 = _
    rw [prs_len (b :: l) n]
    rfl
theorem arecuts_ok (n : Nat) (S : Store) (c : List Nat) (m : Nat) (hc : c.length ≤ 1000) (hm : m ≤ 1000) (h1 : 1 ≤ m) : callV (callF TT (n + 2)) 9 [.tup ((iN c).map .int), .int m] S = .ok (false, .bl (decide (isC c m))) S := by
  refine callV_same ?_ rfl
  rw [call_succ (b := b9) rfl rfl]
  show fin (b9.body (callF TT (n + 1)) S.length [some (.tup ((iN c).map .int)), some (.int m), none, none, none] S) = _
  unfold b9
  dsimp only
  have v0 : ∀ a b d, eVar 0 [some (.tup ((iN c).map .int)), some (.int m), a, b, d] S = .ok (false, .tup ((iN c).map .int)) S := fun _ _ _ => rfl
  have t1 : tNo (tTru (eIsi [(.non, false), (.bl, false), (.int, false), (.str, false), (.tup, true), (.lst, false), (.dct, false), (.own 0, false), (.own 1, false)] (eVar 0))) [some (.tup ((iN c).map .int)), some (.int m), none, none, none] S = .ok false S := by
    simp [q_var, tyN, truth, lk_cons]
  have t2 : tBl (eEq (callF TT (n + 1)) [(0, 2), (1, 13)] [.non, .bl, .int, .str, .tup, .lst, .dct, .own 0, .own 1] (eVar 0) (eTup aNil)) [some (.tup ((iN c).map .int)), some (.int m), none, none, none] S = .ok (decide (iN c = [])) S :=
    tbl_val (eq_flat (w := .tup []) (v0 _ _ _) rfl rfl (oEq_tup0 (iN c) S))
  have t3 : tOr (tNo (tTru (eIsi [(.non, false), (.bl, false), (.int, false), (.str, false), (.tup, true), (.lst, false), (.dct, false), (.own 0, false), (.own 1, false)] (eVar 0)))) (tOr (tBl (eEq (callF TT (n + 1)) [(0, 2), (1, 13)] [.non, .bl, .int, .str, .tup, .lst, .dct, .own 0, .own 1] (eVar 0) (eTup aNil))) (tBl (eNe (callF TT (n + 1)) [(0, 2), (1, 13)] [.non, .bl, .int, .str, .tup, .lst, .dct, .own 0, .own 1] (eIx (callF TT (n + 1)) [(0, 4)] (eVar 0) (eLit (.int 0))) (eLit (.int 0))))) [some (.tup ((iN c).map .int)), some (.int m), none, none, none] S = .ok (if c = [] then true else if c.head? = some 0 then false else true) S := by
    rw [tor_val t1, if_neg (by simp), tor_val t2]
    cases c with
    | nil => simp [iN]
    | cons a c =>
      rw [if_neg (by simp [iN]), tbl_val (ne_flat (k := false) (v := .int a) (k' := false) (w := .int 0) (ix_val (v0 _ _ _) (w := .int 0) (k' := false) rfl rfl rfl (ix_first (xs := (iN c).map .int) rfl)) rfl rfl (oNe_int' _ _ S))]
      by_cases ha : a = 0
      · simp [ha]
      · simp [ha]
  rw [q_scons, sif_val t3]
  · cases c with
    | nil =>
      simp only [if_true, q_sret, q_lit, R.go_ok, RS.then_rt, fin_rt]
      rw [decide_eq_false]
      rintro ⟨h, _⟩
      cases h
    | cons a c =>
      by_cases ha : a = 0
      · subst ha
        simp only [reduceCtorEq, if_false, List.head?_cons, if_true, Bool.false_eq_true]
        rw [q_snil, RS.then_nx]
        -- all are numbers
        have e1 : eArg bAll (aCons (eLc (iSeq (eVar 0)) (gNm 4) [4] tYesP (eCall (callF TT (n + 1)) 3 0 (aCons (eVar 4) (aCons (eLit (.int 0)) (aCons (eBin oSub (eVar 1) (eLit (.int 1))) aNil))))) aNil) [some (.tup ((iN (0 :: c)).map .int)), some (.int m), none, none, none] S = .ok (false, .bl ((0 :: c).all fun x => decide (x < m))) S := by
          refine all_lc (0 :: c) (fun (x : Nat) => PV.int x) (fun x => decide (x < m)) (fun (x : Nat) => [some (.tup ((iN (0 :: c)).map .int)), some (.int m), none, none, some (.int x)]) ?_ (by omega) (fun x _ => rfl) (fun x _ => ⟨false, ?_⟩)
          · rw [seq_val _ _ S _ _ (v0 _ _ _), iN_map]
          · refine call3 (v := .int x) (b := false) rfl (v2 := .int 0) (b2 := false) rfl (v3 := .int ((m : Int) - 1)) (b3 := false) rfl ?_
            rw [isnumV]
            congr 3
            exact decide_eq_decide.mpr (by omega)
        rw [q_scons, sif_val (tno_val (ttru_bl e1))]
        by_cases hall : ((0 :: c).all fun x => decide (x < m)) = true
        · rw [hall]
          simp only [Bool.not_true, Bool.false_eq_true, if_false]
          rw [q_snil, RS.then_nx]
          have e2 : eArg bAll (aCons (eLc (iZip (eVar 0) (eSl (eVar 0) (pSo (eLit (.int 1))) pNo)) (gTp [(gNm 2), (gNm 3)]) [2, 3] tYesP (eBin oLt (eVar 2) (eVar 3))) aNil) [some (.tup ((iN (0 :: c)).map .int)), some (.int m), none, none, none] S = .ok (false, .bl (((0 :: c).zip ((0 :: c).drop 1)).all fun p => decide (p.1 < p.2))) S := by
            refine all_lc ((0 :: c).zip ((0 :: c).drop 1)) (fun p => PV.tup [.int (p.1 : Nat), .int (p.2 : Nat)]) (fun p => decide (p.1 < p.2)) (fun p => [some (.tup ((iN (0 :: c)).map .int)), some (.int m), some (.int (p.1 : Nat)), some (.int (p.2 : Nat)), none]) ?_ (by rw [List.length_zip]; have := Nat.min_le_left (0 :: c).length ((0 :: c).drop 1).length; omega) (fun x _ => rfl) (fun p _ => ⟨false, ?_⟩)
            · rw [zip_it (eVar 0) _ _ S false false _ _ _ _ rfl rfl (v0 _ _ _) (sl_val (lo := pSo (eLit (.int 1))) (hi := pNo) (v0 _ _ _) rfl rfl (drop_slA (0 :: c) S)), zipL_N]
            · show R.ok (false, PV.bl (decide ((p.1 : Int) < (p.2 : Int)))) S = _
              congr 3
              exact decide_eq_decide.mpr (by omega)
          rw [sret_val e2, fin_rt]
          congr 2
          rw [Bool.eq_iff_iff, decide_eq_true_iff]
          have h3 : (((0 :: c).zip ((0 :: c).drop 1)).all fun p => decide (p.1 < p.2)) = true ↔ adj (· < ·) (0 :: c) := by
            rw [adj_iff]
            simp only [List.all_eq_true, decide_eq_true_eq]
          rw [h3, adj_lt]
          constructor
          · intro h
            exact ⟨rfl, fun x hx => by simpa using List.all_eq_true.mp hall x hx, h⟩
          · rintro ⟨_, _, h⟩
            exact h
        · have hf : ((0 :: c).all fun x => decide (x < m)) = false := by simpa using hall
          rw [hf]
          simp only [Bool.not_false, if_true, q_sret, q_lit, R.go_ok, RS.then_rt, fin_rt]
          rw [decide_eq_false]
          rintro ⟨_, h, _⟩
          exact hall (List.all_eq_true.mpr fun x hx => by simpa using h x hx)
      · simp only [reduceCtorEq, if_false, List.head?_cons, Option.some.injEq, ha, if_true, q_sret, q_lit, R.go_ok, RS.then_rt, fin_rt]
        rw [decide_eq_false]
        rintro ⟨h, _⟩
        exact ha (by simpa using h)
theorem chkcutsV (n : Nat) (S : Store) (c : List Nat) (m : Nat) (hc : c.length ≤ 1000) (hm : m ≤ 1000) (h1 : 1 ≤ m) (h : isC c m) : callV (callF TT (n + 3)) 10 [.int m, .tup ((iN c).map .int)] S = .ok (false, .non) S := by
  refine callV_same ?_ rfl
  rw [call_succ (b := b10) rfl rfl]
  show fin (b10.body (callF TT (n + 2)) S.length [some (.int m), some (.tup ((iN c).map .int))] S) = _
  unfold b10
  dsimp only
  rw [sif_val (tno_val (ttru_bl (call2 (a := eVar 1) (a2 := eVar 0) (b := false) (b2 := false) (v := .tup ((iN c).map .int)) (v2 := .int m) rfl rfl (arecuts_ok n S c m hc hm h1)))), decide_eq_true h]
  rfl
theorem fld0 (S : Store) (cs : List Int) (i : Nat) (env : Env) (h : env[i]? = some (some (col cs))) : eFld [0] 0 (eVar i) env S = .ok (false, .tup (cs.map .int)) S := by
  rw [q_fld, q_var, h]
  rfl
theorem lenN {cf : CF} {tb : List (Nat × Nat)} {a : SE} {env : Env} {S : Store} {k : Bool} {c : List Int} (ha : a env S = .ok (k, .tup (c.map .int)) S) : eLen cf tb a env S = .ok (false, .int c.length) S := by
  rw [len_flat ha rfl (bLen_tup _ _), List.length_map]
theorem lenL {cf : CF} {tb : List (Nat × Nat)} {a : SE} {env : Env} {S : Store} {k : Bool} {c : List Int} (ha : a env S = .ok (k, .lst (c.map .int)) S) : eLen cf tb a env S = .ok (false, .int c.length) S := by
  rw [len_flat ha rfl (bLen_lst _ _), List.length_map]
theorem cinit (n : Nat) (S : Store) (b : Bool) (cs : List Int) (h1 : 1 ≤ cs.length) (h2 : cs.length ≤ 12) (hd : ∀ c ∈ cs, dig c) :
    callF TT (n + 2) 1 [.ref S.length, sq b cs] S.length (S ++ [.ins 0 [] []]) = .ok .non (S ++ [col cs]) := by
  rw [call_succ (b := b1) rfl rfl]
  show fin (b1.body (callF TT (n + 1)) S.length [some (.ref S.length), some (sq b cs), none] (S ++ [.ins 0 [] []])) = _
  unfold b1
  dsimp only
  have hit : itP (sq b cs) = some (cs.map .int) := by cases b <;> rfl
  have t1 : tNo (tTru (eIsi [(.non, false), (.bl, false), (.int, false), (.str, false), (.tup, true), (.lst, true), (.dct, false), (.own 0, false), (.own 1, false)] (eVar 1))) [some (.ref S.length), some (sq b cs), none] (S ++ [.ins 0 [] []]) = .ok false (S ++ [.ins 0 [] []]) := by
    cases b <;> simp [q_var, sq, tyN, truth, lk_cons]
  have hln : eLen (callF TT (n + 1)) [(0, 3), (1, 14)] (eVar 1) [some (.ref S.length), some (sq b cs), none] (S ++ [.ins 0 [] []]) = .ok (false, .int cs.length) (S ++ [.ins 0 [] []]) := by
    cases b
    · exact lenL (k := false) rfl
    · exact lenN (k := false) rfl
  have t2 := tno_val (tbl_val (ch_val (o := oLe) (o' := oLe) (a := eLit (.int 1)) (u := .int 1) (k1 := false) rfl hln (c := eLit (.int 12)) (k3 := false) (w := .int 12) rfl rfl rfl))
  rw [q_scons, sif_val (t := false) (by
    rw [tor_val t1, if_neg (by simp), t2]
    rw [decide_eq_true (by omega), decide_eq_true (by omega)]
    rfl), if_neg (by simp), q_snil, RS.then_nx, q_scons]
  have e3 := all_lc (i := iSeq (eVar 1)) (t := gNm 2) (vs := [2]) (e := eCall (callF TT (n + 1)) 3 0 (aCons (eVar 2) (aCons (eLit (.int 0)) (aCons (eLit (.int 9)) aNil)))) (env := [some (.ref S.length), some (sq b cs), none]) (S := S ++ [.ins 0 [] []]) cs (fun x => PV.int x) (fun _ => true) (fun x => [some (.ref S.length), some (sq b cs), some (.int x)]) (by
    rw [q_seq, show eVar 1 [some (.ref S.length), some (sq b cs), none] (S ++ [.ins 0 [] []]) = .ok (false, sq b cs) (S ++ [.ins 0 [] []]) from rfl, R.bind_ok]
    simp only [lockS_it hit]) (by omega) (fun x _ => rfl) (fun x hx => ⟨false, by
      refine call3 (v := .int x) (b := false) rfl (v2 := .int 0) (b2 := false) rfl (v3 := .int 9) (b3 := false) rfl ?_
      rw [isnumV, decide_eq_true (hd x hx)]⟩)
  rw [show (cs.all fun _ => true) = true by simp] at e3
  rw [sif_val (tno_val (ttru_bl e3)), Bool.not_true, if_neg (by simp), q_snil, RS.then_nx]
  rw [fld_last (n0 := S.length) (k := false) (w := .tup (cs.map .int)) (k' := false) rfl (arg1_val (a := eVar 1) (k := false) (v := sq b cs) rfl (by cases b <;> rfl)) rfl rfl rfl]
  rfl
theorem cmake {a1 : SE} {env : Env} {S : Store} {k1 : Bool} (n : Nat) (b : Bool) (cs : List Int) (h1 : 1 ≤ cs.length) (h2 : cs.length ≤ 12) (hd : ∀ c ∈ cs, dig c) (h : a1 env S = .ok (k1, sq b cs) S) : eMake (callF TT (n + 2)) 2 0 1 (aCons a1 aNil) env S = .ok (true, col cs) S := by
  unfold eMake
  rw [q_cons, h, R.bind_ok, q_nil, R.bind_ok, R.bind_ok, if_pos (by rfl), cinit n S b cs h1 h2 hd]
  show norm S.length (.ref S.length) (S ++ [col cs]) = _
  exact norm_ins S 0 [0] [cs]
abbrev tN (l : List Nat) : PV := .tup ((iN l).map .int)
end PX.K03
set_option linter.all false
set_option maxRecDepth 100000
set_option maxHeartbeats 1000000
namespace PX.K03
open PySem PX K22M
theorem number_ok (n n0 : Nat) (S : Store) (ns : List Int) (k : Int) (hn : ns.length ≤ 63) : ∃ x, callF TT (n + 1) 23 [.lst (ns.map .int), .int k] n0 S = .ok (.int x) S := by
  obtain ⟨cells, hc, hne, hl⟩ : ∃ cells : List Int, (if ns = [] then PV.lst ([5].map .int) else .lst (ns.map .int)) = .lst (cells.map .int) ∧ cells ≠ [] ∧ cells.length ≤ 63 := by
    by_cases h : ns = []
    · exact ⟨[5], by rw [if_pos h], by simp, by simp⟩
    · exact ⟨ns, by rw [if_neg h], h, hn⟩
  have hpos : 0 < cells.length := List.length_pos_iff.mpr hne
  obtain ⟨c, e1, _⟩ := oIx_lst S cells (k % cells.length) (Int.emod_nonneg _ (by omega)) (Int.emod_lt_of_pos _ (by omega))
  have he : eNe (callF TT n) [(0, 2), (1, 13)] [.non, .bl, .int, .str, .tup, .lst, .dct, .own 0, .own 1] (eVar 0) (eLst aNil) [some (.lst (ns.map .int)), some (.int k), none, none, none, none, none, none] S = .ok (false, .bl (!decide (ns = []))) S := by
    simp [q_var, ownOf_lst, small]
    show ofO (oNe (.lst (ns.map .int)) (.lst (List.map .int [])) S) S = _
    unfold oNe
    rw [eqD_lst]
    rfl
  rw [call_succ (b := b23) rfl rfl]
  show ∃ x, fin (b23.body (callF TT n) n0 [some (.lst (ns.map .int)), some (.int k), none, none, none, none, none, none] S) = _
  unfold b23
  have hcell : eIf (tBl (eNe (callF TT n) [(0, 2), (1, 13)] [.non, .bl, .int, .str, .tup, .lst, .dct, .own 0, .own 1] (eVar 0) (eLst aNil))) (eSl (eVar 0) pNo (pSo (eLit (.int 63)))) (eLst (aCons (eLit (.int 5)) aNil)) [some (.lst (ns.map .int)), some (.int k), none, none, none, none, none, none] S = .ok (true, .lst (cells.map .int)) S := by
    rw [q_if, q_tbl, he]
    by_cases h : ns = []
    · rw [if_pos h] at hc
      simp [h, small]
      exact (PV.lst.inj hc)
    · rw [if_neg h] at hc
      simp [h, q_var, slP]
      rw [cut_all _ (by rw [List.length_map]; exact hn)]
      exact (PV.lst.inj hc)
  simp only [q_scons, q_sasg, hcell, R.go_ok, q_gnm, RS.then_nx]
  simp [q_var, ownOf_lst, dIx_lst, bLen_lst, bInt_int, gTps]
  rw [mod_int _ _ _ (by omega)]
  simp [e1, dIx_lst]
  rw [div_int _ _ _ (by omega) (by omega)]
  simp [cat_int, rep_l, mod_int, div_int, q_var, bInt_int, gTps]
  simp [cat_int, rep_l, rep_r, mod_int, div_int, q_var, bInt_int, gTps, bSum_lst, rep_m]
abbrev DD (ns : List Int) (k : Nat) : PV := .lst [.lst (ns.map .int), .int k]
theorem take_ok (n n0 : Nat) (R : Store) (ns : List Int) (k : Nat) (many : Int) (hn : ns.length ≤ 63) (hm : 0 < many) :
    ∃ v, 0 ≤ v ∧ v < many ∧ callF TT (n + 2) 24 [.ref 0, .int many] n0 (DD ns k :: R) = .ok (.int v) (DD ns (k + 1) :: R) := by
  obtain ⟨x, hx⟩ := number_ok n (DD ns (k + 1) :: R).length (DD ns (k + 1) :: R) ns (k + 1) hn
  refine ⟨x % many, Int.emod_nonneg _ (by omega), Int.emod_lt_of_pos _ hm, ?_⟩
  rw [call_succ (b := b24) rfl rfl]
  show fin (b24.body (callF TT (n + 1)) n0 [some (.ref 0), some (.int many)] (DD ns k :: R)) = _
  unfold b24
  have hs : sSetI (setG n0) (eVar 0) (eLit (.int 1)) (eBin oCat (eIx (callF TT (n + 1)) [(0, 4)] (eVar 0) (eLit (.int 1))) (eLit (.int 1))) [some (.ref 0), some (.int many)] (DD ns k :: R) = .nx [some (.ref 0), some (.int many)] (DD ns (k + 1) :: R) := by
    unfold sSetI
    simp [q_var, ownOf, unl, dIx, oIx, itemsOf, ixP, cat_int, setG, setL, mayPut, noref]
  simp only [q_scons, hs, RS.then_nx]
  have hv : callV (callF TT (n + 1)) 23 [.lst (ns.map .int), .int (k + 1)] (DD ns (k + 1) :: R) = .ok (false, .int x) (DD ns (k + 1) :: R) := callV_same hx rfl
  simp [q_var, ownOf, unl, dIx, oIx, itemsOf, ixP, bInt_int]
  rw [hv]
  simp [bInt_int, mod_int, hm]
theorem takeV (n : Nat) (R : Store) (ns : List Int) (k : Nat) (many : Int) (hn : ns.length ≤ 63) (hm : 0 < many) :
    ∃ v, 0 ≤ v ∧ v < many ∧ callV (callF TT (n + 2)) 24 [.ref 0, .int many] (DD ns k :: R) = .ok (false, .int v) (DD ns (k + 1) :: R) := by
  obtain ⟨v, h1, h2, h3⟩ := take_ok n (DD ns k :: R).length R ns k many hn hm
  exact ⟨v, h1, h2, callV_same h3 rfl⟩
noncomputable abbrev body16 (cf : CF) (n0 : Nat) : SS := (sCons (sAsg (gNm 4) (eIf (tBl (eEq cf [(0, 2), (1, 13)] [.non, .bl, .int, .str, .tup, .lst, .dct, .own 0, .own 1] (eCall cf 2 24 (aCons (eVar 0) (aCons (eLit (.int 3)) aNil))) (eLit (.int 0)))) (eCall cf 2 24 (aCons (eVar 0) (aCons (eLit (.int 10)) aNil))) (eCall cf 2 24 (aCons (eVar 0) (aCons (eLit (.int 4)) aNil))))) (sExp (eLm (appL n0) (eVar 2) (eIf (tAn (tBl (eNe cf [(0, 2), (1, 13)] [.non, .bl, .int, .str, .tup, .lst, .dct, .own 0, .own 1] (eVar 2) (eLst aNil))) (tBl (eEq cf [(0, 2), (1, 13)] [.non, .bl, .int, .str, .tup, .lst, .dct, .own 0, .own 1] (eCall cf 2 24 (aCons (eVar 0) (aCons (eLit (.int 4)) aNil))) (eLit (.int 0))))) (eIx cf [(0, 4)] (eVar 2) (eUn oNeg (eLit (.int 1)))) (eVar 4)))))
theorem eqD_r1 (X : PV) (acc bs : List Int) : eqD [X, .lst (acc.map .int)] (.ref 1) (.lst (bs.map .int)) = some (decide (acc = bs)) := by
  have e : toD [X, .lst (acc.map .int)] 6 (.ref 1) = some (.list (acc.map .int)) := by
    show (toDL (toD [X, .lst (acc.map .int)] 5) (acc.map .int)).map PyData.list = _
    rw [toDL_ints]
    rfl
  unfold eqD
  rw [e, toD_lst _ 4]
  exact congrArg some (eqv_ints acc bs)
theorem step16 (n : Nat) (ns : List Int) (hn : ns.length ≤ 63) (k : Nat) (acc : List Int) (ha : ∀ c ∈ acc, dig c) (hs : acc.length ≤ 1000) (most : Int) (a b : Option PV) :
    ∃ k' c b', dig c ∧ body16 (callF TT (n + 2)) 1 [some (.ref 0), some (.int most), some (.ref 1), a, b] [DD ns k, .lst (acc.map .int)] = .nx [some (.ref 0), some (.int most), some (.ref 1), a, b'] [DD ns k', .lst ((acc ++ [c]).map .int)] := by
  -- the drawn count
  obtain ⟨k1, c1, hc1, e1⟩ : ∃ k1 c1, dig c1 ∧ eIf (tBl (eEq (callF TT (n + 2)) [(0, 2), (1, 13)] [.non, .bl, .int, .str, .tup, .lst, .dct, .own 0, .own 1] (eCall (callF TT (n + 2)) 2 24 (aCons (eVar 0) (aCons (eLit (.int 3)) aNil))) (eLit (.int 0)))) (eCall (callF TT (n + 2)) 2 24 (aCons (eVar 0) (aCons (eLit (.int 10)) aNil))) (eCall (callF TT (n + 2)) 2 24 (aCons (eVar 0) (aCons (eLit (.int 4)) aNil)))
      [some (.ref 0), some (.int most), some (.ref 1), a, b] [DD ns k, .lst (acc.map .int)] = .ok (false, .int c1) [DD ns k1, .lst (acc.map .int)] := by
    obtain ⟨v, h1, h2, h3⟩ := takeV n [.lst (acc.map .int)] ns k 3 hn (by omega)
    obtain ⟨v2, g1, g2, g3⟩ := takeV n [.lst (acc.map .int)] ns (k + 1) 10 hn (by omega)
    obtain ⟨v3, f1, f2, f3⟩ := takeV n [.lst (acc.map .int)] ns (k + 1) 4 hn (by omega)
    by_cases hv : v = 0
    · exact ⟨k + 1 + 1, v2, ⟨g1, by omega⟩, by simp [q_var, h3, ownOf_int, oEq_int', hv, g3]⟩
    · exact ⟨k + 1 + 1, v3, ⟨f1, by omega⟩, by simp [q_var, h3, ownOf_int, oEq_int', hv, f3]⟩
  -- what is appended
  obtain ⟨k2, c2, hc2, e2⟩ : ∃ k2 c2, dig c2 ∧ eIf (tAn (tBl (eNe (callF TT (n + 2)) [(0, 2), (1, 13)] [.non, .bl, .int, .str, .tup, .lst, .dct, .own 0, .own 1] (eVar 2) (eLst aNil))) (tBl (eEq (callF TT (n + 2)) [(0, 2), (1, 13)] [.non, .bl, .int, .str, .tup, .lst, .dct, .own 0, .own 1] (eCall (callF TT (n + 2)) 2 24 (aCons (eVar 0) (aCons (eLit (.int 4)) aNil))) (eLit (.int 0))))) (eIx (callF TT (n + 2)) [(0, 4)] (eVar 2) (eUn oNeg (eLit (.int 1)))) (eVar 4)
      [some (.ref 0), some (.int most), some (.ref 1), a, some (.int c1)] [DD ns k1, .lst (acc.map .int)] = .ok (false, .int c2) [DD ns k2, .lst (acc.map .int)] := by
    have hne : oNe (.ref 1) (.lst []) [DD ns k1, .lst (acc.map .int)] = some (false, .bl (!decide (acc = []))) := by
      unfold oNe
      show (eqD _ _ (.lst (List.map PV.int []))).map _ = _
      rw [eqD_r1]
      rfl
    by_cases h : acc = []
    · subst h
      exact ⟨k1, c1, hc1, by simp at hne; simp [q_var, ownOf, unl, small, hne]⟩
    · obtain ⟨v, h1, h2, h3⟩ := takeV n [.lst (acc.map .int)] ns k1 4 hn (by omega)
      by_cases hv : v = 0
      · have hpos : 0 < acc.length := List.length_pos_iff.mpr h
        have hl : acc.length - 1 < acc.length := by omega
        refine ⟨k1 + 1, acc[acc.length - 1], ha _ (List.getElem_mem hl), ?_⟩
        have hix : oIx (.ref 1) (.int (-1)) [DD ns (k1 + 1), .lst (acc.map .int)] = some (false, .int acc[acc.length - 1]) := by
          have e1 : itemsOf [DD ns (k1 + 1), .lst (acc.map .int)] (.ref 1) = some (acc.map .int) := rfl
          have e2 : ixP (acc.map PV.int).length (-1) = some (acc.length - 1) := by
            unfold ixP
            rw [if_neg (by omega), List.length_map, if_pos (by omega)]
            congr 1
            omega
          have e3 : (acc.map PV.int)[acc.length - 1]? = some (.int acc[acc.length - 1]) := by
            rw [List.getElem?_map, List.getElem?_eq_getElem hl]
            rfl
          unfold oIx
          simp only [e1, e2, e3]
        simp [q_var, ownOf, unl, small, hne, h, h3, oEq_int', hv, oNeg, dIx, hix]
      · exact ⟨k1 + 1, c1, hc1, by simp [q_var, ownOf, unl, small, hne, h, h3, oEq_int', hv]⟩
  refine ⟨k2, c2, some (.int c1), hc2, ?_⟩
  have hsm : small acc.length = true := by
    unfold small
    exact Nat.ble_eq_true_of_le (by omega)
  have hv : eVar 2 [some (.ref 0), some (.int most), some (.ref 1), a, some (.int c1)] [DD ns k1, .lst (acc.map .int)] = .ok (false, .ref 1) [DD ns k1, .lst (acc.map .int)] := rfl
  have hil : isL [DD ns k1, .lst (acc.map .int)] (.ref 1) = true := rfl
  have hap : appL 1 (.ref 1) (.int c2) [DD ns k2, .lst (acc.map .int)] = some [DD ns k2, .lst ((acc ++ [c2]).map .int)] := by
    unfold appL
    simp [mayPut, hsm]
  simp only [q_scons, q_sasg, e1, R.go_ok, q_gnm, RS.then_nx, List.set, q_sexp, q_lm, hv, R.bind_ok, hil, if_true, e2, hap]
theorem loop16 (n : Nat) (ns : List Int) (hn : ns.length ≤ 63) (most : Int) : ∀ (m : Nat) (lo : Int) (k : Nat) (acc : List Int) (a b : Option PV), (∀ c ∈ acc, dig c) → acc.length + m ≤ 1000 →
    ∃ (k' : Nat) (acc' : List Int) (a' b' : Option PV), acc'.length = acc.length + m ∧ (∀ c ∈ acc', dig c) ∧ forR (gNm 3) (body16 (callF TT (n + 2)) 1) (rngL lo m) [some (.ref 0), some (.int most), some (.ref 1), a, b] [DD ns k, .lst (acc.map .int)] = .nx [some (.ref 0), some (.int most), some (.ref 1), a', b'] [DD ns k', .lst (acc'.map .int)]
  | 0, lo, k, acc, a, b, ha, hl => ⟨k, acc, a, b, rfl, ha, rfl⟩
  | m + 1, lo, k, acc, a, b, ha, hl => by
    obtain ⟨k1, c, b1, hc, e1⟩ := step16 n ns hn k acc ha (by omega) most (some (.int lo)) b
    obtain ⟨k2, acc', a', b', h1, h2, h3⟩ := loop16 n ns hn most m (lo + 1) k1 (acc ++ [c]) (some (.int lo)) b1 (fun x hx => by
      rcases List.mem_append.mp hx with hx | hx
      · exact ha x hx
      · rw [List.mem_singleton.mp hx]; exact hc) (by rw [List.length_append]; simp; omega)
    refine ⟨k2, acc', a', b', by rw [h1, List.length_append]; simp; omega, h2, ?_⟩
    show forR (gNm 3) (body16 (callF TT (n + 2)) 1) (.int lo :: rngL (lo + 1) m) _ _ = _
    rw [q_forC]
    show (match body16 (callF TT (n + 2)) 1 [some (.ref 0), some (.int most), some (.ref 1), some (.int lo), b] [DD ns k, .lst (acc.map .int)] with
      | .nx e S' => forR (gNm 3) (body16 (callF TT (n + 2)) 1) (rngL (lo + 1) m) e S'
      | .ct e S' => forR (gNm 3) (body16 (callF TT (n + 2)) 1) (rngL (lo + 1) m) e S'
      | .bk e S' => .nx e S'
      | z => z) = _
    rw [e1]
    exact h3

theorem counts_ok (n : Nat) (ns : List Int) (hn : ns.length ≤ 63) (k : Nat) (most : Int) (h0 : 0 < most) (h1 : most ≤ 500) :
    ∃ (k' : Nat) (cs : List Int), 1 ≤ cs.length ∧ (cs.length : Int) ≤ most ∧ (∀ c ∈ cs, dig c) ∧ callV (callF TT (n + 3)) 25 [.ref 0, .int most] [DD ns k] = .ok (true, .lst (cs.map .int)) [DD ns k'] := by
  obtain ⟨v, g0, g1, g2⟩ := takeV n [.lst []] ns k most hn h0
  obtain ⟨k', cs, a', b', e1, e2, e3⟩ := loop16 n ns hn most (1 + v).toNat 0 (k + 1) [] none none (fun c hc => absurd hc (by simp)) (by simp; omega)
  have hlen : cs.length = (1 + v).toNat := by rw [e1]; simp
  refine ⟨k', cs, by omega, by omega, e2, ?_⟩
  have hcall : callF TT (n + 3) 25 [.ref 0, .int most] 1 [DD ns k] = .ok (.ref 1) [DD ns k', .lst (cs.map .int)] := by
    rw [call_succ (b := b25) rfl rfl]
    show fin (b25.body (callF TT (n + 2)) 1 [some (.ref 0), some (.int most), none, none, none] [DD ns k]) = _
    unfold b25
    have hr : okRg (1 + v) = true := by
      unfold okRg
      simp
      omega
    have hf : sFor (iRg1 (eBin oCat (eLit (.int 1)) (eCall (callF TT (n + 2)) 2 24 (aCons (eVar 0) (aCons (eVar 1) aNil))))) (gNm 3) (body16 (callF TT (n + 2)) 1) [some (.ref 0), some (.int most), some (.ref 1), none, none] [DD ns k, .lst []] = .nx [some (.ref 0), some (.int most), some (.ref 1), a', b'] [DD ns k', .lst (cs.map .int)] := by
      rw [q_sfor]
      simp only [q_rg1, q_bin, q_lit, R.bind_ok, q_call, q_cons, q_nil]
      simp only [q_var]
      simp only [List.getElem?_cons_zero, List.getElem?_cons_succ, R.bind_ok, List.length_cons, List.length_nil, if_true, g2, cat_int, q_ofO_some, hr, R.go_ok]
      rw [List.map_nil] at e3
      rw [e3]
      rfl
    have h0' : sAsg (gNm 2) (eNew (eLst aNil)) [some (.ref 0), some (.int most), none, none, none] [DD ns k] = .nx [some (.ref 0), some (.int most), some (.ref 1), none, none] [DD ns k, .lst []] := rfl
    simp only [q_scons, h0', RS.then_nx]
    rw [show sFor (iRg1 (eBin oCat (eLit (.int 1)) (eCall (callF TT (n + 2)) 2 24 (aCons (eVar 0) (aCons (eVar 1) aNil))))) (gNm 3) _ [some (.ref 0), some (.int most), some (.ref 1), none, none] [DD ns k, .lst []] = _ from hf]
    rfl
  unfold callV
  rw [show ([DD ns k] : Store).length = 1 from rfl, hcall]
  show norm 1 (.ref 1) [DD ns k', .lst (cs.map .int)] = _
  show (match frzO (frz 1 1 [DD ns k', .lst (cs.map .int)] 8) (.lst (cs.map .int)) with
    | some w => R.ok (true, w) [DD ns k']
    | none => .no) = _
  show (match (frzL (frz 1 1 [DD ns k', .lst (cs.map .int)] 8) (cs.map .int)).map PV.lst with
    | some w => R.ok (true, w) [DD ns k']
    | none => .no) = _
  rw [frzL_ints]
  rfl
end PX.K03
set_option linter.all false
set_option maxRecDepth 100000
set_option maxHeartbeats 1000000
namespace PX
open PySem
theorem zipL_gen {α β : Type} (f : α → PV) (g : β → PV) : ∀ (a : List α) (b : List β), zipL (a.map f) (b.map g) = (a.zip b).map fun p => PV.tup [f p.1, g p.2]
  | [], b => rfl
  | x :: a, [] => rfl
  | x :: a, y :: b => by
    show PV.tup [f x, g y] :: zipL (a.map f) (b.map g) = _
    rw [zipL_gen f g a b]
    rfl
theorem pair0 (x y : PV) (S : Store) : oIx (.tup [x, y]) (.int 0) S = some (false, x) := rfl
theorem pair1 (x y : PV) (S : Store) : oIx (.tup [x, y]) (.int 1) S = some (false, y) := rfl
def flatT : PV → Bool
  | .int _ => true
  | .tup xs => xs.all fun x => match x with
    | .int _ => true
    | _ => false
  | _ => false
theorem norm_insV (S : Store) (c : Nat) (ns : List Nat) (vs : List PV) (h : frzL (frz S.length S.length (S ++ [.ins c ns vs]) 8) vs = some vs) : norm S.length (.ref S.length) (S ++ [.ins c ns vs]) = .ok (true, .ins c ns vs) S := by
  unfold norm
  rw [if_neg (by simp)]
  simp only [Nat.lt_irrefl, if_false, at_last]
  show (match (frzL (frz S.length S.length (S ++ [PV.ins c ns vs]) 8) vs).map (PV.ins c ns) with
    | some w => R.ok (true, w) ((S ++ [PV.ins c ns vs]).take S.length)
    | none => .no) = _
  rw [h]
  simp
theorem args4 {a b c d : SE} {env : Env} {S : Store} {k1 k2 k3 k4 : Bool} {v w x y : PV} (ha : a env S = .ok (k1, v) S) (hb : b env S = .ok (k2, w) S) (hc : c env S = .ok (k3, x) S) (hd : d env S = .ok (k4, y) S) : aCons a (aCons b (aCons c (aCons d aNil))) env S = .ok [v, w, x, y] S := by
  rw [q_cons, ha, R.bind_ok, q_cons, hb, R.bind_ok, q_cons, hc, R.bind_ok, q_cons, hd, R.bind_ok, q_nil, R.bind_ok, R.bind_ok, R.bind_ok, R.bind_ok]
theorem args3 {a b c : SE} {env : Env} {S : Store} {k1 k2 k3 : Bool} {v w x : PV} (ha : a env S = .ok (k1, v) S) (hb : b env S = .ok (k2, w) S) (hc : c env S = .ok (k3, x) S) : aCons a (aCons b (aCons c aNil)) env S = .ok [v, w, x] S := by
  rw [q_cons, ha, R.bind_ok, q_cons, hb, R.bind_ok, q_cons, hc, R.bind_ok, q_nil, R.bind_ok, R.bind_ok, R.bind_ok]
theorem tup_val {a : SA} {env : Env} {S : Store} {vs : List PV} (ha : a env S = .ok vs S) (h : vs.length ≤ 1000000) : eTup a env S = .ok (false, .tup vs) S := by
  rw [q_tup, ha, R.bind_ok, small_nat h, if_pos rfl]
theorem frzL_c {f : PV → Option PV} {v w : PV} {vs ws : List PV} (h1 : f v = some w) (h2 : frzL f vs = some ws) : frzL f (v :: vs) = some (w :: ws) := by
  simp only [frzL, h1, h2]
theorem frz_tupi (n0 t : Nat) (S : Store) (k : Nat) (ns : List Int) : frz n0 t S (k + 2) (.tup (ns.map .int)) = some (.tup (ns.map .int)) := by
  show (frzL (frz n0 t S (k + 1)) (ns.map .int)).map PV.tup = _
  rw [frzL_ints]
  rfl
theorem toDL_c {f : PV → Option PyData} {v : PV} {w : PyData} {vs : List PV} {ws : List PyData} (h1 : f v = some w) (h2 : toDL f vs = some ws) : toDL f (v :: vs) = some (w :: ws) := by
  simp only [toDL, h1, h2]
theorem meth0 {cf : CF} {m f : Nat} {T : List (Nat × Nat)} {o : SE} {env : Env} {S : Store} {v : PV} {b : Bool} {z : Bool × PV} (ho : o env S = .ok (b, v) S) (hm : methOf m T S v = some f) (hc : callV cf f [v] S = .ok z S) : eMeth cf 1 m T o aNil env S = .ok z S := methN ho hm rfl rfl hc
theorem call_at {T : Nat → Option FnB} {n f : Nat} {b : FnB} {args : List PV} {n0 : Nat} {S : Store} (env : Env) (h : T f = some b) (hl : args.length = b.np) (he : args.map some ++ List.replicate (b.nl - b.np) none = env) : callF T (n + 1) f args n0 S = fin (b.body (callF T n) n0 env S) := by
  rw [call_succ h hl, he]
end PX
namespace PX.K03
open PySem PX K22M
abbrev pr (p : Nat × Nat) : PV := .tup [.int (p.1 : Nat), .int (p.2 : Nat)]
abbrev hst (w : Nat) (c : List Nat) (t : List Int) : PV := .ins 1 [1, 2, 3] [.int w, tN c, .tup (t.map .int)]
def okH (w : Nat) (c : List Nat) (t : List Int) : Prop := 1 ≤ w ∧ w ≤ 12 ∧ isC c w ∧ t.length = c.length ∧ ∀ q ∈ t.zip (prs c w), 0 ≤ q.1 ∧ q.1 ≤ 9 * ((q.2.2 : Int) - q.2.1)
theorem inc_len {c : List Nat} {n : Nat} (h : isC c n) : c.length ≤ n := by
  have : ∀ (l : List Nat) (m k : Nat), (∀ x ∈ l, m ≤ x ∧ x < k) → l.Pairwise (· < ·) → l.length ≤ k - m := by
    intro l
    induction l with
    | nil => intro m k _ _; simp
    | cons a l ih =>
      intro m k q1 q2
      have := ih (a + 1) k (fun x hx => ⟨(List.pairwise_cons.mp q2).1 x hx, (q1 x (List.mem_cons_of_mem _ hx)).2⟩) (List.pairwise_cons.mp q2).2
      have := q1 a List.mem_cons_self
      simp only [List.length_cons]
      omega
  have := this c 0 n (fun x hx => ⟨Nat.zero_le _, h.2.1 x hx⟩) h.2.2
  omega
noncomputable abbrev B12 (cf : CF) : SS := (sIf (tNo (tTru (eCall cf 3 0 (aCons (eVar 4) (aCons (eLit (.int 0)) (aCons (eBin oRep (eLit (.int (9))) (eBin oSub (eIx cf [(0, 4)] (eVar 5) (eLit (.int 1))) (eIx cf [(0, 4)] (eVar 5) (eLit (.int 0))))) aNil)))))) sNo sNil)
theorem loop12 (n : Nat) (S : Store) (a0 a1 a2 a3 : Option PV) : ∀ (l : List (Int × (Nat × Nat))) (a4 a5 : Option PV), (∀ q ∈ l, 0 ≤ q.1 ∧ q.1 ≤ 9 * ((q.2.2 : Int) - q.2.1)) →
    ∃ a4' a5', forR (gTp [gNm 4, gNm 5]) (B12 (callF TT (n + 1))) (l.map fun q => PV.tup [.int q.1, pr q.2]) [a0, a1, a2, a3, a4, a5] S = .nx [a0, a1, a2, a3, a4', a5'] S
  | [], a4, a5, _ => ⟨a4, a5, rfl⟩
  | q :: l, a4, a5, h => by
    obtain ⟨a4', a5', ih⟩ := loop12 n S a0 a1 a2 a3 l (some (.int q.1)) (some (pr q.2)) fun x hx => h x (List.mem_cons_of_mem _ hx)
    refine ⟨a4', a5', ?_⟩
    have hq := h q List.mem_cons_self
    have et : gTp [gNm 4, gNm 5] (.tup [.int q.1, pr q.2]) [a0, a1, a2, a3, a4, a5] S = some [a0, a1, a2, a3, some (.int q.1), some (pr q.2)] := rfl
    have v5 : eVar 5 [a0, a1, a2, a3, some (.int q.1), some (pr q.2)] S = .ok (false, pr q.2) S := rfl
    have e1 := ix_val (cf := callF TT (n + 1)) (tb := [(0, 4)]) (b := eLit (.int 1)) (k' := false) (w := .int 1) v5 rfl rfl rfl (pair1 _ _ S)
    have e0 := ix_val (cf := callF TT (n + 1)) (tb := [(0, 4)]) (b := eLit (.int 0)) (k' := false) (w := .int 0) v5 rfl rfl rfl (pair0 _ _ S)
    have em := bin_val (o := oRep) (a := eLit (.int 9)) (k := false) (v := .int 9) rfl (bin_val (o := oSub) e1 e0 rfl) (rep_l 9 ((q.2.2 : Int) - q.2.1) S (by omega) (by omega))
    have ec := call3 (a := eVar 4) (b := false) (v := .int q.1) (a2 := eLit (.int 0)) (b2 := false) (v2 := .int 0) rfl rfl em (isnumV n S q.1 0 _)
    have eb : B12 (callF TT (n + 1)) [a0, a1, a2, a3, some (.int q.1), some (pr q.2)] S = .nx [a0, a1, a2, a3, some (.int q.1), some (pr q.2)] S := by
      unfold B12
      rw [sif_val (tno_val (ttru_bl ec)), decide_eq_true hq]
      rfl
    rw [List.map_cons, q_forC]
    simp only [et, eb]
    exact ih
theorem hinit (n : Nat) (S : Store) (w : Nat) (c : List Nat) (t : List Int) (h : okH w c t) : callF TT (n + 3) 12 [.ref S.length, .int w, tN c, .tup (t.map .int)] S.length (S ++ [.ins 1 [] []]) = .ok .non (S ++ [hst w c t]) := by
  obtain ⟨h1, h2, h3, h4, h5⟩ := h
  have hcl := inc_len h3
  rw [call_at (b := b12) [some (.ref S.length), some (.int w), some (tN c), some (.tup (t.map .int)), none, none] rfl rfl rfl]
  unfold b12
  dsimp only
  generalize hS : S ++ [PV.ins 1 [] []] = S1
  have t1 := tno_val (ttru_bl (call3 (a := eVar 1) (b := false) (v := .int w) (a2 := eLit (.int 1)) (b2 := false) (v2 := .int 1) (a3 := eLit (.int 12)) (b3 := false) (v3 := .int 12) (env := [some (.ref S.length), some (.int w), some (tN c), some (.tup (t.map .int)), none, none]) rfl rfl rfl (isnumV (n + 1) S1 w 1 12)))
  have t2 := tno_val (ttru_bl (call2 (a := eVar 2) (b := false) (v := tN c) (a2 := eVar 1) (b2 := false) (v2 := .int w) (env := [some (.ref S.length), some (.int w), some (tN c), some (.tup (t.map .int)), none, none]) rfl rfl (arecuts_ok n S1 c w (by omega) (by omega) h1)))
  rw [decide_eq_true ⟨by omega, by omega⟩] at t1
  rw [decide_eq_true h3] at t2
  rw [q_scons, sif_val (t := false) (by rw [tor_val t1, if_neg (by simp), t2]; rfl), if_neg (by simp), q_snil, RS.then_nx, q_scons]
  have t3 : tNo (tTru (eIsi [(.non, false), (.bl, false), (.int, false), (.str, false), (.tup, true), (.lst, false), (.dct, false), (.own 0, false), (.own 1, false)] (eVar 3))) [some (.ref S.length), some (.int w), some (tN c), some (.tup (t.map .int)), none, none] S1 = .ok false S1 := by
    simp [q_var, tyN, truth, lk_cons]
  have t4 : tBl (eNe (callF TT (n + 2)) [(0, 2), (1, 13)] [.non, .bl, .int, .str, .tup, .lst, .dct, .own 0, .own 1] (eLen (callF TT (n + 2)) [(0, 3), (1, 14)] (eVar 3)) (eLen (callF TT (n + 2)) [(0, 3), (1, 14)] (eVar 2))) [some (.ref S.length), some (.int w), some (tN c), some (.tup (t.map .int)), none, none] S1 = .ok false S1 := by
    rw [tbl_val (ne_flat (lenN (k := false) (c := t) rfl) (lenN (k := false) (c := iN c) rfl) rfl (oNe_int' _ _ _)), decide_eq_true (by rw [iN_len, h4])]
    rfl
  rw [sif_val (t := false) (by rw [tor_val t3, if_neg (by simp), t4]), if_neg (by simp), q_snil, RS.then_nx, q_scons]
  have ez := zip_it (eVar 3) (eCall (callF TT (n + 2)) 2 11 (aCons (eVar 1) (aCons (eVar 2) aNil))) [some (.ref S.length), some (.int w), some (tN c), some (.tup (t.map .int)), none, none] S1 false false _ _ _ _ rfl rfl rfl (call2 (a := eVar 1) (b := false) (v := .int w) (a2 := eVar 2) (b2 := false) (v2 := tN c) rfl rfl (bucketsV (n + 1) S1 c w (by omega)))
  rw [zipL_gen PV.int pr] at ez
  obtain ⟨a4, a5, e5⟩ := loop12 (n + 1) S1 (some (.ref S.length)) (some (.int w)) (some (tN c)) (some (.tup (t.map .int))) (t.zip (prs c w)) none none h5
  rw [q_sfor, ez, R.go_ok]
  simp only [q_unl0]
  rw [show forR (gTp [gNm 4, gNm 5]) _ _ [some (.ref S.length), some (.int w), some (tN c), some (.tup (t.map .int)), none, none] S1 = _ from e5, RS.then_nx, ← hS]
  rw [q_scons, fld_last (n0 := S.length) (e := eVar 1) (o := eVar 0) (env := [some (.ref S.length), some (.int w), some (tN c), some (.tup (t.map .int)), a4, a5]) (k := false) (w := .int w) (k' := false) rfl rfl rfl rfl rfl, RS.then_nx]
  rw [q_scons, fld_last (n0 := S.length) (e := eVar 2) (o := eVar 0) (env := [some (.ref S.length), some (.int w), some (tN c), some (.tup (t.map .int)), a4, a5]) (k := false) (w := tN c) (k' := false) rfl rfl rfl rfl rfl, RS.then_nx]
  rw [fld_last (n0 := S.length) (e := eVar 3) (o := eVar 0) (env := [some (.ref S.length), some (.int w), some (tN c), some (.tup (t.map .int)), a4, a5]) (k := false) (w := .tup (t.map .int)) (k' := false) rfl rfl rfl rfl rfl]
  rfl
theorem hmake {a1 a2 a3 : SE} {env : Env} {S : Store} {k1 k2 k3 : Bool} (n : Nat) (w : Nat) (c : List Nat) (t : List Int) (h : okH w c t) (h1 : a1 env S = .ok (k1, .int w) S) (h2 : a2 env S = .ok (k2, tN c) S) (h3 : a3 env S = .ok (k3, .tup (t.map .int)) S) : eMake (callF TT (n + 3)) 4 1 12 (aCons a1 (aCons a2 (aCons a3 aNil))) env S = .ok (true, hst w c t) S := by
  unfold eMake
  rw [args3 h1 h2 h3, R.bind_ok, if_pos (by rfl), hinit n S w c t h]
  show norm S.length (.ref S.length) (S ++ [hst w c t]) = _
  refine norm_insV S 1 [1, 2, 3] _ ?_
  exact frzL_c rfl (frzL_c (frz_tupi _ _ _ 6 _) (frzL_c (frz_tupi _ _ _ 6 _) rfl))
section
variable (n : Nat) (S : Store) (w w' : Nat) (c c' : List Nat) (t t' : List Int)
theorem hf1 {i : Nat} {env : Env} (h : env[i]? = some (some (hst w c t))) : eFld [1] 1 (eVar i) env S = .ok (false, .int w) S := by
  rw [q_fld, q_var, h]
  rfl
theorem hf2 {i : Nat} {env : Env} (h : env[i]? = some (some (hst w c t))) : eFld [1] 2 (eVar i) env S = .ok (false, tN c) S := by
  rw [q_fld, q_var, h]
  rfl
theorem hf3 {i : Nat} {env : Env} (h : env[i]? = some (some (hst w c t))) : eFld [1] 3 (eVar i) env S = .ok (false, .tup (t.map .int)) S := by
  rw [q_fld, q_var, h]
  rfl
abbrev all3 (w : Nat) (c : List Nat) (t : List Int) : PV := .tup [.int w, tN c, .tup (t.map .int)]
theorem all3V : callV (callF TT (n + 1)) 15 [hst w c t] S = .ok (false, all3 w c t) S := by
  refine callV_same ?_ rfl
  rw [call_succ (b := b15) rfl rfl]
  show fin (b15.body (callF TT n) S.length [some (hst w c t)] S) = _
  unfold b15
  dsimp only
  rw [sret_val (tup_val (args3 (hf1 S w c t rfl) (hf2 S w c t rfl) (hf3 S w c t rfl)) (by simp))]
  rfl
theorem eq_all3 : oEq (all3 w c t) (all3 w' c' t') S = some (false, .bl (decide (w = w' ∧ c = c' ∧ t = t'))) := by
  unfold oEq eqD
  have e : ∀ (w : Nat) (c : List Nat) (t : List Int), toD S 6 (all3 w c t) = some (.tuple [.int w, .tuple ((iN c).map .int), .tuple (t.map .int)]) := by
    intro w c t
    exact congrArg (Option.map PyData.tuple) (toDL_c rfl (toDL_c (toD_tup S 3 _) (toDL_c (toD_tup S 3 _) rfl)))
  rw [e, e]
  show some (false, PV.bl (((w : Int) == (w' : Int)) && (PyData.eqvAll ((iN c).map .int) ((iN c').map .int) && (PyData.eqvAll (t.map .int) (t'.map .int) && true)))) = _
  rw [eqv_ints, eqv_ints, Bool.and_true]
  congr 3
  have e1 : ((w : Int) == (w' : Int)) = decide (w = w') := by
    by_cases h : w = w'
    · simp [h]
    · simp [h]
      omega
  have e2 : decide (iN c = iN c') = decide (c = c') := decide_eq_decide.mpr iN_inj
  rw [e1, e2]
  simp [Bool.decide_and]
theorem heqV : callV (callF TT (n + 2)) 13 [hst w c t, hst w' c' t'] S = .ok (false, .bl (decide (w = w' ∧ c = c' ∧ t = t'))) S := by
  refine callV_same ?_ rfl
  rw [call_succ (b := b13) rfl rfl]
  show fin (b13.body (callF TT (n + 1)) S.length [some (hst w c t), some (hst w' c' t')] S) = _
  unfold b13
  dsimp only
  have e1 : eIsi [(.non, false), (.bl, false), (.int, false), (.str, false), (.tup, false), (.lst, false), (.dct, false), (.own 0, false), (.own 1, true)] (eVar 1) [some (hst w c t), some (hst w' c' t')] S = .ok (false, .bl true) S := by
    simp [q_var, tyN, truth, lk_cons]
  rw [q_sret, q_ean, e1, R.bind_ok]
  show fin (R.go (eEq _ _ _ _ _ _ S) _) = _
  rw [eq_flat (meth0 (b := false) (v := hst w c t) rfl rfl (all3V n S w c t)) (meth0 (b := false) (v := hst w' c' t') rfl rfl (all3V n S w' c' t')) rfl (eq_all3 S w w' c c' t t')]
  rfl
theorem heqE {cf : CF} {tb : List (Nat × Nat)} {tys : List TyN} {a b : SE} {env : Env} {k k' : Bool} (hcf : cf = callF TT (n + 2)) (htb : tb = [(0, 2), (1, 13)]) (hty : tys = [TyN.non, .bl, .int, .str, .tup, .lst, .dct, .own 0, .own 1])
    (ha : a env S = .ok (k, hst w c t) S) (hb : b env S = .ok (k', hst w' c' t') S) : eEq cf tb tys a b env S = .ok (false, .bl (decide (w = w' ∧ c = c' ∧ t = t'))) S := by
  subst hcf htb hty
  rw [q_eq, ha, R.bind_ok, hb, R.bind_ok]
  show (if okTy [TyN.non, .bl, .int, .str, .tup, .lst, .dct, .own 0, .own 1] S (hst w' c' t') then callV (callF TT (n + 2)) 13 [hst w c t, hst w' c' t'] S else .no) = _
  rw [if_pos (by rfl), heqV]
theorem hneE {cf : CF} {tb : List (Nat × Nat)} {tys : List TyN} {a b : SE} {env : Env} {k k' : Bool} (hcf : cf = callF TT (n + 2)) (htb : tb = [(0, 2), (1, 13)]) (hty : tys = [TyN.non, .bl, .int, .str, .tup, .lst, .dct, .own 0, .own 1])
    (ha : a env S = .ok (k, hst w c t) S) (hb : b env S = .ok (k', hst w' c' t') S) : eNe cf tb tys a b env S = .ok (false, .bl (!decide (w = w' ∧ c = c' ∧ t = t'))) S := by
  subst hcf htb hty
  rw [q_ne, ha, R.bind_ok, hb, R.bind_ok]
  show (if okTy [TyN.non, .bl, .int, .str, .tup, .lst, .dct, .own 0, .own 1] S (hst w' c' t') then (callV (callF TT (n + 2)) 13 [hst w c t, hst w' c' t'] S).bind notI else .no) = _
  rw [if_pos (by rfl), heqV, R.bind_ok]
  rfl
theorem hlenV : callV (callF TT (n + 1)) 14 [hst w c t] S = .ok (false, .int c.length) S := by
  refine callV_same ?_ rfl
  rw [call_succ (b := b14) rfl rfl]
  show fin (b14.body (callF TT n) S.length [some (hst w c t)] S) = _
  unfold b14
  dsimp only
  rw [sret_val (lenN (hf2 S w c t rfl)), iN_len]
  rfl
theorem hlenE {a : SE} {env : Env} {k : Bool} (hl : c.length ≤ 1000) (ha : a env S = .ok (k, hst w c t) S) : eLen (callF TT (n + 1)) [(0, 3), (1, 14)] a env S = .ok (false, .int c.length) S := by
  rw [q_len, ha, R.bind_ok]
  show (callV (callF TT (n + 1)) 14 [hst w c t] S).bind lenI = _
  rw [hlenV, R.bind_ok]
  unfold lenI
  simp only
  rw [decide_eq_true (by omega), decide_eq_true (by omega)]
  rfl
theorem hbuckV (hl : c.length ≤ 1000) : callV (callF TT (n + 2)) 16 [hst w c t] S = .ok (false, .lst ((prs c w).map pr)) S := by
  refine callV_same ?_ rfl
  rw [call_succ (b := b16) rfl rfl]
  show fin (b16.body (callF TT (n + 1)) S.length [some (hst w c t)] S) = _
  unfold b16
  dsimp only
  rw [sret_val (call2 (hf1 S w c t rfl) (hf2 S w c t rfl) (bucketsV n S c w hl))]
  rfl
theorem chkhV : callV (callF TT (n + 1)) 17 [hst w c t] S = .ok (false, .non) S := by
  refine callV_same ?_ rfl
  rw [call_succ (b := b17) rfl rfl]
  show fin (b17.body (callF TT n) S.length [some (hst w c t)] S) = _
  unfold b17
  simp [q_var, tyN, truth, lk_cons]
end
end PX.K03
set_option linter.all false
set_option maxRecDepth 100000
set_option maxHeartbeats 1000000
namespace PX.K03
open PySem PX K22M
theorem sum_dig : ∀ (l : List Int), (∀ x ∈ l, 0 ≤ x ∧ x ≤ 9) → 0 ≤ l.sum ∧ l.sum ≤ 9 * (l.length : Int)
  | [], _ => by simp
  | x :: l, h => by
    have h1 := h x List.mem_cons_self
    have h2 := sum_dig l fun y hy => h y (List.mem_cons_of_mem _ hy)
    rw [List.sum_cons, List.length_cons]
    omega
theorem seg_len {cs : List Int} {a b : Nat} (h2 : b ≤ cs.length) : (seg cs a b).length = b - a := by
  unfold seg
  rw [List.length_take, List.length_drop]
  omega
theorem okH_tot {cs : List Int} {c : List Nat} (h1 : 1 ≤ cs.length) (h2 : cs.length ≤ 12) (hd : ∀ x ∈ cs, dig x) (hc : isC c cs.length) : okH cs.length c (tot cs c) := by
  refine ⟨h1, h2, hc, tot_len cs c, fun q hq => ?_⟩
  have : ∀ (l : List (Nat × Nat)), (∀ p ∈ l, p.1 < p.2 ∧ p.2 ≤ cs.length) → ∀ q ∈ (l.map fun p => (seg cs p.1 p.2).sum).zip l, 0 ≤ q.1 ∧ q.1 ≤ 9 * ((q.2.2 : Int) - q.2.1) := by
    intro l
    induction l with
    | nil => intro _ q hq; cases hq
    | cons p l ih =>
      intro hl q hq
      rw [List.map_cons, List.zip_cons_cons] at hq
      rcases List.mem_cons.mp hq with hq | hq
      · rw [hq]
        have hp := hl p List.mem_cons_self
        have := sum_dig (seg cs p.1 p.2) (seg_dig hd _ _)
        rw [seg_len hp.2] at this
        simp only
        omega
      · exact ih (fun p hp => hl p (List.mem_cons_of_mem _ hp)) q hq
  exact this (prs c cs.length) (fun p hp => by
    obtain ⟨g1, g2, g3⟩ := prs_mem hc.2.2 hc.2.1 p hp
    exact ⟨g1, g2⟩) q hq
section
variable (n : Nat) (S : Store) (cs : List Int) (c : List Nat) (h1 : 1 ≤ cs.length) (h2 : cs.length ≤ 12) (hd : ∀ x ∈ cs, dig x) (hc : isC c cs.length)
include h1 h2 hd hc
theorem histV : callV (callF TT (n + 4)) 18 [col cs, tN c] S = .ok (false, hst cs.length c (tot cs c)) S := by
  have hcl := inc_len hc
  refine callV_same ?_ rfl
  rw [call_at (b := b18) [some (col cs), some (tN c), none, none, none] rfl rfl rfl]
  unfold b18
  dsimp only
  have hln : ∀ a2 a3 a4, eLen (callF TT (n + 3)) [(0, 3), (1, 14)] (eVar 0) [some (col cs), some (tN c), a2, a3, a4] S = .ok (false, .int cs.length) S := fun a2 a3 a4 => len_col (n + 2) S cs (eVar 0) _ false (by omega) rfl
  rw [q_scons, sexp_val (call1 (v := col cs) (b := false) rfl (chkcolV (n + 2) S cs)), RS.then_nx, q_scons,
    sexp_val (call2 (hln none none none) (a2 := eVar 1) (b2 := false) (v2 := tN c) rfl (chkcutsV n S c cs.length (by omega) (by omega) h1 hc)), RS.then_nx, q_scons,
    sasg_val (call2 (hln none none none) (a2 := eVar 1) (b2 := false) (v2 := tN c) rfl (bucketsV (n + 2) S c cs.length (by omega))), RS.then_nx]
  rw [show ([some (col cs), some (tN c), none, none, none] : Env).set 2 (some (.lst ((prs c cs.length).map pr))) = [some (col cs), some (tN c), some (.lst ((prs c cs.length).map pr)), none, none] from rfl]
  have e := lc_int (i := iSeq (eVar 2)) (t := gTp [gNm 3, gNm 4]) (vs := [3, 4]) (c := tYesP) (e := eArg bSum (aCons (eSl (eFld [0] 0 (eVar 0)) (pSo (eVar 3)) (pSo (eVar 4))) aNil)) (env := [some (col cs), some (tN c), some (.lst ((prs c cs.length).map pr)), none, none]) (S := S)
    (prs c cs.length) pr (fun p => (seg cs p.1 p.2).sum) (fun _ => true) (fun p => [some (col cs), some (tN c), some (.lst ((prs c cs.length).map pr)), some (.int (p.1 : Nat)), some (.int (p.2 : Nat))]) (seq_valL _ _ S false _ rfl) (by rw [prs_len']; omega) (fun p _ => rfl) (fun p _ => rfl)
    (fun p hp _ => by
      obtain ⟨g1, g2, g3⟩ := prs_mem hc.2.2 hc.2.1 p hp
      exact ⟨false, arg1_val (sl_val (fld0 S cs 0 _ rfl) (pso_val (a := eVar 3) (k := false) rfl) (pso_val (a := eVar 4) (k := false) rfl) (seg_sl cs p.1 p.2 (by omega) g2 S)) (bSum_tup _ S)⟩)
  rw [filter_yes] at e
  rw [sret_val (hmake n cs.length c (tot cs c) (okH_tot h1 h2 hd hc) (hln _ none none) (a2 := eVar 1) (k2 := false) rfl (arg1_val e (tuple_lst _ S)))]
  rfl
def caps (cs : List Int) (c : List Nat) : List Int := (prs c cs.length).map fun p => mx (seg cs p.1 p.2)
def fills (cs : List Int) (c : List Nat) : List Int := (prs c cs.length).map fun p => (((seg cs p.1 p.2).filter fun x => decide (0 < x)).length : Int)
theorem capsV : callV (callF TT (n + 4)) 19 [col cs, tN c] S = .ok (false, .tup ((caps cs c).map .int)) S := by
  have hcl := inc_len hc
  refine callV_same ?_ rfl
  rw [call_at (b := b19) [some (col cs), some (tN c), none, none] rfl rfl rfl]
  unfold b19
  dsimp only
  have hln : ∀ a2 a3, eLen (callF TT (n + 3)) [(0, 3), (1, 14)] (eVar 0) [some (col cs), some (tN c), a2, a3] S = .ok (false, .int cs.length) S := fun a2 a3 => len_col (n + 2) S cs (eVar 0) _ false (by omega) rfl
  rw [q_scons, sexp_val (call1 (v := col cs) (b := false) rfl (chkcolV (n + 2) S cs)), RS.then_nx, q_scons,
    sexp_val (call2 (hln none none) (a2 := eVar 1) (b2 := false) (v2 := tN c) rfl (chkcutsV n S c cs.length (by omega) (by omega) h1 hc)), RS.then_nx]
  have e := lc_int (t := gTp [gNm 2, gNm 3]) (vs := [2, 3]) (c := tYesP) (e := eArg bMaxL (aCons (eSl (eFld [0] 0 (eVar 0)) (pSo (eVar 2)) (pSo (eVar 3))) aNil)) (env := [some (col cs), some (tN c), none, none]) (S := S)
    (prs c cs.length) pr (fun p => mx (seg cs p.1 p.2)) (fun _ => true) (fun p => [some (col cs), some (tN c), some (.int (p.1 : Nat)), some (.int (p.2 : Nat))]) (seq_valL _ _ S false _ (call2 (hln none none) (a2 := eVar 1) (b2 := false) (v2 := tN c) rfl (bucketsV (n + 2) S c cs.length (by omega)))) (by rw [prs_len']; omega) (fun p _ => rfl) (fun p _ => rfl)
    (fun p hp _ => by
      obtain ⟨g1, g2, g3⟩ := prs_mem hc.2.2 hc.2.1 p hp
      exact ⟨false, arg1_val (sl_val (fld0 S cs 0 _ rfl) (pso_val (a := eVar 2) (k := false) rfl) (pso_val (a := eVar 3) (k := false) rfl) (seg_sl cs p.1 p.2 (by omega) g2 S)) (mx_tup _ (seg_ne g1 (by omega)) S)⟩)
  rw [filter_yes] at e
  rw [sret_val (arg1_val e (tuple_lst _ S))]
  rfl
theorem fillsV : callV (callF TT (n + 4)) 20 [col cs, tN c] S = .ok (false, .tup ((fills cs c).map .int)) S := by
  have hcl := inc_len hc
  refine callV_same ?_ rfl
  rw [call_at (b := b20) [some (col cs), some (tN c), none, none, none, none] rfl rfl rfl]
  unfold b20
  dsimp only
  have hln : ∀ a2 a3 a4 a5, eLen (callF TT (n + 3)) [(0, 3), (1, 14)] (eVar 0) [some (col cs), some (tN c), a2, a3, a4, a5] S = .ok (false, .int cs.length) S := fun a2 a3 a4 a5 => len_col (n + 2) S cs (eVar 0) _ false (by omega) rfl
  rw [q_scons, sexp_val (call1 (v := col cs) (b := false) rfl (chkcolV (n + 2) S cs)), RS.then_nx, q_scons,
    sexp_val (call2 (hln none none none none) (a2 := eVar 1) (b2 := false) (v2 := tN c) rfl (chkcutsV n S c cs.length (by omega) (by omega) h1 hc)), RS.then_nx, q_scons,
    sasg_val (call2 (hln none none none none) (a2 := eVar 1) (b2 := false) (v2 := tN c) rfl (bucketsV (n + 2) S c cs.length (by omega))), RS.then_nx]
  rw [show ([some (col cs), some (tN c), none, none, none, none] : Env).set 2 (some (.lst ((prs c cs.length).map pr))) = [some (col cs), some (tN c), some (.lst ((prs c cs.length).map pr)), none, none, none] from rfl]
  have e := lc_int (i := iSeq (eVar 2)) (t := gTp [gNm 3, gNm 4]) (vs := [3, 4]) (c := tYesP) (e := eLen (callF TT (n + 3)) [(0, 3), (1, 14)] (eLc (iSeq (eSl (eFld [0] 0 (eVar 0)) (pSo (eVar 3)) (pSo (eVar 4)))) (gNm 5) [5] (tBl (eBin oGt (eVar 5) (eLit (.int 0)))) (eVar 5))) (env := [some (col cs), some (tN c), some (.lst ((prs c cs.length).map pr)), none, none, none]) (S := S)
    (prs c cs.length) pr (fun p => (((seg cs p.1 p.2).filter fun x => decide (0 < x)).length : Int)) (fun _ => true) (fun p => [some (col cs), some (tN c), some (.lst ((prs c cs.length).map pr)), some (.int (p.1 : Nat)), some (.int (p.2 : Nat)), none]) (seq_valL _ _ S false _ rfl) (by rw [prs_len']; omega) (fun p _ => rfl) (fun p _ => rfl)
    (fun p hp _ => by
      obtain ⟨g1, g2, g3⟩ := prs_mem hc.2.2 hc.2.1 p hp
      have hl := seg_len (cs := cs) (a := p.1) g2
      have e1 := sl_val (fld0 S cs 0 [some (col cs), some (tN c), some (.lst ((prs c cs.length).map pr)), some (.int (p.1 : Nat)), some (.int (p.2 : Nat)), none] rfl) (pso_val (a := eVar 3) (k := false) rfl) (pso_val (a := eVar 4) (k := false) rfl) (seg_sl cs p.1 p.2 (by omega) g2 S)
      have e2 := lc_int (t := gNm 5) (vs := [5]) (c := tBl (eBin oGt (eVar 5) (eLit (.int 0)))) (e := eVar 5) (seg cs p.1 p.2) (fun x => PV.int x) (fun x => x) (fun x => decide (0 < x)) (fun x => [some (col cs), some (tN c), some (.lst ((prs c cs.length).map pr)), some (.int (p.1 : Nat)), some (.int (p.2 : Nat)), some (.int x)]) (seq_val _ _ S false _ e1) (by omega) (fun x _ => rfl) (fun x _ => rfl) (fun x _ _ => ⟨false, rfl⟩)
      rw [lenL e2, List.map_id']
      exact ⟨false, rfl⟩)
  rw [filter_yes] at e
  rw [sret_val (arg1_val e (tuple_lst _ S))]
  rfl
end
/-! Euclid's walk -/
noncomputable abbrev GC (cf : CF) : ST := (tBl (eNe cf [(0, 2), (1, 13)] [.non, .bl, .int, .str, .tup, .lst, .dct, .own 0, .own 1] (eVar 3) (eLit (.int 0))))
noncomputable abbrev GB : SS := (sPar [2, 3] (aCons (eVar 3) (aCons (eBin oMod (eVar 2) (eVar 3)) aNil)))
theorem g_cond (cf : CF) (S : Store) (a0 a1 : Option PV) (a b : Nat) : GC cf [a0, a1, some (.int a), some (.int b)] S = .ok (!decide (b = 0)) S := by
  unfold GC
  rw [tbl_val (ne_flat (a := eVar 3) (k := false) (v := .int b) (b := eLit (.int 0)) (k' := false) (w := .int 0) rfl rfl rfl (oNe_int' _ _ S))]
  refine okc (congrArg (fun z : Bool => !z) (decide_eq_decide.mpr ?_)) S
  omega
theorem g_body (S : Store) (a0 a1 : Option PV) (a b : Nat) (hb : 0 < b) : GB [a0, a1, some (.int a), some (.int b)] S = .nx [a0, a1, some (.int b), some (.int ((a % b : Nat) : Int))] S := by
  have v2 : eVar 2 [a0, a1, some (.int a), some (.int b)] S = .ok (false, .int a) S := rfl
  have v3 : eVar 3 [a0, a1, some (.int a), some (.int b)] S = .ok (false, .int b) S := rfl
  unfold GB
  rw [q_spar, args2 v3 (bin_val v2 v3 (mod_int _ _ _ (by omega))), R.go_ok]
  rfl
theorem g_loop (cf : CF) (S : Store) (a0 a1 : Option PV) : ∀ (k a b m : Nat), b < 2 ^ k → whileR (GC cf) GB (2 * k + m + 1) [a0, a1, some (.int a), some (.int b)] S = .nx [a0, a1, some (.int (Nat.gcd a b : Nat)), some (.int 0)] S
  | 0, a, b, m, h => by
    have : b = 0 := by simp at h; exact h
    subst this
    rw [q_whl, g_cond, R.go_ok, Nat.gcd_zero_right]
    rfl
  | k + 1, a, b, m, h => by
    by_cases hb : b = 0
    · subst hb
      rw [q_whl, g_cond, R.go_ok, Nat.gcd_zero_right]
      rfl
    · have hp : 0 < b := by omega
      rw [q_whl, g_cond, R.go_ok, decide_eq_false hb, if_pos (by rfl), g_body S a0 a1 a b hp]
      simp only
      rw [show 2 * (k + 1) + m = (2 * k + m + 1) + 1 by omega]
      have e0 : Nat.gcd a b = Nat.gcd b (a % b) := by rw [Nat.gcd_comm a b, Nat.gcd_rec b a, Nat.gcd_comm]
      by_cases hr : a % b = 0
      · rw [q_whl, g_cond, R.go_ok, e0, hr, Nat.gcd_zero_right]
        rfl
      · have hrp : 0 < a % b := by omega
        have hlt := Nat.mod_lt a hp
        rw [q_whl, g_cond, R.go_ok, decide_eq_false hr, if_pos (by rfl), g_body S a0 a1 b (a % b) hrp]
        simp only
        have hsm : b % (a % b) < 2 ^ k := by
          have h1 := Nat.mod_lt b hrp
          have h2 := Nat.div_add_mod b (a % b)
          have h3 : 1 ≤ b / (a % b) := (Nat.le_div_iff_mul_le hrp).mpr (by omega)
          have h4 : a % b ≤ (a % b) * (b / (a % b)) := Nat.le_mul_of_pos_right _ h3
          have h5 : 2 ^ (k + 1) = 2 * 2 ^ k := by rw [Nat.pow_succ]; omega
          omega
        have e1 : Nat.gcd b (a % b) = Nat.gcd (a % b) (b % (a % b)) := by rw [Nat.gcd_comm b (a % b), Nat.gcd_rec (a % b) b, Nat.gcd_comm]
        rw [e0, e1]
        exact g_loop cf S a0 a1 k (a % b) (b % (a % b)) m hsm
abbrev red (a b : Nat) : PV := .tup [.int ((a / Nat.gcd a b : Nat) : Int), .int ((b / Nat.gcd a b : Nat) : Int)]
theorem red_val (cf : CF) (S : Store) (a b : Nat) (hb : 0 < b) (hb2 : b < 1073741824) : (sCons (sWhl 100 (GC cf) GB) (sRet (eTup (aCons (eBin oDiv (eVar 0) (eVar 2)) (aCons (eBin oDiv (eVar 1) (eVar 2)) aNil))))) [some (.int a), some (.int b), some (.int a), some (.int b)] S = .rt (red a b) S := by
  have hg : 0 < Nat.gcd a b := Nat.gcd_pos_of_pos_right a hb
  have hg2 : Nat.gcd a b ≤ b := Nat.gcd_le_right a hb
  have e := g_loop cf S (some (.int a)) (some (.int b)) 30 a b 39 (by exact hb2)
  unfold sWhl
  rw [q_scons, e, RS.then_nx]
  have v0 : eVar 0 [some (.int a), some (.int b), some (.int (Nat.gcd a b : Nat)), some (.int 0)] S = .ok (false, .int a) S := rfl
  have v1 : eVar 1 [some (.int a), some (.int b), some (.int (Nat.gcd a b : Nat)), some (.int 0)] S = .ok (false, .int b) S := rfl
  have v2 : eVar 2 [some (.int a), some (.int b), some (.int (Nat.gcd a b : Nat)), some (.int 0)] S = .ok (false, .int (Nat.gcd a b : Nat)) S := rfl
  rw [sret_val (tup2_val (bin_val v0 v2 (div_int _ _ _ (by omega) (by omega))) (bin_val v1 v2 (div_int _ _ _ (by omega) (by omega))))]
  rfl
theorem fracV (n : Nat) (S : Store) (a b : Nat) (hb : 0 < b) (hb2 : b < 1073741824) : callV (callF TT (n + 1)) 28 [.int a, .int b] S = .ok (false, red a b) S := by
  refine callV_same ?_ rfl
  rw [call_at (b := b28) [some (.int a), some (.int b), none, none] rfl rfl rfl]
  unfold b28
  dsimp only
  have e1 : sPar [2, 3] (aCons (eVar 0) (aCons (eVar 1) aNil)) [some (.int a), some (.int b), none, none] S = .nx [some (.int a), some (.int b), some (.int a), some (.int b)] S := rfl
  rw [q_scons, e1, RS.then_nx, show sCons _ _ [some (.int a), some (.int b), some (.int a), some (.int b)] S = _ from red_val (callF TT n) S a b hb hb2]
  rfl
theorem lowV (n : Nat) (S : Store) (a b : Nat) (hb : 0 < b) (hb2 : b < 1073741824) : callV (callF TT (n + 1)) 8 [.int a, .int b] S = .ok (false, red a b) S := by
  refine callV_same ?_ rfl
  rw [call_at (b := b8) [some (.int a), some (.int b), none, none] rfl rfl rfl]
  unfold b8
  dsimp only
  have e0 : bAbs [.int a] S = some (false, .int a) := by
    show some (false, PV.int (((a : Int).natAbs : Nat) : Int)) = _
    rfl
  have e1 : sPar [2, 3] (aCons (eArg bAbs (aCons (eVar 0) aNil)) (aCons (eVar 1) aNil)) [some (.int a), some (.int b), none, none] S = .nx [some (.int a), some (.int b), some (.int a), some (.int b)] S := by
    rw [q_spar, args2 (arg1_val (a := eVar 0) (k := false) rfl e0) (b := eVar 1) (k' := false) (w := .int b) rfl, R.go_ok]
    rfl
  rw [q_scons, e1, RS.then_nx, show sCons _ _ [some (.int a), some (.int b), some (.int a), some (.int b)] S = _ from red_val (callF TT n) S a b hb hb2]
  rfl
end PX.K03
set_option linter.all false
set_option maxRecDepth 100000
set_option maxHeartbeats 1000000
namespace PX
open PySem
theorem arg2_val {o : OpN} {a b : SE} {env : Env} {S : Store} {k k' : Bool} {v w : PV} {z : Bool × PV} (ha : a env S = .ok (k, v) S) (hb : b env S = .ok (k', w) S) (h : o [v, w] S = some z) : eArg o (aCons a (aCons b aNil)) env S = .ok z S := by
  rw [q_arg, args2 ha hb, R.bind_ok, h]
  rfl
theorem anyP_int (x : Int) : ∀ ns : List Int, anyP (.int x) (ns.map .int) = decide (x ∈ ns)
  | [] => by simp [anyP]
  | n :: ns => by
    show ((n == x) || anyP (.int x) (ns.map .int)) = _
    rw [anyP_int x ns]
    by_cases h : n = x
    · simp [h]
    · have h' : ¬ x = n := fun z => h z.symm
      simp [h, h']
theorem flatsP_int : ∀ ns : List Int, flatsP (ns.map .int) = true
  | [] => rfl
  | n :: ns => by
    show (true && flatsP (ns.map .int)) = true
    rw [flatsP_int ns]
    rfl
theorem in_tup (x : Int) (ns : List Int) (S : Store) : oIn (.int x) (.tup (ns.map .int)) S = some (false, .bl (decide (x ∈ ns))) := by
  have : memP S (.int x) (.tup (ns.map .int)) = some (decide (x ∈ ns)) := by
    show (if flatP (.int x) && flatsP (ns.map .int) then some (anyP (.int x) (ns.map .int)) else _) = _
    rw [flatsP_int, if_pos (by rfl), anyP_int]
  unfold oIn
  rw [this]
  rfl
theorem norm_flat (S : Store) (x v : PV) (hr : ∀ i, v ≠ .ref i) (h : frz S.length (S ++ [x]).length (S ++ [x]) 8 v = some v) : norm S.length v (S ++ [x]) = .ok (false, v) S := by
  unfold norm
  rw [if_neg (by simp)]
  cases v with
  | ref i => exact absurd rfl (hr i)
  | _ =>
    simp only [h]
    simp
theorem q_augI (op gt : Op2) (f : PV → PV → PV → Store → Option Store) (o k e : SE) (env : Env) (S : Store) : sAugI op gt f o k e env S = (o env S).go fun p S1 => (k env S1).go fun q S2 => match gt p.2 q.2 S2 with
  | some x => (e env S2).go fun z S3 => match op x.2 z.2 S3 with
    | some y => match f p.2 q.2 y.2 S3 with
      | some S4 => .nx env S4
      | none => .no
    | none => .no
  | none => .no := (rfl)
theorem getI_last (S : Store) (xs : List PV) (j : Nat) (x : PV) (h : xs[j]? = some x) : oGet (.ref S.length) (.int j) (S ++ [.lst xs]) = some (false, x) := by
  obtain ⟨hl, _⟩ := List.getElem?_eq_some_iff.mp h
  have e2 : ixP xs.length (j : Int) = some j := by
    unfold ixP
    rw [if_pos (by omega), if_pos (by omega), Int.toNat_natCast]
  unfold oGet
  rw [dIx_last, d_ref, at_last]
  show (match ixP xs.length (j : Int) with
    | some j => (xs[j]?).map fun v => (false, v)
    | none => none) = _
  rw [e2]
  simp only [h]
  rfl
theorem setI_last (S : Store) (xs : List PV) (j : Nat) (v : PV) (h : j < xs.length) : setG S.length (.ref S.length) (.int j) v (S ++ [.lst xs]) = some (S ++ [.lst (xs.set j v)]) := by
  have e2 : ixP xs.length (j : Int) = some j := by
    unfold ixP
    rw [if_pos (by omega), if_pos (by omega), Int.toNat_natCast]
  have hm : mayPut S.length S.length v = true := by
    show (Nat.ble S.length S.length || noref v) = true
    rw [Nat.ble_eq_true_of_le (Nat.le_refl _)]
    rfl
  unfold setG
  simp only [at_last]
  unfold setL
  simp only [at_last, e2, hm, if_true, set_last]
theorem augI_last {op : Op2} {o k e : SE} {env : Env} {S : Store} {n0 : Nat} {b1 b2 b3 : Bool} {xs : List PV} {j : Nat} {x w y : PV} {z : Bool} (hn : n0 = S.length) (ho : o env (S ++ [.lst xs]) = .ok (b1, .ref S.length) (S ++ [.lst xs])) (hk : k env (S ++ [.lst xs]) = .ok (b2, .int j) (S ++ [.lst xs])) (he : e env (S ++ [.lst xs]) = .ok (b3, w) (S ++ [.lst xs])) (hx : xs[j]? = some x) (hop : op x w (S ++ [.lst xs]) = some (z, y)) :
    sAugI op oGet (setG n0) o k e env (S ++ [.lst xs]) = .nx env (S ++ [.lst (xs.set j y)]) := by
  subst hn
  obtain ⟨hl, _⟩ := List.getElem?_eq_some_iff.mp hx
  rw [q_augI, ho, R.go_ok, hk, R.go_ok]
  simp only [getI_last S xs j x hx]
  rw [he, R.go_ok]
  simp only [hop, setI_last S xs j y hl]
end PX
namespace PX.K03
open PySem PX K22M
/-! estimate -/
noncomputable abbrev B21 : SS := (sCons (sAsg (gNm 8) (eArg bMax2 (aCons (eLit (.int 0)) (aCons (eBin oSub (eArg bMin2 (aCons (eVar 2) (aCons (eVar 7) aNil))) (eArg bMax2 (aCons (eVar 1) (aCons (eVar 6) aNil)))) aNil)))) (sPar [3, 4] (aCons (eBin oCat (eBin oRep (eVar 3) (eBin oSub (eVar 7) (eVar 6))) (eBin oRep (eBin oRep (eVar 5) (eVar 8)) (eVar 4))) (aCons (eBin oRep (eVar 4) (eBin oSub (eVar 7) (eVar 6))) aNil))))
theorem step21 (S : Store) (a0 a8 : Option PV) (fs pt x y b : Nat) (a t : Int) (hxy : x < y) (hy : y ≤ 12) (hb : b ≤ 4096) :
    ∃ a8', B21 [a0, some (.int fs), some (.int pt), some (.int a), some (.int b), some (.int t), some (.int x), some (.int y), a8] S =
      .nx [a0, some (.int fs), some (.int pt), some (.int (a * ((y : Int) - x) + t * (ins fs pt x y : Nat) * b)), some (.int ((b * (y - x) : Nat) : Int)), some (.int t), some (.int x), some (.int y), a8'] S := by
  have e1 : eArg bMax2 (aCons (eLit (.int 0)) (aCons (eBin oSub (eArg bMin2 (aCons (eVar 2) (aCons (eVar 7) aNil))) (eArg bMax2 (aCons (eVar 1) (aCons (eVar 6) aNil)))) aNil)) [a0, some (.int fs), some (.int pt), some (.int a), some (.int b), some (.int t), some (.int x), some (.int y), a8] S = .ok (false, .int (ins fs pt x y : Nat)) S := by
    rw [arg2_val (a := eLit (.int 0)) (k := false) (v := .int 0) rfl (bin_val (o := oSub) (arg2_val (o := bMin2) (a := eVar 2) (b := eVar 7) (k := false) (k' := false) (v := .int pt) (w := .int y) rfl rfl rfl) (arg2_val (o := bMax2) (a := eVar 1) (b := eVar 6) (k := false) (k' := false) (v := .int fs) (w := .int x) rfl rfl rfl) rfl) rfl]
    refine okc ?_ S
    refine congrArg (fun z => (false, PV.int z)) ?_
    show (if ((if (y : Int) < pt then (y : Int) else pt) - if (x : Int) > fs then (x : Int) else fs) > 0 then
          (if (y : Int) < pt then (y : Int) else pt) - if (x : Int) > fs then (x : Int) else fs
        else 0) = ((ins fs pt x y : Nat) : Int)
    unfold ins
    split <;> split <;> split <;> omega
  have hi : ins fs pt x y ≤ 12 := by unfold ins; omega
  refine ⟨some (.int (ins fs pt x y : Nat)), ?_⟩
  unfold B21
  rw [q_scons, sasg_val e1, RS.then_nx]
  rw [show ([a0, some (.int fs), some (.int pt), some (.int a), some (.int b), some (.int t), some (.int x), some (.int y), a8] : Env).set 8 (some (.int (ins fs pt x y : Nat))) = [a0, some (.int fs), some (.int pt), some (.int a), some (.int b), some (.int t), some (.int x), some (.int y), some (.int (ins fs pt x y : Nat))] from rfl]
  have hw : eBin oSub (eVar 7) (eVar 6) [a0, some (.int fs), some (.int pt), some (.int a), some (.int b), some (.int t), some (.int x), some (.int y), some (.int (ins fs pt x y : Nat))] S = .ok (false, .int ((y : Int) - x)) S := rfl
  have p1 := bin_val (o := oRep) (a := eVar 3) (k := false) (v := .int a) rfl hw (rep_r a ((y : Int) - x) S (by omega) (by omega))
  have p2 := bin_val (o := oRep) (b := eVar 4) (k' := false) (w := .int b) (bin_val (o := oRep) (a := eVar 5) (k := false) (v := .int t) (b := eVar 8) (k' := false) (w := .int (ins fs pt x y : Nat)) (env := [a0, some (.int fs), some (.int pt), some (.int a), some (.int b), some (.int t), some (.int x), some (.int y), some (.int (ins fs pt x y : Nat))]) rfl rfl (rep_r t _ S (by omega) (by omega))) rfl (rep_r _ (b : Int) S (by omega) (by omega))
  have p3 := bin_val (o := oRep) (a := eVar 4) (k := false) (v := .int b) rfl hw (rep_r b ((y : Int) - x) S (by omega) (by omega))
  rw [show (b : Int) * ((y : Int) - x) = ((b * (y - x) : Nat) : Int) by rw [show ((y : Int) - x) = ((y - x : Nat) : Int) by omega, Int.natCast_mul]] at p3
  rw [q_spar, args2 (bin_val p1 p2 (cat_int _ _ S)) p3, R.go_ok]
  rfl
theorem loop21 (S : Store) (a0 : Option PV) (fs pt n : Nat) (hn : n ≤ 12) : ∀ (l : List (Int × (Nat × Nat))) (o : Nat) (a : Int) (b : Nat) (a5 a6 a7 a8 : Option PV), chn l o → (∀ p ∈ l, p.2.2 ≤ n) → o ≤ n → b ≤ 2 ^ o →
    ∃ a5' a6' a7' a8', forR (gTp [gNm 5, gTp [gNm 6, gNm 7]]) B21 (l.map fun q => PV.tup [.int q.1, pr q.2]) [a0, some (.int fs), some (.int pt), some (.int a), some (.int b), a5, a6, a7, a8] S =
      .nx [a0, some (.int fs), some (.int pt), some (.int (estF fs pt l a b).1), some (.int (estF fs pt l a b).2), a5', a6', a7', a8'] S
  | [], o, a, b, a5, a6, a7, a8, _, _, _, _ => ⟨a5, a6, a7, a8, rfl⟩
  | (t, (x, y)) :: l, o, a, b, a5, a6, a7, a8, hc, hl, ho, hb => by
    obtain ⟨g1, g2, g3⟩ := hc
    subst g1
    have hy : y ≤ n := hl (t, (x, y)) List.mem_cons_self
    have hb4 : b ≤ 4096 := Nat.le_trans hb (Nat.pow_le_pow_right (n := 2) (by omega) (show x ≤ 12 by omega))
    obtain ⟨a8'', e⟩ := step21 S a0 a8 fs pt x y b a t g2 (by omega) hb4
    have hb' : b * (y - x) ≤ 2 ^ y := by
      have : 2 ^ y = 2 ^ x * 2 ^ (y - x) := by rw [← Nat.pow_add]; congr 1; omega
      rw [this]
      exact Nat.mul_le_mul hb (Nat.le_of_lt (pow_ge _))
    obtain ⟨a5', a6', a7', a8', ih⟩ := loop21 S a0 fs pt n hn l y (a * ((y : Int) - x) + t * (ins fs pt x y : Nat) * b) (b * (y - x)) (some (.int t)) (some (.int x)) (some (.int y)) a8'' g3 (fun p hp => hl p (List.mem_cons_of_mem _ hp)) hy hb'
    refine ⟨a5', a6', a7', a8', ?_⟩
    have et : gTp [gNm 5, gTp [gNm 6, gNm 7]] (.tup [.int t, pr (x, y)]) [a0, some (.int fs), some (.int pt), some (.int a), some (.int b), a5, a6, a7, a8] S = some [a0, some (.int fs), some (.int pt), some (.int a), some (.int b), some (.int t), some (.int x), some (.int y), a8] := rfl
    rw [List.map_cons, q_forC]
    simp only [et, e, ih]
    have e2 : estF fs pt ((t, (x, y)) :: l) a b = estF fs pt l (a * ((y : Int) - x) + t * (ins fs pt x y : Nat) * b) ((b * (y - x) : Nat) : Int) := by
      show estF fs pt l (a * ((y : Int) - x) + t * (ins fs pt x y : Nat) * b) ((b : Int) * ((y : Int) - x)) = _
      rw [show (b : Int) * ((y : Int) - x) = ((b * (y - x) : Nat) : Int) by rw [show ((y : Int) - x) = ((y - x : Nat) : Int) by omega, Int.natCast_mul]]
    rw [e2]
abbrev ev (w : Nat) (c : List Nat) (t : List Int) : List (Int × (Nat × Nat)) := t.zip (prs c w)
theorem ev_chn {w : Nat} {c : List Nat} {t : List Int} (hc : isC c w) : chn (ev w c t) 0 := by
  cases c with
  | nil => cases hc.1
  | cons a c =>
    have : a = 0 := by simpa using hc.1
    subst this
    exact prs_chn (ts := t) c 0 t hc.2.2 hc.2.1
theorem ev_le {w : Nat} {c : List Nat} {t : List Int} (hc : isC c w) : ∀ p ∈ ev w c t, p.2.2 ≤ w := fun p hp => (prs_mem hc.2.2 hc.2.1 p.2 (List.of_mem_zip hp).2).2.1
theorem estV (n : Nat) (S : Store) (w : Nat) (c : List Nat) (t : List Int) (fs pt : Nat) (h : okH w c t) (h1 : fs < pt) (h2 : pt ≤ w) :
    0 ≤ slc fs pt (evn (ev w c t)) 0 ∧ callV (callF TT (n + 4)) 21 [hst w c t, .int fs, .int pt] S = .ok (false, red (slc fs pt (evn (ev w c t)) 0).toNat 27720) S := by
  obtain ⟨w1, w12, hc, hl, hq⟩ := h
  have hcl := inc_len hc
  have hch := ev_chn (t := t) hc
  have hle := ev_le (t := t) hc
  obtain ⟨a5, a6, a7, a8, e⟩ := loop21 S (some (hst w c t)) fs pt w w12 (ev w c t) 0 0 1 none none none none hch hle (Nat.zero_le _) (by simp)
  have hE := est_even fs pt (ev w c t) 0 0 1 0 hch (fun p hp => Nat.le_trans (hle p hp) w12) (by simp)
  have hP := estF_pos fs pt (ev w c t) 0 0 1 hch (fun p hp => (hq p hp).1) (by omega) (by omega)
  obtain ⟨b', eb, hb'⟩ := estF_le fs pt w (ev w c t) 0 0 1 hch hle (Nat.zero_le _) (by simp)
  have hb2 : b' ≤ 4096 := Nat.le_trans hb' (Nat.pow_le_pow_right (n := 2) (by omega) w12)
  rw [Int.zero_add] at hE
  rw [show ((1 : Nat) : Int) = 1 from rfl] at e eb
  generalize hX : estF fs pt (ev w c t) 0 1 = X at *
  generalize slc fs pt (evn (ev w c t)) 0 = E at *
  obtain ⟨A, B⟩ := X
  simp only at hE hP eb e
  have eb2 : B = b' := eb
  subst eb2
  have hB : 0 < b' := by omega
  have hE0 : 0 ≤ E := by
    apply Classical.byContradiction
    intro hneg
    have : (b' : Int) * E < 0 := Int.mul_neg_of_pos_of_neg (by omega) (by omega)
    omega
  obtain ⟨A', rfl⟩ : ∃ A' : Nat, A = A' := ⟨A.toNat, by omega⟩
  obtain ⟨E', rfl⟩ : ∃ E' : Nat, E = E' := ⟨E.toNat, by omega⟩
  refine ⟨hE0, callV_same ?_ rfl⟩
  rw [call_at (b := b21) [some (hst w c t), some (.int fs), some (.int pt), none, none, none, none, none, none] rfl rfl rfl]
  unfold b21
  dsimp only
  have f1 : ∀ a3 a4 a5 a6 a7 a8, eFld [1] 1 (eVar 0) [some (hst w c t), some (.int fs), some (.int pt), a3, a4, a5, a6, a7, a8] S = .ok (false, .int w) S := fun _ _ _ _ _ _ => hf1 S w c t rfl
  have t1 := tno_val (ttru_bl (call3 (a := eVar 1) (b := false) (v := .int fs) (a2 := eLit (.int 0)) (b2 := false) (v2 := .int 0) rfl rfl (bin_val (o := oSub) (f1 none none none none none none) (b := eLit (.int 1)) (k' := false) (w := .int 1) rfl rfl) (isnumV (n + 2) S fs 0 ((w : Int) - 1))))
  have t2 := tno_val (ttru_bl (call3 (a := eVar 2) (b := false) (v := .int pt) rfl (bin_val (a := eVar 1) (k := false) (v := .int fs) (b := eLit (.int 1)) (k' := false) (w := .int 1) rfl rfl (cat_int _ _ S)) (f1 none none none none none none) (isnumV (n + 2) S pt ((fs : Int) + 1) w)))
  rw [decide_eq_true ⟨by omega, by omega⟩] at t1 t2
  rw [q_scons, sexp_val (call1 (v := hst w c t) (b := false) rfl (chkhV (n + 2) S w c t)), RS.then_nx, q_scons, sif_val (t := false) (by rw [tor_val t1, if_neg (by simp), t2]; rfl), if_neg (by simp), q_snil, RS.then_nx, q_scons]
  have e0 : sAsg (gTp [gNm 3, gNm 4]) (eTup (aCons (eLit (.int 0)) (aCons (eLit (.int 1)) aNil))) [some (hst w c t), some (.int fs), some (.int pt), none, none, none, none, none, none] S = .nx [some (hst w c t), some (.int fs), some (.int pt), some (.int 0), some (.int 1), none, none, none, none] S := rfl
  rw [e0, RS.then_nx, q_scons]
  have ez := zip_it (eFld [1] 3 (eVar 0)) (eMeth (callF TT (n + 3)) 1 5 [(1, 16)] (eVar 0) aNil) [some (hst w c t), some (.int fs), some (.int pt), some (.int 0), some (.int 1), none, none, none, none] S false false _ _ _ _ rfl rfl (hf3 S w c t rfl) (meth0 (b := false) (v := hst w c t) rfl rfl (hbuckV (n + 1) S w c t (by omega)))
  rw [zipL_gen PV.int pr] at ez
  rw [q_sfor, ez, R.go_ok]
  simp only [q_unl0]
  rw [show forR (gTp [gNm 5, gTp [gNm 6, gNm 7]]) _ _ [some (hst w c t), some (.int fs), some (.int pt), some (.int 0), some (.int 1), none, none, none, none] S = _ from e, RS.then_nx]
  rw [sret_val (call2 (a := eVar 3) (b := false) (v := .int A') (a2 := eVar 4) (b2 := false) (v2 := .int b') rfl rfl (lowV (n + 2) S A' b' hB (by omega)))]
  have hr := red_eq (a := A') (b := b') (c := E') (d := 27720) hB (by omega) (by
    have : ((A' * 27720 : Nat) : Int) = ((b' * E' : Nat) : Int) := by rw [Int.natCast_mul, Int.natCast_mul]; exact hE
    rw [Nat.mul_comm E' b']
    omega)
  rw [Int.toNat_natCast]
  show R.ok (red A' b') S = _
  unfold red
  rw [hr.1, hr.2]
end PX.K03
set_option linter.all false
set_option maxRecDepth 100000
set_option maxHeartbeats 1000000
namespace PX
open PySem
theorem sasg_st {i : Nat} {a : SE} {env : Env} {S S' : Store} {k : Bool} {v : PV} (ha : a env S = .ok (k, v) S') : sAsg (gNm i) a env S = .nx (env.set i (some v)) S' := by
  rw [q_sasg, ha, R.go_ok, q_gnm]
/-! a comprehension whose test changes the store -/
theorem compR_st {t : Tg} {c : ST} {e : SE} {env : Env} (I : Store → Prop) (g : Nat → PV) (en : Nat → Env) : ∀ (l : List Nat) (S : Store), I S → (∀ S x, I S → t (g x) env S = some (en x)) → (∀ S x, I S → ∃ b S', I S' ∧ c (en x) S = .ok b S') → (∀ S x, I S → ∃ k, e (en x) S = .ok (k, .int (x : Nat)) S) →
    ∀ acc : List Nat, acc.length + l.length ≤ 100000 → ∃ l' S', I S' ∧ l'.Sublist l ∧ compR t c e (l.map g) env ((iN acc).map .int) S = .ok ((iN (acc ++ l')).map .int) S'
  | [], S, hI, _, _, _, acc, _ => ⟨[], S, hI, List.Sublist.refl _, by rw [List.append_nil]; rfl⟩
  | x :: l, S, hI, ht, hc, he, acc, hl => by
    simp only [List.length_cons] at hl
    obtain ⟨b, S1, hI1, e1⟩ := hc S x hI
    have key : compR t c e ((x :: l).map g) env ((iN acc).map .int) S = (match t (g x) env S with
      | none => R.no
      | some env' => (c env' S).bind fun b S1 => if b = true then (e env' S1).bind fun q S2 => if small ((iN acc).map PV.int).length then compR t c e (l.map g) env ((iN acc).map .int ++ [q.2]) S2 else .no
        else compR t c e (l.map g) env ((iN acc).map .int) S1) := rfl
    rw [key, ht S x hI]
    simp only [e1, R.bind_ok]
    cases b with
    | false =>
      obtain ⟨l', S', h1, h2, h3⟩ := compR_st I g en l S1 hI1 ht hc he acc (by omega)
      refine ⟨l', S', h1, h2.cons _, ?_⟩
      rw [if_neg (by simp), h3]
    | true =>
      obtain ⟨k, e2⟩ := he S1 x hI1
      have hs : small ((iN acc).map PV.int).length = true := small_nat (by rw [List.length_map, iN_len]; omega)
      obtain ⟨l', S', h1, h2, h3⟩ := compR_st I g en l S1 hI1 ht hc he (acc ++ [x]) (by rw [List.length_append, List.length_singleton]; omega)
      refine ⟨x :: l', S', h1, h2.cons_cons _, ?_⟩
      rw [if_pos rfl, e2]
      simp only [R.bind_ok, hs, if_true]
      have e3 : (iN acc).map PV.int ++ [.int (x : Nat)] = (iN (acc ++ [x])).map .int := by
        rw [← iN_app, List.map_append]
        rfl
      rw [e3, h3, List.append_assoc]
      rfl
end PX
namespace PX.K03
open PySem PX K22M
/-! coarser -/
noncomputable abbrev B22 (cf : CF) (n0 : Nat) : SS := (sAugI oAdd oGet (setG n0) (eVar 2) (eBin oSub (eLen cf [(0, 3), (1, 14)] (eLc (iSeq (eVar 1)) (gNm 5) [5] (tBl (eBin oLe (eVar 5) (eVar 4))) (eVar 5))) (eLit (.int 1))) (eVar 3))
abbrev FL (cs : List Int) (so : List Nat) (z : Nat) : PV := .lst (((prs so cs.length).map (G cs z)).map .int)
theorem step22 (n : Nat) (S : Store) (cs : List Int) (so : List Nat) (a b e : Nat) (hso : (a :: so).Pairwise (· < ·)) (hl : (a :: so).length ≤ 1000) (hab : a ≤ b) (hbe : b < e) (hen : e ≤ cs.length) (hx : ∀ x ∈ a :: so, ¬ (b < x ∧ x < e)) (a0 : Option PV) :
    B22 (callF TT (n + 1)) S.length [a0, some (tN (a :: so)), some (.ref S.length), some (.int (seg cs b e).sum), some (.int b), none] (S ++ [FL cs (a :: so) b]) =
      .nx [a0, some (tN (a :: so)), some (.ref S.length), some (.int (seg cs b e).sum), some (.int b), none] (S ++ [FL cs (a :: so) e]) := by
  obtain ⟨j, v, g1, g2, g3⟩ := add_at cs cs.length b e hbe hen so a hso hab hx
  generalize hS : S ++ [FL cs (a :: so) b] = S1
  have e1 := lc_int (i := iSeq (eVar 1)) (t := gNm 5) (vs := [5]) (c := tBl (eBin oLe (eVar 5) (eVar 4))) (e := eVar 5) (env := [a0, some (tN (a :: so)), some (.ref S.length), some (.int (seg cs b e).sum), some (.int b), none]) (S := S1)
    (a :: so) (fun (x : Nat) => PV.int x) (fun (x : Nat) => (x : Int)) (fun x => decide (x ≤ b)) (fun x => [a0, some (tN (a :: so)), some (.ref S.length), some (.int (seg cs b e).sum), some (.int b), some (.int x)]) (by rw [seq_val (eVar 1) _ S1 false ((iN (a :: so)).map .int) rfl, iN_map]) (by omega) (fun x _ => rfl)
    (fun x _ => by
      show R.ok (decide ((x : Int) ≤ (b : Int))) S1 = _
      exact okc (decide_eq_decide.mpr (by omega)) S1) (fun x _ _ => ⟨false, rfl⟩)
  have e2 := bin_val (o := oSub) (lenL (cf := callF TT (n + 1)) (tb := [(0, 3), (1, 14)]) e1) (b := eLit (.int 1)) (k' := false) (w := .int 1) rfl rfl
  rw [List.length_map, g1, show (((j + 1 : Nat) : Int) - 1) = (j : Int) by omega] at e2
  rw [← hS] at e2 ⊢
  unfold B22
  rw [augI_last (o := eVar 2) (e := eVar 3) (b1 := false) (b3 := false) (w := .int (seg cs b e).sum) (x := .int v) (z := false) (y := .int (v + (seg cs b e).sum)) (j := j) rfl rfl e2 rfl (by rw [List.getElem?_map, g2]; rfl) rfl]
  rw [seg_P (Nat.le_of_lt hbe)]
  have e4 : (((prs (a :: so) cs.length).map (G cs b)).map PV.int).set j (.int (v + (P cs e - P cs b))) = ((prs (a :: so) cs.length).map (G cs e)).map .int := by
    rw [← g3, List.map_set]
  rw [e4]
theorem loop22 (n : Nat) (S : Store) (cs : List Int) (so : List Nat) (a : Nat) (hso : (a :: so).Pairwise (· < ·)) (hl : (a :: so).length ≤ 1000) (a0 : Option PV) : ∀ (rest : List Nat) (b : Nat) (a3 a4 : Option PV), (b :: rest).Pairwise (· < ·) → (∀ x ∈ b :: rest, x < cs.length) → a ≤ b → (∀ x ∈ a :: so, x ≤ b ∨ x ∈ rest) →
    ∃ a3' a4', forR (gTp [gNm 3, gNm 4]) (B22 (callF TT (n + 1)) S.length) ((((prs (b :: rest) cs.length).map fun p => (seg cs p.1 p.2).sum).zip (b :: rest)).map fun q => PV.tup [.int q.1, .int (q.2 : Nat)]) [a0, some (tN (a :: so)), some (.ref S.length), a3, a4, none] (S ++ [FL cs (a :: so) b]) =
      .nx [a0, some (tN (a :: so)), some (.ref S.length), a3', a4', none] (S ++ [FL cs (a :: so) cs.length])
  | [], b, a3, a4, h1, h2, hab, hx => by
    have hb := h2 b List.mem_cons_self
    have e := step22 n S cs so a b cs.length hso hl hab hb (Nat.le_refl _) (fun x hx2 => by
      rcases hx x hx2 with h | h
      · omega
      · cases h) a0
    refine ⟨some (.int (seg cs b cs.length).sum), some (.int b), ?_⟩
    have et : gTp [gNm 3, gNm 4] (.tup [.int (seg cs b cs.length).sum, .int (b : Nat)]) [a0, some (tN (a :: so)), some (.ref S.length), a3, a4, none] (S ++ [FL cs (a :: so) b]) = some [a0, some (tN (a :: so)), some (.ref S.length), some (.int (seg cs b cs.length).sum), some (.int b), none] := rfl
    show forR _ _ [PV.tup [.int (seg cs b cs.length).sum, .int (b : Nat)]] _ _ = _
    rw [q_forC]
    simp only [et, e, q_forN]
  | e' :: rest, b, a3, a4, h1, h2, hab, hx => by
    have hbe := (List.pairwise_cons.mp h1).1 e' List.mem_cons_self
    have he := h2 e' (by simp)
    have e := step22 n S cs so a b e' hso hl hab hbe (Nat.le_of_lt he) (fun x hx2 => by
      rcases hx x hx2 with h | h
      · omega
      · rcases List.mem_cons.mp h with h | h
        · omega
        · have := (List.pairwise_cons.mp (List.pairwise_cons.mp h1).2).1 x h
          omega) a0
    obtain ⟨a3', a4', ih⟩ := loop22 n S cs so a hso hl a0 rest e' (some (.int (seg cs b e').sum)) (some (.int b)) (List.pairwise_cons.mp h1).2 (fun x hx => h2 x (List.mem_cons_of_mem _ hx)) (by omega) (fun x hx2 => by
      rcases hx x hx2 with h | h
      · exact Or.inl (by omega)
      · rcases List.mem_cons.mp h with h | h
        · exact Or.inl (by omega)
        · exact Or.inr h)
    refine ⟨a3', a4', ?_⟩
    have et : gTp [gNm 3, gNm 4] (.tup [.int (seg cs b e').sum, .int (b : Nat)]) [a0, some (tN (a :: so)), some (.ref S.length), a3, a4, none] (S ++ [FL cs (a :: so) b]) = some [a0, some (tN (a :: so)), some (.ref S.length), some (.int (seg cs b e').sum), some (.int b), none] := rfl
    show forR _ _ (PV.tup [.int (seg cs b e').sum, .int (b : Nat)] :: (((prs (e' :: rest) cs.length).map fun p => (seg cs p.1 p.2).sum).zip (e' :: rest)).map fun q => PV.tup [.int q.1, .int (q.2 : Nat)]) _ _ = _
    rw [q_forC]
    simp only [et, e]
    exact ih
theorem coarV (n : Nat) (S : Store) (cs : List Int) (c so : List Nat) (h1 : 1 ≤ cs.length) (h2 : cs.length ≤ 12) (hd : ∀ x ∈ cs, dig x) (hc : isC c cs.length) (hso : isC so cs.length) (hsub : ∀ x ∈ so, x ∈ c) : callV (callF TT (n + 4)) 22 [hst cs.length c (tot cs c), tN so] S = .ok (false, hst cs.length so (tot cs so)) S := by
  have hcl := inc_len hc
  have hsl := inc_len hso
  have htl := tot_len cs c
  cases so with
  | nil => cases hso.1
  | cons a so =>
  have ha : a = 0 := by simpa using hso.1
  cases c with
  | nil => cases hc.1
  | cons b c =>
  have hb : b = 0 := by simpa using hc.1
  subst ha hb
  have hcall : callF TT (n + 4) 22 [hst cs.length (0 :: c) (tot cs (0 :: c)), tN (0 :: so)] S.length S = .ok (hst cs.length (0 :: so) (tot cs (0 :: so))) (S ++ [FL cs (0 :: so) cs.length]) := by
    rw [call_at (b := b22) [some (hst cs.length (0 :: c) (tot cs (0 :: c))), some (tN (0 :: so)), none, none, none, none] rfl rfl rfl]
    unfold b22
    dsimp only
    have t1 := tno_val (ttru_bl (call2 (a := eVar 1) (b := false) (v := tN (0 :: so)) rfl (hf1 S cs.length (0 :: c) (tot cs (0 :: c)) (i := 0) (env := [some (hst cs.length (0 :: c) (tot cs (0 :: c))), some (tN (0 :: so)), none, none, none, none]) rfl) (arecuts_ok (n + 1) S (0 :: so) cs.length (by omega) (by omega) h1)))
    rw [decide_eq_true hso] at t1
    have t2 := all_lc (i := iSeq (eVar 1)) (t := gNm 4) (vs := [4]) (e := eBin oIn (eVar 4) (eFld [1] 2 (eVar 0))) (env := [some (hst cs.length (0 :: c) (tot cs (0 :: c))), some (tN (0 :: so)), none, none, none, none]) (S := S) (0 :: so) (fun (x : Nat) => PV.int x) (fun _ => true) (fun x => [some (hst cs.length (0 :: c) (tot cs (0 :: c))), some (tN (0 :: so)), none, none, some (.int (x : Nat)), none]) (by rw [seq_val (eVar 1) _ S false ((iN (0 :: so)).map .int) rfl, iN_map]) (by omega) (fun x _ => rfl) (fun x hx => ⟨false, by
        rw [bin_val (o := oIn) (a := eVar 4) (k := false) (v := .int (x : Nat)) rfl (hf2 S cs.length (0 :: c) (tot cs (0 :: c)) rfl) (in_tup _ _ S), decide_eq_true (show ((x : Nat) : Int) ∈ iN (0 :: c) from List.mem_map.mpr ⟨x, hsub x hx, rfl⟩)]⟩)
    rw [show ((0 :: so).all fun _ => true) = true by simp] at t2
    rw [q_scons, sexp_val (call1 (v := hst cs.length (0 :: c) (tot cs (0 :: c))) (b := false) rfl (chkhV (n + 2) S cs.length (0 :: c) (tot cs (0 :: c)))), RS.then_nx, q_scons, sif_val (t := false) (by rw [tor_val t1, if_neg (by simp), tno_val (ttru_bl t2)]; rfl), if_neg (by simp), q_snil, RS.then_nx, q_scons]
    have er : eNew (eBin oRep (eLst (aCons (eLit (.int 0)) aNil)) (eLen (callF TT (n + 3)) [(0, 3), (1, 14)] (eVar 1))) [some (hst cs.length (0 :: c) (tot cs (0 :: c))), some (tN (0 :: so)), none, none, none, none] S = .ok (false, .ref S.length) (S ++ [FL cs (0 :: so) 0]) := by
      have e1 : oRep (.lst [.int 0]) (.int ((iN (0 :: so)).length : Nat)) S = some (true, FL cs (0 :: so) 0) := by
        show (if decide (-1000 ≤ ((iN (0 :: so)).length : Int) ∧ ((iN (0 :: so)).length : Int) ≤ 1000) && Nat.ble 1 1000 then some (true, PV.lst (List.replicate ((iN (0 :: so)).length : Int).toNat [PV.int 0]).flatten) else none) = _
        rw [decide_eq_true (by rw [iN_len]; omega), if_pos (by rfl), Int.toNat_natCast, iN_len]
        show some (true, PV.lst _) = some (true, PV.lst _)
        rw [G_zero, List.map_replicate]
        congr 3
        generalize (0 :: so).length = m
        induction m with
        | zero => rfl
        | succ m ih => rw [List.replicate_succ, List.flatten_cons, ih, List.replicate_succ]; rfl
      rw [q_new, bin_val (o := oRep) (lst1_val (a := eLit (.int 0)) (k := false) (v := .int 0) rfl) (lenN (k := false) (c := iN (0 :: so)) rfl) e1, R.bind_ok]
    rw [sasg_st er, RS.then_nx]
    rw [show ([some (hst cs.length (0 :: c) (tot cs (0 :: c))), some (tN (0 :: so)), none, none, none, none] : Env).set 2 (some (.ref S.length)) = [some (hst cs.length (0 :: c) (tot cs (0 :: c))), some (tN (0 :: so)), some (.ref S.length), none, none, none] from rfl, q_scons]
    obtain ⟨a3, a4, el⟩ := loop22 (n + 2) S cs so 0 hso.2.2 (by omega) (some (hst cs.length (0 :: c) (tot cs (0 :: c)))) c 0 none none hc.2.2 hc.2.1 (Nat.le_refl _) (fun x hx => by
      rcases List.mem_cons.mp (hsub x hx) with h | h
      · exact Or.inl (by omega)
      · exact Or.inr h)
    rw [show (prs (0 :: c) cs.length).map (fun p => (seg cs p.1 p.2).sum) = tot cs (0 :: c) from rfl] at el
    have ez := zip_it (eFld [1] 3 (eVar 0)) (eFld [1] 2 (eVar 0)) [some (hst cs.length (0 :: c) (tot cs (0 :: c))), some (tN (0 :: so)), some (.ref S.length), none, none, none] (S ++ [FL cs (0 :: so) 0]) false false _ _ _ _ rfl rfl (hf3 _ cs.length (0 :: c) (tot cs (0 :: c)) rfl) (hf2 _ cs.length (0 :: c) (tot cs (0 :: c)) rfl)
    rw [iN_map, zipL_gen PV.int (fun (k : Nat) => PV.int k)] at ez
    rw [q_sfor, ez, R.go_ok]
    simp only [q_unl0]
    rw [show forR (gTp [gNm 3, gNm 4]) _ _ [some (hst cs.length (0 :: c) (tot cs (0 :: c))), some (tN (0 :: so)), some (.ref S.length), none, none, none] (S ++ [FL cs (0 :: so) 0]) = _ from el, RS.then_nx]
    have eg : FL cs (0 :: so) cs.length = .lst ((tot cs (0 :: so)).map .int) := congrArg (fun l => PV.lst (l.map .int)) (G_end hso)
    rw [eg]
    have et : bTuple [.ref S.length] (S ++ [.lst ((tot cs (0 :: so)).map .int)]) = some (false, .tup ((tot cs (0 :: so)).map .int)) := by
      show (match itemsOf (S ++ [.lst ((tot cs (0 :: so)).map .int)]) (.ref S.length) with
        | some ys => some (false, PV.tup ys)
        | none => none) = _
      rw [items_last]
    rw [sret_val (hmake n cs.length (0 :: so) (tot cs (0 :: so)) (okH_tot h1 h2 hd hso) (hf1 _ cs.length (0 :: c) (tot cs (0 :: c)) rfl) (a2 := eVar 1) (k2 := false) rfl (arg1_val (a := eVar 2) (k := false) rfl et))]
    rfl
  unfold callV
  rw [hcall]
  refine norm_flat S _ _ (fun i => by intro h; cases h) ?_
  have hf : frzL (frz S.length (S ++ [FL cs (0 :: so) cs.length]).length (S ++ [FL cs (0 :: so) cs.length]) 7) [.int cs.length, tN (0 :: so), .tup ((tot cs (0 :: so)).map .int)] = some [.int cs.length, tN (0 :: so), .tup ((tot cs (0 :: so)).map .int)] := frzL_c rfl (frzL_c (frz_tupi _ _ _ 5 _) (frzL_c (frz_tupi _ _ _ 5 _) rfl))
  exact congrArg (Option.map (PV.ins 1 [1, 2, 3])) hf
/-! drawn cuts: what a test takes -/
def IsD (ns : List Int) (R0 : Store) (S : Store) : Prop := ∃ k, S = DD ns k :: R0
theorem take0 (n : Nat) (R0 : Store) (ns : List Int) (hn : ns.length ≤ 63) (many : Int) (hm : 0 < many) {S : Store} (hS : IsD ns R0 S) {a b : SE} {env : Env} {k k' : Bool} (ha : ∀ S, a env S = .ok (k, .ref 0) S) (hb : ∀ S, b env S = .ok (k', .int many) S) : ∃ v S', 0 ≤ v ∧ v < many ∧ IsD ns R0 S' ∧ eCall (callF TT (n + 2)) 2 24 (aCons a (aCons b aNil)) env S = .ok (false, .int v) S' := by
  obtain ⟨d, rfl⟩ := hS
  obtain ⟨v, g0, g1, g2⟩ := takeV n R0 ns d many hn hm
  exact ⟨v, _, g0, g1, ⟨d + 1, rfl⟩, by rw [q_call, args2 (ha _) (hb _), R.bind_ok, if_pos (by rfl), g2]⟩
end PX.K03
set_option linter.all false
set_option maxRecDepth 100000
set_option maxHeartbeats 1000000
namespace PX
open PySem
/-! a comprehension with takes -/
theorem lc_st {i : SI} {t : Tg} {vs : List Nat} {c : ST} {e : SE} {env : Env} {S : Store} (I : Store → Prop) (l : List Nat) (g : Nat → PV) (en : Nat → Env) (hI : I S) (hi : i env S = .ok (l.map g, []) S) (hl : l.length ≤ 100000) (ht : ∀ S x, I S → t (g x) (wipeE env vs) S = some (en x)) (hc : ∀ S x, I S → ∃ b S', I S' ∧ c (en x) S = .ok b S') (he : ∀ S x, I S → ∃ k, e (en x) S = .ok (k, .int (x : Nat)) S) :
    ∃ l' S', I S' ∧ l'.Sublist l ∧ eLc i t vs c e env S = .ok (true, .lst ((iN l').map .int)) S' := by
  obtain ⟨l', S', h1, h2, h3⟩ := compR_st I g en l S hI ht hc he [] (by simp; exact hl)
  refine ⟨l', S', h1, h2, ?_⟩
  rw [List.nil_append] at h3
  rw [q_lc, hi, R.bind_ok]
  rw [show compR t c e (l.map g, ([] : List (Nat × PV))).1 (wipeE env vs) [] S = _ from h3, R.bind_ok]
  rfl
theorem bin_st {o : Op2} {a b : SE} {env : Env} {S S' : Store} {k k' : Bool} {v w : PV} {z : Bool × PV} (ha : a env S = .ok (k, v) S) (hb : b env S = .ok (k', w) S') (h : o v w S' = some z) : eBin o a b env S = .ok z S' := by
  rw [q_bin, ha, R.bind_ok, hb, R.bind_ok, h]
  rfl
theorem arg1_st {o : OpN} {a : SE} {env : Env} {S S' : Store} {k : Bool} {v : PV} {z : Bool × PV} (ha : a env S = .ok (k, v) S') (h : o [v] S' = some z) : eArg o (aCons a aNil) env S = .ok z S' := by
  rw [q_arg, q_cons, ha, R.bind_ok, q_nil, R.bind_ok, R.bind_ok, h]
  rfl
theorem teq_st {cf : CF} {tb : List (Nat × Nat)} {tys : List TyN} {a b : SE} {env : Env} {S S' : Store} {k k' : Bool} {v w : PV} {z x : Bool} (ha : a env S = .ok (k, v) S') (hb : b env S' = .ok (k', w) S') (ho : ownOf tb S' v = none) (h : oEq v w S' = some (z, .bl x)) : tBl (eEq cf tb tys a b) env S = .ok x S' := by
  rw [q_tbl, q_eq, ha, R.bind_ok, hb, R.bind_ok]
  simp only [ho, h]
  rfl
end PX
namespace PX.K03
open PySem PX K22M
theorem isD_len {ns : List Int} {R0 S S' : Store} (h : IsD ns R0 S) (h' : IsD ns R0 S') : S'.length = S.length := by
  obtain ⟨k, rfl⟩ := h
  obtain ⟨k', rfl⟩ := h'
  rfl
/-! _law_cuts -/
theorem lcutsV (n : Nat) (R0 : Store) (ns : List Int) (hn : ns.length ≤ 63) (S : Store) (hS : IsD ns R0 S) (w : Nat) (h1 : 1 ≤ w) (h2 : w ≤ 12) : ∃ c S', isC c w ∧ IsD ns R0 S' ∧ callV (callF TT (n + 3)) 26 [.ref 0, .int w] S = .ok (false, tN c) S' := by
  have er := rg2_val (a := eLit (.int 1)) (k := false) (i := 1) (b := eVar 1) (k' := false) (j := w) (env := [some (.ref 0), some (.int w), none]) (S := S) rfl rfl (by omega) (by omega) (by omega) (by omega)
  rw [show ((w : Int) - 1).toNat = w - 1 by omega, rngL_map] at er
  rw [show (List.range (w - 1)).map (fun (i : Nat) => PV.int (1 + (i : Int))) = ((List.range (w - 1)).map (· + 1)).map (fun (x : Nat) => PV.int x) from by
    rw [List.map_map]
    refine List.map_congr_left fun i _ => ?_
    exact congrArg PV.int (show 1 + (i : Int) = ((i + 1 : Nat) : Int) by omega)] at er
  obtain ⟨l', S', g1, g2, g3⟩ := lc_st (t := gNm 2) (vs := [2]) (c := tBl (eEq (callF TT (n + 2)) [(0, 2), (1, 13)] [.non, .bl, .int, .str, .tup, .lst, .dct, .own 0, .own 1] (eCall (callF TT (n + 2)) 2 24 (aCons (eVar 0) (aCons (eLit (.int 2)) aNil))) (eLit (.int 0)))) (e := eVar 2) (IsD ns R0) ((List.range (w - 1)).map (· + 1)) (fun (x : Nat) => PV.int x) (fun x => [some (.ref 0), some (.int w), some (.int (x : Nat))]) hS er (by rw [List.length_map, List.length_range]; omega) (fun S x _ => rfl)
    (fun S x hI => by
      obtain ⟨v, S1, q0, q1, q2, q3⟩ := take0 n R0 ns hn 2 (by omega) hI (a := eVar 0) (b := eLit (.int 2)) (env := [some (.ref 0), some (.int w), some (.int (x : Nat))]) (k := false) (k' := false) (fun _ => rfl) (fun _ => rfl)
      exact ⟨decide (v = 0), S1, q2, teq_st q3 (b := eLit (.int 0)) (k' := false) (w := .int 0) rfl rfl (oEq_int' _ _ _)⟩)
    (fun S x _ => ⟨false, rfl⟩)
  have hll : l'.length ≤ 12 := by
    have := g2.length_le
    rw [List.length_map, List.length_range] at this
    omega
  refine ⟨0 :: l', S', isC_sub (isC_rng h1) g2, g1, callV_same ?_ (isD_len hS g1)⟩
  rw [call_at (b := b26) [some (.ref 0), some (.int w), none] rfl rfl rfl]
  unfold b26
  dsimp only
  have ec := bin_st (o := oCat) (lst1_val (a := eLit (.int 0)) (k := false) (v := .int 0) rfl) g3 (cat_lst [.int 0] _ S' (by rw [List.length_map, iN_len]; simp; omega))
  have et : bTuple [.lst ([.int 0] ++ (iN l').map .int)] S' = some (false, tN (0 :: l')) := rfl
  rw [q_sret, arg1_st ec et]
  rfl
/-! _law_buckets -/
theorem lbuckV (n : Nat) (S : Store) (c : List Nat) (w : Nat) (hl : c.length ≤ 1000) : callV (callF TT (n + 1)) 27 [.int w, tN c] S = .ok (false, .lst ((prs c w).map pr)) S := by
  refine callV_same ?_ rfl
  rw [call_at (b := b27) [some (.int w), some (tN c)] rfl rfl rfl]
  unfold b27
  dsimp only
  have v1 : eVar 1 [some (.int w), some (tN c)] S = .ok (false, tN c) S := rfl
  have e1 := arg1_val (sl_val (lo := pSo (eLit (.int 1))) (hi := pNo) v1 rfl rfl (drop_slA c S)) (list_tup (iN (c.drop 1)) S)
  have e2 := bin_val (o := oCat) e1 (lst1_val (a := eVar 0) (k := false) (v := .int w) (env := [some (.int w), some (tN c)]) rfl) (cat_lst _ [.int w] S (by rw [List.length_map, iN_len, List.length_drop]; simp; omega))
  rw [show (iN (c.drop 1)).map PV.int ++ [.int (w : Nat)] = (iN (c.drop 1 ++ [w])).map .int from by rw [← iN_app, List.map_append]; rfl] at e2
  have e3 : bLz (tN c) (.lst ((iN (c.drop 1 ++ [w])).map .int)) S = some (true, .lst ((prs c w).map pr)) := by
    show (if small ((iN c).map PV.int).length then some (true, PV.lst (zipL ((iN c).map .int) ((iN (c.drop 1 ++ [w])).map .int))) else none) = _
    rw [small_nat (by rw [List.length_map, iN_len]; omega), if_pos rfl, zipL_N, prs_zip]
  unfold eLz
  rw [sret_val (bin_val v1 e2 e3)]
  rfl
/-! the even counts -/
noncomputable abbrev B29 : SS := (sAsg (gNm 9) (eBin oCat (eVar 9) (eBin oRep (eLst (aCons (eBin oRep (eVar 10) (eBin oDiv (eLit (.int 27720)) (eBin oSub (eVar 12) (eVar 11)))) aNil)) (eBin oSub (eVar 12) (eVar 11)))))
section
variable (S : Store) (a0 a1 a2 a3 a4 a5 a6 a7 a8 a13 a14 a15 a16 : Option PV)
theorem loop29 : ∀ (l : List (Int × (Nat × Nat))) (o : Nat) (acc : List Int) (a10 a11 a12 : Option PV), chn l o → (∀ p ∈ l, p.2.2 ≤ 12) → acc.length ≤ o → o ≤ 12 →
    ∃ a10' a11' a12', forR (gTp [gNm 10, gTp [gNm 11, gNm 12]]) B29 (l.map fun q => PV.tup [.int q.1, pr q.2]) [a0, a1, a2, a3, a4, a5, a6, a7, a8, some (.lst (acc.map .int)), a10, a11, a12, a13, a14, a15, a16] S =
      .nx [a0, a1, a2, a3, a4, a5, a6, a7, a8, some (.lst ((acc ++ evn l).map .int)), a10', a11', a12', a13, a14, a15, a16] S
  | [], o, acc, a10, a11, a12, _, _, _, _ => ⟨a10, a11, a12, by rw [show evn [] = [] from rfl, List.append_nil]; rfl⟩
  | (t, (x, y)) :: l, o, acc, a10, a11, a12, hc, hl, ha, ho => by
    obtain ⟨g1, g2, g3⟩ := hc
    subst g1
    have hy : y ≤ 12 := hl (t, (x, y)) List.mem_cons_self
    obtain ⟨a10', a11', a12', ih⟩ := loop29 l y (acc ++ List.replicate (y - x) (t * (27720 / ((y : Int) - x)))) (some (.int t)) (some (.int x)) (some (.int y)) g3 (fun p hp => hl p (List.mem_cons_of_mem _ hp)) (by rw [List.length_append, List.length_replicate]; omega) hy
    refine ⟨a10', a11', a12', ?_⟩
    have et : gTp [gNm 10, gTp [gNm 11, gNm 12]] (.tup [.int t, pr (x, y)]) [a0, a1, a2, a3, a4, a5, a6, a7, a8, some (.lst (acc.map .int)), a10, a11, a12, a13, a14, a15, a16] S = some [a0, a1, a2, a3, a4, a5, a6, a7, a8, some (.lst (acc.map .int)), some (.int t), some (.int x), some (.int y), a13, a14, a15, a16] := rfl
    have hw : eBin oSub (eVar 12) (eVar 11) [a0, a1, a2, a3, a4, a5, a6, a7, a8, some (.lst (acc.map .int)), some (.int t), some (.int x), some (.int y), a13, a14, a15, a16] S = .ok (false, .int ((y : Int) - x)) S := rfl
    have hq0 : 0 ≤ (27720 : Int) / ((y : Int) - x) := Int.ediv_nonneg (by omega) (by omega)
    have hq1 : (27720 : Int) / ((y : Int) - x) ≤ 27720 := Int.ediv_le_self _ (by omega)
    have e1 := bin_val (o := oRep) (a := eVar 10) (k := false) (v := .int t) rfl (bin_val (o := oDiv) (a := eLit (.int 27720)) (k := false) (v := .int 27720) rfl hw (div_int _ _ S (by omega) (by omega))) (rep_r t _ S (by omega) (by omega))
    have er : oRep (.lst [.int (t * (27720 / ((y : Int) - x)))]) (.int ((y : Int) - x)) S = some (true, .lst ((List.replicate (y - x) (t * (27720 / ((y : Int) - x)))).map .int)) := by
      show (if decide (-1000 ≤ ((y : Int) - x) ∧ ((y : Int) - x) ≤ 1000) && Nat.ble 1 1000 then some (true, PV.lst (List.replicate ((y : Int) - x).toNat [PV.int (t * (27720 / ((y : Int) - x)))]).flatten) else none) = _
      rw [decide_eq_true (by omega), if_pos (by rfl), show ((y : Int) - x).toNat = y - x by omega, List.map_replicate]
      congr 3
      generalize y - x = m
      induction m with
      | zero => rfl
      | succ m ih => rw [List.replicate_succ, List.flatten_cons, ih, List.replicate_succ]; rfl
    have e2 := bin_val (o := oCat) (a := eVar 9) (k := false) (v := .lst (acc.map .int)) rfl (bin_val (o := oRep) (lst1_val e1) hw er) (cat_lst _ _ S (by rw [List.length_map, List.length_map, List.length_replicate]; omega))
    rw [← List.map_append] at e2
    rw [List.map_cons, q_forC]
    simp only [et, sasg_val e2]
    rw [show acc ++ evn ((t, (x, y)) :: l) = (acc ++ List.replicate (y - x) (t * (27720 / ((y : Int) - x)))) ++ evn l from by
      rw [List.append_assoc]
      rfl]
    exact ih
end
theorem rowsV (n : Nat) (S : Store) (cs : List Int) : callV (callF TT (n + 1)) 6 [col cs] S = .ok (false, .int cs.sum) S := by
  refine callV_same ?_ rfl
  rw [call_at (b := b6) [some (col cs)] rfl rfl rfl]
  unfold b6
  dsimp only
  rw [sret_val (arg1_val (fld0 S cs 0 _ rfl) (bSum_tup _ S))]
  rfl
end PX.K03
set_option linter.all false
set_option maxRecDepth 100000
set_option maxHeartbeats 1000000
namespace PX
open PySem
theorem sif_st {c : ST} {a b : SS} {env : Env} {S S' : Store} {t : Bool} (ha : c env S = .ok t S') : sIf c a b env S = if t = true then a env S' else b env S' := by
  rw [q_sif, ha, R.go_ok]
theorem tupi (a b : Int) : PV.tup [.int a, .int b] = .tup ([a, b].map .int) := rfl
end PX
namespace PX.K03
open PySem PX K22M
abbrev V29 (w : Nat) (cs : List Int) (c : List Nat) (t : List Int) (a7 a8 a9 a10 a11 a12 a13 a14 a15 a16 : Option PV) : Env :=
  [some (.ref 0), some (.int w), some (col cs), some (tN c), some (.lst ((prs c w).map pr)), some (.tup (t.map .int)), some (hst w c t), a7, a8, a9, a10, a11, a12, a13, a14, a15, a16]
theorem estR (n : Nat) (ns : List Int) (hn : ns.length ≤ 63) (k : Nat) (cs : List Int) (c : List Nat) (h1 : 1 ≤ cs.length) (h2 : cs.length ≤ 12) (hd : ∀ x ∈ cs, dig x) (hc : isC c cs.length) :
    ∃ k', callV (callF TT (n + 6)) 29 [.ref 0, .int cs.length, col cs, tN c, .lst ((prs c cs.length).map pr), .tup ((tot cs c).map .int), hst cs.length c (tot cs c)] [DD ns k] = .ok (false, .bl true) [DD ns k'] := by
  have hcl := inc_len hc
  have htl := tot_len cs c
  have hok := okH_tot h1 h2 hd hc
  have hch := ev_chn (t := tot cs c) hc
  have hle := ev_le (t := tot cs c) hc
  have hcs0 : 0 ≤ cs.sum := (sum_dig cs hd).1
  obtain ⟨w, hw⟩ : ∃ w, w = cs.length := ⟨_, rfl⟩
  obtain ⟨tail, hct⟩ : ∃ tail, c = 0 :: tail := by
    cases c with
    | nil => cases hc.1
    | cons a tail => exact ⟨tail, by rw [show a = 0 by simpa using hc.1]⟩
  have key : ∃ k' x, callF TT (n + 6) 29 [.ref 0, .int cs.length, col cs, tN c, .lst ((prs c cs.length).map pr), .tup ((tot cs c).map .int), hst cs.length c (tot cs c)] 1 [DD ns k] = .ok (.bl true) [DD ns k', x] := by
    rw [call_at (b := b29) (V29 cs.length cs c (tot cs c) none none none none none none none none none none) rfl rfl rfl]
    unfold b29
    dsimp only
    -- first
    obtain ⟨v1, S1, p0, p1, pI1, pe1⟩ := take0 (n + 3) [] ns hn cs.length (by omega) (S := [DD ns k]) ⟨k, rfl⟩ (a := eVar 0) (b := eVar 1) (env := V29 cs.length cs c (tot cs c) none none none none none none none none none none) (k := false) (k' := false) (fun _ => rfl) (fun _ => rfl)
    obtain ⟨fs, rfl⟩ : ∃ fs : Nat, v1 = fs := ⟨v1.toNat, by omega⟩
    rw [q_scons, sasg_st pe1, RS.then_nx]
    rw [show (V29 cs.length cs c (tot cs c) none none none none none none none none none none).set 7 (some (.int fs)) = V29 cs.length cs c (tot cs c) (some (.int fs)) none none none none none none none none none from rfl]
    -- past
    obtain ⟨v2, S2, r0, r1, rI2, re2⟩ := take0 (n + 3) [] ns hn ((cs.length : Int) - fs) (by omega) pI1 (a := eVar 0) (b := eBin oSub (eVar 1) (eVar 7)) (env := V29 cs.length cs c (tot cs c) (some (.int fs)) none none none none none none none none none) (k := false) (k' := false) (fun _ => rfl) (fun _ => rfl)
    obtain ⟨d2, rfl⟩ : ∃ d : Nat, v2 = d := ⟨v2.toNat, by omega⟩
    obtain ⟨pt, hpt⟩ : ∃ pt, pt = fs + 1 + d2 := ⟨_, rfl⟩
    have e8 := bin_st (o := oCat) (a := eBin oCat (eVar 7) (eLit (.int 1))) (k := false) (v := .int ((fs : Int) + 1)) rfl re2 (cat_int _ _ S2)
    rw [show (fs : Int) + 1 + (d2 : Int) = (pt : Int) by omega] at e8
    rw [q_scons, sasg_st e8, RS.then_nx]
    rw [show (V29 cs.length cs c (tot cs c) (some (.int fs)) none none none none none none none none none).set 8 (some (.int pt)) = V29 cs.length cs c (tot cs c) (some (.int fs)) (some (.int pt)) none none none none none none none none from rfl]
    -- even
    have e9 : sAsg (gNm 9) (eLst aNil) (V29 cs.length cs c (tot cs c) (some (.int fs)) (some (.int pt)) none none none none none none none none) S2 = .nx (V29 cs.length cs c (tot cs c) (some (.int fs)) (some (.int pt)) (some (.lst [])) none none none none none none none) S2 := rfl
    rw [q_scons, e9, RS.then_nx, q_scons]
    obtain ⟨a10, a11, a12, eL⟩ := loop29 S2 (some (.ref 0)) (some (.int cs.length)) (some (col cs)) (some (tN c)) (some (.lst ((prs c cs.length).map pr))) (some (.tup ((tot cs c).map .int))) (some (hst cs.length c (tot cs c))) (some (.int fs)) (some (.int pt)) none none none none (ev cs.length c (tot cs c)) 0 [] none none none hch (fun p hp => Nat.le_trans (hle p hp) h2) (Nat.zero_le _) (by omega)
    have ez := zip_it (eVar 5) (eVar 4) (V29 cs.length cs c (tot cs c) (some (.int fs)) (some (.int pt)) (some (.lst [])) none none none none none none none) S2 false false _ _ ((tot cs c).map .int) ((prs c cs.length).map pr) rfl rfl rfl rfl
    rw [zipL_gen PV.int pr] at ez
    rw [q_sfor, ez, R.go_ok]
    simp only [q_unl0]
    rw [List.map_nil, List.nil_append] at eL
    rw [show forR (gTp [gNm 10, gTp [gNm 11, gNm 12]]) _ _ (V29 cs.length cs c (tot cs c) (some (.int fs)) (some (.int pt)) (some (.lst [])) none none none none none none none) S2 = _ from eL, RS.then_nx]
    have hevl : (evn (ev cs.length c (tot cs c))).length = cs.length := by
      have := evn_len cs.length tail 0 (tot cs c) (by rw [← hct]; exact hc.2.2) (by rw [← hct]; exact hc.2.1) (by rw [← hct]; exact htl)
      rw [← hct] at this
      exact this
    have hevs : (evn (ev cs.length c (tot cs c))).sum = 27720 * cs.sum := by
      have := evn_sum cs.length h2 tail 0 (tot cs c) (by rw [← hct]; exact hc.2.2) (by rw [← hct]; exact hc.2.1) (by rw [← hct]; exact htl)
      rw [← hct, tot_all hc] at this
      exact this
    generalize hevd : evn (ev cs.length c (tot cs c)) = evd at *
    show ∃ k' x, fin (sCons _ _ (V29 cs.length cs c (tot cs c) (some (.int fs)) (some (.int pt)) (some (.lst (evd.map .int))) a10 a11 a12 none none none none) S2) = _
    -- the estimate
    obtain ⟨hE0, hE⟩ := estV (n + 1) S2 cs.length c (tot cs c) fs pt hok (by omega) (by omega)
    rw [hevd] at hE0 hE
    have hsl : slc fs pt evd 0 = (seg evd fs pt).sum := by
      rw [slc_sum fs pt evd 0 (Nat.zero_le _), Nat.sub_zero]
      rfl
    have hred : (slc fs pt evd 0) = ((slc fs pt evd 0).toNat : Int) := by omega
    have c1 : tBl (eNe (callF TT (n + 5)) [(0, 2), (1, 13)] [.non, .bl, .int, .str, .tup, .lst, .dct, .own 0, .own 1] (eCall (callF TT (n + 5)) 3 21 (aCons (eVar 6) (aCons (eVar 7) (aCons (eVar 8) aNil)))) (eCall (callF TT (n + 5)) 2 28 (aCons (eArg bSum (aCons (eSl (eVar 9) (pSo (eVar 7)) (pSo (eVar 8))) aNil)) (aCons (eLit (.int 27720)) aNil)))) (V29 cs.length cs c (tot cs c) (some (.int fs)) (some (.int pt)) (some (.lst (evd.map .int))) a10 a11 a12 none none none none) S2 = .ok false S2 := by
      have x1 := call3 (cf := callF TT (n + 5)) (a := eVar 6) (b := false) (v := hst cs.length c (tot cs c)) (a2 := eVar 7) (b2 := false) (v2 := .int fs) (a3 := eVar 8) (b3 := false) (v3 := .int pt) (env := V29 cs.length cs c (tot cs c) (some (.int fs)) (some (.int pt)) (some (.lst (evd.map .int))) a10 a11 a12 none none none none) rfl rfl rfl hE
      have x2 := arg1_val (o := bSum) (sl_val (a := eVar 9) (k := false) (v := .lst (evd.map .int)) (env := V29 cs.length cs c (tot cs c) (some (.int fs)) (some (.int pt)) (some (.lst (evd.map .int))) a10 a11 a12 none none none none) (lo := pSo (eVar 7)) (hi := pSo (eVar 8)) (l := some (fs : Int)) (u := some (pt : Int)) (S := S2) rfl rfl rfl (seg_slL evd fs pt (by omega) (by omega) S2)) (bSum_lst _ S2)
      rw [← hsl, hred] at x2
      have x3 := call2 (a2 := eLit (.int 27720)) (b2 := false) (v2 := .int ((27720 : Nat) : Int)) x2 rfl (fracV (n + 4) S2 _ 27720 (by omega) (by omega))
      rw [tbl_val (ne_flat x1 x3 rfl (show oNe (red _ 27720) (red _ 27720) S2 = some (false, .bl (!decide (_ = _))) from oNe_tup [_, _] [_, _] S2)), decide_eq_true rfl]
      rfl
    rw [q_scons, sif_val c1, if_neg (by simp), q_snil, RS.then_nx]
    -- some cuts
    have v3 : ∀ S, eVar 3 (V29 cs.length cs c (tot cs c) (some (.int fs)) (some (.int pt)) (some (.lst (evd.map .int))) a10 a11 a12 none none none none) S = .ok (false, tN c) S := fun _ => rfl
    obtain ⟨l', S3, g1, g2, g3⟩ := lc_st (i := iSeq (eSl (eVar 3) (pSo (eLit (.int 1))) pNo)) (t := gNm 16) (vs := [16]) (c := tBl (eEq (callF TT (n + 5)) [(0, 2), (1, 13)] [.non, .bl, .int, .str, .tup, .lst, .dct, .own 0, .own 1] (eCall (callF TT (n + 5)) 2 24 (aCons (eVar 0) (aCons (eLit (.int 2)) aNil))) (eLit (.int 0)))) (e := eVar 16) (IsD ns []) (c.drop 1) (fun (x : Nat) => PV.int x)
      (env := V29 cs.length cs c (tot cs c) (some (.int fs)) (some (.int pt)) (some (.lst (evd.map .int))) a10 a11 a12 none none none none) (fun x => V29 cs.length cs c (tot cs c) (some (.int fs)) (some (.int pt)) (some (.lst (evd.map .int))) a10 a11 a12 none none none (some (.int (x : Nat)))) rI2 (by rw [seq_val _ _ S2 _ _ (sl_val (lo := pSo (eLit (.int 1))) (hi := pNo) (v3 S2) rfl rfl (drop_slA c S2)), iN_map]) (by rw [List.length_drop]; omega) (fun S x _ => rfl)
      (fun S x hI => by
        obtain ⟨v, S1, q0, q1, q2, q3⟩ := take0 (n + 3) [] ns hn 2 (by omega) hI (a := eVar 0) (b := eLit (.int 2)) (env := V29 cs.length cs c (tot cs c) (some (.int fs)) (some (.int pt)) (some (.lst (evd.map .int))) a10 a11 a12 none none none (some (.int (x : Nat)))) (k := false) (k' := false) (fun _ => rfl) (fun _ => rfl)
        exact ⟨decide (v = 0), S1, q2, teq_st q3 (b := eLit (.int 0)) (k' := false) (w := .int 0) rfl rfl (oEq_int' _ _ _)⟩)
      (fun S x _ => ⟨false, rfl⟩)
    have hll : l'.length ≤ 12 := by
      have := g2.length_le
      rw [List.length_drop] at this
      omega
    have hsub : l'.Sublist tail := by rw [hct] at g2; exact g2
    have hso : isC (0 :: l') cs.length := isC_sub (by rw [← hct]; exact hc) hsub
    have ec := bin_st (o := oCat) (lst1_val (a := eLit (.int 0)) (k := false) (v := .int 0) rfl) g3 (cat_lst [.int 0] _ S3 (by rw [List.length_map, iN_len]; simp; omega))
    have et : bTuple [.lst ([.int 0] ++ (iN l').map .int)] S3 = some (false, tN (0 :: l')) := rfl
    rw [q_scons, sasg_st (arg1_st ec et), RS.then_nx]
    generalize hson : 0 :: l' = so at *
    rw [show (V29 cs.length cs c (tot cs c) (some (.int fs)) (some (.int pt)) (some (.lst (evd.map .int))) a10 a11 a12 none none none none).set 13 (some (tN so)) = V29 cs.length cs c (tot cs c) (some (.int fs)) (some (.int pt)) (some (.lst (evd.map .int))) a10 a11 a12 (some (tN so)) none none none from rfl]
    have hmem : ∀ x ∈ so, x ∈ c := by
      intro x hx
      rw [← hson] at hx
      rw [hct]
      rcases List.mem_cons.mp hx with hx | hx
      · rw [hx]; exact List.mem_cons_self
      · exact List.mem_cons_of_mem _ (hsub.subset hx)
    have vv : V29 cs.length cs c (tot cs c) (some (.int fs)) (some (.int pt)) (some (.lst (evd.map .int))) a10 a11 a12 (some (tN so)) none none none = V29 cs.length cs c (tot cs c) (some (.int fs)) (some (.int pt)) (some (.lst (evd.map .int))) a10 a11 a12 (some (tN so)) none none none := rfl
    -- coarser
    have y1 := call2 (cf := callF TT (n + 5)) (a := eVar 6) (b := false) (v := hst cs.length c (tot cs c)) (a2 := eVar 13) (b2 := false) (v2 := tN so) (env := V29 cs.length cs c (tot cs c) (some (.int fs)) (some (.int pt)) (some (.lst (evd.map .int))) a10 a11 a12 (some (tN so)) none none none) rfl rfl (coarV (n + 1) S3 cs c so h1 h2 hd hc hso hmem)
    have y2 := call2 (cf := callF TT (n + 5)) (a := eVar 2) (b := false) (v := col cs) (a2 := eVar 13) (b2 := false) (v2 := tN so) (env := V29 cs.length cs c (tot cs c) (some (.int fs)) (some (.int pt)) (some (.lst (evd.map .int))) a10 a11 a12 (some (tN so)) none none none) rfl rfl (histV (n + 1) S3 cs so h1 h2 hd hso)
    have y3 := call2 (cf := callF TT (n + 5)) (a := eVar 6) (b := false) (v := hst cs.length c (tot cs c)) (a2 := eVar 3) (b2 := false) (v2 := tN c) (env := V29 cs.length cs c (tot cs c) (some (.int fs)) (some (.int pt)) (some (.lst (evd.map .int))) a10 a11 a12 (some (tN so)) none none none) rfl rfl (coarV (n + 1) S3 cs c c h1 h2 hd hc hc (fun x hx => hx))
    have d1 := tbl_val (hneE (n + 3) S3 _ _ _ _ _ _ (tb := [(0, 2), (1, 13)]) rfl rfl rfl y1 y2)
    have d2' := tbl_val (hneE (n + 3) S3 cs.length cs.length c c (tot cs c) (tot cs c) (tb := [(0, 2), (1, 13)]) rfl rfl rfl y3 (b := eVar 6) (k' := false) rfl)
    rw [decide_eq_true ⟨rfl, rfl, rfl⟩] at d1 d2'
    rw [q_scons, sif_val (t := false) (by rw [tor_val d1, if_neg (by simp), d2']; rfl), if_neg (by simp), q_snil, RS.then_nx]
    -- sums
    have z0 := meth0 (cf := callF TT (n + 5)) (m := 7) (T := [(0, 6)]) (o := eVar 2) (b := false) (v := col cs) (env := V29 cs.length cs c (tot cs c) (some (.int fs)) (some (.int pt)) (some (.lst (evd.map .int))) a10 a11 a12 (some (tN so)) none none none) rfl rfl (rowsV (n + 4) S3 cs)
    have z1 := arg1_val (hf3 S3 cs.length c (tot cs c) (i := 6) (env := V29 cs.length cs c (tot cs c) (some (.int fs)) (some (.int pt)) (some (.lst (evd.map .int))) a10 a11 a12 (some (tN so)) none none none) rfl) (bSum_tup (tot cs c) S3)
    rw [tot_all hc] at z1
    have d3 := tbl_val (ne_flat (cf := callF TT (n + 5)) (tb := [(0, 2), (1, 13)]) (tys := [.non, .bl, .int, .str, .tup, .lst, .dct, .own 0, .own 1]) z1 z0 rfl (oNe_int' _ _ S3))
    rw [decide_eq_true rfl] at d3
    obtain ⟨hW0, hW⟩ := estV (n + 1) S3 cs.length c (tot cs c) 0 cs.length hok (by omega) (Nat.le_refl _)
    have hWs : slc 0 cs.length evd 0 = 27720 * cs.sum := by
      rw [slc_sum 0 cs.length evd 0 (Nat.le_refl _), ← hevs]
      show ((evd.drop 0).take (cs.length - 0)).sum = _
      rw [List.drop_zero, Nat.sub_zero, ← hevl, List.take_length]
    rw [hevd, hWs] at hW
    obtain ⟨rw', hrw⟩ : ∃ r : Nat, cs.sum = r := ⟨cs.sum.toNat, by omega⟩
    have hr1 := red_one rw'
    have hred2 : red (27720 * cs.sum).toNat 27720 = .tup [.int cs.sum, .int 1] := by
      rw [show (27720 * cs.sum).toNat = 27720 * rw' by omega]
      unfold red
      rw [hr1.1, hr1.2, hrw]
      rfl
    rw [hred2] at hW
    have x4 := call3 (cf := callF TT (n + 5)) (a := eVar 6) (b := false) (v := hst cs.length c (tot cs c)) (a2 := eLit (.int 0)) (b2 := false) (v2 := .int ((0 : Nat) : Int)) (a3 := eVar 1) (b3 := false) (v3 := .int cs.length) (env := V29 cs.length cs c (tot cs c) (some (.int fs)) (some (.int pt)) (some (.lst (evd.map .int))) a10 a11 a12 (some (tN so)) none none none) rfl rfl rfl hW
    have x5 := tup2_val z0 (b := eLit (.int 1)) (k' := false) (w := .int 1) rfl
    have d4 := tbl_val (ne_flat (cf := callF TT (n + 5)) (tb := [(0, 2), (1, 13)]) (tys := [.non, .bl, .int, .str, .tup, .lst, .dct, .own 0, .own 1]) x4 x5 rfl (oNe_tup [cs.sum, 1] [cs.sum, 1] S3))
    rw [decide_eq_true rfl] at d4
    rw [q_scons, sif_val (t := false) (by rw [tor_val d3, if_neg (by simp), d4]; rfl), if_neg (by simp), q_snil, RS.then_nx]
    -- bent totals
    obtain ⟨k3, rfl⟩ := g1
    have e14 : sAsg (gNm 14) (eNew (eArg bList (aCons (eVar 5) aNil))) (V29 cs.length cs c (tot cs c) (some (.int fs)) (some (.int pt)) (some (.lst (evd.map .int))) a10 a11 a12 (some (tN so)) none none none) [DD ns k3] = .nx (V29 cs.length cs c (tot cs c) (some (.int fs)) (some (.int pt)) (some (.lst (evd.map .int))) a10 a11 a12 (some (tN so)) (some (.ref 1)) none none) [DD ns k3, .lst ((tot cs c).map .int)] := rfl
    rw [q_scons, e14, RS.then_nx]
    have hlen : eLen (callF TT (n + 5)) [(0, 3), (1, 14)] (eVar 14) (V29 cs.length cs c (tot cs c) (some (.int fs)) (some (.int pt)) (some (.lst (evd.map .int))) a10 a11 a12 (some (tN so)) (some (.ref 1)) none none) [DD ns k3, .lst ((tot cs c).map .int)] = .ok (false, .int c.length) [DD ns k3, .lst ((tot cs c).map .int)] := by
      rw [len_flat (a := eVar 14) (k := false) (v := .ref 1) (z := (false, .int ((tot cs c).map PV.int).length)) rfl rfl rfl, List.length_map, htl]
    have hcpos : 0 < c.length := by rw [hct]; simp
    obtain ⟨v5, p50, p51, p5e⟩ := takeV (n + 3) [.lst ((tot cs c).map .int)] ns k3 c.length hn (by omega)
    obtain ⟨j, rfl⟩ : ∃ j : Nat, v5 = j := ⟨v5.toNat, by omega⟩
    have e15 : eCall (callF TT (n + 5)) 2 24 (aCons (eVar 0) (aCons (eLen (callF TT (n + 5)) [(0, 3), (1, 14)] (eVar 14)) aNil)) (V29 cs.length cs c (tot cs c) (some (.int fs)) (some (.int pt)) (some (.lst (evd.map .int))) a10 a11 a12 (some (tN so)) (some (.ref 1)) none none) [DD ns k3, .lst ((tot cs c).map .int)] = .ok (false, .int j) [DD ns (k3 + 1), .lst ((tot cs c).map .int)] := by
      rw [q_call, args2 (a := eVar 0) (k := false) (v := .ref 0) rfl hlen, R.bind_ok, if_pos (by rfl), p5e]
    rw [q_scons, sasg_st e15, RS.then_nx]
    rw [show (V29 cs.length cs c (tot cs c) (some (.int fs)) (some (.int pt)) (some (.lst (evd.map .int))) a10 a11 a12 (some (tN so)) (some (.ref 1)) none none).set 15 (some (.int j)) = V29 cs.length cs c (tot cs c) (some (.int fs)) (some (.int pt)) (some (.lst (evd.map .int))) a10 a11 a12 (some (tN so)) (some (.ref 1)) (some (.int j)) none from rfl]
    have hjl : j < (tot cs c).length := by omega
    have hget : (tot cs c)[j]? = some (tot cs c)[j] := List.getElem?_eq_getElem hjl
    obtain ⟨bv, hb0, hb1, hbne, e16⟩ : ∃ bv : Int, 0 ≤ bv ∧ bv ≤ 1 ∧ bv ≠ (tot cs c)[j] ∧ eIf (tBl (eBin oGt (eIx (callF TT (n + 5)) [(0, 4)] (eVar 14) (eVar 15)) (eLit (.int 0)))) (eLit (.int 0)) (eLit (.int 1)) (V29 cs.length cs c (tot cs c) (some (.int fs)) (some (.int pt)) (some (.lst (evd.map .int))) a10 a11 a12 (some (tN so)) (some (.ref 1)) (some (.int j)) none) [DD ns (k3 + 1), .lst ((tot cs c).map .int)] = .ok (false, .int bv) [DD ns (k3 + 1), .lst ((tot cs c).map .int)] := by
      have ei := ix_val (cf := callF TT (n + 5)) (tb := [(0, 4)]) (a := eVar 14) (k := false) (v := .ref 1) (b := eVar 15) (k' := false) (w := .int j) (env := V29 cs.length cs c (tot cs c) (some (.int fs)) (some (.int pt)) (some (.lst (evd.map .int))) a10 a11 a12 (some (tN so)) (some (.ref 1)) (some (.int j)) none) (S := [DD ns (k3 + 1), .lst ((tot cs c).map .int)]) (z := (false, .int (tot cs c)[j])) rfl rfl rfl rfl (oIx_at (xs := (tot cs c).map .int) rfl (by rw [List.getElem?_map, hget]; rfl))
      have ec2 := tbl_val (bin_val (o := oGt) ei (b := eLit (.int 0)) (k' := false) (w := .int 0) rfl rfl)
      rw [eif_val ec2]
      by_cases hp : 0 < (tot cs c)[j]
      · exact ⟨0, by omega, by omega, by omega, by rw [if_pos (by simpa using hp)]; rfl⟩
      · exact ⟨1, by omega, by omega, by omega, by rw [if_neg (by simpa using hp)]; rfl⟩
    have e17 : sSetI (setG 1) (eVar 14) (eVar 15) (eIf (tBl (eBin oGt (eIx (callF TT (n + 5)) [(0, 4)] (eVar 14) (eVar 15)) (eLit (.int 0)))) (eLit (.int 0)) (eLit (.int 1))) (V29 cs.length cs c (tot cs c) (some (.int fs)) (some (.int pt)) (some (.lst (evd.map .int))) a10 a11 a12 (some (tN so)) (some (.ref 1)) (some (.int j)) none) [DD ns (k3 + 1), .lst ((tot cs c).map .int)] = .nx (V29 cs.length cs c (tot cs c) (some (.int fs)) (some (.int pt)) (some (.lst (evd.map .int))) a10 a11 a12 (some (tN so)) (some (.ref 1)) (some (.int j)) none) [DD ns (k3 + 1), .lst (((tot cs c).set j bv).map .int)] := by
      have hs := setI_last [DD ns (k3 + 1)] ((tot cs c).map .int) j (.int bv) (by rw [List.length_map]; exact hjl)
      unfold sSetI
      rw [e16, R.go_ok]
      show (match setG 1 (.ref 1) (.int j) (.int bv) [DD ns (k3 + 1), .lst ((tot cs c).map .int)] with
        | some S4 => RS.nx _ S4
        | none => RS.no) = _
      rw [show setG 1 (.ref 1) (.int j) (.int bv) [DD ns (k3 + 1), .lst ((tot cs c).map .int)] = _ from hs, List.map_set]
      rfl
    rw [q_scons, e17, RS.then_nx]
    have hbok : okH cs.length c ((tot cs c).set j bv) := by
      obtain ⟨o1, o2, o3, o4, o5⟩ := hok
      exact ⟨o1, o2, o3, by rw [List.length_set]; exact o4, bent_ok (n := 0) _ _ _ _ (fun p hp => (prs_mem hc.2.2 hc.2.1 p hp).1) o5 hb0 hb1⟩
    have hbn : tot cs c ≠ (tot cs c).set j bv := by
      intro he
      have : (tot cs c)[j]? = ((tot cs c).set j bv)[j]? := by rw [← he]
      rw [hget, List.getElem?_set_self hjl] at this
      exact hbne (Option.some.inj this).symm
    have m1 := hmake (n + 2) cs.length c ((tot cs c).set j bv) hbok (a1 := eVar 1) (a2 := eVar 3) (a3 := eArg bTuple (aCons (eVar 14) aNil)) (k1 := false) (k2 := false) (k3 := false) (env := V29 cs.length cs c (tot cs c) (some (.int fs)) (some (.int pt)) (some (.lst (evd.map .int))) a10 a11 a12 (some (tN so)) (some (.ref 1)) (some (.int j)) none) (S := [DD ns (k3 + 1), .lst (((tot cs c).set j bv).map .int)]) rfl rfl rfl
    have u1 := tbl_val (heqE (n + 3) [DD ns (k3 + 1), .lst (((tot cs c).set j bv).map .int)] cs.length cs.length c c (tot cs c) ((tot cs c).set j bv) (tb := [(0, 2), (1, 13)]) rfl rfl rfl (a := eVar 6) (k := false) rfl m1)
    rw [decide_eq_false (fun hh => hbn hh.2.2)] at u1
    have u2 : tBl (eBin oLt (eVar 1) (eLit (.int 12))) (V29 cs.length cs c (tot cs c) (some (.int fs)) (some (.int pt)) (some (.lst (evd.map .int))) a10 a11 a12 (some (tN so)) (some (.ref 1)) (some (.int j)) none) [DD ns (k3 + 1), .lst (((tot cs c).set j bv).map .int)] = .ok (decide (cs.length < 12)) [DD ns (k3 + 1), .lst (((tot cs c).set j bv).map .int)] := by
      show R.ok (decide ((cs.length : Int) < 12)) _ = _
      exact okc (decide_eq_decide.mpr (by omega)) _
    have ctest : tOr (tBl (eEq (callF TT (n + 5)) [(0, 2), (1, 13)] [.non, .bl, .int, .str, .tup, .lst, .dct, .own 0, .own 1] (eVar 6) (eMake (callF TT (n + 5)) 4 1 12 (aCons (eVar 1) (aCons (eVar 3) (aCons (eArg bTuple (aCons (eVar 14) aNil)) aNil)))))) (tAn (tBl (eBin oLt (eVar 1) (eLit (.int 12)))) (tBl (eEq (callF TT (n + 5)) [(0, 2), (1, 13)] [.non, .bl, .int, .str, .tup, .lst, .dct, .own 0, .own 1] (eVar 6) (eMake (callF TT (n + 5)) 4 1 12 (aCons (eBin oCat (eVar 1) (eLit (.int 1))) (aCons (eVar 3) (aCons (eVar 5) aNil))))))) (V29 cs.length cs c (tot cs c) (some (.int fs)) (some (.int pt)) (some (.lst (evd.map .int))) a10 a11 a12 (some (tN so)) (some (.ref 1)) (some (.int j)) none) [DD ns (k3 + 1), .lst (((tot cs c).set j bv).map .int)] = .ok false [DD ns (k3 + 1), .lst (((tot cs c).set j bv).map .int)] := by
      rw [tor_val u1, if_neg (by simp), tan_val u2]
      by_cases hlt : cs.length < 12
      · rw [if_pos (by simpa using hlt)]
        have hwok : okH (cs.length + 1) c (tot cs c) := by
          obtain ⟨o1, o2, o3, o4, o5⟩ := hok
          exact ⟨by omega, by omega, ⟨hc.1, fun x hx => by have := hc.2.1 x hx; omega, hc.2.2⟩, o4, wider c _ o5⟩
        have m2 := hmake (n + 2) (cs.length + 1) c (tot cs c) hwok (a1 := eBin oCat (eVar 1) (eLit (.int 1))) (a2 := eVar 3) (a3 := eVar 5) (k1 := false) (k2 := false) (k3 := false) (env := V29 cs.length cs c (tot cs c) (some (.int fs)) (some (.int pt)) (some (.lst (evd.map .int))) a10 a11 a12 (some (tN so)) (some (.ref 1)) (some (.int j)) none) (S := [DD ns (k3 + 1), .lst (((tot cs c).set j bv).map .int)]) rfl rfl rfl
        have u3 := tbl_val (heqE (n + 3) [DD ns (k3 + 1), .lst (((tot cs c).set j bv).map .int)] cs.length (cs.length + 1) c c (tot cs c) (tot cs c) (tb := [(0, 2), (1, 13)]) rfl rfl rfl (a := eVar 6) (k := false) rfl m2)
        rw [decide_eq_false (fun hh => by have := hh.1; omega)] at u3
        exact u3
      · rw [if_neg (by simpa using hlt)]
    rw [q_scons, sif_val ctest, if_neg (by simp), q_snil, RS.then_nx]
    exact ⟨k3 + 1, _, rfl⟩
  obtain ⟨k', x, e⟩ := key
  refine ⟨k', ?_⟩
  unfold callV
  rw [show ([DD ns k] : Store).length = 1 from rfl, e]
  rfl
end PX.K03
set_option linter.all false
set_option maxRecDepth 100000
set_option maxHeartbeats 1000000
namespace PX
open PySem
theorem eqvAll_tups : ∀ xss : List (List Int), PyData.eqvAll (xss.map fun (xs : List Int) => PyData.tuple (xs.map .int)) (xss.map fun (xs : List Int) => PyData.tuple (xs.map .int)) = true
  | [] => rfl
  | xs :: xss => by
    show (PyData.eqvAll (xs.map .int) (xs.map .int) && PyData.eqvAll (xss.map fun (xs : List Int) => PyData.tuple (xs.map .int)) (xss.map fun (xs : List Int) => PyData.tuple (xs.map .int))) = true
    rw [eqv_ints, eqvAll_tups xss, decide_eq_true rfl]
    rfl
theorem ne_tups (S : Store) (xss : List (List Int)) : oNe (.lst (xss.map fun (xs : List Int) => PV.tup (xs.map .int))) (.lst (xss.map fun (xs : List Int) => PV.tup (xs.map .int))) S = some (false, .bl false) := by
  have e : toD S 6 (.lst (xss.map fun (xs : List Int) => PV.tup (xs.map .int))) = some (.list (xss.map fun (xs : List Int) => PyData.tuple (xs.map .int))) := by
    show (toDL (toD S 5) (xss.map fun (xs : List Int) => PV.tup (xs.map .int))).map PyData.list = _
    rw [toDL_tups S 3 xss]
    rfl
  unfold oNe eqD
  rw [e]
  show some (false, PV.bl (!(PyData.eqvAll _ _))) = _
  rw [eqvAll_tups]
  rfl
end PX
namespace PX.K03
open PySem PX K22M
abbrev all4 (w : Nat) (c : List Nat) (t : List Int) (m : Nat) : PV := .tup [.int w, tN c, .tup (t.map .int), .int m]
theorem ne_all4 (S : Store) (w m : Nat) (c : List Nat) (t : List Int) : oNe (all4 w c t m) (all4 w c t m) S = some (false, .bl false) := by
  have e : toD S 6 (all4 w c t m) = some (.tuple [.int w, .tuple ((iN c).map .int), .tuple (t.map .int), .int m]) :=
    congrArg (Option.map PyData.tuple) (toDL_c rfl (toDL_c (toD_tup S 3 _) (toDL_c (toD_tup S 3 _) (toDL_c rfl rfl))))
  unfold oNe eqD
  rw [e]
  show some (false, PV.bl (!(((w : Int) == (w : Int)) && (PyData.eqvAll ((iN c).map .int) ((iN c).map .int) && (PyData.eqvAll (t.map .int) (t.map .int) && (((m : Int) == (m : Int)) && true)))))) = _
  rw [eqv_ints, eqv_ints]
  simp
noncomputable abbrev LB (cf : CF) (n0 : Nat) : SS := (sCons (sAsg (gNm 3) (eCall cf 2 25 (aCons (eVar 1) (aCons (eLit (.int 12)) aNil)))) (sCons (sPar [4, 5] (aCons (eLen cf [(0, 3), (1, 14)] (eVar 3)) (aCons (eMake cf 2 0 1 (aCons (eVar 3) aNil)) aNil))) (sCons (sAsg (gNm 6) (eCall cf 2 26 (aCons (eVar 1) (aCons (eVar 4) aNil)))) (sCons (sAsg (gNm 7) (eCall cf 2 27 (aCons (eVar 4) (aCons (eVar 6) aNil)))) (sCons (sAsg (gNm 8) (eArg bTuple (aCons (eLc (iSeq (eVar 7)) (gTp [(gNm 10), (gNm 11)]) [10, 11] tYesP (eArg bSum (aCons (eSl (eVar 3) (pSo (eVar 10)) (pSo (eVar 11))) aNil))) aNil))) (sCons (sAsg (gNm 9) (eCall cf 2 18 (aCons (eVar 5) (aCons (eVar 6) aNil)))) (sCons (sIf (tBl (eNe cf [(0, 2), (1, 13)] [.non, .bl, .int, .str, .tup, .lst, .dct, .own 0, .own 1] (eTup (aCons (eFld [1] 1 (eVar 9)) (aCons (eFld [1] 2 (eVar 9)) (aCons (eFld [1] 3 (eVar 9)) (aCons (eLen cf [(0, 3), (1, 14)] (eVar 9)) aNil))))) (eTup (aCons (eVar 4) (aCons (eVar 6) (aCons (eVar 8) (aCons (eLen cf [(0, 3), (1, 14)] (eVar 6)) aNil))))))) (sRet (eLit (.bl false))) sNil) (sCons (sIf (tBl (eNe cf [(0, 2), (1, 13)] [.non, .bl, .int, .str, .tup, .lst, .dct, .own 0, .own 1] (eMeth cf 1 5 [(1, 16)] (eVar 9) aNil) (eVar 7))) (sRet (eLit (.bl false))) sNil) (sCons (sIf (tBl (eNe cf [(0, 2), (1, 13)] [.non, .bl, .int, .str, .tup, .lst, .dct, .own 0, .own 1] (eCall cf 2 19 (aCons (eVar 5) (aCons (eVar 6) aNil))) (eArg bTuple (aCons (eLc (iSeq (eVar 7)) (gTp [(gNm 10), (gNm 11)]) [10, 11] tYesP (eArg bMaxL (aCons (eSl (eVar 3) (pSo (eVar 10)) (pSo (eVar 11))) aNil))) aNil)))) (sRet (eLit (.bl false))) sNil) (sCons (sIf (tBl (eNe cf [(0, 2), (1, 13)] [.non, .bl, .int, .str, .tup, .lst, .dct, .own 0, .own 1] (eCall cf 2 20 (aCons (eVar 5) (aCons (eVar 6) aNil))) (eArg bTuple (aCons (eLc (iSeq (eVar 7)) (gTp [(gNm 10), (gNm 11)]) [10, 11] tYesP (eLen cf [(0, 3), (1, 14)] (eLc (iSeq (eSl (eVar 3) (pSo (eVar 10)) (pSo (eVar 11)))) (gNm 12) [12] (tBl (eBin oGt (eVar 12) (eLit (.int 0)))) (eVar 12)))) aNil)))) (sRet (eLit (.bl false))) sNil) (sCons (sIf (tOr (tBl (eNe cf [(0, 2), (1, 13)] [.non, .bl, .int, .str, .tup, .lst, .dct, .own 0, .own 1] (eVar 9) (eMake cf 4 1 12 (aCons (eVar 4) (aCons (eVar 6) (aCons (eVar 8) aNil)))))) (tAn (tBl (eBin oGt (eLen cf [(0, 3), (1, 14)] (eVar 6)) (eLit (.int 1)))) (tBl (eEq cf [(0, 2), (1, 13)] [.non, .bl, .int, .str, .tup, .lst, .dct, .own 0, .own 1] (eVar 9) (eCall cf 2 18 (aCons (eVar 5) (aCons (eSl (eVar 6) pNo (pSo (eUn oNeg (eLit (.int 1))))) aNil))))))) (sRet (eLit (.bl false))) sNil) (sIf (tNo (tTru (eCall cf 7 29 (aCons (eVar 1) (aCons (eVar 4) (aCons (eVar 5) (aCons (eVar 6) (aCons (eVar 7) (aCons (eVar 8) (aCons (eVar 9) aNil)))))))))) (sRet (eLit (.bl false))) sNil))))))))))))
theorem turn (n : Nat) (ns : List Int) (hn : ns.length ≤ 63) (k : Nat) (s a2 a3 a4 a5 a6 a7 a8 a9 a10 a11 a12 : Option PV) :
    ∃ k' b3 b4 b5 b6 b7 b8 b9, LB (callF TT (n + 6)) 0 [s, some (.ref 0), a2, a3, a4, a5, a6, a7, a8, a9, none, none, none] [DD ns k] = .nx [s, some (.ref 0), a2, b3, b4, b5, b6, b7, b8, b9, none, none, none] [DD ns k'] := by
  obtain ⟨k1, cs, h1, h2', hd, eC⟩ := counts_ok (n + 3) ns hn k 12 (by omega) (by omega)
  have h2 : cs.length ≤ 12 := by omega
  unfold LB
  have e3 : eCall (callF TT (n + 6)) 2 25 (aCons (eVar 1) (aCons (eLit (.int 12)) aNil)) [s, some (.ref 0), a2, a3, a4, a5, a6, a7, a8, a9, none, none, none] [DD ns k] = .ok (true, .lst (cs.map .int)) [DD ns k1] := by
    rw [q_call, args2 (a := eVar 1) (k := false) (v := .ref 0) (b := eLit (.int 12)) (k' := false) (w := .int 12) rfl rfl, R.bind_ok, if_pos (by rfl), eC]
  rw [q_scons, sasg_st e3, RS.then_nx]
  rw [show ([s, some (.ref 0), a2, a3, a4, a5, a6, a7, a8, a9, none, none, none] : Env).set 3 (some (.lst (cs.map .int))) = [s, some (.ref 0), a2, some (.lst (cs.map .int)), a4, a5, a6, a7, a8, a9, none, none, none] from rfl]
  have e4 : sPar [4, 5] (aCons (eLen (callF TT (n + 6)) [(0, 3), (1, 14)] (eVar 3)) (aCons (eMake (callF TT (n + 6)) 2 0 1 (aCons (eVar 3) aNil)) aNil)) [s, some (.ref 0), a2, some (.lst (cs.map .int)), a4, a5, a6, a7, a8, a9, none, none, none] [DD ns k1] = .nx [s, some (.ref 0), a2, some (.lst (cs.map .int)), some (.int cs.length), some (col cs), a6, a7, a8, a9, none, none, none] [DD ns k1] := by
    rw [q_spar, args2 (lenL (k := false) (c := cs) rfl) (cmake (n + 4) false cs h1 h2 hd (a1 := eVar 3) (k1 := false) rfl), R.go_ok]
    rfl
  rw [q_scons, e4, RS.then_nx]
  obtain ⟨c, S2, hc, ⟨k2, rfl⟩, eQ⟩ := lcutsV (n + 3) [] ns hn [DD ns k1] ⟨k1, rfl⟩ cs.length h1 h2
  have hcl := inc_len hc
  have e6 : eCall (callF TT (n + 6)) 2 26 (aCons (eVar 1) (aCons (eVar 4) aNil)) [s, some (.ref 0), a2, some (.lst (cs.map .int)), some (.int cs.length), some (col cs), a6, a7, a8, a9, none, none, none] [DD ns k1] = .ok (false, tN c) [DD ns k2] := by
    rw [q_call, args2 (a := eVar 1) (k := false) (v := .ref 0) (b := eVar 4) (k' := false) (w := .int cs.length) rfl rfl, R.bind_ok, if_pos (by rfl), eQ]
  rw [q_scons, sasg_st e6, RS.then_nx]
  rw [show ([s, some (.ref 0), a2, some (.lst (cs.map .int)), some (.int cs.length), some (col cs), a6, a7, a8, a9, none, none, none] : Env).set 6 (some (tN c)) = [s, some (.ref 0), a2, some (.lst (cs.map .int)), some (.int cs.length), some (col cs), some (tN c), a7, a8, a9, none, none, none] from rfl]
  rw [q_scons, sasg_val (call2 (a := eVar 4) (a2 := eVar 6) (b := false) (b2 := false) (v := .int cs.length) (v2 := tN c) rfl rfl (lbuckV (n + 5) [DD ns k2] c cs.length (by omega))), RS.then_nx]
  rw [show ([s, some (.ref 0), a2, some (.lst (cs.map .int)), some (.int cs.length), some (col cs), some (tN c), a7, a8, a9, none, none, none] : Env).set 7 (some (.lst ((prs c cs.length).map pr))) = [s, some (.ref 0), a2, some (.lst (cs.map .int)), some (.int cs.length), some (col cs), some (tN c), some (.lst ((prs c cs.length).map pr)), a8, a9, none, none, none] from rfl]
  -- values over the buckets
  have over : ∀ (f : Nat × Nat → Int) (e : SE) (a8 a9 : Option PV), (∀ p ∈ prs c cs.length, ∃ b, e [s, some (.ref 0), a2, some (.lst (cs.map .int)), some (.int cs.length), some (col cs), some (tN c), some (.lst ((prs c cs.length).map pr)), a8, a9, some (.int (p.1 : Nat)), some (.int (p.2 : Nat)), none] [DD ns k2] = .ok (b, .int (f p)) [DD ns k2]) →
      eArg bTuple (aCons (eLc (iSeq (eVar 7)) (gTp [gNm 10, gNm 11]) [10, 11] tYesP e) aNil) [s, some (.ref 0), a2, some (.lst (cs.map .int)), some (.int cs.length), some (col cs), some (tN c), some (.lst ((prs c cs.length).map pr)), a8, a9, none, none, none] [DD ns k2] = .ok (false, .tup (((prs c cs.length).map f).map .int)) [DD ns k2] := by
    intro f e a8 a9 he
    have := lc_int (i := iSeq (eVar 7)) (t := gTp [gNm 10, gNm 11]) (vs := [10, 11]) (c := tYesP) (e := e) (env := [s, some (.ref 0), a2, some (.lst (cs.map .int)), some (.int cs.length), some (col cs), some (tN c), some (.lst ((prs c cs.length).map pr)), a8, a9, none, none, none]) (S := [DD ns k2]) (prs c cs.length) pr f (fun _ => true) (fun p => [s, some (.ref 0), a2, some (.lst (cs.map .int)), some (.int cs.length), some (col cs), some (tN c), some (.lst ((prs c cs.length).map pr)), a8, a9, some (.int (p.1 : Nat)), some (.int (p.2 : Nat)), none]) (seq_valL _ _ _ false _ rfl) (by rw [prs_len']; omega) (fun p _ => rfl) (fun p _ => rfl) (fun p hp _ => he p hp)
    rw [filter_yes] at this
    exact arg1_val this (tuple_lst _ _)
  have hsl : ∀ (p : Nat × Nat) (a8 a9 : Option PV), p ∈ prs c cs.length → eSl (eVar 3) (pSo (eVar 10)) (pSo (eVar 11)) [s, some (.ref 0), a2, some (.lst (cs.map .int)), some (.int cs.length), some (col cs), some (tN c), some (.lst ((prs c cs.length).map pr)), a8, a9, some (.int (p.1 : Nat)), some (.int (p.2 : Nat)), none] [DD ns k2] = .ok (true, .lst ((seg cs p.1 p.2).map .int)) [DD ns k2] := by
    intro p a8 a9 hp
    obtain ⟨g1, g2, g3⟩ := prs_mem hc.2.2 hc.2.1 p hp
    exact sl_val (a := eVar 3) (k := false) (v := .lst (cs.map .int)) rfl (pso_val (a := eVar 10) (k := false) rfl) (pso_val (a := eVar 11) (k := false) rfl) (seg_slL cs p.1 p.2 (by omega) g2 _)
  rw [q_scons, sasg_val (over (fun p => (seg cs p.1 p.2).sum) _ a8 a9 fun p hp => ⟨false, arg1_val (hsl p a8 a9 hp) (bSum_lst _ _)⟩), RS.then_nx]
  rw [show ([s, some (.ref 0), a2, some (.lst (cs.map .int)), some (.int cs.length), some (col cs), some (tN c), some (.lst ((prs c cs.length).map pr)), a8, a9, none, none, none] : Env).set 8 (some (.tup (((prs c cs.length).map fun p => (seg cs p.1 p.2).sum).map .int))) = [s, some (.ref 0), a2, some (.lst (cs.map .int)), some (.int cs.length), some (col cs), some (tN c), some (.lst ((prs c cs.length).map pr)), some (.tup ((tot cs c).map .int)), a9, none, none, none] from rfl]
  rw [q_scons, sasg_val (call2 (a := eVar 5) (a2 := eVar 6) (b := false) (b2 := false) (v := col cs) (v2 := tN c) rfl rfl (histV (n + 2) [DD ns k2] cs c h1 h2 hd hc)), RS.then_nx]
  rw [show ([s, some (.ref 0), a2, some (.lst (cs.map .int)), some (.int cs.length), some (col cs), some (tN c), some (.lst ((prs c cs.length).map pr)), some (.tup ((tot cs c).map .int)), a9, none, none, none] : Env).set 9 (some (hst cs.length c (tot cs c))) = [s, some (.ref 0), a2, some (.lst (cs.map .int)), some (.int cs.length), some (col cs), some (tN c), some (.lst ((prs c cs.length).map pr)), some (.tup ((tot cs c).map .int)), some (hst cs.length c (tot cs c)), none, none, none] from rfl]
  generalize hev : [s, some (.ref 0), a2, some (.lst (cs.map .int)), some (.int cs.length), some (col cs), some (tN c), some (.lst ((prs c cs.length).map pr)), some (.tup ((tot cs c).map .int)), some (hst cs.length c (tot cs c)), none, none, none] = ev1
  have w4 : ev1[4]? = some (some (.int cs.length)) := by rw [← hev]; rfl
  have w5 : ev1[5]? = some (some (col cs)) := by rw [← hev]; rfl
  have w6 : ev1[6]? = some (some (tN c)) := by rw [← hev]; rfl
  have w7 : ev1[7]? = some (some (.lst ((prs c cs.length).map pr))) := by rw [← hev]; rfl
  have w8 : ev1[8]? = some (some (.tup ((tot cs c).map .int))) := by rw [← hev]; rfl
  have w9 : ev1[9]? = some (some (hst cs.length c (tot cs c))) := by rw [← hev]; rfl
  have w1 : ev1[1]? = some (some (.ref 0)) := by rw [← hev]; rfl
  have vv : ∀ {i : Nat} {v : PV} (S : Store), ev1[i]? = some (some v) → eVar i ev1 S = .ok (false, v) S := fun S h => by rw [q_var, h]
  have f1 := hf1 [DD ns k2] cs.length c (tot cs c) w9
  have f2 := hf2 [DD ns k2] cs.length c (tot cs c) w9
  have f3 := hf3 [DD ns k2] cs.length c (tot cs c) w9
  have q4 := tup_val (args4 f1 f2 f3 (hlenE (n + 5) [DD ns k2] cs.length c (tot cs c) (by omega) (vv _ w9))) (by simp)
  have q5 := tup_val (args4 (vv [DD ns k2] w4) (vv _ w6) (vv _ w8) (lenN (cf := callF TT (n + 6)) (tb := [(0, 3), (1, 14)]) (vv _ w6))) (by simp)
  rw [iN_len] at q5
  rw [q_scons, sif_val (tbl_val (ne_flat q4 q5 rfl (ne_all4 _ cs.length c.length c (tot cs c)))), if_neg (by simp), q_snil, RS.then_nx]
  have hne8 : oNe (.lst ((prs c cs.length).map pr)) (.lst ((prs c cs.length).map pr)) [DD ns k2] = some (false, .bl false) := by
    have := ne_tups [DD ns k2] ((prs c cs.length).map fun p => [(p.1 : Int), (p.2 : Int)])
    rw [List.map_map] at this
    exact this
  rw [q_scons, sif_val (tbl_val (ne_flat (meth0 (vv _ w9) rfl (hbuckV (n + 4) [DD ns k2] cs.length c (tot cs c) (by omega))) (vv _ w7) rfl hne8)), if_neg (by simp), q_snil, RS.then_nx]
  have ov := fun f e he => over f e (some (.tup ((tot cs c).map .int))) (some (hst cs.length c (tot cs c))) he
  rw [hev] at ov
  rw [q_scons, sif_val (tbl_val (ne_flat (call2 (vv _ w5) (vv _ w6) (capsV (n + 2) [DD ns k2] cs c h1 h2 hd hc)) (ov (fun p => mx (seg cs p.1 p.2)) _ fun p hp => ⟨false, by
    obtain ⟨g1, g2, g3⟩ := prs_mem hc.2.2 hc.2.1 p hp
    exact arg1_val (hsl p _ _ hp) (mx_lst _ (seg_ne g1 (by omega)) _)⟩) rfl (oNe_tup (caps cs c) (caps cs c) _))), decide_eq_true rfl, Bool.not_true, if_neg (by simp), q_snil, RS.then_nx]
  rw [q_scons, sif_val (tbl_val (ne_flat (call2 (vv _ w5) (vv _ w6) (fillsV (n + 2) [DD ns k2] cs c h1 h2 hd hc)) (ov (fun p => (((seg cs p.1 p.2).filter fun x => decide (0 < x)).length : Int)) _ fun p hp => ⟨false, by
    obtain ⟨g1, g2, g3⟩ := prs_mem hc.2.2 hc.2.1 p hp
    have hl := seg_len (cs := cs) (a := p.1) g2
    have e2 := lc_int (t := gNm 12) (vs := [12]) (c := tBl (eBin oGt (eVar 12) (eLit (.int 0)))) (e := eVar 12) (seg cs p.1 p.2) (fun x => PV.int x) (fun x => x) (fun x => decide (0 < x)) (fun x => [s, some (.ref 0), a2, some (.lst (cs.map .int)), some (.int cs.length), some (col cs), some (tN c), some (.lst ((prs c cs.length).map pr)), some (.tup ((tot cs c).map .int)), some (hst cs.length c (tot cs c)), some (.int (p.1 : Nat)), some (.int (p.2 : Nat)), some (.int x)]) (seq_valL _ _ _ true _ (hsl p (some (.tup ((tot cs c).map .int))) (some (hst cs.length c (tot cs c))) hp)) (by omega) (fun x _ => rfl) (fun x _ => rfl) (fun x _ _ => ⟨false, rfl⟩)
    rw [List.map_id'] at e2
    exact lenL (cf := callF TT (n + 6)) (tb := [(0, 3), (1, 14)]) e2⟩) rfl (oNe_tup (fills cs c) (fills cs c) _))), decide_eq_true rfl, Bool.not_true, if_neg (by simp), q_snil, RS.then_nx]
  have m1 := hmake (n + 3) cs.length c (tot cs c) (okH_tot h1 h2 hd hc) (vv [DD ns k2] w4) (vv _ w6) (vv _ w8)
  have u1 := tbl_val (hneE (n + 4) [DD ns k2] cs.length cs.length c c (tot cs c) (tot cs c) (tb := [(0, 2), (1, 13)]) rfl rfl rfl (vv _ w9) m1)
  rw [decide_eq_true ⟨rfl, rfl, rfl⟩] at u1
  have u2 := tbl_val (bin_val (o := oGt) (lenN (cf := callF TT (n + 6)) (tb := [(0, 3), (1, 14)]) (vv [DD ns k2] w6)) (b := eLit (.int 1)) (k' := false) (w := .int 1) rfl rfl)
  have ctest : tOr (tBl (eNe (callF TT (n + 6)) [(0, 2), (1, 13)] [.non, .bl, .int, .str, .tup, .lst, .dct, .own 0, .own 1] (eVar 9) (eMake (callF TT (n + 6)) 4 1 12 (aCons (eVar 4) (aCons (eVar 6) (aCons (eVar 8) aNil)))))) (tAn (tBl (eBin oGt (eLen (callF TT (n + 6)) [(0, 3), (1, 14)] (eVar 6)) (eLit (.int 1)))) (tBl (eEq (callF TT (n + 6)) [(0, 2), (1, 13)] [.non, .bl, .int, .str, .tup, .lst, .dct, .own 0, .own 1] (eVar 9) (eCall (callF TT (n + 6)) 2 18 (aCons (eVar 5) (aCons (eSl (eVar 6) pNo (pSo (eUn oNeg (eLit (.int 1))))) aNil)))))) ev1 [DD ns k2] = .ok false [DD ns k2] := by
    rw [tor_val u1, if_neg (by simp), tan_val u2, iN_len]
    by_cases hl1 : 1 < c.length
    · rw [if_pos (by simp; omega)]
      have hcc : isC (c.take (c.length - 1)) cs.length := by
        refine ⟨?_, fun x hx => hc.2.1 x (List.mem_of_mem_take hx), hc.2.2.sublist (List.take_sublist _ _)⟩
        cases c with
        | nil => cases hc.1
        | cons a c' =>
          rw [show (a :: c').length - 1 = (c'.length - 1) + 1 by simp only [List.length_cons] at hl1 ⊢; omega, List.take_succ_cons]
          exact hc.1
      have hsl2 : slP none (some (-1)) (tN c) [DD ns k2] = some (false, tN (c.take (c.length - 1))) := by
        show some (false, PV.tup (cutP ((iN c).map .int) none (some (-1)))) = _
        rw [cutP_map]
        show some (false, PV.tup ((((iN c).drop 0).take ((if (-1 : Int) < 0 then (-1 + ((iN c).length : Int)).toNat else min (-1 : Int).toNat (iN c).length) - 0)).map .int)) = _
        rw [if_pos (by omega), List.drop_zero, Nat.sub_zero, iN_len, show (-1 + (c.length : Int)).toNat = c.length - 1 by omega, iN_take]
      have e1 := call2 (vv [DD ns k2] w5) (sl_val (lo := pNo) (hi := pSo (eUn oNeg (eLit (.int 1)))) (vv [DD ns k2] w6) rfl rfl hsl2) (histV (n + 2) [DD ns k2] cs (c.take (c.length - 1)) h1 h2 hd hcc)
      have u3 := tbl_val (heqE (n + 4) [DD ns k2] cs.length cs.length c (c.take (c.length - 1)) (tot cs c) (tot cs (c.take (c.length - 1))) (tb := [(0, 2), (1, 13)]) rfl rfl rfl (vv _ w9) e1)
      rw [decide_eq_false (by
        rintro ⟨_, hh, _⟩
        have := congrArg List.length hh
        rw [List.length_take] at this
        omega)] at u3
      exact u3
    · rw [if_neg (by simp; omega)]
  rw [q_scons, sif_val ctest, if_neg (by simp), q_snil, RS.then_nx]
  obtain ⟨k3, eE⟩ := estR n ns hn k2 cs c h1 h2 hd hc
  have e29 : tNo (tTru (eCall (callF TT (n + 6)) 7 29 (aCons (eVar 1) (aCons (eVar 4) (aCons (eVar 5) (aCons (eVar 6) (aCons (eVar 7) (aCons (eVar 8) (aCons (eVar 9) aNil))))))))) ev1 [DD ns k2] = .ok false [DD ns k3] := by
    have : eCall (callF TT (n + 6)) 7 29 (aCons (eVar 1) (aCons (eVar 4) (aCons (eVar 5) (aCons (eVar 6) (aCons (eVar 7) (aCons (eVar 8) (aCons (eVar 9) aNil))))))) ev1 [DD ns k2] = .ok (false, .bl true) [DD ns k3] := by
      rw [q_call, q_cons, vv _ w1, R.bind_ok, q_cons, vv _ w4, R.bind_ok, q_cons, vv _ w5, R.bind_ok, q_cons, vv _ w6, R.bind_ok, q_cons, vv _ w7, R.bind_ok, q_cons, vv _ w8, R.bind_ok, q_cons, vv _ w9, R.bind_ok, q_nil, R.bind_ok, R.bind_ok, R.bind_ok, R.bind_ok, R.bind_ok, R.bind_ok, R.bind_ok, R.bind_ok, if_pos (by rfl), eE]
    rw [q_tno, q_tru, this]
    rfl
  rw [sif_st e29, if_neg (by simp), q_snil, ← hev]
  exact ⟨k3, _, _, _, _, _, _, _, rfl⟩
theorem turns (n : Nat) (s : Option PV) (ns : List Int) (hn : ns.length ≤ 63) : ∀ (l : List PV) (a2 a3 a4 a5 a6 a7 a8 a9 : Option PV) (k : Nat), ∃ k' b2 b3 b4 b5 b6 b7 b8 b9, forR (gNm 2) (LB (callF TT (n + 6)) 0) l [s, some (.ref 0), a2, a3, a4, a5, a6, a7, a8, a9, none, none, none] [DD ns k] = .nx [s, some (.ref 0), b2, b3, b4, b5, b6, b7, b8, b9, none, none, none] [DD ns k']
  | [], a2, a3, a4, a5, a6, a7, a8, a9, k => ⟨k, a2, a3, a4, a5, a6, a7, a8, a9, rfl⟩
  | x :: l, a2, a3, a4, a5, a6, a7, a8, a9, k => by
    obtain ⟨k1, b3, b4, b5, b6, b7, b8, b9, e⟩ := turn n ns hn k s (some x) a3 a4 a5 a6 a7 a8 a9 none none none
    obtain ⟨k', c2, c3, c4, c5, c6, c7, c8, c9, ih⟩ := turns n s ns hn l (some x) b3 b4 b5 b6 b7 b8 b9 k1
    refine ⟨k', c2, c3, c4, c5, c6, c7, c8, c9, ?_⟩
    have et : gNm 2 x [s, some (.ref 0), a2, a3, a4, a5, a6, a7, a8, a9, none, none, none] [DD ns k] = some [s, some (.ref 0), some x, a3, a4, a5, a6, a7, a8, a9, none, none, none] := rfl
    rw [q_forC]
    simp only [et, e]
    exact ih
theorem law_eval (ns : List Int) (h : ns.length ≤ 63) : ∃ S', callF TT 60 30 [.lst (ns.map .int)] 0 [] = .ok (.bl true) S' := by
  obtain ⟨k', b2, b3, b4, b5, b6, b7, b8, b9, e⟩ := turns 53 (some (.lst (ns.map .int))) ns h (rngL 0 5) none none none none none none none none 0
  refine ⟨[DD ns k'], ?_⟩
  rw [call_at (b := b30) [some (.lst (ns.map .int)), none, none, none, none, none, none, none, none, none, none, none, none] rfl rfl rfl]
  unfold b30
  dsimp only
  have h0 : sAsg (gNm 1) (eNew (eLst (aCons (eVar 0) (aCons (eLit (.int 0)) aNil)))) [some (.lst (ns.map .int)), none, none, none, none, none, none, none, none, none, none, none, none] [] = .nx [some (.lst (ns.map .int)), some (.ref 0), none, none, none, none, none, none, none, none, none, none, none] [DD ns 0] := rfl
  have er := rg1_n (a := eLit (.int 5)) (k := false) (j := 5) (env := [some (.lst (ns.map .int)), some (.ref 0), none, none, none, none, none, none, none, none, none, none, none]) (S := [DD ns 0]) rfl (by omega) (by omega)
  rw [q_scons, h0, RS.then_nx, q_scons, q_sfor, er, R.go_ok]
  simp only [q_unl0]
  rw [show forR (gNm 2) _ (rngL 0 (5 : Int).toNat) [some (.lst (ns.map .int)), some (.ref 0), none, none, none, none, none, none, none, none, none, none, none] [DD ns 0] = _ from e, RS.then_nx]
  rfl
end PX.K03
set_option Elab.async false
set_option linter.all false
set_option maxRecDepth 100000
set_option maxHeartbeats 0
open PySem PySem.W PySem.Calls PyProof.Rows PX PX.K03
theorem PySem.Challenge.cw_bucketsums_k03_whole_histograms_holds : PySem.Challenge.rw_bucketsums_k03_whole_histograms.Holds := by
  w_on; o_law
  refine HandSHeadRun.head_any (r := OpenLaw.row PySem.Challenge.rw_bucketsums_k03_whole_histograms) (q := view (OpenLaw.row PySem.Challenge.rw_bucketsums_k03_whole_histograms).prog [35]) (H := PX.K03.hk) (ob := PX.K03.ob) (M := 20000) (loose := ["_wall", "SumError", "BadCounts", "BadColumn", "BadValue", "BadRange", "BadCuts", "BadHistogram", "MOST_VALUES", "MOST_COUNT", "is_number", "Column", "check_column", "lowest", "are_cuts", "check_cuts", "buckets_of", "Histogram", "check_histogram", "histogram", "caps_of", "fills_of", "estimate", "coarser", "_law_number", "_law_take", "_law_counts", "_law_cuts", "_law_buckets", "_law_fraction", "_law_estimates_right"]) (d := HandSHeadRun.topDef (OpenLaw.row PySem.Challenge.rw_bucketsums_k03_whole_histograms).prog 35) (kwd := []) PX.K03.ob_eq
    (by kernel_rfl) (fun s => by kernel_rfl) PX.K03.run (by kernel_rfl) (by kernel_rfl) (by kernel_rfl) (by rfl) (by first | assumption | decide +kernel) (by decide +kernel) ⟨rfl, rfl, rfl, rfl, rfl, by decide +kernel⟩ ?hw ?hc
  case hw => w_witness2
  case hc =>
    refine L2.walk_ofE (l := PySem.Challenge.rw_bucketsums_k03_whole_histograms) (n := 63) (k := 2 * 60) (x := "_law_script") (CX := L2.CX0) rfl (by decide) (by kernel_rfl) ⟨rfl, by decide, by decide⟩ ?F (fun _ _ _ _ z => z)
    intro w mg fa h Y G hmg0
    obtain ⟨K, KX, c⟩ := Y
    have C : PX.K03.Ctx K h mg := ⟨KX, G, c⟩
    have hmg : mg ("law" : PySem.Str) = some (.ref fa) := by
      have e : (HandSHeadRun.topDef (OpenLaw.row PySem.Challenge.rw_bucketsums_k03_whole_histograms).prog 35).name = ("law" : PySem.Str) := by kernel_rfl
      rw [← e]
      exact hmg0
    have e := hmg.symm.trans (PX.K03.m_f_law C)
    cases e
    obtain ⟨fd, F⟩ := c.def_ 30 (d := PX.K03.d30) rfl
    have hb := L2.FunD.bindsA (ps := ["_law_script"]) F fun _ _ _ _ _ _ us hl => match us, hl with | [_], _ => rfl
    refine ⟨K, fd, PX.spF (PX.K03.GG K) (PX.callF PX.K03.TT 60) 30 1, KX, fun s u => hb s [u] rfl, fun H a ns hl _ hS => ?_, fun base kb nb => ?_⟩
    · obtain ⟨S', e⟩ := PX.K03.law_eval ns hl
      exact PX.law_sp c.nol hS e
    · exact PX.K03.lawOk ⟨kb, nb, c⟩ F
