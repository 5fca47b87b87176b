import PyProof.Rows.All
import Wide.All
import OpenK.AllK
import Wide.FinOn
import HandS.ForMost
import HandS.Flow
import HandS.Star
import HandS.Style
import HandS.Defaults
import KE.KTupSum
import KE.DataAny
import HandS.TupAny
import HandS.TupMul
import KE.DataMinMax
import PyProof.InstEq
import HandS.IsInst
import HandS.OwnEq
import HandS.SlotsOwn
import HandS.Words
import PyProof.InstNe
import HandS.Dict
import HandS.Finally
import HandS.More
import HandS.RaiseOp
import PyProof.ZipIter
import PyProof.Draws
import HandS.Zip0
import HandS.Zip
import HandS.Iter
import HandS.Comp
import HandS.SortInts
import KE.KStateDown
import HandS.Base
import HandS.Call
import HandS.Ends
import HandS.HeadEnd
import HandS.HeadHook1
import HandS.HeadHook2
import HandS.Codes
import Lean
import HandS.Head0
import HandS.Head1
import HandS.Head2
import PySem.Challenge.RW_bucketsums_k01_whole_columns
set_option Elab.async false
set_option linter.all false
set_option maxRecDepth 100000
/-! The evaluator: values as trees, a store for what is changed, total functions. -/
namespace PX
open PySem

inductive DK where
  | k (x : Sum Int Str)
  | t (xs : List (Sum Int Str))
  deriving DecidableEq

inductive DKs where
  | k (l : List (Sum Int Str))
  | t (l : List (List (Sum Int Str)))
  deriving DecidableEq

inductive PV where
  | non
  | bl (b : Bool)
  | int (i : Int)
  | str (s : Str)
  | tup (xs : List PV)
  | lst (xs : List PV)
  | dct (ks : DKs) (vs : List PV)
  | ins (c : Nat) (ns : List Nat) (vs : List PV)
  | ref (i : Nat)
  | lck (v : PV)

abbrev Store := List PV
abbrev Env := List (Option PV)

inductive R (α : Type) where
  | ok (a : α) (S : Store)
  | ex (c : Nat) (pl : List PV) (S : Store)
  | no

def R.bind {α β : Type} : R α → (α → Store → R β) → R β
  | .ok a S, k => k a S
  | .ex c p S, _ => .ex c p S
  | .no, _ => .no
@[simp] theorem R.bind_ok {α β : Type} (a : α) (S : Store) (k : α → Store → R β) : (R.ok a S).bind k = k a S := (rfl)
@[simp] theorem R.bind_ex {α β : Type} (c : Nat) (p : List PV) (S : Store) (k : α → Store → R β) : (R.ex c p S : R α).bind k = .ex c p S := (rfl)
@[simp] theorem R.bind_no {α β : Type} (k : α → Store → R β) : (R.no : R α).bind k = .no := (rfl)

/-! the object behind a value -/
def unl : PV → PV
  | .lck o => o
  | v => v
def deref (S : Store) : PV → Option PV
  | .ref i => match S[i]? with
    | some o => some (unl o)
    | none => none
  | v => some v

/-! what an expression does: a value (fresh: a new object that nobody else holds), the store behind -/
abbrev SE := Env → Store → R (Bool × PV)
abbrev SA := Env → Store → R (List PV)
/-! a test -/
abbrev ST := Env → Store → R Bool

end PX
namespace PX
open PySem
/-! ### expressions -/
def eLit (v : PV) : SE := fun _ S => .ok (false, v) S
def eVar (i : Nat) : SE := fun env S => match env[i]? with
  | some (some v) => .ok (false, v) S
  | _ => .no
abbrev Op1 := PV → Store → Option (Bool × PV)
abbrev Op2 := PV → PV → Store → Option (Bool × PV)
abbrev OpN := List PV → Store → Option (Bool × PV)
def ofO (o : Option (Bool × PV)) (S : Store) : R (Bool × PV) := match o with
  | some z => .ok z S
  | none => .no
def eUn (o : Op1) (a : SE) : SE := fun env S => (a env S).bind fun p S1 => ofO (o p.2 S1) S1
def eBin (o : Op2) (a b : SE) : SE := fun env S => (a env S).bind fun p S1 => (b env S1).bind fun q S2 => ofO (o p.2 q.2 S2) S2
def aNil : SA := fun _ S => .ok [] S
def aCons (a : SE) (r : SA) : SA := fun env S => (a env S).bind fun p S1 => (r env S1).bind fun q S2 => .ok (p.2 :: q) S2
def itemsOf (S : Store) (v : PV) : Option (List PV) := match deref S v with
  | some (.lst xs) => some xs
  | some (.tup xs) => some xs
  | _ => none
def aStar (a : SE) (r : SA) : SA := fun env S => (a env S).bind fun p S1 => match itemsOf S1 p.2 with
  | some xs => (r env S1).bind fun q S2 => .ok (xs ++ q) S2
  | none => .no
def eArg (o : OpN) (a : SA) : SE := fun env S => (a env S).bind fun p S1 => ofO (o p S1) S1
def small (n : Nat) : Bool := Nat.ble n 1000000
def eTup (a : SA) : SE := fun env S => (a env S).bind fun p S1 => if small p.length then .ok (false, .tup p) S1 else .no
def eLst (a : SA) : SE := fun env S => (a env S).bind fun p S1 => if small p.length then .ok (true, .lst p) S1 else .no
/-! truth -/
def truth (S : Store) (v : PV) : Option Bool := match deref S v with
  | some (.bl b) => some b
  | some (.int i) => some (i != 0)
  | some .non => some false
  | some (.lst xs) => some (!xs.isEmpty)
  | some (.tup xs) => some (!xs.isEmpty)
  | _ => none
def tTru (a : SE) : ST := fun env S => (a env S).bind fun p S1 => match truth S1 p.2 with
  | some b => .ok b S1
  | none => .no
/-! a value that is a bool -/
def tBl (a : SE) : ST := fun env S => (a env S).bind fun p S1 => match p.2 with
  | .bl b => .ok b S1
  | _ => .no
def tNo (a : ST) : ST := fun env S => (a env S).bind fun b S1 => .ok (!b) S1
def tAn (a b : ST) : ST := fun env S => (a env S).bind fun c S1 => if c = true then b env S1 else .ok false S1
def tOr (a b : ST) : ST := fun env S => (a env S).bind fun c S1 => if c = true then .ok true S1 else b env S1
def eAn (a b : SE) : SE := fun env S => (a env S).bind fun p S1 => match truth S1 p.2 with
  | some true => b env S1
  | some false => .ok (false, p.2) S1
  | none => .no
def eOr (a b : SE) : SE := fun env S => (a env S).bind fun p S1 => match truth S1 p.2 with
  | some true => .ok (false, p.2) S1
  | some false => b env S1
  | none => .no
def eNot (a : SE) : SE := fun env S => (a env S).bind fun p S1 => match truth S1 p.2 with
  | some b => .ok (false, .bl (!b)) S1
  | none => .no
def eIf (c : ST) (a b : SE) : SE := fun env S => (c env S).bind fun t S1 => if t = true then a env S1 else b env S1
/-! a op b op c -/
def eCh (o o' : Op2) (a b c : SE) : SE := fun env S => (a env S).bind fun p S1 => (b env S1).bind fun q S2 => match o p.2 q.2 S2 with
  | some (false, .bl true) => (c env S2).bind fun z S3 => ofO (o' q.2 z.2 S3) S3
  | some (false, .bl false) => .ok (false, .bl false) S2
  | _ => .no
/-! a new object goes to the store -/
def eNew (a : SE) : SE := fun env S => (a env S).bind fun p S1 => match p.1 with
  | true => .ok (false, .ref S1.length) (S1 ++ [p.2])
  | false => .ok p S1

/-! ### operators by values -/
def oAdd : Op2 := fun x y S => match x, y with
  | .int i, .int j => some (false, .int (i + j))
  | _, _ => none
def oSub : Op2 := fun x y _ => match x, y with
  | .int i, .int j => some (false, .int (i - j))
  | _, _ => none
def mulOk (i j : Int) : Bool := (decide (-18446744073709551616 < i) && decide (i < 18446744073709551616)) || (decide (-18446744073709551616 < j) && decide (j < 18446744073709551616))
def oMul : Op2 := fun x y _ => match x, y with
  | .int i, .int j => if mulOk i j then some (false, .int (i * j)) else none
  | _, _ => none
def oDiv : Op2 := fun x y _ => match x, y with
  | .int i, .int j => if 0 < j ∧ j < 1073741824 then some (false, .int (i / j)) else none
  | _, _ => none
def oMod : Op2 := fun x y _ => match x, y with
  | .int i, .int j => if 0 < j then some (false, .int (i % j)) else none
  | _, _ => none
def oNeg : Op1 := fun x _ => match x with
  | .int i => some (false, .int (-i))
  | _ => none
def oLt : Op2 := fun x y _ => match x, y with
  | .int i, .int j => some (false, .bl (decide (i < j)))
  | _, _ => none
def oLe : Op2 := fun x y _ => match x, y with
  | .int i, .int j => some (false, .bl (decide (i ≤ j)))
  | _, _ => none
def oGt : Op2 := fun x y _ => match x, y with
  | .int i, .int j => some (false, .bl (decide (j < i)))
  | _, _ => none
def oGe : Op2 := fun x y _ => match x, y with
  | .int i, .int j => some (false, .bl (decide (j ≤ i)))
  | _, _ => none
end PX
namespace PX
open PySem
/-! ### statements -/
inductive RS where
  | nx (env : Env) (S : Store)
  | rt (v : PV) (S : Store)
  | bk (env : Env) (S : Store)
  | ct (env : Env) (S : Store)
  | ex (c : Nat) (pl : List PV) (S : Store)
  | no
abbrev SS := Env → Store → RS
def R.go {α : Type} : R α → (α → Store → RS) → RS
  | .ok a S, k => k a S
  | .ex c p S, _ => .ex c p S
  | .no, _ => .no
@[simp] theorem R.go_ok {α : Type} (a : α) (S : Store) (k : α → Store → RS) : (R.ok a S).go k = k a S := (rfl)
@[simp] theorem R.go_ex {α : Type} (c : Nat) (p : List PV) (S : Store) (k : α → Store → RS) : (R.ex c p S : R α).go k = .ex c p S := (rfl)
@[simp] theorem R.go_no {α : Type} (k : α → Store → RS) : (R.no : R α).go k = .no := (rfl)
def RS.then : RS → (Env → Store → RS) → RS
  | .nx e S, k => k e S
  | z, _ => z
@[simp] theorem RS.then_nx (e : Env) (S : Store) (k : Env → Store → RS) : (RS.nx e S).then k = k e S := (rfl)
@[simp] theorem RS.then_rt (v : PV) (S : Store) (k : Env → Store → RS) : (RS.rt v S).then k = .rt v S := (rfl)
@[simp] theorem RS.then_bk (e : Env) (S : Store) (k : Env → Store → RS) : (RS.bk e S).then k = .bk e S := (rfl)
@[simp] theorem RS.then_ct (e : Env) (S : Store) (k : Env → Store → RS) : (RS.ct e S).then k = .ct e S := (rfl)
@[simp] theorem RS.then_ex (c : Nat) (p : List PV) (S : Store) (k : Env → Store → RS) : (RS.ex c p S).then k = .ex c p S := (rfl)
@[simp] theorem RS.then_no (k : Env → Store → RS) : RS.no.then k = .no := (rfl)
def sNil : SS := fun env S => .nx env S
def sCons (a b : SS) : SS := fun env S => (a env S).then b
def sExp (a : SE) : SS := fun env S => (a env S).go fun _ S1 => .nx env S1
def sRet (a : SE) : SS := fun env S => (a env S).go fun p S1 => .rt p.2 S1
def sRetN : SS := fun _ S => .rt .non S
def sBrk : SS := fun env S => .bk env S
def sCnt : SS := fun env S => .ct env S
def sNo : SS := fun _ _ => .no
def sIf (c : ST) (a b : SS) : SS := fun env S => (c env S).go fun t S1 => if t = true then a env S1 else b env S1
/-! targets -/
abbrev Tg := PV → Env → Store → Option Env
def gNm (i : Nat) : Tg := fun v env _ => some (env.set i (some v))
def gTps (ts : List Tg) : List PV → Env → Store → Option Env := fun vs env S => match ts, vs with
  | [], [] => some env
  | t :: ts, v :: vs => match t v env S with
    | some env' => gTps ts vs env' S
    | none => none
  | _, _ => none
def gTp (ts : List Tg) : Tg := fun v env S => match deref S v with
  | some (.tup xs) => gTps ts xs env S
  | _ => none
def sAsg (t : Tg) (a : SE) : SS := fun env S => (a env S).go fun p S1 => match t p.2 env S1 with
  | some env' => .nx env' S1
  | none => .no
/-! a, b = x, y; a, b, c = x, y, z -/
def sPar (is : List Nat) (a : SA) : SS := fun env S => (a env S).go fun vs S1 => match gTps (is.map gNm) vs env S1 with
  | some env' => .nx env' S1
  | none => .no
def sAug (i : Nat) (o : Op2) (a : SE) : SS := fun env S => match env[i]? with
  | some (some x) => (a env S).go fun p S1 => match o x p.2 S1 with
    | some z => .nx (env.set i (some z.2)) S1
    | none => .no
  | _ => .no
/-! what a loop walks: the items; the lists of the store that are locked meanwhile, with what they are -/
abbrev SI := Env → Store → R (List PV × List (Nat × PV))
def unlock : List (Nat × PV) → Store → Store
  | [], S => S
  | p :: r, S => unlock r (S.set p.1 p.2)
def RS.unl (ls : List (Nat × PV)) : RS → RS
  | .nx e S => .nx e (unlock ls S)
  | .rt v S => .rt v (unlock ls S)
  | .bk e S => .bk e (unlock ls S)
  | .ct e S => .ct e (unlock ls S)
  | .ex c p S => .ex c p (unlock ls S)
  | .no => .no
def forR (t : Tg) (b : SS) : List PV → Env → Store → RS
  | [], env, S => .nx env S
  | x :: xs, env, S => match t x env S with
    | none => .no
    | some env' => match b env' S with
      | .nx e S' => forR t b xs e S'
      | .ct e S' => forR t b xs e S'
      | .bk e S' => .nx e S'
      | z => z
def sFor (i : SI) (t : Tg) (b : SS) : SS := fun env S => (i env S).go fun p S1 => (forR t b p.1 env S1).unl p.2
def whileR (c : ST) (b : SS) : Nat → Env → Store → RS
  | 0, _, _ => .no
  | n + 1, env, S => (c env S).go fun t S1 => if t = true then
      match b env S1 with
      | .nx e S' => whileR c b n e S'
      | .ct e S' => whileR c b n e S'
      | .bk e S' => .nx e S'
      | z => z
    else .nx env S1
def sWhl (n : Nat) (c : ST) (b : SS) : SS := whileR c b n
end PX
namespace PX
open PySem
/-! ### calls -/
abbrev CF := Nat → List PV → Nat → Store → R PV
structure FnB where
  np : Nat
  nl : Nat
  body : CF → Nat → SS
def runB (b : FnB) (cf : CF) (args : List PV) (n0 : Nat) (S : Store) : R PV := if args.length = b.np then
    match b.body cf n0 (args.map some ++ List.replicate (b.nl - b.np) none) S with
    | .rt v S' => .ok v S'
    | .nx _ S' => .ok .non S'
    | .ex c p S' => .ex c p S'
    | _ => .no
  else .no
def callF (T : Nat → Option FnB) : Nat → CF
  | 0 => fun _ _ _ _ => .no
  | n + 1 => fun f args n0 S => match T f with
    | some b => runB b (callF T n) args n0 S
    | none => .no
/-! what was new in a call is frozen, and leaves the store -/
def frzL (f : PV → Option PV) : List PV → Option (List PV)
  | [] => some []
  | v :: vs => match f v with
    | some w => match frzL f vs with
      | some ws => some (w :: ws)
      | none => none
    | none => none
def frzO (f : PV → Option PV) : PV → Option PV
  | .lst xs => (frzL f xs).map .lst
  | .dct ks vs => (frzL f vs).map (.dct ks)
  | .ins c ns vs => (frzL f vs).map (.ins c ns)
  | _ => none
def frz (n0 t : Nat) (S : Store) : Nat → PV → Option PV
  | 0, _ => none
  | k + 1, v => match v with
    | .ref i => if i < n0 then some (.ref i) else if i = t then none else match S[i]? with
      | some o => frzO (frz n0 t S k) o
      | none => none
    | .tup xs => (frzL (frz n0 t S k) xs).map .tup
    | .lst xs => (frzL (frz n0 t S k) xs).map .lst
    | .dct ks vs => (frzL (frz n0 t S k) vs).map (.dct ks)
    | .ins c ns vs => (frzL (frz n0 t S k) vs).map (.ins c ns)
    | .lck _ => none
    | w => some w
def norm (n0 : Nat) (v : PV) (S : Store) : R (Bool × PV) := if S.length = n0 then .ok (false, v) S else match v with
  | .ref i => if i < n0 then .ok (false, .ref i) (S.take n0) else match S[i]? with
    | some o => match frzO (frz n0 i S 8) o with
      | some w => .ok (true, w) (S.take n0)
      | none => .no
    | none => .no
  | v => match frz n0 S.length S 8 v with
    | some w => .ok (false, w) (S.take n0)
    | none => .no
def cutX {α : Type} (n0 : Nat) : R α → R α
  | .ex c p S => .ex c p (S.take n0)
  | z => z
def eCall (cf : CF) (np f : Nat) (a : SA) : SE := fun env S => (a env S).bind fun args S1 => if args.length = np then (cutX S1.length (cf f args S1.length S1)).bind fun v S2 => norm S1.length v S2 else .no
/-! C(..): the new instance goes to the store while __init__ runs -/
def eMake (cf : CF) (np c f : Nat) (a : SA) : SE := fun env S => (a env S).bind fun args S1 => if args.length + 1 = np then
    (cutX S1.length (cf f (.ref S1.length :: args) S1.length (S1 ++ [.ins c [] []]))).bind fun v S2 => match v with
      | .non => norm S1.length (.ref S1.length) S2
      | _ => .no
  else .no
/-! o.m(..): the table by classes -/
def methOf (m : Nat) (T : List (Nat × Nat)) (S : Store) (v : PV) : Option Nat := match deref S v with
  | some (.ins c ns _) => if ns.contains m then none else T.lookup c
  | _ => none
def eMeth (cf : CF) (np m : Nat) (T : List (Nat × Nat)) (o : SE) (a : SA) : SE := fun env S => (o env S).bind fun p S0 => match methOf m T S0 p.2 with
  | some f => (a env S0).bind fun args S1 => if args.length + 1 = np then (cutX S1.length (cf f (p.2 :: args) S1.length S1)).bind fun v S2 => norm S1.length v S2 else .no
  | none => .no
/-! o.f -/
def fldOf (cs : List Nat) (f : Nat) (S : Store) (v : PV) : Option PV := match deref S v with
  | some (.ins c ns vs) => if cs.contains c then (ns.zip vs).lookup f else none
  | _ => none
def eFld (cs : List Nat) (f : Nat) (a : SE) : SE := eUn (fun v S => (fldOf cs f S v).map fun w => (false, w)) a
/-! o.f = e -/
def noref : PV → Bool
  | .non => true
  | .bl _ => true
  | .int _ => true
  | .str _ => true
  | .tup xs => norefL xs
  | .lst xs => norefL xs
  | .dct _ vs => norefL vs
  | .ins _ _ vs => norefL vs
  | .ref _ => false
  | .lck _ => false
where norefL : List PV → Bool
  | [] => true
  | v :: vs => noref v && norefL vs
def mayPut (n0 i : Nat) (v : PV) : Bool := Nat.ble n0 i || noref v
def putFld (f : Nat) (v : PV) : List Nat → List PV → List Nat × List PV
  | n :: ns, w :: ws => if n = f then (n :: ns, v :: ws) else let z := putFld f v ns ws; (n :: z.1, w :: z.2)
  | _, _ => ([f], [v])
def sFld (n0 : Nat) (cs : List Nat) (f : Nat) (o e : SE) : SS := fun env S => (e env S).go fun p S1 => (o env S1).go fun q S2 => match q.2 with
  | .ref i => match S2[i]? with
    | some (.ins c ns vs) => if cs.contains c && mayPut n0 i p.2 && Nat.ble ns.length 100 then .nx env (S2.set i (.ins c (putFld f p.2 ns vs).1 (putFld f p.2 ns vs).2)) else .no
    | _ => .no
  | _ => .no
end PX
set_option Elab.async false
set_option linter.all false
set_option maxRecDepth 100000
namespace PX
open PySem PySem.Spec PyProof.Rows L2

/-! where functions and classes stand, the attributes' names -/
structure Gam where
  K : PySem.W.Frag
  fa : Nat → Addr
  ca : Nat → Addr
  nm : Nat → Str

/-! a dict: its keys all of one kind -/
def DR (ho : HO) (ks : DKs) (us : List V) : Prop := match ks with
  | .k kk => ho = .dK (kk.zip us) ∧ kk.length = us.length
  | .t kt => ho = .dT (kt.zip us) ∧ kt.length = us.length

mutual
def RV (G : Gam) (F : Hp) (r : List Addr) : PV → V → Prop
  | .non, u => u = .non
  | .bl b, u => u = .bl b
  | .int i, u => u = .int i
  | .str x, u => u = .str x
  | .tup xs, u => ∃ a us, u = .ref a ∧ F a = some (.tup us) ∧ RVs G F r xs us
  | .lst xs, u => ∃ a us, u = .ref a ∧ Rd F a (.lst us) ∧ RVs G F r xs us
  | .dct ks vs, u => ∃ a us ho, u = .ref a ∧ F a = some ho ∧ DR ho ks us ∧ RVs G F r vs us
  | .ins c ns vs, u => ∃ a dx us, u = .ref a ∧ F a = some (.ins (G.ca c) dx ((ns.map G.nm).zip us)) ∧ ns.length = us.length ∧ RVs G F r vs us
  | .ref i, u => ∃ a, r[i]? = some a ∧ u = .ref a
  | .lck _, _ => False
def RVs (G : Gam) (F : Hp) (r : List Addr) : List PV → List V → Prop
  | [], us => us = []
  | v :: vs, us => ∃ u ur, us = u :: ur ∧ RV G F r v u ∧ RVs G F r vs ur
end

/-! an object of the store -/
def RO (G : Gam) (F : Hp) (r : List Addr) (v : PV) (ho : HO) : Prop := match unl v with
  | .lst xs => ∃ us, ho = .lst us ∧ RVs G F r xs us
  | .dct ks vs => ∃ us, DR ho ks us ∧ RVs G F r vs us
  | .ins c ns vs => ∃ dx us, ho = .ins (G.ca c) dx ((ns.map G.nm).zip us) ∧ ns.length = us.length ∧ RVs G F r vs us
  | _ => False

def Le (F F' : Hp) : Prop := ∀ a o, F a = some o → F' a = some o
theorem Le.refl (F : Hp) : Le F F := fun _ _ e => e
theorem Le.trans {F F' F2 : Hp} (h : Le F F') (k : Le F' F2) : Le F F2 := fun a o e => k a o (h a o e)
theorem Le.sqT {K : PySem.W.Frag} {F F' : Hp} (h : Le F F') {a : Addr} {us : List V} (q : SqT K F a us) : SqT K F' a us := by
  rcases q with (q | ⟨o, q⟩) | q
  · exact .inl (.inl (h _ _ q))
  · exact .inl (.inr ⟨o, h _ _ q⟩)
  · exact .inr q
theorem Le.tp {K : PySem.W.Frag} {F F' : Hp} (h : Le F F') {a : Addr} {us : List V} (q : F a = some (.tup us)) : SqT K F' a us := .inl (.inl (h _ _ q))
theorem Le.sqL {K : PySem.W.Frag} {F F' : Hp} (h : Le F F') {a : Addr} {us : List V} (q : SqL K F a us) : SqL K F' a us := by
  rcases q with (q | ⟨o, q⟩) | q
  · exact .inl (.inl (h _ _ q))
  · exact .inl (.inr ⟨o, h _ _ q⟩)
  · exact .inr q

theorem Le.rd {F F' : Hp} (h : Le F F') {a : Addr} {o : HO} (q : Rd F a o) : Rd F' a o := by
  rcases q with q | ⟨z, q⟩
  · exact .inl (h _ _ q)
  · exact .inr ⟨z, h _ _ q⟩
mutual
theorem RV.mono {G : Gam} {F F' : Hp} {r r' : List Addr} (h : Le F F') (p : ∀ (i : Nat) a, r[i]? = some a → r'[i]? = some a) : ∀ (v : PV) (u : V), RV G F r v u → RV G F' r' v u
  | .non, _, q => q
  | .bl _, _, q => q
  | .int _, _, q => q
  | .str _, _, q => q
  | .tup xs, _, q => by
    obtain ⟨a, us, e, s, k⟩ := q
    exact ⟨a, us, e, h _ _ s, RVs.mono h p xs us k⟩
  | .lst xs, _, q => by
    obtain ⟨a, us, e, s, k⟩ := q
    exact ⟨a, us, e, h.rd s, RVs.mono h p xs us k⟩
  | .dct ks vs, _, q => by
    obtain ⟨a, us, ho, e, s, d, k⟩ := q
    exact ⟨a, us, ho, e, h _ _ s, d, RVs.mono h p vs us k⟩
  | .ins c ns vs, _, q => by
    obtain ⟨a, dx, us, e, s, d, k⟩ := q
    exact ⟨a, dx, us, e, h _ _ s, d, RVs.mono h p vs us k⟩
  | .ref i, _, q => by
    obtain ⟨a, e, k⟩ := q
    exact ⟨a, p i a e, k⟩
  | .lck _, _, q => q.elim
theorem RVs.mono {G : Gam} {F F' : Hp} {r r' : List Addr} (h : Le F F') (p : ∀ (i : Nat) a, r[i]? = some a → r'[i]? = some a) : ∀ (vs : List PV) (us : List V), RVs G F r vs us → RVs G F' r' vs us
  | [], _, q => q
  | v :: vs, _, q => by
    obtain ⟨u, ur, e, k, l⟩ := q
    exact ⟨u, ur, e, RV.mono h p v u k, RVs.mono h p vs ur l⟩
end
theorem RO.mono {G : Gam} {F F' : Hp} {r r' : List Addr} (h : Le F F') (p : ∀ (i : Nat) a, r[i]? = some a → r'[i]? = some a) {v : PV} {ho : HO} (q : RO G F r v ho) : RO G F' r' v ho := by
  unfold RO at q ⊢
  split at q
  · obtain ⟨us, e, k⟩ := q
    exact ⟨us, e, RVs.mono h p _ us k⟩
  · obtain ⟨us, e, k⟩ := q
    exact ⟨us, e, RVs.mono h p _ us k⟩
  · obtain ⟨dx, us, e, l, k⟩ := q
    exact ⟨dx, us, e, l, RVs.mono h p _ us k⟩
  · exact q.elim
theorem RVs.length {G : Gam} {F : Hp} {r : List Addr} : ∀ {vs : List PV} {us : List V}, RVs G F r vs us → vs.length = us.length
  | [], _, q => by
    have e := (show _ = [] from q)
    rw [e]; rfl
  | v :: vs, _, q => by
    obtain ⟨u, ur, e, k, l⟩ := q
    rw [e, List.length_cons, List.length_cons, RVs.length l]
theorem RVs.get {G : Gam} {F : Hp} {r : List Addr} : ∀ {vs : List PV} {us : List V} {i : Nat} {v : PV}, RVs G F r vs us → vs[i]? = some v → ∃ u, us[i]? = some u ∧ RV G F r v u
  | [], _, i, v, q, e => by simp at e
  | w :: vs, _, 0, v, q, e => by
    obtain ⟨u, ur, rfl, k, l⟩ := q
    simp at e; subst e
    exact ⟨u, by simp, k⟩
  | w :: vs, _, i + 1, v, q, e => by
    obtain ⟨u, ur, rfl, k, l⟩ := q
    obtain ⟨u', h1, h2⟩ := RVs.get (i := i) (v := v) l (by simpa using e)
    exact ⟨u', by simpa using h1, h2⟩
theorem RVs.append {G : Gam} {F : Hp} {r : List Addr} : ∀ {vs : List PV} {us : List V} {ws : List PV} {zs : List V}, RVs G F r vs us → RVs G F r ws zs → RVs G F r (vs ++ ws) (us ++ zs)
  | [], _, ws, zs, q, k => by
    have e := (show _ = [] from q)
    subst e
    exact k
  | v :: vs, _, ws, zs, q, k => by
    obtain ⟨u, ur, rfl, h, l⟩ := q
    exact ⟨u, ur ++ zs, rfl, h, RVs.append l k⟩
theorem RVs.set {G : Gam} {F : Hp} {r : List Addr} {x : PV} {y : V} (h : RV G F r x y) : ∀ {vs : List PV} {us : List V} (i : Nat), RVs G F r vs us → RVs G F r (vs.set i x) (us.set i y)
  | [], _, i, q => by
    have e := (show _ = [] from q)
    subst e
    exact rfl
  | v :: vs, _, 0, q => by
    obtain ⟨u, ur, rfl, k, l⟩ := q
    exact ⟨y, ur, rfl, h, l⟩
  | v :: vs, _, i + 1, q => by
    obtain ⟨u, ur, rfl, k, l⟩ := q
    exact ⟨u, ur.set i y, rfl, k, RVs.set h i l⟩
theorem RVs.ints {G : Gam} {F : Hp} {r : List Addr} : ∀ {ns : List Int} {us : List V}, RVs G F r (ns.map PV.int) us → us = ns.map V.int
  | [], _, q => q
  | n :: ns, _, q => by
    obtain ⟨u, ur, rfl, k, l⟩ := q
    have e : u = V.int n := k
    rw [e, RVs.ints l]
    rfl
theorem RVs.of_ints {G : Gam} {F : Hp} {r : List Addr} : ∀ (ns : List Int), RVs G F r (ns.map PV.int) (ns.map V.int)
  | [] => rfl
  | n :: ns => ⟨_, _, rfl, rfl, RVs.of_ints ns⟩

/-! what an object of the store may lean on -/
def lim (n0 : Nat) (L : Nat → Nat) (r : List Addr) (i : Nat) : List Addr := if i < n0 then r.take (L i) else r
/-! what the frame knows besides: the callers' limits, objects that stand still -/
structure Gh where
  L : Nat → Nat
  pn : Hp
  lk : Addr → Bool

structure HR (G : Gam) (n0 : Nat) (g : Gh) (F : Hp) (r : List Addr) (S : Store) (H : Hp) : Prop where
  sub : Le F H
  nd : r.Nodup
  off : ∀ a ∈ r, F a = none
  len : r.length = S.length
  nle : n0 ≤ S.length
  lle : ∀ i : Nat, i < n0 → g.L i ≤ n0
  obj : ∀ (i : Nat) ob a, S[i]? = some ob → r[i]? = some a → ∃ ho, H a = some ho ∧ RO G F (lim n0 g.L r i) ob ho
  pin : ∀ a o, g.pn a = some o → H a = some o ∧ F a = none ∧ ∀ i : Nat, r[i]? = some a → ∃ ob, S[i]? = some (.lck ob)
  lckd : ∀ (i : Nat) ob a, S[i]? = some (.lck ob) → r[i]? = some a → ∃ o, g.pn a = some o
  out : ∀ a o, g.pn a = some o → g.lk a = false → a ∉ r
/-! with the locals -/
structure Sg (G : Gam) (n0 : Nat) (g : Gh) (F : Hp) (r : List Addr) (env : Env) (σ : L2.St) (S : Store) (H : Hp) : Prop where
  hr : HR G n0 g F r S H
  sl : env.length = σ.length
  vr : ∀ (i : Nat) v, env[i]? = some (some v) → ∃ u, σ[i]? = some (some u) ∧ RV G F r v u

def Ext (F F' : Hp) (r r' : List Addr) : Prop := Le F F' ∧ r <+: r'
theorem Ext.refl (F : Hp) (r : List Addr) : Ext F F r r := ⟨Le.refl F, List.prefix_refl r⟩
theorem Ext.trans {F F' F2 : Hp} {r r' r2 : List Addr} (h : Ext F F' r r') (k : Ext F' F2 r' r2) : Ext F F2 r r2 := ⟨h.1.trans k.1, h.2.trans k.2⟩
theorem at_of {r r' : List Addr} (h : r <+: r') : ∀ (i : Nat) a, r[i]? = some a → r'[i]? = some a := fun i a e => by
  obtain ⟨t, rfl⟩ := h
  have hi := (List.getElem?_eq_some_iff.mp e).1
  rw [List.getElem?_append_left hi]
  exact e
theorem Ext.at_ {F F' : Hp} {r r' : List Addr} (h : Ext F F' r r') : ∀ (i : Nat) a, r[i]? = some a → r'[i]? = some a := at_of h.2
theorem lim_le (n0 : Nat) (L : Nat → Nat) (r : List Addr) (i : Nat) : lim n0 L r i <+: r := by
  unfold lim
  split
  · exact List.take_prefix _ _
  · exact List.prefix_refl r
theorem lim_mono {n0 : Nat} {L : Nat → Nat} {r r' : List Addr} (h : r <+: r') (i : Nat) : ∀ (j : Nat) a, (lim n0 L r i)[j]? = some a → (lim n0 L r' i)[j]? = some a := fun j b e => by
  unfold lim at e ⊢
  split at e
  · rename_i hn
    rw [if_pos hn]
    rw [List.getElem?_take] at e ⊢
    split at e
    · rename_i hj
      rw [if_pos hj]
      exact at_of h j b e
    · cases e
  · rename_i hn
    rw [if_neg hn]
    exact at_of h j b e
theorem RV.ext {G : Gam} {F F' : Hp} {r r' : List Addr} (h : Ext F F' r r') {v : PV} {u : V} (q : RV G F r v u) : RV G F' r' v u := RV.mono h.1 h.at_ v u q
theorem RVs.ext {G : Gam} {F F' : Hp} {r r' : List Addr} (h : Ext F F' r r') {v : List PV} {u : List V} (q : RVs G F r v u) : RVs G F' r' v u := RVs.mono h.1 h.at_ v u q
theorem Sg.ext {G : Gam} {n0 : Nat} {g : Gh} {F F' : Hp} {r r' : List Addr} {env : Env} {σ : L2.St} {S S' : Store} {H H' : Hp} (s : Sg G n0 g F r env σ S H) (h : Ext F F' r r') (k : HR G n0 g F' r' S' H') : Sg G n0 g F' r' env σ S' H' :=
  ⟨k, s.sl, fun i v e => let ⟨u, h1, h2⟩ := s.vr i v e; ⟨u, h1, h2.ext h⟩⟩

/-! a result's value: fresh, or any -/
def RF (G : Gam) (g : Gh) (F : Hp) (r : List Addr) (H : Hp) (b : Bool) (v : PV) (u : V) : Prop := match b with
  | true => ∃ a ho, u = .ref a ∧ H a = some ho ∧ F a = none ∧ a ∉ r ∧ g.pn a = none ∧ RO G F r v ho ∧ unl v = v
  | false => RV G F r v u

section
variable {G : Gam} {n0 : Nat} {g : Gh} {F : Hp} {r : List Addr} {S : Store} {H : Hp}
theorem Le.upd {a : Addr} {ho : HO} (hF : F a = none) : Le F (L2.upd F a ho) := fun b o e => by
  rw [upd_ne (fun z => by rw [z, hF] at e; cases e)]
  exact e
theorem HR.nopin (h : HR G n0 g F r S H) {i : Nat} {a : Addr} {ob : PV} (e1 : r[i]? = some a) (e2 : S[i]? = some ob) (hu : unl ob = ob) : g.pn a = none := by
  cases e : g.pn a with
  | none => rfl
  | some o =>
    obtain ⟨ob', q⟩ := (h.pin a o e).2.2 i e1
    rw [e2] at q
    cases q
    have e4 : ob' = .lck ob' := hu
    exact absurd e4 (by intro z; have := congrArg sizeOf z; simp at this)
theorem HR.mem (h : HR G n0 g F r S H) {a : Addr} (ha : a ∈ r) : ∃ ho, H a = some ho := by
  obtain ⟨i, hi, e⟩ := List.getElem_of_mem ha
  have hs : i < S.length := by rw [← h.len]; exact hi
  obtain ⟨ho, q, _⟩ := h.obj i S[i] a (List.getElem?_eq_getElem hs) (by rw [List.getElem?_eq_getElem hi, e])
  exact ⟨ho, q⟩
theorem HR.noF (h : HR G n0 g F r S H) {a : Addr} (ha : H a = none) : F a = none := by
  cases e : F a with
  | none => rfl
  | some o =>
    rw [h.sub a o e] at ha
    cases ha
theorem HR.nor (h : HR G n0 g F r S H) {a : Addr} (ha : H a = none) : a ∉ r := fun hm => by
  obtain ⟨ho, e⟩ := h.mem hm
  rw [e] at ha
  cases ha
theorem HR.nop (h : HR G n0 g F r S H) {a : Addr} (ha : H a = none) : g.pn a = none := by
  cases e : g.pn a with
  | none => rfl
  | some o =>
    rw [(h.pin a o e).1] at ha
    cases ha
/-! a heap that keeps what is told of -/
theorem HR.heap {H' : Hp} (h : HR G n0 g F r S H) (k : ∀ a o, H a = some o → H' a = some o) : HR G n0 g F r S H' :=
  ⟨fun a o e => k a o (h.sub a o e), h.nd, h.off, h.len, h.nle, h.lle, fun i ob a e1 e2 => let ⟨ho, q, z⟩ := h.obj i ob a e1 e2; ⟨ho, k _ _ q, z⟩, fun a o e => let ⟨q, z⟩ := h.pin a o e; ⟨k _ _ q, z⟩, h.lckd, h.out⟩
/-! more is known to stand still -/
theorem HR.grow {a : Addr} {ho : HO} (h : HR G n0 g F r S H) (hH : H a = some ho) (hF : F a = none) (hr : a ∉ r) (hp : g.pn a = none) : HR G n0 g (L2.upd F a ho) r S H := by
  refine ⟨fun b o e => ?_, h.nd, fun b hb => ?_, h.len, h.nle, h.lle, fun i ob c e1 e2 => ?_, fun b o e => ?_, h.lckd, h.out⟩
  · by_cases hb : b = a
    · subst hb
      rw [upd_same] at e
      rw [hH]; exact e
    · rw [upd_ne hb] at e
      exact h.sub b o e
  · rw [upd_ne (fun z => hr (by rw [← z]; exact hb))]
    exact h.off b hb
  · obtain ⟨o, h1, h2⟩ := h.obj i ob c e1 e2
    exact ⟨o, h1, RO.mono (Le.upd hF) (fun _ _ e => e) h2⟩
  · obtain ⟨q1, q2, q3⟩ := h.pin b o e
    refine ⟨q1, ?_, q3⟩
    rw [upd_ne (fun z => by rw [z, hp] at e; cases e)]
    exact q2
/-! a fresh object is left as it is from now on -/
theorem freeze {b : Bool} {v : PV} {u : V} (h : HR G n0 g F r S H) (q : RF G g F r H b v u) : ∃ F', Ext F F' r r ∧ HR G n0 g F' r S H ∧ RV G F' r v u := by
  cases b with
  | false => exact ⟨F, .refl F r, h, q⟩
  | true =>
    obtain ⟨a, ho, rfl, hH, hF, hr, hp, ro, hu⟩ := q
    refine ⟨L2.upd F a ho, ⟨Le.upd hF, List.prefix_refl r⟩, h.grow hH hF hr hp, ?_⟩
    have ro' : RO G (L2.upd F a ho) r v ho := RO.mono (Le.upd hF) (fun _ _ e => e) ro
    unfold RO at ro'
    rw [hu] at ro'
    split at ro'
    · obtain ⟨us, rfl, k⟩ := ro'
      exact ⟨a, us, rfl, .inl upd_same, k⟩
    · obtain ⟨us, d, k⟩ := ro'
      exact ⟨a, us, ho, rfl, upd_same, d, k⟩
    · obtain ⟨dx, us, rfl, l, k⟩ := ro'
      exact ⟨a, dx, us, rfl, upd_same, l, k⟩
    · exact ro'.elim
/-! a fresh object is held by the store -/
theorem store_new {v : PV} {u : V} (h : HR G n0 g F r S H) (q : RF G g F r H true v u) : ∃ r', Ext F F r r' ∧ HR G n0 g F r' (S ++ [v]) H ∧ RV G F r' (.ref S.length) u := by
  obtain ⟨a, ho, rfl, hH, hF, hr, hp, ro, hu⟩ := q
  have ex : Ext F F r (r ++ [a]) := ⟨.refl F, List.prefix_append r [a]⟩
  refine ⟨r ++ [a], ex, ⟨h.sub, ?_, fun b hb => ?_, by simp [h.len], by rw [List.length_append]; exact Nat.le_trans h.nle (Nat.le_add_right _ _), h.lle, fun i ob c e1 e2 => ?_, fun b o e => ?_, fun i ob c e1 e2 => ?_, fun b o e el hb => ?_⟩, ⟨a, ?_, rfl⟩⟩
  · rw [List.nodup_append]
    refine ⟨h.nd, by simp, fun x hx y hy e => ?_⟩
    have : y = a := by simpa using hy
    exact hr (by rw [← this, ← e]; exact hx)
  · rcases List.mem_append.mp hb with hb | hb
    · exact h.off b hb
    · have : b = a := by simpa using hb
      rw [this]; exact hF
  · by_cases hi : i < S.length
    · rw [List.getElem?_append_left hi] at e1
      rw [List.getElem?_append_left (by rw [h.len]; exact hi)] at e2
      obtain ⟨o, h1, h2⟩ := h.obj i ob c e1 e2
      exact ⟨o, h1, RO.mono (.refl F) (lim_mono ex.2 i) h2⟩
    · have hi' : i = S.length := by
        have := (List.getElem?_eq_some_iff.mp e1).1
        rw [List.length_append, List.length_singleton] at this
        omega
      subst hi'
      rw [List.getElem?_append_right (Nat.le_refl _)] at e1
      rw [← h.len, List.getElem?_append_right (Nat.le_refl _)] at e2
      simp at e1 e2
      subst e1 e2
      refine ⟨ho, hH, ?_⟩
      unfold lim
      rw [if_neg (by have := h.nle; omega)]
      exact RO.mono (.refl F) ex.at_ ro
  · obtain ⟨q1, q2, q3⟩ := h.pin b o e
    refine ⟨q1, q2, fun i hm => ?_⟩
    by_cases hi : i < r.length
    · rw [List.getElem?_append_left hi] at hm
      obtain ⟨ob, hb⟩ := q3 i hm
      exact ⟨ob, by rw [List.getElem?_append_left (by rw [← h.len]; exact hi)]; exact hb⟩
    · have : b = a := by
        rw [List.getElem?_append_right (by omega)] at hm
        have := List.mem_of_getElem? hm
        simpa using this
      rw [this, hp] at e
      cases e
  · by_cases hi : i < S.length
    · rw [List.getElem?_append_left hi] at e1
      rw [List.getElem?_append_left (by rw [h.len]; exact hi)] at e2
      exact h.lckd i ob c e1 e2
    · rw [List.getElem?_append_right (by omega)] at e1
      have := List.mem_of_getElem? e1
      have e3 : PV.lck ob = v := by simpa using this
      rw [← e3] at hu ro
      have e4 : ob = .lck ob := hu
      exact absurd e4 (by intro z; have := congrArg sizeOf z; simp at this)
  · rcases List.mem_append.mp hb with hb | hb
    · exact h.out b o e el hb
    · have : b = a := by simpa using hb
      rw [this, hp] at e
      cases e
  · rw [← h.len, List.getElem?_append_right (Nat.le_refl _)]
    simp
/-! a new object -/
theorem new_obj {p : Addr} {ho : HO} {v : PV} (h : HR G n0 g F r S H) (hp : H p = none) (ro : RO G F r v ho) (hu : unl v = v) : HR G n0 g F r S (L2.upd H p ho) ∧ RF G g F r (L2.upd H p ho) true v (.ref p) :=
  ⟨h.heap fun a o e => by rw [upd_ne (ne_of_none e hp)]; exact e, ⟨p, ho, rfl, upd_same, h.noF hp, h.nor hp, h.nop hp, ro, hu⟩⟩
/-! a new tuple -/
theorem new_tup {p : Addr} {xs : List PV} {us : List V} (h : HR G n0 g F r S H) (hp : H p = none) (q : RVs G F r xs us) : ∃ F', Ext F F' r r ∧ HR G n0 g F' r S (L2.upd H p (.tup us)) ∧ RV G F' r (.tup xs) (.ref p) := by
  have h1 : HR G n0 g F r S (L2.upd H p (.tup us)) := h.heap fun a o e => by rw [upd_ne (ne_of_none e hp)]; exact e
  have x : Ext F (L2.upd F p (.tup us)) r r := ⟨Le.upd (h.noF hp), List.prefix_refl r⟩
  exact ⟨_, x, h1.grow upd_same (h.noF hp) (h.nor hp) (h.nop hp), ⟨p, us, rfl, upd_same, q.ext x⟩⟩

/-! ### what a value is -/
theorem HR.ref (h : HR G n0 g F r S H) {i : Nat} {u : V} {ob : PV} (q : RV G F r (.ref i) u) (e : S[i]? = some ob) : ∃ a ho, u = .ref a ∧ r[i]? = some a ∧ H a = some ho ∧ RO G F r ob ho := by
  obtain ⟨a, e1, rfl⟩ := q
  obtain ⟨ho, h1, h2⟩ := h.obj i ob a e e1
  exact ⟨a, ho, rfl, e1, h1, RO.mono (.refl F) (at_of (lim_le n0 g.L r i)) h2⟩
theorem RO.unl_ {v : PV} {ho : HO} (q : RO G F r v ho) : RO G F r (unl v) ho := by
  unfold RO at q ⊢
  cases v with
  | lck w =>
    cases w <;> first | exact q.elim | exact q
  | _ => exact q
/-! either the value itself, or an object of the store -/
theorem view (h : HR G n0 g F r S H) {v w : PV} {u : V} (q : RV G F r v u) (e : deref S v = some w) : RV G F r w u ∧ (∀ i, w ≠ .ref i) ∨ ∃ a ho, u = .ref a ∧ H a = some ho ∧ RO G F r w ho := by
  cases v with
  | ref i =>
    unfold deref at e
    cases es : S[i]? with
    | none =>
      simp only [es] at e
      cases e
    | some ob =>
      simp only [es] at e
      cases e
      obtain ⟨a, ho, e1, _, e3, e4⟩ := h.ref q es
      exact .inr ⟨a, ho, e1, e3, e4.unl_⟩
  | lck v => exact False.elim q
  | non => cases e; exact .inl ⟨q, fun i z => nomatch z⟩
  | bl b => cases e; exact .inl ⟨q, fun i z => nomatch z⟩
  | int b => cases e; exact .inl ⟨q, fun i z => nomatch z⟩
  | str b => cases e; exact .inl ⟨q, fun i z => nomatch z⟩
  | tup b => cases e; exact .inl ⟨q, fun i z => nomatch z⟩
  | lst b => cases e; exact .inl ⟨q, fun i z => nomatch z⟩
  | dct b c => cases e; exact .inl ⟨q, fun i z => nomatch z⟩
  | ins b c d => cases e; exact .inl ⟨q, fun i z => nomatch z⟩
theorem view_lst (h : HR G n0 g F r S H) {v : PV} {u : V} {xs : List PV} (q : RV G F r v u) (e : deref S v = some (.lst xs)) : ∃ a us, u = .ref a ∧ Rd H a (.lst us) ∧ RVs G F r xs us := by
  rcases view h q e with ⟨k, _⟩ | ⟨a, ho, e1, e2, k⟩
  · obtain ⟨a, us, e1, e2, e3⟩ := k
    exact ⟨a, us, e1, h.sub.rd e2, e3⟩
  · obtain ⟨us, rfl, k⟩ := k
    exact ⟨a, us, e1, .inl e2, k⟩
theorem view_tup (h : HR G n0 g F r S H) {v : PV} {u : V} {xs : List PV} (q : RV G F r v u) (e : deref S v = some (.tup xs)) : ∃ a us, u = .ref a ∧ SqT G.K H a us ∧ RVs G F r xs us := by
  rcases view h q e with ⟨k, _⟩ | ⟨a, ho, e1, e2, k⟩
  · obtain ⟨a, us, e1, e2, e3⟩ := k
    exact ⟨a, us, e1, h.sub.tp e2, e3⟩
  · exact k.elim
theorem view_tupH (h : HR G n0 g F r S H) {v : PV} {u : V} {xs : List PV} (q : RV G F r v u) (e : deref S v = some (.tup xs)) : ∃ a us, u = .ref a ∧ H a = some (.tup us) ∧ RVs G F r xs us := by
  rcases view h q e with ⟨k, _⟩ | ⟨a, ho, e1, e2, k⟩
  · obtain ⟨a, us, e1, e2, e3⟩ := k
    exact ⟨a, us, e1, h.sub _ _ e2, e3⟩
  · exact k.elim
theorem view_ins (h : HR G n0 g F r S H) {v : PV} {u : V} {c : Nat} {ns : List Nat} {vs : List PV} (q : RV G F r v u) (e : deref S v = some (.ins c ns vs)) :
    ∃ a dx us, u = .ref a ∧ H a = some (.ins (G.ca c) dx ((ns.map G.nm).zip us)) ∧ ns.length = us.length ∧ RVs G F r vs us := by
  rcases view h q e with ⟨k, _⟩ | ⟨a, ho, e1, e2, k⟩
  · obtain ⟨a, dx, us, e1, e2, e3, e4⟩ := k
    exact ⟨a, dx, us, e1, h.sub _ _ e2, e3, e4⟩
  · obtain ⟨dx, us, rfl, l, k⟩ := k
    exact ⟨a, dx, us, e1, e2, l, k⟩
theorem view_dct (h : HR G n0 g F r S H) {v : PV} {u : V} {ks : DKs} {vs : List PV} (q : RV G F r v u) (e : deref S v = some (.dct ks vs)) : ∃ a ho us, u = .ref a ∧ H a = some ho ∧ DR ho ks us ∧ RVs G F r vs us := by
  rcases view h q e with ⟨k, _⟩ | ⟨a, ho, e1, e2, k⟩
  · obtain ⟨a, us, ho, e1, e2, e3, e4⟩ := k
    exact ⟨a, ho, us, e1, h.sub _ _ e2, e3, e4⟩
  · obtain ⟨us, d, k⟩ := k
    exact ⟨a, ho, us, e1, e2, d, k⟩
theorem view_int (h : HR G n0 g F r S H) {v : PV} {u : V} {i : Int} (q : RV G F r v u) (e : deref S v = some (.int i)) : u = .int i := by
  rcases view h q e with ⟨k, _⟩ | ⟨a, ho, e1, e2, k⟩
  · exact k
  · exact k.elim
theorem view_bl (h : HR G n0 g F r S H) {v : PV} {u : V} {i : Bool} (q : RV G F r v u) (e : deref S v = some (.bl i)) : u = .bl i := by
  rcases view h q e with ⟨k, _⟩ | ⟨a, ho, e1, e2, k⟩
  · exact k
  · exact k.elim
theorem view_non (h : HR G n0 g F r S H) {v : PV} {u : V} (q : RV G F r v u) (e : deref S v = some .non) : u = .non := by
  rcases view h q e with ⟨k, _⟩ | ⟨a, ho, e1, e2, k⟩
  · exact k
  · exact k.elim
theorem view_str (h : HR G n0 g F r S H) {v : PV} {u : V} {x : Str} (q : RV G F r v u) (e : deref S v = some (.str x)) : u = .str x := by
  rcases view h q e with ⟨k, _⟩ | ⟨a, ho, e1, e2, k⟩
  · exact k
  · exact k.elim
theorem view_seq (h : HR G n0 g F r S H) {v : PV} {u : V} {xs : List PV} (q : RV G F r v u) (e : itemsOf S v = some xs) : ∃ a us, u = .ref a ∧ (SqL G.K H a us ∨ SqT G.K H a us) ∧ RVs G F r xs us := by
  unfold itemsOf at e
  split at e
  · rename_i xs' e'
    cases e
    obtain ⟨a, us, e1, e2, e3⟩ := view_lst h q e'
    exact ⟨a, us, e1, .inl (.inl e2), e3⟩
  · rename_i xs' e'
    cases e
    obtain ⟨a, us, e1, e2, e3⟩ := view_tup h q e'
    exact ⟨a, us, e1, .inr e2, e3⟩
  · cases e
end
end PX
set_option Elab.async false
set_option linter.all false
set_option maxRecDepth 100000
namespace PX
open PySem PySem.Spec PyProof.Rows L2

/-! ### readings -/
def PoE (G : Gam) (n0 : Nat) (g : Gh) (F : Hp) (r : List Addr) (env : Env) (σ : L2.St) (z : R (Bool × PV)) (Q : VK) : Prop := match z with
  | .ok p S' => ∀ F' r' H' u, Ext F F' r r' → Sg G n0 g F' r' env σ S' H' → RF G g F' r' H' p.1 p.2 u → Q u H'
  | _ => False
def PoV (G : Gam) (n0 : Nat) (g : Gh) (F : Hp) (r : List Addr) (env : Env) (σ : L2.St) (z : R (Bool × PV)) (Q : VK) : Prop := match z with
  | .ok p S' => ∀ F' r' H' u, Ext F F' r r' → Sg G n0 g F' r' env σ S' H' → RV G F' r' p.2 u → Q u H'
  | _ => False
def PoT (G : Gam) (n0 : Nat) (g : Gh) (F : Hp) (r : List Addr) (env : Env) (σ : L2.St) (z : R Bool) (Q : Bool → Hp → Prop) : Prop := match z with
  | .ok b S' => ∀ F' r' H', Ext F F' r r' → Sg G n0 g F' r' env σ S' H' → Q b H'
  | _ => False
def PoA (G : Gam) (n0 : Nat) (g : Gh) (F : Hp) (r : List Addr) (env : Env) (σ : L2.St) (z : R (List PV)) (Q : List V → Hp → Prop) : Prop := match z with
  | .ok vs S' => ∀ F' r' H' us, Ext F F' r r' → Sg G n0 g F' r' env σ S' H' → RVs G F' r' vs us → Q us H'
  | _ => False
def rdE (G : Gam) (n0 : Nat) (f : SE) : TE := fun σ H Q => ∃ F r env S g, Sg G n0 g F r env σ S H ∧ PoE G n0 g F r env σ (f env S) Q
def rdV (G : Gam) (n0 : Nat) (f : SE) : TE := fun σ H Q => ∃ F r env S g, Sg G n0 g F r env σ S H ∧ PoV G n0 g F r env σ (f env S) Q
def rdT (G : Gam) (n0 : Nat) (f : ST) : TT := fun σ H Q => ∃ F r env S g, Sg G n0 g F r env σ S H ∧ PoT G n0 g F r env σ (f env S) Q
def rdA (G : Gam) (n0 : Nat) (f : SA) : TA := fun σ H Q => ∃ F r env S g, Sg G n0 g F r env σ S H ∧ PoA G n0 g F r env σ (f env S) Q

theorem peI {X : Cx} {e : Expr} {t t' : TE} (h : PE X e t) (w : ∀ σ H Q, t' σ H Q → t σ H Q) : PE X e t' := ⟨fun pins s σ H Q I q => h.run pins s σ H Q I (w σ H Q q)⟩
theorem ptI {X : Cx} {e : Expr} {t t' : TT} (h : PT X e t) (w : ∀ σ H Q, t' σ H Q → t σ H Q) : PT X e t' := ⟨fun pins s σ H Q I q => h.run pins s σ H Q I (w σ H Q q)⟩
theorem pwI {X : Cx} {e : Expr} {t t' : TT} (h : PW X e t) (w : ∀ σ H Q, t' σ H Q → t σ H Q) : PW X e t' := ⟨fun wh pins s σ H Q I q => h.run wh pins s σ H Q I (w σ H Q q)⟩
theorem paI {X : Cx} {e : List Expr} {t t' : TA} (h : PA X e t) (w : ∀ σ H Q, t' σ H Q → t σ H Q) : PA X e t' := ⟨fun pos pins s σ H Q I q => h.run pos pins s σ H Q I (w σ H Q q)⟩
/-! what a continuation may not be -/
structure Cn {α : Type} (C : R α → Prop) : Prop where
  no : ¬ C .no
  ex : ∀ c p S', ¬ C (.ex c p S')
section
variable {G : Gam} {n0 : Nat} {g : Gh} {F F1 : Hp} {r r1 : List Addr} {env : Env} {σ : L2.St} {S S1 : Store} {H H1 : Hp} {Q : VK} {QT : Bool → Hp → Prop} {QA : List V → Hp → Prop}
theorem cnE : Cn fun z => PoE G n0 g F r env σ z Q := ⟨fun h => h, fun _ _ _ h => h⟩
theorem cnV : Cn fun z => PoV G n0 g F r env σ z Q := ⟨fun h => h, fun _ _ _ h => h⟩
theorem cnT : Cn fun z => PoT G n0 g F r env σ z QT := ⟨fun h => h, fun _ _ _ h => h⟩
theorem cnA : Cn fun z => PoA G n0 g F r env σ z QA := ⟨fun h => h, fun _ _ _ h => h⟩
/-! composing: a, then what follows -/
theorem stE {f : SE} {T : V → Hp → Prop} {α : Type} {kk : Bool × PV → Store → R α} {C : R α → Prop} (s : Sg G n0 g F r env σ S H) (cn : Cn C) (h : C ((f env S).bind kk))
    (step : ∀ p S' F' r' H' u, Ext F F' r r' → Sg G n0 g F' r' env σ S' H' → RF G g F' r' H' p.1 p.2 u → C (kk p S') → T u H') : rdE G n0 f σ H T := by
  refine ⟨F, r, env, S, g, s, ?_⟩
  cases e : f env S with
  | ok p S' =>
    rw [e] at h
    exact fun F' r' H' u ex s' q => step p S' F' r' H' u ex s' q h
  | ex c p S' =>
    rw [e] at h
    exact (cn.ex c p S' h).elim
  | no =>
    rw [e] at h
    exact (cn.no h).elim
theorem stV {f : SE} {T : V → Hp → Prop} {α : Type} {kk : Bool × PV → Store → R α} {C : R α → Prop} (s : Sg G n0 g F r env σ S H) (cn : Cn C) (h : C ((f env S).bind kk))
    (step : ∀ p S' F' r' H' u, Ext F F' r r' → Sg G n0 g F' r' env σ S' H' → RV G F' r' p.2 u → C (kk p S') → T u H') : rdV G n0 f σ H T := by
  refine ⟨F, r, env, S, g, s, ?_⟩
  cases e : f env S with
  | ok p S' =>
    rw [e] at h
    exact fun F' r' H' u ex s' q => step p S' F' r' H' u ex s' q h
  | ex c p S' =>
    rw [e] at h
    exact (cn.ex c p S' h).elim
  | no =>
    rw [e] at h
    exact (cn.no h).elim
theorem stT {f : ST} {T : Bool → Hp → Prop} {α : Type} {kk : Bool → Store → R α} {C : R α → Prop} (s : Sg G n0 g F r env σ S H) (cn : Cn C) (h : C ((f env S).bind kk))
    (step : ∀ p S' F' r' H', Ext F F' r r' → Sg G n0 g F' r' env σ S' H' → C (kk p S') → T p H') : rdT G n0 f σ H T := by
  refine ⟨F, r, env, S, g, s, ?_⟩
  cases e : f env S with
  | ok p S' =>
    rw [e] at h
    exact fun F' r' H' ex s' => step p S' F' r' H' ex s' h
  | ex c p S' =>
    rw [e] at h
    exact (cn.ex c p S' h).elim
  | no =>
    rw [e] at h
    exact (cn.no h).elim
theorem stA {f : SA} {T : List V → Hp → Prop} {α : Type} {kk : List PV → Store → R α} {C : R α → Prop} (s : Sg G n0 g F r env σ S H) (cn : Cn C) (h : C ((f env S).bind kk))
    (step : ∀ p S' F' r' H' us, Ext F F' r r' → Sg G n0 g F' r' env σ S' H' → RVs G F' r' p us → C (kk p S') → T us H') : rdA G n0 f σ H T := by
  refine ⟨F, r, env, S, g, s, ?_⟩
  cases e : f env S with
  | ok p S' =>
    rw [e] at h
    exact fun F' r' H' us ex s' q => step p S' F' r' H' us ex s' q h
  | ex c p S' =>
    rw [e] at h
    exact (cn.ex c p S' h).elim
  | no =>
    rw [e] at h
    exact (cn.no h).elim
/-! going on from a later state -/
theorem goE {f : SE} (s : Sg G n0 g F1 r1 env σ S1 H1) (x : Ext F F1 r r1) (h : PoE G n0 g F r env σ (f env S1) Q) : rdE G n0 f σ H1 Q := by
  refine ⟨F1, r1, env, S1, g, s, ?_⟩
  cases e : f env S1 with
  | ok p S' => rw [e] at h; exact fun F' r' H' u ex s' q => h F' r' H' u (x.trans ex) s' q
  | ex => rw [e] at h; exact h
  | no => rw [e] at h; exact h
theorem goT {f : ST} (s : Sg G n0 g F1 r1 env σ S1 H1) (x : Ext F F1 r r1) (h : PoT G n0 g F r env σ (f env S1) QT) : rdT G n0 f σ H1 QT := by
  refine ⟨F1, r1, env, S1, g, s, ?_⟩
  cases e : f env S1 with
  | ok p S' => rw [e] at h; exact fun F' r' H' ex s' => h F' r' H' (x.trans ex) s'
  | ex => rw [e] at h; exact h
  | no => rw [e] at h; exact h
/-! an end by values -/
theorem endO {o : Option (Bool × PV)} {T : VK → Prop} (s : Sg G n0 g F1 r1 env σ S1 H1) (x : Ext F F1 r r1) (h : PoE G n0 g F r env σ (ofO o S1) Q)
    (ok : ∀ z, o = some z → (∀ F' r' H' w, Ext F1 F' r1 r' → HR G n0 g F' r' S1 H' → RF G g F' r' H' z.1 z.2 w → Q w H') → T Q) : T Q := by
  unfold ofO at h
  cases o with
  | none => exact h.elim
  | some z => exact ok z rfl fun F' r' H' w x' hr rf => h F' r' H' w (x.trans x') (s.ext x' hr) rf
end
section
variable {X : Cx} {G : Gam} {n0 : Nat} {e : Expr} {f : SE}
/-! what is fresh may be left as it is -/
theorem toV (h : PE X e (rdE G n0 f)) : PE X e (rdV G n0 f) := by
  refine peI h fun σ H Q ⟨F, r, env, S, g, s, p⟩ => ⟨F, r, env, S, g, s, ?_⟩
  cases e : f env S with
  | ok p' S' =>
    rw [e] at p
    intro F' r' H' u x s' q
    obtain ⟨F2, x2, h2, q2⟩ := freeze s'.hr q
    exact p F2 r' H' u (x.trans x2) (s'.ext x2 h2) q2
  | ex => rw [e] at p; exact p
  | no => rw [e] at p; exact p

/-! ### values: what an operator by values is asked -/
def Ok1 (G : Gam) (o : Op1) (t : V → Hp → VK → Prop) : Prop := ∀ n0 g F r S H x u z Q, HR G n0 g F r S H → RV G F r x u → o x S = some z →
  (∀ F' r' H' w, Ext F F' r r' → HR G n0 g F' r' S H' → RF G g F' r' H' z.1 z.2 w → Q w H') → t u H Q
def Ok2 (G : Gam) (o : Op2) (t : R2) : Prop := ∀ n0 g F r S H x y u v z Q, HR G n0 g F r S H → RV G F r x u → RV G F r y v → o x y S = some z →
  (∀ F' r' H' w, Ext F F' r r' → HR G n0 g F' r' S H' → RF G g F' r' H' z.1 z.2 w → Q w H') → t u v H Q
def OkN (G : Gam) (o : OpN) (t : List V → Hp → VK → Prop) : Prop := ∀ n0 g F r S H xs us z Q, HR G n0 g F r S H → RVs G F r xs us → o xs S = some z →
  (∀ F' r' H' w, Ext F F' r r' → HR G n0 g F' r' S H' → RF G g F' r' H' z.1 z.2 w → Q w H') → t us H Q

variable {a b c : Expr} {fa fb fc : SE} {pos : Pos} {es : List Expr} {fs : SA} {rest : List Expr}
theorem se_var {i : Nat} (hp : PE X e (tVar i)) : PE X e (rdE G n0 (eVar i)) := by
  refine peI hp fun σ H Q ⟨F, r, env, S, g, s, h⟩ => ?_
  unfold eVar at h
  split at h
  · rename_i v ev
    obtain ⟨u, h1, h2⟩ := s.vr i v ev
    exact ⟨u, h1, h F r H u (.refl F r) s h2⟩
  · exact h.elim
theorem se_lit {u : V} {v : PV} (hp : PE X e (tC u)) (hv : ∀ F r, RV G F r v u) : PE X e (rdE G n0 (eLit v)) :=
  peI hp fun σ H Q ⟨F, r, env, S, g, s, h⟩ => h F r H u (.refl F r) s (hv F r)
theorem se_un {op : UnaryOp} {o : Op1} {t : V → Hp → VK → Prop} (hop : UnR X (unaryOp op) t) (ho : Ok1 G o t) (ha : PE X a (rdE G n0 fa)) : PE X (.UnaryOp op a pos) (rdE G n0 (eUn o fa)) := by
  refine peI (pe_un hop (toV ha)) fun σ H Q ⟨F, r, env, S, g, s, h⟩ => ?_
  refine stV s cnE h fun p S1 F1 r1 H1 u x1 s1 q1 h1 => ?_
  exact endO (T := fun Q => t u H1 Q) s1 x1 h1 fun z ez k => ho n0 g F1 r1 S1 H1 p.2 u z Q s1.hr q1 ez k
theorem se_bin {op : Operator} {o : Op2} {t : R2} (hop : OpR X (binaryOp op) t) (ho : Ok2 G o t) (ha : PE X a (rdE G n0 fa)) (hb : PE X b (rdE G n0 fb)) : PE X (.BinOp a op b pos) (rdE G n0 (eBin o fa fb)) := by
  refine peI (pe_op hop (toV ha) (toV hb)) fun σ H Q ⟨F, r, env, S, g, s, h⟩ => ?_
  refine stV s cnE h fun p S1 F1 r1 H1 u x1 s1 q1 h1 => ?_
  refine stV s1 cnE h1 fun q S2 F2 r2 H2 v x2 s2 q2 h2 => ?_
  exact endO (T := fun Q => t u v H2 Q) s2 (x1.trans x2) h2 fun z ez k => ho n0 g F2 r2 S2 H2 p.2 q.2 u v z Q s2.hr (q1.ext x2) q2 ez k
theorem se_cmp {op : CmpOp} {o : Op2} {t : R2} (hop : OpR X (compareOp op) t) (ho : Ok2 G o t) (ha : PE X a (rdE G n0 fa)) (hb : PE X b (rdE G n0 fb)) (hm : behindInMarks op b = false) : PE X (.Compare a [op] [b] pos) (rdE G n0 (eBin o fa fb)) := by
  refine peI (pe_cmpR hop (toV ha) (toV hb) hm) fun σ H Q ⟨F, r, env, S, g, s, h⟩ => ?_
  refine stV s cnE h fun p S1 F1 r1 H1 u x1 s1 q1 h1 => ?_
  refine stV s1 cnE h1 fun q S2 F2 r2 H2 v x2 s2 q2 h2 => ?_
  exact endO (T := fun Q => t u v H2 Q) s2 (x1.trans x2) h2 fun z ez k => ho n0 g F2 r2 S2 H2 p.2 q.2 u v z Q s2.hr (q1.ext x2) q2 ez k
theorem bl_of {g : Gh} {F : Hp} {r : List Addr} {H : Hp} {b : Bool} {k : Bool} {w : V} (q : RF G g F r H b (.bl k) w) : w = .bl k := by
  cases b with
  | false => exact q
  | true =>
    obtain ⟨_, _, _, _, _, _, _, ro, _⟩ := q
    exact ro.elim
theorem st_cmp {op : CmpOp} {o : Op2} {t : R2} (hop : OpR X (compareOp op) t) (ho : Ok2 G o t) (ha : PE X a (rdE G n0 fa)) (hb : PE X b (rdE G n0 fb)) (hm : behindInMarks op b = false) : PT X (.Compare a [op] [b] pos) (rdT G n0 (tBl (eBin o fa fb))) := by
  refine ptI (pt_cmpR hop (toV ha) (toV hb) hm) fun σ H Q ⟨F, r, env, S, g, s, h⟩ => ?_
  have h : PoT G n0 g F r env σ (((fa env S).bind fun p S1 => (fb env S1).bind fun q S2 => ofO (o p.2 q.2 S2) S2).bind fun p S1 => match p.2 with
    | .bl b => .ok b S1
    | _ => .no) Q := h
  have assoc : ∀ {α β γ : Type} (m : R α) (k : α → Store → R β) (l : β → Store → R γ), (m.bind k).bind l = m.bind fun x S => (k x S).bind l := fun m k l => by cases m <;> rfl
  rw [assoc] at h
  refine stV s cnT h fun p S1 F1 r1 H1 u x1 s1 q1 h1 => ?_
  rw [assoc] at h1
  refine stV s1 cnT h1 fun q S2 F2 r2 H2 v x2 s2 q2 h2 => ?_
  cases eo : o p.2 q.2 S2 with
  | none => rw [eo] at h2; exact h2.elim
  | some z =>
    rw [eo] at h2
    refine ho n0 g F2 r2 S2 H2 p.2 q.2 u v z _ s2.hr (q1.ext x2) q2 eo fun F' r' H' w x hr rf => ?_
    have h3 : PoT G n0 g F r env σ (match z.2 with
      | .bl b => .ok b S2
      | _ => .no) Q := h2
    split at h3
    · rename_i k ek
      rw [ek] at rf
      exact ⟨k, bl_of rf, h3 F' r' H' ((x1.trans x2).trans x) (s2.ext x hr)⟩
    · exact h3.elim
/-! truth -/
theorem truth_ok {g : Gh} {F : Hp} {r : List Addr} {S : Store} {H : Hp} {v : PV} {u : V} {k : Bool} (h : HR G n0 g F r S H) (q : RV G F r v u) (e : truth S v = some k) : TruV G.K u H k := by
  unfold truth at e
  split at e
  · rename_i b e'
    cases e
    rw [view_bl h q e']
    exact rfl
  · rename_i i e'
    cases e
    rw [view_int h q e']
    exact rfl
  · rename_i e'
    cases e
    rw [view_non h q e']
    exact rfl
  · rename_i xs e'
    cases e
    obtain ⟨a, us, rfl, h1, h2⟩ := view_lst h q e'
    refine .inl ⟨us, .inl h1, ?_⟩
    cases xs with
    | nil => have e3 : us = [] := h2; rw [e3]; rfl
    | cons x xs => obtain ⟨_, _, rfl, _, _⟩ := h2; rfl
  · rename_i xs e'
    cases e
    obtain ⟨a, us, rfl, h1, h2⟩ := view_tup h q e'
    refine .inr (.inl ⟨us, h1, ?_⟩)
    cases xs with
    | nil => have e3 : us = [] := h2; rw [e3]; rfl
    | cons x xs => obtain ⟨_, _, rfl, _, _⟩ := h2; rfl
  · cases e
theorem st_tru (hK : G.K = X.K) (ha : PE X a (rdE G n0 fa)) (he : ∀ whole, isTrue a X.env whole = (do let v ← whole; standAt a.pos; holding [v] (truthy v)) := by intro _; rfl) : PT X a (rdT G n0 (tTru fa)) := by
  refine ptI (pt_truth (toV ha) he) fun σ H Q ⟨F, r, env, S, g, s, h⟩ => ?_
  refine stV s cnT h fun p S1 F1 r1 H1 u x1 s1 q1 h1 => ?_
  cases et : truth S1 p.2 with
  | none => rw [et] at h1; exact h1.elim
  | some k =>
    rw [et] at h1
    exact ⟨k, hK ▸ truth_ok s1.hr q1 et, h1 F1 r1 H1 x1 s1⟩
theorem st_no {ta : ST} (ha : PT X a (rdT G n0 ta)) : PT X (.UnaryOp .Not a pos) (rdT G n0 (tNo ta)) := by
  refine ptI (pt_not ha) fun σ H Q ⟨F, r, env, S, g, s, h⟩ => ?_
  exact stT s cnT h fun p S1 F1 r1 H1 x1 s1 h1 => h1 F1 r1 H1 x1 s1
theorem sw_one {op : BoolOp} {ta : ST} (ha : PT X a (rdT G n0 ta)) : PW X (.BoolOp op [a] pos) (rdT G n0 ta) := by
  cases op with
  | And => exact pw_and1 ha
  | Or => exact pw_or1 ha
theorem sw_and {ta tb : ST} (ha : PT X a (rdT G n0 ta)) (hb : PW X (.BoolOp .And (b :: rest) pos) (rdT G n0 tb)) : PW X (.BoolOp .And (a :: b :: rest) pos) (rdT G n0 (tAn ta tb)) := by
  refine pwI (pw_and ha hb) fun σ H Q ⟨F, r, env, S, g, s, h⟩ => ?_
  refine stT s cnT h fun p S1 F1 r1 H1 x1 s1 h1 => ?_
  cases p with
  | true => exact goT s1 x1 h1
  | false => exact h1 F1 r1 H1 x1 s1
theorem sw_or {ta tb : ST} (ha : PT X a (rdT G n0 ta)) (hb : PW X (.BoolOp .Or (b :: rest) pos) (rdT G n0 tb)) : PW X (.BoolOp .Or (a :: b :: rest) pos) (rdT G n0 (tOr ta tb)) := by
  refine pwI (pw_or ha hb) fun σ H Q ⟨F, r, env, S, g, s, h⟩ => ?_
  refine stT s cnT h fun p S1 F1 r1 H1 x1 s1 h1 => ?_
  cases p with
  | true => exact h1 F1 r1 H1 x1 s1
  | false => exact goT s1 x1 h1
theorem se_one {op : BoolOp} (ha : PE X a (rdE G n0 fa)) : PE X (.BoolOp op [a] pos) (rdE G n0 fa) := pe_one ha
theorem se_and (hK : G.K = X.K) (ha : PE X a (rdE G n0 fa)) (hb : PE X (.BoolOp .And (b :: rest) pos) (rdE G n0 fb)) : PE X (.BoolOp .And (a :: b :: rest) pos) (rdE G n0 (eAn fa fb)) := by
  refine peI (pe_andT (toV ha) hb) fun σ H Q ⟨F, r, env, S, g, s, h⟩ => ?_
  refine stV s cnE h fun p S1 F1 r1 H1 u x1 s1 q1 h1 => ?_
  cases et : truth S1 p.2 with
  | none => rw [et] at h1; exact h1.elim
  | some k =>
    rw [et] at h1
    refine ⟨k, hK ▸ truth_ok s1.hr q1 et, ?_⟩
    cases k with
    | true => exact goE s1 x1 h1
    | false => exact h1 F1 r1 H1 u x1 s1 q1
theorem se_or (hK : G.K = X.K) (ha : PE X a (rdE G n0 fa)) (hb : PE X (.BoolOp .Or (b :: rest) pos) (rdE G n0 fb)) : PE X (.BoolOp .Or (a :: b :: rest) pos) (rdE G n0 (eOr fa fb)) := by
  refine peI (pe_orT (toV ha) hb) fun σ H Q ⟨F, r, env, S, g, s, h⟩ => ?_
  refine stV s cnE h fun p S1 F1 r1 H1 u x1 s1 q1 h1 => ?_
  cases et : truth S1 p.2 with
  | none => rw [et] at h1; exact h1.elim
  | some k =>
    rw [et] at h1
    refine ⟨k, hK ▸ truth_ok s1.hr q1 et, ?_⟩
    cases k with
    | true => exact h1 F1 r1 H1 u x1 s1 q1
    | false => exact goE s1 x1 h1
theorem se_not (hK : G.K = X.K) (ha : PE X a (rdE G n0 fa)) : PE X (.UnaryOp .Not a pos) (rdE G n0 (eNot fa)) := by
  refine peI (pe_notT (toV ha)) fun σ H Q ⟨F, r, env, S, g, s, h⟩ => ?_
  refine stV s cnE h fun p S1 F1 r1 H1 u x1 s1 q1 h1 => ?_
  cases et : truth S1 p.2 with
  | none => rw [et] at h1; exact h1.elim
  | some k =>
    rw [et] at h1
    exact ⟨k, hK ▸ truth_ok s1.hr q1 et, h1 F1 r1 H1 _ x1 s1 rfl⟩
theorem se_if {tc : ST} (hc : PT X c (rdT G n0 tc)) (ha : PE X a (rdE G n0 fa)) (hb : PE X b (rdE G n0 fb)) : PE X (.IfExp c a b pos) (rdE G n0 (eIf tc fa fb)) := by
  refine peI (pe_ifExp hc ha hb) fun σ H Q ⟨F, r, env, S, g, s, h⟩ => ?_
  refine stT s cnE h fun p S1 F1 r1 H1 x1 s1 h1 => ?_
  cases p with
  | true => exact goE s1 x1 h1
  | false => exact goE s1 x1 h1
theorem ofO_bl {g : Gh} {F : Hp} {r : List Addr} {env : Env} {σ : L2.St} {S : Store} {Q : VK} {z : Bool × PV} (h : PoE G n0 g F r env σ (ofO (some z) S) Q) : PoE G n0 g F r env σ (.ok z S) Q := h
theorem se_ch {o1 o2 : CmpOp} {o o' : Op2} {t t' : R2} (hop : OpR X (compareOp o1) t) (ho : Ok2 G o t) (hop' : OpR X (compareOp o2) t') (ho' : Ok2 G o' t') (ha : PE X a (rdE G n0 fa)) (hb : PE X b (rdE G n0 fb)) (hc : PE X c (rdE G n0 fc))
    (hp : PE X (.Compare a [o1, o2] [b, c] pos) (tChain t t' (rdV G n0 fa) (rdV G n0 fb) (rdV G n0 fc))) : PE X (.Compare a [o1, o2] [b, c] pos) (rdE G n0 (eCh o o' fa fb fc)) := by
  refine peI hp fun σ H Q ⟨F, r, env, S, g, s, h⟩ => ?_
  refine stV s cnE h fun p S1 F1 r1 H1 u x1 s1 q1 h1 => ?_
  refine stV s1 cnE h1 fun q S2 F2 r2 H2 v x2 s2 q2 h2 => ?_
  split at h2
  · rename_i eo
    refine ho n0 g F2 r2 S2 H2 p.2 q.2 u v _ _ s2.hr (q1.ext x2) q2 eo fun F3 r3 H3 w x3 hr3 rf => ⟨true, rf, ?_⟩
    refine stV (s2.ext x3 hr3) cnE h2 fun z S4 F4 r4 H4 w' x4 s4 q4 h4 => ?_
    exact endO (T := fun Q => t' v w' H4 Q) s4 (((x1.trans x2).trans x3).trans x4) h4 fun z' ez k => ho' n0 g F4 r4 S4 H4 q.2 z.2 v w' z' Q s4.hr (q2.ext (x3.trans x4)) q4 ez k
  · rename_i eo
    refine ho n0 g F2 r2 S2 H2 p.2 q.2 u v _ _ s2.hr (q1.ext x2) q2 eo fun F3 r3 H3 w x3 hr3 rf => ⟨false, rf, ?_⟩
    exact h2 F3 r3 H3 _ ((x1.trans x2).trans x3) (s2.ext x3 hr3) rfl
  · exact h2.elim
/-! arguments -/
theorem sa_nil : PA X [] (rdA G n0 aNil) := paI pa_nil fun σ H Q ⟨F, r, env, S, g, s, h⟩ => h F r H [] (.refl F r) s rfl
theorem sa_cons (ha : PE X a (rdE G n0 fa)) (hr : PA X es (rdA G n0 fs)) (hs : starEach (a :: es) X.env = (false, eval a X.env) :: starEach es X.env := by rfl) : PA X (a :: es) (rdA G n0 (aCons fa fs)) := by
  refine paI (pa_cons (toV ha) hr hs) fun σ H Q ⟨F, r, env, S, g, s, h⟩ => ?_
  refine stV s cnA h fun p S1 F1 r1 H1 u x1 s1 q1 h1 => ?_
  refine stA s1 cnA h1 fun q S2 F2 r2 H2 us x2 s2 q2 h2 => ?_
  exact h2 F2 r2 H2 _ (x1.trans x2) s2 ⟨u, us, rfl, q1.ext x2, q2⟩
theorem sa_star {sp_ : Pos} (hK : G.K = X.K) (ha : PE X a (rdE G n0 fa)) (hr : PA X es (rdA G n0 fs)) (hs : starEach (.Starred a sp_ :: es) X.env = (true, eval a X.env) :: starEach es X.env := by rfl) : PA X (.Starred a sp_ :: es) (rdA G n0 (aStar fa fs)) := by
  refine paI (StX.pa_star (toV ha) hr hs) fun σ H Q ⟨F, r, env, S, g, s, h⟩ => ?_
  refine stV s cnA h fun p S1 F1 r1 H1 u x1 s1 q1 h1 => ?_
  cases ei : itemsOf S1 p.2 with
  | none => simp only [ei] at h1; exact h1.elim
  | some xs =>
    simp only [ei] at h1
    obtain ⟨a', us, rfl, hs', rv⟩ := view_seq s1.hr q1 ei
    refine ⟨a', us, rfl, hK ▸ hs'.symm, ?_⟩
    refine stA s1 cnA h1 fun q S2 F2 r2 H2 ws x2 s2 q2 h2 => ?_
    exact h2 F2 r2 H2 _ (x1.trans x2) s2 ((rv.ext x2).append q2)
theorem small_le {n : Nat} (h : small n = true) : n ≤ sizeLine := by
  have : n ≤ 1000000 := Nat.le_of_ble_eq_true h
  exact Nat.le_trans this (by rw [sizeLine_eq]; decide)
theorem se_tup {x1} (h : PA X es (rdA G n0 fs)) : PE X (.Tuple es x1 pos) (rdE G n0 (eTup fs)) := by
  refine peI (pe_tup h) fun σ H Q ⟨F, r, env, S, g, s, h⟩ => ?_
  refine stA s cnE h fun p S1 F1 r1 H1 us x1 s1 q1 h1 => ?_
  split at h1
  · rename_i hz
    refine ⟨by rw [← RVs.length q1]; exact small_le hz, fun p' hp => ?_⟩
    obtain ⟨F2, x2, h2, k⟩ := new_tup s1.hr hp q1
    exact h1 F2 r1 _ _ (x1.trans x2) (s1.ext x2 h2) k
  · exact h1.elim
theorem se_lst (h : PA X es (rdA G n0 fs)) : PE X (.List es pos) (rdE G n0 (eLst fs)) := by
  refine peI (pe_lst h) fun σ H Q ⟨F, r, env, S, g, s, h⟩ => ?_
  refine stA s cnE h fun p S1 F1 r1 H1 us x1 s1 q1 h1 => ?_
  split at h1
  · rename_i hz
    refine ⟨by rw [← RVs.length q1]; exact small_le hz, fun p' hp => ?_⟩
    obtain ⟨h2, k⟩ := new_obj s1.hr hp (v := .lst p) ⟨us, rfl, q1⟩ rfl
    exact h1 F1 r1 _ _ x1 (s1.ext (.refl _ _) h2) k
  · exact h1.elim
/-! a new object is held by the store -/
theorem se_new (ha : PE X a (rdE G n0 fa)) : PE X a (rdE G n0 (eNew fa)) := by
  refine peI ha fun σ H Q ⟨F, r, env, S, g, s, h⟩ => ?_
  refine stE s cnE h fun p S1 F1 r1 H1 u x1 s1 q1 h1 => ?_
  obtain ⟨b, v⟩ := p
  cases b with
  | false => exact h1 F1 r1 H1 u x1 s1 q1
  | true =>
    obtain ⟨r2, x2, h2, k⟩ := store_new s1.hr q1
    exact h1 F1 r2 H1 u (x1.trans x2) (s1.ext x2 h2) k
end
end PX
set_option Elab.async false
set_option linter.all false
set_option maxRecDepth 100000
namespace PX
open PySem PySem.Spec PyProof.Rows L2

def PoS (G : Gam) (n0 : Nat) (g : Gh) (F : Hp) (r : List Addr) (z : RS) (D : Ends) : Prop := match z with
  | .nx e S' => ∀ F' r' H' σ', Ext F F' r r' → Sg G n0 g F' r' e σ' S' H' → D.nx σ' H'
  | .bk e S' => ∀ F' r' H' σ', Ext F F' r r' → Sg G n0 g F' r' e σ' S' H' → D.bk σ' H'
  | .ct e S' => ∀ F' r' H' σ', Ext F F' r r' → Sg G n0 g F' r' e σ' S' H' → D.ct σ' H'
  | .rt v S' => ∀ F' r' H' u, Ext F F' r r' → HR G n0 g F' r' S' H' → RV G F' r' v u → D.rt u H'
  | _ => False
def rdS (G : Gam) (n0 : Nat) (f : SS) : TS := fun D σ H => ∃ F r env S g, Sg G n0 g F r env σ S H ∧ PoS G n0 g F r (f env S) D
/-! what a loop walks -/
def GhLe (g g2 : Gh) : Prop := ∀ a o, g.pn a = some o → g2.pn a = some o
theorem GhLe.refl (g : Gh) : GhLe g g := fun _ _ e => e
theorem GhLe.trans {g g2 g3 : Gh} (h : GhLe g g2) (k : GhLe g2 g3) : GhLe g g3 := fun a o e => k a o (h a o e)
def Its (G : Gam) (n0 : Nat) (g : Gh) (F : Hp) (r : List Addr) (J : It) (xs : List PV) : Prop := ∀ g2, GhLe g g2 → ∀ F2 r2 S2 H2, HR G n0 g2 F2 r2 S2 H2 → Ext F F2 r r2 →
  (∀ (i : Nat) x, xs[i]? = some x → J.go i H2 ∧ ∀ v H3, J.yld i H2 v H3 → ∃ F3, Ext F2 F3 r2 r2 ∧ HR G n0 g2 F3 r2 S2 H3 ∧ RV G F3 r2 x v) ∧ (∀ i, xs.length ≤ i → J.stop i H2)
def PoI (G : Gam) (n0 : Nat) (g : Gh) (F : Hp) (r : List Addr) (env : Env) (σ : L2.St) (z : R (List PV × List (Nat × PV))) (T : It → Hp → Prop) : Prop := match z with
  | .ok p S' => ∀ F' r' H' J g', Ext F F' r r' → Sg G n0 g' F' r' env σ S' H' → Its G n0 g' F' r' J p.1 →
      (∀ F2 r2 S2 H2, HR G n0 g' F2 r2 S2 H2 → Ext F' F2 r' r2 → HR G n0 g F2 r2 (unlock p.2 S2) H2) → T J H'
  | _ => False
def rdI (G : Gam) (n0 : Nat) (f : SI) : TI := fun σ H T => ∃ F r env S g, Sg G n0 g F r env σ S H ∧ PoI G n0 g F r env σ (f env S) T
theorem psI {X : Cx} {st : Stmt} {t t' : TS} (h : PS X st t) (w : ∀ D σ H, t' D σ H → t D σ H) : PS X st t' := ⟨fun pins s σ H D I q => h.run pins s σ H D I (w D σ H q)⟩
theorem pssI {X : Cx} {st : List Stmt} {t t' : TS} (h : PSs X st t) (w : ∀ D σ H, t' D σ H → t D σ H) : PSs X st t' := ⟨fun pins s σ H D I q => h.run pins s σ H D I (w D σ H q)⟩
theorem piI {X : Cx} {tg e : Expr} {t t' : TI} (h : PI X tg e t) (w : ∀ σ H R, t' σ H R → t σ H R) : PI X tg e t' := ⟨fun pins s σ H R I q => h.run pins s σ H R I (w σ H R q)⟩
/-! a target -/
def TgOk (G : Gam) (t : Tg) (gg : TG) : Prop := ∀ n0 g F r env σ S H v u env' (Q : L2.St → Hp → Prop), Sg G n0 g F r env σ S H → RV G F r v u → t v env S = some env' → (∀ σ', Sg G n0 g F r env' σ' S H → Q σ' H) → gg u σ H Q

section
variable {X : Cx} {G : Gam} {n0 : Nat} {g : Gh} {F F1 : Hp} {r r1 : List Addr} {env : Env} {σ : L2.St} {S S1 : Store} {H H1 : Hp} {D : Ends}
theorem PoS.ext {z : RS} (h : PoS G n0 g F r z D) (x : Ext F F1 r r1) : PoS G n0 g F1 r1 z D := by
  cases z with
  | nx e S' => exact fun F' r' H' σ' e s => h F' r' H' σ' (x.trans e) s
  | bk e S' => exact fun F' r' H' σ' e s => h F' r' H' σ' (x.trans e) s
  | ct e S' => exact fun F' r' H' σ' e s => h F' r' H' σ' (x.trans e) s
  | rt v S' => exact fun F' r' H' u e s => h F' r' H' u (x.trans e) s
  | ex => exact h
  | no => exact h
theorem goS {f : SS} (s : Sg G n0 g F1 r1 env σ S1 H1) (x : Ext F F1 r r1) (h : PoS G n0 g F r (f env S1) D) : rdS G n0 f D σ H1 := ⟨F1, r1, env, S1, g, s, h.ext x⟩
/-! a part of a statement -/
theorem sgV {f : SE} {T : V → Hp → Prop} {kk : Bool × PV → Store → RS} (s : Sg G n0 g F r env σ S H) (h : PoS G n0 g F r ((f env S).go kk) D)
    (step : ∀ p S' F' r' H' u, Ext F F' r r' → Sg G n0 g F' r' env σ S' H' → RV G F' r' p.2 u → PoS G n0 g F r (kk p S') D → T u H') : rdV G n0 f σ H T := by
  refine ⟨F, r, env, S, g, s, ?_⟩
  cases e : f env S with
  | ok p S' => rw [e] at h; exact fun F' r' H' u ex s' q => step p S' F' r' H' u ex s' q h
  | ex c p S' => rw [e] at h; exact False.elim h
  | no => rw [e] at h; exact False.elim h
theorem sgT {f : ST} {T : Bool → Hp → Prop} {kk : Bool → Store → RS} (s : Sg G n0 g F r env σ S H) (h : PoS G n0 g F r ((f env S).go kk) D)
    (step : ∀ p S' F' r' H', Ext F F' r r' → Sg G n0 g F' r' env σ S' H' → PoS G n0 g F r (kk p S') D → T p H') : rdT G n0 f σ H T := by
  refine ⟨F, r, env, S, g, s, ?_⟩
  cases e : f env S with
  | ok p S' => rw [e] at h; exact fun F' r' H' ex s' => step p S' F' r' H' ex s' h
  | ex c p S' => rw [e] at h; exact False.elim h
  | no => rw [e] at h; exact False.elim h
theorem sgA {f : SA} {T : List V → Hp → Prop} {kk : List PV → Store → RS} (s : Sg G n0 g F r env σ S H) (h : PoS G n0 g F r ((f env S).go kk) D)
    (step : ∀ p S' F' r' H' us, Ext F F' r r' → Sg G n0 g F' r' env σ S' H' → RVs G F' r' p us → PoS G n0 g F r (kk p S') D → T us H') : rdA G n0 f σ H T := by
  refine ⟨F, r, env, S, g, s, ?_⟩
  cases e : f env S with
  | ok p S' => rw [e] at h; exact fun F' r' H' us ex s' q => step p S' F' r' H' us ex s' q h
  | ex c p S' => rw [e] at h; exact False.elim h
  | no => rw [e] at h; exact False.elim h

variable {st : Stmt} {rest : List Stmt} {fa fb : SS} {e : Expr} {fe : SE} {pos : Pos}
theorem ss_nil : PSs X [] (rdS G n0 sNil) := pssI pss_nil fun D σ H ⟨F, r, env, S, g, s, h⟩ => h F r H σ (.refl F r) s
theorem ss_cons (h1 : PS X st (rdS G n0 fa)) (h2 : PSs X rest (rdS G n0 fb)) : PSs X (st :: rest) (rdS G n0 (sCons fa fb)) := by
  refine pssI (pss_cons h1 h2) fun D σ H ⟨F, r, env, S, g, s, h⟩ => ?_
  refine ⟨F, r, env, S, g, s, ?_⟩
  have h : PoS G n0 g F r ((fa env S).then fb) D := h
  cases e : fa env S with
  | nx env' S' => rw [e] at h; exact fun F' r' H' σ' x s' => goS s' x h
  | bk => rw [e] at h; exact h
  | ct => rw [e] at h; exact h
  | rt => rw [e] at h; exact h
  | ex => rw [e] at h; exact h
  | no => rw [e] at h; exact h
theorem ss_one (h1 : PS X st (rdS G n0 fa)) : PSs X [st] (rdS G n0 fa) := pss_one h1
theorem ss_expr (he : PE X e (rdE G n0 fe)) (hs : swapsWith e none pos.line X.env = pure false := by rfl) : PS X (.Expr e pos) (rdS G n0 (sExp fe)) := by
  refine psI (ps_expr (toV he) hs) fun D σ H ⟨F, r, env, S, g, s, h⟩ => ?_
  exact sgV s h fun p S1 F1 r1 H1 u x1 s1 q1 h1 => h1 F1 r1 H1 σ x1 s1
theorem ss_ret (he : PE X e (rdE G n0 fe)) : PS X (.Return (some e) pos) (rdS G n0 (sRet fe)) := by
  refine psI (ps_ret (toV he)) fun D σ H ⟨F, r, env, S, g, s, h⟩ => ?_
  exact sgV s h fun p S1 F1 r1 H1 u x1 s1 q1 h1 => h1 F1 r1 H1 u x1 s1.hr q1
theorem ss_retN : PS X (.Return none pos) (rdS G n0 sRetN) := psI ps_retN fun D σ H ⟨F, r, env, S, g, s, h⟩ => h F r H .non (.refl F r) s.hr rfl
theorem ss_pass : PS X (.Pass pos) (rdS G n0 sNil) := psI ps_pass fun D σ H ⟨F, r, env, S, g, s, h⟩ => h F r H σ (.refl F r) s
theorem ss_brk : PS X (.Break pos) (rdS G n0 sBrk) := psI ps_break fun D σ H ⟨F, r, env, S, g, s, h⟩ => h F r H σ (.refl F r) s
theorem ss_cnt : PS X (.Continue pos) (rdS G n0 sCnt) := psI ps_continue fun D σ H ⟨F, r, env, S, g, s, h⟩ => h F r H σ (.refl F r) s
theorem ss_no : PS X st (rdS G n0 sNo) := psI ps_never fun D σ H ⟨F, r, env, S, g, s, h⟩ => h
theorem ss_if {c : Expr} {a b : List Stmt} {tc : ST} (hc : PT X c (rdT G n0 tc)) (ha : PSs X a (rdS G n0 fa)) (hb : PSs X b (rdS G n0 fb)) : PS X (.If c a b pos) (rdS G n0 (sIf tc fa fb)) := by
  refine psI (ps_if hc ha hb) fun D σ H ⟨F, r, env, S, g, s, h⟩ => ?_
  refine sgT s h fun p S1 F1 r1 H1 x1 s1 h1 => ?_
  cases p with
  | true => exact goS s1 x1 h1
  | false => exact goS s1 x1 h1
/-! targets -/
theorem Sg.set {i : Nat} {v : PV} {u : V} (s : Sg G n0 g F r env σ S H) (q : RV G F r v u) : Sg G n0 g F r (env.set i (some v)) (σ.set i (some u)) S H := by
  refine ⟨s.hr, by rw [List.length_set, List.length_set, s.sl], fun j w e => ?_⟩
  by_cases hj : i = j
  · subst hj
    have hi : i < env.length := by
      have := (List.getElem?_eq_some_iff.mp e).1
      rwa [List.length_set] at this
    rw [List.getElem?_set_self hi] at e
    cases e
    exact ⟨u, by rw [List.getElem?_set_self (by rw [← s.sl]; exact hi)], q⟩
  · rw [List.getElem?_set_ne hj] at e
    obtain ⟨u', h1, h2⟩ := s.vr j w e
    exact ⟨u', by rw [List.getElem?_set_ne hj]; exact h1, h2⟩
theorem tg_nm (i : Nat) : TgOk G (gNm i) (gName i) := fun n0 g F r env σ S H v u env' Q s q e h => by
  cases e
  exact h _ (s.set q)
/-! several targets -/
def TgsOk (G : Gam) (ts : List Tg) (gs : TGs) : Prop := ∀ n0 g F r env σ S H vs us env' (Q : L2.St → Hp → Prop), Sg G n0 g F r env σ S H → RVs G F r vs us → gTps ts vs env S = some env' → (∀ σ', Sg G n0 g F r env' σ' S H → Q σ' H) → gs us σ H Q
theorem tgs_nil : TgsOk G [] gNil := fun n0 g F r env σ S H vs us env' Q s q e h => by
  cases vs with
  | nil =>
    cases e
    exact ⟨q, h σ s⟩
  | cons v vs => cases e
theorem tgs_cons {t : Tg} {ts : List Tg} {gg : TG} {gs : TGs} (h1 : TgOk G t gg) (h2 : TgsOk G ts gs) : TgsOk G (t :: ts) (gCons gg gs) := fun n0 g F r env σ S H vs us env' Q s q e h => by
  cases vs with
  | nil => cases e
  | cons v vs =>
    obtain ⟨u, ur, rfl, q1, q2⟩ := q
    have e : (match t v env S with
      | some env' => gTps ts vs env' S
      | none => none) = some env' := e
    cases e1 : t v env S with
    | none => rw [e1] at e; cases e
    | some env1 =>
      rw [e1] at e
      exact ⟨u, ur, rfl, h1 n0 g F r env σ S H v u env1 _ s q1 e1 fun σ' s' => h2 n0 g F r env1 σ' S H vs ur env' Q s' q2 e h⟩
theorem gTps_len {ts : List Tg} : ∀ {vs : List PV} {env env' : Env}, gTps ts vs env S = some env' → vs.length = ts.length := by
  induction ts with
  | nil =>
    intro vs env env' e
    cases vs with
    | nil => rfl
    | cons => cases e
  | cons t ts ih =>
    intro vs env env' e
    cases vs with
    | nil => cases e
    | cons v vs =>
      have e : (match t v env S with
        | some env' => gTps ts vs env' S
        | none => none) = some env' := e
      cases e1 : t v env S with
      | none => rw [e1] at e; cases e
      | some env1 =>
        rw [e1] at e
        rw [List.length_cons, List.length_cons, ih e]
theorem tg_tp {ts : List Tg} {gs : TGs} {n : Nat} (h : TgsOk G ts gs) (hn : ts.length = n) : TgOk G (gTp ts) (gTup G.K n gs) := fun n0 g F r env σ S H v u env' Q s q e k => by
  unfold gTp at e
  split at e
  · rename_i xs e'
    obtain ⟨a, us, rfl, h1, h2⟩ := view_tup s.hr q e'
    exact ⟨a, us, rfl, h1, by rw [← RVs.length h2, gTps_len e, hn], h n0 g F r env σ S H xs us env' Q s h2 e k⟩
  · cases e
theorem ss_asg {gg : TG} {t : Tg} (hp : PS X st (tAsg (rdV G n0 fe) gg)) (ht : TgOk G t gg) : PS X st (rdS G n0 (sAsg t fe)) := by
  refine psI hp fun D σ H ⟨F, r, env, S, g, s, h⟩ => ?_
  refine sgV s h fun p S1 F1 r1 H1 u x1 s1 q1 h1 => ?_
  cases e : t p.2 env S1 with
  | none => rw [e] at h1; exact False.elim h1
  | some env' =>
    rw [e] at h1
    exact ht n0 g F1 r1 env σ S1 H1 p.2 u env' D.nx s1 q1 e fun σ' s' => h1 F1 r1 H1 σ' x1 s'
theorem ss_par {i j : Nat} {ft : SA} (hp : PS X st (tPar i j (rdA G n0 ft))) : PS X st (rdS G n0 (sPar [i, j] ft)) := by
  refine psI hp fun D σ H ⟨F, r, env, S, g, s, h⟩ => ?_
  refine sgA s h fun p S1 F1 r1 H1 us x1 s1 q1 h1 => ?_
  match p, q1, h1 with
  | [], _, h1 => exact False.elim h1
  | [a], _, h1 => exact False.elim h1
  | a :: b :: c :: d, _, h1 => exact False.elim h1
  | [a, b], q1, h1 =>
    obtain ⟨u, ur, rfl, k1, q2⟩ := q1
    obtain ⟨v, vr, rfl, k2, q3⟩ := q2
    have e : vr = [] := q3
    subst e
    exact ⟨u, v, rfl, h1 F1 r1 H1 _ x1 ((s1.set k1).set k2)⟩
theorem ss_par3 {i j l : Nat} {ft : SA} (hp : PS X st (tPar3 i j l (rdA G n0 ft))) : PS X st (rdS G n0 (sPar [i, j, l] ft)) := by
  refine psI hp fun D σ H ⟨F, r, env, S, g, s, h⟩ => ?_
  refine sgA s h fun p S1 F1 r1 H1 us x1 s1 q1 h1 => ?_
  match p, q1, h1 with
  | [], _, h1 => exact False.elim h1
  | [a], _, h1 => exact False.elim h1
  | [a, b], _, h1 => exact False.elim h1
  | a :: b :: c :: d :: e, _, h1 => exact False.elim h1
  | [a, b, c], q1, h1 =>
    obtain ⟨u, ur, rfl, k1, q2⟩ := q1
    obtain ⟨v, vr, rfl, k2, q3⟩ := q2
    obtain ⟨w, wr, rfl, k3, q4⟩ := q3
    have e : wr = [] := q4
    subst e
    exact ⟨u, v, w, rfl, h1 F1 r1 H1 _ x1 (((s1.set k1).set k2).set k3)⟩
theorem ss_aug {i : Nat} {o : Op2} {t : TIp} (hp : PS X st (tAug i (rdV G n0 fe) t)) (ho : Ok2 G o t) : PS X st (rdS G n0 (sAug i o fe)) := by
  refine psI hp fun D σ H ⟨F, r, env, S, g, s, h⟩ => ?_
  unfold sAug at h
  split at h
  · rename_i x ex
    obtain ⟨u, e1, q⟩ := s.vr i x ex
    refine ⟨u, e1, sgV s h fun p S1 F1 r1 H1 w x1 s1 q1 h1 => ?_⟩
    cases eo : o x p.2 S1 with
    | none => rw [eo] at h1; exact False.elim h1
    | some z =>
      rw [eo] at h1
      refine ho n0 g F1 r1 S1 H1 x p.2 u w z _ s1.hr (q.ext x1) q1 eo fun F2 r2 H2 y x2 hr2 rf => ?_
      obtain ⟨F3, x3, hr3, q3⟩ := freeze hr2 rf
      exact h1 F3 r2 H2 _ ((x1.trans x2).trans x3) ((s1.ext (x2.trans x3) hr3).set q3)
  · exact False.elim h
/-! loops -/
theorem unl_nx {ls : List (Nat × PV)} {z : RS} {e : Env} {S' : Store} (h : z = .nx e S') : z.unl ls = .nx e (unlock ls S') := by rw [h]; rfl
theorem ss_for {fi : SI} {t : Tg} {gg : TG} (hf : PS X st (tFor (rdI G n0 fi) gg (rdS G n0 fb))) (ht : TgOk G t gg) : PS X st (rdS G n0 (sFor fi t fb)) := by
  refine psI hf fun D σ H ⟨F, r, env, S, g, s, h⟩ => ?_
  refine ⟨F, r, env, S, g, s, ?_⟩
  have h : PoS G n0 g F r ((fi env S).go fun p S1 => (forR t fb p.1 env S1).unl p.2) D := h
  cases ei : fi env S with
  | no => rw [ei] at h; exact False.elim h
  | ex => rw [ei] at h; exact False.elim h
  | ok p S1 =>
    rw [ei] at h
    obtain ⟨xs, ls⟩ := p
    have h : PoS G n0 g F r ((forR t fb xs env S1).unl ls) D := h
    intro F1 r1 H1 J g' x1 s1 its ul
    have ul : ∀ F2 r2 S2 H2, HR G n0 g' F2 r2 S2 H2 → Ext F1 F2 r1 r2 → HR G n0 g F2 r2 (unlock ls S2) H2 := ul
    have its : Its G n0 g' F1 r1 J xs := its
    refine ⟨fun i m σ' H' => m = xs.length - i ∧ i ≤ xs.length ∧ ∃ F2 r2 env2 S2, Ext F1 F2 r1 r2 ∧ Sg G n0 g' F2 r2 env2 σ' S2 H' ∧ PoS G n0 g F r ((forR t fb (xs.drop i) env2 S2).unl ls) D,
      ⟨xs.length, rfl, Nat.zero_le _, F1, r1, env, S1, .refl _ _, s1, h⟩, ?_⟩
    rintro i m σ2 H2 ⟨rfl, hi, F2, r2, env2, S2, x2, s2, h2⟩
    obtain ⟨ig, ie⟩ := its g' (.refl g') F2 r2 S2 H2 s2.hr x2
    by_cases hlt : i < xs.length
    · have hx : xs[i]? = some xs[i] := List.getElem?_eq_getElem hlt
      have hd : xs.drop i = xs[i] :: xs.drop (i + 1) := List.drop_eq_getElem_cons hlt
      rw [hd] at h2
      obtain ⟨go, yl⟩ := ig i xs[i] hx
      refine .inr ⟨go, fun σ' H' => (xs.length - (i + 1)) < xs.length - i ∧ ∃ F2 r2 env2 S2, Ext F1 F2 r1 r2 ∧ Sg G n0 g' F2 r2 env2 σ' S2 H' ∧ PoS G n0 g F r ((forR t fb (xs.drop (i + 1)) env2 S2).unl ls) D,
        fun σ' H' ⟨q0, q⟩ => ⟨_, q0, rfl, hlt, q⟩, fun v H3 hy => ?_⟩
      obtain ⟨F3, x3, hr3, q3⟩ := yl v H3 hy
      have h3 : PoS G n0 g F r ((match t xs[i] env2 S2 with
        | none => RS.no
        | some env' => match fb env' S2 with
          | .nx e S' => forR t fb (xs.drop (i + 1)) e S'
          | .ct e S' => forR t fb (xs.drop (i + 1)) e S'
          | .bk e S' => .nx e S'
          | z => z).unl ls) D := h2
      cases et : t xs[i] env2 S2 with
      | none => rw [et] at h3; exact False.elim h3
      | some env3 =>
        simp only [et] at h3
        refine ht n0 g' F3 r2 env2 σ2 S2 H3 xs[i] v env3 _ (s2.ext x3 hr3) q3 et fun σ3 s3 => ?_
        refine ⟨F3, r2, env3, S2, g', s3, ?_⟩
        have xx : Ext F1 F3 r1 r2 := x2.trans x3
        cases eb : fb env3 S2 with
        | nx e S' =>
          rw [eb] at h3
          exact fun F4 r4 H4 σ4 x4 s4 => ⟨by omega, F4, r4, e, S', xx.trans x4, s4, h3⟩
        | ct e S' =>
          rw [eb] at h3
          exact fun F4 r4 H4 σ4 x4 s4 => ⟨by omega, F4, r4, e, S', xx.trans x4, s4, h3⟩
        | bk e S' =>
          rw [eb] at h3
          exact fun F4 r4 H4 σ4 x4 s4 => h3 F4 r4 H4 σ4 ((x1.trans xx).trans x4) ⟨ul F4 r4 S' H4 s4.hr (xx.trans x4), s4.sl, s4.vr⟩
        | rt w S' =>
          rw [eb] at h3
          exact fun F4 r4 H4 u4 x4 s4 q4 => h3 F4 r4 H4 u4 ((x1.trans xx).trans x4) (ul F4 r4 S' H4 s4 (xx.trans x4)) q4
        | ex => rw [eb] at h3; exact False.elim h3
        | no => rw [eb] at h3; exact False.elim h3
    · have e : i = xs.length := by omega
      subst e
      rw [List.drop_length] at h2
      exact .inl ⟨ie _ (Nat.le_refl _), h2 F2 r2 H2 σ2 (x1.trans x2) ⟨ul F2 r2 S2 H2 s2.hr x2, s2.sl, s2.vr⟩⟩
theorem ss_whl {n : Nat} {tc : ST} (hf : PS X st (tWhile (rdT G n0 tc) (rdS G n0 fb))) : PS X st (rdS G n0 (sWhl n tc fb)) := by
  refine psI hf fun D σ H ⟨F, r, env, S, g, s, h⟩ => ?_
  refine ⟨fun m σ' H' => ∃ F2 r2 env2 S2, Ext F F2 r r2 ∧ Sg G n0 g F2 r2 env2 σ' S2 H' ∧ PoS G n0 g F r (whileR tc fb m env2 S2) D, ⟨n, F, r, env, S, .refl _ _, s, h⟩, ?_⟩
  rintro m σ2 H2 ⟨F2, r2, env2, S2, x2, s2, h2⟩
  cases m with
  | zero => exact False.elim h2
  | succ m =>
    have h2 : PoS G n0 g F r ((tc env2 S2).go fun t S1 => if t = true then
      match fb env2 S1 with
      | .nx e S' => whileR tc fb m e S'
      | .ct e S' => whileR tc fb m e S'
      | .bk e S' => .nx e S'
      | z => z
      else .nx env2 S1) D := h2
    refine ⟨F2, r2, env2, S2, g, s2, ?_⟩
    cases ec : tc env2 S2 with
    | no => rw [ec] at h2; exact False.elim h2
    | ex => rw [ec] at h2; exact False.elim h2
    | ok b S3 =>
      rw [ec] at h2
      intro F3 r3 H3 x3 s3
      cases b with
      | false => exact h2 F3 r3 H3 σ2 (x2.trans x3) s3
      | true =>
        rw [if_pos rfl]
        refine ⟨fun σ' H' => ∃ F2 r2 env2 S2, Ext F F2 r r2 ∧ Sg G n0 g F2 r2 env2 σ' S2 H' ∧ PoS G n0 g F r (whileR tc fb m env2 S2) D, fun σ' H' q => ⟨m, Nat.lt_succ_self m, q⟩, F3, r3, env2, S3, g, s3, ?_⟩
        have h3 : PoS G n0 g F r (match fb env2 S3 with
          | .nx e S' => whileR tc fb m e S'
          | .ct e S' => whileR tc fb m e S'
          | .bk e S' => .nx e S'
          | z => z) D := h2
        have xx : Ext F F3 r r3 := x2.trans x3
        cases eb : fb env2 S3 with
        | nx e S' => rw [eb] at h3; exact fun F4 r4 H4 σ4 x4 s4 => ⟨F4, r4, e, S', xx.trans x4, s4, h3⟩
        | ct e S' => rw [eb] at h3; exact fun F4 r4 H4 σ4 x4 s4 => ⟨F4, r4, e, S', xx.trans x4, s4, h3⟩
        | bk e S' => rw [eb] at h3; exact fun F4 r4 H4 σ4 x4 s4 => h3 F4 r4 H4 σ4 (xx.trans x4) s4
        | rt w S' => rw [eb] at h3; exact fun F4 r4 H4 u4 x4 s4 q4 => h3 F4 r4 H4 u4 (xx.trans x4) s4 q4
        | ex => rw [eb] at h3; exact False.elim h3
        | no => rw [eb] at h3; exact False.elim h3
end
end PX
set_option Elab.async false
set_option linter.all false
set_option maxRecDepth 100000
namespace PX
open PySem PySem.Spec PyProof.Rows L2

section
variable {G : Gam} {n0 : Nat} {g : Gh} {F : Hp} {r : List Addr} {S : Store} {H : Hp}
theorem rv_of_ro {a : Addr} {ho : HO} {v : PV} (hF : F a = some ho) (ro : RO G F r v ho) (hu : unl v = v) : RV G F r v (.ref a) := by
  unfold RO at ro
  rw [hu] at ro
  split at ro
  · obtain ⟨us, rfl, k⟩ := ro
    exact ⟨a, us, rfl, .inl hF, k⟩
  · obtain ⟨us, d, k⟩ := ro
    exact ⟨a, us, ho, rfl, hF, d, k⟩
  · obtain ⟨dx, us, rfl, l, k⟩ := ro
    exact ⟨a, dx, us, rfl, hF, l, k⟩
  · exact ro.elim
/-! the young objects are frozen, but the one at t -/
def frF (n0 t : Nat) (g : Gh) (F : Hp) (r : List Addr) (H : Hp) : Hp := fun a => open Classical in if a ∈ r.drop n0 ∧ g.pn a = none ∧ r[t]? ≠ some a then H a else F a
theorem frF_le (h : HR G n0 g F r S H) (t : Nat) : Le F (frF n0 t g F r H) := fun a o e => by
  unfold frF
  rw [if_neg (fun z => by rw [h.off a (List.mem_of_mem_drop z.1)] at e; cases e)]
  exact e
theorem frF_sub (h : HR G n0 g F r S H) (t : Nat) : Le (frF n0 t g F r H) H := fun a o e => by
  unfold frF at e
  split at e
  · exact e
  · exact h.sub a o e
theorem take_at (h : HR G n0 g F r S H) {i : Nat} {a : Addr} (hi : i < n0) (e : r[i]? = some a) : (r.take n0)[i]? = some a := by
  rw [List.getElem?_take, if_pos hi]
  exact e
theorem frF_at (h : HR G n0 g F r S H) {t i : Nat} {a : Addr} {ob : PV} (hi : ¬ i < n0) (ht : i ≠ t) (e : r[i]? = some a) (eo : S[i]? = some ob) (hu : unl ob = ob) : frF n0 t g F r H a = H a := by
  unfold frF
  refine if_pos ⟨?_, h.nopin e eo hu, fun e2 => ?_⟩
  · have : (r.drop n0)[i - n0]? = some a := by
      rw [List.getElem?_drop]
      rw [show n0 + (i - n0) = i by omega]
      exact e
    exact List.mem_of_getElem? this
  · obtain ⟨h1, e1⟩ := List.getElem?_eq_some_iff.mp e
    obtain ⟨h2, e2⟩ := List.getElem?_eq_some_iff.mp e2
    exact ht ((List.getElem_inj h.nd).mp (e1.trans e2.symm))
section
variable {t : Nat} (h : HR G n0 g F r S H)
include h
theorem frzL_ok {f : PV → Option PV} (hf : ∀ v u w, RV G F r v u → f v = some w → RV G (frF n0 t g F r H) (r.take n0) w u) : ∀ {vs : List PV} {us : List V} {ws : List PV}, RVs G F r vs us → frzL f vs = some ws → RVs G (frF n0 t g F r H) (r.take n0) ws us
  | [], us, ws, q, e => by cases e; exact q
  | v :: vs, us, ws, q, e => by
    obtain ⟨u, ur, rfl, k, l⟩ := q
    unfold frzL at e
    cases e1 : f v with
    | none => rw [e1] at e; cases e
    | some w =>
      simp only [e1] at e
      cases e2 : frzL f vs with
      | none => rw [e2] at e; cases e
      | some ws' =>
        rw [e2] at e
        cases e
        exact ⟨u, ur, rfl, hf v u w k e1, frzL_ok hf l e2⟩
theorem frzO_ok {f : PV → Option PV} (hf : ∀ v u w, RV G F r v u → f v = some w → RV G (frF n0 t g F r H) (r.take n0) w u) {o w : PV} {ho : HO} (q : RO G F r o ho) (e : frzO f o = some w) : RO G (frF n0 t g F r H) (r.take n0) w ho ∧ unl w = w ∧ unl o = o := by
  unfold frzO at e
  split at e
  · cases e1 : frzL f ‹_› with
    | none => rw [e1] at e; cases e
    | some ws =>
      rw [e1] at e
      cases e
      obtain ⟨us, rfl, k⟩ := q
      exact ⟨⟨us, rfl, frzL_ok h hf k e1⟩, rfl, rfl⟩
  · cases e1 : frzL f ‹List PV› with
    | none => rw [e1] at e; cases e
    | some ws =>
      rw [e1] at e
      cases e
      obtain ⟨us, d, k⟩ := q
      exact ⟨⟨us, d, frzL_ok h hf k e1⟩, rfl, rfl⟩
  · cases e1 : frzL f ‹List PV› with
    | none => rw [e1] at e; cases e
    | some ws =>
      rw [e1] at e
      cases e
      obtain ⟨dx, us, rfl, l, k⟩ := q
      exact ⟨⟨dx, us, rfl, l, frzL_ok h hf k e1⟩, rfl, rfl⟩
  · cases e
theorem frz_ok : ∀ (k : Nat) (v : PV) (u : V) (w : PV), RV G F r v u → frz n0 t S k v = some w → RV G (frF n0 t g F r H) (r.take n0) w u
  | 0, _, _, _, _, e => by cases e
  | k + 1, v, u, w, q, e => by
    have ih := frz_ok k
    have le := frF_le h t
    cases v with
    | non => cases e; exact q
    | bl => cases e; exact q
    | int => cases e; exact q
    | str => cases e; exact q
    | lck => cases e
    | ref i =>
      have e : (if i < n0 then some (.ref i) else if i = t then none else match S[i]? with
        | some o => frzO (frz n0 t S k) o
        | none => none) = some w := e
      split at e
      · rename_i hi
        cases e
        obtain ⟨a, e1, rfl⟩ := q
        exact ⟨a, take_at h hi e1, rfl⟩
      · rename_i hi
        split at e
        · cases e
        · rename_i ht
          cases eo : S[i]? with
          | none => rw [eo] at e; cases e
          | some o =>
            simp only [eo] at e
            obtain ⟨a, ho, rfl, e1, e2, e3⟩ := h.ref q eo
            obtain ⟨z1, z2, z3⟩ := frzO_ok h ih e3 e
            exact rv_of_ro (by rw [frF_at h hi ht e1 eo z3]; exact e2) z1 z2
    | tup xs =>
      have e : (frzL (frz n0 t S k) xs).map .tup = some w := e
      cases e1 : frzL (frz n0 t S k) xs with
      | none => rw [e1] at e; cases e
      | some ws =>
        rw [e1] at e; cases e
        obtain ⟨a, us, rfl, k1, k2⟩ := q
        exact ⟨a, us, rfl, le _ _ k1, frzL_ok h ih k2 e1⟩
    | lst xs =>
      have e : (frzL (frz n0 t S k) xs).map .lst = some w := e
      cases e1 : frzL (frz n0 t S k) xs with
      | none => rw [e1] at e; cases e
      | some ws =>
        rw [e1] at e; cases e
        obtain ⟨a, us, rfl, k1, k2⟩ := q
        exact ⟨a, us, rfl, le.rd k1, frzL_ok h ih k2 e1⟩
    | dct ks vs =>
      have e : (frzL (frz n0 t S k) vs).map (.dct ks) = some w := e
      cases e1 : frzL (frz n0 t S k) vs with
      | none => rw [e1] at e; cases e
      | some ws =>
        rw [e1] at e; cases e
        obtain ⟨a, us, ho, rfl, k1, d, k2⟩ := q
        exact ⟨a, us, ho, rfl, le _ _ k1, d, frzL_ok h ih k2 e1⟩
    | ins c ns vs =>
      have e : (frzL (frz n0 t S k) vs).map (.ins c ns) = some w := e
      cases e1 : frzL (frz n0 t S k) vs with
      | none => rw [e1] at e; cases e
      | some ws =>
        rw [e1] at e; cases e
        obtain ⟨a, dx, us, rfl, k1, d, k2⟩ := q
        exact ⟨a, dx, us, rfl, le _ _ k1, d, frzL_ok h ih k2 e1⟩
/-! what stays -/
theorem frz_hr (t : Nat) : HR G n0 g (frF n0 t g F r H) (r.take n0) (S.take n0) H := by
  have hnd : r.Nodup := h.nd
  have apart : ∀ a, a ∈ r.take n0 → a ∈ r.drop n0 → False := fun a h1 h2 => by
    have e : r = r.take n0 ++ r.drop n0 := (List.take_append_drop n0 r).symm
    rw [e] at hnd
    exact (List.nodup_append.mp hnd).2.2 a h1 a h2 rfl
  refine ⟨frF_sub h t, (List.take_sublist n0 r).nodup hnd, fun a ha => ?_, by rw [List.length_take, List.length_take, h.len], by rw [List.length_take]; have := h.nle; omega, h.lle, fun i ob a e1 e2 => ?_, fun a o e => ?_, fun i ob a e1 e2 => ?_, fun a o e el ha => h.out a o e el (List.mem_of_mem_take ha)⟩
  · unfold frF
    rw [if_neg (fun z => apart a ha z.1)]
    exact h.off a (List.mem_of_mem_take ha)
  · rw [List.getElem?_take] at e1 e2
    split at e1
    · rename_i hi
      rw [if_pos hi] at e2
      obtain ⟨ho, q1, q2⟩ := h.obj i ob a e1 e2
      refine ⟨ho, q1, RO.mono (frF_le h t) (fun j b e => ?_) q2⟩
      unfold lim at e ⊢
      rw [if_pos hi] at e ⊢
      have hl := h.lle i hi
      rw [List.getElem?_take] at e ⊢
      split at e
      · rename_i hj
        rw [if_pos hj, List.getElem?_take, if_pos (by omega)]
        exact e
      · cases e
    · cases e1
  · obtain ⟨q1, q2, q3⟩ := h.pin a o e
    refine ⟨q1, ?_, fun i hi => ?_⟩
    · unfold frF
      rw [if_neg (fun z => by rw [z.2.1] at e; cases e)]
      exact q2
    · rw [List.getElem?_take] at hi
      split at hi
      · rename_i hi'
        obtain ⟨ob, hb⟩ := q3 i hi
        exact ⟨ob, by rw [List.getElem?_take, if_pos hi']; exact hb⟩
      · cases hi
  · rw [List.getElem?_take] at e1 e2
    split at e1
    · rename_i hi
      rw [if_pos hi] at e2
      exact h.lckd i ob a e1 e2
    · cases e1
end
/-! behind a call -/
theorem norm_ok {v v' : PV} {u : V} {b : Bool} {S' : Store} (h : HR G n0 g F r S H) (q : RV G F r v u) (e : norm n0 v S = .ok (b, v') S') :
    ∃ F', Le F F' ∧ HR G n0 g F' (r.take n0) S' H ∧ RF G g F' (r.take n0) H b v' u := by
  have hl := h.nle
  unfold norm at e
  split at e
  · rename_i hs
    cases e
    have e2 : r.take n0 = r := List.take_of_length_le (by rw [h.len, hs]; exact Nat.le_refl _)
    rw [e2]
    exact ⟨F, .refl F, h, q⟩
  · have any : ∀ w, frz n0 S.length S 8 v = some w → ∃ F', Le F F' ∧ HR G n0 g F' (r.take n0) (S.take n0) H ∧ RF G g F' (r.take n0) H false w u := fun w e =>
      ⟨_, frF_le h S.length, frz_hr h S.length, frz_ok h 8 v u w q e⟩
    split at e
    · rename_i i
      split at e
      · rename_i hi
        cases e
        obtain ⟨a, e1, rfl⟩ := q
        exact ⟨_, frF_le h i, frz_hr h i, ⟨a, take_at h hi e1, rfl⟩⟩
      · rename_i hi
        cases eo : S[i]? with
        | none => simp only [eo] at e; cases e
        | some o =>
          simp only [eo] at e
          cases ew : frzO (frz n0 i S 8) o with
          | none => simp only [ew] at e; cases e
          | some w =>
            simp only [ew] at e
            cases e
            obtain ⟨a, ho, rfl, e1, e2, e3⟩ := h.ref q eo
            obtain ⟨z1, z2, z3⟩ := frzO_ok h (frz_ok h 8) e3 ew
            refine ⟨_, frF_le h i, frz_hr h i, ⟨a, ho, rfl, e2, ?_, fun hm => ?_, h.nopin e1 eo z3, z1, z2⟩⟩
            · unfold frF
              rw [if_neg (fun z => z.2.2 e1)]
              exact h.off a (List.mem_of_getElem? e1)
            · obtain ⟨j, hj, ej⟩ := List.getElem_of_mem hm
              have hj2 : j < n0 := by rw [List.length_take] at hj; omega
              rw [List.getElem_take] at ej
              obtain ⟨h2, e2⟩ := List.getElem?_eq_some_iff.mp e1
              have := (List.getElem_inj h.nd).mp (ej.trans e2.symm)
              omega
    · cases ew : frz n0 S.length S 8 v with
      | none => rw [ew] at e; cases e
      | some w =>
        rw [ew] at e
        cases e
        exact any _ ew

/-! ### what a def promises -/
def spF (G : Gam) (cf : CF) (f np : Nat) : Sp := fun vs H Q _ => ∃ F r S g n0 args, HR G n0 g F r S H ∧ RVs G F r args vs ∧ args.length = np ∧ match cf f args n0 S with
  | .ok v S' => ∀ F' r' H' u, Ext F F' r r' → HR G n0 g F' r' S' H' → RV G F' r' v u → Q u H'
  | _ => False
theorem spF_len {cf : CF} {f np : Nat} : ∀ vs H Q E, spF G cf f np vs H Q E → vs.length = np := fun vs H Q E ⟨F, r, S, g, n0, args, _, q, l, _⟩ => by rw [← RVs.length q, l]
/-! the callee's frame -/
def subG (n0 : Nat) (g : Gh) (n : Nat) : Gh := ⟨fun i => if i < n0 then g.L i else n, g.pn, g.lk⟩
theorem HR.call (h : HR G n0 g F r S H) : HR G S.length (subG n0 g S.length) F r S H := by
  refine ⟨h.sub, h.nd, h.off, h.len, Nat.le_refl _, fun i hi => ?_, fun i ob a e1 e2 => ?_, h.pin, h.lckd, h.out⟩
  · unfold subG
    show (if i < n0 then g.L i else S.length) ≤ S.length
    split
    · rename_i h1
      exact Nat.le_trans (h.lle i h1) h.nle
    · exact Nat.le_refl _
  · obtain ⟨ho, q1, q2⟩ := h.obj i ob a e1 e2
    refine ⟨ho, q1, RO.mono (.refl F) (fun j b e => ?_) q2⟩
    have hi : i < S.length := (List.getElem?_eq_some_iff.mp e1).1
    unfold lim at e ⊢
    rw [if_pos hi]
    unfold subG
    show (r.take (if i < n0 then g.L i else S.length))[j]? = some b
    split at e
    · rename_i h1
      rw [if_pos h1]
      exact e
    · rename_i h1
      rw [if_neg h1, ← h.len, List.take_length]
      exact e
/-! back from the callee: S the caller's store at the call, r its places -/
theorem HR.back {F2 : Hp} {S2 : Store} {H2 : Hp} (h : HR G n0 g F r S H) (k : HR G S.length (subG n0 g S.length) F2 r S2 H2) : HR G n0 g F2 r S2 H2 := by
  refine ⟨k.sub, k.nd, k.off, k.len, Nat.le_trans h.nle k.nle, h.lle, fun i ob a e1 e2 => ?_, k.pin, k.lckd, k.out⟩
  obtain ⟨ho, q1, q2⟩ := k.obj i ob a e1 e2
  refine ⟨ho, q1, RO.mono (.refl F2) (fun j b e => ?_) q2⟩
  have hi : i < S.length := by
    rw [← h.len, k.len]
    exact (List.getElem?_eq_some_iff.mp e1).1
  unfold lim at e ⊢
  rw [if_pos hi] at e
  unfold subG at e
  have e : (r.take (if i < n0 then g.L i else S.length))[j]? = some b := e
  split
  · rename_i h1
    rw [if_pos h1] at e
    exact e
  · rename_i h1
    rw [if_neg h1, ← h.len, List.take_length] at e
    exact e
theorem take_ext {F2 : Hp} {r2 : List Addr} (h : HR G n0 g F r S H) (x : Ext F F2 r r2) : r2.take S.length = r := by
  obtain ⟨t, ht⟩ := x.2
  rw [← ht, ← h.len, List.take_left']
  rfl
end
section
variable {X : Cx} {G : Gam} {n0 : Nat} {a : Expr} {es : List Expr} {fs : SA} {e : Expr} {cf : CF} {np f : Nat}
/-! f(..) -/
theorem run_call {g : Gh} {F0 F : Hp} {r0 r : List Addr} {env : Env} {σ : L2.St} {S : Store} {H : Hp} {Q : VK} {E : XK} {args : List PV} {us : List V} (s : Sg G n0 g F r env σ S H) (x0 : Ext F0 F r0 r) (q : RVs G F r args us) (hl : args.length = np)
    (h : PoE G n0 g F0 r0 env σ ((cutX S.length (cf f args S.length S)).bind fun v S2 => norm S.length v S2) Q) : spF G cf f np us H Q E := by
  refine ⟨F, r, S, subG n0 g S.length, S.length, args, s.hr.call, q, hl, ?_⟩
  cases ec : cf f args S.length S with
  | no => rw [ec] at h; exact h
  | ex => rw [ec] at h; exact h
  | ok v S2 =>
    rw [ec] at h
    intro F2 r2 H2 u x2 h2 q2
    have h : PoE G n0 g F0 r0 env σ (norm S.length v S2) Q := h
    cases en : norm S.length v S2 with
    | no => rw [en] at h; exact h.elim
    | ex => rw [en] at h; exact h.elim
    | ok p S3 =>
      rw [en] at h
      obtain ⟨b, w⟩ := p
      obtain ⟨F3, x3, h3, q3⟩ := norm_ok h2 q2 en
      rw [take_ext s.hr x2] at h3 q3
      have x4 : Ext F F3 r r := ⟨x2.1.trans x3, List.prefix_refl r⟩
      exact h F3 r H2 u (x0.trans x4) (s.ext x4 (s.hr.back h3)) q3
theorem se_call (hp : PE X e (tCall (spF G cf f np) [] E0 (rdA G n0 fs))) : PE X e (rdE G n0 (eCall cf np f fs)) := by
  refine peI hp fun σ H Q ⟨F, r, env, S, g, s, h⟩ => ?_
  refine stA s cnE h fun p S1 F1 r1 H1 us x1 s1 q1 h1 => ?_
  split at h1
  · rename_i hl
    rw [List.append_nil]
    exact run_call s1 x1 q1 hl h1
  · exact h1.elim
/-! a def: its body gives its promise -/
theorem sg_start {g : Gh} {F : Hp} {r : List Addr} {S : Store} {H : Hp} {N : List Str} {nl : Nat} {args : List PV} {vs : List V} (h : HR G n0 g F r S H) (q : RVs G F r args vs) (hl : args.length = np) (hn : nl - np = N.length - np) :
    Sg G n0 g F r (args.map some ++ List.replicate (nl - np) none) (L2.start N vs) S H := by
  have l := RVs.length q
  refine ⟨h, ?_, fun i v e => ?_⟩
  · unfold L2.start
    rw [List.length_append, List.length_append, List.length_map, List.length_map, List.length_replicate, List.length_replicate, ← l, hl, hn]
  · by_cases hi : i < args.length
    · rw [List.getElem?_append_left (by rw [List.length_map]; exact hi), List.getElem?_map] at e
      cases ea : args[i]? with
      | none => rw [ea] at e; cases e
      | some w =>
        rw [ea] at e
        cases e
        obtain ⟨u, e1, q1⟩ := RVs.get q ea
        refine ⟨u, ?_, q1⟩
        unfold L2.start
        rw [List.getElem?_append_left (by rw [List.length_map, ← l]; exact hi), List.getElem?_map, e1]
        rfl
    · rw [List.getElem?_append_right (by rw [List.length_map]; omega), List.getElem?_replicate] at e
      split at e <;> cases e
theorem body_ok {T : Nat → Option FnB} {n : Nat} {b : FnB} {N : List Str} {vs : List V} {H : Hp} {Q : VK} {E : XK} (hT : T f = some b) (hn : b.nl = N.length) (h : spF G (callF T (n + 1)) f b.np vs H Q E) :
    ∃ n0, rdS G n0 (b.body (callF T n) n0) { nx := fun _ H' => Q .non H', rt := Q } (L2.start N vs) H := by
  obtain ⟨F, r, S, g, n0, args, hr, q, l, h⟩ := h
  refine ⟨n0, F, r, _, S, g, sg_start (nl := b.nl) hr q l (by rw [hn]), ?_⟩
  have h : (match (match T f with
    | some b => runB b (callF T n) args n0 S
    | none => R.no) with
    | .ok v S' => ∀ F' r' H' u, Ext F F' r r' → HR G n0 g F' r' S' H' → RV G F' r' v u → Q u H'
    | _ => False) := h
  rw [hT] at h
  simp only [runB] at h
  rw [if_pos l] at h
  cases eb : b.body (callF T n) n0 (args.map some ++ List.replicate (b.nl - b.np) none) S with
  | nx env' S' => rw [eb] at h; exact fun F' r' H' σ' x s' => h F' r' H' .non x s'.hr rfl
  | rt v S' => rw [eb] at h; exact h
  | bk => rw [eb] at h; exact h.elim
  | ct => rw [eb] at h; exact h.elim
  | ex => rw [eb] at h; exact h.elim
  | no => rw [eb] at h; exact h.elim
end
end PX
set_option Elab.async false
set_option linter.all false
set_option maxRecDepth 100000
namespace PX
open PySem
/-! ### data -/
def toDL (f : PV → Option PyData) : List PV → Option (List PyData)
  | [] => some []
  | v :: vs => match f v with
    | some d => match toDL f vs with
      | some ds => some (d :: ds)
      | none => none
    | none => none
def toD (S : Store) : Nat → PV → Option PyData
  | 0, v => match v with
    | .non => some .none
    | .bl b => some (.bool b)
    | .int i => some (.int i)
    | .str x => if PyData.strOk x then some (.str x) else none
    | _ => none
  | k + 1, v => match deref S v with
    | some .non => some .none
    | some (.bl b) => some (.bool b)
    | some (.int i) => some (.int i)
    | some (.str x) => if PyData.strOk x then some (.str x) else none
    | some (.lst xs) => (toDL (toD S k) xs).map .list
    | some (.tup xs) => (toDL (toD S k) xs).map .tuple
    | _ => none
def eqD (S : Store) (v w : PV) : Option Bool := match toD S 6 v with
  | some d => match toD S 6 w with
    | some e => some (PyData.eqv d e)
    | none => none
  | none => none
def oEq : Op2 := fun x y S => (eqD S x y).map fun b => (false, .bl b)
def oNe : Op2 := fun x y S => (eqD S x y).map fun b => (false, .bl (!b))
def oIsN : Op2 := fun x y S => match y with
  | .non => match deref S x with
    | some .non => some (false, .bl true)
    | some _ => some (false, .bl false)
    | none => none
  | _ => none
def oNotN : Op2 := fun x y S => match y with
  | .non => match deref S x with
    | some .non => some (false, .bl false)
    | some _ => some (false, .bl true)
    | none => none
  | _ => none
/-! ### built-in functions by values -/
def intsOf : List PV → Option (List Int)
  | [] => some []
  | .int i :: r => (intsOf r).map (i :: ·)
  | _ :: _ => none
def blsOf : List PV → Option (List Bool)
  | [] => some []
  | .bl i :: r => (blsOf r).map (i :: ·)
  | _ :: _ => none
def bLen : OpN := fun xs S => match xs with
  | [v] => match deref S v with
    | some (.lst xs) => some (false, .int xs.length)
    | some (.tup xs) => some (false, .int xs.length)
    | _ => none
  | _ => none
def bSum : OpN := fun xs S => match xs with
  | [v] => match itemsOf S v with
    | some ws => (intsOf ws).map fun ns => (false, .int ns.sum)
    | none => none
  | _ => none
def bTuple : OpN := fun xs S => match xs with
  | [v] => match itemsOf S v with
    | some ws => some (false, .tup ws)
    | none => none
  | _ => none
def bList : OpN := fun xs S => match xs with
  | [v] => match itemsOf S v with
    | some ws => some (true, .lst ws)
    | none => none
  | _ => none
def bInt : OpN := fun xs _ => match xs with
  | [.int i] => some (false, .int i)
  | [.bl b] => some (false, .int (if b then 1 else 0))
  | _ => none
def bAbs : OpN := fun xs _ => match xs with
  | [.int i] => some (false, .int (if i < 0 then -i else i))
  | _ => none
def bMax2 : OpN := fun xs _ => match xs with
  | [.int i, .int j] => some (false, .int (if j > i then j else i))
  | _ => none
def bMin2 : OpN := fun xs _ => match xs with
  | [.int i, .int j] => some (false, .int (if j < i then j else i))
  | _ => none
end PX
namespace PX
open PySem PySem.Spec PyProof.Rows L2

section
variable {X : Cx} {G : Gam}
/-! ### ints -/
theorem ok_add : Ok2 G oAdd (rI0 fun i j => .int (i + j)) := fun n0 g F r S H x y u v z Q h q1 q2 e k => by
  unfold oAdd at e
  split at e
  · cases e
    exact ⟨_, _, q1, q2, k F r H _ (.refl F r) h rfl⟩
  · cases e
theorem ok_sub : Ok2 G oSub (rI0 fun i j => .int (i - j)) := fun n0 g F r S H x y u v z Q h q1 q2 e k => by
  unfold oSub at e
  split at e
  · cases e
    exact ⟨_, _, q1, q2, k F r H _ (.refl F r) h rfl⟩
  · cases e
theorem ok_mul : Ok2 G oMul (rI CMul fun i j => .int (i * j)) := fun n0 g F r S H x y u v z Q h q1 q2 e k => by
  unfold oMul at e
  split at e
  · split at e
    · rename_i hm
      cases e
      refine ⟨_, _, q1, q2, ?_, k F r H _ (.refl F r) h rfl⟩
      unfold mulOk at hm
      simp only [Bool.or_eq_true, Bool.and_eq_true, decide_eq_true_eq] at hm
      unfold CMul
      omega
    · cases e
  · cases e
theorem ok_div : Ok2 G oDiv (rI CDiv fun i j => .int (i / j)) := fun n0 g F r S H x y u v z Q h q1 q2 e k => by
  unfold oDiv at e
  split at e
  · split at e
    · rename_i hm
      cases e
      exact ⟨_, _, q1, q2, hm, k F r H _ (.refl F r) h rfl⟩
    · cases e
  · cases e
theorem ok_mod : Ok2 G oMod (rI (fun _ j => 0 < j) fun i j => .int (i % j)) := fun n0 g F r S H x y u v z Q h q1 q2 e k => by
  unfold oMod at e
  split at e
  · split at e
    · rename_i hm
      cases e
      exact ⟨_, _, q1, q2, hm, k F r H _ (.refl F r) h rfl⟩
    · cases e
  · cases e
theorem ok_neg : Ok1 G oNeg (rU fun i => .int (-i)) := fun n0 g F r S H x u z Q h q1 e k => by
  unfold oNeg at e
  split at e
  · cases e
    exact ⟨_, q1, k F r H _ (.refl F r) h rfl⟩
  · cases e
theorem ok_lt : Ok2 G oLt (rI0 fun i j => .bl (decide (i < j))) := fun n0 g F r S H x y u v z Q h q1 q2 e k => by
  unfold oLt at e
  split at e
  · cases e
    exact ⟨_, _, q1, q2, k F r H _ (.refl F r) h rfl⟩
  · cases e
theorem ok_le : Ok2 G oLe (rI0 fun i j => .bl (decide (i ≤ j))) := fun n0 g F r S H x y u v z Q h q1 q2 e k => by
  unfold oLe at e
  split at e
  · cases e
    exact ⟨_, _, q1, q2, k F r H _ (.refl F r) h rfl⟩
  · cases e
theorem ok_gt : Ok2 G oGt (rI0 fun i j => .bl (decide (j < i))) := fun n0 g F r S H x y u v z Q h q1 q2 e k => by
  unfold oGt at e
  split at e
  · cases e
    exact ⟨_, _, q1, q2, k F r H _ (.refl F r) h rfl⟩
  · cases e
theorem ok_ge : Ok2 G oGe (rI0 fun i j => .bl (decide (j ≤ i))) := fun n0 g F r S H x y u v z Q h q1 q2 e k => by
  unfold oGe at e
  split at e
  · cases e
    exact ⟨_, _, q1, q2, k F r H _ (.refl F r) h rfl⟩
  · cases e
/-! ### data -/
theorem toDL_ok {n0 : Nat} {g : Gh} {F : Hp} {r : List Addr} {S : Store} {H : Hp} {f : PV → Option PyData} {k : Nat} (h : HR G n0 g F r S H)
    (hf : ∀ v u d, RV G F r v u → f v = some d → Dp G.K H u d ∧ d.canLay0 = true ∧ d.depth ≤ k) : ∀ {vs : List PV} {us : List V} {ds : List PyData}, RVs G F r vs us → toDL f vs = some ds → DpAll G.K H us ds ∧ PyData.canLayAll0 ds = true ∧ PyData.depthAll ds ≤ k
  | [], us, ds, q, e => by
    cases e
    have e1 : us = [] := q
    subst e1
    exact ⟨.nil, rfl, Nat.zero_le _⟩
  | v :: vs, us, ds, q, e => by
    obtain ⟨u, ur, rfl, q1, q2⟩ := q
    unfold toDL at e
    cases e1 : f v with
    | none => rw [e1] at e; cases e
    | some d =>
      simp only [e1] at e
      cases e2 : toDL f vs with
      | none => rw [e2] at e; cases e
      | some ds' =>
        rw [e2] at e
        cases e
        obtain ⟨a1, a2, a3⟩ := hf v u d q1 e1
        obtain ⟨b1, b2, b3⟩ := toDL_ok h hf q2 e2
        refine ⟨.cons a1 b1, ?_, ?_⟩
        · simp only [PyData.canLayAll0, a2, b2, Bool.and_self]
        · simp only [PyData.depthAll]
          exact Nat.max_le.mpr ⟨a3, b3⟩
theorem toD_ok {n0 : Nat} {g : Gh} {F : Hp} {r : List Addr} {S : Store} {H : Hp} (h : HR G n0 g F r S H) : ∀ (k : Nat) (v : PV) (u : V) (d : PyData), RV G F r v u → toD S k v = some d → Dp G.K H u d ∧ d.canLay0 = true ∧ d.depth ≤ k
  | 0, v, u, d, q, e => by
    unfold toD at e
    split at e
    · cases e; cases (show u = .non from q); exact ⟨.non, rfl, Nat.le_refl _⟩
    · cases e; cases (show u = .bl _ from q); exact ⟨.bl _, rfl, Nat.le_refl _⟩
    · cases e; cases (show u = .int _ from q); exact ⟨.int _, rfl, Nat.le_refl _⟩
    · split at e
      · rename_i hs
        cases e; cases (show u = .str _ from q); exact ⟨.str _, hs, Nat.le_refl _⟩
      · cases e
    · cases e
  | k + 1, v, u, d, q, e => by
    unfold toD at e
    split at e
    · rename_i ed
      cases e; cases view_non h q ed; exact ⟨.non, rfl, Nat.zero_le _⟩
    · rename_i ed
      cases e; cases view_bl h q ed; exact ⟨.bl _, rfl, Nat.zero_le _⟩
    · rename_i ed
      cases e; cases view_int h q ed; exact ⟨.int _, rfl, Nat.zero_le _⟩
    · rename_i ed
      split at e
      · rename_i hs
        cases e; cases view_str h q ed; exact ⟨.str _, hs, Nat.zero_le _⟩
      · cases e
    · rename_i xs ed
      cases e1 : toDL (toD S k) xs with
      | none => rw [e1] at e; cases e
      | some ds =>
        rw [e1] at e
        cases e
        obtain ⟨a, us, rfl, k1, k2⟩ := view_lst h q ed
        obtain ⟨b1, b2, b3⟩ := toDL_ok h (toD_ok h k) k2 e1
        exact ⟨.lst (.inl k1) b1, by simp only [PyData.canLay0]; exact b2, by simp only [PyData.depth]; omega⟩
    · rename_i xs ed
      cases e1 : toDL (toD S k) xs with
      | none => rw [e1] at e; cases e
      | some ds =>
        rw [e1] at e
        cases e
        obtain ⟨a, us, rfl, k1, k2⟩ := view_tup h q ed
        obtain ⟨b1, b2, b3⟩ := toDL_ok h (toD_ok h k) k2 e1
        exact ⟨.tup k1 b1, by simp only [PyData.canLay0]; exact b2, by simp only [PyData.depth]; omega⟩
    · cases e
theorem toD_shaped {d : PyData} {k : Nat} (h1 : d.canLay0 = true) (h2 : d.depth ≤ k) (hk : k ≤ 64) : SeqAt.shaped d = true := by
  unfold SeqAt.shaped
  rw [h1, Bool.true_and]
  exact decide_eq_true (Nat.le_trans h2 hk)
theorem ok_eq : Ok2 G oEq (rEqD G.K) := fun n0 g F r S H x y u v z Q h q1 q2 e k => by
  unfold oEq eqD at e
  cases e1 : toD S 6 x with
  | none => rw [e1] at e; cases e
  | some d =>
    simp only [e1] at e
    cases e2 : toD S 6 y with
    | none => rw [e2] at e; cases e
    | some d' =>
      rw [e2] at e
      cases e
      obtain ⟨a1, a2, a3⟩ := toD_ok h 6 x u d q1 e1
      obtain ⟨b1, b2, b3⟩ := toD_ok h 6 y v d' q2 e2
      exact ⟨d, d', a1, b1, toD_shaped a2 a3 (by decide), toD_shaped b2 b3 (by decide), k F r H _ (.refl F r) h rfl⟩
theorem ok_ne : Ok2 G oNe (rNeD G.K) := fun n0 g F r S H x y u v z Q h q1 q2 e k => by
  unfold oNe eqD at e
  cases e1 : toD S 6 x with
  | none => rw [e1] at e; cases e
  | some d =>
    simp only [e1] at e
    cases e2 : toD S 6 y with
    | none => rw [e2] at e; cases e
    | some d' =>
      rw [e2] at e
      cases e
      obtain ⟨a1, a2, a3⟩ := toD_ok h 6 x u d q1 e1
      obtain ⟨b1, b2, b3⟩ := toD_ok h 6 y v d' q2 e2
      exact ⟨d, d', a1, b1, toD_shaped a2 a3 (by decide), toD_shaped b2 b3 (by decide), k F r H _ (.refl F r) h rfl⟩
theorem non_of {n0 : Nat} {g : Gh} {F : Hp} {r : List Addr} {S : Store} {H : Hp} {x w : PV} {u : V} (h : HR G n0 g F r S H) (q : RV G F r x u) (e : deref S x = some w) (hw : w ≠ .non) : u ≠ .non := by
  rcases view h q e with ⟨k, hr⟩ | ⟨a, ho, e1, e2, k⟩
  · cases w with
    | non => exact (hw rfl).elim
    | bl => have z : u = _ := k; rw [z]; intro y; cases y
    | int => have z : u = _ := k; rw [z]; intro y; cases y
    | str => have z : u = _ := k; rw [z]; intro y; cases y
    | tup => obtain ⟨_, _, z, _⟩ := k; rw [z]; intro y; cases y
    | lst => obtain ⟨_, _, z, _⟩ := k; rw [z]; intro y; cases y
    | dct => obtain ⟨_, _, _, z, _⟩ := k; rw [z]; intro y; cases y
    | ins => obtain ⟨_, _, _, z, _⟩ := k; rw [z]; intro y; cases y
    | ref i => exact (hr i rfl).elim
    | lck => exact k.elim
  · rw [e1]; intro y; cases y
theorem ok_isN : Ok2 G oIsN (fun x y H Q => y = .non ∧ Q (.bl (decide (x = .non))) H) := fun n0 g F r S H x y u v z Q h q1 q2 e k => by
  unfold oIsN at e
  split at e
  · refine ⟨q2, ?_⟩
    split at e
    · rename_i ed
      cases e
      rw [decide_eq_true (view_non h q1 ed)]
      exact k F r H _ (.refl F r) h rfl
    · rename_i w hw ed
      cases e
      rw [decide_eq_false (non_of h q1 ed hw)]
      exact k F r H _ (.refl F r) h rfl
    · cases e
  · cases e
theorem ok_notN : Ok2 G oNotN (fun x y H Q => y = .non ∧ Q (.bl (!decide (x = .non))) H) := fun n0 g F r S H x y u v z Q h q1 q2 e k => by
  unfold oNotN at e
  split at e
  · refine ⟨q2, ?_⟩
    split at e
    · rename_i ed
      cases e
      rw [decide_eq_true (view_non h q1 ed)]
      exact k F r H _ (.refl F r) h rfl
    · rename_i w hw ed
      cases e
      rw [decide_eq_false (non_of h q1 ed hw)]
      exact k F r H _ (.refl F r) h rfl
    · cases e
  · cases e
/-! ### built-in functions -/
theorem se_argB {o : OpN} {t : List V → Hp → VK → Prop} {fs : SA} {n0 : Nat} {ex : Expr} (hp : PE X ex (tCB t (rdA G n0 fs))) (ho : OkN G o t) : PE X ex (rdE G n0 (eArg o fs)) := by
  refine peI hp fun σ H Q ⟨F, r, env, S, g, s, h⟩ => ?_
  refine stA s cnE h fun p S1 F1 r1 H1 us x1 s1 q1 h1 => ?_
  exact endO (T := fun Q => t us H1 Q) s1 x1 h1 fun z ez k => ho n0 g F1 r1 S1 H1 p us z Q s1.hr q1 ez k
theorem intsOf_eq : ∀ {ws : List PV} {ns : List Int}, intsOf ws = some ns → ws = ns.map PV.int
  | [], _, e => by cases e; rfl
  | w :: ws, ns, e => by
    cases w <;> try cases e
    rename_i i
    have e : (intsOf ws).map (i :: ·) = some ns := e
    cases e1 : intsOf ws with
    | none => rw [e1] at e; cases e
    | some ms =>
      rw [e1] at e
      cases e
      rw [intsOf_eq e1]
      rfl
theorem blsOf_eq : ∀ {ws : List PV} {ns : List Bool}, blsOf ws = some ns → ws = ns.map PV.bl
  | [], _, e => by cases e; rfl
  | w :: ws, ns, e => by
    cases w <;> try cases e
    rename_i i
    have e : (blsOf ws).map (i :: ·) = some ns := e
    cases e1 : blsOf ws with
    | none => rw [e1] at e; cases e
    | some ms =>
      rw [e1] at e
      cases e
      rw [blsOf_eq e1]
      rfl
theorem RVs.bls {F : Hp} {r : List Addr} : ∀ {ns : List Bool} {us : List V}, RVs G F r (ns.map PV.bl) us → us = ns.map V.bl
  | [], _, q => q
  | n :: ns, _, q => by
    obtain ⟨u, ur, rfl, k, l⟩ := q
    have e : u = V.bl n := k
    rw [e, RVs.bls l]
    rfl
theorem one_of {F : Hp} {r : List Addr} {v : PV} {us : List V} (q : RVs G F r [v] us) : ∃ u, us = [u] ∧ RV G F r v u := by
  obtain ⟨u, ur, rfl, k, l⟩ := q
  have e : ur = [] := l
  exact ⟨u, by rw [e], k⟩
theorem two_of {F : Hp} {r : List Addr} {v w : PV} {us : List V} (q : RVs G F r [v, w] us) : ∃ u y, us = [u, y] ∧ RV G F r v u ∧ RV G F r w y := by
  obtain ⟨u, ur, rfl, k, l⟩ := q
  obtain ⟨y, rfl, m⟩ := one_of l
  exact ⟨u, y, rfl, k, m⟩
theorem ok_len : OkN G bLen (fun xs H Q => ∃ p ys, xs = [.ref p] ∧ (SqL G.K H p ys ∨ SqT G.K H p ys) ∧ Q (.int ys.length) H) := fun n0 g F r S H xs us z Q h q e k => by
  unfold bLen at e
  split at e
  · obtain ⟨u, rfl, q1⟩ := one_of q
    split at e
    · rename_i ws ed
      cases e
      obtain ⟨a, us, rfl, k1, k2⟩ := view_lst h q1 ed
      exact ⟨a, us, rfl, .inl (.inl k1), by rw [← RVs.length k2]; exact k F r H _ (.refl F r) h rfl⟩
    · rename_i ws ed
      cases e
      obtain ⟨a, us, rfl, k1, k2⟩ := view_tup h q1 ed
      exact ⟨a, us, rfl, .inr k1, by rw [← RVs.length k2]; exact k F r H _ (.refl F r) h rfl⟩
    · cases e
  · cases e
/-! sum, all, any of a list or a tuple -/
def rSumA (K : PySem.W.Frag) : List V → Hp → VK → Prop := fun vs H Q => ∃ (a : Addr) (ns : List Int), vs = [V.ref a] ∧ (SqL K H a (ns.map V.int) ∨ SqT K H a (ns.map V.int)) ∧ Q (.int ns.sum) H
theorem cr_sumA (hc : X.calm = true) : CallR X (.builtin "sum") (rSumA X.K) := by
  intro pins s σ H vs us Q I r h
  obtain ⟨a, ns, rfl, hs | hs, q⟩ := h
  · exact cr_sum hc pins s σ H _ us Q I r ⟨a, ns, rfl, hs, q⟩
  · obtain ⟨its, rv, hl, _⟩ := I.tuple hs
    rw [Vals.ref1 r]
    have hi := rv.ints
    obtain ⟨xs, e⟩ := hi.allInts.items
    have hn : numsOf (intItems xs).toList = ns := by rw [← e]; exact hi.numsOf
    rw [nums_intItems] at hn
    rw [e] at hl
    refine PySem.W.ktm_sumG (I.ok.hd hc) (show s.heap.IsTuple a _ from hl) fun h' tk t' hk => ?_
    refine ⟨.int _, H, I.kept hk, ⟨_, rfl⟩, ?_⟩
    rw [preSum_eq, List.take_of_length_le (by simp), hn]
    exact q
theorem ok_sum : OkN G bSum (rSumA G.K) := fun n0 g F r S H xs us z Q h q e k => by
  unfold bSum at e
  split at e
  · obtain ⟨u, rfl, q1⟩ := one_of q
    cases ei : itemsOf S ‹PV› with
    | none => simp only [ei] at e; cases e
    | some ws =>
      simp only [ei] at e
      cases en : intsOf ws with
      | none => rw [en] at e; cases e
      | some ns =>
        rw [en] at e
        cases e
        obtain ⟨a, us, rfl, k1, k2⟩ := view_seq h q1 ei
        rw [intsOf_eq en] at k2
        rw [RVs.ints k2] at k1
        exact ⟨a, ns, rfl, k1, k F r H _ (.refl F r) h rfl⟩
  · cases e
end
end PX
set_option Elab.async false
set_option linter.all false
set_option maxRecDepth 100000
namespace PX
open PySem PySem.Spec PyProof.Rows L2
/-! ### more values -/
def bMaxL : OpN := fun xs S => match xs with
  | [v] => match itemsOf S v with
    | some ws => match intsOf ws with
      | some (n :: ns) => some (false, .int (ns.foldl max n))
      | _ => none
    | none => none
  | _ => none
def bMinL : OpN := fun xs S => match xs with
  | [v] => match itemsOf S v with
    | some ws => match intsOf ws with
      | some (n :: ns) => some (false, .int (ns.foldl min n))
      | _ => none
    | none => none
  | _ => none
/-! an item by its place -/
def ixP (n : Nat) (i : Int) : Option Nat := if 0 ≤ i then (if i < n then some i.toNat else none) else if -(n : Int) ≤ i then some (i + n).toNat else none
def oIx : Op2 := fun x y S => match y with
  | .int i => match itemsOf S x with
    | some xs => match ixP xs.length i with
      | some j => match xs[j]? with
        | some v => some (false, v)
        | none => none
      | none => none
    | none => none
  | _ => none
/-! a slice -/
abbrev SO := Env → Store → R (Option Int)
def pNo : SO := fun _ S => .ok none S
def pSo (a : SE) : SO := fun env S => (a env S).bind fun p S1 => match p.2 with
  | .int i => .ok (some i) S1
  | _ => .no
def sIxP (n d : Nat) : Option Int → Nat
  | none => d
  | some v => if v < 0 then (v + (n : Int)).toNat else min v.toNat n
def cutP (xs : List PV) (lo hi : Option Int) : List PV := (xs.drop (sIxP xs.length 0 lo)).take (sIxP xs.length xs.length hi - sIxP xs.length 0 lo)
def slP (lo hi : Option Int) : Op1 := fun x S => match deref S x with
  | some (.lst xs) => some (true, .lst (cutP xs lo hi))
  | some (.tup xs) => some (false, .tup (cutP xs lo hi))
  | _ => none
def eSl (a : SE) (lo hi : SO) : SE := fun env S => (a env S).bind fun p S1 => (lo env S1).bind fun l S2 => (hi env S2).bind fun u S3 => ofO (slP l u p.2 S3) S3
/-! + and * of sequences -/
def oCat : Op2 := fun x y S => match deref S x with
  | some (.lst xs) => match deref S y with
    | some (.lst ys) => if small (xs.length + ys.length) then some (true, .lst (xs ++ ys)) else none
    | _ => none
  | some (.tup xs) => match deref S y with
    | some (.tup ys) => if small (xs.length + ys.length) then some (false, .tup (xs ++ ys)) else none
    | _ => none
  | some (.int i) => match y with
    | .int j => some (false, .int (i + j))
    | _ => none
  | _ => none
def oRep : Op2 := fun x y S => match y with
  | .int k => match deref S x with
    | some (.lst xs) => if decide (-1000 ≤ k ∧ k ≤ 1000) && Nat.ble xs.length 1000 then some (true, .lst (List.replicate k.toNat xs).flatten) else none
    | some (.int i) => if mulOk i k then some (false, .int (i * k)) else none
    | _ => none
  | _ => none

def lstOf (S : Store) (v : PV) : Option (List PV) := match deref S v with
  | some (.lst xs) => some xs
  | _ => none
def bAll : OpN := fun xs S => match xs with
  | [v] => match lstOf S v with
    | some ws => match blsOf ws with
      | some ns => some (false, .bl (ns.all id))
      | none => none
    | none => none
  | _ => none
def bAny : OpN := fun xs S => match xs with
  | [v] => match lstOf S v with
    | some ws => match blsOf ws with
      | some ns => some (false, .bl (ns.any id))
      | none => none
    | none => none
  | _ => none

section
variable {X : Cx} {G : Gam}
theorem view_lstOf {n0 : Nat} {g : Gh} {F : Hp} {r : List Addr} {S : Store} {H : Hp} (h : HR G n0 g F r S H) {v : PV} {u : V} {xs : List PV} (q : RV G F r v u) (e : lstOf S v = some xs) : ∃ a us, u = .ref a ∧ Rd H a (.lst us) ∧ RVs G F r xs us := by
  unfold lstOf at e
  split at e
  · rename_i ed
    cases e
    exact view_lst h q ed
  · cases e
theorem ok_all : OkN G bAll (rAll G.K) := fun n0 g F r S H xs us z Q h q e k => by
  unfold bAll at e
  split at e
  · obtain ⟨u, rfl, q1⟩ := one_of q
    split at e
    · rename_i ws ei
      split at e
      · rename_i ns en
        cases e
        obtain ⟨a, us, rfl, k1, k2⟩ := view_lstOf h q1 ei
        rw [blsOf_eq en] at k2
        rw [RVs.bls k2] at k1
        exact ⟨a, ns, rfl, .inl k1, k F r H _ (.refl F r) h rfl⟩
      · cases e
    · cases e
  · cases e
theorem ok_any : OkN G bAny (rAny G.K) := fun n0 g F r S H xs us z Q h q e k => by
  unfold bAny at e
  split at e
  · obtain ⟨u, rfl, q1⟩ := one_of q
    split at e
    · rename_i ws ei
      split at e
      · rename_i ns en
        cases e
        obtain ⟨a, us, rfl, k1, k2⟩ := view_lstOf h q1 ei
        rw [blsOf_eq en] at k2
        rw [RVs.bls k2] at k1
        exact ⟨a, ns, rfl, .inl k1, k F r H _ (.refl F r) h rfl⟩
      · cases e
    · cases e
  · cases e
theorem ok_tuple : OkN G bTuple (fun xs H Q => ∃ p ys, xs = [.ref p] ∧ ((SqL G.K H p ys ∧ ∀ l, H l = none → Q (.ref l) (upd H l (.tup ys))) ∨ (SqT G.K H p ys ∧ Q (.ref p) H))) := fun n0 g F r S H xs us z Q h q e k => by
  unfold bTuple at e
  split at e
  · obtain ⟨u, rfl, q1⟩ := one_of q
    split at e
    · rename_i ws ei
      cases e
      unfold itemsOf at ei
      split at ei
      · rename_i ws' ed
        cases ei
        obtain ⟨a, us, rfl, k1, k2⟩ := view_lst h q1 ed
        refine ⟨a, us, rfl, .inl ⟨.inl k1, fun l hl => ?_⟩⟩
        obtain ⟨F2, x2, h2, k3⟩ := new_tup h hl k2
        exact k F2 r _ _ x2 h2 k3
      · rename_i ws' ed
        cases ei
        rcases view h q1 ed with ⟨k1, _⟩ | ⟨a, ho, e1, e2, k1⟩
        · obtain ⟨a, us, rfl, k2, k3⟩ := id k1
          exact ⟨a, us, rfl, .inr ⟨h.sub.tp k2, k F r H _ (.refl F r) h k1⟩⟩
        · exact k1.elim
      · cases ei
    · cases e
  · cases e
theorem ok_list : OkN G bList (fun xs H Q => ∃ p ys, xs = [.ref p] ∧ (SqL G.K H p ys ∨ SqT G.K H p ys) ∧ ∀ l, H l = none → Q (.ref l) (upd H l (.lst ys))) := fun n0 g F r S H xs us z Q h q e k => by
  unfold bList at e
  split at e
  · obtain ⟨u, rfl, q1⟩ := one_of q
    split at e
    · rename_i ws ei
      cases e
      obtain ⟨a, us, rfl, k1, k2⟩ := view_seq h q1 ei
      refine ⟨a, us, rfl, k1, fun l hl => ?_⟩
      obtain ⟨h2, k3⟩ := new_obj h hl (v := .lst ws) ⟨us, rfl, k2⟩ rfl
      exact k F r _ _ (.refl F r) h2 k3
    · cases e
  · cases e
theorem ok_int : OkN G bInt (fun xs H Q => (∃ i, xs = [.int i] ∧ Q (.int i) H) ∨ ∃ k, xs = [.bl k] ∧ Q (.int (if k then 1 else 0)) H) := fun n0 g F r S H xs us z Q h q e k => by
  unfold bInt at e
  split at e
  · cases e
    obtain ⟨u, rfl, q1⟩ := one_of q
    cases (show u = V.int _ from q1)
    exact .inl ⟨_, rfl, k F r H _ (.refl F r) h rfl⟩
  · cases e
    obtain ⟨u, rfl, q1⟩ := one_of q
    cases (show u = V.bl _ from q1)
    exact .inr ⟨_, rfl, k F r H _ (.refl F r) h rfl⟩
  · cases e
theorem ok_abs : OkN G bAbs (fun xs H Q => ∃ i, xs = [.int i] ∧ Q (.int (if i < 0 then -i else i)) H) := fun n0 g F r S H xs us z Q h q e k => by
  unfold bAbs at e
  split at e
  · cases e
    obtain ⟨u, rfl, q1⟩ := one_of q
    cases (show u = V.int _ from q1)
    exact ⟨_, rfl, k F r H _ (.refl F r) h rfl⟩
  · cases e
theorem ok_max2 : OkN G bMax2 (fun xs H Q => ∃ i j, xs = [.int i, .int j] ∧ Q (.int (if j > i then j else i)) H) := fun n0 g F r S H xs us z Q h q e k => by
  unfold bMax2 at e
  split at e
  · cases e
    obtain ⟨u, y, rfl, q1, q2⟩ := two_of q
    cases (show u = V.int _ from q1)
    cases (show y = V.int _ from q2)
    exact ⟨_, _, rfl, k F r H _ (.refl F r) h rfl⟩
  · cases e
theorem ok_min2 : OkN G bMin2 (fun xs H Q => ∃ i j, xs = [.int i, .int j] ∧ Q (.int (if j < i then j else i)) H) := fun n0 g F r S H xs us z Q h q e k => by
  unfold bMin2 at e
  split at e
  · cases e
    obtain ⟨u, y, rfl, q1, q2⟩ := two_of q
    cases (show u = V.int _ from q1)
    cases (show y = V.int _ from q2)
    exact ⟨_, _, rfl, k F r H _ (.refl F r) h rfl⟩
  · cases e
/-! max, min of a list or a tuple of ints -/
theorem dpAll_ints {K : PySem.W.Frag} {H : Hp} : ∀ ns : List Int, DpAll K H (ns.map V.int) (ns.map PyData.int)
  | [] => .nil
  | n :: ns => .cons (.int n) (dpAll_ints ns)
theorem alike_ints (ns : List Int) : PySem.W.AlikeAll (ns.map PyData.int) := by
  refine ⟨fun x hx y hy => ?_, fun x hx => ?_⟩
  · obtain ⟨i, _, rfl⟩ := List.mem_map.mp hx
    obtain ⟨j, _, rfl⟩ := List.mem_map.mp hy
    rfl
  · obtain ⟨i, _, rfl⟩ := List.mem_map.mp hx
    intro z
    cases z
theorem depth_ints : ∀ ns : List Int, PyData.depthAll (ns.map PyData.int) = 0
  | [] => rfl
  | n :: ns => by
    show max 0 (PyData.depthAll (ns.map PyData.int)) = 0
    rw [depth_ints ns]
    rfl
def rMaxA (K : PySem.W.Frag) : List V → Hp → VK → Prop := fun vs H Q => ∃ (a : Addr) (n : Int) (ns : List Int), vs = [V.ref a] ∧ (SqL K H a ((n :: ns).map V.int) ∨ SqT K H a ((n :: ns).map V.int)) ∧ Q (.int (ns.foldl max n)) H
def rMinA (K : PySem.W.Frag) : List V → Hp → VK → Prop := fun vs H Q => ∃ (a : Addr) (n : Int) (ns : List Int), vs = [V.ref a] ∧ (SqL K H a ((n :: ns).map V.int) ∨ SqT K H a ((n :: ns).map V.int)) ∧ Q (.int (ns.foldl min n)) H
theorem int_reads {h : Heap} {v : Value} {i : Int} {bs : List Addr} (r : Reads h v (.int i) bs) : ∃ t, v = .int i t := by
  cases r
  exact ⟨_, rfl⟩
theorem cr_maxA (hc : X.calm = true) (hu : X.A.units + 64 < cLine) : CallR X (.builtin "max") (rMaxA X.K) := by
  intro pins s σ H vs us Q I r h
  obtain ⟨a, n, ns, rfl, hs, q⟩ := h
  rw [Vals.ref1 r]
  have hd : X.A.units + 1 + PyData.depthAll (PyData.int n :: ns.map PyData.int) < cLine := by
    have e := depth_ints (n :: ns)
    rw [List.map_cons] at e
    rw [e]
    omega
  rcases hs with hs | hs
  · obtain ⟨its, rv, hl, _⟩ := I.list hs
    obtain ⟨as, hr⟩ := Dp.readsAll I _ _ its (dpAll_ints (K := X.K) (H := H) (n :: ns)) rv
    refine PySem.W.max_list_data (I.ok.hd hc) hl.isList (x := .int n) (xs := ns.map .int) (as := as) (by simpa using hr) (alike_ints (n :: ns)) hd fun i v h' tk bs _ rd hk => ?_
    rw [PySem.W.maxD_ints] at rd
    obtain ⟨t, rfl⟩ := int_reads rd
    exact ⟨.int _, H, I.kept hk, ⟨_, rfl⟩, q⟩
  · obtain ⟨its, rv, hl, _⟩ := I.tuple hs
    obtain ⟨as, hr⟩ := Dp.readsAll I _ _ its (dpAll_ints (K := X.K) (H := H) (n :: ns)) rv
    refine PySem.W.max_tuple_data (I.ok.hd hc) (show s.heap.IsTuple a _ from hl) (x := .int n) (xs := ns.map .int) (as := as) (by simpa using hr) (alike_ints (n :: ns)) hd fun i v h' tk bs _ rd hk => ?_
    rw [PySem.W.maxD_ints] at rd
    obtain ⟨t, rfl⟩ := int_reads rd
    exact ⟨.int _, H, I.kept hk, ⟨_, rfl⟩, q⟩
theorem cr_minA (hc : X.calm = true) (hu : X.A.units + 64 < cLine) : CallR X (.builtin "min") (rMinA X.K) := by
  intro pins s σ H vs us Q I r h
  obtain ⟨a, n, ns, rfl, hs, q⟩ := h
  rw [Vals.ref1 r]
  have hd : X.A.units + 1 + PyData.depthAll (PyData.int n :: ns.map PyData.int) < cLine := by
    have e := depth_ints (n :: ns)
    rw [List.map_cons] at e
    rw [e]
    omega
  rcases hs with hs | hs
  · obtain ⟨its, rv, hl, _⟩ := I.list hs
    obtain ⟨as, hr⟩ := Dp.readsAll I _ _ its (dpAll_ints (K := X.K) (H := H) (n :: ns)) rv
    refine PySem.W.min_list_data (I.ok.hd hc) hl.isList (x := .int n) (xs := ns.map .int) (as := as) (by simpa using hr) (alike_ints (n :: ns)) hd fun i v h' tk bs _ rd hk => ?_
    rw [PySem.W.minD_ints] at rd
    obtain ⟨t, rfl⟩ := int_reads rd
    exact ⟨.int _, H, I.kept hk, ⟨_, rfl⟩, q⟩
  · obtain ⟨its, rv, hl, _⟩ := I.tuple hs
    obtain ⟨as, hr⟩ := Dp.readsAll I _ _ its (dpAll_ints (K := X.K) (H := H) (n :: ns)) rv
    refine PySem.W.min_tuple_data (I.ok.hd hc) (show s.heap.IsTuple a _ from hl) (x := .int n) (xs := ns.map .int) (as := as) (by simpa using hr) (alike_ints (n :: ns)) hd fun i v h' tk bs _ rd hk => ?_
    rw [PySem.W.minD_ints] at rd
    obtain ⟨t, rfl⟩ := int_reads rd
    exact ⟨.int _, H, I.kept hk, ⟨_, rfl⟩, q⟩
theorem view_ints {n0 : Nat} {g : Gh} {F : Hp} {r : List Addr} {S : Store} {H : Hp} (h : HR G n0 g F r S H) {v : PV} {u : V} {ws : List PV} {ns : List Int} (q : RV G F r v u) (ei : itemsOf S v = some ws) (en : intsOf ws = some ns) :
    ∃ a, u = .ref a ∧ (SqL G.K H a (ns.map V.int) ∨ SqT G.K H a (ns.map V.int)) := by
  obtain ⟨a, us, rfl, k1, k2⟩ := view_seq h q ei
  rw [intsOf_eq en] at k2
  rw [RVs.ints k2] at k1
  exact ⟨a, rfl, k1⟩
theorem ok_maxL : OkN G bMaxL (rMaxA G.K) := fun n0 g F r S H xs us z Q h q e k => by
  unfold bMaxL at e
  split at e
  · obtain ⟨u, rfl, q1⟩ := one_of q
    split at e
    · rename_i ws ei
      split at e
      · rename_i n ns en
        cases e
        obtain ⟨a, rfl, k1⟩ := view_ints h q1 ei en
        exact ⟨a, n, ns, rfl, k1, k F r H _ (.refl F r) h rfl⟩
      · cases e
    · cases e
  · cases e
theorem ok_minL : OkN G bMinL (rMinA G.K) := fun n0 g F r S H xs us z Q h q e k => by
  unfold bMinL at e
  split at e
  · obtain ⟨u, rfl, q1⟩ := one_of q
    split at e
    · rename_i ws ei
      split at e
      · rename_i n ns en
        cases e
        obtain ⟨a, rfl, k1⟩ := view_ints h q1 ei en
        exact ⟨a, n, ns, rfl, k1, k F r H _ (.refl F r) h rfl⟩
      · cases e
    · cases e
  · cases e
/-! items, slices -/
theorem ixP_eq (n : Nat) (i : Int) : ixP n i = ixN n i := rfl
theorem sIxP_eq (n d : Nat) : ∀ o : Option Int, sIxP n d o = HT.sIx n d o
  | none => rfl
  | some _ => rfl
theorem ok_ix : Ok2 G oIx (rIx G.K) := fun n0 g F r S H x y u v z Q h q1 q2 e k => by
  unfold oIx at e
  split at e
  · rename_i i
    split at e
    · rename_i xs ei
      split at e
      · rename_i j ej
        split at e
        · rename_i w ew
          cases e
          obtain ⟨a, us, rfl, k1, k2⟩ := view_seq h q1 ei
          obtain ⟨w', e1, q3⟩ := RVs.get k2 ew
          have ea : atI us i = some w' := by
            unfold atI
            rw [← RVs.length k2, ← ixP_eq, ej]
            exact e1
          have fin := k F r H w' (.refl F r) h q3
          cases (show v = V.int i from q2)
          rcases k1 with k1 | k1
          · exact .inl ⟨a, us, i, w', rfl, rfl, k1, ea, fin⟩
          · exact .inr (.inl ⟨a, us, i, w', rfl, rfl, k1, ea, fin⟩)
        · cases e
      · cases e
    · cases e
  · cases e
theorem se_ix {n0 : Nat} {a b : Expr} {fa fb : SE} {pos : Pos} {o : Op2} {t : R2} (hr : IxR X t) (ho : Ok2 G o t) (ha : PE X a (rdE G n0 fa)) (hb : PE X b (rdE G n0 fb)) (hs : PlainIx b) : PE X (.Subscript a b pos) (rdE G n0 (eBin o fa fb)) := by
  refine peI (pe_ix hr (toV ha) (toV hb) hs) fun σ H Q ⟨F, r, env, S, g, s, h⟩ => ?_
  refine stV s cnE h fun p S1 F1 r1 H1 u x1 s1 q1 h1 => ?_
  refine stV s1 cnE h1 fun q S2 F2 r2 H2 v x2 s2 q2 h2 => ?_
  exact endO (T := fun Q => t u v H2 Q) s2 (x1.trans x2) h2 fun z ez k => ho n0 g F2 r2 S2 H2 p.2 q.2 u v z Q s2.hr (q1.ext x2) q2 ez k
/-! parts of a slice -/
def PoO (G : Gam) (n0 : Nat) (g : Gh) (F : Hp) (r : List Addr) (env : Env) (σ : L2.St) (z : R (Option Int)) (T : Option Int → Hp → Prop) : Prop := match z with
  | .ok b S' => ∀ F' r' H', Ext F F' r r' → Sg G n0 g F' r' env σ S' H' → T b H'
  | _ => False
def rdO (G : Gam) (n0 : Nat) (f : SO) : TO := fun σ H T => ∃ F r env S g, Sg G n0 g F r env σ S H ∧ PoO G n0 g F r env σ (f env S) T
theorem poI {e : Option Expr} {t t' : TO} (h : PO X e t) (w : ∀ σ H Q, t' σ H Q → t σ H Q) : PO X e t' := ⟨fun pins s σ H Q I q => h.run pins s σ H Q I (w σ H Q q)⟩
theorem so_none {n0 : Nat} : PO X none (rdO G n0 pNo) := poI po_none fun σ H Q ⟨F, r, env, S, g, s, h⟩ => h F r H (.refl F r) s
theorem cnO {n0 : Nat} {g : Gh} {F : Hp} {r : List Addr} {env : Env} {σ : L2.St} {T : Option Int → Hp → Prop} : Cn fun z => PoO G n0 g F r env σ z T := ⟨fun h => h, fun _ _ _ h => h⟩
theorem so_some {n0 : Nat} {e : Expr} {fe : SE} (he : PE X e (rdE G n0 fe)) : PO X (some e) (rdO G n0 (pSo fe)) := by
  refine poI (po_some (toV he)) fun σ H T ⟨F, r, env, S, g, s, h⟩ => ?_
  refine stV s cnO h fun p S1 F1 r1 H1 u x1 s1 q1 h1 => ?_
  obtain ⟨b, v⟩ := p
  cases v with
  | int i => exact ⟨i, q1, h1 F1 r1 H1 x1 s1⟩
  | _ => exact False.elim h1
theorem stO {n0 : Nat} {g : Gh} {F : Hp} {r : List Addr} {env : Env} {σ : L2.St} {S : Store} {H : Hp} {f : SO} {T : Option Int → Hp → Prop} {α : Type} {kk : Option Int → Store → R α} {C : R α → Prop} (s : Sg G n0 g F r env σ S H) (cn : Cn C) (h : C ((f env S).bind kk))
    (step : ∀ p S' F' r' H', Ext F F' r r' → Sg G n0 g F' r' env σ S' H' → C (kk p S') → T p H') : rdO G n0 f σ H T := by
  refine ⟨F, r, env, S, g, s, ?_⟩
  cases e : f env S with
  | ok p S' => rw [e] at h; exact fun F' r' H' ex s' => step p S' F' r' H' ex s' h
  | ex c p S' => rw [e] at h; exact (cn.ex c p S' h).elim
  | no => rw [e] at h; exact (cn.no h).elim
theorem RVs.drop {F : Hp} {r : List Addr} : ∀ {vs : List PV} {us : List V} (n : Nat), RVs G F r vs us → RVs G F r (vs.drop n) (us.drop n)
  | _, _, 0, q => q
  | [], us, n + 1, q => by
    have e : us = [] := q
    subst e
    exact rfl
  | v :: vs, us, n + 1, q => by
    obtain ⟨u, ur, rfl, k, l⟩ := q
    exact RVs.drop n l
theorem RVs.take {F : Hp} {r : List Addr} : ∀ {vs : List PV} {us : List V} (n : Nat), RVs G F r vs us → RVs G F r (vs.take n) (us.take n)
  | _, _, 0, q => rfl
  | [], us, n + 1, q => by
    have e : us = [] := q
    subst e
    exact rfl
  | v :: vs, us, n + 1, q => by
    obtain ⟨u, ur, rfl, k, l⟩ := q
    exact ⟨u, ur.take n, rfl, k, RVs.take n l⟩
theorem RVs.cut {F : Hp} {r : List Addr} {vs : List PV} {us : List V} (lo hi : Option Int) (q : RVs G F r vs us) : RVs G F r (cutP vs lo hi) (cutV us lo hi) := by
  unfold cutP cutV
  rw [sIxP_eq, sIxP_eq, RVs.length q]
  exact (q.drop _).take _
def rSlG (K : PySem.W.Frag) : V → Option Int → Option Int → Hp → VK → Prop := fun x lo hi H Q => rSlL K x lo hi H Q ∨ rSlA K x lo hi H Q
theorem sl_any : SlR X (rSlG X.K) := sl_list.or sl_tupA
theorem se_sl {n0 : Nat} {a : Expr} {lo hi : Option Expr} {fa : SE} {fl fh : SO} {p2 pos : Pos} (hK : G.K = X.K) (ha : PE X a (rdE G n0 fa)) (hl : PO X lo (rdO G n0 fl)) (hh : PO X hi (rdO G n0 fh)) : PE X (.Subscript a (.Slice lo hi none p2) pos) (rdE G n0 (eSl fa fl fh)) := by
  refine peI (pe_slice sl_any (toV ha) hl hh) fun σ H Q ⟨F, r, env, S, g, s, h⟩ => ?_
  refine stV s cnE h fun p S1 F1 r1 H1 u x1 s1 q1 h1 => ?_
  refine stO s1 cnE h1 fun l S2 F2 r2 H2 x2 s2 h2 => ?_
  refine stO s2 cnE h2 fun m S3 F3 r3 H3 x3 s3 h3 => ?_
  have q3 := q1.ext (x2.trans x3)
  have xx := (x1.trans x2).trans x3
  rw [← hK]
  unfold slP at h3
  split at h3
  · rename_i xs ed
    obtain ⟨a', us, rfl, k1, k2⟩ := view_lst s3.hr q3 ed
    refine .inl ⟨a', us, rfl, .inl k1, fun p' hp => ?_⟩
    obtain ⟨h4, k4⟩ := new_obj s3.hr hp (v := .lst (cutP xs l m)) ⟨_, rfl, k2.cut l m⟩ rfl
    exact h3 F3 r3 _ _ xx (s3.ext (.refl _ _) h4) k4
  · rename_i xs ed
    rcases view s3.hr q3 ed with ⟨k1, _⟩ | ⟨a, ho, e1, e2, k1⟩
    · obtain ⟨a', us, rfl, k2, k3⟩ := id k1
      refine .inr ⟨a', us, rfl, s3.hr.sub.tp k2, fun hw => ?_, fun hw p' hp => ?_⟩
      · have e : cutP xs l m = xs := by
          unfold cutP
          rw [sIxP_eq, sIxP_eq, RVs.length k3, hw.1, hw.2, List.drop_zero, ← RVs.length k3]
          simp
        rw [e] at h3
        exact h3 F3 r3 H3 _ xx s3 k1
      · obtain ⟨F4, x4, h4, k4⟩ := new_tup s3.hr hp (k3.cut l m)
        exact h3 F4 r3 _ _ (xx.trans x4) (s3.ext x4 h4) k4
    · exact k1.elim
  · exact False.elim h3
end
end PX
set_option Elab.async false
set_option linter.all false
set_option maxRecDepth 100000
namespace PX
open PySem PySem.Spec PyProof.Rows L2
/-! ### changes of lists -/
def mayPutL (n0 i : Nat) : List PV → Bool
  | [] => true
  | v :: vs => mayPut n0 i v && mayPutL n0 i vs
def isL (S : Store) (v : PV) : Bool := match deref S v with
  | some (.lst _) => true
  | _ => false
def appL (n0 : Nat) (o v : PV) (S : Store) : Option Store := match o with
  | .ref i => match S[i]? with
    | some (.lst xs) => if mayPut n0 i v && small xs.length then some (S.set i (.lst (xs ++ [v]))) else none
    | _ => none
  | _ => none
def extL (n0 : Nat) (o v : PV) (S : Store) : Option Store := match o with
  | .ref i => match S[i]? with
    | some (.lst xs) => match lstOf S v with
      | some ys => if mayPutL n0 i ys && small (xs.length + ys.length) then some (S.set i (.lst (xs ++ ys))) else none
      | none => none
    | _ => none
  | _ => none
/-! o.m(a), m a method of lists that changes the list and gives None -/
def eLm (f : PV → PV → Store → Option Store) (o a : SE) : SE := fun env S => (o env S).bind fun p S1 => if isL S1 p.2 then (a env S1).bind fun q S2 => match f p.2 q.2 S2 with
    | some S3 => .ok (false, .non) S3
    | none => .no
  else .no
def setL (n0 : Nat) (o k v : PV) (S : Store) : Option Store := match o with
  | .ref i => match S[i]? with
    | some (.lst xs) => match k with
      | .int j => match ixP xs.length j with
        | some m => if mayPut n0 i v then some (S.set i (.lst (xs.set m v))) else none
        | none => none
      | _ => none
    | _ => none
  | _ => none
def sSetI (f : PV → PV → PV → Store → Option Store) (o k e : SE) : SS := fun env S => (e env S).go fun p S1 => (o env S1).go fun q S2 => (k env S2).go fun z S3 => match f q.2 z.2 p.2 S3 with
  | some S4 => .nx env S4
  | none => .no
def sAugI (op : Op2) (gt : Op2) (f : PV → PV → PV → Store → Option Store) (o k e : SE) : SS := fun env S => (o env S).go fun p S1 => (k env S1).go fun q S2 => match gt p.2 q.2 S2 with
  | some x => (e env S2).go fun z S3 => match op x.2 z.2 S3 with
    | some y => match f p.2 q.2 y.2 S3 with
      | some S4 => .nx env S4
      | none => .no
    | none => .no
  | none => .no

section
variable {X : Cx} {G : Gam}
/-! + of lists -/
def rCatR (K : PySem.W.Frag) : R2 := fun x y H Q => (∃ l b xs zs, x = .ref l ∧ y = .ref b ∧ Rd H l (.lst xs) ∧ Rd H b (.lst zs) ∧ xs.length + zs.length ≤ sizeLine ∧ ∀ p, H p = none → Q (.ref p) (upd H p (.lst (xs ++ zs)))) ∨ rCatA K x y H Q ∨ rI0 (fun i j => .int (i + j)) x y H Q
theorem op_catR : OpR X (binaryOp .Add) (rCatR X.K) := by
  intro pins s σ H x y v u Q I rx ry h
  rcases h with h | h | h
  · obtain ⟨l, b, xs, zs, rfl, rfl, hH, hB, hz, q⟩ := h
    cases rx
    cases ry
    obtain ⟨z, its, n, r, e⟩ := hH.ok I.hok
    obtain ⟨z2, its2, n2, r2, e2⟩ := hB.ok I.hok
    have hl := r.length
    have hl2 := r2.length
    refine PySem.P.add_list e e2 ?_ (by rw [List.size_toArray, List.size_toArray]; omega)
    have ea : its.toArray ++ its2.toArray = (its ++ its2).toArray := by simp
    rw [ea]
    exact ⟨.ref _, _, I.lnew (t' := s.toks) (r.append r2) (by rw [List.length_append]; omega), rfl, q _ I.fresh⟩
  · exact op_catA pins s σ H x y v u Q I rx ry h
  · exact op_add pins s σ H x y v u Q I rx ry h
theorem ok_cat : Ok2 G oCat (rCatR G.K) := fun n0 g F r S H x y u v z Q h q1 q2 e k => by
  unfold oCat at e
  split at e
  · rename_i xs ex
    split at e
    · rename_i ys ey
      split at e
      · rename_i hz
        cases e
        obtain ⟨a, us, rfl, k1, k2⟩ := view_lst h q1 ex
        obtain ⟨b, vs, rfl, l1, l2⟩ := view_lst h q2 ey
        refine .inl ⟨a, b, us, vs, rfl, rfl, k1, l1, by rw [← RVs.length k2, ← RVs.length l2]; exact small_le hz, fun p hp => ?_⟩
        obtain ⟨h2, k3⟩ := new_obj h hp (v := .lst (xs ++ ys)) ⟨_, rfl, k2.append l2⟩ rfl
        exact k F r _ _ (.refl F r) h2 k3
      · cases e
    · cases e
  · rename_i xs ex
    split at e
    · rename_i ys ey
      split at e
      · rename_i hz
        cases e
        rcases view h q1 ex with ⟨k0, _⟩ | ⟨_, _, _, _, k0⟩
        · rcases view h q2 ey with ⟨l0, _⟩ | ⟨_, _, _, _, l0⟩
          · obtain ⟨a, us, rfl, k1, k2⟩ := id k0
            obtain ⟨b, vs, rfl, l1, l2⟩ := id l0
            refine .inr (.inl ⟨a, b, us, vs, rfl, rfl, h.sub.tp k1, h.sub.tp l1, by rw [← RVs.length k2, ← RVs.length l2]; exact small_le hz, fun hx => ?_, fun hx hy => ?_, fun hx hy p hp => ?_⟩)
            · have e1 : xs = [] := List.eq_nil_of_length_eq_zero (by rw [RVs.length k2, hx]; rfl)
              refine k F r H _ (.refl F r) h ?_
              show RV G F r (.tup (xs ++ ys)) _
              rw [e1]
              exact l0
            · have e1 : ys = [] := List.eq_nil_of_length_eq_zero (by rw [RVs.length l2, hy]; rfl)
              refine k F r H _ (.refl F r) h ?_
              show RV G F r (.tup (xs ++ ys)) _
              rw [e1, List.append_nil]
              exact k0
            · obtain ⟨F4, x4, h4, k4⟩ := new_tup h hp (k2.append l2)
              exact k F4 r _ _ x4 h4 k4
          · exact l0.elim
        · exact k0.elim
      · cases e
    · cases e
  · rename_i i ex
    split at e
    · cases e
      exact .inr (.inr ⟨_, _, view_int h q1 ex, q2, k F r H _ (.refl F r) h rfl⟩)
    · cases e
  · cases e
/-! * -/
def rRepR : R2 := fun x y H Q => (∃ l k xs, x = .ref l ∧ y = .int k ∧ Rd H l (.lst xs) ∧ -1000 ≤ k ∧ k ≤ 1000 ∧ xs.length ≤ 1000 ∧ ∀ p, H p = none → Q (.ref p) (upd H p (.lst (List.replicate k.toNat xs).flatten))) ∨ rI CMul (fun i j => .int (i * j)) x y H Q
theorem op_repR : OpR X (binaryOp .Mult) rRepR := by
  intro pins s σ H x y v u Q I rx ry h
  rcases h with h | h
  · obtain ⟨l, k, xs, rfl, rfl, hH, h1, h2, hx, q⟩ := h
    cases rx
    obtain ⟨t, rfl⟩ := ry
    obtain ⟨z, its, n, r, e⟩ := hH.ok I.hok
    have hl := r.length
    have hm : its.length * k.toNat ≤ 1000 * 1000 := Nat.mul_le_mul (by omega) (by omega)
    have hs : (1000 * 1000 : Nat) ≤ sizeLine := by rw [sizeLine_eq]; decide
    have hlen : its.toArray.size * k.toNat ≤ sizeLine := by rw [List.size_toArray]; exact Nat.le_trans hm hs
    have hcap : ¬ its.toArray.size * k.toNat > (2 ^ 63 - 1) / 8 := by
      have : (sizeLine : Nat) ≤ (2 ^ 63 - 1) / 8 := by decide
      omega
    have hfit : ¬ (!Builtin.List.listFitsIndex k) = true := by
      rw [fitsIndex_both (by omega) (by omega)]
      exact Bool.false_ne_true
    have hlong : ¬ Builtin.List.listTooLong (its.toArray.size * k.toNat) = true := by
      rw [notLongL hlen]
      exact Bool.false_ne_true
    have hnew : List.foldl (fun x1 x2 => x1 ++ x2) #[] (List.replicate (if its.toArray.isEmpty = true then 0 else k.toNat) its.toArray) = (List.replicate k.toNat its).flatten.toArray := by
      have f0 : ∀ m : Nat, List.foldl (fun x1 x2 => x1 ++ x2) #[] (List.replicate m its.toArray) = (List.replicate m its).flatten.toArray := fun m => by
        have := foldl_rep its m []
        rw [List.nil_append] at this
        exact this
      rw [f0]
      cases its with
      | nil => simp
      | cons a r' => rw [if_neg (by simp)]
    refine wpAny_binaryOp_repeat_ref (T := "list") (U := "int") (by decide) ⟨_, e, rfl⟩ (fun s' => typeIs_int s' k t) noFill_list_mul F.fills_int_mul F.slot_int_rmul repeat_list F.slot_int_index.lookup
      (call_meets F.slot_int_rmul (typeIs_int s k t) F.entry_int_rmul (F.args_int_rmul_2 _ _) (int___rmul___int_list k t l its.toArray n)
        ⟨e, rfl, ⟨_, e, rfl⟩, call_meets F.slot_list_mul ⟨_, e, rfl⟩ F.entry_list_mul (F.args_list_mul_2 _ _) (AutoListH.list___mul___list_int_3 l its.toArray n k t hfit hcap hlong) ⟨e, ?_⟩⟩)
    rw [hnew]
    exact ⟨.ref _, _, I.lnew (t' := s.toks) (r.rep k.toNat) (by rw [PyProof.Rows.lm_len_rep_flat, Nat.mul_comm, hl]; omega), rfl, q _ I.fresh⟩
  · exact op_mul pins s σ H x y v u Q I rx ry h
theorem RVs.rep {F : Hp} {r : List Addr} {vs : List PV} {us : List V} (q : RVs G F r vs us) : ∀ n : Nat, RVs G F r (List.replicate n vs).flatten (List.replicate n us).flatten
  | 0 => rfl
  | n + 1 => by
    rw [List.replicate_succ, List.replicate_succ, List.flatten_cons, List.flatten_cons]
    exact q.append (RVs.rep q n)
theorem ok_rep : Ok2 G oRep rRepR := fun n0 g F r S H x y u v z Q h q1 q2 e k => by
  unfold oRep at e
  split at e
  · rename_i m
    split at e
    · rename_i xs ex
      split at e
      · rename_i hz
        cases e
        simp only [Bool.and_eq_true, decide_eq_true_eq] at hz
        obtain ⟨a, us, rfl, k1, k2⟩ := view_lst h q1 ex
        refine .inl ⟨a, m, us, rfl, q2, k1, hz.1.1, hz.1.2, by rw [← RVs.length k2]; exact Nat.le_of_ble_eq_true hz.2, fun p hp => ?_⟩
        obtain ⟨h2, k3⟩ := new_obj h hp (v := .lst (List.replicate m.toNat xs).flatten) ⟨_, rfl, k2.rep _⟩ rfl
        exact k F r _ _ (.refl F r) h2 k3
      · cases e
    · rename_i i ex
      split at e
      · rename_i hm
        cases e
        refine .inr ⟨_, _, view_int h q1 ex, q2, ?_, k F r H _ (.refl F r) h rfl⟩
        unfold mulOk at hm
        simp only [Bool.or_eq_true, Bool.and_eq_true, decide_eq_true_eq] at hm
        unfold CMul
        omega
      · cases e
    · cases e
  · cases e
/-! ### a store object is changed -/
theorem noref_rv {F : Hp} {r r' : List Addr} : (∀ (v : PV) (u : V), noref v = true → RV G F r v u → RV G F r' v u) := by
  have key : ∀ (n : Nat) (v : PV), sizeOf v ≤ n → ∀ u, noref v = true → RV G F r v u → RV G F r' v u := by
    intro n
    induction n with
    | zero =>
      intro v hv
      cases v <;> simp at hv
    | succ n ih =>
      intro v hv u hn q
      have all : ∀ (vs : List PV), sizeOf vs ≤ n → ∀ us, noref.norefL vs = true → RVs G F r vs us → RVs G F r' vs us := by
        intro vs
        induction vs with
        | nil => intro _ us _ q; exact q
        | cons w ws ihw =>
          intro hs us hn q
          obtain ⟨u, ur, rfl, k, l⟩ := q
          simp only [noref.norefL, Bool.and_eq_true] at hn
          simp only [List.cons.sizeOf_spec] at hs
          exact ⟨u, ur, rfl, ih w (by omega) u hn.1 k, ihw (by omega) ur hn.2 l⟩
      cases v with
      | non => exact q
      | bl => exact q
      | int => exact q
      | str => exact q
      | ref i => exact absurd hn (by simp [noref])
      | lck => exact q.elim
      | tup xs =>
        obtain ⟨a, us, e, k1, k2⟩ := q
        simp only [PV.tup.sizeOf_spec] at hv
        exact ⟨a, us, e, k1, all xs (by omega) us hn k2⟩
      | lst xs =>
        obtain ⟨a, us, e, k1, k2⟩ := q
        simp only [PV.lst.sizeOf_spec] at hv
        exact ⟨a, us, e, k1, all xs (by omega) us hn k2⟩
      | dct ks vs =>
        obtain ⟨a, us, ho, e, k1, d, k2⟩ := q
        simp only [PV.dct.sizeOf_spec] at hv
        exact ⟨a, us, ho, e, k1, d, all vs (by omega) us hn k2⟩
      | ins c ns vs =>
        obtain ⟨a, dx, us, e, k1, d, k2⟩ := q
        simp only [PV.ins.sizeOf_spec] at hv
        exact ⟨a, dx, us, e, k1, d, all vs (by omega) us hn k2⟩
  exact fun v u => key (sizeOf v) v (Nat.le_refl _) u
theorem put_rv {n0 i : Nat} {L : Nat → Nat} {F : Hp} {r : List Addr} {v : PV} {u : V} (h : mayPut n0 i v = true) (q : RV G F r v u) : RV G F (lim n0 L r i) v u := by
  unfold mayPut at h
  rw [Bool.or_eq_true] at h
  rcases h with h | h
  · unfold lim
    rw [if_neg (by have := Nat.le_of_ble_eq_true h; omega)]
    exact q
  · exact noref_rv v u h q
theorem put_rvs {n0 i : Nat} {L : Nat → Nat} {F : Hp} {r : List Addr} : ∀ {vs : List PV} {us : List V}, mayPutL n0 i vs = true → RVs G F r vs us → RVs G F (lim n0 L r i) vs us
  | [], _, _, q => q
  | v :: vs, us, h, q => by
    obtain ⟨u, ur, rfl, k, l⟩ := q
    simp only [mayPutL, Bool.and_eq_true] at h
    exact ⟨u, ur, rfl, put_rv h.1 k, put_rvs h.2 l⟩
theorem HR.put {n0 : Nat} {g : Gh} {F : Hp} {r : List Addr} {S : Store} {H : Hp} {i : Nat} {a : Addr} {ob ob' : PV} {ho' : HO} (h : HR G n0 g F r S H) (e1 : r[i]? = some a) (e2 : S[i]? = some ob) (hu : unl ob = ob) (hu' : unl ob' = ob')
    (ro : RO G F (lim n0 g.L r i) ob' ho') : HR G n0 g F r (S.set i ob') (upd H a ho') := by
  have hp := h.nopin e1 e2 hu
  have hi : i < S.length := (List.getElem?_eq_some_iff.mp e2).1
  have hF := h.off a (List.mem_of_getElem? e1)
  have ne_of_pin : ∀ b o, g.pn b = some o → b ≠ a := fun b o e z => by rw [z, hp] at e; cases e
  have lck_ne : ∀ w : PV, PV.lck w ≠ ob' := fun w z => by
    rw [← z] at hu'
    have e4 : w = .lck w := hu'
    exact absurd e4 (by intro z; have := congrArg sizeOf z; simp at this)
  refine ⟨fun b o e => ?_, h.nd, h.off, by rw [List.length_set]; exact h.len, by rw [List.length_set]; exact h.nle, h.lle, fun j oj b e3 e4 => ?_, fun b o e => ?_, fun j oj b e3 e4 => ?_, h.out⟩
  · rw [upd_ne (fun z => by rw [z, hF] at e; cases e)]
    exact h.sub b o e
  · by_cases hj : j = i
    · subst hj
      rw [List.getElem?_set_self hi] at e3
      cases e3
      rw [e1] at e4
      cases e4
      exact ⟨ho', upd_same, ro⟩
    · rw [List.getElem?_set_ne (Ne.symm hj)] at e3
      obtain ⟨ho, q1, q2⟩ := h.obj j oj b e3 e4
      refine ⟨ho, ?_, q2⟩
      rw [upd_ne (fun z => ?_)]
      · exact q1
      · rw [z] at e4
        obtain ⟨h2, e2'⟩ := List.getElem?_eq_some_iff.mp e1
        obtain ⟨h3, e3'⟩ := List.getElem?_eq_some_iff.mp e4
        exact hj ((List.getElem_inj h.nd).mp (e3'.trans e2'.symm))
  · obtain ⟨q1, q2, q3⟩ := h.pin b o e
    refine ⟨by rw [upd_ne (ne_of_pin b o e)]; exact q1, q2, fun j hj => ?_⟩
    obtain ⟨w, hw⟩ := q3 j hj
    refine ⟨w, ?_⟩
    rw [List.getElem?_set_ne (fun z => ?_)]
    · exact hw
    · subst z
      rw [e1] at hj
      cases hj
      exact ne_of_pin _ o e rfl
  · by_cases hj : j = i
    · subst hj
      rw [List.getElem?_set_self hi] at e3
      exact absurd (Option.some.inj e3).symm (lck_ne oj)
    · rw [List.getElem?_set_ne (Ne.symm hj)] at e3
      exact h.lckd j oj b e3 e4
theorem store_lst {n0 : Nat} {g : Gh} {F : Hp} {r : List Addr} {S : Store} {H : Hp} {i : Nat} {u : V} {xs : List PV} (h : HR G n0 g F r S H) (q : RV G F r (.ref i) u) (e : S[i]? = some (.lst xs)) :
    ∃ a us, u = .ref a ∧ r[i]? = some a ∧ H a = some (.lst us) ∧ RVs G F (lim n0 g.L r i) xs us := by
  obtain ⟨a, e1, rfl⟩ := q
  obtain ⟨ho, h1, h2⟩ := h.obj i _ a e e1
  obtain ⟨us, rfl, k⟩ := h2
  exact ⟨a, us, rfl, e1, h1, k⟩
theorem small_lt {n : Nat} (h : small n = true) : n < sizeLine := by
  have : n ≤ 1000000 := Nat.le_of_ble_eq_true h
  exact Nat.lt_of_le_of_lt this (by rw [sizeLine_eq]; decide)
def Chg (G : Gam) (n0 : Nat) (f : PV → PV → Store → Option Store) (t : V → List V → Hp → VK → Prop) : Prop := ∀ g F r S H o v u w S' Q, HR G n0 g F r S H → RV G F r o u → RV G F r v w → f o v S = some S' →
  (∀ H', HR G n0 g F r S' H' → Q .non H') → t u [w] H Q
theorem chg_app {n0 : Nat} : Chg G n0 (appL n0) rAppend := fun g F r S H o v u w S' Q h q1 q2 e k => by
  unfold appL at e
  split at e
  · split at e
    · rename_i i xs es
      split at e
      · rename_i hm
        cases e
        rw [Bool.and_eq_true] at hm
        obtain ⟨a, us, rfl, e1, e2, k2⟩ := store_lst h q1 es
        refine ⟨a, us, w, rfl, rfl, e2, by rw [← RVs.length k2]; exact small_lt hm.2, k _ (h.put e1 es rfl rfl ⟨_, rfl, k2.append ⟨w, [], rfl, put_rv hm.1 q2, rfl⟩⟩)⟩
      · cases e
    · cases e
  · cases e
/-! extend by a list of the store or a fresh one: its address is not the changed list's -/
def rExtR : V → List V → Hp → VK → Prop := fun x vs H Q => ∃ l b xs zs, x = .ref l ∧ vs = [.ref b] ∧ H l = some (.lst xs) ∧ Rd H b (.lst zs) ∧ xs.length + zs.length ≤ sizeLine ∧ Q .non (upd H l (.lst (xs ++ zs)))
theorem mt_extR : MtM X "list.extend" rExtR := by
  intro pins s σ H x vs v us Q I rx rv h
  obtain ⟨l, b, xs, zs, rfl, rfl, hH, hB, hz, q⟩ := h
  cases rx
  obtain ⟨u, rfl, ru⟩ := rv.one
  cases ru
  obtain ⟨z, its, n, r, hl, e⟩ := I.lstM hH
  obtain ⟨z2, its2, n2, r2, e2⟩ := hB.ok I.hok
  have hl2 := r2.length
  have hsz : its.toArray.size + its2.toArray.size ≤ sizeLine := by rw [List.size_toArray, List.size_toArray]; omega
  have hlong : ¬ (!its.toArray.isEmpty && Builtin.List.listTooLong (its.toArray.size + its2.toArray.size)) = true := by
    rw [notLongL hsz, Bool.and_false]
    exact Bool.false_ne_true
  refine call_meets F.slot_list_extend ⟨_, e, rfl⟩ F.entry_list_extend (F.args_list_extend_2 _ _)
    (AutoSeq1.list_extend_list_list_0 l its.toArray n b its2.toArray n2 hlong (by rw [List.size_toArray]; omega) (by omega)) ⟨e, e2, ?_⟩
  refine ⟨.non, _, I.lset (its' := its ++ its2) hH e (by simp) (r.append r2) ?_, rfl, q⟩
  rw [List.length_append]
  omega
theorem chg_ext {n0 : Nat} : Chg G n0 (extL n0) rExtR := fun g F r S H o v u w S' Q h q1 q2 e k => by
  unfold extL at e
  split at e
  · split at e
    · rename_i i xs es
      split at e
      · rename_i ys ey
        split at e
        · rename_i hm
          cases e
          rw [Bool.and_eq_true] at hm
          obtain ⟨a, us, rfl, e1, e2, k2⟩ := store_lst h q1 es
          obtain ⟨b, zs, rfl, l1, l2⟩ := view_lstOf h q2 ey
          exact ⟨a, b, us, zs, rfl, rfl, e2, l1, by rw [← RVs.length k2, ← RVs.length l2]; exact small_le hm.2, k _ (h.put e1 es rfl rfl ⟨_, rfl, k2.append (put_rvs hm.1 l2)⟩)⟩
        · cases e
      · cases e
    · cases e
  · cases e
theorem se_lm {n0 : Nat} {ex : Expr} {fo fa : SE} {f : PV → PV → Store → Option Store} {t : V → List V → Hp → VK → Prop} (hK : G.K = X.K) (ho : Chg G n0 f t) (hp : PE X ex (tBM X.K "list" t (rdV G n0 fo) (tCons (rdV G n0 fa) tNil))) : PE X ex (rdE G n0 (eLm f fo fa)) := by
  refine peI hp fun σ H Q ⟨F, r, env, S, g, s, h⟩ => ?_
  refine stV s cnE h fun p S1 F1 r1 H1 u x1 s1 q1 h1 => ?_
  split at h1
  · rename_i hl
    unfold isL at hl
    split at hl
    · rename_i xs ed
      obtain ⟨a, us, rfl, k1, k2⟩ := view_lst s1.hr q1 ed
      refine ⟨.inl ⟨rfl, us, .inl k1⟩, ?_⟩
      refine stV s1 cnE h1 fun q S2 F2 r2 H2 w x2 s2 q2 h2 => ?_
      cases ef : f p.2 q.2 S2 with
      | none => rw [ef] at h2; exact h2.elim
      | some S3 =>
        rw [ef] at h2
        exact ho g F2 r2 S2 H2 p.2 q.2 _ w S3 Q s2.hr (q1.ext x2) q2 ef fun H' hr => h2 F2 r2 H' .non (x1.trans x2) (s2.ext (.refl _ _) hr) rfl
    · cases hl
  · exact h1.elim
/-! o[k] = e -/
def ChgI (G : Gam) (n0 : Nat) (f : PV → PV → PV → Store → Option Store) (t : TSet) : Prop := ∀ g F r S H o k v u y w S' Q, HR G n0 g F r S H → RV G F r o u → RV G F r k y → RV G F r v w → f o k v S = some S' →
  (∀ H', HR G n0 g F r S' H' → Q H') → t u y w H Q
theorem chg_setL {n0 : Nat} : ChgI G n0 (setL n0) rSetL := fun g F r S H o k v u y w S' Q h q1 q2 q3 e kk => by
  unfold setL at e
  split at e
  · rename_i i
    split at e
    · rename_i xs es
      split at e
      · rename_i j
        split at e
        · rename_i m em
          split at e
          · rename_i hm
            cases e
            obtain ⟨a, us, rfl, e1, e2, k2⟩ := store_lst h q1 es
            refine ⟨a, us, j, m, rfl, q2, e2, by rw [← RVs.length k2, ← ixP_eq]; exact em, kk _ (h.put e1 es rfl rfl ⟨_, rfl, RVs.set (put_rv hm q3) m k2⟩)⟩
          · cases e
        · cases e
      · cases e
    · cases e
  · cases e
theorem ss_setI {n0 : Nat} {st : Stmt} {fo fk fe : SE} {f : PV → PV → PV → Store → Option Store} {t : TSet} (ho : ChgI G n0 f t) (hp : PS X st (tAsg (rdV G n0 fe) (gSub (rdV G n0 fo) (rdV G n0 fk) t))) : PS X st (rdS G n0 (sSetI f fo fk fe)) := by
  refine psI hp fun D σ H ⟨F, r, env, S, g, s, h⟩ => ?_
  refine sgV s h fun p S1 F1 r1 H1 w x1 s1 q1 h1 => ?_
  have h1 := PoS.ext h1 x1
  refine sgV s1 h1 fun q S2 F2 r2 H2 u x2 s2 q2 h2 => ?_
  have h2 := PoS.ext h2 x2
  refine sgV s2 h2 fun z S3 F3 r3 H3 y x3 s3 q3 h3 => ?_
  cases ef : f q.2 z.2 p.2 S3 with
  | none => rw [ef] at h3; exact False.elim h3
  | some S4 =>
    rw [ef] at h3
    exact ho g F3 r3 S3 H3 q.2 z.2 p.2 u y w S4 _ s3.hr (q2.ext x3) q3 (q1.ext (x2.trans x3)) ef fun H' hr => h3 F3 r3 H' σ x3 (s3.ext (.refl _ _) hr)
theorem ss_augI {n0 : Nat} {st : Stmt} {fo fk fe : SE} {f : PV → PV → PV → Store → Option Store} {op gt : Op2} {t : TSet} {tg tp : R2} (hg : Ok2 G gt tg) (hop : Ok2 G op tp) (ho : ChgI G n0 f t) (hp : PS X st (tAugS (rdV G n0 fo) (rdV G n0 fk) (rdV G n0 fe) tg tp t)) : PS X st (rdS G n0 (sAugI op gt f fo fk fe)) := by
  refine psI hp fun D σ H ⟨F, r, env, S, g, s, h⟩ => ?_
  refine sgV s h fun p S1 F1 r1 H1 u x1 s1 q1 h1 => ?_
  have h1 := PoS.ext h1 x1
  refine sgV s1 h1 fun q S2 F2 r2 H2 y x2 s2 q2 h2 => ?_
  have h2 := PoS.ext h2 x2
  cases eg : gt p.2 q.2 S2 with
  | none => rw [eg] at h2; exact False.elim h2
  | some x =>
    rw [eg] at h2
    refine hg n0 g F2 r2 S2 H2 p.2 q.2 u y x _ s2.hr (q1.ext x2) q2 eg fun F3 r3 H3 w x3 hr3 rf => ?_
    obtain ⟨F4, x4, hr4, q4⟩ := freeze hr3 rf
    have s4 := s2.ext (x3.trans x4) hr4
    have x34 := x3.trans x4
    have h3 := PoS.ext h2 x34
    refine sgV s4 h3 fun z S5 F5 r5 H5 w5 x5 s5 q5 h5 => ?_
    have h5 := PoS.ext h5 x5
    cases eo : op x.2 z.2 S5 with
    | none => rw [eo] at h5; exact False.elim h5
    | some v6 =>
      simp only [eo] at h5
      refine hop n0 g F5 r5 S5 H5 x.2 z.2 w w5 v6 _ s5.hr (q4.ext x5) q5 eo fun F6 r6 H6 w6 x6 hr6 rf6 => ?_
      obtain ⟨F7, x7, hr7, q7⟩ := freeze hr6 rf6
      have x67 := x6.trans x7
      cases ef : f p.2 q.2 v6.2 S5 with
      | none => rw [ef] at h5; exact False.elim h5
      | some S7 =>
        rw [ef] at h5
        have xa : Ext F2 F7 r2 r6 := (x34.trans x5).trans x67
        exact ho g F7 r6 S5 H6 p.2 q.2 v6.2 u y w6 S7 _ hr7 ((q1.ext x2).ext xa) (q2.ext xa) q7 ef fun H' hr => h5 F7 r6 H' σ x67 ((s5.ext x67 hr7).ext (.refl _ _) hr)
end
end PX
set_option Elab.async false
set_option linter.all false
set_option maxRecDepth 100000
namespace PX
open PySem PySem.Spec PyProof.Rows L2

/-! the defs at hand: what a body may lean on -/
structure Tb (X : Cx) (G : Gam) (cf : CF) (k : Nat) : Prop where
  hK : G.K = X.K
  call : ∀ f np, FnR X.prog X.w X.K X.mg X.base L2.CX0 k (G.fa f) (spF G cf f np)
  room : Room (k + 1) X.A
  calm : X.calm = true
/-! a name of an attribute is no other's -/
def Inj (G : Gam) (f : Nat) : Prop := ∀ j, G.nm j = G.nm f → j = f
structure ClsI (G : Gam) (c : Nat) : Prop where
  cls : Cls G.K (G.ca c)
  isi : SlX.SIsi G.K (G.ca c)

section
variable {G : Gam} {F : Hp} {r : List Addr}
theorem fld_look {f : Nat} (hi : Inj G f) : ∀ {ns : List Nat} {vs : List PV} {us : List V} {w : PV}, ns.length = us.length → RVs G F r vs us → (ns.zip vs).lookup f = some w → ∃ y, ((ns.map G.nm).zip us).lookup (G.nm f) = some y ∧ RV G F r w y
  | [], _, _, _, _, _, e => by cases e
  | n :: ns, [], us, w, _, _, e => by cases e
  | n :: ns, v :: vs, us, w, hl, q, e => by
    obtain ⟨u, ur, rfl, k, l⟩ := q
    rw [List.zip_cons_cons, List.lookup_cons] at e
    rw [List.map_cons, List.zip_cons_cons, List.lookup_cons]
    cases hb : f == n with
    | true =>
      rw [hb] at e
      cases e
      rw [beq_iff_eq.mp hb, beq_self_eq_true]
      exact ⟨u, rfl, k⟩
    | false =>
      rw [hb] at e
      have : (G.nm f == G.nm n) = false := by
        rw [beq_eq_false_iff_ne]
        intro z
        have := hi n z.symm
        rw [this, beq_self_eq_true] at hb
        cases hb
      rw [this]
      exact fld_look hi (by simpa using hl) l e
theorem fld_none {m : Nat} (hi : Inj G m) : ∀ {ns : List Nat} {us : List V}, ns.contains m = false → ((ns.map G.nm).zip us).lookup (G.nm m) = none
  | [], _, _ => rfl
  | n :: ns, [], _ => rfl
  | n :: ns, u :: us, h => by
    rw [List.contains_cons, Bool.or_eq_false_iff] at h
    rw [List.map_cons, List.zip_cons_cons, List.lookup_cons]
    have : (G.nm m == G.nm n) = false := by
      rw [beq_eq_false_iff_ne]
      intro z
      have := hi n z.symm
      rw [this, beq_self_eq_true] at h
      cases h.1
    rw [this]
    exact fld_none hi h.2
theorem fld_put {f : Nat} (hi : Inj G f) {v : PV} {y : V} (q : RV G F r v y) : ∀ {ns : List Nat} {vs : List PV} {us : List V}, ns.length = us.length → RVs G F r vs us →
    ∃ us', putF (G.nm f) y ((ns.map G.nm).zip us) = (((putFld f v ns vs).1).map G.nm).zip us' ∧ (putFld f v ns vs).1.length = us'.length ∧ RVs G F r (putFld f v ns vs).2 us' ∧ (putFld f v ns vs).1.length ≤ ns.length + 1
  | [], vs, us, hl, k => by
    cases us with
    | cons => cases hl
    | nil =>
      cases vs with
      | cons => obtain ⟨_, _, z, _⟩ := k; cases z
      | nil => exact ⟨[y], rfl, rfl, ⟨y, [], rfl, q, rfl⟩, Nat.le_refl _⟩
  | n :: ns, vs, us, hl, k => by
    cases us with
    | nil => cases hl
    | cons u us =>
      cases vs with
      | nil => cases (show (u :: us) = [] from k)
      | cons w ws =>
        obtain ⟨u', ur, e, k1, l⟩ := k
        cases e
        unfold putFld
        rw [List.map_cons, List.zip_cons_cons]
        unfold putF
        by_cases hn : n = f
        · subst hn
          rw [if_pos rfl, if_pos rfl]
          exact ⟨y :: us, rfl, by simpa using hl, ⟨y, us, rfl, q, l⟩, Nat.le_succ _⟩
        · rw [if_neg hn, if_neg (fun z => hn (hi n z))]
          obtain ⟨us', e1, e2, e3, e4⟩ := fld_put hi q (by simpa using hl) l
          refine ⟨u :: us', ?_, ?_, ⟨u, us', rfl, k1, e3⟩, ?_⟩
          · rw [e1]; rfl
          · show _ + 1 = _ + 1
            rw [e2]
          · show _ + 1 ≤ _ + 1
            exact Nat.succ_le_succ e4
end
section
variable {X : Cx} {G : Gam} {n0 : Nat} {cf : CF} {k : Nat}
/-! o.f -/
theorem se_fld {cs : List Nat} {f : Nat} {e : Expr} {fe : SE} {pos : Pos} (hK : G.K = X.K) (hi : Inj G f) (hc : ∀ c ∈ cs, Cls G.K (G.ca c) ∧ NoAttr G.K (G.ca c) (G.nm f)) (he : PE X e (rdE G n0 fe)) (hb : attributeBase e (G.nm f) X.env (eval e X.env) = eval e X.env := by rfl) :
    PE X (.Attribute e (G.nm f) pos) (rdE G n0 (eFld cs f fe)) := by
  refine peI (pe_fld (toV he) hb) fun σ H Q ⟨F, r, env, S, g, s, h⟩ => ?_
  refine stV s cnE h fun p S1 F1 r1 H1 u x1 s1 q1 h1 => ?_
  unfold fldOf at h1
  simp only at h1
  cases ed : deref S1 p.2 with
  | none => rw [ed] at h1; exact h1.elim
  | some o =>
    rw [ed] at h1
    cases o with
    | ins c ns vs =>
      simp only at h1
      cases hcs : cs.contains c with
      | false => rw [hcs] at h1; exact h1.elim
      | true =>
        rw [hcs, if_pos rfl] at h1
        cases el : (ns.zip vs).lookup f with
        | none => rw [el] at h1; exact h1.elim
        | some w =>
          rw [el] at h1
          obtain ⟨a, dx, us, rfl, k1, k2, k3⟩ := view_ins s1.hr q1 ed
          obtain ⟨y, e1, q2⟩ := fld_look hi k2 k3 el
          obtain ⟨h2, h3⟩ := hc c (by simpa using hcs)
          rw [← hK]
          exact ⟨a, G.ca c, dx, _, y, rfl, k1, h2, h3, e1, h1 F1 r1 H1 y x1 s1 q2⟩
    | _ => exact h1.elim
/-! o.f = e -/
theorem ss_fld {cs : List Nat} {f : Nat} {o e : Expr} {fo fe : SE} {pos pos' : Pos} (hK : G.K = X.K) (hi : Inj G f) (hc : ∀ c ∈ cs, Cls G.K (G.ca c) ∧ NoAttr G.K (G.ca c) (G.nm f)) (ho : PE X o (rdE G n0 fo)) (he : PE X e (rdE G n0 fe))
    (hs : swapsWith e (some (.Attribute o (G.nm f) pos')) pos.line X.env = pure false := by rfl) : PS X (.Assign [.Attribute o (G.nm f) pos'] e pos) (rdS G n0 (sFld n0 cs f fo fe)) := by
  refine psI (ps_fld (toV ho) (toV he) hs) fun D σ H ⟨F, r, env, S, g, s, h⟩ => ?_
  refine sgV s h fun p S1 F1 r1 H1 y x1 s1 q1 h1 => ?_
  have h1 := PoS.ext h1 x1
  refine sgV s1 h1 fun q S2 F2 r2 H2 u x2 s2 q2 h2 => ?_
  obtain ⟨b, v⟩ := q
  cases v with
  | ref i =>
    simp only at h2
    cases es : S2[i]? with
    | none => rw [es] at h2; exact False.elim h2
    | some ob =>
      rw [es] at h2
      cases ob with
      | ins c ns vs =>
        simp only at h2
        cases hcond : (cs.contains c && mayPut n0 i p.2 && Nat.ble ns.length 100) with
        | false => rw [hcond] at h2; exact False.elim h2
        | true =>
          rw [hcond, if_pos rfl] at h2
          rw [Bool.and_eq_true, Bool.and_eq_true] at hcond
          obtain ⟨⟨c1, c2⟩, c3⟩ := hcond
          obtain ⟨a, e1, rfl⟩ := q2
          obtain ⟨ho, k1, k2⟩ := s2.hr.obj i _ a es e1
          obtain ⟨dx, us, rfl, k3, k4⟩ := k2
          obtain ⟨hc1, hc2⟩ := hc c (by simpa using c1)
          obtain ⟨us', e2, e3, e4, e5⟩ := fld_put hi (put_rv c2 (q1.ext x2)) k3 k4
          have hl : ns.length ≤ 100 := Nat.le_of_ble_eq_true c3
          rw [← hK]
          refine ⟨a, G.ca c, dx, _, rfl, k1, hc1, hc2, ?_, ?_⟩
          · rw [List.length_zip, List.length_map]
            omega
          · rw [e2]
            have hr := s2.hr.put (ob' := .ins c (putFld f p.2 ns vs).1 (putFld f p.2 ns vs).2) e1 es rfl rfl ⟨dx, us', rfl, e3, e4⟩
            exact h2 F2 r2 _ σ x2 ⟨hr, s2.sl, s2.vr⟩
      | _ => exact False.elim h2
  | _ => exact False.elim h2
/-! f(..) -/
theorem pe_callR {f : Addr} {sp : Sp} {x : Str} {p pos : Pos} {e : Expr} {es : List Expr} {t : TA} (F : FnR X.prog X.w X.K X.mg X.base L2.CX0 k f sp) (hr : Room k X.A) (hg : Gl X x) (hm : X.mg x = some (.ref f)) (hk : PySem.W.keepIn X.K (.ref f) = true)
    (ha : PA X (e :: es) t) (hdb : (x == ("__debug__" : Str)) = false := by decide) (he : starEach (e :: es) X.env = (false, eval e X.env) :: starEach es X.env := by rfl) (hpl : (backTo pos (starEach es X.env)).any (·.1) = false := by rfl) :
    PE X (.Call (.Name x p) (e :: es) [] pos) (tCall sp [] E0 t) := by
  refine ⟨fun pins s σ H Q I h => ?_⟩
  refine wpAny_Call_Name_kw (ld_glob I hg hm ?_ hdb)
  refine PySem.W.callWith_K (h₀ := X.base) I.ok.mod.kin hk (thn (ha.run pos pins s σ H _ I h) fun us s1 ⟨vs, H1, I1, r, q⟩ => ⟨I1.kIn, ?_⟩) he hpl
  have q : sp (vs ++ []) H1 Q E0 := q
  rw [List.append_nil] at q
  exact wpAny_call (run_fnR F hr pass0 I1 r q)
theorem pe_callR0 {f : Addr} {sp : Sp} {x : Str} {p pos : Pos} (F : FnR X.prog X.w X.K X.mg X.base L2.CX0 k f sp) (hr : Room k X.A) (hg : Gl X x) (hm : X.mg x = some (.ref f)) (hk : PySem.W.keepIn X.K (.ref f) = true)
    (hdb : (x == ("__debug__" : Str)) = false := by decide) : PE X (.Call (.Name x p) [] [] pos) (tCall sp [] E0 tNil) := by
  refine ⟨fun pins s σ H Q I h => ?_⟩
  refine wpAny_Call_Name_kw (ld_glob I hg hm ?_ hdb)
  exact PySem.W.callWith_K0 I.kIn hk (wpAny_call (run_fnR (us := []) F hr pass0 I .nil h))
theorem sx_call {f np : Nat} {x : Str} {p pos : Pos} {e : Expr} {es : List Expr} {fs : SA} (T : Tb X G cf k) (hg : Gl X x) (hm : X.mg x = some (.ref (G.fa f))) (hk : PySem.W.keepIn G.K (.ref (G.fa f)) = true) (ha : PA X (e :: es) (rdA G n0 fs))
    (hdb : (x == ("__debug__" : Str)) = false := by decide) (he : starEach (e :: es) X.env = (false, eval e X.env) :: starEach es X.env := by rfl) (hpl : (backTo pos (starEach es X.env)).any (·.1) = false := by rfl) :
    PE X (.Call (.Name x p) (e :: es) [] pos) (rdE G n0 (eCall cf np f fs)) := se_call (pe_callR (T.call f np) (T.room.mono (Nat.le_succ k)) hg hm (T.hK ▸ hk) ha hdb he hpl)
theorem sx_call0 {f : Nat} {x : Str} {p pos : Pos} (T : Tb X G cf k) (hg : Gl X x) (hm : X.mg x = some (.ref (G.fa f))) (hk : PySem.W.keepIn G.K (.ref (G.fa f)) = true)
    (hdb : (x == ("__debug__" : Str)) = false := by decide) : PE X (.Call (.Name x p) [] [] pos) (rdE G n0 (eCall cf 0 f aNil)) := by
  refine peI (pe_callR0 (T.call f 0) (T.room.mono (Nat.le_succ k)) hg hm (T.hK ▸ hk) hdb) fun σ H Q ⟨F, r, env, S, g, s, h⟩ => ?_
  exact run_call (E := E0) s (.refl F r) (show RVs G F r [] [] from rfl) rfl h
/-! o.m(..), the class found at the run -/
def tMethD (X : Cx) (k : Nat) (m : Str) (ta : TE) (t : TA) : TE := fun σ H Q => ta σ H fun x H1 => ∃ a C dx fs g sp, x = .ref a ∧ H1 a = some (.ins C dx fs) ∧ Cls X.K C ∧ Meth X.K C m g ∧ fs.lookup m = none ∧ FnR X.prog X.w X.K X.mg X.base L2.CX0 k g sp ∧ t σ H1 fun vs H2 => sp (x :: vs) H2 Q E0
theorem pe_methD {m : Str} {pos apos : Pos} {o e : Expr} {es : List Expr} {ta : TE} {t : TA} {pl : Sem Bool} (he : PE X o ta) (hr : Room k X.A) (ha : PA X (e :: es) t)
    (hst : starEach (e :: es) X.env = (false, eval e X.env) :: starEach es X.env := by rfl) (hpl : (backTo pos (starEach es X.env)).any (·.1) = false := by rfl)
    (ht : eval (.Call (.Attribute o m apos) (e :: es) [] pos) X.env = (do
      let ov ← eval o X.env
      standAt apos.atName
      let (f, first) ← holding [ov] (getMethod ov m pl)
      callWith pos f first (backTo pos (starEach (e :: es) X.env)) (backToKw pos (keywordEach [] X.env))) := by rfl) :
    PE X (.Call (.Attribute o m apos) (e :: es) [] pos) (tMethD X k m ta t) := by
  refine ⟨fun pins s σ H Q I h => ?_⟩
  refine PySem.W.methodCall_KW (pl := pl) (thn (he.run pins s σ H _ I h) fun u s1 ⟨x, H1, I1, rx, a, C, dx, fs, g, sp, ex, ea, c, hm, l, F, q⟩ => ?_) ht
  subst ex
  obtain rfl : u = Value.ref a := rx
  refine getmeth_ok I1 ea c hm l ?_
  refine PySem.W.callWith_K (first := [.ref a]) (h₀ := X.base) I.ok.mod.kin hm.kp (thn (ha.run pos pins s1 σ H1 _ I1 q) fun us s2 ⟨ws, H2, I2, r, q2⟩ => ⟨I2.kIn, ?_⟩) hst hpl
  exact wpAny_call (run_fnR (us := .ref a :: us) (vs := .ref a :: ws) F hr pass0 I2 (.cons rfl r) q2)
theorem pe_methD0 {m : Str} {pos apos : Pos} {o : Expr} {ta : TE} {pl : Sem Bool} (he : PE X o ta) (hr : Room k X.A)
    (ht : eval (.Call (.Attribute o m apos) [] [] pos) X.env = (do
      let ov ← eval o X.env
      standAt apos.atName
      let (f, first) ← holding [ov] (getMethod ov m pl)
      callWith pos f first (backTo pos (starEach [] X.env)) (backToKw pos (keywordEach [] X.env))) := by rfl) :
    PE X (.Call (.Attribute o m apos) [] [] pos) (tMethD X k m ta tNil) := by
  refine ⟨fun pins s σ H Q I h => ?_⟩
  refine PySem.W.methodCall_KW (pl := pl) (thn (he.run pins s σ H _ I h) fun u s1 ⟨x, H1, I1, rx, a, C, dx, fs, g, sp, ex, ea, c, hm, l, F, q⟩ => ?_) ht
  subst ex
  obtain rfl : u = Value.ref a := rx
  refine getmeth_ok I1 ea c hm l ?_
  exact PySem.W.callWith_K0 (first := [.ref a]) I1.kIn hm.kp (wpAny_call (run_fnR (us := [.ref a]) (vs := [.ref a]) F hr pass0 I1 (.cons rfl .nil) q))
theorem look_mem {α : Type} : ∀ {l : List (Nat × α)} {c : Nat} {f : α}, l.lookup c = some f → (c, f) ∈ l
  | [], _, _, e => by cases e
  | (a, b) :: l, c, f, e => by
    rw [List.lookup_cons] at e
    cases hb : c == a with
    | true =>
      rw [hb] at e
      cases e
      rw [beq_iff_eq.mp hb]
      exact List.mem_cons_self
    | false =>
      rw [hb] at e
      exact List.mem_cons_of_mem _ (look_mem e)
theorem sa_nilT {σ : L2.St} {H : Hp} {Q : List V → Hp → Prop} (h : rdA G n0 aNil σ H Q) : tNil σ H Q := by
  obtain ⟨F, r, env, S, g, s, h⟩ := h
  exact h F r H [] (.refl F r) s rfl
theorem meth_core {np m : Nat} {tb : List (Nat × Nat)} {fo : SE} {fs : SA} {t : TA} {ex : Expr} (T : Tb X G cf k) (ht : ∀ σ H Q, rdA G n0 fs σ H Q → t σ H Q) (hi : Inj G m) (hc : ∀ p ∈ tb, Cls G.K (G.ca p.1) ∧ Meth G.K (G.ca p.1) (G.nm m) (G.fa p.2))
    (hp : PE X ex (tMethD X k (G.nm m) (rdV G n0 fo) t)) : PE X ex (rdE G n0 (eMeth cf np m tb fo fs)) := by
  refine peI hp fun σ H Q ⟨F, r, env, S, g, s, h⟩ => ?_
  refine stV s cnE h fun p S1 F1 r1 H1 u x1 s1 q1 h1 => ?_
  unfold methOf at h1
  cases ed : deref S1 p.2 with
  | none => rw [ed] at h1; exact h1.elim
  | some o =>
    rw [ed] at h1
    cases o with
    | ins c ns vs =>
      simp only at h1
      cases hn : ns.contains m with
      | true => rw [hn] at h1; exact h1.elim
      | false =>
        rw [hn] at h1
        simp only [Bool.false_eq_true, if_false] at h1
        cases el : tb.lookup c with
        | none => rw [el] at h1; exact h1.elim
        | some f =>
          rw [el] at h1
          obtain ⟨a, dx, us, rfl, k1, k2, k3⟩ := view_ins s1.hr q1 ed
          obtain ⟨h2, h3⟩ := hc (c, f) (look_mem el)
          refine ⟨a, G.ca c, dx, _, G.fa f, _, rfl, k1, T.hK ▸ h2, T.hK ▸ h3, fld_none hi hn, T.call f np, ?_⟩
          refine ht _ _ _ (stA s1 cnE h1 fun q S2 F2 r2 H2 ws x2 s2 q2 h4 => ?_)
          split at h4
          · rename_i hl
            exact run_call (E := E0) s2 (x1.trans x2) (show RVs G F2 r2 (p.2 :: q) _ from ⟨_, ws, rfl, q1.ext x2, q2⟩) hl h4
          · exact h4.elim
    | _ => exact h1.elim
theorem se_meth {np m : Nat} {tb : List (Nat × Nat)} {o e : Expr} {es : List Expr} {fo : SE} {fs : SA} {pos apos : Pos} {pl : Sem Bool} (T : Tb X G cf k) (hi : Inj G m) (hc : ∀ p ∈ tb, Cls G.K (G.ca p.1) ∧ Meth G.K (G.ca p.1) (G.nm m) (G.fa p.2)) (ho : PE X o (rdE G n0 fo)) (ha : PA X (e :: es) (rdA G n0 fs))
    (hst : starEach (e :: es) X.env = (false, eval e X.env) :: starEach es X.env := by rfl) (hpl : (backTo pos (starEach es X.env)).any (·.1) = false := by rfl)
    (ht : eval (.Call (.Attribute o (G.nm m) apos) (e :: es) [] pos) X.env = (do
      let ov ← eval o X.env
      standAt apos.atName
      let (f, first) ← holding [ov] (getMethod ov (G.nm m) pl)
      callWith pos f first (backTo pos (starEach (e :: es) X.env)) (backToKw pos (keywordEach [] X.env))) := by rfl) :
    PE X (.Call (.Attribute o (G.nm m) apos) (e :: es) [] pos) (rdE G n0 (eMeth cf np m tb fo fs)) :=
  meth_core T (fun _ _ _ h => h) hi hc (pe_methD (pl := pl) (toV ho) (T.room.mono (Nat.le_succ k)) ha hst hpl ht)
theorem se_meth0 {m : Nat} {tb : List (Nat × Nat)} {o : Expr} {fo : SE} {pos apos : Pos} {pl : Sem Bool} (T : Tb X G cf k) (hi : Inj G m) (hc : ∀ p ∈ tb, Cls G.K (G.ca p.1) ∧ Meth G.K (G.ca p.1) (G.nm m) (G.fa p.2)) (ho : PE X o (rdE G n0 fo))
    (ht : eval (.Call (.Attribute o (G.nm m) apos) [] [] pos) X.env = (do
      let ov ← eval o X.env
      standAt apos.atName
      let (f, first) ← holding [ov] (getMethod ov (G.nm m) pl)
      callWith pos f first (backTo pos (starEach [] X.env)) (backToKw pos (keywordEach [] X.env))) := by rfl) :
    PE X (.Call (.Attribute o (G.nm m) apos) [] [] pos) (rdE G n0 (eMeth cf 1 m tb fo aNil)) :=
  meth_core T (fun _ _ _ h => sa_nilT h) hi hc (pe_methD0 (pl := pl) (toV ho) (T.room.mono (Nat.le_succ k)) ht)
/-! C(..) -/
theorem run_makeR {C f : Addr} {sp : Sp} {pins : List (Addr × Obj)} {σ : L2.St} {H : Hp} {s : Shared} {Q : VK} {us : List Value} {vs : List V} (M : Mk X.K C f) (F : FnR X.prog X.w X.K X.mg X.base L2.CX0 k f sp) (hr : Room (k + 1) X.A)
    (I : Inv X pins σ H s) (r : Vals vs us)
    (h : ∀ x dx, H x = none → H dx = none → dx ≠ x → sp (.ref x :: vs) (upd (upd H dx (.own x)) x (.ins C dx [])) (fun v H2 => v = .non ∧ Q (.ref x) H2) E0) :
    wpAny (model X.prog X.w) X.A (call (.ref C) us) (EP X pins σ Q) X.xe s := by
  have hq := h (s.heap.objs.size + 1) s.heap.objs.size (I.hok.fresh (Nat.le_succ _)) (I.hok.fresh (Nat.le_refl _)) (Nat.ne_of_lt (Nat.lt_succ_self _))
  have I2 := Inv.made (C := C) I
  have r2 : Vals (V.ref (s.heap.objs.size + 1) :: vs) (Value.ref (s.heap.objs.size + 1) :: us) := .cons rfl r
  refine wpAny_call (make_map (f := f) I.kIn M.makes M.init (beq_iff_eq.mp M.fn) (codeAny_mono (F _ X.stack _ _ (Value.ref (s.heap.objs.size + 1) :: us) _ _ E0 (hr.make C us [])
    (I2.env0.make C us []) r2 hq) fun r s' hq' => ?_))
  cases r with
  | error e => exact hq'.elim
  | ok fl =>
    cases fl with
    | ret u =>
      obtain ⟨v, H', I3, rv, ev, q3⟩ := I2.after hq'
      subst ev
      exact ⟨rv, ⟨V.ref (s.heap.objs.size + 1), H', I3, rfl, q3⟩⟩
    | next => exact False.elim hq'
    | brk => exact False.elim hq'
    | cont => exact False.elim hq'
theorem pe_makeR {C f : Addr} {sp : Sp} {x : Str} {p pos : Pos} {e : Expr} {es : List Expr} {t : TA} (M : Mk X.K C f) (F : FnR X.prog X.w X.K X.mg X.base L2.CX0 k f sp) (hr : Room (k + 1) X.A) (hg : Gl X x) (hm : X.mg x = some (.ref C))
    (ha : PA X (e :: es) t) (hdb : (x == ("__debug__" : Str)) = false := by decide) (he : starEach (e :: es) X.env = (false, eval e X.env) :: starEach es X.env := by rfl) (hpl : (backTo pos (starEach es X.env)).any (·.1) = false := by rfl) :
    PE X (.Call (.Name x p) (e :: es) [] pos) (tMake C sp [] E0 t) := by
  refine ⟨fun pins s σ H Q I h => ?_⟩
  refine wpAny_Call_Name_kw (ld_glob I hg hm ?_ hdb)
  refine PySem.W.callWith_K (h₀ := X.base) I.ok.mod.kin M.kp (thn (ha.run pos pins s σ H _ I h) fun us s1 ⟨vs, H1, I1, r, q⟩ => ⟨I1.kIn, ?_⟩) he hpl
  exact run_makeR M F hr I1 r fun x dx h1 h2 h3 => by
    have z := q x dx h1 h2 h3
    rw [List.append_nil] at z
    exact z
theorem se_make {np c f : Nat} {x : Str} {p pos : Pos} {e : Expr} {es : List Expr} {fs : SA} (T : Tb X G cf k) (M : Mk G.K (G.ca c) (G.fa f)) (hg : Gl X x) (hm : X.mg x = some (.ref (G.ca c))) (ha : PA X (e :: es) (rdA G n0 fs))
    (hdb : (x == ("__debug__" : Str)) = false := by decide) (he : starEach (e :: es) X.env = (false, eval e X.env) :: starEach es X.env := by rfl) (hpl : (backTo pos (starEach es X.env)).any (·.1) = false := by rfl) :
    PE X (.Call (.Name x p) (e :: es) [] pos) (rdE G n0 (eMake cf np c f fs)) := by
  refine peI (pe_makeR (T.hK ▸ M) (T.call f np) T.room hg hm ha hdb he hpl) fun σ H Q ⟨F, r, env, S, g, s, h⟩ => ?_
  refine stA s cnE h fun q S1 F1 r1 H1 us x1 s1 q1 h1 => ?_
  split at h1
  · rename_i hl
    intro x dx hx hd hne
    rw [List.append_nil]
    have hc := (s1.hr.call).heap (H' := upd H1 dx (.own x)) fun a o e => by rw [upd_ne (ne_of_none e hd)]; exact e
    obtain ⟨h2, rf⟩ := new_obj (v := .ins c [] []) (ho := .ins (G.ca c) dx []) hc (by rw [upd_ne hne.symm]; exact hx) ⟨dx, [], rfl, rfl, rfl⟩ rfl
    obtain ⟨r2, x2, h3, q3⟩ := store_new h2 rf
    refine ⟨F1, r2, S1 ++ [.ins c [] []], subG n0 g S1.length, S1.length, .ref S1.length :: q, h3, ⟨_, us, rfl, q3, q1.ext x2⟩, hl, ?_⟩
    cases ec : cf f (.ref S1.length :: q) S1.length (S1 ++ [.ins c [] []]) with
    | no => rw [ec] at h1; exact h1
    | ex => rw [ec] at h1; exact h1
    | ok v S2 =>
      rw [ec] at h1
      intro F3 r3 H3 u x3 h4 q4
      cases v with
      | non =>
        refine ⟨q4, ?_⟩
        have h1 : PoE G n0 g F r env σ (norm S1.length (.ref S1.length) S2) Q := h1
        cases en : norm S1.length (.ref S1.length) S2 with
        | no => rw [en] at h1; exact h1.elim
        | ex => rw [en] at h1; exact h1.elim
        | ok p S3 =>
          rw [en] at h1
          obtain ⟨b, w⟩ := p
          obtain ⟨F4, x4, h5, q5⟩ := norm_ok h4 (RV.ext x3 q3) en
          rw [take_ext s1.hr (x2.trans x3)] at h5 q5
          have x5 : Ext F1 F4 r1 r1 := ⟨(x2.trans x3).1.trans x4, List.prefix_refl r1⟩
          exact h1 F4 r1 H3 _ (x1.trans x5) (s1.ext x5 (s1.hr.back h5)) q5
      | _ => exact h1.elim
  · exact h1.elim
/-! ### isinstance -/
inductive TyN where
  | non | bl | int | str | tup | lst | dct
  | own (c : Nat)
  deriving DecidableEq
def tyN (S : Store) (v : PV) : Option TyN := match deref S v with
  | some .non => some .non
  | some (.bl _) => some .bl
  | some (.int _) => some .int
  | some (.str _) => some .str
  | some (.tup _) => some .tup
  | some (.lst _) => some .lst
  | some (.dct _ _) => some .dct
  | some (.ins c _ _) => some (.own c)
  | _ => none
def TyN.val (G : Gam) : TyN → Value
  | .non => .type "NoneType"
  | .bl => .type "bool"
  | .int => .type "int"
  | .str => .type "str"
  | .tup => .type "tuple"
  | .lst => .type "list"
  | .dct => .type "dict"
  | .own c => .ref (G.ca c)
def eIsi (tb : List (TyN × Bool)) : SE → SE := eUn fun v S => match tyN S v with
  | some t => (tb.lookup t).map fun b => (false, .bl b)
  | none => none
theorem tyN_ok {g : Gh} {F : Hp} {r : List Addr} {S : Store} {H : Hp} {v : PV} {u : V} {t : TyN} (h : HR G n0 g F r S H) (q : RV G F r v u) (hc : ∀ c, t = .own c → ClsI G c) (e : tyN S v = some t) : TyX G.K H u (t.val G) := by
  unfold tyN at e
  split at e
  · rename_i ed; cases e; rw [view_non h q ed]; exact .base .non
  · rename_i ed; cases e; rw [view_bl h q ed]; exact .base (.bl _)
  · rename_i ed; cases e; rw [view_int h q ed]; exact .base (.int _)
  · rename_i ed; cases e; rw [view_str h q ed]; exact .base (.str _)
  · rename_i ed
    cases e
    obtain ⟨a, us, rfl, k1, _⟩ := view_tup h q ed
    rcases k1 with (k1 | ⟨o, k1⟩) | ⟨o, its, n, k1, k2, _⟩
    · exact .base (.tup k1)
    · exact .fTuple k1
    · exact .kTuple k1 k2
  · rename_i ed
    cases e
    obtain ⟨a, us, rfl, k1, _⟩ := view_lst h q ed
    rcases k1 with k1 | ⟨o, k1⟩
    · exact .base (.lst k1)
    · exact .base (.frz k1)
  · rename_i ed
    cases e
    obtain ⟨a, ho, us, rfl, k1, k2, _⟩ := view_dct h q ed
    rename_i ks vs ed
    cases ks with
    | k kk =>
      obtain ⟨rfl, _⟩ := k2
      exact .base (.dK k1)
    | t kk =>
      obtain ⟨rfl, _⟩ := k2
      exact .base (.dT k1)
  · rename_i ed
    cases e
    obtain ⟨a, dx, us, rfl, k1, _⟩ := view_ins h q ed
    obtain ⟨c1, c2⟩ := hc _ rfl
    exact .base (.ins k1 c1 c2.ca c2.cn c2.ct c2.cm)
  · cases e
theorem tb_mem {tb : List (TyN × Bool)} {t : TyN} {b : Bool} : tb.lookup t = some b → (t, b) ∈ tb := by
  induction tb with
  | nil => intro e; cases e
  | cons p l ih =>
    obtain ⟨a, c⟩ := p
    intro e
    rw [List.lookup_cons] at e
    cases hb : t == a with
    | true =>
      rw [hb] at e
      cases e
      rw [beq_iff_eq.mp hb]
      exact List.mem_cons_self
    | false =>
      rw [hb] at e
      exact List.mem_cons_of_mem _ (ih e)
theorem se_isi1 {tb : List (TyN × Bool)} {e ce : Expr} {fe : SE} {p pos : Pos} {cv : V} {cu : Value} (hK : G.K = X.K) (hg : Gl X "isinstance") (hm : X.mg "isinstance" = none) (hb : bootBuiltins "isinstance" = some (.builtin "isinstance")) (hcv : ClsV cv cu)
    (hcl : ∀ t b, (t, b) ∈ tb → PySem.W.kitOne G.K (t.val G) cu = some b ∧ ∀ c, t = .own c → ClsI G c) (he : PE X e (rdE G n0 fe)) (hc : PE X ce (tC cv))
    (hs : starEach [e, ce] X.env = (false, eval e X.env) :: starEach [ce] X.env := by rfl) (hs2 : starEach [ce] X.env = (false, eval ce X.env) :: starEach [] X.env := by rfl) (hpl : (backTo pos (starEach [ce] X.env)).any (·.1) = false := by rfl) :
    PE X (.Call (.Name "isinstance" p) [e, ce] [] pos) (rdE G n0 (eIsi tb fe)) := by
  refine peI (pe_callB call_isi hg hm hb (pa_cons (toV he) (pa_cons hc pa_nil hs2) hs) (by decide) (by decide) hs hpl) fun σ H Q ⟨F, r, env, S, g, s, h⟩ => ?_
  refine stV s cnE h fun p S1 F1 r1 H1 u x1 s1 q1 h1 => ?_
  simp only at h1
  cases et : tyN S1 p.2 with
  | none => rw [et] at h1; exact h1.elim
  | some t =>
    rw [et] at h1
    cases el : tb.lookup t with
    | none => simp only [el] at h1; exact h1.elim
    | some b =>
      simp only [el] at h1
      obtain ⟨k1, k2⟩ := hcl t b (tb_mem el)
      exact ⟨u, cv, t.val G, cu, b, rfl, hcv, hK ▸ tyN_ok s1.hr q1 k2 et, hK ▸ k1, h1 F1 r1 H1 _ x1 s1 rfl⟩
end
end PX
set_option Elab.async false
set_option linter.all false
set_option maxRecDepth 100000
namespace PX
open PySem PySem.Spec PyProof.Rows L2

section
open Builtin
variable {prog : Program} {w : World} {A : Around} {E : Value → Shared → Prop} {s : Shared} {K : PySem.W.Frag} {x C L f : Addr} {h₀ : Heap} {m : Str → Option Value} {ox : Obj} {od : Option Obj} {b tb : Value}
theorem ne_entry {Q : Fin → Shared → Prop} {h : Heap} {g : Array GenState} {d : Drawn} {t : Nat} {os : OsState} (hu : A.units < cLine) (X : K.In h) (I : PySem.W.InstAt h x ox C od)
    (hs : PySem.W.findIn K (.ref C) "__eq__" = some (some (.ref f))) (hf : PySem.W.isFn K (.ref f) = true)
    (hcall : wpAny (model prog w) A (call (.ref f) [.ref x, b]) (fun v s' => ∃ b, v = .bool b ∧ Q (.done (.ret (.bool (!b)))) s') E ⟨h, g, d, t, os⟩) :
    wpAny (model prog w) A (Builtin.«object.__ne__» ⟨[.ref x, b], []⟩) Q E ⟨h, g, d, t, os⟩ := by
  unfold Builtin.«object.__ne__»
  repeat (first
    | with_reducible refine wpAny_cRoomFor hu ?_
    | (refine wpAny_bind (m := callSpecialIfBound? (.ref x) (Str.ofString "__eq__") [b])
        (PySem.W.ifBound_K X I hs hf (wpAny_mono hcall (fun r s' hr => by
          obtain ⟨b, rfl, hq⟩ := hr
          repeat (first | exact hq | exact wpAny_pure hq | exact wpAny_truthy_bool hq | (refine wpAny_bind (m := truthy (.bool _)) (wpAny_truthy_bool ?_)) | wp_step)) fun _ _ e => e)))
    | wp_step)
theorem ne_try {Q : Option Value → Shared → Prop} (hu : A.units + 1 < cLine) (X : K.In s.heap) (I : PySem.W.InstAt s.heap x ox C od)
    (hne : PySem.W.findIn K (.ref C) "__ne__" = some (some (.builtin "object.__ne__"))) (hm : PySem.W.mroIn K C (.type "object") = some true) (hs : PySem.W.findIn K (.ref C) "__eq__" = some (some (.ref f))) (hf : PySem.W.isFn K (.ref f) = true)
    (h : wpAny (model prog w) A.in1 (call (.ref f) [.ref x, b]) (fun v s' => ∃ k, v = .bool k ∧ Q (some (.bool (!k))) s') E s) : wpAny (model prog w) A (tryCompare (.ref x) "__ne__" b) Q E s := by
  have S := PySem.F.cmp_object.ne
  simp only [tryCompare]
  refine wpAny_bind (m := callSpecialIfBound? (.ref x) "__ne__" [b]) ?_
  simp only [callSpecialIfBound?, bindSpecialIfBound?]
  have body : wpAny (model prog w) A (call (.builtin "object.__ne__") [.ref x, b]) (fun v s' => ∃ k, v = .bool (!k) ∧ Q (some (.bool (!k))) s') E s := by
    refine wpAny_call (codeAny_call_builtin S.plain F.cmpEntry_ne (PySem.W.check_slot F.cmpKind_ne F.cmpSplit_ne (I.type.andThen (PySem.W.looks_mroIn X hm)) (F.cmpArgs_ne _ _) ?_))
    obtain ⟨hp, g, d, t, os⟩ := s
    refine ne_entry (A := A.in1) hu X I hs hf (wpAny_mono h (fun v s' hv => ?_) fun _ _ e => e)
    obtain ⟨k, rfl, hq⟩ := hv
    exact ⟨k, rfl, k, rfl, hq⟩
  have fin : wpAny (model prog w) A (call (.builtin "object.__ne__") ([.ref x] ++ [b]) >>= fun v => pure (some v)) (fun r s' => wpAny (model prog w) A (match r with
      | some .notImplemented => pure none
      | none => pure none
      | some v => pure (some v)) Q E s') E s := by
    refine wpAny_bind (wpAny_mono body (fun v s' hv => ?_) fun _ _ e => e)
    obtain ⟨k, rfl, hq⟩ := hv
    exact wpAny_pure (wpAny_pure hq)
  refine wpAny_holding (wpAny_bind (wpAny_bind (wpAny_bind (I.type.here ((PySem.W.looks_findIn X hne).here ?_)))))
  simp only [S.bind]
  refine wpAny_bind (wpAny_askSetting (wpAny_ite ?_))
  split
  · exact wpAny_bind (wpAny_pure (wpAny_pure fin))
  · exact wpAny_tryCatch (wpAny_bind (wpAny_pure (wpAny_pure fin)))
theorem ne_K {Q : Value → Shared → Prop} (hu : A.units + 1 < cLine) (X : K.In s.heap) (I : PySem.W.InstAt s.heap x ox C od) (hb : PySem.W.Looks (model prog w) s.heap (typeOf b) tb) (hn : PySem.W.notFirst K C tb = true)
    (hne : PySem.W.findIn K (.ref C) "__ne__" = some (some (.builtin "object.__ne__"))) (hm : PySem.W.mroIn K C (.type "object") = some true) (hs : PySem.W.findIn K (.ref C) "__eq__" = some (some (.ref f))) (hf : PySem.W.isFn K (.ref f) = true)
    (h : wpAny (model prog w) A.in1 (call (.ref f) [.ref x, b]) (fun v s' => ∃ k, v = .bool k ∧ Q (.bool (!k)) s') E s) : wpAny (model prog w) A (richCompare .NotEq (.ref x) b) Q E s := by
  have one : wpAny (model prog w) A (tryCompare (.ref x) (cmpInfo .NotEq).2.1 b) (fun r s' => ∃ v, r = some v ∧ Q v s') E s :=
    ne_try hu X I hne hm hs hf (wpAny_mono h (fun v s' hv => by
      obtain ⟨k, e, q⟩ := hv
      exact ⟨k, e, _, rfl, q⟩) fun _ _ e => e)
  unfold richCompare
  simp only [oneThing_ref]
  refine wpAny_holding (wpAny_bind (wpAny_cRoomFor (Nat.lt_of_succ_lt hu) ?_))
  refine wpAny_bind (I.type.here (wpAny_bind (hb.here ?_)))
  split
  · rename_i q
    have e : PySem.W.subIn K tb (.ref C) = some false := by
      rcases Bool.or_eq_true_iff.mp hn with e | e
      · rw [beq_iff_eq.mp e] at q; simp at q
      · exact beq_iff_eq.mp e
    refine wpAny_bind ((PySem.W.looks_subIn X e).here ?_)
    simp only [Bool.false_eq_true, if_false]
    refine wpAny_bind (wpAny_mono one (fun r s' z => ?_) fun _ _ e => e)
    obtain ⟨v, rfl, hq⟩ := z
    exact wpAny_pure hq
  · refine wpAny_bind (wpAny_pure ?_)
    simp only [Bool.false_eq_true, if_false]
    refine wpAny_bind (wpAny_mono one (fun r s' z => ?_) fun _ _ e => e)
    obtain ⟨v, rfl, hq⟩ := z
    exact wpAny_pure hq
end

/-! ### own specials -/
structure Spc (K : PySem.W.Frag) (C f : Addr) (name : Str) : Prop where
  at_ : PySem.W.findIn K (.ref C) name = some (some (.ref f))
  fn : PySem.W.isFn K (.ref f) = true
def callV (cf : CF) (f : Nat) (args : List PV) (S : Store) : R (Bool × PV) := (cutX S.length (cf f args S.length S)).bind fun v S2 => norm S.length v S2
def ownOf (tb : List (Nat × Nat)) (S : Store) (v : PV) : Option Nat := match deref S v with
  | some (.ins c _ _) => tb.lookup c
  | _ => none
def lenI (z : Bool × PV) (S : Store) : R (Bool × PV) := match z.2 with
  | .int n => if decide (0 ≤ n) && decide (n < 4611686018427387904) then .ok (false, .int n) S else .no
  | _ => .no
def eLen (cf : CF) (tb : List (Nat × Nat)) (a : SE) : SE := fun env S => (a env S).bind fun p S1 => match ownOf tb S1 p.2 with
  | some f => (callV cf f [p.2] S1).bind lenI
  | none => ofO (bLen [p.2] S1) S1
/-! a == b, a != b, an own == -/
def notI (z : Bool × PV) (S : Store) : R (Bool × PV) := match z.2 with
  | .bl b => .ok (false, .bl (!b)) S
  | _ => .no
def okTy (tys : List TyN) (S : Store) (v : PV) : Bool := match tyN S v with
  | some t => tys.contains t
  | none => false
def eEq (cf : CF) (tb : List (Nat × Nat)) (tys : List TyN) (a b : SE) : SE := fun env S => (a env S).bind fun p S1 => (b env S1).bind fun q S2 => match ownOf tb S2 p.2 with
  | some f => if okTy tys S2 q.2 then callV cf f [p.2, q.2] S2 else .no
  | none => ofO (oEq p.2 q.2 S2) S2
def eNe (cf : CF) (tb : List (Nat × Nat)) (tys : List TyN) (a b : SE) : SE := fun env S => (a env S).bind fun p S1 => (b env S1).bind fun q S2 => match ownOf tb S2 p.2 with
  | some f => if okTy tys S2 q.2 then (callV cf f [p.2, q.2] S2).bind notI else .no
  | none => ofO (oNe p.2 q.2 S2) S2

section
variable {X : Cx} {k : Nat}
def rLenOwn (X : Cx) (k : Nat) : List V → Hp → VK → Prop := fun xs H Q => ∃ a C dx fs g sp, xs = [V.ref a] ∧ H a = some (.ins C dx fs) ∧ Spc X.K C g "__len__" ∧ FnR X.prog X.w X.K X.mg X.base L2.CX0 k g sp ∧
  sp [.ref a] H (fun v H' => ∃ n : Int, v = .int n ∧ 0 ≤ n ∧ n < 2 ^ 63 ∧ Q (.int n) H') E0
theorem inst_at {pins : List (Addr × Obj)} {σ : L2.St} {H : Hp} {s : Shared} {a C dx : Addr} {fs : List (Str × V)} (I : Inv X pins σ H s) (ea : H a = some (.ins C dx fs)) : ∃ od, PySem.W.InstAt s.heap a (PySem.W.instObj C dx) C (some od) := by
  obtain ⟨mA, O, _⟩ := ins_get I.hok ea
  obtain ⟨od, J, _⟩ := O.look
  exact ⟨od, J⟩
theorem cr_lenOwn (hr : Room (k + 1) X.A) : CallR X (.builtin "len") (rLenOwn X k) := by
  intro pins s σ H xs us Q I r h
  obtain ⟨a, C, dx, fs, g, sp, rfl, ea, hs, F, q⟩ := h
  rw [Vals.ref1 r]
  obtain ⟨od, J⟩ := inst_at I ea
  obtain ⟨m, hF⟩ := I.fr
  refine PySem.W.len_K hF I.ok.mod.kin J hs.at_ hs.fn (wpAny_mono (wpAny_call (SlX.run_at (us := [.ref a]) (ws := [.ref a]) F hr.in1 I.env0.in1 pass0 I (.cons rfl .nil) q)) (fun w s' z => ?_) fun _ _ x => x)
  obtain ⟨z', H', I', rz, n, ez, h1, h2, qz⟩ := z
  subst ez
  obtain ⟨t, e⟩ := (show ∃ t, w = Value.int n t from rz)
  cases e
  exact ⟨⟨h1, h2⟩, .int n, H', I'.tok _, ⟨_, rfl⟩, qz⟩
def rEqOwn (X : Cx) (k : Nat) : R2 := fun x y H Q => ∃ a C dx fs g sp t, x = .ref a ∧ H a = some (.ins C dx fs) ∧ TyX X.K H y t ∧ PySem.W.notFirst X.K C t = true ∧ Spc X.K C g "__eq__" ∧ FnR X.prog X.w X.K X.mg X.base L2.CX0 k g sp ∧ sp [x, y] H Q E0
theorem op_eqOwn (hr : Room (k + 1) X.A) : OpR X (compareOp .Eq) (rEqOwn X k) := by
  intro pins s σ H x y v u Q I rx ry h
  obtain ⟨a, C, dx, fs, g, sp, t, rfl, ea, ty, hn, hs, F, q⟩ := h
  cases (show v = Value.ref a from rx)
  obtain ⟨od, J⟩ := inst_at I ea
  obtain ⟨m, hF⟩ := I.fr
  obtain ⟨P, Z, p, _⟩ := kit_of I ry ty
  show wpAny (model X.prog X.w) X.A (richCompare .Eq (.ref a) u) (EP X pins σ Q) X.xe s
  refine PySem.W.cmp_K (op := .Eq) (tb := t) hr.units0 hF I.ok.mod.kin J (Z.ty _ _ I.kIn p) hn hs.at_ hs.fn ?_
  refine wpAny_mono (wpAny_call (run_fnR (us := [.ref a, u]) (vs := [.ref a, y]) F (hr.mono (Nat.le_succ k)) pass0 I (.cons rfl (.cons ry .nil)) q)) (fun w s' z => ?_) fun _ _ x => x
  obtain ⟨z', H', I', rz, qz⟩ := z
  exact SlX.cmpback rz ⟨z', H', I', rz, qz⟩
def rNeOwn (X : Cx) (k : Nat) : R2 := fun x y H Q => ∃ a C dx fs g sp t, x = .ref a ∧ H a = some (.ins C dx fs) ∧ TyX X.K H y t ∧ PySem.W.notFirst X.K C t = true ∧ Spc X.K C g "__eq__" ∧
  PySem.W.findIn X.K (.ref C) "__ne__" = some (some (.builtin "object.__ne__")) ∧ PySem.W.mroIn X.K C (.type "object") = some true ∧ FnR X.prog X.w X.K X.mg X.base L2.CX0 k g sp ∧ sp [x, y] H (fun v H' => ∃ b, v = .bl b ∧ Q (.bl (!b)) H') E0
theorem op_neOwn (hr : Room (k + 1) X.A) : OpR X (compareOp .NotEq) (rNeOwn X k) := by
  intro pins s σ H x y v u Q I rx ry h
  obtain ⟨a, C, dx, fs, g, sp, t, rfl, ea, ty, hn, hs, hne, hm, F, q⟩ := h
  cases (show v = Value.ref a from rx)
  obtain ⟨od, J⟩ := inst_at I ea
  obtain ⟨P, Z, p, _⟩ := kit_of I ry ty
  show wpAny (model X.prog X.w) X.A (richCompare .NotEq (.ref a) u) (EP X pins σ Q) X.xe s
  refine ne_K (tb := t) (by have := hr.units; omega) I.kIn J (Z.ty _ _ I.kIn p) hn hne hm hs.at_ hs.fn ?_
  refine wpAny_mono (wpAny_call (SlX.run_at (us := [.ref a, u]) (ws := [.ref a, y]) F hr.in1 I.env0.in1 pass0 I (.cons rfl (.cons ry .nil)) q)) (fun w s' z => ?_) fun _ _ x => x
  obtain ⟨z', H', I', rz, b, ez, qz⟩ := z
  subst ez
  cases (show w = Value.bool b from rz)
  exact ⟨b, rfl, .bl (!b), H', I', rfl, qz⟩
end
section
variable {X : Cx} {G : Gam} {n0 : Nat} {cf : CF} {k : Nat}
theorem poB {g : Gh} {F0 : Hp} {r0 : List Addr} {env : Env} {σ : L2.St} {m : R (Bool × PV)} {kk : Bool × PV → Store → R (Bool × PV)} {Q Q' : VK} (h : PoE G n0 g F0 r0 env σ (m.bind kk) Q)
    (step : ∀ p S' F' r' H' u, Ext F0 F' r0 r' → Sg G n0 g F' r' env σ S' H' → RF G g F' r' H' p.1 p.2 u → PoE G n0 g F0 r0 env σ (kk p S') Q → Q' u H') : PoE G n0 g F0 r0 env σ m Q' := by
  cases m with
  | ok p S' => exact fun F' r' H' u x s q => step p S' F' r' H' u x s q h
  | ex => exact h
  | no => exact h
theorem se_of {ex : Expr} {t : TE} {f : SE} (hp : PE X ex t) (h : ∀ σ H Q, rdE G n0 f σ H Q → t σ H Q) : PE X ex (rdE G n0 f) := peI hp h
theorem st_of {ex : Expr} {t : TE} {f : SE} (hp : PT X ex (tTest t)) (h : ∀ σ H Q, rdE G n0 f σ H Q → t σ H Q) : PT X ex (rdT G n0 (tBl f)) := by
  refine ptI hp fun σ H Q ⟨F, r, env, S, g, s, p⟩ => h σ H _ ⟨F, r, env, S, g, s, ?_⟩
  have p : PoT G n0 g F r env σ ((f env S).bind fun p S1 => match p.2 with
    | .bl b => .ok b S1
    | _ => .no) Q := p
  cases e : f env S with
  | no => rw [e] at p; exact p
  | ex => rw [e] at p; exact p
  | ok q S' =>
    rw [e] at p
    obtain ⟨b, v⟩ := q
    cases v with
    | bl k =>
      intro F' r' H' u x s' rf
      exact ⟨k, bl_of rf, p F' r' H' x s'⟩
    | _ => exact p.elim
/-! len -/
theorem se_len {tb : List (Nat × Nat)} {e : Expr} {fe : SE} {p pos : Pos} (T : Tb X G cf k) (hg : Gl X "len") (hm : X.mg "len" = none) (hc : ∀ p ∈ tb, Spc G.K (G.ca p.1) (G.fa p.2) "__len__") (he : PE X e (rdE G n0 fe))
    (hb : bootBuiltins "len" = some (.builtin "len") := by rfl) (hs : starEach [e] X.env = (false, eval e X.env) :: starEach [] X.env := by rfl) (hpl : (backTo pos (starEach [] X.env)).any (·.1) = false := by rfl) :
    PE X (.Call (.Name "len" p) [e] [] pos) (rdE G n0 (eLen cf tb fe)) := by
  have cr : CallR X (.builtin "len") (fun xs H Q => rLenOwn X k xs H Q ∨ ∃ x n, xs = [x] ∧ LenV X.K x H n ∧ Q (.int n) H) := by
    intro pins s σ H vs us Q I r h
    rcases h with h | h
    · exact cr_lenOwn T.room pins s σ H vs us Q I r h
    · exact call_len pins s σ H vs us Q I r h
  refine peI (pe_callB cr hg hm hb (pa_cons (toV he) pa_nil hs) (by decide) (by decide) hs hpl) fun σ H Q ⟨F, r, env, S, g, s, h⟩ => ?_
  refine stV s cnE h fun p S1 F1 r1 H1 u x1 s1 q1 h1 => ?_
  cases eo : ownOf tb S1 p.2 with
  | none =>
    simp only [eo] at h1
    refine .inr ?_
    unfold bLen at h1
    simp only at h1
    split at h1
    · rename_i ws ed
      obtain ⟨a, us, rfl, k1, k2⟩ := view_lst s1.hr q1 ed
      refine ⟨.ref a, us.length, rfl, .inl ⟨us, .inl k1, rfl⟩, ?_⟩
      rw [← RVs.length k2]
      exact h1 F1 r1 H1 _ x1 s1 rfl
    · rename_i ws ed
      obtain ⟨a, us, rfl, k1, k2⟩ := view_tup s1.hr q1 ed
      refine ⟨.ref a, us.length, rfl, .inr ⟨us, T.hK ▸ k1, rfl⟩, ?_⟩
      rw [← RVs.length k2]
      exact h1 F1 r1 H1 _ x1 s1 rfl
    · exact h1.elim
  | some f =>
    simp only [eo] at h1
    refine .inl ?_
    unfold ownOf at eo
    split at eo
    · rename_i c ns ws ed
      obtain ⟨a, dx, us, rfl, k1, k2, k3⟩ := view_ins s1.hr q1 ed
      refine ⟨a, G.ca c, dx, _, G.fa f, _, rfl, k1, T.hK ▸ hc (c, f) (look_mem eo), T.call f 1, ?_⟩
      refine run_call (np := 1) s1 x1 (show RVs G F1 r1 [p.2] _ from ⟨_, [], rfl, q1, rfl⟩) rfl (poB h1 fun z S2 F2 r2 H2 w x2 s2 q2 h2 => ?_)
      obtain ⟨b, v⟩ := z
      cases v with
      | int n =>
        unfold lenI at h2
        simp only at h2
        split at h2
        · rename_i hn
          rw [Bool.and_eq_true, decide_eq_true_eq, decide_eq_true_eq] at hn
          have ew : w = .int n := by
            cases b with
            | false => exact q2
            | true =>
              obtain ⟨_, _, _, _, _, _, _, ro, _⟩ := q2
              exact ro.elim
          exact ⟨n, ew, hn.1, by omega, h2 F2 r2 H2 _ x2 s2 rfl⟩
        · exact h2.elim
      | _ => exact h2.elim
    · cases eo
/-! == and != -/
structure EqT (G : Gam) (tb : List (Nat × Nat)) (tys : List TyN) : Prop where
  spc : ∀ p ∈ tb, Spc G.K (G.ca p.1) (G.fa p.2) "__eq__"
  ne : ∀ p ∈ tb, PySem.W.findIn G.K (.ref (G.ca p.1)) "__ne__" = some (some (.builtin "object.__ne__")) ∧ PySem.W.mroIn G.K (G.ca p.1) (.type "object") = some true
  nf : ∀ p ∈ tb, ∀ t ∈ tys, PySem.W.notFirst G.K (G.ca p.1) (t.val G) = true
  cl : ∀ c, TyN.own c ∈ tys → ClsI G c
theorem own_at {tb : List (Nat × Nat)} {g : Gh} {F : Hp} {r : List Addr} {S : Store} {H : Hp} {v : PV} {u : V} {f : Nat} (h : HR G n0 g F r S H) (q : RV G F r v u) (e : ownOf tb S v = some f) : ∃ a c dx fs, u = .ref a ∧ H a = some (.ins (G.ca c) dx fs) ∧ (c, f) ∈ tb := by
  unfold ownOf at e
  split at e
  · rename_i c ns ws ed
    obtain ⟨a, dx, us, rfl, k1, k2, k3⟩ := view_ins h q ed
    exact ⟨a, c, dx, _, rfl, k1, look_mem e⟩
  · cases e
theorem okTy_at {tys : List TyN} {g : Gh} {F : Hp} {r : List Addr} {S : Store} {H : Hp} {v : PV} {u : V} (hc : ∀ c, TyN.own c ∈ tys → ClsI G c) (h : HR G n0 g F r S H) (q : RV G F r v u) (e : okTy tys S v = true) : ∃ t ∈ tys, TyX G.K H u (t.val G) := by
  unfold okTy at e
  cases et : tyN S v with
  | none => rw [et] at e; cases e
  | some t =>
    rw [et] at e
    have hm : t ∈ tys := by simpa using e
    exact ⟨t, hm, tyN_ok h q (fun c ec => hc c (ec ▸ hm)) et⟩
theorem eq_core {tb : List (Nat × Nat)} {tys : List TyN} {fa fb : SE} (T : Tb X G cf k) (E : EqT G tb tys) (σ : L2.St) (H : Hp) (Q : VK) (hh : rdE G n0 (eEq cf tb tys fa fb) σ H Q) : tOp (fun x y H Q => rEqOwn X k x y H Q ∨ rEqD G.K x y H Q) (rdV G n0 fa) (rdV G n0 fb) σ H Q := by
  obtain ⟨F, r, env, S, g, s, h⟩ := hh
  refine stV s cnE h fun p S1 F1 r1 H1 u x1 s1 q1 h1 => ?_
  refine stV s1 cnE h1 fun q S2 F2 r2 H2 v x2 s2 q2 h2 => ?_
  have q1' := q1.ext x2
  cases eo : ownOf tb S2 p.2 with
  | none =>
    simp only [eo] at h2
    exact .inr (endO (T := fun Q => rEqD G.K u v H2 Q) s2 (x1.trans x2) h2 fun z ez k => ok_eq n0 g F2 r2 S2 H2 p.2 q.2 u v z Q s2.hr q1' q2 ez k)
  | some f =>
    simp only [eo] at h2
    split at h2
    · rename_i ot
      obtain ⟨a, c, dx, fs, rfl, k1, k2⟩ := own_at s2.hr q1' eo
      obtain ⟨t, ht, ty⟩ := okTy_at E.cl s2.hr q2 ot
      refine .inl ⟨a, G.ca c, dx, fs, G.fa f, _, t.val G, rfl, k1, T.hK ▸ ty, T.hK ▸ E.nf _ k2 t ht, T.hK ▸ E.spc _ k2, T.call f 2, ?_⟩
      exact run_call (np := 2) s2 (x1.trans x2) (show RVs G F2 r2 [p.2, q.2] _ from ⟨_, _, rfl, q1', _, [], rfl, q2, rfl⟩) rfl h2
    · exact h2.elim
theorem ne_core {tb : List (Nat × Nat)} {tys : List TyN} {fa fb : SE} (T : Tb X G cf k) (E : EqT G tb tys) (σ : L2.St) (H : Hp) (Q : VK) (hh : rdE G n0 (eNe cf tb tys fa fb) σ H Q) : tOp (fun x y H Q => rNeOwn X k x y H Q ∨ rNeD G.K x y H Q) (rdV G n0 fa) (rdV G n0 fb) σ H Q := by
  obtain ⟨F, r, env, S, g, s, h⟩ := hh
  refine stV s cnE h fun p S1 F1 r1 H1 u x1 s1 q1 h1 => ?_
  refine stV s1 cnE h1 fun q S2 F2 r2 H2 v x2 s2 q2 h2 => ?_
  have q1' := q1.ext x2
  cases eo : ownOf tb S2 p.2 with
  | none =>
    simp only [eo] at h2
    exact .inr (endO (T := fun Q => rNeD G.K u v H2 Q) s2 (x1.trans x2) h2 fun z ez k => ok_ne n0 g F2 r2 S2 H2 p.2 q.2 u v z Q s2.hr q1' q2 ez k)
  | some f =>
    simp only [eo] at h2
    split at h2
    · rename_i ot
      obtain ⟨a, c, dx, fs, rfl, k1, k2⟩ := own_at s2.hr q1' eo
      obtain ⟨t, ht, ty⟩ := okTy_at E.cl s2.hr q2 ot
      refine .inl ⟨a, G.ca c, dx, fs, G.fa f, _, t.val G, rfl, k1, T.hK ▸ ty, T.hK ▸ E.nf _ k2 t ht, T.hK ▸ E.spc _ k2, T.hK ▸ (E.ne _ k2).1, T.hK ▸ (E.ne _ k2).2, T.call f 2, ?_⟩
      refine run_call (np := 2) s2 (x1.trans x2) (show RVs G F2 r2 [p.2, q.2] _ from ⟨_, _, rfl, q1', _, [], rfl, q2, rfl⟩) rfl (poB h2 fun z S3 F3 r3 H3 w x3 s3 q3 h3 => ?_)
      obtain ⟨b, v⟩ := z
      cases v with
      | bl b' => exact ⟨b', bl_of q3, h3 F3 r3 H3 _ x3 s3 rfl⟩
      | _ => exact h3.elim
    · exact h2.elim
variable {tb : List (Nat × Nat)} {tys : List TyN} {fa fb : SE} {a b : Expr} {pos : Pos}
theorem op_eqAll (T : Tb X G cf k) : OpR X (compareOp .Eq) (fun x y H Q => rEqOwn X k x y H Q ∨ rEqD G.K x y H Q) := (op_eqOwn T.room).or (T.hK ▸ op_eqD T.room.units)
theorem op_neAll (T : Tb X G cf k) : OpR X (compareOp .NotEq) (fun x y H Q => rNeOwn X k x y H Q ∨ rNeD G.K x y H Q) := (op_neOwn T.room).or (T.hK ▸ op_neD T.room.units)
theorem se_eq (T : Tb X G cf k) (E : EqT G tb tys) (ha : PE X a (rdE G n0 fa)) (hb : PE X b (rdE G n0 fb)) (hm : behindInMarks .Eq b = false) : PE X (.Compare a [.Eq] [b] pos) (rdE G n0 (eEq cf tb tys fa fb)) :=
  se_of (pe_cmpR (op_eqAll T) (toV ha) (toV hb) hm) (eq_core T E)
theorem st_eq (T : Tb X G cf k) (E : EqT G tb tys) (ha : PE X a (rdE G n0 fa)) (hb : PE X b (rdE G n0 fb)) (hm : behindInMarks .Eq b = false) : PT X (.Compare a [.Eq] [b] pos) (rdT G n0 (tBl (eEq cf tb tys fa fb))) :=
  st_of (pt_cmpR (op_eqAll T) (toV ha) (toV hb) hm) (eq_core T E)
theorem se_ne (T : Tb X G cf k) (E : EqT G tb tys) (ha : PE X a (rdE G n0 fa)) (hb : PE X b (rdE G n0 fb)) (hm : behindInMarks .NotEq b = false) : PE X (.Compare a [.NotEq] [b] pos) (rdE G n0 (eNe cf tb tys fa fb)) :=
  se_of (pe_cmpR (op_neAll T) (toV ha) (toV hb) hm) (ne_core T E)
theorem st_ne (T : Tb X G cf k) (E : EqT G tb tys) (ha : PE X a (rdE G n0 fa)) (hb : PE X b (rdE G n0 fb)) (hm : behindInMarks .NotEq b = false) : PT X (.Compare a [.NotEq] [b] pos) (rdT G n0 (tBl (eNe cf tb tys fa fb))) :=
  st_of (pt_cmpR (op_neAll T) (toV ha) (toV hb) hm) (ne_core T E)
end
end PX
set_option Elab.async false
set_option linter.all false
set_option maxRecDepth 100000
namespace PX
open PySem PySem.Spec PyProof.Rows L2
/-! ### dicts by values -/
def eqK : Key → Key → Bool
  | .inl i, .inl j => decide (i = j)
  | .inr x, .inr y => decide (x = y)
  | _, _ => false
theorem eqK_ok : ∀ a b : Key, eqK a b = decide (a = b)
  | .inl i, .inl j => by
    show decide (i = j) = _
    exact decide_eq_decide.mpr ⟨fun h => by rw [h], fun h => Sum.inl.inj h⟩
  | .inr i, .inr j => by
    show decide (i = j) = _
    exact decide_eq_decide.mpr ⟨fun h => by rw [h], fun h => Sum.inr.inj h⟩
  | .inl i, .inr j => by rw [decide_eq_false (fun z => nomatch z)]; rfl
  | .inr i, .inl j => by rw [decide_eq_false (fun z => nomatch z)]; rfl
def eqKs : List Key → List Key → Bool
  | [], [] => true
  | a :: as, b :: bs => eqK a b && eqKs as bs
  | _, _ => false
theorem eqKs_ok : ∀ a b : List Key, eqKs a b = decide (a = b)
  | [], [] => by rw [decide_eq_true rfl]; rfl
  | [], b :: bs => by rw [decide_eq_false (fun z => nomatch z)]; rfl
  | a :: as, [] => by rw [decide_eq_false (fun z => nomatch z)]; rfl
  | a :: as, b :: bs => by
    unfold eqKs
    rw [eqK_ok, eqKs_ok]
    by_cases h1 : a = b
    · by_cases h2 : as = bs
      · rw [decide_eq_true h1, decide_eq_true h2, decide_eq_true (by rw [h1, h2])]; rfl
      · rw [decide_eq_true h1, decide_eq_false h2, decide_eq_false (fun z => h2 (List.cons.inj z).2)]; rfl
    · rw [decide_eq_false h1, decide_eq_false (fun z => h1 (List.cons.inj z).1)]; rfl
section
variable {κ : Type}
def lookB (eq : κ → κ → Bool) : List κ → List PV → κ → Option PV
  | k :: ks, v :: vs, q => bif eq k q then some v else lookB eq ks vs q
  | _, _, _ => none
def anyB (eq : κ → κ → Bool) : List κ → κ → Bool
  | k :: ks, q => bif eq k q then true else anyB eq ks q
  | _, _ => false
def replB (eq : κ → κ → Bool) : List κ → List PV → κ → PV → List PV
  | k :: ks, v :: vs, q, w => (bif eq k q then w else v) :: replB eq ks vs q w
  | _, _, _, _ => []
def putB (eq : κ → κ → Bool) (ks : List κ) (vs : List PV) (q : κ) (w : PV) : List κ × List PV := bif anyB eq ks q then (ks, replB eq ks vs q w) else (ks ++ [q], vs ++ [w])
end
def keysOf : List PV → Option (List Key)
  | [] => some []
  | .int i :: r => (keysOf r).map (.inl i :: ·)
  | .str i :: r => (keysOf r).map (.inr i :: ·)
  | _ :: _ => none
def keyOf : PV → Option DK
  | .int i => some (.k (.inl i))
  | .str x => some (.k (.inr x))
  | .tup xs => (keysOf xs).map .t
  | _ => none
/-! none: a key of another kind -/
def dGet (ks : DKs) (vs : List PV) (q : DK) : Option (Option PV) := match ks, q with
  | .k l, .k q => some (lookB eqK l vs q)
  | .t l, .t q => some (lookB eqKs l vs q)
  | _, _ => none
def dPut (ks : DKs) (vs : List PV) (q : DK) (w : PV) : Option (DKs × List PV) := match ks, q with
  | .k l, .k q => let z := putB eqK l vs q w; some (.k z.1, z.2)
  | .t l, .t q => let z := putB eqKs l vs q w; some (.t z.1, z.2)
  | _, _ => none
def OptR (G : Gam) (F : Hp) (r : List Addr) (o : Option PV) (o' : Option V) : Prop := match o with
  | some w => ∃ y, o' = some y ∧ RV G F r w y
  | none => o' = none
section
variable {G : Gam} {F : Hp} {r : List Addr} {κ : Type} [DecidableEq κ] {eq : κ → κ → Bool}
theorem lookB_ok (he : ∀ a b, eq a b = decide (a = b)) (q : κ) : ∀ {ks : List κ} {us : List V} {vs : List PV}, ks.length = us.length → RVs G F r vs us → OptR G F r (lookB eq ks vs q) (valV (ks.zip us) q)
  | [], us, vs, _, _ => by
    cases vs <;> exact valV_nil
  | k :: ks, [], vs, h, _ => by cases h
  | k :: ks, u :: us, [], _, k' => by cases (show (u :: us) = [] from k')
  | k :: ks, u :: us, v :: vs, h, k' => by
    obtain ⟨u', ur, e, k1, k2⟩ := k'
    cases e
    unfold lookB
    rw [he]
    by_cases hq : k = q
    · rw [decide_eq_true hq]
      exact ⟨u, by rw [List.zip_cons_cons, valV_pos hq], k1⟩
    · rw [decide_eq_false hq]
      have ih := lookB_ok he q (by simpa using h) k2
      rw [List.zip_cons_cons, valV_neg hq]
      exact ih
theorem anyB_ok (he : ∀ a b, eq a b = decide (a = b)) (q : κ) : ∀ {ks : List κ} {us : List V}, ks.length = us.length → anyB eq ks q = (ks.zip us).any fun kv => decide (kv.1 = q)
  | [], us, _ => rfl
  | k :: ks, [], h => by cases h
  | k :: ks, u :: us, h => by
    unfold anyB
    rw [he, List.zip_cons_cons, List.any_cons, anyB_ok he q (us := us) (by simpa using h)]
    cases decide (k = q) <;> rfl
theorem replB_ok (he : ∀ a b, eq a b = decide (a = b)) {q : κ} {w : PV} {y : V} (hw : RV G F r w y) : ∀ {ks : List κ} {us : List V} {vs : List PV}, ks.length = us.length → RVs G F r vs us →
    ∃ us', (ks.zip us).map (fun kv => if kv.1 = q then (kv.1, y) else kv) = ks.zip us' ∧ ks.length = us'.length ∧ RVs G F r (replB eq ks vs q w) us'
  | [], us, vs, _, _ => ⟨[], rfl, rfl, by cases vs <;> exact rfl⟩
  | k :: ks, [], vs, h, _ => by cases h
  | k :: ks, u :: us, [], _, k' => by cases (show (u :: us) = [] from k')
  | k :: ks, u :: us, v :: vs, h, k' => by
    obtain ⟨u', ur, e, k1, k2⟩ := k'
    cases e
    obtain ⟨us', e1, e2, e3⟩ := replB_ok he hw (by simpa using h) k2
    unfold replB
    rw [List.zip_cons_cons, List.map_cons, e1, he]
    by_cases hq : k = q
    · rw [decide_eq_true hq, if_pos hq]
      exact ⟨y :: us', rfl, by simpa using e2, y, us', rfl, hw, e3⟩
    · rw [decide_eq_false hq, if_neg hq]
      exact ⟨u :: us', rfl, by simpa using e2, u, us', rfl, k1, e3⟩
theorem putB_ok (he : ∀ a b, eq a b = decide (a = b)) {q : κ} {w : PV} {y : V} (hw : RV G F r w y) {ks : List κ} {us : List V} {vs : List PV} (hl : ks.length = us.length) (k : RVs G F r vs us) :
    ∃ us', putK (ks.zip us) q y = (putB eq ks vs q w).1.zip us' ∧ (putB eq ks vs q w).1.length = us'.length ∧ RVs G F r (putB eq ks vs q w).2 us' := by
  unfold putB putK
  rw [anyB_ok he q hl]
  cases hb : (ks.zip us).any fun kv => decide (kv.1 = q) with
  | true =>
    rw [if_pos rfl]
    exact replB_ok he hw hl k
  | false =>
    rw [if_neg Bool.false_ne_true]
    refine ⟨us ++ [y], ?_, ?_, k.append ⟨y, [], rfl, hw, rfl⟩⟩
    · show ks.zip us ++ [(q, y)] = (ks ++ [q]).zip (us ++ [y])
      rw [List.zip_append hl]
      rfl
    · show (ks ++ [q]).length = (us ++ [y]).length
      rw [List.length_append, List.length_append, hl]
      rfl
end
section
variable {G : Gam} {n0 : Nat} {g : Gh} {F : Hp} {r : List Addr} {S : Store} {H : Hp}
theorem keysOf_ok : ∀ {xs : List PV} {us : List V} {ks : List Key}, RVs G F r xs us → keysOf xs = some ks → us = ks.map kV
  | [], us, ks, q, e => by cases e; exact q
  | v :: vs, us, ks, q, e => by
    obtain ⟨u, ur, rfl, k, l⟩ := q
    cases v <;> try cases e
    · rename_i i
      have e : (keysOf vs).map (.inl i :: ·) = some ks := e
      cases e1 : keysOf vs with
      | none => rw [e1] at e; cases e
      | some ks' =>
        rw [e1] at e
        cases e
        rw [keysOf_ok l e1, show u = V.int i from k]
        rfl
    · rename_i i
      have e : (keysOf vs).map (.inr i :: ·) = some ks := e
      cases e1 : keysOf vs with
      | none => rw [e1] at e; cases e
      | some ks' =>
        rw [e1] at e
        cases e
        rw [keysOf_ok l e1, show u = V.str i from k]
        rfl
theorem keyOf_k {v : PV} {u : V} {k : Key} (q : RV G F r v u) (e : keyOf v = some (.k k)) : u = kV k := by
  cases v <;> try cases e
  · exact q
  · exact q
  · rename_i xs
    have e : (keysOf xs).map .t = some (DK.k k) := e
    cases e1 : keysOf xs with
    | none => rw [e1] at e; cases e
    | some => rw [e1] at e; cases e
theorem keyOf_t {v : PV} {u : V} {k : List Key} (q : RV G F r v u) (e : keyOf v = some (.t k)) : ∃ b, u = .ref b ∧ F b = some (.tup (k.map kV)) := by
  cases v <;> try cases e
  rename_i xs
  have e : (keysOf xs).map .t = some (DK.t k) := e
  cases e1 : keysOf xs with
  | none => rw [e1] at e; cases e
  | some ks =>
    rw [e1] at e
    cases e
    obtain ⟨a, us, rfl, k1, k2⟩ := q
    rw [keysOf_ok k2 e1] at k1
    exact ⟨a, rfl, k1⟩
theorem dGet_ok (h : HR G n0 g F r S H) {v w : PV} {u y : V} {ks : DKs} {vs : List PV} {q : DK} {o : Option PV} (qd : RV G F r v u) (ed : deref S v = some (.dct ks vs)) (qk : RV G F r w y) (ek : keyOf w = some q) (e : dGet ks vs q = some o) :
    ∃ a o', u = .ref a ∧ DGet H a y o' ∧ OptR G F r o o' := by
  obtain ⟨a, ho, us, rfl, k1, k2, k3⟩ := view_dct h qd ed
  cases ks with
  | k l =>
    obtain ⟨rfl, hl⟩ := k2
    cases q with
    | t q => cases e
    | k q =>
      have e : some (lookB eqK l vs q) = some o := e
      have e := Option.some.inj e
      refine ⟨a, valV (l.zip us) q, rfl, .inl ⟨_, q, .inl k1, keyOf_k qk ek, rfl⟩, ?_⟩
      have := lookB_ok eqK_ok q hl k3
      rw [e] at this
      exact this
  | t l =>
    obtain ⟨rfl, hl⟩ := k2
    cases q with
    | k q => cases e
    | t q =>
      have e : some (lookB eqKs l vs q) = some o := e
      have e := Option.some.inj e
      obtain ⟨b, rfl, eb⟩ := keyOf_t qk ek
      refine ⟨a, valV (l.zip us) q, rfl, .inr ⟨_, q, b, .inl k1, rfl, h.sub _ _ eb, rfl⟩, ?_⟩
      have := lookB_ok eqKs_ok q hl k3
      rw [e] at this
      exact this
end
end PX
set_option Elab.async false
set_option linter.all false
set_option maxRecDepth 100000
set_option maxHeartbeats 2000000
/-! zip and enumerate over any mix of lists and tuples -/
namespace ZG
open PySem RZ
/-! a sequence's iterator, a sequence: true for a tuple -/
def SqIt (b : Bool) (h : Heap) (it l : Addr) (i : Nat) : Prop := match b with
  | true => h.IsTupleIter it l i
  | false => h.IsListIter it l i
def SqOb (b : Bool) (h : Heap) (l : Addr) (items : Array Value) : Prop := match b with
  | true => h.IsTuple l items
  | false => h.IsList l items
section
variable {b : Bool} {h h' : Heap} {it l : Addr} {i : Nat} {items : Array Value}
theorem SqIt.at_ (q : SqIt b h it l i) (k : ∀ o, h.get? it = some o → h'.get? it = some o) : SqIt b h' it l i := by
  cases b with
  | true => exact Heap.IsTupleIter.at q k
  | false => exact Heap.IsListIter.at q k
theorem SqIt.obj (q : SqIt b h it l i) : ∃ o vs, h.get? it = some o ∧ o.data = .fields vs := by
  cases b with
  | true =>
    obtain ⟨o, e, _, d⟩ := q
    exact ⟨o, _, e, d⟩
  | false =>
    obtain ⟨o, e, _, d⟩ := q
    exact ⟨o, _, e, d⟩
theorem SqIt.lt (q : SqIt b h it l i) : it < h.objs.size := by
  obtain ⟨o, _, e, _⟩ := q.obj
  exact Heap.lt_size e
theorem SqIt.extBut {z : Addr} (q : SqIt b h it l i) (k : Heap.ExtBut z h h') (hz : it ≠ z) : SqIt b h' it l i := q.at_ fun o e => k _ _ hz e
theorem SqOb.extBut {z : Addr} (q : SqOb b h l items) (k : Heap.ExtBut z h h') (hz : l ≠ z) : SqOb b h' l items := by
  cases b with
  | true =>
    obtain ⟨o, e, r⟩ := (show h.IsTuple l items from q)
    exact (show h'.IsTuple l items from ⟨o, k _ _ hz e, r⟩)
  | false =>
    obtain ⟨o, e, r⟩ := (show h.IsList l items from q)
    exact (show h'.IsList l items from ⟨o, k _ _ hz e, r⟩)
theorem SqOb.push (q : SqOb b h l items) (o : Obj) : SqOb b (h.push o) l items := by
  cases b with
  | true =>
    obtain ⟨o', e, r⟩ := (show h.IsTuple l items from q)
    exact (show (h.push o).IsTuple l items from ⟨o', Heap.get?_push_of_some _ e, r⟩)
  | false =>
    obtain ⟨o', e, r⟩ := (show h.IsList l items from q)
    exact (show (h.push o).IsList l items from ⟨o', Heap.get?_push_of_some _ e, r⟩)
end
section
variable {prog : Program} {w : World} {A : Around} {E : Value → Shared → Prop} {s : Shared}
theorem nextOf_item {b : Bool} {it l : Addr} {i : Nat} {items : Array Value} {x : Value} {Q : Value → Shared → Prop} (hit : SqIt b s.heap it l i)
    (hl : SqOb b s.heap l items) (hx : items[i]? = some x)
    (hQ : ∀ h', SqIt b h' it l (i + 1) → Heap.SameBut it s.heap h' → Q x { s with heap := h' }) :
    wpAny (model prog w) A (Builtin.SmallTypes.nextOf (.ref it)) Q E s := by
  cases b with
  | true => exact nextOf_tuple_item hit hl hx hQ
  | false => exact wpAny_nextOf_list_item hit hl hx hQ
theorem nextOf_end {b : Bool} {it l : Addr} {i : Nat} {items : Array Value} {Q : Value → Shared → Prop} (hh : A.handled = none)
    (hit : SqIt b s.heap it l i) (hl : SqOb b s.heap l items) (hx : items[i]? = none)
    (hE : ∀ h' e, Heap.ExtBut it s.heap h' → (∃ o, h'.get? e = some o ∧ o.cls = .type "StopIteration") → E (.ref e) { s with heap := h' }) :
    wpAny (model prog w) A (Builtin.SmallTypes.nextOf (.ref it)) Q E s := by
  cases b with
  | true => exact nextOf_tuple_end hh hit hl hx hE
  | false => exact wpAny_nextOf_list_end hh hit hl hx hE
theorem zipG_next_item {b1 b2 : Bool} {z TI TO i1 i2 l1 l2 : Addr} {k1 k2 : Nat} {xs ys : Array Value} {x y a b : Value} {Q : Value → Shared → Prop} (D : ZipApart z TI TO i1 i2 l1 l2)
    (hz : IsZip s.heap z TI TO .none) (hTI : IsPair s.heap TI (.ref i1) (.ref i2)) (hTO : IsPair s.heap TO a b)
    (h1 : SqIt b1 s.heap i1 l1 k1) (h2 : SqIt b2 s.heap i2 l2 k2) (hl1 : SqOb b1 s.heap l1 xs) (hl2 : SqOb b2 s.heap l2 ys) (hx : xs[k1]? = some x) (hy : ys[k2]? = some y)
    (hQ : ∀ h', IsZip h' z TI TO (rawInt s.heap.objs.size) → IsPair h' TO x y → SqIt b1 h' i1 l1 (k1 + 1) → SqIt b2 h' i2 l2 (k2 + 1) → IsPair h' s.heap.objs.size x y → h'.objs.size = s.heap.objs.size + 1 →
      (∀ c o, c ≠ z → c ≠ TO → c ≠ i1 → c ≠ i2 → s.heap.get? c = some o → h'.get? c = some o) → Q (.ref s.heap.objs.size) { s with heap := h' }) :
    wpAny (model prog w) A (Builtin.«zip.__next__» ⟨[.ref z], []⟩) (fun fin s' => ∃ v, fin = .done (.ret v) ∧ Q v s') E s := by
  show wpAny _ _ (field (.ref z) 2 >>= _) _ _ _
  refine wpAny_bind (wpAny_field hz rfl (x := .bool false) rfl ?_)
  show wpAny _ _ (field (.ref z) 3 >>= _) _ _ _
  refine wpAny_bind (wpAny_field hz rfl (x := .ref TI) rfl ?_)
  refine wpAny_bind (wpAny_seqItems hTI rfl ?_)
  show wpAny _ _ (Builtin.SmallTypes.ownedTupleIsFree (.ref z) >>= _) _ _ _
  refine wpAny_bind ?_
  unfold Builtin.SmallTypes.ownedTupleIsFree
  refine wpAny_bind (wpAny_field hz rfl (x := .none) rfl (wpAny_pure ?_))
  simp only [if_true]
  refine wpAny_bind (wpAny_rule ?_)
  refine wpAny_bind (wpAny_field hz rfl (x := .ref TO) rfl ?_)
  refine wpAny_bind (wpAny_setField_rec hz (by simp) fun h₁ hz₁ hs₁ => ?_)
  replace hz₁ : IsZip h₁ z TI TO .ellipsis := hz₁
  refine wpAny_bind ?_
  simp only [List.zipIdx_cons, List.zipIdx_nil, List.forIn_cons, List.forIn_nil]

  refine wpAny_bind (wpAny_bind (wpAny_onRaise ?_))
  show wpAny _ _ (Builtin.SmallTypes.nextOf (.ref i1) >>= _) _ _ _
  refine wpAny_bind (nextOf_item (h1.extBut hs₁.extBut D.i1z) (hl1.extBut hs₁.extBut D.l1z) hx fun h₂ h1₂ hs₂ => wpAny_pure ?_)
  have hTO₂ : IsPair h₂ TO a b := hs₂.extBut _ _ D.TOi1 (hs₁.extBut _ _ D.TOz hTO)
  refine wpAny_bind (wpAny_seqItems hTO₂ rfl ?_)
  refine wpAny_bind (wpAny_updateSeq_pair hTO₂ fun h₃ hTO₃ hs₃ => ?_)
  replace hTO₃ : IsPair h₃ TO x b := hTO₃
  refine wpAny_bind (wpAny_letGo (wpAny_pure ?_))

  refine wpAny_bind (wpAny_bind (wpAny_onRaise ?_))
  show wpAny _ _ (Builtin.SmallTypes.nextOf (.ref i2) >>= _) _ _ _
  refine wpAny_bind (nextOf_item (((h2.extBut hs₁.extBut D.i2z).extBut hs₂.extBut D.i12.symm).extBut hs₃.extBut D.TOi2.symm)
    (((hl2.extBut hs₁.extBut D.l2z).extBut hs₂.extBut D.l2i1).extBut hs₃.extBut D.l2TO) hy fun h₄ h2₄ hs₄ => wpAny_pure ?_)
  have hTO₄ : IsPair h₄ TO x b := hs₄.extBut _ _ D.TOi2 hTO₃
  refine wpAny_bind (wpAny_seqItems hTO₄ rfl ?_)
  refine wpAny_bind (wpAny_updateSeq_pair hTO₄ fun h₅ hTO₅ hs₅ => ?_)
  replace hTO₅ : IsPair h₅ TO x y := hTO₅
  refine wpAny_bind (wpAny_letGo (wpAny_pure (wpAny_pure ?_)))

  refine wpAny_bind (wpAny_seqItems hTO₅ rfl ?_)
  refine wpAny_bind (wpAny_newTuple ?_)
  have hsz : h₅.objs.size = s.heap.objs.size := by rw [hs₅.1, hs₄.1, hs₃.1, hs₂.1, hs₁.1]
  have hz₅ : IsZip h₅ z TI TO .ellipsis := hs₅.extBut _ _ D.TOz.symm (hs₄.extBut _ _ D.i2z.symm (hs₃.extBut _ _ D.TOz.symm (hs₂.extBut _ _ D.i1z.symm hz₁)))
  have hk₅ : ∀ c o, c ≠ z → c ≠ TO → c ≠ i1 → c ≠ i2 → s.heap.get? c = some o → h₅.get? c = some o := fun c o c1 c2 c3 c4 e =>
    hs₅.extBut _ _ c2 (hs₄.extBut _ _ c4 (hs₃.extBut _ _ c2 (hs₂.extBut _ _ c3 (hs₁.extBut _ _ c1 e))))
  have h1₅ : SqIt b1 h₅ i1 l1 (k1 + 1) := ((h1₂.extBut hs₃.extBut D.TOi1.symm).extBut hs₄.extBut D.i12).extBut hs₅.extBut D.TOi1.symm
  have h2₅ : SqIt b2 h₅ i2 l2 (k2 + 1) := h2₄.extBut hs₅.extBut D.TOi2.symm
  have hzlt : z < h₅.objs.size := Heap.lt_size hz₅
  have hTOlt : TO < h₅.objs.size := Heap.lt_size hTO₅
  have hi1lt : i1 < h₅.objs.size := h1₅.lt
  have hi2lt : i2 < h₅.objs.size := h2₅.lt
  show wpAny _ _ (Builtin.SmallTypes.ownedTupleHandOut (.ref z) (.ref h₅.objs.size) >>= _) _ _ _
  refine wpAny_bind ?_
  unfold Builtin.SmallTypes.ownedTupleHandOut
  have hz₆ : IsZip (h₅.push { cls := .type "tuple", data := .seq #[x, y] }) z TI TO .ellipsis := Heap.get?_push_of_some _ hz₅
  refine wpAny_bind (wpAny_setField_rec hz₆ (by simp) fun h₇ hz₇ hs₇ => ?_)
  replace hz₇ : IsZip h₇ z TI TO (rawInt h₅.objs.size) := hz₇
  refine wpAny_setField_rec hz₇ (by simp) fun h₈ hz₈ hs₈ => ?_
  replace hz₈ : IsZip h₈ z TI TO (rawInt h₅.objs.size) := hz₈
  have up : ∀ c o, c ≠ z → h₅.get? c = some o → h₈.get? c = some o := fun c o c1 e => hs₈.extBut _ _ c1 (hs₇.extBut _ _ c1 (Heap.get?_push_of_some _ e))
  have hT₈ : IsPair h₈ h₅.objs.size x y := hs₈.extBut _ _ (Nat.ne_of_gt hzlt) (hs₇.extBut _ _ (Nat.ne_of_gt hzlt) (Heap.get?_push_size _ rfl))
  have hz8 : h₈.objs.size = h₅.objs.size + 1 := by rw [hs₈.1, hs₇.1, Heap.size_push]
  rw [hsz] at hz₈ hT₈ hz8
  refine wpAny_pure ⟨_, rfl, ?_⟩
  show Q (.ref h₅.objs.size) _
  rw [hsz]
  exact hQ h₈ hz₈ (up _ _ D.TOz hTO₅) (h1₅.at_ fun o e => up _ o D.i1z e) (h2₅.at_ fun o e => up _ o D.i2z e) hT₈ hz8 fun c o c1 c2 c3 c4 e => up c o c1 (hk₅ c o c1 c2 c3 c4 e)

theorem zipG_next_end {b1 b2 : Bool} {z TI TO i1 i2 l1 l2 : Addr} {k1 k2 : Nat} {xs ys : Array Value} {a b : Value} {Q : Fin → Shared → Prop} (hh : A.handled = none) (D : ZipApart z TI TO i1 i2 l1 l2)
    (hz : IsZip s.heap z TI TO .none) (hTI : IsPair s.heap TI (.ref i1) (.ref i2)) (hTO : IsPair s.heap TO a b)
    (h1 : SqIt b1 s.heap i1 l1 k1) (h2 : SqIt b2 s.heap i2 l2 k2) (hl1 : SqOb b1 s.heap l1 xs) (hl2 : SqOb b2 s.heap l2 ys) (hend : xs[k1]? = none ∨ ys[k2]? = none)
    (hE : ∀ h' e, (∀ c o, c ≠ z → c ≠ TO → c ≠ i1 → c ≠ i2 → s.heap.get? c = some o → h'.get? c = some o) → (∃ o, h'.get? e = some o ∧ o.cls = .type "StopIteration") → E (.ref e) { s with heap := h' }) :
    wpAny (model prog w) A (Builtin.«zip.__next__» ⟨[.ref z], []⟩) Q E s := by
  show wpAny _ _ (field (.ref z) 2 >>= _) _ _ _
  refine wpAny_bind (wpAny_field hz rfl (x := .bool false) rfl ?_)
  show wpAny _ _ (field (.ref z) 3 >>= _) _ _ _
  refine wpAny_bind (wpAny_field hz rfl (x := .ref TI) rfl ?_)
  refine wpAny_bind (wpAny_seqItems hTI rfl ?_)
  show wpAny _ _ (Builtin.SmallTypes.ownedTupleIsFree (.ref z) >>= _) _ _ _
  refine wpAny_bind ?_
  unfold Builtin.SmallTypes.ownedTupleIsFree
  refine wpAny_bind (wpAny_field hz rfl (x := .none) rfl (wpAny_pure ?_))
  simp only [if_true]
  refine wpAny_bind (wpAny_rule ?_)
  refine wpAny_bind (wpAny_field hz rfl (x := .ref TO) rfl ?_)
  refine wpAny_bind (wpAny_setField_rec hz (by simp) fun h₁ hz₁ hs₁ => ?_)
  replace hz₁ : IsZip h₁ z TI TO .ellipsis := hz₁
  refine wpAny_bind ?_
  simp only [List.zipIdx_cons, List.zipIdx_nil, List.forIn_cons, List.forIn_nil]
  refine wpAny_bind (wpAny_bind (wpAny_onRaise ?_))
  show wpAny _ _ (Builtin.SmallTypes.nextOf (.ref i1) >>= _) _ _ _
  cases hx : xs[k1]? with
  | none =>
    refine wpAny_bind (nextOf_end hh (h1.extBut hs₁.extBut D.i1z) (hl1.extBut hs₁.extBut D.l1z) hx fun h₂ e hs₂ he => ?_)
    obtain ⟨oe, hoe, hce⟩ := he
    have hz₂ : IsZip h₂ z TI TO .ellipsis := hs₂ _ _ D.i1z.symm hz₁
    have hez : e ≠ z := fun x => by subst x; rw [hz₂] at hoe; cases hoe; simp at hce
    refine wpAny_setField_rec hz₂ (by simp) fun h₃ _ hs₃ => hE h₃ e (fun c o c1 _ c3 _ x => hs₃.extBut _ _ c1 (hs₂ _ _ c3 (hs₁.extBut _ _ c1 x))) ⟨oe, hs₃.extBut _ _ hez hoe, hce⟩
  | some x =>
    have hy : ys[k2]? = none := by rcases hend with h | h; rw [hx] at h; cases h; exact h
    refine wpAny_bind (nextOf_item (h1.extBut hs₁.extBut D.i1z) (hl1.extBut hs₁.extBut D.l1z) hx fun h₂ h1₂ hs₂ => wpAny_pure ?_)
    have hTO₂ : IsPair h₂ TO a b := hs₂.extBut _ _ D.TOi1 (hs₁.extBut _ _ D.TOz hTO)
    refine wpAny_bind (wpAny_seqItems hTO₂ rfl ?_)
    refine wpAny_bind (wpAny_updateSeq_pair hTO₂ fun h₃ hTO₃ hs₃ => ?_)
    refine wpAny_bind (wpAny_letGo (wpAny_pure ?_))
    refine wpAny_bind (wpAny_bind (wpAny_onRaise ?_))
    show wpAny _ _ (Builtin.SmallTypes.nextOf (.ref i2) >>= _) _ _ _
    refine wpAny_bind (nextOf_end hh (((h2.extBut hs₁.extBut D.i2z).extBut hs₂.extBut D.i12.symm).extBut hs₃.extBut D.TOi2.symm)
      (((hl2.extBut hs₁.extBut D.l2z).extBut hs₂.extBut D.l2i1).extBut hs₃.extBut D.l2TO) hy fun h₄ e hs₄ he => ?_)
    obtain ⟨oe, hoe, hce⟩ := he
    have hz₄ : IsZip h₄ z TI TO .ellipsis := hs₄ _ _ D.i2z.symm (hs₃.extBut _ _ D.TOz.symm (hs₂.extBut _ _ D.i1z.symm hz₁))
    have hez : e ≠ z := fun x => by subst x; rw [hz₄] at hoe; cases hoe; simp at hce
    refine wpAny_setField_rec hz₄ (by simp) fun h₅ _ hs₅ => hE h₅ e (fun c o c1 c2 c3 c4 x => hs₅.extBut _ _ c1 (hs₄ _ _ c4 (hs₃.extBut _ _ c2 (hs₂.extBut _ _ c3 (hs₁.extBut _ _ c1 x))))) ⟨oe, hs₅.extBut _ _ hez hoe, hce⟩

theorem pyNext_zipG_item {b1 b2 : Bool} {z TI TO i1 i2 l1 l2 : Addr} {k1 k2 : Nat} {xs ys : Array Value} {x y a b : Value} {Q : Option Value → Shared → Prop} (D : ZipApart z TI TO i1 i2 l1 l2)
    (hz : IsZip s.heap z TI TO .none) (hTI : IsPair s.heap TI (.ref i1) (.ref i2)) (hTO : IsPair s.heap TO a b)
    (h1 : SqIt b1 s.heap i1 l1 k1) (h2 : SqIt b2 s.heap i2 l2 k2) (hl1 : SqOb b1 s.heap l1 xs) (hl2 : SqOb b2 s.heap l2 ys) (hx : xs[k1]? = some x) (hy : ys[k2]? = some y)
    (hQ : ∀ h', IsZip h' z TI TO (rawInt s.heap.objs.size) → IsPair h' TO x y → SqIt b1 h' i1 l1 (k1 + 1) → SqIt b2 h' i2 l2 (k2 + 1) → IsPair h' s.heap.objs.size x y → h'.objs.size = s.heap.objs.size + 1 →
      (∀ c o, c ≠ z → c ≠ TO → c ≠ i1 → c ≠ i2 → s.heap.get? c = some o → h'.get? c = some o) → Q (some (.ref s.heap.objs.size)) { s with heap := h' }) :
    wpAny (model prog w) A (pyNext (.ref z)) Q E s := by
  have hT : s.TypeIs (.ref z) "zip" := ⟨_, hz, rfl⟩
  unfold pyNext
  exact wpAny_bind (wpAny_attempt (wpAny_callSpecial?_slot (name := Str.ofString "__next__") hT F.slot_zip_next
    (wpAny_call_entry F.slot_zip_next hT F.entry_zip_next
      (zipG_next_item D hz hTI hTO h1 h2 hl1 hl2 hx hy fun h' a1 a2 a3 a4 a5 a6 a7 => wpAny_pure (hQ h' a1 a2 a3 a4 a5 a6 a7)) (F.args_zip_next_1 _))))

theorem pyNext_zipG_end {b1 b2 : Bool} {z TI TO i1 i2 l1 l2 : Addr} {k1 k2 : Nat} {xs ys : Array Value} {a b : Value} {Q : Option Value → Shared → Prop} (hh : A.handled = none) (D : ZipApart z TI TO i1 i2 l1 l2)
    (hz : IsZip s.heap z TI TO .none) (hTI : IsPair s.heap TI (.ref i1) (.ref i2)) (hTO : IsPair s.heap TO a b)
    (h1 : SqIt b1 s.heap i1 l1 k1) (h2 : SqIt b2 s.heap i2 l2 k2) (hl1 : SqOb b1 s.heap l1 xs) (hl2 : SqOb b2 s.heap l2 ys) (hend : xs[k1]? = none ∨ ys[k2]? = none)
    (hQ : ∀ h', (∀ c o, c ≠ z → c ≠ TO → c ≠ i1 → c ≠ i2 → s.heap.get? c = some o → h'.get? c = some o) → Q none { s with heap := h' }) : wpAny (model prog w) A (pyNext (.ref z)) Q E s := by
  have hT : s.TypeIs (.ref z) "zip" := ⟨_, hz, rfl⟩
  unfold pyNext
  refine wpAny_bind (wpAny_attempt (wpAny_callSpecial?_slot (name := Str.ofString "__next__") hT F.slot_zip_next
    (wpAny_call_entry F.slot_zip_next hT F.entry_zip_next (zipG_next_end hh D hz hTI hTO h1 h2 hl1 hl2 hend fun h' e hk he => ?_) (F.args_zip_next_1 _))))
  obtain ⟨o, ho, hc⟩ := he
  refine wpAny_bind (wpAny_isInstance (T := "StopIteration") (b := true) ⟨o, ho, hc⟩ isSubtype_stop ?_)
  exact wpAny_pure (hQ _ hk)
end


/-! making them -/
def itObj (b : Bool) (l : Addr) : Obj := { cls := .type (bif b then "tuple_iterator" else "list_iterator"), data := .fields #[.ref l, .int 0 0] }
theorem SqIt.new {b : Bool} {h : Heap} {it l : Addr} (e : h.get? it = some (itObj b l)) : SqIt b h it l 0 := by
  cases b with
  | true => exact ⟨_, e, rfl, rfl⟩
  | false => exact ⟨_, e, rfl, rfl⟩
theorem pyIter_sq {prog : Program} {w : World} {A : Around} {E : Value → Shared → Prop} {s : Shared} {b : Bool} {l : Addr} {items : Array Value} {Q : Value → Shared → Prop} (hl : SqOb b s.heap l items)
    (h : Q (.ref s.heap.objs.size) { s with heap := s.heap.push (itObj b l) }) : wpAny (model prog w) A (pyIter (.ref l)) Q E s := by
  cases b with
  | true => exact wpAny_pyIter_tuple hl h
  | false => exact wpAny_pyIter_list hl h
abbrev zH1 (b1 : Bool) (h : Heap) (l1 : Addr) : Heap := h.push (itObj b1 l1)
abbrev zH2 (b1 b2 : Bool) (h : Heap) (l1 l2 : Addr) : Heap := (zH1 b1 h l1).push (itObj b2 l2)
abbrev zH3 (b1 b2 : Bool) (h : Heap) (l1 l2 : Addr) : Heap := (zH2 b1 b2 h l1 l2).push { cls := .type "tuple", data := .seq #[.ref h.objs.size, .ref (zH1 b1 h l1).objs.size] }
abbrev zH4 (b1 b2 : Bool) (h : Heap) (l1 l2 : Addr) : Heap := (zH3 b1 b2 h l1 l2).push { cls := .type "tuple", data := .seq #[.none, .none] }
abbrev zH5 (b1 b2 : Bool) (h : Heap) (l1 l2 : Addr) : Heap := (zH4 b1 b2 h l1 l2).push { cls := .type "zip", data := .fields #[.none, .bool false, .bool false, .ref (zH2 b1 b2 h l1 l2).objs.size, .ref (zH3 b1 b2 h l1 l2).objs.size] }
theorem meets_zipG_new (b1 b2 : Bool) (l1 l2 : Addr) (xs ys : Array Value) :
    Meets (Builtin.«zip.__new__» ⟨[.type "zip", .ref l1, .ref l2], []⟩) (fun _ R s => SqOb b1 s.heap l1 xs ∧ SqOb b2 s.heap l2 ys ∧
      R (.ok (.ret (.ref (zH4 b1 b2 s.heap l1 l2).objs.size))) { s with heap := zH5 b1 b2 s.heap l1 l2 }) :=
  .of_wp fun prog w A R s h => by
    obtain ⟨hp, g, d, tk, os⟩ := s; obtain ⟨hl1, hl2, h⟩ := h
    have hsub := sub_zip
    have hL1 : SqOb b1 (Shared.heap ⟨hp, g, d, tk, os⟩) l1 xs := hl1
    have hL2 : SqOb b2 (Shared.heap ⟨hp.push (itObj b1 l1), g, d, tk, os⟩) l2 ys := SqOb.push hl2 _
    wp_walk using pyIter_sq hL1, pyIter_sq hL2
    exact ⟨_, rfl, h⟩
theorem call_zipG {prog : Program} {w : World} {A : Around} {E : Value → Shared → Prop} {s : Shared} {b1 b2 : Bool} {l1 l2 : Addr} {xs ys : Array Value} {Q : Value → Shared → Prop} (hl1 : SqOb b1 s.heap l1 xs) (hl2 : SqOb b2 s.heap l2 ys)
    (h : ∀ h', IsZip h' (s.heap.objs.size + 4) (s.heap.objs.size + 2) (s.heap.objs.size + 3) .none → IsPair h' (s.heap.objs.size + 2) (.ref s.heap.objs.size) (.ref (s.heap.objs.size + 1)) →
      IsPair h' (s.heap.objs.size + 3) .none .none → SqIt b1 h' s.heap.objs.size l1 0 → SqIt b2 h' (s.heap.objs.size + 1) l2 0 → h'.objs.size = s.heap.objs.size + 5 →
      (∀ c o, s.heap.get? c = some o → h'.get? c = some o) → Q (.ref (s.heap.objs.size + 4)) { s with heap := h' }) :
    wpAny (model prog w) A (call (.type "zip") [.ref l1, .ref l2]) Q E s := by
  refine callType_new F.called_zip (by decide) (F.typeCall_zip_2 _ _) (F.newCall_zip_2 _ _) (fun obj => F.args_object_init_3 obj _ _) F.entry_zip_new
    (meets_zipG_new b1 b2 l1 l2 xs ys) ⟨hl1, hl2, ?_⟩
  have fr1 : (itObj b1 l1).isFreed = false := by cases b1 <;> rfl
  have fr2 : (itObj b2 l2).isFreed = false := by cases b2 <;> rfl
  have z1 : (zH1 b1 s.heap l1).objs.size = s.heap.objs.size + 1 := Heap.size_push ..
  have z2 : (zH2 b1 b2 s.heap l1 l2).objs.size = s.heap.objs.size + 2 := by rw [Heap.size_push, z1]
  have z3 : (zH3 b1 b2 s.heap l1 l2).objs.size = s.heap.objs.size + 3 := by rw [Heap.size_push, z2]
  have z4 : (zH4 b1 b2 s.heap l1 l2).objs.size = s.heap.objs.size + 4 := by rw [Heap.size_push, z3]
  have z5 : (zH5 b1 b2 s.heap l1 l2).objs.size = s.heap.objs.size + 5 := by rw [Heap.size_push, z4]
  have g5 : (zH5 b1 b2 s.heap l1 l2).get? (zH4 b1 b2 s.heap l1 l2).objs.size = some _ := Heap.get?_push_size _ rfl
  have g4 : (zH5 b1 b2 s.heap l1 l2).get? (zH3 b1 b2 s.heap l1 l2).objs.size = some _ := Heap.get?_push_of_some _ (Heap.get?_push_size _ rfl)
  have g3 : (zH5 b1 b2 s.heap l1 l2).get? (zH2 b1 b2 s.heap l1 l2).objs.size = some _ := Heap.get?_push_of_some _ (Heap.get?_push_of_some _ (Heap.get?_push_size _ rfl))
  have g2 : (zH5 b1 b2 s.heap l1 l2).get? (zH1 b1 s.heap l1).objs.size = some (itObj b2 l2) := Heap.get?_push_of_some _ (Heap.get?_push_of_some _ (Heap.get?_push_of_some _ (Heap.get?_push_size _ fr2)))
  have g1 : (zH5 b1 b2 s.heap l1 l2).get? s.heap.objs.size = some (itObj b1 l1) := Heap.get?_push_of_some _ (Heap.get?_push_of_some _ (Heap.get?_push_of_some _ (Heap.get?_push_of_some _ (Heap.get?_push_size _ fr1))))
  show _ ∧ _
  rw [z2, z3, z4] at g5
  rw [z1, z2] at g3
  rw [z3] at g4
  rw [z1] at g2
  rw [z4]
  exact ⟨⟨_, g5, rfl⟩, h _ g5 g3 g4 (SqIt.new g1) (SqIt.new g2) z5 fun c o x =>
    Heap.get?_push_of_some _ (Heap.get?_push_of_some _ (Heap.get?_push_of_some _ (Heap.get?_push_of_some _ (Heap.get?_push_of_some _ x))))⟩

/-! enumerate -/
open AutoSeq1 (wpAny_loadPart')
abbrev sqTy (b : Bool) : String := match b with
  | true => "tuple"
  | false => "list"
theorem SqOb.get {b : Bool} {h : Heap} {l : Addr} {items : Array Value} (q : SqOb b h l items) : ∃ dct n sl, h.get? l = some { cls := .type (sqTy b), dict := dct, data := .seq items n, slots := sl } := by
  cases b with
  | true =>
    obtain ⟨⟨c, dct, dt, sl⟩, hl, hc, n, hd⟩ := (show h.IsTuple l items from q)
    replace hc : c = .type "tuple" := hc
    replace hd : dt = .seq items n := hd
    subst hc hd
    exact ⟨dct, n, sl, hl⟩
  | false =>
    obtain ⟨⟨c, dct, dt, sl⟩, hl, hc, n, hd⟩ := (show h.IsList l items from q)
    replace hc : c = .type "list" := hc
    replace hd : dt = .seq items n := hd
    subst hc hd
    exact ⟨dct, n, sl, hl⟩
theorem meets_enumG_new (b : Bool) (l : Addr) (items : Array Value) :
    Meets (Builtin.«enumerate.__new__» ⟨[.type "enumerate", .ref l], []⟩) (fun _ R s => SqOb b s.heap l items ∧
      R (.ok (.ret (.ref (s.heap.push (itObj b l)).objs.size)))
        { s with heap := (s.heap.push (itObj b l)).push { cls := .type "enumerate", data := .fields #[.none, .bool false, .ref s.heap.objs.size, rawInt 0, .none, .none] } }) :=
  .of_wp fun prog w A R s h => by
    obtain ⟨hp, g, d, tk, os⟩ := s; obtain ⟨hl0, h⟩ := h
    obtain ⟨dct, n, sl, hl⟩ := hl0.get
    have hsub := sub_enumerate
    have hL : SqOb b (Shared.heap ⟨hp, g, d, tk, os⟩) l items := hl0
    cases b with
    | true =>
      wp_walk using wpAny_loadPart' hl
      refine wpAny_stack_any fun st => wpAny_pure ?_
      split
      · rename_i c _ _ _ _ _
        cases (c == Value.type "enumerate")
        · wp_walk using wpAny_loadPart' hl, pyIter_sq hL
          exact ⟨_, rfl, h⟩
        · wp_walk using wpAny_loadPart' hl, pyIter_sq hL
          exact ⟨_, rfl, h⟩
      · wp_walk using wpAny_loadPart' hl, pyIter_sq hL
        exact ⟨_, rfl, h⟩
    | false =>
      wp_walk using wpAny_loadPart' hl
      refine wpAny_stack_any fun st => wpAny_pure ?_
      split
      · rename_i c _ _ _ _ _
        cases (c == Value.type "enumerate")
        · wp_walk using wpAny_loadPart' hl, pyIter_sq hL
          exact ⟨_, rfl, h⟩
        · wp_walk using wpAny_loadPart' hl, pyIter_sq hL
          exact ⟨_, rfl, h⟩
      · wp_walk using wpAny_loadPart' hl, pyIter_sq hL
        exact ⟨_, rfl, h⟩
section
variable {prog : Program} {w : World} {A : Around} {E : Value → Shared → Prop} {s : Shared}
theorem call_enumG {b : Bool} {l : Addr} {items : Array Value} {Q : Value → Shared → Prop} (hL : SqOb b s.heap l items)
    (h : ∀ h', IsEnum h' (s.heap.objs.size + 1) s.heap.objs.size 0 .none → SqIt b h' s.heap.objs.size l 0 → h'.objs.size = s.heap.objs.size + 2 →
      (∀ b o, s.heap.get? b = some o → h'.get? b = some o) → Q (.ref (s.heap.objs.size + 1)) { s with heap := h' }) :
    wpAny (model prog w) A (call (.type "enumerate") [.ref l]) Q E s := by
  refine callType_new F.called_enumerate (by decide) (F.typeCall_enumerate_1 _) (F.newCall_enumerate_1 _) (fun obj => F.args_object_init_2 obj _) F.entry_enumerate_new
    (meets_enumG_new b l items) ⟨hL, ?_⟩
  have fr : (itObj b l).isFreed = false := by cases b <;> rfl
  have hz : (s.heap.push (itObj b l)).objs.size = s.heap.objs.size + 1 := Heap.size_push ..
  show _ ∧ _
  rw [hz]
  have he : IsEnum ((s.heap.push (itObj b l)).push
      { cls := .type "enumerate", data := .fields #[.none, .bool false, .ref s.heap.objs.size, rawInt 0, .none, .none] }) (s.heap.objs.size + 1) s.heap.objs.size 0 .none := by
    have := Heap.get?_push_size (s.heap.push (itObj b l))
      (o := { cls := .type "enumerate", data := .fields #[.none, .bool false, .ref s.heap.objs.size, rawInt 0, .none, .none] }) rfl
    rw [hz] at this; exact this
  exact ⟨⟨_, he, rfl⟩, h _ he (SqIt.new (Heap.get?_push_of_some _ (Heap.get?_push_size _ fr))) (by rw [Heap.size_push, hz]) fun b o x => Heap.get?_push_of_some _ (Heap.get?_push_of_some _ x)⟩
theorem drawsG (hh : A.handled = none) (b : Bool) (it l : Addr) (hne : l ≠ it) (items : Array Value) :
    Draws prog w A it [it, l] items.size (fun i v => items[i]? = some v) (fun i h => SqIt b h it l i ∧ SqOb b h l items) where
  live := fun _ _ st => by
    obtain ⟨o, _, e, _⟩ := st.1.obj
    exact ⟨o, e⟩
  frame := fun _ _ _ st hk => ⟨st.1.at_ fun o e => hk it (by simp) o e, by
    have q := st.2
    cases b with
    | true => exact Heap.IsTuple.at q fun o e => hk l (by simp) o e
    | false => exact Heap.IsList.at q fun o e => hk l (by simp) o e⟩
  item := fun i s Q E hi st hQ => by
    refine nextOf_item st.1 st.2 (x := items[i]) (by simp [hi]) fun h' hit' hs' => ?_
    exact hQ _ h' s.toks (by simp [hi]) ⟨hit', st.2.extBut hs'.extBut hne⟩ hs'
  done := fun s Q E st hE => nextOf_end hh st.1 st.2 (by simp) hE
theorem wpAny_pyNext_enum_endG {b : Bool} {e it l : Addr} {i : Nat} {items : Array Value} {old : Value} {Q : Option Value → Shared → Prop} (hh : A.handled = none)
    (he : IsEnum s.heap e it i old) (hit : SqIt b s.heap it l i) (hl : SqOb b s.heap l items) (hx : items[i]? = none)
    (hQ : ∀ h', Heap.ExtBut it s.heap h' → Q none { s with heap := h' }) : wpAny (model prog w) A (pyNext (.ref e)) Q E s := by
  have hT : s.TypeIs (.ref e) "enumerate" := ⟨_, he, rfl⟩
  unfold pyNext
  refine wpAny_bind (wpAny_attempt (wpAny_callSpecial?_slot (name := Str.ofString "__next__") hT F.slot_enumerate_next
    (wpAny_call_entry F.slot_enumerate_next hT F.entry_enumerate_next ?_ (F.args_enumerate_next_1 _))))
  show wpAny _ _ (field (.ref e) 2 >>= _) _ _ _
  refine wpAny_bind (wpAny_field he rfl (x := .ref it) rfl ?_)
  refine wpAny_bind (nextOf_end hh hit hl hx fun h' x he' hx' => ?_)
  obtain ⟨o, ho, hc⟩ := hx'
  refine wpAny_bind (wpAny_isInstance (T := "StopIteration") (b := true) ⟨o, ho, hc⟩ isSubtype_stop ?_)
  exact wpAny_pure (hQ _ he')
end
end ZG
set_option Elab.async false
set_option linter.all false
set_option maxRecDepth 100000
set_option maxHeartbeats 1000000
namespace PX
open PySem PySem.Spec PyProof.Rows L2 ZG
/-! ### turns -/
def SqG (b : Bool) (K : PySem.W.Frag) (H : Hp) (a : Addr) (xs : List V) : Prop := match b with
  | true => SqT K H a xs
  | false => SqL K H a xs
theorem Inv.sqG {X : Cx} {pins : List (Addr × Obj)} {σ : L2.St} {H : Hp} {s : Shared} {b : Bool} {a : Addr} {xs : List V} (I : L2.Inv X pins σ H s) (q : SqG b X.K H a xs) : ∃ its, Vals xs its ∧ SqOb b s.heap a its.toArray ∧ a < s.heap.objs.size := by
  cases b with
  | true =>
    obtain ⟨its, rv, p, _⟩ := I.tuple q
    obtain ⟨o, ho, _⟩ := id p
    exact ⟨its, rv, p, Heap.lt_size ho⟩
  | false =>
    obtain ⟨its, rv, p, _⟩ := I.list q
    exact ⟨its, rv, p.isList, p.lt⟩
theorem Inv.sqG_inj {X : Cx} {pins : List (Addr × Obj)} {σ : L2.St} {H : Hp} {s : Shared} {b : Bool} {a : Addr} {xs ys : List V} (I : L2.Inv X pins σ H s) (q : SqG b X.K H a xs) (q' : SqG b X.K H a ys) : xs = ys := by
  cases b with
  | true => exact I.tuple_inj q q'
  | false => exact I.list_inj q q'
/-! each item with its place, in a new pair -/
def Iteg (K : PySem.W.Frag) (b : Bool) (a : Addr) : It :=
  ⟨fun i H => ∃ (xs : List V) (x : V), SqG b K H a xs ∧ xs[i]? = some x, fun i H v H' => ∃ T x, v = .ref T ∧ H T = none ∧ H' = upd H T (.tup [.int (i : Nat), x]) ∧ ∀ xs, SqG b K H a xs → xs[i]? = some x, fun i H => ∃ xs : List V, SqG b K H a xs ∧ xs.length ≤ i⟩
theorem turn_enumG {P : Program} {w : World} {K : PySem.W.Frag} {elts : List Expr} {kk : Nat} {tpos : Pos} (b : Bool) (a e it : Addr) :
    Turn P w K (.Tuple elts kk tpos) (Iteg K b a) [e, it] e (fun i h => (∃ old, IsEnum h e it ((i : Nat) : Int) old) ∧ SqIt b h it a i ∧ e ≠ it ∧ a ≠ it ∧ e ≠ a) where
  mem := by simp
  obj := fun i h st c hc => by
    obtain ⟨⟨old, he⟩, hit, _⟩ := st
    have e' : c = e ∨ c = it := by simpa using hc
    rcases e' with z | z
    · rw [z]; exact ⟨_, he, fun v q => nomatch q⟩
    · rw [z]
      obtain ⟨o, vs, ho, hd⟩ := hit.obj
      exact ⟨o, ho, fun v q => by rw [hd] at q; cases q⟩
  keep := fun i h h' st k => let ⟨⟨old, he⟩, hi, hne⟩ := st; ⟨⟨old, k e (by simp) _ he⟩, hi.at_ fun o q => k it (by simp) o q, hne⟩
  item := by
    intro X hP hw hK hc i pins s σ H E I hf st hg
    subst hP hw hK
    obtain ⟨⟨old, he⟩, hit, hne, hai, hea⟩ := st
    obtain ⟨xs, x, hq, hx⟩ := hg
    obtain ⟨its, rv, p, hz⟩ := Inv.sqG I hq
    obtain ⟨u, hu, ru⟩ := rv.get hx
    have hel : e < s.heap.objs.size := Heap.lt_size he
    have hil : it < s.heap.objs.size := hit.lt
    have hlt : i < its.toArray.size := by
      have := (List.getElem?_eq_some_iff.mp hu).1
      simpa using this
    refine wpAny_pyNext_enum_itemD (drawsG (A := X.A.in1) (I.ok.hd hc) b it a hai its.toArray) he ⟨hit, p⟩ hlt hne (by simp [hne, hea]) fun u' h' tk hP ho st' hT hsz hk => ?_
    have eu : u' = u := by
      have hP : its.toArray[i]? = some u' := hP
      rw [List.getElem?_toArray, hu] at hP
      exact (Option.some.inj hP).symm
    subst eu
    refine ⟨_, rfl, wpAny_letOwnedTupleGo_enum (s := { s with heap := h', toks := tk + 1 }) ho fun h'' he' sb => ?_⟩
    have hT2 : h''.get? s.heap.objs.size = some { cls := .type "tuple", data := .seq #[.int i tk, u'] } := (sb.2 _ (Nat.ne_of_gt hel)).trans hT
    have new : ObjOk X.prog X.w (upd H s.heap.objs.size (.tup [.int (i : Nat), x])) h'' s.heap.objs.size (.tup [.int (i : Nat), x]) :=
      ⟨by show 2 ≤ sizeLine; decide, [.int i tk, u'], .cons ⟨_, rfl⟩ (.cons ru .nil), ⟨_, hT2, rfl, _, rfl⟩⟩
    have I1 : L2.Inv X pins σ (upd H s.heap.objs.size (.tup [.int (i : Nat), x])) { s with heap := h'', toks := tk + 1 } :=
      I.turnedNew (t' := tk + 1) (ch := [e, it]) (fun c o hb q => (sb.2 c (fun q' => hb (by simp [q']))).trans (hk c o (fun q' => hb (by simp [q'])) (fun q' => hb (by simp [q'])) q)) hf (Nat.le_refl _) new
    refine ⟨.ref s.heap.objs.size, _, I1, rfl, ⟨_, x, rfl, I.hok.fresh (Nat.le_refl _), rfl, fun l hl => by rw [Inv.sqG_inj I hl hq]; exact hx⟩, ⟨⟨_, he'⟩, ?_, hne, hai, hea⟩, fun c hcm => ?_⟩
    · exact st'.1.at_ fun o q => (sb.2 _ hne.symm).trans q
    · have hlt : c < s.heap.objs.size := by
        have e' : c = e ∨ c = it := by simpa using hcm
        rcases e' with z | z
        · rw [z]; exact hel
        · rw [z]; exact hil
      rw [upd_ne (Nat.ne_of_lt hlt)]
      exact (hf c hcm).1
  done := by
    intro X hP hw hK hc i pins s σ H E I hf st hg
    subst hP hw hK
    obtain ⟨⟨old, he⟩, hit, hne, hai, hea⟩ := st
    obtain ⟨xs, hq, hx⟩ := hg
    obtain ⟨its, rv, p, hz⟩ := Inv.sqG I hq
    obtain ⟨f0, f1, f2, f3, f4, f5⟩ := hf it (by simp)
    have hl := rv.length
    have hn : its.toArray[i]? = none := by simp; omega
    refine wpAny_pyNext_enum_endG (I.ok.hd hc) he hit p hn fun h' eb => ⟨rfl, I.turned (t' := s.toks) (fun b o hb q => eb b o hb q) f0 f1 f3 f4 f5⟩
  self := fun A i s Q E st h => let ⟨⟨_, he⟩, _⟩ := st; wpAny_pyIter_enum he h

/-! pairs of items -/
def Itzg (K : PySem.W.Frag) (b1 b2 : Bool) (a b : Addr) : It :=
  ⟨fun i H => ∃ (xs ys : List V) (x y : V), SqG b1 K H a xs ∧ SqG b2 K H b ys ∧ xs[i]? = some x ∧ ys[i]? = some y,
    fun i H v H' => ∃ T x y, v = .ref T ∧ H T = none ∧ H' = upd H T (.tup [x, y]) ∧ (∀ xs, SqG b1 K H a xs → xs[i]? = some x) ∧ ∀ ys, SqG b2 K H b ys → ys[i]? = some y,
    fun i H => ∃ xs ys : List V, SqG b1 K H a xs ∧ SqG b2 K H b ys ∧ (xs.length ≤ i ∨ ys.length ≤ i)⟩
theorem turn_zipG {P : Program} {w : World} {K : PySem.W.Frag} {elts : List Expr} {kk : Nat} {tpos : Pos} (b1 b2 : Bool) {a b z TI TO i1 i2 : Addr} (D : ZipApart z TI TO i1 i2 a b) :
    Turn P w K (.Tuple elts kk tpos) (Itzg K b1 b2 a b) [z, TI, TO, i1, i2] z (fun i h => IsZip h z TI TO .none ∧ IsPair h TI (.ref i1) (.ref i2) ∧ (∃ x y, IsPair h TO x y) ∧ SqIt b1 h i1 a i ∧ SqIt b2 h i2 b i) where
  mem := by simp
  obj := fun i h st c hc => by
    obtain ⟨hz, hTI, ⟨x, y, hTO⟩, h1, h2⟩ := st
    have e' : c = z ∨ c = TI ∨ c = TO ∨ c = i1 ∨ c = i2 := by simpa using hc
    rcases e' with q | q | q | q | q
    · rw [q]; exact ⟨_, hz, fun v q => nomatch q⟩
    · rw [q]; exact ⟨_, hTI, fun v q => nomatch q⟩
    · rw [q]; exact ⟨_, hTO, fun v q => nomatch q⟩
    · rw [q]
      obtain ⟨o1, _, e1, d1⟩ := h1.obj
      exact ⟨o1, e1, fun v q => by rw [d1] at q; cases q⟩
    · rw [q]
      obtain ⟨o1, _, e1, d1⟩ := h2.obj
      exact ⟨o1, e1, fun v q => by rw [d1] at q; cases q⟩
  keep := fun i h h' st k => by
    obtain ⟨hz, hTI, ⟨x, y, hTO⟩, h1, h2⟩ := st
    exact ⟨k z (by simp) _ hz, k TI (by simp) _ hTI, ⟨x, y, k TO (by simp) _ hTO⟩, h1.at_ fun o q => k i1 (by simp) o q, h2.at_ fun o q => k i2 (by simp) o q⟩
  item := by
    intro X hP hw hK hc i pins s σ H E I hf st hg
    subst hP hw hK
    obtain ⟨hz, hTI, ⟨x0, y0, hTO⟩, h1, h2⟩ := st
    obtain ⟨xs, ys, x, y, hqx, hqy, hx, hy⟩ := hg
    obtain ⟨its, rv, p, _⟩ := Inv.sqG I hqx
    obtain ⟨its2, rv2, p2, _⟩ := Inv.sqG I hqy
    obtain ⟨u, hu, ru⟩ := rv.get hx
    obtain ⟨u2, hu2, ru2⟩ := rv2.get hy
    have hzl : z < s.heap.objs.size := Heap.lt_size hz
    refine pyNext_zipG_item D hz hTI hTO h1 h2 p p2 (x := u) (y := u2) (by simpa using hu) (by simpa using hu2) fun h' z' TO' h1' h2' hT hsz hk => ?_
    refine ⟨_, rfl, wpAny_letOwnedTupleGo_zip (s := { s with heap := h' }) z' fun h'' z'' sb => ?_⟩
    have hT2 : h''.get? s.heap.objs.size = some { cls := .type "tuple", data := .seq #[u, u2] } := (sb.2 _ (Nat.ne_of_gt hzl)).trans hT
    have new : ObjOk X.prog X.w (upd H s.heap.objs.size (.tup [x, y])) h'' s.heap.objs.size (.tup [x, y]) :=
      ⟨by show 2 ≤ sizeLine; decide, [u, u2], .cons ru (.cons ru2 .nil), ⟨_, hT2, rfl, _, rfl⟩⟩
    have I1 : L2.Inv X pins σ (upd H s.heap.objs.size (.tup [x, y])) { s with heap := h'' } :=
      I.turnedNew (t' := s.toks) (ch := [z, TI, TO, i1, i2]) (fun c o hb q => (sb.2 c (fun q' => hb (by simp [q']))).trans (hk c o (fun q' => hb (by simp [q'])) (fun q' => hb (by simp [q'])) (fun q' => hb (by simp [q'])) (fun q' => hb (by simp [q'])) q)) hf (Nat.le_refl _) new
    refine ⟨.ref s.heap.objs.size, _, I1, rfl, ⟨_, x, y, rfl, I.hok.fresh (Nat.le_refl _), rfl, fun l hl => by rw [Inv.sqG_inj I hl hqx]; exact hx, fun l hl => by rw [Inv.sqG_inj I hl hqy]; exact hy⟩, ⟨z'', ?_, ⟨u, u2, ?_⟩, ?_, ?_⟩, fun c hcm => ?_⟩
    · exact (sb.2 _ D.TIz).trans (hk _ _ D.TIz D.TITO D.TIi1 D.TIi2 hTI)
    · exact (sb.2 _ D.TOz).trans TO'
    · exact h1'.at_ fun o q => (sb.2 _ D.i1z).trans q
    · exact h2'.at_ fun o q => (sb.2 _ D.i2z).trans q
    · have hlt : c < s.heap.objs.size := by
        have e' : c = z ∨ c = TI ∨ c = TO ∨ c = i1 ∨ c = i2 := by simpa using hcm
        rcases e' with q | q | q | q | q
        · rw [q]; exact hzl
        · rw [q]; exact Heap.lt_size hTI
        · rw [q]; exact Heap.lt_size hTO
        · rw [q]; exact h1.lt
        · rw [q]; exact h2.lt
      rw [upd_ne (Nat.ne_of_lt hlt)]
      exact (hf c hcm).1
  done := by
    intro X hP hw hK hc i pins s σ H E I hf st hg
    subst hP hw hK
    obtain ⟨hz, hTI, ⟨x0, y0, hTO⟩, h1, h2⟩ := st
    obtain ⟨xs, ys, hqx, hqy, hend⟩ := hg
    obtain ⟨its, rv, p, _⟩ := Inv.sqG I hqx
    obtain ⟨its2, rv2, p2, _⟩ := Inv.sqG I hqy
    have l1 := rv.length
    have l2 := rv2.length
    have he : its.toArray[i]? = none ∨ its2.toArray[i]? = none := by
      rcases hend with q | q
      · exact .inl (by simp; omega)
      · exact .inr (by simp; omega)
    exact pyNext_zipG_end (I.ok.hd hc) D hz hTI hTO h1 h2 p p2 he fun h' hk => ⟨rfl, I.turnedL (t' := s.toks) (ch := [z, TI, TO, i1, i2]) (fun c o hb q =>
      hk c o (fun q' => hb (by simp [q'])) (fun q' => hb (by simp [q'])) (fun q' => hb (by simp [q'])) (fun q' => hb (by simp [q'])) q) hf⟩
  self := fun A i s Q E st h => wpAny_pyIter_zip st.1 h
/-! the sources -/
def iSeqG (K : PySem.W.Frag) (tl : TE) : TI := fun σ H R => tl σ H fun x H1 => ∃ a b xs, x = .ref a ∧ SqG b K H1 a xs ∧ R (match b with
  | true => Itt K a
  | false => Itl K a) H1
theorem pi_seqG {X : Cx} {tg l : Expr} {tl : TE} (hl : PE X l tl) : PI X tg l (iSeqG X.K tl) := by
  refine ⟨fun pins s σ H R I h => ?_⟩
  refine thn (hl.run pins s σ H _ I h) fun v s1 ⟨x, H1, I1, r1, q1⟩ => ?_
  obtain ⟨a, b, xs, e, hq, q⟩ := q1
  subst e
  cases r1
  have fp : ∀ c ∈ [s1.heap.objs.size], FpOk X pins H1 c := fun c hc => by
    have e : c = s1.heap.objs.size := by simpa using hc
    subst e
    exact I1.fpOk (Nat.le_refl _) (I1.hok.fresh (Nat.le_refl _))
  cases b with
  | true =>
    obtain ⟨its, rv, p, hz⟩ := I1.tuple hq
    refine wpAny_pyIter_tuple (show s1.heap.IsTuple a its.toArray from p) ?_
    exact ⟨s1.heap.objs.size, [s1.heap.objs.size], _, _, H1, rfl, I1.kept (t' := s1.toks) fun b o e => Heap.get?_push_of_some _ e, turn_tuple a _, ⟨_, Heap.get?_push_size _ rfl, rfl, rfl⟩, fp, q⟩
  | false =>
    obtain ⟨its, rv, p, hz⟩ := I1.list hq
    refine wpAny_pyIter_list p.isList ?_
    exact ⟨s1.heap.objs.size, [s1.heap.objs.size], _, _, H1, rfl, I1.kept (t' := s1.toks) fun b o e => Heap.get?_push_of_some _ e, turn_list a _, ⟨_, Heap.get?_push_size _ rfl, rfl, rfl⟩, fp, q⟩
def iEnumG (K : PySem.W.Frag) (ta : TA) : TI := fun σ H R => ta σ H fun vs H1 => ∃ a b xs, vs = [.ref a] ∧ SqG b K H1 a xs ∧ R (Iteg K b a) H1
theorem pi_enumG {X : Cx} {e : Expr} {ta : TA} {p pos tpos : Pos} {elts : List Expr} {kk : Nat} (hg : Gl X "enumerate") (hm : X.mg "enumerate" = none) (ha : PA X [e] ta) (hs : starEach [e] X.env = [(false, eval e X.env)] := by rfl) :
    PI X (.Tuple elts kk tpos) (.Call (.Name "enumerate" p) [e] [] pos) (iEnumG X.K ta) := by
  refine ⟨fun pins s σ H R I h => ?_⟩
  refine Call_ (ld_blt I hg hm boot_enumerate (PyProof.Rows.callWith_type1 (thn (ha.run pos pins s σ H _ I h) fun us s1 ⟨vs, H1, I1, r1, q1⟩ => ?_) hs rfl))
  obtain ⟨a, b, xs, ex, hq, q⟩ := q1
  subst ex
  rw [Vals.ref1 r1]
  obtain ⟨its, rv, p', hz⟩ := Inv.sqG I1 hq
  refine call_enumG p' fun h' he hit hsz hk => wpAny_pyIter_enum he ?_
  have I2 : L2.Inv X pins σ H1 { s1 with heap := h' } := I1.kept (t' := s1.toks) hk
  refine ⟨s1.heap.objs.size + 1, [s1.heap.objs.size + 1, s1.heap.objs.size], _, _, H1, rfl, I2, turn_enumG b a (s1.heap.objs.size + 1) s1.heap.objs.size, ⟨⟨.none, he⟩, hit, Nat.succ_ne_self _, Nat.ne_of_lt hz, Nat.ne_of_gt (Nat.lt_succ_of_lt hz)⟩, fun c hc => ?_, q⟩
  have e' : c = s1.heap.objs.size + 1 ∨ c = s1.heap.objs.size := by simpa using hc
  have hle : s1.heap.objs.size ≤ c := by
    rcases e' with z | z
    · rw [z]; exact Nat.le_add_right _ _
    · rw [z]; exact Nat.le_refl _
  exact I1.fpOk hle (I1.hok.fresh hle)
def iZipG (K : PySem.W.Frag) (ta : TA) : TI := fun σ H R => ta σ H fun vs H1 => ∃ a b b1 b2 xs ys, vs = [.ref a, .ref b] ∧ SqG b1 K H1 a xs ∧ SqG b2 K H1 b ys ∧ R (Itzg K b1 b2 a b) H1
theorem pi_zipG {X : Cx} {e e2 : Expr} {ta : TA} {p pos tpos : Pos} {elts : List Expr} {kk : Nat} (hg : Gl X "zip") (hm : X.mg "zip" = none) (ha : PA X [e, e2] ta)
    (hs : starEach [e, e2] X.env = (false, eval e X.env) :: starEach [e2] X.env := by rfl) (hpl : (backTo pos (starEach [e2] X.env)).any (·.1) = false := by rfl) :
    PI X (.Tuple elts kk tpos) (.Call (.Name "zip" p) [e, e2] [] pos) (iZipG X.K ta) := by
  refine ⟨fun pins s σ H R I h => ?_⟩
  refine Call_ (ld_blt I hg hm PyProof.Rows.boot_zip (PyProof.Rows.callWith_type1 (thn (ha.run pos pins s σ H _ I h) fun us s1 ⟨vs, H1, I1, r1, q1⟩ => ?_) hs hpl))
  obtain ⟨a, b, b1, b2, xs, ys, ex, hqx, hqy, q⟩ := q1
  subst ex
  obtain ⟨u1, u2, rfl, ra, rb⟩ := r1.two
  cases (show u1 = Value.ref a from ra)
  cases (show u2 = Value.ref b from rb)
  have fresh5 : ∀ c, c ∈ [s1.heap.objs.size + 4, s1.heap.objs.size + 2, s1.heap.objs.size + 3, s1.heap.objs.size, s1.heap.objs.size + 1] → FpOk X pins H1 c := fun c hcm => by
    have hle : s1.heap.objs.size ≤ c := by
      simp only [List.mem_cons, List.mem_singleton, List.not_mem_nil, or_false] at hcm
      omega
    exact I1.fpOk hle (I1.hok.fresh hle)
  obtain ⟨its, rv, p1, l1⟩ := Inv.sqG I1 hqx
  obtain ⟨its2, rv2, p2, l2⟩ := Inv.sqG I1 hqy
  refine call_zipG p1 p2 fun h' hz hTI hTO h1 h2 hsz hk => wpAny_pyIter_zip hz ?_
  have I2 : L2.Inv X pins σ H1 { s1 with heap := h' } := I1.kept (t' := s1.toks) hk
  exact ⟨s1.heap.objs.size + 4, [s1.heap.objs.size + 4, s1.heap.objs.size + 2, s1.heap.objs.size + 3, s1.heap.objs.size, s1.heap.objs.size + 1], _, _, H1, rfl, I2, turn_zipG b1 b2 (PySem.W.ktu_apart s1.heap.objs.size a b l1 l2), ⟨hz, hTI, ⟨_, _, hTO⟩, h1, h2⟩, fresh5, q⟩
end PX
set_option Elab.async false
set_option linter.all false
set_option maxRecDepth 100000
set_option maxHeartbeats 1000000
namespace PX
open PySem PySem.Spec PyProof.Rows L2 ZG
/-! ### what a loop walks, by values -/
def lockS (v : PV) (S : Store) : Option (List PV × List (Nat × PV) × Store) := match v with
  | .ref i => match S[i]? with
    | some (.lst xs) => some (xs, [(i, .lst xs)], S.set i (.lck (.lst xs)))
    | some (.lck (.lst xs)) => some (xs, [], S)
    | _ => none
  | .lst xs => some (xs, [], S)
  | .tup xs => some (xs, [], S)
  | _ => none
def enumL : Int → List PV → List PV
  | _, [] => []
  | k, x :: xs => .tup [.int k, x] :: enumL (k + 1) xs
def zipL : List PV → List PV → List PV
  | x :: xs, y :: ys => .tup [x, y] :: zipL xs ys
  | _, _ => []
def rngL : Int → Nat → List PV
  | _, 0 => []
  | lo, n + 1 => .int lo :: rngL (lo + 1) n
def iSeq (a : SE) : SI := fun env S => (a env S).bind fun p S1 => match lockS p.2 S1 with
  | some z => .ok (z.1, z.2.1) z.2.2
  | none => .no
def iEnu (a : SE) : SI := fun env S => (a env S).bind fun p S1 => match lockS p.2 S1 with
  | some z => .ok (enumL 0 z.1, z.2.1) z.2.2
  | none => .no
def iZip (a b : SE) : SI := fun env S => (a env S).bind fun p S1 => (b env S1).bind fun q S2 => match lockS p.2 S2 with
  | some z => match lockS q.2 z.2.2 with
    | some y => .ok (zipL z.1 y.1, y.2.1 ++ z.2.1) y.2.2
    | none => .no
  | none => .no
def okRg (j : Int) : Bool := decide (-4611686018427387904 ≤ j) && decide (j < 4611686018427387904)
def iRg1 (a : SE) : SI := fun env S => (a env S).bind fun p S1 => match p.2 with
  | .int j => if okRg j then .ok (rngL 0 j.toNat, []) S1 else .no
  | _ => .no
def iRg2 (a b : SE) : SI := fun env S => (a env S).bind fun p S1 => (b env S1).bind fun q S2 => match p.2, q.2 with
  | .int i, .int j => if okRg i && okRg j then .ok (rngL i (j - i).toNat, []) S2 else .no
  | _, _ => .no

def Gh.lock (g : Gh) (a : Addr) (ho : HO) : Gh := ⟨g.L, upd g.pn a ho, fun b => if b = a then true else g.lk b⟩
section
variable {G : Gam} {n0 : Nat} {g : Gh} {F : Hp} {r : List Addr} {S : Store} {H : Hp}
theorem nd_inj {r : List Addr} (h : r.Nodup) {i j : Nat} {a : Addr} (e1 : r[i]? = some a) (e2 : r[j]? = some a) : i = j := by
  obtain ⟨h1, e1'⟩ := List.getElem?_eq_some_iff.mp e1
  obtain ⟨h2, e2'⟩ := List.getElem?_eq_some_iff.mp e2
  exact (List.getElem_inj h).mp (e1'.trans e2'.symm)
theorem HR.lock {i : Nat} {a : Addr} {xs : List PV} {us : List V} (h : HR G n0 g F r S H) (e1 : r[i]? = some a) (e2 : S[i]? = some (.lst xs)) (e3 : H a = some (.lst us)) : HR G n0 (g.lock a (.lst us)) F r (S.set i (.lck (.lst xs))) H := by
  have hi : i < S.length := (List.getElem?_eq_some_iff.mp e2).1
  have hF := h.off a (List.mem_of_getElem? e1)
  refine ⟨h.sub, h.nd, h.off, by rw [List.length_set]; exact h.len, by rw [List.length_set]; exact h.nle, h.lle, fun j oj b e4 e5 => ?_, fun b o e => ?_, fun j oj b e4 e5 => ?_, fun b o e el => ?_⟩
  · by_cases hj : i = j
    · subst hj
      rw [List.getElem?_set_self hi] at e4
      cases e4
      obtain ⟨ho, q1, q2⟩ := h.obj i _ b e2 e5
      exact ⟨ho, q1, q2⟩
    · rw [List.getElem?_set_ne hj] at e4
      exact h.obj j oj b e4 e5
  · by_cases hb : b = a
    · subst hb
      have e : upd g.pn b (.lst us) b = some o := e
      rw [upd_same] at e
      cases e
      refine ⟨e3, hF, fun j hj => ?_⟩
      have := nd_inj h.nd e1 hj
      subst this
      exact ⟨_, List.getElem?_set_self hi⟩
    · have e : upd g.pn a (.lst us) b = some o := e
      rw [upd_ne hb] at e
      obtain ⟨q1, q2, q3⟩ := h.pin b o e
      refine ⟨q1, q2, fun j hj => ?_⟩
      obtain ⟨ob, q⟩ := q3 j hj
      refine ⟨ob, ?_⟩
      rw [List.getElem?_set_ne (fun z => by subst z; rw [e1] at hj; cases hj; exact hb rfl)]
      exact q
  · show ∃ o, upd g.pn a (.lst us) b = some o
    by_cases hb : b = a
    · rw [hb, upd_same]; exact ⟨_, rfl⟩
    · rw [upd_ne hb]
      rw [List.getElem?_set_ne (fun z => by subst z; rw [e1] at e5; cases e5; exact hb rfl)] at e4
      exact h.lckd j oj b e4 e5
  · have e : upd g.pn a (.lst us) b = some o := e
    have el : (if b = a then true else g.lk b) = false := el
    by_cases hb : b = a
    · rw [if_pos hb] at el; cases el
    · rw [upd_ne hb] at e
      rw [if_neg hb] at el
      exact h.out b o e el
theorem HR.unlock {i : Nat} {a : Addr} {xs : List PV} {us : List V} (h : HR G n0 (g.lock a (.lst us)) F r S H) (hp : g.pn a = none) (e1 : r[i]? = some a) (k : RVs G F (lim n0 g.L r i) xs us) : HR G n0 g F r (S.set i (.lst xs)) H := by
  have hi : i < S.length := by rw [← h.len]; exact (List.getElem?_eq_some_iff.mp e1).1
  have ea : (g.lock a (.lst us)).pn a = some (.lst us) := by
    show upd g.pn a (.lst us) a = _
    rw [upd_same]
  have ne_of : ∀ b o, g.pn b = some o → b ≠ a := fun b o e z => by rw [z, hp] at e; cases e
  have pn_ne : ∀ b, b ≠ a → (g.lock a (.lst us)).pn b = g.pn b := fun b hb => by
    show upd g.pn a (.lst us) b = _
    rw [upd_ne hb]
  refine ⟨h.sub, h.nd, h.off, by rw [List.length_set]; exact h.len, by rw [List.length_set]; exact h.nle, h.lle, fun j oj b e4 e5 => ?_, fun b o e => ?_, fun j oj b e4 e5 => ?_, fun b o e el => ?_⟩
  · by_cases hj : i = j
    · subst hj
      rw [List.getElem?_set_self hi] at e4
      cases e4
      rw [e1] at e5
      cases e5
      exact ⟨_, (h.pin a _ ea).1, ⟨us, rfl, k⟩⟩
    · rw [List.getElem?_set_ne hj] at e4
      exact h.obj j oj b e4 e5
  · have hb := ne_of b o e
    obtain ⟨q1, q2, q3⟩ := h.pin b o (by rw [pn_ne b hb]; exact e)
    refine ⟨q1, q2, fun j hj => ?_⟩
    obtain ⟨ob, q⟩ := q3 j hj
    refine ⟨ob, ?_⟩
    rw [List.getElem?_set_ne (fun z => by subst z; rw [e1] at hj; cases hj; exact hb rfl)]
    exact q
  · by_cases hj : i = j
    · subst hj
      rw [List.getElem?_set_self hi] at e4
      cases e4
    · rw [List.getElem?_set_ne hj] at e4
      have hb : b ≠ a := fun z => by subst z; exact hj (nd_inj h.nd e1 e5)
      obtain ⟨o, q⟩ := h.lckd j oj b e4 e5
      exact ⟨o, by rw [← pn_ne b hb]; exact q⟩
  · have hb := ne_of b o e
    refine h.out b o (by rw [pn_ne b hb]; exact e) ?_
    show (if b = a then true else g.lk b) = false
    rw [if_neg hb]
    exact el
/-! the items of a sequence, held still -/
structure Held (G : Gam) (n0 : Nat) (g g' : Gh) (F : Hp) (r : List Addr) (S' : Store) (H : Hp) (xs : List PV) (ls : List (Nat × PV)) (b : Bool) (a : Addr) (us : List V) : Prop where
  hr : HR G n0 g' F r S' H
  rv : RVs G F r xs us
  sq : ∀ g2, GhLe g' g2 → ∀ F2 r2 S2 H2, HR G n0 g2 F2 r2 S2 H2 → Ext F F2 r r2 → SqG b G.K H2 a us
  le : GhLe g g'
  un : ∀ F2 r2 S2 H2, HR G n0 g' F2 r2 S2 H2 → Ext F F2 r r2 → HR G n0 g F2 r2 (unlock ls S2) H2
theorem lock_ok {v : PV} {u : V} {xs : List PV} {ls : List (Nat × PV)} {S' : Store} (h : HR G n0 g F r S H) (q : RV G F r v u) (e : lockS v S = some (xs, ls, S')) : ∃ g' b a us, u = .ref a ∧ Held G n0 g g' F r S' H xs ls b a us := by
  unfold lockS at e
  split at e
  · rename_i i
    obtain ⟨a, e1, rfl⟩ := q
    split at e
    · rename_i ys es
      cases e
      obtain ⟨ho, q1, q2⟩ := h.obj i _ a es e1
      obtain ⟨us, rfl, k⟩ := q2
      refine ⟨g.lock a (.lst us), false, a, us, rfl, h.lock e1 es q1, RVs.mono (.refl F) (at_of (lim_le n0 g.L r i)) _ _ k, fun g2 hg F2 r2 S2 H2 h2 x => ?_, fun b o eb => ?_, fun F2 r2 S2 H2 h2 x => ?_⟩
      · have ea : (g.lock a (.lst us)).pn a = some (.lst us) := by
          show upd g.pn a (.lst us) a = _
          rw [upd_same]
        exact (show SqL G.K H2 a us from .inl (.inl (h2.pin a _ (hg a _ ea)).1))
      · have hb : b ≠ a := fun z => by rw [z, h.nopin e1 es rfl] at eb; cases eb
        show upd g.pn a (.lst us) b = _
        rw [upd_ne hb]
        exact eb
      · exact h2.unlock (h.nopin e1 es rfl) (x.at_ i a e1) (RVs.mono x.1 (lim_mono x.2 i) _ _ k)
    · rename_i ys es
      cases e
      obtain ⟨ho, q1, q2⟩ := h.obj i _ a es e1
      obtain ⟨us, rfl, k⟩ := q2
      obtain ⟨o, ep⟩ := h.lckd i _ a es e1
      have eo : o = .lst us := by
        have := (h.pin a o ep).1
        rw [q1] at this
        exact (Option.some.inj this).symm
      subst eo
      exact ⟨g, false, a, us, rfl, h, RVs.mono (.refl F) (at_of (lim_le n0 g.L r i)) _ _ k, fun g2 hg F2 r2 S2 H2 h2 x => (show SqL G.K H2 a us from .inl (.inl (h2.pin a _ (hg a _ ep)).1)), .refl g, fun F2 r2 S2 H2 h2 x => h2⟩
    · cases e
  · cases e
    obtain ⟨a, us, rfl, k1, k2⟩ := q
    exact ⟨g, false, a, us, rfl, h, k2, fun g2 hg F2 r2 S2 H2 h2 x => (show SqL G.K H2 a us from .inl (h2.sub.rd (x.1.rd k1))), .refl g, fun F2 r2 S2 H2 h2 x => h2⟩
  · cases e
    obtain ⟨a, us, rfl, k1, k2⟩ := q
    exact ⟨g, true, a, us, rfl, h, k2, fun g2 hg F2 r2 S2 H2 h2 x => (show SqT G.K H2 a us from h2.sub.tp (x.1 _ _ k1)), .refl g, fun F2 r2 S2 H2 h2 x => h2⟩
  · cases e
theorem enumL_get : ∀ {xs : List PV} {k : Int} {i : Nat} {t : PV}, (enumL k xs)[i]? = some t → ∃ x, xs[i]? = some x ∧ t = .tup [.int (k + i), x]
  | [], k, i, t, e => by simp [enumL] at e
  | x :: xs, k, 0, t, e => by
    simp [enumL] at e
    exact ⟨x, by simp, by rw [← e]; simp⟩
  | x :: xs, k, i + 1, t, e => by
    have e : (enumL (k + 1) xs)[i]? = some t := by simpa [enumL] using e
    obtain ⟨y, h1, h2⟩ := enumL_get e
    exact ⟨y, by simpa using h1, by rw [h2]; congr 3; omega⟩
theorem enumL_len : ∀ (xs : List PV) (k : Int), (enumL k xs).length = xs.length
  | [], _ => rfl
  | x :: xs, k => by
    show (enumL (k + 1) xs).length + 1 = xs.length + 1
    rw [enumL_len xs]
theorem zipL_get : ∀ {xs ys : List PV} {i : Nat} {t : PV}, (zipL xs ys)[i]? = some t → ∃ x y, xs[i]? = some x ∧ ys[i]? = some y ∧ t = .tup [x, y]
  | [], ys, i, t, e => by simp [zipL] at e
  | x :: xs, [], i, t, e => by simp [zipL] at e
  | x :: xs, y :: ys, 0, t, e => by
    simp [zipL] at e
    exact ⟨x, y, by simp, by simp, e.symm⟩
  | x :: xs, y :: ys, i + 1, t, e => by
    have e : (zipL xs ys)[i]? = some t := by simpa [zipL] using e
    obtain ⟨x', y', h1, h2, h3⟩ := zipL_get e
    exact ⟨x', y', by simpa using h1, by simpa using h2, h3⟩
theorem zipL_len : ∀ (xs ys : List PV) (i : Nat), (zipL xs ys).length ≤ i → xs.length ≤ i ∨ ys.length ≤ i
  | [], ys, i, h => .inl (Nat.zero_le _)
  | x :: xs, [], i, h => .inr (Nat.zero_le _)
  | x :: xs, y :: ys, 0, h => absurd h (by simp [zipL])
  | x :: xs, y :: ys, i + 1, h => by
    have h : (zipL xs ys).length + 1 ≤ i + 1 := h
    rcases zipL_len xs ys i (by omega) with q | q
    · exact .inl (Nat.succ_le_succ q)
    · exact .inr (Nat.succ_le_succ q)
theorem rngL_get : ∀ {n : Nat} {lo : Int} {i : Nat} {t : PV}, (rngL lo n)[i]? = some t → i < n ∧ t = .int (lo + i)
  | 0, lo, i, t, e => by simp [rngL] at e
  | n + 1, lo, 0, t, e => by
    simp [rngL] at e
    exact ⟨Nat.succ_pos n, by rw [← e]; simp⟩
  | n + 1, lo, i + 1, t, e => by
    have e : (rngL (lo + 1) n)[i]? = some t := by simpa [rngL] using e
    obtain ⟨h1, h2⟩ := rngL_get e
    exact ⟨Nat.succ_lt_succ h1, by rw [h2]; congr 1; omega⟩
theorem rngL_len : ∀ (n : Nat) (lo : Int), (rngL lo n).length = n
  | 0, _ => rfl
  | n + 1, lo => by
    show (rngL (lo + 1) n).length + 1 = n + 1
    rw [rngL_len n]
variable {X : Cx}
theorem cnI {env : Env} {σ : L2.St} {T : It → Hp → Prop} : Cn fun z => PoI G n0 g F r env σ z T := ⟨fun h => h, fun _ _ _ h => h⟩
variable {tg e e2 : Expr} {fe fe2 : SE} {p pos tpos : Pos} {elts : List Expr} {kk : Nat}
theorem si_seq (hK : G.K = X.K) (he : PE X e (rdE G n0 fe)) : PI X tg e (rdI G n0 (iSeq fe)) := by
  refine piI (pi_seqG (toV he)) fun σ H T ⟨F, r, env, S, g, s, h⟩ => ?_
  refine stV s cnI h fun p S1 F1 r1 H1 u x1 s1 q1 h1 => ?_
  cases el : lockS p.2 S1 with
  | none => rw [el] at h1; exact h1.elim
  | some z =>
    obtain ⟨xs, ls, S2⟩ := z
    rw [el] at h1
    obtain ⟨g', b, a, us, rfl, hd⟩ := lock_ok s1.hr q1 el
    refine ⟨a, b, us, rfl, hK ▸ hd.sq g' (.refl g') F1 r1 S2 H1 hd.hr (.refl _ _), h1 F1 r1 H1 _ g' x1 ⟨hd.hr, s1.sl, s1.vr⟩ (fun g2 hg2 F2 r2 S3 H2 h2 x2 => ?_) hd.un⟩
    have sq := hd.sq g2 hg2 F2 r2 S3 H2 h2 x2
    rw [← hK]
    cases b with
    | true =>
      refine ⟨fun i x ex => ?_, fun i hi => ⟨us, sq, by rw [← RVs.length hd.rv]; exact hi⟩⟩
      obtain ⟨y, e1, q2⟩ := RVs.get hd.rv ex
      refine ⟨⟨us, y, sq, e1⟩, fun v H3 hy => ?_⟩
      obtain ⟨rfl, hv⟩ := hy
      have := hv us sq
      rw [e1] at this
      cases this
      exact ⟨F2, .refl _ _, h2, q2.ext x2⟩
    | false =>
      refine ⟨fun i x ex => ?_, fun i hi => ⟨us, sq, by rw [← RVs.length hd.rv]; exact hi⟩⟩
      obtain ⟨y, e1, q2⟩ := RVs.get hd.rv ex
      refine ⟨⟨us, y, sq, e1⟩, fun v H3 hy => ?_⟩
      obtain ⟨rfl, hv⟩ := hy
      have := hv us sq
      rw [e1] at this
      cases this
      exact ⟨F2, .refl _ _, h2, q2.ext x2⟩
theorem si_enum (hK : G.K = X.K) (hg : Gl X "enumerate") (hm : X.mg "enumerate" = none) (he : PE X e (rdE G n0 fe)) (hs : starEach [e] X.env = [(false, eval e X.env)] := by rfl) :
    PI X (.Tuple elts kk tpos) (.Call (.Name "enumerate" p) [e] [] pos) (rdI G n0 (iEnu fe)) := by
  refine piI (pi_enumG hg hm (pa_cons (toV he) pa_nil hs) hs) fun σ H T ⟨F, r, env, S, g, s, h⟩ => ?_
  refine stV s cnI h fun p S1 F1 r1 H1 u x1 s1 q1 h1 => ?_
  cases el : lockS p.2 S1 with
  | none => rw [el] at h1; exact h1.elim
  | some z =>
    obtain ⟨xs, ls, S2⟩ := z
    rw [el] at h1
    obtain ⟨g', b, a, us, rfl, hd⟩ := lock_ok s1.hr q1 el
    refine ⟨a, b, us, rfl, hK ▸ hd.sq g' (.refl g') F1 r1 S2 H1 hd.hr (.refl _ _), h1 F1 r1 H1 _ g' x1 ⟨hd.hr, s1.sl, s1.vr⟩ (fun g2 hg2 F2 r2 S3 H2 h2 x2 => ?_) hd.un⟩
    have sq := hd.sq g2 hg2 F2 r2 S3 H2 h2 x2
    rw [← hK]
    refine ⟨fun i x ex => ?_, fun i hi => ⟨us, sq, by rw [← RVs.length hd.rv, ← enumL_len xs 0]; exact hi⟩⟩
    obtain ⟨x', ex', rfl⟩ := enumL_get ex
    obtain ⟨y, e1, q2⟩ := RVs.get hd.rv ex'
    refine ⟨⟨us, y, sq, e1⟩, fun v H3 hy => ?_⟩
    obtain ⟨T', y', rfl, hT, rfl, hv⟩ := hy
    have := hv us sq
    rw [e1] at this
    cases this
    obtain ⟨F4, x4, h4, k4⟩ := new_tup (xs := [.int (0 + i), x']) (us := [.int (i : Nat), y]) h2 hT ⟨_, _, rfl, by rw [Int.zero_add]; exact rfl, _, [], rfl, q2.ext x2, rfl⟩
    exact ⟨F4, x4, h4, k4⟩
theorem si_zip (hK : G.K = X.K) (hg : Gl X "zip") (hm : X.mg "zip" = none) (he : PE X e (rdE G n0 fe)) (he2 : PE X e2 (rdE G n0 fe2)) (hs : starEach [e, e2] X.env = (false, eval e X.env) :: starEach [e2] X.env := by rfl) (hs2 : starEach [e2] X.env = (false, eval e2 X.env) :: starEach [] X.env := by rfl)
    (hpl : (backTo pos (starEach [e2] X.env)).any (·.1) = false := by rfl) :
    PI X (.Tuple elts kk tpos) (.Call (.Name "zip" p) [e, e2] [] pos) (rdI G n0 (iZip fe fe2)) := by
  refine piI (pi_zipG hg hm (pa_cons (toV he) (pa_cons (toV he2) pa_nil hs2) hs) hs hpl) fun σ H T ⟨F, r, env, S, g, s, h⟩ => ?_
  refine stV s cnI h fun p S1 F1 r1 H1 u x1 s1 q1 h1 => ?_
  refine stV s1 cnI h1 fun q S2 F2 r2 H2 w x2 s2 q2 h2 => ?_
  cases el : lockS p.2 S2 with
  | none => rw [el] at h2; exact h2.elim
  | some z =>
    obtain ⟨xs, ls, S3⟩ := z
    simp only [el] at h2
    cases el2 : lockS q.2 S3 with
    | none => rw [el2] at h2; exact h2.elim
    | some z2 =>
      obtain ⟨ys, ls2, S4⟩ := z2
      simp only [el2] at h2
      obtain ⟨g1, b1, a1, us1, rfl, hd1⟩ := lock_ok s2.hr (q1.ext x2) el
      obtain ⟨g2, b2, a2, us2, rfl, hd2⟩ := lock_ok hd1.hr q2 el2
      have hun : ∀ F5 r5 S5 H5, HR G n0 g2 F5 r5 S5 H5 → Ext F2 F5 r2 r5 → HR G n0 g F5 r5 (unlock (ls2 ++ ls) S5) H5 := fun F5 r5 S5 H5 h5 x5 => by
        have e : ∀ (l1 l2 : List (Nat × PV)) (S : Store), unlock (l1 ++ l2) S = unlock l2 (unlock l1 S) := by
          intro l1
          induction l1 with
          | nil => intro l2 S; rfl
          | cons c l1 ih => intro l2 S; exact ih l2 _
        rw [e]
        exact hd1.un F5 r5 _ H5 (hd2.un F5 r5 S5 H5 h5 x5) x5
      refine ⟨a1, a2, b1, b2, us1, us2, rfl, hK ▸ hd1.sq g2 hd2.le F2 r2 S4 H2 hd2.hr (.refl _ _), hK ▸ hd2.sq g2 (.refl g2) F2 r2 S4 H2 hd2.hr (.refl _ _), h2 F2 r2 H2 _ g2 (x1.trans x2) ⟨hd2.hr, s2.sl, s2.vr⟩ (fun g5 hg5 F5 r5 S5 H5 h5 x5 => ?_) hun⟩
      have s1' := hd1.sq g5 (hd2.le.trans hg5) F5 r5 S5 H5 h5 x5
      have s2' := hd2.sq g5 hg5 F5 r5 S5 H5 h5 x5
      rw [← hK]
      refine ⟨fun i x ex => ?_, fun i hi => ⟨us1, us2, s1', s2', by rw [← RVs.length hd1.rv, ← RVs.length hd2.rv]; exact zipL_len xs ys i hi⟩⟩
      obtain ⟨x', y', ex', ey', rfl⟩ := zipL_get ex
      obtain ⟨u1, e1, k1⟩ := RVs.get hd1.rv ex'
      obtain ⟨u2, e2, k2⟩ := RVs.get hd2.rv ey'
      refine ⟨⟨us1, us2, u1, u2, s1', s2', e1, e2⟩, fun v H3 hy => ?_⟩
      obtain ⟨T', y1, y2, rfl, hT, rfl, hv1, hv2⟩ := hy
      have := hv1 us1 s1'
      rw [e1] at this
      cases this
      have := hv2 us2 s2'
      rw [e2] at this
      cases this
      exact new_tup (xs := [x', y']) (us := [u1, u2]) h5 hT ⟨_, _, rfl, k1.ext x5, _, [], rfl, k2.ext x5, rfl⟩
theorem its_rng {g' : Gh} {lo : Int} {n : Nat} : Its G n0 g' F r (Itr lo n) (rngL lo n) := fun g2 hg2 F2 r2 S2 H2 h2 x2 => by
  refine ⟨fun i x ex => ?_, fun i hi => by rw [rngL_len] at hi; exact hi⟩
  obtain ⟨h1, rfl⟩ := rngL_get ex
  refine ⟨h1, fun v H3 hy => ?_⟩
  obtain ⟨rfl, rfl⟩ := hy
  exact ⟨F2, .refl _ _, h2, rfl⟩
theorem okRg_ok {j : Int} (h : okRg j = true) : -(2 ^ 62) ≤ j ∧ j < 2 ^ 62 := by
  unfold okRg at h
  rw [Bool.and_eq_true, decide_eq_true_eq, decide_eq_true_eq] at h
  omega
theorem si_rng1 (hg : Gl X "range") (hm : X.mg "range" = none) (he : PE X e (rdE G n0 fe)) (hs : starEach [e] X.env = [(false, eval e X.env)] := by rfl) : PI X tg (.Call (.Name "range" p) [e] [] pos) (rdI G n0 (iRg1 fe)) := by
  refine piI (pi_range1 hg hm (pa_cons (toV he) pa_nil hs) hs) fun σ H T ⟨F, r, env, S, g, s, h⟩ => ?_
  refine stV s cnI h fun p S1 F1 r1 H1 u x1 s1 q1 h1 => ?_
  obtain ⟨b, v⟩ := p
  cases v with
  | int j =>
    simp only at h1
    split at h1
    · rename_i hj
      obtain ⟨k1, k2⟩ := okRg_ok hj
      exact ⟨j, by rw [show u = V.int j from q1], k1, k2, h1 F1 r1 H1 _ g x1 s1 its_rng (fun _ _ _ _ h _ => h)⟩
    · exact h1.elim
  | _ => exact h1.elim
theorem si_rng2 (hg : Gl X "range") (hm : X.mg "range" = none) (he : PE X e (rdE G n0 fe)) (he2 : PE X e2 (rdE G n0 fe2)) (hs : starEach [e, e2] X.env = [(false, eval e X.env), (false, eval e2 X.env)] := by rfl) (hs2 : starEach [e2] X.env = [(false, eval e2 X.env)] := by rfl) :
    PI X tg (.Call (.Name "range" p) [e, e2] [] pos) (rdI G n0 (iRg2 fe fe2)) := by
  refine piI (pi_range2 hg hm (pa_cons (toV he) (pa_cons (toV he2) pa_nil hs2) (hs.trans (by rw [hs2]))) hs hs2) fun σ H T ⟨F, r, env, S, g, s, h⟩ => ?_
  refine stV s cnI h fun p S1 F1 r1 H1 u x1 s1 q1 h1 => ?_
  refine stV s1 cnI h1 fun q S2 F2 r2 H2 w x2 s2 q2 h2 => ?_
  obtain ⟨b, v⟩ := p
  obtain ⟨b', v'⟩ := q
  cases v with
  | int i =>
    cases v' with
    | int j =>
      simp only at h2
      split at h2
      · rename_i hj
        rw [Bool.and_eq_true] at hj
        obtain ⟨k1, k2⟩ := okRg_ok hj.1
        obtain ⟨k3, k4⟩ := okRg_ok hj.2
        exact ⟨i, j, by rw [show u = V.int i from q1, show w = V.int j from q2], ⟨k1, k2, k3, k4⟩, h2 F2 r2 H2 _ g (x1.trans x2) s2 its_rng (fun _ _ _ _ h _ => h)⟩
      · exact h2.elim
    | _ => exact h2.elim
  | _ => exact h2.elim
end
end PX
set_option Elab.async false
set_option linter.all false
set_option maxRecDepth 100000
set_option maxHeartbeats 1000000
namespace PX
open PySem PySem.Spec PyProof.Rows L2 ZG
/-! ### list comprehensions -/
def wipeE (env : Env) : List Nat → Env
  | [] => env
  | v :: vs => (wipeE env vs).set v none
def compR (t : Tg) (c : ST) (e : SE) : List PV → Env → List PV → Store → R (List PV)
  | [], _, acc, S => .ok acc S
  | x :: xs, env, acc, S => match t x env S with
    | none => .no
    | some env' => (c env' S).bind fun b S1 => if b = true then (e env' S1).bind fun q S2 => if small acc.length then compR t c e xs env (acc ++ [q.2]) S2 else .no
      else compR t c e xs env acc S1
def eLc (i : SI) (t : Tg) (vs : List Nat) (c : ST) (e : SE) : SE := fun env S => (i env S).bind fun p S1 => (compR t c e p.1 (wipeE env vs) [] S1).bind fun acc S2 => .ok (true, .lst acc) (unlock p.2 S2)
def tYesP : ST := fun _ S => .ok true S

theorem wipe_get (σ : L2.St) (i : Nat) : ∀ vs : List Nat, (L2.wipe σ vs)[i]? = if i ∈ vs ∧ i < σ.length then some none else σ[i]?
  | [] => by simp [L2.wipe]
  | v :: vs => by
    unfold L2.wipe
    by_cases hv : v = i
    · subst hv
      by_cases hl : v < σ.length
      · rw [List.getElem?_set_self (by rw [wipe_length]; exact hl), if_pos ⟨by simp, hl⟩]
      · rw [if_neg (fun z => hl z.2), List.getElem?_eq_none (by rw [List.length_set, wipe_length]; omega), List.getElem?_eq_none (by omega)]
    · rw [List.getElem?_set_ne hv, wipe_get σ i vs]
      have : (i ∈ v :: vs) ↔ i ∈ vs := by
        rw [List.mem_cons]
        exact ⟨fun h => h.resolve_left (fun z => hv z.symm), .inr⟩
      simp only [this]
theorem wipe_idem (σ : L2.St) (vs : List Nat) : L2.wipe (L2.wipe σ vs) vs = L2.wipe σ vs := by
  refine List.ext_getElem? fun i => ?_
  rw [wipe_get, wipe_length, wipe_get]
  split <;> rfl
theorem wipe_set {σ : L2.St} {vs : List Nat} {i : Nat} {x : Option V} (h : i ∈ vs) : L2.wipe (σ.set i x) vs = L2.wipe σ vs := by
  refine List.ext_getElem? fun j => ?_
  rw [wipe_get, wipe_get, List.length_set]
  by_cases hj : i = j
  · subst hj
    by_cases hl : i < σ.length
    · rw [if_pos ⟨h, hl⟩, if_pos ⟨h, hl⟩]
    · rw [if_neg (fun z => hl z.2), if_neg (fun z => hl z.2), List.getElem?_eq_none (by rw [List.length_set]; omega), List.getElem?_eq_none (by omega)]
  · rw [List.getElem?_set_ne hj]
theorem wipeE_some {env : Env} {i : Nat} {v : PV} : ∀ {vs : List Nat}, (wipeE env vs)[i]? = some (some v) → env[i]? = some (some v) ∧ i ∉ vs
  | [], e => ⟨e, by simp⟩
  | w :: vs, e => by
    unfold wipeE at e
    by_cases hw : w = i
    · subst hw
      rw [List.getElem?_set] at e
      rw [if_pos rfl] at e
      split at e <;> cases e
    · rw [List.getElem?_set_ne hw] at e
      obtain ⟨h1, h2⟩ := wipeE_some e
      exact ⟨h1, by rw [List.mem_cons]; rintro (z | z); exact hw z.symm; exact h2 z⟩
theorem wipeE_len (env : Env) : ∀ vs : List Nat, (wipeE env vs).length = env.length
  | [] => rfl
  | v :: vs => by
    unfold wipeE
    rw [List.length_set, wipeE_len env vs]

section
variable {G : Gam} {n0 : Nat} {g : Gh} {F : Hp} {r : List Addr} {S : Store} {H : Hp}
theorem Sg.wipe {env : Env} {σ : L2.St} (s : Sg G n0 g F r env σ S H) (vs : List Nat) : Sg G n0 g F r (wipeE env vs) (L2.wipe σ vs) S H := by
  refine ⟨s.hr, by rw [wipeE_len, wipe_length, s.sl], fun i v e => ?_⟩
  obtain ⟨h1, h2⟩ := wipeE_some e
  obtain ⟨u, e1, q⟩ := s.vr i v h1
  exact ⟨u, by rw [wipe_get, if_neg (fun z => h2 z.1)]; exact e1, q⟩
/-! a target within the block -/
def TgB (G : Gam) (vs : List Nat) (t : Tg) (gg : TG) : Prop := ∀ n0 g F r env σ S H v u env' w0 (Q : L2.St → Hp → Prop), L2.wipe σ vs = w0 → Sg G n0 g F r env σ S H → RV G F r v u → t v env S = some env' → (∀ σ', L2.wipe σ' vs = w0 → Sg G n0 g F r env' σ' S H → Q σ' H) → gg u σ H Q
def TgsB (G : Gam) (vs : List Nat) (ts : List Tg) (gs : TGs) : Prop := ∀ n0 g F r env σ S H xs us env' w0 (Q : L2.St → Hp → Prop), L2.wipe σ vs = w0 → Sg G n0 g F r env σ S H → RVs G F r xs us → gTps ts xs env S = some env' → (∀ σ', L2.wipe σ' vs = w0 → Sg G n0 g F r env' σ' S H → Q σ' H) → gs us σ H Q
theorem tb_nm {vs : List Nat} (i : Nat) (h : i ∈ vs) : TgB G vs (gNm i) (gName i) := fun n0 g F r env σ S H v u env' w0 Q hw s q e k => by
  cases e
  exact k _ (by rw [wipe_set h]; exact hw) (s.set q)
theorem tbs_nil {vs : List Nat} : TgsB G vs [] gNil := fun n0 g F r env σ S H xs us env' w0 Q hw s q e k => by
  cases xs with
  | nil =>
    cases e
    exact ⟨q, k σ hw s⟩
  | cons v xs => cases e
theorem tbs_cons {vs : List Nat} {t : Tg} {ts : List Tg} {gg : TG} {gs : TGs} (h1 : TgB G vs t gg) (h2 : TgsB G vs ts gs) : TgsB G vs (t :: ts) (gCons gg gs) := fun n0 g F r env σ S H xs us env' w0 Q hw s q e k => by
  cases xs with
  | nil => cases e
  | cons v xs =>
    obtain ⟨u, ur, rfl, q1, q2⟩ := q
    have e : (match t v env S with
      | some env' => gTps ts xs env' S
      | none => none) = some env' := e
    cases e1 : t v env S with
    | none => rw [e1] at e; cases e
    | some env1 =>
      rw [e1] at e
      exact ⟨u, ur, rfl, h1 n0 g F r env σ S H v u env1 w0 _ hw s q1 e1 fun σ' hw' s' => h2 n0 g F r env1 σ' S H xs ur env' w0 Q hw' s' q2 e k⟩
theorem tb_tp {vs : List Nat} {ts : List Tg} {gs : TGs} {n : Nat} (h : TgsB G vs ts gs) (hn : ts.length = n) : TgB G vs (gTp ts) (gTup G.K n gs) := fun n0 g F r env σ S H v u env' w0 Q hw s q e k => by
  unfold gTp at e
  split at e
  · rename_i xs e'
    obtain ⟨a, us, rfl, h1, h2⟩ := view_tup s.hr q e'
    exact ⟨a, us, rfl, h1, by rw [← RVs.length h2, gTps_len e, hn], h n0 g F r env σ S H xs us env' w0 Q hw s h2 e k⟩
  · cases e
/-! the new list, held apart -/
def Gh.pin (g : Gh) (a : Addr) (ho : HO) : Gh := ⟨g.L, upd g.pn a ho, fun b => if b = a then false else g.lk b⟩
theorem HR.pinNew {a : Addr} {ho : HO} (h : HR G n0 g F r S H) (ha : H a = none) : HR G n0 (g.pin a ho) F r S (upd H a ho) := by
  have hF := h.noF ha
  have hr := h.nor ha
  have h1 := h.heap (H' := upd H a ho) fun b o e => by rw [upd_ne (ne_of_none e ha)]; exact e
  refine ⟨h1.sub, h.nd, h.off, h.len, h.nle, h.lle, h1.obj, fun b o e => ?_, fun i ob b e1 e2 => ?_, fun b o e el hb => ?_⟩
  · by_cases hb : b = a
    · subst hb
      have e : upd g.pn b ho b = some o := e
      rw [upd_same] at e
      cases e
      exact ⟨upd_same, hF, fun i hi => absurd (List.mem_of_getElem? hi) hr⟩
    · have e : upd g.pn a ho b = some o := e
      rw [upd_ne hb] at e
      exact h1.pin b o e
  · show ∃ o, upd g.pn a ho b = some o
    by_cases hb : b = a
    · rw [hb, upd_same]; exact ⟨_, rfl⟩
    · rw [upd_ne hb]; exact h.lckd i ob b e1 e2
  · by_cases hb' : b = a
    · subst hb'; exact hr hb
    · have e : upd g.pn a ho b = some o := e
      rw [upd_ne hb'] at e
      have el : (if b = a then false else g.lk b) = false := el
      rw [if_neg hb'] at el
      exact h.out b o e el hb
theorem pin_at {a : Addr} {ho : HO} : (g.pin a ho).pn a = some ho := by
  show upd g.pn a ho a = _
  rw [upd_same]
theorem pin_ne {a b : Addr} {ho : HO} (hb : b ≠ a) : (g.pin a ho).pn b = g.pn b := by
  show upd g.pn a ho b = _
  rw [upd_ne hb]
theorem pin_out {a : Addr} {ho : HO} (h : HR G n0 (g.pin a ho) F r S H) : a ∉ r := h.out a ho pin_at (by show (if a = a then false else g.lk a) = false; rw [if_pos rfl])
theorem HR.pinSet {a : Addr} {ho ho' : HO} (h : HR G n0 (g.pin a ho) F r S H) : HR G n0 (g.pin a ho') F r S (upd H a ho') := by
  have hF : F a = none := (h.pin a ho pin_at).2.1
  have hr := pin_out h
  refine ⟨fun b o e => ?_, h.nd, h.off, h.len, h.nle, h.lle, fun i ob b e1 e2 => ?_, fun b o e => ?_, fun i ob b e1 e2 => ?_, fun b o e el hb => ?_⟩
  · rw [upd_ne (fun z => by rw [z, hF] at e; cases e)]
    exact h.sub b o e
  · obtain ⟨ho2, q1, q2⟩ := h.obj i ob b e1 e2
    exact ⟨ho2, by rw [upd_ne (fun z => hr (by rw [← z]; exact List.mem_of_getElem? e2))]; exact q1, q2⟩
  · by_cases hb : b = a
    · subst hb
      rw [pin_at] at e
      cases e
      exact ⟨upd_same, hF, fun i hi => absurd (List.mem_of_getElem? hi) hr⟩
    · rw [pin_ne hb] at e
      obtain ⟨q1, q2, q3⟩ := h.pin b o (by rw [pin_ne hb]; exact e)
      exact ⟨by rw [upd_ne hb]; exact q1, q2, q3⟩
  · obtain ⟨o, q⟩ := h.lckd i ob b e1 e2
    by_cases hb : b = a
    · rw [hb, pin_at]; exact ⟨_, rfl⟩
    · rw [pin_ne hb] at q ⊢; exact ⟨o, q⟩
  · by_cases hb' : b = a
    · subst hb'; exact hr hb
    · rw [pin_ne hb'] at e
      exact h.out b o (by rw [pin_ne hb']; exact e) el hb
theorem HR.unpin {a : Addr} {ho : HO} (h : HR G n0 (g.pin a ho) F r S H) (hp : g.pn a = none) : HR G n0 g F r S H := by
  have hr := pin_out h
  have ne_of : ∀ b o, g.pn b = some o → b ≠ a := fun b o e z => by rw [z, hp] at e; cases e
  refine ⟨h.sub, h.nd, h.off, h.len, h.nle, h.lle, h.obj, fun b o e => h.pin b o (by rw [pin_ne (ne_of b o e)]; exact e), fun i ob b e1 e2 => ?_, fun b o e el => ?_⟩
  · obtain ⟨o, q⟩ := h.lckd i ob b e1 e2
    have hb : b ≠ a := fun z => hr (by rw [← z]; exact List.mem_of_getElem? e2)
    rw [pin_ne hb] at q
    exact ⟨o, q⟩
  · have hb := ne_of b o e
    refine h.out b o (by rw [pin_ne hb]; exact e) ?_
    show (if b = a then false else g.lk b) = false
    rw [if_neg hb]
    exact el
variable {X : Cx}
def rdB (G : Gam) (n0 : Nat) (f : ST) : TT := rdT G n0 f
theorem lc_core' {fi : SI} {t : Tg} {gg : TG} {vs : List Nat} {c : ST} {fe : SE} (ht : TgB G vs t gg) (σ : L2.St) (H : Hp) (Q : VK) (hh : rdE G n0 (eLc fi t vs c fe) σ H Q) : tLc (rdI G n0 fi) gg (rdT G n0 c) (rdV G n0 fe) vs σ H Q := by
  obtain ⟨F, r, env, S, g, s, h⟩ := hh
  refine ⟨F, r, env, S, g, s, ?_⟩
  have h : PoE G n0 g F r env σ ((fi env S).bind fun p S1 => (compR t c fe p.1 (wipeE env vs) [] S1).bind fun acc S2 => .ok (true, .lst acc) (unlock p.2 S2)) Q := h
  cases ei : fi env S with
  | no => rw [ei] at h; exact h
  | ex => rw [ei] at h; exact h
  | ok p S1 =>
    rw [ei] at h
    obtain ⟨xs, ls⟩ := p
    have h : PoE G n0 g F r env σ ((compR t c fe xs (wipeE env vs) [] S1).bind fun acc S2 => .ok (true, .lst acc) (unlock ls S2)) Q := h
    intro F1 r1 H1 J g' x1 s1 its ul D hD
    have ul : ∀ F2 r2 S2 H2, HR G n0 g' F2 r2 S2 H2 → Ext F1 F2 r1 r2 → HR G n0 g F2 r2 (unlock ls S2) H2 := ul
    have its : Its G n0 g' F1 r1 J xs := its
    have hp : g'.pn D = none := s1.hr.nop hD
    have hgp : g.pn D = none := (ul F1 r1 S1 H1 s1.hr (.refl _ _)).nop hD
    -- what holds ahead of turn i
    refine ⟨fun i m H' => m = xs.length - i ∧ i ≤ xs.length ∧ ∃ F2 r2 S2 acc us, Ext F1 F2 r1 r2 ∧ Sg G n0 (g'.pin D (.lst us)) F2 r2 (wipeE env vs) (L2.wipe σ vs) S2 H' ∧ RVs G F2 r2 acc us ∧
      PoE G n0 g F r env σ ((compR t c fe (xs.drop i) (wipeE env vs) acc S2).bind fun acc S2 => .ok (true, .lst acc) (unlock ls S2)) Q,
      ⟨xs.length, rfl, Nat.zero_le _, F1, r1, S1, [], [], .refl _ _, ⟨s1.hr.pinNew hD, (s1.wipe vs).sl, (s1.wipe vs).vr⟩, rfl, h⟩, ?_⟩
    rintro i m H2 ⟨rfl, hi, F2, r2, S2, acc, us, x2, s2, racc, h2⟩
    have hDr := pin_out s2.hr
    have hDH := (s2.hr.pin D _ pin_at).1
    have hDF := (s2.hr.pin D _ pin_at).2.1
    have hr2 := s2.hr.unpin hp
    obtain ⟨ig, ie⟩ := its (g'.pin D (.lst us)) (fun a o e => by rw [pin_ne (fun z => by rw [z, hp] at e; cases e)]; exact e) F2 r2 S2 H2 s2.hr x2
    by_cases hlt : i < xs.length
    · have hx : xs[i]? = some xs[i] := List.getElem?_eq_getElem hlt
      have hd : xs.drop i = xs[i] :: xs.drop (i + 1) := List.drop_eq_getElem_cons hlt
      rw [hd] at h2
      obtain ⟨go, yl⟩ := ig i xs[i] hx
      refine .inr ⟨go, fun H' => ∃ F2 r2 S2 acc us, Ext F1 F2 r1 r2 ∧ Sg G n0 (g'.pin D (.lst us)) F2 r2 (wipeE env vs) (L2.wipe σ vs) S2 H' ∧ RVs G F2 r2 acc us ∧
        PoE G n0 g F r env σ ((compR t c fe (xs.drop (i + 1)) (wipeE env vs) acc S2).bind fun acc S2 => .ok (true, .lst acc) (unlock ls S2)) Q,
        fun H' q => ⟨xs.length - (i + 1), by omega, rfl, hlt, q⟩, fun v H3 hy => ?_⟩
      obtain ⟨F3, x3, hr3, q3⟩ := yl v H3 hy
      have h3 : PoE G n0 g F r env σ ((match t xs[i] (wipeE env vs) S2 with
        | none => R.no
        | some env' => (c env' S2).bind fun b S1 => if b = true then (fe env' S1).bind fun q S2 => if small acc.length then compR t c fe (xs.drop (i + 1)) (wipeE env vs) (acc ++ [q.2]) S2 else .no
          else compR t c fe (xs.drop (i + 1)) (wipeE env vs) acc S1).bind fun acc S2 => .ok (true, .lst acc) (unlock ls S2)) Q := h2
      cases et : t xs[i] (wipeE env vs) S2 with
      | none => rw [et] at h3; exact h3.elim
      | some env3 =>
        simp only [et] at h3
        refine ht n0 _ F3 r2 (wipeE env vs) (L2.wipe σ vs) S2 H3 xs[i] v env3 (L2.wipe σ vs) _ (wipe_idem σ vs) (s2.ext x3 hr3) q3 et fun σ3 hw3 s3 => ⟨hw3, ?_⟩
        refine ⟨F3, r2, env3, S2, _, s3, ?_⟩
        cases ec : c env3 S2 with
        | no => rw [ec] at h3; exact h3
        | ex => rw [ec] at h3; exact h3
        | ok b S4 =>
          rw [ec] at h3
          intro F4 r4 H4 x4 s4
          have xx : Ext F1 F4 r1 r4 := (x2.trans x3).trans x4
          have back : ∀ {us' F' r' S' H'}, Ext F4 F' r4 r' → Sg G n0 (g'.pin D (.lst us')) F' r' env3 σ3 S' H' → Sg G n0 (g'.pin D (.lst us')) F' r' (wipeE env vs) (L2.wipe σ vs) S' H' := fun {us' F' r' S' H'} x' s' =>
            ⟨s'.hr, s2.sl, fun j w e => by
              obtain ⟨u, e1, q1⟩ := s2.vr j w e
              exact ⟨u, e1, q1.ext ((x3.trans x4).trans x')⟩⟩
          cases b with
          | false => exact ⟨F4, r4, S4, acc, us, xx, back (.refl _ _) s4, racc.ext (x3.trans x4), h3⟩
          | true =>
            have h4 : PoE G n0 g F r env σ (((fe env3 S4).bind fun q S2 => if small acc.length then compR t c fe (xs.drop (i + 1)) (wipeE env vs) (acc ++ [q.2]) S2 else .no).bind fun acc S2 => .ok (true, .lst acc) (unlock ls S2)) Q := h3
            refine ⟨F4, r4, env3, S4, _, s4, ?_⟩
            cases ee : fe env3 S4 with
            | no => rw [ee] at h4; exact h4
            | ex => rw [ee] at h4; exact h4
            | ok q S5 =>
              rw [ee] at h4
              intro F5 r5 H5 y x5 s5 q5
              have h5 : PoE G n0 g F r env σ ((if small acc.length then compR t c fe (xs.drop (i + 1)) (wipeE env vs) (acc ++ [q.2]) S5 else .no).bind fun acc S2 => .ok (true, .lst acc) (unlock ls S2)) Q := h4
              cases hsm : small acc.length with
              | false => rw [hsm] at h5; exact h5.elim
              | true =>
                rw [hsm, if_pos rfl] at h5
                have hr5 := s5.hr
                refine ⟨us, (hr5.pin D _ pin_at).1, by rw [← RVs.length racc]; exact small_lt hsm, F5, r5, S5, acc ++ [q.2], us ++ [y], xx.trans x5, back x5 ⟨hr5.pinSet, s5.sl, s5.vr⟩, (racc.ext ((x3.trans x4).trans x5)).append ⟨y, [], rfl, q5, rfl⟩, h5⟩
    · have e : i = xs.length := by omega
      subst e
      rw [List.drop_length] at h2
      refine .inl ⟨ie _ (Nat.le_refl _), ?_⟩
      have h6 := ul F2 r2 S2 H2 hr2 x2
      have s6 : Sg G n0 g F2 r2 env σ (unlock ls S2) H2 := ⟨h6, s1.sl, fun j w e => by
        obtain ⟨u, e1, q1⟩ := s1.vr j w e
        exact ⟨u, e1, q1.ext x2⟩⟩
      exact h2 F2 r2 H2 (.ref D) (x1.trans x2) s6 ⟨D, .lst us, rfl, hDH, hDF, hDr, hgp, ⟨us, rfl, racc⟩, rfl⟩
theorem sts_nil : PTs X [] (rdT G n0 tYesP) := ⟨fun pins s σ H Q I h => pts_nil.run pins s σ H Q I (by
  obtain ⟨F, r, env, S, g, s, h⟩ := h
  exact h F r H (.refl F r) s)⟩
theorem sts_one {c : Expr} {tc : ST} (h : PT X c (rdT G n0 tc)) : PTs X [c] (rdT G n0 tc) := pts_one h
theorem Tb.blk {cf : CF} {k : Nat} (T : Tb X G cf k) (s : Shared) (H : Hp) (scope : Scope) (cenv : PySem.Env) (fp : List Addr) : Tb (X.blk s H scope cenv fp) G cf k := ⟨T.hK, T.call, T.room, T.calm⟩
theorem se_lc {elt tg iter : Expr} {ifs : List Expr} {scope : Scope} {own : List (Str × Nat)} {pos : Pos} {fi : SI} {t : Tg} {gg : TG} {c : ST} {fe : SE} (hc : X.calm = true) (hN : X.N.Nodup) (hi : PI X tg iter (rdI G n0 fi)) (ok : BlkOk X.N X.env.scope scope own) (ht : TgB G (own.map (·.2)) t gg)
    (hg : ∀ (s : Shared) (H : Hp) (C : Addr) (cl : List (Str × Addr)) (fp : List Addr), PG (X.blk s H scope (compEnvC scope cl C X.env) fp) tg gg)
    (hts : ∀ (s : Shared) (H : Hp) (C : Addr) (cl : List (Str × Addr)) (fp : List Addr), PTs (X.blk s H scope (compEnvC scope cl C X.env) fp) ifs (rdT G n0 c))
    (he : ∀ (s : Shared) (H : Hp) (C : Addr) (cl : List (Str × Addr)) (fp : List Addr), PE (X.blk s H scope (compEnvC scope cl C X.env) fp) elt (rdE G n0 fe)) (hs : ∀ x, foldedSetIterable iter X.env x = pure x := by intro _; rfl) :
    PE X (.ListComp elt [⟨tg, iter, ifs, 0⟩] scope pos) (rdE G n0 (eLc fi t (own.map (·.2)) c fe)) :=
  se_of (pe_lc hc hN hi ok hg hts (fun s H C cl fp => toV (he s H C cl fp)) hs) (lc_core' ht)
end
end PX
set_option Elab.async false
set_option linter.all false
set_option maxRecDepth 100000
set_option maxHeartbeats 1000000
namespace PX
open PySem PySem.Spec PyProof.Rows L2
/-! ### an item: of a list, a tuple, a dict, an own __getitem__ -/
def dIx (x y : PV) (S : Store) : Option (Bool × PV) := match deref S x with
  | some (.dct ks vs) => match keyOf y with
    | some q => match dGet ks vs q with
      | some (some v) => some (false, v)
      | _ => none
    | none => none
  | _ => none
def eIx (cf : CF) (tb : List (Nat × Nat)) (a b : SE) : SE := fun env S => (a env S).bind fun p S1 => (b env S1).bind fun q S2 => match ownOf tb S2 p.2 with
  | some f => callV cf f [p.2, q.2] S2
  | none => match dIx p.2 q.2 S2 with
    | some z => .ok z S2
    | none => ofO (oIx p.2 q.2 S2) S2
section
variable {X : Cx} {k : Nat}
def rIxOwn (X : Cx) (k : Nat) : R2 := fun x y H Q => ∃ a C dx fs g sp, x = .ref a ∧ H a = some (.ins C dx fs) ∧ Spc X.K C g "__getitem__" ∧ PySem.W.fnIn X.K g = true ∧ FnR X.prog X.w X.K X.mg X.base L2.CX0 k g sp ∧ sp [x, y] H Q E0
def rIxDct : R2 := fun x y H Q => ∃ a v, x = .ref a ∧ DGet H a y (some v) ∧ Q v H
theorem pe_ixG {a b : Expr} {ta tb : TE} {pos : Pos} (hr : Room (k + 1) X.A) (ha : PE X a ta) (hb : PE X b tb) (hs : PlainIx b) (hsl : ∀ x i, subscripted b true (.ref x) i = runValue (.builtin "lifetime.subscript" ⟨[.ref x, i], []⟩)) :
    PE X (.Subscript a b pos) (tOp (fun x y H Q => rIxOwn X k x y H Q ∨ rIxDct x y H Q ∨ rIx X.K x y H Q) ta tb) := by
  refine ⟨fun pins s σ H Q I h => ?_⟩
  refine Subscript_ (binT ha hb I h fun v u s2 x y H2 I2 rx ry q => ?_)
  rcases q with q | q | q
  · obtain ⟨a', C, dx, fs, g, sp, rfl, ea, hs', hf, F, q⟩ := q
    cases (show v = Value.ref a' from rx)
    obtain ⟨od, J⟩ := inst_at I2 ea
    obtain ⟨m, hF⟩ := I2.fr
    refine PySem.W.sub_K hF I2.ok.mod.kin J hs'.at_ hf hs'.fn ?_ (hsl a' u)
    exact wpAny_call (SlX.run_at (us := [.ref a', u]) (ws := [.ref a', y]) F hr.in1 I2.env0.in1 pass0 I2 (.cons rfl (.cons ry .nil)) q)
  · obtain ⟨a', z, rfl, gd, q⟩ := q
    cases (show v = Value.ref a' from rx)
    exact tail_any (dict_typeIs I2 gd) PySem.F.slot_dict_getitem.lookup (d_getItem (by have := hr.units; omega) I2 gd ry fun w' s3 I3 rw' => ⟨z, H2, I3, rw', q⟩) (hs _ _)
  · exact ix_seq a b pins s2 σ H2 x y v u Q I2 rx ry q (hs _ _)
end
section
variable {X : Cx} {G : Gam} {n0 : Nat} {cf : CF} {k : Nat}
theorem se_ixG {tb : List (Nat × Nat)} {a b : Expr} {fa fb : SE} {pos : Pos} (T : Tb X G cf k) (hc : ∀ p ∈ tb, Spc G.K (G.ca p.1) (G.fa p.2) "__getitem__" ∧ PySem.W.fnIn G.K (G.fa p.2) = true) (ha : PE X a (rdE G n0 fa)) (hb : PE X b (rdE G n0 fb))
    (hs : PlainIx b) (hsl : ∀ x i, subscripted b true (.ref x) i = runValue (.builtin "lifetime.subscript" ⟨[.ref x, i], []⟩)) : PE X (.Subscript a b pos) (rdE G n0 (eIx cf tb fa fb)) := by
  refine se_of (pe_ixG T.room (toV ha) (toV hb) hs hsl) fun σ H Q ⟨F, r, env, S, g, s, h⟩ => ?_
  refine stV s cnE h fun p S1 F1 r1 H1 u x1 s1 q1 h1 => ?_
  refine stV s1 cnE h1 fun q S2 F2 r2 H2 v x2 s2 q2 h2 => ?_
  have q1' := q1.ext x2
  cases eo : ownOf tb S2 p.2 with
  | some f =>
    simp only [eo] at h2
    obtain ⟨a', c, dx, fs, rfl, k1, k2⟩ := own_at s2.hr q1' eo
    obtain ⟨c1, c2⟩ := hc _ k2
    refine .inl ⟨a', G.ca c, dx, fs, G.fa f, _, rfl, k1, T.hK ▸ c1, T.hK ▸ c2, T.call f 2, ?_⟩
    exact run_call (np := 2) s2 (x1.trans x2) (show RVs G F2 r2 [p.2, q.2] _ from ⟨_, _, rfl, q1', _, [], rfl, q2, rfl⟩) rfl h2
  | none =>
    simp only [eo] at h2
    cases ed : dIx p.2 q.2 S2 with
    | some z =>
      simp only [ed] at h2
      unfold dIx at ed
      split at ed
      · rename_i ks vs edr
        cases ek : keyOf q.2 with
        | none => simp only [ek] at ed; cases ed
        | some kk =>
          simp only [ek] at ed
          cases eg : dGet ks vs kk with
          | none => simp only [eg] at ed; cases ed
          | some o =>
            cases o with
            | none => simp only [eg] at ed; cases ed
            | some w =>
              simp only [eg] at ed
              cases ed
              obtain ⟨a', o', rfl, gd, y, rfl, rv⟩ := dGet_ok s2.hr q1' edr q2 ek eg
              exact .inr (.inl ⟨a', y, rfl, gd, h2 F2 r2 H2 y (x1.trans x2) s2 rv⟩)
      · cases ed
    | none =>
      simp only [ed] at h2
      exact .inr (.inr (T.hK ▸ endO (T := fun Q => rIx G.K u v H2 Q) s2 (x1.trans x2) h2 fun z ez k => ok_ix n0 g F2 r2 S2 H2 p.2 q.2 u v z Q s2.hr q1' q2 ez k))
/-! isinstance(x, (c1, c2, ..)) -/
theorem se_isiT {tb : List (TyN × Bool)} {e : Expr} {fe : SE} {p pos : Pos} {cvs : List V} {cus : List Value} {ht : TA} {es : List Expr} {x1 : _} {tpos : Pos} (hK : G.K = X.K) (hg : Gl X "isinstance") (hm : X.mg "isinstance" = none) (hb : bootBuiltins "isinstance" = some (.builtin "isinstance")) (hcv : Paired ClsV cvs cus)
    (hcl : ∀ t b, (t, b) ∈ tb → PySem.W.kitAny G.K (t.val G) cus = some b ∧ ∀ c, t = .own c → ClsI G c) (he : PE X e (rdE G n0 fe)) (hc : PA X es ht) (hht : ∀ σ H Q, Q cvs H → ht σ H Q) (hlen : cvs.length ≤ sizeLine)
    (hs : starEach [e, .Tuple es x1 tpos] X.env = (false, eval e X.env) :: starEach [.Tuple es x1 tpos] X.env := by rfl) (hs2 : starEach [.Tuple es x1 tpos] X.env = (false, eval (.Tuple es x1 tpos) X.env) :: starEach [] X.env := by rfl) (hpl : (backTo pos (starEach [.Tuple es x1 tpos] X.env)).any (·.1) = false := by rfl) :
    PE X (.Call (.Name "isinstance" p) [e, .Tuple es x1 tpos] [] pos) (rdE G n0 (eIsi tb fe)) := by
  refine peI (pe_callB call_isiT hg hm hb (pa_cons (toV he) (pa_cons (pe_tup hc) pa_nil hs2) hs) (by decide) (by decide) hs hpl) fun σ H Q ⟨F, r, env, S, g, s, h⟩ => ?_
  refine stV s cnE h fun p S1 F1 r1 H1 u x1 s1 q1 h1 => ?_
  simp only at h1
  cases et : tyN S1 p.2 with
  | none => rw [et] at h1; exact h1.elim
  | some t =>
    rw [et] at h1
    cases el : tb.lookup t with
    | none => simp only [el] at h1; exact h1.elim
    | some b =>
      simp only [el] at h1
      obtain ⟨k1, k2⟩ := hcl t b (tb_mem el)
      refine hht _ _ _ ⟨hlen, fun tp htp => ?_⟩
      have h2 := s1.hr.heap (H' := upd H1 tp (.tup cvs)) fun a o e => by rw [upd_ne (ne_of_none e htp)]; exact e
      refine ⟨u, tp, cvs, t.val G, cus, b, rfl, upd_same, hcv, hK ▸ tyN_ok h2 q1 k2 et, hK ▸ k1, ?_⟩
      exact h1 F1 r1 _ _ x1 (s1.ext (.refl _ _) h2) rfl
/-! xs[::-1] -/
def eRev (a : SE) : SE := fun env S => (a env S).bind fun p S1 => match lstOf S1 p.2 with
  | some xs => .ok (true, .lst xs.reverse) S1
  | none => .no
theorem RVs.rev {F : Hp} {r : List Addr} : ∀ {vs : List PV} {us : List V}, RVs G F r vs us → RVs G F r vs.reverse us.reverse
  | [], us, q => by
    cases (show us = [] from q)
    exact rfl
  | v :: vs, us, q => by
    obtain ⟨u, ur, rfl, k, l⟩ := q
    rw [List.reverse_cons, List.reverse_cons]
    exact (RVs.rev l).append ⟨u, [], rfl, k, rfl⟩
theorem se_rev {e : Expr} {fe : SE} {kk : Nat} {p1 p2 p3 pos : Pos} (hK : G.K = X.K) (he : PE X e (rdE G n0 fe)) : PE X (.Subscript e (.Slice none none (some (.UnaryOp .USub (.Constant (.int 1) kk p1) p2)) p3) pos) (rdE G n0 (eRev fe)) := by
  refine se_of (pe_revL (toV he)) fun σ H Q ⟨F, r, env, S, g, s, h⟩ => ?_
  refine stV s cnE h fun p S1 F1 r1 H1 u x1 s1 q1 h1 => ?_
  cases el : lstOf S1 p.2 with
  | none => simp only [el] at h1; exact h1.elim
  | some xs =>
    simp only [el] at h1
    obtain ⟨a, us, rfl, k1, k2⟩ := view_lstOf s1.hr q1 el
    refine ⟨a, us, rfl, .inl k1, fun p' hp => ?_⟩
    obtain ⟨h2, k3⟩ := new_obj s1.hr hp (v := .lst xs.reverse) ⟨_, rfl, k2.rev⟩ rfl
    exact h1 F1 r1 _ _ x1 (s1.ext (.refl _ _) h2) k3
end
/-! ### sorting ints -/
def insI (x : Int) : List Int → List Int
  | [] => [x]
  | y :: ys => if x ≤ y then x :: y :: ys else y :: insI x ys
def srtI : List Int → List Int
  | [] => []
  | x :: xs => insI x (srtI xs)
theorem insI_perm (x : Int) : ∀ ys : List Int, (insI x ys).Perm (x :: ys)
  | [] => .refl _
  | y :: ys => by
    unfold insI
    split
    · exact .refl _
    · exact ((insI_perm x ys).cons y).trans (.swap x y ys)
theorem srtI_perm : ∀ xs : List Int, (srtI xs).Perm xs
  | [] => .refl _
  | x :: xs => (insI_perm x _).trans ((srtI_perm xs).cons x)
theorem insI_mem {x z : Int} {ys : List Int} (h : z ∈ insI x ys) : z = x ∨ z ∈ ys := by
  have := (insI_perm x ys).mem_iff.mp h
  exact List.mem_cons.mp this
theorem insI_sorted (x : Int) : ∀ {ys : List Int}, ys.Pairwise (· ≤ ·) → (insI x ys).Pairwise (· ≤ ·)
  | [], _ => by simp [insI]
  | y :: ys, h => by
    unfold insI
    have hc := List.pairwise_cons.mp h
    split
    · rename_i hxy
      refine List.pairwise_cons.mpr ⟨fun z hz => ?_, h⟩
      rcases List.mem_cons.mp hz with rfl | hz
      · exact hxy
      · exact Int.le_trans hxy (hc.1 z hz)
    · rename_i hxy
      refine List.pairwise_cons.mpr ⟨fun z hz => ?_, insI_sorted x hc.2⟩
      rcases insI_mem hz with rfl | hz
      · omega
      · exact hc.1 z hz
theorem srtI_sorted : ∀ xs : List Int, (srtI xs).Pairwise (· ≤ ·)
  | [] => .nil
  | x :: xs => insI_sorted x (srtI_sorted xs)
theorem sorted_uniq : ∀ {xs ys : List Int}, xs.Pairwise (· ≤ ·) → ys.Pairwise (· ≤ ·) → xs.Perm ys → xs = ys
  | [], ys, _, _, p => p.nil_eq
  | x :: xs, [], _, _, p => by
    have := p.length_eq
    simp at this
  | x :: xs, y :: ys, h1, h2, p => by
    have c1 := List.pairwise_cons.mp h1
    have c2 := List.pairwise_cons.mp h2
    have hxy : x = y := by
      have hx : x ∈ y :: ys := p.mem_iff.mp List.mem_cons_self
      have hy : y ∈ x :: xs := p.mem_iff.mpr List.mem_cons_self
      rcases List.mem_cons.mp hx with e | hx
      · exact e
      · rcases List.mem_cons.mp hy with e | hy
        · exact e.symm
        · have := c1.1 y hy
          have := c2.1 x hx
          omega
    subst hxy
    rw [sorted_uniq c1.2 c2.2 ((List.perm_cons x).mp p)]
theorem srtI_eq {ns ns' : List Int} (p : ns'.Perm ns) (h : ns'.Pairwise (· ≤ ·)) : ns' = srtI ns := sorted_uniq h (srtI_sorted ns) (p.trans (srtI_perm ns).symm)
def keysI : List Key → Option (List Int)
  | [] => some []
  | .inl i :: r => (keysI r).map (i :: ·)
  | .inr _ :: _ => none
theorem keysI_ok : ∀ {ks : List Key} {ns : List Int}, keysI ks = some ns → ks = ns.map Sum.inl
  | [], ns, e => by cases e; rfl
  | .inl i :: r, ns, e => by
    have e : (keysI r).map (i :: ·) = some ns := e
    cases e1 : keysI r with
    | none => rw [e1] at e; cases e
    | some ms =>
      rw [e1] at e
      cases e
      rw [keysI_ok e1]
      rfl
  | .inr _ :: _, _, e => by cases e
def bSort : OpN := fun xs S => match xs with
  | [v] => match deref S v with
    | some (.lst ws) => (intsOf ws).map fun ns => (true, .lst ((srtI ns).map .int))
    | some (.dct (.k ks) _) => match keysI ks with
      | some ns => if Nat.ble ns.length 63 then some (true, .lst ((srtI ns).map .int)) else none
      | none => none
    | _ => none
  | _ => none
/-! dict(pairs) -/
def pairsK : List PV → Option (List Key × List PV)
  | [] => some ([], [])
  | .tup [a, b] :: r => match keyOf a with
    | some (.k q) => match pairsK r with
      | some z => some (q :: z.1, b :: z.2)
      | none => none
    | _ => none
  | _ :: _ => none
def mergeB : List Key → List PV → List Key → List PV → List Key × List PV
  | ks, vs, q :: qs, w :: ws => let z := putB eqK ks vs q w; mergeB z.1 z.2 qs ws
  | ks, vs, _, _ => (ks, vs)
def bDict : OpN := fun xs S => match xs with
  | [v] => match deref S v with
    | some (.lst ws) => match pairsK ws with
      | some z => let y := mergeB [] [] z.1 z.2; some (true, .dct (.k y.1) y.2)
      | none => none
    | some (.dct (.k ks) vs) => some (true, .dct (.k ks) vs)
    | _ => none
  | _ => none
section
variable {X : Cx} {G : Gam}
def rSort (K : PySem.W.Frag) : List V → Hp → VK → Prop := fun vs H Q => rSortedI K vs H Q ∨ ∃ (a : Addr) (kvs : List (Key × V)) (ks : List Int), vs = [.ref a] ∧ Rd H a (.dK kvs) ∧ kvs.map (·.1) = ks.map Sum.inl ∧ ks.length < 64 ∧
    ∀ (ys : List Int) (p : Addr), ys.Perm ks → ys.Pairwise (· ≤ ·) → H p = none → Q (.ref p) (upd H p (.lst (ys.map V.int)))
theorem cr_sort (hc : X.calm = true) : CallR X (.builtin "sorted") (rSort X.K) := by
  intro pins s σ H vs us Q I r h
  rcases h with h | h
  · exact cr_sortedI pins s σ H vs us Q I r h
  · exact call_sortedDI hc pins s σ H vs us Q I r h
theorem RVs.toI {F : Hp} {r : List Addr} (ns : List Int) : RVs G F r (ns.map PV.int) (ns.map V.int) := RVs.of_ints ns
theorem ok_sort : OkN G bSort (rSort G.K) := fun n0 g F r S H xs us z Q h q e k => by
  unfold bSort at e
  split at e
  · obtain ⟨u, rfl, q1⟩ := one_of q
    split at e
    · rename_i ws ed
      cases en : intsOf ws with
      | none => rw [en] at e; cases e
      | some ns =>
        rw [en] at e
        cases e
        obtain ⟨a, us, rfl, k1, k2⟩ := view_lst h q1 ed
        rw [intsOf_eq en] at k2
        rw [RVs.ints k2] at k1
        refine .inl ⟨a, ns, rfl, .inl k1, fun ns' p hp hs hH => ?_⟩
        rw [srtI_eq hp hs]
        obtain ⟨h2, k3⟩ := new_obj h hH (v := .lst ((srtI ns).map .int)) ⟨_, rfl, RVs.toI _⟩ rfl
        exact k F r _ _ (.refl F r) h2 k3
    · rename_i ks ws ed
      cases en : keysI ks with
      | none => simp only [en] at e; cases e
      | some ns =>
        simp only [en] at e
        split at e
        · rename_i hl
          cases e
          obtain ⟨a, ho, us, rfl, k1, k2, k3⟩ := view_dct h q1 ed
          obtain ⟨rfl, hlen⟩ := k2
          refine .inr ⟨a, _, ns, rfl, .inl k1, ?_, by have := Nat.le_of_ble_eq_true hl; omega, fun ys p hp hs hH => ?_⟩
          · rw [keysI_ok en] at hlen ⊢
            rw [show (fun x : Key × V => x.1) = Prod.fst from rfl, List.map_fst_zip (Nat.le_of_eq hlen)]
          · rw [srtI_eq hp hs]
            obtain ⟨h2, k4⟩ := new_obj h hH (v := .lst ((srtI ns).map .int)) ⟨_, rfl, RVs.toI _⟩ rfl
            exact k F r _ _ (.refl F r) h2 k4
        · cases e
    · cases e
  · cases e
theorem pairsK_ok {F : Hp} {r : List Addr} : ∀ {ws : List PV} {us : List V} {z : List Key × List PV}, RVs G F r ws us → pairsK ws = some z →
    ∃ (ps : List Addr) (ys : List V), us = ps.map V.ref ∧ z.1.length = ys.length ∧ RVs G F r z.2 ys ∧ Paired (fun p kv => F p = some (.tup [kV kv.1, kv.2])) ps (z.1.zip ys)
  | [], us, z, q, e => by
    cases e
    exact ⟨[], [], q, rfl, rfl, .nil⟩
  | w :: ws, us, z, q, e => by
    unfold pairsK at e
    split at e
    · rename_i h0; cases h0
    · rename_i a b r' h0
      cases h0
      split at e
      · rename_i kk ek
        split at e
        · rename_i y ey
          cases e
          obtain ⟨u, ur, rfl, k, l⟩ := q
          obtain ⟨p, ts, rfl, k1, k2⟩ := k
          obtain ⟨ua, ub, rfl, ka, kb⟩ := two_of k2
          obtain ⟨ps, ys, rfl, e1, e2, e3⟩ := pairsK_ok l ey
          rw [keyOf_k ka ek] at k1
          exact ⟨p :: ps, ub :: ys, rfl, by simpa using e1, ⟨ub, ys, rfl, kb, e2⟩, .cons k1 e3⟩
        · cases e
      · cases e
    · cases e
theorem mergeB_ok {F : Hp} {r : List Addr} : ∀ {qs : List Key} {ws : List PV} {ys : List V} {ks : List Key} {vs : List PV} {us : List V}, qs.length = ys.length → RVs G F r ws ys → ks.length = us.length → RVs G F r vs us →
    ∃ us', mergeK (ks.zip us) (qs.zip ys) = (mergeB ks vs qs ws).1.zip us' ∧ (mergeB ks vs qs ws).1.length = us'.length ∧ RVs G F r (mergeB ks vs qs ws).2 us'
  | [], ws, ys, ks, vs, us, _, _, hl, k => by
    have e : mergeB ks vs [] ws = (ks, vs) := by cases ws <;> rfl
    rw [e]
    exact ⟨us, rfl, hl, k⟩
  | q :: qs, ws, [], ks, vs, us, h, _, _, _ => by cases h
  | q :: qs, [], y :: ys, ks, vs, us, _, k', _, _ => by cases (show (y :: ys) = [] from k')
  | q :: qs, w :: ws, y :: ys, ks, vs, us, h, k', hl, k => by
    obtain ⟨u', ur, e, k1, k2⟩ := k'
    cases e
    obtain ⟨us1, e1, e2, e3⟩ := putB_ok eqK_ok k1 (q := q) hl k
    obtain ⟨us2, e4, e5, e6⟩ := mergeB_ok (qs := qs) (by simpa using h) k2 e2 e3
    refine ⟨us2, ?_, e5, e6⟩
    show mergeK (putK (ks.zip us) q y) (qs.zip ys) = _
    rw [e1]
    exact e4
def rDict (K : PySem.W.Frag) : List V → Hp → VK → Prop := fun xs H Q => (∃ (a : Addr) (ps : List Addr) (kvs : List (Key × V)), xs = [.ref a] ∧ SqL K H a (ps.map V.ref) ∧ Paired (fun p kv => SqT K H p [kV kv.1, kv.2]) ps kvs ∧
    ∀ p, H p = none → Q (.ref p) (upd H p (.dK (mergeK [] kvs)))) ∨ ∃ (a : Addr) (kvs : List (Key × V)), xs = [.ref a] ∧ Rd H a (.dK kvs) ∧ ∀ p, H p = none → Q (.ref p) (upd H p (.dK kvs))
theorem cr_dict (hc : X.calm = true) : CallR X (.type "dict") (rDict X.K) := by
  intro pins s σ H vs us Q I r h
  rcases h with h | h
  · exact call_dictP hc pins s σ H vs us Q I r h
  · exact call_dictD pins s σ H vs us Q I r h
theorem Paired.imp' {α β : Type} {R R' : α → β → Prop} (h : ∀ a b, R a b → R' a b) : ∀ {as : List α} {bs : List β}, Paired R as bs → Paired R' as bs
  | _, _, .nil => .nil
  | _, _, .cons a b => .cons (h _ _ a) (Paired.imp' h b)
theorem ok_dict : OkN G bDict (rDict G.K) := fun n0 g F r S H xs us z Q h q e k => by
  unfold bDict at e
  split at e
  · obtain ⟨u, rfl, q1⟩ := one_of q
    split at e
    · rename_i ws ed
      cases ep : pairsK ws with
      | none => simp only [ep] at e; cases e
      | some y =>
        simp only [ep] at e
        cases e
        obtain ⟨a, us, rfl, k1, k2⟩ := view_lst h q1 ed
        obtain ⟨ps, ys, rfl, e1, e2, e3⟩ := pairsK_ok k2 ep
        refine .inl ⟨a, ps, _, rfl, .inl k1, Paired.imp' (fun _ _ e => h.sub.tp e) e3, fun p hp => ?_⟩
        obtain ⟨us', f1, f2, f3⟩ := mergeB_ok (ks := []) (vs := []) (us := []) e1 e2 rfl rfl
        have f1 : mergeK [] (y.1.zip ys) = _ := f1
        rw [f1]
        obtain ⟨h2, k4⟩ := new_obj h hp (v := .dct (.k (mergeB [] [] y.1 y.2).1) (mergeB [] [] y.1 y.2).2) ⟨us', ⟨rfl, f2⟩, f3⟩ rfl
        exact k F r _ _ (.refl F r) h2 k4
    · rename_i ks vs ed
      cases e
      obtain ⟨a, ho, us, rfl, k1, k2, k3⟩ := view_dct h q1 ed
      obtain ⟨rfl, hlen⟩ := k2
      refine .inr ⟨a, _, rfl, .inl k1, fun p hp => ?_⟩
      obtain ⟨h2, k4⟩ := new_obj h hp (v := .dct (.k ks) vs) ⟨us, ⟨rfl, hlen⟩, k3⟩ rfl
      exact k F r _ _ (.refl F r) h2 k4
    · cases e
  · cases e
end
end PX
set_option Elab.async false
set_option linter.all false
set_option maxRecDepth 100000
namespace PX
open PySem PySem.Spec PyProof.Rows L2 He
/-! ### the head: facts as checks of the written part (without its lists) -/
def noLst (g : Addr → Option Obj) : Addr → Option Obj := fun a => match g a with
  | some o => (match o.cls with
    | .type n => if n = "list" then none else some o
    | _ => some o)
  | none => none
theorem noLst_at {g : Addr → Option Obj} {a : Addr} {o : Obj} (h : noLst g a = some o) : g a = some o ∧ o.cls ≠ .type "list" := by
  unfold noLst at h
  cases e : g a with
  | none => rw [e] at h; cases h
  | some ob =>
    rw [e] at h
    simp only at h
    cases ec : ob.cls with
    | type n =>
      rw [ec] at h
      simp only at h
      split at h
      · cases h
      · rename_i hn
        cases h
        rw [ec]
        exact ⟨rfl, fun z => hn (Value.type.inj z)⟩
    | _ =>
      rw [ec] at h
      cases h
      rw [ec]
      exact ⟨rfl, fun z => nomatch z⟩
abbrev Ck : Type := PySem.W.Frag → Bool
def obsP (fb : List Ck) (fn : List DefD) (K : PySem.W.Frag) : AlD := ((fb.all fun f => f K) && fn.all fun d => d.ok K, fn.map fun d => fnW K d.at_)
structure SaysP (fb : List Ck) (fn : List DefD) (K : PySem.W.Frag) : Prop where
  eq : obsP fb fn K = valD fn
  nol : ∀ a o, K.lookup a = some o → o.cls ≠ .type "list"
def obsPG (n : Nat) (fb : List Ck) (fn : List DefD) (g : Addr → Option Obj) : AlD := obsP fb fn (frG (noLst g) (asD g n))
def hookP (n : Nat) (fb : List Ck) (fn : List DefD) : PySem.W.Hook where
  α := AlD
  obs := fun s => obsPG n fb fn s.heap.get?
  val := fun _ => valD fn
  says := fun _ h => ∃ K : PySem.W.Frag, K.In h ∧ SaysP fb fn K
  of := fun _ _ e => ⟨_, fun _ _ e' => (noLst_at (frG_at _ e')).1, e, fun _ _ e' => (noLst_at (frG_at _ e')).2⟩
  keeps := fun _ _ _ ⟨K, hK, c⟩ k => ⟨K, PySem.W.Frag.In.keeps hK k, c⟩
theorem obsPG_eq {n : Nat} {fb : List Ck} {fn : List DefD} {g : Addr → Option Obj} {s : Shared} (h : ∀ a, g a = s.heap.get? a) : obsPG n fb fn g = (hookP n fb fn).obs s := by
  have e : g = s.heap.get? := funext h
  rw [e] <;> rfl
section
variable {fb : List Ck} {fn : List DefD} {K : PySem.W.Frag}
theorem SaysP.fact (c : SaysP fb fn K) (i : Nat) {f : Ck} (h : fb[i]? = some f := by rfl) : f K = true := by
  have c1 := (He.ba (show ((fb.all fun f => f K) && fn.all fun d => d.ok K) = true from congrArg (fun z : AlD => z.1) c.eq)).1
  exact List.all_eq_true.mp c1 f (List.mem_of_getElem? h)
theorem SaysP.def_ (c : SaysP fb fn K) (i : Nat) {d : DefD} (h : fn[i]? = some d := by rfl) : ∃ fd, FunD K d.name d.qual d.params d.body d.scope (d.dvs K) (d.kws K) (fAd K d.at_) fd := by
  have c2 := (He.ba (show ((fb.all fun f => f K) && fn.all fun d => d.ok K) = true from congrArg (fun z : AlD => z.1) c.eq)).2
  have e : fn.map (fun d => fnW K d.at_) = fn.map DefD.val := congrArg (fun z : AlD => z.2) c.eq
  have e2 : (fn.map fun d => fnW K d.at_)[i]? = (fn.map DefD.val)[i]? := by rw [e]
  rw [List.getElem?_map, List.getElem?_map, h] at e2
  exact DefD.funD (Option.some.inj e2) (List.all_eq_true.mp c2 d (List.mem_of_getElem? h))
end
/-! names by number -/
def gam (fs : List (Str × Option Str)) (cs ns : List Str) (K : PySem.W.Frag) : Gam := ⟨K, fun i => fAd K (fs.getD i ("", none)), fun c => ga K (cs.getD c ""), fun n => ns.getD n ""⟩
theorem inj_nm {fs : List (Str × Option Str)} {cs ns : List Str} {K : PySem.W.Frag} (i : Nat) (hi : i < ns.length) (hn : ns.Nodup) (he : ("" : Str) ∉ ns) : Inj (gam fs cs ns K) i := fun j e => by
  have e : ns.getD j "" = ns.getD i "" := e
  have hi' : ns.getD i "" = ns[i] := by simp [List.getD_eq_getElem?_getD, hi]
  by_cases hj : j < ns.length
  · have hj' : ns.getD j "" = ns[j] := by simp [List.getD_eq_getElem?_getD, hj]
    rw [hi', hj'] at e
    exact (List.getElem_inj hn).mp e
  · have hj' : ns.getD j "" = "" := by simp [List.getD_eq_getElem?_getD, hj]
    rw [hi', hj'] at e
    exact absurd (e ▸ List.getElem_mem hi) he
/-! kinds of checks -/
def cGlo (x : Str) : Ck := fun K => eqO (PySem.W.nsIn K mainGlobals x) (some (some (.ref (ga K x))))
def cFree (x : Str) : Ck := fun K => eqO (PySem.W.nsIn K mainGlobals x) (some none)
def cInt (x : Str) (i : Int) : Ck := fun K => Fa.ok K (.int x i)
def cKeep (G : PySem.W.Frag → Gam) (f : Nat) : Ck := fun K => PySem.W.keepIn K (.ref ((G K).fa f))
def clsB (K : PySem.W.Frag) (C : Addr) : Bool := PySem.W.plainGet K C Str.empty && (PySem.W.hasDictIn K C && (PySem.W.plainOver K C && eqO (PySem.W.findIn K (.ref C) "__setattr__") (some (some (.builtin "object.__setattr__")))))
def isiB (K : PySem.W.Frag) (C : Addr) : Bool := eqO (PySem.W.findIn K (.ref C) "__class__") (some (some (.builtin "object.__class__"))) && (eqO (PySem.W.specialIn K (.builtin "object.__class__") "__get__") (some (some (.builtin "getset_descriptor.__get__"))) &&
  (decide (PySem.W.takesIn K (.builtin "object.__class__") = some true) && decide (PySem.W.mroIn K C (.type "object") = some true)))
def methB (K : PySem.W.Frag) (C f : Addr) (m : Str) : Bool := eqO (PySem.W.findIn K (.ref C) m) (some (some (.ref f))) && (PySem.W.isFn K (.ref f) && PySem.W.keepIn K (.ref f))
def cCls (G : PySem.W.Frag → Gam) (cs : List Nat) : Ck := fun K => cs.all fun c => clsB K ((G K).ca c) && isiB K ((G K).ca c)
def cFld (G : PySem.W.Frag → Gam) (f : Nat) (cs : List Nat) : Ck := fun K => cs.all fun c => clsB K ((G K).ca c) && eqO (PySem.W.findIn K (.ref ((G K).ca c)) ((G K).nm f)) (some none)
def cMet (G : PySem.W.Frag → Gam) (m : Nat) (tb : List (Nat × Nat)) : Ck := fun K => tb.all fun p => clsB K ((G K).ca p.1) && methB K ((G K).ca p.1) ((G K).fa p.2) ((G K).nm m)
def cMk (G : PySem.W.Frag → Gam) (c f : Nat) : Ck := fun K => PySem.W.makesIn K ((G K).ca c) && (eqO (PySem.W.findIn K (.ref ((G K).ca c)) "__init__") (some (some (.ref ((G K).fa f)))) && (PySem.W.isFn K (.ref ((G K).fa f)) && PySem.W.keepIn K (.ref ((G K).ca c))))
def cSpc (G : PySem.W.Frag → Gam) (tb : List (Nat × Nat)) (m : Str) : Ck := fun K => tb.all fun p => eqO (PySem.W.findIn K (.ref ((G K).ca p.1)) m) (some (some (.ref ((G K).fa p.2)))) && (PySem.W.isFn K (.ref ((G K).fa p.2)) && PySem.W.fnIn K ((G K).fa p.2))
def cNe (G : PySem.W.Frag → Gam) (tb : List (Nat × Nat)) : Ck := fun K => tb.all fun p => eqO (PySem.W.findIn K (.ref ((G K).ca p.1)) "__ne__") (some (some (.builtin "object.__ne__"))) && decide (PySem.W.mroIn K ((G K).ca p.1) (.type "object") = some true)
def cNf (G : PySem.W.Frag → Gam) (tb : List (Nat × Nat)) (tys : List TyN) : Ck := fun K => tb.all fun p => tys.all fun t => PySem.W.notFirst K ((G K).ca p.1) (t.val (G K))
def cKit (G : PySem.W.Frag → Gam) (tb : List (TyN × Bool)) (cu : PySem.W.Frag → Value) : Ck := fun K => tb.all fun p => decide (PySem.W.kitOne K (p.1.val (G K)) (cu K) = some p.2)
def cKitT (G : PySem.W.Frag → Gam) (tb : List (TyN × Bool)) (cus : PySem.W.Frag → List Value) : Ck := fun K => tb.all fun p => decide (PySem.W.kitAny K (p.1.val (G K)) (cus K) = some p.2)
section
variable {K : PySem.W.Frag} {h : Heap} {mg : Str → Option Value}
theorem cGlo_ok (X : K.In h) (G : h.Ns mainGlobals mg) {x : Str} (c : cGlo x K = true) : mg x = some (.ref (ga K x)) := PySem.W.mg_of X G (eqO_ok c)
theorem cFree_ok (X : K.In h) (G : h.Ns mainGlobals mg) {x : Str} (c : cFree x K = true) : mg x = none := PySem.W.mg_none_of X G (eqO_ok c)
theorem cInt_ok (X : K.In h) (G : h.Ns mainGlobals mg) {x : Str} {i : Int} (c : cInt x i K = true) : ∃ u, mg x = some u ∧ RelV (.int i) u := by
  obtain ⟨t, e⟩ := int_ok X G c
  exact ⟨_, e, ⟨t, rfl⟩⟩
variable {G : PySem.W.Frag → Gam}
theorem clsB_ok {C : Addr} (c : clsB K C = true) : Cls K C := by
  obtain ⟨c1, c⟩ := He.ba c
  obtain ⟨c2, c⟩ := He.ba c
  obtain ⟨c3, c4⟩ := He.ba c
  exact ⟨c1, c2, c3, eqO_ok c4⟩
theorem isiB_ok {C : Addr} (c : isiB K C = true) : SlX.SIsi K C := by
  obtain ⟨c1, c⟩ := He.ba c
  obtain ⟨c2, c⟩ := He.ba c
  obtain ⟨c3, c4⟩ := He.ba c
  exact ⟨eqO_ok c1, eqO_ok c2, of_decide_eq_true c3, of_decide_eq_true c4⟩
theorem methB_ok {C f : Addr} {m : Str} (c : methB K C f m = true) : Meth K C m f := by
  obtain ⟨c1, c⟩ := He.ba c
  obtain ⟨c2, c3⟩ := He.ba c
  exact ⟨eqO_ok c1, c2, c3⟩
theorem cCls_ok (hG : (G K).K = K) {cs : List Nat} (h : cCls G cs K = true) : ∀ c ∈ cs, ClsI (G K) c := fun c hc => by
  obtain ⟨h1, h2⟩ := He.ba (List.all_eq_true.mp h c hc)
  exact ⟨hG.symm ▸ clsB_ok h1, hG.symm ▸ isiB_ok h2⟩
theorem cFld_ok (hG : (G K).K = K) {f : Nat} {cs : List Nat} (h : cFld G f cs K = true) : ∀ c ∈ cs, Cls (G K).K ((G K).ca c) ∧ NoAttr (G K).K ((G K).ca c) ((G K).nm f) := fun c hc => by
  obtain ⟨h1, h2⟩ := He.ba (List.all_eq_true.mp h c hc)
  rw [hG]
  exact ⟨clsB_ok h1, eqO_ok h2⟩
theorem cMet_ok (hG : (G K).K = K) {m : Nat} {tb : List (Nat × Nat)} (h : cMet G m tb K = true) : ∀ p ∈ tb, Cls (G K).K ((G K).ca p.1) ∧ Meth (G K).K ((G K).ca p.1) ((G K).nm m) ((G K).fa p.2) := fun p hp => by
  obtain ⟨h1, h2⟩ := He.ba (List.all_eq_true.mp h p hp)
  rw [hG]
  exact ⟨clsB_ok h1, methB_ok h2⟩
theorem cMk_ok (hG : (G K).K = K) {c f : Nat} (h : cMk G c f K = true) : Mk (G K).K ((G K).ca c) ((G K).fa f) := by
  obtain ⟨h1, h⟩ := He.ba h
  obtain ⟨h2, h⟩ := He.ba h
  obtain ⟨h3, h4⟩ := He.ba h
  rw [hG]
  exact ⟨h1, eqO_ok h2, h3, h4⟩
theorem cSpc_ok (hG : (G K).K = K) {tb : List (Nat × Nat)} {m : Str} (h : cSpc G tb m K = true) : ∀ p ∈ tb, Spc (G K).K ((G K).ca p.1) ((G K).fa p.2) m ∧ PySem.W.fnIn (G K).K ((G K).fa p.2) = true := fun p hp => by
  obtain ⟨h1, h2⟩ := He.ba (List.all_eq_true.mp h p hp)
  obtain ⟨h2, h3⟩ := He.ba h2
  rw [hG]
  exact ⟨⟨eqO_ok h1, h2⟩, h3⟩
def ownIn (cs : List Nat) : TyN → Bool
  | .own c => cs.contains c
  | _ => true
theorem ownIn_ok {cs : List Nat} {c : Nat} (h : ownIn cs (.own c) = true) : c ∈ cs := by
  have h : cs.contains c = true := h
  simpa using h
theorem cEq_ok (hG : (G K).K = K) {tb : List (Nat × Nat)} {tys : List TyN} {cs : List Nat} (h1 : cSpc G tb "__eq__" K = true) (h2 : cNe G tb K = true) (h3 : cNf G tb tys K = true) (h4 : cCls G cs K = true) (h5 : (tys.all fun t => ownIn cs t) = true) : EqT (G K) tb tys := by
  refine ⟨fun p hp => (cSpc_ok hG h1 p hp).1, fun p hp => ?_, fun p hp t ht => ?_, fun c hc => cCls_ok hG h4 c (ownIn_ok (List.all_eq_true.mp h5 _ hc))⟩
  · obtain ⟨a, b⟩ := He.ba (List.all_eq_true.mp h2 p hp)
    rw [hG]
    exact ⟨eqO_ok a, of_decide_eq_true b⟩
  · rw [hG]
    exact List.all_eq_true.mp (List.all_eq_true.mp h3 p hp) t ht
theorem cKit_ok (hG : (G K).K = K) {tb : List (TyN × Bool)} {cu : PySem.W.Frag → Value} {cs : List Nat} (h1 : cKit G tb cu K = true) (h4 : cCls G cs K = true) (h5 : (tb.all fun p => ownIn cs p.1) = true) : ∀ t b, (t, b) ∈ tb → PySem.W.kitOne (G K).K (t.val (G K)) (cu K) = some b ∧ ∀ c, t = .own c → ClsI (G K) c := fun t b hm => by
  refine ⟨?_, fun c hc => ?_⟩
  · rw [hG]
    exact of_decide_eq_true (List.all_eq_true.mp h1 (t, b) hm)
  · subst hc
    exact cCls_ok hG h4 c (ownIn_ok (List.all_eq_true.mp h5 _ hm))
theorem cKitT_ok (hG : (G K).K = K) {tb : List (TyN × Bool)} {cus : PySem.W.Frag → List Value} {cs : List Nat} (h1 : cKitT G tb cus K = true) (h4 : cCls G cs K = true) (h5 : (tb.all fun p => ownIn cs p.1) = true) : ∀ t b, (t, b) ∈ tb → PySem.W.kitAny (G K).K (t.val (G K)) (cus K) = some b ∧ ∀ c, t = .own c → ClsI (G K) c := fun t b hm => by
  refine ⟨?_, fun c hc => ?_⟩
  · rw [hG]
    exact of_decide_eq_true (List.all_eq_true.mp h1 (t, b) hm)
  · subst hc
    exact cCls_ok hG h4 c (ownIn_ok (List.all_eq_true.mp h5 _ hm))
end
/-! ### a def keeps its promise -/
section
variable {P : Program} {w : World} {K : PySem.W.Frag} {mg : Str → Option Value} {base : Heap} {G : Gam}
theorem spF_np {T : Nat → Option FnB} {n f np : Nat} {b : FnB} {vs : List V} {H : Hp} {Q : VK} {E : XK} (hT : T f = some b) (h : spF G (callF T (n + 1)) f np vs H Q E) : np = b.np := by
  obtain ⟨F, r, S, g, n0, args, hr, q, l, h⟩ := h
  have h : (match (match T f with
    | some b => runB b (callF T n) args n0 S
    | none => R.no) with
    | .ok v S' => ∀ F' r' H' u, Ext F F' r r' → HR G n0 g F' r' S' H' → RV G F' r' v u → Q u H'
    | _ => False) := h
  rw [hT] at h
  simp only [runB] at h
  by_cases hl : args.length = b.np
  · rw [← l, hl]
  · rw [if_neg hl] at h
    exact h.elim
theorem spF_none {T : Nat → Option FnB} {n f np : Nat} {vs : List V} {H : Hp} {Q : VK} {E : XK} (hT : T f = none) (h : spF G (callF T n) f np vs H Q E) : False := by
  obtain ⟨F, r, S, g, n0, args, hr, q, l, h⟩ := h
  cases n with
  | zero => exact h
  | succ n =>
    have h : (match (match T f with
      | some b => runB b (callF T n) args n0 S
      | none => R.no) with
      | .ok v S' => ∀ F' r' H' u, Ext F F' r r' → HR G n0 g F' r' S' H' → RV G F' r' v u → Q u H'
      | _ => False) := h
    rw [hT] at h
    exact h
abbrev All (P : Program) (w : World) (K : PySem.W.Frag) (mg : Str → Option Value) (base : Heap) (G : Gam) (T : Nat → Option FnB) (n : Nat) : Prop := ∀ f np, FnR P w K mg base L2.CX0 (2 * n) (G.fa f) (spF G (callF T n) f np)
theorem all_zero {T : Nat → Option FnB} : All P w K mg base G T 0 := fun f np A outer s H us vs Q E hr he hv hs => by
  obtain ⟨F, r, S, g, n0, args, hr, q, l, h⟩ := hs
  exact h.elim
theorem def_fn {T : Nat → Option FnB} {n f : Nat} {b : FnB} {x qual : Str} {params : Arguments} {body : List Stmt} {scope : Scope} {fd : FuncData} {N ps : List Str} (hT : T f = some b) (F : FunD K x qual params body scope [] [] (G.fa f) fd) (S : FnScope N ps scope) (hn : b.nl = N.length) (hp : ps.length = b.np)
    (hbody : ∀ (cdv : Value) (A : Around) (outer : List PySem.Env) (s : Shared) (H : Hp) (E : XK) (n0 : Nat), Room (2 * n + 1) (A.deeper (envOfC qual scope s.heap.objs.size (G.fa f) cdv)) →
      PSs (cxOf L2.CX0 P w K mg base N qual scope (G.fa f) cdv A outer s H E).nox body (rdS G n0 (b.body (callF T n) n0))) : FnOk P w K mg base L2.CX0 (2 * (n + 1)) (G.fa f) fd ps (spF G (callF T (n + 1)) f b.np) :=
  F.ok S (fun vs H Q E h => by rw [spF_len vs H Q E h, hp]) fun cdv A outer s H vs Q E hr h => by
    obtain ⟨n0, hb⟩ := body_ok hT hn h
    exact ⟨_, PSs.nox (hbody cdv A outer s H E n0 hr), hb⟩
theorem def_ok {T : Nat → Option FnB} {n f : Nat} {b : FnB} {x qual : Str} {params : Arguments} {body : List Stmt} {scope : Scope} {fd : FuncData} {N ps : List Str} (hT : T f = some b) (F : FunD K x qual params body scope [] [] (G.fa f) fd) (S : FnScope N ps scope) (hn : b.nl = N.length) (hp : ps.length = b.np)
    (hb : Binds K fd ps []) (hbody : ∀ (cdv : Value) (A : Around) (outer : List PySem.Env) (s : Shared) (H : Hp) (E : XK) (n0 : Nat), Room (2 * n + 1) (A.deeper (envOfC qual scope s.heap.objs.size (G.fa f) cdv)) →
      PSs (cxOf L2.CX0 P w K mg base N qual scope (G.fa f) cdv A outer s H E).nox body (rdS G n0 (b.body (callF T n) n0))) : ∀ np, FnR P w K mg base L2.CX0 (2 * (n + 1)) (G.fa f) (spF G (callF T (n + 1)) f np) := by
  have ok := def_fn hT F S hn hp hbody
  intro np A outer s H us vs Q E hr he hv hs
  have e := spF_np hT hs
  subst e
  exact (ok.raw hb .nil) A outer s H us vs Q E hr he hv (by show spF G (callF T (n + 1)) f b.np (vs ++ []) H Q E; rw [List.append_nil]; exact hs)
end
section
variable {P : Program} {w : World} {K : PySem.W.Frag} {mg : Str → Option Value} {base : Heap} {G : Gam}
/-! ### the law -/
theorem law_sp {T : Nat → Option FnB} {n f : Nat} {H : Hp} {a : Addr} {ns : List Int} {S' : Store} (nol : ∀ a o, K.lookup a = some o → o.cls ≠ .type "list") (hS : SqL K H a (ns.map V.int)) (h : callF T n f [.lst (ns.map .int)] 0 [] = .ok (.bl true) S') :
    spF G (callF T n) f 1 [.ref a] H (fun v _ => v = .bl true) fun _ _ _ => False := by
  have hR : Rd H a (.lst (ns.map V.int)) := by
    rcases hS with h | ⟨o, its, k, h1, h2, _⟩
    · exact h
    · exact absurd h2 (nol a o h1)
  have hF : Le (fun b => if b = a then H a else none) H := fun b o e => by
    have e : (if b = a then H a else none) = some o := e
    split at e
    · rename_i hb
      rw [hb]
      exact e
    · cases e
  refine ⟨fun b => if b = a then H a else none, [], [], ⟨fun _ => 0, fun _ => none, fun _ => false⟩, 0, [.lst (ns.map .int)], ⟨hF, .nil, fun b hb => absurd hb (by simp), rfl, Nat.le_refl _, fun i hi => absurd hi (Nat.not_lt_zero i), fun i ob b e => absurd e (by simp), fun b o e => (by cases e), fun i ob b e => absurd e (by simp), fun b o e => (by cases e)⟩, ⟨.ref a, [], rfl, ⟨a, ns.map V.int, rfl, ?_, RVs.of_ints ns⟩, rfl⟩, rfl, ?_⟩
  · rcases hR with h | ⟨o, h⟩
    · exact .inl (by show (if a = a then H a else none) = _; rw [if_pos rfl]; exact h)
    · exact .inr ⟨o, by show (if a = a then H a else none) = _; rw [if_pos rfl]; exact h⟩
  · rw [h]
    exact fun F' r' H' u _ _ q => q
end
end PX
set_option Elab.async false
set_option linter.all false
set_option maxRecDepth 100000
namespace PX
open PySem PySem.Spec PyProof.Rows L2
/-! helps for printed derivations -/
def isFnK : ScopeKind → Bool
  | .function => true
  | _ => false
def blkB (N : List Str) (sc scope : Scope) (own : List (Str × Nat)) : Bool := isFnK scope.kind && (scope.names.all (fun y => decide (scope.names.lookup y.1 = some y.2)) && (own.all (fun p => decide (N[p.2]? = some p.1)) &&
  (scope.names.all (fun y => !decide (y.2 = .free) || (decide (sc.names.lookup y.1 = some .cell) || decide (sc.names.lookup y.1 = some .free))) &&
  scope.names.all (fun y => !(decide (y.2 = .local) || decide (y.2 = .cell)) || (decide (y.1 ∈ own.map (·.1)) || !decide (y.1 ∈ N))))))
theorem blk_ok {N : List Str} {sc scope : Scope} {own : List (Str × Nat)} (h : blkB N sc scope own = true) : BlkOk N sc scope own := by
  unfold blkB at h
  simp only [Bool.and_eq_true, List.all_eq_true, Bool.or_eq_true, Bool.not_eq_true', decide_eq_true_eq, decide_eq_false_iff_not, Bool.or_eq_false_iff] at h
  obtain ⟨h1, h2, h3, h4, h5⟩ := h
  refine ⟨?_, fun y hy => h2 y hy, fun p hp => h3 p hp, fun y hy e => (h4 y hy).resolve_left (fun z => z e), fun y hy e => (h5 y hy).resolve_left (fun z => ?_)⟩
  · cases hk : scope.kind with
    | function => rfl
    | _ => rw [hk] at h1; cases h1
  · rcases e with e | e
    · exact z.1 e
    · exact z.2 e
section
variable {X : Cx} {G : Gam} {n0 : Nat}
/-! name = [..] on one line, the name a local -/
theorem ss_setLc {i : Nat} {y : Str} {py : Pos} {elt tg iter : Expr} {ifs : List Expr} {scope : Scope} {own : List (Str × Nat)} {pos spos : Pos} {fi : SI} {t : Tg} {gg : TG} {c : ST} {fe : SE} (hc : X.calm = true) (hN : X.N.Nodup) (hy : X.N[i]? = some y) (hyl : X.env.scope.names.lookup y = some .local)
    (hsw : swapsWith (.ListComp elt [⟨tg, iter, ifs, 0⟩] scope pos) (some (.Name y py)) spos.line X.env = pure true) (hi : PI X tg iter (rdI G n0 fi)) (ok : BlkOk X.N X.env.scope scope own) (ht : TgB G (own.map (·.2)) t gg)
    (hg : ∀ (s : Shared) (H : Hp) (C : Addr) (cl : List (Str × Addr)) (fp : List Addr), PG (X.blk s H scope (compEnvC scope cl C X.env) fp) tg gg)
    (hts : ∀ (s : Shared) (H : Hp) (C : Addr) (cl : List (Str × Addr)) (fp : List Addr), PTs (X.blk s H scope (compEnvC scope cl C X.env) fp) ifs (rdT G n0 c))
    (he : ∀ (s : Shared) (H : Hp) (C : Addr) (cl : List (Str × Addr)) (fp : List Addr), PE (X.blk s H scope (compEnvC scope cl C X.env) fp) elt (rdE G n0 fe)) (hs : ∀ x, foldedSetIterable iter X.env x = pure x := by intro _; rfl) :
    PS X (.Assign [.Name y py] (.ListComp elt [⟨tg, iter, ifs, 0⟩] scope pos) spos) (tAsg (rdE G n0 (eLc fi t (own.map (·.2)) c fe)) (gName i)) :=
  psI (ps_setLc hc hN hy hyl hsw hi ok hg hts (fun s H C cl fp => toV (he s H C cl fp)) hs) fun D σ H h => lc_core' ht σ H _ h
/-! a fresh value goes to the store ahead of the assignment, or is left as it is -/
theorem asgV {f : SE} {gg : TG} {st : Stmt} (hp : PS X st (tAsg (rdE G n0 f) gg)) : PS X st (tAsg (rdV G n0 f) gg) := by
  refine psI hp fun D σ H ⟨F, r, env, S, g, s, h⟩ => ⟨F, r, env, S, g, s, ?_⟩
  cases e : f env S with
  | ok p S' =>
    rw [e] at h
    intro F' r' H' u x s' q
    obtain ⟨F2, x2, h2, q2⟩ := freeze s'.hr q
    exact h F2 r' H' u (x.trans x2) (s'.ext x2 h2) q2
  | ex => rw [e] at h; exact h
  | no => rw [e] at h; exact h
theorem asgN {f : SE} {gg : TG} {st : Stmt} (hp : PS X st (tAsg (rdE G n0 f) gg)) : PS X st (tAsg (rdE G n0 (eNew f)) gg) := by
  refine psI hp fun D σ H ⟨F, r, env, S, g, s, h⟩ => ?_
  have h : PoE G n0 g F r env σ ((f env S).bind fun p S1 => match p.1 with
    | true => .ok (false, .ref S1.length) (S1 ++ [p.2])
    | false => .ok p S1) (fun x H' => gg x σ H' D.nx) := h
  refine stE s cnE h fun p S1 F1 r1 H1 u x1 s1 q1 h1 => ?_
  obtain ⟨b, v⟩ := p
  cases b with
  | false => exact h1 F1 r1 H1 u x1 s1 q1
  | true =>
    obtain ⟨r2, x2, h2, k⟩ := store_new s1.hr q1
    exact h1 F1 r2 H1 u (x1.trans x2) (s1.ext x2 h2) k
/-! a chain of two comparisons -/
theorem ch_core {o o' : Op2} {t t' : R2} {fa fb fc : SE} (ho : Ok2 G o t) (ho' : Ok2 G o' t') (σ : L2.St) (H : Hp) (Q : VK) (hh : rdE G n0 (eCh o o' fa fb fc) σ H Q) : tChain t t' (rdV G n0 fa) (rdV G n0 fb) (rdV G n0 fc) σ H Q := by
  obtain ⟨F, r, env, S, g, s, h⟩ := hh
  refine stV s cnE h fun p S1 F1 r1 H1 u x1 s1 q1 h1 => ?_
  refine stV s1 cnE h1 fun q S2 F2 r2 H2 v x2 s2 q2 h2 => ?_
  split at h2
  · rename_i eo
    refine ho n0 g F2 r2 S2 H2 p.2 q.2 u v _ _ s2.hr (q1.ext x2) q2 eo fun F3 r3 H3 w x3 hr3 rf => ⟨true, rf, ?_⟩
    refine stV (s2.ext x3 hr3) cnE h2 fun z S4 F4 r4 H4 w' x4 s4 q4 h4 => ?_
    exact endO (T := fun Q => t' v w' H4 Q) s4 (((x1.trans x2).trans x3).trans x4) h4 fun z' ez k => ho' n0 g F4 r4 S4 H4 q.2 z.2 v w' z' Q s4.hr (q2.ext (x3.trans x4)) q4 ez k
  · rename_i eo
    refine ho n0 g F2 r2 S2 H2 p.2 q.2 u v _ _ s2.hr (q1.ext x2) q2 eo fun F3 r3 H3 w x3 hr3 rf => ⟨false, rf, ?_⟩
    exact h2 F3 r3 H3 _ ((x1.trans x2).trans x3) (s2.ext x3 hr3) rfl
  · exact h2.elim
theorem st_ch {o1 o2 : CmpOp} {o o' : Op2} {t t' : R2} {a b c : Expr} {fa fb fc : SE} {pos : Pos} (hop : OpR X (compareOp o1) t) (ho : Ok2 G o t) (hop' : OpR X (compareOp o2) t') (ho' : Ok2 G o' t') (ha : PE X a (rdE G n0 fa)) (hb : PE X b (rdE G n0 fb)) (hc : PE X c (rdE G n0 fc))
    (hm : lastMarks [o1, o2] [b, c] = false := by with_unfolding_all rfl) : PT X (.Compare a [o1, o2] [b, c] pos) (rdT G n0 (tBl (eCh o o' fa fb fc))) :=
  st_of (pt_chain hop hop' (toV ha) (toV hb) (toV hc) hm) (ch_core ho ho')
end
theorem FunD_binds {K : PySem.W.Frag} {x qual : Str} {params : Arguments} {body : List Stmt} {scope : Scope} {f : Addr} {fd : FuncData} {ps : List Str} (F : FunD K x qual params body scope [] [] f fd)
    (h : ∀ (kV doc pm : Value) (an : Option Addr) (cdv ct : Value) (us : List Value), us.length = ps.length → bindArgs (PySem.W.fnOf x qual params body scope .none kV doc pm an cdv ct) ⟨us, []⟩ = pure (ps.zip us)) : Binds K fd ps [] := fun s us _ hl => by
  rw [List.append_nil] at hl ⊢
  exact F.bindsA h s us hl
end PX
set_option Elab.async false
set_option linter.all false
set_option maxRecDepth 100000
namespace PX.K01
open PySem PX
/-! is_number -/
noncomputable def b0 : FnB := ⟨3, 3, fun cf n0 => (sRet (eAn (eIsi [(.non, false), (.bl, true), (.int, true), (.str, false), (.tup, false), (.lst, false), (.dct, false), (.own 0, false)] (eVar 0)) (eAn (eNot (eIsi [(.non, false), (.bl, true), (.int, false), (.str, false), (.tup, false), (.lst, false), (.dct, false), (.own 0, false)] (eVar 0))) (eCh oLe oLe (eVar 1) (eVar 0) (eVar 2)))))⟩
/-! Column.__init__ -/
noncomputable def b1 : FnB := ⟨2, 3, fun cf n0 => (sCons (sIf (tOr (tNo (tTru (eIsi [(.non, false), (.bl, false), (.int, false), (.str, false), (.tup, true), (.lst, true), (.dct, false), (.own 0, false)] (eVar 1)))) (tNo (tBl (eCh oLe oLe (eLit (.int 1)) (eLen cf [(0, 3)] (eVar 1)) (eLit (.int (12))))))) sNo sNil) (sCons (sIf (tNo (tTru (eArg bAll (aCons (eLc (iSeq (eVar 1)) (gNm 2) [2] tYesP (eCall cf 3 0 (aCons (eVar 2) (aCons (eLit (.int 0)) (aCons (eLit (.int (9))) aNil))))) aNil)))) sNo sNil) (sFld n0 [0] 0 (eVar 0) (eArg bTuple (aCons (eVar 1) aNil)))))⟩
/-! Column.__eq__ -/
noncomputable def b2 : FnB := ⟨2, 2, fun cf n0 => (sRet (eAn (eIsi [(.non, false), (.bl, false), (.int, false), (.str, false), (.tup, false), (.lst, false), (.dct, false), (.own 0, true)] (eVar 1)) (eEq cf [(0, 2)] [.non, .bl, .int, .str, .tup, .lst, .dct, .own 0] (eFld [0] 0 (eVar 0)) (eFld [0] 0 (eVar 1)))))⟩
/-! Column.__len__ -/
noncomputable def b3 : FnB := ⟨1, 1, fun cf n0 => (sRet (eLen cf [(0, 3)] (eFld [0] 0 (eVar 0))))⟩
/-! Column.__getitem__ -/
noncomputable def b4 : FnB := ⟨2, 2, fun cf n0 => (sCons (sIf (tNo (tTru (eCall cf 3 0 (aCons (eVar 1) (aCons (eLit (.int 0)) (aCons (eBin oSub (eLen cf [(0, 3)] (eFld [0] 0 (eVar 0))) (eLit (.int 1))) aNil)))))) sNo sNil) (sRet (eIx cf [(0, 4)] (eFld [0] 0 (eVar 0)) (eVar 1))))⟩
/-! Column.__iter__ -/
noncomputable def b5 : FnB := ⟨1, 1, fun cf n0 => sNo⟩
/-! Column.rows -/
noncomputable def b6 : FnB := ⟨1, 1, fun cf n0 => (sRet (eArg bSum (aCons (eFld [0] 0 (eVar 0)) aNil)))⟩
/-! Column.prefixes -/
noncomputable def b7 : FnB := ⟨1, 2, fun cf n0 => (sRet (eLc (iRg1 (eBin oCat (eLen cf [(0, 3)] (eFld [0] 0 (eVar 0))) (eLit (.int 1)))) (gNm 1) [1] tYesP (eArg bSum (aCons (eSl (eFld [0] 0 (eVar 0)) pNo (pSo (eVar 1))) aNil))))⟩
/-! Column.between -/
noncomputable def b8 : FnB := ⟨3, 3, fun cf n0 => (sCons (sExp (eCall cf 3 12 (aCons (eVar 0) (aCons (eVar 1) (aCons (eVar 2) aNil))))) (sRet (eArg bSum (aCons (eSl (eFld [0] 0 (eVar 0)) (pSo (eVar 1)) (pSo (eVar 2))) aNil))))⟩
/-! Column.filled -/
noncomputable def b9 : FnB := ⟨1, 3, fun cf n0 => (sRet (eLc (iEnu (eFld [0] 0 (eVar 0))) (gTp [(gNm 1), (gNm 2)]) [1, 2] (tBl (eBin oGt (eVar 2) (eLit (.int 0)))) (eVar 1)))⟩
/-! Column.steps -/
noncomputable def b10 : FnB := ⟨1, 3, fun cf n0 => (sRet (eBin oCat (eLit (.int 1)) (eLen cf [(0, 3)] (eLc (iZip (eFld [0] 0 (eVar 0)) (eSl (eFld [0] 0 (eVar 0)) (pSo (eLit (.int 1))) pNo)) (gTp [(gNm 1), (gNm 2)]) [1, 2] (tBl (eNe cf [(0, 2)] [.non, .bl, .int, .str, .tup, .lst, .dct, .own 0] (eVar 1) (eVar 2))) (eVar 1)))))⟩
/-! Column.sorted_rows -/
noncomputable def b11 : FnB := ⟨1, 4, fun cf n0 => (sCons (sAsg (gNm 1) (eNew (eLst aNil))) (sCons (sFor (iEnu (eFld [0] 0 (eVar 0))) (gTp [(gNm 2), (gNm 3)]) (sExp (eLm (extL n0) (eVar 1) (eBin oRep (eLst (aCons (eVar 2) aNil)) (eVar 3))))) (sRet (eVar 1))))⟩
/-! check_range -/
noncomputable def b12 : FnB := ⟨3, 3, fun cf n0 => (sIf (tOr (tNo (tTru (eCall cf 3 0 (aCons (eVar 1) (aCons (eLit (.int 0)) (aCons (eBin oSub (eLen cf [(0, 3)] (eVar 0)) (eLit (.int 1))) aNil)))))) (tNo (tTru (eCall cf 3 0 (aCons (eVar 2) (aCons (eBin oCat (eVar 1) (eLit (.int 1))) (aCons (eLen cf [(0, 3)] (eVar 0)) aNil))))))) sNo sNil)⟩
/-! _law_number -/
noncomputable def b13 : FnB := ⟨2, 8, fun cf n0 => (sCons (sAsg (gNm 2) (eIf (tBl (eNe cf [(0, 2)] [.non, .bl, .int, .str, .tup, .lst, .dct, .own 0] (eVar 0) (eLst aNil))) (eSl (eVar 0) pNo (pSo (eLit (.int 63)))) (eLst (aCons (eLit (.int 5)) aNil)))) (sCons (sAsg (gNm 3) (eBin oCat (eIx cf [(0, 4)] (eVar 2) (eBin oMod (eArg bInt (aCons (eVar 1) aNil)) (eLen cf [(0, 3)] (eVar 2)))) (eBin oRep (eLit (.int 13)) (eBin oDiv (eVar 1) (eLen cf [(0, 3)] (eVar 2)))))) (sCons (sPar [4, 5] (aCons (eBin oMod (eArg bInt (aCons (eVar 3) aNil)) (eLit (.int 1000003))) (aCons (eBin oMod (eArg bInt (aCons (eBin oDiv (eVar 3) (eLit (.int 1000003))) aNil)) (eLit (.int 999983))) aNil))) (sCons (sAsg (gNm 6) (eBin oMod (eArg bInt (aCons (eArg bSum (aCons (eVar 2) aNil)) aNil)) (eLit (.int 65521)))) (sCons (sAsg (gNm 7) (eBin oMod (eArg bInt (aCons (eBin oCat (eBin oCat (eBin oRep (eBin oCat (eVar 4) (eBin oRep (eLit (.int 977)) (eVar 1))) (eLit (.int 48271))) (eBin oRep (eLit (.int 31)) (eVar 5))) (eVar 6)) aNil)) (eLit (.int 2147483647)))) (sRet (eBin oCat (eBin oRep (eBin oMod (eArg bInt (aCons (eBin oRep (eVar 7) (eBin oCat (eBin oCat (eVar 7) (eBin oRep (eLit (.int 31)) (eVar 1))) (eLit (.int 7)))) aNil)) (eLit (.int 2147483629))) (eLit (.int 65537))) (eVar 5))))))))⟩
/-! _law_take -/
noncomputable def b14 : FnB := ⟨2, 2, fun cf n0 => (sCons (sSetI (setL n0) (eVar 0) (eLit (.int 1)) (eBin oCat (eIx cf [(0, 4)] (eVar 0) (eLit (.int 1))) (eLit (.int 1)))) (sRet (eBin oMod (eArg bInt (aCons (eCall cf 2 13 (aCons (eIx cf [(0, 4)] (eVar 0) (eLit (.int 0))) (aCons (eArg bInt (aCons (eIx cf [(0, 4)] (eVar 0) (eLit (.int 1))) aNil)) aNil))) aNil)) (eVar 1))))⟩
/-! _law_pick -/
noncomputable def b15 : FnB := ⟨2, 2, fun cf n0 => (sRet (eIx cf [(0, 4)] (eVar 1) (eCall cf 2 14 (aCons (eVar 0) (aCons (eLen cf [(0, 3)] (eVar 1)) aNil)))))⟩
/-! _law_counts -/
noncomputable def b16 : FnB := ⟨2, 5, fun cf n0 => (sCons (sAsg (gNm 2) (eNew (eLst aNil))) (sCons (sFor (iRg1 (eBin oCat (eLit (.int 1)) (eCall cf 2 14 (aCons (eVar 0) (aCons (eVar 1) aNil))))) (gNm 3) (sCons (sAsg (gNm 4) (eIf (tBl (eEq cf [(0, 2)] [.non, .bl, .int, .str, .tup, .lst, .dct, .own 0] (eCall cf 2 14 (aCons (eVar 0) (aCons (eLit (.int 3)) aNil))) (eLit (.int 0)))) (eCall cf 2 14 (aCons (eVar 0) (aCons (eLit (.int 10)) aNil))) (eCall cf 2 14 (aCons (eVar 0) (aCons (eLit (.int 4)) aNil))))) (sExp (eLm (appL n0) (eVar 2) (eIf (tAn (tBl (eNe cf [(0, 2)] [.non, .bl, .int, .str, .tup, .lst, .dct, .own 0] (eVar 2) (eLst aNil))) (tBl (eEq cf [(0, 2)] [.non, .bl, .int, .str, .tup, .lst, .dct, .own 0] (eCall cf 2 14 (aCons (eVar 0) (aCons (eLit (.int 4)) aNil))) (eLit (.int 0))))) (eIx cf [(0, 4)] (eVar 2) (eUn oNeg (eLit (.int 1)))) (eVar 4)))))) (sRet (eVar 2))))⟩
/-! _law_given -/
noncomputable def b17 : FnB := ⟨2, 2, fun cf n0 => (sRet (eIf (tBl (eEq cf [(0, 2)] [.non, .bl, .int, .str, .tup, .lst, .dct, .own 0] (eCall cf 2 14 (aCons (eVar 0) (aCons (eLit (.int 2)) aNil))) (eLit (.int 0)))) (eArg bList (aCons (eVar 1) aNil)) (eArg bTuple (aCons (eVar 1) aNil))))⟩
/-! law -/
noncomputable def b18 : FnB := ⟨1, 12, fun cf n0 => (sCons (sAsg (gNm 1) (eNew (eLst (aCons (eVar 0) (aCons (eLit (.int 0)) aNil))))) (sCons (sFor (iRg1 (eLit (.int 5))) (gNm 2) (sCons (sAsg (gNm 3) (eCall cf 2 16 (aCons (eVar 1) (aCons (eLit (.int 12)) aNil)))) (sCons (sAsg (gTp [(gNm 4), (gNm 5)]) (eTup (aCons (eMake cf 2 0 1 (aCons (eCall cf 2 17 (aCons (eVar 1) (aCons (eVar 3) aNil))) aNil)) (aCons (eLen cf [(0, 3)] (eVar 3)) aNil)))) (sCons (sIf (tOr (tBl (eNe cf [(0, 2)] [.non, .bl, .int, .str, .tup, .lst, .dct, .own 0] (eFld [0] 0 (eVar 4)) (eArg bTuple (aCons (eVar 3) aNil)))) (tOr (tBl (eNe cf [(0, 2)] [.non, .bl, .int, .str, .tup, .lst, .dct, .own 0] (eLen cf [(0, 3)] (eVar 4)) (eVar 5))) (tBl (eNe cf [(0, 2)] [.non, .bl, .int, .str, .tup, .lst, .dct, .own 0] (eLc (iRg1 (eVar 5)) (gNm 7) [7] tYesP (eIx cf [(0, 4)] (eVar 4) (eVar 7))) (eVar 3))))) (sRet (eLit (.bl false))) sNil) (sCons (sAsg (gNm 6) (eLst aNil)) (sCons (sFor (iRg1 (eVar 5)) (gNm 7) (sAsg (gNm 6) (eBin oCat (eVar 6) (eBin oRep (eLst (aCons (eVar 7) aNil)) (eIx cf [(0, 4)] (eVar 3) (eVar 7)))))) (sCons (sIf (tOr (tBl (eNe cf [(0, 2)] [.non, .bl, .int, .str, .tup, .lst, .dct, .own 0] (eMeth cf 1 7 [(0, 11)] (eVar 4) aNil) (eVar 6))) (tBl (eNe cf [(0, 2)] [.non, .bl, .int, .str, .tup, .lst, .dct, .own 0] (eMeth cf 1 8 [(0, 6)] (eVar 4) aNil) (eLen cf [(0, 3)] (eVar 6))))) (sRet (eLit (.bl false))) sNil) (sCons (sIf (tBl (eNe cf [(0, 2)] [.non, .bl, .int, .str, .tup, .lst, .dct, .own 0] (eMeth cf 1 3 [(0, 7)] (eVar 4) aNil) (eLc (iRg1 (eBin oCat (eVar 5) (eLit (.int 1)))) (gNm 7) [7] tYesP (eLen cf [(0, 3)] (eLc (iSeq (eVar 6)) (gNm 11) [11] (tBl (eBin oLt (eVar 11) (eVar 7))) (eVar 11)))))) (sRet (eLit (.bl false))) sNil) (sCons (sIf (tBl (eNe cf [(0, 2)] [.non, .bl, .int, .str, .tup, .lst, .dct, .own 0] (eMeth cf 1 4 [(0, 9)] (eVar 4) aNil) (eArg bSort (aCons (eArg bDict (aCons (eLc (iSeq (eVar 6)) (gNm 11) [11] tYesP (eTup (aCons (eVar 11) (aCons (eLit (.int 1)) aNil)))) aNil)) aNil)))) (sRet (eLit (.bl false))) sNil) (sCons (sAsg (gNm 8) (eCall cf 2 14 (aCons (eVar 1) (aCons (eVar 5) aNil)))) (sCons (sAsg (gNm 9) (eBin oCat (eBin oCat (eVar 8) (eLit (.int 1))) (eCall cf 2 14 (aCons (eVar 1) (aCons (eBin oSub (eVar 5) (eVar 8)) aNil))))) (sCons (sIf (tBl (eNe cf [(0, 2)] [.non, .bl, .int, .str, .tup, .lst, .dct, .own 0] (eMeth cf 3 5 [(0, 8)] (eVar 4) (aCons (eVar 8) (aCons (eVar 9) aNil))) (eLen cf [(0, 3)] (eLc (iSeq (eVar 6)) (gNm 11) [11] (tBl (eCh oLe oLt (eVar 8) (eVar 11) (eVar 9))) (eVar 11))))) (sRet (eLit (.bl false))) sNil) (sCons (sIf (tBl (eNe cf [(0, 2)] [.non, .bl, .int, .str, .tup, .lst, .dct, .own 0] (eMeth cf 1 6 [(0, 10)] (eVar 4) aNil) (eLen cf [(0, 3)] (eLc (iRg1 (eVar 5)) (gNm 7) [7] (tOr (tBl (eEq cf [(0, 2)] [.non, .bl, .int, .str, .tup, .lst, .dct, .own 0] (eVar 7) (eLit (.int 0)))) (tBl (eNe cf [(0, 2)] [.non, .bl, .int, .str, .tup, .lst, .dct, .own 0] (eIx cf [(0, 4)] (eVar 3) (eVar 7)) (eIx cf [(0, 4)] (eVar 3) (eBin oSub (eVar 7) (eLit (.int 1))))))) (eVar 7))))) (sRet (eLit (.bl false))) sNil) (sCons (sAsg (gNm 10) (eCall cf 2 15 (aCons (eVar 1) (aCons (eLst (aCons (eVar 3) (aCons (eRev (eVar 3)) (aCons (eOr (eSl (eVar 3) pNo (pSo (eUn oNeg (eLit (.int 1))))) (eLst (aCons (eLit (.int 5)) aNil))) (aCons (eIf (tBl (eBin oLt (eVar 5) (eLit (.int 12)))) (eBin oCat (eVar 3) (eLst (aCons (eLit (.int 0)) aNil))) (eVar 3)) (aCons (eArg bSort (aCons (eVar 3) aNil)) aNil)))))) aNil)))) (sIf (tOr (tBl (eNe cf [(0, 2)] [.non, .bl, .int, .str, .tup, .lst, .dct, .own 0] (eEq cf [(0, 2)] [.non, .bl, .int, .str, .tup, .lst, .dct, .own 0] (eVar 4) (eMake cf 2 0 1 (aCons (eVar 10) aNil))) (eEq cf [(0, 2)] [.non, .bl, .int, .str, .tup, .lst, .dct, .own 0] (eVar 3) (eVar 10)))) (tBl (eEq cf [(0, 2)] [.non, .bl, .int, .str, .tup, .lst, .dct, .own 0] (eNe cf [(0, 2)] [.non, .bl, .int, .str, .tup, .lst, .dct, .own 0] (eVar 4) (eMake cf 2 0 1 (aCons (eVar 10) aNil))) (eEq cf [(0, 2)] [.non, .bl, .int, .str, .tup, .lst, .dct, .own 0] (eVar 3) (eVar 10))))) (sRet (eLit (.bl false))) sNil))))))))))))))) (sRet (eLit (.bl true)))))⟩
noncomputable def TT : Nat → Option FnB
  | 0 => some b0
  | 1 => some b1
  | 2 => some b2
  | 3 => some b3
  | 4 => some b4
  | 5 => some b5
  | 6 => some b6
  | 7 => some b7
  | 8 => some b8
  | 9 => some b9
  | 10 => some b10
  | 11 => some b11
  | 12 => some b12
  | 13 => some b13
  | 14 => some b14
  | 15 => some b15
  | 16 => some b16
  | 17 => some b17
  | 18 => some b18
  | _ => none
end PX.K01
set_option Elab.async false
set_option linter.all false
set_option maxRecDepth 100000
set_option maxHeartbeats 4000000
namespace PX.K01
open PySem PySem.Spec PyProof.Rows L2 He PX
def top (i : Nat) : Stmt := PySem.Challenge.pw_bucketsums_k01_whole_columns.main.body.getD i (.Pass ⟨0, 0, 0, 0⟩)
def fs : List (Str × Option Str) := [("is_number", none), ("Column", some "__init__"), ("Column", some "__eq__"), ("Column", some "__len__"), ("Column", some "__getitem__"), ("Column", some "__iter__"), ("Column", some "rows"), ("Column", some "prefixes"), ("Column", some "between"), ("Column", some "filled"), ("Column", some "steps"), ("Column", some "sorted_rows"), ("check_range", none), ("_law_number", none), ("_law_take", none), ("_law_pick", none), ("_law_counts", none), ("_law_given", none), ("law", none)]
def cs : List Str := ["Column"]
def nms : List Str := ["counts", "extend", "append", "prefixes", "filled", "between", "steps", "sorted_rows", "rows", "__init__", "__eq__", "__len__", "__getitem__", "__iter__"]
abbrev GG : PySem.W.Frag → Gam := gam fs cs nms
def fb : List Ck := [cCls GG [0],
  cFree "isinstance",
  cFree "int",
  cKit GG [(.non, false), (.bl, true), (.int, true), (.str, false), (.tup, false), (.lst, false), (.dct, false), (.own 0, false)] (fun K => (.type "int")),
  cFree "bool",
  cKit GG [(.non, false), (.bl, true), (.int, false), (.str, false), (.tup, false), (.lst, false), (.dct, false), (.own 0, false)] (fun K => (.type "bool")),
  cFree "list",
  cFree "tuple",
  cKitT GG [(.non, false), (.bl, false), (.int, false), (.str, false), (.tup, true), (.lst, true), (.dct, false), (.own 0, false)] (fun K => [(.type "list"), (.type "tuple")]),
  cSpc GG [(0, 3)] "__len__",
  cFree "len",
  cInt "MOST_VALUES" (12),
  cGlo "is_number",
  cKeep GG 0,
  cInt "MOST_COUNT" (9),
  cFree "all",
  cFld GG 0 [0],
  cGlo "Column",
  cKit GG [(.non, false), (.bl, false), (.int, false), (.str, false), (.tup, false), (.lst, false), (.dct, false), (.own 0, true)] (fun K => (.ref ((GG K).ca 0))),
  cSpc GG [(0, 2)] "__eq__",
  cNe GG [(0, 2)],
  cNf GG [(0, 2)] [.non, .bl, .int, .str, .tup, .lst, .dct, .own 0],
  cSpc GG [(0, 4)] "__getitem__",
  cFree "sum",
  cFree "range",
  cGlo "check_range",
  cKeep GG 12,
  cFree "enumerate",
  cFree "zip",
  cGlo "_law_number",
  cKeep GG 13,
  cGlo "_law_take",
  cKeep GG 14,
  cGlo "_law_counts",
  cKeep GG 16,
  cGlo "_law_given",
  cKeep GG 17,
  cMk GG 0 1,
  cMet GG 7 [(0, 11)],
  cMet GG 8 [(0, 6)],
  cMet GG 3 [(0, 7)],
  cMet GG 4 [(0, 9)],
  cFree "dict",
  cFree "sorted",
  cMet GG 5 [(0, 8)],
  cMet GG 6 [(0, 10)],
  cGlo "_law_pick",
  cKeep GG 15,
  cGlo "law",
  cKeep GG 18]
def d0 : DefD := ⟨("is_number", none), "is_number", "is_number", defArgs (top 8), defBody (top 8), defScope (top 8), [], []⟩
def d1 : DefD := ⟨("Column", some "__init__"), "__init__", "Column.__init__", defArgs (inClass (top 9) 0), defBody (inClass (top 9) 0), defScope (inClass (top 9) 0), [], []⟩
def d2 : DefD := ⟨("Column", some "__eq__"), "__eq__", "Column.__eq__", defArgs (inClass (top 9) 1), defBody (inClass (top 9) 1), defScope (inClass (top 9) 1), [], []⟩
def d3 : DefD := ⟨("Column", some "__len__"), "__len__", "Column.__len__", defArgs (inClass (top 9) 2), defBody (inClass (top 9) 2), defScope (inClass (top 9) 2), [], []⟩
def d4 : DefD := ⟨("Column", some "__getitem__"), "__getitem__", "Column.__getitem__", defArgs (inClass (top 9) 3), defBody (inClass (top 9) 3), defScope (inClass (top 9) 3), [], []⟩
def d5 : DefD := ⟨("Column", some "__iter__"), "__iter__", "Column.__iter__", defArgs (inClass (top 9) 4), defBody (inClass (top 9) 4), defScope (inClass (top 9) 4), [], []⟩
def d6 : DefD := ⟨("Column", some "rows"), "rows", "Column.rows", defArgs (inClass (top 9) 5), defBody (inClass (top 9) 5), defScope (inClass (top 9) 5), [], []⟩
def d7 : DefD := ⟨("Column", some "prefixes"), "prefixes", "Column.prefixes", defArgs (inClass (top 9) 6), defBody (inClass (top 9) 6), defScope (inClass (top 9) 6), [], []⟩
def d8 : DefD := ⟨("Column", some "between"), "between", "Column.between", defArgs (inClass (top 9) 7), defBody (inClass (top 9) 7), defScope (inClass (top 9) 7), [], []⟩
def d9 : DefD := ⟨("Column", some "filled"), "filled", "Column.filled", defArgs (inClass (top 9) 8), defBody (inClass (top 9) 8), defScope (inClass (top 9) 8), [], []⟩
def d10 : DefD := ⟨("Column", some "steps"), "steps", "Column.steps", defArgs (inClass (top 9) 9), defBody (inClass (top 9) 9), defScope (inClass (top 9) 9), [], []⟩
def d11 : DefD := ⟨("Column", some "sorted_rows"), "sorted_rows", "Column.sorted_rows", defArgs (inClass (top 9) 10), defBody (inClass (top 9) 10), defScope (inClass (top 9) 10), [], []⟩
def d12 : DefD := ⟨("check_range", none), "check_range", "check_range", defArgs (top 10), defBody (top 10), defScope (top 10), [], []⟩
def d13 : DefD := ⟨("_law_number", none), "_law_number", "_law_number", defArgs (top 12), defBody (top 12), defScope (top 12), [], []⟩
def d14 : DefD := ⟨("_law_take", none), "_law_take", "_law_take", defArgs (top 13), defBody (top 13), defScope (top 13), [], []⟩
def d15 : DefD := ⟨("_law_pick", none), "_law_pick", "_law_pick", defArgs (top 14), defBody (top 14), defScope (top 14), [], []⟩
def d16 : DefD := ⟨("_law_counts", none), "_law_counts", "_law_counts", defArgs (top 15), defBody (top 15), defScope (top 15), [], []⟩
def d17 : DefD := ⟨("_law_given", none), "_law_given", "_law_given", defArgs (top 16), defBody (top 16), defScope (top 16), [], []⟩
def d18 : DefD := ⟨("law", none), "law", "law", defArgs (top 17), defBody (top 17), defScope (top 17), [], []⟩
def fn : List DefD := [d0, d1, d2, d3, d4, d5, d6, d7, d8, d9, d10, d11, d12, d13, d14, d15, d16, d17, d18]
structure Ctx (K : PySem.W.Frag) (base : Heap) (mg : Str → Option Value) : Prop where
  inn : K.In base
  ns : base.Ns mainGlobals mg
  says : SaysP fb fn K
theorem inj {K : PySem.W.Frag} (i : Nat) (hi : i < nms.length) : Inj (GG K) i := inj_nm i hi (by decide +kernel) (by decide +kernel)
section
variable {P : Program} {w : World} {K : PySem.W.Frag} {mg : Str → Option Value} {base : Heap}
theorem m_clsall (C : Ctx K base mg) : cCls GG [0] K = true := C.says.fact 0 rfl
theorem m_b_isinstance (C : Ctx K base mg) : mg "isinstance" = none := cFree_ok C.inn C.ns (C.says.fact 1 rfl)
theorem m_b_int (C : Ctx K base mg) : mg "int" = none := cFree_ok C.inn C.ns (C.says.fact 2 rfl)
theorem m_kit_intty (C : Ctx K base mg) : ∀ t b, (t, b) ∈ ([(.non, false), (.bl, true), (.int, true), (.str, false), (.tup, false), (.lst, false), (.dct, false), (.own 0, false)] : List (TyN × Bool)) → PySem.W.kitOne (GG K).K (t.val (GG K)) (.type "int") = some b ∧ ∀ c, t = .own c → ClsI (GG K) c := cKit_ok (G := GG) (cu := fun K => (.type "int")) rfl (C.says.fact 3 rfl) (m_clsall C) (by decide)
theorem m_b_bool (C : Ctx K base mg) : mg "bool" = none := cFree_ok C.inn C.ns (C.says.fact 4 rfl)
theorem m_kit_boolty (C : Ctx K base mg) : ∀ t b, (t, b) ∈ ([(.non, false), (.bl, true), (.int, false), (.str, false), (.tup, false), (.lst, false), (.dct, false), (.own 0, false)] : List (TyN × Bool)) → PySem.W.kitOne (GG K).K (t.val (GG K)) (.type "bool") = some b ∧ ∀ c, t = .own c → ClsI (GG K) c := cKit_ok (G := GG) (cu := fun K => (.type "bool")) rfl (C.says.fact 5 rfl) (m_clsall C) (by decide)
theorem m_b_list (C : Ctx K base mg) : mg "list" = none := cFree_ok C.inn C.ns (C.says.fact 6 rfl)
theorem m_b_tuple (C : Ctx K base mg) : mg "tuple" = none := cFree_ok C.inn C.ns (C.says.fact 7 rfl)
theorem m_kitT_list_tuple (C : Ctx K base mg) : ∀ t b, (t, b) ∈ ([(.non, false), (.bl, false), (.int, false), (.str, false), (.tup, true), (.lst, true), (.dct, false), (.own 0, false)] : List (TyN × Bool)) → PySem.W.kitAny (GG K).K (t.val (GG K)) [(.type "list"), (.type "tuple")] = some b ∧ ∀ c, t = .own c → ClsI (GG K) c := cKitT_ok (G := GG) (cus := fun K => [(.type "list"), (.type "tuple")]) rfl (C.says.fact 8 rfl) (m_clsall C) (by decide)
theorem m_spc___len__ (C : Ctx K base mg) : ∀ p ∈ ([(0, 3)] : List (Nat × Nat)), Spc (GG K).K ((GG K).ca p.1) ((GG K).fa p.2) "__len__" ∧ PySem.W.fnIn (GG K).K ((GG K).fa p.2) = true := cSpc_ok rfl (C.says.fact 9 rfl)
theorem m_b_len (C : Ctx K base mg) : mg "len" = none := cFree_ok C.inn C.ns (C.says.fact 10 rfl)
theorem m_i_MOST_VALUES (C : Ctx K base mg) : ∃ u, mg "MOST_VALUES" = some u ∧ RelV (.int (12)) u := cInt_ok C.inn C.ns (C.says.fact 11 rfl)
theorem m_f_is_number (C : Ctx K base mg) : mg "is_number" = some (.ref ((GG K).fa 0)) := cGlo_ok C.inn C.ns (C.says.fact 12 rfl)
theorem m_k_is_number (C : Ctx K base mg) : PySem.W.keepIn K (.ref ((GG K).fa 0)) = true := C.says.fact 13 rfl
theorem m_i_MOST_COUNT (C : Ctx K base mg) : ∃ u, mg "MOST_COUNT" = some u ∧ RelV (.int (9)) u := cInt_ok C.inn C.ns (C.says.fact 14 rfl)
theorem m_b_all (C : Ctx K base mg) : mg "all" = none := cFree_ok C.inn C.ns (C.says.fact 15 rfl)
theorem m_fld_counts (C : Ctx K base mg) : ∀ c ∈ ([0] : List Nat), Cls (GG K).K ((GG K).ca c) ∧ NoAttr (GG K).K ((GG K).ca c) ((GG K).nm 0) := cFld_ok rfl (C.says.fact 16 rfl)
theorem m_c_Column (C : Ctx K base mg) : mg "Column" = some (.ref ((GG K).ca 0)) := cGlo_ok C.inn C.ns (C.says.fact 17 rfl)
theorem m_kit_0own (C : Ctx K base mg) : ∀ t b, (t, b) ∈ ([(.non, false), (.bl, false), (.int, false), (.str, false), (.tup, false), (.lst, false), (.dct, false), (.own 0, true)] : List (TyN × Bool)) → PySem.W.kitOne (GG K).K (t.val (GG K)) (.ref ((GG K).ca 0)) = some b ∧ ∀ c, t = .own c → ClsI (GG K) c := cKit_ok (G := GG) (cu := fun K => (.ref ((GG K).ca 0))) rfl (C.says.fact 18 rfl) (m_clsall C) (by decide)
theorem m_eq_spc (C : Ctx K base mg) : cSpc GG [(0, 2)] "__eq__" K = true := C.says.fact 19 rfl
theorem m_eq_ne (C : Ctx K base mg) : cNe GG [(0, 2)] K = true := C.says.fact 20 rfl
theorem m_eq_nf (C : Ctx K base mg) : cNf GG [(0, 2)] [.non, .bl, .int, .str, .tup, .lst, .dct, .own 0] K = true := C.says.fact 21 rfl
theorem m_spc___getitem__ (C : Ctx K base mg) : ∀ p ∈ ([(0, 4)] : List (Nat × Nat)), Spc (GG K).K ((GG K).ca p.1) ((GG K).fa p.2) "__getitem__" ∧ PySem.W.fnIn (GG K).K ((GG K).fa p.2) = true := cSpc_ok rfl (C.says.fact 22 rfl)
theorem m_b_sum (C : Ctx K base mg) : mg "sum" = none := cFree_ok C.inn C.ns (C.says.fact 23 rfl)
theorem m_b_range (C : Ctx K base mg) : mg "range" = none := cFree_ok C.inn C.ns (C.says.fact 24 rfl)
theorem m_f_check_range (C : Ctx K base mg) : mg "check_range" = some (.ref ((GG K).fa 12)) := cGlo_ok C.inn C.ns (C.says.fact 25 rfl)
theorem m_k_check_range (C : Ctx K base mg) : PySem.W.keepIn K (.ref ((GG K).fa 12)) = true := C.says.fact 26 rfl
theorem m_b_enumerate (C : Ctx K base mg) : mg "enumerate" = none := cFree_ok C.inn C.ns (C.says.fact 27 rfl)
theorem m_b_zip (C : Ctx K base mg) : mg "zip" = none := cFree_ok C.inn C.ns (C.says.fact 28 rfl)
theorem m_f__law_number (C : Ctx K base mg) : mg "_law_number" = some (.ref ((GG K).fa 13)) := cGlo_ok C.inn C.ns (C.says.fact 29 rfl)
theorem m_k__law_number (C : Ctx K base mg) : PySem.W.keepIn K (.ref ((GG K).fa 13)) = true := C.says.fact 30 rfl
theorem m_f__law_take (C : Ctx K base mg) : mg "_law_take" = some (.ref ((GG K).fa 14)) := cGlo_ok C.inn C.ns (C.says.fact 31 rfl)
theorem m_k__law_take (C : Ctx K base mg) : PySem.W.keepIn K (.ref ((GG K).fa 14)) = true := C.says.fact 32 rfl
theorem m_f__law_counts (C : Ctx K base mg) : mg "_law_counts" = some (.ref ((GG K).fa 16)) := cGlo_ok C.inn C.ns (C.says.fact 33 rfl)
theorem m_k__law_counts (C : Ctx K base mg) : PySem.W.keepIn K (.ref ((GG K).fa 16)) = true := C.says.fact 34 rfl
theorem m_f__law_given (C : Ctx K base mg) : mg "_law_given" = some (.ref ((GG K).fa 17)) := cGlo_ok C.inn C.ns (C.says.fact 35 rfl)
theorem m_k__law_given (C : Ctx K base mg) : PySem.W.keepIn K (.ref ((GG K).fa 17)) = true := C.says.fact 36 rfl
theorem m_mk_Column (C : Ctx K base mg) : Mk (GG K).K ((GG K).ca 0) ((GG K).fa 1) := cMk_ok rfl (C.says.fact 37 rfl)
theorem m_met_sorted_rows (C : Ctx K base mg) : ∀ p ∈ ([(0, 11)] : List (Nat × Nat)), Cls (GG K).K ((GG K).ca p.1) ∧ Meth (GG K).K ((GG K).ca p.1) ((GG K).nm 7) ((GG K).fa p.2) := cMet_ok rfl (C.says.fact 38 rfl)
theorem m_met_rows (C : Ctx K base mg) : ∀ p ∈ ([(0, 6)] : List (Nat × Nat)), Cls (GG K).K ((GG K).ca p.1) ∧ Meth (GG K).K ((GG K).ca p.1) ((GG K).nm 8) ((GG K).fa p.2) := cMet_ok rfl (C.says.fact 39 rfl)
theorem m_met_prefixes (C : Ctx K base mg) : ∀ p ∈ ([(0, 7)] : List (Nat × Nat)), Cls (GG K).K ((GG K).ca p.1) ∧ Meth (GG K).K ((GG K).ca p.1) ((GG K).nm 3) ((GG K).fa p.2) := cMet_ok rfl (C.says.fact 40 rfl)
theorem m_met_filled (C : Ctx K base mg) : ∀ p ∈ ([(0, 9)] : List (Nat × Nat)), Cls (GG K).K ((GG K).ca p.1) ∧ Meth (GG K).K ((GG K).ca p.1) ((GG K).nm 4) ((GG K).fa p.2) := cMet_ok rfl (C.says.fact 41 rfl)
theorem m_b_dict (C : Ctx K base mg) : mg "dict" = none := cFree_ok C.inn C.ns (C.says.fact 42 rfl)
theorem m_b_sorted (C : Ctx K base mg) : mg "sorted" = none := cFree_ok C.inn C.ns (C.says.fact 43 rfl)
theorem m_met_between (C : Ctx K base mg) : ∀ p ∈ ([(0, 8)] : List (Nat × Nat)), Cls (GG K).K ((GG K).ca p.1) ∧ Meth (GG K).K ((GG K).ca p.1) ((GG K).nm 5) ((GG K).fa p.2) := cMet_ok rfl (C.says.fact 44 rfl)
theorem m_met_steps (C : Ctx K base mg) : ∀ p ∈ ([(0, 10)] : List (Nat × Nat)), Cls (GG K).K ((GG K).ca p.1) ∧ Meth (GG K).K ((GG K).ca p.1) ((GG K).nm 6) ((GG K).fa p.2) := cMet_ok rfl (C.says.fact 45 rfl)
theorem m_f__law_pick (C : Ctx K base mg) : mg "_law_pick" = some (.ref ((GG K).fa 15)) := cGlo_ok C.inn C.ns (C.says.fact 46 rfl)
theorem m_k__law_pick (C : Ctx K base mg) : PySem.W.keepIn K (.ref ((GG K).fa 15)) = true := C.says.fact 47 rfl
theorem m_f_law (C : Ctx K base mg) : mg "law" = some (.ref ((GG K).fa 18)) := cGlo_ok C.inn C.ns (C.says.fact 48 rfl)
theorem m_k_law (C : Ctx K base mg) : PySem.W.keepIn K (.ref ((GG K).fa 18)) = true := C.says.fact 49 rfl
theorem m_eqt (C : Ctx K base mg) : EqT (GG K) [(0, 2)] [.non, .bl, .int, .str, .tup, .lst, .dct, .own 0] := cEq_ok rfl (m_eq_spc C) (m_eq_ne C) (m_eq_nf C) (m_clsall C) (by decide)
abbrev N0 : List Str := ["thing", "least", "most"]
theorem sc0 : FnScope N0 ["thing", "least", "most"] (defScope (top 8)) := ⟨rfl, rfl, rfl, by decide +kernel, rfl, by decide +kernel, by decide +kernel⟩
theorem dv0 {n : Nat} {cf : CF} (C : Ctx K base mg) (ih : ∀ f np, FnR P w K mg base L2.CX0 (2 * n) ((GG K).fa f) (spF (GG K) cf f np)) (cdv : Value) (A : Around) (outer : List PySem.Env) (s : Shared) (H : Hp) (E : XK) (n0 : Nat) (hr : Room (2 * n + 1) (A.deeper (envOfC "is_number" (defScope (top 8)) s.heap.objs.size ((GG K).fa 0) cdv))) :
    PSs (cxOf L2.CX0 P w K mg base N0 "is_number" (defScope (top 8)) ((GG K).fa 0) cdv A outer s H E).nox (defBody (top 8)) (rdS (GG K) n0 (sRet (eAn (eIsi [(.non, false), (.bl, true), (.int, true), (.str, false), (.tup, false), (.lst, false), (.dct, false), (.own 0, false)] (eVar 0)) (eAn (eNot (eIsi [(.non, false), (.bl, true), (.int, false), (.str, false), (.tup, false), (.lst, false), (.dct, false), (.own 0, false)] (eVar 0))) (eCh oLe oLe (eVar 1) (eVar 0) (eVar 2)))))) := by
  have T : Tb (cxOf L2.CX0 P w K mg base N0 "is_number" (defScope (top 8)) ((GG K).fa 0) cdv A outer s H E).nox (GG K) cf (2 * n) := ⟨rfl, ih, hr, rfl⟩
  have nd := sc0.nd
  exact (ss_one (ss_ret (se_and rfl (se_isi1 (cv := (.ty "int")) (cu := (.type "int")) rfl rfl (m_b_isinstance C) (by rfl) (.ty _) (m_kit_intty C) (se_var (pv 0)) (pe_bltn (v := .ty "int") (u := .type "int") rfl (m_b_int C) (by rfl) rfl (by decide))) (se_and rfl (se_not rfl (se_isi1 (cv := (.ty "bool")) (cu := (.type "bool")) rfl rfl (m_b_isinstance C) (by rfl) (.ty _) (m_kit_boolty C) (se_var (pv 0)) (pe_bltn (v := .ty "bool") (u := .type "bool") rfl (m_b_bool C) (by rfl) rfl (by decide)))) (se_one (se_ch op_le ok_le op_le ok_le (se_var (pv 1)) (se_var (pv 0)) (se_var (pv 2)) (pe_chain op_le op_le (toV (se_var (pv 1))) (toV (se_var (pv 0))) (toV (se_var (pv 2))))))))))
theorem ok0 {n : Nat} (C : Ctx K base mg) (ih : All P w K mg base (GG K) TT n) : ∀ np, FnR P w K mg base L2.CX0 (2 * (n + 1)) ((GG K).fa 0) (spF (GG K) (callF TT (n + 1)) 0 np) := by
  obtain ⟨fd, F⟩ := C.says.def_ 0 (d := d0) rfl
  exact def_ok (b := b0) rfl F sc0 rfl rfl (FunD_binds F fun _ _ _ _ _ _ us hl => match us, hl with | [_, _, _], _ => rfl) fun cdv A outer s H E n0 hr => dv0 C ih cdv A outer s H E n0 hr
abbrev N1 : List Str := ["self", "counts", "count"]
theorem sc1 : FnScope N1 ["self", "counts"] (defScope (inClass (top 9) 0)) := ⟨rfl, rfl, rfl, by decide +kernel, rfl, by decide +kernel, by decide +kernel⟩
theorem dv1 {n : Nat} {cf : CF} (C : Ctx K base mg) (ih : ∀ f np, FnR P w K mg base L2.CX0 (2 * n) ((GG K).fa f) (spF (GG K) cf f np)) (cdv : Value) (A : Around) (outer : List PySem.Env) (s : Shared) (H : Hp) (E : XK) (n0 : Nat) (hr : Room (2 * n + 1) (A.deeper (envOfC "Column.__init__" (defScope (inClass (top 9) 0)) s.heap.objs.size ((GG K).fa 1) cdv))) :
    PSs (cxOf L2.CX0 P w K mg base N1 "Column.__init__" (defScope (inClass (top 9) 0)) ((GG K).fa 1) cdv A outer s H E).nox (defBody (inClass (top 9) 0)) (rdS (GG K) n0 (sCons (sIf (tOr (tNo (tTru (eIsi [(.non, false), (.bl, false), (.int, false), (.str, false), (.tup, true), (.lst, true), (.dct, false), (.own 0, false)] (eVar 1)))) (tNo (tBl (eCh oLe oLe (eLit (.int 1)) (eLen cf [(0, 3)] (eVar 1)) (eLit (.int (12))))))) sNo sNil) (sCons (sIf (tNo (tTru (eArg bAll (aCons (eLc (iSeq (eVar 1)) (gNm 2) [2] tYesP (eCall cf 3 0 (aCons (eVar 2) (aCons (eLit (.int 0)) (aCons (eLit (.int (9))) aNil))))) aNil)))) sNo sNil) (sFld n0 [0] 0 (eVar 0) (eArg bTuple (aCons (eVar 1) aNil)))))) := by
  have T : Tb (cxOf L2.CX0 P w K mg base N1 "Column.__init__" (defScope (inClass (top 9) 0)) ((GG K).fa 1) cdv A outer s H E).nox (GG K) cf (2 * n) := ⟨rfl, ih, hr, rfl⟩
  have nd := sc1.nd
  exact (ss_cons (ss_if (PW.pt (sw_or (st_no (st_tru rfl (se_isiT (cvs := [(.ty "list"), (.ty "tuple")]) (cus := [(.type "list"), (.type "tuple")]) rfl rfl (m_b_isinstance C) (by rfl) (.cons (.ty _) (.cons (.ty _) .nil)) (m_kitT_list_tuple C) (se_var (pv 1)) (pa_cons (pe_bltn (v := .ty "list") (u := .type "list") rfl (m_b_list C) (by rfl) rfl (by decide)) (pa_cons (pe_bltn (v := .ty "tuple") (u := .type "tuple") rfl (m_b_tuple C) (by rfl) rfl (by decide)) pa_nil)) (fun _ _ _ h => h) (by decide)))) (sw_one (st_no (st_ch op_le ok_le op_le ok_le (se_lit pe_int fun _ _ => rfl) (se_len T rfl (m_b_len C) (fun p hp => ((m_spc___len__ C) p hp).1) (se_var (pv 1))) (se_lit (C8.pe_gc rfl (m_i_MOST_VALUES C)) fun _ _ => rfl)))))) (ss_one ss_no) ss_nil)
 (ss_cons (ss_if (st_no (st_tru rfl (se_argB (pe_callB (cr_all rfl) rfl (m_b_all C) (by rfl) (sa_cons (se_lc (own := [("count", 2)]) rfl nd (si_seq rfl (se_var (pv 1))) (blk_ok (own := [("count", 2)]) (by kernel_rfl)) (tb_nm 2 (by decide)) (fun _ _ _ _ _ => (pg_name (i := 2) nd rfl (by first | exact Or.inl rfl | exact Or.inr rfl))) (fun _ _ _ _ _ => sts_nil) (fun _ _ _ _ _ => (sx_call (T.blk _ _ _ _ _) rfl (m_f_is_number C) (m_k_is_number C) (sa_cons (se_var (pv 2)) (sa_cons (se_lit pe_int fun _ _ => rfl) (sa_cons (se_lit (C8.pe_gc rfl (m_i_MOST_COUNT C)) fun _ _ => rfl) sa_nil)))))) sa_nil)) ok_all))) (ss_one ss_no) ss_nil)
 (ss_one (ss_fld (f := 0) rfl (inj 0 (by decide)) (m_fld_counts C) (se_var (pv 0)) (se_argB (pe_callTy call_tuple_of rfl (m_b_tuple C) (by rfl) (sa_cons (se_var (pv 1)) sa_nil)) ok_tuple)))))
theorem ok1 {n : Nat} (C : Ctx K base mg) (ih : All P w K mg base (GG K) TT n) : ∀ np, FnR P w K mg base L2.CX0 (2 * (n + 1)) ((GG K).fa 1) (spF (GG K) (callF TT (n + 1)) 1 np) := by
  obtain ⟨fd, F⟩ := C.says.def_ 1 (d := d1) rfl
  exact def_ok (b := b1) rfl F sc1 rfl rfl (FunD_binds F fun _ _ _ _ _ _ us hl => match us, hl with | [_, _], _ => rfl) fun cdv A outer s H E n0 hr => dv1 C ih cdv A outer s H E n0 hr
abbrev N2 : List Str := ["self", "other"]
theorem sc2 : FnScope N2 ["self", "other"] (defScope (inClass (top 9) 1)) := ⟨rfl, rfl, rfl, by decide +kernel, rfl, by decide +kernel, by decide +kernel⟩
theorem dv2 {n : Nat} {cf : CF} (C : Ctx K base mg) (ih : ∀ f np, FnR P w K mg base L2.CX0 (2 * n) ((GG K).fa f) (spF (GG K) cf f np)) (cdv : Value) (A : Around) (outer : List PySem.Env) (s : Shared) (H : Hp) (E : XK) (n0 : Nat) (hr : Room (2 * n + 1) (A.deeper (envOfC "Column.__eq__" (defScope (inClass (top 9) 1)) s.heap.objs.size ((GG K).fa 2) cdv))) :
    PSs (cxOf L2.CX0 P w K mg base N2 "Column.__eq__" (defScope (inClass (top 9) 1)) ((GG K).fa 2) cdv A outer s H E).nox (defBody (inClass (top 9) 1)) (rdS (GG K) n0 (sRet (eAn (eIsi [(.non, false), (.bl, false), (.int, false), (.str, false), (.tup, false), (.lst, false), (.dct, false), (.own 0, true)] (eVar 1)) (eEq cf [(0, 2)] [.non, .bl, .int, .str, .tup, .lst, .dct, .own 0] (eFld [0] 0 (eVar 0)) (eFld [0] 0 (eVar 1)))))) := by
  have T : Tb (cxOf L2.CX0 P w K mg base N2 "Column.__eq__" (defScope (inClass (top 9) 1)) ((GG K).fa 2) cdv A outer s H E).nox (GG K) cf (2 * n) := ⟨rfl, ih, hr, rfl⟩
  have nd := sc2.nd
  exact (ss_one (ss_ret (se_and rfl (se_isi1 (cv := (.ref ((GG K).ca 0))) (cu := (.ref ((GG K).ca 0))) rfl rfl (m_b_isinstance C) (by rfl) (.own _) (m_kit_0own C) (se_var (pv 1)) (pe_glob (v := .ref ((GG K).ca 0)) rfl (m_c_Column C) rfl)) (se_one (se_eq T (m_eqt C) (se_fld (f := 0) rfl (inj 0 (by decide)) (m_fld_counts C) (se_var (pv 0))) (se_fld (f := 0) rfl (inj 0 (by decide)) (m_fld_counts C) (se_var (pv 1))) (nomark _))))))
theorem ok2 {n : Nat} (C : Ctx K base mg) (ih : All P w K mg base (GG K) TT n) : ∀ np, FnR P w K mg base L2.CX0 (2 * (n + 1)) ((GG K).fa 2) (spF (GG K) (callF TT (n + 1)) 2 np) := by
  obtain ⟨fd, F⟩ := C.says.def_ 2 (d := d2) rfl
  exact def_ok (b := b2) rfl F sc2 rfl rfl (FunD_binds F fun _ _ _ _ _ _ us hl => match us, hl with | [_, _], _ => rfl) fun cdv A outer s H E n0 hr => dv2 C ih cdv A outer s H E n0 hr
abbrev N3 : List Str := ["self"]
theorem sc3 : FnScope N3 ["self"] (defScope (inClass (top 9) 2)) := ⟨rfl, rfl, rfl, by decide +kernel, rfl, by decide +kernel, by decide +kernel⟩
theorem dv3 {n : Nat} {cf : CF} (C : Ctx K base mg) (ih : ∀ f np, FnR P w K mg base L2.CX0 (2 * n) ((GG K).fa f) (spF (GG K) cf f np)) (cdv : Value) (A : Around) (outer : List PySem.Env) (s : Shared) (H : Hp) (E : XK) (n0 : Nat) (hr : Room (2 * n + 1) (A.deeper (envOfC "Column.__len__" (defScope (inClass (top 9) 2)) s.heap.objs.size ((GG K).fa 3) cdv))) :
    PSs (cxOf L2.CX0 P w K mg base N3 "Column.__len__" (defScope (inClass (top 9) 2)) ((GG K).fa 3) cdv A outer s H E).nox (defBody (inClass (top 9) 2)) (rdS (GG K) n0 (sRet (eLen cf [(0, 3)] (eFld [0] 0 (eVar 0))))) := by
  have T : Tb (cxOf L2.CX0 P w K mg base N3 "Column.__len__" (defScope (inClass (top 9) 2)) ((GG K).fa 3) cdv A outer s H E).nox (GG K) cf (2 * n) := ⟨rfl, ih, hr, rfl⟩
  have nd := sc3.nd
  exact (ss_one (ss_ret (se_len T rfl (m_b_len C) (fun p hp => ((m_spc___len__ C) p hp).1) (se_fld (f := 0) rfl (inj 0 (by decide)) (m_fld_counts C) (se_var (pv 0))))))
theorem ok3 {n : Nat} (C : Ctx K base mg) (ih : All P w K mg base (GG K) TT n) : ∀ np, FnR P w K mg base L2.CX0 (2 * (n + 1)) ((GG K).fa 3) (spF (GG K) (callF TT (n + 1)) 3 np) := by
  obtain ⟨fd, F⟩ := C.says.def_ 3 (d := d3) rfl
  exact def_ok (b := b3) rfl F sc3 rfl rfl (FunD_binds F fun _ _ _ _ _ _ us hl => match us, hl with | [_], _ => rfl) fun cdv A outer s H E n0 hr => dv3 C ih cdv A outer s H E n0 hr
abbrev N4 : List Str := ["self", "value"]
theorem sc4 : FnScope N4 ["self", "value"] (defScope (inClass (top 9) 3)) := ⟨rfl, rfl, rfl, by decide +kernel, rfl, by decide +kernel, by decide +kernel⟩
theorem dv4 {n : Nat} {cf : CF} (C : Ctx K base mg) (ih : ∀ f np, FnR P w K mg base L2.CX0 (2 * n) ((GG K).fa f) (spF (GG K) cf f np)) (cdv : Value) (A : Around) (outer : List PySem.Env) (s : Shared) (H : Hp) (E : XK) (n0 : Nat) (hr : Room (2 * n + 1) (A.deeper (envOfC "Column.__getitem__" (defScope (inClass (top 9) 3)) s.heap.objs.size ((GG K).fa 4) cdv))) :
    PSs (cxOf L2.CX0 P w K mg base N4 "Column.__getitem__" (defScope (inClass (top 9) 3)) ((GG K).fa 4) cdv A outer s H E).nox (defBody (inClass (top 9) 3)) (rdS (GG K) n0 (sCons (sIf (tNo (tTru (eCall cf 3 0 (aCons (eVar 1) (aCons (eLit (.int 0)) (aCons (eBin oSub (eLen cf [(0, 3)] (eFld [0] 0 (eVar 0))) (eLit (.int 1))) aNil)))))) sNo sNil) (sRet (eIx cf [(0, 4)] (eFld [0] 0 (eVar 0)) (eVar 1))))) := by
  have T : Tb (cxOf L2.CX0 P w K mg base N4 "Column.__getitem__" (defScope (inClass (top 9) 3)) ((GG K).fa 4) cdv A outer s H E).nox (GG K) cf (2 * n) := ⟨rfl, ih, hr, rfl⟩
  have nd := sc4.nd
  exact (ss_cons (ss_if (st_no (st_tru rfl (sx_call T rfl (m_f_is_number C) (m_k_is_number C) (sa_cons (se_var (pv 1)) (sa_cons (se_lit pe_int fun _ _ => rfl) (sa_cons (se_bin op_sub ok_sub (se_len T rfl (m_b_len C) (fun p hp => ((m_spc___len__ C) p hp).1) (se_fld (f := 0) rfl (inj 0 (by decide)) (m_fld_counts C) (se_var (pv 0)))) (se_lit pe_int fun _ _ => rfl)) sa_nil)))))) (ss_one ss_no) ss_nil)
 (ss_one (ss_ret (se_ixG T (m_spc___getitem__ C) (se_fld (f := 0) rfl (inj 0 (by decide)) (m_fld_counts C) (se_var (pv 0))) (se_var (pv 1)) (fun _ _ => rfl) (fun _ _ => by with_unfolding_all rfl)))))
theorem ok4 {n : Nat} (C : Ctx K base mg) (ih : All P w K mg base (GG K) TT n) : ∀ np, FnR P w K mg base L2.CX0 (2 * (n + 1)) ((GG K).fa 4) (spF (GG K) (callF TT (n + 1)) 4 np) := by
  obtain ⟨fd, F⟩ := C.says.def_ 4 (d := d4) rfl
  exact def_ok (b := b4) rfl F sc4 rfl rfl (FunD_binds F fun _ _ _ _ _ _ us hl => match us, hl with | [_, _], _ => rfl) fun cdv A outer s H E n0 hr => dv4 C ih cdv A outer s H E n0 hr
abbrev N5 : List Str := ["self"]
theorem sc5 : FnScope N5 ["self"] (defScope (inClass (top 9) 4)) := ⟨rfl, rfl, rfl, by decide +kernel, rfl, by decide +kernel, by decide +kernel⟩
theorem dv5 {n : Nat} {cf : CF} (C : Ctx K base mg) (ih : ∀ f np, FnR P w K mg base L2.CX0 (2 * n) ((GG K).fa f) (spF (GG K) cf f np)) (cdv : Value) (A : Around) (outer : List PySem.Env) (s : Shared) (H : Hp) (E : XK) (n0 : Nat) (hr : Room (2 * n + 1) (A.deeper (envOfC "Column.__iter__" (defScope (inClass (top 9) 4)) s.heap.objs.size ((GG K).fa 5) cdv))) :
    PSs (cxOf L2.CX0 P w K mg base N5 "Column.__iter__" (defScope (inClass (top 9) 4)) ((GG K).fa 5) cdv A outer s H E).nox (defBody (inClass (top 9) 4)) (rdS (GG K) n0 sNo) := by
  have T : Tb (cxOf L2.CX0 P w K mg base N5 "Column.__iter__" (defScope (inClass (top 9) 4)) ((GG K).fa 5) cdv A outer s H E).nox (GG K) cf (2 * n) := ⟨rfl, ih, hr, rfl⟩
  have nd := sc5.nd
  exact (ss_one ss_no)
theorem ok5 {n : Nat} (C : Ctx K base mg) (ih : All P w K mg base (GG K) TT n) : ∀ np, FnR P w K mg base L2.CX0 (2 * (n + 1)) ((GG K).fa 5) (spF (GG K) (callF TT (n + 1)) 5 np) := by
  obtain ⟨fd, F⟩ := C.says.def_ 5 (d := d5) rfl
  exact def_ok (b := b5) rfl F sc5 rfl rfl (FunD_binds F fun _ _ _ _ _ _ us hl => match us, hl with | [_], _ => rfl) fun cdv A outer s H E n0 hr => dv5 C ih cdv A outer s H E n0 hr
abbrev N6 : List Str := ["self"]
theorem sc6 : FnScope N6 ["self"] (defScope (inClass (top 9) 5)) := ⟨rfl, rfl, rfl, by decide +kernel, rfl, by decide +kernel, by decide +kernel⟩
theorem dv6 {n : Nat} {cf : CF} (C : Ctx K base mg) (ih : ∀ f np, FnR P w K mg base L2.CX0 (2 * n) ((GG K).fa f) (spF (GG K) cf f np)) (cdv : Value) (A : Around) (outer : List PySem.Env) (s : Shared) (H : Hp) (E : XK) (n0 : Nat) (hr : Room (2 * n + 1) (A.deeper (envOfC "Column.rows" (defScope (inClass (top 9) 5)) s.heap.objs.size ((GG K).fa 6) cdv))) :
    PSs (cxOf L2.CX0 P w K mg base N6 "Column.rows" (defScope (inClass (top 9) 5)) ((GG K).fa 6) cdv A outer s H E).nox (defBody (inClass (top 9) 5)) (rdS (GG K) n0 (sRet (eArg bSum (aCons (eFld [0] 0 (eVar 0)) aNil)))) := by
  have T : Tb (cxOf L2.CX0 P w K mg base N6 "Column.rows" (defScope (inClass (top 9) 5)) ((GG K).fa 6) cdv A outer s H E).nox (GG K) cf (2 * n) := ⟨rfl, ih, hr, rfl⟩
  have nd := sc6.nd
  exact (ss_one (ss_ret (se_argB (pe_callB (cr_sumA rfl) rfl (m_b_sum C) (by rfl) (sa_cons (se_fld (f := 0) rfl (inj 0 (by decide)) (m_fld_counts C) (se_var (pv 0))) sa_nil)) ok_sum)))
theorem ok6 {n : Nat} (C : Ctx K base mg) (ih : All P w K mg base (GG K) TT n) : ∀ np, FnR P w K mg base L2.CX0 (2 * (n + 1)) ((GG K).fa 6) (spF (GG K) (callF TT (n + 1)) 6 np) := by
  obtain ⟨fd, F⟩ := C.says.def_ 6 (d := d6) rfl
  exact def_ok (b := b6) rfl F sc6 rfl rfl (FunD_binds F fun _ _ _ _ _ _ us hl => match us, hl with | [_], _ => rfl) fun cdv A outer s H E n0 hr => dv6 C ih cdv A outer s H E n0 hr
abbrev N7 : List Str := ["self", "past"]
theorem sc7 : FnScope N7 ["self"] (defScope (inClass (top 9) 6)) := ⟨rfl, rfl, rfl, by decide +kernel, rfl, by decide +kernel, by decide +kernel⟩
theorem dv7 {n : Nat} {cf : CF} (C : Ctx K base mg) (ih : ∀ f np, FnR P w K mg base L2.CX0 (2 * n) ((GG K).fa f) (spF (GG K) cf f np)) (cdv : Value) (A : Around) (outer : List PySem.Env) (s : Shared) (H : Hp) (E : XK) (n0 : Nat) (hr : Room (2 * n + 1) (A.deeper (envOfC "Column.prefixes" (defScope (inClass (top 9) 6)) s.heap.objs.size ((GG K).fa 7) cdv))) :
    PSs (cxOf L2.CX0 P w K mg base N7 "Column.prefixes" (defScope (inClass (top 9) 6)) ((GG K).fa 7) cdv A outer s H E).nox (defBody (inClass (top 9) 6)) (rdS (GG K) n0 (sRet (eLc (iRg1 (eBin oCat (eLen cf [(0, 3)] (eFld [0] 0 (eVar 0))) (eLit (.int 1)))) (gNm 1) [1] tYesP (eArg bSum (aCons (eSl (eFld [0] 0 (eVar 0)) pNo (pSo (eVar 1))) aNil))))) := by
  have T : Tb (cxOf L2.CX0 P w K mg base N7 "Column.prefixes" (defScope (inClass (top 9) 6)) ((GG K).fa 7) cdv A outer s H E).nox (GG K) cf (2 * n) := ⟨rfl, ih, hr, rfl⟩
  have nd := sc7.nd
  exact (ss_one (ss_ret (se_lc (own := [("past", 1)]) rfl nd (si_rng1 rfl (m_b_range C) (se_bin op_catR ok_cat (se_len T rfl (m_b_len C) (fun p hp => ((m_spc___len__ C) p hp).1) (se_fld (f := 0) rfl (inj 0 (by decide)) (m_fld_counts C) (se_var (pv 0)))) (se_lit pe_int fun _ _ => rfl))) (blk_ok (own := [("past", 1)]) (by kernel_rfl)) (tb_nm 1 (by decide)) (fun _ _ _ _ _ => (pg_name (i := 1) nd rfl (by first | exact Or.inl rfl | exact Or.inr rfl))) (fun _ _ _ _ _ => sts_nil) (fun _ _ _ _ _ => (se_argB (pe_callB (cr_sumA rfl) rfl (m_b_sum C) (by rfl) (sa_cons (se_sl rfl (se_fld (f := 0) rfl (inj 0 (by decide)) (m_fld_counts C) (se_var (pv 0))) so_none (so_some (se_var (pv 1)))) sa_nil)) ok_sum)))))
theorem ok7 {n : Nat} (C : Ctx K base mg) (ih : All P w K mg base (GG K) TT n) : ∀ np, FnR P w K mg base L2.CX0 (2 * (n + 1)) ((GG K).fa 7) (spF (GG K) (callF TT (n + 1)) 7 np) := by
  obtain ⟨fd, F⟩ := C.says.def_ 7 (d := d7) rfl
  exact def_ok (b := b7) rfl F sc7 rfl rfl (FunD_binds F fun _ _ _ _ _ _ us hl => match us, hl with | [_], _ => rfl) fun cdv A outer s H E n0 hr => dv7 C ih cdv A outer s H E n0 hr
abbrev N8 : List Str := ["self", "first", "past"]
theorem sc8 : FnScope N8 ["self", "first", "past"] (defScope (inClass (top 9) 7)) := ⟨rfl, rfl, rfl, by decide +kernel, rfl, by decide +kernel, by decide +kernel⟩
theorem dv8 {n : Nat} {cf : CF} (C : Ctx K base mg) (ih : ∀ f np, FnR P w K mg base L2.CX0 (2 * n) ((GG K).fa f) (spF (GG K) cf f np)) (cdv : Value) (A : Around) (outer : List PySem.Env) (s : Shared) (H : Hp) (E : XK) (n0 : Nat) (hr : Room (2 * n + 1) (A.deeper (envOfC "Column.between" (defScope (inClass (top 9) 7)) s.heap.objs.size ((GG K).fa 8) cdv))) :
    PSs (cxOf L2.CX0 P w K mg base N8 "Column.between" (defScope (inClass (top 9) 7)) ((GG K).fa 8) cdv A outer s H E).nox (defBody (inClass (top 9) 7)) (rdS (GG K) n0 (sCons (sExp (eCall cf 3 12 (aCons (eVar 0) (aCons (eVar 1) (aCons (eVar 2) aNil))))) (sRet (eArg bSum (aCons (eSl (eFld [0] 0 (eVar 0)) (pSo (eVar 1)) (pSo (eVar 2))) aNil))))) := by
  have T : Tb (cxOf L2.CX0 P w K mg base N8 "Column.between" (defScope (inClass (top 9) 7)) ((GG K).fa 8) cdv A outer s H E).nox (GG K) cf (2 * n) := ⟨rfl, ih, hr, rfl⟩
  have nd := sc8.nd
  exact (ss_cons (ss_expr (sx_call T rfl (m_f_check_range C) (m_k_check_range C) (sa_cons (se_var (pv 0)) (sa_cons (se_var (pv 1)) (sa_cons (se_var (pv 2)) sa_nil)))))
 (ss_one (ss_ret (se_argB (pe_callB (cr_sumA rfl) rfl (m_b_sum C) (by rfl) (sa_cons (se_sl rfl (se_fld (f := 0) rfl (inj 0 (by decide)) (m_fld_counts C) (se_var (pv 0))) (so_some (se_var (pv 1))) (so_some (se_var (pv 2)))) sa_nil)) ok_sum))))
theorem ok8 {n : Nat} (C : Ctx K base mg) (ih : All P w K mg base (GG K) TT n) : ∀ np, FnR P w K mg base L2.CX0 (2 * (n + 1)) ((GG K).fa 8) (spF (GG K) (callF TT (n + 1)) 8 np) := by
  obtain ⟨fd, F⟩ := C.says.def_ 8 (d := d8) rfl
  exact def_ok (b := b8) rfl F sc8 rfl rfl (FunD_binds F fun _ _ _ _ _ _ us hl => match us, hl with | [_, _, _], _ => rfl) fun cdv A outer s H E n0 hr => dv8 C ih cdv A outer s H E n0 hr
abbrev N9 : List Str := ["self", "value", "count"]
theorem sc9 : FnScope N9 ["self"] (defScope (inClass (top 9) 8)) := ⟨rfl, rfl, rfl, by decide +kernel, rfl, by decide +kernel, by decide +kernel⟩
theorem dv9 {n : Nat} {cf : CF} (C : Ctx K base mg) (ih : ∀ f np, FnR P w K mg base L2.CX0 (2 * n) ((GG K).fa f) (spF (GG K) cf f np)) (cdv : Value) (A : Around) (outer : List PySem.Env) (s : Shared) (H : Hp) (E : XK) (n0 : Nat) (hr : Room (2 * n + 1) (A.deeper (envOfC "Column.filled" (defScope (inClass (top 9) 8)) s.heap.objs.size ((GG K).fa 9) cdv))) :
    PSs (cxOf L2.CX0 P w K mg base N9 "Column.filled" (defScope (inClass (top 9) 8)) ((GG K).fa 9) cdv A outer s H E).nox (defBody (inClass (top 9) 8)) (rdS (GG K) n0 (sRet (eLc (iEnu (eFld [0] 0 (eVar 0))) (gTp [(gNm 1), (gNm 2)]) [1, 2] (tBl (eBin oGt (eVar 2) (eLit (.int 0)))) (eVar 1)))) := by
  have T : Tb (cxOf L2.CX0 P w K mg base N9 "Column.filled" (defScope (inClass (top 9) 8)) ((GG K).fa 9) cdv A outer s H E).nox (GG K) cf (2 * n) := ⟨rfl, ih, hr, rfl⟩
  have nd := sc9.nd
  exact (ss_one (ss_ret (se_lc (own := [("value", 1), ("count", 2)]) rfl nd (si_enum rfl rfl (m_b_enumerate C) (se_fld (f := 0) rfl (inj 0 (by decide)) (m_fld_counts C) (se_var (pv 0)))) (blk_ok (own := [("value", 1), ("count", 2)]) (by kernel_rfl)) (tb_tp (tbs_cons (tb_nm 1 (by decide)) (tbs_cons (tb_nm 2 (by decide)) tbs_nil)) rfl) (fun _ _ _ _ _ => (pg_tup rfl (pgs_cons (pg_name (i := 1) nd rfl (by first | exact Or.inl rfl | exact Or.inr rfl)) (pgs_cons (pg_name (i := 2) nd rfl (by first | exact Or.inl rfl | exact Or.inr rfl)) pgs_nil)))) (fun _ _ _ _ _ => (sts_one (st_cmp op_gt ok_gt (se_var (pv 2)) (se_lit pe_int fun _ _ => rfl) (nomark _)))) (fun _ _ _ _ _ => (se_var (pv 1))))))
theorem ok9 {n : Nat} (C : Ctx K base mg) (ih : All P w K mg base (GG K) TT n) : ∀ np, FnR P w K mg base L2.CX0 (2 * (n + 1)) ((GG K).fa 9) (spF (GG K) (callF TT (n + 1)) 9 np) := by
  obtain ⟨fd, F⟩ := C.says.def_ 9 (d := d9) rfl
  exact def_ok (b := b9) rfl F sc9 rfl rfl (FunD_binds F fun _ _ _ _ _ _ us hl => match us, hl with | [_], _ => rfl) fun cdv A outer s H E n0 hr => dv9 C ih cdv A outer s H E n0 hr
abbrev N10 : List Str := ["self", "one", "other"]
theorem sc10 : FnScope N10 ["self"] (defScope (inClass (top 9) 9)) := ⟨rfl, rfl, rfl, by decide +kernel, rfl, by decide +kernel, by decide +kernel⟩
theorem dv10 {n : Nat} {cf : CF} (C : Ctx K base mg) (ih : ∀ f np, FnR P w K mg base L2.CX0 (2 * n) ((GG K).fa f) (spF (GG K) cf f np)) (cdv : Value) (A : Around) (outer : List PySem.Env) (s : Shared) (H : Hp) (E : XK) (n0 : Nat) (hr : Room (2 * n + 1) (A.deeper (envOfC "Column.steps" (defScope (inClass (top 9) 9)) s.heap.objs.size ((GG K).fa 10) cdv))) :
    PSs (cxOf L2.CX0 P w K mg base N10 "Column.steps" (defScope (inClass (top 9) 9)) ((GG K).fa 10) cdv A outer s H E).nox (defBody (inClass (top 9) 9)) (rdS (GG K) n0 (sRet (eBin oCat (eLit (.int 1)) (eLen cf [(0, 3)] (eLc (iZip (eFld [0] 0 (eVar 0)) (eSl (eFld [0] 0 (eVar 0)) (pSo (eLit (.int 1))) pNo)) (gTp [(gNm 1), (gNm 2)]) [1, 2] (tBl (eNe cf [(0, 2)] [.non, .bl, .int, .str, .tup, .lst, .dct, .own 0] (eVar 1) (eVar 2))) (eVar 1)))))) := by
  have T : Tb (cxOf L2.CX0 P w K mg base N10 "Column.steps" (defScope (inClass (top 9) 9)) ((GG K).fa 10) cdv A outer s H E).nox (GG K) cf (2 * n) := ⟨rfl, ih, hr, rfl⟩
  have nd := sc10.nd
  exact (ss_one (ss_ret (se_bin op_catR ok_cat (se_lit pe_int fun _ _ => rfl) (se_len T rfl (m_b_len C) (fun p hp => ((m_spc___len__ C) p hp).1) (se_lc (own := [("one", 1), ("other", 2)]) rfl nd (si_zip rfl rfl (m_b_zip C) (se_fld (f := 0) rfl (inj 0 (by decide)) (m_fld_counts C) (se_var (pv 0))) (se_sl rfl (se_fld (f := 0) rfl (inj 0 (by decide)) (m_fld_counts C) (se_var (pv 0))) (so_some (se_lit pe_int fun _ _ => rfl)) so_none)) (blk_ok (own := [("one", 1), ("other", 2)]) (by kernel_rfl)) (tb_tp (tbs_cons (tb_nm 1 (by decide)) (tbs_cons (tb_nm 2 (by decide)) tbs_nil)) rfl) (fun _ _ _ _ _ => (pg_tup rfl (pgs_cons (pg_name (i := 1) nd rfl (by first | exact Or.inl rfl | exact Or.inr rfl)) (pgs_cons (pg_name (i := 2) nd rfl (by first | exact Or.inl rfl | exact Or.inr rfl)) pgs_nil)))) (fun _ _ _ _ _ => (sts_one (st_ne (T.blk _ _ _ _ _) (m_eqt C) (se_var (pv 1)) (se_var (pv 2)) (nomark _)))) (fun _ _ _ _ _ => (se_var (pv 1))))))))
theorem ok10 {n : Nat} (C : Ctx K base mg) (ih : All P w K mg base (GG K) TT n) : ∀ np, FnR P w K mg base L2.CX0 (2 * (n + 1)) ((GG K).fa 10) (spF (GG K) (callF TT (n + 1)) 10 np) := by
  obtain ⟨fd, F⟩ := C.says.def_ 10 (d := d10) rfl
  exact def_ok (b := b10) rfl F sc10 rfl rfl (FunD_binds F fun _ _ _ _ _ _ us hl => match us, hl with | [_], _ => rfl) fun cdv A outer s H E n0 hr => dv10 C ih cdv A outer s H E n0 hr
abbrev N11 : List Str := ["self", "found", "value", "count"]
theorem sc11 : FnScope N11 ["self"] (defScope (inClass (top 9) 10)) := ⟨rfl, rfl, rfl, by decide +kernel, rfl, by decide +kernel, by decide +kernel⟩
theorem dv11 {n : Nat} {cf : CF} (C : Ctx K base mg) (ih : ∀ f np, FnR P w K mg base L2.CX0 (2 * n) ((GG K).fa f) (spF (GG K) cf f np)) (cdv : Value) (A : Around) (outer : List PySem.Env) (s : Shared) (H : Hp) (E : XK) (n0 : Nat) (hr : Room (2 * n + 1) (A.deeper (envOfC "Column.sorted_rows" (defScope (inClass (top 9) 10)) s.heap.objs.size ((GG K).fa 11) cdv))) :
    PSs (cxOf L2.CX0 P w K mg base N11 "Column.sorted_rows" (defScope (inClass (top 9) 10)) ((GG K).fa 11) cdv A outer s H E).nox (defBody (inClass (top 9) 10)) (rdS (GG K) n0 (sCons (sAsg (gNm 1) (eNew (eLst aNil))) (sCons (sFor (iEnu (eFld [0] 0 (eVar 0))) (gTp [(gNm 2), (gNm 3)]) (sExp (eLm (extL n0) (eVar 1) (eBin oRep (eLst (aCons (eVar 2) aNil)) (eVar 3))))) (sRet (eVar 1))))) := by
  have T : Tb (cxOf L2.CX0 P w K mg base N11 "Column.sorted_rows" (defScope (inClass (top 9) 10)) ((GG K).fa 11) cdv A outer s H E).nox (GG K) cf (2 * n) := ⟨rfl, ih, hr, rfl⟩
  have nd := sc11.nd
  exact (ss_cons (ss_asg (ps_asg (toV (se_new (se_lst sa_nil))) (pg_name (i := 1) nd rfl (by first | exact Or.inl rfl | exact Or.inr rfl))) (tg_nm 1))
 (ss_cons (ss_for (ps_for PassesOwn.never rfl (si_enum rfl rfl (m_b_enumerate C) (se_fld (f := 0) rfl (inj 0 (by decide)) (m_fld_counts C) (se_var (pv 0)))) (pg_tup rfl (pgs_cons (pg_name (i := 2) nd rfl (by first | exact Or.inl rfl | exact Or.inr rfl)) (pgs_cons (pg_name (i := 3) nd rfl (by first | exact Or.inl rfl | exact Or.inr rfl)) pgs_nil))) (ss_one (ss_expr (se_lm rfl chg_ext (pe_bm PySem.F.plainAttrs_list PySem.F.slot_list_extend PySem.F.type_list_extend mt_extR (toV (se_var (pv 1))) (pa_cons (toV (se_bin op_repR ok_rep (se_lst (sa_cons (se_var (pv 2)) sa_nil)) (se_var (pv 3)))) pa_nil)))))) (tg_tp (tgs_cons (tg_nm 2) (tgs_cons (tg_nm 3) tgs_nil)) rfl))
 (ss_one (ss_ret (se_var (pv 1))))))
theorem ok11 {n : Nat} (C : Ctx K base mg) (ih : All P w K mg base (GG K) TT n) : ∀ np, FnR P w K mg base L2.CX0 (2 * (n + 1)) ((GG K).fa 11) (spF (GG K) (callF TT (n + 1)) 11 np) := by
  obtain ⟨fd, F⟩ := C.says.def_ 11 (d := d11) rfl
  exact def_ok (b := b11) rfl F sc11 rfl rfl (FunD_binds F fun _ _ _ _ _ _ us hl => match us, hl with | [_], _ => rfl) fun cdv A outer s H E n0 hr => dv11 C ih cdv A outer s H E n0 hr
abbrev N12 : List Str := ["column", "first", "past"]
theorem sc12 : FnScope N12 ["column", "first", "past"] (defScope (top 10)) := ⟨rfl, rfl, rfl, by decide +kernel, rfl, by decide +kernel, by decide +kernel⟩
theorem dv12 {n : Nat} {cf : CF} (C : Ctx K base mg) (ih : ∀ f np, FnR P w K mg base L2.CX0 (2 * n) ((GG K).fa f) (spF (GG K) cf f np)) (cdv : Value) (A : Around) (outer : List PySem.Env) (s : Shared) (H : Hp) (E : XK) (n0 : Nat) (hr : Room (2 * n + 1) (A.deeper (envOfC "check_range" (defScope (top 10)) s.heap.objs.size ((GG K).fa 12) cdv))) :
    PSs (cxOf L2.CX0 P w K mg base N12 "check_range" (defScope (top 10)) ((GG K).fa 12) cdv A outer s H E).nox (defBody (top 10)) (rdS (GG K) n0 (sIf (tOr (tNo (tTru (eCall cf 3 0 (aCons (eVar 1) (aCons (eLit (.int 0)) (aCons (eBin oSub (eLen cf [(0, 3)] (eVar 0)) (eLit (.int 1))) aNil)))))) (tNo (tTru (eCall cf 3 0 (aCons (eVar 2) (aCons (eBin oCat (eVar 1) (eLit (.int 1))) (aCons (eLen cf [(0, 3)] (eVar 0)) aNil))))))) sNo sNil)) := by
  have T : Tb (cxOf L2.CX0 P w K mg base N12 "check_range" (defScope (top 10)) ((GG K).fa 12) cdv A outer s H E).nox (GG K) cf (2 * n) := ⟨rfl, ih, hr, rfl⟩
  have nd := sc12.nd
  exact (ss_one (ss_if (PW.pt (sw_or (st_no (st_tru rfl (sx_call T rfl (m_f_is_number C) (m_k_is_number C) (sa_cons (se_var (pv 1)) (sa_cons (se_lit pe_int fun _ _ => rfl) (sa_cons (se_bin op_sub ok_sub (se_len T rfl (m_b_len C) (fun p hp => ((m_spc___len__ C) p hp).1) (se_var (pv 0))) (se_lit pe_int fun _ _ => rfl)) sa_nil)))))) (sw_one (st_no (st_tru rfl (sx_call T rfl (m_f_is_number C) (m_k_is_number C) (sa_cons (se_var (pv 2)) (sa_cons (se_bin op_catR ok_cat (se_var (pv 1)) (se_lit pe_int fun _ _ => rfl)) (sa_cons (se_len T rfl (m_b_len C) (fun p hp => ((m_spc___len__ C) p hp).1) (se_var (pv 0))) sa_nil))))))))) (ss_one ss_no) ss_nil))
theorem ok12 {n : Nat} (C : Ctx K base mg) (ih : All P w K mg base (GG K) TT n) : ∀ np, FnR P w K mg base L2.CX0 (2 * (n + 1)) ((GG K).fa 12) (spF (GG K) (callF TT (n + 1)) 12 np) := by
  obtain ⟨fd, F⟩ := C.says.def_ 12 (d := d12) rfl
  exact def_ok (b := b12) rfl F sc12 rfl rfl (FunD_binds F fun _ _ _ _ _ _ us hl => match us, hl with | [_, _, _], _ => rfl) fun cdv A outer s H E n0 hr => dv12 C ih cdv A outer s H E n0 hr
abbrev N13 : List Str := ["_law_script", "_law_index", "_law_cells", "_law_cell", "_law_low", "_law_high", "_law_total", "_law_blend"]
theorem sc13 : FnScope N13 ["_law_script", "_law_index"] (defScope (top 12)) := ⟨rfl, rfl, rfl, by decide +kernel, rfl, by decide +kernel, by decide +kernel⟩
theorem dv13 {n : Nat} {cf : CF} (C : Ctx K base mg) (ih : ∀ f np, FnR P w K mg base L2.CX0 (2 * n) ((GG K).fa f) (spF (GG K) cf f np)) (cdv : Value) (A : Around) (outer : List PySem.Env) (s : Shared) (H : Hp) (E : XK) (n0 : Nat) (hr : Room (2 * n + 1) (A.deeper (envOfC "_law_number" (defScope (top 12)) s.heap.objs.size ((GG K).fa 13) cdv))) :
    PSs (cxOf L2.CX0 P w K mg base N13 "_law_number" (defScope (top 12)) ((GG K).fa 13) cdv A outer s H E).nox (defBody (top 12)) (rdS (GG K) n0 (sCons (sAsg (gNm 2) (eIf (tBl (eNe cf [(0, 2)] [.non, .bl, .int, .str, .tup, .lst, .dct, .own 0] (eVar 0) (eLst aNil))) (eSl (eVar 0) pNo (pSo (eLit (.int 63)))) (eLst (aCons (eLit (.int 5)) aNil)))) (sCons (sAsg (gNm 3) (eBin oCat (eIx cf [(0, 4)] (eVar 2) (eBin oMod (eArg bInt (aCons (eVar 1) aNil)) (eLen cf [(0, 3)] (eVar 2)))) (eBin oRep (eLit (.int 13)) (eBin oDiv (eVar 1) (eLen cf [(0, 3)] (eVar 2)))))) (sCons (sPar [4, 5] (aCons (eBin oMod (eArg bInt (aCons (eVar 3) aNil)) (eLit (.int 1000003))) (aCons (eBin oMod (eArg bInt (aCons (eBin oDiv (eVar 3) (eLit (.int 1000003))) aNil)) (eLit (.int 999983))) aNil))) (sCons (sAsg (gNm 6) (eBin oMod (eArg bInt (aCons (eArg bSum (aCons (eVar 2) aNil)) aNil)) (eLit (.int 65521)))) (sCons (sAsg (gNm 7) (eBin oMod (eArg bInt (aCons (eBin oCat (eBin oCat (eBin oRep (eBin oCat (eVar 4) (eBin oRep (eLit (.int 977)) (eVar 1))) (eLit (.int 48271))) (eBin oRep (eLit (.int 31)) (eVar 5))) (eVar 6)) aNil)) (eLit (.int 2147483647)))) (sRet (eBin oCat (eBin oRep (eBin oMod (eArg bInt (aCons (eBin oRep (eVar 7) (eBin oCat (eBin oCat (eVar 7) (eBin oRep (eLit (.int 31)) (eVar 1))) (eLit (.int 7)))) aNil)) (eLit (.int 2147483629))) (eLit (.int 65537))) (eVar 5))))))))) := by
  have T : Tb (cxOf L2.CX0 P w K mg base N13 "_law_number" (defScope (top 12)) ((GG K).fa 13) cdv A outer s H E).nox (GG K) cf (2 * n) := ⟨rfl, ih, hr, rfl⟩
  have nd := sc13.nd
  exact (ss_cons (ss_asg (ps_asg (toV (se_if (st_ne T (m_eqt C) (se_var (pv 0)) (se_lst sa_nil) (nomark _)) (se_sl rfl (se_var (pv 0)) so_none (so_some (se_lit pe_int fun _ _ => rfl))) (se_lst (sa_cons (se_lit pe_int fun _ _ => rfl) sa_nil)))) (pg_name (i := 2) nd rfl (by first | exact Or.inl rfl | exact Or.inr rfl))) (tg_nm 2))
 (ss_cons (ss_asg (ps_asg (toV (se_bin op_catR ok_cat (se_ixG T (m_spc___getitem__ C) (se_var (pv 2)) (se_bin op_mod ok_mod (se_argB (pe_callTy call_int1 rfl (m_b_int C) (by rfl) (sa_cons (se_var (pv 1)) sa_nil)) ok_int) (se_len T rfl (m_b_len C) (fun p hp => ((m_spc___len__ C) p hp).1) (se_var (pv 2)))) (fun _ _ => rfl) (fun _ _ => by with_unfolding_all rfl)) (se_bin op_repR ok_rep (se_lit pe_int fun _ _ => rfl) (se_bin op_fdiv ok_div (se_var (pv 1)) (se_len T rfl (m_b_len C) (fun p hp => ((m_spc___len__ C) p hp).1) (se_var (pv 2))))))) (pg_name (i := 3) nd rfl (by first | exact Or.inl rfl | exact Or.inr rfl))) (tg_nm 3))
 (ss_cons (ss_par (ps_par (i := 4) (j := 5) rfl nd rfl rfl (by decide) rfl rfl (sa_cons (se_bin op_mod ok_mod (se_argB (pe_callTy call_int1 rfl (m_b_int C) (by rfl) (sa_cons (se_var (pv 3)) sa_nil)) ok_int) (se_lit pe_int fun _ _ => rfl)) (sa_cons (se_bin op_mod ok_mod (se_argB (pe_callTy call_int1 rfl (m_b_int C) (by rfl) (sa_cons (se_bin op_fdiv ok_div (se_var (pv 3)) (se_lit pe_int fun _ _ => rfl)) sa_nil)) ok_int) (se_lit pe_int fun _ _ => rfl)) sa_nil)) (by rfl)))
 (ss_cons (ss_asg (ps_asg (toV (se_bin op_mod ok_mod (se_argB (pe_callTy call_int1 rfl (m_b_int C) (by rfl) (sa_cons (se_argB (pe_callB (cr_sumA rfl) rfl (m_b_sum C) (by rfl) (sa_cons (se_var (pv 2)) sa_nil)) ok_sum) sa_nil)) ok_int) (se_lit pe_int fun _ _ => rfl))) (pg_name (i := 6) nd rfl (by first | exact Or.inl rfl | exact Or.inr rfl))) (tg_nm 6))
 (ss_cons (ss_asg (ps_asg (toV (se_bin op_mod ok_mod (se_argB (pe_callTy call_int1 rfl (m_b_int C) (by rfl) (sa_cons (se_bin op_catR ok_cat (se_bin op_catR ok_cat (se_bin op_repR ok_rep (se_bin op_catR ok_cat (se_var (pv 4)) (se_bin op_repR ok_rep (se_lit pe_int fun _ _ => rfl) (se_var (pv 1)))) (se_lit pe_int fun _ _ => rfl)) (se_bin op_repR ok_rep (se_lit pe_int fun _ _ => rfl) (se_var (pv 5)))) (se_var (pv 6))) sa_nil)) ok_int) (se_lit pe_int fun _ _ => rfl))) (pg_name (i := 7) nd rfl (by first | exact Or.inl rfl | exact Or.inr rfl))) (tg_nm 7))
 (ss_one (ss_ret (se_bin op_catR ok_cat (se_bin op_repR ok_rep (se_bin op_mod ok_mod (se_argB (pe_callTy call_int1 rfl (m_b_int C) (by rfl) (sa_cons (se_bin op_repR ok_rep (se_var (pv 7)) (se_bin op_catR ok_cat (se_bin op_catR ok_cat (se_var (pv 7)) (se_bin op_repR ok_rep (se_lit pe_int fun _ _ => rfl) (se_var (pv 1)))) (se_lit pe_int fun _ _ => rfl))) sa_nil)) ok_int) (se_lit pe_int fun _ _ => rfl)) (se_lit pe_int fun _ _ => rfl)) (se_var (pv 5))))))))))
theorem ok13 {n : Nat} (C : Ctx K base mg) (ih : All P w K mg base (GG K) TT n) : ∀ np, FnR P w K mg base L2.CX0 (2 * (n + 1)) ((GG K).fa 13) (spF (GG K) (callF TT (n + 1)) 13 np) := by
  obtain ⟨fd, F⟩ := C.says.def_ 13 (d := d13) rfl
  exact def_ok (b := b13) rfl F sc13 rfl rfl (FunD_binds F fun _ _ _ _ _ _ us hl => match us, hl with | [_, _], _ => rfl) fun cdv A outer s H E n0 hr => dv13 C ih cdv A outer s H E n0 hr
abbrev N14 : List Str := ["_law_draw", "_law_many"]
theorem sc14 : FnScope N14 ["_law_draw", "_law_many"] (defScope (top 13)) := ⟨rfl, rfl, rfl, by decide +kernel, rfl, by decide +kernel, by decide +kernel⟩
theorem dv14 {n : Nat} {cf : CF} (C : Ctx K base mg) (ih : ∀ f np, FnR P w K mg base L2.CX0 (2 * n) ((GG K).fa f) (spF (GG K) cf f np)) (cdv : Value) (A : Around) (outer : List PySem.Env) (s : Shared) (H : Hp) (E : XK) (n0 : Nat) (hr : Room (2 * n + 1) (A.deeper (envOfC "_law_take" (defScope (top 13)) s.heap.objs.size ((GG K).fa 14) cdv))) :
    PSs (cxOf L2.CX0 P w K mg base N14 "_law_take" (defScope (top 13)) ((GG K).fa 14) cdv A outer s H E).nox (defBody (top 13)) (rdS (GG K) n0 (sCons (sSetI (setL n0) (eVar 0) (eLit (.int 1)) (eBin oCat (eIx cf [(0, 4)] (eVar 0) (eLit (.int 1))) (eLit (.int 1)))) (sRet (eBin oMod (eArg bInt (aCons (eCall cf 2 13 (aCons (eIx cf [(0, 4)] (eVar 0) (eLit (.int 0))) (aCons (eArg bInt (aCons (eIx cf [(0, 4)] (eVar 0) (eLit (.int 1))) aNil)) aNil))) aNil)) (eVar 1))))) := by
  have T : Tb (cxOf L2.CX0 P w K mg base N14 "_law_take" (defScope (top 13)) ((GG K).fa 14) cdv A outer s H E).nox (GG K) cf (2 * n) := ⟨rfl, ih, hr, rfl⟩
  have nd := sc14.nd
  exact (ss_cons (ss_setI chg_setL (ps_asg (toV (se_bin op_catR ok_cat (se_ixG T (m_spc___getitem__ C) (se_var (pv 0)) (se_lit pe_int fun _ _ => rfl) (fun _ _ => rfl) (fun _ _ => by with_unfolding_all rfl)) (se_lit pe_int fun _ _ => rfl))) (pg_sub (toV (se_var (pv 0))) (toV (se_lit pe_int fun _ _ => rfl)) set_list)))
 (ss_one (ss_ret (se_bin op_mod ok_mod (se_argB (pe_callTy call_int1 rfl (m_b_int C) (by rfl) (sa_cons (sx_call T rfl (m_f__law_number C) (m_k__law_number C) (sa_cons (se_ixG T (m_spc___getitem__ C) (se_var (pv 0)) (se_lit pe_int fun _ _ => rfl) (fun _ _ => rfl) (fun _ _ => by with_unfolding_all rfl)) (sa_cons (se_argB (pe_callTy call_int1 rfl (m_b_int C) (by rfl) (sa_cons (se_ixG T (m_spc___getitem__ C) (se_var (pv 0)) (se_lit pe_int fun _ _ => rfl) (fun _ _ => rfl) (fun _ _ => by with_unfolding_all rfl)) sa_nil)) ok_int) sa_nil))) sa_nil)) ok_int) (se_var (pv 1))))))
theorem ok14 {n : Nat} (C : Ctx K base mg) (ih : All P w K mg base (GG K) TT n) : ∀ np, FnR P w K mg base L2.CX0 (2 * (n + 1)) ((GG K).fa 14) (spF (GG K) (callF TT (n + 1)) 14 np) := by
  obtain ⟨fd, F⟩ := C.says.def_ 14 (d := d14) rfl
  exact def_ok (b := b14) rfl F sc14 rfl rfl (FunD_binds F fun _ _ _ _ _ _ us hl => match us, hl with | [_, _], _ => rfl) fun cdv A outer s H E n0 hr => dv14 C ih cdv A outer s H E n0 hr
abbrev N15 : List Str := ["_law_draw", "_law_things"]
theorem sc15 : FnScope N15 ["_law_draw", "_law_things"] (defScope (top 14)) := ⟨rfl, rfl, rfl, by decide +kernel, rfl, by decide +kernel, by decide +kernel⟩
theorem dv15 {n : Nat} {cf : CF} (C : Ctx K base mg) (ih : ∀ f np, FnR P w K mg base L2.CX0 (2 * n) ((GG K).fa f) (spF (GG K) cf f np)) (cdv : Value) (A : Around) (outer : List PySem.Env) (s : Shared) (H : Hp) (E : XK) (n0 : Nat) (hr : Room (2 * n + 1) (A.deeper (envOfC "_law_pick" (defScope (top 14)) s.heap.objs.size ((GG K).fa 15) cdv))) :
    PSs (cxOf L2.CX0 P w K mg base N15 "_law_pick" (defScope (top 14)) ((GG K).fa 15) cdv A outer s H E).nox (defBody (top 14)) (rdS (GG K) n0 (sRet (eIx cf [(0, 4)] (eVar 1) (eCall cf 2 14 (aCons (eVar 0) (aCons (eLen cf [(0, 3)] (eVar 1)) aNil)))))) := by
  have T : Tb (cxOf L2.CX0 P w K mg base N15 "_law_pick" (defScope (top 14)) ((GG K).fa 15) cdv A outer s H E).nox (GG K) cf (2 * n) := ⟨rfl, ih, hr, rfl⟩
  have nd := sc15.nd
  exact (ss_one (ss_ret (se_ixG T (m_spc___getitem__ C) (se_var (pv 1)) (sx_call T rfl (m_f__law_take C) (m_k__law_take C) (sa_cons (se_var (pv 0)) (sa_cons (se_len T rfl (m_b_len C) (fun p hp => ((m_spc___len__ C) p hp).1) (se_var (pv 1))) sa_nil))) (fun _ _ => rfl) (fun _ _ => by with_unfolding_all rfl))))
theorem ok15 {n : Nat} (C : Ctx K base mg) (ih : All P w K mg base (GG K) TT n) : ∀ np, FnR P w K mg base L2.CX0 (2 * (n + 1)) ((GG K).fa 15) (spF (GG K) (callF TT (n + 1)) 15 np) := by
  obtain ⟨fd, F⟩ := C.says.def_ 15 (d := d15) rfl
  exact def_ok (b := b15) rfl F sc15 rfl rfl (FunD_binds F fun _ _ _ _ _ _ us hl => match us, hl with | [_, _], _ => rfl) fun cdv A outer s H E n0 hr => dv15 C ih cdv A outer s H E n0 hr
abbrev N16 : List Str := ["_law_draw", "_law_most", "_law_found", "_law_value", "_law_count"]
theorem sc16 : FnScope N16 ["_law_draw", "_law_most"] (defScope (top 15)) := ⟨rfl, rfl, rfl, by decide +kernel, rfl, by decide +kernel, by decide +kernel⟩
theorem dv16 {n : Nat} {cf : CF} (C : Ctx K base mg) (ih : ∀ f np, FnR P w K mg base L2.CX0 (2 * n) ((GG K).fa f) (spF (GG K) cf f np)) (cdv : Value) (A : Around) (outer : List PySem.Env) (s : Shared) (H : Hp) (E : XK) (n0 : Nat) (hr : Room (2 * n + 1) (A.deeper (envOfC "_law_counts" (defScope (top 15)) s.heap.objs.size ((GG K).fa 16) cdv))) :
    PSs (cxOf L2.CX0 P w K mg base N16 "_law_counts" (defScope (top 15)) ((GG K).fa 16) cdv A outer s H E).nox (defBody (top 15)) (rdS (GG K) n0 (sCons (sAsg (gNm 2) (eNew (eLst aNil))) (sCons (sFor (iRg1 (eBin oCat (eLit (.int 1)) (eCall cf 2 14 (aCons (eVar 0) (aCons (eVar 1) aNil))))) (gNm 3) (sCons (sAsg (gNm 4) (eIf (tBl (eEq cf [(0, 2)] [.non, .bl, .int, .str, .tup, .lst, .dct, .own 0] (eCall cf 2 14 (aCons (eVar 0) (aCons (eLit (.int 3)) aNil))) (eLit (.int 0)))) (eCall cf 2 14 (aCons (eVar 0) (aCons (eLit (.int 10)) aNil))) (eCall cf 2 14 (aCons (eVar 0) (aCons (eLit (.int 4)) aNil))))) (sExp (eLm (appL n0) (eVar 2) (eIf (tAn (tBl (eNe cf [(0, 2)] [.non, .bl, .int, .str, .tup, .lst, .dct, .own 0] (eVar 2) (eLst aNil))) (tBl (eEq cf [(0, 2)] [.non, .bl, .int, .str, .tup, .lst, .dct, .own 0] (eCall cf 2 14 (aCons (eVar 0) (aCons (eLit (.int 4)) aNil))) (eLit (.int 0))))) (eIx cf [(0, 4)] (eVar 2) (eUn oNeg (eLit (.int 1)))) (eVar 4)))))) (sRet (eVar 2))))) := by
  have T : Tb (cxOf L2.CX0 P w K mg base N16 "_law_counts" (defScope (top 15)) ((GG K).fa 16) cdv A outer s H E).nox (GG K) cf (2 * n) := ⟨rfl, ih, hr, rfl⟩
  have nd := sc16.nd
  exact (ss_cons (ss_asg (ps_asg (toV (se_new (se_lst sa_nil))) (pg_name (i := 2) nd rfl (by first | exact Or.inl rfl | exact Or.inr rfl))) (tg_nm 2))
 (ss_cons (ss_for (ps_for PassesOwn.never rfl (si_rng1 rfl (m_b_range C) (se_bin op_catR ok_cat (se_lit pe_int fun _ _ => rfl) (sx_call T rfl (m_f__law_take C) (m_k__law_take C) (sa_cons (se_var (pv 0)) (sa_cons (se_var (pv 1)) sa_nil))))) (pg_name (i := 3) nd rfl (by first | exact Or.inl rfl | exact Or.inr rfl)) (ss_cons (ss_asg (ps_asg (toV (se_if (st_eq T (m_eqt C) (sx_call T rfl (m_f__law_take C) (m_k__law_take C) (sa_cons (se_var (pv 0)) (sa_cons (se_lit pe_int fun _ _ => rfl) sa_nil))) (se_lit pe_int fun _ _ => rfl) (nomark _)) (sx_call T rfl (m_f__law_take C) (m_k__law_take C) (sa_cons (se_var (pv 0)) (sa_cons (se_lit pe_int fun _ _ => rfl) sa_nil))) (sx_call T rfl (m_f__law_take C) (m_k__law_take C) (sa_cons (se_var (pv 0)) (sa_cons (se_lit pe_int fun _ _ => rfl) sa_nil))))) (pg_name (i := 4) nd rfl (by first | exact Or.inl rfl | exact Or.inr rfl))) (tg_nm 4))
 (ss_one (ss_expr (se_lm rfl chg_app (pe_bm PySem.F.plainAttrs_list PySem.F.slot_list_append PySem.F.type_list_append mt_append (toV (se_var (pv 2))) (pa_cons (toV (se_if (PW.pt (sw_and (st_ne T (m_eqt C) (se_var (pv 2)) (se_lst sa_nil) (nomark _)) (sw_one (st_eq T (m_eqt C) (sx_call T rfl (m_f__law_take C) (m_k__law_take C) (sa_cons (se_var (pv 0)) (sa_cons (se_lit pe_int fun _ _ => rfl) sa_nil))) (se_lit pe_int fun _ _ => rfl) (nomark _))))) (se_ixG T (m_spc___getitem__ C) (se_var (pv 2)) (se_un un_neg ok_neg (se_lit pe_int fun _ _ => rfl)) (fun _ _ => rfl) (fun _ _ => by with_unfolding_all rfl)) (se_var (pv 4)))) pa_nil))))))) (tg_nm 3))
 (ss_one (ss_ret (se_var (pv 2))))))
theorem ok16 {n : Nat} (C : Ctx K base mg) (ih : All P w K mg base (GG K) TT n) : ∀ np, FnR P w K mg base L2.CX0 (2 * (n + 1)) ((GG K).fa 16) (spF (GG K) (callF TT (n + 1)) 16 np) := by
  obtain ⟨fd, F⟩ := C.says.def_ 16 (d := d16) rfl
  exact def_ok (b := b16) rfl F sc16 rfl rfl (FunD_binds F fun _ _ _ _ _ _ us hl => match us, hl with | [_, _], _ => rfl) fun cdv A outer s H E n0 hr => dv16 C ih cdv A outer s H E n0 hr
abbrev N17 : List Str := ["_law_draw", "_law_rows"]
theorem sc17 : FnScope N17 ["_law_draw", "_law_rows"] (defScope (top 16)) := ⟨rfl, rfl, rfl, by decide +kernel, rfl, by decide +kernel, by decide +kernel⟩
theorem dv17 {n : Nat} {cf : CF} (C : Ctx K base mg) (ih : ∀ f np, FnR P w K mg base L2.CX0 (2 * n) ((GG K).fa f) (spF (GG K) cf f np)) (cdv : Value) (A : Around) (outer : List PySem.Env) (s : Shared) (H : Hp) (E : XK) (n0 : Nat) (hr : Room (2 * n + 1) (A.deeper (envOfC "_law_given" (defScope (top 16)) s.heap.objs.size ((GG K).fa 17) cdv))) :
    PSs (cxOf L2.CX0 P w K mg base N17 "_law_given" (defScope (top 16)) ((GG K).fa 17) cdv A outer s H E).nox (defBody (top 16)) (rdS (GG K) n0 (sRet (eIf (tBl (eEq cf [(0, 2)] [.non, .bl, .int, .str, .tup, .lst, .dct, .own 0] (eCall cf 2 14 (aCons (eVar 0) (aCons (eLit (.int 2)) aNil))) (eLit (.int 0)))) (eArg bList (aCons (eVar 1) aNil)) (eArg bTuple (aCons (eVar 1) aNil))))) := by
  have T : Tb (cxOf L2.CX0 P w K mg base N17 "_law_given" (defScope (top 16)) ((GG K).fa 17) cdv A outer s H E).nox (GG K) cf (2 * n) := ⟨rfl, ih, hr, rfl⟩
  have nd := sc17.nd
  exact (ss_one (ss_ret (se_if (st_eq T (m_eqt C) (sx_call T rfl (m_f__law_take C) (m_k__law_take C) (sa_cons (se_var (pv 0)) (sa_cons (se_lit pe_int fun _ _ => rfl) sa_nil))) (se_lit pe_int fun _ _ => rfl) (nomark _)) (se_argB (pe_callTy call_list_of rfl (m_b_list C) (by rfl) (sa_cons (se_var (pv 1)) sa_nil)) ok_list) (se_argB (pe_callTy call_tuple_of rfl (m_b_tuple C) (by rfl) (sa_cons (se_var (pv 1)) sa_nil)) ok_tuple))))
theorem ok17 {n : Nat} (C : Ctx K base mg) (ih : All P w K mg base (GG K) TT n) : ∀ np, FnR P w K mg base L2.CX0 (2 * (n + 1)) ((GG K).fa 17) (spF (GG K) (callF TT (n + 1)) 17 np) := by
  obtain ⟨fd, F⟩ := C.says.def_ 17 (d := d17) rfl
  exact def_ok (b := b17) rfl F sc17 rfl rfl (FunD_binds F fun _ _ _ _ _ _ us hl => match us, hl with | [_, _], _ => rfl) fun cdv A outer s H E n0 hr => dv17 C ih cdv A outer s H E n0 hr
abbrev N18 : List Str := ["_law_script", "_law_draw", "_law_turn", "_law_counts_here", "_law_column", "_law_many", "_law_line", "_law_value", "_law_first", "_law_past", "_law_other", "_law_one"]
theorem sc18 : FnScope N18 ["_law_script"] (defScope (top 17)) := ⟨rfl, rfl, rfl, by decide +kernel, rfl, by decide +kernel, by decide +kernel⟩
theorem dv18 {n : Nat} {cf : CF} (C : Ctx K base mg) (ih : ∀ f np, FnR P w K mg base L2.CX0 (2 * n) ((GG K).fa f) (spF (GG K) cf f np)) (cdv : Value) (A : Around) (outer : List PySem.Env) (s : Shared) (H : Hp) (E : XK) (n0 : Nat) (hr : Room (2 * n + 1) (A.deeper (envOfC "law" (defScope (top 17)) s.heap.objs.size ((GG K).fa 18) cdv))) :
    PSs (cxOf L2.CX0 P w K mg base N18 "law" (defScope (top 17)) ((GG K).fa 18) cdv A outer s H E).nox (defBody (top 17)) (rdS (GG K) n0 (sCons (sAsg (gNm 1) (eNew (eLst (aCons (eVar 0) (aCons (eLit (.int 0)) aNil))))) (sCons (sFor (iRg1 (eLit (.int 5))) (gNm 2) (sCons (sAsg (gNm 3) (eCall cf 2 16 (aCons (eVar 1) (aCons (eLit (.int 12)) aNil)))) (sCons (sAsg (gTp [(gNm 4), (gNm 5)]) (eTup (aCons (eMake cf 2 0 1 (aCons (eCall cf 2 17 (aCons (eVar 1) (aCons (eVar 3) aNil))) aNil)) (aCons (eLen cf [(0, 3)] (eVar 3)) aNil)))) (sCons (sIf (tOr (tBl (eNe cf [(0, 2)] [.non, .bl, .int, .str, .tup, .lst, .dct, .own 0] (eFld [0] 0 (eVar 4)) (eArg bTuple (aCons (eVar 3) aNil)))) (tOr (tBl (eNe cf [(0, 2)] [.non, .bl, .int, .str, .tup, .lst, .dct, .own 0] (eLen cf [(0, 3)] (eVar 4)) (eVar 5))) (tBl (eNe cf [(0, 2)] [.non, .bl, .int, .str, .tup, .lst, .dct, .own 0] (eLc (iRg1 (eVar 5)) (gNm 7) [7] tYesP (eIx cf [(0, 4)] (eVar 4) (eVar 7))) (eVar 3))))) (sRet (eLit (.bl false))) sNil) (sCons (sAsg (gNm 6) (eLst aNil)) (sCons (sFor (iRg1 (eVar 5)) (gNm 7) (sAsg (gNm 6) (eBin oCat (eVar 6) (eBin oRep (eLst (aCons (eVar 7) aNil)) (eIx cf [(0, 4)] (eVar 3) (eVar 7)))))) (sCons (sIf (tOr (tBl (eNe cf [(0, 2)] [.non, .bl, .int, .str, .tup, .lst, .dct, .own 0] (eMeth cf 1 7 [(0, 11)] (eVar 4) aNil) (eVar 6))) (tBl (eNe cf [(0, 2)] [.non, .bl, .int, .str, .tup, .lst, .dct, .own 0] (eMeth cf 1 8 [(0, 6)] (eVar 4) aNil) (eLen cf [(0, 3)] (eVar 6))))) (sRet (eLit (.bl false))) sNil) (sCons (sIf (tBl (eNe cf [(0, 2)] [.non, .bl, .int, .str, .tup, .lst, .dct, .own 0] (eMeth cf 1 3 [(0, 7)] (eVar 4) aNil) (eLc (iRg1 (eBin oCat (eVar 5) (eLit (.int 1)))) (gNm 7) [7] tYesP (eLen cf [(0, 3)] (eLc (iSeq (eVar 6)) (gNm 11) [11] (tBl (eBin oLt (eVar 11) (eVar 7))) (eVar 11)))))) (sRet (eLit (.bl false))) sNil) (sCons (sIf (tBl (eNe cf [(0, 2)] [.non, .bl, .int, .str, .tup, .lst, .dct, .own 0] (eMeth cf 1 4 [(0, 9)] (eVar 4) aNil) (eArg bSort (aCons (eArg bDict (aCons (eLc (iSeq (eVar 6)) (gNm 11) [11] tYesP (eTup (aCons (eVar 11) (aCons (eLit (.int 1)) aNil)))) aNil)) aNil)))) (sRet (eLit (.bl false))) sNil) (sCons (sAsg (gNm 8) (eCall cf 2 14 (aCons (eVar 1) (aCons (eVar 5) aNil)))) (sCons (sAsg (gNm 9) (eBin oCat (eBin oCat (eVar 8) (eLit (.int 1))) (eCall cf 2 14 (aCons (eVar 1) (aCons (eBin oSub (eVar 5) (eVar 8)) aNil))))) (sCons (sIf (tBl (eNe cf [(0, 2)] [.non, .bl, .int, .str, .tup, .lst, .dct, .own 0] (eMeth cf 3 5 [(0, 8)] (eVar 4) (aCons (eVar 8) (aCons (eVar 9) aNil))) (eLen cf [(0, 3)] (eLc (iSeq (eVar 6)) (gNm 11) [11] (tBl (eCh oLe oLt (eVar 8) (eVar 11) (eVar 9))) (eVar 11))))) (sRet (eLit (.bl false))) sNil) (sCons (sIf (tBl (eNe cf [(0, 2)] [.non, .bl, .int, .str, .tup, .lst, .dct, .own 0] (eMeth cf 1 6 [(0, 10)] (eVar 4) aNil) (eLen cf [(0, 3)] (eLc (iRg1 (eVar 5)) (gNm 7) [7] (tOr (tBl (eEq cf [(0, 2)] [.non, .bl, .int, .str, .tup, .lst, .dct, .own 0] (eVar 7) (eLit (.int 0)))) (tBl (eNe cf [(0, 2)] [.non, .bl, .int, .str, .tup, .lst, .dct, .own 0] (eIx cf [(0, 4)] (eVar 3) (eVar 7)) (eIx cf [(0, 4)] (eVar 3) (eBin oSub (eVar 7) (eLit (.int 1))))))) (eVar 7))))) (sRet (eLit (.bl false))) sNil) (sCons (sAsg (gNm 10) (eCall cf 2 15 (aCons (eVar 1) (aCons (eLst (aCons (eVar 3) (aCons (eRev (eVar 3)) (aCons (eOr (eSl (eVar 3) pNo (pSo (eUn oNeg (eLit (.int 1))))) (eLst (aCons (eLit (.int 5)) aNil))) (aCons (eIf (tBl (eBin oLt (eVar 5) (eLit (.int 12)))) (eBin oCat (eVar 3) (eLst (aCons (eLit (.int 0)) aNil))) (eVar 3)) (aCons (eArg bSort (aCons (eVar 3) aNil)) aNil)))))) aNil)))) (sIf (tOr (tBl (eNe cf [(0, 2)] [.non, .bl, .int, .str, .tup, .lst, .dct, .own 0] (eEq cf [(0, 2)] [.non, .bl, .int, .str, .tup, .lst, .dct, .own 0] (eVar 4) (eMake cf 2 0 1 (aCons (eVar 10) aNil))) (eEq cf [(0, 2)] [.non, .bl, .int, .str, .tup, .lst, .dct, .own 0] (eVar 3) (eVar 10)))) (tBl (eEq cf [(0, 2)] [.non, .bl, .int, .str, .tup, .lst, .dct, .own 0] (eNe cf [(0, 2)] [.non, .bl, .int, .str, .tup, .lst, .dct, .own 0] (eVar 4) (eMake cf 2 0 1 (aCons (eVar 10) aNil))) (eEq cf [(0, 2)] [.non, .bl, .int, .str, .tup, .lst, .dct, .own 0] (eVar 3) (eVar 10))))) (sRet (eLit (.bl false))) sNil))))))))))))))) (sRet (eLit (.bl true)))))) := by
  have T : Tb (cxOf L2.CX0 P w K mg base N18 "law" (defScope (top 17)) ((GG K).fa 18) cdv A outer s H E).nox (GG K) cf (2 * n) := ⟨rfl, ih, hr, rfl⟩
  have nd := sc18.nd
  exact (ss_cons (ss_asg (ps_asg (toV (se_new (se_lst (sa_cons (se_var (pv 0)) (sa_cons (se_lit pe_int fun _ _ => rfl) sa_nil))))) (pg_name (i := 1) nd rfl (by first | exact Or.inl rfl | exact Or.inr rfl))) (tg_nm 1))
 (ss_cons (ss_for (ps_for PassesOwn.never rfl (si_rng1 rfl (m_b_range C) (se_lit pe_int fun _ _ => rfl)) (pg_name (i := 2) nd rfl (by first | exact Or.inl rfl | exact Or.inr rfl)) (ss_cons (ss_asg (ps_asg (toV (sx_call T rfl (m_f__law_counts C) (m_k__law_counts C) (sa_cons (se_var (pv 1)) (sa_cons (se_lit pe_int fun _ _ => rfl) sa_nil)))) (pg_name (i := 3) nd rfl (by first | exact Or.inl rfl | exact Or.inr rfl))) (tg_nm 3))
 (ss_cons (ss_asg (ps_asg (toV (se_tup (sa_cons (se_make T (m_mk_Column C) rfl (m_c_Column C) (sa_cons (sx_call T rfl (m_f__law_given C) (m_k__law_given C) (sa_cons (se_var (pv 1)) (sa_cons (se_var (pv 3)) sa_nil))) sa_nil)) (sa_cons (se_len T rfl (m_b_len C) (fun p hp => ((m_spc___len__ C) p hp).1) (se_var (pv 3))) sa_nil)))) (pg_tup rfl (pgs_cons (pg_name (i := 4) nd rfl (by first | exact Or.inl rfl | exact Or.inr rfl)) (pgs_cons (pg_name (i := 5) nd rfl (by first | exact Or.inl rfl | exact Or.inr rfl)) pgs_nil)))) (tg_tp (tgs_cons (tg_nm 4) (tgs_cons (tg_nm 5) tgs_nil)) rfl))
 (ss_cons (ss_if (PW.pt (sw_or (st_ne T (m_eqt C) (se_fld (f := 0) rfl (inj 0 (by decide)) (m_fld_counts C) (se_var (pv 4))) (se_argB (pe_callTy call_tuple_of rfl (m_b_tuple C) (by rfl) (sa_cons (se_var (pv 3)) sa_nil)) ok_tuple) (nomark _)) (sw_or (st_ne T (m_eqt C) (se_len T rfl (m_b_len C) (fun p hp => ((m_spc___len__ C) p hp).1) (se_var (pv 4))) (se_var (pv 5)) (nomark _)) (sw_one (st_ne T (m_eqt C) (se_lc (own := [("_law_value", 7)]) rfl nd (si_rng1 rfl (m_b_range C) (se_var (pv 5))) (blk_ok (own := [("_law_value", 7)]) (by kernel_rfl)) (tb_nm 7 (by decide)) (fun _ _ _ _ _ => (pg_name (i := 7) nd rfl (by first | exact Or.inl rfl | exact Or.inr rfl))) (fun _ _ _ _ _ => sts_nil) (fun _ _ _ _ _ => (se_ixG (T.blk _ _ _ _ _) (m_spc___getitem__ C) (se_var (pv 4)) (se_var (pv 7)) (fun _ _ => rfl) (fun _ _ => by with_unfolding_all rfl)))) (se_var (pv 3)) (nomark _)))))) (ss_one (ss_ret (se_lit pe_bl fun _ _ => rfl))) ss_nil)
 (ss_cons (ss_asg (ps_asg (toV (se_lst sa_nil)) (pg_name (i := 6) nd rfl (by first | exact Or.inl rfl | exact Or.inr rfl))) (tg_nm 6))
 (ss_cons (ss_for (ps_for PassesOwn.never rfl (si_rng1 rfl (m_b_range C) (se_var (pv 5))) (pg_name (i := 7) nd rfl (by first | exact Or.inl rfl | exact Or.inr rfl)) (ss_one (ss_asg (ps_asg (toV (se_bin op_catR ok_cat (se_var (pv 6)) (se_bin op_repR ok_rep (se_lst (sa_cons (se_var (pv 7)) sa_nil)) (se_ixG T (m_spc___getitem__ C) (se_var (pv 3)) (se_var (pv 7)) (fun _ _ => rfl) (fun _ _ => by with_unfolding_all rfl))))) (pg_name (i := 6) nd rfl (by first | exact Or.inl rfl | exact Or.inr rfl))) (tg_nm 6)))) (tg_nm 7))
 (ss_cons (ss_if (PW.pt (sw_or (st_ne T (m_eqt C) (se_meth0 (m := 7) T (inj 7 (by decide)) (m_met_sorted_rows C) (se_var (pv 4))) (se_var (pv 6)) (nomark _)) (sw_one (st_ne T (m_eqt C) (se_meth0 (m := 8) T (inj 8 (by decide)) (m_met_rows C) (se_var (pv 4))) (se_len T rfl (m_b_len C) (fun p hp => ((m_spc___len__ C) p hp).1) (se_var (pv 6))) (nomark _))))) (ss_one (ss_ret (se_lit pe_bl fun _ _ => rfl))) ss_nil)
 (ss_cons (ss_if (st_ne T (m_eqt C) (se_meth0 (m := 3) T (inj 3 (by decide)) (m_met_prefixes C) (se_var (pv 4))) (se_lc (own := [("_law_value", 7)]) rfl nd (si_rng1 rfl (m_b_range C) (se_bin op_catR ok_cat (se_var (pv 5)) (se_lit pe_int fun _ _ => rfl))) (blk_ok (own := [("_law_value", 7)]) (by kernel_rfl)) (tb_nm 7 (by decide)) (fun _ _ _ _ _ => (pg_name (i := 7) nd rfl (by first | exact Or.inl rfl | exact Or.inr rfl))) (fun _ _ _ _ _ => sts_nil) (fun _ _ _ _ _ => (se_len (T.blk _ _ _ _ _) rfl (m_b_len C) (fun p hp => ((m_spc___len__ C) p hp).1) (se_lc (own := [("_law_one", 11)]) rfl nd (si_seq rfl (se_var (pv 6))) (blk_ok (own := [("_law_one", 11)]) (by kernel_rfl)) (tb_nm 11 (by decide)) (fun _ _ _ _ _ => (pg_name (i := 11) nd rfl (by first | exact Or.inl rfl | exact Or.inr rfl))) (fun _ _ _ _ _ => (sts_one (st_cmp op_lt ok_lt (se_var (pv 11)) (se_var (pv 7)) (nomark _)))) (fun _ _ _ _ _ => (se_var (pv 11))))))) (nomark _)) (ss_one (ss_ret (se_lit pe_bl fun _ _ => rfl))) ss_nil)
 (ss_cons (ss_if (st_ne T (m_eqt C) (se_meth0 (m := 4) T (inj 4 (by decide)) (m_met_filled C) (se_var (pv 4))) (se_argB (pe_callB (cr_sort rfl) rfl (m_b_sorted C) (by rfl) (sa_cons (se_argB (pe_callTy (cr_dict rfl) rfl (m_b_dict C) (by rfl) (sa_cons (se_lc (own := [("_law_one", 11)]) rfl nd (si_seq rfl (se_var (pv 6))) (blk_ok (own := [("_law_one", 11)]) (by kernel_rfl)) (tb_nm 11 (by decide)) (fun _ _ _ _ _ => (pg_name (i := 11) nd rfl (by first | exact Or.inl rfl | exact Or.inr rfl))) (fun _ _ _ _ _ => sts_nil) (fun _ _ _ _ _ => (se_tup (sa_cons (se_var (pv 11)) (sa_cons (se_lit pe_int fun _ _ => rfl) sa_nil))))) sa_nil)) ok_dict) sa_nil)) ok_sort) (nomark _)) (ss_one (ss_ret (se_lit pe_bl fun _ _ => rfl))) ss_nil)
 (ss_cons (ss_asg (ps_asg (toV (sx_call T rfl (m_f__law_take C) (m_k__law_take C) (sa_cons (se_var (pv 1)) (sa_cons (se_var (pv 5)) sa_nil)))) (pg_name (i := 8) nd rfl (by first | exact Or.inl rfl | exact Or.inr rfl))) (tg_nm 8))
 (ss_cons (ss_asg (ps_asg (toV (se_bin op_catR ok_cat (se_bin op_catR ok_cat (se_var (pv 8)) (se_lit pe_int fun _ _ => rfl)) (sx_call T rfl (m_f__law_take C) (m_k__law_take C) (sa_cons (se_var (pv 1)) (sa_cons (se_bin op_sub ok_sub (se_var (pv 5)) (se_var (pv 8))) sa_nil))))) (pg_name (i := 9) nd rfl (by first | exact Or.inl rfl | exact Or.inr rfl))) (tg_nm 9))
 (ss_cons (ss_if (st_ne T (m_eqt C) (se_meth (m := 5) T (inj 5 (by decide)) (m_met_between C) (se_var (pv 4)) (sa_cons (se_var (pv 8)) (sa_cons (se_var (pv 9)) sa_nil))) (se_len T rfl (m_b_len C) (fun p hp => ((m_spc___len__ C) p hp).1) (se_lc (own := [("_law_one", 11)]) rfl nd (si_seq rfl (se_var (pv 6))) (blk_ok (own := [("_law_one", 11)]) (by kernel_rfl)) (tb_nm 11 (by decide)) (fun _ _ _ _ _ => (pg_name (i := 11) nd rfl (by first | exact Or.inl rfl | exact Or.inr rfl))) (fun _ _ _ _ _ => (sts_one (st_ch op_le ok_le op_lt ok_lt (se_var (pv 8)) (se_var (pv 11)) (se_var (pv 9))))) (fun _ _ _ _ _ => (se_var (pv 11))))) (nomark _)) (ss_one (ss_ret (se_lit pe_bl fun _ _ => rfl))) ss_nil)
 (ss_cons (ss_if (st_ne T (m_eqt C) (se_meth0 (m := 6) T (inj 6 (by decide)) (m_met_steps C) (se_var (pv 4))) (se_len T rfl (m_b_len C) (fun p hp => ((m_spc___len__ C) p hp).1) (se_lc (own := [("_law_value", 7)]) rfl nd (si_rng1 rfl (m_b_range C) (se_var (pv 5))) (blk_ok (own := [("_law_value", 7)]) (by kernel_rfl)) (tb_nm 7 (by decide)) (fun _ _ _ _ _ => (pg_name (i := 7) nd rfl (by first | exact Or.inl rfl | exact Or.inr rfl))) (fun _ _ _ _ _ => (sts_one (PW.pt (sw_or (st_eq (T.blk _ _ _ _ _) (m_eqt C) (se_var (pv 7)) (se_lit pe_int fun _ _ => rfl) (nomark _)) (sw_one (st_ne (T.blk _ _ _ _ _) (m_eqt C) (se_ixG (T.blk _ _ _ _ _) (m_spc___getitem__ C) (se_var (pv 3)) (se_var (pv 7)) (fun _ _ => rfl) (fun _ _ => by with_unfolding_all rfl)) (se_ixG (T.blk _ _ _ _ _) (m_spc___getitem__ C) (se_var (pv 3)) (se_bin op_sub ok_sub (se_var (pv 7)) (se_lit pe_int fun _ _ => rfl)) (fun _ _ => rfl) (fun _ _ => by with_unfolding_all rfl)) (nomark _))))))) (fun _ _ _ _ _ => (se_var (pv 7))))) (nomark _)) (ss_one (ss_ret (se_lit pe_bl fun _ _ => rfl))) ss_nil)
 (ss_cons (ss_asg (ps_asg (toV (sx_call T rfl (m_f__law_pick C) (m_k__law_pick C) (sa_cons (se_var (pv 1)) (sa_cons (se_lst (sa_cons (se_var (pv 3)) (sa_cons (se_rev rfl (se_var (pv 3))) (sa_cons (se_or rfl (se_sl rfl (se_var (pv 3)) so_none (so_some (se_un un_neg ok_neg (se_lit pe_int fun _ _ => rfl)))) (se_one (se_lst (sa_cons (se_lit pe_int fun _ _ => rfl) sa_nil)))) (sa_cons (se_if (st_cmp op_lt ok_lt (se_var (pv 5)) (se_lit pe_int fun _ _ => rfl) (nomark _)) (se_bin op_catR ok_cat (se_var (pv 3)) (se_lst (sa_cons (se_lit pe_int fun _ _ => rfl) sa_nil))) (se_var (pv 3))) (sa_cons (se_argB (pe_callB (cr_sort rfl) rfl (m_b_sorted C) (by rfl) (sa_cons (se_var (pv 3)) sa_nil)) ok_sort) sa_nil)))))) sa_nil)))) (pg_name (i := 10) nd rfl (by first | exact Or.inl rfl | exact Or.inr rfl))) (tg_nm 10))
 (ss_one (ss_if (PW.pt (sw_or (st_ne T (m_eqt C) (se_eq T (m_eqt C) (se_var (pv 4)) (se_make T (m_mk_Column C) rfl (m_c_Column C) (sa_cons (se_var (pv 10)) sa_nil)) (nomark _)) (se_eq T (m_eqt C) (se_var (pv 3)) (se_var (pv 10)) (nomark _)) (nomark _)) (sw_one (st_eq T (m_eqt C) (se_ne T (m_eqt C) (se_var (pv 4)) (se_make T (m_mk_Column C) rfl (m_c_Column C) (sa_cons (se_var (pv 10)) sa_nil)) (nomark _)) (se_eq T (m_eqt C) (se_var (pv 3)) (se_var (pv 10)) (nomark _)) (nomark _))))) (ss_one (ss_ret (se_lit pe_bl fun _ _ => rfl))) ss_nil)))))))))))))))) (tg_nm 2))
 (ss_one (ss_ret (se_lit pe_bl fun _ _ => rfl)))))
theorem ok18 {n : Nat} (C : Ctx K base mg) (ih : All P w K mg base (GG K) TT n) : ∀ np, FnR P w K mg base L2.CX0 (2 * (n + 1)) ((GG K).fa 18) (spF (GG K) (callF TT (n + 1)) 18 np) := by
  obtain ⟨fd, F⟩ := C.says.def_ 18 (d := d18) rfl
  exact def_ok (b := b18) rfl F sc18 rfl rfl (FunD_binds F fun _ _ _ _ _ _ us hl => match us, hl with | [_], _ => rfl) fun cdv A outer s H E n0 hr => dv18 C ih cdv A outer s H E n0 hr
theorem all_ok (C : Ctx K base mg) (n : Nat) : All P w K mg base (GG K) TT n := by
  induction n with
  | zero => exact all_zero
  | succ n ih =>
    intro f np
    match f with
    | 0 => exact ok0 C ih np
    | 1 => exact ok1 C ih np
    | 2 => exact ok2 C ih np
    | 3 => exact ok3 C ih np
    | 4 => exact ok4 C ih np
    | 5 => exact ok5 C ih np
    | 6 => exact ok6 C ih np
    | 7 => exact ok7 C ih np
    | 8 => exact ok8 C ih np
    | 9 => exact ok9 C ih np
    | 10 => exact ok10 C ih np
    | 11 => exact ok11 C ih np
    | 12 => exact ok12 C ih np
    | 13 => exact ok13 C ih np
    | 14 => exact ok14 C ih np
    | 15 => exact ok15 C ih np
    | 16 => exact ok16 C ih np
    | 17 => exact ok17 C ih np
    | 18 => exact ok18 C ih np
    | k + 19 => exact fun A outer s H us vs Q E hr he hv hs => (spF_none (by rfl) hs).elim
theorem lawOk {n : Nat} {fd : FuncData} (C : Ctx K base mg) (F : FunD K d18.name d18.qual d18.params d18.body d18.scope [] [] ((GG K).fa 18) fd) : FnOk P w K mg base L2.CX0 (2 * (n + 1)) ((GG K).fa 18) fd ["_law_script"] (spF (GG K) (callF TT (n + 1)) 18 1) :=
  def_fn (b := b18) rfl F sc18 rfl rfl fun cdv A outer s H E n0 hr => dv18 C (all_ok C n) cdv A outer s H E n0 hr
end
end PX.K01
set_option Elab.async false
set_option linter.all false
set_option maxRecDepth 100000
set_option maxHeartbeats 0
namespace PX.K01
open PySem PySem.Spec PyProof.Rows L2 He PX
abbrev RR : PySem.W.OpenRow := PySem.W.OpenLaw.row PySem.Challenge.rw_bucketsums_k01_whole_columns
abbrev hk : PySem.W.Hook := hookP 6 fb fn
def ob (s : PySem.W.SharedT) : He.AlD := obsPG 6 fb fn (HandSHeadRun.getT s)
theorem ob_eq (s : PySem.W.SharedT) : ob s = hk.obs s.abs := obsPG_eq (HandSHeadRun.getT_eq s)
theorem run (w : World) : HandSHeadRun.RunEq RR (PySem.W.view RR.prog [17]) hk ob 20000 ["SumError", "BadCounts", "BadValue", "BadRange", "MOST_VALUES", "MOST_COUNT", "is_number", "Column", "check_range", "_law_number", "_law_take", "_law_pick", "_law_counts", "_law_given"] w := by
  intro os
  kernel_rfl
end PX.K01
set_option linter.all false
set_option maxRecDepth 100000
namespace PX
open PySem
/-! the evaluator's equations, for simp -/
section
variable (env : Env) (S : Store)
@[simp] theorem q_lit (v : PV) : eLit v env S = .ok (false, v) S := (rfl)
theorem q_var (i : Nat) : eVar i env S = match env[i]? with
  | some (some v) => .ok (false, v) S
  | _ => .no := (rfl)
@[simp] theorem q_un (o : Op1) (a : SE) : eUn o a env S = (a env S).bind fun p S1 => ofO (o p.2 S1) S1 := (rfl)
@[simp] theorem q_bin (o : Op2) (a b : SE) : eBin o a b env S = (a env S).bind fun p S1 => (b env S1).bind fun q S2 => ofO (o p.2 q.2 S2) S2 := (rfl)
@[simp] theorem q_nil : aNil env S = .ok [] S := (rfl)
@[simp] theorem q_cons (a : SE) (r : SA) : aCons a r env S = (a env S).bind fun p S1 => (r env S1).bind fun q S2 => .ok (p.2 :: q) S2 := (rfl)
@[simp] theorem q_arg (o : OpN) (a : SA) : eArg o a env S = (a env S).bind fun p S1 => ofO (o p S1) S1 := (rfl)
@[simp] theorem q_tup (a : SA) : eTup a env S = (a env S).bind fun p S1 => if small p.length then .ok (false, .tup p) S1 else .no := (rfl)
@[simp] theorem q_lst (a : SA) : eLst a env S = (a env S).bind fun p S1 => if small p.length then .ok (true, .lst p) S1 else .no := (rfl)
@[simp] theorem q_tru (a : SE) : tTru a env S = (a env S).bind fun p S1 => match truth S1 p.2 with
  | some b => .ok b S1
  | none => .no := (rfl)
@[simp] theorem q_tbl (a : SE) : tBl a env S = (a env S).bind fun p S1 => match p.2 with
  | .bl b => .ok b S1
  | _ => .no := (rfl)
@[simp] theorem q_tno (a : ST) : tNo a env S = (a env S).bind fun b S1 => .ok (!b) S1 := (rfl)
@[simp] theorem q_tan (a b : ST) : tAn a b env S = (a env S).bind fun c S1 => if c = true then b env S1 else .ok false S1 := (rfl)
@[simp] theorem q_tor (a b : ST) : tOr a b env S = (a env S).bind fun c S1 => if c = true then .ok true S1 else b env S1 := (rfl)
@[simp] theorem q_ean (a b : SE) : eAn a b env S = (a env S).bind fun p S1 => match truth S1 p.2 with
  | some true => b env S1
  | some false => .ok (false, p.2) S1
  | none => .no := (rfl)
@[simp] theorem q_eor (a b : SE) : eOr a b env S = (a env S).bind fun p S1 => match truth S1 p.2 with
  | some true => .ok (false, p.2) S1
  | some false => b env S1
  | none => .no := (rfl)
@[simp] theorem q_not (a : SE) : eNot a env S = (a env S).bind fun p S1 => match truth S1 p.2 with
  | some b => .ok (false, .bl (!b)) S1
  | none => .no := (rfl)
@[simp] theorem q_if (c : ST) (a b : SE) : eIf c a b env S = (c env S).bind fun t S1 => if t = true then a env S1 else b env S1 := (rfl)
@[simp] theorem q_ch (o o' : Op2) (a b c : SE) : eCh o o' a b c env S = (a env S).bind fun p S1 => (b env S1).bind fun q S2 => match o p.2 q.2 S2 with
  | some (false, .bl true) => (c env S2).bind fun z S3 => ofO (o' q.2 z.2 S3) S3
  | some (false, .bl false) => .ok (false, .bl false) S2
  | _ => .no := (rfl)
@[simp] theorem q_new (a : SE) : eNew a env S = (a env S).bind fun p S1 => match p.1 with
  | true => .ok (false, .ref S1.length) (S1 ++ [p.2])
  | false => .ok p S1 := (rfl)
@[simp] theorem q_scons (a b : SS) : sCons a b env S = (a env S).then b := (rfl)
@[simp] theorem q_snil : sNil env S = .nx env S := (rfl)
@[simp] theorem q_sexp (a : SE) : sExp a env S = (a env S).go fun _ S1 => .nx env S1 := (rfl)
@[simp] theorem q_sret (a : SE) : sRet a env S = (a env S).go fun p S1 => .rt p.2 S1 := (rfl)
@[simp] theorem q_sif (c : ST) (a b : SS) : sIf c a b env S = (c env S).go fun t S1 => if t = true then a env S1 else b env S1 := (rfl)
@[simp] theorem q_sasg (t : Tg) (a : SE) : sAsg t a env S = (a env S).go fun p S1 => match t p.2 env S1 with
  | some env' => .nx env' S1
  | none => .no := (rfl)
@[simp] theorem q_gnm (i : Nat) (v : PV) : gNm i v env S = some (env.set i (some v)) := (rfl)
@[simp] theorem q_spar (is : List Nat) (a : SA) : sPar is a env S = (a env S).go fun vs S1 => match gTps (is.map gNm) vs env S1 with
  | some env' => .nx env' S1
  | none => .no := (rfl)
@[simp] theorem q_len (cf : CF) (tb : List (Nat × Nat)) (a : SE) : eLen cf tb a env S = (a env S).bind fun p S1 => match ownOf tb S1 p.2 with
  | some f => (callV cf f [p.2] S1).bind lenI
  | none => ofO (bLen [p.2] S1) S1 := (rfl)
@[simp] theorem q_eq (cf : CF) (tb : List (Nat × Nat)) (tys : List TyN) (a b : SE) : eEq cf tb tys a b env S = (a env S).bind fun p S1 => (b env S1).bind fun q S2 => match ownOf tb S2 p.2 with
  | some f => if okTy tys S2 q.2 then callV cf f [p.2, q.2] S2 else .no
  | none => ofO (oEq p.2 q.2 S2) S2 := (rfl)
@[simp] theorem q_ne (cf : CF) (tb : List (Nat × Nat)) (tys : List TyN) (a b : SE) : eNe cf tb tys a b env S = (a env S).bind fun p S1 => (b env S1).bind fun q S2 => match ownOf tb S2 p.2 with
  | some f => if okTy tys S2 q.2 then (callV cf f [p.2, q.2] S2).bind notI else .no
  | none => ofO (oNe p.2 q.2 S2) S2 := (rfl)
@[simp] theorem q_ix (cf : CF) (tb : List (Nat × Nat)) (a b : SE) : eIx cf tb a b env S = (a env S).bind fun p S1 => (b env S1).bind fun q S2 => match ownOf tb S2 p.2 with
  | some f => callV cf f [p.2, q.2] S2
  | none => match dIx p.2 q.2 S2 with
    | some z => .ok z S2
    | none => ofO (oIx p.2 q.2 S2) S2 := (rfl)
@[simp] theorem q_call (cf : CF) (np f : Nat) (a : SA) : eCall cf np f a env S = (a env S).bind fun args S1 => if args.length = np then callV cf f args S1 else .no := (rfl)
@[simp] theorem q_sl (a : SE) (lo hi : SO) : eSl a lo hi env S = (a env S).bind fun p S1 => (lo env S1).bind fun l S2 => (hi env S2).bind fun u S3 => ofO (slP l u p.2 S3) S3 := (rfl)
@[simp] theorem q_pno : pNo env S = .ok none S := (rfl)
@[simp] theorem q_pso (a : SE) : pSo a env S = (a env S).bind fun p S1 => match p.2 with
  | .int i => .ok (some i) S1
  | _ => .no := (rfl)
@[simp] theorem q_rev (a : SE) : eRev a env S = (a env S).bind fun p S1 => match lstOf S1 p.2 with
  | some xs => .ok (true, .lst xs.reverse) S1
  | none => .no := (rfl)
@[simp] theorem q_fld (cs : List Nat) (f : Nat) (a : SE) : eFld cs f a env S = (a env S).bind fun p S1 => ofO ((fldOf cs f S1 p.2).map fun w => (false, w)) S1 := (rfl)
@[simp] theorem q_isi (tb : List (TyN × Bool)) (a : SE) : eIsi tb a env S = (a env S).bind fun p S1 => ofO (match tyN S1 p.2 with
  | some t => (tb.lookup t).map fun b => (false, .bl b)
  | none => none) S1 := (rfl)
end
@[simp] theorem q_ofO_some (z : Bool × PV) (S : Store) : ofO (some z) S = .ok z S := (rfl)
@[simp] theorem q_ofO_none (S : Store) : ofO none S = .no := (rfl)
@[simp] theorem d_int (S : Store) (i : Int) : deref S (.int i) = some (.int i) := (rfl)
@[simp] theorem d_bl (S : Store) (i : Bool) : deref S (.bl i) = some (.bl i) := (rfl)
@[simp] theorem d_lst (S : Store) (xs : List PV) : deref S (.lst xs) = some (.lst xs) := (rfl)
@[simp] theorem d_tup (S : Store) (xs : List PV) : deref S (.tup xs) = some (.tup xs) := (rfl)
@[simp] theorem d_ins (S : Store) (c : Nat) (ns : List Nat) (xs : List PV) : deref S (.ins c ns xs) = some (.ins c ns xs) := (rfl)
@[simp] theorem d_dct (S : Store) (ks : DKs) (xs : List PV) : deref S (.dct ks xs) = some (.dct ks xs) := (rfl)
@[simp] theorem d_ref (S : Store) (i : Nat) : deref S (.ref i) = match S[i]? with
  | some o => some (unl o)
  | none => none := rfl
/-! calls -/
def fin : RS → R PV
  | .rt v S => .ok v S
  | .nx _ S => .ok .non S
  | .ex c p S => .ex c p S
  | _ => .no
@[simp] theorem fin_rt (v : PV) (S : Store) : fin (.rt v S) = .ok v S := (rfl)
@[simp] theorem fin_nx (e : Env) (S : Store) : fin (.nx e S) = .ok .non S := (rfl)
@[simp] theorem fin_no : fin .no = .no := (rfl)
theorem call_succ {T : Nat → Option FnB} {n f : Nat} {b : FnB} {args : List PV} {n0 : Nat} {S : Store} (h : T f = some b) (hl : args.length = b.np) : callF T (n + 1) f args n0 S = fin (b.body (callF T n) n0 (args.map some ++ List.replicate (b.nl - b.np) none) S) := by
  show (match T f with
    | some b => runB b (callF T n) args n0 S
    | none => R.no) = _
  rw [h]
  show runB b (callF T n) args n0 S = _
  unfold runB
  rw [if_pos hl]
  cases b.body (callF T n) n0 (args.map some ++ List.replicate (b.nl - b.np) none) S <;> rfl
theorem lk_cons (t a : TyN) (b : Bool) (tb : List (TyN × Bool)) : ((a, b) :: tb).lookup t = if t = a then some b else tb.lookup t := by
  rw [List.lookup_cons]
  by_cases h : t = a
  · rw [h, beq_self_eq_true, if_pos rfl]
  · rw [beq_false_of_ne h, if_neg h]
theorem callV_same {cf : CF} {f : Nat} {args : List PV} {S S' : Store} {v : PV} (h : cf f args S.length S = .ok v S') (hl : S'.length = S.length) : callV cf f args S = .ok (false, v) S' := by
  unfold callV
  rw [h]
  show norm S.length v S' = _
  unfold norm
  rw [if_pos hl]
end PX
namespace PX.K01
open PySem PX
/-! is_number of an int -/
theorem is_number_int (n n0 : Nat) (S : Store) (v lo hi : Int) : callF TT (n + 1) 0 [.int v, .int lo, .int hi] n0 S = .ok (.bl (decide (lo ≤ v ∧ v ≤ hi))) S := by
  rw [call_succ (b := b0) rfl rfl]
  show fin (b0.body (callF TT n) n0 [some (.int v), some (.int lo), some (.int hi)] S) = _
  unfold b0
  simp [q_var, tyN, truth, oLe, lk_cons]
  by_cases h1 : lo ≤ v
  · simp [h1]
  · simp [h1]
/-! what the column holds -/
abbrev col (cs : List Int) : PV := .ins 0 [0] [.tup (cs.map .int)]
theorem rows_ok (n n0 : Nat) (S : Store) (cs : List Int) : callF TT (n + 1) 6 [col cs] n0 S = .ok (.int cs.sum) S := by
  rw [call_succ (b := b6) rfl rfl]
  show fin (b6.body (callF TT n) n0 [some (col cs)] S) = _
  unfold b6
  have hi : intsOf (cs.map .int) = some cs := by
    induction cs with
    | nil => rfl
    | cons c cs ih =>
      show (intsOf (cs.map .int)).map (c :: ·) = _
      rw [ih]
      rfl
  simp [q_var, fldOf, bSum, itemsOf, hi]
theorem len_ok (n n0 : Nat) (S : Store) (cs : List Int) : callF TT (n + 1) 3 [col cs] n0 S = .ok (.int cs.length) S := by
  rw [call_succ (b := b3) rfl rfl]
  show fin (b3.body (callF TT n) n0 [some (col cs)] S) = _
  unfold b3
  simp [q_var, fldOf, ownOf, bLen]
end PX.K01
set_option linter.all false
set_option maxRecDepth 100000
namespace PX
open PySem
theorem intsOf_map (ns : List Int) : intsOf (ns.map .int) = some ns := by
  induction ns with
  | nil => rfl
  | cons c cs ih =>
    show (intsOf (cs.map .int)).map (c :: ·) = _
    rw [ih]
    rfl
theorem toDL_ints (S : Store) (k : Nat) (ns : List Int) : toDL (toD S (k + 1)) (ns.map .int) = some (ns.map .int) := by
  induction ns with
  | nil => rfl
  | cons c cs ih =>
    show (match toD S (k + 1) (.int c) with
      | some d => match toDL (toD S (k + 1)) (cs.map .int) with
        | some ds => some (d :: ds)
        | none => none
      | none => none) = _
    rw [ih]
    rfl
theorem eqv_ints : ∀ a b : List Int, PyData.eqvAll (a.map .int) (b.map .int) = decide (a = b) := by
  intro a
  induction a with
  | nil =>
    intro b
    cases b with
    | nil => rfl
    | cons y ys => rfl
  | cons x xs ih =>
    intro b
    cases b with
    | nil => rfl
    | cons y ys =>
      show (PyData.eqv (.int x) (.int y) && PyData.eqvAll (xs.map .int) (ys.map .int)) = _
      rw [ih]
      show ((x == y) && decide (xs = ys)) = _
      by_cases h : x = y
      · by_cases h2 : xs = ys
        · simp [h, h2]
        · simp [h, h2]
      · simp [h]
theorem toD_lst (S : Store) (k : Nat) (ns : List Int) : toD S (k + 2) (.lst (ns.map .int)) = some (.list (ns.map .int)) := by
  show (toDL (toD S (k + 1)) (ns.map .int)).map PyData.list = _
  rw [toDL_ints]
  rfl
theorem toD_tup (S : Store) (k : Nat) (ns : List Int) : toD S (k + 2) (.tup (ns.map .int)) = some (.tuple (ns.map .int)) := by
  show (toDL (toD S (k + 1)) (ns.map .int)).map PyData.tuple = _
  rw [toDL_ints]
  rfl
theorem eqD_lst (S : Store) (a b : List Int) : eqD S (.lst (a.map .int)) (.lst (b.map .int)) = some (decide (a = b)) := by
  unfold eqD
  rw [toD_lst S 4, toD_lst S 4]
  exact congrArg some (eqv_ints a b)
theorem eqD_tup (S : Store) (a b : List Int) : eqD S (.tup (a.map .int)) (.tup (b.map .int)) = some (decide (a = b)) := by
  unfold eqD
  rw [toD_tup S 4, toD_tup S 4]
  exact congrArg some (eqv_ints a b)
theorem eqD_int (S : Store) (a b : Int) : eqD S (.int a) (.int b) = some (decide (a = b)) := by
  show some (a == b) = _
  by_cases h : a = b
  · simp [h]
  · simp [h]
theorem eqD_bl (S : Store) (a b : Bool) : eqD S (.bl a) (.bl b) = some (decide (a = b)) := by
  cases a <;> cases b <;> rfl
theorem ownOf_lst (tb : List (Nat × Nat)) (S : Store) (xs : List PV) : ownOf tb S (.lst xs) = none := (rfl)
theorem ownOf_tup (tb : List (Nat × Nat)) (S : Store) (xs : List PV) : ownOf tb S (.tup xs) = none := (rfl)
theorem ownOf_int (tb : List (Nat × Nat)) (S : Store) (i : Int) : ownOf tb S (.int i) = none := (rfl)
theorem ownOf_bl (tb : List (Nat × Nat)) (S : Store) (i : Bool) : ownOf tb S (.bl i) = none := (rfl)
theorem dIx_lst (S : Store) (xs : List PV) (y : PV) : dIx (.lst xs) y S = none := (rfl)
theorem dIx_tup (S : Store) (xs : List PV) (y : PV) : dIx (.tup xs) y S = none := (rfl)
theorem cut_all (xs : List PV) (h : xs.length ≤ 63) : cutP xs none (some 63) = xs := by
  show (xs.drop 0).take (min 63 xs.length - 0) = xs
  rw [List.drop_zero, Nat.min_eq_right h, Nat.sub_zero, List.take_length]
theorem oIx_lst (S : Store) (ns : List Int) (i : Int) (h0 : 0 ≤ i) (h1 : i < ns.length) : ∃ c, oIx (.lst (ns.map .int)) (.int i) S = some (false, .int c) ∧ ns[i.toNat]? = some c := by
  have hl : i.toNat < ns.length := by omega
  refine ⟨ns[i.toNat], ?_, List.getElem?_eq_getElem hl⟩
  show (match itemsOf S (.lst (ns.map .int)) with
    | some xs => match ixP xs.length i with
      | some j => match xs[j]? with
        | some v => some (false, v)
        | none => none
      | none => none
    | none => none) = _
  have e1 : itemsOf S (.lst (ns.map .int)) = some (ns.map .int) := rfl
  have e2 : ixP (ns.map PV.int).length i = some i.toNat := by
    unfold ixP
    rw [if_pos h0, if_pos (by rw [List.length_map]; exact h1)]
  have e3 : (ns.map PV.int)[i.toNat]? = some (.int ns[i.toNat]) := by
    rw [List.getElem?_map, List.getElem?_eq_getElem hl]
    rfl
  simp only [e1, e2, e3]
theorem mulOk_l {i j : Int} (h1 : -18446744073709551616 < i) (h2 : i < 18446744073709551616) : mulOk i j = true := by
  unfold mulOk
  simp [h1, h2]
theorem mulOk_r {i j : Int} (h1 : -18446744073709551616 < j) (h2 : j < 18446744073709551616) : mulOk i j = true := by
  unfold mulOk
  simp [h1, h2]
theorem rep_int (i j : Int) (S : Store) (h : mulOk i j = true) : oRep (.int i) (.int j) S = some (false, .int (i * j)) := by
  show (if mulOk i j then some (false, PV.int (i * j)) else none) = _
  rw [if_pos h]
theorem rep_l (i j : Int) (S : Store) (h1 : -18446744073709551616 < i) (h2 : i < 18446744073709551616) : oRep (.int i) (.int j) S = some (false, .int (i * j)) := rep_int i j S (mulOk_l h1 h2)
theorem rep_r (i j : Int) (S : Store) (h1 : -18446744073709551616 < j) (h2 : j < 18446744073709551616) : oRep (.int i) (.int j) S = some (false, .int (i * j)) := rep_int i j S (mulOk_r h1 h2)
theorem rep_m (a j : Int) (S : Store) : oRep (.int (a % 2147483647)) (.int j) S = some (false, .int (a % 2147483647 * j)) := rep_l _ _ S (by omega) (by omega)
theorem cat_int (i j : Int) (S : Store) : oCat (.int i) (.int j) S = some (false, .int (i + j)) := (rfl)
theorem mod_int (i j : Int) (S : Store) (h : 0 < j) : oMod (.int i) (.int j) S = some (false, .int (i % j)) := by
  show (if 0 < j then some (false, PV.int (i % j)) else none) = _
  rw [if_pos h]
theorem div_int (i j : Int) (S : Store) (h : 0 < j) (h2 : j < 1073741824) : oDiv (.int i) (.int j) S = some (false, .int (i / j)) := by
  show (if 0 < j ∧ j < 1073741824 then some (false, PV.int (i / j)) else none) = _
  rw [if_pos ⟨h, h2⟩]
theorem bInt_int (i : Int) (S : Store) : bInt [.int i] S = some (false, .int i) := (rfl)
theorem bLen_lst (xs : List PV) (S : Store) : bLen [.lst xs] S = some (false, .int xs.length) := (rfl)
theorem bLen_tup (xs : List PV) (S : Store) : bLen [.tup xs] S = some (false, .int xs.length) := (rfl)
theorem bSum_lst (ns : List Int) (S : Store) : bSum [.lst (ns.map .int)] S = some (false, .int ns.sum) := by
  show (intsOf (ns.map .int)).map _ = _
  rw [intsOf_map]
  rfl
theorem bSum_tup (ns : List Int) (S : Store) : bSum [.tup (ns.map .int)] S = some (false, .int ns.sum) := by
  show (intsOf (ns.map .int)).map _ = _
  rw [intsOf_map]
  rfl
end PX
namespace PX.K01
open PySem PX
/-! the number of a script at a place -/
theorem number_ok (n n0 : Nat) (S : Store) (ns : List Int) (k : Int) (hn : ns.length ≤ 63) : ∃ x, callF TT (n + 1) 13 [.lst (ns.map .int), .int k] n0 S = .ok (.int x) S := by
  obtain ⟨cells, hc, hne, hl⟩ : ∃ cells : List Int, (if ns = [] then PV.lst ([5].map .int) else .lst (ns.map .int)) = .lst (cells.map .int) ∧ cells ≠ [] ∧ cells.length ≤ 63 := by
    by_cases h : ns = []
    · exact ⟨[5], by rw [if_pos h], by simp, by simp⟩
    · exact ⟨ns, by rw [if_neg h], h, hn⟩
  have hpos : 0 < cells.length := List.length_pos_iff.mpr hne
  obtain ⟨c, e1, _⟩ := oIx_lst S cells (k % cells.length) (Int.emod_nonneg _ (by omega)) (Int.emod_lt_of_pos _ (by omega))
  have he : eNe (callF TT n) [(0, 2)] [.non, .bl, .int, .str, .tup, .lst, .dct, .own 0] (eVar 0) (eLst aNil) [some (.lst (ns.map .int)), some (.int k), none, none, none, none, none, none] S = .ok (false, .bl (!decide (ns = []))) S := by
    simp [q_var, ownOf_lst, small]
    show ofO (oNe (.lst (ns.map .int)) (.lst (List.map .int [])) S) S = _
    unfold oNe
    rw [eqD_lst]
    rfl
  rw [call_succ (b := b13) rfl rfl]
  show ∃ x, fin (b13.body (callF TT n) n0 [some (.lst (ns.map .int)), some (.int k), none, none, none, none, none, none] S) = _
  unfold b13
  have hcell : eIf (tBl (eNe (callF TT n) [(0, 2)] [.non, .bl, .int, .str, .tup, .lst, .dct, .own 0] (eVar 0) (eLst aNil))) (eSl (eVar 0) pNo (pSo (eLit (.int 63)))) (eLst (aCons (eLit (.int 5)) aNil)) [some (.lst (ns.map .int)), some (.int k), none, none, none, none, none, none] S = .ok (true, .lst (cells.map .int)) S := by
    rw [q_if, q_tbl, he]
    by_cases h : ns = []
    · rw [if_pos h] at hc
      simp [h, small]
      exact (PV.lst.inj hc)
    · rw [if_neg h] at hc
      simp [h, q_var, slP]
      rw [cut_all _ (by rw [List.length_map]; exact hn)]
      exact (PV.lst.inj hc)
  simp only [q_scons, q_sasg, hcell, R.go_ok, q_gnm, RS.then_nx]
  simp [q_var, ownOf_lst, dIx_lst, bLen_lst, bInt_int, gTps]
  rw [mod_int _ _ _ (by omega)]
  simp [e1, dIx_lst]
  rw [div_int _ _ _ (by omega) (by omega)]
  simp [cat_int, rep_l, mod_int, div_int, q_var, bInt_int, gTps]
  simp [cat_int, rep_l, rep_r, mod_int, div_int, q_var, bInt_int, gTps, bSum_lst, rep_m]
/-! the draw: its list in the store -/
abbrev DD (ns : List Int) (k : Nat) : PV := .lst [.lst (ns.map .int), .int k]
theorem take_ok (n n0 : Nat) (R : Store) (ns : List Int) (k : Nat) (many : Int) (hn : ns.length ≤ 63) (hm : 0 < many) :
    ∃ v, 0 ≤ v ∧ v < many ∧ callF TT (n + 2) 14 [.ref 0, .int many] n0 (DD ns k :: R) = .ok (.int v) (DD ns (k + 1) :: R) := by
  obtain ⟨x, hx⟩ := number_ok n (DD ns (k + 1) :: R).length (DD ns (k + 1) :: R) ns (k + 1) hn
  refine ⟨x % many, Int.emod_nonneg _ (by omega), Int.emod_lt_of_pos _ hm, ?_⟩
  rw [call_succ (b := b14) rfl rfl]
  show fin (b14.body (callF TT (n + 1)) n0 [some (.ref 0), some (.int many)] (DD ns k :: R)) = _
  unfold b14
  have hs : sSetI (setL n0) (eVar 0) (eLit (.int 1)) (eBin oCat (eIx (callF TT (n + 1)) [(0, 4)] (eVar 0) (eLit (.int 1))) (eLit (.int 1))) [some (.ref 0), some (.int many)] (DD ns k :: R) = .nx [some (.ref 0), some (.int many)] (DD ns (k + 1) :: R) := by
    unfold sSetI
    simp [q_var, ownOf, unl, dIx, oIx, itemsOf, ixP, cat_int, setL, mayPut, noref]
  simp only [q_scons, hs, RS.then_nx]
  have hv : callV (callF TT (n + 1)) 13 [.lst (ns.map .int), .int (k + 1)] (DD ns (k + 1) :: R) = .ok (false, .int x) (DD ns (k + 1) :: R) := callV_same hx rfl
  simp [q_var, ownOf, unl, dIx, oIx, itemsOf, ixP, bInt_int]
  rw [hv]
  simp [bInt_int, mod_int, hm]
end PX.K01
set_option linter.all false
set_option maxRecDepth 100000
set_option maxHeartbeats 1000000
namespace PX
open PySem
section
variable (env : Env) (S : Store)
@[simp] theorem q_sfor (i : SI) (t : Tg) (b : SS) : sFor i t b env S = (i env S).go fun p S1 => (forR t b p.1 env S1).unl p.2 := (rfl)
@[simp] theorem q_rg1 (a : SE) : iRg1 a env S = (a env S).bind fun p S1 => match p.2 with
  | .int j => if okRg j then .ok (rngL 0 j.toNat, []) S1 else .no
  | _ => .no := (rfl)
@[simp] theorem q_lm (f : PV → PV → Store → Option Store) (o a : SE) : eLm f o a env S = (o env S).bind fun p S1 => if isL S1 p.2 then (a env S1).bind fun q S2 => match f p.2 q.2 S2 with
    | some S3 => .ok (false, .non) S3
    | none => .no
  else .no := (rfl)
@[simp] theorem q_forN (t : Tg) (b : SS) : forR t b [] env S = .nx env S := (rfl)
theorem q_forC (t : Tg) (b : SS) (x : PV) (xs : List PV) : forR t b (x :: xs) env S = match t x env S with
    | none => .no
    | some env' => match b env' S with
      | .nx e S' => forR t b xs e S'
      | .ct e S' => forR t b xs e S'
      | .bk e S' => .nx e S'
      | z => z := (rfl)
@[simp] theorem q_unl0 (z : RS) : z.unl [] = z := by cases z <;> rfl
end
theorem map_snoc (acc : List Int) (c : Int) : acc.map PV.int ++ [.int c] = (acc ++ [c]).map .int := by simp
end PX
namespace PX.K01
open PySem PX
theorem takeV (n : Nat) (R : Store) (ns : List Int) (k : Nat) (many : Int) (hn : ns.length ≤ 63) (hm : 0 < many) :
    ∃ v, 0 ≤ v ∧ v < many ∧ callV (callF TT (n + 2)) 14 [.ref 0, .int many] (DD ns k :: R) = .ok (false, .int v) (DD ns (k + 1) :: R) := by
  obtain ⟨v, h1, h2, h3⟩ := take_ok n (DD ns k :: R).length R ns k many hn hm
  exact ⟨v, h1, h2, callV_same h3 rfl⟩
/-! one more count -/
abbrev dig (c : Int) : Prop := 0 ≤ c ∧ c ≤ 9
noncomputable abbrev body16 (cf : CF) (n0 : Nat) : SS := (sCons (sAsg (gNm 4) (eIf (tBl (eEq cf [(0, 2)] [.non, .bl, .int, .str, .tup, .lst, .dct, .own 0] (eCall cf 2 14 (aCons (eVar 0) (aCons (eLit (.int 3)) aNil))) (eLit (.int 0)))) (eCall cf 2 14 (aCons (eVar 0) (aCons (eLit (.int 10)) aNil))) (eCall cf 2 14 (aCons (eVar 0) (aCons (eLit (.int 4)) aNil))))) (sExp (eLm (appL n0) (eVar 2) (eIf (tAn (tBl (eNe cf [(0, 2)] [.non, .bl, .int, .str, .tup, .lst, .dct, .own 0] (eVar 2) (eLst aNil))) (tBl (eEq cf [(0, 2)] [.non, .bl, .int, .str, .tup, .lst, .dct, .own 0] (eCall cf 2 14 (aCons (eVar 0) (aCons (eLit (.int 4)) aNil))) (eLit (.int 0))))) (eIx cf [(0, 4)] (eVar 2) (eUn oNeg (eLit (.int 1)))) (eVar 4)))))
theorem oEq_int (a b : Int) (S : Store) : oEq (.int a) (.int b) S = some (false, .bl (decide (a = b))) := by
  unfold oEq
  rw [eqD_int]
  rfl
theorem eqD_r1 (X : PV) (acc bs : List Int) : eqD [X, .lst (acc.map .int)] (.ref 1) (.lst (bs.map .int)) = some (decide (acc = bs)) := by
  have e : toD [X, .lst (acc.map .int)] 6 (.ref 1) = some (.list (acc.map .int)) := by
    show (toDL (toD [X, .lst (acc.map .int)] 5) (acc.map .int)).map PyData.list = _
    rw [toDL_ints]
    rfl
  unfold eqD
  rw [e, toD_lst _ 4]
  exact congrArg some (eqv_ints acc bs)
theorem step16 (n : Nat) (ns : List Int) (hn : ns.length ≤ 63) (k : Nat) (acc : List Int) (ha : ∀ c ∈ acc, dig c) (hs : acc.length ≤ 1000) (most : Int) (a b : Option PV) :
    ∃ k' c b', dig c ∧ body16 (callF TT (n + 2)) 1 [some (.ref 0), some (.int most), some (.ref 1), a, b] [DD ns k, .lst (acc.map .int)] = .nx [some (.ref 0), some (.int most), some (.ref 1), a, b'] [DD ns k', .lst ((acc ++ [c]).map .int)] := by
  -- the drawn count
  obtain ⟨k1, c1, hc1, e1⟩ : ∃ k1 c1, dig c1 ∧ eIf (tBl (eEq (callF TT (n + 2)) [(0, 2)] [.non, .bl, .int, .str, .tup, .lst, .dct, .own 0] (eCall (callF TT (n + 2)) 2 14 (aCons (eVar 0) (aCons (eLit (.int 3)) aNil))) (eLit (.int 0)))) (eCall (callF TT (n + 2)) 2 14 (aCons (eVar 0) (aCons (eLit (.int 10)) aNil))) (eCall (callF TT (n + 2)) 2 14 (aCons (eVar 0) (aCons (eLit (.int 4)) aNil)))
      [some (.ref 0), some (.int most), some (.ref 1), a, b] [DD ns k, .lst (acc.map .int)] = .ok (false, .int c1) [DD ns k1, .lst (acc.map .int)] := by
    obtain ⟨v, h1, h2, h3⟩ := takeV n [.lst (acc.map .int)] ns k 3 hn (by omega)
    obtain ⟨v2, g1, g2, g3⟩ := takeV n [.lst (acc.map .int)] ns (k + 1) 10 hn (by omega)
    obtain ⟨v3, f1, f2, f3⟩ := takeV n [.lst (acc.map .int)] ns (k + 1) 4 hn (by omega)
    by_cases hv : v = 0
    · exact ⟨k + 1 + 1, v2, ⟨g1, by omega⟩, by simp [q_var, h3, ownOf_int, oEq_int, hv, g3]⟩
    · exact ⟨k + 1 + 1, v3, ⟨f1, by omega⟩, by simp [q_var, h3, ownOf_int, oEq_int, hv, f3]⟩
  -- what is appended
  obtain ⟨k2, c2, hc2, e2⟩ : ∃ k2 c2, dig c2 ∧ eIf (tAn (tBl (eNe (callF TT (n + 2)) [(0, 2)] [.non, .bl, .int, .str, .tup, .lst, .dct, .own 0] (eVar 2) (eLst aNil))) (tBl (eEq (callF TT (n + 2)) [(0, 2)] [.non, .bl, .int, .str, .tup, .lst, .dct, .own 0] (eCall (callF TT (n + 2)) 2 14 (aCons (eVar 0) (aCons (eLit (.int 4)) aNil))) (eLit (.int 0))))) (eIx (callF TT (n + 2)) [(0, 4)] (eVar 2) (eUn oNeg (eLit (.int 1)))) (eVar 4)
      [some (.ref 0), some (.int most), some (.ref 1), a, some (.int c1)] [DD ns k1, .lst (acc.map .int)] = .ok (false, .int c2) [DD ns k2, .lst (acc.map .int)] := by
    have hne : oNe (.ref 1) (.lst []) [DD ns k1, .lst (acc.map .int)] = some (false, .bl (!decide (acc = []))) := by
      unfold oNe
      show (eqD _ _ (.lst (List.map PV.int []))).map _ = _
      rw [eqD_r1]
      rfl
    by_cases h : acc = []
    · subst h
      exact ⟨k1, c1, hc1, by simp at hne; simp [q_var, ownOf, unl, small, hne]⟩
    · obtain ⟨v, h1, h2, h3⟩ := takeV n [.lst (acc.map .int)] ns k1 4 hn (by omega)
      by_cases hv : v = 0
      · have hpos : 0 < acc.length := List.length_pos_iff.mpr h
        have hl : acc.length - 1 < acc.length := by omega
        refine ⟨k1 + 1, acc[acc.length - 1], ha _ (List.getElem_mem hl), ?_⟩
        have hix : oIx (.ref 1) (.int (-1)) [DD ns (k1 + 1), .lst (acc.map .int)] = some (false, .int acc[acc.length - 1]) := by
          have e1 : itemsOf [DD ns (k1 + 1), .lst (acc.map .int)] (.ref 1) = some (acc.map .int) := rfl
          have e2 : ixP (acc.map PV.int).length (-1) = some (acc.length - 1) := by
            unfold ixP
            rw [if_neg (by omega), List.length_map, if_pos (by omega)]
            congr 1
            omega
          have e3 : (acc.map PV.int)[acc.length - 1]? = some (.int acc[acc.length - 1]) := by
            rw [List.getElem?_map, List.getElem?_eq_getElem hl]
            rfl
          unfold oIx
          simp only [e1, e2, e3]
        simp [q_var, ownOf, unl, small, hne, h, h3, oEq_int, hv, oNeg, dIx, hix]
      · exact ⟨k1 + 1, c1, hc1, by simp [q_var, ownOf, unl, small, hne, h, h3, oEq_int, hv]⟩
  refine ⟨k2, c2, some (.int c1), hc2, ?_⟩
  have hsm : small acc.length = true := by
    unfold small
    exact Nat.ble_eq_true_of_le (by omega)
  have hv : eVar 2 [some (.ref 0), some (.int most), some (.ref 1), a, some (.int c1)] [DD ns k1, .lst (acc.map .int)] = .ok (false, .ref 1) [DD ns k1, .lst (acc.map .int)] := rfl
  have hil : isL [DD ns k1, .lst (acc.map .int)] (.ref 1) = true := rfl
  have hap : appL 1 (.ref 1) (.int c2) [DD ns k2, .lst (acc.map .int)] = some [DD ns k2, .lst ((acc ++ [c2]).map .int)] := by
    unfold appL
    simp [mayPut, hsm]
  simp only [q_scons, q_sasg, e1, R.go_ok, q_gnm, RS.then_nx, List.set, q_sexp, q_lm, hv, R.bind_ok, hil, if_true, e2, hap]
theorem loop16 (n : Nat) (ns : List Int) (hn : ns.length ≤ 63) (most : Int) : ∀ (m : Nat) (lo : Int) (k : Nat) (acc : List Int) (a b : Option PV), (∀ c ∈ acc, dig c) → acc.length + m ≤ 1000 →
    ∃ (k' : Nat) (acc' : List Int) (a' b' : Option PV), acc'.length = acc.length + m ∧ (∀ c ∈ acc', dig c) ∧ forR (gNm 3) (body16 (callF TT (n + 2)) 1) (rngL lo m) [some (.ref 0), some (.int most), some (.ref 1), a, b] [DD ns k, .lst (acc.map .int)] = .nx [some (.ref 0), some (.int most), some (.ref 1), a', b'] [DD ns k', .lst (acc'.map .int)]
  | 0, lo, k, acc, a, b, ha, hl => ⟨k, acc, a, b, rfl, ha, rfl⟩
  | m + 1, lo, k, acc, a, b, ha, hl => by
    obtain ⟨k1, c, b1, hc, e1⟩ := step16 n ns hn k acc ha (by omega) most (some (.int lo)) b
    obtain ⟨k2, acc', a', b', h1, h2, h3⟩ := loop16 n ns hn most m (lo + 1) k1 (acc ++ [c]) (some (.int lo)) b1 (fun x hx => by
      rcases List.mem_append.mp hx with hx | hx
      · exact ha x hx
      · rw [List.mem_singleton.mp hx]; exact hc) (by rw [List.length_append]; simp; omega)
    refine ⟨k2, acc', a', b', by rw [h1, List.length_append]; simp; omega, h2, ?_⟩
    show forR (gNm 3) (body16 (callF TT (n + 2)) 1) (.int lo :: rngL (lo + 1) m) _ _ = _
    rw [q_forC]
    show (match body16 (callF TT (n + 2)) 1 [some (.ref 0), some (.int most), some (.ref 1), some (.int lo), b] [DD ns k, .lst (acc.map .int)] with
      | .nx e S' => forR (gNm 3) (body16 (callF TT (n + 2)) 1) (rngL (lo + 1) m) e S'
      | .ct e S' => forR (gNm 3) (body16 (callF TT (n + 2)) 1) (rngL (lo + 1) m) e S'
      | .bk e S' => .nx e S'
      | z => z) = _
    rw [e1]
    exact h3
end PX.K01
namespace PX
open PySem
theorem frzL_ints (n0 t : Nat) (S : Store) (k : Nat) (ns : List Int) : frzL (frz n0 t S (k + 1)) (ns.map .int) = some (ns.map .int) := by
  induction ns with
  | nil => rfl
  | cons c cs ih =>
    show (match frz n0 t S (k + 1) (.int c) with
      | some w => match frzL (frz n0 t S (k + 1)) (cs.map .int) with
        | some ws => some (w :: ws)
        | none => none
      | none => none) = _
    rw [ih]
    rfl
end PX
namespace PX.K01
open PySem PX
theorem counts_ok (n : Nat) (ns : List Int) (hn : ns.length ≤ 63) (k : Nat) (most : Int) (h0 : 0 < most) (h1 : most ≤ 500) :
    ∃ (k' : Nat) (cs : List Int), 1 ≤ cs.length ∧ (cs.length : Int) ≤ most ∧ (∀ c ∈ cs, dig c) ∧ callV (callF TT (n + 3)) 16 [.ref 0, .int most] [DD ns k] = .ok (true, .lst (cs.map .int)) [DD ns k'] := by
  obtain ⟨v, g0, g1, g2⟩ := takeV n [.lst []] ns k most hn h0
  obtain ⟨k', cs, a', b', e1, e2, e3⟩ := loop16 n ns hn most (1 + v).toNat 0 (k + 1) [] none none (fun c hc => absurd hc (by simp)) (by simp; omega)
  have hlen : cs.length = (1 + v).toNat := by rw [e1]; simp
  refine ⟨k', cs, by omega, by omega, e2, ?_⟩
  have hcall : callF TT (n + 3) 16 [.ref 0, .int most] 1 [DD ns k] = .ok (.ref 1) [DD ns k', .lst (cs.map .int)] := by
    rw [call_succ (b := b16) rfl rfl]
    show fin (b16.body (callF TT (n + 2)) 1 [some (.ref 0), some (.int most), none, none, none] [DD ns k]) = _
    unfold b16
    have hr : okRg (1 + v) = true := by
      unfold okRg
      simp
      omega
    have hf : sFor (iRg1 (eBin oCat (eLit (.int 1)) (eCall (callF TT (n + 2)) 2 14 (aCons (eVar 0) (aCons (eVar 1) aNil))))) (gNm 3) (body16 (callF TT (n + 2)) 1) [some (.ref 0), some (.int most), some (.ref 1), none, none] [DD ns k, .lst []] = .nx [some (.ref 0), some (.int most), some (.ref 1), a', b'] [DD ns k', .lst (cs.map .int)] := by
      rw [q_sfor]
      simp only [q_rg1, q_bin, q_lit, R.bind_ok, q_call, q_cons, q_nil]
      simp only [q_var]
      simp only [List.getElem?_cons_zero, List.getElem?_cons_succ, R.bind_ok, List.length_cons, List.length_nil, if_true, g2, cat_int, q_ofO_some, hr, R.go_ok]
      rw [List.map_nil] at e3
      rw [e3]
      rfl
    have h0' : sAsg (gNm 2) (eNew (eLst aNil)) [some (.ref 0), some (.int most), none, none, none] [DD ns k] = .nx [some (.ref 0), some (.int most), some (.ref 1), none, none] [DD ns k, .lst []] := rfl
    simp only [q_scons, h0', RS.then_nx]
    rw [show sFor (iRg1 (eBin oCat (eLit (.int 1)) (eCall (callF TT (n + 2)) 2 14 (aCons (eVar 0) (aCons (eVar 1) aNil))))) (gNm 3) _ [some (.ref 0), some (.int most), some (.ref 1), none, none] [DD ns k, .lst []] = _ from hf]
    rfl
  unfold callV
  rw [show ([DD ns k] : Store).length = 1 from rfl, hcall]
  show norm 1 (.ref 1) [DD ns k', .lst (cs.map .int)] = _
  show (match frzO (frz 1 1 [DD ns k', .lst (cs.map .int)] 8) (.lst (cs.map .int)) with
    | some w => R.ok (true, w) [DD ns k']
    | none => .no) = _
  show (match (frzL (frz 1 1 [DD ns k', .lst (cs.map .int)] 8) (cs.map .int)).map PV.lst with
    | some w => R.ok (true, w) [DD ns k']
    | none => .no) = _
  rw [frzL_ints]
  rfl
end PX.K01
set_option linter.all false
set_option maxRecDepth 100000
set_option maxHeartbeats 1000000
namespace PX
open PySem
theorem compR_map {α : Type} {t : Tg} {c : ST} {e : SE} {env : Env} {S : Store} (g f : α → PV) (p : α → Bool) (en : α → Env) : ∀ (l : List α), (∀ x ∈ l, t (g x) env S = some (en x)) → (∀ x ∈ l, c (en x) S = .ok (p x) S) → (∀ x ∈ l, p x = true → ∃ b, e (en x) S = .ok (b, f x) S) →
    ∀ acc : List PV, acc.length + l.length ≤ 100000 → compR t c e (l.map g) env acc S = .ok (acc ++ (l.filter p).map f) S
  | [], _, _, _, acc, _ => by simp [compR]
  | x :: l, ht, hc, he, acc, hl => by
    have ih := compR_map g f p en l (fun y hy => ht y (List.mem_cons_of_mem _ hy)) (fun y hy => hc y (List.mem_cons_of_mem _ hy)) (fun y hy => he y (List.mem_cons_of_mem _ hy))
    simp only [List.length_cons] at hl
    show (match t (g x) env S with
      | none => R.no
      | some env' => (c env' S).bind fun b S1 => if b = true then (e env' S1).bind fun q S2 => if small acc.length then compR t c e (l.map g) env (acc ++ [q.2]) S2 else .no
        else compR t c e (l.map g) env acc S1) = _
    rw [ht x List.mem_cons_self]
    simp only [hc x List.mem_cons_self, R.bind_ok]
    cases hp : p x with
    | false =>
      rw [if_neg (by simp), ih acc (by omega), List.filter_cons_of_neg (by simp [hp])]
    | true =>
      obtain ⟨b, hb⟩ := he x List.mem_cons_self hp
      have hs : small acc.length = true := by
        unfold small
        exact Nat.ble_eq_true_of_le (by omega)
      rw [if_pos rfl, hb]
      simp only [R.bind_ok, hs, if_true]
      rw [ih (acc ++ [f x]) (by simp; omega), List.filter_cons_of_pos hp]
      simp
@[simp] theorem q_lc (i : SI) (t : Tg) (vs : List Nat) (c : ST) (e : SE) (env : Env) (S : Store) : eLc i t vs c e env S = (i env S).bind fun p S1 => (compR t c e p.1 (wipeE env vs) [] S1).bind fun acc S2 => .ok (true, .lst acc) (unlock p.2 S2) := (rfl)
@[simp] theorem q_seq (a : SE) (env : Env) (S : Store) : iSeq a env S = (a env S).bind fun p S1 => match lockS p.2 S1 with
  | some z => .ok (z.1, z.2.1) z.2.2
  | none => .no := (rfl)
theorem blsOf_true {α : Type} (l : List α) : blsOf (l.map fun _ => PV.bl true) = some (l.map fun _ => true) := by
  induction l with
  | nil => rfl
  | cons x l ih =>
    show (blsOf (l.map fun _ => PV.bl true)).map (true :: ·) = _
    rw [ih]
    rfl
/-! a list or a tuple of ints -/
def sq (b : Bool) (ns : List Int) : PV := bif b then .tup (ns.map .int) else .lst (ns.map .int)
end PX
namespace PX.K01
open PySem PX
theorem given_ok (n : Nat) (ns : List Int) (hn : ns.length ≤ 63) (k : Nat) (cs : List Int) : ∃ k' b, callV (callF TT (n + 3)) 17 [.ref 0, .lst (cs.map .int)] [DD ns k] = .ok (false, sq b cs) [DD ns k'] := by
  obtain ⟨v, g0, g1, g2⟩ := takeV n [] ns k 2 hn (by omega)
  have key : ∃ b, callF TT (n + 3) 17 [.ref 0, .lst (cs.map .int)] 1 [DD ns k] = .ok (sq b cs) [DD ns (k + 1)] := by
    rw [call_succ (b := b17) rfl rfl]
    show ∃ b, fin (b17.body (callF TT (n + 2)) 1 [some (.ref 0), some (.lst (cs.map .int))] [DD ns k]) = _
    unfold b17
    by_cases h : v = 0
    · refine ⟨false, ?_⟩
      simp [q_var, g2, ownOf_int, oEq_int, h, bList, itemsOf, sq]
    · refine ⟨true, ?_⟩
      simp [q_var, g2, ownOf_int, oEq_int, h, bTuple, itemsOf, sq]
  obtain ⟨b, hb⟩ := key
  exact ⟨k + 1, b, callV_same hb rfl⟩
theorem isnumV (n : Nat) (S : Store) (v lo hi : Int) : callV (callF TT (n + 1)) 0 [.int v, .int lo, .int hi] S = .ok (false, .bl (decide (lo ≤ v ∧ v ≤ hi))) S := callV_same (is_number_int n S.length S v lo hi) rfl
theorem init_ok (n : Nat) (D : PV) (b : Bool) (cs : List Int) (h1 : 1 ≤ cs.length) (h2 : cs.length ≤ 12) (hd : ∀ c ∈ cs, dig c) :
    callF TT (n + 2) 1 [.ref 1, sq b cs] 1 [D, .ins 0 [] []] = .ok .non [D, col cs] := by
  rw [call_succ (b := b1) rfl rfl]
  show fin (b1.body (callF TT (n + 1)) 1 [some (.ref 1), some (sq b cs), none] [D, .ins 0 [] []]) = _
  have hs : small cs.length = true := by
    unfold small
    exact Nat.ble_eq_true_of_le (by omega)
  have hall : ∀ env : Env, env = [some (.ref 1), some (sq b cs), none] → compR (gNm 2) tYesP (eCall (callF TT (n + 1)) 3 0 (aCons (eVar 2) (aCons (eLit (.int 0)) (aCons (eLit (.int 9)) aNil)))) (cs.map .int) env [] [D, .ins 0 [] []] = .ok (cs.map fun _ => .bl true) [D, .ins 0 [] []] := by
    intro env he
    subst he
    rw [compR_map (fun c => PV.int c) (fun _ => .bl true) (fun _ => true) (fun c => [some (.ref 1), some (sq b cs), some (.int c)]) cs (fun x hx => rfl) (fun x hx => rfl) (fun x hx _ => ⟨false, ?_⟩) [] (by simp; omega)]
    · rw [show cs.filter (fun _ => true) = cs from List.filter_eq_self.mpr fun _ _ => rfl, List.nil_append]
    · have := hd x hx
      simp [q_var, isnumV, this.1, this.2]
  unfold b1
  cases b with
  | true =>
    have hall := hall [some (.ref 1), some (sq true cs), none] rfl
    simp only [sq, cond_true] at hall ⊢
    have e1 : (1 : Int) ≤ cs.length := by omega
    have e2 : (cs.length : Int) ≤ 12 := by omega
    simp [q_var, tyN, truth, lk_cons, ownOf_tup, bLen_tup, oLe, e1, e2]
    simp [q_var, lockS, wipeE, hall, bAll, lstOf, blsOf_true, truth, unlock]
    simp [q_var, sFld, bTuple, itemsOf, mayPut, putFld]
  | false =>
    have hall := hall [some (.ref 1), some (sq false cs), none] rfl
    simp only [sq, cond_false] at hall ⊢
    have e1 : (1 : Int) ≤ cs.length := by omega
    have e2 : (cs.length : Int) ≤ 12 := by omega
    simp [q_var, tyN, truth, lk_cons, ownOf_lst, bLen_lst, oLe, e1, e2]
    simp [q_var, lockS, wipeE, hall, bAll, lstOf, blsOf_true, truth, unlock]
    simp [q_var, sFld, bTuple, itemsOf, mayPut, putFld]
end PX.K01
set_option linter.all false
set_option maxRecDepth 100000
set_option maxHeartbeats 1000000
namespace PX
open PySem
theorem rngL_map : ∀ (n : Nat) (lo : Int), rngL lo n = (List.range n).map fun (i : Nat) => PV.int (lo + i)
  | 0, lo => rfl
  | n + 1, lo => by
    show PV.int lo :: rngL (lo + 1) n = _
    rw [rngL_map n (lo + 1), List.range_succ_eq_map, List.map_cons, List.map_map]
    congr 1
    · simp
    · refine List.map_congr_left fun i _ => ?_
      show PV.int (lo + 1 + (i : Int)) = PV.int (lo + ((i + 1 : Nat) : Int))
      congr 1
      omega
theorem rngL_map0 (n : Nat) : rngL 0 n = (List.range n).map fun (i : Nat) => PV.int i := by
  rw [rngL_map]
  exact List.map_congr_left fun i _ => by rw [Int.zero_add]
theorem enumL_map : ∀ (ns : List Int) (k : Nat), enumL k (ns.map .int) = (ns.zipIdx k).map fun p => PV.tup [.int (p.2 : Nat), .int p.1]
  | [], k => rfl
  | x :: ns, k => by
    show PV.tup [.int k, .int x] :: enumL ((k : Int) + 1) (ns.map .int) = _
    rw [show ((k : Int) + 1) = ((k + 1 : Nat) : Int) by omega, enumL_map ns (k + 1)]
    rfl
theorem zipL_map : ∀ (a b : List Int), zipL (a.map .int) (b.map .int) = (a.zip b).map fun p => PV.tup [.int p.1, .int p.2]
  | [], b => rfl
  | x :: a, [] => rfl
  | x :: a, y :: b => by
    show PV.tup [.int x, .int y] :: zipL (a.map .int) (b.map .int) = _
    rw [zipL_map a b]
    rfl
theorem cutP_map (ns : List Int) (lo hi : Option Int) : cutP (ns.map .int) lo hi = ((ns.drop (sIxP ns.length 0 lo)).take (sIxP ns.length ns.length hi - sIxP ns.length 0 lo)).map .int := by
  unfold cutP
  rw [List.length_map, List.map_take, List.map_drop]
theorem sIx_nat (n d x : Nat) (h : x ≤ n) : sIxP n d (some (x : Int)) = x := by
  show (if (x : Int) < 0 then ((x : Int) + n).toNat else min (x : Int).toNat n) = x
  rw [if_neg (by omega)]
  omega
theorem cut_take (cs : List Int) (x : Nat) (h : x ≤ cs.length) : cutP (cs.map .int) none (some (x : Int)) = (cs.take x).map .int := by
  rw [cutP_map, sIx_nat _ _ _ h]
  show ((cs.drop 0).take (x - 0)).map PV.int = _
  rw [List.drop_zero, Nat.sub_zero]
theorem cut_mid (cs : List Int) (x y : Nat) (h : x ≤ cs.length) (h2 : y ≤ cs.length) : cutP (cs.map .int) (some (x : Int)) (some (y : Int)) = ((cs.drop x).take (y - x)).map .int := by
  rw [cutP_map, sIx_nat _ _ _ h, sIx_nat _ _ _ h2]
theorem cut_drop (cs : List Int) (x : Nat) (h : x ≤ cs.length) : cutP (cs.map .int) (some (x : Int)) none = (cs.drop x).map .int := by
  rw [cutP_map, sIx_nat _ _ _ h]
  show ((cs.drop x).take (cs.length - x)).map PV.int = _
  rw [List.take_of_length_le (by rw [List.length_drop]; exact Nat.le_refl _)]
end PX
namespace PX.K01
open PySem PX
theorem lenV (n : Nat) (S : Store) (cs : List Int) : callV (callF TT (n + 1)) 3 [col cs] S = .ok (false, .int cs.length) S := callV_same (len_ok n S.length S cs) rfl
theorem makeV (n : Nat) (D : PV) (b : Bool) (cs : List Int) (h1 : 1 ≤ cs.length) (h2 : cs.length ≤ 12) (hd : ∀ c ∈ cs, dig c) (cf : CF) (hcf : cf = callF TT (n + 2)) (a : SA) (env : Env) (S0 : Store) (ha : a env S0 = .ok [sq b cs] [D]) :
    eMake cf 2 0 1 a env S0 = .ok (true, col cs) [D] := by
  subst hcf
  unfold eMake
  rw [ha]
  show ((cutX 1 (callF TT (n + 2) 1 [.ref 1, sq b cs] 1 [D, .ins 0 [] []])).bind fun v S2 => match v with
    | .non => norm 1 (.ref 1) S2
    | _ => .no) = _
  rw [init_ok n D b cs h1 h2 hd]
  show norm 1 (.ref 1) [D, col cs] = _
  show (match (frzL (frz 1 1 [D, col cs] 8) [.tup (cs.map .int)]).map (PV.ins 0 [0]) with
    | some w => R.ok (true, w) [D]
    | none => .no) = _
  have e : frzL (frz 1 1 [D, col cs] 8) [.tup (cs.map .int)] = some [.tup (cs.map .int)] := by
    show (match (frzL (frz 1 1 [D, col cs] 7) (cs.map .int)).map PV.tup with
      | some w => some [w]
      | none => none) = _
    rw [frzL_ints]
    rfl
  rw [e]
  rfl
theorem eqc_ok (n n0 : Nat) (S : Store) (a b : List Int) : callF TT (n + 1) 2 [col a, col b] n0 S = .ok (.bl (decide (a = b))) S := by
  rw [call_succ (b := b2) rfl rfl]
  show fin (b2.body (callF TT n) n0 [some (col a), some (col b)] S) = _
  unfold b2
  have h : oEq (.tup (a.map .int)) (.tup (b.map .int)) S = some (false, .bl (decide (a = b))) := by
    unfold oEq
    rw [eqD_tup]
    rfl
  simp [q_var, tyN, truth, lk_cons, fldOf, ownOf_tup, h]
theorem eqcV (n : Nat) (S : Store) (a b : List Int) : callV (callF TT (n + 1)) 2 [col a, col b] S = .ok (false, .bl (decide (a = b))) S := callV_same (eqc_ok n S.length S a b) rfl
theorem oIx_tup (S : Store) (ns : List Int) (i : Int) (h0 : 0 ≤ i) (h1 : i < ns.length) : ∃ c, oIx (.tup (ns.map .int)) (.int i) S = some (false, .int c) ∧ ns[i.toNat]? = some c := by
  have hl : i.toNat < ns.length := by omega
  refine ⟨ns[i.toNat], ?_, List.getElem?_eq_getElem hl⟩
  have e1 : itemsOf S (.tup (ns.map .int)) = some (ns.map .int) := rfl
  have e2 : ixP (ns.map PV.int).length i = some i.toNat := by
    unfold ixP
    rw [if_pos h0, if_pos (by rw [List.length_map]; exact h1)]
  have e3 : (ns.map PV.int)[i.toNat]? = some (.int ns[i.toNat]) := by
    rw [List.getElem?_map, List.getElem?_eq_getElem hl]
    rfl
  unfold oIx
  simp only [e1, e2, e3]
theorem item_ok (n n0 : Nat) (S : Store) (cs : List Int) (i : Int) (h0 : 0 ≤ i) (h1 : i < cs.length) : ∃ c, callF TT (n + 2) 4 [col cs, .int i] n0 S = .ok (.int c) S ∧ cs[i.toNat]? = some c := by
  obtain ⟨c, e1, e2⟩ := oIx_tup S cs i h0 h1
  refine ⟨c, ?_, e2⟩
  rw [call_succ (b := b4) rfl rfl]
  show fin (b4.body (callF TT (n + 1)) n0 [some (col cs), some (.int i)] S) = _
  unfold b4
  have h2 : i ≤ (cs.length : Int) - 1 := by omega
  simp [q_var, fldOf, ownOf_tup, bLen_tup, oSub, isnumV, truth, h0, h2, dIx_tup, e1]
theorem pre_item (S : Store) (cs : List Int) (x : Nat) (hx : x < cs.length + 1) : eArg bSum (aCons (eSl (eFld [0] 0 (eVar 0)) pNo (pSo (eVar 1))) aNil) [some (col cs), some (.int x)] S = .ok (false, .int (cs.take x).sum) S := by
  have e : slP none (some (x : Int)) (.tup (cs.map .int)) S = some (false, .tup ((cs.take x).map .int)) := by
    show some (false, PV.tup (cutP (cs.map .int) none (some (x : Int)))) = _
    rw [cut_take cs x (by omega)]
  have e0 : eFld [0] 0 (eVar 0) [some (col cs), some (.int x)] S = .ok (false, .tup (cs.map .int)) S := rfl
  have e1 : eVar 1 [some (col cs), some (.int x)] S = .ok (false, .int x) S := rfl
  simp only [q_arg, q_cons, q_sl, q_pno, q_pso, q_nil, e0, e1, R.bind_ok, e, q_ofO_some, bSum_tup]
theorem pre_comp (S : Store) (cs : List Int) (hl : cs.length ≤ 1000) : compR (gNm 1) tYesP (eArg bSum (aCons (eSl (eFld [0] 0 (eVar 0)) pNo (pSo (eVar 1))) aNil)) ((List.range (cs.length + 1)).map fun (i : Nat) => PV.int i) [some (col cs), none] [] S = .ok ([] ++ ((List.range (cs.length + 1)).filter fun _ => true).map fun p => .int (cs.take p).sum) S := by
  refine compR_map (fun (i : Nat) => PV.int i) (fun p => .int (cs.take p).sum) (fun _ => true) (fun (i : Nat) => [some (col cs), some (.int i)]) (List.range (cs.length + 1)) (fun x hx => rfl) (fun x hx => rfl) (fun x hx _ => ⟨false, pre_item S cs x (List.mem_range.mp hx)⟩) [] ?_
  rw [List.length_range, List.length_nil]
  omega
theorem okRg_small {j : Int} (h0 : 0 ≤ j) (h1 : j < 1000000) : okRg j = true := by
  unfold okRg
  rw [decide_eq_true (by omega), decide_eq_true (by omega)]
  rfl
theorem len1_rg (m : Nat) (hl : m ≤ 1000) : okRg ((m : Int) + 1) = true := okRg_small (by omega) (by omega)
theorem rg1_val (a : SE) (env : Env) (S : Store) (b : Bool) (m : Nat) (hl : m ≤ 1000) (ha : a env S = .ok (b, .int ((m : Int) + 1)) S) : iRg1 a env S = .ok ((List.range (m + 1)).map fun (i : Nat) => PV.int i, []) S := by
  have hn : ((m : Int) + 1).toNat = m + 1 := by omega
  rw [q_rg1, ha, R.bind_ok]
  simp only [len1_rg m hl, if_true, hn, rngL_map0]
theorem pre_len (n : Nat) (S : Store) (cs : List Int) : eBin oCat (eLen (callF TT n) [(0, 3)] (eFld [0] 0 (eVar 0))) (eLit (.int 1)) [some (col cs), none] S = .ok (false, .int ((cs.length : Int) + 1)) S := by
  have e0 : eFld [0] 0 (eVar 0) [some (col cs), none] S = .ok (false, .tup (cs.map .int)) S := rfl
  rw [q_bin, q_len, e0]
  show ofO (oCat (.int ((cs.map PV.int).length : Nat)) (.int 1) S) S = _
  rw [List.length_map, cat_int]
  rfl
theorem pre_rng (n : Nat) (S : Store) (cs : List Int) (hl : cs.length ≤ 1000) : iRg1 (eBin oCat (eLen (callF TT n) [(0, 3)] (eFld [0] 0 (eVar 0))) (eLit (.int 1))) [some (col cs), none] S = .ok ((List.range (cs.length + 1)).map fun (i : Nat) => PV.int i, []) S :=
  rg1_val _ _ S _ cs.length hl (pre_len n S cs)
theorem prefixes_ok (n n0 : Nat) (S : Store) (cs : List Int) (hl : cs.length ≤ 1000) : callF TT (n + 2) 7 [col cs] n0 S = .ok (.lst (((List.range (cs.length + 1)).map fun p => (cs.take p).sum).map .int)) S := by
  rw [call_succ (b := b7) rfl rfl]
  show fin (b7.body (callF TT (n + 1)) n0 [some (col cs), none] S) = _
  unfold b7
  simp only [q_sret, q_lc, pre_rng (n + 1) S cs hl, R.bind_ok]
  rw [show wipeE [some (col cs), none] [1] = [some (col cs), none] from rfl, pre_comp S cs hl, List.filter_eq_self.mpr (fun _ _ => rfl), List.nil_append, List.map_map]
  rfl
end PX.K01
set_option linter.all false
set_option maxRecDepth 100000
set_option maxHeartbeats 1000000
namespace PX
open PySem
@[simp] theorem q_enu (a : SE) (env : Env) (S : Store) : iEnu a env S = (a env S).bind fun p S1 => match lockS p.2 S1 with
  | some z => .ok (enumL 0 z.1, z.2.1) z.2.2
  | none => .no := (rfl)
@[simp] theorem q_zip (a b : SE) (env : Env) (S : Store) : iZip a b env S = (a env S).bind fun p S1 => (b env S1).bind fun q S2 => match lockS p.2 S2 with
  | some z => match lockS q.2 z.2.2 with
    | some y => .ok (zipL z.1 y.1, y.2.1 ++ z.2.1) y.2.2
    | none => .no
  | none => .no := (rfl)
theorem enu_val (a : SE) (env : Env) (S : Store) (b : Bool) (ns : List Int) (ha : a env S = .ok (b, .tup (ns.map .int)) S) : iEnu a env S = .ok (ns.zipIdx.map fun p => PV.tup [.int (p.2 : Nat), .int p.1], []) S := by
  rw [q_enu, ha, R.bind_ok]
  have e : enumL 0 (ns.map .int) = _ := enumL_map ns 0
  show R.ok (enumL 0 (ns.map .int), []) S = _
  rw [e]
theorem zip_val (a b : SE) (env : Env) (S : Store) (k k' : Bool) (ns ms : List Int) (ha : a env S = .ok (k, .tup (ns.map .int)) S) (hb : b env S = .ok (k', .tup (ms.map .int)) S) : iZip a b env S = .ok ((ns.zip ms).map fun p => PV.tup [.int p.1, .int p.2], []) S := by
  rw [q_zip, ha, R.bind_ok, hb, R.bind_ok]
  show R.ok (zipL (ns.map .int) (ms.map .int), []) S = _
  rw [zipL_map]
/-! a comprehension, its source at hand -/
theorem lc_val {α : Type} {i : SI} {t : Tg} {vs : List Nat} {c : ST} {e : SE} {env : Env} {S : Store} (l : List α) (g f : α → PV) (p : α → Bool) (en : α → Env) (hi : i env S = .ok (l.map g, []) S) (hl : l.length ≤ 100000)
    (ht : ∀ x ∈ l, t (g x) (wipeE env vs) S = some (en x)) (hc : ∀ x ∈ l, c (en x) S = .ok (p x) S) (he : ∀ x ∈ l, p x = true → ∃ b, e (en x) S = .ok (b, f x) S) : eLc i t vs c e env S = .ok (true, .lst ((l.filter p).map f)) S := by
  rw [q_lc, hi, R.bind_ok]
  simp only [compR_map g f p en l ht hc he [] (by rw [List.length_nil]; omega), R.bind_ok, List.nil_append]
  rfl
end PX
namespace PX.K01
open PySem PX
theorem filled_ok (n n0 : Nat) (S : Store) (cs : List Int) (hl : cs.length ≤ 1000) : callF TT (n + 1) 9 [col cs] n0 S = .ok (.lst ((cs.zipIdx.filter fun p => decide (0 < p.1)).map fun p => .int (p.2 : Nat))) S := by
  rw [call_succ (b := b9) rfl rfl]
  show fin (b9.body (callF TT n) n0 [some (col cs), none, none] S) = _
  unfold b9
  have e0 : eFld [0] 0 (eVar 0) [some (col cs), none, none] S = .ok (false, .tup (cs.map .int)) S := rfl
  have e := lc_val (t := gTp [gNm 1, gNm 2]) (vs := [1, 2]) (c := tBl (eBin oGt (eVar 2) (eLit (.int 0)))) (e := eVar 1) cs.zipIdx (fun p => PV.tup [.int (p.2 : Nat), .int p.1]) (fun p => .int (p.2 : Nat)) (fun p => decide (0 < p.1)) (fun p => [some (col cs), some (.int (p.2 : Nat)), some (.int p.1)]) (enu_val _ _ S _ cs e0) (by rw [List.length_zipIdx]; omega)
    (fun x hx => rfl) (fun x hx => rfl) (fun x hx _ => ⟨false, rfl⟩)
  simp only [q_sret, e, R.go_ok]
  rfl
theorem oNe_int (a b : Int) (S : Store) : oNe (.int a) (.int b) S = some (false, .bl (!decide (a = b))) := by
  unfold oNe
  rw [eqD_int]
  rfl
theorem steps_ok (n n0 : Nat) (S : Store) (cs : List Int) (h1 : 1 ≤ cs.length) (hl : cs.length ≤ 1000) : callF TT (n + 1) 10 [col cs] n0 S = .ok (.int (1 + (((cs.zip (cs.drop 1)).filter fun p => !decide (p.1 = p.2)).length : Nat))) S := by
  rw [call_succ (b := b10) rfl rfl]
  show fin (b10.body (callF TT n) n0 [some (col cs), none, none] S) = _
  unfold b10
  have e0 : eFld [0] 0 (eVar 0) [some (col cs), none, none] S = .ok (false, .tup (cs.map .int)) S := rfl
  have e1 : eSl (eFld [0] 0 (eVar 0)) (pSo (eLit (.int 1))) pNo [some (col cs), none, none] S = .ok (false, .tup ((cs.drop 1).map .int)) S := by
    rw [q_sl, e0]
    show ofO (some (false, PV.tup (cutP (cs.map .int) (some ((1 : Nat) : Int)) none))) S = _
    rw [cut_drop cs 1 h1]
    rfl
  have hz : (cs.zip (cs.drop 1)).length ≤ 100000 := by
    rw [List.length_zip]
    have := Nat.min_le_left cs.length (cs.drop 1).length
    omega
  have e := lc_val (t := gTp [gNm 1, gNm 2]) (vs := [1, 2]) (c := tBl (eNe (callF TT n) [(0, 2)] [.non, .bl, .int, .str, .tup, .lst, .dct, .own 0] (eVar 1) (eVar 2))) (e := eVar 1) (cs.zip (cs.drop 1)) (fun p => PV.tup [.int p.1, .int p.2]) (fun p => .int p.1) (fun p => !decide (p.1 = p.2)) (fun p => [some (col cs), some (.int p.1), some (.int p.2)]) (zip_val _ _ _ S _ _ cs (cs.drop 1) e0 e1) hz
    (fun x hx => rfl) (fun x hx => by simp [q_var, ownOf_int, oNe_int]) (fun x hx _ => ⟨false, rfl⟩)
  simp only [q_sret, q_bin, q_len, e, R.bind_ok, q_lit, ownOf_lst, bLen_lst, q_ofO_some, cat_int, R.go_ok, List.length_map, fin_rt]
theorem sorted_loop (n : Nat) (D : PV) (cs0 : List Int) : ∀ (l : List (Int × Nat)) (acc : List Int) (a b : Option PV), (∀ p ∈ l, dig p.1) → acc.length + 10 * l.length ≤ 10000 →
    ∃ a' b', forR (gTp [gNm 2, gNm 3]) (sExp (eLm (extL 1) (eVar 1) (eBin oRep (eLst (aCons (eVar 2) aNil)) (eVar 3)))) (l.map fun p => PV.tup [.int (p.2 : Nat), .int p.1]) [some (col cs0), some (.ref 1), a, b] [D, .lst (acc.map .int)] =
      .nx [some (col cs0), some (.ref 1), a', b'] [D, .lst ((acc ++ (l.map fun p => List.replicate p.1.toNat (p.2 : Int)).flatten).map .int)]
  | [], acc, a, b, _, _ => ⟨a, b, by simp⟩
  | p :: l, acc, a, b, hd, hl => by
    have hp := hd p List.mem_cons_self
    simp only [List.length_cons] at hl
    obtain ⟨a', b', ih⟩ := sorted_loop n D cs0 l (acc ++ List.replicate p.1.toNat (p.2 : Int)) (some (.int (p.2 : Nat))) (some (.int p.1)) (fun q hq => hd q (List.mem_cons_of_mem _ hq)) (by rw [List.length_append, List.length_replicate]; omega)
    refine ⟨a', b', ?_⟩
    rw [List.map_cons, q_forC]
    have et : gTp [gNm 2, gNm 3] (.tup [.int (p.2 : Nat), .int p.1]) [some (col cs0), some (.ref 1), a, b] [D, .lst (acc.map .int)] = some [some (col cs0), some (.ref 1), some (.int (p.2 : Nat)), some (.int p.1)] := rfl
    have er : oRep (.lst [.int (p.2 : Nat)]) (.int p.1) [D, .lst (acc.map .int)] = some (true, .lst ((List.replicate p.1.toNat (p.2 : Int)).map .int)) := by
      show (if decide (-1000 ≤ p.1 ∧ p.1 ≤ 1000) && Nat.ble 1 1000 then some (true, PV.lst (List.replicate p.1.toNat [PV.int (p.2 : Nat)]).flatten) else none) = _
      rw [decide_eq_true (by omega), if_pos (by rfl)]
      congr 3
      induction p.1.toNat with
      | zero => rfl
      | succ m ihm =>
        rw [List.replicate_succ, List.flatten_cons, ihm, List.replicate_succ]
        rfl
    have es : small ((acc.map PV.int).length + ((List.replicate p.1.toNat (p.2 : Int)).map PV.int).length) = true := by
      unfold small
      rw [List.length_map, List.length_map, List.length_replicate]
      exact Nat.ble_eq_true_of_le (by omega)
    have ex : extL 1 (.ref 1) (.lst ((List.replicate p.1.toNat (p.2 : Int)).map .int)) [D, .lst (acc.map .int)] = some [D, .lst ((acc ++ List.replicate p.1.toNat (p.2 : Int)).map .int)] := by
      have hm : ∀ xs : List PV, mayPutL 1 1 xs = true := fun xs => by
        induction xs with
        | nil => rfl
        | cons x xs ih => show (mayPut 1 1 x && mayPutL 1 1 xs) = true; rw [ih]; rfl
      show (if mayPutL 1 1 _ && small _ then some ([D, PV.lst (acc.map .int)].set 1 (.lst (acc.map PV.int ++ (List.replicate p.1.toNat (p.2 : Int)).map PV.int))) else none) = _
      rw [hm, es, if_pos (by rfl), List.map_append]
      rfl
    simp only [et]
    have e2 : sExp (eLm (extL 1) (eVar 1) (eBin oRep (eLst (aCons (eVar 2) aNil)) (eVar 3))) [some (col cs0), some (.ref 1), some (.int (p.2 : Nat)), some (.int p.1)] [D, .lst (acc.map .int)] = .nx [some (col cs0), some (.ref 1), some (.int (p.2 : Nat)), some (.int p.1)] [D, .lst ((acc ++ List.replicate p.1.toNat (p.2 : Int)).map .int)] := by
      have v1 : eVar 1 [some (col cs0), some (.ref 1), some (.int (p.2 : Nat)), some (.int p.1)] [D, .lst (acc.map .int)] = .ok (false, .ref 1) [D, .lst (acc.map .int)] := rfl
      have v2 : eLst (aCons (eVar 2) aNil) [some (col cs0), some (.ref 1), some (.int (p.2 : Nat)), some (.int p.1)] [D, .lst (acc.map .int)] = .ok (true, .lst [.int (p.2 : Nat)]) [D, .lst (acc.map .int)] := rfl
      have v3 : eVar 3 [some (col cs0), some (.ref 1), some (.int (p.2 : Nat)), some (.int p.1)] [D, .lst (acc.map .int)] = .ok (false, .int p.1) [D, .lst (acc.map .int)] := rfl
      have hil : isL [D, .lst (acc.map .int)] (.ref 1) = true := rfl
      simp only [q_sexp, q_lm, v1, R.bind_ok, hil, if_true, q_bin, v2, v3, er, q_ofO_some, ex, R.go_ok]
    simp only [e2]
    rw [ih]
    simp
end PX.K01
set_option linter.all false
namespace PX.K01
/-! the line of a column: each value as often as it is counted -/
def lineF : Nat → List Int → List Int
  | _, [] => []
  | k, c :: cs => List.replicate c.toNat (k : Int) ++ lineF (k + 1) cs
theorem lineF_flat : ∀ (cs : List Int) (k : Nat), ((cs.zipIdx k).map fun p => List.replicate p.1.toNat (p.2 : Int)).flatten = lineF k cs
  | [], k => rfl
  | c :: cs, k => by
    rw [List.zipIdx_cons, List.map_cons, List.flatten_cons, lineF_flat cs (k + 1)]
    rfl
theorem lineF_len : ∀ (cs : List Int) (k : Nat), (∀ c ∈ cs, 0 ≤ c) → ((lineF k cs).length : Int) = cs.sum
  | [], k, _ => rfl
  | c :: cs, k, h => by
    have ih := lineF_len cs (k + 1) fun x hx => h x (List.mem_cons_of_mem _ hx)
    have h0 := h c List.mem_cons_self
    show ((List.replicate c.toNat (k : Int) ++ lineF (k + 1) cs).length : Int) = (c :: cs).sum
    rw [List.length_append, List.length_replicate, List.sum_cons]
    omega
theorem lineF_ge : ∀ (cs : List Int) (k : Nat) (x : Int), x ∈ lineF k cs → (k : Int) ≤ x
  | [], k, x, h => absurd h (by simp [lineF])
  | c :: cs, k, x, h => by
    rcases List.mem_append.mp (show x ∈ List.replicate c.toNat (k : Int) ++ lineF (k + 1) cs from h) with h | h
    · rw [(List.mem_replicate.mp h).2]; exact Int.le_refl _
    · have := lineF_ge cs (k + 1) x h
      omega
theorem filter_repl (n : Nat) (x : Int) (p : Int → Bool) : ((List.replicate n x).filter p).length = if p x then n else 0 := by
  induction n with
  | zero => simp
  | succ n ih =>
    rw [List.replicate_succ, List.filter_cons]
    cases h : p x with
    | true => simp [h] at ih ⊢
    | false => simp [h] at ih ⊢
theorem lineF_lt : ∀ (cs : List Int) (k p : Nat), (∀ c ∈ cs, 0 ≤ c) → (((lineF k cs).filter fun x => decide (x < (p : Int))).length : Int) = (cs.take (p - k)).sum
  | [], k, p, _ => by simp [lineF]
  | c :: cs, k, p, h => by
    have ih := lineF_lt cs (k + 1) p fun x hx => h x (List.mem_cons_of_mem _ hx)
    have h0 := h c List.mem_cons_self
    show (((List.replicate c.toNat (k : Int) ++ lineF (k + 1) cs).filter _).length : Int) = _
    rw [List.filter_append, List.length_append, filter_repl]
    by_cases hk : k < p
    · rw [if_pos (by simp; omega), show p - k = (p - (k + 1)) + 1 by omega, List.take_succ_cons, List.sum_cons, ← ih]
      omega
    · rw [if_neg (by simp; omega), show p - k = 0 by omega]
      rw [show p - (k + 1) = 0 by omega] at ih
      simp at ih ⊢
      exact ih
theorem sum_take_drop (cs : List Int) (a b : Nat) (h : a ≤ b) : ((cs.drop a).take (b - a)).sum = (cs.take b).sum - (cs.take a).sum := by
  have e : cs.take b = cs.take a ++ (cs.drop a).take (b - a) := by
    rw [show b = a + (b - a) by omega, List.take_add]
    simp
  rw [e, List.sum_append]
  omega
theorem filter_split (l : List Int) (a b : Int) (h : a ≤ b) : (l.filter fun x => decide (x < b)).length = (l.filter fun x => decide (x < a)).length + (l.filter fun x => decide (a ≤ x ∧ x < b)).length := by
  induction l with
  | nil => rfl
  | cons x l ih =>
    rw [List.filter_cons, List.filter_cons, List.filter_cons]
    by_cases h1 : x < a
    · have h2 : x < b := by omega
      have h3 : ¬ (a ≤ x ∧ x < b) := by omega
      simp [h1, h2, h3] at ih ⊢
      have h4 : ¬ a ≤ x := by omega
      simp [h4]
      omega
    · by_cases h2 : x < b
      · have h3 : a ≤ x := by omega
        simp [h1, h2, h3] at ih ⊢
        omega
      · simp [h1, h2] at ih ⊢
        omega
theorem lineF_mid (cs : List Int) (a b : Nat) (h : a ≤ b) (hc : ∀ c ∈ cs, 0 ≤ c) : (((lineF 0 cs).filter fun x => decide ((a : Int) ≤ x ∧ x < (b : Int))).length : Int) = ((cs.drop a).take (b - a)).sum := by
  have h1 := lineF_lt cs 0 a hc
  have h2 := lineF_lt cs 0 b hc
  have h3 := filter_split (lineF 0 cs) a b (by omega)
  rw [sum_take_drop cs a b h]
  rw [Nat.sub_zero] at h1 h2
  omega
/-! keys in the order of their first store -/
def addAll : List Int → List Int → List Int
  | ks, [] => ks
  | ks, q :: qs => addAll (if q ∈ ks then ks else ks ++ [q]) qs
theorem addAll_append : ∀ (qs rs ks : List Int), addAll ks (qs ++ rs) = addAll (addAll ks qs) rs
  | [], rs, ks => rfl
  | q :: qs, rs, ks => addAll_append qs rs _
theorem addAll_rep (x : Int) : ∀ (n : Nat) (ks : List Int), x ∈ ks → addAll ks (List.replicate n x) = ks
  | 0, ks, _ => rfl
  | n + 1, ks, h => by
    rw [List.replicate_succ]
    show addAll (if x ∈ ks then ks else ks ++ [x]) (List.replicate n x) = ks
    rw [if_pos h]
    exact addAll_rep x n ks h
theorem addAll_line : ∀ (cs : List Int) (k : Nat) (ks : List Int), (∀ c ∈ cs, 0 ≤ c) → (∀ x ∈ ks, x < (k : Int)) → addAll ks (lineF k cs) = ks ++ ((cs.zipIdx k).filter fun p => decide (0 < p.1)).map fun p => (p.2 : Int)
  | [], k, ks, _, _ => by simp [lineF, addAll]
  | c :: cs, k, ks, h, hk => by
    have h0 := h c List.mem_cons_self
    have hn : (k : Int) ∉ ks := fun z => by have := hk _ z; omega
    show addAll ks (List.replicate c.toNat (k : Int) ++ lineF (k + 1) cs) = _
    rw [addAll_append, List.zipIdx_cons, List.filter_cons]
    by_cases hc : 0 < c
    · have e : addAll ks (List.replicate c.toNat (k : Int)) = ks ++ [(k : Int)] := by
        rw [show c.toNat = (c.toNat - 1) + 1 by omega, List.replicate_succ]
        show addAll (if (k : Int) ∈ ks then ks else ks ++ [(k : Int)]) _ = _
        rw [if_neg hn]
        exact addAll_rep _ _ _ (by simp)
      rw [e, addAll_line cs (k + 1) _ (fun x hx => h x (List.mem_cons_of_mem _ hx)) (fun x hx => by
        rcases List.mem_append.mp hx with hx | hx
        · have := hk x hx; omega
        · have : x = (k : Int) := by simpa using hx
          omega), if_pos (by simpa using hc)]
      simp
    · have e : addAll ks (List.replicate c.toNat (k : Int)) = ks := by
        rw [show c.toNat = 0 by omega]
        rfl
      rw [e, addAll_line cs (k + 1) _ (fun x hx => h x (List.mem_cons_of_mem _ hx)) (fun x hx => by have := hk x hx; omega), if_neg (by simpa using hc)]
theorem fill_sorted : ∀ (cs : List Int) (k : Nat), (((cs.zipIdx k).filter fun p => decide (0 < p.1)).map fun p => (p.2 : Int)).Pairwise (· ≤ ·) := by
  intro cs k
  have h : ∀ (cs : List Int) (k : Nat), (cs.zipIdx k).Pairwise fun p q => (p.2 : Int) ≤ (q.2 : Int) := by
    intro cs
    induction cs with
    | nil => intro k; simp
    | cons c cs ih =>
      intro k
      rw [List.zipIdx_cons]
      refine List.pairwise_cons.mpr ⟨fun q hq => ?_, ih (k + 1)⟩
      have := (List.mem_zipIdx hq).1
      show (k : Int) ≤ (q.2 : Int)
      omega
  exact List.Pairwise.map _ (fun _ _ h => h) ((h cs k).filter _)
theorem fill_len (cs : List Int) : (((cs.zipIdx).filter fun p => decide (0 < p.1)).map fun p => (p.2 : Int)).length ≤ cs.length := by
  rw [List.length_map]
  exact Nat.le_trans (List.length_filter_le _ _) (by rw [List.length_zipIdx]; exact Nat.le_refl _)
/-! runs -/
theorem zip_steps (cs : List Int) : cs.zip (cs.drop 1) = (List.range (cs.length - 1)).map fun i => (cs.getD i 0, cs.getD (i + 1) 0) := by
  apply List.ext_getElem
  · simp [List.length_zip]
  · intro i h1 h2
    have h3 : i + 1 < cs.length := by
      simp [List.length_zip] at h1
      omega
    simp [List.getElem_zip, List.getElem_drop]
    refine ⟨?_, ?_⟩
    · rw [List.getElem?_eq_getElem (by omega)]
      rfl
    · rw [List.getElem?_eq_getElem h3]
      simp [Nat.add_comm]
theorem steps_eq (cs : List Int) (h : 1 ≤ cs.length) : 1 + ((cs.zip (cs.drop 1)).filter fun p => !decide (p.1 = p.2)).length = ((List.range cs.length).filter fun v => decide (v = 0) || !decide (cs.getD v 0 = cs.getD (v - 1) 0)).length := by
  obtain ⟨m, hm⟩ : ∃ m, cs.length = m + 1 := ⟨cs.length - 1, by omega⟩
  rw [zip_steps, hm, List.range_succ_eq_map, List.filter_cons_of_pos (by simp), List.length_cons, List.filter_map, List.filter_map, List.length_map, List.length_map, Nat.add_comm]
  congr 2
  rw [Nat.add_sub_cancel]
  apply List.filter_congr
  intro i _
  show (!decide (cs.getD i 0 = cs.getD (i + 1) 0)) = (decide (i + 1 = 0) || !decide (cs.getD (i + 1) 0 = cs.getD (i + 1 - 1) 0))
  rw [Nat.add_sub_cancel, decide_eq_false (show ¬ (i + 1 = 0) by omega), Bool.false_or]
  congr 1
  exact decide_eq_decide.mpr ⟨fun z => z.symm, fun z => z.symm⟩
end PX.K01
set_option linter.all false
set_option maxRecDepth 100000
set_option maxHeartbeats 1000000
namespace PX.K01
open PySem PX
theorem sorted_ok (n : Nat) (D : PV) (cs : List Int) (hd : ∀ c ∈ cs, dig c) (hl : cs.length ≤ 100) : callV (callF TT (n + 1)) 11 [col cs] [D] = .ok (true, .lst ((lineF 0 cs).map .int)) [D] := by
  have hl2 : 10 * (cs.zipIdx).length ≤ 10000 := by rw [List.length_zipIdx]; omega
  obtain ⟨a', b', e⟩ := sorted_loop n D cs cs.zipIdx [] none none (fun p hp => hd _ (by
    obtain ⟨x, i⟩ := p
    have := (List.mem_zipIdx hp).2.2
    rw [this]
    exact List.getElem_mem _)) (by simpa using hl2)
  rw [List.nil_append, lineF_flat] at e
  have hcall : callF TT (n + 1) 11 [col cs] 1 [D] = .ok (.ref 1) [D, .lst ((lineF 0 cs).map .int)] := by
    rw [call_succ (b := b11) rfl rfl]
    show fin (b11.body (callF TT n) 1 [some (col cs), none, none, none] [D]) = _
    unfold b11
    have h0 : sAsg (gNm 1) (eNew (eLst aNil)) [some (col cs), none, none, none] [D] = .nx [some (col cs), some (.ref 1), none, none] [D, .lst []] := rfl
    have e0 : eFld [0] 0 (eVar 0) [some (col cs), some (.ref 1), none, none] [D, .lst []] = .ok (false, .tup (cs.map .int)) [D, .lst []] := rfl
    have h1 := enu_val _ _ _ _ cs e0
    rw [List.map_nil] at e
    simp only [q_scons, h0, RS.then_nx, q_sfor, h1, R.go_ok, e, q_unl0]
    rfl
  unfold callV
  rw [show ([D] : Store).length = 1 from rfl, hcall]
  show norm 1 (.ref 1) [D, .lst ((lineF 0 cs).map .int)] = _
  show (match (frzL (frz 1 1 [D, .lst ((lineF 0 cs).map .int)] 8) ((lineF 0 cs).map .int)).map PV.lst with
    | some w => R.ok (true, w) [D]
    | none => .no) = _
  rw [frzL_ints]
  rfl
theorem ownOf_col (tb : List (Nat × Nat)) (S : Store) (cs : List Int) : ownOf tb S (col cs) = tb.lookup 0 := rfl
theorem len_col (n : Nat) (S : Store) (cs : List Int) (a : SE) (env : Env) (b : Bool) (hl : cs.length ≤ 1000) (ha : a env S = .ok (b, col cs) S) : eLen (callF TT (n + 1)) [(0, 3)] a env S = .ok (false, .int cs.length) S := by
  rw [q_len, ha, R.bind_ok]
  show (callV (callF TT (n + 1)) 3 [col cs] S).bind lenI = _
  rw [lenV, R.bind_ok]
  unfold lenI
  simp only
  rw [decide_eq_true (by omega), decide_eq_true (by omega)]
  rfl
theorem check_ok (n n0 : Nat) (S : Store) (cs : List Int) (a b : Int) (hl : cs.length ≤ 1000) (h0 : 0 ≤ a) (h1 : a < cs.length) (h2 : a + 1 ≤ b) (h3 : b ≤ cs.length) : callF TT (n + 2) 12 [col cs, .int a, .int b] n0 S = .ok .non S := by
  rw [call_succ (b := b12) rfl rfl]
  show fin (b12.body (callF TT (n + 1)) n0 [some (col cs), some (.int a), some (.int b)] S) = _
  unfold b12
  have hln := len_col n S cs (eVar 0) [some (col cs), some (.int a), some (.int b)] false hl rfl
  have h4 : a ≤ (cs.length : Int) - 1 := by omega
  simp [-q_len, hln, q_var, oSub, isnumV, truth, h0, h4, cat_int, h2, h3]
theorem between_ok (n n0 : Nat) (S : Store) (cs : List Int) (a b : Nat) (hl : cs.length ≤ 1000) (h1 : a < cs.length) (h2 : a + 1 ≤ b) (h3 : b ≤ cs.length) : callF TT (n + 3) 8 [col cs, .int a, .int b] n0 S = .ok (.int ((cs.drop a).take (b - a)).sum) S := by
  rw [call_succ (b := b8) rfl rfl]
  show fin (b8.body (callF TT (n + 2)) n0 [some (col cs), some (.int a), some (.int b)] S) = _
  unfold b8
  have hv : callV (callF TT (n + 2)) 12 [col cs, .int a, .int b] S = .ok (false, .non) S := callV_same (check_ok n S.length S cs a b hl (by omega) (by omega) (by omega) (by omega)) rfl
  have es : slP (some (a : Int)) (some (b : Int)) (.tup (cs.map .int)) S = some (false, .tup (((cs.drop a).take (b - a)).map .int)) := by
    show some (false, PV.tup (cutP (cs.map .int) (some (a : Int)) (some (b : Int)))) = _
    rw [cut_mid cs a b (by omega) (by omega)]
  have e0 : eFld [0] 0 (eVar 0) [some (col cs), some (.int a), some (.int b)] S = .ok (false, .tup (cs.map .int)) S := rfl
  simp only [q_scons, q_sexp, q_call, q_cons, q_nil, q_sret, q_arg, q_sl, q_pso, e0, q_var, List.getElem?_cons_zero, List.getElem?_cons_succ, R.bind_ok, List.length_cons, List.length_nil, hv, Nat.reduceAdd, if_true, R.go_ok, RS.then_nx, es, q_ofO_some, bSum_tup, fin_rt]
/-! a pick out of lists -/
theorem pick_ok (n : Nat) (ns : List Int) (hn : ns.length ≤ 63) (k : Nat) (xs : List PV) (h : 0 < xs.length) : ∃ (k' i : Nat) (x : PV), xs[i]? = some x ∧ callV (callF TT (n + 3)) 15 [.ref 0, .lst xs] [DD ns k] = (norm 1 x [DD ns k']) := by
  obtain ⟨v, g0, g1, g2⟩ := takeV n [] ns k xs.length hn (by omega)
  have hl : v.toNat < xs.length := by omega
  have key : callF TT (n + 3) 15 [.ref 0, .lst xs] 1 [DD ns k] = .ok xs[v.toNat] [DD ns (k + 1)] := by
    rw [call_succ (b := b15) rfl rfl]
    show fin (b15.body (callF TT (n + 2)) 1 [some (.ref 0), some (.lst xs)] [DD ns k]) = _
    unfold b15
    have hx : oIx (.lst xs) (.int v) [DD ns (k + 1)] = some (false, xs[v.toNat]) := by
      have e1 : itemsOf [DD ns (k + 1)] (.lst xs) = some xs := rfl
      have e2 : ixP xs.length v = some v.toNat := by
        unfold ixP
        rw [if_pos g0, if_pos (by omega)]
      have e3 : xs[v.toNat]? = some xs[v.toNat] := List.getElem?_eq_getElem hl
      unfold oIx
      simp only [e1, e2, e3]
    simp [q_var, ownOf_lst, bLen_lst, g2, dIx_lst, hx]
  refine ⟨k + 1, v.toNat, xs[v.toNat], List.getElem?_eq_getElem hl, ?_⟩
  unfold callV
  rw [show ([DD ns k] : Store).length = 1 from rfl, key]
  rfl
end PX.K01
set_option linter.all false
set_option maxRecDepth 100000
set_option maxHeartbeats 1000000
namespace PX
open PySem
theorem oNe_lst (a b : List Int) (S : Store) : oNe (.lst (a.map .int)) (.lst (b.map .int)) S = some (false, .bl (!decide (a = b))) := by
  unfold oNe
  rw [eqD_lst]
  rfl
theorem oEq_lst (a b : List Int) (S : Store) : oEq (.lst (a.map .int)) (.lst (b.map .int)) S = some (false, .bl (decide (a = b))) := by
  unfold oEq
  rw [eqD_lst]
  rfl
theorem oNe_tup (a b : List Int) (S : Store) : oNe (.tup (a.map .int)) (.tup (b.map .int)) S = some (false, .bl (!decide (a = b))) := by
  unfold oNe
  rw [eqD_tup]
  rfl
theorem oNe_bl (a b : Bool) (S : Store) : oNe (.bl a) (.bl b) S = some (false, .bl (!decide (a = b))) := by
  unfold oNe
  rw [eqD_bl]
  rfl
theorem oEq_bl (a b : Bool) (S : Store) : oEq (.bl a) (.bl b) S = some (false, .bl (decide (a = b))) := by
  unfold oEq
  rw [eqD_bl]
  rfl
@[simp] theorem q_meth (cf : CF) (np m : Nat) (T : List (Nat × Nat)) (o : SE) (a : SA) (env : Env) (S : Store) : eMeth cf np m T o a env S = (o env S).bind fun p S0 => match methOf m T S0 p.2 with
  | some f => (a env S0).bind fun args S1 => if args.length + 1 = np then callV cf f (p.2 :: args) S1 else .no
  | none => .no := (rfl)
/-! a list of a range, held in a value -/
theorem seq_val (a : SE) (env : Env) (S : Store) (b : Bool) (xs : List PV) (ha : a env S = .ok (b, .lst xs) S) : iSeq a env S = .ok (xs, []) S := by
  rw [q_seq, ha, R.bind_ok]
  rfl
theorem rgn_val (a : SE) (env : Env) (S : Store) (b : Bool) (m : Nat) (hl : m ≤ 1000) (ha : a env S = .ok (b, .int (m : Int)) S) : iRg1 a env S = .ok ((List.range m).map fun (i : Nat) => PV.int i, []) S := by
  rw [q_rg1, ha, R.bind_ok]
  have hr : okRg (m : Int) = true := K01.okRg_small (by omega) (by omega)
  simp only [hr, if_true, Int.toNat_natCast, rngL_map0]
theorem range_getD (cs : List Int) : ((List.range cs.length).map fun i => cs.getD i 0) = cs := by
  apply List.ext_getElem
  · simp
  · intro i h1 h2
    simp at h1
    simp [List.getElem?_eq_getElem h1]
theorem oIx_lst' (S : Store) (ns : List Int) (i : Nat) (h1 : i < ns.length) : oIx (.lst (ns.map .int)) (.int i) S = some (false, .int (ns.getD i 0)) := by
  obtain ⟨c, e1, e2⟩ := oIx_lst S ns i (by omega) (by omega)
  rw [e1]
  rw [Int.toNat_natCast] at e2
  rw [List.getD_eq_getElem?_getD, e2]
  rfl
end PX
namespace PX.K01
open PySem PX
section
variable (n : Nat) (s t a3 a4 a5 a6 a7 a8 a9 a10 a11 : Option PV) (ns : List Int) (k : Nat)
noncomputable abbrev L1 (cf : CF) : SS := (sAsg (gNm 3) (eCall cf 2 16 (aCons (eVar 1) (aCons (eLit (.int 12)) aNil))))
noncomputable abbrev L2 (cf : CF) : SS := (sAsg (gTp [(gNm 4), (gNm 5)]) (eTup (aCons (eMake cf 2 0 1 (aCons (eCall cf 2 17 (aCons (eVar 1) (aCons (eVar 3) aNil))) aNil)) (aCons (eLen cf [(0, 3)] (eVar 3)) aNil))))
noncomputable abbrev L3 (cf : CF) : SS := (sIf (tOr (tBl (eNe cf [(0, 2)] [.non, .bl, .int, .str, .tup, .lst, .dct, .own 0] (eFld [0] 0 (eVar 4)) (eArg bTuple (aCons (eVar 3) aNil)))) (tOr (tBl (eNe cf [(0, 2)] [.non, .bl, .int, .str, .tup, .lst, .dct, .own 0] (eLen cf [(0, 3)] (eVar 4)) (eVar 5))) (tBl (eNe cf [(0, 2)] [.non, .bl, .int, .str, .tup, .lst, .dct, .own 0] (eLc (iRg1 (eVar 5)) (gNm 7) [7] tYesP (eIx cf [(0, 4)] (eVar 4) (eVar 7))) (eVar 3))))) (sRet (eLit (.bl false))) sNil)
noncomputable abbrev L4 (cf : CF) : SS := (sAsg (gNm 6) (eLst aNil))
noncomputable abbrev L5 (cf : CF) : SS := (sFor (iRg1 (eVar 5)) (gNm 7) (sAsg (gNm 6) (eBin oCat (eVar 6) (eBin oRep (eLst (aCons (eVar 7) aNil)) (eIx cf [(0, 4)] (eVar 3) (eVar 7))))))
noncomputable abbrev L6 (cf : CF) : SS := (sIf (tOr (tBl (eNe cf [(0, 2)] [.non, .bl, .int, .str, .tup, .lst, .dct, .own 0] (eMeth cf 1 7 [(0, 11)] (eVar 4) aNil) (eVar 6))) (tBl (eNe cf [(0, 2)] [.non, .bl, .int, .str, .tup, .lst, .dct, .own 0] (eMeth cf 1 8 [(0, 6)] (eVar 4) aNil) (eLen cf [(0, 3)] (eVar 6))))) (sRet (eLit (.bl false))) sNil)
noncomputable abbrev L7 (cf : CF) : SS := (sIf (tBl (eNe cf [(0, 2)] [.non, .bl, .int, .str, .tup, .lst, .dct, .own 0] (eMeth cf 1 3 [(0, 7)] (eVar 4) aNil) (eLc (iRg1 (eBin oCat (eVar 5) (eLit (.int 1)))) (gNm 7) [7] tYesP (eLen cf [(0, 3)] (eLc (iSeq (eVar 6)) (gNm 11) [11] (tBl (eBin oLt (eVar 11) (eVar 7))) (eVar 11)))))) (sRet (eLit (.bl false))) sNil)
noncomputable abbrev L8 (cf : CF) : SS := (sIf (tBl (eNe cf [(0, 2)] [.non, .bl, .int, .str, .tup, .lst, .dct, .own 0] (eMeth cf 1 4 [(0, 9)] (eVar 4) aNil) (eArg bSort (aCons (eArg bDict (aCons (eLc (iSeq (eVar 6)) (gNm 11) [11] tYesP (eTup (aCons (eVar 11) (aCons (eLit (.int 1)) aNil)))) aNil)) aNil)))) (sRet (eLit (.bl false))) sNil)
noncomputable abbrev L9 (cf : CF) : SS := (sAsg (gNm 8) (eCall cf 2 14 (aCons (eVar 1) (aCons (eVar 5) aNil))))
noncomputable abbrev L10 (cf : CF) : SS := (sAsg (gNm 9) (eBin oCat (eBin oCat (eVar 8) (eLit (.int 1))) (eCall cf 2 14 (aCons (eVar 1) (aCons (eBin oSub (eVar 5) (eVar 8)) aNil)))))
noncomputable abbrev L11 (cf : CF) : SS := (sIf (tBl (eNe cf [(0, 2)] [.non, .bl, .int, .str, .tup, .lst, .dct, .own 0] (eMeth cf 3 5 [(0, 8)] (eVar 4) (aCons (eVar 8) (aCons (eVar 9) aNil))) (eLen cf [(0, 3)] (eLc (iSeq (eVar 6)) (gNm 11) [11] (tBl (eCh oLe oLt (eVar 8) (eVar 11) (eVar 9))) (eVar 11))))) (sRet (eLit (.bl false))) sNil)
noncomputable abbrev L12 (cf : CF) : SS := (sIf (tBl (eNe cf [(0, 2)] [.non, .bl, .int, .str, .tup, .lst, .dct, .own 0] (eMeth cf 1 6 [(0, 10)] (eVar 4) aNil) (eLen cf [(0, 3)] (eLc (iRg1 (eVar 5)) (gNm 7) [7] (tOr (tBl (eEq cf [(0, 2)] [.non, .bl, .int, .str, .tup, .lst, .dct, .own 0] (eVar 7) (eLit (.int 0)))) (tBl (eNe cf [(0, 2)] [.non, .bl, .int, .str, .tup, .lst, .dct, .own 0] (eIx cf [(0, 4)] (eVar 3) (eVar 7)) (eIx cf [(0, 4)] (eVar 3) (eBin oSub (eVar 7) (eLit (.int 1))))))) (eVar 7))))) (sRet (eLit (.bl false))) sNil)
noncomputable abbrev L13 (cf : CF) : SS := (sAsg (gNm 10) (eCall cf 2 15 (aCons (eVar 1) (aCons (eLst (aCons (eVar 3) (aCons (eRev (eVar 3)) (aCons (eOr (eSl (eVar 3) pNo (pSo (eUn oNeg (eLit (.int 1))))) (eLst (aCons (eLit (.int 5)) aNil))) (aCons (eIf (tBl (eBin oLt (eVar 5) (eLit (.int 12)))) (eBin oCat (eVar 3) (eLst (aCons (eLit (.int 0)) aNil))) (eVar 3)) (aCons (eArg bSort (aCons (eVar 3) aNil)) aNil)))))) aNil))))
noncomputable abbrev L14 (cf : CF) : SS := (sIf (tOr (tBl (eNe cf [(0, 2)] [.non, .bl, .int, .str, .tup, .lst, .dct, .own 0] (eEq cf [(0, 2)] [.non, .bl, .int, .str, .tup, .lst, .dct, .own 0] (eVar 4) (eMake cf 2 0 1 (aCons (eVar 10) aNil))) (eEq cf [(0, 2)] [.non, .bl, .int, .str, .tup, .lst, .dct, .own 0] (eVar 3) (eVar 10)))) (tBl (eEq cf [(0, 2)] [.non, .bl, .int, .str, .tup, .lst, .dct, .own 0] (eNe cf [(0, 2)] [.non, .bl, .int, .str, .tup, .lst, .dct, .own 0] (eVar 4) (eMake cf 2 0 1 (aCons (eVar 10) aNil))) (eEq cf [(0, 2)] [.non, .bl, .int, .str, .tup, .lst, .dct, .own 0] (eVar 3) (eVar 10))))) (sRet (eLit (.bl false))) sNil)
noncomputable abbrev LB (cf : CF) : SS := (sCons (L1 cf) (sCons (L2 cf) (sCons (L3 cf) (sCons (L4 cf) (sCons (L5 cf) (sCons (L6 cf) (sCons (L7 cf) (sCons (L8 cf) (sCons (L9 cf) (sCons (L10 cf) (sCons (L11 cf) (sCons (L12 cf) (sCons (L13 cf) (L14 cf))))))))))))))
/-! the counts -/
theorem l1 (hn : ns.length ≤ 63) : ∃ (k' : Nat) (cs : List Int), 1 ≤ cs.length ∧ cs.length ≤ 12 ∧ (∀ c ∈ cs, dig c) ∧ L1 (callF TT (n + 5)) [s, some (.ref 0), t, a3, a4, a5, a6, a7, a8, a9, a10, a11] [DD ns k] = .nx [s, some (.ref 0), t, some (.lst (cs.map .int)), a4, a5, a6, a7, a8, a9, a10, a11] [DD ns k'] := by
  obtain ⟨k', cs, h1, h2, h3, h4⟩ := counts_ok (n + 2) ns hn k 12 (by omega) (by omega)
  refine ⟨k', cs, h1, by omega, h3, ?_⟩
  simp [q_var, h4]
variable (cs : List Int)
theorem l2 (hn : ns.length ≤ 63) (h1 : 1 ≤ cs.length) (h2 : cs.length ≤ 12) (hd : ∀ c ∈ cs, dig c) : ∃ (k' : Nat), L2 (callF TT (n + 5)) [s, some (.ref 0), t, some (.lst (cs.map .int)), a4, a5, a6, a7, a8, a9, a10, a11] [DD ns k] = .nx [s, some (.ref 0), t, some (.lst (cs.map .int)), some (col cs), some (.int cs.length), a6, a7, a8, a9, a10, a11] [DD ns k'] := by
  obtain ⟨k', b, h⟩ := given_ok (n + 2) ns hn k cs
  refine ⟨k', ?_⟩
  have hm : eMake (callF TT (n + 5)) 2 0 1 (aCons (eCall (callF TT (n + 5)) 2 17 (aCons (eVar 1) (aCons (eVar 3) aNil))) aNil) [s, some (.ref 0), t, some (.lst (cs.map .int)), a4, a5, a6, a7, a8, a9, a10, a11] [DD ns k] = .ok (true, col cs) [DD ns k'] := by
    have ha : (aCons (eCall (callF TT (n + 5)) 2 17 (aCons (eVar 1) (aCons (eVar 3) aNil))) aNil) [s, some (.ref 0), t, some (.lst (cs.map .int)), a4, a5, a6, a7, a8, a9, a10, a11] [DD ns k] = .ok [sq b cs] [DD ns k'] := by
      simp [q_var, h]
    have := makeV (n + 3) (DD ns k') b cs h1 h2 hd _ rfl (fun _ _ => .ok [sq b cs] [DD ns k']) [] [DD ns k'] rfl
    unfold eMake at this ⊢
    rw [ha]
    exact this
  simp only [q_sasg, q_tup, q_cons, hm, R.bind_ok, q_nil, q_len]
  simp [q_var, ownOf_lst, bLen_lst, small, gTp, gTps]
theorem l3a (h2 : cs.length ≤ 12) : eLen (callF TT (n + 5)) [(0, 3)] (eVar 4) [s, some (.ref 0), t, some (.lst (cs.map .int)), some (col cs), some (.int cs.length), a6, a7, a8, a9, a10, a11] [DD ns k] = .ok (false, .int cs.length) [DD ns k] := len_col (n + 4) [DD ns k] cs (eVar 4) _ false (by omega) rfl
theorem l3c (h2 : cs.length ≤ 12) (x : Nat) (hx : x < cs.length) (a7 : Option PV) : eIx (callF TT (n + 5)) [(0, 4)] (eVar 4) (eVar 7) [s, some (.ref 0), t, some (.lst (cs.map .int)), some (col cs), some (.int cs.length), a6, some (.int x), a8, a9, a10, a11] [DD ns k] = .ok (false, .int (cs.getD x 0)) [DD ns k] := by
  obtain ⟨c, g1, g2⟩ := item_ok (n + 3) 1 [DD ns k] cs x (by omega) (by omega)
  have g3 : callV (callF TT (n + 5)) 4 [col cs, .int x] [DD ns k] = .ok (false, .int c) [DD ns k] := callV_same g1 rfl
  rw [Int.toNat_natCast] at g2
  rw [List.getD_eq_getElem?_getD, g2]
  simp [q_var, ownOf_col, g3]
theorem l3b (h2 : cs.length ≤ 12) : eLc (iRg1 (eVar 5)) (gNm 7) [7] tYesP (eIx (callF TT (n + 5)) [(0, 4)] (eVar 4) (eVar 7)) [s, some (.ref 0), t, some (.lst (cs.map .int)), some (col cs), some (.int cs.length), a6, a7, a8, a9, a10, a11] [DD ns k] = .ok (true, .lst (cs.map .int)) [DD ns k] := by
  have hr := rgn_val (eVar 5) [s, some (.ref 0), t, some (.lst (cs.map .int)), some (col cs), some (.int cs.length), a6, a7, a8, a9, a10, a11] [DD ns k] false cs.length (by omega) rfl
  have e2 := lc_val (t := gNm 7) (vs := [7]) (c := tYesP) (e := eIx (callF TT (n + 5)) [(0, 4)] (eVar 4) (eVar 7)) (env := [s, some (.ref 0), t, some (.lst (cs.map .int)), some (col cs), some (.int cs.length), a6, a7, a8, a9, a10, a11]) (S := [DD ns k])
    (List.range cs.length) (fun (i : Nat) => PV.int i) (fun i => .int (cs.getD i 0)) (fun _ => true) (fun (i : Nat) => [s, some (.ref 0), t, some (.lst (cs.map .int)), some (col cs), some (.int cs.length), a6, some (.int i), a8, a9, a10, a11])
    hr (by rw [List.length_range]; omega) (fun x hx => rfl) (fun x hx => rfl) (fun x hx _ => ⟨false, l3c n s t a6 a8 a9 a10 a11 ns k cs h2 x (List.mem_range.mp hx) none⟩)
  have e3 : ((List.range cs.length).filter fun _ => true).map (fun i => PV.int (cs.getD i 0)) = cs.map .int := by
    rw [List.filter_eq_self.mpr fun _ _ => rfl]
    conv => rhs; rw [← range_getD cs]
    rw [List.map_map]
    rfl
  rw [e3] at e2
  exact e2
theorem l3 (h1 : 1 ≤ cs.length) (h2 : cs.length ≤ 12) (hd : ∀ c ∈ cs, dig c) : L3 (callF TT (n + 5)) [s, some (.ref 0), t, some (.lst (cs.map .int)), some (col cs), some (.int cs.length), a6, a7, a8, a9, a10, a11] [DD ns k] = .nx [s, some (.ref 0), t, some (.lst (cs.map .int)), some (col cs), some (.int cs.length), a6, a7, a8, a9, a10, a11] [DD ns k] := by
  have e1 := l3a n s t a6 a7 a8 a9 a10 a11 ns k cs h2
  have e2 := l3b n s t a6 a7 a8 a9 a10 a11 ns k cs h2
  have e0 : eFld [0] 0 (eVar 4) [s, some (.ref 0), t, some (.lst (cs.map .int)), some (col cs), some (.int cs.length), a6, a7, a8, a9, a10, a11] [DD ns k] = .ok (false, .tup (cs.map .int)) [DD ns k] := rfl
  have e4 : bTuple [.lst (cs.map .int)] [DD ns k] = some (false, .tup (cs.map .int)) := rfl
  unfold L3
  generalize eLc (iRg1 (eVar 5)) (gNm 7) [7] tYesP (eIx (callF TT (n + 5)) [(0, 4)] (eVar 4) (eVar 7)) = X at e2 ⊢
  generalize eLen (callF TT (n + 5)) [(0, 3)] (eVar 4) = Y at e1 ⊢
  simp only [q_scons, q_sasg, q_gnm, RS.then_nx, q_sif, q_tor, q_tbl, q_ne, q_eq, q_arg, q_cons, q_nil, q_lit, q_bin, q_var, List.getElem?_cons_zero, List.getElem?_cons_succ, R.bind_ok, R.go_ok, q_ofO_some, ownOf_tup, ownOf_lst, ownOf_int, if_true, q_snil, List.set_cons_zero, List.set_cons_succ, e0, e1, e2, e4, oNe_tup, oNe_lst, oNe_int]
  simp
theorem l5_loop (cs0 : List Int) (a4 a5 : Option PV) : ∀ (cs' : List Int) (j : Nat) (acc : List Int) (a7 : Option PV), (∀ c ∈ cs', dig c) → cs0.drop j = cs' → acc.length + 10 * cs'.length ≤ 10000 →
    ∃ a7', forR (gNm 7) (sAsg (gNm 6) (eBin oCat (eVar 6) (eBin oRep (eLst (aCons (eVar 7) aNil)) (eIx (callF TT (n + 5)) [(0, 4)] (eVar 3) (eVar 7))))) ((List.range' j cs'.length).map fun (i : Nat) => PV.int i) [s, some (.ref 0), t, some (.lst (cs0.map .int)), a4, a5, some (.lst (acc.map .int)), a7, a8, a9, a10, a11] [DD ns k] =
      .nx [s, some (.ref 0), t, some (.lst (cs0.map .int)), a4, a5, some (.lst ((acc ++ lineF j cs').map .int)), a7', a8, a9, a10, a11] [DD ns k]
  | [], j, acc, a7, _, _, _ => ⟨a7, by simp [lineF]⟩
  | c :: cs', j, acc, a7, hd, hdr, hl => by
    have hc := hd c List.mem_cons_self
    simp only [List.length_cons] at hl
    obtain ⟨a', ih⟩ := l5_loop cs0 a4 a5 cs' (j + 1) (acc ++ List.replicate c.toNat (j : Int)) (some (.int j)) (fun x hx => hd x (List.mem_cons_of_mem _ hx)) (by rw [← List.drop_drop, hdr]; rfl) (by rw [List.length_append, List.length_replicate]; omega)
    refine ⟨a', ?_⟩
    have hj : j < cs0.length := by
      have := congrArg List.length hdr
      rw [List.length_drop] at this
      simp at this
      omega
    have hcj : cs0.getD j 0 = c := by
      have := congrArg (fun l => l[0]?) hdr
      rw [List.getD_eq_getElem?_getD]
      simp at this
      rw [this]
      rfl
    have er : oRep (.lst [.int j]) (.int c) [DD ns k] = some (true, .lst ((List.replicate c.toNat (j : Int)).map .int)) := by
      show (if decide (-1000 ≤ c ∧ c ≤ 1000) && Nat.ble 1 1000 then some (true, PV.lst (List.replicate c.toNat [PV.int (j : Nat)]).flatten) else none) = _
      rw [decide_eq_true (by omega), if_pos (by rfl)]
      congr 3
      induction c.toNat with
      | zero => rfl
      | succ m ihm =>
        rw [List.replicate_succ, List.flatten_cons, ihm, List.replicate_succ]
        rfl
    have ec : oCat (.lst (acc.map .int)) (.lst ((List.replicate c.toNat (j : Int)).map .int)) [DD ns k] = some (true, .lst ((acc ++ List.replicate c.toNat (j : Int)).map .int)) := by
      have es : small ((acc.map PV.int).length + ((List.replicate c.toNat (j : Int)).map PV.int).length) = true := by
        unfold small
        rw [List.length_map, List.length_map, List.length_replicate]
        exact Nat.ble_eq_true_of_le (by omega)
      unfold oCat
      simp only [d_lst, es]
      simp
    rw [List.length_cons, List.range'_succ, List.map_cons, q_forC]
    have hix := oIx_lst' [DD ns k] cs0 j hj
    rw [hcj] at hix
    have e1 : eLst (aCons (eVar 7) aNil) [s, some (.ref 0), t, some (.lst (cs0.map .int)), a4, a5, some (.lst (acc.map .int)), some (.int j), a8, a9, a10, a11] [DD ns k] = .ok (true, .lst [.int j]) [DD ns k] := rfl
    simp only [q_scons, q_sasg, q_gnm, RS.then_nx, q_sif, q_tor, q_tbl, q_ne, q_eq, q_arg, q_cons, q_nil, q_lit, q_bin, q_var, List.getElem?_cons_zero, List.getElem?_cons_succ, R.bind_ok, R.go_ok, q_ofO_some, ownOf_tup, ownOf_lst, ownOf_int, if_true, q_snil, List.set_cons_zero, List.set_cons_succ, e1, q_ix, dIx_lst, hix, er, ec]
    rw [ih, List.append_assoc]
    rfl
theorem l5 (h2 : cs.length ≤ 12) (hd : ∀ c ∈ cs, dig c) (a4 : Option PV) : ∃ a7', L5 (callF TT (n + 5)) [s, some (.ref 0), t, some (.lst (cs.map .int)), a4, some (.int cs.length), some (.lst []), a7, a8, a9, a10, a11] [DD ns k] = .nx [s, some (.ref 0), t, some (.lst (cs.map .int)), a4, some (.int cs.length), some (.lst ((lineF 0 cs).map .int)), a7', a8, a9, a10, a11] [DD ns k] := by
  obtain ⟨a7', e⟩ := l5_loop n s t a8 a9 a10 a11 ns k cs a4 (some (.int cs.length)) cs 0 [] a7 hd rfl (by simp; omega)
  refine ⟨a7', ?_⟩
  have hr := rgn_val (eVar 5) [s, some (.ref 0), t, some (.lst (cs.map .int)), a4, some (.int cs.length), some (.lst []), a7, a8, a9, a10, a11] [DD ns k] false cs.length (by omega) rfl
  rw [List.range_eq_range'] at hr
  rw [List.nil_append, List.map_nil] at e
  unfold L5
  rw [q_sfor, hr, R.go_ok]
  simp only [e, q_unl0]
theorem line_small (h2 : cs.length ≤ 12) (hd : ∀ c ∈ cs, dig c) : (lineF 0 cs).length ≤ 108 := by
  have h := lineF_len cs 0 fun c hc => (hd c hc).1
  have hs : ∀ l : List Int, (∀ c ∈ l, dig c) → l.sum ≤ 9 * l.length := by
    intro l
    induction l with
    | nil => simp
    | cons x l ih =>
      intro hx
      have := (hx x List.mem_cons_self).2
      have := ih fun c hc => hx c (List.mem_cons_of_mem _ hc)
      rw [List.sum_cons, List.length_cons]
      omega
  have := hs cs hd
  omega
theorem l6 (h2 : cs.length ≤ 12) (hd : ∀ c ∈ cs, dig c) (a3 a5 : Option PV) : L6 (callF TT (n + 5)) [s, some (.ref 0), t, a3, some (col cs), a5, some (.lst ((lineF 0 cs).map .int)), a7, a8, a9, a10, a11] [DD ns k] = .nx [s, some (.ref 0), t, a3, some (col cs), a5, some (.lst ((lineF 0 cs).map .int)), a7, a8, a9, a10, a11] [DD ns k] := by
  have e1 := sorted_ok (n + 4) (DD ns k) cs hd (by omega)
  have e2 : callV (callF TT (n + 5)) 6 [col cs] [DD ns k] = .ok (false, .int cs.sum) [DD ns k] := callV_same (rows_ok (n + 4) 1 [DD ns k] cs) rfl
  have e3 := lineF_len cs 0 fun c hc => (hd c hc).1
  simp [q_var, methOf, e1, e2, ownOf_lst, ownOf_int, oNe_lst, bLen_lst, oNe_int, e3]
end
end PX.K01
set_option linter.all false
set_option maxRecDepth 100000
set_option maxHeartbeats 1000000
namespace PX
open PySem
theorem pairsK_ints (qs : List Int) : pairsK (qs.map fun q => PV.tup [.int q, .int 1]) = some (qs.map Sum.inl, qs.map fun _ => .int 1) := by
  induction qs with
  | nil => rfl
  | cons q qs ih =>
    show (match pairsK (qs.map fun q => PV.tup [.int q, .int 1]) with
      | some z => some (Sum.inl q :: z.1, PV.int 1 :: z.2)
      | none => none) = _
    rw [ih]
    rfl
theorem anyB_ints (q : Int) : ∀ ks : List Int, anyB eqK (ks.map Sum.inl) (.inl q) = decide (q ∈ ks)
  | [] => by simp [anyB]
  | k :: ks => by
    show (bif eqK (.inl k) (.inl q) then true else anyB eqK (ks.map Sum.inl) (.inl q)) = _
    rw [anyB_ints q ks]
    show (bif decide (k = q) then true else decide (q ∈ ks)) = _
    by_cases h : k = q
    · simp [h]
    · have h' : ¬ q = k := fun z => h z.symm
      simp [h, h']
theorem mergeB_ints : ∀ (qs : List Int) (ks : List Int) (vs : List PV), (mergeB (ks.map Sum.inl) vs (qs.map Sum.inl) (qs.map fun _ => PV.int 1)).1 = (K01.addAll ks qs).map Sum.inl
  | [], ks, vs => by cases vs <;> rfl
  | q :: qs, ks, vs => by
    show (mergeB (putB eqK (ks.map Sum.inl) vs (.inl q) (.int 1)).1 (putB eqK (ks.map Sum.inl) vs (.inl q) (.int 1)).2 (qs.map Sum.inl) (qs.map fun _ => PV.int 1)).1 = (K01.addAll (if q ∈ ks then ks else ks ++ [q]) qs).map Sum.inl
    have e : (putB eqK (ks.map Sum.inl) vs (.inl q) (.int 1)).1 = (if q ∈ ks then ks else ks ++ [q]).map Sum.inl := by
      unfold putB
      rw [anyB_ints]
      by_cases h : q ∈ ks
      · simp [h]
      · simp [h]
    rw [e, mergeB_ints qs]
theorem keysI_ints (ks : List Int) : keysI (ks.map Sum.inl) = some ks := by
  induction ks with
  | nil => rfl
  | cons k ks ih =>
    show (keysI (ks.map Sum.inl)).map (k :: ·) = _
    rw [ih]
    rfl
theorem srtI_id {ks : List Int} (h : ks.Pairwise (· ≤ ·)) : srtI ks = ks := (srtI_eq (List.Perm.refl ks) h).symm
theorem oLt_int (a b : Int) (S : Store) : oLt (.int a) (.int b) S = some (false, .bl (decide (a < b))) := rfl
theorem oLe_int (a b : Int) (S : Store) : oLe (.int a) (.int b) S = some (false, .bl (decide (a ≤ b))) := rfl
theorem norm_same {v : PV} {S : Store} {n0 : Nat} (h : S.length = n0) : norm n0 v S = .ok (false, v) S := by
  unfold norm
  rw [if_pos h]
end PX
namespace PX.K01
open PySem PX
section
variable (n : Nat) (s t a3 a4 a5 a6 a7 a8 a9 a10 a11 : Option PV) (ns : List Int) (k : Nat) (cs : List Int)
theorem meth0 {cf : CF} {m f : Nat} {T : List (Nat × Nat)} {o : SE} {env : Env} {S : Store} {v : PV} {b : Bool} {z : Bool × PV} (ho : o env S = .ok (b, v) S) (hm : methOf m T S v = some f) (hc : callV cf f [v] S = .ok z S) : eMeth cf 1 m T o aNil env S = .ok z S := by
  rw [q_meth, ho, R.bind_ok]
  simp only [hm, q_nil, R.bind_ok, List.length_nil, if_true, hc, Nat.zero_add]
theorem methN {cf : CF} {m f : Nat} {T : List (Nat × Nat)} {o : SE} {a : SA} {env : Env} {S : Store} {v : PV} {vs : List PV} {b : Bool} {z : Bool × PV} {np : Nat} (ho : o env S = .ok (b, v) S) (hm : methOf m T S v = some f) (ha : a env S = .ok vs S) (hl : vs.length + 1 = np) (hc : callV cf f (v :: vs) S = .ok z S) : eMeth cf np m T o a env S = .ok z S := by
  rw [q_meth, ho, R.bind_ok]
  simp only [hm, ha, R.bind_ok, hl, if_true, hc]
theorem filt_val (env : Env) (S : Store) (en : Int → Env) (c : ST) (p : Int → Bool) (l : List Int) (hl : l.length ≤ 1000) (hi : eVar 6 env S = .ok (false, .lst (l.map .int)) S)
    (ht : ∀ x, gNm 11 (.int x) (wipeE env [11]) S = some (en x)) (hv : ∀ x, eVar 11 (en x) S = .ok (false, .int x) S) (hc : ∀ x ∈ l, c (en x) S = .ok (p x) S) : eLc (iSeq (eVar 6)) (gNm 11) [11] c (eVar 11) env S = .ok (true, .lst ((l.filter p).map .int)) S :=
  lc_val l (fun x => PV.int x) (fun x => .int x) p en (seq_val _ _ _ _ _ hi) (by omega) (fun x _ => ht x) hc (fun x _ _ => ⟨false, hv x⟩)
theorem l7 (h2 : cs.length ≤ 12) (hd : ∀ c ∈ cs, dig c) (a3 : Option PV) : L7 (callF TT (n + 5)) [s, some (.ref 0), t, a3, some (col cs), some (.int cs.length), some (.lst ((lineF 0 cs).map .int)), a7, a8, a9, a10, a11] [DD ns k] = .nx [s, some (.ref 0), t, a3, some (col cs), some (.int cs.length), some (.lst ((lineF 0 cs).map .int)), a7, a8, a9, a10, a11] [DD ns k] := by
  have e1 := callV_same (prefixes_ok (n + 3) 1 [DD ns k] cs (by omega)) rfl
  have hs := line_small cs h2 hd
  have er : iRg1 (eBin oCat (eVar 5) (eLit (.int 1))) [s, some (.ref 0), t, a3, some (col cs), some (.int cs.length), some (.lst ((lineF 0 cs).map .int)), a7, a8, a9, a10, a11] [DD ns k] = .ok ((List.range (cs.length + 1)).map fun (i : Nat) => PV.int i, []) [DD ns k] := rg1_val _ _ _ false cs.length (by omega) rfl
  have e2 := lc_val (t := gNm 7) (vs := [7]) (c := tYesP) (e := eLen (callF TT (n + 5)) [(0, 3)] (eLc (iSeq (eVar 6)) (gNm 11) [11] (tBl (eBin oLt (eVar 11) (eVar 7))) (eVar 11))) (env := [s, some (.ref 0), t, a3, some (col cs), some (.int cs.length), some (.lst ((lineF 0 cs).map .int)), a7, a8, a9, a10, a11]) (S := [DD ns k])
    (List.range (cs.length + 1)) (fun (i : Nat) => PV.int i) (fun i => .int (cs.take i).sum) (fun _ => true) (fun (i : Nat) => [s, some (.ref 0), t, a3, some (col cs), some (.int cs.length), some (.lst ((lineF 0 cs).map .int)), some (.int i), a8, a9, a10, a11])
    er (by rw [List.length_range]; omega) (fun x hx => rfl) (fun x hx => rfl) (fun x hx _ => ⟨false, by
      have g := filt_val [s, some (.ref 0), t, a3, some (col cs), some (.int cs.length), some (.lst ((lineF 0 cs).map .int)), some (.int x), a8, a9, a10, a11] [DD ns k] (fun y => [s, some (.ref 0), t, a3, some (col cs), some (.int cs.length), some (.lst ((lineF 0 cs).map .int)), some (.int x), a8, a9, a10, some (.int y)]) (tBl (eBin oLt (eVar 11) (eVar 7))) (fun y => decide (y < (x : Int))) (lineF 0 cs) (by omega) rfl (fun _ => rfl) (fun _ => rfl) (fun y _ => rfl)
      have g2 := lineF_lt cs 0 x fun c hc => (hd c hc).1
      rw [Nat.sub_zero] at g2
      rw [q_len, g, R.bind_ok]
      simp only [ownOf_lst, bLen_lst, q_ofO_some, List.length_map, g2]⟩)
  rw [List.filter_eq_self.mpr fun _ _ => rfl] at e2
  have e3 : ((List.range (cs.length + 1)).map fun i => PV.int (cs.take i).sum) = ((List.range (cs.length + 1)).map fun p => (cs.take p).sum).map .int := by rw [List.map_map]; rfl
  rw [e3] at e2
  have em : eMeth (callF TT (n + 5)) 1 3 [(0, 7)] (eVar 4) aNil [s, some (.ref 0), t, a3, some (col cs), some (.int cs.length), some (.lst ((lineF 0 cs).map .int)), a7, a8, a9, a10, a11] [DD ns k] = _ := meth0 (b := false) rfl rfl e1
  unfold L7
  simp only [q_sif, q_tbl, q_ne, em, e2, R.bind_ok, ownOf_lst, oNe_lst, q_ofO_some]
  simp
theorem l8 (h2 : cs.length ≤ 12) (hd : ∀ c ∈ cs, dig c) (a3 a5 : Option PV) : L8 (callF TT (n + 5)) [s, some (.ref 0), t, a3, some (col cs), a5, some (.lst ((lineF 0 cs).map .int)), a7, a8, a9, a10, a11] [DD ns k] = .nx [s, some (.ref 0), t, a3, some (col cs), a5, some (.lst ((lineF 0 cs).map .int)), a7, a8, a9, a10, a11] [DD ns k] := by
  have e1 := callV_same (filled_ok (n + 4) 1 [DD ns k] cs (by omega)) rfl
  have hs := line_small cs h2 hd
  have e2 := lc_val (t := gNm 11) (vs := [11]) (c := tYesP) (e := eTup (aCons (eVar 11) (aCons (eLit (.int 1)) aNil))) (env := [s, some (.ref 0), t, a3, some (col cs), a5, some (.lst ((lineF 0 cs).map .int)), a7, a8, a9, a10, a11]) (S := [DD ns k])
    (lineF 0 cs) (fun x => PV.int x) (fun x => .tup [.int x, .int 1]) (fun _ => true) (fun x => [s, some (.ref 0), t, a3, some (col cs), a5, some (.lst ((lineF 0 cs).map .int)), a7, a8, a9, a10, some (.int x)])
    (seq_val (eVar 6) _ _ false _ rfl) (by omega) (fun x hx => rfl) (fun x hx => rfl) (fun x hx _ => ⟨false, rfl⟩)
  rw [List.filter_eq_self.mpr fun _ _ => rfl] at e2
  have hb : bDict [.lst ((lineF 0 cs).map fun x => PV.tup [.int x, .int 1])] [DD ns k] = some (true, .dct (.k ((((cs.zipIdx).filter fun p => decide (0 < p.1)).map fun p => (p.2 : Int)).map Sum.inl)) (mergeB [] [] ((lineF 0 cs).map Sum.inl) ((lineF 0 cs).map fun _ => PV.int 1)).2) := by
    show (match pairsK ((lineF 0 cs).map fun x => PV.tup [.int x, .int 1]) with
      | some z => let y := mergeB [] [] z.1 z.2; some (true, PV.dct (.k y.1) y.2)
      | none => none) = _
    rw [pairsK_ints]
    have := mergeB_ints (lineF 0 cs) [] []
    rw [List.map_nil] at this
    simp only [this, addAll_line cs 0 [] (fun c hc => (hd c hc).1) (fun x hx => absurd hx (by simp)), List.nil_append]
  have hk : bSort [.dct (.k ((((cs.zipIdx).filter fun p => decide (0 < p.1)).map fun p => (p.2 : Int)).map Sum.inl)) (mergeB [] [] ((lineF 0 cs).map Sum.inl) ((lineF 0 cs).map fun _ => PV.int 1)).2] [DD ns k] = some (true, .lst ((((cs.zipIdx).filter fun p => decide (0 < p.1)).map fun p => (p.2 : Int)).map .int)) := by
    show (match keysI ((((cs.zipIdx).filter fun p => decide (0 < p.1)).map fun p => (p.2 : Int)).map Sum.inl) with
      | some ns => if Nat.ble ns.length 63 then some (true, PV.lst ((srtI ns).map .int)) else none
      | none => none) = _
    rw [keysI_ints]
    have hf := fill_len cs
    simp only [srtI_id (fill_sorted cs 0)]
    rw [if_pos (Nat.ble_eq_true_of_le (by omega))]
  have e3 : ((cs.zipIdx.filter fun p => decide (0 < p.1)).map fun p => PV.int (p.2 : Nat)) = ((((cs.zipIdx).filter fun p => decide (0 < p.1)).map fun p => (p.2 : Int)).map .int) := by rw [List.map_map]; rfl
  rw [e3] at e1
  have em : eMeth (callF TT (n + 5)) 1 4 [(0, 9)] (eVar 4) aNil [s, some (.ref 0), t, a3, some (col cs), a5, some (.lst ((lineF 0 cs).map .int)), a7, a8, a9, a10, a11] [DD ns k] = _ := meth0 (b := false) rfl rfl e1
  unfold L8
  simp only [q_sif, q_tbl, q_ne, em, q_arg, q_cons, q_nil, e2, R.bind_ok, hb, q_ofO_some, hk, ownOf_lst, oNe_lst]
  simp
theorem l9 (hn : ns.length ≤ 63) (h1 : 1 ≤ cs.length) (a3 a4 a6 : Option PV) : ∃ (k' f : Nat), f < cs.length ∧ L9 (callF TT (n + 5)) [s, some (.ref 0), t, a3, a4, some (.int cs.length), a6, a7, a8, a9, a10, a11] [DD ns k] = .nx [s, some (.ref 0), t, a3, a4, some (.int cs.length), a6, a7, some (.int f), a9, a10, a11] [DD ns k'] := by
  obtain ⟨v, g0, g1, g2⟩ := takeV (n + 3) [] ns k cs.length hn (by omega)
  refine ⟨k + 1, v.toNat, by omega, ?_⟩
  simp [q_var, g2]
  omega
theorem l10 (hn : ns.length ≤ 63) (f : Nat) (hf : f < cs.length) (a3 a4 a6 : Option PV) : ∃ (k' p : Nat), f + 1 ≤ p ∧ p ≤ cs.length ∧ L10 (callF TT (n + 5)) [s, some (.ref 0), t, a3, a4, some (.int cs.length), a6, a7, some (.int f), a9, a10, a11] [DD ns k] = .nx [s, some (.ref 0), t, a3, a4, some (.int cs.length), a6, a7, some (.int f), some (.int p), a10, a11] [DD ns k'] := by
  obtain ⟨v, g0, g1, g2⟩ := takeV (n + 3) [] ns k ((cs.length : Int) - f) hn (by omega)
  refine ⟨k + 1, f + 1 + v.toNat, by omega, by omega, ?_⟩
  simp [q_var, oSub, cat_int, g2]
  omega
theorem l11 (h2 : cs.length ≤ 12) (hd : ∀ c ∈ cs, dig c) (f p : Nat) (hf : f < cs.length) (hp : f + 1 ≤ p) (hq : p ≤ cs.length) (a3 a5 : Option PV) : L11 (callF TT (n + 5)) [s, some (.ref 0), t, a3, some (col cs), a5, some (.lst ((lineF 0 cs).map .int)), a7, some (.int f), some (.int p), a10, a11] [DD ns k] = .nx [s, some (.ref 0), t, a3, some (col cs), a5, some (.lst ((lineF 0 cs).map .int)), a7, some (.int f), some (.int p), a10, a11] [DD ns k] := by
  have hs := line_small cs h2 hd
  have e1 := callV_same (between_ok (n + 2) 1 [DD ns k] cs f p (by omega) hf hp hq) rfl
  have g := filt_val [s, some (.ref 0), t, a3, some (col cs), a5, some (.lst ((lineF 0 cs).map .int)), a7, some (.int f), some (.int p), a10, a11] [DD ns k] (fun y => [s, some (.ref 0), t, a3, some (col cs), a5, some (.lst ((lineF 0 cs).map .int)), a7, some (.int f), some (.int p), a10, some (.int y)]) (tBl (eCh oLe oLt (eVar 8) (eVar 11) (eVar 9))) (fun y => decide ((f : Int) ≤ y ∧ y < (p : Int))) (lineF 0 cs) (by omega) rfl (fun _ => rfl) (fun _ => rfl) (fun y _ => by
      simp only [q_tbl, q_ch]
      simp [q_var, oLe_int, oLt_int]
      by_cases h : (f : Int) ≤ y
      · simp [h]
      · simp [h])
  have g2 := lineF_mid cs f p (by omega) fun c hc => (hd c hc).1
  have em : eMeth (callF TT (n + 5)) 3 5 [(0, 8)] (eVar 4) (aCons (eVar 8) (aCons (eVar 9) aNil)) [s, some (.ref 0), t, a3, some (col cs), a5, some (.lst ((lineF 0 cs).map .int)), a7, some (.int f), some (.int p), a10, a11] [DD ns k] = _ := methN (b := false) (vs := [.int f, .int p]) rfl rfl rfl rfl e1
  unfold L11
  simp only [q_sif, q_tbl, q_ne, q_len, em, g, R.bind_ok, ownOf_lst, ownOf_int, bLen_lst, q_ofO_some, List.length_map, g2, oNe_int]
  simp
theorem l12 (h1 : 1 ≤ cs.length) (h2 : cs.length ≤ 12) (a6 : Option PV) : L12 (callF TT (n + 5)) [s, some (.ref 0), t, some (.lst (cs.map .int)), some (col cs), some (.int cs.length), a6, a7, a8, a9, a10, a11] [DD ns k] = .nx [s, some (.ref 0), t, some (.lst (cs.map .int)), some (col cs), some (.int cs.length), a6, a7, a8, a9, a10, a11] [DD ns k] := by
  have e1 := callV_same (steps_ok (n + 4) 1 [DD ns k] cs h1 (by omega)) rfl
  have e2 := lc_val (t := gNm 7) (vs := [7]) (c := (tOr (tBl (eEq (callF TT (n + 5)) [(0, 2)] [.non, .bl, .int, .str, .tup, .lst, .dct, .own 0] (eVar 7) (eLit (.int 0)))) (tBl (eNe (callF TT (n + 5)) [(0, 2)] [.non, .bl, .int, .str, .tup, .lst, .dct, .own 0] (eIx (callF TT (n + 5)) [(0, 4)] (eVar 3) (eVar 7)) (eIx (callF TT (n + 5)) [(0, 4)] (eVar 3) (eBin oSub (eVar 7) (eLit (.int 1)))))))) (e := eVar 7) (env := [s, some (.ref 0), t, some (.lst (cs.map .int)), some (col cs), some (.int cs.length), a6, a7, a8, a9, a10, a11]) (S := [DD ns k])
    (List.range cs.length) (fun (i : Nat) => PV.int i) (fun (i : Nat) => PV.int i) (fun v => decide (v = 0) || !decide (cs.getD v 0 = cs.getD (v - 1) 0)) (fun (i : Nat) => [s, some (.ref 0), t, some (.lst (cs.map .int)), some (col cs), some (.int cs.length), a6, some (.int i), a8, a9, a10, a11])
    (rgn_val (eVar 5) _ _ false cs.length (by omega) rfl) (by rw [List.length_range]; omega) (fun x hx => rfl) (fun x hx => by
      have hx := List.mem_range.mp hx
      by_cases h0 : x = 0
      · subst h0
        simp [q_var, ownOf_int, oEq_int]
      · have g1 := oIx_lst' [DD ns k] cs x hx
        have g2 := oIx_lst' [DD ns k] cs (x - 1) (by omega)
        have g3 : ((x : Int) - 1) = ((x - 1 : Nat) : Int) := by omega
        simp only [q_tor, q_tbl, q_eq, q_ne, q_ix, q_bin, q_lit, q_var, List.getElem?_cons_zero, List.getElem?_cons_succ, R.bind_ok, ownOf_int, ownOf_lst, oEq_int, q_ofO_some, dIx_lst, oSub, g3, g1, g2, oNe_int]
        have h0' : ¬ ((x : Int) = 0) := by omega
        simp [h0, h0']) (fun x hx _ => ⟨false, rfl⟩)
  have e3 := steps_eq cs h1
  have em : eMeth (callF TT (n + 5)) 1 6 [(0, 10)] (eVar 4) aNil [s, some (.ref 0), t, some (.lst (cs.map .int)), some (col cs), some (.int cs.length), a6, a7, a8, a9, a10, a11] [DD ns k] = _ := meth0 (b := false) rfl rfl e1
  unfold L12
  simp only [q_sif, q_tbl, q_ne, q_len, em, e2, R.bind_ok, ownOf_lst, ownOf_int, bLen_lst, q_ofO_some, List.length_map, oNe_int, ← e3]
  simp
theorem dig0 : dig 0 := ⟨by omega, by omega⟩
theorem l13 (hn : ns.length ≤ 63) (h1 : 1 ≤ cs.length) (h2 : cs.length ≤ 12) (hd : ∀ c ∈ cs, dig c) (a4 a6 : Option PV) : ∃ (k' : Nat) (os : List Int), 1 ≤ os.length ∧ os.length ≤ 12 ∧ (∀ c ∈ os, dig c) ∧ L13 (callF TT (n + 5)) [s, some (.ref 0), t, some (.lst (cs.map .int)), a4, some (.int cs.length), a6, a7, a8, a9, a10, a11] [DD ns k] = .nx [s, some (.ref 0), t, some (.lst (cs.map .int)), a4, some (.int cs.length), a6, a7, a8, a9, some (.lst (os.map .int)), a11] [DD ns k'] := by
  obtain ⟨oo, ho1, ho2, ho3, ho⟩ : ∃ oo : List (List Int), oo.length = 5 ∧ (∀ os ∈ oo, 1 ≤ os.length ∧ os.length ≤ 12) ∧ (∀ os ∈ oo, ∀ c ∈ os, dig c) ∧ (eLst (aCons (eVar 3) (aCons (eRev (eVar 3)) (aCons (eOr (eSl (eVar 3) pNo (pSo (eUn oNeg (eLit (.int 1))))) (eLst (aCons (eLit (.int 5)) aNil))) (aCons (eIf (tBl (eBin oLt (eVar 5) (eLit (.int 12)))) (eBin oCat (eVar 3) (eLst (aCons (eLit (.int 0)) aNil))) (eVar 3)) (aCons (eArg bSort (aCons (eVar 3) aNil)) aNil)))))) [s, some (.ref 0), t, some (.lst (cs.map .int)), a4, some (.int cs.length), a6, a7, a8, a9, a10, a11] [DD ns k] = .ok (true, .lst (oo.map fun os => .lst (os.map .int))) [DD ns k] := by
    let o3 : List Int := if cs.length = 1 then [5] else cs.take (cs.length - 1)
    let o4 : List Int := if cs.length < 12 then cs ++ [0] else cs
    have d3 : ∀ c ∈ o3, dig c := by
      intro c hc
      by_cases h : cs.length = 1
      · simp only [o3, if_pos h] at hc
        rw [List.mem_singleton.mp hc]
        exact ⟨by omega, by omega⟩
      · simp only [o3, if_neg h] at hc
        exact hd c (List.mem_of_mem_take hc)
    have d4 : ∀ c ∈ o4, dig c := by
      intro c hc
      by_cases h : cs.length < 12
      · simp only [o4, if_pos h] at hc
        rcases List.mem_append.mp hc with hc | hc
        · exact hd c hc
        · rw [List.mem_singleton.mp hc]; exact dig0
      · simp only [o4, if_neg h] at hc
        exact hd c hc
    have n3 : 1 ≤ o3.length ∧ o3.length ≤ 12 := by
      by_cases h : cs.length = 1
      · simp only [o3, if_pos h]; simp
      · simp only [o3, if_neg h]; rw [List.length_take]; omega
    have n4 : 1 ≤ o4.length ∧ o4.length ≤ 12 := by
      by_cases h : cs.length < 12
      · simp only [o4, if_pos h]; rw [List.length_append]; simp; omega
      · simp only [o4, if_neg h]; omega
    have n5 : (srtI cs).length = cs.length := (srtI_perm cs).length_eq
    refine ⟨[cs, cs.reverse, o3, o4, srtI cs], rfl, fun os hos => ?_, fun os hos => ?_, ?_⟩
    · simp only [List.mem_cons, List.not_mem_nil, or_false] at hos
      rcases hos with rfl | rfl | rfl | rfl | rfl
      · exact ⟨h1, h2⟩
      · rw [List.length_reverse]; exact ⟨h1, h2⟩
      · exact n3
      · exact n4
      · rw [n5]; exact ⟨h1, h2⟩
    · simp only [List.mem_cons, List.not_mem_nil, or_false] at hos
      rcases hos with rfl | rfl | rfl | rfl | rfl
      · exact hd
      · exact fun c hc => hd c (List.mem_reverse.mp hc)
      · exact d3
      · exact d4
      · exact fun c hc => hd c ((srtI_perm cs).mem_iff.mp hc)
    · have v3 : eVar 3 [s, some (.ref 0), t, some (.lst (cs.map .int)), a4, some (.int cs.length), a6, a7, a8, a9, a10, a11] [DD ns k] = .ok (false, .lst (cs.map .int)) [DD ns k] := rfl
      have v5 : eVar 5 [s, some (.ref 0), t, some (.lst (cs.map .int)), a4, some (.int cs.length), a6, a7, a8, a9, a10, a11] [DD ns k] = .ok (false, .int cs.length) [DD ns k] := rfl
      have c1 : cutP (cs.map .int) none (some (-1)) = (cs.take (cs.length - 1)).map .int := by
        rw [cutP_map]
        have : sIxP cs.length cs.length (some (-1)) = cs.length - 1 := by
          show (if (-1 : Int) < 0 then ((-1 : Int) + cs.length).toNat else min (-1 : Int).toNat cs.length) = _
          rw [if_pos (by omega)]
          omega
        rw [this]
        show ((cs.drop 0).take (cs.length - 1 - 0)).map PV.int = _
        rw [List.drop_zero, Nat.sub_zero]
      have f3 : eOr (eSl (eVar 3) pNo (pSo (eUn oNeg (eLit (.int 1))))) (eLst (aCons (eLit (.int 5)) aNil)) [s, some (.ref 0), t, some (.lst (cs.map .int)), a4, some (.int cs.length), a6, a7, a8, a9, a10, a11] [DD ns k] = .ok (decide (cs.length = 1), .lst (o3.map .int)) [DD ns k] := by
        have es : slP none (some (-1)) (.lst (cs.map .int)) [DD ns k] = some (true, .lst ((cs.take (cs.length - 1)).map .int)) := by
          show some (true, PV.lst (cutP (cs.map .int) none (some (-1)))) = _
          rw [c1]
        simp only [q_eor, q_sl, v3, R.bind_ok, q_pno, q_pso, q_un, q_lit, oNeg, q_ofO_some, es, truth, d_lst]
        by_cases h : cs.length = 1
        · have : cs.take (cs.length - 1) = [] := by rw [h]; rfl
          simp only [this, o3, if_pos h]
          simp [small, h]
        · have hne : cs.take (cs.length - 1) ≠ [] := by
            intro z
            have := congrArg List.length z
            rw [List.length_take] at this
            simp at this
            omega
          simp only [o3, if_neg h]
          cases hc : cs.take (cs.length - 1) with
          | nil => exact absurd hc hne
          | cons x xs => simp [h]
      have f4 : ∃ b, eIf (tBl (eBin oLt (eVar 5) (eLit (.int 12)))) (eBin oCat (eVar 3) (eLst (aCons (eLit (.int 0)) aNil))) (eVar 3) [s, some (.ref 0), t, some (.lst (cs.map .int)), a4, some (.int cs.length), a6, a7, a8, a9, a10, a11] [DD ns k] = .ok (b, .lst (o4.map .int)) [DD ns k] := by
        by_cases h : cs.length < 12
        · have h' : (cs.length : Int) < 12 := by omega
          have ec : oCat (.lst (cs.map .int)) (.lst [.int 0]) [DD ns k] = some (true, .lst ((cs ++ [0]).map .int)) := by
            have es : small ((cs.map PV.int).length + [PV.int 0].length) = true := by
              unfold small
              rw [List.length_map]
              exact Nat.ble_eq_true_of_le (by simp; omega)
            unfold oCat
            simp only [d_lst, es]
            simp
          exact ⟨true, by simp only [o4, if_pos h]; simp [q_if, v3, v5, oLt_int, h', small, ec]⟩
        · have h' : ¬ (cs.length : Int) < 12 := by omega
          exact ⟨false, by simp only [o4, if_neg h]; simp [q_if, v3, v5, oLt_int, h']⟩
      obtain ⟨b4, f4⟩ := f4
      have f5 : bSort [.lst (cs.map .int)] [DD ns k] = some (true, .lst ((srtI cs).map .int)) := by
        show (intsOf (cs.map .int)).map _ = _
        rw [intsOf_map]
        rfl
      have f2 : lstOf [DD ns k] (.lst (cs.map .int)) = some (cs.map .int) := rfl
      simp only [q_lst, q_cons, q_nil, q_rev, q_arg, v3, f2, f3, f4, R.bind_ok, f5, q_ofO_some]
      simp [small]
  obtain ⟨k', i, x, hx, hv⟩ := pick_ok (n + 2) ns hn k (oo.map fun os => .lst (os.map .int)) (by rw [List.length_map]; omega)
  rw [List.getElem?_map] at hx
  cases ho' : oo[i]? with
  | none => rw [ho'] at hx; cases hx
  | some os =>
    rw [ho'] at hx
    cases hx
    have hm := List.mem_of_getElem? ho'
    refine ⟨k', os, (ho2 os hm).1, (ho2 os hm).2, ho3 os hm, ?_⟩
    rw [norm_same (show ([DD ns k'] : Store).length = 1 from rfl)] at hv
    have v1 : eVar 1 [s, some (.ref 0), t, some (.lst (cs.map .int)), a4, some (.int cs.length), a6, a7, a8, a9, a10, a11] [DD ns k] = .ok (false, .ref 0) [DD ns k] := rfl
    unfold L13
    simp only [q_sasg, q_call, q_cons, q_nil, v1, ho, R.bind_ok, List.length_cons, List.length_nil, if_true, Nat.reduceAdd, hv, R.go_ok, q_gnm]
    rfl
theorem l14 (os : List Int) (h3 : 1 ≤ os.length) (h4 : os.length ≤ 12) (hd : ∀ c ∈ os, dig c) (a5 a6 : Option PV) : L14 (callF TT (n + 5)) [s, some (.ref 0), t, some (.lst (cs.map .int)), some (col cs), a5, a6, a7, a8, a9, some (.lst (os.map .int)), a11] [DD ns k] = .nx [s, some (.ref 0), t, some (.lst (cs.map .int)), some (col cs), a5, a6, a7, a8, a9, some (.lst (os.map .int)), a11] [DD ns k] := by
  have hm := makeV (n + 3) (DD ns k) false os h3 h4 hd (callF TT (n + 5)) rfl (aCons (eVar 10) aNil) [s, some (.ref 0), t, some (.lst (cs.map .int)), some (col cs), a5, a6, a7, a8, a9, some (.lst (os.map .int)), a11] [DD ns k] rfl
  have he : callV (callF TT (n + 5)) 2 [col cs, col os] [DD ns k] = .ok (false, .bl (decide (cs = os))) [DD ns k] := eqcV (n + 4) [DD ns k] cs os
  have ht : okTy [.non, .bl, .int, .str, .tup, .lst, .dct, .own 0] [DD ns k] (col os) = true := rfl
  have v3 : eVar 3 [s, some (.ref 0), t, some (.lst (cs.map .int)), some (col cs), a5, a6, a7, a8, a9, some (.lst (os.map .int)), a11] [DD ns k] = .ok (false, .lst (cs.map .int)) [DD ns k] := rfl
  have v4 : eVar 4 [s, some (.ref 0), t, some (.lst (cs.map .int)), some (col cs), a5, a6, a7, a8, a9, some (.lst (os.map .int)), a11] [DD ns k] = .ok (false, col cs) [DD ns k] := rfl
  have v10 : eVar 10 [s, some (.ref 0), t, some (.lst (cs.map .int)), some (col cs), a5, a6, a7, a8, a9, some (.lst (os.map .int)), a11] [DD ns k] = .ok (false, .lst (os.map .int)) [DD ns k] := rfl
  unfold L14
  cases hdec : decide (cs = os) with
  | true =>
    rw [hdec] at he
    simp only [q_sif, q_tor, q_tbl, q_ne, q_eq, v3, v4, v10, R.bind_ok, hm, ownOf_col, ht, if_true, ownOf_lst, oEq_lst, q_ofO_some, show List.lookup 0 [(0, 2)] = some 2 from rfl, he, ownOf_bl, oNe_bl, oEq_bl, notI, hdec]
    simp
  | false =>
    rw [hdec] at he
    simp only [q_sif, q_tor, q_tbl, q_ne, q_eq, v3, v4, v10, R.bind_ok, hm, ownOf_col, ht, if_true, ownOf_lst, oEq_lst, q_ofO_some, show List.lookup 0 [(0, 2)] = some 2 from rfl, he, ownOf_bl, oNe_bl, oEq_bl, notI, hdec]
    simp
end
/-! a turn -/
theorem turn (n : Nat) (s t a3 a4 a5 a6 a7 a8 a9 a10 a11 : Option PV) (ns : List Int) (k : Nat) (hn : ns.length ≤ 63) : ∃ k' b3 b4 b5 b6 b7 b8 b9 b10 b11, LB (callF TT (n + 5)) [s, some (.ref 0), t, a3, a4, a5, a6, a7, a8, a9, a10, a11] [DD ns k] = .nx [s, some (.ref 0), t, b3, b4, b5, b6, b7, b8, b9, b10, b11] [DD ns k'] := by
  obtain ⟨k1, cs, h1, h2, hd, e1⟩ := l1 n s t a3 a4 a5 a6 a7 a8 a9 a10 a11 ns k hn
  obtain ⟨k2, e2⟩ := l2 n s t a4 a5 a6 a7 a8 a9 a10 a11 ns k1 cs hn h1 h2 hd
  have e3 := l3 n s t a6 a7 a8 a9 a10 a11 ns k2 cs h1 h2 hd
  have e4 : L4 (callF TT (n + 5)) [s, some (.ref 0), t, some (.lst (cs.map .int)), some (col cs), some (.int cs.length), a6, a7, a8, a9, a10, a11] [DD ns k2] = .nx [s, some (.ref 0), t, some (.lst (cs.map .int)), some (col cs), some (.int cs.length), some (.lst []), a7, a8, a9, a10, a11] [DD ns k2] := rfl
  obtain ⟨b7, e5⟩ := l5 n s t a7 a8 a9 a10 a11 ns k2 cs h2 hd (some (col cs))
  have e6 := l6 n s t b7 a8 a9 a10 a11 ns k2 cs h2 hd (some (.lst (cs.map .int))) (some (.int cs.length))
  have e7 := l7 n s t b7 a8 a9 a10 a11 ns k2 cs h2 hd (some (.lst (cs.map .int)))
  have e8 := l8 n s t b7 a8 a9 a10 a11 ns k2 cs h2 hd (some (.lst (cs.map .int))) (some (.int cs.length))
  obtain ⟨k3, f, hf, e9⟩ := l9 n s t b7 a8 a9 a10 a11 ns k2 cs hn h1 (some (.lst (cs.map .int))) (some (col cs)) (some (.lst ((lineF 0 cs).map .int)))
  obtain ⟨k4, p, hp, hq, e10⟩ := l10 n s t b7 a9 a10 a11 ns k3 cs hn f hf (some (.lst (cs.map .int))) (some (col cs)) (some (.lst ((lineF 0 cs).map .int)))
  have e11 := l11 n s t b7 a10 a11 ns k4 cs h2 hd f p hf hp hq (some (.lst (cs.map .int))) (some (.int cs.length))
  have e12 := l12 n s t b7 (some (.int f)) (some (.int p)) a10 a11 ns k4 cs h1 h2 (some (.lst ((lineF 0 cs).map .int)))
  obtain ⟨k5, os, h3, h4, hd', e13⟩ := l13 n s t b7 (some (.int f)) (some (.int p)) a10 a11 ns k4 cs hn h1 h2 hd (some (col cs)) (some (.lst ((lineF 0 cs).map .int)))
  have e14 := l14 n s t b7 (some (.int f)) (some (.int p)) a11 ns k5 cs os h3 h4 hd' (some (.int cs.length)) (some (.lst ((lineF 0 cs).map .int)))
  refine ⟨k5, some (.lst (cs.map .int)), some (col cs), some (.int cs.length), some (.lst ((lineF 0 cs).map .int)), b7, some (.int f), some (.int p), some (.lst (os.map .int)), a11, ?_⟩
  unfold LB
  rw [q_scons, e1, RS.then_nx, q_scons, e2, RS.then_nx, q_scons, e3, RS.then_nx, q_scons, e4, RS.then_nx, q_scons, e5, RS.then_nx, q_scons, e6, RS.then_nx, q_scons, e7, RS.then_nx, q_scons, e8, RS.then_nx, q_scons, e9, RS.then_nx, q_scons, e10, RS.then_nx, q_scons, e11, RS.then_nx, q_scons, e12, RS.then_nx, q_scons, e13, RS.then_nx, e14]
theorem turns (n : Nat) (s : Option PV) (ns : List Int) (hn : ns.length ≤ 63) : ∀ (xs : List PV) (t a3 a4 a5 a6 a7 a8 a9 a10 a11 : Option PV) (k : Nat), ∃ k' b2 b3 b4 b5 b6 b7 b8 b9 b10 b11, forR (gNm 2) (LB (callF TT (n + 5))) xs [s, some (.ref 0), t, a3, a4, a5, a6, a7, a8, a9, a10, a11] [DD ns k] = .nx [s, some (.ref 0), b2, b3, b4, b5, b6, b7, b8, b9, b10, b11] [DD ns k']
  | [], t, a3, a4, a5, a6, a7, a8, a9, a10, a11, k => ⟨k, _, _, _, _, _, _, _, _, _, _, rfl⟩
  | x :: xs, t, a3, a4, a5, a6, a7, a8, a9, a10, a11, k => by
    obtain ⟨k1, b3, b4, b5, b6, b7, b8, b9, b10, b11, e1⟩ := turn n s (some x) a3 a4 a5 a6 a7 a8 a9 a10 a11 ns k hn
    obtain ⟨k2, c2, c3, c4, c5, c6, c7, c8, c9, c10, c11, e2⟩ := turns n s ns hn xs (some x) b3 b4 b5 b6 b7 b8 b9 b10 b11 k1
    refine ⟨k2, c2, c3, c4, c5, c6, c7, c8, c9, c10, c11, ?_⟩
    rw [q_forC]
    have e0 : gNm 2 x [s, some (.ref 0), t, a3, a4, a5, a6, a7, a8, a9, a10, a11] [DD ns k] = some [s, some (.ref 0), some x, a3, a4, a5, a6, a7, a8, a9, a10, a11] := rfl
    simp only [e0]
    rw [e1]
    exact e2
theorem law_eval (ns : List Int) (h : ns.length ≤ 63) : ∃ S', callF TT 60 18 [.lst (ns.map .int)] 0 [] = .ok (.bl true) S' := by
  obtain ⟨k', b2, b3, b4, b5, b6, b7, b8, b9, b10, b11, e⟩ := turns 54 (some (.lst (ns.map .int))) ns h (rngL 0 5) none none none none none none none none none none 0
  refine ⟨[DD ns k'], ?_⟩
  rw [call_succ (b := b18) rfl rfl]
  show fin (b18.body (callF TT 59) 0 [some (.lst (ns.map .int)), none, none, none, none, none, none, none, none, none, none, none] []) = _
  unfold b18
  have h0 : sAsg (gNm 1) (eNew (eLst (aCons (eVar 0) (aCons (eLit (.int 0)) aNil)))) [some (.lst (ns.map .int)), none, none, none, none, none, none, none, none, none, none, none] [] = .nx [some (.lst (ns.map .int)), some (.ref 0), none, none, none, none, none, none, none, none, none, none] [DD ns 0] := rfl
  have h1 : sFor (iRg1 (eLit (.int 5))) (gNm 2) (LB (callF TT 59)) [some (.lst (ns.map .int)), some (.ref 0), none, none, none, none, none, none, none, none, none, none] [DD ns 0] = .nx [some (.lst (ns.map .int)), some (.ref 0), b2, b3, b4, b5, b6, b7, b8, b9, b10, b11] [DD ns k'] := by
    rw [q_sfor, show iRg1 (eLit (.int 5)) [some (.lst (ns.map .int)), some (.ref 0), none, none, none, none, none, none, none, none, none, none] [DD ns 0] = .ok (rngL 0 5, []) [DD ns 0] from by
      rw [q_rg1, q_lit, R.bind_ok]
      simp only [okRg_small (show (0 : Int) ≤ 5 by omega) (by omega), if_true]
      rfl, R.go_ok]
    simp only [q_unl0]
    exact e
  simp only [q_scons, h0, RS.then_nx]
  rw [show sFor (iRg1 (eLit (.int 5))) (gNm 2) _ [some (.lst (ns.map .int)), some (.ref 0), none, none, none, none, none, none, none, none, none, none] [DD ns 0] = _ from h1]
  rfl
end PX.K01
set_option Elab.async false
set_option linter.all false
set_option maxRecDepth 100000
set_option maxHeartbeats 0
open PySem PySem.W PySem.Calls PyProof.Rows PX PX.K01
theorem PySem.Challenge.cw_bucketsums_k01_whole_columns_holds : PySem.Challenge.rw_bucketsums_k01_whole_columns.Holds := by
  w_on; o_law
  refine HandSHeadRun.head_any (r := OpenLaw.row PySem.Challenge.rw_bucketsums_k01_whole_columns) (q := view (OpenLaw.row PySem.Challenge.rw_bucketsums_k01_whole_columns).prog [17]) (H := PX.K01.hk) (ob := PX.K01.ob) (M := 20000) (loose := ["SumError", "BadCounts", "BadValue", "BadRange", "MOST_VALUES", "MOST_COUNT", "is_number", "Column", "check_range", "_law_number", "_law_take", "_law_pick", "_law_counts", "_law_given"]) (d := HandSHeadRun.topDef (OpenLaw.row PySem.Challenge.rw_bucketsums_k01_whole_columns).prog 17) (kwd := []) PX.K01.ob_eq
    (by kernel_rfl) (fun s => by kernel_rfl) PX.K01.run (by kernel_rfl) (by kernel_rfl) (by kernel_rfl) (by rfl) (by first | assumption | decide +kernel) (by decide +kernel) ⟨rfl, rfl, rfl, rfl, rfl, by decide +kernel⟩ ?hw ?hc
  case hw => w_witness2
  case hc =>
    refine L2.walk_ofE (l := PySem.Challenge.rw_bucketsums_k01_whole_columns) (n := 63) (k := 2 * 60) (x := "_law_script") (CX := L2.CX0) rfl (by decide) (by kernel_rfl) ⟨rfl, by decide, by decide⟩ ?F (fun _ _ _ _ z => z)
    intro w mg fa h Y G hmg0
    obtain ⟨K, KX, c⟩ := Y
    have C : PX.K01.Ctx K h mg := ⟨KX, G, c⟩
    have hmg : mg ("law" : PySem.Str) = some (.ref fa) := by
      have e : (HandSHeadRun.topDef (OpenLaw.row PySem.Challenge.rw_bucketsums_k01_whole_columns).prog 17).name = ("law" : PySem.Str) := by kernel_rfl
      rw [← e]
      exact hmg0
    have e := hmg.symm.trans (PX.K01.m_f_law C)
    cases e
    obtain ⟨fd, F⟩ := c.def_ 18 (d := PX.K01.d18) rfl
    have hb := L2.FunD.bindsA (ps := ["_law_script"]) F fun _ _ _ _ _ _ us hl => match us, hl with | [_], _ => rfl
    refine ⟨K, fd, PX.spF (PX.K01.GG K) (PX.callF PX.K01.TT 60) 18 1, KX, fun s u => hb s [u] rfl, fun H a ns hl _ hS => ?_, fun base kb nb => ?_⟩
    · obtain ⟨S', e⟩ := PX.K01.law_eval ns hl
      exact PX.law_sp c.nol hS e
    · exact PX.K01.lawOk ⟨kb, nb, c⟩ F
