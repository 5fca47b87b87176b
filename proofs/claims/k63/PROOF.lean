import PyProof.Rows.All
import Wide.All
import OpenK.AllK
import Wide.FinOn
import HandS.ForMost
import HandS.Flow
import HandS.Star
import HandS.Style
import HandS.Defaults
import KE.KTupSum
import KE.DataAny
import HandS.TupAny
import HandS.TupMul
import KE.DataMinMax
import PyProof.InstEq
import HandS.IsInst
import HandS.OwnEq
import HandS.SlotsOwn
import HandS.Words
import PyProof.InstNe
import HandS.Dict
import HandS.Finally
import HandS.More
import HandS.RaiseOp
import PyProof.ZipIter
import PyProof.Draws
import HandS.Zip0
import HandS.Zip
import HandS.Iter
import HandS.Comp
import HandS.SortInts
import KE.KStateDown
import HandS.Base
import HandS.Call
import HandS.Ends
import HandS.HeadEnd
import HandS.HeadHook1
import HandS.HeadHook2
import HandS.Codes
import HandS.Deep
import PyProof.ListNew
import KE.KDictZip
import HandS.Conv
import HandS.Small
import PyProof.EqAt
import PyProof.EqKinds
import PyProof.TupleCall
import HandS.Set
import HandS.SetFor
import HandS.Strs
import PyProof.Rows.SortShell
import PyProof.Rows.SortRev
import PyProof.Rows.CallKwBuiltin
import PyProof.Rows.CallKw2
import KE.KSortTup
import KE.KSortKey
import HandS.List
import HandS.Sort
import HandS.SortOrd
import HandS.SortRule
import HandS.SortKw
import HandS.TupLe
import KE.GoesZip
import KE.GoesMore
import PyProof.Rows.TupDisplay
import HandS.NoneIn
import KE.KDictList
import HandS.DictSubView
import KE.KEqNest
import PyProof.NeKinds
import HandS.DeepEq
import HandS.NamedTupSort
import HandS.TupLen
import KE.KDictPairs
import KE.KDictCopyH
import KE.KDictKeyed
import Lean
import HandS.Head0
import HandS.Head1
import HandS.Head2
import PySem.Challenge.RW_bucketsums_k63_whole_moving
set_option Elab.async false
set_option linter.all false
set_option maxRecDepth 100000
namespace PX
open PySem
inductive DK where
  | k (x : Sum Int Str)
  | t (xs : List (Sum Int Str))
  deriving DecidableEq
inductive DKs where
  | k (l : List (Sum Int Str))
  | t (l : List (List (Sum Int Str)))
  deriving DecidableEq
inductive PV where
  | non
  | bl (b : Bool)
  | int (i : Int)
  | str (s : Str)
  | tup (xs : List PV)
  | lst (xs : List PV)
  | dct (ks : DKs) (vs : List PV)
  | ins (c : Nat) (ns : List Nat) (vs : List PV)
  | ref (i : Nat)
  | lck (v : PV)
abbrev Store := List PV
abbrev Env := List (Option PV)
inductive R (α : Type) where
  | ok (a : α) (S : Store)
  | ex (c : Nat) (pl : List PV) (S : Store)
  | no
def R.bind {α β : Type} : R α → (α → Store → R β) → R β
  | .ok a S, k => k a S
  | .ex c p S, _ => .ex c p S
  | .no, _ => .no
@[simp] theorem R.bind_ok {α β : Type} (a : α) (S : Store) (k : α → Store → R β) : (R.ok a S).bind k = k a S := (rfl)
@[simp] theorem R.bind_ex {α β : Type} (c : Nat) (p : List PV) (S : Store) (k : α → Store → R β) : (R.ex c p S : R α).bind k = .ex c p S := (rfl)
@[simp] theorem R.bind_no {α β : Type} (k : α → Store → R β) : (R.no : R α).bind k = .no := (rfl)
def unl : PV → PV
  | .lck o => o
  | v => v
def deref (S : Store) : PV → Option PV
  | .ref i => match S[i]? with
    | some o => some (unl o)
    | none => none
  | v => some v
abbrev SE := Env → Store → R (Bool × PV)
abbrev SA := Env → Store → R (List PV)
abbrev ST := Env → Store → R Bool
end PX
namespace PX
open PySem
def eLit (v : PV) : SE := fun _ S => .ok (false, v) S
def eVar (i : Nat) : SE := fun env S => match env[i]? with
  | some (some v) => .ok (false, v) S
  | _ => .no
abbrev Op1 := PV → Store → Option (Bool × PV)
abbrev Op2 := PV → PV → Store → Option (Bool × PV)
abbrev OpN := List PV → Store → Option (Bool × PV)
def ofO (o : Option (Bool × PV)) (S : Store) : R (Bool × PV) := match o with
  | some z => .ok z S
  | none => .no
def eUn (o : Op1) (a : SE) : SE := fun env S => (a env S).bind fun p S1 => ofO (o p.2 S1) S1
def eBin (o : Op2) (a b : SE) : SE := fun env S => (a env S).bind fun p S1 => (b env S1).bind fun q S2 => ofO (o p.2 q.2 S2) S2
def aNil : SA := fun _ S => .ok [] S
def aCons (a : SE) (r : SA) : SA := fun env S => (a env S).bind fun p S1 => (r env S1).bind fun q S2 => .ok (p.2 :: q) S2
def itemsOf (S : Store) (v : PV) : Option (List PV) := match deref S v with
  | some (.lst xs) => some xs
  | some (.tup xs) => some xs
  | _ => none
def aStar (a : SE) (r : SA) : SA := fun env S => (a env S).bind fun p S1 => match itemsOf S1 p.2 with
  | some xs => (r env S1).bind fun q S2 => .ok (xs ++ q) S2
  | none => .no
def eArg (o : OpN) (a : SA) : SE := fun env S => (a env S).bind fun p S1 => ofO (o p S1) S1
def small (n : Nat) : Bool := Nat.ble n 1000000
def eTup (a : SA) : SE := fun env S => (a env S).bind fun p S1 => if small p.length then .ok (false, .tup p) S1 else .no
def eLst (a : SA) : SE := fun env S => (a env S).bind fun p S1 => if small p.length then .ok (true, .lst p) S1 else .no
def truth (S : Store) (v : PV) : Option Bool := match deref S v with
  | some (.bl b) => some b
  | some (.int i) => some (i != 0)
  | some .non => some false
  | some (.lst xs) => some (!xs.isEmpty)
  | some (.tup xs) => some (!xs.isEmpty)
  | _ => none
def tTru (a : SE) : ST := fun env S => (a env S).bind fun p S1 => match truth S1 p.2 with
  | some b => .ok b S1
  | none => .no
def tBl (a : SE) : ST := fun env S => (a env S).bind fun p S1 => match p.2 with
  | .bl b => .ok b S1
  | _ => .no
def tNo (a : ST) : ST := fun env S => (a env S).bind fun b S1 => .ok (!b) S1
def tAn (a b : ST) : ST := fun env S => (a env S).bind fun c S1 => if c = true then b env S1 else .ok false S1
def tOr (a b : ST) : ST := fun env S => (a env S).bind fun c S1 => if c = true then .ok true S1 else b env S1
def eAn (a b : SE) : SE := fun env S => (a env S).bind fun p S1 => match truth S1 p.2 with
  | some true => b env S1
  | some false => .ok (false, p.2) S1
  | none => .no
def eOr (a b : SE) : SE := fun env S => (a env S).bind fun p S1 => match truth S1 p.2 with
  | some true => .ok (false, p.2) S1
  | some false => b env S1
  | none => .no
def eNot (a : SE) : SE := fun env S => (a env S).bind fun p S1 => match truth S1 p.2 with
  | some b => .ok (false, .bl (!b)) S1
  | none => .no
def eIf (c : ST) (a b : SE) : SE := fun env S => (c env S).bind fun t S1 => if t = true then a env S1 else b env S1
def eCh (o o' : Op2) (a b c : SE) : SE := fun env S => (a env S).bind fun p S1 => (b env S1).bind fun q S2 => match o p.2 q.2 S2 with
  | some (false, .bl true) => (c env S2).bind fun z S3 => ofO (o' q.2 z.2 S3) S3
  | some (false, .bl false) => .ok (false, .bl false) S2
  | _ => .no
def eNew (a : SE) : SE := fun env S => (a env S).bind fun p S1 => match p.1 with
  | true => .ok (false, .ref S1.length) (S1 ++ [p.2])
  | false => .ok p S1
def oSub : Op2 := fun x y _ => match x, y with
  | .int i, .int j => some (false, .int (i - j))
  | _, _ => none
def mulOk (i j : Int) : Bool := (decide (-18446744073709551616 < i) && decide (i < 18446744073709551616)) || (decide (-18446744073709551616 < j) && decide (j < 18446744073709551616))
def oDiv : Op2 := fun x y _ => match x, y with
  | .int i, .int j => if 0 < j ∧ j < 1073741824 then some (false, .int (i / j)) else none
  | _, _ => none
def oMod : Op2 := fun x y _ => match x, y with
  | .int i, .int j => if 0 < j then some (false, .int (i % j)) else none
  | _, _ => none
def oNeg : Op1 := fun x _ => match x with
  | .int i => some (false, .int (-i))
  | _ => none
def oLt : Op2 := fun x y _ => match x, y with
  | .int i, .int j => some (false, .bl (decide (i < j)))
  | _, _ => none
def oLe : Op2 := fun x y _ => match x, y with
  | .int i, .int j => some (false, .bl (decide (i ≤ j)))
  | _, _ => none
def oGt : Op2 := fun x y _ => match x, y with
  | .int i, .int j => some (false, .bl (decide (j < i)))
  | _, _ => none
end PX
namespace PX
open PySem
inductive RS where
  | nx (env : Env) (S : Store)
  | rt (v : PV) (S : Store)
  | bk (env : Env) (S : Store)
  | ct (env : Env) (S : Store)
  | ex (c : Nat) (pl : List PV) (S : Store)
  | no
abbrev SS := Env → Store → RS
def R.go {α : Type} : R α → (α → Store → RS) → RS
  | .ok a S, k => k a S
  | .ex c p S, _ => .ex c p S
  | .no, _ => .no
@[simp] theorem R.go_ok {α : Type} (a : α) (S : Store) (k : α → Store → RS) : (R.ok a S).go k = k a S := (rfl)
@[simp] theorem R.go_ex {α : Type} (c : Nat) (p : List PV) (S : Store) (k : α → Store → RS) : (R.ex c p S : R α).go k = .ex c p S := (rfl)
@[simp] theorem R.go_no {α : Type} (k : α → Store → RS) : (R.no : R α).go k = .no := (rfl)
def RS.then : RS → (Env → Store → RS) → RS
  | .nx e S, k => k e S
  | z, _ => z
@[simp] theorem RS.then_nx (e : Env) (S : Store) (k : Env → Store → RS) : (RS.nx e S).then k = k e S := (rfl)
@[simp] theorem RS.then_rt (v : PV) (S : Store) (k : Env → Store → RS) : (RS.rt v S).then k = .rt v S := (rfl)
@[simp] theorem RS.then_bk (e : Env) (S : Store) (k : Env → Store → RS) : (RS.bk e S).then k = .bk e S := (rfl)
@[simp] theorem RS.then_ct (e : Env) (S : Store) (k : Env → Store → RS) : (RS.ct e S).then k = .ct e S := (rfl)
@[simp] theorem RS.then_ex (c : Nat) (p : List PV) (S : Store) (k : Env → Store → RS) : (RS.ex c p S).then k = .ex c p S := (rfl)
@[simp] theorem RS.then_no (k : Env → Store → RS) : RS.no.then k = .no := (rfl)
def sNil : SS := fun env S => .nx env S
def sCons (a b : SS) : SS := fun env S => (a env S).then b
def sExp (a : SE) : SS := fun env S => (a env S).go fun _ S1 => .nx env S1
def sRet (a : SE) : SS := fun env S => (a env S).go fun p S1 => .rt p.2 S1
def sNo : SS := fun _ _ => .no
def sIf (c : ST) (a b : SS) : SS := fun env S => (c env S).go fun t S1 => if t = true then a env S1 else b env S1
abbrev Tg := PV → Env → Store → Option Env
def gNm (i : Nat) : Tg := fun v env _ => some (env.set i (some v))
def gTps (ts : List Tg) : List PV → Env → Store → Option Env := fun vs env S => match ts, vs with
  | [], [] => some env
  | t :: ts, v :: vs => match t v env S with
    | some env' => gTps ts vs env' S
    | none => none
  | _, _ => none
def gTp (ts : List Tg) : Tg := fun v env S => match deref S v with
  | some (.tup xs) => gTps ts xs env S
  | _ => none
def sAsg (t : Tg) (a : SE) : SS := fun env S => (a env S).go fun p S1 => match t p.2 env S1 with
  | some env' => .nx env' S1
  | none => .no
def sPar (is : List Nat) (a : SA) : SS := fun env S => (a env S).go fun vs S1 => match gTps (is.map gNm) vs env S1 with
  | some env' => .nx env' S1
  | none => .no
abbrev SI := Env → Store → R (List PV × List (Nat × PV))
def unlock : List (Nat × PV) → Store → Store
  | [], S => S
  | p :: r, S => unlock r (S.set p.1 p.2)
def RS.unl (ls : List (Nat × PV)) : RS → RS
  | .nx e S => .nx e (unlock ls S)
  | .rt v S => .rt v (unlock ls S)
  | .bk e S => .bk e (unlock ls S)
  | .ct e S => .ct e (unlock ls S)
  | .ex c p S => .ex c p (unlock ls S)
  | .no => .no
def forR (t : Tg) (b : SS) : List PV → Env → Store → RS
  | [], env, S => .nx env S
  | x :: xs, env, S => match t x env S with
    | none => .no
    | some env' => match b env' S with
      | .nx e S' => forR t b xs e S'
      | .ct e S' => forR t b xs e S'
      | .bk e S' => .nx e S'
      | z => z
def sFor (i : SI) (t : Tg) (b : SS) : SS := fun env S => (i env S).go fun p S1 => (forR t b p.1 env S1).unl p.2
def whileR (c : ST) (b : SS) : Nat → Env → Store → RS
  | 0, _, _ => .no
  | n + 1, env, S => (c env S).go fun t S1 => if t = true then
      match b env S1 with
      | .nx e S' => whileR c b n e S'
      | .ct e S' => whileR c b n e S'
      | .bk e S' => .nx e S'
      | z => z
    else .nx env S1
def sWhl (n : Nat) (c : ST) (b : SS) : SS := whileR c b n
end PX
namespace PX
open PySem
abbrev CF := Nat → List PV → Nat → Store → R PV
structure FnB where
  np : Nat
  nl : Nat
  body : CF → Nat → SS
def runB (b : FnB) (cf : CF) (args : List PV) (n0 : Nat) (S : Store) : R PV := if args.length = b.np then
    match b.body cf n0 (args.map some ++ List.replicate (b.nl - b.np) none) S with
    | .rt v S' => .ok v S'
    | .nx _ S' => .ok .non S'
    | .ex c p S' => .ex c p S'
    | _ => .no
  else .no
def callF (T : Nat → Option FnB) : Nat → CF
  | 0 => fun _ _ _ _ => .no
  | n + 1 => fun f args n0 S => match T f with
    | some b => runB b (callF T n) args n0 S
    | none => .no
def frzL (f : PV → Option PV) : List PV → Option (List PV)
  | [] => some []
  | v :: vs => match f v with
    | some w => match frzL f vs with
      | some ws => some (w :: ws)
      | none => none
    | none => none
def frzO (f : PV → Option PV) : PV → Option PV
  | .lst xs => (frzL f xs).map .lst
  | .dct ks vs => (frzL f vs).map (.dct ks)
  | .ins c ns vs => (frzL f vs).map (.ins c ns)
  | _ => none
def frz (n0 t : Nat) (S : Store) : Nat → PV → Option PV
  | 0, _ => none
  | k + 1, v => match v with
    | .ref i => if i < n0 then some (.ref i) else if i = t then none else match S[i]? with
      | some o => frzO (frz n0 t S k) o
      | none => none
    | .tup xs => (frzL (frz n0 t S k) xs).map .tup
    | .lst xs => (frzL (frz n0 t S k) xs).map .lst
    | .dct ks vs => (frzL (frz n0 t S k) vs).map (.dct ks)
    | .ins c ns vs => (frzL (frz n0 t S k) vs).map (.ins c ns)
    | .lck _ => none
    | w => some w
def norm (n0 : Nat) (v : PV) (S : Store) : R (Bool × PV) := if S.length = n0 then .ok (false, v) S else match v with
  | .ref i => if i < n0 then .ok (false, .ref i) (S.take n0) else match S[i]? with
    | some o => match frzO (frz n0 i S 8) o with
      | some w => .ok (true, w) (S.take n0)
      | none => .no
    | none => .no
  | v => match frz n0 S.length S 8 v with
    | some w => .ok (false, w) (S.take n0)
    | none => .no
def cutX {α : Type} (n0 : Nat) : R α → R α
  | .ex c p S => .ex c p (S.take n0)
  | z => z
def eCall (cf : CF) (np f : Nat) (a : SA) : SE := fun env S => (a env S).bind fun args S1 => if args.length = np then (cutX S1.length (cf f args S1.length S1)).bind fun v S2 => norm S1.length v S2 else .no
def eMake (cf : CF) (np c f : Nat) (a : SA) : SE := fun env S => (a env S).bind fun args S1 => if args.length + 1 = np then
    (cutX S1.length (cf f (.ref S1.length :: args) S1.length (S1 ++ [.ins c [] []]))).bind fun v S2 => match v with
      | .non => norm S1.length (.ref S1.length) S2
      | _ => .no
  else .no
def methOf (m : Nat) (T : List (Nat × Nat)) (S : Store) (v : PV) : Option Nat := match deref S v with
  | some (.ins c ns _) => if ns.contains m then none else T.lookup c
  | _ => none
def eMeth (cf : CF) (np m : Nat) (T : List (Nat × Nat)) (o : SE) (a : SA) : SE := fun env S => (o env S).bind fun p S0 => match methOf m T S0 p.2 with
  | some f => (a env S0).bind fun args S1 => if args.length + 1 = np then (cutX S1.length (cf f (p.2 :: args) S1.length S1)).bind fun v S2 => norm S1.length v S2 else .no
  | none => .no
def fldOf (cs : List Nat) (f : Nat) (S : Store) (v : PV) : Option PV := match deref S v with
  | some (.ins c ns vs) => if cs.contains c then (ns.zip vs).lookup f else none
  | _ => none
def eFld (cs : List Nat) (f : Nat) (a : SE) : SE := eUn (fun v S => (fldOf cs f S v).map fun w => (false, w)) a
def noref : PV → Bool
  | .non => true
  | .bl _ => true
  | .int _ => true
  | .str _ => true
  | .tup xs => norefL xs
  | .lst xs => norefL xs
  | .dct _ vs => norefL vs
  | .ins _ _ vs => norefL vs
  | .ref _ => false
  | .lck _ => false
where norefL : List PV → Bool
  | [] => true
  | v :: vs => noref v && norefL vs
def mayPut (n0 i : Nat) (v : PV) : Bool := Nat.ble n0 i || noref v
def putFld (f : Nat) (v : PV) : List Nat → List PV → List Nat × List PV
  | n :: ns, w :: ws => if n = f then (n :: ns, v :: ws) else let z := putFld f v ns ws; (n :: z.1, w :: z.2)
  | _, _ => ([f], [v])
def sFld (n0 : Nat) (cs : List Nat) (f : Nat) (o e : SE) : SS := fun env S => (e env S).go fun p S1 => (o env S1).go fun q S2 => match q.2 with
  | .ref i => match S2[i]? with
    | some (.ins c ns vs) => if cs.contains c && mayPut n0 i p.2 && Nat.ble ns.length 100 then .nx env (S2.set i (.ins c (putFld f p.2 ns vs).1 (putFld f p.2 ns vs).2)) else .no
    | _ => .no
  | _ => .no
end PX
set_option Elab.async false
set_option linter.all false
set_option maxRecDepth 100000
namespace PX
open PySem PySem.Spec PyProof.Rows L2
structure Gam where
  K : PySem.W.Frag
  fa : Nat → Addr
  ca : Nat → Addr
  nm : Nat → Str
def DR (ho : HO) (ks : DKs) (us : List V) : Prop := match ks with
  | .k kk => ho = .dK (kk.zip us) ∧ kk.length = us.length
  | .t kt => ho = .dT (kt.zip us) ∧ kt.length = us.length
mutual
def RV (G : Gam) (F : Hp) (r : List Addr) : PV → V → Prop
  | .non, u => u = .non
  | .bl b, u => u = .bl b
  | .int i, u => u = .int i
  | .str x, u => u = .str x
  | .tup xs, u => ∃ a us, u = .ref a ∧ F a = some (.tup us) ∧ RVs G F r xs us
  | .lst xs, u => ∃ a us, u = .ref a ∧ Rd F a (.lst us) ∧ RVs G F r xs us
  | .dct ks vs, u => ∃ a us ho, u = .ref a ∧ F a = some ho ∧ DR ho ks us ∧ RVs G F r vs us
  | .ins c ns vs, u => ∃ a dx us, u = .ref a ∧ F a = some (.ins (G.ca c) dx ((ns.map G.nm).zip us)) ∧ ns.length = us.length ∧ RVs G F r vs us
  | .ref i, u => ∃ a, r[i]? = some a ∧ u = .ref a
  | .lck _, _ => False
def RVs (G : Gam) (F : Hp) (r : List Addr) : List PV → List V → Prop
  | [], us => us = []
  | v :: vs, us => ∃ u ur, us = u :: ur ∧ RV G F r v u ∧ RVs G F r vs ur
end
def RO (G : Gam) (F : Hp) (r : List Addr) (v : PV) (ho : HO) : Prop := match unl v with
  | .lst xs => ∃ us, ho = .lst us ∧ RVs G F r xs us
  | .dct ks vs => ∃ us, DR ho ks us ∧ RVs G F r vs us
  | .ins c ns vs => ∃ dx us, ho = .ins (G.ca c) dx ((ns.map G.nm).zip us) ∧ ns.length = us.length ∧ RVs G F r vs us
  | _ => False
def Le (F F' : Hp) : Prop := ∀ a o, F a = some o → F' a = some o
theorem Le.refl (F : Hp) : Le F F := fun _ _ e => e
theorem Le.trans {F F' F2 : Hp} (h : Le F F') (k : Le F' F2) : Le F F2 := fun a o e => k a o (h a o e)
theorem Le.sqT {K : PySem.W.Frag} {F F' : Hp} (h : Le F F') {a : Addr} {us : List V} (q : SqT K F a us) : SqT K F' a us := by
  rcases q with (q | ⟨o, q⟩) | q
  · exact .inl (.inl (h _ _ q))
  · exact .inl (.inr ⟨o, h _ _ q⟩)
  · exact .inr q
theorem Le.tp {K : PySem.W.Frag} {F F' : Hp} (h : Le F F') {a : Addr} {us : List V} (q : F a = some (.tup us)) : SqT K F' a us := .inl (.inl (h _ _ q))
theorem Le.sqL {K : PySem.W.Frag} {F F' : Hp} (h : Le F F') {a : Addr} {us : List V} (q : SqL K F a us) : SqL K F' a us := by
  rcases q with (q | ⟨o, q⟩) | q
  · exact .inl (.inl (h _ _ q))
  · exact .inl (.inr ⟨o, h _ _ q⟩)
  · exact .inr q
theorem Le.rd {F F' : Hp} (h : Le F F') {a : Addr} {o : HO} (q : Rd F a o) : Rd F' a o := by
  rcases q with q | ⟨z, q⟩
  · exact .inl (h _ _ q)
  · exact .inr ⟨z, h _ _ q⟩
def isDk : HO → Bool
  | .dK _ => true
  | _ => false
def LeD (F H : Hp) : Prop := ∀ a o, F a = some o → H a = some o ∨ (isDk o = true ∧ ∃ od, H a = some (.frz od o))
theorem LeD.of {F H : Hp} (h : Le F H) : LeD F H := fun a o e => .inl (h a o e)
theorem LeD.refl (F : Hp) : LeD F F := fun _ _ e => .inl e
theorem LeD.trans {F F' H : Hp} (h : Le F F') (k : LeD F' H) : LeD F H := fun a o e => k a o (h a o e)
theorem LeD.eq {F H : Hp} (h : LeD F H) {a : Addr} {o : HO} (e : F a = some o) (hd : isDk o = false) : H a = some o := by
  rcases h a o e with q | ⟨q, _⟩
  · exact q
  · rw [hd] at q; cases q
theorem LeD.ne {F H : Hp} (h : LeD F H) {a : Addr} {o : HO} (e : F a = some o) : H a ≠ none := by
  rcases h a o e with q | ⟨_, _, q⟩ <;> rw [q] <;> intro z <;> cases z
theorem LeD.any {F H : Hp} (h : LeD F H) {a : Addr} {o : HO} (e : F a = some o) : Rd H a o := by
  rcases h a o e with q | ⟨_, od, q⟩
  · exact .inl q
  · exact .inr ⟨od, q⟩
theorem LeD.rd {F H : Hp} (h : LeD F H) {a : Addr} {us : List V} (q : Rd F a (.lst us)) : Rd H a (.lst us) := by
  rcases q with q | ⟨z, q⟩
  · exact .inl (h.eq q rfl)
  · exact .inr ⟨z, h.eq q rfl⟩
theorem LeD.tpH {F H : Hp} (h : LeD F H) {a : Addr} {us : List V} (q : F a = some (.tup us)) : H a = some (.tup us) := h.eq q rfl
theorem LeD.tp {K : PySem.W.Frag} {F H : Hp} (h : LeD F H) {a : Addr} {us : List V} (q : F a = some (.tup us)) : SqT K H a us := .inl (.inl (h.eq q rfl))
theorem LeD.heap {F H H' : Hp} (h : LeD F H) (k : ∀ a o, H a = some o → H' a = some o) : LeD F H' := fun a o e => by
  rcases h a o e with q | ⟨q, od, z⟩
  · exact .inl (k _ _ q)
  · exact .inr ⟨q, od, k _ _ z⟩
def isFz : HO → Bool
  | .frz _ (.dK _) => true
  | _ => false
theorem noFz {P Q : Prop} {o : HO} (q : P ∨ (isFz o = true ∧ Q)) (h : isFz o = false) : P := by
  rcases q with q | ⟨q, _⟩
  · exact q
  · rw [h] at q; cases q
def isLk : PV → Bool
  | .lck (.dct _ _) => true
  | _ => false
def AtL (H : Hp) (a : Addr) (ob : PV) (ho : HO) : Prop := match isLk ob with
  | false => H a = some ho
  | true => isDk ho = true ∧ ∃ od, H a = some (.frz od ho)
theorem AtL.nl {H : Hp} {a : Addr} {ob : PV} {ho : HO} (q : AtL H a ob ho) (h : isLk ob = false) : H a = some ho := by
  unfold AtL at q
  rw [h] at q
  exact q
theorem AtL.mk {H : Hp} {a : Addr} {ob : PV} {ho : HO} (q : H a = some ho) (h : isLk ob = false) : AtL H a ob ho := by
  unfold AtL
  rw [h]
  exact q
theorem AtL.lk {H : Hp} {a : Addr} {ob : PV} {ho : HO} (q : AtL H a ob ho) (h : isLk ob = true) : isDk ho = true ∧ ∃ od, H a = some (.frz od ho) := by
  unfold AtL at q
  rw [h] at q
  exact q
theorem AtL.or {H : Hp} {a : Addr} {ob : PV} {ho : HO} (q : AtL H a ob ho) : H a = some ho ∨ (isDk ho = true ∧ ∃ od, H a = some (.frz od ho)) := by
  cases h : isLk ob with
  | false => exact .inl (q.nl h)
  | true => exact .inr (q.lk h)
theorem AtL.nd {H : Hp} {a : Addr} {ob : PV} {ho : HO} (q : AtL H a ob ho) (h : isDk ho = false) : H a = some ho := by
  rcases q.or with q | ⟨q, _⟩
  · exact q
  · rw [h] at q; cases q
theorem isLk_unl {ob : PV} (h : unl ob = ob) : isLk ob = false := by
  cases ob with
  | lck o =>
    have e : o = .lck o := h
    exact absurd e (by intro z; have := congrArg sizeOf z; simp at this)
  | _ => rfl
theorem AtL.un {H : Hp} {a : Addr} {ob : PV} {ho : HO} (q : AtL H a ob ho) (h : unl ob = ob) : H a = some ho := q.nl (isLk_unl h)
theorem AtL.heap {H H' : Hp} {a : Addr} {ob : PV} {ho : HO} (q : AtL H a ob ho) (k : ∀ o, H a = some o → H' a = some o) : AtL H' a ob ho := by
  unfold AtL at q ⊢
  cases h : isLk ob with
  | false =>
    rw [h] at q
    exact k _ q
  | true =>
    rw [h] at q
    obtain ⟨q2, od, q3⟩ := q
    exact ⟨q2, od, k _ q3⟩
theorem AtL.upd {H : Hp} {a b : Addr} {ob : PV} {ho o : HO} (q : AtL H b ob ho) (hb : b ≠ a) : AtL (L2.upd H a o) b ob ho := q.heap fun o e => by
  rw [upd_ne hb]
  exact e
theorem AtL.there {H : Hp} {a : Addr} {ob : PV} {ho : HO} (q : AtL H a ob ho) : ∃ o, H a = some o := by
  rcases q.or with q | ⟨_, _, q⟩ <;> exact ⟨_, q⟩
mutual
theorem RV.mono {G : Gam} {F F' : Hp} {r r' : List Addr} (h : Le F F') (p : ∀ (i : Nat) a, r[i]? = some a → r'[i]? = some a) : ∀ (v : PV) (u : V), RV G F r v u → RV G F' r' v u
  | .non, _, q => q
  | .bl _, _, q => q
  | .int _, _, q => q
  | .str _, _, q => q
  | .tup xs, _, q => by
    obtain ⟨a, us, e, s, k⟩ := q
    exact ⟨a, us, e, h _ _ s, RVs.mono h p xs us k⟩
  | .lst xs, _, q => by
    obtain ⟨a, us, e, s, k⟩ := q
    exact ⟨a, us, e, h.rd s, RVs.mono h p xs us k⟩
  | .dct ks vs, _, q => by
    obtain ⟨a, us, ho, e, s, d, k⟩ := q
    exact ⟨a, us, ho, e, h _ _ s, d, RVs.mono h p vs us k⟩
  | .ins c ns vs, _, q => by
    obtain ⟨a, dx, us, e, s, d, k⟩ := q
    exact ⟨a, dx, us, e, h _ _ s, d, RVs.mono h p vs us k⟩
  | .ref i, _, q => by
    obtain ⟨a, e, k⟩ := q
    exact ⟨a, p i a e, k⟩
  | .lck _, _, q => q.elim
theorem RVs.mono {G : Gam} {F F' : Hp} {r r' : List Addr} (h : Le F F') (p : ∀ (i : Nat) a, r[i]? = some a → r'[i]? = some a) : ∀ (vs : List PV) (us : List V), RVs G F r vs us → RVs G F' r' vs us
  | [], _, q => q
  | v :: vs, _, q => by
    obtain ⟨u, ur, e, k, l⟩ := q
    exact ⟨u, ur, e, RV.mono h p v u k, RVs.mono h p vs ur l⟩
end
theorem RO.mono {G : Gam} {F F' : Hp} {r r' : List Addr} (h : Le F F') (p : ∀ (i : Nat) a, r[i]? = some a → r'[i]? = some a) {v : PV} {ho : HO} (q : RO G F r v ho) : RO G F' r' v ho := by
  unfold RO at q ⊢
  split at q
  · obtain ⟨us, e, k⟩ := q
    exact ⟨us, e, RVs.mono h p _ us k⟩
  · obtain ⟨us, e, k⟩ := q
    exact ⟨us, e, RVs.mono h p _ us k⟩
  · obtain ⟨dx, us, e, l, k⟩ := q
    exact ⟨dx, us, e, l, RVs.mono h p _ us k⟩
  · exact q.elim
theorem RVs.length {G : Gam} {F : Hp} {r : List Addr} : ∀ {vs : List PV} {us : List V}, RVs G F r vs us → vs.length = us.length
  | [], _, q => by
    have e := (show _ = [] from q)
    rw [e]; rfl
  | v :: vs, _, q => by
    obtain ⟨u, ur, e, k, l⟩ := q
    rw [e, List.length_cons, List.length_cons, RVs.length l]
theorem RVs.get {G : Gam} {F : Hp} {r : List Addr} : ∀ {vs : List PV} {us : List V} {i : Nat} {v : PV}, RVs G F r vs us → vs[i]? = some v → ∃ u, us[i]? = some u ∧ RV G F r v u
  | [], _, i, v, q, e => by simp at e
  | w :: vs, _, 0, v, q, e => by
    obtain ⟨u, ur, rfl, k, l⟩ := q
    simp at e; subst e
    exact ⟨u, by simp, k⟩
  | w :: vs, _, i + 1, v, q, e => by
    obtain ⟨u, ur, rfl, k, l⟩ := q
    obtain ⟨u', h1, h2⟩ := RVs.get (i := i) (v := v) l (by simpa using e)
    exact ⟨u', by simpa using h1, h2⟩
theorem RVs.append {G : Gam} {F : Hp} {r : List Addr} : ∀ {vs : List PV} {us : List V} {ws : List PV} {zs : List V}, RVs G F r vs us → RVs G F r ws zs → RVs G F r (vs ++ ws) (us ++ zs)
  | [], _, ws, zs, q, k => by
    have e := (show _ = [] from q)
    subst e
    exact k
  | v :: vs, _, ws, zs, q, k => by
    obtain ⟨u, ur, rfl, h, l⟩ := q
    exact ⟨u, ur ++ zs, rfl, h, RVs.append l k⟩
theorem RVs.set {G : Gam} {F : Hp} {r : List Addr} {x : PV} {y : V} (h : RV G F r x y) : ∀ {vs : List PV} {us : List V} (i : Nat), RVs G F r vs us → RVs G F r (vs.set i x) (us.set i y)
  | [], _, i, q => by
    have e := (show _ = [] from q)
    subst e
    exact rfl
  | v :: vs, _, 0, q => by
    obtain ⟨u, ur, rfl, k, l⟩ := q
    exact ⟨y, ur, rfl, h, l⟩
  | v :: vs, _, i + 1, q => by
    obtain ⟨u, ur, rfl, k, l⟩ := q
    exact ⟨u, ur.set i y, rfl, k, RVs.set h i l⟩
theorem RVs.ints {G : Gam} {F : Hp} {r : List Addr} : ∀ {ns : List Int} {us : List V}, RVs G F r (ns.map PV.int) us → us = ns.map V.int
  | [], _, q => q
  | n :: ns, _, q => by
    obtain ⟨u, ur, rfl, k, l⟩ := q
    have e : u = V.int n := k
    rw [e, RVs.ints l]
    rfl
theorem RVs.of_ints {G : Gam} {F : Hp} {r : List Addr} : ∀ (ns : List Int), RVs G F r (ns.map PV.int) (ns.map V.int)
  | [] => rfl
  | n :: ns => ⟨_, _, rfl, rfl, RVs.of_ints ns⟩
def lim (n0 : Nat) (L : Nat → Nat) (r : List Addr) (i : Nat) : List Addr := if i < n0 then r.take (L i) else r
structure Gh where
  L : Nat → Nat
  pn : Hp
  lk : Addr → Bool
structure HR (G : Gam) (n0 : Nat) (g : Gh) (F : Hp) (r : List Addr) (S : Store) (H : Hp) : Prop where
  sub : LeD F H
  nd : r.Nodup
  off : ∀ a ∈ r, F a = none
  len : r.length = S.length
  nle : n0 ≤ S.length
  lle : ∀ i : Nat, i < n0 → g.L i ≤ n0
  obj : ∀ (i : Nat) ob a, S[i]? = some ob → r[i]? = some a → ∃ ho, AtL H a ob ho ∧ RO G F (lim n0 g.L r i) ob ho
  pin : ∀ a o, g.pn a = some o → H a = some o ∧ (F a = none ∨ (isFz o = true ∧ g.lk a = true)) ∧ ∀ i : Nat, r[i]? = some a → ∃ ob, S[i]? = some (.lck ob)
  lckd : ∀ (i : Nat) ob a, S[i]? = some (.lck ob) → r[i]? = some a → ∃ o, g.pn a = some o
  out : ∀ a o, g.pn a = some o → g.lk a = false → a ∉ r
structure Sg (G : Gam) (n0 : Nat) (g : Gh) (F : Hp) (r : List Addr) (env : Env) (σ : L2.St) (S : Store) (H : Hp) : Prop where
  hr : HR G n0 g F r S H
  sl : env.length = σ.length
  vr : ∀ (i : Nat) v, env[i]? = some (some v) → ∃ u, σ[i]? = some (some u) ∧ RV G F r v u
def Ext (F F' : Hp) (r r' : List Addr) : Prop := Le F F' ∧ r <+: r'
theorem Ext.refl (F : Hp) (r : List Addr) : Ext F F r r := ⟨Le.refl F, List.prefix_refl r⟩
theorem Ext.trans {F F' F2 : Hp} {r r' r2 : List Addr} (h : Ext F F' r r') (k : Ext F' F2 r' r2) : Ext F F2 r r2 := ⟨h.1.trans k.1, h.2.trans k.2⟩
theorem at_of {r r' : List Addr} (h : r <+: r') : ∀ (i : Nat) a, r[i]? = some a → r'[i]? = some a := fun i a e => by
  obtain ⟨t, rfl⟩ := h
  have hi := (List.getElem?_eq_some_iff.mp e).1
  rw [List.getElem?_append_left hi]
  exact e
theorem Ext.at_ {F F' : Hp} {r r' : List Addr} (h : Ext F F' r r') : ∀ (i : Nat) a, r[i]? = some a → r'[i]? = some a := at_of h.2
theorem lim_le (n0 : Nat) (L : Nat → Nat) (r : List Addr) (i : Nat) : lim n0 L r i <+: r := by
  unfold lim
  split
  · exact List.take_prefix _ _
  · exact List.prefix_refl r
theorem lim_mono {n0 : Nat} {L : Nat → Nat} {r r' : List Addr} (h : r <+: r') (i : Nat) : ∀ (j : Nat) a, (lim n0 L r i)[j]? = some a → (lim n0 L r' i)[j]? = some a := fun j b e => by
  unfold lim at e ⊢
  split at e
  · rename_i hn
    rw [if_pos hn]
    rw [List.getElem?_take] at e ⊢
    split at e
    · rename_i hj
      rw [if_pos hj]
      exact at_of h j b e
    · cases e
  · rename_i hn
    rw [if_neg hn]
    exact at_of h j b e
theorem RV.ext {G : Gam} {F F' : Hp} {r r' : List Addr} (h : Ext F F' r r') {v : PV} {u : V} (q : RV G F r v u) : RV G F' r' v u := RV.mono h.1 h.at_ v u q
theorem RVs.ext {G : Gam} {F F' : Hp} {r r' : List Addr} (h : Ext F F' r r') {v : List PV} {u : List V} (q : RVs G F r v u) : RVs G F' r' v u := RVs.mono h.1 h.at_ v u q
theorem Sg.ext {G : Gam} {n0 : Nat} {g : Gh} {F F' : Hp} {r r' : List Addr} {env : Env} {σ : L2.St} {S S' : Store} {H H' : Hp} (s : Sg G n0 g F r env σ S H) (h : Ext F F' r r') (k : HR G n0 g F' r' S' H') : Sg G n0 g F' r' env σ S' H' :=
  ⟨k, s.sl, fun i v e => let ⟨u, h1, h2⟩ := s.vr i v e; ⟨u, h1, h2.ext h⟩⟩
def RF (G : Gam) (g : Gh) (F : Hp) (r : List Addr) (H : Hp) (b : Bool) (v : PV) (u : V) : Prop := match b with
  | true => ∃ a ho, u = .ref a ∧ H a = some ho ∧ F a = none ∧ a ∉ r ∧ g.pn a = none ∧ RO G F r v ho ∧ unl v = v
  | false => RV G F r v u
section
variable {G : Gam} {n0 : Nat} {g : Gh} {F : Hp} {r : List Addr} {S : Store} {H : Hp}
theorem Le.upd {a : Addr} {ho : HO} (hF : F a = none) : Le F (L2.upd F a ho) := fun b o e => by
  rw [upd_ne (fun z => by rw [z, hF] at e; cases e)]
  exact e
theorem HR.nopin (h : HR G n0 g F r S H) {i : Nat} {a : Addr} {ob : PV} (e1 : r[i]? = some a) (e2 : S[i]? = some ob) (hu : unl ob = ob) : g.pn a = none := by
  cases e : g.pn a with
  | none => rfl
  | some o =>
    obtain ⟨ob', q⟩ := (h.pin a o e).2.2 i e1
    rw [e2] at q
    cases q
    have e4 : ob' = .lck ob' := hu
    exact absurd e4 (by intro z; have := congrArg sizeOf z; simp at this)
theorem HR.mem (h : HR G n0 g F r S H) {a : Addr} (ha : a ∈ r) : ∃ ho, H a = some ho := by
  obtain ⟨i, hi, e⟩ := List.getElem_of_mem ha
  have hs : i < S.length := by rw [← h.len]; exact hi
  obtain ⟨ho, q, _⟩ := h.obj i S[i] a (List.getElem?_eq_getElem hs) (by rw [List.getElem?_eq_getElem hi, e])
  exact q.there
theorem HR.noF (h : HR G n0 g F r S H) {a : Addr} (ha : H a = none) : F a = none := by
  cases e : F a with
  | none => rfl
  | some o =>
    exact absurd ha (h.sub.ne e)
theorem HR.nor (h : HR G n0 g F r S H) {a : Addr} (ha : H a = none) : a ∉ r := fun hm => by
  obtain ⟨ho, e⟩ := h.mem hm
  rw [e] at ha
  cases ha
theorem HR.nop (h : HR G n0 g F r S H) {a : Addr} (ha : H a = none) : g.pn a = none := by
  cases e : g.pn a with
  | none => rfl
  | some o =>
    rw [(h.pin a o e).1] at ha
    cases ha
theorem HR.heap {H' : Hp} (h : HR G n0 g F r S H) (k : ∀ a o, H a = some o → H' a = some o) : HR G n0 g F r S H' :=
  ⟨h.sub.heap k, h.nd, h.off, h.len, h.nle, h.lle, fun i ob a e1 e2 => let ⟨ho, q, z⟩ := h.obj i ob a e1 e2; ⟨ho, q.heap (k a), z⟩, fun a o e => let ⟨q, z⟩ := h.pin a o e; ⟨k _ _ q, z⟩, h.lckd, h.out⟩
theorem HR.grow {a : Addr} {ho : HO} (h : HR G n0 g F r S H) (hH : H a = some ho) (hF : F a = none) (hr : a ∉ r) (hp : g.pn a = none) : HR G n0 g (L2.upd F a ho) r S H := by
  refine ⟨fun b o e => ?_, h.nd, fun b hb => ?_, h.len, h.nle, h.lle, fun i ob c e1 e2 => ?_, fun b o e => ?_, h.lckd, h.out⟩
  · by_cases hb : b = a
    · subst hb
      rw [upd_same] at e
      rw [hH]; exact .inl e
    · rw [upd_ne hb] at e
      exact h.sub b o e
  · rw [upd_ne (fun z => hr (by rw [← z]; exact hb))]
    exact h.off b hb
  · obtain ⟨o, h1, h2⟩ := h.obj i ob c e1 e2
    exact ⟨o, h1, RO.mono (Le.upd hF) (fun _ _ e => e) h2⟩
  · obtain ⟨q1, q2, q3⟩ := h.pin b o e
    refine ⟨q1, ?_, q3⟩
    rw [upd_ne (fun z => by rw [z, hp] at e; cases e)]
    exact q2
theorem freeze {b : Bool} {v : PV} {u : V} (h : HR G n0 g F r S H) (q : RF G g F r H b v u) : ∃ F', Ext F F' r r ∧ HR G n0 g F' r S H ∧ RV G F' r v u := by
  cases b with
  | false => exact ⟨F, .refl F r, h, q⟩
  | true =>
    obtain ⟨a, ho, rfl, hH, hF, hr, hp, ro, hu⟩ := q
    refine ⟨L2.upd F a ho, ⟨Le.upd hF, List.prefix_refl r⟩, h.grow hH hF hr hp, ?_⟩
    have ro' : RO G (L2.upd F a ho) r v ho := RO.mono (Le.upd hF) (fun _ _ e => e) ro
    unfold RO at ro'
    rw [hu] at ro'
    split at ro'
    · obtain ⟨us, rfl, k⟩ := ro'
      exact ⟨a, us, rfl, .inl upd_same, k⟩
    · obtain ⟨us, d, k⟩ := ro'
      exact ⟨a, us, ho, rfl, upd_same, d, k⟩
    · obtain ⟨dx, us, rfl, l, k⟩ := ro'
      exact ⟨a, dx, us, rfl, upd_same, l, k⟩
    · exact ro'.elim
theorem store_new {v : PV} {u : V} (h : HR G n0 g F r S H) (q : RF G g F r H true v u) : ∃ r', Ext F F r r' ∧ HR G n0 g F r' (S ++ [v]) H ∧ RV G F r' (.ref S.length) u := by
  obtain ⟨a, ho, rfl, hH, hF, hr, hp, ro, hu⟩ := q
  have ex : Ext F F r (r ++ [a]) := ⟨.refl F, List.prefix_append r [a]⟩
  refine ⟨r ++ [a], ex, ⟨h.sub, ?_, fun b hb => ?_, by simp [h.len], by rw [List.length_append]; exact Nat.le_trans h.nle (Nat.le_add_right _ _), h.lle, fun i ob c e1 e2 => ?_, fun b o e => ?_, fun i ob c e1 e2 => ?_, fun b o e el hb => ?_⟩, ⟨a, ?_, rfl⟩⟩
  · rw [List.nodup_append]
    refine ⟨h.nd, by simp, fun x hx y hy e => ?_⟩
    have : y = a := by simpa using hy
    exact hr (by rw [← this, ← e]; exact hx)
  · rcases List.mem_append.mp hb with hb | hb
    · exact h.off b hb
    · have : b = a := by simpa using hb
      rw [this]; exact hF
  · by_cases hi : i < S.length
    · rw [List.getElem?_append_left hi] at e1
      rw [List.getElem?_append_left (by rw [h.len]; exact hi)] at e2
      obtain ⟨o, h1, h2⟩ := h.obj i ob c e1 e2
      exact ⟨o, h1, RO.mono (.refl F) (lim_mono ex.2 i) h2⟩
    · have hi' : i = S.length := by
        have := (List.getElem?_eq_some_iff.mp e1).1
        rw [List.length_append, List.length_singleton] at this
        omega
      subst hi'
      rw [List.getElem?_append_right (Nat.le_refl _)] at e1
      rw [← h.len, List.getElem?_append_right (Nat.le_refl _)] at e2
      simp at e1 e2
      subst e1 e2
      refine ⟨ho, .mk hH (isLk_unl hu), ?_⟩
      unfold lim
      rw [if_neg (by have := h.nle; omega)]
      exact RO.mono (.refl F) ex.at_ ro
  · obtain ⟨q1, q2, q3⟩ := h.pin b o e
    refine ⟨q1, q2, fun i hm => ?_⟩
    by_cases hi : i < r.length
    · rw [List.getElem?_append_left hi] at hm
      obtain ⟨ob, hb⟩ := q3 i hm
      exact ⟨ob, by rw [List.getElem?_append_left (by rw [← h.len]; exact hi)]; exact hb⟩
    · have : b = a := by
        rw [List.getElem?_append_right (by omega)] at hm
        have := List.mem_of_getElem? hm
        simpa using this
      rw [this, hp] at e
      cases e
  · by_cases hi : i < S.length
    · rw [List.getElem?_append_left hi] at e1
      rw [List.getElem?_append_left (by rw [h.len]; exact hi)] at e2
      exact h.lckd i ob c e1 e2
    · rw [List.getElem?_append_right (by omega)] at e1
      have := List.mem_of_getElem? e1
      have e3 : PV.lck ob = v := by simpa using this
      rw [← e3] at hu ro
      have e4 : ob = .lck ob := hu
      exact absurd e4 (by intro z; have := congrArg sizeOf z; simp at this)
  · rcases List.mem_append.mp hb with hb | hb
    · exact h.out b o e el hb
    · have : b = a := by simpa using hb
      rw [this, hp] at e
      cases e
  · rw [← h.len, List.getElem?_append_right (Nat.le_refl _)]
    simp
theorem new_obj {p : Addr} {ho : HO} {v : PV} (h : HR G n0 g F r S H) (hp : H p = none) (ro : RO G F r v ho) (hu : unl v = v) : HR G n0 g F r S (L2.upd H p ho) ∧ RF G g F r (L2.upd H p ho) true v (.ref p) :=
  ⟨h.heap fun a o e => by rw [upd_ne (ne_of_none e hp)]; exact e, ⟨p, ho, rfl, upd_same, h.noF hp, h.nor hp, h.nop hp, ro, hu⟩⟩
theorem new_tup {p : Addr} {xs : List PV} {us : List V} (h : HR G n0 g F r S H) (hp : H p = none) (q : RVs G F r xs us) : ∃ F', Ext F F' r r ∧ HR G n0 g F' r S (L2.upd H p (.tup us)) ∧ RV G F' r (.tup xs) (.ref p) := by
  have h1 : HR G n0 g F r S (L2.upd H p (.tup us)) := h.heap fun a o e => by rw [upd_ne (ne_of_none e hp)]; exact e
  have x : Ext F (L2.upd F p (.tup us)) r r := ⟨Le.upd (h.noF hp), List.prefix_refl r⟩
  exact ⟨_, x, h1.grow upd_same (h.noF hp) (h.nor hp) (h.nop hp), ⟨p, us, rfl, upd_same, q.ext x⟩⟩
theorem HR.ref (h : HR G n0 g F r S H) {i : Nat} {u : V} {ob : PV} (q : RV G F r (.ref i) u) (e : S[i]? = some ob) : ∃ a ho, u = .ref a ∧ r[i]? = some a ∧ AtL H a ob ho ∧ RO G F r ob ho := by
  obtain ⟨a, e1, rfl⟩ := q
  obtain ⟨ho, h1, h2⟩ := h.obj i ob a e e1
  exact ⟨a, ho, rfl, e1, h1, RO.mono (.refl F) (at_of (lim_le n0 g.L r i)) h2⟩
theorem RO.unl_ {v : PV} {ho : HO} (q : RO G F r v ho) : RO G F r (unl v) ho := by
  unfold RO at q ⊢
  cases v with
  | lck w =>
    cases w <;> first | exact q.elim | exact q
  | _ => exact q
theorem view (h : HR G n0 g F r S H) {v w : PV} {u : V} (q : RV G F r v u) (e : deref S v = some w) : RV G F r w u ∧ (∀ i, w ≠ .ref i) ∨ ∃ a ho, u = .ref a ∧ (H a = some ho ∨ (isDk ho = true ∧ ∃ od, H a = some (.frz od ho))) ∧ RO G F r w ho := by
  cases v with
  | ref i =>
    unfold deref at e
    cases es : S[i]? with
    | none =>
      simp only [es] at e
      cases e
    | some ob =>
      simp only [es] at e
      cases e
      obtain ⟨a, ho, e1, _, e3, e4⟩ := h.ref q es
      exact .inr ⟨a, ho, e1, e3.or, e4.unl_⟩
  | lck v => exact False.elim q
  | non => cases e; exact .inl ⟨q, fun i z => nomatch z⟩
  | bl b => cases e; exact .inl ⟨q, fun i z => nomatch z⟩
  | int b => cases e; exact .inl ⟨q, fun i z => nomatch z⟩
  | str b => cases e; exact .inl ⟨q, fun i z => nomatch z⟩
  | tup b => cases e; exact .inl ⟨q, fun i z => nomatch z⟩
  | lst b => cases e; exact .inl ⟨q, fun i z => nomatch z⟩
  | dct b c => cases e; exact .inl ⟨q, fun i z => nomatch z⟩
  | ins b c d => cases e; exact .inl ⟨q, fun i z => nomatch z⟩
theorem nodk {a : Addr} {ho : HO} (q : H a = some ho ∨ (isDk ho = true ∧ ∃ od, H a = some (.frz od ho))) (h : isDk ho = false) : H a = some ho := by
  rcases q with q | ⟨q, _⟩
  · exact q
  · rw [h] at q; cases q
theorem view_lst (h : HR G n0 g F r S H) {v : PV} {u : V} {xs : List PV} (q : RV G F r v u) (e : deref S v = some (.lst xs)) : ∃ a us, u = .ref a ∧ Rd H a (.lst us) ∧ RVs G F r xs us := by
  rcases view h q e with ⟨k, _⟩ | ⟨a, ho, e1, e2, k⟩
  · obtain ⟨a, us, e1, e2, e3⟩ := k
    exact ⟨a, us, e1, h.sub.rd e2, e3⟩
  · obtain ⟨us, rfl, k⟩ := k
    exact ⟨a, us, e1, .inl (nodk e2 rfl), k⟩
theorem view_tup (h : HR G n0 g F r S H) {v : PV} {u : V} {xs : List PV} (q : RV G F r v u) (e : deref S v = some (.tup xs)) : ∃ a us, u = .ref a ∧ SqT G.K H a us ∧ RVs G F r xs us := by
  rcases view h q e with ⟨k, _⟩ | ⟨a, ho, e1, e2, k⟩
  · obtain ⟨a, us, e1, e2, e3⟩ := k
    exact ⟨a, us, e1, h.sub.tp e2, e3⟩
  · exact k.elim
theorem view_tupH (h : HR G n0 g F r S H) {v : PV} {u : V} {xs : List PV} (q : RV G F r v u) (e : deref S v = some (.tup xs)) : ∃ a us, u = .ref a ∧ H a = some (.tup us) ∧ RVs G F r xs us := by
  rcases view h q e with ⟨k, _⟩ | ⟨a, ho, e1, e2, k⟩
  · obtain ⟨a, us, e1, e2, e3⟩ := k
    exact ⟨a, us, e1, h.sub.tpH e2, e3⟩
  · exact k.elim
theorem view_ins (h : HR G n0 g F r S H) {v : PV} {u : V} {c : Nat} {ns : List Nat} {vs : List PV} (q : RV G F r v u) (e : deref S v = some (.ins c ns vs)) :
    ∃ a dx us, u = .ref a ∧ H a = some (.ins (G.ca c) dx ((ns.map G.nm).zip us)) ∧ ns.length = us.length ∧ RVs G F r vs us := by
  rcases view h q e with ⟨k, _⟩ | ⟨a, ho, e1, e2, k⟩
  · obtain ⟨a, dx, us, e1, e2, e3, e4⟩ := k
    exact ⟨a, dx, us, e1, h.sub.eq e2 rfl, e3, e4⟩
  · obtain ⟨dx, us, rfl, l, k⟩ := k
    exact ⟨a, dx, us, e1, nodk e2 rfl, l, k⟩
theorem view_dct (h : HR G n0 g F r S H) {v : PV} {u : V} {ks : DKs} {vs : List PV} (q : RV G F r v u) (e : deref S v = some (.dct ks vs)) : ∃ a ho us, u = .ref a ∧ Rd H a ho ∧ DR ho ks us ∧ RVs G F r vs us := by
  rcases view h q e with ⟨k, _⟩ | ⟨a, ho, e1, e2, k⟩
  · obtain ⟨a, us, ho, e1, e2, e3, e4⟩ := k
    exact ⟨a, ho, us, e1, h.sub.any e2, e3, e4⟩
  · obtain ⟨us, d, k⟩ := k
    exact ⟨a, ho, us, e1, e2.imp (fun q => q) (fun ⟨_, od, q⟩ => ⟨od, q⟩), d, k⟩
theorem view_dctT (h : HR G n0 g F r S H) {v : PV} {u : V} {kt : List (List (Sum Int Str))} {vs : List PV} (q : RV G F r v u) (e : deref S v = some (.dct (.t kt) vs)) : ∃ a us, u = .ref a ∧ H a = some (.dT (kt.zip us)) ∧ kt.length = us.length ∧ RVs G F r vs us := by
  rcases view h q e with ⟨k, _⟩ | ⟨a, ho, e1, e2, k⟩
  · obtain ⟨a, us, ho, e1, e2, e3, e4⟩ := k
    obtain ⟨rfl, hl⟩ := e3
    exact ⟨a, us, e1, h.sub.eq e2 rfl, hl, e4⟩
  · obtain ⟨us, d, k⟩ := k
    obtain ⟨rfl, hl⟩ := d
    exact ⟨a, us, e1, nodk e2 rfl, hl, k⟩
theorem view_int (h : HR G n0 g F r S H) {v : PV} {u : V} {i : Int} (q : RV G F r v u) (e : deref S v = some (.int i)) : u = .int i := by
  rcases view h q e with ⟨k, _⟩ | ⟨a, ho, e1, e2, k⟩
  · exact k
  · exact k.elim
theorem view_bl (h : HR G n0 g F r S H) {v : PV} {u : V} {i : Bool} (q : RV G F r v u) (e : deref S v = some (.bl i)) : u = .bl i := by
  rcases view h q e with ⟨k, _⟩ | ⟨a, ho, e1, e2, k⟩
  · exact k
  · exact k.elim
theorem view_non (h : HR G n0 g F r S H) {v : PV} {u : V} (q : RV G F r v u) (e : deref S v = some .non) : u = .non := by
  rcases view h q e with ⟨k, _⟩ | ⟨a, ho, e1, e2, k⟩
  · exact k
  · exact k.elim
theorem view_str (h : HR G n0 g F r S H) {v : PV} {u : V} {x : Str} (q : RV G F r v u) (e : deref S v = some (.str x)) : u = .str x := by
  rcases view h q e with ⟨k, _⟩ | ⟨a, ho, e1, e2, k⟩
  · exact k
  · exact k.elim
theorem view_seq (h : HR G n0 g F r S H) {v : PV} {u : V} {xs : List PV} (q : RV G F r v u) (e : itemsOf S v = some xs) : ∃ a us, u = .ref a ∧ (SqL G.K H a us ∨ SqT G.K H a us) ∧ RVs G F r xs us := by
  unfold itemsOf at e
  split at e
  · rename_i xs' e'
    cases e
    obtain ⟨a, us, e1, e2, e3⟩ := view_lst h q e'
    exact ⟨a, us, e1, .inl (.inl e2), e3⟩
  · rename_i xs' e'
    cases e
    obtain ⟨a, us, e1, e2, e3⟩ := view_tup h q e'
    exact ⟨a, us, e1, .inr e2, e3⟩
  · cases e
end
end PX
set_option Elab.async false
set_option linter.all false
set_option maxRecDepth 100000
namespace PX
open PySem PySem.Spec PyProof.Rows L2
def PoE (G : Gam) (n0 : Nat) (g : Gh) (F : Hp) (r : List Addr) (env : Env) (σ : L2.St) (z : R (Bool × PV)) (Q : VK) : Prop := match z with
  | .ok p S' => ∀ F' r' H' u, Ext F F' r r' → Sg G n0 g F' r' env σ S' H' → RF G g F' r' H' p.1 p.2 u → Q u H'
  | _ => False
def PoV (G : Gam) (n0 : Nat) (g : Gh) (F : Hp) (r : List Addr) (env : Env) (σ : L2.St) (z : R (Bool × PV)) (Q : VK) : Prop := match z with
  | .ok p S' => ∀ F' r' H' u, Ext F F' r r' → Sg G n0 g F' r' env σ S' H' → RV G F' r' p.2 u → Q u H'
  | _ => False
def PoT (G : Gam) (n0 : Nat) (g : Gh) (F : Hp) (r : List Addr) (env : Env) (σ : L2.St) (z : R Bool) (Q : Bool → Hp → Prop) : Prop := match z with
  | .ok b S' => ∀ F' r' H', Ext F F' r r' → Sg G n0 g F' r' env σ S' H' → Q b H'
  | _ => False
def PoA (G : Gam) (n0 : Nat) (g : Gh) (F : Hp) (r : List Addr) (env : Env) (σ : L2.St) (z : R (List PV)) (Q : List V → Hp → Prop) : Prop := match z with
  | .ok vs S' => ∀ F' r' H' us, Ext F F' r r' → Sg G n0 g F' r' env σ S' H' → RVs G F' r' vs us → Q us H'
  | _ => False
def rdE (G : Gam) (n0 : Nat) (f : SE) : TE := fun σ H Q => ∃ F r env S g, Sg G n0 g F r env σ S H ∧ PoE G n0 g F r env σ (f env S) Q
def rdV (G : Gam) (n0 : Nat) (f : SE) : TE := fun σ H Q => ∃ F r env S g, Sg G n0 g F r env σ S H ∧ PoV G n0 g F r env σ (f env S) Q
def rdT (G : Gam) (n0 : Nat) (f : ST) : TT := fun σ H Q => ∃ F r env S g, Sg G n0 g F r env σ S H ∧ PoT G n0 g F r env σ (f env S) Q
def rdA (G : Gam) (n0 : Nat) (f : SA) : TA := fun σ H Q => ∃ F r env S g, Sg G n0 g F r env σ S H ∧ PoA G n0 g F r env σ (f env S) Q
theorem peI {X : Cx} {e : Expr} {t t' : TE} (h : PE X e t) (w : ∀ σ H Q, t' σ H Q → t σ H Q) : PE X e t' := ⟨fun pins s σ H Q I q => h.run pins s σ H Q I (w σ H Q q)⟩
theorem ptI {X : Cx} {e : Expr} {t t' : TT} (h : PT X e t) (w : ∀ σ H Q, t' σ H Q → t σ H Q) : PT X e t' := ⟨fun pins s σ H Q I q => h.run pins s σ H Q I (w σ H Q q)⟩
theorem pwI {X : Cx} {e : Expr} {t t' : TT} (h : PW X e t) (w : ∀ σ H Q, t' σ H Q → t σ H Q) : PW X e t' := ⟨fun wh pins s σ H Q I q => h.run wh pins s σ H Q I (w σ H Q q)⟩
theorem paI {X : Cx} {e : List Expr} {t t' : TA} (h : PA X e t) (w : ∀ σ H Q, t' σ H Q → t σ H Q) : PA X e t' := ⟨fun pos pins s σ H Q I q => h.run pos pins s σ H Q I (w σ H Q q)⟩
structure Cn {α : Type} (C : R α → Prop) : Prop where
  no : ¬ C .no
  ex : ∀ c p S', ¬ C (.ex c p S')
section
variable {G : Gam} {n0 : Nat} {g : Gh} {F F1 : Hp} {r r1 : List Addr} {env : Env} {σ : L2.St} {S S1 : Store} {H H1 : Hp} {Q : VK} {QT : Bool → Hp → Prop} {QA : List V → Hp → Prop}
theorem cnE : Cn fun z => PoE G n0 g F r env σ z Q := ⟨fun h => h, fun _ _ _ h => h⟩
theorem cnT : Cn fun z => PoT G n0 g F r env σ z QT := ⟨fun h => h, fun _ _ _ h => h⟩
theorem cnA : Cn fun z => PoA G n0 g F r env σ z QA := ⟨fun h => h, fun _ _ _ h => h⟩
theorem stE {f : SE} {T : V → Hp → Prop} {α : Type} {kk : Bool × PV → Store → R α} {C : R α → Prop} (s : Sg G n0 g F r env σ S H) (cn : Cn C) (h : C ((f env S).bind kk))
    (step : ∀ p S' F' r' H' u, Ext F F' r r' → Sg G n0 g F' r' env σ S' H' → RF G g F' r' H' p.1 p.2 u → C (kk p S') → T u H') : rdE G n0 f σ H T := by
  refine ⟨F, r, env, S, g, s, ?_⟩
  cases e : f env S with
  | ok p S' =>
    rw [e] at h
    exact fun F' r' H' u ex s' q => step p S' F' r' H' u ex s' q h
  | ex c p S' =>
    rw [e] at h
    exact (cn.ex c p S' h).elim
  | no =>
    rw [e] at h
    exact (cn.no h).elim
theorem stV {f : SE} {T : V → Hp → Prop} {α : Type} {kk : Bool × PV → Store → R α} {C : R α → Prop} (s : Sg G n0 g F r env σ S H) (cn : Cn C) (h : C ((f env S).bind kk))
    (step : ∀ p S' F' r' H' u, Ext F F' r r' → Sg G n0 g F' r' env σ S' H' → RV G F' r' p.2 u → C (kk p S') → T u H') : rdV G n0 f σ H T := by
  refine ⟨F, r, env, S, g, s, ?_⟩
  cases e : f env S with
  | ok p S' =>
    rw [e] at h
    exact fun F' r' H' u ex s' q => step p S' F' r' H' u ex s' q h
  | ex c p S' =>
    rw [e] at h
    exact (cn.ex c p S' h).elim
  | no =>
    rw [e] at h
    exact (cn.no h).elim
theorem stT {f : ST} {T : Bool → Hp → Prop} {α : Type} {kk : Bool → Store → R α} {C : R α → Prop} (s : Sg G n0 g F r env σ S H) (cn : Cn C) (h : C ((f env S).bind kk))
    (step : ∀ p S' F' r' H', Ext F F' r r' → Sg G n0 g F' r' env σ S' H' → C (kk p S') → T p H') : rdT G n0 f σ H T := by
  refine ⟨F, r, env, S, g, s, ?_⟩
  cases e : f env S with
  | ok p S' =>
    rw [e] at h
    exact fun F' r' H' ex s' => step p S' F' r' H' ex s' h
  | ex c p S' =>
    rw [e] at h
    exact (cn.ex c p S' h).elim
  | no =>
    rw [e] at h
    exact (cn.no h).elim
theorem stA {f : SA} {T : List V → Hp → Prop} {α : Type} {kk : List PV → Store → R α} {C : R α → Prop} (s : Sg G n0 g F r env σ S H) (cn : Cn C) (h : C ((f env S).bind kk))
    (step : ∀ p S' F' r' H' us, Ext F F' r r' → Sg G n0 g F' r' env σ S' H' → RVs G F' r' p us → C (kk p S') → T us H') : rdA G n0 f σ H T := by
  refine ⟨F, r, env, S, g, s, ?_⟩
  cases e : f env S with
  | ok p S' =>
    rw [e] at h
    exact fun F' r' H' us ex s' q => step p S' F' r' H' us ex s' q h
  | ex c p S' =>
    rw [e] at h
    exact (cn.ex c p S' h).elim
  | no =>
    rw [e] at h
    exact (cn.no h).elim
theorem goE {f : SE} (s : Sg G n0 g F1 r1 env σ S1 H1) (x : Ext F F1 r r1) (h : PoE G n0 g F r env σ (f env S1) Q) : rdE G n0 f σ H1 Q := by
  refine ⟨F1, r1, env, S1, g, s, ?_⟩
  cases e : f env S1 with
  | ok p S' => rw [e] at h; exact fun F' r' H' u ex s' q => h F' r' H' u (x.trans ex) s' q
  | ex => rw [e] at h; exact h
  | no => rw [e] at h; exact h
theorem goT {f : ST} (s : Sg G n0 g F1 r1 env σ S1 H1) (x : Ext F F1 r r1) (h : PoT G n0 g F r env σ (f env S1) QT) : rdT G n0 f σ H1 QT := by
  refine ⟨F1, r1, env, S1, g, s, ?_⟩
  cases e : f env S1 with
  | ok p S' => rw [e] at h; exact fun F' r' H' ex s' => h F' r' H' (x.trans ex) s'
  | ex => rw [e] at h; exact h
  | no => rw [e] at h; exact h
theorem endO {o : Option (Bool × PV)} {T : VK → Prop} (s : Sg G n0 g F1 r1 env σ S1 H1) (x : Ext F F1 r r1) (h : PoE G n0 g F r env σ (ofO o S1) Q)
    (ok : ∀ z, o = some z → (∀ F' r' H' w, Ext F1 F' r1 r' → HR G n0 g F' r' S1 H' → RF G g F' r' H' z.1 z.2 w → Q w H') → T Q) : T Q := by
  unfold ofO at h
  cases o with
  | none => exact h.elim
  | some z => exact ok z rfl fun F' r' H' w x' hr rf => h F' r' H' w (x.trans x') (s.ext x' hr) rf
end
section
variable {X : Cx} {G : Gam} {n0 : Nat} {e : Expr} {f : SE}
theorem toV (h : PE X e (rdE G n0 f)) : PE X e (rdV G n0 f) := by
  refine peI h fun σ H Q ⟨F, r, env, S, g, s, p⟩ => ⟨F, r, env, S, g, s, ?_⟩
  cases e : f env S with
  | ok p' S' =>
    rw [e] at p
    intro F' r' H' u x s' q
    obtain ⟨F2, x2, h2, q2⟩ := freeze s'.hr q
    exact p F2 r' H' u (x.trans x2) (s'.ext x2 h2) q2
  | ex => rw [e] at p; exact p
  | no => rw [e] at p; exact p
def Ok1 (G : Gam) (o : Op1) (t : V → Hp → VK → Prop) : Prop := ∀ n0 g F r S H x u z Q, HR G n0 g F r S H → RV G F r x u → o x S = some z →
  (∀ F' r' H' w, Ext F F' r r' → HR G n0 g F' r' S H' → RF G g F' r' H' z.1 z.2 w → Q w H') → t u H Q
def Ok2 (G : Gam) (o : Op2) (t : R2) : Prop := ∀ n0 g F r S H x y u v z Q, HR G n0 g F r S H → RV G F r x u → RV G F r y v → o x y S = some z →
  (∀ F' r' H' w, Ext F F' r r' → HR G n0 g F' r' S H' → RF G g F' r' H' z.1 z.2 w → Q w H') → t u v H Q
def OkN (G : Gam) (o : OpN) (t : List V → Hp → VK → Prop) : Prop := ∀ n0 g F r S H xs us z Q, HR G n0 g F r S H → RVs G F r xs us → o xs S = some z →
  (∀ F' r' H' w, Ext F F' r r' → HR G n0 g F' r' S H' → RF G g F' r' H' z.1 z.2 w → Q w H') → t us H Q
variable {a b c : Expr} {fa fb fc : SE} {pos : Pos} {es : List Expr} {fs : SA} {rest : List Expr}
theorem se_var {i : Nat} (hp : PE X e (tVar i)) : PE X e (rdE G n0 (eVar i)) := by
  refine peI hp fun σ H Q ⟨F, r, env, S, g, s, h⟩ => ?_
  unfold eVar at h
  split at h
  · rename_i v ev
    obtain ⟨u, h1, h2⟩ := s.vr i v ev
    exact ⟨u, h1, h F r H u (.refl F r) s h2⟩
  · exact h.elim
theorem se_lit {u : V} {v : PV} (hp : PE X e (tC u)) (hv : ∀ F r, RV G F r v u) : PE X e (rdE G n0 (eLit v)) :=
  peI hp fun σ H Q ⟨F, r, env, S, g, s, h⟩ => h F r H u (.refl F r) s (hv F r)
theorem se_un {op : UnaryOp} {o : Op1} {t : V → Hp → VK → Prop} (hop : UnR X (unaryOp op) t) (ho : Ok1 G o t) (ha : PE X a (rdE G n0 fa)) : PE X (.UnaryOp op a pos) (rdE G n0 (eUn o fa)) := by
  refine peI (pe_un hop (toV ha)) fun σ H Q ⟨F, r, env, S, g, s, h⟩ => ?_
  refine stV s cnE h fun p S1 F1 r1 H1 u x1 s1 q1 h1 => ?_
  exact endO (T := fun Q => t u H1 Q) s1 x1 h1 fun z ez k => ho n0 g F1 r1 S1 H1 p.2 u z Q s1.hr q1 ez k
theorem se_bin {op : Operator} {o : Op2} {t : R2} (hop : OpR X (binaryOp op) t) (ho : Ok2 G o t) (ha : PE X a (rdE G n0 fa)) (hb : PE X b (rdE G n0 fb)) : PE X (.BinOp a op b pos) (rdE G n0 (eBin o fa fb)) := by
  refine peI (pe_op hop (toV ha) (toV hb)) fun σ H Q ⟨F, r, env, S, g, s, h⟩ => ?_
  refine stV s cnE h fun p S1 F1 r1 H1 u x1 s1 q1 h1 => ?_
  refine stV s1 cnE h1 fun q S2 F2 r2 H2 v x2 s2 q2 h2 => ?_
  exact endO (T := fun Q => t u v H2 Q) s2 (x1.trans x2) h2 fun z ez k => ho n0 g F2 r2 S2 H2 p.2 q.2 u v z Q s2.hr (q1.ext x2) q2 ez k
theorem se_cmp {op : CmpOp} {o : Op2} {t : R2} (hop : OpR X (compareOp op) t) (ho : Ok2 G o t) (ha : PE X a (rdE G n0 fa)) (hb : PE X b (rdE G n0 fb)) (hm : behindInMarks op b = false) : PE X (.Compare a [op] [b] pos) (rdE G n0 (eBin o fa fb)) := by
  refine peI (pe_cmpR hop (toV ha) (toV hb) hm) fun σ H Q ⟨F, r, env, S, g, s, h⟩ => ?_
  refine stV s cnE h fun p S1 F1 r1 H1 u x1 s1 q1 h1 => ?_
  refine stV s1 cnE h1 fun q S2 F2 r2 H2 v x2 s2 q2 h2 => ?_
  exact endO (T := fun Q => t u v H2 Q) s2 (x1.trans x2) h2 fun z ez k => ho n0 g F2 r2 S2 H2 p.2 q.2 u v z Q s2.hr (q1.ext x2) q2 ez k
theorem bl_of {g : Gh} {F : Hp} {r : List Addr} {H : Hp} {b : Bool} {k : Bool} {w : V} (q : RF G g F r H b (.bl k) w) : w = .bl k := by
  cases b with
  | false => exact q
  | true =>
    obtain ⟨_, _, _, _, _, _, _, ro, _⟩ := q
    exact ro.elim
theorem st_cmp {op : CmpOp} {o : Op2} {t : R2} (hop : OpR X (compareOp op) t) (ho : Ok2 G o t) (ha : PE X a (rdE G n0 fa)) (hb : PE X b (rdE G n0 fb)) (hm : behindInMarks op b = false) : PT X (.Compare a [op] [b] pos) (rdT G n0 (tBl (eBin o fa fb))) := by
  refine ptI (pt_cmpR hop (toV ha) (toV hb) hm) fun σ H Q ⟨F, r, env, S, g, s, h⟩ => ?_
  have h : PoT G n0 g F r env σ (((fa env S).bind fun p S1 => (fb env S1).bind fun q S2 => ofO (o p.2 q.2 S2) S2).bind fun p S1 => match p.2 with
    | .bl b => .ok b S1
    | _ => .no) Q := h
  have assoc : ∀ {α β γ : Type} (m : R α) (k : α → Store → R β) (l : β → Store → R γ), (m.bind k).bind l = m.bind fun x S => (k x S).bind l := fun m k l => by cases m <;> rfl
  rw [assoc] at h
  refine stV s cnT h fun p S1 F1 r1 H1 u x1 s1 q1 h1 => ?_
  rw [assoc] at h1
  refine stV s1 cnT h1 fun q S2 F2 r2 H2 v x2 s2 q2 h2 => ?_
  cases eo : o p.2 q.2 S2 with
  | none => rw [eo] at h2; exact h2.elim
  | some z =>
    rw [eo] at h2
    refine ho n0 g F2 r2 S2 H2 p.2 q.2 u v z _ s2.hr (q1.ext x2) q2 eo fun F' r' H' w x hr rf => ?_
    have h3 : PoT G n0 g F r env σ (match z.2 with
      | .bl b => .ok b S2
      | _ => .no) Q := h2
    split at h3
    · rename_i k ek
      rw [ek] at rf
      exact ⟨k, bl_of rf, h3 F' r' H' ((x1.trans x2).trans x) (s2.ext x hr)⟩
    · exact h3.elim
theorem truth_ok {g : Gh} {F : Hp} {r : List Addr} {S : Store} {H : Hp} {v : PV} {u : V} {k : Bool} (h : HR G n0 g F r S H) (q : RV G F r v u) (e : truth S v = some k) : TruV G.K u H k := by
  unfold truth at e
  split at e
  · rename_i b e'
    cases e
    rw [view_bl h q e']
    exact rfl
  · rename_i i e'
    cases e
    rw [view_int h q e']
    exact rfl
  · rename_i e'
    cases e
    rw [view_non h q e']
    exact rfl
  · rename_i xs e'
    cases e
    obtain ⟨a, us, rfl, h1, h2⟩ := view_lst h q e'
    refine .inl ⟨us, .inl h1, ?_⟩
    cases xs with
    | nil => have e3 : us = [] := h2; rw [e3]; rfl
    | cons x xs => obtain ⟨_, _, rfl, _, _⟩ := h2; rfl
  · rename_i xs e'
    cases e
    obtain ⟨a, us, rfl, h1, h2⟩ := view_tup h q e'
    refine .inr (.inl ⟨us, h1, ?_⟩)
    cases xs with
    | nil => have e3 : us = [] := h2; rw [e3]; rfl
    | cons x xs => obtain ⟨_, _, rfl, _, _⟩ := h2; rfl
  · cases e
theorem st_tru (hK : G.K = X.K) (ha : PE X a (rdE G n0 fa)) (he : ∀ whole, isTrue a X.env whole = (do let v ← whole; standAt a.pos; holding [v] (truthy v)) := by intro _; rfl) : PT X a (rdT G n0 (tTru fa)) := by
  refine ptI (pt_truth (toV ha) he) fun σ H Q ⟨F, r, env, S, g, s, h⟩ => ?_
  refine stV s cnT h fun p S1 F1 r1 H1 u x1 s1 q1 h1 => ?_
  cases et : truth S1 p.2 with
  | none => rw [et] at h1; exact h1.elim
  | some k =>
    rw [et] at h1
    exact ⟨k, hK ▸ truth_ok s1.hr q1 et, h1 F1 r1 H1 x1 s1⟩
theorem st_no {ta : ST} (ha : PT X a (rdT G n0 ta)) : PT X (.UnaryOp .Not a pos) (rdT G n0 (tNo ta)) := by
  refine ptI (pt_not ha) fun σ H Q ⟨F, r, env, S, g, s, h⟩ => ?_
  exact stT s cnT h fun p S1 F1 r1 H1 x1 s1 h1 => h1 F1 r1 H1 x1 s1
theorem sw_one {op : BoolOp} {ta : ST} (ha : PT X a (rdT G n0 ta)) : PW X (.BoolOp op [a] pos) (rdT G n0 ta) := by
  cases op with
  | And => exact pw_and1 ha
  | Or => exact pw_or1 ha
theorem sw_and {ta tb : ST} (ha : PT X a (rdT G n0 ta)) (hb : PW X (.BoolOp .And (b :: rest) pos) (rdT G n0 tb)) : PW X (.BoolOp .And (a :: b :: rest) pos) (rdT G n0 (tAn ta tb)) := by
  refine pwI (pw_and ha hb) fun σ H Q ⟨F, r, env, S, g, s, h⟩ => ?_
  refine stT s cnT h fun p S1 F1 r1 H1 x1 s1 h1 => ?_
  cases p with
  | true => exact goT s1 x1 h1
  | false => exact h1 F1 r1 H1 x1 s1
theorem sw_or {ta tb : ST} (ha : PT X a (rdT G n0 ta)) (hb : PW X (.BoolOp .Or (b :: rest) pos) (rdT G n0 tb)) : PW X (.BoolOp .Or (a :: b :: rest) pos) (rdT G n0 (tOr ta tb)) := by
  refine pwI (pw_or ha hb) fun σ H Q ⟨F, r, env, S, g, s, h⟩ => ?_
  refine stT s cnT h fun p S1 F1 r1 H1 x1 s1 h1 => ?_
  cases p with
  | true => exact h1 F1 r1 H1 x1 s1
  | false => exact goT s1 x1 h1
theorem se_one {op : BoolOp} (ha : PE X a (rdE G n0 fa)) : PE X (.BoolOp op [a] pos) (rdE G n0 fa) := pe_one ha
theorem se_and (hK : G.K = X.K) (ha : PE X a (rdE G n0 fa)) (hb : PE X (.BoolOp .And (b :: rest) pos) (rdE G n0 fb)) : PE X (.BoolOp .And (a :: b :: rest) pos) (rdE G n0 (eAn fa fb)) := by
  refine peI (pe_andT (toV ha) hb) fun σ H Q ⟨F, r, env, S, g, s, h⟩ => ?_
  refine stV s cnE h fun p S1 F1 r1 H1 u x1 s1 q1 h1 => ?_
  cases et : truth S1 p.2 with
  | none => rw [et] at h1; exact h1.elim
  | some k =>
    rw [et] at h1
    refine ⟨k, hK ▸ truth_ok s1.hr q1 et, ?_⟩
    cases k with
    | true => exact goE s1 x1 h1
    | false => exact h1 F1 r1 H1 u x1 s1 q1
theorem se_not (hK : G.K = X.K) (ha : PE X a (rdE G n0 fa)) : PE X (.UnaryOp .Not a pos) (rdE G n0 (eNot fa)) := by
  refine peI (pe_notT (toV ha)) fun σ H Q ⟨F, r, env, S, g, s, h⟩ => ?_
  refine stV s cnE h fun p S1 F1 r1 H1 u x1 s1 q1 h1 => ?_
  cases et : truth S1 p.2 with
  | none => rw [et] at h1; exact h1.elim
  | some k =>
    rw [et] at h1
    exact ⟨k, hK ▸ truth_ok s1.hr q1 et, h1 F1 r1 H1 _ x1 s1 rfl⟩
theorem se_if {tc : ST} (hc : PT X c (rdT G n0 tc)) (ha : PE X a (rdE G n0 fa)) (hb : PE X b (rdE G n0 fb)) : PE X (.IfExp c a b pos) (rdE G n0 (eIf tc fa fb)) := by
  refine peI (pe_ifExp hc ha hb) fun σ H Q ⟨F, r, env, S, g, s, h⟩ => ?_
  refine stT s cnE h fun p S1 F1 r1 H1 x1 s1 h1 => ?_
  cases p with
  | true => exact goE s1 x1 h1
  | false => exact goE s1 x1 h1
theorem se_ch {o1 o2 : CmpOp} {o o' : Op2} {t t' : R2} (hop : OpR X (compareOp o1) t) (ho : Ok2 G o t) (hop' : OpR X (compareOp o2) t') (ho' : Ok2 G o' t') (ha : PE X a (rdE G n0 fa)) (hb : PE X b (rdE G n0 fb)) (hc : PE X c (rdE G n0 fc))
    (hp : PE X (.Compare a [o1, o2] [b, c] pos) (tChain t t' (rdV G n0 fa) (rdV G n0 fb) (rdV G n0 fc))) : PE X (.Compare a [o1, o2] [b, c] pos) (rdE G n0 (eCh o o' fa fb fc)) := by
  refine peI hp fun σ H Q ⟨F, r, env, S, g, s, h⟩ => ?_
  refine stV s cnE h fun p S1 F1 r1 H1 u x1 s1 q1 h1 => ?_
  refine stV s1 cnE h1 fun q S2 F2 r2 H2 v x2 s2 q2 h2 => ?_
  split at h2
  · rename_i eo
    refine ho n0 g F2 r2 S2 H2 p.2 q.2 u v _ _ s2.hr (q1.ext x2) q2 eo fun F3 r3 H3 w x3 hr3 rf => ⟨true, rf, ?_⟩
    refine stV (s2.ext x3 hr3) cnE h2 fun z S4 F4 r4 H4 w' x4 s4 q4 h4 => ?_
    exact endO (T := fun Q => t' v w' H4 Q) s4 (((x1.trans x2).trans x3).trans x4) h4 fun z' ez k => ho' n0 g F4 r4 S4 H4 q.2 z.2 v w' z' Q s4.hr (q2.ext (x3.trans x4)) q4 ez k
  · rename_i eo
    refine ho n0 g F2 r2 S2 H2 p.2 q.2 u v _ _ s2.hr (q1.ext x2) q2 eo fun F3 r3 H3 w x3 hr3 rf => ⟨false, rf, ?_⟩
    exact h2 F3 r3 H3 _ ((x1.trans x2).trans x3) (s2.ext x3 hr3) rfl
  · exact h2.elim
theorem sa_nil : PA X [] (rdA G n0 aNil) := paI pa_nil fun σ H Q ⟨F, r, env, S, g, s, h⟩ => h F r H [] (.refl F r) s rfl
theorem sa_cons (ha : PE X a (rdE G n0 fa)) (hr : PA X es (rdA G n0 fs)) (hs : starEach (a :: es) X.env = (false, eval a X.env) :: starEach es X.env := by rfl) : PA X (a :: es) (rdA G n0 (aCons fa fs)) := by
  refine paI (pa_cons (toV ha) hr hs) fun σ H Q ⟨F, r, env, S, g, s, h⟩ => ?_
  refine stV s cnA h fun p S1 F1 r1 H1 u x1 s1 q1 h1 => ?_
  refine stA s1 cnA h1 fun q S2 F2 r2 H2 us x2 s2 q2 h2 => ?_
  exact h2 F2 r2 H2 _ (x1.trans x2) s2 ⟨u, us, rfl, q1.ext x2, q2⟩
theorem sa_star {sp_ : Pos} (hK : G.K = X.K) (ha : PE X a (rdE G n0 fa)) (hr : PA X es (rdA G n0 fs)) (hs : starEach (.Starred a sp_ :: es) X.env = (true, eval a X.env) :: starEach es X.env := by rfl) : PA X (.Starred a sp_ :: es) (rdA G n0 (aStar fa fs)) := by
  refine paI (StX.pa_star (toV ha) hr hs) fun σ H Q ⟨F, r, env, S, g, s, h⟩ => ?_
  refine stV s cnA h fun p S1 F1 r1 H1 u x1 s1 q1 h1 => ?_
  cases ei : itemsOf S1 p.2 with
  | none => simp only [ei] at h1; exact h1.elim
  | some xs =>
    simp only [ei] at h1
    obtain ⟨a', us, rfl, hs', rv⟩ := view_seq s1.hr q1 ei
    refine ⟨a', us, rfl, hK ▸ hs'.symm, ?_⟩
    refine stA s1 cnA h1 fun q S2 F2 r2 H2 ws x2 s2 q2 h2 => ?_
    exact h2 F2 r2 H2 _ (x1.trans x2) s2 ((rv.ext x2).append q2)
theorem small_le {n : Nat} (h : small n = true) : n ≤ sizeLine := by
  have : n ≤ 1000000 := Nat.le_of_ble_eq_true h
  exact Nat.le_trans this (by rw [sizeLine_eq]; decide)
theorem se_tup {x1} (h : PA X es (rdA G n0 fs)) : PE X (.Tuple es x1 pos) (rdE G n0 (eTup fs)) := by
  refine peI (pe_tup h) fun σ H Q ⟨F, r, env, S, g, s, h⟩ => ?_
  refine stA s cnE h fun p S1 F1 r1 H1 us x1 s1 q1 h1 => ?_
  split at h1
  · rename_i hz
    refine ⟨by rw [← RVs.length q1]; exact small_le hz, fun p' hp => ?_⟩
    obtain ⟨F2, x2, h2, k⟩ := new_tup s1.hr hp q1
    exact h1 F2 r1 _ _ (x1.trans x2) (s1.ext x2 h2) k
  · exact h1.elim
theorem se_lst (h : PA X es (rdA G n0 fs)) : PE X (.List es pos) (rdE G n0 (eLst fs)) := by
  refine peI (pe_lst h) fun σ H Q ⟨F, r, env, S, g, s, h⟩ => ?_
  refine stA s cnE h fun p S1 F1 r1 H1 us x1 s1 q1 h1 => ?_
  split at h1
  · rename_i hz
    refine ⟨by rw [← RVs.length q1]; exact small_le hz, fun p' hp => ?_⟩
    obtain ⟨h2, k⟩ := new_obj s1.hr hp (v := .lst p) ⟨us, rfl, q1⟩ rfl
    exact h1 F1 r1 _ _ x1 (s1.ext (.refl _ _) h2) k
  · exact h1.elim
theorem se_new (ha : PE X a (rdE G n0 fa)) : PE X a (rdE G n0 (eNew fa)) := by
  refine peI ha fun σ H Q ⟨F, r, env, S, g, s, h⟩ => ?_
  refine stE s cnE h fun p S1 F1 r1 H1 u x1 s1 q1 h1 => ?_
  obtain ⟨b, v⟩ := p
  cases b with
  | false => exact h1 F1 r1 H1 u x1 s1 q1
  | true =>
    obtain ⟨r2, x2, h2, k⟩ := store_new s1.hr q1
    exact h1 F1 r2 H1 u (x1.trans x2) (s1.ext x2 h2) k
end
end PX
set_option Elab.async false
set_option linter.all false
set_option maxRecDepth 100000
namespace PX
open PySem PySem.Spec PyProof.Rows L2
def PoS (G : Gam) (n0 : Nat) (g : Gh) (F : Hp) (r : List Addr) (z : RS) (D : Ends) : Prop := match z with
  | .nx e S' => ∀ F' r' H' σ', Ext F F' r r' → Sg G n0 g F' r' e σ' S' H' → D.nx σ' H'
  | .bk e S' => ∀ F' r' H' σ', Ext F F' r r' → Sg G n0 g F' r' e σ' S' H' → D.bk σ' H'
  | .ct e S' => ∀ F' r' H' σ', Ext F F' r r' → Sg G n0 g F' r' e σ' S' H' → D.ct σ' H'
  | .rt v S' => ∀ F' r' H' u, Ext F F' r r' → HR G n0 g F' r' S' H' → RV G F' r' v u → D.rt u H'
  | _ => False
def rdS (G : Gam) (n0 : Nat) (f : SS) : TS := fun D σ H => ∃ F r env S g, Sg G n0 g F r env σ S H ∧ PoS G n0 g F r (f env S) D
def GhLe (g g2 : Gh) : Prop := ∀ a o, g.pn a = some o → g.lk a = true → g2.pn a = some o ∧ g2.lk a = true
theorem GhLe.refl (g : Gh) : GhLe g g := fun _ _ e l => ⟨e, l⟩
theorem GhLe.trans {g g2 g3 : Gh} (h : GhLe g g2) (k : GhLe g2 g3) : GhLe g g3 := fun a o e l => k a o (h a o e l).1 (h a o e l).2
def Gh.rep (g : Gh) (rp : Option (Addr × HO)) : Gh := match rp with
  | none => g
  | some p => ⟨g.L, L2.upd g.pn p.1 p.2, g.lk⟩
def Gh.has (g : Gh) (rp : Option (Addr × HO)) : Prop := ∀ p, rp = some p → (∃ o, g.pn p.1 = some o) ∧ g.lk p.1 = false
def GhPin (g g' : Gh) : Prop := ∀ a o, g.pn a = some o → g.lk a = false → g'.pn a = some o ∧ g'.lk a = false
theorem GhPin.refl (g : Gh) : GhPin g g := fun _ _ e l => ⟨e, l⟩
theorem GhPin.has {g g' : Gh} (h : GhPin g g') {rp : Option (Addr × HO)} (k : g.has rp) : g'.has rp := fun p e => by
  obtain ⟨⟨o, q⟩, l⟩ := k p e
  exact ⟨⟨o, (h _ o q l).1⟩, (h _ o q l).2⟩
def Its (G : Gam) (n0 : Nat) (g : Gh) (F : Hp) (r : List Addr) (J : It) (xs : List PV) : Prop := ∀ g2, GhLe g g2 → ∀ F2 r2 S2 H2, HR G n0 g2 F2 r2 S2 H2 → Ext F F2 r r2 →
  (∀ (i : Nat) x, xs[i]? = some x → J.go i H2 ∧ ∀ v H3, J.yld i H2 v H3 → ∃ F3, Ext F2 F3 r2 r2 ∧ HR G n0 g2 F3 r2 S2 H3 ∧ RV G F3 r2 x v) ∧ (∀ i, xs.length ≤ i → J.stop i H2)
def PoI (G : Gam) (n0 : Nat) (g : Gh) (F : Hp) (r : List Addr) (env : Env) (σ : L2.St) (z : R (List PV × List (Nat × PV))) (T : It → Hp → Prop) : Prop := match z with
  | .ok p S' => ∀ F' r' H' J g', Ext F F' r r' → Sg G n0 g' F' r' env σ S' H' → Its G n0 g' F' r' J p.1 →
      GhPin g g' → (∀ rp, g.has rp → ∀ F2 r2 S2 H2, HR G n0 (g'.rep rp) F2 r2 S2 H2 → Ext F' F2 r' r2 → HR G n0 (g.rep rp) F2 r2 (unlock p.2 S2) H2) → T J H'
  | _ => False
def rdI (G : Gam) (n0 : Nat) (f : SI) : TI := fun σ H T => ∃ F r env S g, Sg G n0 g F r env σ S H ∧ PoI G n0 g F r env σ (f env S) T
theorem psI {X : Cx} {st : Stmt} {t t' : TS} (h : PS X st t) (w : ∀ D σ H, t' D σ H → t D σ H) : PS X st t' := ⟨fun pins s σ H D I q => h.run pins s σ H D I (w D σ H q)⟩
theorem pssI {X : Cx} {st : List Stmt} {t t' : TS} (h : PSs X st t) (w : ∀ D σ H, t' D σ H → t D σ H) : PSs X st t' := ⟨fun pins s σ H D I q => h.run pins s σ H D I (w D σ H q)⟩
theorem piI {X : Cx} {tg e : Expr} {t t' : TI} (h : PI X tg e t) (w : ∀ σ H R, t' σ H R → t σ H R) : PI X tg e t' := ⟨fun pins s σ H R I q => h.run pins s σ H R I (w σ H R q)⟩
def TgOk (G : Gam) (t : Tg) (gg : TG) : Prop := ∀ n0 g F r env σ S H v u env' (Q : L2.St → Hp → Prop), Sg G n0 g F r env σ S H → RV G F r v u → t v env S = some env' → (∀ σ', Sg G n0 g F r env' σ' S H → Q σ' H) → gg u σ H Q
section
variable {X : Cx} {G : Gam} {n0 : Nat} {g : Gh} {F F1 : Hp} {r r1 : List Addr} {env : Env} {σ : L2.St} {S S1 : Store} {H H1 : Hp} {D : Ends}
theorem PoS.ext {z : RS} (h : PoS G n0 g F r z D) (x : Ext F F1 r r1) : PoS G n0 g F1 r1 z D := by
  cases z with
  | nx e S' => exact fun F' r' H' σ' e s => h F' r' H' σ' (x.trans e) s
  | bk e S' => exact fun F' r' H' σ' e s => h F' r' H' σ' (x.trans e) s
  | ct e S' => exact fun F' r' H' σ' e s => h F' r' H' σ' (x.trans e) s
  | rt v S' => exact fun F' r' H' u e s => h F' r' H' u (x.trans e) s
  | ex => exact h
  | no => exact h
theorem goS {f : SS} (s : Sg G n0 g F1 r1 env σ S1 H1) (x : Ext F F1 r r1) (h : PoS G n0 g F r (f env S1) D) : rdS G n0 f D σ H1 := ⟨F1, r1, env, S1, g, s, h.ext x⟩
theorem sgV {f : SE} {T : V → Hp → Prop} {kk : Bool × PV → Store → RS} (s : Sg G n0 g F r env σ S H) (h : PoS G n0 g F r ((f env S).go kk) D)
    (step : ∀ p S' F' r' H' u, Ext F F' r r' → Sg G n0 g F' r' env σ S' H' → RV G F' r' p.2 u → PoS G n0 g F r (kk p S') D → T u H') : rdV G n0 f σ H T := by
  refine ⟨F, r, env, S, g, s, ?_⟩
  cases e : f env S with
  | ok p S' => rw [e] at h; exact fun F' r' H' u ex s' q => step p S' F' r' H' u ex s' q h
  | ex c p S' => rw [e] at h; exact False.elim h
  | no => rw [e] at h; exact False.elim h
theorem sgT {f : ST} {T : Bool → Hp → Prop} {kk : Bool → Store → RS} (s : Sg G n0 g F r env σ S H) (h : PoS G n0 g F r ((f env S).go kk) D)
    (step : ∀ p S' F' r' H', Ext F F' r r' → Sg G n0 g F' r' env σ S' H' → PoS G n0 g F r (kk p S') D → T p H') : rdT G n0 f σ H T := by
  refine ⟨F, r, env, S, g, s, ?_⟩
  cases e : f env S with
  | ok p S' => rw [e] at h; exact fun F' r' H' ex s' => step p S' F' r' H' ex s' h
  | ex c p S' => rw [e] at h; exact False.elim h
  | no => rw [e] at h; exact False.elim h
theorem sgA {f : SA} {T : List V → Hp → Prop} {kk : List PV → Store → RS} (s : Sg G n0 g F r env σ S H) (h : PoS G n0 g F r ((f env S).go kk) D)
    (step : ∀ p S' F' r' H' us, Ext F F' r r' → Sg G n0 g F' r' env σ S' H' → RVs G F' r' p us → PoS G n0 g F r (kk p S') D → T us H') : rdA G n0 f σ H T := by
  refine ⟨F, r, env, S, g, s, ?_⟩
  cases e : f env S with
  | ok p S' => rw [e] at h; exact fun F' r' H' us ex s' q => step p S' F' r' H' us ex s' q h
  | ex c p S' => rw [e] at h; exact False.elim h
  | no => rw [e] at h; exact False.elim h
variable {st : Stmt} {rest : List Stmt} {fa fb : SS} {e : Expr} {fe : SE} {pos : Pos}
theorem ss_nil : PSs X [] (rdS G n0 sNil) := pssI pss_nil fun D σ H ⟨F, r, env, S, g, s, h⟩ => h F r H σ (.refl F r) s
theorem ss_cons (h1 : PS X st (rdS G n0 fa)) (h2 : PSs X rest (rdS G n0 fb)) : PSs X (st :: rest) (rdS G n0 (sCons fa fb)) := by
  refine pssI (pss_cons h1 h2) fun D σ H ⟨F, r, env, S, g, s, h⟩ => ?_
  refine ⟨F, r, env, S, g, s, ?_⟩
  have h : PoS G n0 g F r ((fa env S).then fb) D := h
  cases e : fa env S with
  | nx env' S' => rw [e] at h; exact fun F' r' H' σ' x s' => goS s' x h
  | bk => rw [e] at h; exact h
  | ct => rw [e] at h; exact h
  | rt => rw [e] at h; exact h
  | ex => rw [e] at h; exact h
  | no => rw [e] at h; exact h
theorem ss_one (h1 : PS X st (rdS G n0 fa)) : PSs X [st] (rdS G n0 fa) := pss_one h1
theorem ss_expr (he : PE X e (rdE G n0 fe)) (hs : swapsWith e none pos.line X.env = pure false := by rfl) : PS X (.Expr e pos) (rdS G n0 (sExp fe)) := by
  refine psI (ps_expr (toV he) hs) fun D σ H ⟨F, r, env, S, g, s, h⟩ => ?_
  exact sgV s h fun p S1 F1 r1 H1 u x1 s1 q1 h1 => h1 F1 r1 H1 σ x1 s1
theorem ss_ret (he : PE X e (rdE G n0 fe)) : PS X (.Return (some e) pos) (rdS G n0 (sRet fe)) := by
  refine psI (ps_ret (toV he)) fun D σ H ⟨F, r, env, S, g, s, h⟩ => ?_
  exact sgV s h fun p S1 F1 r1 H1 u x1 s1 q1 h1 => h1 F1 r1 H1 u x1 s1.hr q1
theorem ss_no : PS X st (rdS G n0 sNo) := psI ps_never fun D σ H ⟨F, r, env, S, g, s, h⟩ => h
theorem ss_if {c : Expr} {a b : List Stmt} {tc : ST} (hc : PT X c (rdT G n0 tc)) (ha : PSs X a (rdS G n0 fa)) (hb : PSs X b (rdS G n0 fb)) : PS X (.If c a b pos) (rdS G n0 (sIf tc fa fb)) := by
  refine psI (ps_if hc ha hb) fun D σ H ⟨F, r, env, S, g, s, h⟩ => ?_
  refine sgT s h fun p S1 F1 r1 H1 x1 s1 h1 => ?_
  cases p with
  | true => exact goS s1 x1 h1
  | false => exact goS s1 x1 h1
theorem Sg.set {i : Nat} {v : PV} {u : V} (s : Sg G n0 g F r env σ S H) (q : RV G F r v u) : Sg G n0 g F r (env.set i (some v)) (σ.set i (some u)) S H := by
  refine ⟨s.hr, by rw [List.length_set, List.length_set, s.sl], fun j w e => ?_⟩
  by_cases hj : i = j
  · subst hj
    have hi : i < env.length := by
      have := (List.getElem?_eq_some_iff.mp e).1
      rwa [List.length_set] at this
    rw [List.getElem?_set_self hi] at e
    cases e
    exact ⟨u, by rw [List.getElem?_set_self (by rw [← s.sl]; exact hi)], q⟩
  · rw [List.getElem?_set_ne hj] at e
    obtain ⟨u', h1, h2⟩ := s.vr j w e
    exact ⟨u', by rw [List.getElem?_set_ne hj]; exact h1, h2⟩
theorem tg_nm (i : Nat) : TgOk G (gNm i) (gName i) := fun n0 g F r env σ S H v u env' Q s q e h => by
  cases e
  exact h _ (s.set q)
def TgsOk (G : Gam) (ts : List Tg) (gs : TGs) : Prop := ∀ n0 g F r env σ S H vs us env' (Q : L2.St → Hp → Prop), Sg G n0 g F r env σ S H → RVs G F r vs us → gTps ts vs env S = some env' → (∀ σ', Sg G n0 g F r env' σ' S H → Q σ' H) → gs us σ H Q
theorem tgs_nil : TgsOk G [] gNil := fun n0 g F r env σ S H vs us env' Q s q e h => by
  cases vs with
  | nil =>
    cases e
    exact ⟨q, h σ s⟩
  | cons v vs => cases e
theorem tgs_cons {t : Tg} {ts : List Tg} {gg : TG} {gs : TGs} (h1 : TgOk G t gg) (h2 : TgsOk G ts gs) : TgsOk G (t :: ts) (gCons gg gs) := fun n0 g F r env σ S H vs us env' Q s q e h => by
  cases vs with
  | nil => cases e
  | cons v vs =>
    obtain ⟨u, ur, rfl, q1, q2⟩ := q
    have e : (match t v env S with
      | some env' => gTps ts vs env' S
      | none => none) = some env' := e
    cases e1 : t v env S with
    | none => rw [e1] at e; cases e
    | some env1 =>
      rw [e1] at e
      exact ⟨u, ur, rfl, h1 n0 g F r env σ S H v u env1 _ s q1 e1 fun σ' s' => h2 n0 g F r env1 σ' S H vs ur env' Q s' q2 e h⟩
theorem gTps_len {ts : List Tg} : ∀ {vs : List PV} {env env' : Env}, gTps ts vs env S = some env' → vs.length = ts.length := by
  induction ts with
  | nil =>
    intro vs env env' e
    cases vs with
    | nil => rfl
    | cons => cases e
  | cons t ts ih =>
    intro vs env env' e
    cases vs with
    | nil => cases e
    | cons v vs =>
      have e : (match t v env S with
        | some env' => gTps ts vs env' S
        | none => none) = some env' := e
      cases e1 : t v env S with
      | none => rw [e1] at e; cases e
      | some env1 =>
        rw [e1] at e
        rw [List.length_cons, List.length_cons, ih e]
theorem tg_tp {ts : List Tg} {gs : TGs} {n : Nat} (h : TgsOk G ts gs) (hn : ts.length = n) : TgOk G (gTp ts) (gTup G.K n gs) := fun n0 g F r env σ S H v u env' Q s q e k => by
  unfold gTp at e
  split at e
  · rename_i xs e'
    obtain ⟨a, us, rfl, h1, h2⟩ := view_tup s.hr q e'
    exact ⟨a, us, rfl, h1, by rw [← RVs.length h2, gTps_len e, hn], h n0 g F r env σ S H xs us env' Q s h2 e k⟩
  · cases e
theorem ss_asg {gg : TG} {t : Tg} (hp : PS X st (tAsg (rdV G n0 fe) gg)) (ht : TgOk G t gg) : PS X st (rdS G n0 (sAsg t fe)) := by
  refine psI hp fun D σ H ⟨F, r, env, S, g, s, h⟩ => ?_
  refine sgV s h fun p S1 F1 r1 H1 u x1 s1 q1 h1 => ?_
  cases e : t p.2 env S1 with
  | none => rw [e] at h1; exact False.elim h1
  | some env' =>
    rw [e] at h1
    exact ht n0 g F1 r1 env σ S1 H1 p.2 u env' D.nx s1 q1 e fun σ' s' => h1 F1 r1 H1 σ' x1 s'
theorem ss_par {i j : Nat} {ft : SA} (hp : PS X st (tPar i j (rdA G n0 ft))) : PS X st (rdS G n0 (sPar [i, j] ft)) := by
  refine psI hp fun D σ H ⟨F, r, env, S, g, s, h⟩ => ?_
  refine sgA s h fun p S1 F1 r1 H1 us x1 s1 q1 h1 => ?_
  match p, q1, h1 with
  | [], _, h1 => exact False.elim h1
  | [a], _, h1 => exact False.elim h1
  | a :: b :: c :: d, _, h1 => exact False.elim h1
  | [a, b], q1, h1 =>
    obtain ⟨u, ur, rfl, k1, q2⟩ := q1
    obtain ⟨v, vr, rfl, k2, q3⟩ := q2
    have e : vr = [] := q3
    subst e
    exact ⟨u, v, rfl, h1 F1 r1 H1 _ x1 ((s1.set k1).set k2)⟩
theorem ss_par3 {i j l : Nat} {ft : SA} (hp : PS X st (tPar3 i j l (rdA G n0 ft))) : PS X st (rdS G n0 (sPar [i, j, l] ft)) := by
  refine psI hp fun D σ H ⟨F, r, env, S, g, s, h⟩ => ?_
  refine sgA s h fun p S1 F1 r1 H1 us x1 s1 q1 h1 => ?_
  match p, q1, h1 with
  | [], _, h1 => exact False.elim h1
  | [a], _, h1 => exact False.elim h1
  | [a, b], _, h1 => exact False.elim h1
  | a :: b :: c :: d :: e, _, h1 => exact False.elim h1
  | [a, b, c], q1, h1 =>
    obtain ⟨u, ur, rfl, k1, q2⟩ := q1
    obtain ⟨v, vr, rfl, k2, q3⟩ := q2
    obtain ⟨w, wr, rfl, k3, q4⟩ := q3
    have e : wr = [] := q4
    subst e
    exact ⟨u, v, w, rfl, h1 F1 r1 H1 _ x1 (((s1.set k1).set k2).set k3)⟩
theorem ss_for {fi : SI} {t : Tg} {gg : TG} (hf : PS X st (tFor (rdI G n0 fi) gg (rdS G n0 fb))) (ht : TgOk G t gg) : PS X st (rdS G n0 (sFor fi t fb)) := by
  refine psI hf fun D σ H ⟨F, r, env, S, g, s, h⟩ => ?_
  refine ⟨F, r, env, S, g, s, ?_⟩
  have h : PoS G n0 g F r ((fi env S).go fun p S1 => (forR t fb p.1 env S1).unl p.2) D := h
  cases ei : fi env S with
  | no => rw [ei] at h; exact False.elim h
  | ex => rw [ei] at h; exact False.elim h
  | ok p S1 =>
    rw [ei] at h
    obtain ⟨xs, ls⟩ := p
    have h : PoS G n0 g F r ((forR t fb xs env S1).unl ls) D := h
    intro F1 r1 H1 J g' x1 s1 its _ ul
    have ul : ∀ F2 r2 S2 H2, HR G n0 g' F2 r2 S2 H2 → Ext F1 F2 r1 r2 → HR G n0 g F2 r2 (unlock ls S2) H2 := ul none (fun p e => nomatch e)
    have its : Its G n0 g' F1 r1 J xs := its
    refine ⟨fun i m σ' H' => m = xs.length - i ∧ i ≤ xs.length ∧ ∃ F2 r2 env2 S2, Ext F1 F2 r1 r2 ∧ Sg G n0 g' F2 r2 env2 σ' S2 H' ∧ PoS G n0 g F r ((forR t fb (xs.drop i) env2 S2).unl ls) D,
      ⟨xs.length, rfl, Nat.zero_le _, F1, r1, env, S1, .refl _ _, s1, h⟩, ?_⟩
    rintro i m σ2 H2 ⟨rfl, hi, F2, r2, env2, S2, x2, s2, h2⟩
    obtain ⟨ig, ie⟩ := its g' (.refl g') F2 r2 S2 H2 s2.hr x2
    by_cases hlt : i < xs.length
    · have hx : xs[i]? = some xs[i] := List.getElem?_eq_getElem hlt
      have hd : xs.drop i = xs[i] :: xs.drop (i + 1) := List.drop_eq_getElem_cons hlt
      rw [hd] at h2
      obtain ⟨go, yl⟩ := ig i xs[i] hx
      refine .inr ⟨go, fun σ' H' => (xs.length - (i + 1)) < xs.length - i ∧ ∃ F2 r2 env2 S2, Ext F1 F2 r1 r2 ∧ Sg G n0 g' F2 r2 env2 σ' S2 H' ∧ PoS G n0 g F r ((forR t fb (xs.drop (i + 1)) env2 S2).unl ls) D,
        fun σ' H' ⟨q0, q⟩ => ⟨_, q0, rfl, hlt, q⟩, fun v H3 hy => ?_⟩
      obtain ⟨F3, x3, hr3, q3⟩ := yl v H3 hy
      have h3 : PoS G n0 g F r ((match t xs[i] env2 S2 with
        | none => RS.no
        | some env' => match fb env' S2 with
          | .nx e S' => forR t fb (xs.drop (i + 1)) e S'
          | .ct e S' => forR t fb (xs.drop (i + 1)) e S'
          | .bk e S' => .nx e S'
          | z => z).unl ls) D := h2
      cases et : t xs[i] env2 S2 with
      | none => rw [et] at h3; exact False.elim h3
      | some env3 =>
        simp only [et] at h3
        refine ht n0 g' F3 r2 env2 σ2 S2 H3 xs[i] v env3 _ (s2.ext x3 hr3) q3 et fun σ3 s3 => ?_
        refine ⟨F3, r2, env3, S2, g', s3, ?_⟩
        have xx : Ext F1 F3 r1 r2 := x2.trans x3
        cases eb : fb env3 S2 with
        | nx e S' =>
          rw [eb] at h3
          exact fun F4 r4 H4 σ4 x4 s4 => ⟨by omega, F4, r4, e, S', xx.trans x4, s4, h3⟩
        | ct e S' =>
          rw [eb] at h3
          exact fun F4 r4 H4 σ4 x4 s4 => ⟨by omega, F4, r4, e, S', xx.trans x4, s4, h3⟩
        | bk e S' =>
          rw [eb] at h3
          exact fun F4 r4 H4 σ4 x4 s4 => h3 F4 r4 H4 σ4 ((x1.trans xx).trans x4) ⟨ul F4 r4 S' H4 s4.hr (xx.trans x4), s4.sl, s4.vr⟩
        | rt w S' =>
          rw [eb] at h3
          exact fun F4 r4 H4 u4 x4 s4 q4 => h3 F4 r4 H4 u4 ((x1.trans xx).trans x4) (ul F4 r4 S' H4 s4 (xx.trans x4)) q4
        | ex => rw [eb] at h3; exact False.elim h3
        | no => rw [eb] at h3; exact False.elim h3
    · have e : i = xs.length := by omega
      subst e
      rw [List.drop_length] at h2
      exact .inl ⟨ie _ (Nat.le_refl _), h2 F2 r2 H2 σ2 (x1.trans x2) ⟨ul F2 r2 S2 H2 s2.hr x2, s2.sl, s2.vr⟩⟩
theorem ss_whl {n : Nat} {tc : ST} (hf : PS X st (tWhile (rdT G n0 tc) (rdS G n0 fb))) : PS X st (rdS G n0 (sWhl n tc fb)) := by
  refine psI hf fun D σ H ⟨F, r, env, S, g, s, h⟩ => ?_
  refine ⟨fun m σ' H' => ∃ F2 r2 env2 S2, Ext F F2 r r2 ∧ Sg G n0 g F2 r2 env2 σ' S2 H' ∧ PoS G n0 g F r (whileR tc fb m env2 S2) D, ⟨n, F, r, env, S, .refl _ _, s, h⟩, ?_⟩
  rintro m σ2 H2 ⟨F2, r2, env2, S2, x2, s2, h2⟩
  cases m with
  | zero => exact False.elim h2
  | succ m =>
    have h2 : PoS G n0 g F r ((tc env2 S2).go fun t S1 => if t = true then
      match fb env2 S1 with
      | .nx e S' => whileR tc fb m e S'
      | .ct e S' => whileR tc fb m e S'
      | .bk e S' => .nx e S'
      | z => z
      else .nx env2 S1) D := h2
    refine ⟨F2, r2, env2, S2, g, s2, ?_⟩
    cases ec : tc env2 S2 with
    | no => rw [ec] at h2; exact False.elim h2
    | ex => rw [ec] at h2; exact False.elim h2
    | ok b S3 =>
      rw [ec] at h2
      intro F3 r3 H3 x3 s3
      cases b with
      | false => exact h2 F3 r3 H3 σ2 (x2.trans x3) s3
      | true =>
        rw [if_pos rfl]
        refine ⟨fun σ' H' => ∃ F2 r2 env2 S2, Ext F F2 r r2 ∧ Sg G n0 g F2 r2 env2 σ' S2 H' ∧ PoS G n0 g F r (whileR tc fb m env2 S2) D, fun σ' H' q => ⟨m, Nat.lt_succ_self m, q⟩, F3, r3, env2, S3, g, s3, ?_⟩
        have h3 : PoS G n0 g F r (match fb env2 S3 with
          | .nx e S' => whileR tc fb m e S'
          | .ct e S' => whileR tc fb m e S'
          | .bk e S' => .nx e S'
          | z => z) D := h2
        have xx : Ext F F3 r r3 := x2.trans x3
        cases eb : fb env2 S3 with
        | nx e S' => rw [eb] at h3; exact fun F4 r4 H4 σ4 x4 s4 => ⟨F4, r4, e, S', xx.trans x4, s4, h3⟩
        | ct e S' => rw [eb] at h3; exact fun F4 r4 H4 σ4 x4 s4 => ⟨F4, r4, e, S', xx.trans x4, s4, h3⟩
        | bk e S' => rw [eb] at h3; exact fun F4 r4 H4 σ4 x4 s4 => h3 F4 r4 H4 σ4 (xx.trans x4) s4
        | rt w S' => rw [eb] at h3; exact fun F4 r4 H4 u4 x4 s4 q4 => h3 F4 r4 H4 u4 (xx.trans x4) s4 q4
        | ex => rw [eb] at h3; exact False.elim h3
        | no => rw [eb] at h3; exact False.elim h3
end
end PX
set_option Elab.async false
set_option linter.all false
set_option maxRecDepth 100000
namespace PX
open PySem PySem.Spec PyProof.Rows L2
section
variable {G : Gam} {n0 : Nat} {g : Gh} {F : Hp} {r : List Addr} {S : Store} {H : Hp}
theorem rv_of_ro {a : Addr} {ho : HO} {v : PV} (hF : F a = some ho) (ro : RO G F r v ho) (hu : unl v = v) : RV G F r v (.ref a) := by
  unfold RO at ro
  rw [hu] at ro
  split at ro
  · obtain ⟨us, rfl, k⟩ := ro
    exact ⟨a, us, rfl, .inl hF, k⟩
  · obtain ⟨us, d, k⟩ := ro
    exact ⟨a, us, ho, rfl, hF, d, k⟩
  · obtain ⟨dx, us, rfl, l, k⟩ := ro
    exact ⟨a, dx, us, rfl, hF, l, k⟩
  · exact ro.elim
def frF (n0 t : Nat) (g : Gh) (F : Hp) (r : List Addr) (H : Hp) : Hp := fun a => open Classical in if a ∈ r.drop n0 ∧ g.pn a = none ∧ r[t]? ≠ some a then H a else F a
theorem frF_le (h : HR G n0 g F r S H) (t : Nat) : Le F (frF n0 t g F r H) := fun a o e => by
  unfold frF
  rw [if_neg (fun z => by rw [h.off a (List.mem_of_mem_drop z.1)] at e; cases e)]
  exact e
theorem frF_sub (h : HR G n0 g F r S H) (t : Nat) : LeD (frF n0 t g F r H) H := fun a o e => by
  unfold frF at e
  split at e
  · exact .inl e
  · exact h.sub a o e
theorem take_at (h : HR G n0 g F r S H) {i : Nat} {a : Addr} (hi : i < n0) (e : r[i]? = some a) : (r.take n0)[i]? = some a := by
  rw [List.getElem?_take, if_pos hi]
  exact e
theorem frF_at (h : HR G n0 g F r S H) {t i : Nat} {a : Addr} {ob : PV} (hi : ¬ i < n0) (ht : i ≠ t) (e : r[i]? = some a) (eo : S[i]? = some ob) (hu : unl ob = ob) : frF n0 t g F r H a = H a := by
  unfold frF
  refine if_pos ⟨?_, h.nopin e eo hu, fun e2 => ?_⟩
  · have : (r.drop n0)[i - n0]? = some a := by
      rw [List.getElem?_drop]
      rw [show n0 + (i - n0) = i by omega]
      exact e
    exact List.mem_of_getElem? this
  · obtain ⟨h1, e1⟩ := List.getElem?_eq_some_iff.mp e
    obtain ⟨h2, e2⟩ := List.getElem?_eq_some_iff.mp e2
    exact ht ((List.getElem_inj h.nd).mp (e1.trans e2.symm))
section
variable {t : Nat} (h : HR G n0 g F r S H)
include h
theorem frzL_ok {f : PV → Option PV} (hf : ∀ v u w, RV G F r v u → f v = some w → RV G (frF n0 t g F r H) (r.take n0) w u) : ∀ {vs : List PV} {us : List V} {ws : List PV}, RVs G F r vs us → frzL f vs = some ws → RVs G (frF n0 t g F r H) (r.take n0) ws us
  | [], us, ws, q, e => by cases e; exact q
  | v :: vs, us, ws, q, e => by
    obtain ⟨u, ur, rfl, k, l⟩ := q
    unfold frzL at e
    cases e1 : f v with
    | none => rw [e1] at e; cases e
    | some w =>
      simp only [e1] at e
      cases e2 : frzL f vs with
      | none => rw [e2] at e; cases e
      | some ws' =>
        rw [e2] at e
        cases e
        exact ⟨u, ur, rfl, hf v u w k e1, frzL_ok hf l e2⟩
theorem frzO_ok {f : PV → Option PV} (hf : ∀ v u w, RV G F r v u → f v = some w → RV G (frF n0 t g F r H) (r.take n0) w u) {o w : PV} {ho : HO} (q : RO G F r o ho) (e : frzO f o = some w) : RO G (frF n0 t g F r H) (r.take n0) w ho ∧ unl w = w ∧ unl o = o := by
  unfold frzO at e
  split at e
  · cases e1 : frzL f ‹_› with
    | none => rw [e1] at e; cases e
    | some ws =>
      rw [e1] at e
      cases e
      obtain ⟨us, rfl, k⟩ := q
      exact ⟨⟨us, rfl, frzL_ok h hf k e1⟩, rfl, rfl⟩
  · cases e1 : frzL f ‹List PV› with
    | none => rw [e1] at e; cases e
    | some ws =>
      rw [e1] at e
      cases e
      obtain ⟨us, d, k⟩ := q
      exact ⟨⟨us, d, frzL_ok h hf k e1⟩, rfl, rfl⟩
  · cases e1 : frzL f ‹List PV› with
    | none => rw [e1] at e; cases e
    | some ws =>
      rw [e1] at e
      cases e
      obtain ⟨dx, us, rfl, l, k⟩ := q
      exact ⟨⟨dx, us, rfl, l, frzL_ok h hf k e1⟩, rfl, rfl⟩
  · cases e
theorem frz_ok : ∀ (k : Nat) (v : PV) (u : V) (w : PV), RV G F r v u → frz n0 t S k v = some w → RV G (frF n0 t g F r H) (r.take n0) w u
  | 0, _, _, _, _, e => by cases e
  | k + 1, v, u, w, q, e => by
    have ih := frz_ok k
    have le := frF_le h t
    cases v with
    | non => cases e; exact q
    | bl => cases e; exact q
    | int => cases e; exact q
    | str => cases e; exact q
    | lck => cases e
    | ref i =>
      have e : (if i < n0 then some (.ref i) else if i = t then none else match S[i]? with
        | some o => frzO (frz n0 t S k) o
        | none => none) = some w := e
      split at e
      · rename_i hi
        cases e
        obtain ⟨a, e1, rfl⟩ := q
        exact ⟨a, take_at h hi e1, rfl⟩
      · rename_i hi
        split at e
        · cases e
        · rename_i ht
          cases eo : S[i]? with
          | none => rw [eo] at e; cases e
          | some o =>
            simp only [eo] at e
            obtain ⟨a, ho, rfl, e1, e2, e3⟩ := h.ref q eo
            obtain ⟨z1, z2, z3⟩ := frzO_ok h ih e3 e
            exact rv_of_ro (by rw [frF_at h hi ht e1 eo z3]; exact e2.un z3) z1 z2
    | tup xs =>
      have e : (frzL (frz n0 t S k) xs).map .tup = some w := e
      cases e1 : frzL (frz n0 t S k) xs with
      | none => rw [e1] at e; cases e
      | some ws =>
        rw [e1] at e; cases e
        obtain ⟨a, us, rfl, k1, k2⟩ := q
        exact ⟨a, us, rfl, le _ _ k1, frzL_ok h ih k2 e1⟩
    | lst xs =>
      have e : (frzL (frz n0 t S k) xs).map .lst = some w := e
      cases e1 : frzL (frz n0 t S k) xs with
      | none => rw [e1] at e; cases e
      | some ws =>
        rw [e1] at e; cases e
        obtain ⟨a, us, rfl, k1, k2⟩ := q
        exact ⟨a, us, rfl, le.rd k1, frzL_ok h ih k2 e1⟩
    | dct ks vs =>
      have e : (frzL (frz n0 t S k) vs).map (.dct ks) = some w := e
      cases e1 : frzL (frz n0 t S k) vs with
      | none => rw [e1] at e; cases e
      | some ws =>
        rw [e1] at e; cases e
        obtain ⟨a, us, ho, rfl, k1, d, k2⟩ := q
        exact ⟨a, us, ho, rfl, le _ _ k1, d, frzL_ok h ih k2 e1⟩
    | ins c ns vs =>
      have e : (frzL (frz n0 t S k) vs).map (.ins c ns) = some w := e
      cases e1 : frzL (frz n0 t S k) vs with
      | none => rw [e1] at e; cases e
      | some ws =>
        rw [e1] at e; cases e
        obtain ⟨a, dx, us, rfl, k1, d, k2⟩ := q
        exact ⟨a, dx, us, rfl, le _ _ k1, d, frzL_ok h ih k2 e1⟩
theorem frz_hr (t : Nat) : HR G n0 g (frF n0 t g F r H) (r.take n0) (S.take n0) H := by
  have hnd : r.Nodup := h.nd
  have apart : ∀ a, a ∈ r.take n0 → a ∈ r.drop n0 → False := fun a h1 h2 => by
    have e : r = r.take n0 ++ r.drop n0 := (List.take_append_drop n0 r).symm
    rw [e] at hnd
    exact (List.nodup_append.mp hnd).2.2 a h1 a h2 rfl
  refine ⟨frF_sub h t, (List.take_sublist n0 r).nodup hnd, fun a ha => ?_, by rw [List.length_take, List.length_take, h.len], by rw [List.length_take]; have := h.nle; omega, h.lle, fun i ob a e1 e2 => ?_, fun a o e => ?_, fun i ob a e1 e2 => ?_, fun a o e el ha => h.out a o e el (List.mem_of_mem_take ha)⟩
  · unfold frF
    rw [if_neg (fun z => apart a ha z.1)]
    exact h.off a (List.mem_of_mem_take ha)
  · rw [List.getElem?_take] at e1 e2
    split at e1
    · rename_i hi
      rw [if_pos hi] at e2
      obtain ⟨ho, q1, q2⟩ := h.obj i ob a e1 e2
      refine ⟨ho, q1, RO.mono (frF_le h t) (fun j b e => ?_) q2⟩
      unfold lim at e ⊢
      rw [if_pos hi] at e ⊢
      have hl := h.lle i hi
      rw [List.getElem?_take] at e ⊢
      split at e
      · rename_i hj
        rw [if_pos hj, List.getElem?_take, if_pos (by omega)]
        exact e
      · cases e
    · cases e1
  · obtain ⟨q1, q2, q3⟩ := h.pin a o e
    refine ⟨q1, ?_, fun i hi => ?_⟩
    · unfold frF
      rw [if_neg (fun z => by rw [z.2.1] at e; cases e)]
      exact q2
    · rw [List.getElem?_take] at hi
      split at hi
      · rename_i hi'
        obtain ⟨ob, hb⟩ := q3 i hi
        exact ⟨ob, by rw [List.getElem?_take, if_pos hi']; exact hb⟩
      · cases hi
  · rw [List.getElem?_take] at e1 e2
    split at e1
    · rename_i hi
      rw [if_pos hi] at e2
      exact h.lckd i ob a e1 e2
    · cases e1
end
theorem norm_ok {v v' : PV} {u : V} {b : Bool} {S' : Store} (h : HR G n0 g F r S H) (q : RV G F r v u) (e : norm n0 v S = .ok (b, v') S') :
    ∃ F', Le F F' ∧ HR G n0 g F' (r.take n0) S' H ∧ RF G g F' (r.take n0) H b v' u := by
  have hl := h.nle
  unfold norm at e
  split at e
  · rename_i hs
    cases e
    have e2 : r.take n0 = r := List.take_of_length_le (by rw [h.len, hs]; exact Nat.le_refl _)
    rw [e2]
    exact ⟨F, .refl F, h, q⟩
  · have any : ∀ w, frz n0 S.length S 8 v = some w → ∃ F', Le F F' ∧ HR G n0 g F' (r.take n0) (S.take n0) H ∧ RF G g F' (r.take n0) H false w u := fun w e =>
      ⟨_, frF_le h S.length, frz_hr h S.length, frz_ok h 8 v u w q e⟩
    split at e
    · rename_i i
      split at e
      · rename_i hi
        cases e
        obtain ⟨a, e1, rfl⟩ := q
        exact ⟨_, frF_le h i, frz_hr h i, ⟨a, take_at h hi e1, rfl⟩⟩
      · rename_i hi
        cases eo : S[i]? with
        | none => simp only [eo] at e; cases e
        | some o =>
          simp only [eo] at e
          cases ew : frzO (frz n0 i S 8) o with
          | none => simp only [ew] at e; cases e
          | some w =>
            simp only [ew] at e
            cases e
            obtain ⟨a, ho, rfl, e1, e2, e3⟩ := h.ref q eo
            obtain ⟨z1, z2, z3⟩ := frzO_ok h (frz_ok h 8) e3 ew
            refine ⟨_, frF_le h i, frz_hr h i, ⟨a, ho, rfl, e2.un z3, ?_, fun hm => ?_, h.nopin e1 eo z3, z1, z2⟩⟩
            · unfold frF
              rw [if_neg (fun z => z.2.2 e1)]
              exact h.off a (List.mem_of_getElem? e1)
            · obtain ⟨j, hj, ej⟩ := List.getElem_of_mem hm
              have hj2 : j < n0 := by rw [List.length_take] at hj; omega
              rw [List.getElem_take] at ej
              obtain ⟨h2, e2⟩ := List.getElem?_eq_some_iff.mp e1
              have := (List.getElem_inj h.nd).mp (ej.trans e2.symm)
              omega
    · cases ew : frz n0 S.length S 8 v with
      | none => rw [ew] at e; cases e
      | some w =>
        rw [ew] at e
        cases e
        exact any _ ew
def spF (G : Gam) (cf : CF) (f np : Nat) : Sp := fun vs H Q _ => ∃ F r S g n0 args, HR G n0 g F r S H ∧ RVs G F r args vs ∧ args.length = np ∧ match cf f args n0 S with
  | .ok v S' => ∀ F' r' H' u, Ext F F' r r' → HR G n0 g F' r' S' H' → RV G F' r' v u → Q u H'
  | _ => False
theorem spF_len {cf : CF} {f np : Nat} : ∀ vs H Q E, spF G cf f np vs H Q E → vs.length = np := fun vs H Q E ⟨F, r, S, g, n0, args, _, q, l, _⟩ => by rw [← RVs.length q, l]
def subG (n0 : Nat) (g : Gh) (n : Nat) : Gh := ⟨fun i => if i < n0 then g.L i else n, g.pn, g.lk⟩
theorem HR.call (h : HR G n0 g F r S H) : HR G S.length (subG n0 g S.length) F r S H := by
  refine ⟨h.sub, h.nd, h.off, h.len, Nat.le_refl _, fun i hi => ?_, fun i ob a e1 e2 => ?_, h.pin, h.lckd, h.out⟩
  · unfold subG
    show (if i < n0 then g.L i else S.length) ≤ S.length
    split
    · rename_i h1
      exact Nat.le_trans (h.lle i h1) h.nle
    · exact Nat.le_refl _
  · obtain ⟨ho, q1, q2⟩ := h.obj i ob a e1 e2
    refine ⟨ho, q1, RO.mono (.refl F) (fun j b e => ?_) q2⟩
    have hi : i < S.length := (List.getElem?_eq_some_iff.mp e1).1
    unfold lim at e ⊢
    rw [if_pos hi]
    unfold subG
    show (r.take (if i < n0 then g.L i else S.length))[j]? = some b
    split at e
    · rename_i h1
      rw [if_pos h1]
      exact e
    · rename_i h1
      rw [if_neg h1, ← h.len, List.take_length]
      exact e
theorem HR.back {F2 : Hp} {S2 : Store} {H2 : Hp} (h : HR G n0 g F r S H) (k : HR G S.length (subG n0 g S.length) F2 r S2 H2) : HR G n0 g F2 r S2 H2 := by
  refine ⟨k.sub, k.nd, k.off, k.len, Nat.le_trans h.nle k.nle, h.lle, fun i ob a e1 e2 => ?_, k.pin, k.lckd, k.out⟩
  obtain ⟨ho, q1, q2⟩ := k.obj i ob a e1 e2
  refine ⟨ho, q1, RO.mono (.refl F2) (fun j b e => ?_) q2⟩
  have hi : i < S.length := by
    rw [← h.len, k.len]
    exact (List.getElem?_eq_some_iff.mp e1).1
  unfold lim at e ⊢
  rw [if_pos hi] at e
  unfold subG at e
  have e : (r.take (if i < n0 then g.L i else S.length))[j]? = some b := e
  split
  · rename_i h1
    rw [if_pos h1] at e
    exact e
  · rename_i h1
    rw [if_neg h1, ← h.len, List.take_length] at e
    exact e
theorem take_ext {F2 : Hp} {r2 : List Addr} (h : HR G n0 g F r S H) (x : Ext F F2 r r2) : r2.take S.length = r := by
  obtain ⟨t, ht⟩ := x.2
  rw [← ht, ← h.len, List.take_left']
  rfl
end
section
variable {X : Cx} {G : Gam} {n0 : Nat} {a : Expr} {es : List Expr} {fs : SA} {e : Expr} {cf : CF} {np f : Nat}
theorem run_call {g : Gh} {F0 F : Hp} {r0 r : List Addr} {env : Env} {σ : L2.St} {S : Store} {H : Hp} {Q : VK} {E : XK} {args : List PV} {us : List V} (s : Sg G n0 g F r env σ S H) (x0 : Ext F0 F r0 r) (q : RVs G F r args us) (hl : args.length = np)
    (h : PoE G n0 g F0 r0 env σ ((cutX S.length (cf f args S.length S)).bind fun v S2 => norm S.length v S2) Q) : spF G cf f np us H Q E := by
  refine ⟨F, r, S, subG n0 g S.length, S.length, args, s.hr.call, q, hl, ?_⟩
  cases ec : cf f args S.length S with
  | no => rw [ec] at h; exact h
  | ex => rw [ec] at h; exact h
  | ok v S2 =>
    rw [ec] at h
    intro F2 r2 H2 u x2 h2 q2
    have h : PoE G n0 g F0 r0 env σ (norm S.length v S2) Q := h
    cases en : norm S.length v S2 with
    | no => rw [en] at h; exact h.elim
    | ex => rw [en] at h; exact h.elim
    | ok p S3 =>
      rw [en] at h
      obtain ⟨b, w⟩ := p
      obtain ⟨F3, x3, h3, q3⟩ := norm_ok h2 q2 en
      rw [take_ext s.hr x2] at h3 q3
      have x4 : Ext F F3 r r := ⟨x2.1.trans x3, List.prefix_refl r⟩
      exact h F3 r H2 u (x0.trans x4) (s.ext x4 (s.hr.back h3)) q3
theorem se_call (hp : PE X e (tCall (spF G cf f np) [] E0 (rdA G n0 fs))) : PE X e (rdE G n0 (eCall cf np f fs)) := by
  refine peI hp fun σ H Q ⟨F, r, env, S, g, s, h⟩ => ?_
  refine stA s cnE h fun p S1 F1 r1 H1 us x1 s1 q1 h1 => ?_
  split at h1
  · rename_i hl
    rw [List.append_nil]
    exact run_call s1 x1 q1 hl h1
  · exact h1.elim
theorem sg_start {g : Gh} {F : Hp} {r : List Addr} {S : Store} {H : Hp} {N : List Str} {nl : Nat} {args : List PV} {vs : List V} (h : HR G n0 g F r S H) (q : RVs G F r args vs) (hl : args.length = np) (hn : nl - np = N.length - np) :
    Sg G n0 g F r (args.map some ++ List.replicate (nl - np) none) (L2.start N vs) S H := by
  have l := RVs.length q
  refine ⟨h, ?_, fun i v e => ?_⟩
  · unfold L2.start
    rw [List.length_append, List.length_append, List.length_map, List.length_map, List.length_replicate, List.length_replicate, ← l, hl, hn]
  · by_cases hi : i < args.length
    · rw [List.getElem?_append_left (by rw [List.length_map]; exact hi), List.getElem?_map] at e
      cases ea : args[i]? with
      | none => rw [ea] at e; cases e
      | some w =>
        rw [ea] at e
        cases e
        obtain ⟨u, e1, q1⟩ := RVs.get q ea
        refine ⟨u, ?_, q1⟩
        unfold L2.start
        rw [List.getElem?_append_left (by rw [List.length_map, ← l]; exact hi), List.getElem?_map, e1]
        rfl
    · rw [List.getElem?_append_right (by rw [List.length_map]; omega), List.getElem?_replicate] at e
      split at e <;> cases e
theorem body_ok {T : Nat → Option FnB} {n : Nat} {b : FnB} {N : List Str} {vs : List V} {H : Hp} {Q : VK} {E : XK} (hT : T f = some b) (hn : b.nl = N.length) (h : spF G (callF T (n + 1)) f b.np vs H Q E) :
    ∃ n0, rdS G n0 (b.body (callF T n) n0) { nx := fun _ H' => Q .non H', rt := Q } (L2.start N vs) H := by
  obtain ⟨F, r, S, g, n0, args, hr, q, l, h⟩ := h
  refine ⟨n0, F, r, _, S, g, sg_start (nl := b.nl) hr q l (by rw [hn]), ?_⟩
  have h : (match (match T f with
    | some b => runB b (callF T n) args n0 S
    | none => R.no) with
    | .ok v S' => ∀ F' r' H' u, Ext F F' r r' → HR G n0 g F' r' S' H' → RV G F' r' v u → Q u H'
    | _ => False) := h
  rw [hT] at h
  simp only [runB] at h
  rw [if_pos l] at h
  cases eb : b.body (callF T n) n0 (args.map some ++ List.replicate (b.nl - b.np) none) S with
  | nx env' S' => rw [eb] at h; exact fun F' r' H' σ' x s' => h F' r' H' .non x s'.hr rfl
  | rt v S' => rw [eb] at h; exact h
  | bk => rw [eb] at h; exact h.elim
  | ct => rw [eb] at h; exact h.elim
  | ex => rw [eb] at h; exact h.elim
  | no => rw [eb] at h; exact h.elim
end
end PX
set_option Elab.async false
set_option linter.all false
set_option maxRecDepth 100000
namespace PX
open PySem
def toDL (f : PV → Option PyData) : List PV → Option (List PyData)
  | [] => some []
  | v :: vs => match f v with
    | some d => match toDL f vs with
      | some ds => some (d :: ds)
      | none => none
    | none => none
def toD (S : Store) : Nat → PV → Option PyData
  | 0, v => match v with
    | .non => some .none
    | .bl b => some (.bool b)
    | .int i => some (.int i)
    | .str x => if PyData.strOk x then some (.str x) else none
    | _ => none
  | k + 1, v => match deref S v with
    | some .non => some .none
    | some (.bl b) => some (.bool b)
    | some (.int i) => some (.int i)
    | some (.str x) => if PyData.strOk x then some (.str x) else none
    | some (.lst xs) => (toDL (toD S k) xs).map .list
    | some (.tup xs) => (toDL (toD S k) xs).map .tuple
    | _ => none
def eqD (S : Store) (v w : PV) : Option Bool := match toD S 6 v with
  | some d => match toD S 6 w with
    | some e => some (PyData.eqv d e)
    | none => none
  | none => none
def oEq : Op2 := fun x y S => (eqD S x y).map fun b => (false, .bl b)
def oNe : Op2 := fun x y S => (eqD S x y).map fun b => (false, .bl (!b))
def intsOf : List PV → Option (List Int)
  | [] => some []
  | .int i :: r => (intsOf r).map (i :: ·)
  | _ :: _ => none
def blsOf : List PV → Option (List Bool)
  | [] => some []
  | .bl i :: r => (blsOf r).map (i :: ·)
  | _ :: _ => none
def bLen : OpN := fun xs S => match xs with
  | [v] => match deref S v with
    | some (.lst xs) => some (false, .int xs.length)
    | some (.tup xs) => some (false, .int xs.length)
    | _ => none
  | _ => none
def bSum : OpN := fun xs S => match xs with
  | [v] => match itemsOf S v with
    | some ws => (intsOf ws).map fun ns => (false, .int ns.sum)
    | none => none
  | _ => none
def bTuple : OpN := fun xs S => match xs with
  | [v] => match itemsOf S v with
    | some ws => some (false, .tup ws)
    | none => none
  | _ => none
def bList : OpN := fun xs S => match xs with
  | [v] => match itemsOf S v with
    | some ws => some (true, .lst ws)
    | none => none
  | _ => none
def bInt : OpN := fun xs _ => match xs with
  | [.int i] => some (false, .int i)
  | [.bl b] => some (false, .int (if b then 1 else 0))
  | _ => none
def bAbs : OpN := fun xs _ => match xs with
  | [.int i] => some (false, .int (if i < 0 then -i else i))
  | _ => none
def bMax2 : OpN := fun xs _ => match xs with
  | [.int i, .int j] => some (false, .int (if j > i then j else i))
  | _ => none
def bMin2 : OpN := fun xs _ => match xs with
  | [.int i, .int j] => some (false, .int (if j < i then j else i))
  | _ => none
end PX
namespace PX
open PySem PySem.Spec PyProof.Rows L2
section
variable {X : Cx} {G : Gam}
theorem ok_sub : Ok2 G oSub (rI0 fun i j => .int (i - j)) := fun n0 g F r S H x y u v z Q h q1 q2 e k => by
  unfold oSub at e
  split at e
  · cases e
    exact ⟨_, _, q1, q2, k F r H _ (.refl F r) h rfl⟩
  · cases e
theorem ok_div : Ok2 G oDiv (rI CDiv fun i j => .int (i / j)) := fun n0 g F r S H x y u v z Q h q1 q2 e k => by
  unfold oDiv at e
  split at e
  · split at e
    · rename_i hm
      cases e
      exact ⟨_, _, q1, q2, hm, k F r H _ (.refl F r) h rfl⟩
    · cases e
  · cases e
theorem ok_mod : Ok2 G oMod (rI (fun _ j => 0 < j) fun i j => .int (i % j)) := fun n0 g F r S H x y u v z Q h q1 q2 e k => by
  unfold oMod at e
  split at e
  · split at e
    · rename_i hm
      cases e
      exact ⟨_, _, q1, q2, hm, k F r H _ (.refl F r) h rfl⟩
    · cases e
  · cases e
theorem ok_neg : Ok1 G oNeg (rU fun i => .int (-i)) := fun n0 g F r S H x u z Q h q1 e k => by
  unfold oNeg at e
  split at e
  · cases e
    exact ⟨_, q1, k F r H _ (.refl F r) h rfl⟩
  · cases e
theorem ok_lt : Ok2 G oLt (rI0 fun i j => .bl (decide (i < j))) := fun n0 g F r S H x y u v z Q h q1 q2 e k => by
  unfold oLt at e
  split at e
  · cases e
    exact ⟨_, _, q1, q2, k F r H _ (.refl F r) h rfl⟩
  · cases e
theorem ok_le : Ok2 G oLe (rI0 fun i j => .bl (decide (i ≤ j))) := fun n0 g F r S H x y u v z Q h q1 q2 e k => by
  unfold oLe at e
  split at e
  · cases e
    exact ⟨_, _, q1, q2, k F r H _ (.refl F r) h rfl⟩
  · cases e
theorem ok_gt : Ok2 G oGt (rI0 fun i j => .bl (decide (j < i))) := fun n0 g F r S H x y u v z Q h q1 q2 e k => by
  unfold oGt at e
  split at e
  · cases e
    exact ⟨_, _, q1, q2, k F r H _ (.refl F r) h rfl⟩
  · cases e
theorem toDL_ok {n0 : Nat} {g : Gh} {F : Hp} {r : List Addr} {S : Store} {H : Hp} {f : PV → Option PyData} {k : Nat} (h : HR G n0 g F r S H)
    (hf : ∀ v u d, RV G F r v u → f v = some d → Dp G.K H u d ∧ d.canLay0 = true ∧ d.depth ≤ k) : ∀ {vs : List PV} {us : List V} {ds : List PyData}, RVs G F r vs us → toDL f vs = some ds → DpAll G.K H us ds ∧ PyData.canLayAll0 ds = true ∧ PyData.depthAll ds ≤ k
  | [], us, ds, q, e => by
    cases e
    have e1 : us = [] := q
    subst e1
    exact ⟨.nil, rfl, Nat.zero_le _⟩
  | v :: vs, us, ds, q, e => by
    obtain ⟨u, ur, rfl, q1, q2⟩ := q
    unfold toDL at e
    cases e1 : f v with
    | none => rw [e1] at e; cases e
    | some d =>
      simp only [e1] at e
      cases e2 : toDL f vs with
      | none => rw [e2] at e; cases e
      | some ds' =>
        rw [e2] at e
        cases e
        obtain ⟨a1, a2, a3⟩ := hf v u d q1 e1
        obtain ⟨b1, b2, b3⟩ := toDL_ok h hf q2 e2
        refine ⟨.cons a1 b1, ?_, ?_⟩
        · simp only [PyData.canLayAll0, a2, b2, Bool.and_self]
        · simp only [PyData.depthAll]
          exact Nat.max_le.mpr ⟨a3, b3⟩
theorem toD_ok {n0 : Nat} {g : Gh} {F : Hp} {r : List Addr} {S : Store} {H : Hp} (h : HR G n0 g F r S H) : ∀ (k : Nat) (v : PV) (u : V) (d : PyData), RV G F r v u → toD S k v = some d → Dp G.K H u d ∧ d.canLay0 = true ∧ d.depth ≤ k
  | 0, v, u, d, q, e => by
    unfold toD at e
    split at e
    · cases e; cases (show u = .non from q); exact ⟨.non, rfl, Nat.le_refl _⟩
    · cases e; cases (show u = .bl _ from q); exact ⟨.bl _, rfl, Nat.le_refl _⟩
    · cases e; cases (show u = .int _ from q); exact ⟨.int _, rfl, Nat.le_refl _⟩
    · split at e
      · rename_i hs
        cases e; cases (show u = .str _ from q); exact ⟨.str _, hs, Nat.le_refl _⟩
      · cases e
    · cases e
  | k + 1, v, u, d, q, e => by
    unfold toD at e
    split at e
    · rename_i ed
      cases e; cases view_non h q ed; exact ⟨.non, rfl, Nat.zero_le _⟩
    · rename_i ed
      cases e; cases view_bl h q ed; exact ⟨.bl _, rfl, Nat.zero_le _⟩
    · rename_i ed
      cases e; cases view_int h q ed; exact ⟨.int _, rfl, Nat.zero_le _⟩
    · rename_i ed
      split at e
      · rename_i hs
        cases e; cases view_str h q ed; exact ⟨.str _, hs, Nat.zero_le _⟩
      · cases e
    · rename_i xs ed
      cases e1 : toDL (toD S k) xs with
      | none => rw [e1] at e; cases e
      | some ds =>
        rw [e1] at e
        cases e
        obtain ⟨a, us, rfl, k1, k2⟩ := view_lst h q ed
        obtain ⟨b1, b2, b3⟩ := toDL_ok h (toD_ok h k) k2 e1
        exact ⟨.lst (.inl k1) b1, by simp only [PyData.canLay0]; exact b2, by simp only [PyData.depth]; omega⟩
    · rename_i xs ed
      cases e1 : toDL (toD S k) xs with
      | none => rw [e1] at e; cases e
      | some ds =>
        rw [e1] at e
        cases e
        obtain ⟨a, us, rfl, k1, k2⟩ := view_tup h q ed
        obtain ⟨b1, b2, b3⟩ := toDL_ok h (toD_ok h k) k2 e1
        exact ⟨.tup k1 b1, by simp only [PyData.canLay0]; exact b2, by simp only [PyData.depth]; omega⟩
    · cases e
theorem toD_shaped {d : PyData} {k : Nat} (h1 : d.canLay0 = true) (h2 : d.depth ≤ k) (hk : k ≤ 64) : SeqAt.shaped d = true := by
  unfold SeqAt.shaped
  rw [h1, Bool.true_and]
  exact decide_eq_true (Nat.le_trans h2 hk)
theorem ok_eq : Ok2 G oEq (rEqD G.K) := fun n0 g F r S H x y u v z Q h q1 q2 e k => by
  unfold oEq eqD at e
  cases e1 : toD S 6 x with
  | none => rw [e1] at e; cases e
  | some d =>
    simp only [e1] at e
    cases e2 : toD S 6 y with
    | none => rw [e2] at e; cases e
    | some d' =>
      rw [e2] at e
      cases e
      obtain ⟨a1, a2, a3⟩ := toD_ok h 6 x u d q1 e1
      obtain ⟨b1, b2, b3⟩ := toD_ok h 6 y v d' q2 e2
      exact ⟨d, d', a1, b1, toD_shaped a2 a3 (by decide), toD_shaped b2 b3 (by decide), k F r H _ (.refl F r) h rfl⟩
theorem ok_ne : Ok2 G oNe (rNeD G.K) := fun n0 g F r S H x y u v z Q h q1 q2 e k => by
  unfold oNe eqD at e
  cases e1 : toD S 6 x with
  | none => rw [e1] at e; cases e
  | some d =>
    simp only [e1] at e
    cases e2 : toD S 6 y with
    | none => rw [e2] at e; cases e
    | some d' =>
      rw [e2] at e
      cases e
      obtain ⟨a1, a2, a3⟩ := toD_ok h 6 x u d q1 e1
      obtain ⟨b1, b2, b3⟩ := toD_ok h 6 y v d' q2 e2
      exact ⟨d, d', a1, b1, toD_shaped a2 a3 (by decide), toD_shaped b2 b3 (by decide), k F r H _ (.refl F r) h rfl⟩
theorem se_argB {o : OpN} {t : List V → Hp → VK → Prop} {fs : SA} {n0 : Nat} {ex : Expr} (hp : PE X ex (tCB t (rdA G n0 fs))) (ho : OkN G o t) : PE X ex (rdE G n0 (eArg o fs)) := by
  refine peI hp fun σ H Q ⟨F, r, env, S, g, s, h⟩ => ?_
  refine stA s cnE h fun p S1 F1 r1 H1 us x1 s1 q1 h1 => ?_
  exact endO (T := fun Q => t us H1 Q) s1 x1 h1 fun z ez k => ho n0 g F1 r1 S1 H1 p us z Q s1.hr q1 ez k
theorem intsOf_eq : ∀ {ws : List PV} {ns : List Int}, intsOf ws = some ns → ws = ns.map PV.int
  | [], _, e => by cases e; rfl
  | w :: ws, ns, e => by
    cases w <;> try cases e
    rename_i i
    have e : (intsOf ws).map (i :: ·) = some ns := e
    cases e1 : intsOf ws with
    | none => rw [e1] at e; cases e
    | some ms =>
      rw [e1] at e
      cases e
      rw [intsOf_eq e1]
      rfl
theorem blsOf_eq : ∀ {ws : List PV} {ns : List Bool}, blsOf ws = some ns → ws = ns.map PV.bl
  | [], _, e => by cases e; rfl
  | w :: ws, ns, e => by
    cases w <;> try cases e
    rename_i i
    have e : (blsOf ws).map (i :: ·) = some ns := e
    cases e1 : blsOf ws with
    | none => rw [e1] at e; cases e
    | some ms =>
      rw [e1] at e
      cases e
      rw [blsOf_eq e1]
      rfl
theorem RVs.bls {F : Hp} {r : List Addr} : ∀ {ns : List Bool} {us : List V}, RVs G F r (ns.map PV.bl) us → us = ns.map V.bl
  | [], _, q => q
  | n :: ns, _, q => by
    obtain ⟨u, ur, rfl, k, l⟩ := q
    have e : u = V.bl n := k
    rw [e, RVs.bls l]
    rfl
theorem one_of {F : Hp} {r : List Addr} {v : PV} {us : List V} (q : RVs G F r [v] us) : ∃ u, us = [u] ∧ RV G F r v u := by
  obtain ⟨u, ur, rfl, k, l⟩ := q
  have e : ur = [] := l
  exact ⟨u, by rw [e], k⟩
theorem two_of {F : Hp} {r : List Addr} {v w : PV} {us : List V} (q : RVs G F r [v, w] us) : ∃ u y, us = [u, y] ∧ RV G F r v u ∧ RV G F r w y := by
  obtain ⟨u, ur, rfl, k, l⟩ := q
  obtain ⟨y, rfl, m⟩ := one_of l
  exact ⟨u, y, rfl, k, m⟩
def rSumA (K : PySem.W.Frag) : List V → Hp → VK → Prop := fun vs H Q => ∃ (a : Addr) (ns : List Int), vs = [V.ref a] ∧ (SqL K H a (ns.map V.int) ∨ SqT K H a (ns.map V.int)) ∧ Q (.int ns.sum) H
theorem cr_sumA (hc : X.calm = true) : CallR X (.builtin "sum") (rSumA X.K) := by
  intro pins s σ H vs us Q I r h
  obtain ⟨a, ns, rfl, hs | hs, q⟩ := h
  · exact cr_sum hc pins s σ H _ us Q I r ⟨a, ns, rfl, hs, q⟩
  · obtain ⟨its, rv, hl, _⟩ := I.tuple hs
    rw [Vals.ref1 r]
    have hi := rv.ints
    obtain ⟨xs, e⟩ := hi.allInts.items
    have hn : numsOf (intItems xs).toList = ns := by rw [← e]; exact hi.numsOf
    rw [nums_intItems] at hn
    rw [e] at hl
    refine PySem.W.ktm_sumG (I.ok.hd hc) (show s.heap.IsTuple a _ from hl) fun h' tk t' hk => ?_
    refine ⟨.int _, H, I.kept hk, ⟨_, rfl⟩, ?_⟩
    rw [preSum_eq, List.take_of_length_le (by simp), hn]
    exact q
theorem ok_sum : OkN G bSum (rSumA G.K) := fun n0 g F r S H xs us z Q h q e k => by
  unfold bSum at e
  split at e
  · obtain ⟨u, rfl, q1⟩ := one_of q
    cases ei : itemsOf S ‹PV› with
    | none => simp only [ei] at e; cases e
    | some ws =>
      simp only [ei] at e
      cases en : intsOf ws with
      | none => rw [en] at e; cases e
      | some ns =>
        rw [en] at e
        cases e
        obtain ⟨a, us, rfl, k1, k2⟩ := view_seq h q1 ei
        rw [intsOf_eq en] at k2
        rw [RVs.ints k2] at k1
        exact ⟨a, ns, rfl, k1, k F r H _ (.refl F r) h rfl⟩
  · cases e
end
end PX
set_option Elab.async false
set_option linter.all false
set_option maxRecDepth 100000
namespace PX
open PySem PySem.Spec PyProof.Rows L2
def bMaxL : OpN := fun xs S => match xs with
  | [v] => match itemsOf S v with
    | some ws => match intsOf ws with
      | some (n :: ns) => some (false, .int (ns.foldl max n))
      | _ => none
    | none => none
  | _ => none
def ixP (n : Nat) (i : Int) : Option Nat := if 0 ≤ i then (if i < n then some i.toNat else none) else if -(n : Int) ≤ i then some (i + n).toNat else none
def oIx : Op2 := fun x y S => match y with
  | .int i => match itemsOf S x with
    | some xs => match ixP xs.length i with
      | some j => match xs[j]? with
        | some v => some (false, v)
        | none => none
      | none => none
    | none => none
  | _ => none
abbrev SO := Env → Store → R (Option Int)
def pNo : SO := fun _ S => .ok none S
def pSo (a : SE) : SO := fun env S => (a env S).bind fun p S1 => match p.2 with
  | .int i => .ok (some i) S1
  | _ => .no
def sIxP (n d : Nat) : Option Int → Nat
  | none => d
  | some v => if v < 0 then (v + (n : Int)).toNat else min v.toNat n
def cutP (xs : List PV) (lo hi : Option Int) : List PV := (xs.drop (sIxP xs.length 0 lo)).take (sIxP xs.length xs.length hi - sIxP xs.length 0 lo)
def slP (lo hi : Option Int) : Op1 := fun x S => match deref S x with
  | some (.lst xs) => some (true, .lst (cutP xs lo hi))
  | some (.tup xs) => some (false, .tup (cutP xs lo hi))
  | _ => none
def eSl (a : SE) (lo hi : SO) : SE := fun env S => (a env S).bind fun p S1 => (lo env S1).bind fun l S2 => (hi env S2).bind fun u S3 => ofO (slP l u p.2 S3) S3
def oCat : Op2 := fun x y S => match deref S x with
  | some (.lst xs) => match deref S y with
    | some (.lst ys) => if small (xs.length + ys.length) then some (true, .lst (xs ++ ys)) else none
    | _ => none
  | some (.tup xs) => match deref S y with
    | some (.tup ys) => if small (xs.length + ys.length) then some (false, .tup (xs ++ ys)) else none
    | _ => none
  | some (.int i) => match y with
    | .int j => some (false, .int (i + j))
    | _ => none
  | _ => none
def oRep : Op2 := fun x y S => match y with
  | .int k => match deref S x with
    | some (.lst xs) => if decide (-1000 ≤ k ∧ k ≤ 1000) && Nat.ble xs.length 1000 then some (true, .lst (List.replicate k.toNat xs).flatten) else none
    | some (.int i) => if mulOk i k then some (false, .int (i * k)) else none
    | _ => none
  | _ => none
def lstOf (S : Store) (v : PV) : Option (List PV) := match deref S v with
  | some (.lst xs) => some xs
  | _ => none
def bAll : OpN := fun xs S => match xs with
  | [v] => match lstOf S v with
    | some ws => match blsOf ws with
      | some ns => some (false, .bl (ns.all id))
      | none => none
    | none => none
  | _ => none
def bAny : OpN := fun xs S => match xs with
  | [v] => match lstOf S v with
    | some ws => match blsOf ws with
      | some ns => some (false, .bl (ns.any id))
      | none => none
    | none => none
  | _ => none
section
variable {X : Cx} {G : Gam}
theorem view_lstOf {n0 : Nat} {g : Gh} {F : Hp} {r : List Addr} {S : Store} {H : Hp} (h : HR G n0 g F r S H) {v : PV} {u : V} {xs : List PV} (q : RV G F r v u) (e : lstOf S v = some xs) : ∃ a us, u = .ref a ∧ Rd H a (.lst us) ∧ RVs G F r xs us := by
  unfold lstOf at e
  split at e
  · rename_i ed
    cases e
    exact view_lst h q ed
  · cases e
theorem ok_all : OkN G bAll (rAll G.K) := fun n0 g F r S H xs us z Q h q e k => by
  unfold bAll at e
  split at e
  · obtain ⟨u, rfl, q1⟩ := one_of q
    split at e
    · rename_i ws ei
      split at e
      · rename_i ns en
        cases e
        obtain ⟨a, us, rfl, k1, k2⟩ := view_lstOf h q1 ei
        rw [blsOf_eq en] at k2
        rw [RVs.bls k2] at k1
        exact ⟨a, ns, rfl, .inl k1, k F r H _ (.refl F r) h rfl⟩
      · cases e
    · cases e
  · cases e
theorem ok_any : OkN G bAny (rAny G.K) := fun n0 g F r S H xs us z Q h q e k => by
  unfold bAny at e
  split at e
  · obtain ⟨u, rfl, q1⟩ := one_of q
    split at e
    · rename_i ws ei
      split at e
      · rename_i ns en
        cases e
        obtain ⟨a, us, rfl, k1, k2⟩ := view_lstOf h q1 ei
        rw [blsOf_eq en] at k2
        rw [RVs.bls k2] at k1
        exact ⟨a, ns, rfl, .inl k1, k F r H _ (.refl F r) h rfl⟩
      · cases e
    · cases e
  · cases e
theorem ok_tuple : OkN G bTuple (fun xs H Q => ∃ p ys, xs = [.ref p] ∧ ((SqL G.K H p ys ∧ ∀ l, H l = none → Q (.ref l) (upd H l (.tup ys))) ∨ (SqT G.K H p ys ∧ Q (.ref p) H))) := fun n0 g F r S H xs us z Q h q e k => by
  unfold bTuple at e
  split at e
  · obtain ⟨u, rfl, q1⟩ := one_of q
    split at e
    · rename_i ws ei
      cases e
      unfold itemsOf at ei
      split at ei
      · rename_i ws' ed
        cases ei
        obtain ⟨a, us, rfl, k1, k2⟩ := view_lst h q1 ed
        refine ⟨a, us, rfl, .inl ⟨.inl k1, fun l hl => ?_⟩⟩
        obtain ⟨F2, x2, h2, k3⟩ := new_tup h hl k2
        exact k F2 r _ _ x2 h2 k3
      · rename_i ws' ed
        cases ei
        rcases view h q1 ed with ⟨k1, _⟩ | ⟨a, ho, e1, e2, k1⟩
        · obtain ⟨a, us, rfl, k2, k3⟩ := id k1
          exact ⟨a, us, rfl, .inr ⟨h.sub.tp k2, k F r H _ (.refl F r) h k1⟩⟩
        · exact k1.elim
      · cases ei
    · cases e
  · cases e
theorem ok_list : OkN G bList (fun xs H Q => ∃ p ys, xs = [.ref p] ∧ (SqL G.K H p ys ∨ SqT G.K H p ys) ∧ ∀ l, H l = none → Q (.ref l) (upd H l (.lst ys))) := fun n0 g F r S H xs us z Q h q e k => by
  unfold bList at e
  split at e
  · obtain ⟨u, rfl, q1⟩ := one_of q
    split at e
    · rename_i ws ei
      cases e
      obtain ⟨a, us, rfl, k1, k2⟩ := view_seq h q1 ei
      refine ⟨a, us, rfl, k1, fun l hl => ?_⟩
      obtain ⟨h2, k3⟩ := new_obj h hl (v := .lst ws) ⟨us, rfl, k2⟩ rfl
      exact k F r _ _ (.refl F r) h2 k3
    · cases e
  · cases e
theorem ok_int : OkN G bInt (fun xs H Q => (∃ i, xs = [.int i] ∧ Q (.int i) H) ∨ ∃ k, xs = [.bl k] ∧ Q (.int (if k then 1 else 0)) H) := fun n0 g F r S H xs us z Q h q e k => by
  unfold bInt at e
  split at e
  · cases e
    obtain ⟨u, rfl, q1⟩ := one_of q
    cases (show u = V.int _ from q1)
    exact .inl ⟨_, rfl, k F r H _ (.refl F r) h rfl⟩
  · cases e
    obtain ⟨u, rfl, q1⟩ := one_of q
    cases (show u = V.bl _ from q1)
    exact .inr ⟨_, rfl, k F r H _ (.refl F r) h rfl⟩
  · cases e
theorem ok_abs : OkN G bAbs (fun xs H Q => ∃ i, xs = [.int i] ∧ Q (.int (if i < 0 then -i else i)) H) := fun n0 g F r S H xs us z Q h q e k => by
  unfold bAbs at e
  split at e
  · cases e
    obtain ⟨u, rfl, q1⟩ := one_of q
    cases (show u = V.int _ from q1)
    exact ⟨_, rfl, k F r H _ (.refl F r) h rfl⟩
  · cases e
theorem ok_max2 : OkN G bMax2 (fun xs H Q => ∃ i j, xs = [.int i, .int j] ∧ Q (.int (if j > i then j else i)) H) := fun n0 g F r S H xs us z Q h q e k => by
  unfold bMax2 at e
  split at e
  · cases e
    obtain ⟨u, y, rfl, q1, q2⟩ := two_of q
    cases (show u = V.int _ from q1)
    cases (show y = V.int _ from q2)
    exact ⟨_, _, rfl, k F r H _ (.refl F r) h rfl⟩
  · cases e
theorem ok_min2 : OkN G bMin2 (fun xs H Q => ∃ i j, xs = [.int i, .int j] ∧ Q (.int (if j < i then j else i)) H) := fun n0 g F r S H xs us z Q h q e k => by
  unfold bMin2 at e
  split at e
  · cases e
    obtain ⟨u, y, rfl, q1, q2⟩ := two_of q
    cases (show u = V.int _ from q1)
    cases (show y = V.int _ from q2)
    exact ⟨_, _, rfl, k F r H _ (.refl F r) h rfl⟩
  · cases e
theorem dpAll_ints {K : PySem.W.Frag} {H : Hp} : ∀ ns : List Int, DpAll K H (ns.map V.int) (ns.map PyData.int)
  | [] => .nil
  | n :: ns => .cons (.int n) (dpAll_ints ns)
theorem alike_ints (ns : List Int) : PySem.W.AlikeAll (ns.map PyData.int) := by
  refine ⟨fun x hx y hy => ?_, fun x hx => ?_⟩
  · obtain ⟨i, _, rfl⟩ := List.mem_map.mp hx
    obtain ⟨j, _, rfl⟩ := List.mem_map.mp hy
    rfl
  · obtain ⟨i, _, rfl⟩ := List.mem_map.mp hx
    intro z
    cases z
theorem depth_ints : ∀ ns : List Int, PyData.depthAll (ns.map PyData.int) = 0
  | [] => rfl
  | n :: ns => by
    show max 0 (PyData.depthAll (ns.map PyData.int)) = 0
    rw [depth_ints ns]
    rfl
def rMaxA (K : PySem.W.Frag) : List V → Hp → VK → Prop := fun vs H Q => ∃ (a : Addr) (n : Int) (ns : List Int), vs = [V.ref a] ∧ (SqL K H a ((n :: ns).map V.int) ∨ SqT K H a ((n :: ns).map V.int)) ∧ Q (.int (ns.foldl max n)) H
theorem int_reads {h : Heap} {v : Value} {i : Int} {bs : List Addr} (r : Reads h v (.int i) bs) : ∃ t, v = .int i t := by
  cases r
  exact ⟨_, rfl⟩
theorem cr_maxA (hc : X.calm = true) (hu : X.A.units + 64 < cLine) : CallR X (.builtin "max") (rMaxA X.K) := by
  intro pins s σ H vs us Q I r h
  obtain ⟨a, n, ns, rfl, hs, q⟩ := h
  rw [Vals.ref1 r]
  have hd : X.A.units + 1 + PyData.depthAll (PyData.int n :: ns.map PyData.int) < cLine := by
    have e := depth_ints (n :: ns)
    rw [List.map_cons] at e
    rw [e]
    omega
  rcases hs with hs | hs
  · obtain ⟨its, rv, hl, _⟩ := I.list hs
    obtain ⟨as, hr⟩ := Dp.readsAll I _ _ its (dpAll_ints (K := X.K) (H := H) (n :: ns)) rv
    refine PySem.W.max_list_data (I.ok.hd hc) hl.isList (x := .int n) (xs := ns.map .int) (as := as) (by simpa using hr) (alike_ints (n :: ns)) hd fun i v h' tk bs _ rd hk => ?_
    rw [PySem.W.maxD_ints] at rd
    obtain ⟨t, rfl⟩ := int_reads rd
    exact ⟨.int _, H, I.kept hk, ⟨_, rfl⟩, q⟩
  · obtain ⟨its, rv, hl, _⟩ := I.tuple hs
    obtain ⟨as, hr⟩ := Dp.readsAll I _ _ its (dpAll_ints (K := X.K) (H := H) (n :: ns)) rv
    refine PySem.W.max_tuple_data (I.ok.hd hc) (show s.heap.IsTuple a _ from hl) (x := .int n) (xs := ns.map .int) (as := as) (by simpa using hr) (alike_ints (n :: ns)) hd fun i v h' tk bs _ rd hk => ?_
    rw [PySem.W.maxD_ints] at rd
    obtain ⟨t, rfl⟩ := int_reads rd
    exact ⟨.int _, H, I.kept hk, ⟨_, rfl⟩, q⟩
theorem view_ints {n0 : Nat} {g : Gh} {F : Hp} {r : List Addr} {S : Store} {H : Hp} (h : HR G n0 g F r S H) {v : PV} {u : V} {ws : List PV} {ns : List Int} (q : RV G F r v u) (ei : itemsOf S v = some ws) (en : intsOf ws = some ns) :
    ∃ a, u = .ref a ∧ (SqL G.K H a (ns.map V.int) ∨ SqT G.K H a (ns.map V.int)) := by
  obtain ⟨a, us, rfl, k1, k2⟩ := view_seq h q ei
  rw [intsOf_eq en] at k2
  rw [RVs.ints k2] at k1
  exact ⟨a, rfl, k1⟩
theorem ok_maxL : OkN G bMaxL (rMaxA G.K) := fun n0 g F r S H xs us z Q h q e k => by
  unfold bMaxL at e
  split at e
  · obtain ⟨u, rfl, q1⟩ := one_of q
    split at e
    · rename_i ws ei
      split at e
      · rename_i n ns en
        cases e
        obtain ⟨a, rfl, k1⟩ := view_ints h q1 ei en
        exact ⟨a, n, ns, rfl, k1, k F r H _ (.refl F r) h rfl⟩
      · cases e
    · cases e
  · cases e
theorem ixP_eq (n : Nat) (i : Int) : ixP n i = ixN n i := rfl
theorem sIxP_eq (n d : Nat) : ∀ o : Option Int, sIxP n d o = HT.sIx n d o
  | none => rfl
  | some _ => rfl
theorem ok_ix : Ok2 G oIx (rIx G.K) := fun n0 g F r S H x y u v z Q h q1 q2 e k => by
  unfold oIx at e
  split at e
  · rename_i i
    split at e
    · rename_i xs ei
      split at e
      · rename_i j ej
        split at e
        · rename_i w ew
          cases e
          obtain ⟨a, us, rfl, k1, k2⟩ := view_seq h q1 ei
          obtain ⟨w', e1, q3⟩ := RVs.get k2 ew
          have ea : atI us i = some w' := by
            unfold atI
            rw [← RVs.length k2, ← ixP_eq, ej]
            exact e1
          have fin := k F r H w' (.refl F r) h q3
          cases (show v = V.int i from q2)
          rcases k1 with k1 | k1
          · exact .inl ⟨a, us, i, w', rfl, rfl, k1, ea, fin⟩
          · exact .inr (.inl ⟨a, us, i, w', rfl, rfl, k1, ea, fin⟩)
        · cases e
      · cases e
    · cases e
  · cases e
def PoO (G : Gam) (n0 : Nat) (g : Gh) (F : Hp) (r : List Addr) (env : Env) (σ : L2.St) (z : R (Option Int)) (T : Option Int → Hp → Prop) : Prop := match z with
  | .ok b S' => ∀ F' r' H', Ext F F' r r' → Sg G n0 g F' r' env σ S' H' → T b H'
  | _ => False
def rdO (G : Gam) (n0 : Nat) (f : SO) : TO := fun σ H T => ∃ F r env S g, Sg G n0 g F r env σ S H ∧ PoO G n0 g F r env σ (f env S) T
theorem poI {e : Option Expr} {t t' : TO} (h : PO X e t) (w : ∀ σ H Q, t' σ H Q → t σ H Q) : PO X e t' := ⟨fun pins s σ H Q I q => h.run pins s σ H Q I (w σ H Q q)⟩
theorem so_none {n0 : Nat} : PO X none (rdO G n0 pNo) := poI po_none fun σ H Q ⟨F, r, env, S, g, s, h⟩ => h F r H (.refl F r) s
theorem cnO {n0 : Nat} {g : Gh} {F : Hp} {r : List Addr} {env : Env} {σ : L2.St} {T : Option Int → Hp → Prop} : Cn fun z => PoO G n0 g F r env σ z T := ⟨fun h => h, fun _ _ _ h => h⟩
theorem so_some {n0 : Nat} {e : Expr} {fe : SE} (he : PE X e (rdE G n0 fe)) : PO X (some e) (rdO G n0 (pSo fe)) := by
  refine poI (po_some (toV he)) fun σ H T ⟨F, r, env, S, g, s, h⟩ => ?_
  refine stV s cnO h fun p S1 F1 r1 H1 u x1 s1 q1 h1 => ?_
  obtain ⟨b, v⟩ := p
  cases v with
  | int i => exact ⟨i, q1, h1 F1 r1 H1 x1 s1⟩
  | _ => exact False.elim h1
theorem stO {n0 : Nat} {g : Gh} {F : Hp} {r : List Addr} {env : Env} {σ : L2.St} {S : Store} {H : Hp} {f : SO} {T : Option Int → Hp → Prop} {α : Type} {kk : Option Int → Store → R α} {C : R α → Prop} (s : Sg G n0 g F r env σ S H) (cn : Cn C) (h : C ((f env S).bind kk))
    (step : ∀ p S' F' r' H', Ext F F' r r' → Sg G n0 g F' r' env σ S' H' → C (kk p S') → T p H') : rdO G n0 f σ H T := by
  refine ⟨F, r, env, S, g, s, ?_⟩
  cases e : f env S with
  | ok p S' => rw [e] at h; exact fun F' r' H' ex s' => step p S' F' r' H' ex s' h
  | ex c p S' => rw [e] at h; exact (cn.ex c p S' h).elim
  | no => rw [e] at h; exact (cn.no h).elim
theorem RVs.drop {F : Hp} {r : List Addr} : ∀ {vs : List PV} {us : List V} (n : Nat), RVs G F r vs us → RVs G F r (vs.drop n) (us.drop n)
  | _, _, 0, q => q
  | [], us, n + 1, q => by
    have e : us = [] := q
    subst e
    exact rfl
  | v :: vs, us, n + 1, q => by
    obtain ⟨u, ur, rfl, k, l⟩ := q
    exact RVs.drop n l
theorem RVs.take {F : Hp} {r : List Addr} : ∀ {vs : List PV} {us : List V} (n : Nat), RVs G F r vs us → RVs G F r (vs.take n) (us.take n)
  | _, _, 0, q => rfl
  | [], us, n + 1, q => by
    have e : us = [] := q
    subst e
    exact rfl
  | v :: vs, us, n + 1, q => by
    obtain ⟨u, ur, rfl, k, l⟩ := q
    exact ⟨u, ur.take n, rfl, k, RVs.take n l⟩
theorem RVs.cut {F : Hp} {r : List Addr} {vs : List PV} {us : List V} (lo hi : Option Int) (q : RVs G F r vs us) : RVs G F r (cutP vs lo hi) (cutV us lo hi) := by
  unfold cutP cutV
  rw [sIxP_eq, sIxP_eq, RVs.length q]
  exact (q.drop _).take _
def rSlG (K : PySem.W.Frag) : V → Option Int → Option Int → Hp → VK → Prop := fun x lo hi H Q => rSlL K x lo hi H Q ∨ rSlA K x lo hi H Q
theorem sl_any : SlR X (rSlG X.K) := sl_list.or sl_tupA
theorem se_sl {n0 : Nat} {a : Expr} {lo hi : Option Expr} {fa : SE} {fl fh : SO} {p2 pos : Pos} (hK : G.K = X.K) (ha : PE X a (rdE G n0 fa)) (hl : PO X lo (rdO G n0 fl)) (hh : PO X hi (rdO G n0 fh)) : PE X (.Subscript a (.Slice lo hi none p2) pos) (rdE G n0 (eSl fa fl fh)) := by
  refine peI (pe_slice sl_any (toV ha) hl hh) fun σ H Q ⟨F, r, env, S, g, s, h⟩ => ?_
  refine stV s cnE h fun p S1 F1 r1 H1 u x1 s1 q1 h1 => ?_
  refine stO s1 cnE h1 fun l S2 F2 r2 H2 x2 s2 h2 => ?_
  refine stO s2 cnE h2 fun m S3 F3 r3 H3 x3 s3 h3 => ?_
  have q3 := q1.ext (x2.trans x3)
  have xx := (x1.trans x2).trans x3
  rw [← hK]
  unfold slP at h3
  split at h3
  · rename_i xs ed
    obtain ⟨a', us, rfl, k1, k2⟩ := view_lst s3.hr q3 ed
    refine .inl ⟨a', us, rfl, .inl k1, fun p' hp => ?_⟩
    obtain ⟨h4, k4⟩ := new_obj s3.hr hp (v := .lst (cutP xs l m)) ⟨_, rfl, k2.cut l m⟩ rfl
    exact h3 F3 r3 _ _ xx (s3.ext (.refl _ _) h4) k4
  · rename_i xs ed
    rcases view s3.hr q3 ed with ⟨k1, _⟩ | ⟨a, ho, e1, e2, k1⟩
    · obtain ⟨a', us, rfl, k2, k3⟩ := id k1
      refine .inr ⟨a', us, rfl, s3.hr.sub.tp k2, fun hw => ?_, fun hw p' hp => ?_⟩
      · have e : cutP xs l m = xs := by
          unfold cutP
          rw [sIxP_eq, sIxP_eq, RVs.length k3, hw.1, hw.2, List.drop_zero, ← RVs.length k3]
          simp
        rw [e] at h3
        exact h3 F3 r3 H3 _ xx s3 k1
      · obtain ⟨F4, x4, h4, k4⟩ := new_tup s3.hr hp (k3.cut l m)
        exact h3 F4 r3 _ _ (xx.trans x4) (s3.ext x4 h4) k4
    · exact k1.elim
  · exact False.elim h3
end
end PX
set_option Elab.async false
set_option linter.all false
set_option maxRecDepth 100000
namespace PX
open PySem PySem.Spec PyProof.Rows L2
def mayPutL (n0 i : Nat) : List PV → Bool
  | [] => true
  | v :: vs => mayPut n0 i v && mayPutL n0 i vs
def isL (S : Store) (v : PV) : Bool := match deref S v with
  | some (.lst _) => true
  | _ => false
def appL (n0 : Nat) (o v : PV) (S : Store) : Option Store := match o with
  | .ref i => match S[i]? with
    | some (.lst xs) => if mayPut n0 i v && small xs.length then some (S.set i (.lst (xs ++ [v]))) else none
    | _ => none
  | _ => none
def extL (n0 : Nat) (o v : PV) (S : Store) : Option Store := match o with
  | .ref i => match S[i]? with
    | some (.lst xs) => match lstOf S v with
      | some ys => if mayPutL n0 i ys && small (xs.length + ys.length) then some (S.set i (.lst (xs ++ ys))) else none
      | none => none
    | _ => none
  | _ => none
def eLm (f : PV → PV → Store → Option Store) (o a : SE) : SE := fun env S => (o env S).bind fun p S1 => if isL S1 p.2 then (a env S1).bind fun q S2 => match f p.2 q.2 S2 with
    | some S3 => .ok (false, .non) S3
    | none => .no
  else .no
def setL (n0 : Nat) (o k v : PV) (S : Store) : Option Store := match o with
  | .ref i => match S[i]? with
    | some (.lst xs) => match k with
      | .int j => match ixP xs.length j with
        | some m => if mayPut n0 i v then some (S.set i (.lst (xs.set m v))) else none
        | none => none
      | _ => none
    | _ => none
  | _ => none
def sSetI (f : PV → PV → PV → Store → Option Store) (o k e : SE) : SS := fun env S => (e env S).go fun p S1 => (o env S1).go fun q S2 => (k env S2).go fun z S3 => match f q.2 z.2 p.2 S3 with
  | some S4 => .nx env S4
  | none => .no
section
variable {X : Cx} {G : Gam}
def rCatR (K : PySem.W.Frag) : R2 := fun x y H Q => (∃ l b xs zs, x = .ref l ∧ y = .ref b ∧ Rd H l (.lst xs) ∧ Rd H b (.lst zs) ∧ xs.length + zs.length ≤ sizeLine ∧ ∀ p, H p = none → Q (.ref p) (upd H p (.lst (xs ++ zs)))) ∨ rCatA K x y H Q ∨ rI0 (fun i j => .int (i + j)) x y H Q
theorem op_catR : OpR X (binaryOp .Add) (rCatR X.K) := by
  intro pins s σ H x y v u Q I rx ry h
  rcases h with h | h | h
  · obtain ⟨l, b, xs, zs, rfl, rfl, hH, hB, hz, q⟩ := h
    cases rx
    cases ry
    obtain ⟨z, its, n, r, e⟩ := hH.ok I.hok
    obtain ⟨z2, its2, n2, r2, e2⟩ := hB.ok I.hok
    have hl := r.length
    have hl2 := r2.length
    refine PySem.P.add_list e e2 ?_ (by rw [List.size_toArray, List.size_toArray]; omega)
    have ea : its.toArray ++ its2.toArray = (its ++ its2).toArray := by simp
    rw [ea]
    exact ⟨.ref _, _, I.lnew (t' := s.toks) (r.append r2) (by rw [List.length_append]; omega), rfl, q _ I.fresh⟩
  · exact op_catA pins s σ H x y v u Q I rx ry h
  · exact op_add pins s σ H x y v u Q I rx ry h
theorem ok_cat : Ok2 G oCat (rCatR G.K) := fun n0 g F r S H x y u v z Q h q1 q2 e k => by
  unfold oCat at e
  split at e
  · rename_i xs ex
    split at e
    · rename_i ys ey
      split at e
      · rename_i hz
        cases e
        obtain ⟨a, us, rfl, k1, k2⟩ := view_lst h q1 ex
        obtain ⟨b, vs, rfl, l1, l2⟩ := view_lst h q2 ey
        refine .inl ⟨a, b, us, vs, rfl, rfl, k1, l1, by rw [← RVs.length k2, ← RVs.length l2]; exact small_le hz, fun p hp => ?_⟩
        obtain ⟨h2, k3⟩ := new_obj h hp (v := .lst (xs ++ ys)) ⟨_, rfl, k2.append l2⟩ rfl
        exact k F r _ _ (.refl F r) h2 k3
      · cases e
    · cases e
  · rename_i xs ex
    split at e
    · rename_i ys ey
      split at e
      · rename_i hz
        cases e
        rcases view h q1 ex with ⟨k0, _⟩ | ⟨_, _, _, _, k0⟩
        · rcases view h q2 ey with ⟨l0, _⟩ | ⟨_, _, _, _, l0⟩
          · obtain ⟨a, us, rfl, k1, k2⟩ := id k0
            obtain ⟨b, vs, rfl, l1, l2⟩ := id l0
            refine .inr (.inl ⟨a, b, us, vs, rfl, rfl, h.sub.tp k1, h.sub.tp l1, by rw [← RVs.length k2, ← RVs.length l2]; exact small_le hz, fun hx => ?_, fun hx hy => ?_, fun hx hy p hp => ?_⟩)
            · have e1 : xs = [] := List.eq_nil_of_length_eq_zero (by rw [RVs.length k2, hx]; rfl)
              refine k F r H _ (.refl F r) h ?_
              show RV G F r (.tup (xs ++ ys)) _
              rw [e1]
              exact l0
            · have e1 : ys = [] := List.eq_nil_of_length_eq_zero (by rw [RVs.length l2, hy]; rfl)
              refine k F r H _ (.refl F r) h ?_
              show RV G F r (.tup (xs ++ ys)) _
              rw [e1, List.append_nil]
              exact k0
            · obtain ⟨F4, x4, h4, k4⟩ := new_tup h hp (k2.append l2)
              exact k F4 r _ _ x4 h4 k4
          · exact l0.elim
        · exact k0.elim
      · cases e
    · cases e
  · rename_i i ex
    split at e
    · cases e
      exact .inr (.inr ⟨_, _, view_int h q1 ex, q2, k F r H _ (.refl F r) h rfl⟩)
    · cases e
  · cases e
def rRepR : R2 := fun x y H Q => (∃ l k xs, x = .ref l ∧ y = .int k ∧ Rd H l (.lst xs) ∧ -1000 ≤ k ∧ k ≤ 1000 ∧ xs.length ≤ 1000 ∧ ∀ p, H p = none → Q (.ref p) (upd H p (.lst (List.replicate k.toNat xs).flatten))) ∨ rI CMul (fun i j => .int (i * j)) x y H Q
theorem op_repR : OpR X (binaryOp .Mult) rRepR := by
  intro pins s σ H x y v u Q I rx ry h
  rcases h with h | h
  · obtain ⟨l, k, xs, rfl, rfl, hH, h1, h2, hx, q⟩ := h
    cases rx
    obtain ⟨t, rfl⟩ := ry
    obtain ⟨z, its, n, r, e⟩ := hH.ok I.hok
    have hl := r.length
    have hm : its.length * k.toNat ≤ 1000 * 1000 := Nat.mul_le_mul (by omega) (by omega)
    have hs : (1000 * 1000 : Nat) ≤ sizeLine := by rw [sizeLine_eq]; decide
    have hlen : its.toArray.size * k.toNat ≤ sizeLine := by rw [List.size_toArray]; exact Nat.le_trans hm hs
    have hcap : ¬ its.toArray.size * k.toNat > (2 ^ 63 - 1) / 8 := by
      have : (sizeLine : Nat) ≤ (2 ^ 63 - 1) / 8 := by decide
      omega
    have hfit : ¬ (!Builtin.List.listFitsIndex k) = true := by
      rw [fitsIndex_both (by omega) (by omega)]
      exact Bool.false_ne_true
    have hlong : ¬ Builtin.List.listTooLong (its.toArray.size * k.toNat) = true := by
      rw [notLongL hlen]
      exact Bool.false_ne_true
    have hnew : List.foldl (fun x1 x2 => x1 ++ x2) #[] (List.replicate (if its.toArray.isEmpty = true then 0 else k.toNat) its.toArray) = (List.replicate k.toNat its).flatten.toArray := by
      have f0 : ∀ m : Nat, List.foldl (fun x1 x2 => x1 ++ x2) #[] (List.replicate m its.toArray) = (List.replicate m its).flatten.toArray := fun m => by
        have := foldl_rep its m []
        rw [List.nil_append] at this
        exact this
      rw [f0]
      cases its with
      | nil => simp
      | cons a r' => rw [if_neg (by simp)]
    refine wpAny_binaryOp_repeat_ref (T := "list") (U := "int") (by decide) ⟨_, e, rfl⟩ (fun s' => typeIs_int s' k t) noFill_list_mul F.fills_int_mul F.slot_int_rmul repeat_list F.slot_int_index.lookup
      (call_meets F.slot_int_rmul (typeIs_int s k t) F.entry_int_rmul (F.args_int_rmul_2 _ _) (int___rmul___int_list k t l its.toArray n)
        ⟨e, rfl, ⟨_, e, rfl⟩, call_meets F.slot_list_mul ⟨_, e, rfl⟩ F.entry_list_mul (F.args_list_mul_2 _ _) (AutoListH.list___mul___list_int_3 l its.toArray n k t hfit hcap hlong) ⟨e, ?_⟩⟩)
    rw [hnew]
    exact ⟨.ref _, _, I.lnew (t' := s.toks) (r.rep k.toNat) (by rw [PyProof.Rows.lm_len_rep_flat, Nat.mul_comm, hl]; omega), rfl, q _ I.fresh⟩
  · exact op_mul pins s σ H x y v u Q I rx ry h
theorem RVs.rep {F : Hp} {r : List Addr} {vs : List PV} {us : List V} (q : RVs G F r vs us) : ∀ n : Nat, RVs G F r (List.replicate n vs).flatten (List.replicate n us).flatten
  | 0 => rfl
  | n + 1 => by
    rw [List.replicate_succ, List.replicate_succ, List.flatten_cons, List.flatten_cons]
    exact q.append (RVs.rep q n)
theorem ok_rep : Ok2 G oRep rRepR := fun n0 g F r S H x y u v z Q h q1 q2 e k => by
  unfold oRep at e
  split at e
  · rename_i m
    split at e
    · rename_i xs ex
      split at e
      · rename_i hz
        cases e
        simp only [Bool.and_eq_true, decide_eq_true_eq] at hz
        obtain ⟨a, us, rfl, k1, k2⟩ := view_lst h q1 ex
        refine .inl ⟨a, m, us, rfl, q2, k1, hz.1.1, hz.1.2, by rw [← RVs.length k2]; exact Nat.le_of_ble_eq_true hz.2, fun p hp => ?_⟩
        obtain ⟨h2, k3⟩ := new_obj h hp (v := .lst (List.replicate m.toNat xs).flatten) ⟨_, rfl, k2.rep _⟩ rfl
        exact k F r _ _ (.refl F r) h2 k3
      · cases e
    · rename_i i ex
      split at e
      · rename_i hm
        cases e
        refine .inr ⟨_, _, view_int h q1 ex, q2, ?_, k F r H _ (.refl F r) h rfl⟩
        unfold mulOk at hm
        simp only [Bool.or_eq_true, Bool.and_eq_true, decide_eq_true_eq] at hm
        unfold CMul
        omega
      · cases e
    · cases e
  · cases e
theorem noref_rv {F : Hp} {r r' : List Addr} : (∀ (v : PV) (u : V), noref v = true → RV G F r v u → RV G F r' v u) := by
  have key : ∀ (n : Nat) (v : PV), sizeOf v ≤ n → ∀ u, noref v = true → RV G F r v u → RV G F r' v u := by
    intro n
    induction n with
    | zero =>
      intro v hv
      cases v <;> simp at hv
    | succ n ih =>
      intro v hv u hn q
      have all : ∀ (vs : List PV), sizeOf vs ≤ n → ∀ us, noref.norefL vs = true → RVs G F r vs us → RVs G F r' vs us := by
        intro vs
        induction vs with
        | nil => intro _ us _ q; exact q
        | cons w ws ihw =>
          intro hs us hn q
          obtain ⟨u, ur, rfl, k, l⟩ := q
          simp only [noref.norefL, Bool.and_eq_true] at hn
          simp only [List.cons.sizeOf_spec] at hs
          exact ⟨u, ur, rfl, ih w (by omega) u hn.1 k, ihw (by omega) ur hn.2 l⟩
      cases v with
      | non => exact q
      | bl => exact q
      | int => exact q
      | str => exact q
      | ref i => exact absurd hn (by simp [noref])
      | lck => exact q.elim
      | tup xs =>
        obtain ⟨a, us, e, k1, k2⟩ := q
        simp only [PV.tup.sizeOf_spec] at hv
        exact ⟨a, us, e, k1, all xs (by omega) us hn k2⟩
      | lst xs =>
        obtain ⟨a, us, e, k1, k2⟩ := q
        simp only [PV.lst.sizeOf_spec] at hv
        exact ⟨a, us, e, k1, all xs (by omega) us hn k2⟩
      | dct ks vs =>
        obtain ⟨a, us, ho, e, k1, d, k2⟩ := q
        simp only [PV.dct.sizeOf_spec] at hv
        exact ⟨a, us, ho, e, k1, d, all vs (by omega) us hn k2⟩
      | ins c ns vs =>
        obtain ⟨a, dx, us, e, k1, d, k2⟩ := q
        simp only [PV.ins.sizeOf_spec] at hv
        exact ⟨a, dx, us, e, k1, d, all vs (by omega) us hn k2⟩
  exact fun v u => key (sizeOf v) v (Nat.le_refl _) u
theorem put_rv {n0 i : Nat} {L : Nat → Nat} {F : Hp} {r : List Addr} {v : PV} {u : V} (h : mayPut n0 i v = true) (q : RV G F r v u) : RV G F (lim n0 L r i) v u := by
  unfold mayPut at h
  rw [Bool.or_eq_true] at h
  rcases h with h | h
  · unfold lim
    rw [if_neg (by have := Nat.le_of_ble_eq_true h; omega)]
    exact q
  · exact noref_rv v u h q
theorem put_rvs {n0 i : Nat} {L : Nat → Nat} {F : Hp} {r : List Addr} : ∀ {vs : List PV} {us : List V}, mayPutL n0 i vs = true → RVs G F r vs us → RVs G F (lim n0 L r i) vs us
  | [], _, _, q => q
  | v :: vs, us, h, q => by
    obtain ⟨u, ur, rfl, k, l⟩ := q
    simp only [mayPutL, Bool.and_eq_true] at h
    exact ⟨u, ur, rfl, put_rv h.1 k, put_rvs h.2 l⟩
theorem HR.put {n0 : Nat} {g : Gh} {F : Hp} {r : List Addr} {S : Store} {H : Hp} {i : Nat} {a : Addr} {ob ob' : PV} {ho' : HO} (h : HR G n0 g F r S H) (e1 : r[i]? = some a) (e2 : S[i]? = some ob) (hu : unl ob = ob) (hu' : unl ob' = ob')
    (ro : RO G F (lim n0 g.L r i) ob' ho') : HR G n0 g F r (S.set i ob') (upd H a ho') := by
  have hp := h.nopin e1 e2 hu
  have hi : i < S.length := (List.getElem?_eq_some_iff.mp e2).1
  have hF := h.off a (List.mem_of_getElem? e1)
  have ne_of_pin : ∀ b o, g.pn b = some o → b ≠ a := fun b o e z => by rw [z, hp] at e; cases e
  have lck_ne : ∀ w : PV, PV.lck w ≠ ob' := fun w z => by
    rw [← z] at hu'
    have e4 : w = .lck w := hu'
    exact absurd e4 (by intro z; have := congrArg sizeOf z; simp at this)
  refine ⟨fun b o e => ?_, h.nd, h.off, by rw [List.length_set]; exact h.len, by rw [List.length_set]; exact h.nle, h.lle, fun j oj b e3 e4 => ?_, fun b o e => ?_, fun j oj b e3 e4 => ?_, h.out⟩
  · rw [upd_ne (fun z => by rw [z, hF] at e; cases e)]
    exact h.sub b o e
  · by_cases hj : j = i
    · subst hj
      rw [List.getElem?_set_self hi] at e3
      cases e3
      rw [e1] at e4
      cases e4
      exact ⟨ho', .mk upd_same (isLk_unl hu'), ro⟩
    · rw [List.getElem?_set_ne (Ne.symm hj)] at e3
      obtain ⟨ho, q1, q2⟩ := h.obj j oj b e3 e4
      refine ⟨ho, q1.upd (fun z => ?_), q2⟩
      · rw [z] at e4
        obtain ⟨h2, e2'⟩ := List.getElem?_eq_some_iff.mp e1
        obtain ⟨h3, e3'⟩ := List.getElem?_eq_some_iff.mp e4
        exact hj ((List.getElem_inj h.nd).mp (e3'.trans e2'.symm))
  · obtain ⟨q1, q2, q3⟩ := h.pin b o e
    refine ⟨by rw [upd_ne (ne_of_pin b o e)]; exact q1, q2, fun j hj => ?_⟩
    obtain ⟨w, hw⟩ := q3 j hj
    refine ⟨w, ?_⟩
    rw [List.getElem?_set_ne (fun z => ?_)]
    · exact hw
    · subst z
      rw [e1] at hj
      cases hj
      exact ne_of_pin _ o e rfl
  · by_cases hj : j = i
    · subst hj
      rw [List.getElem?_set_self hi] at e3
      exact absurd (Option.some.inj e3).symm (lck_ne oj)
    · rw [List.getElem?_set_ne (Ne.symm hj)] at e3
      exact h.lckd j oj b e3 e4
theorem store_lst {n0 : Nat} {g : Gh} {F : Hp} {r : List Addr} {S : Store} {H : Hp} {i : Nat} {u : V} {xs : List PV} (h : HR G n0 g F r S H) (q : RV G F r (.ref i) u) (e : S[i]? = some (.lst xs)) :
    ∃ a us, u = .ref a ∧ r[i]? = some a ∧ H a = some (.lst us) ∧ RVs G F (lim n0 g.L r i) xs us := by
  obtain ⟨a, e1, rfl⟩ := q
  obtain ⟨ho, h1, h2⟩ := h.obj i _ a e e1
  obtain ⟨us, rfl, k⟩ := h2
  exact ⟨a, us, rfl, e1, h1.nl rfl, k⟩
theorem small_lt {n : Nat} (h : small n = true) : n < sizeLine := by
  have : n ≤ 1000000 := Nat.le_of_ble_eq_true h
  exact Nat.lt_of_le_of_lt this (by rw [sizeLine_eq]; decide)
def Chg (G : Gam) (n0 : Nat) (f : PV → PV → Store → Option Store) (t : V → List V → Hp → VK → Prop) : Prop := ∀ g F r S H o v u w S' Q, HR G n0 g F r S H → RV G F r o u → RV G F r v w → f o v S = some S' →
  (∀ H', HR G n0 g F r S' H' → Q .non H') → t u [w] H Q
theorem chg_app {n0 : Nat} : Chg G n0 (appL n0) rAppend := fun g F r S H o v u w S' Q h q1 q2 e k => by
  unfold appL at e
  split at e
  · split at e
    · rename_i i xs es
      split at e
      · rename_i hm
        cases e
        rw [Bool.and_eq_true] at hm
        obtain ⟨a, us, rfl, e1, e2, k2⟩ := store_lst h q1 es
        refine ⟨a, us, w, rfl, rfl, e2, by rw [← RVs.length k2]; exact small_lt hm.2, k _ (h.put e1 es rfl rfl ⟨_, rfl, k2.append ⟨w, [], rfl, put_rv hm.1 q2, rfl⟩⟩)⟩
      · cases e
    · cases e
  · cases e
def rExtR : V → List V → Hp → VK → Prop := fun x vs H Q => ∃ l b xs zs, x = .ref l ∧ vs = [.ref b] ∧ H l = some (.lst xs) ∧ Rd H b (.lst zs) ∧ xs.length + zs.length ≤ sizeLine ∧ Q .non (upd H l (.lst (xs ++ zs)))
theorem mt_extR : MtM X "list.extend" rExtR := by
  intro pins s σ H x vs v us Q I rx rv h
  obtain ⟨l, b, xs, zs, rfl, rfl, hH, hB, hz, q⟩ := h
  cases rx
  obtain ⟨u, rfl, ru⟩ := rv.one
  cases ru
  obtain ⟨z, its, n, r, hl, e⟩ := I.lstM hH
  obtain ⟨z2, its2, n2, r2, e2⟩ := hB.ok I.hok
  have hl2 := r2.length
  have hsz : its.toArray.size + its2.toArray.size ≤ sizeLine := by rw [List.size_toArray, List.size_toArray]; omega
  have hlong : ¬ (!its.toArray.isEmpty && Builtin.List.listTooLong (its.toArray.size + its2.toArray.size)) = true := by
    rw [notLongL hsz, Bool.and_false]
    exact Bool.false_ne_true
  refine call_meets F.slot_list_extend ⟨_, e, rfl⟩ F.entry_list_extend (F.args_list_extend_2 _ _)
    (AutoSeq1.list_extend_list_list_0 l its.toArray n b its2.toArray n2 hlong (by rw [List.size_toArray]; omega) (by omega)) ⟨e, e2, ?_⟩
  refine ⟨.non, _, I.lset (its' := its ++ its2) hH e (by simp) (r.append r2) ?_, rfl, q⟩
  rw [List.length_append]
  omega
theorem chg_ext {n0 : Nat} : Chg G n0 (extL n0) rExtR := fun g F r S H o v u w S' Q h q1 q2 e k => by
  unfold extL at e
  split at e
  · split at e
    · rename_i i xs es
      split at e
      · rename_i ys ey
        split at e
        · rename_i hm
          cases e
          rw [Bool.and_eq_true] at hm
          obtain ⟨a, us, rfl, e1, e2, k2⟩ := store_lst h q1 es
          obtain ⟨b, zs, rfl, l1, l2⟩ := view_lstOf h q2 ey
          exact ⟨a, b, us, zs, rfl, rfl, e2, l1, by rw [← RVs.length k2, ← RVs.length l2]; exact small_le hm.2, k _ (h.put e1 es rfl rfl ⟨_, rfl, k2.append (put_rvs hm.1 l2)⟩)⟩
        · cases e
      · cases e
    · cases e
  · cases e
theorem se_lm {n0 : Nat} {ex : Expr} {fo fa : SE} {f : PV → PV → Store → Option Store} {t : V → List V → Hp → VK → Prop} (hK : G.K = X.K) (ho : Chg G n0 f t) (hp : PE X ex (tBM X.K "list" t (rdV G n0 fo) (tCons (rdV G n0 fa) tNil))) : PE X ex (rdE G n0 (eLm f fo fa)) := by
  refine peI hp fun σ H Q ⟨F, r, env, S, g, s, h⟩ => ?_
  refine stV s cnE h fun p S1 F1 r1 H1 u x1 s1 q1 h1 => ?_
  split at h1
  · rename_i hl
    unfold isL at hl
    split at hl
    · rename_i xs ed
      obtain ⟨a, us, rfl, k1, k2⟩ := view_lst s1.hr q1 ed
      refine ⟨.inl ⟨rfl, us, .inl k1⟩, ?_⟩
      refine stV s1 cnE h1 fun q S2 F2 r2 H2 w x2 s2 q2 h2 => ?_
      cases ef : f p.2 q.2 S2 with
      | none => rw [ef] at h2; exact h2.elim
      | some S3 =>
        rw [ef] at h2
        exact ho g F2 r2 S2 H2 p.2 q.2 _ w S3 Q s2.hr (q1.ext x2) q2 ef fun H' hr => h2 F2 r2 H' .non (x1.trans x2) (s2.ext (.refl _ _) hr) rfl
    · cases hl
  · exact h1.elim
def ChgI (G : Gam) (n0 : Nat) (f : PV → PV → PV → Store → Option Store) (t : TSet) : Prop := ∀ g F r S H o k v u y w S' Q, HR G n0 g F r S H → RV G F r o u → RV G F r k y → RV G F r v w → f o k v S = some S' →
  (∀ H', HR G n0 g F r S' H' → Q H') → t u y w H Q
theorem chg_setL {n0 : Nat} : ChgI G n0 (setL n0) rSetL := fun g F r S H o k v u y w S' Q h q1 q2 q3 e kk => by
  unfold setL at e
  split at e
  · rename_i i
    split at e
    · rename_i xs es
      split at e
      · rename_i j
        split at e
        · rename_i m em
          split at e
          · rename_i hm
            cases e
            obtain ⟨a, us, rfl, e1, e2, k2⟩ := store_lst h q1 es
            refine ⟨a, us, j, m, rfl, q2, e2, by rw [← RVs.length k2, ← ixP_eq]; exact em, kk _ (h.put e1 es rfl rfl ⟨_, rfl, RVs.set (put_rv hm q3) m k2⟩)⟩
          · cases e
        · cases e
      · cases e
    · cases e
  · cases e
theorem ss_setI {n0 : Nat} {st : Stmt} {fo fk fe : SE} {f : PV → PV → PV → Store → Option Store} {t : TSet} (ho : ChgI G n0 f t) (hp : PS X st (tAsg (rdV G n0 fe) (gSub (rdV G n0 fo) (rdV G n0 fk) t))) : PS X st (rdS G n0 (sSetI f fo fk fe)) := by
  refine psI hp fun D σ H ⟨F, r, env, S, g, s, h⟩ => ?_
  refine sgV s h fun p S1 F1 r1 H1 w x1 s1 q1 h1 => ?_
  have h1 := PoS.ext h1 x1
  refine sgV s1 h1 fun q S2 F2 r2 H2 u x2 s2 q2 h2 => ?_
  have h2 := PoS.ext h2 x2
  refine sgV s2 h2 fun z S3 F3 r3 H3 y x3 s3 q3 h3 => ?_
  cases ef : f q.2 z.2 p.2 S3 with
  | none => rw [ef] at h3; exact False.elim h3
  | some S4 =>
    rw [ef] at h3
    exact ho g F3 r3 S3 H3 q.2 z.2 p.2 u y w S4 _ s3.hr (q2.ext x3) q3 (q1.ext (x2.trans x3)) ef fun H' hr => h3 F3 r3 H' σ x3 (s3.ext (.refl _ _) hr)
end
end PX
set_option Elab.async false
set_option linter.all false
set_option maxRecDepth 100000
namespace PX
open PySem PySem.Spec PyProof.Rows L2
structure Tb (X : Cx) (G : Gam) (cf : CF) (k : Nat) : Prop where
  hK : G.K = X.K
  call : ∀ f np, FnR X.prog X.w X.K X.mg X.base L2.CX0 k (G.fa f) (spF G cf f np)
  room : Room (k + 1) X.A
  calm : X.calm = true
def Inj (G : Gam) (f : Nat) : Prop := ∀ j, G.nm j = G.nm f → j = f
structure ClsI (G : Gam) (c : Nat) : Prop where
  cls : Cls G.K (G.ca c)
  isi : SlX.SIsi G.K (G.ca c)
section
variable {G : Gam} {F : Hp} {r : List Addr}
theorem fld_look {f : Nat} (hi : Inj G f) : ∀ {ns : List Nat} {vs : List PV} {us : List V} {w : PV}, ns.length = us.length → RVs G F r vs us → (ns.zip vs).lookup f = some w → ∃ y, ((ns.map G.nm).zip us).lookup (G.nm f) = some y ∧ RV G F r w y
  | [], _, _, _, _, _, e => by cases e
  | n :: ns, [], us, w, _, _, e => by cases e
  | n :: ns, v :: vs, us, w, hl, q, e => by
    obtain ⟨u, ur, rfl, k, l⟩ := q
    rw [List.zip_cons_cons, List.lookup_cons] at e
    rw [List.map_cons, List.zip_cons_cons, List.lookup_cons]
    cases hb : f == n with
    | true =>
      rw [hb] at e
      cases e
      rw [beq_iff_eq.mp hb, beq_self_eq_true]
      exact ⟨u, rfl, k⟩
    | false =>
      rw [hb] at e
      have : (G.nm f == G.nm n) = false := by
        rw [beq_eq_false_iff_ne]
        intro z
        have := hi n z.symm
        rw [this, beq_self_eq_true] at hb
        cases hb
      rw [this]
      exact fld_look hi (by simpa using hl) l e
theorem fld_none {m : Nat} (hi : Inj G m) : ∀ {ns : List Nat} {us : List V}, ns.contains m = false → ((ns.map G.nm).zip us).lookup (G.nm m) = none
  | [], _, _ => rfl
  | n :: ns, [], _ => rfl
  | n :: ns, u :: us, h => by
    rw [List.contains_cons, Bool.or_eq_false_iff] at h
    rw [List.map_cons, List.zip_cons_cons, List.lookup_cons]
    have : (G.nm m == G.nm n) = false := by
      rw [beq_eq_false_iff_ne]
      intro z
      have := hi n z.symm
      rw [this, beq_self_eq_true] at h
      cases h.1
    rw [this]
    exact fld_none hi h.2
theorem fld_put {f : Nat} (hi : Inj G f) {v : PV} {y : V} (q : RV G F r v y) : ∀ {ns : List Nat} {vs : List PV} {us : List V}, ns.length = us.length → RVs G F r vs us →
    ∃ us', putF (G.nm f) y ((ns.map G.nm).zip us) = (((putFld f v ns vs).1).map G.nm).zip us' ∧ (putFld f v ns vs).1.length = us'.length ∧ RVs G F r (putFld f v ns vs).2 us' ∧ (putFld f v ns vs).1.length ≤ ns.length + 1
  | [], vs, us, hl, k => by
    cases us with
    | cons => cases hl
    | nil =>
      cases vs with
      | cons => obtain ⟨_, _, z, _⟩ := k; cases z
      | nil => exact ⟨[y], rfl, rfl, ⟨y, [], rfl, q, rfl⟩, Nat.le_refl _⟩
  | n :: ns, vs, us, hl, k => by
    cases us with
    | nil => cases hl
    | cons u us =>
      cases vs with
      | nil => cases (show (u :: us) = [] from k)
      | cons w ws =>
        obtain ⟨u', ur, e, k1, l⟩ := k
        cases e
        unfold putFld
        rw [List.map_cons, List.zip_cons_cons]
        unfold putF
        by_cases hn : n = f
        · subst hn
          rw [if_pos rfl, if_pos rfl]
          exact ⟨y :: us, rfl, by simpa using hl, ⟨y, us, rfl, q, l⟩, Nat.le_succ _⟩
        · rw [if_neg hn, if_neg (fun z => hn (hi n z))]
          obtain ⟨us', e1, e2, e3, e4⟩ := fld_put hi q (by simpa using hl) l
          refine ⟨u :: us', ?_, ?_, ⟨u, us', rfl, k1, e3⟩, ?_⟩
          · rw [e1]; rfl
          · show _ + 1 = _ + 1
            rw [e2]
          · show _ + 1 ≤ _ + 1
            exact Nat.succ_le_succ e4
end
section
variable {X : Cx} {G : Gam} {n0 : Nat} {cf : CF} {k : Nat}
theorem se_fld {cs : List Nat} {f : Nat} {e : Expr} {fe : SE} {pos : Pos} (hK : G.K = X.K) (hi : Inj G f) (hc : ∀ c ∈ cs, Cls G.K (G.ca c) ∧ NoAttr G.K (G.ca c) (G.nm f)) (he : PE X e (rdE G n0 fe)) (hb : attributeBase e (G.nm f) X.env (eval e X.env) = eval e X.env := by rfl) :
    PE X (.Attribute e (G.nm f) pos) (rdE G n0 (eFld cs f fe)) := by
  refine peI (pe_fld (toV he) hb) fun σ H Q ⟨F, r, env, S, g, s, h⟩ => ?_
  refine stV s cnE h fun p S1 F1 r1 H1 u x1 s1 q1 h1 => ?_
  unfold fldOf at h1
  simp only at h1
  cases ed : deref S1 p.2 with
  | none => rw [ed] at h1; exact h1.elim
  | some o =>
    rw [ed] at h1
    cases o with
    | ins c ns vs =>
      simp only at h1
      cases hcs : cs.contains c with
      | false => rw [hcs] at h1; exact h1.elim
      | true =>
        rw [hcs, if_pos rfl] at h1
        cases el : (ns.zip vs).lookup f with
        | none => rw [el] at h1; exact h1.elim
        | some w =>
          rw [el] at h1
          obtain ⟨a, dx, us, rfl, k1, k2, k3⟩ := view_ins s1.hr q1 ed
          obtain ⟨y, e1, q2⟩ := fld_look hi k2 k3 el
          obtain ⟨h2, h3⟩ := hc c (by simpa using hcs)
          rw [← hK]
          exact ⟨a, G.ca c, dx, _, y, rfl, k1, h2, h3, e1, h1 F1 r1 H1 y x1 s1 q2⟩
    | _ => exact h1.elim
theorem ss_fld {cs : List Nat} {f : Nat} {o e : Expr} {fo fe : SE} {pos pos' : Pos} (hK : G.K = X.K) (hi : Inj G f) (hc : ∀ c ∈ cs, Cls G.K (G.ca c) ∧ NoAttr G.K (G.ca c) (G.nm f)) (ho : PE X o (rdE G n0 fo)) (he : PE X e (rdE G n0 fe))
    (hs : swapsWith e (some (.Attribute o (G.nm f) pos')) pos.line X.env = pure false := by rfl) : PS X (.Assign [.Attribute o (G.nm f) pos'] e pos) (rdS G n0 (sFld n0 cs f fo fe)) := by
  refine psI (ps_fld (toV ho) (toV he) hs) fun D σ H ⟨F, r, env, S, g, s, h⟩ => ?_
  refine sgV s h fun p S1 F1 r1 H1 y x1 s1 q1 h1 => ?_
  have h1 := PoS.ext h1 x1
  refine sgV s1 h1 fun q S2 F2 r2 H2 u x2 s2 q2 h2 => ?_
  obtain ⟨b, v⟩ := q
  cases v with
  | ref i =>
    simp only at h2
    cases es : S2[i]? with
    | none => rw [es] at h2; exact False.elim h2
    | some ob =>
      rw [es] at h2
      cases ob with
      | ins c ns vs =>
        simp only at h2
        cases hcond : (cs.contains c && mayPut n0 i p.2 && Nat.ble ns.length 100) with
        | false => rw [hcond] at h2; exact False.elim h2
        | true =>
          rw [hcond, if_pos rfl] at h2
          rw [Bool.and_eq_true, Bool.and_eq_true] at hcond
          obtain ⟨⟨c1, c2⟩, c3⟩ := hcond
          obtain ⟨a, e1, rfl⟩ := q2
          obtain ⟨ho, k1, k2⟩ := s2.hr.obj i _ a es e1
          have k1 := k1.nl rfl
          obtain ⟨dx, us, rfl, k3, k4⟩ := k2
          obtain ⟨hc1, hc2⟩ := hc c (by simpa using c1)
          obtain ⟨us', e2, e3, e4, e5⟩ := fld_put hi (put_rv c2 (q1.ext x2)) k3 k4
          have hl : ns.length ≤ 100 := Nat.le_of_ble_eq_true c3
          rw [← hK]
          refine ⟨a, G.ca c, dx, _, rfl, k1, hc1, hc2, ?_, ?_⟩
          · rw [List.length_zip, List.length_map]
            omega
          · rw [e2]
            have hr := s2.hr.put (ob' := .ins c (putFld f p.2 ns vs).1 (putFld f p.2 ns vs).2) e1 es rfl rfl ⟨dx, us', rfl, e3, e4⟩
            exact h2 F2 r2 _ σ x2 ⟨hr, s2.sl, s2.vr⟩
      | _ => exact False.elim h2
  | _ => exact False.elim h2
theorem pe_callR {f : Addr} {sp : Sp} {x : Str} {p pos : Pos} {e : Expr} {es : List Expr} {t : TA} (F : FnR X.prog X.w X.K X.mg X.base L2.CX0 k f sp) (hr : Room k X.A) (hg : Gl X x) (hm : X.mg x = some (.ref f)) (hk : PySem.W.keepIn X.K (.ref f) = true)
    (ha : PA X (e :: es) t) (hdb : (x == ("__debug__" : Str)) = false := by decide) (he : starEach (e :: es) X.env = (false, eval e X.env) :: starEach es X.env := by rfl) (hpl : (backTo pos (starEach es X.env)).any (·.1) = false := by rfl) :
    PE X (.Call (.Name x p) (e :: es) [] pos) (tCall sp [] E0 t) := by
  refine ⟨fun pins s σ H Q I h => ?_⟩
  refine wpAny_Call_Name_kw (ld_glob I hg hm ?_ hdb)
  refine PySem.W.callWith_K (h₀ := X.base) I.ok.mod.kin hk (thn (ha.run pos pins s σ H _ I h) fun us s1 ⟨vs, H1, I1, r, q⟩ => ⟨I1.kIn, ?_⟩) he hpl
  have q : sp (vs ++ []) H1 Q E0 := q
  rw [List.append_nil] at q
  exact wpAny_call (run_fnR F hr pass0 I1 r q)
theorem sx_call {f np : Nat} {x : Str} {p pos : Pos} {e : Expr} {es : List Expr} {fs : SA} (T : Tb X G cf k) (hg : Gl X x) (hm : X.mg x = some (.ref (G.fa f))) (hk : PySem.W.keepIn G.K (.ref (G.fa f)) = true) (ha : PA X (e :: es) (rdA G n0 fs))
    (hdb : (x == ("__debug__" : Str)) = false := by decide) (he : starEach (e :: es) X.env = (false, eval e X.env) :: starEach es X.env := by rfl) (hpl : (backTo pos (starEach es X.env)).any (·.1) = false := by rfl) :
    PE X (.Call (.Name x p) (e :: es) [] pos) (rdE G n0 (eCall cf np f fs)) := se_call (pe_callR (T.call f np) (T.room.mono (Nat.le_succ k)) hg hm (T.hK ▸ hk) ha hdb he hpl)
def tMethD (X : Cx) (k : Nat) (m : Str) (ta : TE) (t : TA) : TE := fun σ H Q => ta σ H fun x H1 => ∃ a C dx fs g sp, x = .ref a ∧ H1 a = some (.ins C dx fs) ∧ Cls X.K C ∧ Meth X.K C m g ∧ fs.lookup m = none ∧ FnR X.prog X.w X.K X.mg X.base L2.CX0 k g sp ∧ t σ H1 fun vs H2 => sp (x :: vs) H2 Q E0
theorem pe_methD {m : Str} {pos apos : Pos} {o e : Expr} {es : List Expr} {ta : TE} {t : TA} {pl : Sem Bool} (he : PE X o ta) (hr : Room k X.A) (ha : PA X (e :: es) t)
    (hst : starEach (e :: es) X.env = (false, eval e X.env) :: starEach es X.env := by rfl) (hpl : (backTo pos (starEach es X.env)).any (·.1) = false := by rfl)
    (ht : eval (.Call (.Attribute o m apos) (e :: es) [] pos) X.env = (do
      let ov ← eval o X.env
      standAt apos.atName
      let (f, first) ← holding [ov] (getMethod ov m pl)
      callWith pos f first (backTo pos (starEach (e :: es) X.env)) (backToKw pos (keywordEach [] X.env))) := by rfl) :
    PE X (.Call (.Attribute o m apos) (e :: es) [] pos) (tMethD X k m ta t) := by
  refine ⟨fun pins s σ H Q I h => ?_⟩
  refine PySem.W.methodCall_KW (pl := pl) (thn (he.run pins s σ H _ I h) fun u s1 ⟨x, H1, I1, rx, a, C, dx, fs, g, sp, ex, ea, c, hm, l, F, q⟩ => ?_) ht
  subst ex
  obtain rfl : u = Value.ref a := rx
  refine getmeth_ok I1 ea c hm l ?_
  refine PySem.W.callWith_K (first := [.ref a]) (h₀ := X.base) I.ok.mod.kin hm.kp (thn (ha.run pos pins s1 σ H1 _ I1 q) fun us s2 ⟨ws, H2, I2, r, q2⟩ => ⟨I2.kIn, ?_⟩) hst hpl
  exact wpAny_call (run_fnR (us := .ref a :: us) (vs := .ref a :: ws) F hr pass0 I2 (.cons rfl r) q2)
theorem pe_methD0 {m : Str} {pos apos : Pos} {o : Expr} {ta : TE} {pl : Sem Bool} (he : PE X o ta) (hr : Room k X.A)
    (ht : eval (.Call (.Attribute o m apos) [] [] pos) X.env = (do
      let ov ← eval o X.env
      standAt apos.atName
      let (f, first) ← holding [ov] (getMethod ov m pl)
      callWith pos f first (backTo pos (starEach [] X.env)) (backToKw pos (keywordEach [] X.env))) := by rfl) :
    PE X (.Call (.Attribute o m apos) [] [] pos) (tMethD X k m ta tNil) := by
  refine ⟨fun pins s σ H Q I h => ?_⟩
  refine PySem.W.methodCall_KW (pl := pl) (thn (he.run pins s σ H _ I h) fun u s1 ⟨x, H1, I1, rx, a, C, dx, fs, g, sp, ex, ea, c, hm, l, F, q⟩ => ?_) ht
  subst ex
  obtain rfl : u = Value.ref a := rx
  refine getmeth_ok I1 ea c hm l ?_
  exact PySem.W.callWith_K0 (first := [.ref a]) I1.kIn hm.kp (wpAny_call (run_fnR (us := [.ref a]) (vs := [.ref a]) F hr pass0 I1 (.cons rfl .nil) q))
theorem look_mem {α : Type} : ∀ {l : List (Nat × α)} {c : Nat} {f : α}, l.lookup c = some f → (c, f) ∈ l
  | [], _, _, e => by cases e
  | (a, b) :: l, c, f, e => by
    rw [List.lookup_cons] at e
    cases hb : c == a with
    | true =>
      rw [hb] at e
      cases e
      rw [beq_iff_eq.mp hb]
      exact List.mem_cons_self
    | false =>
      rw [hb] at e
      exact List.mem_cons_of_mem _ (look_mem e)
theorem sa_nilT {σ : L2.St} {H : Hp} {Q : List V → Hp → Prop} (h : rdA G n0 aNil σ H Q) : tNil σ H Q := by
  obtain ⟨F, r, env, S, g, s, h⟩ := h
  exact h F r H [] (.refl F r) s rfl
theorem meth_core {np m : Nat} {tb : List (Nat × Nat)} {fo : SE} {fs : SA} {t : TA} {ex : Expr} (T : Tb X G cf k) (ht : ∀ σ H Q, rdA G n0 fs σ H Q → t σ H Q) (hi : Inj G m) (hc : ∀ p ∈ tb, Cls G.K (G.ca p.1) ∧ Meth G.K (G.ca p.1) (G.nm m) (G.fa p.2))
    (hp : PE X ex (tMethD X k (G.nm m) (rdV G n0 fo) t)) : PE X ex (rdE G n0 (eMeth cf np m tb fo fs)) := by
  refine peI hp fun σ H Q ⟨F, r, env, S, g, s, h⟩ => ?_
  refine stV s cnE h fun p S1 F1 r1 H1 u x1 s1 q1 h1 => ?_
  unfold methOf at h1
  cases ed : deref S1 p.2 with
  | none => rw [ed] at h1; exact h1.elim
  | some o =>
    rw [ed] at h1
    cases o with
    | ins c ns vs =>
      simp only at h1
      cases hn : ns.contains m with
      | true => rw [hn] at h1; exact h1.elim
      | false =>
        rw [hn] at h1
        simp only [Bool.false_eq_true, if_false] at h1
        cases el : tb.lookup c with
        | none => rw [el] at h1; exact h1.elim
        | some f =>
          rw [el] at h1
          obtain ⟨a, dx, us, rfl, k1, k2, k3⟩ := view_ins s1.hr q1 ed
          obtain ⟨h2, h3⟩ := hc (c, f) (look_mem el)
          refine ⟨a, G.ca c, dx, _, G.fa f, _, rfl, k1, T.hK ▸ h2, T.hK ▸ h3, fld_none hi hn, T.call f np, ?_⟩
          refine ht _ _ _ (stA s1 cnE h1 fun q S2 F2 r2 H2 ws x2 s2 q2 h4 => ?_)
          split at h4
          · rename_i hl
            exact run_call (E := E0) s2 (x1.trans x2) (show RVs G F2 r2 (p.2 :: q) _ from ⟨_, ws, rfl, q1.ext x2, q2⟩) hl h4
          · exact h4.elim
    | _ => exact h1.elim
theorem se_meth {np m : Nat} {tb : List (Nat × Nat)} {o e : Expr} {es : List Expr} {fo : SE} {fs : SA} {pos apos : Pos} {pl : Sem Bool} (T : Tb X G cf k) (hi : Inj G m) (hc : ∀ p ∈ tb, Cls G.K (G.ca p.1) ∧ Meth G.K (G.ca p.1) (G.nm m) (G.fa p.2)) (ho : PE X o (rdE G n0 fo)) (ha : PA X (e :: es) (rdA G n0 fs))
    (hst : starEach (e :: es) X.env = (false, eval e X.env) :: starEach es X.env := by rfl) (hpl : (backTo pos (starEach es X.env)).any (·.1) = false := by rfl)
    (ht : eval (.Call (.Attribute o (G.nm m) apos) (e :: es) [] pos) X.env = (do
      let ov ← eval o X.env
      standAt apos.atName
      let (f, first) ← holding [ov] (getMethod ov (G.nm m) pl)
      callWith pos f first (backTo pos (starEach (e :: es) X.env)) (backToKw pos (keywordEach [] X.env))) := by rfl) :
    PE X (.Call (.Attribute o (G.nm m) apos) (e :: es) [] pos) (rdE G n0 (eMeth cf np m tb fo fs)) :=
  meth_core T (fun _ _ _ h => h) hi hc (pe_methD (pl := pl) (toV ho) (T.room.mono (Nat.le_succ k)) ha hst hpl ht)
theorem se_meth0 {m : Nat} {tb : List (Nat × Nat)} {o : Expr} {fo : SE} {pos apos : Pos} {pl : Sem Bool} (T : Tb X G cf k) (hi : Inj G m) (hc : ∀ p ∈ tb, Cls G.K (G.ca p.1) ∧ Meth G.K (G.ca p.1) (G.nm m) (G.fa p.2)) (ho : PE X o (rdE G n0 fo))
    (ht : eval (.Call (.Attribute o (G.nm m) apos) [] [] pos) X.env = (do
      let ov ← eval o X.env
      standAt apos.atName
      let (f, first) ← holding [ov] (getMethod ov (G.nm m) pl)
      callWith pos f first (backTo pos (starEach [] X.env)) (backToKw pos (keywordEach [] X.env))) := by rfl) :
    PE X (.Call (.Attribute o (G.nm m) apos) [] [] pos) (rdE G n0 (eMeth cf 1 m tb fo aNil)) :=
  meth_core T (fun _ _ _ h => sa_nilT h) hi hc (pe_methD0 (pl := pl) (toV ho) (T.room.mono (Nat.le_succ k)) ht)
theorem run_makeR {C f : Addr} {sp : Sp} {pins : List (Addr × Obj)} {σ : L2.St} {H : Hp} {s : Shared} {Q : VK} {us : List Value} {vs : List V} (M : Mk X.K C f) (F : FnR X.prog X.w X.K X.mg X.base L2.CX0 k f sp) (hr : Room (k + 1) X.A)
    (I : Inv X pins σ H s) (r : Vals vs us)
    (h : ∀ x dx, H x = none → H dx = none → dx ≠ x → sp (.ref x :: vs) (upd (upd H dx (.own x)) x (.ins C dx [])) (fun v H2 => v = .non ∧ Q (.ref x) H2) E0) :
    wpAny (model X.prog X.w) X.A (call (.ref C) us) (EP X pins σ Q) X.xe s := by
  have hq := h (s.heap.objs.size + 1) s.heap.objs.size (I.hok.fresh (Nat.le_succ _)) (I.hok.fresh (Nat.le_refl _)) (Nat.ne_of_lt (Nat.lt_succ_self _))
  have I2 := Inv.made (C := C) I
  have r2 : Vals (V.ref (s.heap.objs.size + 1) :: vs) (Value.ref (s.heap.objs.size + 1) :: us) := .cons rfl r
  refine wpAny_call (make_map (f := f) I.kIn M.makes M.init (beq_iff_eq.mp M.fn) (codeAny_mono (F _ X.stack _ _ (Value.ref (s.heap.objs.size + 1) :: us) _ _ E0 (hr.make C us [])
    (I2.env0.make C us []) r2 hq) fun r s' hq' => ?_))
  cases r with
  | error e => exact hq'.elim
  | ok fl =>
    cases fl with
    | ret u =>
      obtain ⟨v, H', I3, rv, ev, q3⟩ := I2.after hq'
      subst ev
      exact ⟨rv, ⟨V.ref (s.heap.objs.size + 1), H', I3, rfl, q3⟩⟩
    | next => exact False.elim hq'
    | brk => exact False.elim hq'
    | cont => exact False.elim hq'
theorem pe_makeR {C f : Addr} {sp : Sp} {x : Str} {p pos : Pos} {e : Expr} {es : List Expr} {t : TA} (M : Mk X.K C f) (F : FnR X.prog X.w X.K X.mg X.base L2.CX0 k f sp) (hr : Room (k + 1) X.A) (hg : Gl X x) (hm : X.mg x = some (.ref C))
    (ha : PA X (e :: es) t) (hdb : (x == ("__debug__" : Str)) = false := by decide) (he : starEach (e :: es) X.env = (false, eval e X.env) :: starEach es X.env := by rfl) (hpl : (backTo pos (starEach es X.env)).any (·.1) = false := by rfl) :
    PE X (.Call (.Name x p) (e :: es) [] pos) (tMake C sp [] E0 t) := by
  refine ⟨fun pins s σ H Q I h => ?_⟩
  refine wpAny_Call_Name_kw (ld_glob I hg hm ?_ hdb)
  refine PySem.W.callWith_K (h₀ := X.base) I.ok.mod.kin M.kp (thn (ha.run pos pins s σ H _ I h) fun us s1 ⟨vs, H1, I1, r, q⟩ => ⟨I1.kIn, ?_⟩) he hpl
  exact run_makeR M F hr I1 r fun x dx h1 h2 h3 => by
    have z := q x dx h1 h2 h3
    rw [List.append_nil] at z
    exact z
theorem se_make {np c f : Nat} {x : Str} {p pos : Pos} {e : Expr} {es : List Expr} {fs : SA} (T : Tb X G cf k) (M : Mk G.K (G.ca c) (G.fa f)) (hg : Gl X x) (hm : X.mg x = some (.ref (G.ca c))) (ha : PA X (e :: es) (rdA G n0 fs))
    (hdb : (x == ("__debug__" : Str)) = false := by decide) (he : starEach (e :: es) X.env = (false, eval e X.env) :: starEach es X.env := by rfl) (hpl : (backTo pos (starEach es X.env)).any (·.1) = false := by rfl) :
    PE X (.Call (.Name x p) (e :: es) [] pos) (rdE G n0 (eMake cf np c f fs)) := by
  refine peI (pe_makeR (T.hK ▸ M) (T.call f np) T.room hg hm ha hdb he hpl) fun σ H Q ⟨F, r, env, S, g, s, h⟩ => ?_
  refine stA s cnE h fun q S1 F1 r1 H1 us x1 s1 q1 h1 => ?_
  split at h1
  · rename_i hl
    intro x dx hx hd hne
    rw [List.append_nil]
    have hc := (s1.hr.call).heap (H' := upd H1 dx (.own x)) fun a o e => by rw [upd_ne (ne_of_none e hd)]; exact e
    obtain ⟨h2, rf⟩ := new_obj (v := .ins c [] []) (ho := .ins (G.ca c) dx []) hc (by rw [upd_ne hne.symm]; exact hx) ⟨dx, [], rfl, rfl, rfl⟩ rfl
    obtain ⟨r2, x2, h3, q3⟩ := store_new h2 rf
    refine ⟨F1, r2, S1 ++ [.ins c [] []], subG n0 g S1.length, S1.length, .ref S1.length :: q, h3, ⟨_, us, rfl, q3, q1.ext x2⟩, hl, ?_⟩
    cases ec : cf f (.ref S1.length :: q) S1.length (S1 ++ [.ins c [] []]) with
    | no => rw [ec] at h1; exact h1
    | ex => rw [ec] at h1; exact h1
    | ok v S2 =>
      rw [ec] at h1
      intro F3 r3 H3 u x3 h4 q4
      cases v with
      | non =>
        refine ⟨q4, ?_⟩
        have h1 : PoE G n0 g F r env σ (norm S1.length (.ref S1.length) S2) Q := h1
        cases en : norm S1.length (.ref S1.length) S2 with
        | no => rw [en] at h1; exact h1.elim
        | ex => rw [en] at h1; exact h1.elim
        | ok p S3 =>
          rw [en] at h1
          obtain ⟨b, w⟩ := p
          obtain ⟨F4, x4, h5, q5⟩ := norm_ok h4 (RV.ext x3 q3) en
          rw [take_ext s1.hr (x2.trans x3)] at h5 q5
          have x5 : Ext F1 F4 r1 r1 := ⟨(x2.trans x3).1.trans x4, List.prefix_refl r1⟩
          exact h1 F4 r1 H3 _ (x1.trans x5) (s1.ext x5 (s1.hr.back h5)) q5
      | _ => exact h1.elim
  · exact h1.elim
inductive TyN where
  | non | bl | int | str | tup | lst | dct
  | own (c : Nat)
  deriving DecidableEq
def tyN (S : Store) (v : PV) : Option TyN := match deref S v with
  | some .non => some .non
  | some (.bl _) => some .bl
  | some (.int _) => some .int
  | some (.str _) => some .str
  | some (.tup _) => some .tup
  | some (.lst _) => some .lst
  | some (.dct _ _) => some .dct
  | some (.ins c _ _) => some (.own c)
  | _ => none
def TyN.val (G : Gam) : TyN → Value
  | .non => .type "NoneType"
  | .bl => .type "bool"
  | .int => .type "int"
  | .str => .type "str"
  | .tup => .type "tuple"
  | .lst => .type "list"
  | .dct => .type "dict"
  | .own c => .ref (G.ca c)
def eIsi (tb : List (TyN × Bool)) : SE → SE := eUn fun v S => match tyN S v with
  | some t => (tb.lookup t).map fun b => (false, .bl b)
  | none => none
theorem tyN_ok {g : Gh} {F : Hp} {r : List Addr} {S : Store} {H : Hp} {v : PV} {u : V} {t : TyN} (h : HR G n0 g F r S H) (q : RV G F r v u) (hc : ∀ c, t = .own c → ClsI G c) (e : tyN S v = some t) : TyX G.K H u (t.val G) := by
  unfold tyN at e
  split at e
  · rename_i ed; cases e; rw [view_non h q ed]; exact .base .non
  · rename_i ed; cases e; rw [view_bl h q ed]; exact .base (.bl _)
  · rename_i ed; cases e; rw [view_int h q ed]; exact .base (.int _)
  · rename_i ed; cases e; rw [view_str h q ed]; exact .base (.str _)
  · rename_i ed
    cases e
    obtain ⟨a, us, rfl, k1, _⟩ := view_tup h q ed
    rcases k1 with (k1 | ⟨o, k1⟩) | ⟨o, its, n, k1, k2, _⟩
    · exact .base (.tup k1)
    · exact .fTuple k1
    · exact .kTuple k1 k2
  · rename_i ed
    cases e
    obtain ⟨a, us, rfl, k1, _⟩ := view_lst h q ed
    rcases k1 with k1 | ⟨o, k1⟩
    · exact .base (.lst k1)
    · exact .base (.frz k1)
  · rename_i ed
    cases e
    rename_i ks vs
    cases ks with
    | k kk =>
      obtain ⟨a, ho, us, rfl, k1, k2, _⟩ := view_dct h q ed
      obtain ⟨rfl, _⟩ := k2
      rcases k1 with k1 | ⟨o, k1⟩
      · exact .base (.dK k1)
      · exact .fDict k1
    | t kk =>
      obtain ⟨a, us, rfl, k1, _⟩ := view_dctT h q ed
      exact .base (.dT k1)
  · rename_i ed
    cases e
    obtain ⟨a, dx, us, rfl, k1, _⟩ := view_ins h q ed
    obtain ⟨c1, c2⟩ := hc _ rfl
    exact .base (.ins k1 c1 c2.ca c2.cn c2.ct c2.cm)
  · cases e
theorem tb_mem {tb : List (TyN × Bool)} {t : TyN} {b : Bool} : tb.lookup t = some b → (t, b) ∈ tb := by
  induction tb with
  | nil => intro e; cases e
  | cons p l ih =>
    obtain ⟨a, c⟩ := p
    intro e
    rw [List.lookup_cons] at e
    cases hb : t == a with
    | true =>
      rw [hb] at e
      cases e
      rw [beq_iff_eq.mp hb]
      exact List.mem_cons_self
    | false =>
      rw [hb] at e
      exact List.mem_cons_of_mem _ (ih e)
theorem se_isi1 {tb : List (TyN × Bool)} {e ce : Expr} {fe : SE} {p pos : Pos} {cv : V} {cu : Value} (hK : G.K = X.K) (hg : Gl X "isinstance") (hm : X.mg "isinstance" = none) (hb : bootBuiltins "isinstance" = some (.builtin "isinstance")) (hcv : ClsV cv cu)
    (hcl : ∀ t b, (t, b) ∈ tb → PySem.W.kitOne G.K (t.val G) cu = some b ∧ ∀ c, t = .own c → ClsI G c) (he : PE X e (rdE G n0 fe)) (hc : PE X ce (tC cv))
    (hs : starEach [e, ce] X.env = (false, eval e X.env) :: starEach [ce] X.env := by rfl) (hs2 : starEach [ce] X.env = (false, eval ce X.env) :: starEach [] X.env := by rfl) (hpl : (backTo pos (starEach [ce] X.env)).any (·.1) = false := by rfl) :
    PE X (.Call (.Name "isinstance" p) [e, ce] [] pos) (rdE G n0 (eIsi tb fe)) := by
  refine peI (pe_callB call_isi hg hm hb (pa_cons (toV he) (pa_cons hc pa_nil hs2) hs) (by decide) (by decide) hs hpl) fun σ H Q ⟨F, r, env, S, g, s, h⟩ => ?_
  refine stV s cnE h fun p S1 F1 r1 H1 u x1 s1 q1 h1 => ?_
  simp only at h1
  cases et : tyN S1 p.2 with
  | none => rw [et] at h1; exact h1.elim
  | some t =>
    rw [et] at h1
    cases el : tb.lookup t with
    | none => simp only [el] at h1; exact h1.elim
    | some b =>
      simp only [el] at h1
      obtain ⟨k1, k2⟩ := hcl t b (tb_mem el)
      exact ⟨u, cv, t.val G, cu, b, rfl, hcv, hK ▸ tyN_ok s1.hr q1 k2 et, hK ▸ k1, h1 F1 r1 H1 _ x1 s1 rfl⟩
end
end PX
set_option Elab.async false
set_option linter.all false
set_option maxRecDepth 100000
namespace PX
open PySem PySem.Spec PyProof.Rows L2
section
open Builtin
variable {prog : Program} {w : World} {A : Around} {E : Value → Shared → Prop} {s : Shared} {K : PySem.W.Frag} {x C L f : Addr} {h₀ : Heap} {m : Str → Option Value} {ox : Obj} {od : Option Obj} {b tb : Value}
theorem ne_entry {Q : Fin → Shared → Prop} {h : Heap} {g : Array GenState} {d : Drawn} {t : Nat} {os : OsState} (hu : A.units < cLine) (X : K.In h) (I : PySem.W.InstAt h x ox C od)
    (hs : PySem.W.findIn K (.ref C) "__eq__" = some (some (.ref f))) (hf : PySem.W.isFn K (.ref f) = true)
    (hcall : wpAny (model prog w) A (call (.ref f) [.ref x, b]) (fun v s' => ∃ b, v = .bool b ∧ Q (.done (.ret (.bool (!b)))) s') E ⟨h, g, d, t, os⟩) :
    wpAny (model prog w) A (Builtin.«object.__ne__» ⟨[.ref x, b], []⟩) Q E ⟨h, g, d, t, os⟩ := by
  unfold Builtin.«object.__ne__»
  repeat (first
    | with_reducible refine wpAny_cRoomFor hu ?_
    | (refine wpAny_bind (m := callSpecialIfBound? (.ref x) (Str.ofString "__eq__") [b])
        (PySem.W.ifBound_K X I hs hf (wpAny_mono hcall (fun r s' hr => by
          obtain ⟨b, rfl, hq⟩ := hr
          repeat (first | exact hq | exact wpAny_pure hq | exact wpAny_truthy_bool hq | (refine wpAny_bind (m := truthy (.bool _)) (wpAny_truthy_bool ?_)) | wp_step)) fun _ _ e => e)))
    | wp_step)
theorem ne_try {Q : Option Value → Shared → Prop} (hu : A.units + 1 < cLine) (X : K.In s.heap) (I : PySem.W.InstAt s.heap x ox C od)
    (hne : PySem.W.findIn K (.ref C) "__ne__" = some (some (.builtin "object.__ne__"))) (hm : PySem.W.mroIn K C (.type "object") = some true) (hs : PySem.W.findIn K (.ref C) "__eq__" = some (some (.ref f))) (hf : PySem.W.isFn K (.ref f) = true)
    (h : wpAny (model prog w) A.in1 (call (.ref f) [.ref x, b]) (fun v s' => ∃ k, v = .bool k ∧ Q (some (.bool (!k))) s') E s) : wpAny (model prog w) A (tryCompare (.ref x) "__ne__" b) Q E s := by
  have S := PySem.F.cmp_object.ne
  simp only [tryCompare]
  refine wpAny_bind (m := callSpecialIfBound? (.ref x) "__ne__" [b]) ?_
  simp only [callSpecialIfBound?, bindSpecialIfBound?]
  have body : wpAny (model prog w) A (call (.builtin "object.__ne__") [.ref x, b]) (fun v s' => ∃ k, v = .bool (!k) ∧ Q (some (.bool (!k))) s') E s := by
    refine wpAny_call (codeAny_call_builtin S.plain F.cmpEntry_ne (PySem.W.check_slot F.cmpKind_ne F.cmpSplit_ne (I.type.andThen (PySem.W.looks_mroIn X hm)) (F.cmpArgs_ne _ _) ?_))
    obtain ⟨hp, g, d, t, os⟩ := s
    refine ne_entry (A := A.in1) hu X I hs hf (wpAny_mono h (fun v s' hv => ?_) fun _ _ e => e)
    obtain ⟨k, rfl, hq⟩ := hv
    exact ⟨k, rfl, k, rfl, hq⟩
  have fin : wpAny (model prog w) A (call (.builtin "object.__ne__") ([.ref x] ++ [b]) >>= fun v => pure (some v)) (fun r s' => wpAny (model prog w) A (match r with
      | some .notImplemented => pure none
      | none => pure none
      | some v => pure (some v)) Q E s') E s := by
    refine wpAny_bind (wpAny_mono body (fun v s' hv => ?_) fun _ _ e => e)
    obtain ⟨k, rfl, hq⟩ := hv
    exact wpAny_pure (wpAny_pure hq)
  refine wpAny_holding (wpAny_bind (wpAny_bind (wpAny_bind (I.type.here ((PySem.W.looks_findIn X hne).here ?_)))))
  simp only [S.bind]
  refine wpAny_bind (wpAny_askSetting (wpAny_ite ?_))
  split
  · exact wpAny_bind (wpAny_pure (wpAny_pure fin))
  · exact wpAny_tryCatch (wpAny_bind (wpAny_pure (wpAny_pure fin)))
theorem ne_K {Q : Value → Shared → Prop} (hu : A.units + 1 < cLine) (X : K.In s.heap) (I : PySem.W.InstAt s.heap x ox C od) (hb : PySem.W.Looks (model prog w) s.heap (typeOf b) tb) (hn : PySem.W.notFirst K C tb = true)
    (hne : PySem.W.findIn K (.ref C) "__ne__" = some (some (.builtin "object.__ne__"))) (hm : PySem.W.mroIn K C (.type "object") = some true) (hs : PySem.W.findIn K (.ref C) "__eq__" = some (some (.ref f))) (hf : PySem.W.isFn K (.ref f) = true)
    (h : wpAny (model prog w) A.in1 (call (.ref f) [.ref x, b]) (fun v s' => ∃ k, v = .bool k ∧ Q (.bool (!k)) s') E s) : wpAny (model prog w) A (richCompare .NotEq (.ref x) b) Q E s := by
  have one : wpAny (model prog w) A (tryCompare (.ref x) (cmpInfo .NotEq).2.1 b) (fun r s' => ∃ v, r = some v ∧ Q v s') E s :=
    ne_try hu X I hne hm hs hf (wpAny_mono h (fun v s' hv => by
      obtain ⟨k, e, q⟩ := hv
      exact ⟨k, e, _, rfl, q⟩) fun _ _ e => e)
  unfold richCompare
  simp only [oneThing_ref]
  refine wpAny_holding (wpAny_bind (wpAny_cRoomFor (Nat.lt_of_succ_lt hu) ?_))
  refine wpAny_bind (I.type.here (wpAny_bind (hb.here ?_)))
  split
  · rename_i q
    have e : PySem.W.subIn K tb (.ref C) = some false := by
      rcases Bool.or_eq_true_iff.mp hn with e | e
      · rw [beq_iff_eq.mp e] at q; simp at q
      · exact beq_iff_eq.mp e
    refine wpAny_bind ((PySem.W.looks_subIn X e).here ?_)
    simp only [Bool.false_eq_true, if_false]
    refine wpAny_bind (wpAny_mono one (fun r s' z => ?_) fun _ _ e => e)
    obtain ⟨v, rfl, hq⟩ := z
    exact wpAny_pure hq
  · refine wpAny_bind (wpAny_pure ?_)
    simp only [Bool.false_eq_true, if_false]
    refine wpAny_bind (wpAny_mono one (fun r s' z => ?_) fun _ _ e => e)
    obtain ⟨v, rfl, hq⟩ := z
    exact wpAny_pure hq
end
structure Spc (K : PySem.W.Frag) (C f : Addr) (name : Str) : Prop where
  at_ : PySem.W.findIn K (.ref C) name = some (some (.ref f))
  fn : PySem.W.isFn K (.ref f) = true
def callV (cf : CF) (f : Nat) (args : List PV) (S : Store) : R (Bool × PV) := (cutX S.length (cf f args S.length S)).bind fun v S2 => norm S.length v S2
def ownOf (tb : List (Nat × Nat)) (S : Store) (v : PV) : Option Nat := match deref S v with
  | some (.ins c _ _) => tb.lookup c
  | _ => none
def lenI (z : Bool × PV) (S : Store) : R (Bool × PV) := match z.2 with
  | .int n => if decide (0 ≤ n) && decide (n < 4611686018427387904) then .ok (false, .int n) S else .no
  | _ => .no
def eLen (cf : CF) (tb : List (Nat × Nat)) (a : SE) : SE := fun env S => (a env S).bind fun p S1 => match ownOf tb S1 p.2 with
  | some f => (callV cf f [p.2] S1).bind lenI
  | none => ofO (bLen [p.2] S1) S1
def notI (z : Bool × PV) (S : Store) : R (Bool × PV) := match z.2 with
  | .bl b => .ok (false, .bl (!b)) S
  | _ => .no
def okTy (tys : List TyN) (S : Store) (v : PV) : Bool := match tyN S v with
  | some t => tys.contains t
  | none => false
def eEq (cf : CF) (tb : List (Nat × Nat)) (tys : List TyN) (a b : SE) : SE := fun env S => (a env S).bind fun p S1 => (b env S1).bind fun q S2 => match ownOf tb S2 p.2 with
  | some f => if okTy tys S2 q.2 then callV cf f [p.2, q.2] S2 else .no
  | none => ofO (oEq p.2 q.2 S2) S2
def eNe (cf : CF) (tb : List (Nat × Nat)) (tys : List TyN) (a b : SE) : SE := fun env S => (a env S).bind fun p S1 => (b env S1).bind fun q S2 => match ownOf tb S2 p.2 with
  | some f => if okTy tys S2 q.2 then (callV cf f [p.2, q.2] S2).bind notI else .no
  | none => ofO (oNe p.2 q.2 S2) S2
section
variable {X : Cx} {k : Nat}
def rLenOwn (X : Cx) (k : Nat) : List V → Hp → VK → Prop := fun xs H Q => ∃ a C dx fs g sp, xs = [V.ref a] ∧ H a = some (.ins C dx fs) ∧ Spc X.K C g "__len__" ∧ FnR X.prog X.w X.K X.mg X.base L2.CX0 k g sp ∧
  sp [.ref a] H (fun v H' => ∃ n : Int, v = .int n ∧ 0 ≤ n ∧ n < 2 ^ 63 ∧ Q (.int n) H') E0
theorem inst_at {pins : List (Addr × Obj)} {σ : L2.St} {H : Hp} {s : Shared} {a C dx : Addr} {fs : List (Str × V)} (I : Inv X pins σ H s) (ea : H a = some (.ins C dx fs)) : ∃ od, PySem.W.InstAt s.heap a (PySem.W.instObj C dx) C (some od) := by
  obtain ⟨mA, O, _⟩ := ins_get I.hok ea
  obtain ⟨od, J, _⟩ := O.look
  exact ⟨od, J⟩
theorem cr_lenOwn (hr : Room (k + 1) X.A) : CallR X (.builtin "len") (rLenOwn X k) := by
  intro pins s σ H xs us Q I r h
  obtain ⟨a, C, dx, fs, g, sp, rfl, ea, hs, F, q⟩ := h
  rw [Vals.ref1 r]
  obtain ⟨od, J⟩ := inst_at I ea
  obtain ⟨m, hF⟩ := I.fr
  refine PySem.W.len_K hF I.ok.mod.kin J hs.at_ hs.fn (wpAny_mono (wpAny_call (SlX.run_at (us := [.ref a]) (ws := [.ref a]) F hr.in1 I.env0.in1 pass0 I (.cons rfl .nil) q)) (fun w s' z => ?_) fun _ _ x => x)
  obtain ⟨z', H', I', rz, n, ez, h1, h2, qz⟩ := z
  subst ez
  obtain ⟨t, e⟩ := (show ∃ t, w = Value.int n t from rz)
  cases e
  exact ⟨⟨h1, h2⟩, .int n, H', I'.tok _, ⟨_, rfl⟩, qz⟩
def rEqOwn (X : Cx) (k : Nat) : R2 := fun x y H Q => ∃ a C dx fs g sp t, x = .ref a ∧ H a = some (.ins C dx fs) ∧ TyX X.K H y t ∧ PySem.W.notFirst X.K C t = true ∧ Spc X.K C g "__eq__" ∧ FnR X.prog X.w X.K X.mg X.base L2.CX0 k g sp ∧ sp [x, y] H Q E0
theorem op_eqOwn (hr : Room (k + 1) X.A) : OpR X (compareOp .Eq) (rEqOwn X k) := by
  intro pins s σ H x y v u Q I rx ry h
  obtain ⟨a, C, dx, fs, g, sp, t, rfl, ea, ty, hn, hs, F, q⟩ := h
  cases (show v = Value.ref a from rx)
  obtain ⟨od, J⟩ := inst_at I ea
  obtain ⟨m, hF⟩ := I.fr
  obtain ⟨P, Z, p, _⟩ := kit_of I ry ty
  show wpAny (model X.prog X.w) X.A (richCompare .Eq (.ref a) u) (EP X pins σ Q) X.xe s
  refine PySem.W.cmp_K (op := .Eq) (tb := t) hr.units0 hF I.ok.mod.kin J (Z.ty _ _ I.kIn p) hn hs.at_ hs.fn ?_
  refine wpAny_mono (wpAny_call (run_fnR (us := [.ref a, u]) (vs := [.ref a, y]) F (hr.mono (Nat.le_succ k)) pass0 I (.cons rfl (.cons ry .nil)) q)) (fun w s' z => ?_) fun _ _ x => x
  obtain ⟨z', H', I', rz, qz⟩ := z
  exact SlX.cmpback rz ⟨z', H', I', rz, qz⟩
def rNeOwn (X : Cx) (k : Nat) : R2 := fun x y H Q => ∃ a C dx fs g sp t, x = .ref a ∧ H a = some (.ins C dx fs) ∧ TyX X.K H y t ∧ PySem.W.notFirst X.K C t = true ∧ Spc X.K C g "__eq__" ∧
  PySem.W.findIn X.K (.ref C) "__ne__" = some (some (.builtin "object.__ne__")) ∧ PySem.W.mroIn X.K C (.type "object") = some true ∧ FnR X.prog X.w X.K X.mg X.base L2.CX0 k g sp ∧ sp [x, y] H (fun v H' => ∃ b, v = .bl b ∧ Q (.bl (!b)) H') E0
theorem op_neOwn (hr : Room (k + 1) X.A) : OpR X (compareOp .NotEq) (rNeOwn X k) := by
  intro pins s σ H x y v u Q I rx ry h
  obtain ⟨a, C, dx, fs, g, sp, t, rfl, ea, ty, hn, hs, hne, hm, F, q⟩ := h
  cases (show v = Value.ref a from rx)
  obtain ⟨od, J⟩ := inst_at I ea
  obtain ⟨P, Z, p, _⟩ := kit_of I ry ty
  show wpAny (model X.prog X.w) X.A (richCompare .NotEq (.ref a) u) (EP X pins σ Q) X.xe s
  refine ne_K (tb := t) (by have := hr.units; omega) I.kIn J (Z.ty _ _ I.kIn p) hn hne hm hs.at_ hs.fn ?_
  refine wpAny_mono (wpAny_call (SlX.run_at (us := [.ref a, u]) (ws := [.ref a, y]) F hr.in1 I.env0.in1 pass0 I (.cons rfl (.cons ry .nil)) q)) (fun w s' z => ?_) fun _ _ x => x
  obtain ⟨z', H', I', rz, b, ez, qz⟩ := z
  subst ez
  cases (show w = Value.bool b from rz)
  exact ⟨b, rfl, .bl (!b), H', I', rfl, qz⟩
end
section
variable {X : Cx} {G : Gam} {n0 : Nat} {cf : CF} {k : Nat}
theorem poB {g : Gh} {F0 : Hp} {r0 : List Addr} {env : Env} {σ : L2.St} {m : R (Bool × PV)} {kk : Bool × PV → Store → R (Bool × PV)} {Q Q' : VK} (h : PoE G n0 g F0 r0 env σ (m.bind kk) Q)
    (step : ∀ p S' F' r' H' u, Ext F0 F' r0 r' → Sg G n0 g F' r' env σ S' H' → RF G g F' r' H' p.1 p.2 u → PoE G n0 g F0 r0 env σ (kk p S') Q → Q' u H') : PoE G n0 g F0 r0 env σ m Q' := by
  cases m with
  | ok p S' => exact fun F' r' H' u x s q => step p S' F' r' H' u x s q h
  | ex => exact h
  | no => exact h
theorem se_of {ex : Expr} {t : TE} {f : SE} (hp : PE X ex t) (h : ∀ σ H Q, rdE G n0 f σ H Q → t σ H Q) : PE X ex (rdE G n0 f) := peI hp h
theorem st_of {ex : Expr} {t : TE} {f : SE} (hp : PT X ex (tTest t)) (h : ∀ σ H Q, rdE G n0 f σ H Q → t σ H Q) : PT X ex (rdT G n0 (tBl f)) := by
  refine ptI hp fun σ H Q ⟨F, r, env, S, g, s, p⟩ => h σ H _ ⟨F, r, env, S, g, s, ?_⟩
  have p : PoT G n0 g F r env σ ((f env S).bind fun p S1 => match p.2 with
    | .bl b => .ok b S1
    | _ => .no) Q := p
  cases e : f env S with
  | no => rw [e] at p; exact p
  | ex => rw [e] at p; exact p
  | ok q S' =>
    rw [e] at p
    obtain ⟨b, v⟩ := q
    cases v with
    | bl k =>
      intro F' r' H' u x s' rf
      exact ⟨k, bl_of rf, p F' r' H' x s'⟩
    | _ => exact p.elim
theorem se_len {tb : List (Nat × Nat)} {e : Expr} {fe : SE} {p pos : Pos} (T : Tb X G cf k) (hg : Gl X "len") (hm : X.mg "len" = none) (hc : ∀ p ∈ tb, Spc G.K (G.ca p.1) (G.fa p.2) "__len__") (he : PE X e (rdE G n0 fe))
    (hb : bootBuiltins "len" = some (.builtin "len") := by rfl) (hs : starEach [e] X.env = (false, eval e X.env) :: starEach [] X.env := by rfl) (hpl : (backTo pos (starEach [] X.env)).any (·.1) = false := by rfl) :
    PE X (.Call (.Name "len" p) [e] [] pos) (rdE G n0 (eLen cf tb fe)) := by
  have cr : CallR X (.builtin "len") (fun xs H Q => rLenOwn X k xs H Q ∨ ∃ x n, xs = [x] ∧ LenV X.K x H n ∧ Q (.int n) H) := by
    intro pins s σ H vs us Q I r h
    rcases h with h | h
    · exact cr_lenOwn T.room pins s σ H vs us Q I r h
    · exact call_len pins s σ H vs us Q I r h
  refine peI (pe_callB cr hg hm hb (pa_cons (toV he) pa_nil hs) (by decide) (by decide) hs hpl) fun σ H Q ⟨F, r, env, S, g, s, h⟩ => ?_
  refine stV s cnE h fun p S1 F1 r1 H1 u x1 s1 q1 h1 => ?_
  cases eo : ownOf tb S1 p.2 with
  | none =>
    simp only [eo] at h1
    refine .inr ?_
    unfold bLen at h1
    simp only at h1
    split at h1
    · rename_i ws ed
      obtain ⟨a, us, rfl, k1, k2⟩ := view_lst s1.hr q1 ed
      refine ⟨.ref a, us.length, rfl, .inl ⟨us, .inl k1, rfl⟩, ?_⟩
      rw [← RVs.length k2]
      exact h1 F1 r1 H1 _ x1 s1 rfl
    · rename_i ws ed
      obtain ⟨a, us, rfl, k1, k2⟩ := view_tup s1.hr q1 ed
      refine ⟨.ref a, us.length, rfl, .inr ⟨us, T.hK ▸ k1, rfl⟩, ?_⟩
      rw [← RVs.length k2]
      exact h1 F1 r1 H1 _ x1 s1 rfl
    · exact h1.elim
  | some f =>
    simp only [eo] at h1
    refine .inl ?_
    unfold ownOf at eo
    split at eo
    · rename_i c ns ws ed
      obtain ⟨a, dx, us, rfl, k1, k2, k3⟩ := view_ins s1.hr q1 ed
      refine ⟨a, G.ca c, dx, _, G.fa f, _, rfl, k1, T.hK ▸ hc (c, f) (look_mem eo), T.call f 1, ?_⟩
      refine run_call (np := 1) s1 x1 (show RVs G F1 r1 [p.2] _ from ⟨_, [], rfl, q1, rfl⟩) rfl (poB h1 fun z S2 F2 r2 H2 w x2 s2 q2 h2 => ?_)
      obtain ⟨b, v⟩ := z
      cases v with
      | int n =>
        unfold lenI at h2
        simp only at h2
        split at h2
        · rename_i hn
          rw [Bool.and_eq_true, decide_eq_true_eq, decide_eq_true_eq] at hn
          have ew : w = .int n := by
            cases b with
            | false => exact q2
            | true =>
              obtain ⟨_, _, _, _, _, _, _, ro, _⟩ := q2
              exact ro.elim
          exact ⟨n, ew, hn.1, by omega, h2 F2 r2 H2 _ x2 s2 rfl⟩
        · exact h2.elim
      | _ => exact h2.elim
    · cases eo
structure EqT (G : Gam) (tb : List (Nat × Nat)) (tys : List TyN) : Prop where
  spc : ∀ p ∈ tb, Spc G.K (G.ca p.1) (G.fa p.2) "__eq__"
  ne : ∀ p ∈ tb, PySem.W.findIn G.K (.ref (G.ca p.1)) "__ne__" = some (some (.builtin "object.__ne__")) ∧ PySem.W.mroIn G.K (G.ca p.1) (.type "object") = some true
  nf : ∀ p ∈ tb, ∀ t ∈ tys, PySem.W.notFirst G.K (G.ca p.1) (t.val G) = true
  cl : ∀ c, TyN.own c ∈ tys → ClsI G c
theorem own_at {tb : List (Nat × Nat)} {g : Gh} {F : Hp} {r : List Addr} {S : Store} {H : Hp} {v : PV} {u : V} {f : Nat} (h : HR G n0 g F r S H) (q : RV G F r v u) (e : ownOf tb S v = some f) : ∃ a c dx fs, u = .ref a ∧ H a = some (.ins (G.ca c) dx fs) ∧ (c, f) ∈ tb := by
  unfold ownOf at e
  split at e
  · rename_i c ns ws ed
    obtain ⟨a, dx, us, rfl, k1, k2, k3⟩ := view_ins h q ed
    exact ⟨a, c, dx, _, rfl, k1, look_mem e⟩
  · cases e
theorem okTy_at {tys : List TyN} {g : Gh} {F : Hp} {r : List Addr} {S : Store} {H : Hp} {v : PV} {u : V} (hc : ∀ c, TyN.own c ∈ tys → ClsI G c) (h : HR G n0 g F r S H) (q : RV G F r v u) (e : okTy tys S v = true) : ∃ t ∈ tys, TyX G.K H u (t.val G) := by
  unfold okTy at e
  cases et : tyN S v with
  | none => rw [et] at e; cases e
  | some t =>
    rw [et] at e
    have hm : t ∈ tys := by simpa using e
    exact ⟨t, hm, tyN_ok h q (fun c ec => hc c (ec ▸ hm)) et⟩
theorem eq_core {tb : List (Nat × Nat)} {tys : List TyN} {fa fb : SE} (T : Tb X G cf k) (E : EqT G tb tys) (σ : L2.St) (H : Hp) (Q : VK) (hh : rdE G n0 (eEq cf tb tys fa fb) σ H Q) : tOp (fun x y H Q => rEqOwn X k x y H Q ∨ rEqD G.K x y H Q) (rdV G n0 fa) (rdV G n0 fb) σ H Q := by
  obtain ⟨F, r, env, S, g, s, h⟩ := hh
  refine stV s cnE h fun p S1 F1 r1 H1 u x1 s1 q1 h1 => ?_
  refine stV s1 cnE h1 fun q S2 F2 r2 H2 v x2 s2 q2 h2 => ?_
  have q1' := q1.ext x2
  cases eo : ownOf tb S2 p.2 with
  | none =>
    simp only [eo] at h2
    exact .inr (endO (T := fun Q => rEqD G.K u v H2 Q) s2 (x1.trans x2) h2 fun z ez k => ok_eq n0 g F2 r2 S2 H2 p.2 q.2 u v z Q s2.hr q1' q2 ez k)
  | some f =>
    simp only [eo] at h2
    split at h2
    · rename_i ot
      obtain ⟨a, c, dx, fs, rfl, k1, k2⟩ := own_at s2.hr q1' eo
      obtain ⟨t, ht, ty⟩ := okTy_at E.cl s2.hr q2 ot
      refine .inl ⟨a, G.ca c, dx, fs, G.fa f, _, t.val G, rfl, k1, T.hK ▸ ty, T.hK ▸ E.nf _ k2 t ht, T.hK ▸ E.spc _ k2, T.call f 2, ?_⟩
      exact run_call (np := 2) s2 (x1.trans x2) (show RVs G F2 r2 [p.2, q.2] _ from ⟨_, _, rfl, q1', _, [], rfl, q2, rfl⟩) rfl h2
    · exact h2.elim
theorem ne_core {tb : List (Nat × Nat)} {tys : List TyN} {fa fb : SE} (T : Tb X G cf k) (E : EqT G tb tys) (σ : L2.St) (H : Hp) (Q : VK) (hh : rdE G n0 (eNe cf tb tys fa fb) σ H Q) : tOp (fun x y H Q => rNeOwn X k x y H Q ∨ rNeD G.K x y H Q) (rdV G n0 fa) (rdV G n0 fb) σ H Q := by
  obtain ⟨F, r, env, S, g, s, h⟩ := hh
  refine stV s cnE h fun p S1 F1 r1 H1 u x1 s1 q1 h1 => ?_
  refine stV s1 cnE h1 fun q S2 F2 r2 H2 v x2 s2 q2 h2 => ?_
  have q1' := q1.ext x2
  cases eo : ownOf tb S2 p.2 with
  | none =>
    simp only [eo] at h2
    exact .inr (endO (T := fun Q => rNeD G.K u v H2 Q) s2 (x1.trans x2) h2 fun z ez k => ok_ne n0 g F2 r2 S2 H2 p.2 q.2 u v z Q s2.hr q1' q2 ez k)
  | some f =>
    simp only [eo] at h2
    split at h2
    · rename_i ot
      obtain ⟨a, c, dx, fs, rfl, k1, k2⟩ := own_at s2.hr q1' eo
      obtain ⟨t, ht, ty⟩ := okTy_at E.cl s2.hr q2 ot
      refine .inl ⟨a, G.ca c, dx, fs, G.fa f, _, t.val G, rfl, k1, T.hK ▸ ty, T.hK ▸ E.nf _ k2 t ht, T.hK ▸ E.spc _ k2, T.hK ▸ (E.ne _ k2).1, T.hK ▸ (E.ne _ k2).2, T.call f 2, ?_⟩
      refine run_call (np := 2) s2 (x1.trans x2) (show RVs G F2 r2 [p.2, q.2] _ from ⟨_, _, rfl, q1', _, [], rfl, q2, rfl⟩) rfl (poB h2 fun z S3 F3 r3 H3 w x3 s3 q3 h3 => ?_)
      obtain ⟨b, v⟩ := z
      cases v with
      | bl b' => exact ⟨b', bl_of q3, h3 F3 r3 H3 _ x3 s3 rfl⟩
      | _ => exact h3.elim
    · exact h2.elim
variable {tb : List (Nat × Nat)} {tys : List TyN} {fa fb : SE} {a b : Expr} {pos : Pos}
theorem op_eqAll (T : Tb X G cf k) : OpR X (compareOp .Eq) (fun x y H Q => rEqOwn X k x y H Q ∨ rEqD G.K x y H Q) := (op_eqOwn T.room).or (T.hK ▸ op_eqD T.room.units)
theorem op_neAll (T : Tb X G cf k) : OpR X (compareOp .NotEq) (fun x y H Q => rNeOwn X k x y H Q ∨ rNeD G.K x y H Q) := (op_neOwn T.room).or (T.hK ▸ op_neD T.room.units)
theorem se_eq (T : Tb X G cf k) (E : EqT G tb tys) (ha : PE X a (rdE G n0 fa)) (hb : PE X b (rdE G n0 fb)) (hm : behindInMarks .Eq b = false) : PE X (.Compare a [.Eq] [b] pos) (rdE G n0 (eEq cf tb tys fa fb)) :=
  se_of (pe_cmpR (op_eqAll T) (toV ha) (toV hb) hm) (eq_core T E)
theorem st_eq (T : Tb X G cf k) (E : EqT G tb tys) (ha : PE X a (rdE G n0 fa)) (hb : PE X b (rdE G n0 fb)) (hm : behindInMarks .Eq b = false) : PT X (.Compare a [.Eq] [b] pos) (rdT G n0 (tBl (eEq cf tb tys fa fb))) :=
  st_of (pt_cmpR (op_eqAll T) (toV ha) (toV hb) hm) (eq_core T E)
theorem st_ne (T : Tb X G cf k) (E : EqT G tb tys) (ha : PE X a (rdE G n0 fa)) (hb : PE X b (rdE G n0 fb)) (hm : behindInMarks .NotEq b = false) : PT X (.Compare a [.NotEq] [b] pos) (rdT G n0 (tBl (eNe cf tb tys fa fb))) :=
  st_of (pt_cmpR (op_neAll T) (toV ha) (toV hb) hm) (ne_core T E)
end
end PX
set_option Elab.async false
set_option linter.all false
set_option maxRecDepth 100000
namespace PX
open PySem PySem.Spec PyProof.Rows L2
def eqK : Key → Key → Bool
  | .inl i, .inl j => decide (i = j)
  | .inr x, .inr y => decide (x = y)
  | _, _ => false
theorem eqK_ok : ∀ a b : Key, eqK a b = decide (a = b)
  | .inl i, .inl j => by
    show decide (i = j) = _
    exact decide_eq_decide.mpr ⟨fun h => by rw [h], fun h => Sum.inl.inj h⟩
  | .inr i, .inr j => by
    show decide (i = j) = _
    exact decide_eq_decide.mpr ⟨fun h => by rw [h], fun h => Sum.inr.inj h⟩
  | .inl i, .inr j => by rw [decide_eq_false (fun z => nomatch z)]; rfl
  | .inr i, .inl j => by rw [decide_eq_false (fun z => nomatch z)]; rfl
def eqKs : List Key → List Key → Bool
  | [], [] => true
  | a :: as, b :: bs => eqK a b && eqKs as bs
  | _, _ => false
theorem eqKs_ok : ∀ a b : List Key, eqKs a b = decide (a = b)
  | [], [] => by rw [decide_eq_true rfl]; rfl
  | [], b :: bs => by rw [decide_eq_false (fun z => nomatch z)]; rfl
  | a :: as, [] => by rw [decide_eq_false (fun z => nomatch z)]; rfl
  | a :: as, b :: bs => by
    unfold eqKs
    rw [eqK_ok, eqKs_ok]
    by_cases h1 : a = b
    · by_cases h2 : as = bs
      · rw [decide_eq_true h1, decide_eq_true h2, decide_eq_true (by rw [h1, h2])]; rfl
      · rw [decide_eq_true h1, decide_eq_false h2, decide_eq_false (fun z => h2 (List.cons.inj z).2)]; rfl
    · rw [decide_eq_false h1, decide_eq_false (fun z => h1 (List.cons.inj z).1)]; rfl
section
variable {κ : Type}
def lookB (eq : κ → κ → Bool) : List κ → List PV → κ → Option PV
  | k :: ks, v :: vs, q => bif eq k q then some v else lookB eq ks vs q
  | _, _, _ => none
def anyB (eq : κ → κ → Bool) : List κ → κ → Bool
  | k :: ks, q => bif eq k q then true else anyB eq ks q
  | _, _ => false
def replB (eq : κ → κ → Bool) : List κ → List PV → κ → PV → List PV
  | k :: ks, v :: vs, q, w => (bif eq k q then w else v) :: replB eq ks vs q w
  | _, _, _, _ => []
def putB (eq : κ → κ → Bool) (ks : List κ) (vs : List PV) (q : κ) (w : PV) : List κ × List PV := bif anyB eq ks q then (ks, replB eq ks vs q w) else (ks ++ [q], vs ++ [w])
end
def keysOf : List PV → Option (List Key)
  | [] => some []
  | .int i :: r => (keysOf r).map (.inl i :: ·)
  | .str i :: r => (keysOf r).map (.inr i :: ·)
  | _ :: _ => none
def keyOf : PV → Option DK
  | .int i => some (.k (.inl i))
  | .str x => some (.k (.inr x))
  | .tup xs => (keysOf xs).map .t
  | _ => none
def dGet (ks : DKs) (vs : List PV) (q : DK) : Option (Option PV) := match ks, q with
  | .k l, .k q => some (lookB eqK l vs q)
  | .t l, .t q => some (lookB eqKs l vs q)
  | _, _ => none
def dPut (ks : DKs) (vs : List PV) (q : DK) (w : PV) : Option (DKs × List PV) := match ks, q with
  | .k l, .k q => let z := putB eqK l vs q w; some (.k z.1, z.2)
  | .t l, .t q => let z := putB eqKs l vs q w; some (.t z.1, z.2)
  | _, _ => none
def OptR (G : Gam) (F : Hp) (r : List Addr) (o : Option PV) (o' : Option V) : Prop := match o with
  | some w => ∃ y, o' = some y ∧ RV G F r w y
  | none => o' = none
section
variable {G : Gam} {F : Hp} {r : List Addr} {κ : Type} [DecidableEq κ] {eq : κ → κ → Bool}
theorem lookB_ok (he : ∀ a b, eq a b = decide (a = b)) (q : κ) : ∀ {ks : List κ} {us : List V} {vs : List PV}, ks.length = us.length → RVs G F r vs us → OptR G F r (lookB eq ks vs q) (valV (ks.zip us) q)
  | [], us, vs, _, _ => by
    cases vs <;> exact valV_nil
  | k :: ks, [], vs, h, _ => by cases h
  | k :: ks, u :: us, [], _, k' => by cases (show (u :: us) = [] from k')
  | k :: ks, u :: us, v :: vs, h, k' => by
    obtain ⟨u', ur, e, k1, k2⟩ := k'
    cases e
    unfold lookB
    rw [he]
    by_cases hq : k = q
    · rw [decide_eq_true hq]
      exact ⟨u, by rw [List.zip_cons_cons, valV_pos hq], k1⟩
    · rw [decide_eq_false hq]
      have ih := lookB_ok he q (by simpa using h) k2
      rw [List.zip_cons_cons, valV_neg hq]
      exact ih
theorem anyB_ok (he : ∀ a b, eq a b = decide (a = b)) (q : κ) : ∀ {ks : List κ} {us : List V}, ks.length = us.length → anyB eq ks q = (ks.zip us).any fun kv => decide (kv.1 = q)
  | [], us, _ => rfl
  | k :: ks, [], h => by cases h
  | k :: ks, u :: us, h => by
    unfold anyB
    rw [he, List.zip_cons_cons, List.any_cons, anyB_ok he q (us := us) (by simpa using h)]
    cases decide (k = q) <;> rfl
theorem replB_ok (he : ∀ a b, eq a b = decide (a = b)) {q : κ} {w : PV} {y : V} (hw : RV G F r w y) : ∀ {ks : List κ} {us : List V} {vs : List PV}, ks.length = us.length → RVs G F r vs us →
    ∃ us', (ks.zip us).map (fun kv => if kv.1 = q then (kv.1, y) else kv) = ks.zip us' ∧ ks.length = us'.length ∧ RVs G F r (replB eq ks vs q w) us'
  | [], us, vs, _, _ => ⟨[], rfl, rfl, by cases vs <;> exact rfl⟩
  | k :: ks, [], vs, h, _ => by cases h
  | k :: ks, u :: us, [], _, k' => by cases (show (u :: us) = [] from k')
  | k :: ks, u :: us, v :: vs, h, k' => by
    obtain ⟨u', ur, e, k1, k2⟩ := k'
    cases e
    obtain ⟨us', e1, e2, e3⟩ := replB_ok he hw (by simpa using h) k2
    unfold replB
    rw [List.zip_cons_cons, List.map_cons, e1, he]
    by_cases hq : k = q
    · rw [decide_eq_true hq, if_pos hq]
      exact ⟨y :: us', rfl, by simpa using e2, y, us', rfl, hw, e3⟩
    · rw [decide_eq_false hq, if_neg hq]
      exact ⟨u :: us', rfl, by simpa using e2, u, us', rfl, k1, e3⟩
theorem putB_ok (he : ∀ a b, eq a b = decide (a = b)) {q : κ} {w : PV} {y : V} (hw : RV G F r w y) {ks : List κ} {us : List V} {vs : List PV} (hl : ks.length = us.length) (k : RVs G F r vs us) :
    ∃ us', putK (ks.zip us) q y = (putB eq ks vs q w).1.zip us' ∧ (putB eq ks vs q w).1.length = us'.length ∧ RVs G F r (putB eq ks vs q w).2 us' := by
  unfold putB putK
  rw [anyB_ok he q hl]
  cases hb : (ks.zip us).any fun kv => decide (kv.1 = q) with
  | true =>
    rw [if_pos rfl]
    exact replB_ok he hw hl k
  | false =>
    rw [if_neg Bool.false_ne_true]
    refine ⟨us ++ [y], ?_, ?_, k.append ⟨y, [], rfl, hw, rfl⟩⟩
    · show ks.zip us ++ [(q, y)] = (ks ++ [q]).zip (us ++ [y])
      rw [List.zip_append hl]
      rfl
    · show (ks ++ [q]).length = (us ++ [y]).length
      rw [List.length_append, List.length_append, hl]
      rfl
end
section
variable {G : Gam} {n0 : Nat} {g : Gh} {F : Hp} {r : List Addr} {S : Store} {H : Hp}
theorem keysOf_ok : ∀ {xs : List PV} {us : List V} {ks : List Key}, RVs G F r xs us → keysOf xs = some ks → us = ks.map kV
  | [], us, ks, q, e => by cases e; exact q
  | v :: vs, us, ks, q, e => by
    obtain ⟨u, ur, rfl, k, l⟩ := q
    cases v <;> try cases e
    · rename_i i
      have e : (keysOf vs).map (.inl i :: ·) = some ks := e
      cases e1 : keysOf vs with
      | none => rw [e1] at e; cases e
      | some ks' =>
        rw [e1] at e
        cases e
        rw [keysOf_ok l e1, show u = V.int i from k]
        rfl
    · rename_i i
      have e : (keysOf vs).map (.inr i :: ·) = some ks := e
      cases e1 : keysOf vs with
      | none => rw [e1] at e; cases e
      | some ks' =>
        rw [e1] at e
        cases e
        rw [keysOf_ok l e1, show u = V.str i from k]
        rfl
theorem keyOf_k {v : PV} {u : V} {k : Key} (q : RV G F r v u) (e : keyOf v = some (.k k)) : u = kV k := by
  cases v <;> try cases e
  · exact q
  · exact q
  · rename_i xs
    have e : (keysOf xs).map .t = some (DK.k k) := e
    cases e1 : keysOf xs with
    | none => rw [e1] at e; cases e
    | some => rw [e1] at e; cases e
theorem keyOf_t {v : PV} {u : V} {k : List Key} (q : RV G F r v u) (e : keyOf v = some (.t k)) : ∃ b, u = .ref b ∧ F b = some (.tup (k.map kV)) := by
  cases v <;> try cases e
  rename_i xs
  have e : (keysOf xs).map .t = some (DK.t k) := e
  cases e1 : keysOf xs with
  | none => rw [e1] at e; cases e
  | some ks =>
    rw [e1] at e
    cases e
    obtain ⟨a, us, rfl, k1, k2⟩ := q
    rw [keysOf_ok k2 e1] at k1
    exact ⟨a, rfl, k1⟩
theorem dGet_ok (h : HR G n0 g F r S H) {v w : PV} {u y : V} {ks : DKs} {vs : List PV} {q : DK} {o : Option PV} (qd : RV G F r v u) (ed : deref S v = some (.dct ks vs)) (qk : RV G F r w y) (ek : keyOf w = some q) (e : dGet ks vs q = some o) :
    ∃ a o', u = .ref a ∧ DGet H a y o' ∧ OptR G F r o o' := by
  obtain ⟨a, ho, us, rfl, k1, k2, k3⟩ := view_dct h qd ed
  cases ks with
  | k l =>
    obtain ⟨rfl, hl⟩ := k2
    cases q with
    | t q => cases e
    | k q =>
      have e : some (lookB eqK l vs q) = some o := e
      have e := Option.some.inj e
      refine ⟨a, valV (l.zip us) q, rfl, .inl ⟨_, q, k1, keyOf_k qk ek, rfl⟩, ?_⟩
      have := lookB_ok eqK_ok q hl k3
      rw [e] at this
      exact this
  | t l =>
    obtain ⟨rfl, hl⟩ := k2
    cases q with
    | k q => cases e
    | t q =>
      have e : some (lookB eqKs l vs q) = some o := e
      have e := Option.some.inj e
      obtain ⟨b, rfl, eb⟩ := keyOf_t qk ek
      refine ⟨a, valV (l.zip us) q, rfl, .inr ⟨_, q, b, k1, rfl, h.sub.tpH eb, rfl⟩, ?_⟩
      have := lookB_ok eqKs_ok q hl k3
      rw [e] at this
      exact this
end
end PX
set_option Elab.async false
set_option linter.all false
set_option maxRecDepth 100000
set_option maxHeartbeats 2000000
namespace ZG
open PySem RZ
def SqIt (b : Bool) (h : Heap) (it l : Addr) (i : Nat) : Prop := match b with
  | true => h.IsTupleIter it l i
  | false => h.IsListIter it l i
def SqOb (b : Bool) (h : Heap) (l : Addr) (items : Array Value) : Prop := match b with
  | true => h.IsTuple l items
  | false => h.IsList l items
section
variable {b : Bool} {h h' : Heap} {it l : Addr} {i : Nat} {items : Array Value}
theorem SqIt.at_ (q : SqIt b h it l i) (k : ∀ o, h.get? it = some o → h'.get? it = some o) : SqIt b h' it l i := by
  cases b with
  | true => exact Heap.IsTupleIter.at q k
  | false => exact Heap.IsListIter.at q k
theorem SqIt.obj (q : SqIt b h it l i) : ∃ o vs, h.get? it = some o ∧ o.data = .fields vs := by
  cases b with
  | true =>
    obtain ⟨o, e, _, d⟩ := q
    exact ⟨o, _, e, d⟩
  | false =>
    obtain ⟨o, e, _, d⟩ := q
    exact ⟨o, _, e, d⟩
theorem SqIt.lt (q : SqIt b h it l i) : it < h.objs.size := by
  obtain ⟨o, _, e, _⟩ := q.obj
  exact Heap.lt_size e
theorem SqIt.extBut {z : Addr} (q : SqIt b h it l i) (k : Heap.ExtBut z h h') (hz : it ≠ z) : SqIt b h' it l i := q.at_ fun o e => k _ _ hz e
theorem SqOb.extBut {z : Addr} (q : SqOb b h l items) (k : Heap.ExtBut z h h') (hz : l ≠ z) : SqOb b h' l items := by
  cases b with
  | true =>
    obtain ⟨o, e, r⟩ := (show h.IsTuple l items from q)
    exact (show h'.IsTuple l items from ⟨o, k _ _ hz e, r⟩)
  | false =>
    obtain ⟨o, e, r⟩ := (show h.IsList l items from q)
    exact (show h'.IsList l items from ⟨o, k _ _ hz e, r⟩)
theorem SqOb.push (q : SqOb b h l items) (o : Obj) : SqOb b (h.push o) l items := by
  cases b with
  | true =>
    obtain ⟨o', e, r⟩ := (show h.IsTuple l items from q)
    exact (show (h.push o).IsTuple l items from ⟨o', Heap.get?_push_of_some _ e, r⟩)
  | false =>
    obtain ⟨o', e, r⟩ := (show h.IsList l items from q)
    exact (show (h.push o).IsList l items from ⟨o', Heap.get?_push_of_some _ e, r⟩)
end
section
variable {prog : Program} {w : World} {A : Around} {E : Value → Shared → Prop} {s : Shared}
theorem nextOf_item {b : Bool} {it l : Addr} {i : Nat} {items : Array Value} {x : Value} {Q : Value → Shared → Prop} (hit : SqIt b s.heap it l i)
    (hl : SqOb b s.heap l items) (hx : items[i]? = some x)
    (hQ : ∀ h', SqIt b h' it l (i + 1) → Heap.SameBut it s.heap h' → Q x { s with heap := h' }) :
    wpAny (model prog w) A (Builtin.SmallTypes.nextOf (.ref it)) Q E s := by
  cases b with
  | true => exact nextOf_tuple_item hit hl hx hQ
  | false => exact wpAny_nextOf_list_item hit hl hx hQ
theorem nextOf_end {b : Bool} {it l : Addr} {i : Nat} {items : Array Value} {Q : Value → Shared → Prop} (hh : A.handled = none)
    (hit : SqIt b s.heap it l i) (hl : SqOb b s.heap l items) (hx : items[i]? = none)
    (hE : ∀ h' e, Heap.ExtBut it s.heap h' → (∃ o, h'.get? e = some o ∧ o.cls = .type "StopIteration") → E (.ref e) { s with heap := h' }) :
    wpAny (model prog w) A (Builtin.SmallTypes.nextOf (.ref it)) Q E s := by
  cases b with
  | true => exact nextOf_tuple_end hh hit hl hx hE
  | false => exact wpAny_nextOf_list_end hh hit hl hx hE
theorem zipG_next_item {b1 b2 : Bool} {z TI TO i1 i2 l1 l2 : Addr} {k1 k2 : Nat} {xs ys : Array Value} {x y a b : Value} {Q : Value → Shared → Prop} (D : ZipApart z TI TO i1 i2 l1 l2)
    (hz : IsZip s.heap z TI TO .none) (hTI : IsPair s.heap TI (.ref i1) (.ref i2)) (hTO : IsPair s.heap TO a b)
    (h1 : SqIt b1 s.heap i1 l1 k1) (h2 : SqIt b2 s.heap i2 l2 k2) (hl1 : SqOb b1 s.heap l1 xs) (hl2 : SqOb b2 s.heap l2 ys) (hx : xs[k1]? = some x) (hy : ys[k2]? = some y)
    (hQ : ∀ h', IsZip h' z TI TO (rawInt s.heap.objs.size) → IsPair h' TO x y → SqIt b1 h' i1 l1 (k1 + 1) → SqIt b2 h' i2 l2 (k2 + 1) → IsPair h' s.heap.objs.size x y → h'.objs.size = s.heap.objs.size + 1 →
      (∀ c o, c ≠ z → c ≠ TO → c ≠ i1 → c ≠ i2 → s.heap.get? c = some o → h'.get? c = some o) → Q (.ref s.heap.objs.size) { s with heap := h' }) :
    wpAny (model prog w) A (Builtin.«zip.__next__» ⟨[.ref z], []⟩) (fun fin s' => ∃ v, fin = .done (.ret v) ∧ Q v s') E s := by
  show wpAny _ _ (field (.ref z) 2 >>= _) _ _ _
  refine wpAny_bind (wpAny_field hz rfl (x := .bool false) rfl ?_)
  show wpAny _ _ (field (.ref z) 3 >>= _) _ _ _
  refine wpAny_bind (wpAny_field hz rfl (x := .ref TI) rfl ?_)
  refine wpAny_bind (wpAny_seqItems hTI rfl ?_)
  show wpAny _ _ (Builtin.SmallTypes.ownedTupleIsFree (.ref z) >>= _) _ _ _
  refine wpAny_bind ?_
  unfold Builtin.SmallTypes.ownedTupleIsFree
  refine wpAny_bind (wpAny_field hz rfl (x := .none) rfl (wpAny_pure ?_))
  simp only [if_true]
  refine wpAny_bind (wpAny_rule ?_)
  refine wpAny_bind (wpAny_field hz rfl (x := .ref TO) rfl ?_)
  refine wpAny_bind (wpAny_setField_rec hz (by simp) fun h₁ hz₁ hs₁ => ?_)
  replace hz₁ : IsZip h₁ z TI TO .ellipsis := hz₁
  refine wpAny_bind ?_
  simp only [List.zipIdx_cons, List.zipIdx_nil, List.forIn_cons, List.forIn_nil]

  refine wpAny_bind (wpAny_bind (wpAny_onRaise ?_))
  show wpAny _ _ (Builtin.SmallTypes.nextOf (.ref i1) >>= _) _ _ _
  refine wpAny_bind (nextOf_item (h1.extBut hs₁.extBut D.i1z) (hl1.extBut hs₁.extBut D.l1z) hx fun h₂ h1₂ hs₂ => wpAny_pure ?_)
  have hTO₂ : IsPair h₂ TO a b := hs₂.extBut _ _ D.TOi1 (hs₁.extBut _ _ D.TOz hTO)
  refine wpAny_bind (wpAny_seqItems hTO₂ rfl ?_)
  refine wpAny_bind (wpAny_updateSeq_pair hTO₂ fun h₃ hTO₃ hs₃ => ?_)
  replace hTO₃ : IsPair h₃ TO x b := hTO₃
  refine wpAny_bind (wpAny_letGo (wpAny_pure ?_))

  refine wpAny_bind (wpAny_bind (wpAny_onRaise ?_))
  show wpAny _ _ (Builtin.SmallTypes.nextOf (.ref i2) >>= _) _ _ _
  refine wpAny_bind (nextOf_item (((h2.extBut hs₁.extBut D.i2z).extBut hs₂.extBut D.i12.symm).extBut hs₃.extBut D.TOi2.symm)
    (((hl2.extBut hs₁.extBut D.l2z).extBut hs₂.extBut D.l2i1).extBut hs₃.extBut D.l2TO) hy fun h₄ h2₄ hs₄ => wpAny_pure ?_)
  have hTO₄ : IsPair h₄ TO x b := hs₄.extBut _ _ D.TOi2 hTO₃
  refine wpAny_bind (wpAny_seqItems hTO₄ rfl ?_)
  refine wpAny_bind (wpAny_updateSeq_pair hTO₄ fun h₅ hTO₅ hs₅ => ?_)
  replace hTO₅ : IsPair h₅ TO x y := hTO₅
  refine wpAny_bind (wpAny_letGo (wpAny_pure (wpAny_pure ?_)))

  refine wpAny_bind (wpAny_seqItems hTO₅ rfl ?_)
  refine wpAny_bind (wpAny_newTuple ?_)
  have hsz : h₅.objs.size = s.heap.objs.size := by rw [hs₅.1, hs₄.1, hs₃.1, hs₂.1, hs₁.1]
  have hz₅ : IsZip h₅ z TI TO .ellipsis := hs₅.extBut _ _ D.TOz.symm (hs₄.extBut _ _ D.i2z.symm (hs₃.extBut _ _ D.TOz.symm (hs₂.extBut _ _ D.i1z.symm hz₁)))
  have hk₅ : ∀ c o, c ≠ z → c ≠ TO → c ≠ i1 → c ≠ i2 → s.heap.get? c = some o → h₅.get? c = some o := fun c o c1 c2 c3 c4 e =>
    hs₅.extBut _ _ c2 (hs₄.extBut _ _ c4 (hs₃.extBut _ _ c2 (hs₂.extBut _ _ c3 (hs₁.extBut _ _ c1 e))))
  have h1₅ : SqIt b1 h₅ i1 l1 (k1 + 1) := ((h1₂.extBut hs₃.extBut D.TOi1.symm).extBut hs₄.extBut D.i12).extBut hs₅.extBut D.TOi1.symm
  have h2₅ : SqIt b2 h₅ i2 l2 (k2 + 1) := h2₄.extBut hs₅.extBut D.TOi2.symm
  have hzlt : z < h₅.objs.size := Heap.lt_size hz₅
  have hTOlt : TO < h₅.objs.size := Heap.lt_size hTO₅
  have hi1lt : i1 < h₅.objs.size := h1₅.lt
  have hi2lt : i2 < h₅.objs.size := h2₅.lt
  show wpAny _ _ (Builtin.SmallTypes.ownedTupleHandOut (.ref z) (.ref h₅.objs.size) >>= _) _ _ _
  refine wpAny_bind ?_
  unfold Builtin.SmallTypes.ownedTupleHandOut
  have hz₆ : IsZip (h₅.push { cls := .type "tuple", data := .seq #[x, y] }) z TI TO .ellipsis := Heap.get?_push_of_some _ hz₅
  refine wpAny_bind (wpAny_setField_rec hz₆ (by simp) fun h₇ hz₇ hs₇ => ?_)
  replace hz₇ : IsZip h₇ z TI TO (rawInt h₅.objs.size) := hz₇
  refine wpAny_setField_rec hz₇ (by simp) fun h₈ hz₈ hs₈ => ?_
  replace hz₈ : IsZip h₈ z TI TO (rawInt h₅.objs.size) := hz₈
  have up : ∀ c o, c ≠ z → h₅.get? c = some o → h₈.get? c = some o := fun c o c1 e => hs₈.extBut _ _ c1 (hs₇.extBut _ _ c1 (Heap.get?_push_of_some _ e))
  have hT₈ : IsPair h₈ h₅.objs.size x y := hs₈.extBut _ _ (Nat.ne_of_gt hzlt) (hs₇.extBut _ _ (Nat.ne_of_gt hzlt) (Heap.get?_push_size _ rfl))
  have hz8 : h₈.objs.size = h₅.objs.size + 1 := by rw [hs₈.1, hs₇.1, Heap.size_push]
  rw [hsz] at hz₈ hT₈ hz8
  refine wpAny_pure ⟨_, rfl, ?_⟩
  show Q (.ref h₅.objs.size) _
  rw [hsz]
  exact hQ h₈ hz₈ (up _ _ D.TOz hTO₅) (h1₅.at_ fun o e => up _ o D.i1z e) (h2₅.at_ fun o e => up _ o D.i2z e) hT₈ hz8 fun c o c1 c2 c3 c4 e => up c o c1 (hk₅ c o c1 c2 c3 c4 e)
theorem zipG_next_end {b1 b2 : Bool} {z TI TO i1 i2 l1 l2 : Addr} {k1 k2 : Nat} {xs ys : Array Value} {a b : Value} {Q : Fin → Shared → Prop} (hh : A.handled = none) (D : ZipApart z TI TO i1 i2 l1 l2)
    (hz : IsZip s.heap z TI TO .none) (hTI : IsPair s.heap TI (.ref i1) (.ref i2)) (hTO : IsPair s.heap TO a b)
    (h1 : SqIt b1 s.heap i1 l1 k1) (h2 : SqIt b2 s.heap i2 l2 k2) (hl1 : SqOb b1 s.heap l1 xs) (hl2 : SqOb b2 s.heap l2 ys) (hend : xs[k1]? = none ∨ ys[k2]? = none)
    (hE : ∀ h' e, (∀ c o, c ≠ z → c ≠ TO → c ≠ i1 → c ≠ i2 → s.heap.get? c = some o → h'.get? c = some o) → (∃ o, h'.get? e = some o ∧ o.cls = .type "StopIteration") → E (.ref e) { s with heap := h' }) :
    wpAny (model prog w) A (Builtin.«zip.__next__» ⟨[.ref z], []⟩) Q E s := by
  show wpAny _ _ (field (.ref z) 2 >>= _) _ _ _
  refine wpAny_bind (wpAny_field hz rfl (x := .bool false) rfl ?_)
  show wpAny _ _ (field (.ref z) 3 >>= _) _ _ _
  refine wpAny_bind (wpAny_field hz rfl (x := .ref TI) rfl ?_)
  refine wpAny_bind (wpAny_seqItems hTI rfl ?_)
  show wpAny _ _ (Builtin.SmallTypes.ownedTupleIsFree (.ref z) >>= _) _ _ _
  refine wpAny_bind ?_
  unfold Builtin.SmallTypes.ownedTupleIsFree
  refine wpAny_bind (wpAny_field hz rfl (x := .none) rfl (wpAny_pure ?_))
  simp only [if_true]
  refine wpAny_bind (wpAny_rule ?_)
  refine wpAny_bind (wpAny_field hz rfl (x := .ref TO) rfl ?_)
  refine wpAny_bind (wpAny_setField_rec hz (by simp) fun h₁ hz₁ hs₁ => ?_)
  replace hz₁ : IsZip h₁ z TI TO .ellipsis := hz₁
  refine wpAny_bind ?_
  simp only [List.zipIdx_cons, List.zipIdx_nil, List.forIn_cons, List.forIn_nil]
  refine wpAny_bind (wpAny_bind (wpAny_onRaise ?_))
  show wpAny _ _ (Builtin.SmallTypes.nextOf (.ref i1) >>= _) _ _ _
  cases hx : xs[k1]? with
  | none =>
    refine wpAny_bind (nextOf_end hh (h1.extBut hs₁.extBut D.i1z) (hl1.extBut hs₁.extBut D.l1z) hx fun h₂ e hs₂ he => ?_)
    obtain ⟨oe, hoe, hce⟩ := he
    have hz₂ : IsZip h₂ z TI TO .ellipsis := hs₂ _ _ D.i1z.symm hz₁
    have hez : e ≠ z := fun x => by subst x; rw [hz₂] at hoe; cases hoe; simp at hce
    refine wpAny_setField_rec hz₂ (by simp) fun h₃ _ hs₃ => hE h₃ e (fun c o c1 _ c3 _ x => hs₃.extBut _ _ c1 (hs₂ _ _ c3 (hs₁.extBut _ _ c1 x))) ⟨oe, hs₃.extBut _ _ hez hoe, hce⟩
  | some x =>
    have hy : ys[k2]? = none := by rcases hend with h | h; rw [hx] at h; cases h; exact h
    refine wpAny_bind (nextOf_item (h1.extBut hs₁.extBut D.i1z) (hl1.extBut hs₁.extBut D.l1z) hx fun h₂ h1₂ hs₂ => wpAny_pure ?_)
    have hTO₂ : IsPair h₂ TO a b := hs₂.extBut _ _ D.TOi1 (hs₁.extBut _ _ D.TOz hTO)
    refine wpAny_bind (wpAny_seqItems hTO₂ rfl ?_)
    refine wpAny_bind (wpAny_updateSeq_pair hTO₂ fun h₃ hTO₃ hs₃ => ?_)
    refine wpAny_bind (wpAny_letGo (wpAny_pure ?_))
    refine wpAny_bind (wpAny_bind (wpAny_onRaise ?_))
    show wpAny _ _ (Builtin.SmallTypes.nextOf (.ref i2) >>= _) _ _ _
    refine wpAny_bind (nextOf_end hh (((h2.extBut hs₁.extBut D.i2z).extBut hs₂.extBut D.i12.symm).extBut hs₃.extBut D.TOi2.symm)
      (((hl2.extBut hs₁.extBut D.l2z).extBut hs₂.extBut D.l2i1).extBut hs₃.extBut D.l2TO) hy fun h₄ e hs₄ he => ?_)
    obtain ⟨oe, hoe, hce⟩ := he
    have hz₄ : IsZip h₄ z TI TO .ellipsis := hs₄ _ _ D.i2z.symm (hs₃.extBut _ _ D.TOz.symm (hs₂.extBut _ _ D.i1z.symm hz₁))
    have hez : e ≠ z := fun x => by subst x; rw [hz₄] at hoe; cases hoe; simp at hce
    refine wpAny_setField_rec hz₄ (by simp) fun h₅ _ hs₅ => hE h₅ e (fun c o c1 c2 c3 c4 x => hs₅.extBut _ _ c1 (hs₄ _ _ c4 (hs₃.extBut _ _ c2 (hs₂.extBut _ _ c3 (hs₁.extBut _ _ c1 x))))) ⟨oe, hs₅.extBut _ _ hez hoe, hce⟩
theorem pyNext_zipG_item {b1 b2 : Bool} {z TI TO i1 i2 l1 l2 : Addr} {k1 k2 : Nat} {xs ys : Array Value} {x y a b : Value} {Q : Option Value → Shared → Prop} (D : ZipApart z TI TO i1 i2 l1 l2)
    (hz : IsZip s.heap z TI TO .none) (hTI : IsPair s.heap TI (.ref i1) (.ref i2)) (hTO : IsPair s.heap TO a b)
    (h1 : SqIt b1 s.heap i1 l1 k1) (h2 : SqIt b2 s.heap i2 l2 k2) (hl1 : SqOb b1 s.heap l1 xs) (hl2 : SqOb b2 s.heap l2 ys) (hx : xs[k1]? = some x) (hy : ys[k2]? = some y)
    (hQ : ∀ h', IsZip h' z TI TO (rawInt s.heap.objs.size) → IsPair h' TO x y → SqIt b1 h' i1 l1 (k1 + 1) → SqIt b2 h' i2 l2 (k2 + 1) → IsPair h' s.heap.objs.size x y → h'.objs.size = s.heap.objs.size + 1 →
      (∀ c o, c ≠ z → c ≠ TO → c ≠ i1 → c ≠ i2 → s.heap.get? c = some o → h'.get? c = some o) → Q (some (.ref s.heap.objs.size)) { s with heap := h' }) :
    wpAny (model prog w) A (pyNext (.ref z)) Q E s := by
  have hT : s.TypeIs (.ref z) "zip" := ⟨_, hz, rfl⟩
  unfold pyNext
  exact wpAny_bind (wpAny_attempt (wpAny_callSpecial?_slot (name := Str.ofString "__next__") hT F.slot_zip_next
    (wpAny_call_entry F.slot_zip_next hT F.entry_zip_next
      (zipG_next_item D hz hTI hTO h1 h2 hl1 hl2 hx hy fun h' a1 a2 a3 a4 a5 a6 a7 => wpAny_pure (hQ h' a1 a2 a3 a4 a5 a6 a7)) (F.args_zip_next_1 _))))
theorem pyNext_zipG_end {b1 b2 : Bool} {z TI TO i1 i2 l1 l2 : Addr} {k1 k2 : Nat} {xs ys : Array Value} {a b : Value} {Q : Option Value → Shared → Prop} (hh : A.handled = none) (D : ZipApart z TI TO i1 i2 l1 l2)
    (hz : IsZip s.heap z TI TO .none) (hTI : IsPair s.heap TI (.ref i1) (.ref i2)) (hTO : IsPair s.heap TO a b)
    (h1 : SqIt b1 s.heap i1 l1 k1) (h2 : SqIt b2 s.heap i2 l2 k2) (hl1 : SqOb b1 s.heap l1 xs) (hl2 : SqOb b2 s.heap l2 ys) (hend : xs[k1]? = none ∨ ys[k2]? = none)
    (hQ : ∀ h', (∀ c o, c ≠ z → c ≠ TO → c ≠ i1 → c ≠ i2 → s.heap.get? c = some o → h'.get? c = some o) → Q none { s with heap := h' }) : wpAny (model prog w) A (pyNext (.ref z)) Q E s := by
  have hT : s.TypeIs (.ref z) "zip" := ⟨_, hz, rfl⟩
  unfold pyNext
  refine wpAny_bind (wpAny_attempt (wpAny_callSpecial?_slot (name := Str.ofString "__next__") hT F.slot_zip_next
    (wpAny_call_entry F.slot_zip_next hT F.entry_zip_next (zipG_next_end hh D hz hTI hTO h1 h2 hl1 hl2 hend fun h' e hk he => ?_) (F.args_zip_next_1 _))))
  obtain ⟨o, ho, hc⟩ := he
  refine wpAny_bind (wpAny_isInstance (T := "StopIteration") (b := true) ⟨o, ho, hc⟩ isSubtype_stop ?_)
  exact wpAny_pure (hQ _ hk)
end
def itObj (b : Bool) (l : Addr) : Obj := { cls := .type (bif b then "tuple_iterator" else "list_iterator"), data := .fields #[.ref l, .int 0 0] }
theorem SqIt.new {b : Bool} {h : Heap} {it l : Addr} (e : h.get? it = some (itObj b l)) : SqIt b h it l 0 := by
  cases b with
  | true => exact ⟨_, e, rfl, rfl⟩
  | false => exact ⟨_, e, rfl, rfl⟩
theorem pyIter_sq {prog : Program} {w : World} {A : Around} {E : Value → Shared → Prop} {s : Shared} {b : Bool} {l : Addr} {items : Array Value} {Q : Value → Shared → Prop} (hl : SqOb b s.heap l items)
    (h : Q (.ref s.heap.objs.size) { s with heap := s.heap.push (itObj b l) }) : wpAny (model prog w) A (pyIter (.ref l)) Q E s := by
  cases b with
  | true => exact wpAny_pyIter_tuple hl h
  | false => exact wpAny_pyIter_list hl h
abbrev zH1 (b1 : Bool) (h : Heap) (l1 : Addr) : Heap := h.push (itObj b1 l1)
abbrev zH2 (b1 b2 : Bool) (h : Heap) (l1 l2 : Addr) : Heap := (zH1 b1 h l1).push (itObj b2 l2)
abbrev zH3 (b1 b2 : Bool) (h : Heap) (l1 l2 : Addr) : Heap := (zH2 b1 b2 h l1 l2).push { cls := .type "tuple", data := .seq #[.ref h.objs.size, .ref (zH1 b1 h l1).objs.size] }
abbrev zH4 (b1 b2 : Bool) (h : Heap) (l1 l2 : Addr) : Heap := (zH3 b1 b2 h l1 l2).push { cls := .type "tuple", data := .seq #[.none, .none] }
abbrev zH5 (b1 b2 : Bool) (h : Heap) (l1 l2 : Addr) : Heap := (zH4 b1 b2 h l1 l2).push { cls := .type "zip", data := .fields #[.none, .bool false, .bool false, .ref (zH2 b1 b2 h l1 l2).objs.size, .ref (zH3 b1 b2 h l1 l2).objs.size] }
theorem meets_zipG_new (b1 b2 : Bool) (l1 l2 : Addr) (xs ys : Array Value) :
    Meets (Builtin.«zip.__new__» ⟨[.type "zip", .ref l1, .ref l2], []⟩) (fun _ R s => SqOb b1 s.heap l1 xs ∧ SqOb b2 s.heap l2 ys ∧
      R (.ok (.ret (.ref (zH4 b1 b2 s.heap l1 l2).objs.size))) { s with heap := zH5 b1 b2 s.heap l1 l2 }) :=
  .of_wp fun prog w A R s h => by
    obtain ⟨hp, g, d, tk, os⟩ := s; obtain ⟨hl1, hl2, h⟩ := h
    have hsub := sub_zip
    have hL1 : SqOb b1 (Shared.heap ⟨hp, g, d, tk, os⟩) l1 xs := hl1
    have hL2 : SqOb b2 (Shared.heap ⟨hp.push (itObj b1 l1), g, d, tk, os⟩) l2 ys := SqOb.push hl2 _
    wp_walk using pyIter_sq hL1, pyIter_sq hL2
    exact ⟨_, rfl, h⟩
theorem call_zipG {prog : Program} {w : World} {A : Around} {E : Value → Shared → Prop} {s : Shared} {b1 b2 : Bool} {l1 l2 : Addr} {xs ys : Array Value} {Q : Value → Shared → Prop} (hl1 : SqOb b1 s.heap l1 xs) (hl2 : SqOb b2 s.heap l2 ys)
    (h : ∀ h', IsZip h' (s.heap.objs.size + 4) (s.heap.objs.size + 2) (s.heap.objs.size + 3) .none → IsPair h' (s.heap.objs.size + 2) (.ref s.heap.objs.size) (.ref (s.heap.objs.size + 1)) →
      IsPair h' (s.heap.objs.size + 3) .none .none → SqIt b1 h' s.heap.objs.size l1 0 → SqIt b2 h' (s.heap.objs.size + 1) l2 0 → h'.objs.size = s.heap.objs.size + 5 →
      (∀ c o, s.heap.get? c = some o → h'.get? c = some o) → Q (.ref (s.heap.objs.size + 4)) { s with heap := h' }) :
    wpAny (model prog w) A (call (.type "zip") [.ref l1, .ref l2]) Q E s := by
  refine callType_new F.called_zip (by decide) (F.typeCall_zip_2 _ _) (F.newCall_zip_2 _ _) (fun obj => F.args_object_init_3 obj _ _) F.entry_zip_new
    (meets_zipG_new b1 b2 l1 l2 xs ys) ⟨hl1, hl2, ?_⟩
  have fr1 : (itObj b1 l1).isFreed = false := by cases b1 <;> rfl
  have fr2 : (itObj b2 l2).isFreed = false := by cases b2 <;> rfl
  have z1 : (zH1 b1 s.heap l1).objs.size = s.heap.objs.size + 1 := Heap.size_push ..
  have z2 : (zH2 b1 b2 s.heap l1 l2).objs.size = s.heap.objs.size + 2 := by rw [Heap.size_push, z1]
  have z3 : (zH3 b1 b2 s.heap l1 l2).objs.size = s.heap.objs.size + 3 := by rw [Heap.size_push, z2]
  have z4 : (zH4 b1 b2 s.heap l1 l2).objs.size = s.heap.objs.size + 4 := by rw [Heap.size_push, z3]
  have z5 : (zH5 b1 b2 s.heap l1 l2).objs.size = s.heap.objs.size + 5 := by rw [Heap.size_push, z4]
  have g5 : (zH5 b1 b2 s.heap l1 l2).get? (zH4 b1 b2 s.heap l1 l2).objs.size = some _ := Heap.get?_push_size _ rfl
  have g4 : (zH5 b1 b2 s.heap l1 l2).get? (zH3 b1 b2 s.heap l1 l2).objs.size = some _ := Heap.get?_push_of_some _ (Heap.get?_push_size _ rfl)
  have g3 : (zH5 b1 b2 s.heap l1 l2).get? (zH2 b1 b2 s.heap l1 l2).objs.size = some _ := Heap.get?_push_of_some _ (Heap.get?_push_of_some _ (Heap.get?_push_size _ rfl))
  have g2 : (zH5 b1 b2 s.heap l1 l2).get? (zH1 b1 s.heap l1).objs.size = some (itObj b2 l2) := Heap.get?_push_of_some _ (Heap.get?_push_of_some _ (Heap.get?_push_of_some _ (Heap.get?_push_size _ fr2)))
  have g1 : (zH5 b1 b2 s.heap l1 l2).get? s.heap.objs.size = some (itObj b1 l1) := Heap.get?_push_of_some _ (Heap.get?_push_of_some _ (Heap.get?_push_of_some _ (Heap.get?_push_of_some _ (Heap.get?_push_size _ fr1))))
  show _ ∧ _
  rw [z2, z3, z4] at g5
  rw [z1, z2] at g3
  rw [z3] at g4
  rw [z1] at g2
  rw [z4]
  exact ⟨⟨_, g5, rfl⟩, h _ g5 g3 g4 (SqIt.new g1) (SqIt.new g2) z5 fun c o x =>
    Heap.get?_push_of_some _ (Heap.get?_push_of_some _ (Heap.get?_push_of_some _ (Heap.get?_push_of_some _ (Heap.get?_push_of_some _ x))))⟩
open AutoSeq1 (wpAny_loadPart')
abbrev sqTy (b : Bool) : String := match b with
  | true => "tuple"
  | false => "list"
theorem SqOb.get {b : Bool} {h : Heap} {l : Addr} {items : Array Value} (q : SqOb b h l items) : ∃ dct n sl, h.get? l = some { cls := .type (sqTy b), dict := dct, data := .seq items n, slots := sl } := by
  cases b with
  | true =>
    obtain ⟨⟨c, dct, dt, sl⟩, hl, hc, n, hd⟩ := (show h.IsTuple l items from q)
    replace hc : c = .type "tuple" := hc
    replace hd : dt = .seq items n := hd
    subst hc hd
    exact ⟨dct, n, sl, hl⟩
  | false =>
    obtain ⟨⟨c, dct, dt, sl⟩, hl, hc, n, hd⟩ := (show h.IsList l items from q)
    replace hc : c = .type "list" := hc
    replace hd : dt = .seq items n := hd
    subst hc hd
    exact ⟨dct, n, sl, hl⟩
theorem meets_enumG_new (b : Bool) (l : Addr) (items : Array Value) :
    Meets (Builtin.«enumerate.__new__» ⟨[.type "enumerate", .ref l], []⟩) (fun _ R s => SqOb b s.heap l items ∧
      R (.ok (.ret (.ref (s.heap.push (itObj b l)).objs.size)))
        { s with heap := (s.heap.push (itObj b l)).push { cls := .type "enumerate", data := .fields #[.none, .bool false, .ref s.heap.objs.size, rawInt 0, .none, .none] } }) :=
  .of_wp fun prog w A R s h => by
    obtain ⟨hp, g, d, tk, os⟩ := s; obtain ⟨hl0, h⟩ := h
    obtain ⟨dct, n, sl, hl⟩ := hl0.get
    have hsub := sub_enumerate
    have hL : SqOb b (Shared.heap ⟨hp, g, d, tk, os⟩) l items := hl0
    cases b with
    | true =>
      wp_walk using wpAny_loadPart' hl
      refine wpAny_stack_any fun st => wpAny_pure ?_
      split
      · rename_i c _ _ _ _ _
        cases (c == Value.type "enumerate")
        · wp_walk using wpAny_loadPart' hl, pyIter_sq hL
          exact ⟨_, rfl, h⟩
        · wp_walk using wpAny_loadPart' hl, pyIter_sq hL
          exact ⟨_, rfl, h⟩
      · wp_walk using wpAny_loadPart' hl, pyIter_sq hL
        exact ⟨_, rfl, h⟩
    | false =>
      wp_walk using wpAny_loadPart' hl
      refine wpAny_stack_any fun st => wpAny_pure ?_
      split
      · rename_i c _ _ _ _ _
        cases (c == Value.type "enumerate")
        · wp_walk using wpAny_loadPart' hl, pyIter_sq hL
          exact ⟨_, rfl, h⟩
        · wp_walk using wpAny_loadPart' hl, pyIter_sq hL
          exact ⟨_, rfl, h⟩
      · wp_walk using wpAny_loadPart' hl, pyIter_sq hL
        exact ⟨_, rfl, h⟩
section
variable {prog : Program} {w : World} {A : Around} {E : Value → Shared → Prop} {s : Shared}
theorem call_enumG {b : Bool} {l : Addr} {items : Array Value} {Q : Value → Shared → Prop} (hL : SqOb b s.heap l items)
    (h : ∀ h', IsEnum h' (s.heap.objs.size + 1) s.heap.objs.size 0 .none → SqIt b h' s.heap.objs.size l 0 → h'.objs.size = s.heap.objs.size + 2 →
      (∀ b o, s.heap.get? b = some o → h'.get? b = some o) → Q (.ref (s.heap.objs.size + 1)) { s with heap := h' }) :
    wpAny (model prog w) A (call (.type "enumerate") [.ref l]) Q E s := by
  refine callType_new F.called_enumerate (by decide) (F.typeCall_enumerate_1 _) (F.newCall_enumerate_1 _) (fun obj => F.args_object_init_2 obj _) F.entry_enumerate_new
    (meets_enumG_new b l items) ⟨hL, ?_⟩
  have fr : (itObj b l).isFreed = false := by cases b <;> rfl
  have hz : (s.heap.push (itObj b l)).objs.size = s.heap.objs.size + 1 := Heap.size_push ..
  show _ ∧ _
  rw [hz]
  have he : IsEnum ((s.heap.push (itObj b l)).push
      { cls := .type "enumerate", data := .fields #[.none, .bool false, .ref s.heap.objs.size, rawInt 0, .none, .none] }) (s.heap.objs.size + 1) s.heap.objs.size 0 .none := by
    have := Heap.get?_push_size (s.heap.push (itObj b l))
      (o := { cls := .type "enumerate", data := .fields #[.none, .bool false, .ref s.heap.objs.size, rawInt 0, .none, .none] }) rfl
    rw [hz] at this; exact this
  exact ⟨⟨_, he, rfl⟩, h _ he (SqIt.new (Heap.get?_push_of_some _ (Heap.get?_push_size _ fr))) (by rw [Heap.size_push, hz]) fun b o x => Heap.get?_push_of_some _ (Heap.get?_push_of_some _ x)⟩
theorem drawsG (hh : A.handled = none) (b : Bool) (it l : Addr) (hne : l ≠ it) (items : Array Value) :
    Draws prog w A it [it, l] items.size (fun i v => items[i]? = some v) (fun i h => SqIt b h it l i ∧ SqOb b h l items) where
  live := fun _ _ st => by
    obtain ⟨o, _, e, _⟩ := st.1.obj
    exact ⟨o, e⟩
  frame := fun _ _ _ st hk => ⟨st.1.at_ fun o e => hk it (by simp) o e, by
    have q := st.2
    cases b with
    | true => exact Heap.IsTuple.at q fun o e => hk l (by simp) o e
    | false => exact Heap.IsList.at q fun o e => hk l (by simp) o e⟩
  item := fun i s Q E hi st hQ => by
    refine nextOf_item st.1 st.2 (x := items[i]) (by simp [hi]) fun h' hit' hs' => ?_
    exact hQ _ h' s.toks (by simp [hi]) ⟨hit', st.2.extBut hs'.extBut hne⟩ hs'
  done := fun s Q E st hE => nextOf_end hh st.1 st.2 (by simp) hE
theorem wpAny_pyNext_enum_endG {b : Bool} {e it l : Addr} {i : Nat} {items : Array Value} {old : Value} {Q : Option Value → Shared → Prop} (hh : A.handled = none)
    (he : IsEnum s.heap e it i old) (hit : SqIt b s.heap it l i) (hl : SqOb b s.heap l items) (hx : items[i]? = none)
    (hQ : ∀ h', Heap.ExtBut it s.heap h' → Q none { s with heap := h' }) : wpAny (model prog w) A (pyNext (.ref e)) Q E s := by
  have hT : s.TypeIs (.ref e) "enumerate" := ⟨_, he, rfl⟩
  unfold pyNext
  refine wpAny_bind (wpAny_attempt (wpAny_callSpecial?_slot (name := Str.ofString "__next__") hT F.slot_enumerate_next
    (wpAny_call_entry F.slot_enumerate_next hT F.entry_enumerate_next ?_ (F.args_enumerate_next_1 _))))
  show wpAny _ _ (field (.ref e) 2 >>= _) _ _ _
  refine wpAny_bind (wpAny_field he rfl (x := .ref it) rfl ?_)
  refine wpAny_bind (nextOf_end hh hit hl hx fun h' x he' hx' => ?_)
  obtain ⟨o, ho, hc⟩ := hx'
  refine wpAny_bind (wpAny_isInstance (T := "StopIteration") (b := true) ⟨o, ho, hc⟩ isSubtype_stop ?_)
  exact wpAny_pure (hQ _ he')
end
end ZG
set_option Elab.async false
set_option linter.all false
set_option maxRecDepth 100000
set_option maxHeartbeats 1000000
namespace PX
open PySem PySem.Spec PyProof.Rows L2 ZG
def SqG (b : Bool) (K : PySem.W.Frag) (H : Hp) (a : Addr) (xs : List V) : Prop := match b with
  | true => SqT K H a xs
  | false => SqL K H a xs
theorem Inv.sqG {X : Cx} {pins : List (Addr × Obj)} {σ : L2.St} {H : Hp} {s : Shared} {b : Bool} {a : Addr} {xs : List V} (I : L2.Inv X pins σ H s) (q : SqG b X.K H a xs) : ∃ its, Vals xs its ∧ SqOb b s.heap a its.toArray ∧ a < s.heap.objs.size := by
  cases b with
  | true =>
    obtain ⟨its, rv, p, _⟩ := I.tuple q
    obtain ⟨o, ho, _⟩ := id p
    exact ⟨its, rv, p, Heap.lt_size ho⟩
  | false =>
    obtain ⟨its, rv, p, _⟩ := I.list q
    exact ⟨its, rv, p.isList, p.lt⟩
theorem Inv.sqG_inj {X : Cx} {pins : List (Addr × Obj)} {σ : L2.St} {H : Hp} {s : Shared} {b : Bool} {a : Addr} {xs ys : List V} (I : L2.Inv X pins σ H s) (q : SqG b X.K H a xs) (q' : SqG b X.K H a ys) : xs = ys := by
  cases b with
  | true => exact I.tuple_inj q q'
  | false => exact I.list_inj q q'
def Iteg (K : PySem.W.Frag) (b : Bool) (a : Addr) : It :=
  ⟨fun i H => ∃ (xs : List V) (x : V), SqG b K H a xs ∧ xs[i]? = some x, fun i H v H' => ∃ T x, v = .ref T ∧ H T = none ∧ H' = upd H T (.tup [.int (i : Nat), x]) ∧ ∀ xs, SqG b K H a xs → xs[i]? = some x, fun i H => ∃ xs : List V, SqG b K H a xs ∧ xs.length ≤ i⟩
theorem turn_enumG {P : Program} {w : World} {K : PySem.W.Frag} {elts : List Expr} {kk : Nat} {tpos : Pos} (b : Bool) (a e it : Addr) :
    Turn P w K (.Tuple elts kk tpos) (Iteg K b a) [e, it] e (fun i h => (∃ old, IsEnum h e it ((i : Nat) : Int) old) ∧ SqIt b h it a i ∧ e ≠ it ∧ a ≠ it ∧ e ≠ a) where
  mem := by simp
  obj := fun i h st c hc => by
    obtain ⟨⟨old, he⟩, hit, _⟩ := st
    have e' : c = e ∨ c = it := by simpa using hc
    rcases e' with z | z
    · rw [z]; exact ⟨_, he, fun v q => nomatch q⟩
    · rw [z]
      obtain ⟨o, vs, ho, hd⟩ := hit.obj
      exact ⟨o, ho, fun v q => by rw [hd] at q; cases q⟩
  keep := fun i h h' st k => let ⟨⟨old, he⟩, hi, hne⟩ := st; ⟨⟨old, k e (by simp) _ he⟩, hi.at_ fun o q => k it (by simp) o q, hne⟩
  item := by
    intro X hP hw hK hc i pins s σ H E I hf st hg
    subst hP hw hK
    obtain ⟨⟨old, he⟩, hit, hne, hai, hea⟩ := st
    obtain ⟨xs, x, hq, hx⟩ := hg
    obtain ⟨its, rv, p, hz⟩ := Inv.sqG I hq
    obtain ⟨u, hu, ru⟩ := rv.get hx
    have hel : e < s.heap.objs.size := Heap.lt_size he
    have hil : it < s.heap.objs.size := hit.lt
    have hlt : i < its.toArray.size := by
      have := (List.getElem?_eq_some_iff.mp hu).1
      simpa using this
    refine wpAny_pyNext_enum_itemD (drawsG (A := X.A.in1) (I.ok.hd hc) b it a hai its.toArray) he ⟨hit, p⟩ hlt hne (by simp [hne, hea]) fun u' h' tk hP ho st' hT hsz hk => ?_
    have eu : u' = u := by
      have hP : its.toArray[i]? = some u' := hP
      rw [List.getElem?_toArray, hu] at hP
      exact (Option.some.inj hP).symm
    subst eu
    refine ⟨_, rfl, wpAny_letOwnedTupleGo_enum (s := { s with heap := h', toks := tk + 1 }) ho fun h'' he' sb => ?_⟩
    have hT2 : h''.get? s.heap.objs.size = some { cls := .type "tuple", data := .seq #[.int i tk, u'] } := (sb.2 _ (Nat.ne_of_gt hel)).trans hT
    have new : ObjOk X.prog X.w (upd H s.heap.objs.size (.tup [.int (i : Nat), x])) h'' s.heap.objs.size (.tup [.int (i : Nat), x]) :=
      ⟨by show 2 ≤ sizeLine; decide, [.int i tk, u'], .cons ⟨_, rfl⟩ (.cons ru .nil), ⟨_, hT2, rfl, _, rfl⟩⟩
    have I1 : L2.Inv X pins σ (upd H s.heap.objs.size (.tup [.int (i : Nat), x])) { s with heap := h'', toks := tk + 1 } :=
      I.turnedNew (t' := tk + 1) (ch := [e, it]) (fun c o hb q => (sb.2 c (fun q' => hb (by simp [q']))).trans (hk c o (fun q' => hb (by simp [q'])) (fun q' => hb (by simp [q'])) q)) hf (Nat.le_refl _) new
    refine ⟨.ref s.heap.objs.size, _, I1, rfl, ⟨_, x, rfl, I.hok.fresh (Nat.le_refl _), rfl, fun l hl => by rw [Inv.sqG_inj I hl hq]; exact hx⟩, ⟨⟨_, he'⟩, ?_, hne, hai, hea⟩, fun c hcm => ?_⟩
    · exact st'.1.at_ fun o q => (sb.2 _ hne.symm).trans q
    · have hlt : c < s.heap.objs.size := by
        have e' : c = e ∨ c = it := by simpa using hcm
        rcases e' with z | z
        · rw [z]; exact hel
        · rw [z]; exact hil
      rw [upd_ne (Nat.ne_of_lt hlt)]
      exact (hf c hcm).1
  done := by
    intro X hP hw hK hc i pins s σ H E I hf st hg
    subst hP hw hK
    obtain ⟨⟨old, he⟩, hit, hne, hai, hea⟩ := st
    obtain ⟨xs, hq, hx⟩ := hg
    obtain ⟨its, rv, p, hz⟩ := Inv.sqG I hq
    obtain ⟨f0, f1, f2, f3, f4, f5⟩ := hf it (by simp)
    have hl := rv.length
    have hn : its.toArray[i]? = none := by simp; omega
    refine wpAny_pyNext_enum_endG (I.ok.hd hc) he hit p hn fun h' eb => ⟨rfl, I.turned (t' := s.toks) (fun b o hb q => eb b o hb q) f0 f1 f3 f4 f5⟩
  self := fun A i s Q E st h => let ⟨⟨_, he⟩, _⟩ := st; wpAny_pyIter_enum he h
def Itzg (K : PySem.W.Frag) (b1 b2 : Bool) (a b : Addr) : It :=
  ⟨fun i H => ∃ (xs ys : List V) (x y : V), SqG b1 K H a xs ∧ SqG b2 K H b ys ∧ xs[i]? = some x ∧ ys[i]? = some y,
    fun i H v H' => ∃ T x y, v = .ref T ∧ H T = none ∧ H' = upd H T (.tup [x, y]) ∧ (∀ xs, SqG b1 K H a xs → xs[i]? = some x) ∧ ∀ ys, SqG b2 K H b ys → ys[i]? = some y,
    fun i H => ∃ xs ys : List V, SqG b1 K H a xs ∧ SqG b2 K H b ys ∧ (xs.length ≤ i ∨ ys.length ≤ i)⟩
theorem turn_zipG {P : Program} {w : World} {K : PySem.W.Frag} {elts : List Expr} {kk : Nat} {tpos : Pos} (b1 b2 : Bool) {a b z TI TO i1 i2 : Addr} (D : ZipApart z TI TO i1 i2 a b) :
    Turn P w K (.Tuple elts kk tpos) (Itzg K b1 b2 a b) [z, TI, TO, i1, i2] z (fun i h => IsZip h z TI TO .none ∧ IsPair h TI (.ref i1) (.ref i2) ∧ (∃ x y, IsPair h TO x y) ∧ SqIt b1 h i1 a i ∧ SqIt b2 h i2 b i) where
  mem := by simp
  obj := fun i h st c hc => by
    obtain ⟨hz, hTI, ⟨x, y, hTO⟩, h1, h2⟩ := st
    have e' : c = z ∨ c = TI ∨ c = TO ∨ c = i1 ∨ c = i2 := by simpa using hc
    rcases e' with q | q | q | q | q
    · rw [q]; exact ⟨_, hz, fun v q => nomatch q⟩
    · rw [q]; exact ⟨_, hTI, fun v q => nomatch q⟩
    · rw [q]; exact ⟨_, hTO, fun v q => nomatch q⟩
    · rw [q]
      obtain ⟨o1, _, e1, d1⟩ := h1.obj
      exact ⟨o1, e1, fun v q => by rw [d1] at q; cases q⟩
    · rw [q]
      obtain ⟨o1, _, e1, d1⟩ := h2.obj
      exact ⟨o1, e1, fun v q => by rw [d1] at q; cases q⟩
  keep := fun i h h' st k => by
    obtain ⟨hz, hTI, ⟨x, y, hTO⟩, h1, h2⟩ := st
    exact ⟨k z (by simp) _ hz, k TI (by simp) _ hTI, ⟨x, y, k TO (by simp) _ hTO⟩, h1.at_ fun o q => k i1 (by simp) o q, h2.at_ fun o q => k i2 (by simp) o q⟩
  item := by
    intro X hP hw hK hc i pins s σ H E I hf st hg
    subst hP hw hK
    obtain ⟨hz, hTI, ⟨x0, y0, hTO⟩, h1, h2⟩ := st
    obtain ⟨xs, ys, x, y, hqx, hqy, hx, hy⟩ := hg
    obtain ⟨its, rv, p, _⟩ := Inv.sqG I hqx
    obtain ⟨its2, rv2, p2, _⟩ := Inv.sqG I hqy
    obtain ⟨u, hu, ru⟩ := rv.get hx
    obtain ⟨u2, hu2, ru2⟩ := rv2.get hy
    have hzl : z < s.heap.objs.size := Heap.lt_size hz
    refine pyNext_zipG_item D hz hTI hTO h1 h2 p p2 (x := u) (y := u2) (by simpa using hu) (by simpa using hu2) fun h' z' TO' h1' h2' hT hsz hk => ?_
    refine ⟨_, rfl, wpAny_letOwnedTupleGo_zip (s := { s with heap := h' }) z' fun h'' z'' sb => ?_⟩
    have hT2 : h''.get? s.heap.objs.size = some { cls := .type "tuple", data := .seq #[u, u2] } := (sb.2 _ (Nat.ne_of_gt hzl)).trans hT
    have new : ObjOk X.prog X.w (upd H s.heap.objs.size (.tup [x, y])) h'' s.heap.objs.size (.tup [x, y]) :=
      ⟨by show 2 ≤ sizeLine; decide, [u, u2], .cons ru (.cons ru2 .nil), ⟨_, hT2, rfl, _, rfl⟩⟩
    have I1 : L2.Inv X pins σ (upd H s.heap.objs.size (.tup [x, y])) { s with heap := h'' } :=
      I.turnedNew (t' := s.toks) (ch := [z, TI, TO, i1, i2]) (fun c o hb q => (sb.2 c (fun q' => hb (by simp [q']))).trans (hk c o (fun q' => hb (by simp [q'])) (fun q' => hb (by simp [q'])) (fun q' => hb (by simp [q'])) (fun q' => hb (by simp [q'])) q)) hf (Nat.le_refl _) new
    refine ⟨.ref s.heap.objs.size, _, I1, rfl, ⟨_, x, y, rfl, I.hok.fresh (Nat.le_refl _), rfl, fun l hl => by rw [Inv.sqG_inj I hl hqx]; exact hx, fun l hl => by rw [Inv.sqG_inj I hl hqy]; exact hy⟩, ⟨z'', ?_, ⟨u, u2, ?_⟩, ?_, ?_⟩, fun c hcm => ?_⟩
    · exact (sb.2 _ D.TIz).trans (hk _ _ D.TIz D.TITO D.TIi1 D.TIi2 hTI)
    · exact (sb.2 _ D.TOz).trans TO'
    · exact h1'.at_ fun o q => (sb.2 _ D.i1z).trans q
    · exact h2'.at_ fun o q => (sb.2 _ D.i2z).trans q
    · have hlt : c < s.heap.objs.size := by
        have e' : c = z ∨ c = TI ∨ c = TO ∨ c = i1 ∨ c = i2 := by simpa using hcm
        rcases e' with q | q | q | q | q
        · rw [q]; exact hzl
        · rw [q]; exact Heap.lt_size hTI
        · rw [q]; exact Heap.lt_size hTO
        · rw [q]; exact h1.lt
        · rw [q]; exact h2.lt
      rw [upd_ne (Nat.ne_of_lt hlt)]
      exact (hf c hcm).1
  done := by
    intro X hP hw hK hc i pins s σ H E I hf st hg
    subst hP hw hK
    obtain ⟨hz, hTI, ⟨x0, y0, hTO⟩, h1, h2⟩ := st
    obtain ⟨xs, ys, hqx, hqy, hend⟩ := hg
    obtain ⟨its, rv, p, _⟩ := Inv.sqG I hqx
    obtain ⟨its2, rv2, p2, _⟩ := Inv.sqG I hqy
    have l1 := rv.length
    have l2 := rv2.length
    have he : its.toArray[i]? = none ∨ its2.toArray[i]? = none := by
      rcases hend with q | q
      · exact .inl (by simp; omega)
      · exact .inr (by simp; omega)
    exact pyNext_zipG_end (I.ok.hd hc) D hz hTI hTO h1 h2 p p2 he fun h' hk => ⟨rfl, I.turnedL (t' := s.toks) (ch := [z, TI, TO, i1, i2]) (fun c o hb q =>
      hk c o (fun q' => hb (by simp [q'])) (fun q' => hb (by simp [q'])) (fun q' => hb (by simp [q'])) (fun q' => hb (by simp [q'])) q) hf⟩
  self := fun A i s Q E st h => wpAny_pyIter_zip st.1 h
def iSeqG (K : PySem.W.Frag) (tl : TE) : TI := fun σ H R => tl σ H fun x H1 => ∃ a b xs, x = .ref a ∧ SqG b K H1 a xs ∧ R (match b with
  | true => Itt K a
  | false => Itl K a) H1
theorem pi_seqG {X : Cx} {tg l : Expr} {tl : TE} (hl : PE X l tl) : PI X tg l (iSeqG X.K tl) := by
  refine ⟨fun pins s σ H R I h => ?_⟩
  refine thn (hl.run pins s σ H _ I h) fun v s1 ⟨x, H1, I1, r1, q1⟩ => ?_
  obtain ⟨a, b, xs, e, hq, q⟩ := q1
  subst e
  cases r1
  have fp : ∀ c ∈ [s1.heap.objs.size], FpOk X pins H1 c := fun c hc => by
    have e : c = s1.heap.objs.size := by simpa using hc
    subst e
    exact I1.fpOk (Nat.le_refl _) (I1.hok.fresh (Nat.le_refl _))
  cases b with
  | true =>
    obtain ⟨its, rv, p, hz⟩ := I1.tuple hq
    refine wpAny_pyIter_tuple (show s1.heap.IsTuple a its.toArray from p) ?_
    exact ⟨s1.heap.objs.size, [s1.heap.objs.size], _, _, H1, rfl, I1.kept (t' := s1.toks) fun b o e => Heap.get?_push_of_some _ e, turn_tuple a _, ⟨_, Heap.get?_push_size _ rfl, rfl, rfl⟩, fp, q⟩
  | false =>
    obtain ⟨its, rv, p, hz⟩ := I1.list hq
    refine wpAny_pyIter_list p.isList ?_
    exact ⟨s1.heap.objs.size, [s1.heap.objs.size], _, _, H1, rfl, I1.kept (t' := s1.toks) fun b o e => Heap.get?_push_of_some _ e, turn_list a _, ⟨_, Heap.get?_push_size _ rfl, rfl, rfl⟩, fp, q⟩
def iEnumG (K : PySem.W.Frag) (ta : TA) : TI := fun σ H R => ta σ H fun vs H1 => ∃ a b xs, vs = [.ref a] ∧ SqG b K H1 a xs ∧ R (Iteg K b a) H1
theorem pi_enumG {X : Cx} {e : Expr} {ta : TA} {p pos tpos : Pos} {elts : List Expr} {kk : Nat} (hg : Gl X "enumerate") (hm : X.mg "enumerate" = none) (ha : PA X [e] ta) (hs : starEach [e] X.env = [(false, eval e X.env)] := by rfl) :
    PI X (.Tuple elts kk tpos) (.Call (.Name "enumerate" p) [e] [] pos) (iEnumG X.K ta) := by
  refine ⟨fun pins s σ H R I h => ?_⟩
  refine Call_ (ld_blt I hg hm boot_enumerate (PyProof.Rows.callWith_type1 (thn (ha.run pos pins s σ H _ I h) fun us s1 ⟨vs, H1, I1, r1, q1⟩ => ?_) hs rfl))
  obtain ⟨a, b, xs, ex, hq, q⟩ := q1
  subst ex
  rw [Vals.ref1 r1]
  obtain ⟨its, rv, p', hz⟩ := Inv.sqG I1 hq
  refine call_enumG p' fun h' he hit hsz hk => wpAny_pyIter_enum he ?_
  have I2 : L2.Inv X pins σ H1 { s1 with heap := h' } := I1.kept (t' := s1.toks) hk
  refine ⟨s1.heap.objs.size + 1, [s1.heap.objs.size + 1, s1.heap.objs.size], _, _, H1, rfl, I2, turn_enumG b a (s1.heap.objs.size + 1) s1.heap.objs.size, ⟨⟨.none, he⟩, hit, Nat.succ_ne_self _, Nat.ne_of_lt hz, Nat.ne_of_gt (Nat.lt_succ_of_lt hz)⟩, fun c hc => ?_, q⟩
  have e' : c = s1.heap.objs.size + 1 ∨ c = s1.heap.objs.size := by simpa using hc
  have hle : s1.heap.objs.size ≤ c := by
    rcases e' with z | z
    · rw [z]; exact Nat.le_add_right _ _
    · rw [z]; exact Nat.le_refl _
  exact I1.fpOk hle (I1.hok.fresh hle)
def iZipG (K : PySem.W.Frag) (ta : TA) : TI := fun σ H R => ta σ H fun vs H1 => ∃ a b b1 b2 xs ys, vs = [.ref a, .ref b] ∧ SqG b1 K H1 a xs ∧ SqG b2 K H1 b ys ∧ R (Itzg K b1 b2 a b) H1
theorem pi_zipG {X : Cx} {e e2 : Expr} {ta : TA} {p pos tpos : Pos} {elts : List Expr} {kk : Nat} (hg : Gl X "zip") (hm : X.mg "zip" = none) (ha : PA X [e, e2] ta)
    (hs : starEach [e, e2] X.env = (false, eval e X.env) :: starEach [e2] X.env := by rfl) (hpl : (backTo pos (starEach [e2] X.env)).any (·.1) = false := by rfl) :
    PI X (.Tuple elts kk tpos) (.Call (.Name "zip" p) [e, e2] [] pos) (iZipG X.K ta) := by
  refine ⟨fun pins s σ H R I h => ?_⟩
  refine Call_ (ld_blt I hg hm PyProof.Rows.boot_zip (PyProof.Rows.callWith_type1 (thn (ha.run pos pins s σ H _ I h) fun us s1 ⟨vs, H1, I1, r1, q1⟩ => ?_) hs hpl))
  obtain ⟨a, b, b1, b2, xs, ys, ex, hqx, hqy, q⟩ := q1
  subst ex
  obtain ⟨u1, u2, rfl, ra, rb⟩ := r1.two
  cases (show u1 = Value.ref a from ra)
  cases (show u2 = Value.ref b from rb)
  have fresh5 : ∀ c, c ∈ [s1.heap.objs.size + 4, s1.heap.objs.size + 2, s1.heap.objs.size + 3, s1.heap.objs.size, s1.heap.objs.size + 1] → FpOk X pins H1 c := fun c hcm => by
    have hle : s1.heap.objs.size ≤ c := by
      simp only [List.mem_cons, List.mem_singleton, List.not_mem_nil, or_false] at hcm
      omega
    exact I1.fpOk hle (I1.hok.fresh hle)
  obtain ⟨its, rv, p1, l1⟩ := Inv.sqG I1 hqx
  obtain ⟨its2, rv2, p2, l2⟩ := Inv.sqG I1 hqy
  refine call_zipG p1 p2 fun h' hz hTI hTO h1 h2 hsz hk => wpAny_pyIter_zip hz ?_
  have I2 : L2.Inv X pins σ H1 { s1 with heap := h' } := I1.kept (t' := s1.toks) hk
  exact ⟨s1.heap.objs.size + 4, [s1.heap.objs.size + 4, s1.heap.objs.size + 2, s1.heap.objs.size + 3, s1.heap.objs.size, s1.heap.objs.size + 1], _, _, H1, rfl, I2, turn_zipG b1 b2 (PySem.W.ktu_apart s1.heap.objs.size a b l1 l2), ⟨hz, hTI, ⟨_, _, hTO⟩, h1, h2⟩, fresh5, q⟩
end PX
set_option Elab.async false
set_option linter.all false
set_option maxRecDepth 100000
set_option maxHeartbeats 1000000
namespace PX
open PySem PySem.Spec PyProof.Rows L2 ZG
def lockS (v : PV) (S : Store) : Option (List PV × List (Nat × PV) × Store) := match v with
  | .ref i => match S[i]? with
    | some (.lst xs) => some (xs, [(i, .lst xs)], S.set i (.lck (.lst xs)))
    | some (.lck (.lst xs)) => some (xs, [], S)
    | _ => none
  | .lst xs => some (xs, [], S)
  | .tup xs => some (xs, [], S)
  | _ => none
def enumL : Int → List PV → List PV
  | _, [] => []
  | k, x :: xs => .tup [.int k, x] :: enumL (k + 1) xs
def zipL : List PV → List PV → List PV
  | x :: xs, y :: ys => .tup [x, y] :: zipL xs ys
  | _, _ => []
def rngL : Int → Nat → List PV
  | _, 0 => []
  | lo, n + 1 => .int lo :: rngL (lo + 1) n
def iSeq (a : SE) : SI := fun env S => (a env S).bind fun p S1 => match lockS p.2 S1 with
  | some z => .ok (z.1, z.2.1) z.2.2
  | none => .no
def iEnu (a : SE) : SI := fun env S => (a env S).bind fun p S1 => match lockS p.2 S1 with
  | some z => .ok (enumL 0 z.1, z.2.1) z.2.2
  | none => .no
def iZip (a b : SE) : SI := fun env S => (a env S).bind fun p S1 => (b env S1).bind fun q S2 => match lockS p.2 S2 with
  | some z => match lockS q.2 z.2.2 with
    | some y => .ok (zipL z.1 y.1, y.2.1 ++ z.2.1) y.2.2
    | none => .no
  | none => .no
def okRg (j : Int) : Bool := decide (-4611686018427387904 ≤ j) && decide (j < 4611686018427387904)
def iRg1 (a : SE) : SI := fun env S => (a env S).bind fun p S1 => match p.2 with
  | .int j => if okRg j then .ok (rngL 0 j.toNat, []) S1 else .no
  | _ => .no
def Gh.lock (g : Gh) (a : Addr) (ho : HO) : Gh := ⟨g.L, upd g.pn a ho, fun b => if b = a then true else g.lk b⟩
section
variable {G : Gam} {n0 : Nat} {g : Gh} {F : Hp} {r : List Addr} {S : Store} {H : Hp}
theorem nd_inj {r : List Addr} (h : r.Nodup) {i j : Nat} {a : Addr} (e1 : r[i]? = some a) (e2 : r[j]? = some a) : i = j := by
  obtain ⟨h1, e1'⟩ := List.getElem?_eq_some_iff.mp e1
  obtain ⟨h2, e2'⟩ := List.getElem?_eq_some_iff.mp e2
  exact (List.getElem_inj h).mp (e1'.trans e2'.symm)
theorem HR.lock {i : Nat} {a : Addr} {xs : List PV} {us : List V} (h : HR G n0 g F r S H) (e1 : r[i]? = some a) (e2 : S[i]? = some (.lst xs)) (e3 : H a = some (.lst us)) : HR G n0 (g.lock a (.lst us)) F r (S.set i (.lck (.lst xs))) H := by
  have hi : i < S.length := (List.getElem?_eq_some_iff.mp e2).1
  have hF := h.off a (List.mem_of_getElem? e1)
  refine ⟨h.sub, h.nd, h.off, by rw [List.length_set]; exact h.len, by rw [List.length_set]; exact h.nle, h.lle, fun j oj b e4 e5 => ?_, fun b o e => ?_, fun j oj b e4 e5 => ?_, fun b o e el => ?_⟩
  · by_cases hj : i = j
    · subst hj
      rw [List.getElem?_set_self hi] at e4
      cases e4
      obtain ⟨ho, q1, q2⟩ := h.obj i _ b e2 e5
      exact ⟨ho, .mk (q1.nl rfl) rfl, q2⟩
    · rw [List.getElem?_set_ne hj] at e4
      exact h.obj j oj b e4 e5
  · by_cases hb : b = a
    · subst hb
      have e : upd g.pn b (.lst us) b = some o := e
      rw [upd_same] at e
      cases e
      refine ⟨e3, .inl hF, fun j hj => ?_⟩
      have := nd_inj h.nd e1 hj
      subst this
      exact ⟨_, List.getElem?_set_self hi⟩
    · have e : upd g.pn a (.lst us) b = some o := e
      rw [upd_ne hb] at e
      obtain ⟨q1, q2, q3⟩ := h.pin b o e
      refine ⟨q1, q2.imp (fun q => q) (fun q => ⟨q.1, by show (if b = a then true else g.lk b) = true; rw [if_neg hb]; exact q.2⟩), fun j hj => ?_⟩
      obtain ⟨ob, q⟩ := q3 j hj
      refine ⟨ob, ?_⟩
      rw [List.getElem?_set_ne (fun z => by subst z; rw [e1] at hj; cases hj; exact hb rfl)]
      exact q
  · show ∃ o, upd g.pn a (.lst us) b = some o
    by_cases hb : b = a
    · rw [hb, upd_same]; exact ⟨_, rfl⟩
    · rw [upd_ne hb]
      rw [List.getElem?_set_ne (fun z => by subst z; rw [e1] at e5; cases e5; exact hb rfl)] at e4
      exact h.lckd j oj b e4 e5
  · have e : upd g.pn a (.lst us) b = some o := e
    have el : (if b = a then true else g.lk b) = false := el
    by_cases hb : b = a
    · rw [if_pos hb] at el; cases el
    · rw [upd_ne hb] at e
      rw [if_neg hb] at el
      exact h.out b o e el
theorem HR.unlock {i : Nat} {a : Addr} {xs : List PV} {us : List V} (h : HR G n0 (g.lock a (.lst us)) F r S H) (hp : g.pn a = none) (e1 : r[i]? = some a) (k : RVs G F (lim n0 g.L r i) xs us) : HR G n0 g F r (S.set i (.lst xs)) H := by
  have hi : i < S.length := by rw [← h.len]; exact (List.getElem?_eq_some_iff.mp e1).1
  have ea : (g.lock a (.lst us)).pn a = some (.lst us) := by
    show upd g.pn a (.lst us) a = _
    rw [upd_same]
  have ne_of : ∀ b o, g.pn b = some o → b ≠ a := fun b o e z => by rw [z, hp] at e; cases e
  have pn_ne : ∀ b, b ≠ a → (g.lock a (.lst us)).pn b = g.pn b := fun b hb => by
    show upd g.pn a (.lst us) b = _
    rw [upd_ne hb]
  refine ⟨h.sub, h.nd, h.off, by rw [List.length_set]; exact h.len, by rw [List.length_set]; exact h.nle, h.lle, fun j oj b e4 e5 => ?_, fun b o e => ?_, fun j oj b e4 e5 => ?_, fun b o e el => ?_⟩
  · by_cases hj : i = j
    · subst hj
      rw [List.getElem?_set_self hi] at e4
      cases e4
      rw [e1] at e5
      cases e5
      exact ⟨_, .mk (h.pin a _ ea).1 rfl, ⟨us, rfl, k⟩⟩
    · rw [List.getElem?_set_ne hj] at e4
      exact h.obj j oj b e4 e5
  · have hb := ne_of b o e
    obtain ⟨q1, q2, q3⟩ := h.pin b o (by rw [pn_ne b hb]; exact e)
    refine ⟨q1, q2.imp (fun q => q) (fun q => ⟨q.1, by have z : (if b = a then true else g.lk b) = true := q.2; rw [if_neg hb] at z; exact z⟩), fun j hj => ?_⟩
    obtain ⟨ob, q⟩ := q3 j hj
    refine ⟨ob, ?_⟩
    rw [List.getElem?_set_ne (fun z => by subst z; rw [e1] at hj; cases hj; exact hb rfl)]
    exact q
  · by_cases hj : i = j
    · subst hj
      rw [List.getElem?_set_self hi] at e4
      cases e4
    · rw [List.getElem?_set_ne hj] at e4
      have hb : b ≠ a := fun z => by subst z; exact hj (nd_inj h.nd e1 e5)
      obtain ⟨o, q⟩ := h.lckd j oj b e4 e5
      exact ⟨o, by rw [← pn_ne b hb]; exact q⟩
  · have hb := ne_of b o e
    refine h.out b o (by rw [pn_ne b hb]; exact e) ?_
    show (if b = a then true else g.lk b) = false
    rw [if_neg hb]
    exact el
structure Held (G : Gam) (n0 : Nat) (g g' : Gh) (F : Hp) (r : List Addr) (S' : Store) (H : Hp) (xs : List PV) (ls : List (Nat × PV)) (b : Bool) (a : Addr) (us : List V) : Prop where
  hr : HR G n0 g' F r S' H
  rv : RVs G F r xs us
  sq : ∀ g2, GhLe g' g2 → ∀ F2 r2 S2 H2, HR G n0 g2 F2 r2 S2 H2 → Ext F F2 r r2 → SqG b G.K H2 a us
  le : GhLe g g'
  pn : GhPin g g'
  un : ∀ rp, g.has rp → ∀ F2 r2 S2 H2, HR G n0 (g'.rep rp) F2 r2 S2 H2 → Ext F F2 r r2 → HR G n0 (g.rep rp) F2 r2 (unlock ls S2) H2
theorem lock_ok {v : PV} {u : V} {xs : List PV} {ls : List (Nat × PV)} {S' : Store} (h : HR G n0 g F r S H) (q : RV G F r v u) (e : lockS v S = some (xs, ls, S')) : ∃ g' b a us, u = .ref a ∧ Held G n0 g g' F r S' H xs ls b a us := by
  unfold lockS at e
  split at e
  · rename_i i
    obtain ⟨a, e1, rfl⟩ := q
    split at e
    · rename_i ys es
      cases e
      obtain ⟨ho, q1, q2⟩ := h.obj i _ a es e1
      obtain ⟨us, rfl, k⟩ := q2
      have q1 := q1.nd rfl
      refine ⟨g.lock a (.lst us), false, a, us, rfl, h.lock e1 es q1, RVs.mono (.refl F) (at_of (lim_le n0 g.L r i)) _ _ k, fun g2 hg F2 r2 S2 H2 h2 x => ?_, fun b o eb el => ?_, fun b o eb el => ?_, fun rp hrp F2 r2 S2 H2 h2 x => ?_⟩
      · have ea : (g.lock a (.lst us)).pn a = some (.lst us) := by
          show upd g.pn a (.lst us) a = _
          rw [upd_same]
        exact (show SqL G.K H2 a us from .inl (.inl (h2.pin a _ (hg a _ ea (by show (if a = a then true else g.lk a) = true; rw [if_pos rfl])).1).1))
      · have hb : b ≠ a := fun z => by rw [z, h.nopin e1 es rfl] at eb; cases eb
        refine ⟨?_, ?_⟩
        · show upd g.pn a (.lst us) b = _
          rw [upd_ne hb]
          exact eb
        · show (if b = a then true else g.lk b) = true
          rw [if_neg hb]
          exact el
      · have hb : b ≠ a := fun z => by rw [z, h.nopin e1 es rfl] at eb; cases eb
        refine ⟨?_, ?_⟩
        · show upd g.pn a (.lst us) b = _
          rw [upd_ne hb]
          exact eb
        · show (if b = a then true else g.lk b) = false
          rw [if_neg hb]
          exact el
      · have hpa : (g.rep rp).pn a = none := by
          cases rp with
          | none => exact h.nopin e1 es rfl
          | some p =>
            obtain ⟨⟨o, ep⟩, el⟩ := hrp p rfl
            have hne : a ≠ p.1 := fun z => h.out p.1 o ep el (z ▸ List.mem_of_getElem? e1)
            show upd g.pn p.1 p.2 a = none
            rw [upd_ne hne]
            exact h.nopin e1 es rfl
        have eg : (g.lock a (.lst us)).rep rp = (g.rep rp).lock a (.lst us) := by
          cases rp with
          | none => rfl
          | some p =>
            obtain ⟨⟨o, ep⟩, el⟩ := hrp p rfl
            have hne : a ≠ p.1 := fun z => h.out p.1 o ep el (z ▸ List.mem_of_getElem? e1)
            show (⟨g.L, upd (upd g.pn a (.lst us)) p.1 p.2, fun b => if b = a then true else g.lk b⟩ : Gh) = ⟨g.L, upd (upd g.pn p.1 p.2) a (.lst us), fun b => if b = a then true else g.lk b⟩
            congr 1
            funext b
            by_cases hb : b = a
            · rw [hb, upd_ne hne, upd_same, upd_same]
            · by_cases hb2 : b = p.1
              · rw [hb2, upd_same, upd_ne (Ne.symm hne), upd_same]
              · rw [upd_ne hb2, upd_ne hb, upd_ne hb, upd_ne hb2]
        rw [eg] at h2
        have eL : (g.rep rp).L = g.L := by cases rp <;> rfl
        exact h2.unlock hpa (x.at_ i a e1) (by rw [eL]; exact RVs.mono x.1 (lim_mono x.2 i) _ _ k)
    · rename_i ys es
      cases e
      obtain ⟨ho, q1, q2⟩ := h.obj i _ a es e1
      obtain ⟨us, rfl, k⟩ := q2
      have q1 := q1.nd rfl
      obtain ⟨o, ep⟩ := h.lckd i _ a es e1
      have eo : o = .lst us := by
        have := (h.pin a o ep).1
        rw [q1] at this
        exact (Option.some.inj this).symm
      subst eo
      have elk : g.lk a = true := by
        cases z : g.lk a with
        | true => rfl
        | false => exact absurd (List.mem_of_getElem? e1) (h.out a _ ep z)
      exact ⟨g, false, a, us, rfl, h, RVs.mono (.refl F) (at_of (lim_le n0 g.L r i)) _ _ k, fun g2 hg F2 r2 S2 H2 h2 x => (show SqL G.K H2 a us from .inl (.inl (h2.pin a _ (hg a _ ep elk).1).1)), .refl g, .refl g, fun _ _ F2 r2 S2 H2 h2 x => h2⟩
    · cases e
  · cases e
    obtain ⟨a, us, rfl, k1, k2⟩ := q
    exact ⟨g, false, a, us, rfl, h, k2, fun g2 hg F2 r2 S2 H2 h2 x => (show SqL G.K H2 a us from .inl (h2.sub.rd (x.1.rd k1))), .refl g, .refl g, fun _ _ F2 r2 S2 H2 h2 x => h2⟩
  · cases e
    obtain ⟨a, us, rfl, k1, k2⟩ := q
    exact ⟨g, true, a, us, rfl, h, k2, fun g2 hg F2 r2 S2 H2 h2 x => (show SqT G.K H2 a us from h2.sub.tp (x.1 _ _ k1)), .refl g, .refl g, fun _ _ F2 r2 S2 H2 h2 x => h2⟩
  · cases e
theorem enumL_get : ∀ {xs : List PV} {k : Int} {i : Nat} {t : PV}, (enumL k xs)[i]? = some t → ∃ x, xs[i]? = some x ∧ t = .tup [.int (k + i), x]
  | [], k, i, t, e => by simp [enumL] at e
  | x :: xs, k, 0, t, e => by
    simp [enumL] at e
    exact ⟨x, by simp, by rw [← e]; simp⟩
  | x :: xs, k, i + 1, t, e => by
    have e : (enumL (k + 1) xs)[i]? = some t := by simpa [enumL] using e
    obtain ⟨y, h1, h2⟩ := enumL_get e
    exact ⟨y, by simpa using h1, by rw [h2]; congr 3; omega⟩
theorem enumL_len : ∀ (xs : List PV) (k : Int), (enumL k xs).length = xs.length
  | [], _ => rfl
  | x :: xs, k => by
    show (enumL (k + 1) xs).length + 1 = xs.length + 1
    rw [enumL_len xs]
theorem zipL_get : ∀ {xs ys : List PV} {i : Nat} {t : PV}, (zipL xs ys)[i]? = some t → ∃ x y, xs[i]? = some x ∧ ys[i]? = some y ∧ t = .tup [x, y]
  | [], ys, i, t, e => by simp [zipL] at e
  | x :: xs, [], i, t, e => by simp [zipL] at e
  | x :: xs, y :: ys, 0, t, e => by
    simp [zipL] at e
    exact ⟨x, y, by simp, by simp, e.symm⟩
  | x :: xs, y :: ys, i + 1, t, e => by
    have e : (zipL xs ys)[i]? = some t := by simpa [zipL] using e
    obtain ⟨x', y', h1, h2, h3⟩ := zipL_get e
    exact ⟨x', y', by simpa using h1, by simpa using h2, h3⟩
theorem zipL_len : ∀ (xs ys : List PV) (i : Nat), (zipL xs ys).length ≤ i → xs.length ≤ i ∨ ys.length ≤ i
  | [], ys, i, h => .inl (Nat.zero_le _)
  | x :: xs, [], i, h => .inr (Nat.zero_le _)
  | x :: xs, y :: ys, 0, h => absurd h (by simp [zipL])
  | x :: xs, y :: ys, i + 1, h => by
    have h : (zipL xs ys).length + 1 ≤ i + 1 := h
    rcases zipL_len xs ys i (by omega) with q | q
    · exact .inl (Nat.succ_le_succ q)
    · exact .inr (Nat.succ_le_succ q)
theorem rngL_get : ∀ {n : Nat} {lo : Int} {i : Nat} {t : PV}, (rngL lo n)[i]? = some t → i < n ∧ t = .int (lo + i)
  | 0, lo, i, t, e => by simp [rngL] at e
  | n + 1, lo, 0, t, e => by
    simp [rngL] at e
    exact ⟨Nat.succ_pos n, by rw [← e]; simp⟩
  | n + 1, lo, i + 1, t, e => by
    have e : (rngL (lo + 1) n)[i]? = some t := by simpa [rngL] using e
    obtain ⟨h1, h2⟩ := rngL_get e
    exact ⟨Nat.succ_lt_succ h1, by rw [h2]; congr 1; omega⟩
theorem rngL_len : ∀ (n : Nat) (lo : Int), (rngL lo n).length = n
  | 0, _ => rfl
  | n + 1, lo => by
    show (rngL (lo + 1) n).length + 1 = n + 1
    rw [rngL_len n]
variable {X : Cx}
theorem cnI {env : Env} {σ : L2.St} {T : It → Hp → Prop} : Cn fun z => PoI G n0 g F r env σ z T := ⟨fun h => h, fun _ _ _ h => h⟩
variable {tg e e2 : Expr} {fe fe2 : SE} {p pos tpos : Pos} {elts : List Expr} {kk : Nat}
theorem si_seq (hK : G.K = X.K) (he : PE X e (rdE G n0 fe)) : PI X tg e (rdI G n0 (iSeq fe)) := by
  refine piI (pi_seqG (toV he)) fun σ H T ⟨F, r, env, S, g, s, h⟩ => ?_
  refine stV s cnI h fun p S1 F1 r1 H1 u x1 s1 q1 h1 => ?_
  cases el : lockS p.2 S1 with
  | none => rw [el] at h1; exact h1.elim
  | some z =>
    obtain ⟨xs, ls, S2⟩ := z
    rw [el] at h1
    obtain ⟨g', b, a, us, rfl, hd⟩ := lock_ok s1.hr q1 el
    refine ⟨a, b, us, rfl, hK ▸ hd.sq g' (.refl g') F1 r1 S2 H1 hd.hr (.refl _ _), h1 F1 r1 H1 _ g' x1 ⟨hd.hr, s1.sl, s1.vr⟩ (fun g2 hg2 F2 r2 S3 H2 h2 x2 => ?_) hd.pn hd.un⟩
    have sq := hd.sq g2 hg2 F2 r2 S3 H2 h2 x2
    rw [← hK]
    cases b with
    | true =>
      refine ⟨fun i x ex => ?_, fun i hi => ⟨us, sq, by rw [← RVs.length hd.rv]; exact hi⟩⟩
      obtain ⟨y, e1, q2⟩ := RVs.get hd.rv ex
      refine ⟨⟨us, y, sq, e1⟩, fun v H3 hy => ?_⟩
      obtain ⟨rfl, hv⟩ := hy
      have := hv us sq
      rw [e1] at this
      cases this
      exact ⟨F2, .refl _ _, h2, q2.ext x2⟩
    | false =>
      refine ⟨fun i x ex => ?_, fun i hi => ⟨us, sq, by rw [← RVs.length hd.rv]; exact hi⟩⟩
      obtain ⟨y, e1, q2⟩ := RVs.get hd.rv ex
      refine ⟨⟨us, y, sq, e1⟩, fun v H3 hy => ?_⟩
      obtain ⟨rfl, hv⟩ := hy
      have := hv us sq
      rw [e1] at this
      cases this
      exact ⟨F2, .refl _ _, h2, q2.ext x2⟩
theorem si_enum (hK : G.K = X.K) (hg : Gl X "enumerate") (hm : X.mg "enumerate" = none) (he : PE X e (rdE G n0 fe)) (hs : starEach [e] X.env = [(false, eval e X.env)] := by rfl) :
    PI X (.Tuple elts kk tpos) (.Call (.Name "enumerate" p) [e] [] pos) (rdI G n0 (iEnu fe)) := by
  refine piI (pi_enumG hg hm (pa_cons (toV he) pa_nil hs) hs) fun σ H T ⟨F, r, env, S, g, s, h⟩ => ?_
  refine stV s cnI h fun p S1 F1 r1 H1 u x1 s1 q1 h1 => ?_
  cases el : lockS p.2 S1 with
  | none => rw [el] at h1; exact h1.elim
  | some z =>
    obtain ⟨xs, ls, S2⟩ := z
    rw [el] at h1
    obtain ⟨g', b, a, us, rfl, hd⟩ := lock_ok s1.hr q1 el
    refine ⟨a, b, us, rfl, hK ▸ hd.sq g' (.refl g') F1 r1 S2 H1 hd.hr (.refl _ _), h1 F1 r1 H1 _ g' x1 ⟨hd.hr, s1.sl, s1.vr⟩ (fun g2 hg2 F2 r2 S3 H2 h2 x2 => ?_) hd.pn hd.un⟩
    have sq := hd.sq g2 hg2 F2 r2 S3 H2 h2 x2
    rw [← hK]
    refine ⟨fun i x ex => ?_, fun i hi => ⟨us, sq, by rw [← RVs.length hd.rv, ← enumL_len xs 0]; exact hi⟩⟩
    obtain ⟨x', ex', rfl⟩ := enumL_get ex
    obtain ⟨y, e1, q2⟩ := RVs.get hd.rv ex'
    refine ⟨⟨us, y, sq, e1⟩, fun v H3 hy => ?_⟩
    obtain ⟨T', y', rfl, hT, rfl, hv⟩ := hy
    have := hv us sq
    rw [e1] at this
    cases this
    obtain ⟨F4, x4, h4, k4⟩ := new_tup (xs := [.int (0 + i), x']) (us := [.int (i : Nat), y]) h2 hT ⟨_, _, rfl, by rw [Int.zero_add]; exact rfl, _, [], rfl, q2.ext x2, rfl⟩
    exact ⟨F4, x4, h4, k4⟩
theorem si_zip (hK : G.K = X.K) (hg : Gl X "zip") (hm : X.mg "zip" = none) (he : PE X e (rdE G n0 fe)) (he2 : PE X e2 (rdE G n0 fe2)) (hs : starEach [e, e2] X.env = (false, eval e X.env) :: starEach [e2] X.env := by rfl) (hs2 : starEach [e2] X.env = (false, eval e2 X.env) :: starEach [] X.env := by rfl)
    (hpl : (backTo pos (starEach [e2] X.env)).any (·.1) = false := by rfl) :
    PI X (.Tuple elts kk tpos) (.Call (.Name "zip" p) [e, e2] [] pos) (rdI G n0 (iZip fe fe2)) := by
  refine piI (pi_zipG hg hm (pa_cons (toV he) (pa_cons (toV he2) pa_nil hs2) hs) hs hpl) fun σ H T ⟨F, r, env, S, g, s, h⟩ => ?_
  refine stV s cnI h fun p S1 F1 r1 H1 u x1 s1 q1 h1 => ?_
  refine stV s1 cnI h1 fun q S2 F2 r2 H2 w x2 s2 q2 h2 => ?_
  cases el : lockS p.2 S2 with
  | none => rw [el] at h2; exact h2.elim
  | some z =>
    obtain ⟨xs, ls, S3⟩ := z
    simp only [el] at h2
    cases el2 : lockS q.2 S3 with
    | none => rw [el2] at h2; exact h2.elim
    | some z2 =>
      obtain ⟨ys, ls2, S4⟩ := z2
      simp only [el2] at h2
      obtain ⟨g1, b1, a1, us1, rfl, hd1⟩ := lock_ok s2.hr (q1.ext x2) el
      obtain ⟨g2, b2, a2, us2, rfl, hd2⟩ := lock_ok hd1.hr q2 el2
      have hpn : GhPin g g2 := fun a o e l => hd2.pn a o (hd1.pn a o e l).1 (hd1.pn a o e l).2
      have hun : ∀ rp, g.has rp → ∀ F5 r5 S5 H5, HR G n0 (g2.rep rp) F5 r5 S5 H5 → Ext F2 F5 r2 r5 → HR G n0 (g.rep rp) F5 r5 (unlock (ls2 ++ ls) S5) H5 := fun rp hrp F5 r5 S5 H5 h5 x5 => by
        have e : ∀ (l1 l2 : List (Nat × PV)) (S : Store), unlock (l1 ++ l2) S = unlock l2 (unlock l1 S) := by
          intro l1
          induction l1 with
          | nil => intro l2 S; rfl
          | cons c l1 ih => intro l2 S; exact ih l2 _
        rw [e]
        exact hd1.un rp hrp F5 r5 _ H5 (hd2.un rp (hd1.pn.has hrp) F5 r5 S5 H5 h5 x5) x5
      refine ⟨a1, a2, b1, b2, us1, us2, rfl, hK ▸ hd1.sq g2 hd2.le F2 r2 S4 H2 hd2.hr (.refl _ _), hK ▸ hd2.sq g2 (.refl g2) F2 r2 S4 H2 hd2.hr (.refl _ _), h2 F2 r2 H2 _ g2 (x1.trans x2) ⟨hd2.hr, s2.sl, s2.vr⟩ (fun g5 hg5 F5 r5 S5 H5 h5 x5 => ?_) hpn hun⟩
      have s1' := hd1.sq g5 (hd2.le.trans hg5) F5 r5 S5 H5 h5 x5
      have s2' := hd2.sq g5 hg5 F5 r5 S5 H5 h5 x5
      rw [← hK]
      refine ⟨fun i x ex => ?_, fun i hi => ⟨us1, us2, s1', s2', by rw [← RVs.length hd1.rv, ← RVs.length hd2.rv]; exact zipL_len xs ys i hi⟩⟩
      obtain ⟨x', y', ex', ey', rfl⟩ := zipL_get ex
      obtain ⟨u1, e1, k1⟩ := RVs.get hd1.rv ex'
      obtain ⟨u2, e2, k2⟩ := RVs.get hd2.rv ey'
      refine ⟨⟨us1, us2, u1, u2, s1', s2', e1, e2⟩, fun v H3 hy => ?_⟩
      obtain ⟨T', y1, y2, rfl, hT, rfl, hv1, hv2⟩ := hy
      have := hv1 us1 s1'
      rw [e1] at this
      cases this
      have := hv2 us2 s2'
      rw [e2] at this
      cases this
      exact new_tup (xs := [x', y']) (us := [u1, u2]) h5 hT ⟨_, _, rfl, k1.ext x5, _, [], rfl, k2.ext x5, rfl⟩
theorem its_rng {g' : Gh} {lo : Int} {n : Nat} : Its G n0 g' F r (Itr lo n) (rngL lo n) := fun g2 hg2 F2 r2 S2 H2 h2 x2 => by
  refine ⟨fun i x ex => ?_, fun i hi => by rw [rngL_len] at hi; exact hi⟩
  obtain ⟨h1, rfl⟩ := rngL_get ex
  refine ⟨h1, fun v H3 hy => ?_⟩
  obtain ⟨rfl, rfl⟩ := hy
  exact ⟨F2, .refl _ _, h2, rfl⟩
theorem okRg_ok {j : Int} (h : okRg j = true) : -(2 ^ 62) ≤ j ∧ j < 2 ^ 62 := by
  unfold okRg at h
  rw [Bool.and_eq_true, decide_eq_true_eq, decide_eq_true_eq] at h
  omega
theorem si_rng1 (hg : Gl X "range") (hm : X.mg "range" = none) (he : PE X e (rdE G n0 fe)) (hs : starEach [e] X.env = [(false, eval e X.env)] := by rfl) : PI X tg (.Call (.Name "range" p) [e] [] pos) (rdI G n0 (iRg1 fe)) := by
  refine piI (pi_range1 hg hm (pa_cons (toV he) pa_nil hs) hs) fun σ H T ⟨F, r, env, S, g, s, h⟩ => ?_
  refine stV s cnI h fun p S1 F1 r1 H1 u x1 s1 q1 h1 => ?_
  obtain ⟨b, v⟩ := p
  cases v with
  | int j =>
    simp only at h1
    split at h1
    · rename_i hj
      obtain ⟨k1, k2⟩ := okRg_ok hj
      exact ⟨j, by rw [show u = V.int j from q1], k1, k2, h1 F1 r1 H1 _ g x1 s1 its_rng (.refl g) (fun _ _ _ _ _ _ h _ => h)⟩
    · exact h1.elim
  | _ => exact h1.elim
end
end PX
set_option Elab.async false
set_option linter.all false
set_option maxRecDepth 100000
set_option maxHeartbeats 1000000
namespace PX
open PySem PySem.Spec PyProof.Rows L2 ZG
def wipeE (env : Env) : List Nat → Env
  | [] => env
  | v :: vs => (wipeE env vs).set v none
def compR (t : Tg) (c : ST) (e : SE) : List PV → Env → List PV → Store → R (List PV)
  | [], _, acc, S => .ok acc S
  | x :: xs, env, acc, S => match t x env S with
    | none => .no
    | some env' => (c env' S).bind fun b S1 => if b = true then (e env' S1).bind fun q S2 => if small acc.length then compR t c e xs env (acc ++ [q.2]) S2 else .no
      else compR t c e xs env acc S1
def eLc (i : SI) (t : Tg) (vs : List Nat) (c : ST) (e : SE) : SE := fun env S => (i env S).bind fun p S1 => (compR t c e p.1 (wipeE env vs) [] S1).bind fun acc S2 => .ok (true, .lst acc) (unlock p.2 S2)
def tYesP : ST := fun _ S => .ok true S
theorem wipe_get (σ : L2.St) (i : Nat) : ∀ vs : List Nat, (L2.wipe σ vs)[i]? = if i ∈ vs ∧ i < σ.length then some none else σ[i]?
  | [] => by simp [L2.wipe]
  | v :: vs => by
    unfold L2.wipe
    by_cases hv : v = i
    · subst hv
      by_cases hl : v < σ.length
      · rw [List.getElem?_set_self (by rw [wipe_length]; exact hl), if_pos ⟨by simp, hl⟩]
      · rw [if_neg (fun z => hl z.2), List.getElem?_eq_none (by rw [List.length_set, wipe_length]; omega), List.getElem?_eq_none (by omega)]
    · rw [List.getElem?_set_ne hv, wipe_get σ i vs]
      have : (i ∈ v :: vs) ↔ i ∈ vs := by
        rw [List.mem_cons]
        exact ⟨fun h => h.resolve_left (fun z => hv z.symm), .inr⟩
      simp only [this]
theorem wipe_idem (σ : L2.St) (vs : List Nat) : L2.wipe (L2.wipe σ vs) vs = L2.wipe σ vs := by
  refine List.ext_getElem? fun i => ?_
  rw [wipe_get, wipe_length, wipe_get]
  split <;> rfl
theorem wipe_set {σ : L2.St} {vs : List Nat} {i : Nat} {x : Option V} (h : i ∈ vs) : L2.wipe (σ.set i x) vs = L2.wipe σ vs := by
  refine List.ext_getElem? fun j => ?_
  rw [wipe_get, wipe_get, List.length_set]
  by_cases hj : i = j
  · subst hj
    by_cases hl : i < σ.length
    · rw [if_pos ⟨h, hl⟩, if_pos ⟨h, hl⟩]
    · rw [if_neg (fun z => hl z.2), if_neg (fun z => hl z.2), List.getElem?_eq_none (by rw [List.length_set]; omega), List.getElem?_eq_none (by omega)]
  · rw [List.getElem?_set_ne hj]
theorem wipeE_some {env : Env} {i : Nat} {v : PV} : ∀ {vs : List Nat}, (wipeE env vs)[i]? = some (some v) → env[i]? = some (some v) ∧ i ∉ vs
  | [], e => ⟨e, by simp⟩
  | w :: vs, e => by
    unfold wipeE at e
    by_cases hw : w = i
    · subst hw
      rw [List.getElem?_set] at e
      rw [if_pos rfl] at e
      split at e <;> cases e
    · rw [List.getElem?_set_ne hw] at e
      obtain ⟨h1, h2⟩ := wipeE_some e
      exact ⟨h1, by rw [List.mem_cons]; rintro (z | z); exact hw z.symm; exact h2 z⟩
theorem wipeE_len (env : Env) : ∀ vs : List Nat, (wipeE env vs).length = env.length
  | [] => rfl
  | v :: vs => by
    unfold wipeE
    rw [List.length_set, wipeE_len env vs]
section
variable {G : Gam} {n0 : Nat} {g : Gh} {F : Hp} {r : List Addr} {S : Store} {H : Hp}
theorem Sg.wipe {env : Env} {σ : L2.St} (s : Sg G n0 g F r env σ S H) (vs : List Nat) : Sg G n0 g F r (wipeE env vs) (L2.wipe σ vs) S H := by
  refine ⟨s.hr, by rw [wipeE_len, wipe_length, s.sl], fun i v e => ?_⟩
  obtain ⟨h1, h2⟩ := wipeE_some e
  obtain ⟨u, e1, q⟩ := s.vr i v h1
  exact ⟨u, by rw [wipe_get, if_neg (fun z => h2 z.1)]; exact e1, q⟩
def TgB (G : Gam) (vs : List Nat) (t : Tg) (gg : TG) : Prop := ∀ n0 g F r env σ S H v u env' w0 (Q : L2.St → Hp → Prop), L2.wipe σ vs = w0 → Sg G n0 g F r env σ S H → RV G F r v u → t v env S = some env' → (∀ σ', L2.wipe σ' vs = w0 → Sg G n0 g F r env' σ' S H → Q σ' H) → gg u σ H Q
def TgsB (G : Gam) (vs : List Nat) (ts : List Tg) (gs : TGs) : Prop := ∀ n0 g F r env σ S H xs us env' w0 (Q : L2.St → Hp → Prop), L2.wipe σ vs = w0 → Sg G n0 g F r env σ S H → RVs G F r xs us → gTps ts xs env S = some env' → (∀ σ', L2.wipe σ' vs = w0 → Sg G n0 g F r env' σ' S H → Q σ' H) → gs us σ H Q
theorem tb_nm {vs : List Nat} (i : Nat) (h : i ∈ vs) : TgB G vs (gNm i) (gName i) := fun n0 g F r env σ S H v u env' w0 Q hw s q e k => by
  cases e
  exact k _ (by rw [wipe_set h]; exact hw) (s.set q)
theorem tbs_nil {vs : List Nat} : TgsB G vs [] gNil := fun n0 g F r env σ S H xs us env' w0 Q hw s q e k => by
  cases xs with
  | nil =>
    cases e
    exact ⟨q, k σ hw s⟩
  | cons v xs => cases e
theorem tbs_cons {vs : List Nat} {t : Tg} {ts : List Tg} {gg : TG} {gs : TGs} (h1 : TgB G vs t gg) (h2 : TgsB G vs ts gs) : TgsB G vs (t :: ts) (gCons gg gs) := fun n0 g F r env σ S H xs us env' w0 Q hw s q e k => by
  cases xs with
  | nil => cases e
  | cons v xs =>
    obtain ⟨u, ur, rfl, q1, q2⟩ := q
    have e : (match t v env S with
      | some env' => gTps ts xs env' S
      | none => none) = some env' := e
    cases e1 : t v env S with
    | none => rw [e1] at e; cases e
    | some env1 =>
      rw [e1] at e
      exact ⟨u, ur, rfl, h1 n0 g F r env σ S H v u env1 w0 _ hw s q1 e1 fun σ' hw' s' => h2 n0 g F r env1 σ' S H xs ur env' w0 Q hw' s' q2 e k⟩
theorem tb_tp {vs : List Nat} {ts : List Tg} {gs : TGs} {n : Nat} (h : TgsB G vs ts gs) (hn : ts.length = n) : TgB G vs (gTp ts) (gTup G.K n gs) := fun n0 g F r env σ S H v u env' w0 Q hw s q e k => by
  unfold gTp at e
  split at e
  · rename_i xs e'
    obtain ⟨a, us, rfl, h1, h2⟩ := view_tup s.hr q e'
    exact ⟨a, us, rfl, h1, by rw [← RVs.length h2, gTps_len e, hn], h n0 g F r env σ S H xs us env' w0 Q hw s h2 e k⟩
  · cases e
def Gh.pin (g : Gh) (a : Addr) (ho : HO) : Gh := ⟨g.L, upd g.pn a ho, fun b => if b = a then false else g.lk b⟩
theorem HR.pinNew {a : Addr} {ho : HO} (h : HR G n0 g F r S H) (ha : H a = none) : HR G n0 (g.pin a ho) F r S (upd H a ho) := by
  have hF := h.noF ha
  have hr := h.nor ha
  have h1 := h.heap (H' := upd H a ho) fun b o e => by rw [upd_ne (ne_of_none e ha)]; exact e
  refine ⟨h1.sub, h.nd, h.off, h.len, h.nle, h.lle, h1.obj, fun b o e => ?_, fun i ob b e1 e2 => ?_, fun b o e el hb => ?_⟩
  · by_cases hb : b = a
    · subst hb
      have e : upd g.pn b ho b = some o := e
      rw [upd_same] at e
      cases e
      exact ⟨upd_same, .inl hF, fun i hi => absurd (List.mem_of_getElem? hi) hr⟩
    · have e : upd g.pn a ho b = some o := e
      rw [upd_ne hb] at e
      obtain ⟨q1, q2, q3⟩ := h1.pin b o e
      exact ⟨q1, q2.imp (fun q => q) (fun q => ⟨q.1, by show (if b = a then false else g.lk b) = true; rw [if_neg hb]; exact q.2⟩), q3⟩
  · show ∃ o, upd g.pn a ho b = some o
    by_cases hb : b = a
    · rw [hb, upd_same]; exact ⟨_, rfl⟩
    · rw [upd_ne hb]; exact h.lckd i ob b e1 e2
  · by_cases hb' : b = a
    · subst hb'; exact hr hb
    · have e : upd g.pn a ho b = some o := e
      rw [upd_ne hb'] at e
      have el : (if b = a then false else g.lk b) = false := el
      rw [if_neg hb'] at el
      exact h.out b o e el hb
theorem pin_at {a : Addr} {ho : HO} : (g.pin a ho).pn a = some ho := by
  show upd g.pn a ho a = _
  rw [upd_same]
theorem pin_ne {a b : Addr} {ho : HO} (hb : b ≠ a) : (g.pin a ho).pn b = g.pn b := by
  show upd g.pn a ho b = _
  rw [upd_ne hb]
theorem pin_le {a : Addr} {ho : HO} (hp : g.pn a = none) : GhLe g (g.pin a ho) := fun b o e l => by
  have hb : b ≠ a := fun z => by rw [z, hp] at e; cases e
  refine ⟨by rw [pin_ne hb]; exact e, ?_⟩
  show (if b = a then false else g.lk b) = true
  rw [if_neg hb]
  exact l
theorem pin_out {a : Addr} {ho : HO} (h : HR G n0 (g.pin a ho) F r S H) : a ∉ r := h.out a ho pin_at (by show (if a = a then false else g.lk a) = false; rw [if_pos rfl])
theorem HR.pinSet {a : Addr} {ho ho' : HO} (h : HR G n0 (g.pin a ho) F r S H) (hz : isFz ho = false := by rfl) : HR G n0 (g.pin a ho') F r S (upd H a ho') := by
  have hF : F a = none := noFz (h.pin a ho pin_at).2.1 hz
  have hr := pin_out h
  refine ⟨fun b o e => ?_, h.nd, h.off, h.len, h.nle, h.lle, fun i ob b e1 e2 => ?_, fun b o e => ?_, fun i ob b e1 e2 => ?_, fun b o e el hb => ?_⟩
  · rw [upd_ne (fun z => by rw [z, hF] at e; cases e)]
    exact h.sub b o e
  · obtain ⟨ho2, q1, q2⟩ := h.obj i ob b e1 e2
    exact ⟨ho2, q1.upd (fun z => hr (by rw [← z]; exact List.mem_of_getElem? e2)), q2⟩
  · by_cases hb : b = a
    · subst hb
      rw [pin_at] at e
      cases e
      exact ⟨upd_same, .inl hF, fun i hi => absurd (List.mem_of_getElem? hi) hr⟩
    · rw [pin_ne hb] at e
      obtain ⟨q1, q2, q3⟩ := h.pin b o (by rw [pin_ne hb]; exact e)
      exact ⟨by rw [upd_ne hb]; exact q1, q2, q3⟩
  · obtain ⟨o, q⟩ := h.lckd i ob b e1 e2
    by_cases hb : b = a
    · rw [hb, pin_at]; exact ⟨_, rfl⟩
    · rw [pin_ne hb] at q ⊢; exact ⟨o, q⟩
  · by_cases hb' : b = a
    · subst hb'; exact hr hb
    · rw [pin_ne hb'] at e
      exact h.out b o (by rw [pin_ne hb']; exact e) el hb
theorem HR.unpin {a : Addr} {ho : HO} (h : HR G n0 (g.pin a ho) F r S H) (hp : g.pn a = none) : HR G n0 g F r S H := by
  have hr := pin_out h
  have ne_of : ∀ b o, g.pn b = some o → b ≠ a := fun b o e z => by rw [z, hp] at e; cases e
  refine ⟨h.sub, h.nd, h.off, h.len, h.nle, h.lle, h.obj, fun b o e => (let hb := ne_of b o e; let ⟨q1, q2, q3⟩ := h.pin b o (by rw [pin_ne hb]; exact e); ⟨q1, q2.imp (fun q => q) (fun q => ⟨q.1, by have z : (if b = a then false else g.lk b) = true := q.2; rw [if_neg hb] at z; exact z⟩), q3⟩), fun i ob b e1 e2 => ?_, fun b o e el => ?_⟩
  · obtain ⟨o, q⟩ := h.lckd i ob b e1 e2
    have hb : b ≠ a := fun z => hr (by rw [← z]; exact List.mem_of_getElem? e2)
    rw [pin_ne hb] at q
    exact ⟨o, q⟩
  · have hb := ne_of b o e
    refine h.out b o (by rw [pin_ne hb]; exact e) ?_
    show (if b = a then false else g.lk b) = false
    rw [if_neg hb]
    exact el
variable {X : Cx}
theorem lc_core' {fi : SI} {t : Tg} {gg : TG} {vs : List Nat} {c : ST} {fe : SE} (ht : TgB G vs t gg) (σ : L2.St) (H : Hp) (Q : VK) (hh : rdE G n0 (eLc fi t vs c fe) σ H Q) : tLc (rdI G n0 fi) gg (rdT G n0 c) (rdV G n0 fe) vs σ H Q := by
  obtain ⟨F, r, env, S, g, s, h⟩ := hh
  refine ⟨F, r, env, S, g, s, ?_⟩
  have h : PoE G n0 g F r env σ ((fi env S).bind fun p S1 => (compR t c fe p.1 (wipeE env vs) [] S1).bind fun acc S2 => .ok (true, .lst acc) (unlock p.2 S2)) Q := h
  cases ei : fi env S with
  | no => rw [ei] at h; exact h
  | ex => rw [ei] at h; exact h
  | ok p S1 =>
    rw [ei] at h
    obtain ⟨xs, ls⟩ := p
    have h : PoE G n0 g F r env σ ((compR t c fe xs (wipeE env vs) [] S1).bind fun acc S2 => .ok (true, .lst acc) (unlock ls S2)) Q := h
    intro F1 r1 H1 J g' x1 s1 its _ ul D hD
    have ul : ∀ F2 r2 S2 H2, HR G n0 g' F2 r2 S2 H2 → Ext F1 F2 r1 r2 → HR G n0 g F2 r2 (unlock ls S2) H2 := ul none (fun p e => nomatch e)
    have its : Its G n0 g' F1 r1 J xs := its
    have hp : g'.pn D = none := s1.hr.nop hD
    have hgp : g.pn D = none := (ul F1 r1 S1 H1 s1.hr (.refl _ _)).nop hD
    -- what holds ahead of turn i
    refine ⟨fun i m H' => m = xs.length - i ∧ i ≤ xs.length ∧ ∃ F2 r2 S2 acc us, Ext F1 F2 r1 r2 ∧ Sg G n0 (g'.pin D (.lst us)) F2 r2 (wipeE env vs) (L2.wipe σ vs) S2 H' ∧ RVs G F2 r2 acc us ∧
      PoE G n0 g F r env σ ((compR t c fe (xs.drop i) (wipeE env vs) acc S2).bind fun acc S2 => .ok (true, .lst acc) (unlock ls S2)) Q,
      ⟨xs.length, rfl, Nat.zero_le _, F1, r1, S1, [], [], .refl _ _, ⟨s1.hr.pinNew hD, (s1.wipe vs).sl, (s1.wipe vs).vr⟩, rfl, h⟩, ?_⟩
    rintro i m H2 ⟨rfl, hi, F2, r2, S2, acc, us, x2, s2, racc, h2⟩
    have hDr := pin_out s2.hr
    have hDH := (s2.hr.pin D _ pin_at).1
    have hDF := noFz (s2.hr.pin D _ pin_at).2.1 rfl
    have hr2 := s2.hr.unpin hp
    obtain ⟨ig, ie⟩ := its (g'.pin D (.lst us)) (fun a o e l => pin_le hp a o e l) F2 r2 S2 H2 s2.hr x2
    by_cases hlt : i < xs.length
    · have hx : xs[i]? = some xs[i] := List.getElem?_eq_getElem hlt
      have hd : xs.drop i = xs[i] :: xs.drop (i + 1) := List.drop_eq_getElem_cons hlt
      rw [hd] at h2
      obtain ⟨go, yl⟩ := ig i xs[i] hx
      refine .inr ⟨go, fun H' => ∃ F2 r2 S2 acc us, Ext F1 F2 r1 r2 ∧ Sg G n0 (g'.pin D (.lst us)) F2 r2 (wipeE env vs) (L2.wipe σ vs) S2 H' ∧ RVs G F2 r2 acc us ∧
        PoE G n0 g F r env σ ((compR t c fe (xs.drop (i + 1)) (wipeE env vs) acc S2).bind fun acc S2 => .ok (true, .lst acc) (unlock ls S2)) Q,
        fun H' q => ⟨xs.length - (i + 1), by omega, rfl, hlt, q⟩, fun v H3 hy => ?_⟩
      obtain ⟨F3, x3, hr3, q3⟩ := yl v H3 hy
      have h3 : PoE G n0 g F r env σ ((match t xs[i] (wipeE env vs) S2 with
        | none => R.no
        | some env' => (c env' S2).bind fun b S1 => if b = true then (fe env' S1).bind fun q S2 => if small acc.length then compR t c fe (xs.drop (i + 1)) (wipeE env vs) (acc ++ [q.2]) S2 else .no
          else compR t c fe (xs.drop (i + 1)) (wipeE env vs) acc S1).bind fun acc S2 => .ok (true, .lst acc) (unlock ls S2)) Q := h2
      cases et : t xs[i] (wipeE env vs) S2 with
      | none => rw [et] at h3; exact h3.elim
      | some env3 =>
        simp only [et] at h3
        refine ht n0 _ F3 r2 (wipeE env vs) (L2.wipe σ vs) S2 H3 xs[i] v env3 (L2.wipe σ vs) _ (wipe_idem σ vs) (s2.ext x3 hr3) q3 et fun σ3 hw3 s3 => ⟨hw3, ?_⟩
        refine ⟨F3, r2, env3, S2, _, s3, ?_⟩
        cases ec : c env3 S2 with
        | no => rw [ec] at h3; exact h3
        | ex => rw [ec] at h3; exact h3
        | ok b S4 =>
          rw [ec] at h3
          intro F4 r4 H4 x4 s4
          have xx : Ext F1 F4 r1 r4 := (x2.trans x3).trans x4
          have back : ∀ {us' F' r' S' H'}, Ext F4 F' r4 r' → Sg G n0 (g'.pin D (.lst us')) F' r' env3 σ3 S' H' → Sg G n0 (g'.pin D (.lst us')) F' r' (wipeE env vs) (L2.wipe σ vs) S' H' := fun {us' F' r' S' H'} x' s' =>
            ⟨s'.hr, s2.sl, fun j w e => by
              obtain ⟨u, e1, q1⟩ := s2.vr j w e
              exact ⟨u, e1, q1.ext ((x3.trans x4).trans x')⟩⟩
          cases b with
          | false => exact ⟨F4, r4, S4, acc, us, xx, back (.refl _ _) s4, racc.ext (x3.trans x4), h3⟩
          | true =>
            have h4 : PoE G n0 g F r env σ (((fe env3 S4).bind fun q S2 => if small acc.length then compR t c fe (xs.drop (i + 1)) (wipeE env vs) (acc ++ [q.2]) S2 else .no).bind fun acc S2 => .ok (true, .lst acc) (unlock ls S2)) Q := h3
            refine ⟨F4, r4, env3, S4, _, s4, ?_⟩
            cases ee : fe env3 S4 with
            | no => rw [ee] at h4; exact h4
            | ex => rw [ee] at h4; exact h4
            | ok q S5 =>
              rw [ee] at h4
              intro F5 r5 H5 y x5 s5 q5
              have h5 : PoE G n0 g F r env σ ((if small acc.length then compR t c fe (xs.drop (i + 1)) (wipeE env vs) (acc ++ [q.2]) S5 else .no).bind fun acc S2 => .ok (true, .lst acc) (unlock ls S2)) Q := h4
              cases hsm : small acc.length with
              | false => rw [hsm] at h5; exact h5.elim
              | true =>
                rw [hsm, if_pos rfl] at h5
                have hr5 := s5.hr
                refine ⟨us, (hr5.pin D _ pin_at).1, by rw [← RVs.length racc]; exact small_lt hsm, F5, r5, S5, acc ++ [q.2], us ++ [y], xx.trans x5, back x5 ⟨hr5.pinSet, s5.sl, s5.vr⟩, (racc.ext ((x3.trans x4).trans x5)).append ⟨y, [], rfl, q5, rfl⟩, h5⟩
    · have e : i = xs.length := by omega
      subst e
      rw [List.drop_length] at h2
      refine .inl ⟨ie _ (Nat.le_refl _), ?_⟩
      have h6 := ul F2 r2 S2 H2 hr2 x2
      have s6 : Sg G n0 g F2 r2 env σ (unlock ls S2) H2 := ⟨h6, s1.sl, fun j w e => by
        obtain ⟨u, e1, q1⟩ := s1.vr j w e
        exact ⟨u, e1, q1.ext x2⟩⟩
      exact h2 F2 r2 H2 (.ref D) (x1.trans x2) s6 ⟨D, .lst us, rfl, hDH, hDF, hDr, hgp, ⟨us, rfl, racc⟩, rfl⟩
theorem sts_nil : PTs X [] (rdT G n0 tYesP) := ⟨fun pins s σ H Q I h => pts_nil.run pins s σ H Q I (by
  obtain ⟨F, r, env, S, g, s, h⟩ := h
  exact h F r H (.refl F r) s)⟩
theorem sts_one {c : Expr} {tc : ST} (h : PT X c (rdT G n0 tc)) : PTs X [c] (rdT G n0 tc) := pts_one h
theorem Tb.blk {cf : CF} {k : Nat} (T : Tb X G cf k) (s : Shared) (H : Hp) (scope : Scope) (cenv : PySem.Env) (fp : List Addr) : Tb (X.blk s H scope cenv fp) G cf k := ⟨T.hK, T.call, T.room, T.calm⟩
theorem se_lc {elt tg iter : Expr} {ifs : List Expr} {scope : Scope} {own : List (Str × Nat)} {pos : Pos} {fi : SI} {t : Tg} {gg : TG} {c : ST} {fe : SE} (hc : X.calm = true) (hN : X.N.Nodup) (hi : PI X tg iter (rdI G n0 fi)) (ok : BlkOk X.N X.env.scope scope own) (ht : TgB G (own.map (·.2)) t gg)
    (hg : ∀ (s : Shared) (H : Hp) (C : Addr) (cl : List (Str × Addr)) (fp : List Addr), PG (X.blk s H scope (compEnvC scope cl C X.env) fp) tg gg)
    (hts : ∀ (s : Shared) (H : Hp) (C : Addr) (cl : List (Str × Addr)) (fp : List Addr), PTs (X.blk s H scope (compEnvC scope cl C X.env) fp) ifs (rdT G n0 c))
    (he : ∀ (s : Shared) (H : Hp) (C : Addr) (cl : List (Str × Addr)) (fp : List Addr), PE (X.blk s H scope (compEnvC scope cl C X.env) fp) elt (rdE G n0 fe)) (hs : ∀ x, foldedSetIterable iter X.env x = pure x := by intro _; rfl) :
    PE X (.ListComp elt [⟨tg, iter, ifs, 0⟩] scope pos) (rdE G n0 (eLc fi t (own.map (·.2)) c fe)) :=
  se_of (pe_lc hc hN hi ok hg hts (fun s H C cl fp => toV (he s H C cl fp)) hs) (lc_core' ht)
end
end PX
set_option Elab.async false
set_option linter.all false
set_option maxRecDepth 100000
set_option maxHeartbeats 1000000
namespace PX
open PySem PySem.Spec PyProof.Rows L2
def dIx (x y : PV) (S : Store) : Option (Bool × PV) := match deref S x with
  | some (.dct ks vs) => match keyOf y with
    | some q => match dGet ks vs q with
      | some (some v) => some (false, v)
      | _ => none
    | none => none
  | _ => none
def eIx (cf : CF) (tb : List (Nat × Nat)) (a b : SE) : SE := fun env S => (a env S).bind fun p S1 => (b env S1).bind fun q S2 => match ownOf tb S2 p.2 with
  | some f => callV cf f [p.2, q.2] S2
  | none => match dIx p.2 q.2 S2 with
    | some z => .ok z S2
    | none => ofO (oIx p.2 q.2 S2) S2
section
variable {X : Cx} {k : Nat}
def rIxOwn (X : Cx) (k : Nat) : R2 := fun x y H Q => ∃ a C dx fs g sp, x = .ref a ∧ H a = some (.ins C dx fs) ∧ Spc X.K C g "__getitem__" ∧ PySem.W.fnIn X.K g = true ∧ FnR X.prog X.w X.K X.mg X.base L2.CX0 k g sp ∧ sp [x, y] H Q E0
def rIxDct : R2 := fun x y H Q => ∃ a v, x = .ref a ∧ DGet H a y (some v) ∧ Q v H
theorem pe_ixG {a b : Expr} {ta tb : TE} {pos : Pos} (hr : Room (k + 1) X.A) (ha : PE X a ta) (hb : PE X b tb) (hs : PlainIx b) (hsl : ∀ x i, subscripted b true (.ref x) i = runValue (.builtin "lifetime.subscript" ⟨[.ref x, i], []⟩)) :
    PE X (.Subscript a b pos) (tOp (fun x y H Q => rIxOwn X k x y H Q ∨ rIxDct x y H Q ∨ rIx X.K x y H Q) ta tb) := by
  refine ⟨fun pins s σ H Q I h => ?_⟩
  refine Subscript_ (binT ha hb I h fun v u s2 x y H2 I2 rx ry q => ?_)
  rcases q with q | q | q
  · obtain ⟨a', C, dx, fs, g, sp, rfl, ea, hs', hf, F, q⟩ := q
    cases (show v = Value.ref a' from rx)
    obtain ⟨od, J⟩ := inst_at I2 ea
    obtain ⟨m, hF⟩ := I2.fr
    refine PySem.W.sub_K hF I2.ok.mod.kin J hs'.at_ hf hs'.fn ?_ (hsl a' u)
    exact wpAny_call (SlX.run_at (us := [.ref a', u]) (ws := [.ref a', y]) F hr.in1 I2.env0.in1 pass0 I2 (.cons rfl (.cons ry .nil)) q)
  · obtain ⟨a', z, rfl, gd, q⟩ := q
    cases (show v = Value.ref a' from rx)
    exact tail_any (dict_typeIs I2 gd) PySem.F.slot_dict_getitem.lookup (d_getItem (by have := hr.units; omega) I2 gd ry fun w' s3 I3 rw' => ⟨z, H2, I3, rw', q⟩) (hs _ _)
  · exact ix_seq a b pins s2 σ H2 x y v u Q I2 rx ry q (hs _ _)
end
section
variable {X : Cx} {G : Gam} {n0 : Nat} {cf : CF} {k : Nat}
theorem se_ixG {tb : List (Nat × Nat)} {a b : Expr} {fa fb : SE} {pos : Pos} (T : Tb X G cf k) (hc : ∀ p ∈ tb, Spc G.K (G.ca p.1) (G.fa p.2) "__getitem__" ∧ PySem.W.fnIn G.K (G.fa p.2) = true) (ha : PE X a (rdE G n0 fa)) (hb : PE X b (rdE G n0 fb))
    (hs : PlainIx b) (hsl : ∀ x i, subscripted b true (.ref x) i = runValue (.builtin "lifetime.subscript" ⟨[.ref x, i], []⟩)) : PE X (.Subscript a b pos) (rdE G n0 (eIx cf tb fa fb)) := by
  refine se_of (pe_ixG T.room (toV ha) (toV hb) hs hsl) fun σ H Q ⟨F, r, env, S, g, s, h⟩ => ?_
  refine stV s cnE h fun p S1 F1 r1 H1 u x1 s1 q1 h1 => ?_
  refine stV s1 cnE h1 fun q S2 F2 r2 H2 v x2 s2 q2 h2 => ?_
  have q1' := q1.ext x2
  cases eo : ownOf tb S2 p.2 with
  | some f =>
    simp only [eo] at h2
    obtain ⟨a', c, dx, fs, rfl, k1, k2⟩ := own_at s2.hr q1' eo
    obtain ⟨c1, c2⟩ := hc _ k2
    refine .inl ⟨a', G.ca c, dx, fs, G.fa f, _, rfl, k1, T.hK ▸ c1, T.hK ▸ c2, T.call f 2, ?_⟩
    exact run_call (np := 2) s2 (x1.trans x2) (show RVs G F2 r2 [p.2, q.2] _ from ⟨_, _, rfl, q1', _, [], rfl, q2, rfl⟩) rfl h2
  | none =>
    simp only [eo] at h2
    cases ed : dIx p.2 q.2 S2 with
    | some z =>
      simp only [ed] at h2
      unfold dIx at ed
      split at ed
      · rename_i ks vs edr
        cases ek : keyOf q.2 with
        | none => simp only [ek] at ed; cases ed
        | some kk =>
          simp only [ek] at ed
          cases eg : dGet ks vs kk with
          | none => simp only [eg] at ed; cases ed
          | some o =>
            cases o with
            | none => simp only [eg] at ed; cases ed
            | some w =>
              simp only [eg] at ed
              cases ed
              obtain ⟨a', o', rfl, gd, y, rfl, rv⟩ := dGet_ok s2.hr q1' edr q2 ek eg
              exact .inr (.inl ⟨a', y, rfl, gd, h2 F2 r2 H2 y (x1.trans x2) s2 rv⟩)
      · cases ed
    | none =>
      simp only [ed] at h2
      exact .inr (.inr (T.hK ▸ endO (T := fun Q => rIx G.K u v H2 Q) s2 (x1.trans x2) h2 fun z ez k => ok_ix n0 g F2 r2 S2 H2 p.2 q.2 u v z Q s2.hr q1' q2 ez k))
theorem se_isiT {tb : List (TyN × Bool)} {e : Expr} {fe : SE} {p pos : Pos} {cvs : List V} {cus : List Value} {ht : TA} {es : List Expr} {x1 : _} {tpos : Pos} (hK : G.K = X.K) (hg : Gl X "isinstance") (hm : X.mg "isinstance" = none) (hb : bootBuiltins "isinstance" = some (.builtin "isinstance")) (hcv : Paired ClsV cvs cus)
    (hcl : ∀ t b, (t, b) ∈ tb → PySem.W.kitAny G.K (t.val G) cus = some b ∧ ∀ c, t = .own c → ClsI G c) (he : PE X e (rdE G n0 fe)) (hc : PA X es ht) (hht : ∀ σ H Q, Q cvs H → ht σ H Q) (hlen : cvs.length ≤ sizeLine)
    (hs : starEach [e, .Tuple es x1 tpos] X.env = (false, eval e X.env) :: starEach [.Tuple es x1 tpos] X.env := by rfl) (hs2 : starEach [.Tuple es x1 tpos] X.env = (false, eval (.Tuple es x1 tpos) X.env) :: starEach [] X.env := by rfl) (hpl : (backTo pos (starEach [.Tuple es x1 tpos] X.env)).any (·.1) = false := by rfl) :
    PE X (.Call (.Name "isinstance" p) [e, .Tuple es x1 tpos] [] pos) (rdE G n0 (eIsi tb fe)) := by
  refine peI (pe_callB call_isiT hg hm hb (pa_cons (toV he) (pa_cons (pe_tup hc) pa_nil hs2) hs) (by decide) (by decide) hs hpl) fun σ H Q ⟨F, r, env, S, g, s, h⟩ => ?_
  refine stV s cnE h fun p S1 F1 r1 H1 u x1 s1 q1 h1 => ?_
  simp only at h1
  cases et : tyN S1 p.2 with
  | none => rw [et] at h1; exact h1.elim
  | some t =>
    rw [et] at h1
    cases el : tb.lookup t with
    | none => simp only [el] at h1; exact h1.elim
    | some b =>
      simp only [el] at h1
      obtain ⟨k1, k2⟩ := hcl t b (tb_mem el)
      refine hht _ _ _ ⟨hlen, fun tp htp => ?_⟩
      have h2 := s1.hr.heap (H' := upd H1 tp (.tup cvs)) fun a o e => by rw [upd_ne (ne_of_none e htp)]; exact e
      refine ⟨u, tp, cvs, t.val G, cus, b, rfl, upd_same, hcv, hK ▸ tyN_ok h2 q1 k2 et, hK ▸ k1, ?_⟩
      exact h1 F1 r1 _ _ x1 (s1.ext (.refl _ _) h2) rfl
def eRev (a : SE) : SE := fun env S => (a env S).bind fun p S1 => match lstOf S1 p.2 with
  | some xs => .ok (true, .lst xs.reverse) S1
  | none => .no
theorem RVs.rev {F : Hp} {r : List Addr} : ∀ {vs : List PV} {us : List V}, RVs G F r vs us → RVs G F r vs.reverse us.reverse
  | [], us, q => by
    cases (show us = [] from q)
    exact rfl
  | v :: vs, us, q => by
    obtain ⟨u, ur, rfl, k, l⟩ := q
    rw [List.reverse_cons, List.reverse_cons]
    exact (RVs.rev l).append ⟨u, [], rfl, k, rfl⟩
end
end PX
set_option Elab.async false
set_option linter.all false
set_option maxRecDepth 100000
namespace PX
open PySem PySem.Spec PyProof.Rows L2 He
def noLst (g : Addr → Option Obj) : Addr → Option Obj := fun a => match g a with
  | some o => (match o.cls with
    | .type n => if n = "list" then none else some o
    | _ => some o)
  | none => none
theorem noLst_at {g : Addr → Option Obj} {a : Addr} {o : Obj} (h : noLst g a = some o) : g a = some o ∧ o.cls ≠ .type "list" := by
  unfold noLst at h
  cases e : g a with
  | none => rw [e] at h; cases h
  | some ob =>
    rw [e] at h
    simp only at h
    cases ec : ob.cls with
    | type n =>
      rw [ec] at h
      simp only at h
      split at h
      · cases h
      · rename_i hn
        cases h
        rw [ec]
        exact ⟨rfl, fun z => hn (Value.type.inj z)⟩
    | _ =>
      rw [ec] at h
      cases h
      rw [ec]
      exact ⟨rfl, fun z => nomatch z⟩
abbrev Ck : Type := PySem.W.Frag → Bool
def obsP (fb : List Ck) (fn : List DefD) (K : PySem.W.Frag) : AlD := ((fb.all fun f => f K) && fn.all fun d => d.ok K, fn.map fun d => fnW K d.at_)
structure SaysP (fb : List Ck) (fn : List DefD) (K : PySem.W.Frag) : Prop where
  eq : obsP fb fn K = valD fn
  nol : ∀ a o, K.lookup a = some o → o.cls ≠ .type "list"
def obsPG (n : Nat) (fb : List Ck) (fn : List DefD) (g : Addr → Option Obj) : AlD := obsP fb fn (frG (noLst g) (asD g n))
def hookP (n : Nat) (fb : List Ck) (fn : List DefD) : PySem.W.Hook where
  α := AlD
  obs := fun s => obsPG n fb fn s.heap.get?
  val := fun _ => valD fn
  says := fun _ h => ∃ K : PySem.W.Frag, K.In h ∧ SaysP fb fn K
  of := fun _ _ e => ⟨_, fun _ _ e' => (noLst_at (frG_at _ e')).1, e, fun _ _ e' => (noLst_at (frG_at _ e')).2⟩
  keeps := fun _ _ _ ⟨K, hK, c⟩ k => ⟨K, PySem.W.Frag.In.keeps hK k, c⟩
theorem obsPG_eq {n : Nat} {fb : List Ck} {fn : List DefD} {g : Addr → Option Obj} {s : Shared} (h : ∀ a, g a = s.heap.get? a) : obsPG n fb fn g = (hookP n fb fn).obs s := by
  have e : g = s.heap.get? := funext h
  rw [e] <;> rfl
section
variable {fb : List Ck} {fn : List DefD} {K : PySem.W.Frag}
theorem SaysP.fact (c : SaysP fb fn K) (i : Nat) {f : Ck} (h : fb[i]? = some f := by rfl) : f K = true := by
  have c1 := (He.ba (show ((fb.all fun f => f K) && fn.all fun d => d.ok K) = true from congrArg (fun z : AlD => z.1) c.eq)).1
  exact List.all_eq_true.mp c1 f (List.mem_of_getElem? h)
theorem SaysP.def_ (c : SaysP fb fn K) (i : Nat) {d : DefD} (h : fn[i]? = some d := by rfl) : ∃ fd, FunD K d.name d.qual d.params d.body d.scope (d.dvs K) (d.kws K) (fAd K d.at_) fd := by
  have c2 := (He.ba (show ((fb.all fun f => f K) && fn.all fun d => d.ok K) = true from congrArg (fun z : AlD => z.1) c.eq)).2
  have e : fn.map (fun d => fnW K d.at_) = fn.map DefD.val := congrArg (fun z : AlD => z.2) c.eq
  have e2 : (fn.map fun d => fnW K d.at_)[i]? = (fn.map DefD.val)[i]? := by rw [e]
  rw [List.getElem?_map, List.getElem?_map, h] at e2
  exact DefD.funD (Option.some.inj e2) (List.all_eq_true.mp c2 d (List.mem_of_getElem? h))
end
def gam (fs : List (Str × Option Str)) (cs ns : List Str) (K : PySem.W.Frag) : Gam := ⟨K, fun i => fAd K (fs.getD i ("", none)), fun c => ga K (cs.getD c ""), fun n => ns.getD n ""⟩
theorem inj_nm {fs : List (Str × Option Str)} {cs ns : List Str} {K : PySem.W.Frag} (i : Nat) (hi : i < ns.length) (hn : ns.Nodup) (he : ("" : Str) ∉ ns) : Inj (gam fs cs ns K) i := fun j e => by
  have e : ns.getD j "" = ns.getD i "" := e
  have hi' : ns.getD i "" = ns[i] := by simp [List.getD_eq_getElem?_getD, hi]
  by_cases hj : j < ns.length
  · have hj' : ns.getD j "" = ns[j] := by simp [List.getD_eq_getElem?_getD, hj]
    rw [hi', hj'] at e
    exact (List.getElem_inj hn).mp e
  · have hj' : ns.getD j "" = "" := by simp [List.getD_eq_getElem?_getD, hj]
    rw [hi', hj'] at e
    exact absurd (e ▸ List.getElem_mem hi) he
def cGlo (x : Str) : Ck := fun K => eqO (PySem.W.nsIn K mainGlobals x) (some (some (.ref (ga K x))))
def cFree (x : Str) : Ck := fun K => eqO (PySem.W.nsIn K mainGlobals x) (some none)
def cInt (x : Str) (i : Int) : Ck := fun K => Fa.ok K (.int x i)
def cKeep (G : PySem.W.Frag → Gam) (f : Nat) : Ck := fun K => PySem.W.keepIn K (.ref ((G K).fa f))
def clsB (K : PySem.W.Frag) (C : Addr) : Bool := PySem.W.plainGet K C Str.empty && (PySem.W.hasDictIn K C && (PySem.W.plainOver K C && eqO (PySem.W.findIn K (.ref C) "__setattr__") (some (some (.builtin "object.__setattr__")))))
def isiB (K : PySem.W.Frag) (C : Addr) : Bool := eqO (PySem.W.findIn K (.ref C) "__class__") (some (some (.builtin "object.__class__"))) && (eqO (PySem.W.specialIn K (.builtin "object.__class__") "__get__") (some (some (.builtin "getset_descriptor.__get__"))) &&
  (decide (PySem.W.takesIn K (.builtin "object.__class__") = some true) && decide (PySem.W.mroIn K C (.type "object") = some true)))
def methB (K : PySem.W.Frag) (C f : Addr) (m : Str) : Bool := eqO (PySem.W.findIn K (.ref C) m) (some (some (.ref f))) && (PySem.W.isFn K (.ref f) && PySem.W.keepIn K (.ref f))
def cCls (G : PySem.W.Frag → Gam) (cs : List Nat) : Ck := fun K => cs.all fun c => clsB K ((G K).ca c) && isiB K ((G K).ca c)
def cFld (G : PySem.W.Frag → Gam) (f : Nat) (cs : List Nat) : Ck := fun K => cs.all fun c => clsB K ((G K).ca c) && eqO (PySem.W.findIn K (.ref ((G K).ca c)) ((G K).nm f)) (some none)
def cMet (G : PySem.W.Frag → Gam) (m : Nat) (tb : List (Nat × Nat)) : Ck := fun K => tb.all fun p => clsB K ((G K).ca p.1) && methB K ((G K).ca p.1) ((G K).fa p.2) ((G K).nm m)
def cMk (G : PySem.W.Frag → Gam) (c f : Nat) : Ck := fun K => PySem.W.makesIn K ((G K).ca c) && (eqO (PySem.W.findIn K (.ref ((G K).ca c)) "__init__") (some (some (.ref ((G K).fa f)))) && (PySem.W.isFn K (.ref ((G K).fa f)) && PySem.W.keepIn K (.ref ((G K).ca c))))
def cSpc (G : PySem.W.Frag → Gam) (tb : List (Nat × Nat)) (m : Str) : Ck := fun K => tb.all fun p => eqO (PySem.W.findIn K (.ref ((G K).ca p.1)) m) (some (some (.ref ((G K).fa p.2)))) && (PySem.W.isFn K (.ref ((G K).fa p.2)) && PySem.W.fnIn K ((G K).fa p.2))
def cNe (G : PySem.W.Frag → Gam) (tb : List (Nat × Nat)) : Ck := fun K => tb.all fun p => eqO (PySem.W.findIn K (.ref ((G K).ca p.1)) "__ne__") (some (some (.builtin "object.__ne__"))) && decide (PySem.W.mroIn K ((G K).ca p.1) (.type "object") = some true)
def cNf (G : PySem.W.Frag → Gam) (tb : List (Nat × Nat)) (tys : List TyN) : Ck := fun K => tb.all fun p => tys.all fun t => PySem.W.notFirst K ((G K).ca p.1) (t.val (G K))
def cKit (G : PySem.W.Frag → Gam) (tb : List (TyN × Bool)) (cu : PySem.W.Frag → Value) : Ck := fun K => tb.all fun p => decide (PySem.W.kitOne K (p.1.val (G K)) (cu K) = some p.2)
def cKitT (G : PySem.W.Frag → Gam) (tb : List (TyN × Bool)) (cus : PySem.W.Frag → List Value) : Ck := fun K => tb.all fun p => decide (PySem.W.kitAny K (p.1.val (G K)) (cus K) = some p.2)
section
variable {K : PySem.W.Frag} {h : Heap} {mg : Str → Option Value}
theorem cGlo_ok (X : K.In h) (G : h.Ns mainGlobals mg) {x : Str} (c : cGlo x K = true) : mg x = some (.ref (ga K x)) := PySem.W.mg_of X G (eqO_ok c)
theorem cFree_ok (X : K.In h) (G : h.Ns mainGlobals mg) {x : Str} (c : cFree x K = true) : mg x = none := PySem.W.mg_none_of X G (eqO_ok c)
theorem cInt_ok (X : K.In h) (G : h.Ns mainGlobals mg) {x : Str} {i : Int} (c : cInt x i K = true) : ∃ u, mg x = some u ∧ RelV (.int i) u := by
  obtain ⟨t, e⟩ := int_ok X G c
  exact ⟨_, e, ⟨t, rfl⟩⟩
variable {G : PySem.W.Frag → Gam}
theorem clsB_ok {C : Addr} (c : clsB K C = true) : Cls K C := by
  obtain ⟨c1, c⟩ := He.ba c
  obtain ⟨c2, c⟩ := He.ba c
  obtain ⟨c3, c4⟩ := He.ba c
  exact ⟨c1, c2, c3, eqO_ok c4⟩
theorem isiB_ok {C : Addr} (c : isiB K C = true) : SlX.SIsi K C := by
  obtain ⟨c1, c⟩ := He.ba c
  obtain ⟨c2, c⟩ := He.ba c
  obtain ⟨c3, c4⟩ := He.ba c
  exact ⟨eqO_ok c1, eqO_ok c2, of_decide_eq_true c3, of_decide_eq_true c4⟩
theorem methB_ok {C f : Addr} {m : Str} (c : methB K C f m = true) : Meth K C m f := by
  obtain ⟨c1, c⟩ := He.ba c
  obtain ⟨c2, c3⟩ := He.ba c
  exact ⟨eqO_ok c1, c2, c3⟩
theorem cCls_ok (hG : (G K).K = K) {cs : List Nat} (h : cCls G cs K = true) : ∀ c ∈ cs, ClsI (G K) c := fun c hc => by
  obtain ⟨h1, h2⟩ := He.ba (List.all_eq_true.mp h c hc)
  exact ⟨hG.symm ▸ clsB_ok h1, hG.symm ▸ isiB_ok h2⟩
theorem cFld_ok (hG : (G K).K = K) {f : Nat} {cs : List Nat} (h : cFld G f cs K = true) : ∀ c ∈ cs, Cls (G K).K ((G K).ca c) ∧ NoAttr (G K).K ((G K).ca c) ((G K).nm f) := fun c hc => by
  obtain ⟨h1, h2⟩ := He.ba (List.all_eq_true.mp h c hc)
  rw [hG]
  exact ⟨clsB_ok h1, eqO_ok h2⟩
theorem cMet_ok (hG : (G K).K = K) {m : Nat} {tb : List (Nat × Nat)} (h : cMet G m tb K = true) : ∀ p ∈ tb, Cls (G K).K ((G K).ca p.1) ∧ Meth (G K).K ((G K).ca p.1) ((G K).nm m) ((G K).fa p.2) := fun p hp => by
  obtain ⟨h1, h2⟩ := He.ba (List.all_eq_true.mp h p hp)
  rw [hG]
  exact ⟨clsB_ok h1, methB_ok h2⟩
theorem cMk_ok (hG : (G K).K = K) {c f : Nat} (h : cMk G c f K = true) : Mk (G K).K ((G K).ca c) ((G K).fa f) := by
  obtain ⟨h1, h⟩ := He.ba h
  obtain ⟨h2, h⟩ := He.ba h
  obtain ⟨h3, h4⟩ := He.ba h
  rw [hG]
  exact ⟨h1, eqO_ok h2, h3, h4⟩
theorem cSpc_ok (hG : (G K).K = K) {tb : List (Nat × Nat)} {m : Str} (h : cSpc G tb m K = true) : ∀ p ∈ tb, Spc (G K).K ((G K).ca p.1) ((G K).fa p.2) m ∧ PySem.W.fnIn (G K).K ((G K).fa p.2) = true := fun p hp => by
  obtain ⟨h1, h2⟩ := He.ba (List.all_eq_true.mp h p hp)
  obtain ⟨h2, h3⟩ := He.ba h2
  rw [hG]
  exact ⟨⟨eqO_ok h1, h2⟩, h3⟩
def ownIn (cs : List Nat) : TyN → Bool
  | .own c => cs.contains c
  | _ => true
theorem ownIn_ok {cs : List Nat} {c : Nat} (h : ownIn cs (.own c) = true) : c ∈ cs := by
  have h : cs.contains c = true := h
  simpa using h
theorem cEq_ok (hG : (G K).K = K) {tb : List (Nat × Nat)} {tys : List TyN} {cs : List Nat} (h1 : cSpc G tb "__eq__" K = true) (h2 : cNe G tb K = true) (h3 : cNf G tb tys K = true) (h4 : cCls G cs K = true) (h5 : (tys.all fun t => ownIn cs t) = true) : EqT (G K) tb tys := by
  refine ⟨fun p hp => (cSpc_ok hG h1 p hp).1, fun p hp => ?_, fun p hp t ht => ?_, fun c hc => cCls_ok hG h4 c (ownIn_ok (List.all_eq_true.mp h5 _ hc))⟩
  · obtain ⟨a, b⟩ := He.ba (List.all_eq_true.mp h2 p hp)
    rw [hG]
    exact ⟨eqO_ok a, of_decide_eq_true b⟩
  · rw [hG]
    exact List.all_eq_true.mp (List.all_eq_true.mp h3 p hp) t ht
theorem cKit_ok (hG : (G K).K = K) {tb : List (TyN × Bool)} {cu : PySem.W.Frag → Value} {cs : List Nat} (h1 : cKit G tb cu K = true) (h4 : cCls G cs K = true) (h5 : (tb.all fun p => ownIn cs p.1) = true) : ∀ t b, (t, b) ∈ tb → PySem.W.kitOne (G K).K (t.val (G K)) (cu K) = some b ∧ ∀ c, t = .own c → ClsI (G K) c := fun t b hm => by
  refine ⟨?_, fun c hc => ?_⟩
  · rw [hG]
    exact of_decide_eq_true (List.all_eq_true.mp h1 (t, b) hm)
  · subst hc
    exact cCls_ok hG h4 c (ownIn_ok (List.all_eq_true.mp h5 _ hm))
theorem cKitT_ok (hG : (G K).K = K) {tb : List (TyN × Bool)} {cus : PySem.W.Frag → List Value} {cs : List Nat} (h1 : cKitT G tb cus K = true) (h4 : cCls G cs K = true) (h5 : (tb.all fun p => ownIn cs p.1) = true) : ∀ t b, (t, b) ∈ tb → PySem.W.kitAny (G K).K (t.val (G K)) (cus K) = some b ∧ ∀ c, t = .own c → ClsI (G K) c := fun t b hm => by
  refine ⟨?_, fun c hc => ?_⟩
  · rw [hG]
    exact of_decide_eq_true (List.all_eq_true.mp h1 (t, b) hm)
  · subst hc
    exact cCls_ok hG h4 c (ownIn_ok (List.all_eq_true.mp h5 _ hm))
end
section
variable {P : Program} {w : World} {K : PySem.W.Frag} {mg : Str → Option Value} {base : Heap} {G : Gam}
theorem spF_np {T : Nat → Option FnB} {n f np : Nat} {b : FnB} {vs : List V} {H : Hp} {Q : VK} {E : XK} (hT : T f = some b) (h : spF G (callF T (n + 1)) f np vs H Q E) : np = b.np := by
  obtain ⟨F, r, S, g, n0, args, hr, q, l, h⟩ := h
  have h : (match (match T f with
    | some b => runB b (callF T n) args n0 S
    | none => R.no) with
    | .ok v S' => ∀ F' r' H' u, Ext F F' r r' → HR G n0 g F' r' S' H' → RV G F' r' v u → Q u H'
    | _ => False) := h
  rw [hT] at h
  simp only [runB] at h
  by_cases hl : args.length = b.np
  · rw [← l, hl]
  · rw [if_neg hl] at h
    exact h.elim
theorem spF_none {T : Nat → Option FnB} {n f np : Nat} {vs : List V} {H : Hp} {Q : VK} {E : XK} (hT : T f = none) (h : spF G (callF T n) f np vs H Q E) : False := by
  obtain ⟨F, r, S, g, n0, args, hr, q, l, h⟩ := h
  cases n with
  | zero => exact h
  | succ n =>
    have h : (match (match T f with
      | some b => runB b (callF T n) args n0 S
      | none => R.no) with
      | .ok v S' => ∀ F' r' H' u, Ext F F' r r' → HR G n0 g F' r' S' H' → RV G F' r' v u → Q u H'
      | _ => False) := h
    rw [hT] at h
    exact h
abbrev All (P : Program) (w : World) (K : PySem.W.Frag) (mg : Str → Option Value) (base : Heap) (G : Gam) (T : Nat → Option FnB) (n : Nat) : Prop := ∀ f np, FnR P w K mg base L2.CX0 (2 * n) (G.fa f) (spF G (callF T n) f np)
theorem all_zero {T : Nat → Option FnB} : All P w K mg base G T 0 := fun f np A outer s H us vs Q E hr he hv hs => by
  obtain ⟨F, r, S, g, n0, args, hr, q, l, h⟩ := hs
  exact h.elim
theorem def_fn {T : Nat → Option FnB} {n f : Nat} {b : FnB} {x qual : Str} {params : Arguments} {body : List Stmt} {scope : Scope} {fd : FuncData} {N ps : List Str} (hT : T f = some b) (F : FunD K x qual params body scope [] [] (G.fa f) fd) (S : FnScope N ps scope) (hn : b.nl = N.length) (hp : ps.length = b.np)
    (hbody : ∀ (cdv : Value) (A : Around) (outer : List PySem.Env) (s : Shared) (H : Hp) (E : XK) (n0 : Nat), Room (2 * n + 1) (A.deeper (envOfC qual scope s.heap.objs.size (G.fa f) cdv)) →
      PSs (cxOf L2.CX0 P w K mg base N qual scope (G.fa f) cdv A outer s H E).nox body (rdS G n0 (b.body (callF T n) n0))) : FnOk P w K mg base L2.CX0 (2 * (n + 1)) (G.fa f) fd ps (spF G (callF T (n + 1)) f b.np) :=
  F.ok S (fun vs H Q E h => by rw [spF_len vs H Q E h, hp]) fun cdv A outer s H vs Q E hr h => by
    obtain ⟨n0, hb⟩ := body_ok hT hn h
    exact ⟨_, PSs.nox (hbody cdv A outer s H E n0 hr), hb⟩
theorem def_ok {T : Nat → Option FnB} {n f : Nat} {b : FnB} {x qual : Str} {params : Arguments} {body : List Stmt} {scope : Scope} {fd : FuncData} {N ps : List Str} (hT : T f = some b) (F : FunD K x qual params body scope [] [] (G.fa f) fd) (S : FnScope N ps scope) (hn : b.nl = N.length) (hp : ps.length = b.np)
    (hb : Binds K fd ps []) (hbody : ∀ (cdv : Value) (A : Around) (outer : List PySem.Env) (s : Shared) (H : Hp) (E : XK) (n0 : Nat), Room (2 * n + 1) (A.deeper (envOfC qual scope s.heap.objs.size (G.fa f) cdv)) →
      PSs (cxOf L2.CX0 P w K mg base N qual scope (G.fa f) cdv A outer s H E).nox body (rdS G n0 (b.body (callF T n) n0))) : ∀ np, FnR P w K mg base L2.CX0 (2 * (n + 1)) (G.fa f) (spF G (callF T (n + 1)) f np) := by
  have ok := def_fn hT F S hn hp hbody
  intro np A outer s H us vs Q E hr he hv hs
  have e := spF_np hT hs
  subst e
  exact (ok.raw hb .nil) A outer s H us vs Q E hr he hv (by show spF G (callF T (n + 1)) f b.np (vs ++ []) H Q E; rw [List.append_nil]; exact hs)
end
section
variable {P : Program} {w : World} {K : PySem.W.Frag} {mg : Str → Option Value} {base : Heap} {G : Gam}
theorem law_sp {T : Nat → Option FnB} {n f : Nat} {H : Hp} {a : Addr} {ns : List Int} {S' : Store} (nol : ∀ a o, K.lookup a = some o → o.cls ≠ .type "list") (hS : SqL K H a (ns.map V.int)) (h : callF T n f [.lst (ns.map .int)] 0 [] = .ok (.bl true) S') :
    spF G (callF T n) f 1 [.ref a] H (fun v _ => v = .bl true) fun _ _ _ => False := by
  have hR : Rd H a (.lst (ns.map V.int)) := by
    rcases hS with h | ⟨o, its, k, h1, h2, _⟩
    · exact h
    · exact absurd h2 (nol a o h1)
  have hF : Le (fun b => if b = a then H a else none) H := fun b o e => by
    have e : (if b = a then H a else none) = some o := e
    split at e
    · rename_i hb
      rw [hb]
      exact e
    · cases e
  refine ⟨fun b => if b = a then H a else none, [], [], ⟨fun _ => 0, fun _ => none, fun _ => false⟩, 0, [.lst (ns.map .int)], ⟨LeD.of hF, .nil, fun b hb => absurd hb (by simp), rfl, Nat.le_refl _, fun i hi => absurd hi (Nat.not_lt_zero i), fun i ob b e => absurd e (by simp), fun b o e => (by cases e), fun i ob b e => absurd e (by simp), fun b o e => (by cases e)⟩, ⟨.ref a, [], rfl, ⟨a, ns.map V.int, rfl, ?_, RVs.of_ints ns⟩, rfl⟩, rfl, ?_⟩
  · rcases hR with h | ⟨o, h⟩
    · exact .inl (by show (if a = a then H a else none) = _; rw [if_pos rfl]; exact h)
    · exact .inr ⟨o, by show (if a = a then H a else none) = _; rw [if_pos rfl]; exact h⟩
  · rw [h]
    exact fun F' r' H' u _ _ q => q
end
end PX
set_option Elab.async false
set_option linter.all false
set_option maxRecDepth 100000
namespace PX
open PySem PySem.Spec PyProof.Rows L2
def isFnK : ScopeKind → Bool
  | .function => true
  | _ => false
def blkB (N : List Str) (sc scope : Scope) (own : List (Str × Nat)) : Bool := isFnK scope.kind && (scope.names.all (fun y => decide (scope.names.lookup y.1 = some y.2)) && (own.all (fun p => decide (N[p.2]? = some p.1)) &&
  (scope.names.all (fun y => !decide (y.2 = .free) || (decide (sc.names.lookup y.1 = some .cell) || decide (sc.names.lookup y.1 = some .free))) &&
  scope.names.all (fun y => !(decide (y.2 = .local) || decide (y.2 = .cell)) || (decide (y.1 ∈ own.map (·.1)) || !decide (y.1 ∈ N))))))
theorem blk_ok {N : List Str} {sc scope : Scope} {own : List (Str × Nat)} (h : blkB N sc scope own = true) : BlkOk N sc scope own := by
  unfold blkB at h
  simp only [Bool.and_eq_true, List.all_eq_true, Bool.or_eq_true, Bool.not_eq_true', decide_eq_true_eq, decide_eq_false_iff_not, Bool.or_eq_false_iff] at h
  obtain ⟨h1, h2, h3, h4, h5⟩ := h
  refine ⟨?_, fun y hy => h2 y hy, fun p hp => h3 p hp, fun y hy e => (h4 y hy).resolve_left (fun z => z e), fun y hy e => (h5 y hy).resolve_left (fun z => ?_)⟩
  · cases hk : scope.kind with
    | function => rfl
    | _ => rw [hk] at h1; cases h1
  · rcases e with e | e
    · exact z.1 e
    · exact z.2 e
section
variable {X : Cx} {G : Gam} {n0 : Nat}
theorem ss_setLc {i : Nat} {y : Str} {py : Pos} {elt tg iter : Expr} {ifs : List Expr} {scope : Scope} {own : List (Str × Nat)} {pos spos : Pos} {fi : SI} {t : Tg} {gg : TG} {c : ST} {fe : SE} (hc : X.calm = true) (hN : X.N.Nodup) (hy : X.N[i]? = some y) (hyl : X.env.scope.names.lookup y = some .local)
    (hsw : swapsWith (.ListComp elt [⟨tg, iter, ifs, 0⟩] scope pos) (some (.Name y py)) spos.line X.env = pure true) (hi : PI X tg iter (rdI G n0 fi)) (ok : BlkOk X.N X.env.scope scope own) (ht : TgB G (own.map (·.2)) t gg)
    (hg : ∀ (s : Shared) (H : Hp) (C : Addr) (cl : List (Str × Addr)) (fp : List Addr), PG (X.blk s H scope (compEnvC scope cl C X.env) fp) tg gg)
    (hts : ∀ (s : Shared) (H : Hp) (C : Addr) (cl : List (Str × Addr)) (fp : List Addr), PTs (X.blk s H scope (compEnvC scope cl C X.env) fp) ifs (rdT G n0 c))
    (he : ∀ (s : Shared) (H : Hp) (C : Addr) (cl : List (Str × Addr)) (fp : List Addr), PE (X.blk s H scope (compEnvC scope cl C X.env) fp) elt (rdE G n0 fe)) (hs : ∀ x, foldedSetIterable iter X.env x = pure x := by intro _; rfl) :
    PS X (.Assign [.Name y py] (.ListComp elt [⟨tg, iter, ifs, 0⟩] scope pos) spos) (tAsg (rdE G n0 (eLc fi t (own.map (·.2)) c fe)) (gName i)) :=
  psI (ps_setLc hc hN hy hyl hsw hi ok hg hts (fun s H C cl fp => toV (he s H C cl fp)) hs) fun D σ H h => lc_core' ht σ H _ h
theorem asgV {f : SE} {gg : TG} {st : Stmt} (hp : PS X st (tAsg (rdE G n0 f) gg)) : PS X st (tAsg (rdV G n0 f) gg) := by
  refine psI hp fun D σ H ⟨F, r, env, S, g, s, h⟩ => ⟨F, r, env, S, g, s, ?_⟩
  cases e : f env S with
  | ok p S' =>
    rw [e] at h
    intro F' r' H' u x s' q
    obtain ⟨F2, x2, h2, q2⟩ := freeze s'.hr q
    exact h F2 r' H' u (x.trans x2) (s'.ext x2 h2) q2
  | ex => rw [e] at h; exact h
  | no => rw [e] at h; exact h
theorem ch_core {o o' : Op2} {t t' : R2} {fa fb fc : SE} (ho : Ok2 G o t) (ho' : Ok2 G o' t') (σ : L2.St) (H : Hp) (Q : VK) (hh : rdE G n0 (eCh o o' fa fb fc) σ H Q) : tChain t t' (rdV G n0 fa) (rdV G n0 fb) (rdV G n0 fc) σ H Q := by
  obtain ⟨F, r, env, S, g, s, h⟩ := hh
  refine stV s cnE h fun p S1 F1 r1 H1 u x1 s1 q1 h1 => ?_
  refine stV s1 cnE h1 fun q S2 F2 r2 H2 v x2 s2 q2 h2 => ?_
  split at h2
  · rename_i eo
    refine ho n0 g F2 r2 S2 H2 p.2 q.2 u v _ _ s2.hr (q1.ext x2) q2 eo fun F3 r3 H3 w x3 hr3 rf => ⟨true, rf, ?_⟩
    refine stV (s2.ext x3 hr3) cnE h2 fun z S4 F4 r4 H4 w' x4 s4 q4 h4 => ?_
    exact endO (T := fun Q => t' v w' H4 Q) s4 (((x1.trans x2).trans x3).trans x4) h4 fun z' ez k => ho' n0 g F4 r4 S4 H4 q.2 z.2 v w' z' Q s4.hr (q2.ext (x3.trans x4)) q4 ez k
  · rename_i eo
    refine ho n0 g F2 r2 S2 H2 p.2 q.2 u v _ _ s2.hr (q1.ext x2) q2 eo fun F3 r3 H3 w x3 hr3 rf => ⟨false, rf, ?_⟩
    exact h2 F3 r3 H3 _ ((x1.trans x2).trans x3) (s2.ext x3 hr3) rfl
  · exact h2.elim
theorem st_ch {o1 o2 : CmpOp} {o o' : Op2} {t t' : R2} {a b c : Expr} {fa fb fc : SE} {pos : Pos} (hop : OpR X (compareOp o1) t) (ho : Ok2 G o t) (hop' : OpR X (compareOp o2) t') (ho' : Ok2 G o' t') (ha : PE X a (rdE G n0 fa)) (hb : PE X b (rdE G n0 fb)) (hc : PE X c (rdE G n0 fc))
    (hm : lastMarks [o1, o2] [b, c] = false := by with_unfolding_all rfl) : PT X (.Compare a [o1, o2] [b, c] pos) (rdT G n0 (tBl (eCh o o' fa fb fc))) :=
  st_of (pt_chain hop hop' (toV ha) (toV hb) (toV hc) hm) (ch_core ho ho')
end
theorem FunD_binds {K : PySem.W.Frag} {x qual : Str} {params : Arguments} {body : List Stmt} {scope : Scope} {f : Addr} {fd : FuncData} {ps : List Str} (F : FunD K x qual params body scope [] [] f fd)
    (h : ∀ (kV doc pm : Value) (an : Option Addr) (cdv ct : Value) (us : List Value), us.length = ps.length → bindArgs (PySem.W.fnOf x qual params body scope .none kV doc pm an cdv ct) ⟨us, []⟩ = pure (ps.zip us)) : Binds K fd ps [] := fun s us _ hl => by
  rw [List.append_nil] at hl ⊢
  exact F.bindsA h s us hl
end PX
set_option Elab.async false
set_option linter.all false
set_option maxRecDepth 100000
set_option maxHeartbeats 1000000
namespace PX
open PySem PySem.Spec PyProof.Rows L2
def flatP : PV → Bool
  | .non => true
  | .bl _ => true
  | .int _ => true
  | .str _ => true
  | _ => false
def eqP : PV → PV → Bool
  | .non, .non => true
  | .bl a, .bl b => a == b
  | .bl a, .int b => (if a then 1 else 0) == b
  | .int a, .bl b => a == (if b then 1 else 0)
  | .int a, .int b => a == b
  | .str a, .str b => a == b
  | _, _ => false
def flatsP : List PV → Bool
  | [] => true
  | v :: vs => flatP v && flatsP vs
def anyP (x : PV) : List PV → Bool
  | [] => false
  | v :: vs => eqP v x || anyP x vs
def memP (S : Store) (x y : PV) : Option Bool := match deref S y with
  | some (.dct ks vs) => match keyOf x with
    | some q => match dGet ks vs q with
      | some o => some o.isSome
      | none => none
    | none => none
  | _ => match itemsOf S y with
    | some ys => if flatP x && flatsP ys then some (anyP x ys) else match toD S 6 x with
      | some d => match toD S 6 y with
        | some (.list ds) => some (ds.any fun z => PyData.eqv z d)
        | some (.tuple ds) => some (ds.any fun z => PyData.eqv z d)
        | _ => none
      | none => none
    | none => none
def oNotIn : Op2 := fun x y S => (memP S x y).map fun b => (false, .bl (!b))
section
variable {X : Cx} {G : Gam} {n0 : Nat} {g : Gh} {F : Hp} {r : List Addr} {S : Store} {H : Hp}
theorem flat_ok {v : PV} {u : V} (q : RV G F r v u) (h : flatP v = true) : flatV u = true := by
  cases v <;> first | (cases q; rfl) | cases h
theorem flats_ok : ∀ {vs : List PV} {us : List V}, RVs G F r vs us → flatsP vs = true → us.all flatV = true
  | [], us, q, _ => by
    cases (show us = [] from q)
    rfl
  | v :: vs, us, q, h => by
    obtain ⟨u, ur, rfl, k, l⟩ := q
    simp only [flatsP, Bool.and_eq_true] at h
    rw [List.all_cons, flat_ok k h.1, flats_ok l h.2]
    rfl
theorem eqP_ok {v w : PV} {u y : V} (q : RV G F r v u) (k : RV G F r w y) (h : flatP v = true) (h2 : flatP w = true) : eqP v w = eqV u y := by
  cases v <;> cases w <;> first | (cases q; cases k; rfl) | (simp [flatP] at h; done) | (simp [flatP] at h2; done)
theorem anyP_ok {x : PV} {y : V} (q : RV G F r x y) (h : flatP x = true) : ∀ {vs : List PV} {us : List V}, RVs G F r vs us → flatsP vs = true → anyP x vs = inV y us
  | [], us, k, _ => by
    cases (show us = [] from k)
    rfl
  | v :: vs, us, k, h2 => by
    obtain ⟨u, ur, rfl, k1, k2⟩ := k
    simp only [flatsP, Bool.and_eq_true] at h2
    show (eqP v x || anyP x vs) = (eqV u y || inV y ur)
    rw [eqP_ok k1 q h2.1 h, anyP_ok q h k2 h2.2]
def rInG (K : PySem.W.Frag) (f : Bool → Bool) : R2 := fun x y H Q => (∃ a o, y = .ref a ∧ DGet H a x o ∧ Q (.bl (f o.isSome)) H) ∨ (∃ p xs, y = .ref p ∧ (SqL K H p xs ∨ SqT K H p xs) ∧ flatV x = true ∧ xs.all flatV = true ∧ Q (.bl (f (inV x xs))) H) ∨
  (∃ d ds, Dp K H x d ∧ Dp K H y (.list ds) ∧ SeqAt.shaped d = true ∧ SeqAt.shaped (.list ds) = true ∧ Q (.bl (f (ds.any fun z => PyData.eqv z d))) H) ∨
  ∃ d ds, Dp K H x d ∧ Dp K H y (.tuple ds) ∧ SeqAt.shaped d = true ∧ SeqAt.shaped (.tuple ds) = true ∧ Q (.bl (f (ds.any fun z => PyData.eqv z d))) H
theorem canT {ds : List PyData} (h : SeqAt.shaped (.tuple ds) = true) : PyData.canLayAll0 ds = true := SeqAt.canLay_of_shaped h
theorem roomT {n : Nat} {ds : List PyData} {d : PyData} (h : SeqAt.shaped d = true) (hu : n + 65 < cLine) : n + 1 + min (PyData.depthAll ds) d.depth < cLine := by
  have h2 : d.depth ≤ 64 := by
    unfold SeqAt.shaped at h
    simp only [Bool.and_eq_true, decide_eq_true_eq] at h
    exact h.2
  omega
theorem op_notInG (hu : X.A.units + 65 < cLine) : OpR X (compareOp .NotIn) (rInG X.K fun b => !b) := by
  intro pins s σ H x y v u Q I rx ry h
  rcases h with ⟨a, o, rfl, g, q⟩ | h | h | h
  · obtain rfl : u = Value.ref a := ry
    exact d_notIn (by omega) I g rx fun s3 I3 => ⟨.bl (!o.isSome), H, I3, rfl, q⟩
  · obtain ⟨p, xs, rfl, hq, fx, fs, q⟩ := h
    exact op_notIn_seq pins s σ H x _ v u Q I rx ry ⟨p, xs, rfl, hq, fx, fs, q⟩
  · exact op_notInD hu pins s σ H x y v u Q I rx ry h
  · obtain ⟨d, ds, hd, he, sd, se, q⟩ := h
    obtain ⟨as, r1⟩ := Dp.reads I d x v hd rx
    obtain ⟨bs, r2⟩ := Dp.reads I (.tuple ds) y u he ry
    exact SeqAt.notIn_tuple_reads r2 r1 (canT se) (SeqAt.canLay_of_shaped sd) (roomT sd hu) ⟨.bl _, H, I, rfl, q⟩
theorem memP_ok (h : HR G n0 g F r S H) {x y : PV} {u v : V} {b : Bool} {f : Bool → Bool} {Q : VK} (q1 : RV G F r x u) (q2 : RV G F r y v) (e : memP S x y = some b) (k : Q (.bl (f b)) H) : rInG G.K f u v H Q := by
  unfold memP at e
  split at e
  · rename_i ks vs ed
    cases ek : keyOf x with
    | none => simp only [ek] at e; cases e
    | some q =>
      simp only [ek] at e
      cases eg : dGet ks vs q with
      | none => simp only [eg] at e; cases e
      | some o =>
        simp only [eg] at e
        cases e
        obtain ⟨a, o', rfl, gd, oo⟩ := dGet_ok h q2 ed q1 ek eg
        refine .inl ⟨a, o', rfl, gd, ?_⟩
        have : o'.isSome = o.isSome := by
          cases o with
          | none => rw [show o' = none from oo]; rfl
          | some w => obtain ⟨y, rfl, _⟩ := oo; rfl
        rw [this]
        exact k
  · cases ei : itemsOf S y with
    | none => simp only [ei] at e; cases e
    | some ys =>
      simp only [ei] at e
      split at e
      · rename_i hf
        cases e
        simp only [Bool.and_eq_true] at hf
        obtain ⟨a, us, rfl, hs, rv⟩ := view_seq h q2 ei
        exact .inr (.inl ⟨a, us, rfl, hs, flat_ok q1 hf.1, flats_ok rv hf.2, by rw [← anyP_ok q1 hf.1 rv hf.2]; exact k⟩)
      · cases e1 : toD S 6 x with
        | none => simp only [e1] at e; cases e
        | some d =>
          simp only [e1] at e
          cases e2 : toD S 6 y with
          | none => simp only [e2] at e; cases e
          | some d' =>
            simp only [e2] at e
            split at e
            · rename_i ds eds
              cases eds
              cases e
              obtain ⟨a1, a2, a3⟩ := toD_ok h 6 x u d q1 e1
              obtain ⟨b1, b2, b3⟩ := toD_ok h 6 y v _ q2 e2
              exact .inr (.inr (.inl ⟨d, ds, a1, b1, toD_shaped a2 a3 (by decide), toD_shaped b2 b3 (by decide), k⟩))
            · rename_i ds eds
              cases eds
              cases e
              obtain ⟨a1, a2, a3⟩ := toD_ok h 6 x u d q1 e1
              obtain ⟨b1, b2, b3⟩ := toD_ok h 6 y v _ q2 e2
              exact .inr (.inr (.inr ⟨d, ds, a1, b1, toD_shaped a2 a3 (by decide), toD_shaped b2 b3 (by decide), k⟩))
            · cases e
theorem ok_notIn : Ok2 G oNotIn (rInG G.K fun b => !b) := fun n0 g F r S H x y u v z Q h q1 q2 e k => by
  unfold oNotIn at e
  cases em : memP S x y with
  | none => rw [em] at e; cases e
  | some b =>
    rw [em] at e
    cases e
    exact memP_ok (f := fun b => !b) h q1 q2 em (k F r H _ (.refl F r) h rfl)
theorem units65 {cf : CF} {k : Nat} (T : Tb X G cf k) : X.A.units + 65 < cLine := by
  have := T.room.un
  omega
end
end PX
set_option Elab.async false
set_option linter.all false
set_option maxRecDepth 100000
set_option maxHeartbeats 2000000
namespace ZG
open PySem RZ
section
variable {prog : Program} {w : World} {A : Around} {E : Value → Shared → Prop} {s : Shared}
theorem zipG_item_held {b1 b2 : Bool} {z TI TO T i1 i2 l1 l2 : Addr} {f : Bool} {oT : Obj} {k1 k2 : Nat} {xs ys : Array Value} {x y : Value} {Q : Value → Shared → Prop} (D : ZipApart z TI TO i1 i2 l1 l2)
    (hz : IsZipHeld s.heap z TI TO T f) (hT : s.heap.get? T = some oT) (hTI : IsPair s.heap TI (.ref i1) (.ref i2))
    (h1 : SqIt b1 s.heap i1 l1 k1) (h2 : SqIt b2 s.heap i2 l2 k2) (hl1 : SqOb b1 s.heap l1 xs) (hl2 : SqOb b2 s.heap l2 ys) (hx : xs[k1]? = some x) (hy : ys[k2]? = some y)
    (hQ : ∀ h', IsZipHeld h' z TI TO T true → SqIt b1 h' i1 l1 (k1 + 1) → SqIt b2 h' i2 l2 (k2 + 1) → IsPair h' s.heap.objs.size x y → h'.objs.size = s.heap.objs.size + 1 →
      (∀ c o, c ≠ z → c ≠ i1 → c ≠ i2 → s.heap.get? c = some o → h'.get? c = some o) → Q (.ref s.heap.objs.size) { s with heap := h' }) :
    wpAny (model prog w) A (Builtin.«zip.__next__» ⟨[.ref z], []⟩) (fun fin s' => ∃ v, fin = .done (.ret v) ∧ Q v s') E s := by
  show wpAny _ _ (field (.ref z) 2 >>= _) _ _ _
  refine wpAny_bind (wpAny_field hz rfl (x := .bool false) rfl ?_)
  show wpAny _ _ (field (.ref z) 3 >>= _) _ _ _
  refine wpAny_bind (wpAny_field hz rfl (x := .ref TI) rfl ?_)
  refine wpAny_bind (wpAny_seqItems hTI rfl ?_)
  show wpAny _ _ (Builtin.SmallTypes.ownedTupleIsFree (.ref z) >>= _) _ _ _
  refine wpAny_bind (wpAny_tupleHeld_zip hz hT fun h₁ hz₁ hs₁ => ?_)
  simp only [Bool.false_eq_true, if_false]
  refine wpAny_bind ?_
  rw [← Array.forIn_toList]
  simp only [List.forIn_cons, List.forIn_nil]
  refine wpAny_bind (wpAny_bind (wpAny_holding ?_))
  show wpAny _ _ (Builtin.SmallTypes.nextOf (.ref i1) >>= _) _ _ _
  refine wpAny_bind (nextOf_item (s := { s with heap := h₁ }) (h1.extBut hs₁.extBut D.i1z) (hl1.extBut hs₁.extBut D.l1z) hx fun h₂ h1₂ hs₂ => wpAny_pure ?_)
  refine wpAny_pure ?_
  refine wpAny_bind (wpAny_bind (wpAny_holding ?_))
  show wpAny _ _ (Builtin.SmallTypes.nextOf (.ref i2) >>= _) _ _ _
  refine wpAny_bind (nextOf_item (s := { s with heap := h₂ }) ((h2.extBut hs₁.extBut D.i2z).extBut hs₂.extBut D.i12.symm) ((hl2.extBut hs₁.extBut D.l2z).extBut hs₂.extBut D.l2i1) hy fun h₃ h2₃ hs₃ => wpAny_pure ?_)
  refine wpAny_pure (wpAny_pure ?_)
  show wpAny _ _ (newTuple [x, y] >>= _) _ _ _
  refine wpAny_bind (wpAny_newTuple ?_)
  have hsz : h₃.objs.size = s.heap.objs.size := by rw [hs₃.1, hs₂.1, hs₁.1]
  have hz₃ : IsZipHeld h₃ z TI TO T true := hs₃.extBut _ _ D.i2z.symm (hs₂.extBut _ _ D.i1z.symm hz₁)
  have hk : ∀ c o, c ≠ z → c ≠ i1 → c ≠ i2 → s.heap.get? c = some o → h₃.get? c = some o := fun c o c1 c2 c3 e => hs₃.extBut _ _ c3 (hs₂.extBut _ _ c2 (hs₁.extBut _ _ c1 e))
  have h1₃ : SqIt b1 h₃ i1 l1 (k1 + 1) := h1₂.extBut hs₃.extBut D.i12
  refine wpAny_pure ⟨_, rfl, ?_⟩
  show Q (.ref h₃.objs.size) _
  have hp : IsPair (h₃.push { cls := .type "tuple", data := .seq #[x, y] }) h₃.objs.size x y := Heap.get?_push_size _ rfl
  have hz4 : (h₃.push { cls := .type "tuple", data := .seq #[x, y] }).objs.size = h₃.objs.size + 1 := Heap.size_push ..
  rw [hsz] at hp hz4 ⊢
  exact hQ _ (Heap.get?_push_of_some _ hz₃) (h1₃.at_ fun o e => Heap.get?_push_of_some _ e) (h2₃.at_ fun o e => Heap.get?_push_of_some _ e) hp hz4 fun c o c1 c2 c3 e => Heap.get?_push_of_some _ (hk c o c1 c2 c3 e)
theorem zipG_end_held {b1 b2 : Bool} {z TI TO T i1 i2 l1 l2 : Addr} {f : Bool} {oT : Obj} {k1 k2 : Nat} {xs ys : Array Value} {Q : Fin → Shared → Prop} (hh : A.handled = none) (D : ZipApart z TI TO i1 i2 l1 l2)
    (hz : IsZipHeld s.heap z TI TO T f) (hT : s.heap.get? T = some oT) (hTI : IsPair s.heap TI (.ref i1) (.ref i2))
    (h1 : SqIt b1 s.heap i1 l1 k1) (h2 : SqIt b2 s.heap i2 l2 k2) (hl1 : SqOb b1 s.heap l1 xs) (hl2 : SqOb b2 s.heap l2 ys) (hend : xs[k1]? = none ∨ ys[k2]? = none)
    (hE : ∀ h' e, (∀ c o, c ≠ z → c ≠ i1 → c ≠ i2 → s.heap.get? c = some o → h'.get? c = some o) → (∃ o, h'.get? e = some o ∧ o.cls = .type "StopIteration") → E (.ref e) { s with heap := h' }) :
    wpAny (model prog w) A (Builtin.«zip.__next__» ⟨[.ref z], []⟩) Q E s := by
  show wpAny _ _ (field (.ref z) 2 >>= _) _ _ _
  refine wpAny_bind (wpAny_field hz rfl (x := .bool false) rfl ?_)
  show wpAny _ _ (field (.ref z) 3 >>= _) _ _ _
  refine wpAny_bind (wpAny_field hz rfl (x := .ref TI) rfl ?_)
  refine wpAny_bind (wpAny_seqItems hTI rfl ?_)
  show wpAny _ _ (Builtin.SmallTypes.ownedTupleIsFree (.ref z) >>= _) _ _ _
  refine wpAny_bind (wpAny_tupleHeld_zip hz hT fun h₁ hz₁ hs₁ => ?_)
  simp only [Bool.false_eq_true, if_false]
  refine wpAny_bind ?_
  rw [← Array.forIn_toList]
  simp only [List.forIn_cons, List.forIn_nil]
  refine wpAny_bind (wpAny_bind (wpAny_holding ?_))
  show wpAny _ _ (Builtin.SmallTypes.nextOf (.ref i1) >>= _) _ _ _
  cases hx : xs[k1]? with
  | none =>
    refine wpAny_bind (nextOf_end (s := { s with heap := h₁ }) hh (h1.extBut hs₁.extBut D.i1z) (hl1.extBut hs₁.extBut D.l1z) hx fun h₂ e hs₂ he => ?_)
    exact hE h₂ e (fun c o c1 c2 _ x => hs₂ _ _ c2 (hs₁.extBut _ _ c1 x)) he
  | some x =>
    have hy : ys[k2]? = none := by rcases hend with h | h; rw [hx] at h; cases h; exact h
    refine wpAny_bind (nextOf_item (s := { s with heap := h₁ }) (h1.extBut hs₁.extBut D.i1z) (hl1.extBut hs₁.extBut D.l1z) hx fun h₂ h1₂ hs₂ => wpAny_pure ?_)
    refine wpAny_pure ?_
    refine wpAny_bind (wpAny_bind (wpAny_holding ?_))
    show wpAny _ _ (Builtin.SmallTypes.nextOf (.ref i2) >>= _) _ _ _
    refine wpAny_bind (nextOf_end (s := { s with heap := h₂ }) hh ((h2.extBut hs₁.extBut D.i2z).extBut hs₂.extBut D.i12.symm) ((hl2.extBut hs₁.extBut D.l2z).extBut hs₂.extBut D.l2i1) hy fun h₃ e hs₃ he => ?_)
    exact hE h₃ e (fun c o c1 c2 c3 x => hs₃ _ _ c3 (hs₂.extBut _ _ c2 (hs₁.extBut _ _ c1 x))) he
theorem pyNext_zipG_item_held {b1 b2 : Bool} {z TI TO T i1 i2 l1 l2 : Addr} {f : Bool} {oT : Obj} {k1 k2 : Nat} {xs ys : Array Value} {x y : Value} {Q : Option Value → Shared → Prop} (D : ZipApart z TI TO i1 i2 l1 l2)
    (hz : IsZipHeld s.heap z TI TO T f) (hT : s.heap.get? T = some oT) (hTI : IsPair s.heap TI (.ref i1) (.ref i2))
    (h1 : SqIt b1 s.heap i1 l1 k1) (h2 : SqIt b2 s.heap i2 l2 k2) (hl1 : SqOb b1 s.heap l1 xs) (hl2 : SqOb b2 s.heap l2 ys) (hx : xs[k1]? = some x) (hy : ys[k2]? = some y)
    (hQ : ∀ h', IsZipHeld h' z TI TO T true → SqIt b1 h' i1 l1 (k1 + 1) → SqIt b2 h' i2 l2 (k2 + 1) → IsPair h' s.heap.objs.size x y → h'.objs.size = s.heap.objs.size + 1 →
      (∀ c o, c ≠ z → c ≠ i1 → c ≠ i2 → s.heap.get? c = some o → h'.get? c = some o) → Q (some (.ref s.heap.objs.size)) { s with heap := h' }) :
    wpAny (model prog w) A (pyNext (.ref z)) Q E s := by
  have hTy : s.TypeIs (.ref z) "zip" := ⟨_, hz, rfl⟩
  unfold pyNext
  exact wpAny_bind (wpAny_attempt (wpAny_callSpecial?_slot (name := Str.ofString "__next__") hTy F.slot_zip_next
    (wpAny_call_entry F.slot_zip_next hTy F.entry_zip_next
      (zipG_item_held D hz hT hTI h1 h2 hl1 hl2 hx hy fun h' a1 a3 a4 a5 a6 a7 => wpAny_pure (hQ h' a1 a3 a4 a5 a6 a7)) (F.args_zip_next_1 _))))
theorem pyNext_zipG_end_held {b1 b2 : Bool} {z TI TO T i1 i2 l1 l2 : Addr} {f : Bool} {oT : Obj} {k1 k2 : Nat} {xs ys : Array Value} {Q : Option Value → Shared → Prop} (hh : A.handled = none) (D : ZipApart z TI TO i1 i2 l1 l2)
    (hz : IsZipHeld s.heap z TI TO T f) (hT : s.heap.get? T = some oT) (hTI : IsPair s.heap TI (.ref i1) (.ref i2))
    (h1 : SqIt b1 s.heap i1 l1 k1) (h2 : SqIt b2 s.heap i2 l2 k2) (hl1 : SqOb b1 s.heap l1 xs) (hl2 : SqOb b2 s.heap l2 ys) (hend : xs[k1]? = none ∨ ys[k2]? = none)
    (hQ : ∀ h', (∀ c o, c ≠ z → c ≠ i1 → c ≠ i2 → s.heap.get? c = some o → h'.get? c = some o) → Q none { s with heap := h' }) : wpAny (model prog w) A (pyNext (.ref z)) Q E s := by
  have hTy : s.TypeIs (.ref z) "zip" := ⟨_, hz, rfl⟩
  unfold pyNext
  refine wpAny_bind (wpAny_attempt (wpAny_callSpecial?_slot (name := Str.ofString "__next__") hTy F.slot_zip_next
    (wpAny_call_entry F.slot_zip_next hTy F.entry_zip_next (zipG_end_held hh D hz hT hTI h1 h2 hl1 hl2 hend fun h' e hk he => ?_) (F.args_zip_next_1 _))))
  obtain ⟨o, ho, hc⟩ := he
  refine wpAny_bind (wpAny_isInstance (T := "StopIteration") (b := true) ⟨o, ho, hc⟩ isSubtype_stop ?_)
  exact wpAny_pure (hQ _ hk)
end
theorem zip_no_len : typeLookup (.type "zip") "__len__" = pure none := am_miss_of_fast (by decide +kernel)
theorem zip_no_hint : typeLookup (.type "zip") "__length_hint__" = pure none := am_miss_of_fast (by decide +kernel)
end ZG
namespace PX
open PySem PySem.Spec PyProof.Rows L2 ZG
/-- the zip, its last pair perhaps still held -/
def ZSt (H : Hp) (h : Heap) (z TI TO : Addr) : Prop := (∃ x y, IsPair h TO x y) ∧ (IsZip h z TI TO .none ∨ ∃ T f us, IsZipHeld h z TI TO T f ∧ H T = some (.tup us))
theorem SqG.le {K : PySem.W.Frag} {b : Bool} {H H' : Hp} {a : Addr} {xs : List V} (q : SqG b K H a xs) (k : Le H H') : SqG b K H' a xs := by
  cases b with
  | true => exact k.sqT q
  | false => exact k.sqL q
structure ZDone (H0 H' : Hp) (S : Addr) (xs ys : List V) (ts : List Addr) : Prop where
  keep : ∀ c o, H0 c = some o → H' c = some o
  new : H0 S = none
  lst : H' S = some (.lst (ts.map V.ref))
  len : ts.length = min xs.length ys.length
  tup : ∀ (k : Nat) t, ts[k]? = some t → ∃ x y, xs[k]? = some x ∧ ys[k]? = some y ∧ H' t = some (.tup [x, y]) ∧ H0 t = none
section
variable {X : Cx} {pins : List (Addr × Obj)} {σ : L2.St}
theorem drainZ {A : Around} {R : Result → Shared → Prop} {b1 b2 : Bool} {a b z TI TO i1 i2 S : Addr} {xs ys : List V} {res : Value} {H0 : Hp} (hh : A.handled = none) (D : ZipApart z TI TO i1 i2 a b) (hS : S ∉ [z, TI, TO, i1, i2]) (hn : xs.length ≤ 1000000) (h0 : H0 S = none) (hqx0 : SqG b1 X.K H0 a xs) (hqy0 : SqG b2 X.K H0 b ys)
    (hR : ∀ s' H' ts, Inv X pins σ H' s' → ZDone H0 H' S xs ys ts → R (.ok (.ret res)) s') :
    ∀ (m : Nat) (s : Shared) (H : Hp) (ts : List Addr), min xs.length ys.length - ts.length = m → ts.length ≤ min xs.length ys.length → Inv X pins σ H s → (∀ c ∈ [z, TI, TO, i1, i2], FpOk X pins H c) → ZSt H s.heap z TI TO → IsPair s.heap TI (.ref i1) (.ref i2) →
      SqIt b1 s.heap i1 a ts.length → SqIt b2 s.heap i2 b ts.length → H S = some (.lst (ts.map V.ref)) → (∀ c o, H0 c = some o → H c = some o) →
      (∀ (k : Nat) t, ts[k]? = some t → ∃ x y, xs[k]? = some x ∧ ys[k]? = some y ∧ H t = some (.tup [x, y]) ∧ H0 t = none) →
      codeAny (model X.prog X.w) A (.builtin "list.extend.loop" ⟨[.ref S, .ref z, res], []⟩) R s := by
  intro m
  induction m with
  | zero =>
    intro s H ts hm hl I hf hz hTI h1 h2 hS' hk ht
    have hqx := hqx0.le hk
    have hqy := hqy0.le hk
    refine codeAny_builtin F.entry_extend_loop ?_
    rw [Around.under_plainId F.plain_extend_loop _]
    show wpAny _ A.in1 (pyNext (.ref z) >>= _) _ _ s
    obtain ⟨its, rv, p, _⟩ := Inv.sqG I hqx
    obtain ⟨its2, rv2, p2, _⟩ := Inv.sqG I hqy
    have l1 := rv.length
    have l2 := rv2.length
    have he : its.toArray[ts.length]? = none ∨ its2.toArray[ts.length]? = none := by
      simp only [List.getElem?_toArray, List.getElem?_eq_none_iff]
      omega
    have fin : ∀ h', (∀ c o, c ∉ [z, TI, TO, i1, i2] → s.heap.get? c = some o → h'.get? c = some o) → R (.ok (.ret res)) { s with heap := h' } := fun h' hk' =>
      hR _ H ts (I.turnedL (t' := s.toks) (ch := [z, TI, TO, i1, i2]) hk' hf) ⟨hk, h0, hS', by omega, ht⟩
    obtain ⟨⟨x0, y0, hTO⟩, hz | ⟨T, f, us, hz, hT⟩⟩ := hz
    · exact wpAny_bind (pyNext_zipG_end hh D hz hTI hTO h1 h2 p p2 he fun h' hk' => wpAny_pure (fin h' fun c o hb q => hk' c o (fun q' => hb (by simp [q'])) (fun q' => hb (by simp [q'])) (fun q' => hb (by simp [q'])) (fun q' => hb (by simp [q'])) q))
    · obtain ⟨_, oT⟩ := (I.hok T _ hT)
      obtain ⟨itsT, _, ⟨oo, hoo, _⟩⟩ := oT
      exact wpAny_bind (pyNext_zipG_end_held hh D hz hoo hTI h1 h2 p p2 he fun h' hk' => wpAny_pure (fin h' fun c o hb q => hk' c o (fun q' => hb (by simp [q'])) (fun q' => hb (by simp [q'])) (fun q' => hb (by simp [q'])) q))
  | succ m ih =>
    intro s H ts hm hl I hf hz hTI h1 h2 hS' hk ht
    have hqx := hqx0.le hk
    have hqy := hqy0.le hk
    refine codeAny_builtin F.entry_extend_loop ?_
    rw [Around.under_plainId F.plain_extend_loop _]
    show wpAny _ A.in1 (pyNext (.ref z) >>= _) _ _ s
    obtain ⟨its, rv, p, _⟩ := Inv.sqG I hqx
    obtain ⟨its2, rv2, p2, _⟩ := Inv.sqG I hqy
    have l1 := rv.length
    have l2 := rv2.length
    have hx0 : ts.length < xs.length := by omega
    have hy0 : ts.length < ys.length := by omega
    have hx : xs[ts.length]? = some xs[ts.length] := List.getElem?_eq_getElem hx0
    have hy : ys[ts.length]? = some ys[ts.length] := List.getElem?_eq_getElem hy0
    obtain ⟨u, hu, ru⟩ := rv.get hx
    obtain ⟨u2, hu2, ru2⟩ := rv2.get hy
    have fpl : ∀ c ∈ [z, TI, TO, i1, i2], H c = none := fun c hc => (hf c hc).1
    obtain ⟨⟨x0, y0, hTO⟩, hz⟩ := hz
    have hzl : z < s.heap.objs.size := by
      rcases hz with hz | ⟨T, f, us, hz, _⟩
      · exact Heap.lt_size hz
      · exact Heap.lt_size hz
    -- behind the pair
    have step : ∀ h', (∃ x y, IsPair h' TO x y) → (IsZipHeld h' z TI TO s.heap.objs.size false ∨ (∃ T f us, IsZipHeld h' z TI TO T f ∧ H T = some (.tup us))) → SqIt b1 h' i1 a (ts.length + 1) → SqIt b2 h' i2 b (ts.length + 1) → IsPair h' s.heap.objs.size u u2 → h'.objs.size = s.heap.objs.size + 1 →
        (∀ c o, c ∉ [z, TO, i1, i2] → s.heap.get? c = some o → h'.get? c = some o) → wpAny (model X.prog X.w) A.in1 (updateSeq S (·.push (.ref s.heap.objs.size)) >>= fun _ => again (.builtin "list.extend.loop" ⟨[.ref S, .ref z, res], []⟩))
          (fun fin s' => match fin with | .done f => R (.ok f) s' | .again c' => c'.quiet = true ∧ codeAny (model X.prog X.w) A c' R s') (fun e s' => R (.error e) s') { s with heap := h' } := by
      intro h' hTO' hz' h1' h2' hT hsz hk'
      have hTn : H s.heap.objs.size = none := I.hok.fresh (Nat.le_refl _)
      have new : ObjOk X.prog X.w (upd H s.heap.objs.size (.tup [xs[ts.length], ys[ts.length]])) h' s.heap.objs.size (.tup [xs[ts.length], ys[ts.length]]) :=
        ⟨by show 2 ≤ sizeLine; decide, [u, u2], .cons ru (.cons ru2 .nil), ⟨_, hT, rfl, _, rfl⟩⟩
      have I1 : Inv X pins σ (upd H s.heap.objs.size (.tup [xs[ts.length], ys[ts.length]])) { s with heap := h' } :=
        I.turnedNew (t' := s.toks) (ch := [z, TI, TO, i1, i2]) (fun c o hb q => hk' c o (fun z => hb (by simp only [List.mem_cons, List.not_mem_nil, or_false] at z ⊢; rcases z with z | z | z | z <;> simp [z])) q) hf (Nat.le_refl _) new
      have hST : S ≠ s.heap.objs.size := fun e => by rw [e, hTn] at hS'; cases hS'
      have hS1 : (upd H s.heap.objs.size (.tup [xs[ts.length], ys[ts.length]])) S = some (.lst (ts.map V.ref)) := by rw [upd_ne hST]; exact hS'
      obtain ⟨z1, itsS, n, rS, hlS, eS⟩ := I1.lstM hS1
      have hits : itsS.length ≤ 1000000 := by
        rw [← rS.length, List.length_map]; omega
      refine wpAny_bind (wpAny_updateSeq eS rfl (wpAny_pure ⟨plainId_quiet F.plain_extend_loop _, ?_⟩) (by rw [List.size_toArray, sizeLine_eq]; omega) (by show (itsS.toArray.push _).size ≤ sizeLine + 1; rw [Array.size_push, List.size_toArray, sizeLine_eq]; omega))
      have I2 := I1.lset (its' := itsS ++ [.ref s.heap.objs.size]) (ys := (ts ++ [s.heap.objs.size]).map V.ref) (f := (·.push (.ref s.heap.objs.size))) (t' := s.toks) hS1 eS (by simp) (by rw [List.map_append]; exact rS.append (.cons rfl .nil)) (by rw [List.length_map, List.length_append, List.length_singleton, sizeLine_eq]; omega)
      have hne : ∀ {c : Addr}, c ∈ [z, TI, TO, i1, i2] → c ≠ s.heap.objs.size ∧ c ≠ S := fun {c} hc => ⟨fun e => by
        have hlt : c < s.heap.objs.size := by
          simp only [List.mem_cons, List.not_mem_nil, or_false] at hc
          rcases hc with q | q | q | q | q
          · rw [q]; exact hzl
          · rw [q]; exact Heap.lt_size hTI
          · rw [q]
            exact Heap.lt_size hTO
          · rw [q]; exact h1.lt
          · rw [q]; exact h2.lt
        exact absurd hlt (by rw [e]; exact Nat.lt_irrefl _), fun e => hS (e ▸ hc)⟩
      have ot : ∀ c o, c ≠ S → h'.get? c = some o → (h'.update S (Obj.mapSeq (·.push (.ref s.heap.objs.size)))).get? c = some o := fun c o hc e => (Heap.get?_update_other _ _ (Ne.symm hc)).trans e
      have oc : ∀ {c : Addr} {o : HO}, H c = some o → c ≠ S → (upd (upd H s.heap.objs.size (.tup [xs[ts.length], ys[ts.length]])) S (.lst ((ts ++ [s.heap.objs.size]).map V.ref))) c = some o := fun {c o} e hc => by
        rw [upd_ne hc, upd_ne (fun q => by rw [q, hTn] at e; cases e)]
        exact e
      refine ih _ _ (ts ++ [s.heap.objs.size]) (by rw [List.length_append, List.length_singleton]; omega) (by rw [List.length_append, List.length_singleton]; omega) I2 (fun c hc => ⟨?_, (hf c hc).2⟩) ⟨?_, ?_⟩ ?_ ?_ ?_ upd_same (fun c o e => ?_) (fun k t e => ?_)
      · rw [upd_ne (hne hc).2, upd_ne (hne hc).1]
        exact (hf c hc).1
      · obtain ⟨x1, y1, e⟩ := hTO'
        exact ⟨x1, y1, ot _ _ (hne (c := TO) (by simp)).2 e⟩
      · rcases hz' with e | ⟨T, f, us, e, eT⟩
        · exact .inr ⟨_, false, _, ot _ _ (hne (c := z) (by simp)).2 e, by rw [upd_ne (Ne.symm hST)]; exact upd_same⟩
        · exact .inr ⟨T, f, us, ot _ _ (hne (c := z) (by simp)).2 e, oc eT fun q => by rw [q, hS'] at eT; cases eT⟩
      · exact ot _ _ (hne (c := TI) (by simp)).2 (hk' _ _ (fun q => by simp only [List.mem_cons, List.not_mem_nil, or_false] at q; rcases q with q | q | q | q <;> first | exact D.TIz q | exact D.TITO q | exact D.TIi1 q | exact D.TIi2 q) hTI)
      · rw [List.length_append, List.length_singleton]
        exact h1'.at_ fun o e => ot _ _ (hne (c := i1) (by simp)).2 e
      · rw [List.length_append, List.length_singleton]
        exact h2'.at_ fun o e => ot _ _ (hne (c := i2) (by simp)).2 e
      · exact oc (hk c o e) fun q => by rw [q, h0] at e; cases e
      · by_cases hkl : k < ts.length
        · rw [List.getElem?_append_left hkl] at e
          obtain ⟨x1, y1, e1, e2, e3, e4⟩ := ht k t e
          exact ⟨x1, y1, e1, e2, oc e3 (fun q => by rw [q, hS'] at e3; cases e3), e4⟩
        · have hlt := (List.getElem?_eq_some_iff.mp e).1
          rw [List.length_append, List.length_singleton] at hlt
          have hkk : k = ts.length := by omega
          subst hkk
          rw [List.getElem?_append_right (Nat.le_refl _), Nat.sub_self] at e
          cases e
          refine ⟨_, _, hx, hy, by rw [upd_ne (Ne.symm hST)]; exact upd_same, ?_⟩
          cases e0 : H0 s.heap.objs.size with
          | none => rfl
          | some o => rw [hk _ _ e0] at hTn; cases hTn
    have hux : its.toArray[ts.length]? = some u := by simpa using hu
    have huy : its2.toArray[ts.length]? = some u2 := by simpa using hu2
    rcases hz with hz | ⟨T, f, us, hz, hT⟩
    · refine wpAny_bind (pyNext_zipG_item D hz hTI hTO h1 h2 p p2 hux huy fun h' a1 a2 a3 a4 a5 a6 a7 => ?_)
      exact step h' ⟨_, _, a2⟩ (.inl a1) a3 a4 a5 a6 fun c o hc e => a7 c o (fun q => hc (by simp [q])) (fun q => hc (by simp [q])) (fun q => hc (by simp [q])) (fun q => hc (by simp [q])) e
    · obtain ⟨_, oT⟩ := (I.hok T _ hT)
      obtain ⟨itsT, _, ⟨oo, hoo, _⟩⟩ := oT
      refine wpAny_bind (pyNext_zipG_item_held D hz hoo hTI h1 h2 p p2 hux huy fun h' a1 a3 a4 a5 a6 a7 => ?_)
      exact step h' ⟨x0, y0, a7 TO _ D.TOz D.TOi1 D.TOi2 hTO⟩ (.inr ⟨T, true, us, a1, hT⟩) a3 a4 a5 a6 fun c o hc e => a7 c o (fun q => hc (by simp [q])) (fun q => hc (by simp [q])) (fun q => hc (by simp [q])) e
/-- list(z) -/
theorem call_list_zip {A : Around} {Q : Value → Shared → Prop} {E : Value → Shared → Prop} {b1 b2 : Bool} {a b z TI TO i1 i2 : Addr} {xs ys : List V} {s : Shared} {H : Hp} (hh : A.handled = none) (D : ZipApart z TI TO i1 i2 a b) (hn : xs.length ≤ 1000000)
    (I : Inv X pins σ H s) (hf : ∀ c ∈ [z, TI, TO, i1, i2], FpOk X pins H c) (hz : IsZip s.heap z TI TO .none) (hTI : IsPair s.heap TI (.ref i1) (.ref i2)) (hTO : ∃ x y, IsPair s.heap TO x y) (h1 : SqIt b1 s.heap i1 a 0) (h2 : SqIt b2 s.heap i2 b 0) (hqx : SqG b1 X.K H a xs) (hqy : SqG b2 X.K H b ys)
    (hQ : ∀ S s' H' ts, Inv X pins σ H' s' → ZDone H H' S xs ys ts → Q (.ref S) s') : wpAny (model X.prog X.w) A (call (.type "list") [.ref z]) Q E s := by
  have hSf : ∀ {c : Addr}, c ∈ [z, TI, TO, i1, i2] → c < s.heap.objs.size := fun {c} hc => by
    simp only [List.mem_cons, List.not_mem_nil, or_false] at hc
    obtain ⟨x0, y0, hTO⟩ := hTO
    rcases hc with q | q | q | q | q
    · rw [q]; exact Heap.lt_size hz
    · rw [q]; exact Heap.lt_size hTI
    · rw [q]; exact Heap.lt_size hTO
    · rw [q]; exact h1.lt
    · rw [q]; exact h2.lt
  have hSn : s.heap.objs.size ∉ [z, TI, TO, i1, i2] := fun hm => Nat.lt_irrefl _ (hSf hm)
  have hSz : s.heap.objs.size ≠ z := fun e => hSn (by simp [e])
  have hS0 : H s.heap.objs.size = none := I.hok.fresh (Nat.le_refl _)
  refine callType_codes (Q₁ := fun obj s₁ => obj = .ref s.heap.objs.size ∧ s₁ = { s with heap := s.heap.push { cls := .type "list", data := .seq #[] } }) F.called_list (F.typeCall_list_1 _) F.entry_list_init
    (code_list_new _ ⟨rfl, rfl⟩) fun obj s₁ h₁ => ?_
  obtain ⟨rfl, rfl⟩ := h₁
  have hS : (s.heap.push { cls := .type "list", data := .seq #[] }).get? s.heap.objs.size = some { cls := .type "list", data := .seq #[] } := Heap.get?_push_size _ rfl
  have I0 : Inv X pins σ (upd H s.heap.objs.size (.lst [])) { s with heap := s.heap.push { cls := .type "list", data := .seq #[] } } := I.lnew (its := []) (t' := s.toks) .nil (Nat.zero_le _)
  refine ⟨⟨_, hS, rfl⟩, F.args_list_init_2 _ _, ?_⟩
  show wpAny _ A.in1.in1 (do let old ← Builtin.List.listItems (.ref s.heap.objs.size); Builtin.List.listUpdate (.ref s.heap.objs.size) (fun _ => #[]); letGo old.toList.reverse; Builtin.List.listExtendWith (.ref s.heap.objs.size) (.ref z) .none) _ _ _
  refine wpAny_bind ?_
  unfold Builtin.List.listItems
  refine wpAny_bind (wpAny_seqItems hS rfl (wpAny_pure ?_))
  show wpAny _ A.in1.in1 (updateSeq s.heap.objs.size (fun _ => #[]) >>= fun _ => letGo (#[] : Array Value).toList.reverse >>= fun _ => Builtin.List.listExtendWith (.ref s.heap.objs.size) (.ref z) .none) _ _ _
  have I1 := I0.lset (its := []) (its' := []) (ys := []) (f := fun _ => (#[] : Array Value)) (t' := s.toks) upd_same hS rfl .nil (Nat.zero_le _)
  refine wpAny_bind (wpAny_updateSeq hS rfl ?_)
  have hS2 := Heap.get?_update_self (Obj.mapSeq (fun _ => (#[] : Array Value))) hS rfl
  refine wpAny_bind (wpAny_letGo ?_)
  unfold Builtin.List.listExtendWith
  have up : ∀ (h : Heap) (f : Obj → Obj), (∀ b o, s.heap.get? b = some o → h.get? b = some o) → ∀ b o, s.heap.get? b = some o → (h.update s.heap.objs.size f).get? b = some o := fun h f q b o e =>
    (Heap.get?_update_other _ _ (Ne.symm (Nat.ne_of_lt (Heap.lt_size e)))).trans (q b o e)
  have k1 : ∀ b o, s.heap.get? b = some o → (s.heap.push { cls := .type "list", data := .seq #[] }).get? b = some o := fun b o e => Heap.get?_push_of_some _ e
  have k2 := up _ (Obj.mapSeq (fun _ => (#[] : Array Value))) k1
  have zty : ∀ {h : Heap}, (∀ b o, s.heap.get? b = some o → h.get? b = some o) → ∀ g d t os, Shared.TypeIs ⟨h, g, d, t, os⟩ (.ref z) "zip" := fun {h} q g d t os => ⟨_, q _ _ hz, rfl⟩
  refine wpAny_bind (wpAny_typeOf (zty k2 _ _ _ _) ?_)
  have e1 : Builtin.List.listSameRef (.ref s.heap.objs.size) (.ref z) = false := by simp [Builtin.List.listSameRef, hSz]
  have e2 : (Value.type "zip" == Value.type "list") = false := by decide
  have e3 : (Value.type "zip" == Value.type "tuple") = false := by decide
  simp only [e1, e2, e3, Bool.or_false, Bool.false_eq_true, if_false]
  refine wpAny_bind (wpAny_pyIter_zip (s := { s with heap := _ }) (k2 _ _ hz) ?_)
  refine wpAny_bind (wpAny_holding ?_)
  unfold Builtin.List.listLengthHint
  refine wpAny_bind (wpAny_specialOf (zty k2 _ _ _ _) zip_no_len ?_)
  show wpAny _ A.in1.in1 (specialOf (Value.ref z) (Str.ofString "__length_hint__") >>= _) _ _ _
  refine wpAny_bind (wpAny_specialOf (zty k2 _ _ _ _) zip_no_hint ?_)
  refine wpAny_pure ?_
  show wpAny _ A.in1.in1 (rule "list.extend.makes-room" >>= fun _ => Builtin.List.listTouch (.ref s.heap.objs.size) >>= fun _ =>
    again (.builtin "list.extend.loop" ⟨[.ref s.heap.objs.size, .ref z, .none], []⟩)) _ _ _
  refine wpAny_bind (wpAny_rule ?_)
  refine wpAny_bind ?_
  show wpAny _ A.in1.in1 (updateSeq s.heap.objs.size (·.push .none) >>= fun _ => updateSeq s.heap.objs.size (·.pop)) _ _ _
  have I2 := I1.lset (its := []) (its' := [.none]) (ys := [.non]) (f := (·.push Value.none)) (t' := s.toks) upd_same hS2 rfl (.cons rfl .nil) (by decide)
  refine wpAny_bind (wpAny_updateSeq hS2 rfl ?_)
  have hS3 := Heap.get?_update_self (Obj.mapSeq (·.push Value.none)) hS2 rfl
  have I3 := I2.lset (its := [.none]) (its' := []) (ys := []) (f := (·.pop)) (t' := s.toks) upd_same hS3 rfl .nil (Nat.zero_le _)
  refine wpAny_updateSeq (hz := by seq_fits) hS3 rfl ?_
  have k4 := up _ (Obj.mapSeq (·.pop)) (up _ (Obj.mapSeq (·.push Value.none)) k2)
  refine wpAny_pure ⟨plainId_quiet F.plain_extend_loop _, ?_⟩
  rw [upd_upd, upd_upd, upd_upd] at I3
  obtain ⟨x0, y0, hTO⟩ := hTO
  refine drainZ (A := A.in1) (b1 := b1) (b2 := b2) (xs := xs) (ys := ys) (H0 := H) hh D hSn hn hS0 hqx hqy (fun s' H' ts I' dn => ⟨rfl, hQ _ s' H' ts I' dn⟩) _ _ (upd H s.heap.objs.size (.lst [])) [] rfl (Nat.zero_le _) I3 (fun c hc => ⟨?_, (hf c hc).2⟩) ⟨⟨x0, y0, k4 _ _ hTO⟩, .inl (k4 _ _ hz)⟩ (k4 _ _ hTI) (h1.at_ fun o e => k4 _ _ e) (h2.at_ fun o e => k4 _ _ e) upd_same (fun c o e => ?_) (fun k t e => by simp at e)
  · have hcs : c ≠ s.heap.objs.size := fun e => by have q := hSf hc; rw [e] at q; exact Nat.lt_irrefl _ q
    rw [upd_ne hcs]
    exact (hf c hc).1
  · rw [upd_ne (fun q => by rw [q, hS0] at e; cases e)]
    exact e
end
def tLz (K : PySem.W.Frag) (ta : TA) : TE := fun σ H Q => ta σ H fun vs H1 => ∃ a b b1 b2 xs ys, vs = [.ref a, .ref b] ∧ SqG b1 K H1 a xs ∧ SqG b2 K H1 b ys ∧ xs.length ≤ 1000000 ∧ ∀ S H' ts, ZDone H1 H' S xs ys ts → Q (.ref S) H'
theorem pe_lz {X : Cx} {e e2 : Expr} {ta : TA} {p p2 pos pos2 : Pos} (hc : X.calm = true) (hl : Gl X "list") (hml : X.mg "list" = none) (hg : Gl X "zip") (hm : X.mg "zip" = none) (ha : PA X [e, e2] ta)
    (hs : starEach [e, e2] X.env = (false, eval e X.env) :: starEach [e2] X.env := by rfl) (hpl : (backTo pos2 (starEach [e2] X.env)).any (·.1) = false := by rfl)
    (na : starEach [.Call (.Name "zip" p2) [e, e2] [] pos2] X.env = (false, eval (.Call (.Name "zip" p2) [e, e2] [] pos2) X.env) :: starEach [] X.env := by rfl) :
    PE X (.Call (.Name "list" p) [.Call (.Name "zip" p2) [e, e2] [] pos2] [] pos) (tLz X.K ta) := by
  refine ⟨fun pins s σ H Q I h => ?_⟩
  refine Call_ (ld_blt I hl hml boot_list (PyProof.Rows.callWith_type1 (PyProof.Rows.args_cons ?_ na) na rfl))
  refine Call_ (ld_blt I hg hm PyProof.Rows.boot_zip (PyProof.Rows.callWith_type1 (thn (ha.run pos2 pins s σ H _ I h) fun us s1 ⟨vs, H1, I1, r1, q1⟩ => ?_) hs hpl))
  obtain ⟨a, b, b1, b2, xs, ys, ex, hqx, hqy, hn, q⟩ := q1
  subst ex
  obtain ⟨u1, u2, rfl, ra, rb⟩ := r1.two
  cases (show u1 = Value.ref a from ra)
  cases (show u2 = Value.ref b from rb)
  have fresh5 : ∀ c, c ∈ [s1.heap.objs.size + 4, s1.heap.objs.size + 2, s1.heap.objs.size + 3, s1.heap.objs.size, s1.heap.objs.size + 1] → FpOk X pins H1 c := fun c hcm => by
    have hle : s1.heap.objs.size ≤ c := by
      simp only [List.mem_cons, List.mem_singleton, List.not_mem_nil, or_false] at hcm
      omega
    exact I1.fpOk hle (I1.hok.fresh hle)
  obtain ⟨its, rv, p1, l1⟩ := Inv.sqG I1 hqx
  obtain ⟨its2, rv2, p2', l2⟩ := Inv.sqG I1 hqy
  refine call_zipG p1 p2' fun h' hz hTI hTO h1 h2 hsz hk => PyProof.Rows.args_nil ?_
  have I2 : L2.Inv X pins σ H1 { s1 with heap := h' } := I1.kept (t' := s1.toks) hk
  exact call_list_zip (xs := xs) (ys := ys) (I1.ok.hd hc) (PySem.W.ktu_apart s1.heap.objs.size a b l1 l2) hn I2 fresh5 hz hTI ⟨_, _, hTO⟩ h1 h2 hqx hqy fun S s' H' ts I' dn => ⟨.ref S, H', I', rfl, q S H' ts dn⟩
def bLz : Op2 := fun x y S => match itemsOf S x with
  | some xs => match itemsOf S y with
    | some ys => if small xs.length then some (true, .lst (zipL xs ys)) else none
    | none => none
  | none => none
def eLz (a b : SE) : SE := eBin bLz a b
theorem sqG_of {K : PySem.W.Frag} {H : Hp} {a : Addr} {us : List V} (h : SqL K H a us ∨ SqT K H a us) : ∃ b, SqG b K H a us := by
  rcases h with h | h
  · exact ⟨false, h⟩
  · exact ⟨true, h⟩
section
variable {G : Gam} {n0 : Nat} {g : Gh} {F : Hp} {r : List Addr} {S : Store} {H H' : Hp}
theorem grow_pairs (h : HR G n0 g F r S H') : ∀ (ts : List Addr) (xs ys : List PV) (us vs : List V), RVs G F r xs us → RVs G F r ys vs → ts.length = min us.length vs.length → (∀ (k : Nat) t, ts[k]? = some t → ∃ x y, us[k]? = some x ∧ vs[k]? = some y ∧ H' t = some (.tup [x, y]) ∧ F t = none ∧ t ∉ r ∧ g.pn t = none) →
    ∃ F', Ext F F' r r ∧ HR G n0 g F' r S H' ∧ RVs G F' r (zipL xs ys) (ts.map V.ref) ∧ ∀ c, F' c ≠ F c → c ∈ ts
  | [], xs, ys, us, vs, q1, q2, hl, _ => by
    refine ⟨F, .refl F r, h, ?_, fun c hc => absurd rfl hc⟩
    cases us with
    | nil =>
      have : xs = [] := by cases xs with
        | nil => rfl
        | cons x xs => obtain ⟨_, _, e, _⟩ := q1; cases e
      subst this
      exact rfl
    | cons u us =>
      cases vs with
      | nil =>
        have : ys = [] := by cases ys with
          | nil => rfl
          | cons x xs => obtain ⟨_, _, e, _⟩ := q2; cases e
        subst this
        cases xs <;> exact rfl
      | cons v vs => simp at hl
  | t :: ts, xs, ys, us, vs, q1, q2, hl, ht => by
    cases us with
    | nil => simp at hl
    | cons u us =>
      cases vs with
      | nil => simp at hl
      | cons v vs =>
        cases xs with
        | nil => cases (show (u :: us) = [] from q1)
        | cons x xs =>
          cases ys with
          | nil => cases (show (v :: vs) = [] from q2)
          | cons y ys =>
            obtain ⟨u', ur, e, k1, k2⟩ := q1
            cases e
            obtain ⟨v', vr, e, m1, m2⟩ := q2
            cases e
            obtain ⟨F1, x1, h1, rv, ch⟩ := grow_pairs h ts xs ys us vs k2 m2 (by simp at hl ⊢; omega) fun k t' e => by
              have := ht (k + 1) t' (by simpa using e)
              simpa using this
            obtain ⟨x0, y0, e1, e2, e3, e4, e5, e6⟩ := ht 0 t rfl
            simp at e1 e2
            subst e1 e2
            cases ef : F1 t with
            | none =>
              have ex : Ext F1 (L2.upd F1 t (.tup [u, v])) r r := ⟨Le.upd ef, List.prefix_refl r⟩
              refine ⟨_, x1.trans ex, h1.grow e3 ef e5 e6, ⟨_, _, rfl, ⟨t, [u, v], rfl, upd_same, _, _, rfl, (k1.ext x1).ext ex, _, _, rfl, (m1.ext x1).ext ex, rfl⟩, rv.ext ex⟩, fun c hc => ?_⟩
              by_cases hct : c = t
              · rw [hct]; exact List.mem_cons_self
              · rw [upd_ne hct] at hc
                exact List.mem_cons_of_mem _ (ch c hc)
            | some o =>
              have ht := h1.sub.any ef
              rcases ht with ht | ⟨z, ht⟩
              rotate_left
              · rw [e3] at ht; cases ht
              rw [e3] at ht
              cases ht
              exact ⟨F1, x1, h1, ⟨_, _, rfl, ⟨t, [u, v], rfl, ef, _, _, rfl, k1.ext x1, _, _, rfl, m1.ext x1, rfl⟩, rv⟩, fun c hc => List.mem_cons_of_mem _ (ch c hc)⟩
end
section
variable {X : Cx} {G : Gam} {n0 : Nat}
theorem se_lz {e e2 : Expr} {fe fe2 : SE} {p p2 pos pos2 : Pos} (hK : G.K = X.K) (hc : X.calm = true) (hl : Gl X "list") (hml : X.mg "list" = none) (hg : Gl X "zip") (hm : X.mg "zip" = none) (he : PE X e (rdE G n0 fe)) (he2 : PE X e2 (rdE G n0 fe2))
    (hs : starEach [e, e2] X.env = (false, eval e X.env) :: starEach [e2] X.env := by rfl) (hs2 : starEach [e2] X.env = (false, eval e2 X.env) :: starEach [] X.env := by rfl) (hpl : (backTo pos2 (starEach [e2] X.env)).any (·.1) = false := by rfl)
    (na : starEach [.Call (.Name "zip" p2) [e, e2] [] pos2] X.env = (false, eval (.Call (.Name "zip" p2) [e, e2] [] pos2) X.env) :: starEach [] X.env := by rfl) :
    PE X (.Call (.Name "list" p) [.Call (.Name "zip" p2) [e, e2] [] pos2] [] pos) (rdE G n0 (eLz fe fe2)) := by
  refine peI (pe_lz hc hl hml hg hm (pa_cons (toV he) (pa_cons (toV he2) pa_nil hs2) hs) hs hpl na) fun σ H Q ⟨F, r, env, S, g, s, h⟩ => ?_
  refine stV s cnE h fun p S1 F1 r1 H1 u x1 s1 q1 h1 => ?_
  refine stV s1 cnE h1 fun q S2 F2 r2 H2 v x2 s2 q2 h2 => ?_
  cases ea : itemsOf S2 p.2 with
  | none => simp only [bLz, ea] at h2; exact h2.elim
  | some xs =>
    cases eb : itemsOf S2 q.2 with
    | none => simp only [bLz, ea, eb] at h2; exact h2.elim
    | some ys =>
      simp only [bLz, ea, eb] at h2
      split at h2
      · rename_i hz
        obtain ⟨a, us, rfl, hs1, rv1⟩ := view_seq s2.hr (q1.ext x2) ea
        obtain ⟨b, vs, rfl, hs2', rv2⟩ := view_seq s2.hr q2 eb
        obtain ⟨b1, k1⟩ := sqG_of hs1
        obtain ⟨b2, k2⟩ := sqG_of hs2'
        have hle : us.length ≤ 1000000 := by rw [← RVs.length rv1]; exact Nat.le_of_ble_eq_true hz
        refine ⟨a, b, b1, b2, us, vs, rfl, hK ▸ k1, hK ▸ k2, hle, fun L H' ts dn => ?_⟩
        have hr' := s2.hr.heap dn.keep
        obtain ⟨F3, x3, h3, rv3, ch⟩ := grow_pairs hr' ts xs ys us vs rv1 rv2 dn.len fun k t e => by
          obtain ⟨x, y, e1, e2, e3, e4⟩ := dn.tup k t e
          exact ⟨x, y, e1, e2, e3, s2.hr.noF e4, s2.hr.nor e4, s2.hr.nop e4⟩
        have hFL : F3 L = none := by
          by_cases hL : F3 L = F2 L
          · rw [hL]; exact s2.hr.noF dn.new
          · obtain ⟨k, hk, e⟩ := List.getElem_of_mem (ch L hL)
            obtain ⟨x, y, _, _, e3, _⟩ := dn.tup k L (by rw [List.getElem?_eq_getElem hk, e])
            rw [dn.lst] at e3
            cases e3
        refine h2 F3 r2 H' _ ((x1.trans x2).trans x3) (s2.ext x3 h3) ⟨L, _, rfl, dn.lst, hFL, s2.hr.nor dn.new, s2.hr.nop dn.new, ⟨_, rfl, rv3⟩, rfl⟩
      · exact h2.elim
end
end PX
set_option Elab.async false
set_option linter.all false
set_option maxRecDepth 100000
set_option maxHeartbeats 1000000
namespace PX
open PySem PySem.Spec PyProof.Rows L2 ZG
end PX
set_option Elab.async false
set_option linter.all false
set_option maxRecDepth 100000
set_option maxHeartbeats 1000000
namespace L2
open PySem PySem.Spec PyProof.Rows
end L2
namespace PX
open PySem PySem.Spec PyProof.Rows L2 ZG
end PX
set_option Elab.async false
set_option linter.all false
set_option maxRecDepth 100000
set_option maxHeartbeats 2000000
namespace PX
open PySem PySem.Spec PyProof.Rows L2 ZG
end PX
set_option Elab.async false
set_option linter.all false
set_option maxRecDepth 100000
set_option maxHeartbeats 1000000
namespace PX
open PySem PySem.Spec PyProof.Rows L2
def setG (n0 : Nat) (o k v : PV) (S : Store) : Option Store := match o with
  | .ref i => match S[i]? with
    | some (.lst xs) => setL n0 o k v S
    | some (.dct ks vs) => match keyOf k with
      | some q => match dPut ks vs q v with
        | some z => if mayPut n0 i v && small vs.length then some (S.set i (.dct z.1 z.2)) else none
        | none => none
      | none => none
    | _ => none
  | _ => none
section
variable {X : Cx} {G : Gam} {n0 : Nat} {g : Gh} {F : Hp} {r : List Addr} {S : Store} {H : Hp}
def rSetG : TSet := fun o i v H Q => rSetL o i v H Q ∨ rSetD o i v H Q
theorem set_G (hu : X.A.units + 1 < cLine) : PSet X rSetG := by
  intro pins s σ H o i v ov iv u Q I ro ri rv h
  rcases h with h | h
  · exact set_list pins s σ H o i v ov iv u Q I ro ri rv h
  · exact set_dict hu pins s σ H o i v ov iv u Q I ro ri rv h
theorem store_dct {i : Nat} {u : V} {ks : DKs} {vs : List PV} (h : HR G n0 g F r S H) (q : RV G F r (.ref i) u) (e : S[i]? = some (.dct ks vs)) : ∃ a ho us, u = .ref a ∧ r[i]? = some a ∧ H a = some ho ∧ DR ho ks us ∧ RVs G F (lim n0 g.L r i) vs us := by
  obtain ⟨a, e1, rfl⟩ := q
  obtain ⟨ho, h1, us, d, k⟩ := h.obj i _ a e e1
  exact ⟨a, ho, us, rfl, e1, h1.nl rfl, d, k⟩
theorem chg_setG : ChgI G n0 (setG n0) rSetG := fun g F r S H o k v u y w S' Q h q1 q2 q3 e kk => by
  unfold setG at e
  split at e
  · rename_i i
    split at e
    · exact .inl (chg_setL g F r S H _ k v u y w S' Q h q1 q2 q3 e kk)
    · rename_i ks vs es
      cases ek : keyOf k with
      | none => simp only [ek] at e; cases e
      | some q =>
        simp only [ek] at e
        cases ep : dPut ks vs q v with
        | none => simp only [ep] at e; cases e
        | some z =>
          simp only [ep] at e
          split at e
          · rename_i hm
            cases e
            rw [Bool.and_eq_true] at hm
            obtain ⟨a, ho, us, rfl, e1, e2, d, k2⟩ := store_dct h q1 es
            have hw := put_rv hm.1 (L := g.L) q3
            have hl : us.length < sizeLine := by rw [← RVs.length k2]; exact small_lt hm.2
            cases ks with
            | k l =>
              obtain ⟨rfl, hll⟩ := d
              cases q with
              | t q => cases ep
              | k q =>
                have ep : some (DKs.k (putB eqK l vs q v).1, (putB eqK l vs q v).2) = some z := ep
                cases ep
                obtain ⟨us', p1, p2, p3⟩ := putB_ok eqK_ok (q := q) hw hll k2
                refine .inr ⟨a, _, rfl, .inl ⟨_, q, e2, keyOf_k q2 ek, by rw [List.length_zip, hll, Nat.min_self]; exact hl, rfl⟩, kk _ ?_⟩
                rw [p1]
                exact h.put e1 es rfl rfl ⟨us', ⟨rfl, p2⟩, p3⟩
            | t l =>
              obtain ⟨rfl, hll⟩ := d
              cases q with
              | k q => cases ep
              | t q =>
                have ep : some (DKs.t (putB eqKs l vs q v).1, (putB eqKs l vs q v).2) = some z := ep
                cases ep
                obtain ⟨b, rfl, eb⟩ := keyOf_t q2 ek
                obtain ⟨us', p1, p2, p3⟩ := putB_ok eqKs_ok (q := q) hw hll k2
                refine .inr ⟨a, _, rfl, .inr ⟨_, q, b, e2, rfl, h.sub.tpH eb, by rw [List.length_zip, hll, Nat.min_self]; exact hl, rfl⟩, kk _ ?_⟩
                rw [p1]
                exact h.put e1 es rfl rfl ⟨us', ⟨rfl, p2⟩, p3⟩
          · cases e
    · cases e
  · cases e
theorem units2 {cf : CF} {k : Nat} (T : Tb X G cf k) : X.A.units + 1 < cLine := by
  have := T.room.un
  omega
end
end PX
set_option Elab.async false
set_option linter.all false
set_option maxRecDepth 100000
set_option maxHeartbeats 4000000
namespace L2
open PySem PySem.Spec PyProof.Rows
end L2
set_option Elab.async false
set_option linter.all false
set_option maxRecDepth 100000
set_option maxHeartbeats 4000000
namespace L2
open PySem PySem.Spec PyProof.Rows
end L2
namespace PX
open PySem PySem.Spec PyProof.Rows L2
end PX
set_option Elab.async false
set_option linter.all false
set_option maxRecDepth 100000
set_option maxHeartbeats 4000000
namespace SrtO
open PySem PyProof.Rows Srt
end SrtO
namespace L2
open PySem PySem.Spec PyProof.Rows
end L2
set_option Elab.async false
set_option linter.all false
set_option maxRecDepth 100000
set_option maxHeartbeats 4000000
namespace PX
open PySem PySem.Spec PyProof.Rows L2
theorem tuple_mul1 (l : Addr) (items : Array Value) (n : Nat) (dd : Option Addr) (sl : Array (Option Value)) (u : Tok) :
    Meets (Builtin.«tuple.__mul__» ⟨[.ref l, .int 1 u], []⟩) (fun _ R s => s.heap.get? l = some { cls := .type "tuple", dict := dd, data := .seq items n, slots := sl } ∧ R (.ok (.ret (Value.ref l))) s) :=
  .of_wp fun prog w A R s h => by
    obtain ⟨hp, g, d, tk, os⟩ := s
    obtain ⟨hl, h⟩ := h
    have f1 := AutoSeq1.idx_int
    have c1 : (items.isEmpty || (1 : Int) == 1) = true := by simp
    wp_walk using wpAny_loadPart' hl
    repeat (first
      | (refine wpAny_ite_false (decide_eq_false (by decide)) ?_; wp_walk using wpAny_loadPart' hl)
      | (refine wpAny_ite_true (decide_eq_true (by rw [c1])) ?_; wp_walk using wpAny_loadPart' hl))
    exact ⟨_, rfl, h⟩
def rRepTT (K : PySem.W.Frag) : R2 := fun x y H Q => rRepT K x y H Q ∨ ∃ l xs, x = .ref l ∧ y = .int 1 ∧ SqT K H l xs ∧ Q (.ref l) H
section
variable {X : Cx} {G : Gam}
theorem op_repTT : OpR X (binaryOp .Mult) (rRepTT X.K) := by
  intro pins s σ H x y v u Q I rx ry h
  rcases h with h | h
  · exact op_repT pins s σ H x y v u Q I rx ry h
  · obtain ⟨l, xs, rfl, rfl, hT, q⟩ := h
    cases rx
    obtain ⟨t, rfl⟩ := ry
    obtain ⟨its, r, ⟨⟨cls, dd, data, sl⟩, ho, hc, n, hd⟩, hs⟩ := I.tuple hT
    simp only at hc hd
    subst hc hd
    refine wpAny_binaryOp_repeat_ref (T := "tuple") (U := "int") (by decide) ⟨_, ho, rfl⟩ (fun s' => typeIs_int s' 1 t) noFill_tuple_mul F.fills_int_mul F.slot_int_rmul repeat_tuple F.slot_int_index.lookup
      (call_meets F.slot_int_rmul (typeIs_int s 1 t) F.entry_int_rmul (F.args_int_rmul_2 _ _) (int_rmul_tuple 1 t l its.toArray n dd sl)
        ⟨ho, rfl, ⟨_, ho, rfl⟩, call_meets F.slot_tuple_mul ⟨_, ho, rfl⟩ F.entry_tuple_mul (F.args_tuple_mul_2 _ _) (tuple_mul1 l its.toArray n dd sl t) ⟨ho, ?_⟩⟩)
    exact ⟨.ref l, H, I, rfl, q⟩
def oRepT : Op2 := fun x y _ => match y with
  | .int k => match x with
    | .tup (v :: vs) => if decide (1 ≤ k ∧ k ≤ 1000) && Nat.ble vs.length 900 then some (false, .tup (List.replicate k.toNat (v :: vs)).flatten) else none
    | _ => none
  | _ => none
theorem ok_repT : Ok2 G oRepT (rRepTT G.K) := fun n0 g F r S H x y u v z Q h q1 q2 e k => by
  unfold oRepT at e
  split at e
  · rename_i m
    split at e
    · rename_i w ws
      split at e
      · rename_i hz
        cases e
        simp only [Bool.and_eq_true, decide_eq_true_eq] at hz
        obtain ⟨a, us, rfl, k1, k2⟩ := view_tup h q1 (xs := w :: ws) rfl
        have hlen : us.length ≤ 901 := by
          rw [← RVs.length k2, List.length_cons]
          have := Nat.le_of_ble_eq_true hz.2
          omega
        by_cases h1 : m = 1
        · subst h1
          refine .inr ⟨a, us, rfl, q2, k1, ?_⟩
          refine k F r H _ (.refl F r) h ?_
          have e1 : (List.replicate (1 : Int).toNat (w :: ws)).flatten = w :: ws := by
            show ([w :: ws]).flatten = _
            simp
          rw [e1]
          exact q1
        · refine .inl ⟨a, m, us, rfl, q2, k1, fun e0 => ?_, by omega, by omega, by omega, fun p hp => ?_⟩
          · have := RVs.length k2
            rw [e0] at this
            simp at this
          · obtain ⟨F4, x4, h4, k4⟩ := new_tup h hp (k2.rep m.toNat)
            exact k F4 r _ _ x4 h4 k4
      · cases e
    · cases e
  · cases e
end
end PX
set_option Elab.async false
set_option linter.all false
set_option maxRecDepth 100000
set_option maxHeartbeats 4000000
namespace HT
open PySem PySem.Spec PyProof.Rows L2
section
variable {prog : Program} {w : World} {A : Around} {E : Value → Shared → Prop} {s : Shared}
theorem sliceApplied_rev {sl : Addr} {vl vu vs : Value} {n : Nat} {Q : Int × Int × Nat → Shared → Prop} (hs : s.heap.IsSliceOf sl vl vu vs) (pl : IsPart vl none) (pu : IsPart vu none) (ps : IsPart vs (some (-1)))
    (h : Q ((n : Int) - 1, -1, n) s) : wpAny (model prog w) A (Builtin.Slice.sliceApplied (.ref sl) (pure (n : Int))) Q E s := by
  obtain ⟨os, hos, hcs, hds⟩ := id hs
  unfold Builtin.Slice.sliceApplied Builtin.Slice.sliceFields
  refine wpAny_bind (wpAny_bind (wpAny_field hos hds (x := vl) rfl (wpAny_bind (wpAny_field hos hds (x := vu) rfl (wpAny_bind (wpAny_field hos hds (x := vs) rfl (wpAny_pure ?_)))))))
  refine wpAny_bind (slicePart_ ps ?_)
  show wpAny _ _ (if ((-1 : Int) == 0) = true then _ else _) _ _ s
  rw [if_neg (by decide)]
  refine wpAny_bind (slicePart_ pl (wpAny_bind (slicePart_ pu (wpAny_bind (wpAny_pure ?_)))))
  show wpAny _ _ (match Builtin.Slice.sliceAdjust none none (-1) (n : Int) with | (lo, hi) => pure (lo, (-1 : Int), Builtin.Slice.slicePlaces lo hi (-1))) _ _ s
  have e1 : Builtin.Slice.sliceAdjust none none (-1) (n : Int) = ((n : Int) - 1, -1) := by
    unfold Builtin.Slice.sliceAdjust
    simp
  rw [e1]
  show wpAny _ _ (pure ((n : Int) - 1, (-1 : Int), Builtin.Slice.slicePlaces ((n : Int) - 1) (-1) (-1))) _ _ s
  have e2 : Builtin.Slice.slicePlaces ((n : Int) - 1) (-1) (-1) = n := by
    unfold Builtin.Slice.slicePlaces
    simp
    omega
  rw [e2]
  exact wpAny_pure h
theorem pick_rev (xs : Array Value) : ((List.range xs.size).filterMap fun (m : Nat) => xs[((xs.size : Int) - 1 + (m : Int) * (-1)).toNat]?).toArray = xs.toList.reverse.toArray := by
  congr 1
  refine List.ext_getElem? fun i => ?_
  have e : (List.range xs.size).filterMap (fun (m : Nat) => xs[((xs.size : Int) - 1 + (m : Int) * (-1)).toNat]?) = (List.range xs.size).map fun m => xs.toList.reverse.getD m .none := by
    have key : ∀ l : List Nat, (∀ m ∈ l, m < xs.size) → l.filterMap (fun (m : Nat) => xs[((xs.size : Int) - 1 + (m : Int) * (-1)).toNat]?) = l.map fun m => xs.toList.reverse.getD m .none := by
      intro l
      induction l with
      | nil => intro _; rfl
      | cons m l ih =>
        intro h
        have hm := h m List.mem_cons_self
        have e1 : ((xs.size : Int) - 1 + (m : Int) * (-1)).toNat = xs.size - 1 - m := by omega
        have e2 : xs[xs.size - 1 - m]? = some (xs.toList.reverse.getD m .none) := by
          have h3 : xs.size - 1 - m < xs.size := by omega
          rw [Array.getElem?_eq_getElem h3, List.getD_eq_getElem?_getD, List.getElem?_reverse (by rw [Array.length_toList]; exact hm), Array.length_toList, Array.getElem?_toList, Array.getElem?_eq_getElem h3]
          rfl
        rw [List.filterMap_cons, e1, e2, List.map_cons, ih fun k hk => h k (List.mem_cons_of_mem _ hk)]
    exact key _ fun m hm => List.mem_range.mp hm
  rw [e, List.getElem?_map]
  by_cases hi : i < xs.size
  · rw [List.getElem?_range hi]
    show some (xs.toList.reverse.getD i .none) = _
    rw [List.getD_eq_getElem?_getD, List.getElem?_eq_getElem (by rw [List.length_reverse, Array.length_toList]; exact hi)]
    rfl
  · rw [List.getElem?_eq_none (by rw [List.length_range]; omega), List.getElem?_eq_none (by rw [List.length_reverse, Array.length_toList]; omega)]
    rfl
theorem getItem_tuple_rev {t sl : Addr} {items : Array Value} {vl vu vs : Value} {Q : Value → Shared → Prop} (ht : IsTup s.heap t items) (hs : s.heap.IsSliceOf sl vl vu vs) (pl : IsPart vl none) (pu : IsPart vu none) (ps : IsPart vs (some (-1)))
    (h : Q (.ref s.heap.objs.size) { s with heap := s.heap.push { cls := .type "tuple", data := .seq items.toList.reverse.toArray } })
    (hsz : items.size ≤ sizeLine) : wpAny (model prog w) A (getItem (.ref t) (.ref sl)) Q E s := by
  have htake : sizeOk (.seq items.toList.reverse.toArray) := by
    show items.toList.reverse.toArray.size ≤ sizeLine
    rw [List.size_toArray, List.length_reverse, Array.length_toList]
    exact hsz
  obtain ⟨os, hos, hcs, hds⟩ := id hs
  have hTs : s.TypeIs (.ref sl) "slice" := ⟨os, hos, hcs⟩
  unfold getItem
  try with_reducible refine wpAny_holding ?_
  first | refine wpAny_bind (wpAny_pure ?_) | skip
  refine wpAny_bind (wpAny_sequenceKey ht.typeIs (by decide) ?_)
  refine wpAny_bind (wpAny_callSpecial?_slot (name := Str.ofString "__getitem__") ht.typeIs PyProof.Rows.slot_tuple_getitem
    (wpAny_call_entry PyProof.Rows.slot_tuple_getitem ht.typeIs entry_tuple_getitem ?_ (args_tuple_getitem _ _)))
  show wpAny _ _ (Builtin.Tuple.tupleItemsOf (.ref t) >>= _) _ _ s
  refine wpAny_bind (tupleItemsOf_ ht ?_)
  refine wpAny_bind (wpAny_typeOf hTs ?_)
  rw [if_pos (by decide)]
  refine wpAny_bind (sliceApplied_rev hs pl pu ps ?_)
  have hno : ¬ ((((items.size : Int) - 1) == 0 && (-1 : Int) == 1 && items.size == items.size) = true) := by
    simp
  show wpAny _ _ (if (((items.size : Int) - 1) == 0 && (-1 : Int) == 1 && items.size == items.size) = true then _ else _) _ _ s
  rw [if_neg hno, pick_rev]
  first
    | exact wpAny_bind (m := Builtin.Tuple.tupleExact _) (wpAny_newObj_type (wpAny_pure ⟨_, rfl, wpAny_pure h⟩) htake)
    | exact wpAny_bind (m := Builtin.Tuple.tupleExact _) (wpAny_newObj_type (wpAny_bind (wpAny_pure (wpAny_pure ⟨_, rfl, wpAny_pure h⟩))) htake)
    | exact wpAny_bind (wpAny_bind (m := Builtin.Tuple.tupleExact _) (wpAny_newObj_type (wpAny_pure (wpAny_pure ⟨_, rfl, wpAny_pure h⟩)) htake))
    | exact wpAny_bind (wpAny_bind (m := Builtin.Tuple.tupleExact _) (wpAny_newObj_type (wpAny_pure ⟨_, rfl, wpAny_pure h⟩) htake))
end
end HT
namespace PX
open PySem PySem.Spec PyProof.Rows L2
def tRevG (K : PySem.W.Frag) (te : TE) : TE := fun σ H Q => te σ H fun x H1 => ∃ a xs, x = .ref a ∧ ((SqL K H1 a xs ∧ ∀ p, H1 p = none → Q (.ref p) (upd H1 p (.lst xs.reverse))) ∨ (SqT K H1 a xs ∧ ∀ p, H1 p = none → Q (.ref p) (upd H1 p (.tup xs.reverse))))
section
variable {X : Cx} {G : Gam} {n0 : Nat}
theorem pe_revG {e : Expr} {te : TE} {k : Nat} {p1 p2 p3 pos : Pos} (he : PE X e te) : PE X (.Subscript e (.Slice none none (some (.UnaryOp .USub (.Constant (.int 1) k p1) p2)) p3) pos) (tRevG X.K te) := by
  refine ⟨fun pins s σ H Q I h => ?_⟩
  refine Subscript_ (thn (he.run pins s σ H _ I h) fun v s1 ⟨x, H1, I1, r1, q1⟩ => ?_)
  obtain ⟨a, xs, ex, hq⟩ := q1
  subst ex
  cases r1
  have hst : PO X (some (.UnaryOp .USub (.Constant (.int 1) k p1) p2)) (tPart (tUn (rU fun i => .int (-i)) (tC (.int 1)))) := po_some (pe_un un_neg pe_int)
  refine wpAny_Slice (thn (po_none.run pins s1 σ H1 (fun o H2 => o = none ∧ H2 = H1) I1 ⟨rfl, rfl⟩) fun vl s2 ⟨l, H2, I2, pl, el, e2⟩ => ?_)
  subst el e2
  refine thn (po_none.run pins s2 σ H2 (fun o H3 => o = none ∧ H3 = H2) I2 ⟨rfl, rfl⟩) fun vu s3 ⟨u, H3, I3, pu, eu, e3⟩ => ?_
  subst eu e3
  refine thn (hst.run pins s3 σ H3 (fun o H4 => o = some (-1) ∧ H4 = H3) I3 ⟨1, rfl, -1, rfl, rfl, rfl⟩) fun vs s4 ⟨o, H4, I4, ps, eo, e4⟩ => ?_
  subst eo e4
  have I5 : Inv X pins σ H4 { s4 with heap := s4.heap.push { cls := .type "slice", data := .fields #[vl, vu, vs] } } := I4.kept (t' := s4.toks) fun b ob q => Heap.get?_push_of_some _ q
  rcases hq with ⟨hx, q⟩ | ⟨hx, q⟩
  · obtain ⟨its, r, ht, hz⟩ := I5.list hx
    have hlen := r.length
    show wpAny (model X.prog X.w) X.A (subscriptTail e (.Slice none none (some (.UnaryOp .USub (.Constant (.int 1) k p1) p2)) p3) (.ref a) (.ref s4.heap.objs.size)) (EP X pins σ Q) X.xe { s4 with heap := s4.heap.push { cls := .type "slice", data := .fields #[vl, vu, vs] } }
    refine tail_any (ops := [.ref a, .ref s4.heap.objs.size]) ht.isList.typeIs (PySem.slot_list_getitem.lookup) ?_ (by with_unfolding_all rfl)
    refine wpAny_getItem_list_slice ht.isList (Heap.IsSliceOf.new _ vl vu vs) pl pu ps (by decide) ?_ (by rw [List.size_toArray]; omega)
    rw [PySem.W.krv_pick]
    refine ⟨.ref _, _, I5.laid (t' := s4.toks) (o := .lst xs.reverse) (fun b ob q => Heap.get?_push_of_some _ q) (Nat.le_refl _) ?_, rfl, q _ (I5.hok.fresh (Nat.le_refl _))⟩
    exact ⟨by rw [List.length_reverse]; exact hz, _, 0, r.reverse, Heap.get?_push_size _ rfl⟩
  · obtain ⟨its, r, ht, hz⟩ := I5.tuple hx
    have hlen := r.length
    show wpAny (model X.prog X.w) X.A (subscriptTail e (.Slice none none (some (.UnaryOp .USub (.Constant (.int 1) k p1) p2)) p3) (.ref a) (.ref s4.heap.objs.size)) (EP X pins σ Q) X.xe { s4 with heap := s4.heap.push { cls := .type "slice", data := .fields #[vl, vu, vs] } }
    refine tail_any (ops := [.ref a, .ref s4.heap.objs.size]) ht.typeIs (PyProof.Rows.slot_tuple_getitem.lookup) ?_ (by with_unfolding_all rfl)
    refine HT.getItem_tuple_rev ht (Heap.IsSliceOf.new _ vl vu vs) pl pu ps ?_ (by rw [List.size_toArray]; omega)
    refine ⟨.ref _, _, I5.laid (t' := s4.toks) (o := .tup xs.reverse) (fun b ob q => Heap.get?_push_of_some _ q) (Nat.le_refl _) ?_, rfl, q _ (I5.hok.fresh (Nat.le_refl _))⟩
    exact ⟨by rw [List.length_reverse]; exact hz, _, r.reverse, IsTup.new _ _⟩
def eRev2 (a : SE) : SE := fun env S => (a env S).bind fun p S1 => match deref S1 p.2 with
  | some (.lst xs) => .ok (true, .lst xs.reverse) S1
  | some (.tup xs) => .ok (false, .tup xs.reverse) S1
  | _ => .no
theorem se_rev2 {e : Expr} {fe : SE} {kk : Nat} {p1 p2 p3 pos : Pos} (hK : G.K = X.K) (he : PE X e (rdE G n0 fe)) : PE X (.Subscript e (.Slice none none (some (.UnaryOp .USub (.Constant (.int 1) kk p1) p2)) p3) pos) (rdE G n0 (eRev2 fe)) := by
  refine se_of (pe_revG (toV he)) fun σ H Q ⟨F, r, env, S, g, s, h⟩ => ?_
  refine stV s cnE h fun p S1 F1 r1 H1 u x1 s1 q1 h1 => ?_
  cases el : deref S1 p.2 with
  | none => simp only [el] at h1; exact h1.elim
  | some d =>
    simp only [el] at h1
    split at h1
    · rename_i xs ex
      cases ex
      obtain ⟨a, us, rfl, k1, k2⟩ := view_lst s1.hr q1 el
      refine ⟨a, us, rfl, .inl ⟨.inl k1, fun p' hp => ?_⟩⟩
      obtain ⟨h2, k3⟩ := new_obj s1.hr hp (v := .lst xs.reverse) ⟨_, rfl, k2.rev⟩ rfl
      exact h1 F1 r1 _ _ x1 (s1.ext (.refl _ _) h2) k3
    · rename_i xs ex
      cases ex
      obtain ⟨a, us, rfl, k1, k2⟩ := view_tup s1.hr q1 el
      refine ⟨a, us, rfl, .inr ⟨hK ▸ k1, fun p' hp => ?_⟩⟩
      obtain ⟨F4, x4, h4, k4⟩ := new_tup s1.hr hp k2.rev
      exact h1 F4 _ _ _ (x1.trans x4) (s1.ext x4 h4) k4
    · exact h1.elim
end
end PX
set_option Elab.async false
set_option linter.all false
set_option maxRecDepth 100000
set_option maxHeartbeats 1000000
namespace PX
open PySem PySem.Spec PyProof.Rows L2
def oNotB : Op2 := fun x y _ => match x, y with
  | .bl a, .bl b => some (false, .bl (!decide (a = b)))
  | _, _ => none
section
variable {G : Gam}
theorem ok_notB : Ok2 G oNotB (fun x y H Q => ∃ a b, x = .bl a ∧ y = .bl b ∧ Q (.bl (!decide (a = b))) H) := fun n0 g F r S H x y u v z Q h q1 q2 e k => by
  unfold oNotB at e
  split at e
  · rename_i a b
    cases e
    have q1 : u = .bl a := q1
    have q2 : v = .bl b := q2
    exact ⟨a, b, q1, q2, k F r _ _ (.refl F r) h rfl⟩
  · cases e
end
end PX
set_option Elab.async false
set_option linter.all false
set_option maxRecDepth 100000
set_option maxHeartbeats 1000000
namespace PX
open PySem PySem.Spec PyProof.Rows L2
abbrev TX := PV → Env → Store → RS
def xSub (f : PV → PV → PV → Store → Option Store) (o k : SE) : TX := fun v env S => (o env S).go fun q S2 => (k env S2).go fun z S3 => match f q.2 z.2 v S3 with
  | some S4 => .nx env S4
  | none => .no
def xAll : List TX → List PV → Env → Store → RS
  | [], [], env, S => .nx env S
  | t :: ts, v :: vs, env, S => (t v env S).then (xAll ts vs)
  | _, _, _, _ => .no
def sAsgX (ts : List TX) (a : SE) : SS := fun env S => (a env S).go fun p S1 => match deref S1 p.2 with
  | some (.tup xs) => xAll ts xs env S1
  | _ => .no
section
variable {X : Cx} {G : Gam} {n0 : Nat} {fe fo fk : SE} {st : Stmt}
def TxOk (G : Gam) (n0 : Nat) (t : TX) (gg : TG) : Prop := ∀ g F r env σ S H v u env' S' (Q : L2.St → Hp → Prop), Sg G n0 g F r env σ S H → RV G F r v u → t v env S = .nx env' S' → (∀ F' r' H' σ', Ext F F' r r' → Sg G n0 g F' r' env' σ' S' H' → Q σ' H') → gg u σ H Q
def TxsOk (G : Gam) (n0 : Nat) (ts : List TX) (gs : TGs) : Prop := ∀ g F r env σ S H vs us env' S' (Q : L2.St → Hp → Prop), Sg G n0 g F r env σ S H → RVs G F r vs us → xAll ts vs env S = .nx env' S' → (∀ F' r' H' σ', Ext F F' r r' → Sg G n0 g F' r' env' σ' S' H' → Q σ' H') → gs us σ H Q
theorem tx_sub {f : PV → PV → PV → Store → Option Store} {t : TSet} (ho : ChgI G n0 f t) : TxOk G n0 (xSub f fo fk) (gSub (rdV G n0 fo) (rdV G n0 fk) t) := fun g F r env σ S H v w env' S' Q s q0 e kk => by
  unfold xSub at e
  refine ⟨F, r, env, S, g, s, ?_⟩
  cases eo : fo env S with
  | ex c p S1 => rw [eo] at e; cases e
  | no => rw [eo] at e; cases e
  | ok p S1 =>
    rw [eo] at e
    intro F1 r1 H1 u x1 s1 q1
    refine ⟨F1, r1, env, S1, g, s1, ?_⟩
    have e : ((fk env S1).go fun z S3 => match f p.2 z.2 v S3 with
      | some S4 => RS.nx env S4
      | none => .no) = .nx env' S' := e
    cases ek : fk env S1 with
    | ex c p S2 => rw [ek] at e; cases e
    | no => rw [ek] at e; cases e
    | ok z S2 =>
      rw [ek] at e
      intro F2 r2 H2 y x2 s2 q2
      have e : (match f p.2 z.2 v S2 with
        | some S4 => RS.nx env S4
        | none => .no) = .nx env' S' := e
      cases ef : f p.2 z.2 v S2 with
      | none => rw [ef] at e; cases e
      | some S4 =>
        rw [ef] at e
        cases e
        exact ho g F2 r2 S2 H2 p.2 z.2 v u y w S' _ s2.hr (q1.ext x2) q2 (q0.ext (x1.trans x2)) ef fun H' hr => kk F2 r2 H' σ (x1.trans x2) (s2.ext (.refl _ _) hr)
theorem txs_nil : TxsOk G n0 [] gNil := fun g F r env σ S H vs us env' S' Q s q e k => by
  cases vs with
  | nil =>
    cases e
    exact ⟨q, k F r H σ (.refl F r) s⟩
  | cons v vs => cases e
theorem txs_cons {t : TX} {ts : List TX} {gg : TG} {gs : TGs} (h1 : TxOk G n0 t gg) (h2 : TxsOk G n0 ts gs) : TxsOk G n0 (t :: ts) (gCons gg gs) := fun g F r env σ S H vs us env' S' Q s q e k => by
  cases vs with
  | nil => cases e
  | cons v vs =>
    obtain ⟨u, ur, rfl, q1, q2⟩ := q
    have e : (t v env S).then (xAll ts vs) = .nx env' S' := e
    cases e1 : t v env S with
    | nx env1 S1 =>
      rw [e1] at e
      exact ⟨u, ur, rfl, h1 g F r env σ S H v u env1 S1 _ s q1 e1 fun F1 r1 H1 σ1 x1 s1 => h2 g F1 r1 env1 σ1 S1 H1 vs ur env' S' Q s1 (q2.ext x1) e fun F2 r2 H2 σ2 x2 s2 => k F2 r2 H2 σ2 (x1.trans x2) s2⟩
    | rt v S1 => rw [e1] at e; cases e
    | bk e2 S1 => rw [e1] at e; cases e
    | ct e2 S1 => rw [e1] at e; cases e
    | ex c p S1 => rw [e1] at e; cases e
    | no => rw [e1] at e; cases e
theorem xAll_len : ∀ {ts : List TX} {vs : List PV} {env env' : Env} {S S' : Store}, xAll ts vs env S = .nx env' S' → vs.length = ts.length
  | [], [], _, _, _, _, _ => rfl
  | [], _ :: _, _, _, _, _, e => by cases e
  | _ :: _, [], _, _, _, _, e => by cases e
  | t :: ts, v :: vs, env, env', S, S', e => by
    have e : (t v env S).then (xAll ts vs) = .nx env' S' := e
    cases e1 : t v env S with
    | nx env1 S1 =>
      rw [e1] at e
      rw [List.length_cons, List.length_cons, xAll_len (ts := ts) (vs := vs) (env := env1) (S := S1) e]
    | rt v S1 => rw [e1] at e; cases e
    | bk e2 S1 => rw [e1] at e; cases e
    | ct e2 S1 => rw [e1] at e; cases e
    | ex c p S1 => rw [e1] at e; cases e
    | no => rw [e1] at e; cases e
/-- what such targets give: a next state, or nothing -/
def TxNx (t : TX) : Prop := ∀ v env S, (∃ e S', t v env S = .nx e S') ∨ (∃ c p S', t v env S = .ex c p S') ∨ t v env S = .no
theorem go_cases {α : Type} (z : R α) (k : α → Store → RS) (h : ∀ a S, (∃ e S', k a S = .nx e S') ∨ (∃ c p S', k a S = .ex c p S') ∨ k a S = .no) : (∃ e S', z.go k = .nx e S') ∨ (∃ c p S', z.go k = .ex c p S') ∨ z.go k = .no := by
  cases z with
  | ok a S => exact h a S
  | ex c p S => exact .inr (.inl ⟨c, p, S, rfl⟩)
  | no => exact .inr (.inr rfl)
theorem nx_sub (f : PV → PV → PV → Store → Option Store) (o k : SE) : TxNx (xSub f o k) := fun v env S => by
  unfold xSub
  refine go_cases _ _ fun q S2 => go_cases _ _ fun z S3 => ?_
  cases f q.2 z.2 v S3 with
  | some S4 => exact .inl ⟨env, S4, rfl⟩
  | none => exact .inr (.inr rfl)
theorem xAll_cases : ∀ {ts : List TX}, (∀ t ∈ ts, TxNx t) → ∀ vs env S, (∃ e S', xAll ts vs env S = .nx e S') ∨ (∃ c p S', xAll ts vs env S = .ex c p S') ∨ xAll ts vs env S = .no
  | [], _, [], env, S => .inl ⟨_, _, rfl⟩
  | [], _, _ :: _, env, S => .inr (.inr rfl)
  | _ :: _, _, [], env, S => .inr (.inr rfl)
  | t :: ts, h, v :: vs, env, S => by
    show (∃ e S', (t v env S).then (xAll ts vs) = .nx e S') ∨ (∃ c p S', (t v env S).then (xAll ts vs) = .ex c p S') ∨ (t v env S).then (xAll ts vs) = .no
    rcases h t List.mem_cons_self v env S with ⟨e, S1, e1⟩ | ⟨c, p, S1, e1⟩ | e1
    · rw [e1]
      exact xAll_cases (fun t ht => h t (List.mem_cons_of_mem _ ht)) vs e S1
    · rw [e1]
      exact .inr (.inl ⟨_, _, _, rfl⟩)
    · rw [e1]
      exact .inr (.inr rfl)
theorem ss_asgX {gs : TGs} {ts : List TX} {n : Nat} (hn : ts.length = n) (ht : TxsOk G n0 ts gs) (hp : PS X st (tAsg (rdV G n0 fe) (gTup G.K n gs))) (hx : ∀ t ∈ ts, TxNx t) : PS X st (rdS G n0 (sAsgX ts fe)) := by
  refine psI hp fun D σ H ⟨F, r, env, S, g, s, h⟩ => ?_
  refine sgV s h fun p S1 F1 r1 H1 u x1 s1 q1 h1 => ?_
  split at h1
  · rename_i xs ed
    obtain ⟨a, us, rfl, k1, k2⟩ := view_tup s1.hr q1 ed
    rcases xAll_cases hx xs env S1 with ⟨e, S', e1⟩ | ⟨c, p, S', e1⟩ | e1
    · rw [e1] at h1
      refine ⟨a, us, rfl, k1, by rw [← RVs.length k2, xAll_len e1, hn], ht g F1 r1 env σ S1 H1 xs us e S' D.nx s1 k2 e1 fun F2 r2 H2 σ2 x2 s2 => h1 F2 r2 H2 σ2 (x1.trans x2) s2⟩
    · rw [e1] at h1
      exact False.elim h1
    · rw [e1] at h1
      exact False.elim h1
  · exact False.elim h1
end
end PX
set_option Elab.async false
set_option linter.all false
set_option maxRecDepth 100000
set_option maxHeartbeats 2000000
namespace ZG
open PySem RZ
section
variable {prog : Program} {w : World} {A : Around} {E : Value → Shared → Prop} {s : Shared}
theorem begins_sq (b : Bool) (l : Addr) (items : Array Value) : Begins (.ref l) (itObj b l) fun h => SqOb b h l items := by
  cases b with
  | true => exact begins_tuple l items
  | false => exact begins_list l items
theorem z3_end {b1 b2 b3 : Bool} {z TI TO i1 i2 i3 l1 l2 l3 : Addr} {k : Nat} {xs ys zs : Array Value} {a1 a2 a3 : Value} {Q : Fin → Shared → Prop} (hh : A.handled = none) (S : ZipSep3 z TI TO i1 i2 i3 [i1, l1] [i2, l2] [i3, l3])
    (hz : IsZip s.heap z TI TO .none) (hTI : IsTupOf3 s.heap TI (.ref i1) (.ref i2) (.ref i3)) (hTO : IsTupOf3 s.heap TO a1 a2 a3)
    (h1 : SqIt b1 s.heap i1 l1 k) (h2 : SqIt b2 s.heap i2 l2 k) (h3 : SqIt b3 s.heap i3 l3 k) (hl1 : SqOb b1 s.heap l1 xs) (hl2 : SqOb b2 s.heap l2 ys) (hl3 : SqOb b3 s.heap l3 zs) (hend : xs[k]? = none ∨ ys[k]? = none ∨ zs[k]? = none)
    (hE : ∀ h' e, (∀ c o, c ≠ z → c ≠ TO → c ≠ i1 → c ≠ i2 → c ≠ i3 → s.heap.get? c = some o → h'.get? c = some o) → (∃ o, h'.get? e = some o ∧ o.cls = .type "StopIteration") → E (.ref e) { s with heap := h' }) :
    wpAny (model prog w) A (Builtin.«zip.__next__» ⟨[.ref z], []⟩) Q E s := by
  have l1z : l1 ≠ z := fun e => S.zf1 (by simp [e])
  have l2z : l2 ≠ z := fun e => S.zf2 (by simp [e])
  have l3z : l3 ≠ z := fun e => S.zf3 (by simp [e])
  have l1T : l1 ≠ TO := fun e => S.Tf1 (by simp [e])
  have l2T : l2 ≠ TO := fun e => S.Tf2 (by simp [e])
  have l3T : l3 ≠ TO := fun e => S.Tf3 (by simp [e])
  have i1z := S.zi1.symm
  have i2z := S.zi2.symm
  have i3z := S.zi3.symm
  have i12 : i1 ≠ i2 := fun e => S.sep1_2 (by simp [e])
  have i13 : i1 ≠ i3 := fun e => S.sep1_3 (by simp [e])
  have i23 : i2 ≠ i3 := fun e => S.sep2_3 (by simp [e])
  have l2i1 : l2 ≠ i1 := fun e => S.sep1_2 (by simp [e])
  have l3i1 : l3 ≠ i1 := fun e => S.sep1_3 (by simp [e])
  have l3i2 : l3 ≠ i2 := fun e => S.sep2_3 (by simp [e])
  show wpAny _ _ (field (.ref z) 2 >>= _) _ _ _
  refine wpAny_bind (wpAny_field hz rfl (x := .bool false) rfl ?_)
  show wpAny _ _ (field (.ref z) 3 >>= _) _ _ _
  refine wpAny_bind (wpAny_field hz rfl (x := .ref TI) rfl ?_)
  refine wpAny_bind (wpAny_seqItems hTI rfl ?_)
  show wpAny _ _ (Builtin.SmallTypes.ownedTupleIsFree (.ref z) >>= _) _ _ _
  refine wpAny_bind ?_
  unfold Builtin.SmallTypes.ownedTupleIsFree
  refine wpAny_bind (wpAny_field hz rfl (x := .none) rfl (wpAny_pure ?_))
  simp only [if_true]
  refine wpAny_bind (wpAny_rule ?_)
  refine wpAny_bind (wpAny_field hz rfl (x := .ref TO) rfl ?_)
  refine wpAny_bind (wpAny_setField_rec hz (by simp) fun h₁ hz₁ hs₁ => ?_)
  replace hz₁ : IsZip h₁ z TI TO .ellipsis := hz₁
  refine wpAny_bind ?_
  simp only [List.zipIdx_cons, List.zipIdx_nil, List.forIn_cons, List.forIn_nil]
  refine wpAny_bind (wpAny_bind (wpAny_onRaise ?_))
  show wpAny _ _ (Builtin.SmallTypes.nextOf (.ref i1) >>= _) _ _ _
  cases hx : xs[k]? with
  | none =>
    refine wpAny_bind (nextOf_end hh (h1.extBut hs₁.extBut i1z) (hl1.extBut hs₁.extBut l1z) hx fun h₂ e hs₂ he => ?_)
    obtain ⟨oe, hoe, hce⟩ := he
    have hz₂ : IsZip h₂ z TI TO .ellipsis := hs₂ _ _ i1z.symm hz₁
    have hez : e ≠ z := fun x => by subst x; rw [hz₂] at hoe; cases hoe; simp at hce
    refine wpAny_setField_rec hz₂ (by simp) fun h₃ _ hs₃ => hE h₃ e (fun c o c1 _ c3 _ _ x => hs₃.extBut _ _ c1 (hs₂ _ _ c3 (hs₁.extBut _ _ c1 x))) ⟨oe, hs₃.extBut _ _ hez hoe, hce⟩
  | some x =>
    have hend : ys[k]? = none ∨ zs[k]? = none := by rcases hend with h | h; rw [hx] at h; cases h; exact h
    refine wpAny_bind (nextOf_item (h1.extBut hs₁.extBut i1z) (hl1.extBut hs₁.extBut l1z) hx fun h₂ h1₂ hs₂ => wpAny_pure ?_)
    have hTO₂ : IsTupOf3 h₂ TO a1 a2 a3 := hs₂.extBut _ _ S.Ti1 (hs₁.extBut _ _ S.TOz hTO)
    refine wpAny_bind (wpAny_seqItems hTO₂ rfl ?_)
    refine wpAny_bind (updateSeq_IsTupOf3 hTO₂ fun h₃ hTO₃ hs₃ => ?_)
    replace hTO₃ : IsTupOf3 h₃ TO x a2 a3 := hTO₃
    refine wpAny_bind (wpAny_letGo (wpAny_pure ?_))
    refine wpAny_bind (wpAny_bind (wpAny_onRaise ?_))
    show wpAny _ _ (Builtin.SmallTypes.nextOf (.ref i2) >>= _) _ _ _
    have h2₃ : SqIt b2 h₃ i2 l2 k := ((h2.extBut hs₁.extBut i2z).extBut hs₂.extBut i12.symm).extBut hs₃.extBut S.Ti2.symm
    have hl2₃ : SqOb b2 h₃ l2 ys := ((hl2.extBut hs₁.extBut l2z).extBut hs₂.extBut l2i1).extBut hs₃.extBut l2T
    have hz₃ : IsZip h₃ z TI TO .ellipsis := hs₃.extBut _ _ S.TOz.symm (hs₂.extBut _ _ i1z.symm hz₁)
    have hk₃ : ∀ c o, c ≠ z → c ≠ TO → c ≠ i1 → s.heap.get? c = some o → h₃.get? c = some o := fun c o c1 c2 c3 q => hs₃.extBut _ _ c2 (hs₂.extBut _ _ c3 (hs₁.extBut _ _ c1 q))
    cases hy : ys[k]? with
    | none =>
      refine wpAny_bind (nextOf_end hh h2₃ hl2₃ hy fun h₄ e hs₄ he => ?_)
      obtain ⟨oe, hoe, hce⟩ := he
      have hz₄ : IsZip h₄ z TI TO .ellipsis := hs₄ _ _ i2z.symm hz₃
      have hez : e ≠ z := fun x => by subst x; rw [hz₄] at hoe; cases hoe; simp at hce
      refine wpAny_setField_rec hz₄ (by simp) fun h₅ _ hs₅ => hE h₅ e (fun c o c1 c2 c3 c4 _ x => hs₅.extBut _ _ c1 (hs₄ _ _ c4 (hk₃ c o c1 c2 c3 x))) ⟨oe, hs₅.extBut _ _ hez hoe, hce⟩
    | some y =>
      have hzz : zs[k]? = none := by rcases hend with h | h; rw [hy] at h; cases h; exact h
      refine wpAny_bind (nextOf_item h2₃ hl2₃ hy fun h₄ h2₄ hs₄ => wpAny_pure ?_)
      have hTO₄ : IsTupOf3 h₄ TO x a2 a3 := hs₄.extBut _ _ S.Ti2 hTO₃
      refine wpAny_bind (wpAny_seqItems hTO₄ rfl ?_)
      refine wpAny_bind (updateSeq_IsTupOf3 hTO₄ fun h₅ hTO₅ hs₅ => ?_)
      refine wpAny_bind (wpAny_letGo (wpAny_pure ?_))
      refine wpAny_bind (wpAny_bind (wpAny_onRaise ?_))
      show wpAny _ _ (Builtin.SmallTypes.nextOf (.ref i3) >>= _) _ _ _
      have hk₅ : ∀ c o, c ≠ z → c ≠ TO → c ≠ i1 → c ≠ i2 → s.heap.get? c = some o → h₅.get? c = some o := fun c o c1 c2 c3 c4 q => hs₅.extBut _ _ c2 (hs₄.extBut _ _ c4 (hk₃ c o c1 c2 c3 q))
      have hz₅ : IsZip h₅ z TI TO .ellipsis := hs₅.extBut _ _ S.TOz.symm (hs₄.extBut _ _ i2z.symm hz₃)
      refine wpAny_bind (nextOf_end hh (h3.at_ fun o q => hk₅ _ o i3z S.Ti3.symm i13.symm i23.symm q) (l := l3) (items := zs) (by
        cases b3 with
        | true => exact Heap.IsTuple.at hl3 fun o q => hk₅ l3 o l3z l3T l3i1 l3i2 q
        | false => exact Heap.IsList.at hl3 fun o q => hk₅ l3 o l3z l3T l3i1 l3i2 q) hzz fun h₆ e hs₆ he => ?_)
      obtain ⟨oe, hoe, hce⟩ := he
      have hz₆ : IsZip h₆ z TI TO .ellipsis := hs₆ _ _ i3z.symm hz₅
      have hez : e ≠ z := fun x => by subst x; rw [hz₆] at hoe; cases hoe; simp at hce
      refine wpAny_setField_rec hz₆ (by simp) fun h₇ _ hs₇ => hE h₇ e (fun c o c1 c2 c3 c4 c5 x => hs₇.extBut _ _ c1 (hs₆ _ _ c5 (hk₅ c o c1 c2 c3 c4 x))) ⟨oe, hs₇.extBut _ _ hez hoe, hce⟩
theorem pyNext_z3_end {b1 b2 b3 : Bool} {z TI TO i1 i2 i3 l1 l2 l3 : Addr} {k : Nat} {xs ys zs : Array Value} {a1 a2 a3 : Value} {Q : Option Value → Shared → Prop} (hh : A.handled = none) (S : ZipSep3 z TI TO i1 i2 i3 [i1, l1] [i2, l2] [i3, l3])
    (hz : IsZip s.heap z TI TO .none) (hTI : IsTupOf3 s.heap TI (.ref i1) (.ref i2) (.ref i3)) (hTO : IsTupOf3 s.heap TO a1 a2 a3)
    (h1 : SqIt b1 s.heap i1 l1 k) (h2 : SqIt b2 s.heap i2 l2 k) (h3 : SqIt b3 s.heap i3 l3 k) (hl1 : SqOb b1 s.heap l1 xs) (hl2 : SqOb b2 s.heap l2 ys) (hl3 : SqOb b3 s.heap l3 zs) (hend : xs[k]? = none ∨ ys[k]? = none ∨ zs[k]? = none)
    (hQ : ∀ h', (∀ c o, c ≠ z → c ≠ TO → c ≠ i1 → c ≠ i2 → c ≠ i3 → s.heap.get? c = some o → h'.get? c = some o) → Q none { s with heap := h' }) : wpAny (model prog w) A (pyNext (.ref z)) Q E s := by
  have hT : s.TypeIs (.ref z) "zip" := ⟨_, hz, rfl⟩
  unfold pyNext
  refine wpAny_bind (wpAny_attempt (wpAny_callSpecial?_slot (name := Str.ofString "__next__") hT F.slot_zip_next
    (wpAny_call_entry F.slot_zip_next hT F.entry_zip_next (z3_end hh S hz hTI hTO h1 h2 h3 hl1 hl2 hl3 hend fun h' e hk he => ?_) (F.args_zip_next_1 _))))
  obtain ⟨o, ho, hc⟩ := he
  refine wpAny_bind (wpAny_isInstance (T := "StopIteration") (b := true) ⟨o, ho, hc⟩ isSubtype_stop ?_)
  exact wpAny_pure (hQ _ hk)
theorem neA {a b : Nat} (h : a < b ∨ b < a) : (a : Addr) ≠ b := fun e => by
  have e : (a : Nat) = b := e
  omega
theorem nm2 {a b c : Nat} (h : a < b ∨ b < a) (h2 : a < c ∨ c < a) : (a : Addr) ∉ ([b, c] : List Addr) := fun e => by
  rcases List.mem_cons.mp e with e | e
  · exact neA h e
  · exact neA h2 (List.mem_singleton.mp e)
theorem sep3 {n l1 l2 l3 : Nat} (h1 : l1 < n) (h2 : l2 < n) (h3 : l3 < n) : ZipSep3 (n + 5) (n + 3) (n + 4) n (n + 1) (n + 2) [n, l1] [n + 1, l2] [n + 2, l3] := by
  constructor <;> first | exact List.mem_cons_self | (refine neA ?_; omega) | (refine nm2 ?_ ?_ <;> omega)
end
end ZG
namespace PX
open PySem PySem.Spec PyProof.Rows L2 ZG
def Itz3 (K : PySem.W.Frag) (b1 b2 b3 : Bool) (a b c : Addr) : It :=
  ⟨fun i H => ∃ (xs ys zs : List V) (x y z : V), SqG b1 K H a xs ∧ SqG b2 K H b ys ∧ SqG b3 K H c zs ∧ xs[i]? = some x ∧ ys[i]? = some y ∧ zs[i]? = some z,
    fun i H v H' => ∃ T x y z, v = .ref T ∧ H T = none ∧ H' = upd H T (.tup [x, y, z]) ∧ (∀ xs, SqG b1 K H a xs → xs[i]? = some x) ∧ (∀ ys, SqG b2 K H b ys → ys[i]? = some y) ∧ ∀ zs, SqG b3 K H c zs → zs[i]? = some z,
    fun i H => ∃ xs ys zs : List V, SqG b1 K H a xs ∧ SqG b2 K H b ys ∧ SqG b3 K H c zs ∧ (xs.length ≤ i ∨ ys.length ≤ i ∨ zs.length ≤ i)⟩
theorem turn_z3 {P : Program} {w : World} {K : PySem.W.Frag} {elts : List Expr} {kk : Nat} {tpos : Pos} (b1 b2 b3 : Bool) {a b c z TI TO i1 i2 i3 : Addr} (D : ZipSep3 z TI TO i1 i2 i3 [i1, a] [i2, b] [i3, c]) (ha : a ≠ i1) (hb : b ≠ i2) (hcc : c ≠ i3) :
    Turn P w K (.Tuple elts kk tpos) (Itz3 K b1 b2 b3 a b c) [z, TI, TO, i1, i2, i3] z (fun i h => IsZip h z TI TO .none ∧ IsTupOf3 h TI (.ref i1) (.ref i2) (.ref i3) ∧ (∃ x y u, IsTupOf3 h TO x y u) ∧ SqIt b1 h i1 a i ∧ SqIt b2 h i2 b i ∧ SqIt b3 h i3 c i) where
  mem := by simp
  obj := fun i h st d hc => by
    obtain ⟨hz, hTI, ⟨x, y, u, hTO⟩, h1, h2, h3⟩ := st
    have e' : d = z ∨ d = TI ∨ d = TO ∨ d = i1 ∨ d = i2 ∨ d = i3 := by simpa using hc
    rcases e' with q | q | q | q | q | q
    · rw [q]; exact ⟨_, hz, fun v q => nomatch q⟩
    · rw [q]; exact ⟨_, hTI, fun v q => nomatch q⟩
    · rw [q]; exact ⟨_, hTO, fun v q => nomatch q⟩
    · rw [q]
      obtain ⟨o1, _, e1, d1⟩ := h1.obj
      exact ⟨o1, e1, fun v q => by rw [d1] at q; cases q⟩
    · rw [q]
      obtain ⟨o1, _, e1, d1⟩ := h2.obj
      exact ⟨o1, e1, fun v q => by rw [d1] at q; cases q⟩
    · rw [q]
      obtain ⟨o1, _, e1, d1⟩ := h3.obj
      exact ⟨o1, e1, fun v q => by rw [d1] at q; cases q⟩
  keep := fun i h h' st k => by
    obtain ⟨hz, hTI, ⟨x, y, u, hTO⟩, h1, h2, h3⟩ := st
    exact ⟨k z (by simp) _ hz, k TI (by simp) _ hTI, ⟨x, y, u, k TO (by simp) _ hTO⟩, h1.at_ fun o q => k i1 (by simp) o q, h2.at_ fun o q => k i2 (by simp) o q, h3.at_ fun o q => k i3 (by simp) o q⟩
  item := by
    intro X hP hw hK hc i pins s σ H E I hf st hg
    subst hP hw hK
    obtain ⟨hz, hTI, ⟨x0, y0, u0, hTO⟩, h1, h2, h3⟩ := st
    obtain ⟨xs, ys, zs, x, y, u, hqx, hqy, hqz, hx, hy, hu⟩ := hg
    obtain ⟨its, rv, p, _⟩ := Inv.sqG I hqx
    obtain ⟨its2, rv2, p2, _⟩ := Inv.sqG I hqy
    obtain ⟨its3, rv3, p3, _⟩ := Inv.sqG I hqz
    obtain ⟨v1, hv1, rv1⟩ := rv.get hx
    obtain ⟨v2, hv2, rv2'⟩ := rv2.get hy
    obtain ⟨v3, hv3, rv3'⟩ := rv3.get hu
    have hzl : z < s.heap.objs.size := Heap.lt_size hz
    have n1 : i < its.toArray.size := by have := (List.getElem?_eq_some_iff.mp hv1).1; simpa using this
    have n2 : i < its2.toArray.size := by have := (List.getElem?_eq_some_iff.mp hv2).1; simpa using this
    have n3 : i < its3.toArray.size := by have := (List.getElem?_eq_some_iff.mp hv3).1; simpa using this
    refine wpAny_pyNext_zipD3_item D (drawsG (A := X.A.in1) (I.ok.hd hc) b1 i1 a ha its.toArray) (drawsG (A := X.A.in1) (I.ok.hd hc) b2 i2 b hb its2.toArray) (drawsG (A := X.A.in1) (I.ok.hd hc) b3 i3 c hcc its3.toArray) hz hTI hTO ⟨h1, p⟩ ⟨h2, p2⟩ ⟨h3, p3⟩ n1 n2 n3 fun u1 u2 u3 h' tk y1 y2 y3 z' TO' h1' h2' h3' hT hsz hk => ?_
    have e1 : u1 = v1 := by
      have y1 : its.toArray[i]? = some u1 := y1
      rw [List.getElem?_toArray, hv1] at y1
      exact (Option.some.inj y1).symm
    have e2 : u2 = v2 := by
      have y2 : its2.toArray[i]? = some u2 := y2
      rw [List.getElem?_toArray, hv2] at y2
      exact (Option.some.inj y2).symm
    have e3 : u3 = v3 := by
      have y3 : its3.toArray[i]? = some u3 := y3
      rw [List.getElem?_toArray, hv3] at y3
      exact (Option.some.inj y3).symm
    subst e1 e2 e3
    refine ⟨_, rfl, wpAny_letOwnedTupleGo_zip (s := { s with heap := h', toks := tk }) z' fun h'' z'' sb => ?_⟩
    have hT2 : h''.get? s.heap.objs.size = some { cls := .type "tuple", data := .seq #[u1, u2, u3] } := (sb.2 _ (Nat.ne_of_gt hzl)).trans hT
    have new : ObjOk X.prog X.w (upd H s.heap.objs.size (.tup [x, y, u])) h'' s.heap.objs.size (.tup [x, y, u]) :=
      ⟨by show 3 ≤ sizeLine; decide, [u1, u2, u3], .cons rv1 (.cons rv2' (.cons rv3' .nil)), ⟨_, hT2, rfl, _, rfl⟩⟩
    have I1 : L2.Inv X pins σ (upd H s.heap.objs.size (.tup [x, y, u])) { s with heap := h'', toks := tk } :=
      I.turnedNew (t' := tk) (ch := [z, TI, TO, i1, i2, i3]) (fun d o hb q => (sb.2 d (fun q' => hb (by simp [q']))).trans (hk d o (fun q' => hb (by simp [q'])) (fun q' => hb (by simp [q'])) (fun q' => hb (by simp [q'])) (fun q' => hb (by simp [q'])) (fun q' => hb (by simp [q'])) q)) hf (Nat.le_refl _) new
    refine ⟨.ref s.heap.objs.size, _, I1, rfl, ⟨_, x, y, u, rfl, I.hok.fresh (Nat.le_refl _), rfl, fun l hl => by rw [Inv.sqG_inj I hl hqx]; exact hx, fun l hl => by rw [Inv.sqG_inj I hl hqy]; exact hy, fun l hl => by rw [Inv.sqG_inj I hl hqz]; exact hu⟩, ⟨z'', ?_, ⟨u1, u2, u3, ?_⟩, ?_, ?_, ?_⟩, fun d hcm => ?_⟩
    · exact (sb.2 _ D.TIz).trans (hk _ _ D.TIz D.TITO D.TIi1 D.TIi2 D.TIi3 hTI)
    · exact (sb.2 _ D.TOz).trans TO'
    · exact h1'.1.at_ fun o q => (sb.2 _ D.zi1.symm).trans q
    · exact h2'.1.at_ fun o q => (sb.2 _ D.zi2.symm).trans q
    · exact h3'.1.at_ fun o q => (sb.2 _ D.zi3.symm).trans q
    · have hlt : d < s.heap.objs.size := by
        have e' : d = z ∨ d = TI ∨ d = TO ∨ d = i1 ∨ d = i2 ∨ d = i3 := by simpa using hcm
        rcases e' with q | q | q | q | q | q
        · rw [q]; exact hzl
        · rw [q]; exact Heap.lt_size hTI
        · rw [q]; exact Heap.lt_size hTO
        · rw [q]; exact h1.lt
        · rw [q]; exact h2.lt
        · rw [q]; exact h3.lt
      rw [upd_ne (Nat.ne_of_lt hlt)]
      exact (hf d hcm).1
  done := by
    intro X hP hw hK hc i pins s σ H E I hf st hg
    subst hP hw hK
    obtain ⟨hz, hTI, ⟨x0, y0, u0, hTO⟩, h1, h2, h3⟩ := st
    obtain ⟨xs, ys, zs, hqx, hqy, hqz, hend⟩ := hg
    obtain ⟨its, rv, p, _⟩ := Inv.sqG I hqx
    obtain ⟨its2, rv2, p2, _⟩ := Inv.sqG I hqy
    obtain ⟨its3, rv3, p3, _⟩ := Inv.sqG I hqz
    have l1 := rv.length
    have l2 := rv2.length
    have l3 := rv3.length
    have he : its.toArray[i]? = none ∨ its2.toArray[i]? = none ∨ its3.toArray[i]? = none := by
      rcases hend with q | q | q
      · exact .inl (by simp; omega)
      · exact .inr (.inl (by simp; omega))
      · exact .inr (.inr (by simp; omega))
    exact pyNext_z3_end (I.ok.hd hc) D hz hTI hTO h1 h2 h3 p p2 p3 he fun h' hk => ⟨rfl, I.turnedL (t' := s.toks) (ch := [z, TI, TO, i1, i2, i3]) (fun d o hb q =>
      hk d o (fun q' => hb (by simp [q'])) (fun q' => hb (by simp [q'])) (fun q' => hb (by simp [q'])) (fun q' => hb (by simp [q'])) (fun q' => hb (by simp [q'])) q) hf⟩
  self := fun A i s Q E st h => wpAny_pyIter_zip st.1 h
def iZip3G (K : PySem.W.Frag) (ta : TA) : TI := fun σ H R => ta σ H fun vs H1 => ∃ a b c b1 b2 b3 xs ys zs, vs = [.ref a, .ref b, .ref c] ∧ SqG b1 K H1 a xs ∧ SqG b2 K H1 b ys ∧ SqG b3 K H1 c zs ∧ R (Itz3 K b1 b2 b3 a b c) H1
theorem pi_zip3G {X : Cx} {e e2 e3 : Expr} {ta : TA} {p pos tpos : Pos} {elts : List Expr} {kk : Nat} (hg : Gl X "zip") (hm : X.mg "zip" = none) (ha : PA X [e, e2, e3] ta)
    (hs : starEach [e, e2, e3] X.env = (false, eval e X.env) :: starEach [e2, e3] X.env := by rfl) (hpl : (backTo pos (starEach [e2, e3] X.env)).any (·.1) = false := by rfl) :
    PI X (.Tuple elts kk tpos) (.Call (.Name "zip" p) [e, e2, e3] [] pos) (iZip3G X.K ta) := by
  refine ⟨fun pins s σ H R I h => ?_⟩
  refine Call_ (ld_blt I hg hm PyProof.Rows.boot_zip (PyProof.Rows.callWith_type1 (thn (ha.run pos pins s σ H _ I h) fun us s1 ⟨vs, H1, I1, r1, q1⟩ => ?_) hs hpl))
  obtain ⟨a, b, c, b1, b2, b3, xs, ys, zs, ex, hqx, hqy, hqz, q⟩ := q1
  subst ex
  obtain ⟨u1, us1, rfl, ra, r2⟩ : ∃ u us', us = u :: us' ∧ RelV (.ref a) u ∧ Vals [.ref b, .ref c] us' := by
    cases r1 with
    | cons h t => exact ⟨_, _, rfl, h, t⟩
  obtain ⟨u2, u3, rfl, rb, rc⟩ := r2.two
  cases (show u1 = Value.ref a from ra)
  cases (show u2 = Value.ref b from rb)
  cases (show u3 = Value.ref c from rc)
  have fresh6 : ∀ d, d ∈ [s1.heap.objs.size + 5, s1.heap.objs.size + 3, s1.heap.objs.size + 4, s1.heap.objs.size, s1.heap.objs.size + 1, s1.heap.objs.size + 2] → FpOk X pins H1 d := fun d hcm => by
    have hle : s1.heap.objs.size ≤ d := by
      simp only [List.mem_cons, List.mem_singleton, List.not_mem_nil, or_false] at hcm
      omega
    exact I1.fpOk hle (I1.hok.fresh hle)
  obtain ⟨its, rv, p1, l1⟩ := Inv.sqG I1 hqx
  obtain ⟨its2, rv2, p2, l2⟩ := Inv.sqG I1 hqy
  obtain ⟨its3, rv3, p3, l3⟩ := Inv.sqG I1 hqz
  refine zip_begins3 (begins_sq b1 a its.toArray) (begins_sq b2 b its2.toArray) (begins_sq b3 c its3.toArray) p1 p2 p3 fun h' hz hTI hTO g1 g2 g3 hsz hk => wpAny_pyIter_zip hz ?_
  have I2 : L2.Inv X pins σ H1 { s1 with heap := h' } := I1.kept (t' := s1.toks) hk
  exact ⟨s1.heap.objs.size + 5, [s1.heap.objs.size + 5, s1.heap.objs.size + 3, s1.heap.objs.size + 4, s1.heap.objs.size, s1.heap.objs.size + 1, s1.heap.objs.size + 2], _, _, H1, rfl, I2, turn_z3 b1 b2 b3 (sep3 l1 l2 l3) (Nat.ne_of_lt l1) (Nat.ne_of_lt (Nat.lt_succ_of_lt l2)) (Nat.ne_of_lt (Nat.lt_succ_of_lt (Nat.lt_succ_of_lt l3))), ⟨hz, hTI, ⟨_, _, _, hTO⟩, SqIt.new g1, SqIt.new g2, SqIt.new g3⟩, fresh6, q⟩
def zip3L : List PV → List PV → List PV → List PV
  | x :: xs, y :: ys, z :: zs => .tup [x, y, z] :: zip3L xs ys zs
  | _, _, _ => []
theorem zip3L_get : ∀ {xs ys zs : List PV} {i : Nat} {t : PV}, (zip3L xs ys zs)[i]? = some t → ∃ x y z, xs[i]? = some x ∧ ys[i]? = some y ∧ zs[i]? = some z ∧ t = .tup [x, y, z]
  | [], ys, zs, i, t, e => by simp [zip3L] at e
  | x :: xs, [], zs, i, t, e => by simp [zip3L] at e
  | x :: xs, y :: ys, [], i, t, e => by simp [zip3L] at e
  | x :: xs, y :: ys, z :: zs, 0, t, e => by
    simp [zip3L] at e
    exact ⟨x, y, z, by simp, by simp, by simp, e.symm⟩
  | x :: xs, y :: ys, z :: zs, i + 1, t, e => by
    have e : (zip3L xs ys zs)[i]? = some t := by simpa [zip3L] using e
    obtain ⟨x', y', z', h1, h2, h3, h4⟩ := zip3L_get e
    exact ⟨x', y', z', by simpa using h1, by simpa using h2, by simpa using h3, h4⟩
theorem zip3L_len : ∀ (xs ys zs : List PV) (i : Nat), (zip3L xs ys zs).length ≤ i → xs.length ≤ i ∨ ys.length ≤ i ∨ zs.length ≤ i
  | [], ys, zs, i, h => .inl (Nat.zero_le _)
  | x :: xs, [], zs, i, h => .inr (.inl (Nat.zero_le _))
  | x :: xs, y :: ys, [], i, h => .inr (.inr (Nat.zero_le _))
  | x :: xs, y :: ys, z :: zs, 0, h => absurd h (by simp [zip3L])
  | x :: xs, y :: ys, z :: zs, i + 1, h => by
    have h : (zip3L xs ys zs).length + 1 ≤ i + 1 := h
    rcases zip3L_len xs ys zs i (by omega) with q | q | q
    · exact .inl (Nat.succ_le_succ q)
    · exact .inr (.inl (Nat.succ_le_succ q))
    · exact .inr (.inr (Nat.succ_le_succ q))
def iZip3 (a b c : SE) : SI := fun env S => (a env S).bind fun p S1 => (b env S1).bind fun q S2 => (c env S2).bind fun w S3 => match lockS p.2 S3 with
  | some z => match lockS q.2 z.2.2 with
    | some y => match lockS w.2 y.2.2 with
      | some x => .ok (zip3L z.1 y.1 x.1, x.2.1 ++ (y.2.1 ++ z.2.1)) x.2.2
      | none => .no
    | none => .no
  | none => .no
section
variable {G : Gam} {n0 : Nat} {g : Gh} {F : Hp} {r : List Addr} {S : Store} {H : Hp} {X : Cx} {e e2 e3 : Expr} {fe fe2 fe3 : SE} {p pos tpos : Pos} {elts : List Expr} {kk : Nat}
theorem unlock_app : ∀ (l1 l2 : List (Nat × PV)) (S : Store), unlock (l1 ++ l2) S = unlock l2 (unlock l1 S)
  | [], l2, S => rfl
  | c :: l1, l2, S => unlock_app l1 l2 _
theorem si_zip3 (hK : G.K = X.K) (hg : Gl X "zip") (hm : X.mg "zip" = none) (he : PE X e (rdE G n0 fe)) (he2 : PE X e2 (rdE G n0 fe2)) (he3 : PE X e3 (rdE G n0 fe3)) (hs : starEach [e, e2, e3] X.env = (false, eval e X.env) :: starEach [e2, e3] X.env := by rfl) (hs2 : starEach [e2, e3] X.env = (false, eval e2 X.env) :: starEach [e3] X.env := by rfl)
    (hs3 : starEach [e3] X.env = (false, eval e3 X.env) :: starEach [] X.env := by rfl) (hpl : (backTo pos (starEach [e2, e3] X.env)).any (·.1) = false := by rfl) :
    PI X (.Tuple elts kk tpos) (.Call (.Name "zip" p) [e, e2, e3] [] pos) (rdI G n0 (iZip3 fe fe2 fe3)) := by
  refine piI (pi_zip3G hg hm (pa_cons (toV he) (pa_cons (toV he2) (pa_cons (toV he3) pa_nil hs3) hs2) hs) hs hpl) fun σ H T ⟨F, r, env, S, g, s, h⟩ => ?_
  refine stV s cnI h fun p S1 F1 r1 H1 u x1 s1 q1 h1 => ?_
  refine stV s1 cnI h1 fun q S2 F2 r2 H2 w x2 s2 q2 h2 => ?_
  refine stV s2 cnI h2 fun o S3 F3 r3 H3 w3 x3 s3 q3 h3 => ?_
  cases el : lockS p.2 S3 with
  | none => rw [el] at h3; exact h3.elim
  | some z =>
    obtain ⟨xs, ls, S4⟩ := z
    simp only [el] at h3
    cases el2 : lockS q.2 S4 with
    | none => rw [el2] at h3; exact h3.elim
    | some z2 =>
      obtain ⟨ys, ls2, S5⟩ := z2
      simp only [el2] at h3
      cases el3 : lockS o.2 S5 with
      | none => rw [el3] at h3; exact h3.elim
      | some z3 =>
        obtain ⟨zs, ls3, S6⟩ := z3
        simp only [el3] at h3
        obtain ⟨g1, b1, a1, us1, rfl, hd1⟩ := lock_ok s3.hr ((q1.ext x2).ext x3) el
        obtain ⟨g2, b2, a2, us2, rfl, hd2⟩ := lock_ok hd1.hr (q2.ext x3) el2
        obtain ⟨g3, b3, a3, us3, rfl, hd3⟩ := lock_ok hd2.hr q3 el3
        have hpn : GhPin g g3 := fun a o e l => by
          have k1 := hd1.pn a o e l
          have k2 := hd2.pn a o k1.1 k1.2
          exact hd3.pn a o k2.1 k2.2
        have hun : ∀ rp, g.has rp → ∀ F5 r5 S5 H5, HR G n0 (g3.rep rp) F5 r5 S5 H5 → Ext F3 F5 r3 r5 → HR G n0 (g.rep rp) F5 r5 (unlock (ls3 ++ (ls2 ++ ls)) S5) H5 := fun rp hrp F5 r5 S5 H5 h5 x5 => by
          rw [unlock_app, unlock_app]
          exact hd1.un rp hrp F5 r5 _ H5 (hd2.un rp (hd1.pn.has hrp) F5 r5 _ H5 (hd3.un rp (hd2.pn.has (hd1.pn.has hrp)) F5 r5 S5 H5 h5 x5) x5) x5
        refine ⟨a1, a2, a3, b1, b2, b3, us1, us2, us3, rfl, hK ▸ hd1.sq g3 (hd2.le.trans hd3.le) F3 r3 S6 H3 hd3.hr (.refl _ _), hK ▸ hd2.sq g3 hd3.le F3 r3 S6 H3 hd3.hr (.refl _ _), hK ▸ hd3.sq g3 (.refl g3) F3 r3 S6 H3 hd3.hr (.refl _ _), h3 F3 r3 H3 _ g3 ((x1.trans x2).trans x3) ⟨hd3.hr, s3.sl, s3.vr⟩ (fun g5 hg5 F5 r5 S5 H5 h5 x5 => ?_) hpn hun⟩
        have s1' := hd1.sq g5 ((hd2.le.trans hd3.le).trans hg5) F5 r5 S5 H5 h5 x5
        have s2' := hd2.sq g5 (hd3.le.trans hg5) F5 r5 S5 H5 h5 x5
        have s3' := hd3.sq g5 hg5 F5 r5 S5 H5 h5 x5
        rw [← hK]
        refine ⟨fun i x ex => ?_, fun i hi => ⟨us1, us2, us3, s1', s2', s3', by rw [← RVs.length hd1.rv, ← RVs.length hd2.rv, ← RVs.length hd3.rv]; exact zip3L_len xs ys zs i hi⟩⟩
        obtain ⟨x', y', z', ex', ey', ez', rfl⟩ := zip3L_get ex
        obtain ⟨u1, e1, k1⟩ := RVs.get hd1.rv ex'
        obtain ⟨u2, e2, k2⟩ := RVs.get hd2.rv ey'
        obtain ⟨u3, e3, k3⟩ := RVs.get hd3.rv ez'
        refine ⟨⟨us1, us2, us3, u1, u2, u3, s1', s2', s3', e1, e2, e3⟩, fun v H4 hy => ?_⟩
        obtain ⟨T', y1, y2, y3, rfl, hT, rfl, hv1, hv2, hv3⟩ := hy
        have := hv1 us1 s1'
        rw [e1] at this
        cases this
        have := hv2 us2 s2'
        rw [e2] at this
        cases this
        have := hv3 us3 s3'
        rw [e3] at this
        cases this
        exact new_tup (xs := [x', y', z']) (us := [u1, u2, u3]) h5 hT ⟨_, _, rfl, k1.ext x5, _, _, rfl, k2.ext x5, _, [], rfl, k3.ext x5, rfl⟩
end
end PX
set_option Elab.async false
set_option linter.all false
set_option maxRecDepth 100000
set_option maxHeartbeats 1000000
namespace PX
open PySem PySem.Spec PyProof.Rows L2 ZG
section
variable {G : Gam} {n0 : Nat} {g : Gh} {F : Hp} {r : List Addr} {S : Store} {H : Hp}
variable {X : Cx} {tg e : Expr} {fe : SE} {apos cpos tpos : Pos} {elts : List Expr} {kk : Nat}
theorem zip_len {ks : List Key} {us : List V} (hl : ks.length = us.length) : (ks.zip us).length = ks.length := by
  rw [List.length_zip, hl, Nat.min_self]
end
end PX
set_option Elab.async false
set_option linter.all false
set_option maxRecDepth 100000
set_option maxHeartbeats 1000000
namespace PX
open PySem PySem.Spec PyProof.Rows L2 ZG
end PX
set_option Elab.async false
set_option linter.all false
set_option maxRecDepth 100000
set_option maxHeartbeats 1000000
namespace PX
open PySem PySem.Spec PyProof.Rows L2
def evP : List (SE × SE) → Env → Store → R (List (PV × PV))
  | [], _, S => .ok [] S
  | p :: ps, env, S => (p.1 env S).bind fun k S1 => (p.2 env S1).bind fun v S2 => (evP ps env S2).bind fun r S3 => .ok ((k.2, v.2) :: r) S3
section
variable {G : Gam} {n0 : Nat} {g : Gh} {F : Hp} {r : List Addr} {S : Store} {H : Hp}
def OkR {α : Type} (P : α → Store → Prop) (z : R α) : Prop := match z with
  | .ok a S' => P a S'
  | _ => False
theorem cnR {α : Type} {P : α → Store → Prop} : Cn (OkR P) := ⟨fun h => h, fun _ _ _ h => h⟩
def KvP (G : Gam) (n0 : Nat) (g : Gh) (F : Hp) (r : List Addr) (env : Env) (σ : L2.St) (K : List (V × V) → Hp → Prop) (kv : List (PV × PV)) (S' : Store) : Prop :=
  ∀ F' r' H' us, Ext F F' r r' → Sg G n0 g F' r' env σ S' H' → RVs G F' r' (kv.map Prod.fst) (us.map Prod.fst) → RVs G F' r' (kv.map Prod.snd) (us.map Prod.snd) → K us H'
theorem pairs_core : ∀ (ps : List (SE × SE)) {g : Gh} {F : Hp} {r : List Addr} {env : Env} {σ : L2.St} {S : Store} {H : Hp} (s : Sg G n0 g F r env σ S H) (K : List (V × V) → Hp → Prop),
    OkR (KvP G n0 g F r env σ K) (evP ps env S) → tPairs (ps.map fun p => (rdV G n0 p.1, rdV G n0 p.2)) σ H K
  | [], g, F, r, env, σ, S, H, s, K, h => h F r H [] (.refl _ _) s rfl rfl
  | p :: ps, g, F, r, env, σ, S, H, s, K, h => by
    have h : OkR (KvP G n0 g F r env σ K) ((p.1 env S).bind fun k S1 => (p.2 env S1).bind fun v S2 => (evP ps env S2).bind fun r S3 => R.ok ((k.2, v.2) :: r) S3) := h
    refine stV s cnR h fun k S1 F1 r1 H1 u x1 s1 q1 h1 => ?_
    refine stV s1 cnR h1 fun v S2 F2 r2 H2 w x2 s2 q2 h2 => ?_
    refine pairs_core ps s2 _ ?_
    cases e : evP ps env S2 with
    | no => rw [e] at h2; exact h2
    | ex => rw [e] at h2; exact h2
    | ok kv S3 =>
      rw [e] at h2
      exact fun F3 r3 H3 us x3 s3 q3 q4 => h2 F3 r3 H3 ((u, w) :: us) ((x1.trans x2).trans x3) s3 ⟨_, _, rfl, (q1.ext x2).ext x3, q3⟩ ⟨_, _, rfl, q2.ext x3, q4⟩
variable {X : Cx} {pos : Pos} {keys : List (Option Expr)} {values : List Expr}
end
end PX
set_option Elab.async false
set_option linter.all false
set_option maxRecDepth 100000
set_option maxHeartbeats 1000000
namespace L2
open PySem PySem.Spec PyProof.Rows
def tDisp1T (tk tv : TE) : TE := fun σ H Q => ∀ p, H p = none → tPairs [(tk, tv)] σ (upd H p (.dT [])) fun ps H2 => ∃ (y : V) (key : List Key) (b : Addr), ps = [(V.ref b, y)] ∧ H2 p = some (.dT []) ∧ H2 b = some (.tup (key.map kV)) ∧ Q (.ref p) (upd H2 p (.dT [(key, y)]))
theorem pe_disp1T {X : Cx} {pos : Pos} {k v : Expr} {tk tv : TE} (hu : X.A.units + 1 < cLine) (hk : PE X k tk) (hv : PE X v tv) : PE X (.Dict [some k] [v] pos) (tDisp1T tk tv) := by
  refine ⟨fun pins s σ H Q I q => ?_⟩
  have hn := I.hok.fresh (Nat.le_refl s.heap.objs.size)
  have I1 := I.laid (a := s.heap.objs.size) (o := .dT []) (h' := s.heap.push { cls := .type "dict", data := .dict #[] }) (t' := s.toks) (fun _ _ q => Heap.get?_push_of_some _ q) (Nat.le_refl _) (dt_empty s.heap I.big)
  refine wpAny_Dict_any rfl rfl (by simp) (by simp) (thn ((pps_cons hk hv pps_nil).run pins _ σ _ _ I1 (q _ hn)) fun ws s2 ⟨ps, H2, I2, rel, y, key, b, ep, e, eb, q2⟩ => ?_)
  subst ep
  cases rel with
  | @cons _ p _ _ h t =>
    cases t
    obtain ⟨u, w2⟩ := p
    obtain ⟨h1, h2⟩ := h
    obtain rfl : u = Value.ref b := h1
    obtain ⟨z, hd, xs, rel, dd⟩ := dt_of I2.hok e
    cases rel
    unfold storeAll
    rw [List.forIn_cons]
    refine wpAny_bind (wpAny_bind (wpAny_dictSet_heap (hsz := Nat.zero_le _) (knd := tupleKind (mixKind X.prog X.w)) (show X.A.units < cLine by omega) (key_of I2.hok eb) dd fun h' dd' hs => wpAny_pure ?_))
    show wpAny (model X.prog X.w) X.A (forIn ([] : List (Value × Value)) PUnit.unit _) _ _ _
    rw [List.forIn_nil]
    refine wpAny_pure ?_
    obtain ⟨q, es, ep, hq, g2, g3, g4, _, g5⟩ := dd'
    refine ⟨.ref s.heap.objs.size, _, d_write I2 (by rw [e]; exact True.intro) hs ⟨q, hq⟩ (ob := .dT [(key, y)]) ⟨?_, hd, _, ?_, q, es, ep, hq, g2, g3, g4, g5⟩, rfl, q2⟩
    · show 1 ≤ sizeLine; rw [sizeLine_eq]; decide
    · refine .cons ⟨rfl, ?_, h2⟩ .nil
      rw [upd_ne (ne_of eb e (fun z => nomatch z))]
      exact eb
end L2
namespace PX
open PySem PySem.Spec PyProof.Rows L2
def eDsp1T (k v : SE) : SE := fun env S => (evP [(k, v)] env S).bind fun kv S1 => match kv with
  | [(.tup xs, y)] => match keysOf xs with
    | some ks => .ok (true, .dct (.t [ks]) [y]) S1
    | none => .no
  | _ => .no
section
variable {G : Gam} {n0 : Nat} {X : Cx} {pos : Pos} {k v : Expr} {fk fv : SE}
theorem se_disp1T (hu : X.A.units + 1 < cLine) (hk : PE X k (rdV G n0 fk)) (hv : PE X v (rdV G n0 fv)) : PE X (.Dict [some k] [v] pos) (rdE G n0 (eDsp1T fk fv)) := by
  refine peI (pe_disp1T hu hk hv) fun σ H Q ⟨F, r, env, S, g, s, hh⟩ p hp => ?_
  have hgp : g.pn p = none := s.hr.nop hp
  refine pairs_core [(fk, fv)] (g := g.pin p (.dT [])) ⟨s.hr.pinNew hp, s.sl, s.vr⟩ _ ?_
  have hh : PoE G n0 g F r env σ ((evP [(fk, fv)] env S).bind fun kv S1 => match kv with
    | [(.tup xs, y)] => match keysOf xs with
      | some ks => .ok (true, .dct (.t [ks]) [y]) S1
      | none => .no
    | _ => .no) Q := hh
  cases e : evP [(fk, fv)] env S with
  | no => rw [e] at hh; exact hh
  | ex => rw [e] at hh; exact hh
  | ok kv S1 =>
    rw [e, R.bind_ok] at hh
    intro F1 r1 H1 us x1 s1 q1 q2
    split at hh
    · rename_i xs y
      cases ek : keysOf xs with
      | none => rw [ek] at hh; exact hh.elim
      | some ks =>
        rw [ek] at hh
        obtain ⟨u, ur, e1, q1a, q1b⟩ := q1
        have e1b : ur = [] := q1b
        subst e1b
        obtain ⟨w, wr, e2, q2a, q2b⟩ := q2
        have e2b : wr = [] := q2b
        subst e2b
        obtain ⟨p1, rfl⟩ : ∃ p1, us = [p1] := by
          match us, e1 with
          | [p1], _ => exact ⟨p1, rfl⟩
        obtain ⟨pu, pw⟩ := p1
        have eu : pu = u := (List.cons.inj e1).1
        have ew : pw = w := (List.cons.inj e2).1
        subst eu ew
        obtain ⟨b, ts, rfl, eb, ev⟩ := view_tupH s1.hr q1a rfl
        rw [keysOf_ok ev ek] at eb
        refine ⟨pw, ks, b, rfl, (s1.hr.pin _ _ pin_at).1, eb, ?_⟩
        have hpr := pin_out s1.hr
        have hpF : F1 p = none := noFz (s1.hr.pin _ _ pin_at).2.1 rfl
        have h2 := (s1.hr.pinSet (ho' := .dT [(ks, pw)])).unpin hgp
        exact hh F1 r1 _ (.ref p) x1 ⟨h2, s1.sl, s1.vr⟩ ⟨p, _, rfl, upd_same, hpF, hpr, hgp, ⟨[pw], ⟨rfl, rfl⟩, ⟨pw, [], rfl, q2a, rfl⟩⟩, rfl⟩
    · exact hh.elim
end
end PX
set_option Elab.async false
set_option linter.all false
set_option maxRecDepth 100000
set_option maxHeartbeats 1000000
namespace PX
open PySem PySem.Spec PyProof.Rows L2
def gTpB (ts : List Tg) : Tg := fun v env S => match deref S v with
  | some (.tup xs) => gTps ts xs env S
  | some (.lst xs) => gTps ts xs env S
  | _ => none
def gBoth (g1 g2 : TG) : TG := fun v σ H Q => g1 v σ H Q ∨ g2 v σ H Q
section
variable {X : Cx} {G : Gam}
theorem pg_both {t : Expr} {g1 g2 : TG} (h1 : PG X t g1) (h2 : PG X t g2) : PG X t (gBoth g1 g2) := ⟨fun pins s σ H v u Q i r h => h.elim (fun h => h1.run pins s σ H v u Q i r h) (fun h => h2.run pins s σ H v u Q i r h)⟩
theorem pg_tupB {pos : Pos} {es : List Expr} {k : Nat} {t : TGs} {n : Nat} (hc : X.calm = true) (hg : PGs X es t) (hn : (assignEach es X.env).length = n := by rfl) (hs : List.findIdx? (fun x => x.fst) (assignEach es X.env) = none := by rfl) : PG X (.Tuple es k pos) (gBoth (gTup X.K n t) (gUnl X.K n t)) :=
  pg_both (pg_tup hc hg hn hs) (pg_unl hc hg hn hs)
theorem tg_tpB {ts : List Tg} {gs : TGs} {n : Nat} (h : TgsOk G ts gs) (hn : ts.length = n) : TgOk G (gTpB ts) (gBoth (gTup G.K n gs) (gUnl G.K n gs)) := fun n0 g F r env σ S H v u env' Q s q e k => by
  unfold gTpB at e
  split at e
  · rename_i xs e'
    obtain ⟨a, us, rfl, h1, h2⟩ := view_tup s.hr q e'
    exact .inl ⟨a, us, rfl, h1, by rw [← RVs.length h2, gTps_len e, hn], h n0 g F r env σ S H xs us env' Q s h2 e k⟩
  · rename_i xs e'
    obtain ⟨a, us, rfl, h1, h2⟩ := view_lst s.hr q e'
    exact .inr ⟨a, us, rfl, .inl h1, by rw [← RVs.length h2, gTps_len e, hn], h n0 g F r env σ S H xs us env' Q s h2 e k⟩
  · cases e
end
end PX
set_option Elab.async false
set_option linter.all false
set_option maxRecDepth 100000
set_option maxHeartbeats 4000000
namespace L2
open PySem PySem.Spec PyProof.Rows PySem.W
end L2
namespace PX
open PySem PySem.Spec PyProof.Rows L2
end PX
set_option Elab.async false
set_option linter.all false
set_option maxRecDepth 100000
set_option maxHeartbeats 1000000
namespace PX
open PySem PySem.Spec PyProof.Rows L2
end PX
set_option Elab.async false
set_option linter.all false
set_option maxRecDepth 100000
set_option maxHeartbeats 2000000
namespace PySem.SeqAt
open AutoSeq1 (wpAny_loadPart')
open MeetsSeq MeetsSeq2 MeetsSeq3 SeqRoads2
end PySem.SeqAt
namespace PySem.W
open PySem PySem.Calls PyProof.Rows PyProof.V PySem.Spec PySem.SeqAt
end PySem.W
namespace L2
open PySem PySem.Spec PyProof.Rows PySem.SeqAt
end L2
set_option Elab.async false
set_option linter.all false
set_option maxRecDepth 100000
set_option maxHeartbeats 2000000
namespace PX
open PySem PySem.Spec PyProof.Rows L2
end PX
namespace PX
end PX
set_option Elab.async false
set_option linter.all false
set_option maxRecDepth 100000
set_option maxHeartbeats 4000000
namespace L2
open PySem PySem.Spec PyProof.Rows
end L2
set_option Elab.async false
set_option linter.all false
set_option maxRecDepth 100000
set_option maxHeartbeats 2000000
namespace PX
open PySem PySem.Spec PyProof.Rows L2 SrtO
end PX
set_option Elab.async false
set_option linter.all false
set_option maxRecDepth 100000
set_option maxHeartbeats 2000000
namespace PX
open PySem PySem.Spec PyProof.Rows L2
end PX
set_option Elab.async false
set_option linter.all false
set_option maxRecDepth 100000
set_option maxHeartbeats 1000000
namespace PX
open PySem PySem.Spec PyProof.Rows L2 ZG
theorem PI.or {X : Cx} {tg e : Expr} {t1 t2 : TI} (h1 : PI X tg e t1) (h2 : PI X tg e t2) : PI X tg e fun σ H R => t1 σ H R ∨ t2 σ H R :=
  ⟨fun pins s σ H R I q => q.elim (h1.run pins s σ H R I) (h2.run pins s σ H R I)⟩
end PX
set_option Elab.async false
set_option linter.all false
set_option maxRecDepth 100000
set_option maxHeartbeats 1000000
namespace PX
open PySem
section
variable (env : Env) (S : Store)
@[simp] theorem q_lit (v : PV) : eLit v env S = .ok (false, v) S := (rfl)
theorem q_var (i : Nat) : eVar i env S = match env[i]? with
  | some (some v) => .ok (false, v) S
  | _ => .no := (rfl)
@[simp] theorem q_un (o : Op1) (a : SE) : eUn o a env S = (a env S).bind fun p S1 => ofO (o p.2 S1) S1 := (rfl)
@[simp] theorem q_bin (o : Op2) (a b : SE) : eBin o a b env S = (a env S).bind fun p S1 => (b env S1).bind fun q S2 => ofO (o p.2 q.2 S2) S2 := (rfl)
@[simp] theorem q_nil : aNil env S = .ok [] S := (rfl)
@[simp] theorem q_cons (a : SE) (r : SA) : aCons a r env S = (a env S).bind fun p S1 => (r env S1).bind fun q S2 => .ok (p.2 :: q) S2 := (rfl)
@[simp] theorem q_arg (o : OpN) (a : SA) : eArg o a env S = (a env S).bind fun p S1 => ofO (o p S1) S1 := (rfl)
@[simp] theorem q_tup (a : SA) : eTup a env S = (a env S).bind fun p S1 => if small p.length then .ok (false, .tup p) S1 else .no := (rfl)
@[simp] theorem q_lst (a : SA) : eLst a env S = (a env S).bind fun p S1 => if small p.length then .ok (true, .lst p) S1 else .no := (rfl)
@[simp] theorem q_tru (a : SE) : tTru a env S = (a env S).bind fun p S1 => match truth S1 p.2 with
  | some b => .ok b S1
  | none => .no := (rfl)
@[simp] theorem q_tbl (a : SE) : tBl a env S = (a env S).bind fun p S1 => match p.2 with
  | .bl b => .ok b S1
  | _ => .no := (rfl)
@[simp] theorem q_tno (a : ST) : tNo a env S = (a env S).bind fun b S1 => .ok (!b) S1 := (rfl)
@[simp] theorem q_tan (a b : ST) : tAn a b env S = (a env S).bind fun c S1 => if c = true then b env S1 else .ok false S1 := (rfl)
@[simp] theorem q_tor (a b : ST) : tOr a b env S = (a env S).bind fun c S1 => if c = true then .ok true S1 else b env S1 := (rfl)
@[simp] theorem q_ean (a b : SE) : eAn a b env S = (a env S).bind fun p S1 => match truth S1 p.2 with
  | some true => b env S1
  | some false => .ok (false, p.2) S1
  | none => .no := (rfl)
@[simp] theorem q_eor (a b : SE) : eOr a b env S = (a env S).bind fun p S1 => match truth S1 p.2 with
  | some true => .ok (false, p.2) S1
  | some false => b env S1
  | none => .no := (rfl)
@[simp] theorem q_not (a : SE) : eNot a env S = (a env S).bind fun p S1 => match truth S1 p.2 with
  | some b => .ok (false, .bl (!b)) S1
  | none => .no := (rfl)
@[simp] theorem q_if (c : ST) (a b : SE) : eIf c a b env S = (c env S).bind fun t S1 => if t = true then a env S1 else b env S1 := (rfl)
@[simp] theorem q_ch (o o' : Op2) (a b c : SE) : eCh o o' a b c env S = (a env S).bind fun p S1 => (b env S1).bind fun q S2 => match o p.2 q.2 S2 with
  | some (false, .bl true) => (c env S2).bind fun z S3 => ofO (o' q.2 z.2 S3) S3
  | some (false, .bl false) => .ok (false, .bl false) S2
  | _ => .no := (rfl)
@[simp] theorem q_new (a : SE) : eNew a env S = (a env S).bind fun p S1 => match p.1 with
  | true => .ok (false, .ref S1.length) (S1 ++ [p.2])
  | false => .ok p S1 := (rfl)
@[simp] theorem q_scons (a b : SS) : sCons a b env S = (a env S).then b := (rfl)
@[simp] theorem q_snil : sNil env S = .nx env S := (rfl)
@[simp] theorem q_sexp (a : SE) : sExp a env S = (a env S).go fun _ S1 => .nx env S1 := (rfl)
@[simp] theorem q_sret (a : SE) : sRet a env S = (a env S).go fun p S1 => .rt p.2 S1 := (rfl)
@[simp] theorem q_sif (c : ST) (a b : SS) : sIf c a b env S = (c env S).go fun t S1 => if t = true then a env S1 else b env S1 := (rfl)
@[simp] theorem q_sasg (t : Tg) (a : SE) : sAsg t a env S = (a env S).go fun p S1 => match t p.2 env S1 with
  | some env' => .nx env' S1
  | none => .no := (rfl)
@[simp] theorem q_gnm (i : Nat) (v : PV) : gNm i v env S = some (env.set i (some v)) := (rfl)
@[simp] theorem q_spar (is : List Nat) (a : SA) : sPar is a env S = (a env S).go fun vs S1 => match gTps (is.map gNm) vs env S1 with
  | some env' => .nx env' S1
  | none => .no := (rfl)
@[simp] theorem q_len (cf : CF) (tb : List (Nat × Nat)) (a : SE) : eLen cf tb a env S = (a env S).bind fun p S1 => match ownOf tb S1 p.2 with
  | some f => (callV cf f [p.2] S1).bind lenI
  | none => ofO (bLen [p.2] S1) S1 := (rfl)
@[simp] theorem q_eq (cf : CF) (tb : List (Nat × Nat)) (tys : List TyN) (a b : SE) : eEq cf tb tys a b env S = (a env S).bind fun p S1 => (b env S1).bind fun q S2 => match ownOf tb S2 p.2 with
  | some f => if okTy tys S2 q.2 then callV cf f [p.2, q.2] S2 else .no
  | none => ofO (oEq p.2 q.2 S2) S2 := (rfl)
@[simp] theorem q_ne (cf : CF) (tb : List (Nat × Nat)) (tys : List TyN) (a b : SE) : eNe cf tb tys a b env S = (a env S).bind fun p S1 => (b env S1).bind fun q S2 => match ownOf tb S2 p.2 with
  | some f => if okTy tys S2 q.2 then (callV cf f [p.2, q.2] S2).bind notI else .no
  | none => ofO (oNe p.2 q.2 S2) S2 := (rfl)
@[simp] theorem q_ix (cf : CF) (tb : List (Nat × Nat)) (a b : SE) : eIx cf tb a b env S = (a env S).bind fun p S1 => (b env S1).bind fun q S2 => match ownOf tb S2 p.2 with
  | some f => callV cf f [p.2, q.2] S2
  | none => match dIx p.2 q.2 S2 with
    | some z => .ok z S2
    | none => ofO (oIx p.2 q.2 S2) S2 := (rfl)
@[simp] theorem q_call (cf : CF) (np f : Nat) (a : SA) : eCall cf np f a env S = (a env S).bind fun args S1 => if args.length = np then callV cf f args S1 else .no := (rfl)
@[simp] theorem q_sl (a : SE) (lo hi : SO) : eSl a lo hi env S = (a env S).bind fun p S1 => (lo env S1).bind fun l S2 => (hi env S2).bind fun u S3 => ofO (slP l u p.2 S3) S3 := (rfl)
@[simp] theorem q_pno : pNo env S = .ok none S := (rfl)
@[simp] theorem q_pso (a : SE) : pSo a env S = (a env S).bind fun p S1 => match p.2 with
  | .int i => .ok (some i) S1
  | _ => .no := (rfl)
@[simp] theorem q_rev (a : SE) : eRev a env S = (a env S).bind fun p S1 => match lstOf S1 p.2 with
  | some xs => .ok (true, .lst xs.reverse) S1
  | none => .no := (rfl)
@[simp] theorem q_fld (cs : List Nat) (f : Nat) (a : SE) : eFld cs f a env S = (a env S).bind fun p S1 => ofO ((fldOf cs f S1 p.2).map fun w => (false, w)) S1 := (rfl)
@[simp] theorem q_isi (tb : List (TyN × Bool)) (a : SE) : eIsi tb a env S = (a env S).bind fun p S1 => ofO (match tyN S1 p.2 with
  | some t => (tb.lookup t).map fun b => (false, .bl b)
  | none => none) S1 := (rfl)
end
@[simp] theorem q_ofO_some (z : Bool × PV) (S : Store) : ofO (some z) S = .ok z S := (rfl)
@[simp] theorem q_ofO_none (S : Store) : ofO none S = .no := (rfl)
@[simp] theorem d_int (S : Store) (i : Int) : deref S (.int i) = some (.int i) := (rfl)
@[simp] theorem d_bl (S : Store) (i : Bool) : deref S (.bl i) = some (.bl i) := (rfl)
@[simp] theorem d_lst (S : Store) (xs : List PV) : deref S (.lst xs) = some (.lst xs) := (rfl)
@[simp] theorem d_tup (S : Store) (xs : List PV) : deref S (.tup xs) = some (.tup xs) := (rfl)
@[simp] theorem d_ins (S : Store) (c : Nat) (ns : List Nat) (xs : List PV) : deref S (.ins c ns xs) = some (.ins c ns xs) := (rfl)
@[simp] theorem d_dct (S : Store) (ks : DKs) (xs : List PV) : deref S (.dct ks xs) = some (.dct ks xs) := (rfl)
@[simp] theorem d_ref (S : Store) (i : Nat) : deref S (.ref i) = match S[i]? with
  | some o => some (unl o)
  | none => none := rfl
def fin : RS → R PV
  | .rt v S => .ok v S
  | .nx _ S => .ok .non S
  | .ex c p S => .ex c p S
  | _ => .no
@[simp] theorem fin_rt (v : PV) (S : Store) : fin (.rt v S) = .ok v S := (rfl)
@[simp] theorem fin_nx (e : Env) (S : Store) : fin (.nx e S) = .ok .non S := (rfl)
@[simp] theorem fin_no : fin .no = .no := (rfl)
theorem call_succ {T : Nat → Option FnB} {n f : Nat} {b : FnB} {args : List PV} {n0 : Nat} {S : Store} (h : T f = some b) (hl : args.length = b.np) : callF T (n + 1) f args n0 S = fin (b.body (callF T n) n0 (args.map some ++ List.replicate (b.nl - b.np) none) S) := by
  show (match T f with
    | some b => runB b (callF T n) args n0 S
    | none => R.no) = _
  rw [h]
  show runB b (callF T n) args n0 S = _
  unfold runB
  rw [if_pos hl]
  cases b.body (callF T n) n0 (args.map some ++ List.replicate (b.nl - b.np) none) S <;> rfl
theorem lk_cons (t a : TyN) (b : Bool) (tb : List (TyN × Bool)) : ((a, b) :: tb).lookup t = if t = a then some b else tb.lookup t := by
  rw [List.lookup_cons]
  by_cases h : t = a
  · rw [h, beq_self_eq_true, if_pos rfl]
  · rw [beq_false_of_ne h, if_neg h]
theorem callV_same {cf : CF} {f : Nat} {args : List PV} {S S' : Store} {v : PV} (h : cf f args S.length S = .ok v S') (hl : S'.length = S.length) : callV cf f args S = .ok (false, v) S' := by
  unfold callV
  rw [h]
  show norm S.length v S' = _
  unfold norm
  rw [if_pos hl]
end PX
namespace PX
open PySem
theorem intsOf_map (ns : List Int) : intsOf (ns.map .int) = some ns := by
  induction ns with
  | nil => rfl
  | cons c cs ih =>
    show (intsOf (cs.map .int)).map (c :: ·) = _
    rw [ih]
    rfl
theorem toDL_ints (S : Store) (k : Nat) (ns : List Int) : toDL (toD S (k + 1)) (ns.map .int) = some (ns.map .int) := by
  induction ns with
  | nil => rfl
  | cons c cs ih =>
    show (match toD S (k + 1) (.int c) with
      | some d => match toDL (toD S (k + 1)) (cs.map .int) with
        | some ds => some (d :: ds)
        | none => none
      | none => none) = _
    rw [ih]
    rfl
theorem eqv_ints : ∀ a b : List Int, PyData.eqvAll (a.map .int) (b.map .int) = decide (a = b) := by
  intro a
  induction a with
  | nil =>
    intro b
    cases b with
    | nil => rfl
    | cons y ys => rfl
  | cons x xs ih =>
    intro b
    cases b with
    | nil => rfl
    | cons y ys =>
      show (PyData.eqv (.int x) (.int y) && PyData.eqvAll (xs.map .int) (ys.map .int)) = _
      rw [ih]
      show ((x == y) && decide (xs = ys)) = _
      by_cases h : x = y
      · by_cases h2 : xs = ys
        · simp [h, h2]
        · simp [h, h2]
      · simp [h]
theorem toD_lst (S : Store) (k : Nat) (ns : List Int) : toD S (k + 2) (.lst (ns.map .int)) = some (.list (ns.map .int)) := by
  show (toDL (toD S (k + 1)) (ns.map .int)).map PyData.list = _
  rw [toDL_ints]
  rfl
theorem toD_tup (S : Store) (k : Nat) (ns : List Int) : toD S (k + 2) (.tup (ns.map .int)) = some (.tuple (ns.map .int)) := by
  show (toDL (toD S (k + 1)) (ns.map .int)).map PyData.tuple = _
  rw [toDL_ints]
  rfl
theorem eqD_lst (S : Store) (a b : List Int) : eqD S (.lst (a.map .int)) (.lst (b.map .int)) = some (decide (a = b)) := by
  unfold eqD
  rw [toD_lst S 4, toD_lst S 4]
  exact congrArg some (eqv_ints a b)
theorem eqD_tup (S : Store) (a b : List Int) : eqD S (.tup (a.map .int)) (.tup (b.map .int)) = some (decide (a = b)) := by
  unfold eqD
  rw [toD_tup S 4, toD_tup S 4]
  exact congrArg some (eqv_ints a b)
theorem eqD_int (S : Store) (a b : Int) : eqD S (.int a) (.int b) = some (decide (a = b)) := by
  show some (a == b) = _
  by_cases h : a = b
  · simp [h]
  · simp [h]
theorem eqD_bl (S : Store) (a b : Bool) : eqD S (.bl a) (.bl b) = some (decide (a = b)) := by
  cases a <;> cases b <;> rfl
theorem ownOf_lst (tb : List (Nat × Nat)) (S : Store) (xs : List PV) : ownOf tb S (.lst xs) = none := (rfl)
theorem dIx_lst (S : Store) (xs : List PV) (y : PV) : dIx (.lst xs) y S = none := (rfl)
theorem cut_all (xs : List PV) (h : xs.length ≤ 63) : cutP xs none (some 63) = xs := by
  show (xs.drop 0).take (min 63 xs.length - 0) = xs
  rw [List.drop_zero, Nat.min_eq_right h, Nat.sub_zero, List.take_length]
theorem oIx_lst (S : Store) (ns : List Int) (i : Int) (h0 : 0 ≤ i) (h1 : i < ns.length) : ∃ c, oIx (.lst (ns.map .int)) (.int i) S = some (false, .int c) ∧ ns[i.toNat]? = some c := by
  have hl : i.toNat < ns.length := by omega
  refine ⟨ns[i.toNat], ?_, List.getElem?_eq_getElem hl⟩
  show (match itemsOf S (.lst (ns.map .int)) with
    | some xs => match ixP xs.length i with
      | some j => match xs[j]? with
        | some v => some (false, v)
        | none => none
      | none => none
    | none => none) = _
  have e1 : itemsOf S (.lst (ns.map .int)) = some (ns.map .int) := rfl
  have e2 : ixP (ns.map PV.int).length i = some i.toNat := by
    unfold ixP
    rw [if_pos h0, if_pos (by rw [List.length_map]; exact h1)]
  have e3 : (ns.map PV.int)[i.toNat]? = some (.int ns[i.toNat]) := by
    rw [List.getElem?_map, List.getElem?_eq_getElem hl]
    rfl
  simp only [e1, e2, e3]
theorem mulOk_l {i j : Int} (h1 : -18446744073709551616 < i) (h2 : i < 18446744073709551616) : mulOk i j = true := by
  unfold mulOk
  simp [h1, h2]
theorem mulOk_r {i j : Int} (h1 : -18446744073709551616 < j) (h2 : j < 18446744073709551616) : mulOk i j = true := by
  unfold mulOk
  simp [h1, h2]
theorem rep_int (i j : Int) (S : Store) (h : mulOk i j = true) : oRep (.int i) (.int j) S = some (false, .int (i * j)) := by
  show (if mulOk i j then some (false, PV.int (i * j)) else none) = _
  rw [if_pos h]
theorem rep_l (i j : Int) (S : Store) (h1 : -18446744073709551616 < i) (h2 : i < 18446744073709551616) : oRep (.int i) (.int j) S = some (false, .int (i * j)) := rep_int i j S (mulOk_l h1 h2)
theorem rep_r (i j : Int) (S : Store) (h1 : -18446744073709551616 < j) (h2 : j < 18446744073709551616) : oRep (.int i) (.int j) S = some (false, .int (i * j)) := rep_int i j S (mulOk_r h1 h2)
theorem rep_m (a j : Int) (S : Store) : oRep (.int (a % 2147483647)) (.int j) S = some (false, .int (a % 2147483647 * j)) := rep_l _ _ S (by omega) (by omega)
theorem cat_int (i j : Int) (S : Store) : oCat (.int i) (.int j) S = some (false, .int (i + j)) := (rfl)
theorem mod_int (i j : Int) (S : Store) (h : 0 < j) : oMod (.int i) (.int j) S = some (false, .int (i % j)) := by
  show (if 0 < j then some (false, PV.int (i % j)) else none) = _
  rw [if_pos h]
theorem div_int (i j : Int) (S : Store) (h : 0 < j) (h2 : j < 1073741824) : oDiv (.int i) (.int j) S = some (false, .int (i / j)) := by
  show (if 0 < j ∧ j < 1073741824 then some (false, PV.int (i / j)) else none) = _
  rw [if_pos ⟨h, h2⟩]
theorem bInt_int (i : Int) (S : Store) : bInt [.int i] S = some (false, .int i) := (rfl)
theorem bLen_lst (xs : List PV) (S : Store) : bLen [.lst xs] S = some (false, .int xs.length) := (rfl)
theorem bLen_tup (xs : List PV) (S : Store) : bLen [.tup xs] S = some (false, .int xs.length) := (rfl)
theorem bSum_lst (ns : List Int) (S : Store) : bSum [.lst (ns.map .int)] S = some (false, .int ns.sum) := by
  show (intsOf (ns.map .int)).map _ = _
  rw [intsOf_map]
  rfl
theorem bSum_tup (ns : List Int) (S : Store) : bSum [.tup (ns.map .int)] S = some (false, .int ns.sum) := by
  show (intsOf (ns.map .int)).map _ = _
  rw [intsOf_map]
  rfl
end PX
namespace PX
open PySem
section
variable (env : Env) (S : Store)
@[simp] theorem q_sfor (i : SI) (t : Tg) (b : SS) : sFor i t b env S = (i env S).go fun p S1 => (forR t b p.1 env S1).unl p.2 := (rfl)
@[simp] theorem q_rg1 (a : SE) : iRg1 a env S = (a env S).bind fun p S1 => match p.2 with
  | .int j => if okRg j then .ok (rngL 0 j.toNat, []) S1 else .no
  | _ => .no := (rfl)
@[simp] theorem q_lm (f : PV → PV → Store → Option Store) (o a : SE) : eLm f o a env S = (o env S).bind fun p S1 => if isL S1 p.2 then (a env S1).bind fun q S2 => match f p.2 q.2 S2 with
    | some S3 => .ok (false, .non) S3
    | none => .no
  else .no := (rfl)
@[simp] theorem q_forN (t : Tg) (b : SS) : forR t b [] env S = .nx env S := (rfl)
theorem q_forC (t : Tg) (b : SS) (x : PV) (xs : List PV) : forR t b (x :: xs) env S = match t x env S with
    | none => .no
    | some env' => match b env' S with
      | .nx e S' => forR t b xs e S'
      | .ct e S' => forR t b xs e S'
      | .bk e S' => .nx e S'
      | z => z := (rfl)
@[simp] theorem q_unl0 (z : RS) : z.unl [] = z := by cases z <;> rfl
end
end PX
namespace PX
open PySem
theorem frzL_ints (n0 t : Nat) (S : Store) (k : Nat) (ns : List Int) : frzL (frz n0 t S (k + 1)) (ns.map .int) = some (ns.map .int) := by
  induction ns with
  | nil => rfl
  | cons c cs ih =>
    show (match frz n0 t S (k + 1) (.int c) with
      | some w => match frzL (frz n0 t S (k + 1)) (cs.map .int) with
        | some ws => some (w :: ws)
        | none => none
      | none => none) = _
    rw [ih]
    rfl
end PX
namespace PX
open PySem
theorem compR_map {α : Type} {t : Tg} {c : ST} {e : SE} {env : Env} {S : Store} (g f : α → PV) (p : α → Bool) (en : α → Env) : ∀ (l : List α), (∀ x ∈ l, t (g x) env S = some (en x)) → (∀ x ∈ l, c (en x) S = .ok (p x) S) → (∀ x ∈ l, p x = true → ∃ b, e (en x) S = .ok (b, f x) S) →
    ∀ acc : List PV, acc.length + l.length ≤ 100000 → compR t c e (l.map g) env acc S = .ok (acc ++ (l.filter p).map f) S
  | [], _, _, _, acc, _ => by simp [compR]
  | x :: l, ht, hc, he, acc, hl => by
    have ih := compR_map g f p en l (fun y hy => ht y (List.mem_cons_of_mem _ hy)) (fun y hy => hc y (List.mem_cons_of_mem _ hy)) (fun y hy => he y (List.mem_cons_of_mem _ hy))
    simp only [List.length_cons] at hl
    show (match t (g x) env S with
      | none => R.no
      | some env' => (c env' S).bind fun b S1 => if b = true then (e env' S1).bind fun q S2 => if small acc.length then compR t c e (l.map g) env (acc ++ [q.2]) S2 else .no
        else compR t c e (l.map g) env acc S1) = _
    rw [ht x List.mem_cons_self]
    simp only [hc x List.mem_cons_self, R.bind_ok]
    cases hp : p x with
    | false =>
      rw [if_neg (by simp), ih acc (by omega), List.filter_cons_of_neg (by simp [hp])]
    | true =>
      obtain ⟨b, hb⟩ := he x List.mem_cons_self hp
      have hs : small acc.length = true := by
        unfold small
        exact Nat.ble_eq_true_of_le (by omega)
      rw [if_pos rfl, hb]
      simp only [R.bind_ok, hs, if_true]
      rw [ih (acc ++ [f x]) (by simp; omega), List.filter_cons_of_pos hp]
      simp
@[simp] theorem q_lc (i : SI) (t : Tg) (vs : List Nat) (c : ST) (e : SE) (env : Env) (S : Store) : eLc i t vs c e env S = (i env S).bind fun p S1 => (compR t c e p.1 (wipeE env vs) [] S1).bind fun acc S2 => .ok (true, .lst acc) (unlock p.2 S2) := (rfl)
@[simp] theorem q_seq (a : SE) (env : Env) (S : Store) : iSeq a env S = (a env S).bind fun p S1 => match lockS p.2 S1 with
  | some z => .ok (z.1, z.2.1) z.2.2
  | none => .no := (rfl)
def sq (b : Bool) (ns : List Int) : PV := bif b then .tup (ns.map .int) else .lst (ns.map .int)
end PX
namespace PX
open PySem
theorem rngL_map : ∀ (n : Nat) (lo : Int), rngL lo n = (List.range n).map fun (i : Nat) => PV.int (lo + i)
  | 0, lo => rfl
  | n + 1, lo => by
    show PV.int lo :: rngL (lo + 1) n = _
    rw [rngL_map n (lo + 1), List.range_succ_eq_map, List.map_cons, List.map_map]
    congr 1
    · simp
    · refine List.map_congr_left fun i _ => ?_
      show PV.int (lo + 1 + (i : Int)) = PV.int (lo + ((i + 1 : Nat) : Int))
      congr 1
      omega
theorem rngL_map0 (n : Nat) : rngL 0 n = (List.range n).map fun (i : Nat) => PV.int i := by
  rw [rngL_map]
  exact List.map_congr_left fun i _ => by rw [Int.zero_add]
theorem zipL_map : ∀ (a b : List Int), zipL (a.map .int) (b.map .int) = (a.zip b).map fun p => PV.tup [.int p.1, .int p.2]
  | [], b => rfl
  | x :: a, [] => rfl
  | x :: a, y :: b => by
    show PV.tup [.int x, .int y] :: zipL (a.map .int) (b.map .int) = _
    rw [zipL_map a b]
    rfl
theorem cutP_map (ns : List Int) (lo hi : Option Int) : cutP (ns.map .int) lo hi = ((ns.drop (sIxP ns.length 0 lo)).take (sIxP ns.length ns.length hi - sIxP ns.length 0 lo)).map .int := by
  unfold cutP
  rw [List.length_map, List.map_take, List.map_drop]
theorem sIx_nat (n d x : Nat) (h : x ≤ n) : sIxP n d (some (x : Int)) = x := by
  show (if (x : Int) < 0 then ((x : Int) + n).toNat else min (x : Int).toNat n) = x
  rw [if_neg (by omega)]
  omega
theorem cut_take (cs : List Int) (x : Nat) (h : x ≤ cs.length) : cutP (cs.map .int) none (some (x : Int)) = (cs.take x).map .int := by
  rw [cutP_map, sIx_nat _ _ _ h]
  show ((cs.drop 0).take (x - 0)).map PV.int = _
  rw [List.drop_zero, Nat.sub_zero]
theorem cut_drop (cs : List Int) (x : Nat) (h : x ≤ cs.length) : cutP (cs.map .int) (some (x : Int)) none = (cs.drop x).map .int := by
  rw [cutP_map, sIx_nat _ _ _ h]
  show ((cs.drop x).take (cs.length - x)).map PV.int = _
  rw [List.take_of_length_le (by rw [List.length_drop]; exact Nat.le_refl _)]
end PX
namespace PX
open PySem
@[simp] theorem q_enu (a : SE) (env : Env) (S : Store) : iEnu a env S = (a env S).bind fun p S1 => match lockS p.2 S1 with
  | some z => .ok (enumL 0 z.1, z.2.1) z.2.2
  | none => .no := (rfl)
@[simp] theorem q_zip (a b : SE) (env : Env) (S : Store) : iZip a b env S = (a env S).bind fun p S1 => (b env S1).bind fun q S2 => match lockS p.2 S2 with
  | some z => match lockS q.2 z.2.2 with
    | some y => .ok (zipL z.1 y.1, y.2.1 ++ z.2.1) y.2.2
    | none => .no
  | none => .no := (rfl)
theorem zip_val (a b : SE) (env : Env) (S : Store) (k k' : Bool) (ns ms : List Int) (ha : a env S = .ok (k, .tup (ns.map .int)) S) (hb : b env S = .ok (k', .tup (ms.map .int)) S) : iZip a b env S = .ok ((ns.zip ms).map fun p => PV.tup [.int p.1, .int p.2], []) S := by
  rw [q_zip, ha, R.bind_ok, hb, R.bind_ok]
  show R.ok (zipL (ns.map .int) (ms.map .int), []) S = _
  rw [zipL_map]
theorem lc_val {α : Type} {i : SI} {t : Tg} {vs : List Nat} {c : ST} {e : SE} {env : Env} {S : Store} (l : List α) (g f : α → PV) (p : α → Bool) (en : α → Env) (hi : i env S = .ok (l.map g, []) S) (hl : l.length ≤ 100000)
    (ht : ∀ x ∈ l, t (g x) (wipeE env vs) S = some (en x)) (hc : ∀ x ∈ l, c (en x) S = .ok (p x) S) (he : ∀ x ∈ l, p x = true → ∃ b, e (en x) S = .ok (b, f x) S) : eLc i t vs c e env S = .ok (true, .lst ((l.filter p).map f)) S := by
  rw [q_lc, hi, R.bind_ok]
  simp only [compR_map g f p en l ht hc he [] (by rw [List.length_nil]; omega), R.bind_ok, List.nil_append]
  rfl
end PX
set_option linter.all false
namespace K22M
def mx : List Int → Int
  | [] => 0
  | x :: xs => xs.foldl max x
def mn : List Int → Int
  | [] => 0
  | x :: xs => xs.foldl min x
def sp (l : List Int) : Int := mx l - mn l
end K22M
set_option Elab.async false
set_option linter.all false
set_option maxRecDepth 100000
set_option maxHeartbeats 1000000
namespace PX
open PySem
def iN (l : List Nat) : List Int := l.map fun (k : Nat) => (k : Int)
@[simp] theorem iN_len (l : List Nat) : (iN l).length = l.length := List.length_map _
theorem oNe_int' (a b : Int) (S : Store) : oNe (.int a) (.int b) S = some (false, .bl (!decide (a = b))) := by
  unfold oNe
  rw [eqD_int]
  rfl
theorem oEq_int' (a b : Int) (S : Store) : oEq (.int a) (.int b) S = some (false, .bl (decide (a = b))) := by
  unfold oEq
  rw [eqD_int]
  rfl
theorem oNe_tup (a b : List Int) (S : Store) : oNe (.tup (a.map .int)) (.tup (b.map .int)) S = some (false, .bl (!decide (a = b))) := by
  unfold oNe
  rw [eqD_tup]
  rfl
theorem oNe_lst (a b : List Int) (S : Store) : oNe (.lst (a.map .int)) (.lst (b.map .int)) S = some (false, .bl (!decide (a = b))) := by
  unfold oNe
  rw [eqD_lst]
  rfl
def itP : PV → Option (List PV)
  | .tup xs => some xs
  | .lst xs => some xs
  | _ => none
theorem lockS_it {v : PV} {xs : List PV} (h : itP v = some xs) (S : Store) : lockS v S = some (xs, [], S) := by
  cases v <;> first | (cases h; rfl) | cases h
theorem zip_it (a b : SE) (env : Env) (S : Store) (k k' : Bool) (v w : PV) (xs ys : List PV) (h1 : itP v = some xs) (h2 : itP w = some ys) (ha : a env S = .ok (k, v) S) (hb : b env S = .ok (k', w) S) : iZip a b env S = .ok (zipL xs ys, []) S := by
  rw [q_zip, ha, R.bind_ok, hb, R.bind_ok]
  simp only [lockS_it h1, lockS_it h2, List.append_nil]
theorem blsOf_map {α : Type} (f : α → Bool) (l : List α) : blsOf (l.map fun x => PV.bl (f x)) = some (l.map f) := by
  induction l with
  | nil => rfl
  | cons x l ih =>
    show (blsOf (l.map fun x => PV.bl (f x))).map (f x :: ·) = _
    rw [ih]
    rfl
theorem all_val {α : Type} (f : α → Bool) (l : List α) (S : Store) : bAll [.lst (l.map fun x => PV.bl (f x))] S = some (false, .bl (l.all f)) := by
  show (match blsOf (l.map fun x => PV.bl (f x)) with
    | some ns => some (false, PV.bl (ns.all id))
    | none => none) = _
  rw [blsOf_map]
  simp [List.all_map]
theorem any_val {α : Type} (f : α → Bool) (l : List α) (S : Store) : bAny [.lst (l.map fun x => PV.bl (f x))] S = some (false, .bl (l.any f)) := by
  show (match blsOf (l.map fun x => PV.bl (f x)) with
    | some ns => some (false, PV.bl (ns.any id))
    | none => none) = _
  rw [blsOf_map]
  simp [List.any_map]
theorem filter_yes {α : Type} (l : List α) : (l.filter fun _ => true) = l := List.filter_eq_self.mpr fun _ _ => rfl
theorem all_lc {α : Type} {i : SI} {t : Tg} {vs : List Nat} {e : SE} {env : Env} {S : Store} (l : List α) (g : α → PV) (f : α → Bool) (en : α → Env) (hi : i env S = .ok (l.map g, []) S) (hl : l.length ≤ 100000)
    (ht : ∀ x ∈ l, t (g x) (wipeE env vs) S = some (en x)) (he : ∀ x ∈ l, ∃ b, e (en x) S = .ok (b, .bl (f x)) S) : eArg bAll (aCons (eLc i t vs tYesP e) aNil) env S = .ok (false, .bl (l.all f)) S := by
  have h := lc_val (c := tYesP) l g (fun x => .bl (f x)) (fun _ => true) en hi hl ht (fun x _ => rfl) (fun x hx _ => he x hx)
  rw [filter_yes] at h
  simp only [q_arg, q_cons, h, R.bind_ok, q_nil, all_val, q_ofO_some]
theorem any_lc {α : Type} {i : SI} {t : Tg} {vs : List Nat} {e : SE} {env : Env} {S : Store} (l : List α) (g : α → PV) (f : α → Bool) (en : α → Env) (hi : i env S = .ok (l.map g, []) S) (hl : l.length ≤ 100000)
    (ht : ∀ x ∈ l, t (g x) (wipeE env vs) S = some (en x)) (he : ∀ x ∈ l, ∃ b, e (en x) S = .ok (b, .bl (f x)) S) : eArg bAny (aCons (eLc i t vs tYesP e) aNil) env S = .ok (false, .bl (l.any f)) S := by
  have h := lc_val (c := tYesP) l g (fun x => .bl (f x)) (fun _ => true) en hi hl ht (fun x _ => rfl) (fun x hx _ => he x hx)
  rw [filter_yes] at h
  simp only [q_arg, q_cons, h, R.bind_ok, q_nil, any_val, q_ofO_some]
theorem call1 {cf : CF} {f : Nat} {a : SE} {env : Env} {S : Store} {b : Bool} {v w : PV} (ha : a env S = .ok (b, v) S) (h : callV cf f [v] S = .ok (false, w) S) : eCall cf 1 f (aCons a aNil) env S = .ok (false, w) S := by
  rw [q_call, q_cons, ha, R.bind_ok, q_nil, R.bind_ok, R.bind_ok, if_pos (by rfl), h]
theorem call2 {cf : CF} {f : Nat} {a a2 : SE} {env : Env} {S : Store} {b b2 : Bool} {v v2 w : PV} (ha : a env S = .ok (b, v) S) (ha2 : a2 env S = .ok (b2, v2) S) (h : callV cf f [v, v2] S = .ok (false, w) S) : eCall cf 2 f (aCons a (aCons a2 aNil)) env S = .ok (false, w) S := by
  rw [q_call, q_cons, ha, R.bind_ok, q_cons, ha2, R.bind_ok, q_nil, R.bind_ok, R.bind_ok, R.bind_ok, if_pos (by rfl), h]
theorem call3 {cf : CF} {f : Nat} {a a2 a3 : SE} {env : Env} {S : Store} {b b2 b3 : Bool} {v v2 v3 w : PV} (ha : a env S = .ok (b, v) S) (ha2 : a2 env S = .ok (b2, v2) S) (ha3 : a3 env S = .ok (b3, v3) S) (h : callV cf f [v, v2, v3] S = .ok (false, w) S) : eCall cf 3 f (aCons a (aCons a2 (aCons a3 aNil))) env S = .ok (false, w) S := by
  rw [q_call, q_cons, ha, R.bind_ok, q_cons, ha2, R.bind_ok, q_cons, ha3, R.bind_ok, q_nil, R.bind_ok, R.bind_ok, R.bind_ok, R.bind_ok, if_pos (by rfl), h]
theorem call4 {cf : CF} {f : Nat} {a a2 a3 a4 : SE} {env : Env} {S : Store} {b b2 b3 b4 : Bool} {v v2 v3 v4 w : PV} (ha : a env S = .ok (b, v) S) (ha2 : a2 env S = .ok (b2, v2) S) (ha3 : a3 env S = .ok (b3, v3) S) (ha4 : a4 env S = .ok (b4, v4) S) (h : callV cf f [v, v2, v3, v4] S = .ok (false, w) S) : eCall cf 4 f (aCons a (aCons a2 (aCons a3 (aCons a4 aNil)))) env S = .ok (false, w) S := by
  rw [q_call, q_cons, ha, R.bind_ok, q_cons, ha2, R.bind_ok, q_cons, ha3, R.bind_ok, q_cons, ha4, R.bind_ok, q_nil, R.bind_ok, R.bind_ok, R.bind_ok, R.bind_ok, R.bind_ok, if_pos (by rfl), h]
theorem bin_val {o : Op2} {a b : SE} {env : Env} {S : Store} {k k' : Bool} {v w : PV} {z : Bool × PV} (ha : a env S = .ok (k, v) S) (hb : b env S = .ok (k', w) S) (h : o v w S = some z) : eBin o a b env S = .ok z S := by
  rw [q_bin, ha, R.bind_ok, hb, R.bind_ok, h]
  rfl
theorem sl_val {a : SE} {lo hi : SO} {env : Env} {S : Store} {k : Bool} {v : PV} {l u : Option Int} {z : Bool × PV} (ha : a env S = .ok (k, v) S) (h1 : lo env S = .ok l S) (h2 : hi env S = .ok u S) (h : slP l u v S = some z) : eSl a lo hi env S = .ok z S := by
  rw [q_sl, ha, R.bind_ok, h1, R.bind_ok, h2, R.bind_ok, h]
  rfl
theorem pso_val {a : SE} {env : Env} {S : Store} {k : Bool} {i : Int} (ha : a env S = .ok (k, .int i) S) : pSo a env S = .ok (some i) S := by
  rw [q_pso, ha, R.bind_ok]
theorem arg1_val {o : OpN} {a : SE} {env : Env} {S : Store} {k : Bool} {v : PV} {z : Bool × PV} (ha : a env S = .ok (k, v) S) (h : o [v] S = some z) : eArg o (aCons a aNil) env S = .ok z S := by
  rw [q_arg, q_cons, ha, R.bind_ok, q_nil, R.bind_ok, R.bind_ok, h]
  rfl
theorem ne_flat {cf : CF} {tb : List (Nat × Nat)} {tys : List TyN} {a b : SE} {env : Env} {S : Store} {k k' : Bool} {v w : PV} {z : Bool × PV} (ha : a env S = .ok (k, v) S) (hb : b env S = .ok (k', w) S) (ho : ownOf tb S v = none) (h : oNe v w S = some z) : eNe cf tb tys a b env S = .ok z S := by
  rw [q_ne, ha, R.bind_ok, hb, R.bind_ok, ho, h]
  rfl
theorem eq_flat {cf : CF} {tb : List (Nat × Nat)} {tys : List TyN} {a b : SE} {env : Env} {S : Store} {k k' : Bool} {v w : PV} {z : Bool × PV} (ha : a env S = .ok (k, v) S) (hb : b env S = .ok (k', w) S) (ho : ownOf tb S v = none) (h : oEq v w S = some z) : eEq cf tb tys a b env S = .ok z S := by
  rw [q_eq, ha, R.bind_ok, hb, R.bind_ok, ho, h]
  rfl
theorem len_flat {cf : CF} {tb : List (Nat × Nat)} {a : SE} {env : Env} {S : Store} {k : Bool} {v : PV} {z : Bool × PV} (ha : a env S = .ok (k, v) S) (ho : ownOf tb S v = none) (h : bLen [v] S = some z) : eLen cf tb a env S = .ok z S := by
  rw [q_len, ha, R.bind_ok, ho, h]
  rfl
theorem tbl_val {a : SE} {env : Env} {S : Store} {k b : Bool} (ha : a env S = .ok (k, .bl b) S) : tBl a env S = .ok b S := by
  rw [q_tbl, ha, R.bind_ok]
theorem ttru_bl {a : SE} {env : Env} {S : Store} {k b : Bool} (ha : a env S = .ok (k, .bl b) S) : tTru a env S = .ok b S := by
  rw [q_tru, ha, R.bind_ok]
  rfl
theorem tno_val {a : ST} {env : Env} {S : Store} {b : Bool} (ha : a env S = .ok b S) : tNo a env S = .ok (!b) S := by
  rw [q_tno, ha, R.bind_ok]
theorem sif_val {c : ST} {a b : SS} {env : Env} {S : Store} {t : Bool} (ha : c env S = .ok t S) : sIf c a b env S = if t = true then a env S else b env S := by
  rw [q_sif, ha, R.go_ok]
theorem sexp_val {a : SE} {env : Env} {S : Store} {z : Bool × PV} (ha : a env S = .ok z S) : sExp a env S = .nx env S := by
  rw [q_sexp, ha, R.go_ok]
theorem sret_val {a : SE} {env : Env} {S : Store} {k : Bool} {v : PV} (ha : a env S = .ok (k, v) S) : sRet a env S = .rt v S := by
  rw [q_sret, ha, R.go_ok]
theorem sasg_val {i : Nat} {a : SE} {env : Env} {S : Store} {k : Bool} {v : PV} (ha : a env S = .ok (k, v) S) : sAsg (gNm i) a env S = .nx (env.set i (some v)) S := by
  rw [q_sasg, ha, R.go_ok, q_gnm]
theorem tor_val {a b : ST} {env : Env} {S : Store} {x : Bool} (ha : a env S = .ok x S) : tOr a b env S = if x = true then .ok true S else b env S := by
  rw [q_tor, ha, R.bind_ok]
theorem tan_val {a b : ST} {env : Env} {S : Store} {x : Bool} (ha : a env S = .ok x S) : tAn a b env S = if x = true then b env S else .ok false S := by
  rw [q_tan, ha, R.bind_ok]
end PX
namespace PX
open PySem K22M
theorem small_nat {n : Nat} (h : n ≤ 1000000) : small n = true := Nat.ble_eq_true_of_le h
theorem okRg_small {j : Int} (h0 : 0 ≤ j) (h1 : j < 1000000) : okRg j = true := by
  unfold okRg
  rw [decide_eq_true (by omega), decide_eq_true (by omega)]
  rfl
theorem q_star (a : SE) (r : SA) (env : Env) (S : Store) : aStar a r env S = (a env S).bind fun p S1 => match itemsOf S1 p.2 with
  | some xs => (r env S1).bind fun q S2 => .ok (xs ++ q) S2
  | none => .no := (rfl)
theorem mx_lst (ns : List Int) (h : ns ≠ []) (S : Store) : bMaxL [.lst (ns.map .int)] S = some (false, .int (mx ns)) := by
  cases ns with
  | nil => exact absurd rfl h
  | cons x xs =>
    show (match intsOf ((x :: xs).map .int) with
      | some (n :: ns) => some (false, PV.int (ns.foldl max n))
      | _ => none) = _
    rw [intsOf_map]
    rfl
theorem lc_int {α : Type} {i : SI} {t : Tg} {vs : List Nat} {c : ST} {e : SE} {env : Env} {S : Store} (l : List α) (g : α → PV) (f : α → Int) (p : α → Bool) (en : α → Env) (hi : i env S = .ok (l.map g, []) S) (hl : l.length ≤ 100000)
    (ht : ∀ x ∈ l, t (g x) (wipeE env vs) S = some (en x)) (hc : ∀ x ∈ l, c (en x) S = .ok (p x) S) (he : ∀ x ∈ l, p x = true → ∃ b, e (en x) S = .ok (b, .int (f x)) S) : eLc i t vs c e env S = .ok (true, .lst (((l.filter p).map f).map .int)) S := by
  rw [lc_val l g (fun x => .int (f x)) p en hi hl ht hc he, List.map_map]
  rfl
theorem at_last (S : Store) (x : PV) : (S ++ [x])[S.length]? = some x := by simp
theorem set_last (S : Store) (x y : PV) : (S ++ [x]).set S.length y = S ++ [y] := by
  rw [List.set_append_right _ _ (Nat.le_refl _), Nat.sub_self]
  rfl
theorem isL_last (S : Store) (xs : List PV) : isL (S ++ [.lst xs]) (.ref S.length) = true := by
  unfold isL
  rw [d_ref, at_last]
  rfl
theorem ix_end {v : PV} {S : Store} {xs : List PV} {x : PV} (h : itemsOf S v = some (xs ++ [x])) : oIx v (.int (-1)) S = some (false, x) := by
  have e2 : ixP (xs ++ [x]).length (-1) = some xs.length := by
    unfold ixP
    rw [if_neg (by omega), List.length_append, List.length_singleton, if_pos (by omega)]
    congr 1
    omega
  have e3 : (xs ++ [x])[xs.length]? = some x := by simp
  unfold oIx
  simp only [h, e2, e3]
theorem ix_val {cf : CF} {tb : List (Nat × Nat)} {a b : SE} {env : Env} {S : Store} {k k' : Bool} {v w : PV} {z : Bool × PV} (ha : a env S = .ok (k, v) S) (hb : b env S = .ok (k', w) S) (ho : ownOf tb S v = none) (hd : dIx v w S = none) (h : oIx v w S = some z) : eIx cf tb a b env S = .ok z S := by
  rw [q_ix, ha, R.bind_ok, hb, R.bind_ok, ho, hd, h]
  rfl
theorem neg_val {a : SE} {env : Env} {S : Store} {k : Bool} {i : Int} (ha : a env S = .ok (k, .int i) S) : eUn oNeg a env S = .ok (false, .int (-i)) S := by
  rw [q_un, ha, R.bind_ok]
  rfl
end PX
namespace PX
open PySem
end PX
namespace PX
open PySem
theorem frzL_tups (n0 t : Nat) (S : Store) (k : Nat) : ∀ xss : List (List Int), frzL (frz n0 t S (k + 2)) (xss.map fun (xs : List Int) => PV.tup (xs.map .int)) = some (xss.map fun (xs : List Int) => PV.tup (xs.map .int))
  | [] => rfl
  | xs :: xss => by
    show (match (frzL (frz n0 t S (k + 1)) (xs.map .int)).map PV.tup with
      | some w => match frzL (frz n0 t S (k + 2)) (xss.map fun (xs : List Int) => PV.tup (xs.map .int)) with
        | some ws => some (w :: ws)
        | none => none
      | none => none) = _
    rw [frzL_ints, frzL_tups n0 t S k xss]
    rfl
theorem norm_ins (S : Store) (c : Nat) (ns : List Nat) (xss : List (List Int)) : norm S.length (.ref S.length) (S ++ [.ins c ns (xss.map fun (xs : List Int) => PV.tup (xs.map .int))]) = .ok (true, .ins c ns (xss.map fun (xs : List Int) => PV.tup (xs.map .int))) S := by
  unfold norm
  rw [if_neg (by simp)]
  simp only [Nat.lt_irrefl, if_false, at_last]
  show (match (frzL (frz S.length S.length (S ++ [PV.ins c ns (xss.map fun (xs : List Int) => PV.tup (xs.map .int))]) 8) (xss.map fun (xs : List Int) => PV.tup (xs.map .int))).map (PV.ins c ns) with
    | some w => R.ok (true, w) ((S ++ [PV.ins c ns (xss.map fun (xs : List Int) => PV.tup (xs.map .int))]).take S.length)
    | none => .no) = _
  rw [frzL_tups]
  simp
theorem fld_last {n0 : Nat} {cs : List Nat} {f : Nat} {o e : SE} {env : Env} {S : Store} {k k' : Bool} {c : Nat} {ns : List Nat} {vs : List PV} {w : PV} (hn : n0 = S.length) (he : e env (S ++ [.ins c ns vs]) = .ok (k, w) (S ++ [.ins c ns vs])) (ho : o env (S ++ [.ins c ns vs]) = .ok (k', .ref S.length) (S ++ [.ins c ns vs])) (hc : cs.contains c = true) (hl : Nat.ble ns.length 100 = true) :
    sFld n0 cs f o e env (S ++ [.ins c ns vs]) = .nx env (S ++ [.ins c (putFld f w ns vs).1 (putFld f w ns vs).2]) := by
  subst hn
  have hm : mayPut S.length S.length w = true := by
    show (Nat.ble S.length S.length || noref w) = true
    rw [Nat.ble_eq_true_of_le (Nat.le_refl _)]
    rfl
  show ((e env (S ++ [.ins c ns vs])).go fun p S1 => (o env S1).go fun q S2 => match q.2 with
    | .ref i => match S2[i]? with
      | some (.ins c ns vs) => if cs.contains c && mayPut S.length i p.2 && Nat.ble ns.length 100 then RS.nx env (S2.set i (.ins c (putFld f p.2 ns vs).1 (putFld f p.2 ns vs).2)) else .no
      | _ => .no
    | _ => .no) = _
  rw [he, R.go_ok, ho, R.go_ok]
  simp only [at_last, hc, hm, hl, Bool.and_self, if_true, set_last]
theorem q_whl (c : ST) (b : SS) (n : Nat) (env : Env) (S : Store) : whileR c b (n + 1) env S = (c env S).go fun t S1 => if t = true then
      match b env S1 with
      | .nx e S' => whileR c b n e S'
      | .ct e S' => whileR c b n e S'
      | .bk e S' => .nx e S'
      | z => z
    else .nx env S1 := (rfl)
theorem tup2_val {a b : SE} {env : Env} {S : Store} {k k' : Bool} {v w : PV} (ha : a env S = .ok (k, v) S) (hb : b env S = .ok (k', w) S) : eTup (aCons a (aCons b aNil)) env S = .ok (false, .tup [v, w]) S := by
  rw [q_tup, q_cons, ha, R.bind_ok, q_cons, hb, R.bind_ok, q_nil, R.bind_ok, R.bind_ok, R.bind_ok]
  rfl
end PX
namespace PX
open PySem
@[simp] theorem q_meth (cf : CF) (np m : Nat) (T : List (Nat × Nat)) (o : SE) (a : SA) (env : Env) (S : Store) : eMeth cf np m T o a env S = (o env S).bind fun p S0 => match methOf m T S0 p.2 with
  | some f => (a env S0).bind fun args S1 => if args.length + 1 = np then callV cf f (p.2 :: args) S1 else .no
  | none => .no := (rfl)
theorem methN {cf : CF} {m f : Nat} {T : List (Nat × Nat)} {o : SE} {a : SA} {env : Env} {S : Store} {v : PV} {vs : List PV} {b : Bool} {z : Bool × PV} {np : Nat} (ho : o env S = .ok (b, v) S) (hm : methOf m T S v = some f) (ha : a env S = .ok vs S) (hl : vs.length + 1 = np) (hc : callV cf f (v :: vs) S = .ok z S) : eMeth cf np m T o a env S = .ok z S := by
  rw [q_meth, ho, R.bind_ok]
  simp only [hm, ha, R.bind_ok, hl, if_true, hc]
theorem args2 {a b : SE} {env : Env} {S : Store} {k k' : Bool} {v w : PV} (ha : a env S = .ok (k, v) S) (hb : b env S = .ok (k', w) S) : aCons a (aCons b aNil) env S = .ok [v, w] S := by
  rw [q_cons, ha, R.bind_ok, q_cons, hb, R.bind_ok, q_nil, R.bind_ok, R.bind_ok]
theorem args1 {a : SE} {env : Env} {S : Store} {k : Bool} {v : PV} (ha : a env S = .ok (k, v) S) : aCons a aNil env S = .ok [v] S := by
  rw [q_cons, ha, R.bind_ok, q_nil, R.bind_ok]
theorem cat_tup (a b : List Int) (S : Store) (h : a.length + b.length ≤ 1000000) : oCat (.tup (a.map .int)) (.tup (b.map .int)) S = some (false, .tup ((a ++ b).map .int)) := by
  show (if small ((a.map PV.int).length + (b.map PV.int).length) then some (false, PV.tup (a.map .int ++ b.map .int)) else none) = _
  rw [small_nat (by rw [List.length_map, List.length_map]; exact h), if_pos rfl, List.map_append]
theorem cat_lst (a b : List PV) (S : Store) (h : a.length + b.length ≤ 1000000) : oCat (.lst a) (.lst b) S = some (true, .lst (a ++ b)) := by
  show (if small (a.length + b.length) then some (true, PV.lst (a ++ b)) else none) = _
  rw [small_nat h, if_pos rfl]
end PX
namespace PX
open PySem
theorem toD_deref {S : Store} {k : Nat} {v w : PV} (h : deref S v = deref S w) : toD S (k + 1) v = toD S (k + 1) w := by
  simp only [toD, h]
theorem eif_val {c : ST} {a b : SE} {env : Env} {S : Store} {t : Bool} (ha : c env S = .ok t S) : eIf c a b env S = if t = true then a env S else b env S := by
  rw [q_if, ha, R.bind_ok]
theorem rg1_n {a : SE} {env : Env} {S : Store} {k : Bool} {j : Int} (ha : a env S = .ok (k, .int j) S) (h1 : 0 ≤ j) (h2 : j < 1000000) : iRg1 a env S = .ok (rngL 0 j.toNat, []) S := by
  rw [q_rg1, ha, R.bind_ok]
  simp only [okRg_small h1 h2, if_true]
end PX
namespace PX
open PySem
theorem okc {α : Type} {a b : α} (h : a = b) (S : Store) : R.ok a S = R.ok b S := by rw [h]
theorem ch_val {o o' : Op2} {a b c : SE} {env : Env} {S : Store} {k1 k2 k3 x : Bool} {u v w : PV} {y : Bool} (ha : a env S = .ok (k1, u) S) (hb : b env S = .ok (k2, v) S) (hc : c env S = .ok (k3, w) S) (h1 : o u v S = some (false, .bl x)) (h2 : o' v w S = some (false, .bl y)) : eCh o o' a b c env S = .ok (false, .bl (x && y)) S := by
  rw [q_ch, ha, R.bind_ok, hb, R.bind_ok, h1]
  cases x with
  | false => rfl
  | true =>
    simp only
    rw [hc, R.bind_ok, h2]
    rfl
end PX
namespace PX
open PySem
theorem oIx_at {v : PV} {S : Store} {xs : List PV} {x : PV} {i : Nat} (h : itemsOf S v = some xs) (hx : xs[i]? = some x) : oIx v (.int i) S = some (false, x) := by
  obtain ⟨hl, _⟩ := List.getElem?_eq_some_iff.mp hx
  have e2 : ixP xs.length (i : Int) = some i := by
    unfold ixP
    rw [if_pos (by omega), if_pos (by omega), Int.toNat_natCast]
  unfold oIx
  simp only [h, e2, hx]
theorem lst1_val {a : SE} {env : Env} {S : Store} {k : Bool} {v : PV} (ha : a env S = .ok (k, v) S) : eLst (aCons a aNil) env S = .ok (true, .lst [v]) S := by
  rw [q_lst, q_cons, ha, R.bind_ok, q_nil, R.bind_ok, R.bind_ok]
  rfl
theorem tuple_lst (ns : List Int) (S : Store) : bTuple [.lst (ns.map .int)] S = some (false, .tup (ns.map .int)) := rfl
end PX
namespace PX
open PySem
end PX
set_option Elab.async false
set_option linter.all false
set_option maxRecDepth 100000
set_option maxHeartbeats 1000000
namespace PX
open PySem K22M
theorem zipL_gen {α β : Type} (f : α → PV) (g : β → PV) : ∀ (a : List α) (b : List β), zipL (a.map f) (b.map g) = (a.zip b).map fun p => PV.tup [f p.1, g p.2]
  | [], b => rfl
  | x :: a, [] => rfl
  | x :: a, y :: b => by
    show PV.tup [f x, g y] :: zipL (a.map f) (b.map g) = _
    rw [zipL_gen f g a b]
    rfl
theorem args3 {a b c : SE} {env : Env} {S : Store} {k1 k2 k3 : Bool} {v w x : PV} (ha : a env S = .ok (k1, v) S) (hb : b env S = .ok (k2, w) S) (hc : c env S = .ok (k3, x) S) : aCons a (aCons b (aCons c aNil)) env S = .ok [v, w, x] S := by
  rw [q_cons, ha, R.bind_ok, q_cons, hb, R.bind_ok, q_cons, hc, R.bind_ok, q_nil, R.bind_ok, R.bind_ok, R.bind_ok]
theorem tup_val {a : SA} {env : Env} {S : Store} {vs : List PV} (ha : a env S = .ok vs S) (h : vs.length ≤ 1000000) : eTup a env S = .ok (false, .tup vs) S := by
  rw [q_tup, ha, R.bind_ok, small_nat h, if_pos rfl]
theorem frzL_c {f : PV → Option PV} {v w : PV} {vs ws : List PV} (h1 : f v = some w) (h2 : frzL f vs = some ws) : frzL f (v :: vs) = some (w :: ws) := by
  simp only [frzL, h1, h2]
theorem meth0 {cf : CF} {m f : Nat} {T : List (Nat × Nat)} {o : SE} {env : Env} {S : Store} {v : PV} {b : Bool} {z : Bool × PV} (ho : o env S = .ok (b, v) S) (hm : methOf m T S v = some f) (hc : callV cf f [v] S = .ok z S) : eMeth cf 1 m T o aNil env S = .ok z S := methN ho hm rfl rfl hc
theorem call_at {T : Nat → Option FnB} {n f : Nat} {b : FnB} {args : List PV} {n0 : Nat} {S : Store} (env : Env) (h : T f = some b) (hl : args.length = b.np) (he : args.map some ++ List.replicate (b.nl - b.np) none = env) : callF T (n + 1) f args n0 S = fin (b.body (callF T n) n0 env S) := by
  rw [call_succ h hl, he]
end PX
namespace PX
open PySem K22M
theorem arg2_val {o : OpN} {a b : SE} {env : Env} {S : Store} {k k' : Bool} {v w : PV} {z : Bool × PV} (ha : a env S = .ok (k, v) S) (hb : b env S = .ok (k', w) S) (h : o [v, w] S = some z) : eArg o (aCons a (aCons b aNil)) env S = .ok z S := by
  rw [q_arg, args2 ha hb, R.bind_ok, h]
  rfl
theorem norm_flat (S : Store) (x v : PV) (hr : ∀ i, v ≠ .ref i) (h : frz S.length (S ++ [x]).length (S ++ [x]) 8 v = some v) : norm S.length v (S ++ [x]) = .ok (false, v) S := by
  unfold norm
  rw [if_neg (by simp)]
  cases v with
  | ref i => exact absurd rfl (hr i)
  | _ =>
    simp only [h]
    simp
end PX
namespace PX
open PySem K22M
theorem sasg_st {i : Nat} {a : SE} {env : Env} {S S' : Store} {k : Bool} {v : PV} (ha : a env S = .ok (k, v) S') : sAsg (gNm i) a env S = .nx (env.set i (some v)) S' := by
  rw [q_sasg, ha, R.go_ok, q_gnm]
end PX
namespace PX
open PySem K22M
theorem bin_st {o : Op2} {a b : SE} {env : Env} {S S' : Store} {k k' : Bool} {v w : PV} {z : Bool × PV} (ha : a env S = .ok (k, v) S) (hb : b env S = .ok (k', w) S') (h : o v w S' = some z) : eBin o a b env S = .ok z S' := by
  rw [q_bin, ha, R.bind_ok, hb, R.bind_ok, h]
  rfl
end PX
namespace PX
open PySem K22M
theorem sif_st {c : ST} {a b : SS} {env : Env} {S S' : Store} {t : Bool} (ha : c env S = .ok t S') : sIf c a b env S = if t = true then a env S' else b env S' := by
  rw [q_sif, ha, R.go_ok]
end PX
namespace PX
open PySem K22M
end PX
set_option Elab.async false
set_option linter.all false
set_option maxRecDepth 100000
set_option maxHeartbeats 1000000
namespace PX
open PySem
end PX
set_option Elab.async false
set_option linter.all false
set_option maxRecDepth 100000
set_option maxHeartbeats 1000000
namespace PX
open PySem K22M
theorem args2_stD {a b : SE} {env : Env} {S S1 S2 : Store} {k k' : Bool} {v w : PV} (ha : a env S = .ok (k, v) S1) (hb : b env S1 = .ok (k', w) S2) : aCons a (aCons b aNil) env S = .ok [v, w] S2 := by
  rw [q_cons, ha, R.bind_ok, q_cons, hb, R.bind_ok, q_nil, R.bind_ok, R.bind_ok]
theorem aconsD {a : SE} {r : SA} {env : Env} {S : Store} {k : Bool} {v : PV} {vs : List PV} (ha : a env S = .ok (k, v) S) (hr : r env S = .ok vs S) : aCons a r env S = .ok (v :: vs) S := by
  rw [q_cons, ha, R.bind_ok, hr, R.bind_ok]
theorem lst_valD {a : SA} {env : Env} {S : Store} {vs : List PV} (ha : a env S = .ok vs S) (h : vs.length ≤ 1000000) : eLst a env S = .ok (true, .lst vs) S := by
  rw [q_lst, ha, R.bind_ok, small_nat h, if_pos rfl]
theorem sexp_stD {a : SE} {env : Env} {S S' : Store} {z : Bool × PV} (ha : a env S = .ok z S') : sExp a env S = .nx env S' := by
  rw [q_sexp, ha, R.go_ok]
theorem enumL_gen {α : Type} (g : α → PV) : ∀ (l : List α) (k : Nat), enumL k (l.map g) = (l.zipIdx k).map fun p => PV.tup [.int (p.2 : Nat), g p.1]
  | [], _ => rfl
  | x :: l, k => by
    rw [List.map_cons, List.zipIdx_cons, List.map_cons, ← enumL_gen g l (k + 1)]
    rfl
theorem seq_it {a : SE} {env : Env} {S : Store} {k : Bool} {v : PV} {xs : List PV} (h : itP v = some xs) (ha : a env S = .ok (k, v) S) : iSeq a env S = .ok (xs, []) S := by
  rw [q_seq, ha, R.bind_ok]
  simp only [lockS_it h]
theorem enu_it {a : SE} {env : Env} {S : Store} {k : Bool} {v : PV} {xs : List PV} (h : itP v = some xs) (ha : a env S = .ok (k, v) S) : iEnu a env S = .ok (enumL 0 xs, []) S := by
  rw [q_enu, ha, R.bind_ok]
  simp only [lockS_it h]
theorem enu_gen {α : Type} {a : SE} {env : Env} {S : Store} {k : Bool} {v : PV} (l : List α) (g : α → PV) (h : itP v = some (l.map g)) (ha : a env S = .ok (k, v) S) : iEnu a env S = .ok (l.zipIdx.map fun p => PV.tup [.int (p.2 : Nat), g p.1], []) S := by
  rw [enu_it h ha]
  have e : enumL 0 (l.map g) = _ := enumL_gen g l 0
  rw [e]
theorem for_rng {t : Tg} {b : SS} (N : Nat) (I : Nat → Env → Store → Prop) (hb : ∀ j env S, j < N → I j env S → ∃ env1, t (.int (j : Nat)) env S = some env1 ∧ ∃ env2 S2, b env1 S = .nx env2 S2 ∧ I (j + 1) env2 S2) :
    ∀ (k j : Nat) (env : Env) (S : Store), I j env S → j + k = N → ∃ env' S', forR t b (rngL (j : Nat) k) env S = .nx env' S' ∧ I N env' S'
  | 0, j, env, S, h, e => ⟨env, S, rfl, by rw [← e]; exact h⟩
  | k + 1, j, env, S, h, e => by
    obtain ⟨env1, e1, env2, S2, e2, h2⟩ := hb j env S (by omega) h
    obtain ⟨env', S', e3, h3⟩ := for_rng N I hb k (j + 1) env2 S2 h2 (by omega)
    refine ⟨env', S', ?_, h3⟩
    show forR t b (PV.int (j : Nat) :: rngL ((j : Nat) + 1) k) env S = _
    rw [q_forC, e1]
    simp only [e2]
    exact e3
theorem norm_lastV (S : Store) (xs : List PV) (h : frzL (frz S.length S.length (S ++ [.lst xs]) 8) xs = some xs) : norm S.length (.ref S.length) (S ++ [.lst xs]) = .ok (true, .lst xs) S := by
  unfold norm
  rw [if_neg (by simp)]
  simp only [Nat.lt_irrefl, if_false, at_last]
  show (match (frzL (frz S.length S.length (S ++ [PV.lst xs]) 8) xs).map PV.lst with
    | some w => R.ok (true, w) ((S ++ [PV.lst xs]).take S.length)
    | none => .no) = _
  rw [h]
  simp
theorem callV_own {cf : CF} {f : Nat} {args : List PV} {S : Store} {xs : List PV} (h : cf f args S.length S = .ok (.ref S.length) (S ++ [.lst xs])) (hf : frzL (frz S.length S.length (S ++ [.lst xs]) 8) xs = some xs) : callV cf f args S = .ok (true, .lst xs) S := by
  unfold callV
  rw [h]
  show norm S.length (.ref S.length) (S ++ [.lst xs]) = _
  exact norm_lastV S xs hf
theorem for_nx {t : Tg} {b : SS} {x : PV} {xs : List PV} {env env1 env2 : Env} {S S2 : Store} (ht : t x env S = some env1) (hb : b env1 S = .nx env2 S2) : forR t b (x :: xs) env S = forR t b xs env2 S2 := by
  rw [q_forC, ht]
  simp only [hb]
theorem for_inv {t : Tg} {b : SS} (I : Env → Store → Prop) : ∀ (l : List PV) (env : Env) (S : Store), I env S → (∀ x ∈ l, ∀ env S, I env S → ∃ env1, t x env S = some env1 ∧ ∃ env2 S2, b env1 S = .nx env2 S2 ∧ I env2 S2) → ∃ env' S', forR t b l env S = .nx env' S' ∧ I env' S'
  | [], env, S, h, _ => ⟨env, S, rfl, h⟩
  | x :: l, env, S, h, hb => by
    obtain ⟨env1, e1, env2, S2, e2, h2⟩ := hb x List.mem_cons_self env S h
    obtain ⟨env', S', e3, h3⟩ := for_inv I l env2 S2 h2 fun y hy => hb y (List.mem_cons_of_mem _ hy)
    refine ⟨env', S', ?_, h3⟩
    rw [q_forC, e1]
    simp only [e2]
    exact e3
abbrev kI (c : List Int) : List (Sum Int Str) := c.map .inl
theorem keysOf_ints : ∀ c : List Int, keysOf (c.map .int) = some (kI c)
  | [] => rfl
  | i :: c => by
    show (keysOf (c.map .int)).map (Sum.inl i :: ·) = _
    rw [keysOf_ints c]
    rfl
theorem keyOf_ints (c : List Int) : keyOf (.tup (c.map .int)) = some (.t (kI c)) := by
  show (keysOf (c.map .int)).map DK.t = _
  rw [keysOf_ints]
  rfl
theorem kI_inj : ∀ {a b : List Int}, kI a = kI b → a = b
  | [], [], _ => rfl
  | [], _ :: _, e => by cases e
  | _ :: _, [], e => by cases e
  | x :: a, y :: b, e => by
    have e1 := List.cons.inj e
    rw [Sum.inl.inj e1.1, kI_inj e1.2]
theorem anyB_no (q : List Int) : ∀ l : List (List Int), q ∉ l → anyB eqKs (l.map kI) (kI q) = false
  | [], _ => rfl
  | c :: l, h => by
    show (bif eqKs (kI c) (kI q) then true else anyB eqKs (l.map kI) (kI q)) = false
    rw [eqKs_ok, decide_eq_false (fun z => h (by rw [← kI_inj z]; exact List.mem_cons_self)), anyB_no q l fun z => h (List.mem_cons_of_mem _ z)]
    rfl
theorem lookB_at (f : List Int → PV) (q : List Int) : ∀ l : List (List Int), q ∈ l → lookB eqKs (l.map kI) (l.map f) (kI q) = some (f q)
  | [], h => absurd h (by simp)
  | c :: l, h => by
    show (bif eqKs (kI c) (kI q) then some (f c) else lookB eqKs (l.map kI) (l.map f) (kI q)) = _
    rw [eqKs_ok]
    by_cases e : kI c = kI q
    · rw [decide_eq_true e, kI_inj e]
      rfl
    · rw [decide_eq_false e]
      rcases List.mem_cons.mp h with z | z
      · exact absurd (by rw [z]) e
      · exact lookB_at f q l z
/-- the dict from the tuples of l to their f -/
abbrev dT (l : List (List Int)) (f : List Int → PV) : PV := .dct (.t (l.map kI)) (l.map f)
end PX
set_option Elab.async false
set_option linter.all false
set_option maxRecDepth 100000
set_option maxHeartbeats 1000000
namespace PX
open PySem K22M
theorem spar_val {is : List Nat} {a : SA} {env env' : Env} {S S' : Store} {vs : List PV} (ha : a env S = .ok vs S') (ht : gTps (is.map gNm) vs env S' = some env') : sPar is a env S = .nx env' S' := by
  rw [q_spar, ha, R.go_ok]
  simp only [ht]
theorem new_val {a : SE} {env : Env} {S : Store} {v : PV} (ha : a env S = .ok (true, v) S) : eNew a env S = .ok (false, .ref S.length) (S ++ [v]) := by
  rw [q_new, ha, R.bind_ok]
theorem mayPut_le {n0 i : Nat} (h : n0 ≤ i) (v : PV) : mayPut n0 i v = true := by
  show (Nat.ble n0 i || noref v) = true
  rw [Nat.ble_eq_true_of_le h]
  rfl
section
variable {S : Store} {i n0 : Nat} {xs : List PV}
theorem itemsOf_at (h : S[i]? = some (.lst xs)) : itemsOf S (.ref i) = some xs := by
  unfold itemsOf
  rw [d_ref, h]
  rfl
theorem isL_at (h : S[i]? = some (.lst xs)) : isL S (.ref i) = true := by
  unfold isL
  rw [d_ref, h]
  rfl
theorem ownL_at (tb : List (Nat × Nat)) (h : S[i]? = some (.lst xs)) : ownOf tb S (.ref i) = none := by
  unfold ownOf
  rw [d_ref, h]
  rfl
theorem dIx_at (y : PV) (h : S[i]? = some (.lst xs)) : dIx (.ref i) y S = none := by
  unfold dIx
  rw [d_ref, h]
  rfl
theorem tuple_at (h : S[i]? = some (.lst xs)) : bTuple [.ref i] S = some (false, .tup xs) := by
  unfold bTuple
  simp only [itemsOf_at h]
theorem app_at (v : PV) (h : S[i]? = some (.lst xs)) (hn : n0 ≤ i) (hl : xs.length ≤ 100000) : appL n0 (.ref i) v S = some (S.set i (.lst (xs ++ [v]))) := by
  unfold appL
  simp only [h, mayPut_le hn, small_nat (show xs.length ≤ 1000000 by omega), Bool.and_self, if_true]
theorem ixP_nat {n j : Nat} (h : j < n) : ixP n (j : Nat) = some j := by
  unfold ixP
  rw [if_pos (by omega), if_pos (by omega), Int.toNat_natCast]
theorem set_at {j : Nat} (v : PV) (h : S[i]? = some (.lst xs)) (hn : n0 ≤ i) (hj : j < xs.length) : setG n0 (.ref i) (.int (j : Nat)) v S = some (S.set i (.lst (xs.set j v))) := by
  unfold setG
  simp only [h]
  unfold setL
  simp only [h, ixP_nat hj, mayPut_le hn, if_true]
theorem sexp_app {o e : SE} {env : Env} {k k' : Bool} {v : PV} (ho : o env S = .ok (k, .ref i) S) (h : S[i]? = some (.lst xs)) (he : e env S = .ok (k', v) S) (hn : n0 ≤ i) (hl : xs.length ≤ 100000) : sExp (eLm (appL n0) o e) env S = .nx env (S.set i (.lst (xs ++ [v]))) := by
  refine sexp_stD (z := (false, .non)) ?_
  rw [q_lm, ho, R.bind_ok]
  simp only [isL_at h, if_true]
  rw [he, R.bind_ok]
  simp only [app_at v h hn hl]
theorem ssub_val {f : PV → PV → PV → Store → Option Store} {o k e : SE} {env : Env} {S' : Store} {k1 k2 k3 : Bool} {v w x : PV} (he : e env S = .ok (k1, x) S) (ho : o env S = .ok (k2, v) S) (hk : k env S = .ok (k3, w) S) (hf : f v w x S = some S') : sSetI f o k e env S = .nx env S' := by
  unfold sSetI
  rw [he, R.go_ok, ho, R.go_ok, hk, R.go_ok]
  simp only [hf]
theorem ix_at {cf : CF} {tb : List (Nat × Nat)} {a b : SE} {env : Env} {k k' : Bool} {j : Nat} {x : PV} (ha : a env S = .ok (k, .ref i) S) (hb : b env S = .ok (k', .int (j : Nat)) S) (h : S[i]? = some (.lst xs)) (hx : xs[j]? = some x) : eIx cf tb a b env S = .ok (false, x) S :=
  ix_val ha hb (ownL_at tb h) (dIx_at _ h) (oIx_at (itemsOf_at h) hx)
theorem norm_int (S T : Store) (v : Int) : norm S.length (.int v) (S ++ T) = .ok (false, .int v) S := by
  unfold norm
  by_cases h : (S ++ T).length = S.length
  · have : T = [] := by
      rw [List.length_append] at h
      exact List.length_eq_zero_iff.mp (by omega)
    subst this
    rw [if_pos h, List.append_nil]
  · rw [if_neg h]
    show R.ok (false, PV.int v) ((S ++ T).take S.length) = _
    simp
theorem norm_bl (S T : Store) (v : Bool) : norm S.length (.bl v) (S ++ T) = .ok (false, .bl v) S := by
  unfold norm
  by_cases h : (S ++ T).length = S.length
  · have : T = [] := by
      rw [List.length_append] at h
      exact List.length_eq_zero_iff.mp (by omega)
    subst this
    rw [if_pos h, List.append_nil]
  · rw [if_neg h]
    show R.ok (false, PV.bl v) ((S ++ T).take S.length) = _
    simp
theorem callV_norm {cf : CF} {f : Nat} {args : List PV} {S S' S'' : Store} {v : PV} {z : Bool × PV} (h : cf f args S.length S = .ok v S') (hn : norm S.length v S' = .ok z S'') : callV cf f args S = .ok z S'' := by
  unfold callV
  rw [h]
  exact hn
end
theorem at_mid {α : Type} (A : List α) (x : α) (B : List α) : (A ++ x :: B)[A.length]? = some x := by simp
theorem set_mid {α : Type} (A : List α) (x y : α) (B : List α) : (A ++ x :: B).set A.length y = A ++ y :: B := by
  rw [List.set_append_right _ _ (Nat.le_refl _), Nat.sub_self]
  rfl
theorem seq_own {a : SE} {env : Env} {S : Store} {k : Bool} {i : Nat} {xs : List PV} (ha : a env S = .ok (k, .ref i) S) (h : S[i]? = some (.lst xs)) : iSeq a env S = .ok (xs, [(i, .lst xs)]) (S.set i (.lck (.lst xs))) := by
  rw [q_seq, ha, R.bind_ok]
  have : lockS (.ref i) S = some (xs, [(i, .lst xs)], S.set i (.lck (.lst xs))) := by
    unfold lockS
    simp only [h]
  simp only [this]
theorem setT_at {S : Store} {i n0 : Nat} {l : List (List Int)} (f : List Int → PV) (q : List Int) (h : q ∉ l) (hl : l.length ≤ 1000000) (hS : S[i]? = some (dT l f)) (hn : n0 ≤ i) : setG n0 (.ref i) (.tup (q.map .int)) (f q) S = some (S.set i (dT (l ++ [q]) f)) := by
  unfold setG
  have hp : dPut (.t (l.map kI)) (l.map f) (.t (kI q)) (f q) = some (.t ((l ++ [q]).map kI), (l ++ [q]).map f) := by
    show some (DKs.t (putB eqKs (l.map kI) (l.map f) (kI q) (f q)).1, (putB eqKs (l.map kI) (l.map f) (kI q) (f q)).2) = _
    unfold putB
    rw [anyB_no q l h, List.map_append, List.map_append]
    rfl
  simp only [hS, keyOf_ints, hp, mayPut_le hn, List.length_map, small_nat hl, Bool.and_self, if_true]
theorem lookB_no (f : List Int → PV) (q : List Int) : ∀ l : List (List Int), q ∉ l → lookB eqKs (l.map kI) (l.map f) (kI q) = none
  | [], h => rfl
  | c :: l, h => by
    show (bif eqKs (kI c) (kI q) then some (f c) else lookB eqKs (l.map kI) (l.map f) (kI q)) = _
    rw [eqKs_ok, decide_eq_false (fun e => h (by rw [kI_inj e]; exact List.mem_cons_self))]
    exact lookB_no f q l fun z => h (List.mem_cons_of_mem _ z)
theorem notinT_at {S : Store} {i : Nat} {l : List (List Int)} (f : List Int → PV) (q : List Int) (hS : S[i]? = some (dT l f)) : oNotIn (.tup (q.map .int)) (.ref i) S = some (false, .bl (!decide (q ∈ l))) := by
  have e : memP S (.tup (q.map .int)) (.ref i) = some (decide (q ∈ l)) := by
    unfold memP
    simp only [d_ref, hS]
    show (match keyOf (.tup (q.map .int)) with
      | some k => match dGet (.t (l.map kI)) (l.map f) k with
        | some o => some o.isSome
        | none => none
      | none => none) = _
    rw [keyOf_ints]
    show some (lookB eqKs (l.map kI) (l.map f) (kI q)).isSome = _
    by_cases h : q ∈ l
    · rw [lookB_at f q l h, decide_eq_true h]
      rfl
    · rw [lookB_no f q l h, decide_eq_false h]
      rfl
  unfold oNotIn
  rw [e]
  rfl
end PX
set_option Elab.async false
set_option linter.all false
set_option maxRecDepth 100000
namespace PX.K63
open PySem PX
noncomputable def b0 : FnB := ⟨3, 3, fun cf n0 => (sRet (eAn (eIsi [(.non, false), (.bl, true), (.int, true), (.str, false), (.tup, false), (.lst, false), (.dct, false), (.own 0, false), (.own 1, false)] (eVar 0)) (eAn (eNot (eIsi [(.non, false), (.bl, true), (.int, false), (.str, false), (.tup, false), (.lst, false), (.dct, false), (.own 0, false), (.own 1, false)] (eVar 0))) (eCh oLe oLe (eVar 1) (eVar 0) (eVar 2)))))⟩
noncomputable def b1 : FnB := ⟨2, 3, fun cf n0 => (sCons (sIf (tOr (tNo (tTru (eIsi [(.non, false), (.bl, false), (.int, false), (.str, false), (.tup, true), (.lst, true), (.dct, false), (.own 0, false), (.own 1, false)] (eVar 1)))) (tNo (tBl (eCh oLe oLe (eLit (.int 1)) (eLen cf [(0, 3)] (eVar 1)) (eLit (.int (12))))))) sNo sNil) (sCons (sIf (tNo (tTru (eArg bAll (aCons (eLc (iSeq (eVar 1)) (gNm 2) [2] tYesP (eCall cf 3 0 (aCons (eVar 2) (aCons (eLit (.int 0)) (aCons (eLit (.int (9))) aNil))))) aNil)))) sNo sNil) (sFld n0 [0] 0 (eVar 0) (eArg bTuple (aCons (eVar 1) aNil)))))⟩
noncomputable def b2 : FnB := ⟨2, 2, fun cf n0 => (sRet (eAn (eIsi [(.non, false), (.bl, false), (.int, false), (.str, false), (.tup, false), (.lst, false), (.dct, false), (.own 0, true), (.own 1, false)] (eVar 1)) (eEq cf [(0, 2), (1, 14)] [.non, .bl, .int, .str, .tup, .lst, .dct, .own 0, .own 1] (eFld [0] 0 (eVar 0)) (eFld [0] 0 (eVar 1)))))⟩
noncomputable def b3 : FnB := ⟨1, 1, fun cf n0 => (sRet (eLen cf [(0, 3)] (eFld [0] 0 (eVar 0))))⟩
noncomputable def b4 : FnB := ⟨2, 2, fun cf n0 => (sCons (sIf (tNo (tTru (eCall cf 3 0 (aCons (eVar 1) (aCons (eLit (.int 0)) (aCons (eBin oSub (eLen cf [(0, 3)] (eFld [0] 0 (eVar 0))) (eLit (.int 1))) aNil)))))) sNo sNil) (sRet (eIx cf [(0, 4)] (eFld [0] 0 (eVar 0)) (eVar 1))))⟩
noncomputable def b5 : FnB := ⟨1, 1, fun cf n0 => sNo⟩
noncomputable def b6 : FnB := ⟨1, 1, fun cf n0 => (sRet (eArg bSum (aCons (eFld [0] 0 (eVar 0)) aNil)))⟩
noncomputable def b7 : FnB := ⟨1, 2, fun cf n0 => (sRet (eLc (iRg1 (eBin oCat (eLen cf [(0, 3)] (eFld [0] 0 (eVar 0))) (eLit (.int 1)))) (gNm 1) [1] tYesP (eArg bSum (aCons (eSl (eFld [0] 0 (eVar 0)) pNo (pSo (eVar 1))) aNil))))⟩
noncomputable def b8 : FnB := ⟨1, 3, fun cf n0 => (sRet (eBin oCat (eLit (.int 1)) (eLen cf [(0, 3)] (eLc (iZip (eFld [0] 0 (eVar 0)) (eSl (eFld [0] 0 (eVar 0)) (pSo (eLit (.int 1))) pNo)) (gTp [(gNm 1), (gNm 2)]) [1, 2] (tBl (eNe cf [(0, 2), (1, 14)] [.non, .bl, .int, .str, .tup, .lst, .dct, .own 0, .own 1] (eVar 1) (eVar 2))) (eVar 1)))))⟩
noncomputable def b9 : FnB := ⟨1, 4, fun cf n0 => (sCons (sAsg (gNm 1) (eNew (eLst aNil))) (sCons (sFor (iEnu (eFld [0] 0 (eVar 0))) (gTp [(gNm 2), (gNm 3)]) (sExp (eLm (extL n0) (eVar 1) (eBin oRep (eLst (aCons (eVar 2) aNil)) (eVar 3))))) (sRet (eVar 1))))⟩
noncomputable def b10 : FnB := ⟨1, 1, fun cf n0 => (sIf (tNo (tTru (eIsi [(.non, false), (.bl, false), (.int, false), (.str, false), (.tup, false), (.lst, false), (.dct, false), (.own 0, true), (.own 1, false)] (eVar 0)))) sNo sNil)⟩
noncomputable def b11 : FnB := ⟨2, 2, fun cf n0 => (sCons (sExp (eCall cf 1 10 (aCons (eVar 0) aNil))) (sCons (sExp (eCall cf 1 10 (aCons (eVar 1) aNil))) (sIf (tOr (tBl (eNe cf [(0, 2), (1, 14)] [.non, .bl, .int, .str, .tup, .lst, .dct, .own 0, .own 1] (eLen cf [(0, 3)] (eVar 0)) (eLen cf [(0, 3)] (eVar 1)))) (tBl (eNe cf [(0, 2), (1, 14)] [.non, .bl, .int, .str, .tup, .lst, .dct, .own 0, .own 1] (eMeth cf 1 2 [(0, 6)] (eVar 0) aNil) (eMeth cf 1 2 [(0, 6)] (eVar 1) aNil)))) sNo sNil)))⟩
noncomputable def b12 : FnB := ⟨2, 4, fun cf n0 => (sRet (eLc (iZip (eSl (eMeth cf 1 3 [(0, 7)] (eVar 0) aNil) (pSo (eLit (.int 1))) (pSo (eUn oNeg (eLit (.int 1))))) (eSl (eMeth cf 1 3 [(0, 7)] (eVar 1) aNil) (pSo (eLit (.int 1))) (pSo (eUn oNeg (eLit (.int 1)))))) (gTp [(gNm 2), (gNm 3)]) [2, 3] tYesP (eBin oSub (eVar 2) (eVar 3))))⟩
noncomputable def b13 : FnB := ⟨3, 3, fun cf n0 => (sCons (sFld n0 [1] 4 (eVar 0) (eArg bTuple (aCons (eVar 1) aNil))) (sFld n0 [1] 5 (eVar 0) (eArg bTuple (aCons (eVar 2) aNil))))⟩
noncomputable def b14 : FnB := ⟨2, 2, fun cf n0 => (sRet (eAn (eIsi [(.non, false), (.bl, false), (.int, false), (.str, false), (.tup, false), (.lst, false), (.dct, false), (.own 0, false), (.own 1, true)] (eVar 1)) (eEq cf [(0, 2), (1, 14)] [.non, .bl, .int, .str, .tup, .lst, .dct, .own 0, .own 1] (eTup (aCons (eFld [1] 4 (eVar 0)) (aCons (eFld [1] 5 (eVar 0)) aNil))) (eTup (aCons (eFld [1] 4 (eVar 1)) (aCons (eFld [1] 5 (eVar 1)) aNil))))))⟩
noncomputable def b15 : FnB := ⟨3, 14, fun cf n0 => (sCons (sExp (eCall cf 2 11 (aCons (eVar 1) (aCons (eVar 2) aNil)))) (sCons (sIf (tOr (tBl (eNe cf [(0, 2), (1, 14)] [.non, .bl, .int, .str, .tup, .lst, .dct, .own 0, .own 1] (eLen cf [(0, 3)] (eFld [1] 4 (eVar 0))) (eBin oSub (eLen cf [(0, 3)] (eVar 1)) (eLit (.int 1))))) (tBl (eNe cf [(0, 2), (1, 14)] [.non, .bl, .int, .str, .tup, .lst, .dct, .own 0, .own 1] (eLen cf [(0, 3)] (eFld [1] 5 (eVar 0))) (eLen cf [(0, 3)] (eVar 1))))) (sRet (eLit (.bl false))) sNil) (sCons (sAsg (gNm 3) (eLst (aCons (eLit (.int 0)) (aStar (eFld [1] 4 (eVar 0)) (aCons (eLit (.int 0)) aNil))))) (sCons (sAsg (gNm 4) (eLc (iZip3 (eFld [0] 0 (eVar 1)) (eVar 3) (eSl (eVar 3) (pSo (eLit (.int 1))) pNo)) (gTp [(gNm 6), (gNm 7), (gNm 8)]) [6, 7, 8] tYesP (eBin oSub (eBin oCat (eVar 6) (eVar 7)) (eVar 8)))) (sCons (sIf (tBl (eNe cf [(0, 2), (1, 14)] [.non, .bl, .int, .str, .tup, .lst, .dct, .own 0, .own 1] (eArg bTuple (aCons (eVar 4) aNil)) (eFld [0] 0 (eVar 2)))) (sRet (eLit (.bl false))) sNil) (sCons (sIf (tTru (eArg bAny (aCons (eLc (iZip (eFld [1] 5 (eVar 0)) (eSl (eFld [1] 5 (eVar 0)) (pSo (eLit (.int 1))) pNo)) (gTp [(gNm 9), (gNm 10)]) [9, 10] tYesP (eBin oGt (eArg bAbs (aCons (eBin oSub (eVar 9) (eVar 10)) aNil)) (eLit (.int 1)))) aNil))) (sRet (eLit (.bl false))) sNil) (sCons (sAsg (gNm 5) (eArg bSum (aCons (eLc (iZip3 (eFld [1] 5 (eVar 0)) (eFld [0] 0 (eVar 2)) (eFld [0] 0 (eVar 1))) (gTp [(gNm 11), (gNm 8), (gNm 12)]) [11, 8, 12] tYesP (eBin oRep (eVar 11) (eBin oSub (eVar 8) (eVar 12)))) aNil))) (sRet (eEq cf [(0, 2), (1, 14)] [.non, .bl, .int, .str, .tup, .lst, .dct, .own 0, .own 1] (eVar 5) (eArg bSum (aCons (eLc (iSeq (eFld [1] 4 (eVar 0))) (gNm 13) [13] tYesP (eArg bAbs (aCons (eVar 13) aNil))) aNil)))))))))))⟩
noncomputable def b16 : FnB := ⟨2, 3, fun cf n0 => (sCons (sExp (eCall cf 2 11 (aCons (eVar 0) (aCons (eVar 1) aNil)))) (sRet (eArg bSum (aCons (eLc (iSeq (eCall cf 2 12 (aCons (eVar 0) (aCons (eVar 1) aNil)))) (gNm 2) [2] tYesP (eArg bAbs (aCons (eVar 2) aNil))) aNil))))⟩
noncomputable def b17 : FnB := ⟨2, 5, fun cf n0 => (sCons (sExp (eCall cf 2 11 (aCons (eVar 0) (aCons (eVar 1) aNil)))) (sCons (sPar [2, 3] (aCons (eCall cf 2 12 (aCons (eVar 0) (aCons (eVar 1) aNil))) (aCons (eNew (eLst (aCons (eLit (.int 0)) aNil))) aNil))) (sCons (sFor (iSeq (eVar 2)) (gNm 4) (sExp (eLm (appL n0) (eVar 3) (eBin oCat (eIx cf [(0, 4)] (eVar 3) (eUn oNeg (eLit (.int 1)))) (eIf (tBl (eBin oGt (eVar 4) (eLit (.int 0)))) (eLit (.int 1)) (eIf (tBl (eBin oLt (eVar 4) (eLit (.int 0)))) (eUn oNeg (eLit (.int 1))) (eLit (.int 0)))))))) (sRet (eMake cf 3 1 13 (aCons (eVar 2) (aCons (eVar 3) aNil)))))))⟩
noncomputable def b18 : FnB := ⟨2, 4, fun cf n0 => (sCons (sExp (eCall cf 2 11 (aCons (eVar 0) (aCons (eVar 1) aNil)))) (sRet (eArg bSum (aCons (eLc (iZip (eFld [0] 0 (eVar 0)) (eFld [0] 0 (eVar 1))) (gTp [(gNm 2), (gNm 3)]) [2, 3] tYesP (eArg bMax2 (aCons (eLit (.int 0)) (aCons (eBin oSub (eVar 2) (eVar 3)) aNil)))) aNil))))⟩
noncomputable def b19 : FnB := ⟨2, 4, fun cf n0 => (sCons (sExp (eCall cf 2 11 (aCons (eVar 0) (aCons (eVar 1) aNil)))) (sRet (eArg bMaxL (aCons (eLst (aCons (eLit (.int 0)) (aStar (eLc (iZip (eMeth cf 1 7 [(0, 9)] (eVar 0) aNil) (eMeth cf 1 7 [(0, 9)] (eVar 1) aNil)) (gTp [(gNm 2), (gNm 3)]) [2, 3] tYesP (eArg bAbs (aCons (eBin oSub (eVar 2) (eVar 3)) aNil))) aNil))) aNil))))⟩
noncomputable def b20 : FnB := ⟨2, 8, fun cf n0 => (sCons (sAsg (gNm 2) (eIf (tBl (eNe cf [(0, 2), (1, 14)] [.non, .bl, .int, .str, .tup, .lst, .dct, .own 0, .own 1] (eVar 0) (eLst aNil))) (eSl (eVar 0) pNo (pSo (eLit (.int 63)))) (eLst (aCons (eLit (.int 5)) aNil)))) (sCons (sAsg (gNm 3) (eBin oCat (eIx cf [(0, 4)] (eVar 2) (eBin oMod (eArg bInt (aCons (eVar 1) aNil)) (eLen cf [(0, 3)] (eVar 2)))) (eBin oRep (eLit (.int 13)) (eBin oDiv (eVar 1) (eLen cf [(0, 3)] (eVar 2)))))) (sCons (sPar [4, 5] (aCons (eBin oMod (eArg bInt (aCons (eVar 3) aNil)) (eLit (.int 1000003))) (aCons (eBin oMod (eArg bInt (aCons (eBin oDiv (eVar 3) (eLit (.int 1000003))) aNil)) (eLit (.int 999983))) aNil))) (sCons (sAsg (gNm 6) (eBin oMod (eArg bInt (aCons (eArg bSum (aCons (eVar 2) aNil)) aNil)) (eLit (.int 65521)))) (sCons (sAsg (gNm 7) (eBin oMod (eArg bInt (aCons (eBin oCat (eBin oCat (eBin oRep (eBin oCat (eVar 4) (eBin oRep (eLit (.int 977)) (eVar 1))) (eLit (.int 48271))) (eBin oRep (eLit (.int 31)) (eVar 5))) (eVar 6)) aNil)) (eLit (.int 2147483647)))) (sRet (eBin oCat (eBin oRep (eBin oMod (eArg bInt (aCons (eBin oRep (eVar 7) (eBin oCat (eBin oCat (eVar 7) (eBin oRep (eLit (.int 31)) (eVar 1))) (eLit (.int 7)))) aNil)) (eLit (.int 2147483629))) (eLit (.int 65537))) (eVar 5))))))))⟩
noncomputable def b21 : FnB := ⟨2, 2, fun cf n0 => (sCons (sSetI (setG n0) (eVar 0) (eLit (.int 1)) (eBin oCat (eIx cf [(0, 4)] (eVar 0) (eLit (.int 1))) (eLit (.int 1)))) (sRet (eBin oMod (eArg bInt (aCons (eCall cf 2 20 (aCons (eIx cf [(0, 4)] (eVar 0) (eLit (.int 0))) (aCons (eArg bInt (aCons (eIx cf [(0, 4)] (eVar 0) (eLit (.int 1))) aNil)) aNil))) aNil)) (eVar 1))))⟩
noncomputable def b22 : FnB := ⟨3, 9, fun cf n0 => (sCons (sAsg (gNm 3) (eBin oCat (eLit (.int 1)) (eCall cf 2 21 (aCons (eVar 0) (aCons (eVar 1) aNil))))) (sCons (sAsg (gNm 4) (eNew (eLst aNil))) (sCons (sFor (iRg1 (eLit (.int 2))) (gNm 5) (sCons (sAsg (gNm 6) (eNew (eBin oRep (eLst (aCons (eLit (.int 0)) aNil)) (eVar 3)))) (sCons (sFor (iRg1 (eVar 2)) (gNm 7) (sCons (sAsg (gNm 8) (eCall cf 2 21 (aCons (eVar 0) (aCons (eVar 3) aNil)))) (sCons (sWhl 100 (tBl (eEq cf [(0, 2), (1, 14)] [.non, .bl, .int, .str, .tup, .lst, .dct, .own 0, .own 1] (eIx cf [(0, 4)] (eVar 6) (eVar 8)) (eLit (.int 9)))) (sAsg (gNm 8) (eBin oMod (eBin oCat (eVar 8) (eLit (.int 1))) (eVar 3)))) (sSetI (setG n0) (eVar 6) (eVar 8) (eBin oCat (eIx cf [(0, 4)] (eVar 6) (eVar 8)) (eLit (.int 1))))))) (sExp (eLm (appL n0) (eVar 4) (eVar 6)))))) (sRet (eVar 4)))))⟩
noncomputable def b23 : FnB := ⟨2, 12, fun cf n0 => (sCons (sPar [2, 3, 4] (aCons (eLst (aCons (eArg bTuple (aCons (eVar 0) aNil)) aNil)) (aCons (eNew (eDsp1T (eArg bTuple (aCons (eVar 0) aNil)) (eLit (.bl true)))) (aCons (eLit (.int 0)) aNil)))) (sCons (sWhl 100 (tBl (eBin oNotIn (eArg bTuple (aCons (eVar 1) aNil)) (eVar 3))) (sCons (sAsg (gNm 5) (eNew (eLst aNil))) (sCons (sFor (iSeq (eVar 2)) (gNm 6) (sFor (iRg1 (eLen cf [(0, 3)] (eVar 6))) (gNm 7) (sFor (iSeq (eTup (aCons (eBin oSub (eVar 7) (eLit (.int 1))) (aCons (eBin oCat (eVar 7) (eLit (.int 1))) aNil)))) (gNm 8) (sIf (tAn (tBl (eBin oGt (eIx cf [(0, 4)] (eVar 6) (eVar 7)) (eLit (.int 0)))) (tBl (eCh oLe oLt (eLit (.int 0)) (eVar 8) (eLen cf [(0, 3)] (eVar 6))))) (sCons (sAsg (gNm 9) (eArg bTuple (aCons (eLc (iEnu (eVar 6)) (gTp [(gNm 10), (gNm 11)]) [10, 11] tYesP (eBin oCat (eBin oSub (eVar 11) (eArg bInt (aCons (eEq cf [(0, 2), (1, 14)] [.non, .bl, .int, .str, .tup, .lst, .dct, .own 0, .own 1] (eVar 10) (eVar 7)) aNil))) (eArg bInt (aCons (eEq cf [(0, 2), (1, 14)] [.non, .bl, .int, .str, .tup, .lst, .dct, .own 0, .own 1] (eVar 10) (eVar 8)) aNil)))) aNil))) (sIf (tBl (eBin oNotIn (eVar 9) (eVar 3))) (sCons (sSetI (setG n0) (eVar 3) (eVar 9) (eLit (.bl true))) (sExp (eLm (appL n0) (eVar 5) (eVar 9)))) sNil)) sNil)))) (sPar [2, 4] (aCons (eVar 5) (aCons (eBin oCat (eVar 4) (eLit (.int 1))) aNil)))))) (sRet (eVar 4))))⟩
noncomputable def b24 : FnB := ⟨4, 13, fun cf n0 => (sCons (sIf (tOr (tBl (eNe cf [(0, 2), (1, 14)] [.non, .bl, .int, .str, .tup, .lst, .dct, .own 0, .own 1] (eLen cf [(0, 3)] (eVar 2)) (eBin oSub (eLen cf [(0, 3)] (eVar 0)) (eLit (.int 1))))) (tBl (eNe cf [(0, 2), (1, 14)] [.non, .bl, .int, .str, .tup, .lst, .dct, .own 0, .own 1] (eLen cf [(0, 3)] (eVar 3)) (eLen cf [(0, 3)] (eVar 0))))) (sRet (eLit (.bl false))) sNil) (sCons (sAsg (gNm 4) (eNew (eArg bList (aCons (eVar 0) aNil)))) (sCons (sFor (iEnu (eVar 2)) (gTp [(gNm 5), (gNm 6)]) (sAsgX [(xSub (setG n0) (eVar 4) (eVar 5)), (xSub (setG n0) (eVar 4) (eBin oCat (eVar 5) (eLit (.int 1))))] (eTup (aCons (eBin oSub (eIx cf [(0, 4)] (eVar 4) (eVar 5)) (eVar 6)) (aCons (eBin oCat (eIx cf [(0, 4)] (eVar 4) (eBin oCat (eVar 5) (eLit (.int 1)))) (eVar 6)) aNil))))) (sCons (sIf (tOr (tBl (eNe cf [(0, 2), (1, 14)] [.non, .bl, .int, .str, .tup, .lst, .dct, .own 0, .own 1] (eVar 4) (eArg bList (aCons (eVar 1) aNil)))) (tTru (eArg bAny (aCons (eLc (iZip (eVar 3) (eSl (eVar 3) (pSo (eLit (.int 1))) pNo)) (gTp [(gNm 11), (gNm 12)]) [11, 12] tYesP (eBin oGt (eArg bAbs (aCons (eBin oSub (eVar 11) (eVar 12)) aNil)) (eLit (.int 1)))) aNil)))) (sRet (eLit (.bl false))) sNil) (sCons (sAsg (gNm 7) (eArg bSum (aCons (eLc (iZip3 (eVar 3) (eVar 1) (eVar 0)) (gTp [(gNm 8), (gNm 9), (gNm 10)]) [8, 9, 10] tYesP (eBin oRep (eVar 8) (eBin oSub (eVar 9) (eVar 10)))) aNil))) (sRet (eEq cf [(0, 2), (1, 14)] [.non, .bl, .int, .str, .tup, .lst, .dct, .own 0, .own 1] (eVar 7) (eArg bSum (aCons (eLc (iSeq (eVar 2)) (gNm 6) [6] tYesP (eArg bAbs (aCons (eVar 6) aNil))) aNil)))))))))⟩
noncomputable def b25 : FnB := ⟨6, 15, fun cf n0 => (sCons (sPar [6, 7, 8] (aCons (eFld [1] 4 (eVar 5)) (aCons (eFld [1] 5 (eVar 5)) (aCons (eCall cf 2 21 (aCons (eVar 0) (aCons (eLen cf [(0, 3)] (eVar 1)) aNil))) aNil)))) (sCons (sAsg (gNm 9) (eNew (eLst (aCons (eTup (aCons (eVar 6) (aCons (eArg bTuple (aCons (eLc (iSeq (eVar 7)) (gNm 13) [13] tYesP (eBin oCat (eVar 13) (eLit (.int 3)))) aNil)) aNil))) (aCons (eTup (aCons (eVar 6) (aCons (eRev2 (eVar 7)) aNil))) (aCons (eTup (aCons (eRev2 (eVar 6)) (aCons (eVar 7) aNil))) (aCons (eTup (aCons (eSl (eVar 6) pNo (pSo (eUn oNeg (eLit (.int 1))))) (aCons (eVar 7) aNil))) (aCons (eTup (aCons (eVar 6) (aCons (eSl (eVar 7) pNo (pSo (eUn oNeg (eLit (.int 1))))) aNil))) aNil)))))))) (sCons (sAsg (gNm 9) (eNew (eBin oCat (eVar 9) (eLst (aCons (eTup (aCons (eArg bTuple (aCons (eLc (iSeq (eVar 6)) (gNm 14) [14] tYesP (eUn oNeg (eVar 14))) aNil)) (aCons (eVar 7) aNil))) (aCons (eTup (aCons (eVar 6) (aCons (eArg bTuple (aCons (eLc (iSeq (eVar 7)) (gNm 13) [13] tYesP (eUn oNeg (eVar 13))) aNil)) aNil))) (aCons (eTup (aCons (eVar 6) (aCons (eBin oRepT (eTup (aCons (eLit (.int 0)) aNil)) (eLen cf [(0, 3)] (eVar 1))) aNil))) aNil))))))) (sCons (sFor (iSeq (eTup (aCons (eLit (.int 1)) (aCons (eUn oNeg (eLit (.int 1))) (aCons (eLit (.int 2)) aNil))))) (gNm 10) (sExp (eLm (appL n0) (eVar 9) (eTup (aCons (eVar 6) (aCons (eBin oCat (eBin oCat (eSl (eVar 7) pNo (pSo (eVar 8))) (eTup (aCons (eBin oCat (eIx cf [(0, 4)] (eVar 7) (eVar 8)) (eVar 10)) aNil))) (eSl (eVar 7) (pSo (eBin oCat (eVar 8) (eLit (.int 1)))) pNo)) aNil)))))) (sCons (sIf (tBl (eBin oLt (eVar 8) (eLen cf [(0, 3)] (eVar 6)))) (sExp (eLm (appL n0) (eVar 9) (eTup (aCons (eBin oCat (eBin oCat (eSl (eVar 6) pNo (pSo (eVar 8))) (eTup (aCons (eBin oCat (eIx cf [(0, 4)] (eVar 6) (eVar 8)) (eLit (.int 1))) aNil))) (eSl (eVar 6) (pSo (eBin oCat (eVar 8) (eLit (.int 1)))) pNo)) (aCons (eVar 7) aNil))))) sNil) (sCons (sFor (iSeq (eVar 9)) (gTp [(gNm 11), (gNm 12)]) (sIf (tBl (eNe cf [(0, 2), (1, 14)] [.non, .bl, .int, .str, .tup, .lst, .dct, .own 0, .own 1] (eMeth cf 3 8 [(1, 15)] (eMake cf 3 1 13 (aCons (eVar 11) (aCons (eVar 12) aNil))) (aCons (eVar 3) (aCons (eVar 4) aNil))) (eCall cf 4 24 (aCons (eVar 1) (aCons (eVar 2) (aCons (eVar 11) (aCons (eVar 12) aNil))))))) (sRet (eLit (.bl false))) sNil)) (sRet (eLit (.bl true)))))))))⟩
noncomputable def b26 : FnB := ⟨1, 14, fun cf n0 => (sCons (sAsg (gNm 1) (eNew (eLst (aCons (eVar 0) (aCons (eLit (.int 0)) aNil))))) (sCons (sFor (iRg1 (eLit (.int 2))) (gNm 2) (sCons (sAsg (gTpB [(gNm 3), (gNm 4)]) (eCall cf 3 22 (aCons (eVar 1) (aCons (eLit (.int 4)) (aCons (eCall cf 2 21 (aCons (eVar 1) (aCons (eLit (.int 5)) aNil))) aNil))))) (sCons (sPar [5, 6] (aCons (eMake cf 2 0 1 (aCons (eVar 3) aNil)) (aCons (eMake cf 2 0 1 (aCons (eVar 4) aNil)) aNil))) (sIf (tOr (tBl (eNe cf [(0, 2), (1, 14)] [.non, .bl, .int, .str, .tup, .lst, .dct, .own 0, .own 1] (eCall cf 2 16 (aCons (eVar 5) (aCons (eVar 6) aNil))) (eCall cf 2 23 (aCons (eVar 3) (aCons (eVar 4) aNil))))) (tBl (eNe cf [(0, 2), (1, 14)] [.non, .bl, .int, .str, .tup, .lst, .dct, .own 0, .own 1] (eCall cf 2 16 (aCons (eVar 6) (aCons (eVar 5) aNil))) (eCall cf 2 16 (aCons (eVar 5) (aCons (eVar 6) aNil)))))) (sRet (eLit (.bl false))) sNil)))) (sCons (sFor (iRg1 (eLit (.int 3))) (gNm 2) (sCons (sAsg (gTpB [(gNm 3), (gNm 4)]) (eCall cf 3 22 (aCons (eVar 1) (aCons (eLit (.int 12)) (aCons (eCall cf 2 21 (aCons (eVar 1) (aCons (eLit (.int 9)) aNil))) aNil))))) (sCons (sPar [5, 6, 7] (aCons (eMake cf 2 0 1 (aCons (eVar 3) aNil)) (aCons (eMake cf 2 0 1 (aCons (eVar 4) aNil)) (aCons (eMake cf 2 0 1 (aCons (eRev2 (eVar 3)) aNil)) aNil)))) (sCons (sAsg (gNm 8) (eLz (eMeth cf 1 7 [(0, 9)] (eVar 5) aNil) (eMeth cf 1 7 [(0, 9)] (eVar 6) aNil))) (sCons (sAsg (gNm 9) (eLc (iSeq (eVar 8)) (gTp [(gNm 11), (gNm 12)]) [11, 12] tYesP (eArg bAbs (aCons (eBin oSub (eVar 11) (eVar 12)) aNil)))) (sCons (sIf (tOr (tBl (eNe cf [(0, 2), (1, 14)] [.non, .bl, .int, .str, .tup, .lst, .dct, .own 0, .own 1] (eCall cf 2 16 (aCons (eVar 5) (aCons (eVar 6) aNil))) (eArg bSum (aCons (eVar 9) aNil)))) (tBl (eNe cf [(0, 2), (1, 14)] [.non, .bl, .int, .str, .tup, .lst, .dct, .own 0, .own 1] (eCall cf 2 19 (aCons (eVar 5) (aCons (eVar 6) aNil))) (eArg bMaxL (aCons (eBin oCat (eLst (aCons (eLit (.int 0)) aNil)) (eVar 9)) aNil))))) (sRet (eLit (.bl false))) sNil) (sCons (sIf (tBl (eNe cf [(0, 2), (1, 14)] [.non, .bl, .int, .str, .tup, .lst, .dct, .own 0, .own 1] (eCall cf 2 18 (aCons (eVar 5) (aCons (eVar 6) aNil))) (eBin oSub (eLen cf [(0, 3)] (eLc (iSeq (eMeth cf 1 7 [(0, 9)] (eVar 5) aNil)) (gNm 11) [11] tYesP (eLit (.int 0)))) (eArg bSum (aCons (eLc (iZip (eVar 3) (eVar 4)) (gTp [(gNm 13), (gNm 12)]) [13, 12] tYesP (eArg bMin2 (aCons (eVar 13) (aCons (eVar 12) aNil)))) aNil))))) (sRet (eLit (.bl false))) sNil) (sCons (sIf (tBl (eBin oGt (eCall cf 2 18 (aCons (eVar 5) (aCons (eVar 6) aNil))) (eCall cf 2 16 (aCons (eVar 5) (aCons (eVar 6) aNil))))) (sRet (eLit (.bl false))) sNil) (sCons (sIf (tBl (eBin oGt (eCall cf 2 16 (aCons (eVar 5) (aCons (eVar 7) aNil))) (eBin oCat (eCall cf 2 16 (aCons (eVar 5) (aCons (eVar 6) aNil))) (eCall cf 2 16 (aCons (eVar 6) (aCons (eVar 7) aNil)))))) (sRet (eLit (.bl false))) sNil) (sCons (sAsg (gNm 10) (eCall cf 2 17 (aCons (eVar 5) (aCons (eVar 6) aNil)))) (sCons (sIf (tOr (tNo (tTru (eCall cf 4 24 (aCons (eVar 3) (aCons (eVar 4) (aCons (eFld [1] 4 (eVar 10)) (aCons (eFld [1] 5 (eVar 10)) aNil))))))) (tBl (eBin oNotB (eMeth cf 3 8 [(1, 15)] (eVar 10) (aCons (eVar 5) (aCons (eVar 6) aNil))) (eLit (.bl true))))) (sRet (eLit (.bl false))) sNil) (sIf (tNo (tTru (eCall cf 6 25 (aCons (eVar 1) (aCons (eVar 3) (aCons (eVar 4) (aCons (eVar 5) (aCons (eVar 6) (aCons (eVar 10) aNil))))))))) (sRet (eLit (.bl false))) sNil)))))))))))) (sRet (eLit (.bl true))))))⟩
noncomputable def TT : Nat → Option FnB
  | 0 => some b0
  | 1 => some b1
  | 2 => some b2
  | 3 => some b3
  | 4 => some b4
  | 5 => some b5
  | 6 => some b6
  | 7 => some b7
  | 8 => some b8
  | 9 => some b9
  | 10 => some b10
  | 11 => some b11
  | 12 => some b12
  | 13 => some b13
  | 14 => some b14
  | 15 => some b15
  | 16 => some b16
  | 17 => some b17
  | 18 => some b18
  | 19 => some b19
  | 20 => some b20
  | 21 => some b21
  | 22 => some b22
  | 23 => some b23
  | 24 => some b24
  | 25 => some b25
  | 26 => some b26
  | _ => none
end PX.K63
set_option Elab.async false
set_option linter.all false
set_option maxRecDepth 100000
set_option maxHeartbeats 4000000
namespace PX.K63
open PySem PySem.Spec PyProof.Rows L2 He PX
def top (i : Nat) : Stmt := PySem.Challenge.pw_bucketsums_k63_whole_moving.main.body.getD i (.Pass ⟨0, 0, 0, 0⟩)
def fs : List (Str × Option Str) := ("is_number", none) :: ("Column", some "__init__") :: ("Column", some "__eq__") :: ("Column", some "__len__") :: ("Column", some "__getitem__") :: ("Column", some "__iter__") :: ("Column", some "rows") :: ("Column", some "prefixes") :: ("Column", some "steps") :: ("Column", some "sorted_rows") :: ("check_column", none) :: ("check_pair", none) :: ("flows_of", none) :: ("Moved", some "__init__") :: ("Moved", some "__eq__") :: ("Moved", some "shows") :: ("least_steps", none) :: ("move_rows", none) :: ("fewest_changed", none) :: ("farthest_row", none) :: ("_law_number", none) :: ("_law_take", none) :: ("_law_pair", none) :: ("_law_search", none) :: ("_law_shows", none) :: ("_law_bent_right", none) :: ("law", none) :: []
def cs : List Str := ["Column", "Moved"]
def nms : List Str := ["counts", "extend", "rows", "prefixes", "flows", "heights", "append", "sorted_rows", "shows", "__init__", "__eq__", "__len__", "__getitem__", "__iter__", "steps"]
abbrev GG : PySem.W.Frag → Gam := gam fs cs nms
def fb : List Ck := [cCls GG [0, 1],
  cFree "isinstance",
  cFree "int",
  cKit GG [(.non, false), (.bl, true), (.int, true), (.str, false), (.tup, false), (.lst, false), (.dct, false), (.own 0, false), (.own 1, false)] (fun K => (.type "int")),
  cFree "bool",
  cKit GG [(.non, false), (.bl, true), (.int, false), (.str, false), (.tup, false), (.lst, false), (.dct, false), (.own 0, false), (.own 1, false)] (fun K => (.type "bool")),
  cFree "list",
  cFree "tuple",
  cKitT GG [(.non, false), (.bl, false), (.int, false), (.str, false), (.tup, true), (.lst, true), (.dct, false), (.own 0, false), (.own 1, false)] (fun K => [(.type "list"), (.type "tuple")]),
  cSpc GG [(0, 3)] "__len__",
  cFree "len",
  cInt "MOST_VALUES" (12),
  cGlo "is_number",
  cKeep GG 0,
  cInt "MOST_COUNT" (9),
  cFree "all",
  cFld GG 0 [0],
  cGlo "Column",
  cKit GG [(.non, false), (.bl, false), (.int, false), (.str, false), (.tup, false), (.lst, false), (.dct, false), (.own 0, true), (.own 1, false)] (fun K => (.ref ((GG K).ca 0))),
  cSpc GG [(0, 2), (1, 14)] "__eq__",
  cNe GG [(0, 2), (1, 14)],
  cNf GG [(0, 2), (1, 14)] [.non, .bl, .int, .str, .tup, .lst, .dct, .own 0, .own 1],
  cSpc GG [(0, 4)] "__getitem__",
  cFree "sum",
  cFree "range",
  cFree "zip",
  cFree "enumerate",
  cGlo "check_column",
  cKeep GG 10,
  cMet GG 2 [(0, 6)],
  cMet GG 3 [(0, 7)],
  cFld GG 4 [1],
  cFld GG 5 [1],
  cGlo "Moved",
  cKit GG [(.non, false), (.bl, false), (.int, false), (.str, false), (.tup, false), (.lst, false), (.dct, false), (.own 0, false), (.own 1, true)] (fun K => (.ref ((GG K).ca 1))),
  cGlo "check_pair",
  cKeep GG 11,
  cFree "abs",
  cFree "any",
  cGlo "flows_of",
  cKeep GG 12,
  cMk GG 1 13,
  cFree "max",
  cMet GG 7 [(0, 9)],
  cGlo "_law_number",
  cKeep GG 20,
  cGlo "_law_take",
  cKeep GG 21,
  cMet GG 8 [(1, 15)],
  cGlo "_law_shows",
  cKeep GG 24,
  cGlo "_law_pair",
  cKeep GG 22,
  cMk GG 0 1,
  cGlo "least_steps",
  cKeep GG 16,
  cGlo "_law_search",
  cKeep GG 23,
  cGlo "farthest_row",
  cKeep GG 19,
  cGlo "fewest_changed",
  cKeep GG 18,
  cFree "min",
  cGlo "move_rows",
  cKeep GG 17,
  cGlo "_law_bent_right",
  cKeep GG 25,
  cGlo "law",
  cKeep GG 26]
def d0 : DefD := ⟨("is_number", none), "is_number", "is_number", defArgs (top 10), defBody (top 10), defScope (top 10), [], []⟩
def d1 : DefD := ⟨("Column", some "__init__"), "__init__", "Column.__init__", defArgs (inClass (top 11) 0), defBody (inClass (top 11) 0), defScope (inClass (top 11) 0), [], []⟩
def d2 : DefD := ⟨("Column", some "__eq__"), "__eq__", "Column.__eq__", defArgs (inClass (top 11) 1), defBody (inClass (top 11) 1), defScope (inClass (top 11) 1), [], []⟩
def d3 : DefD := ⟨("Column", some "__len__"), "__len__", "Column.__len__", defArgs (inClass (top 11) 2), defBody (inClass (top 11) 2), defScope (inClass (top 11) 2), [], []⟩
def d4 : DefD := ⟨("Column", some "__getitem__"), "__getitem__", "Column.__getitem__", defArgs (inClass (top 11) 3), defBody (inClass (top 11) 3), defScope (inClass (top 11) 3), [], []⟩
def d5 : DefD := ⟨("Column", some "__iter__"), "__iter__", "Column.__iter__", defArgs (inClass (top 11) 4), defBody (inClass (top 11) 4), defScope (inClass (top 11) 4), [], []⟩
def d6 : DefD := ⟨("Column", some "rows"), "rows", "Column.rows", defArgs (inClass (top 11) 5), defBody (inClass (top 11) 5), defScope (inClass (top 11) 5), [], []⟩
def d7 : DefD := ⟨("Column", some "prefixes"), "prefixes", "Column.prefixes", defArgs (inClass (top 11) 6), defBody (inClass (top 11) 6), defScope (inClass (top 11) 6), [], []⟩
def d8 : DefD := ⟨("Column", some "steps"), "steps", "Column.steps", defArgs (inClass (top 11) 9), defBody (inClass (top 11) 9), defScope (inClass (top 11) 9), [], []⟩
def d9 : DefD := ⟨("Column", some "sorted_rows"), "sorted_rows", "Column.sorted_rows", defArgs (inClass (top 11) 10), defBody (inClass (top 11) 10), defScope (inClass (top 11) 10), [], []⟩
def d10 : DefD := ⟨("check_column", none), "check_column", "check_column", defArgs (top 12), defBody (top 12), defScope (top 12), [], []⟩
def d11 : DefD := ⟨("check_pair", none), "check_pair", "check_pair", defArgs (top 14), defBody (top 14), defScope (top 14), [], []⟩
def d12 : DefD := ⟨("flows_of", none), "flows_of", "flows_of", defArgs (top 15), defBody (top 15), defScope (top 15), [], []⟩
def d13 : DefD := ⟨("Moved", some "__init__"), "__init__", "Moved.__init__", defArgs (inClass (top 16) 0), defBody (inClass (top 16) 0), defScope (inClass (top 16) 0), [], []⟩
def d14 : DefD := ⟨("Moved", some "__eq__"), "__eq__", "Moved.__eq__", defArgs (inClass (top 16) 1), defBody (inClass (top 16) 1), defScope (inClass (top 16) 1), [], []⟩
def d15 : DefD := ⟨("Moved", some "shows"), "shows", "Moved.shows", defArgs (inClass (top 16) 2), defBody (inClass (top 16) 2), defScope (inClass (top 16) 2), [], []⟩
def d16 : DefD := ⟨("least_steps", none), "least_steps", "least_steps", defArgs (top 17), defBody (top 17), defScope (top 17), [], []⟩
def d17 : DefD := ⟨("move_rows", none), "move_rows", "move_rows", defArgs (top 18), defBody (top 18), defScope (top 18), [], []⟩
def d18 : DefD := ⟨("fewest_changed", none), "fewest_changed", "fewest_changed", defArgs (top 19), defBody (top 19), defScope (top 19), [], []⟩
def d19 : DefD := ⟨("farthest_row", none), "farthest_row", "farthest_row", defArgs (top 20), defBody (top 20), defScope (top 20), [], []⟩
def d20 : DefD := ⟨("_law_number", none), "_law_number", "_law_number", defArgs (top 22), defBody (top 22), defScope (top 22), [], []⟩
def d21 : DefD := ⟨("_law_take", none), "_law_take", "_law_take", defArgs (top 23), defBody (top 23), defScope (top 23), [], []⟩
def d22 : DefD := ⟨("_law_pair", none), "_law_pair", "_law_pair", defArgs (top 24), defBody (top 24), defScope (top 24), [], []⟩
def d23 : DefD := ⟨("_law_search", none), "_law_search", "_law_search", defArgs (top 25), defBody (top 25), defScope (top 25), [], []⟩
def d24 : DefD := ⟨("_law_shows", none), "_law_shows", "_law_shows", defArgs (top 26), defBody (top 26), defScope (top 26), [], []⟩
def d25 : DefD := ⟨("_law_bent_right", none), "_law_bent_right", "_law_bent_right", defArgs (top 27), defBody (top 27), defScope (top 27), [], []⟩
def d26 : DefD := ⟨("law", none), "law", "law", defArgs (top 28), defBody (top 28), defScope (top 28), [], []⟩
def fn : List DefD := [d0, d1, d2, d3, d4, d5, d6, d7, d8, d9, d10, d11, d12, d13, d14, d15, d16, d17, d18, d19, d20, d21, d22, d23, d24, d25, d26]
structure Ctx (K : PySem.W.Frag) (base : Heap) (mg : Str → Option Value) : Prop where
  inn : K.In base
  ns : base.Ns mainGlobals mg
  says : SaysP fb fn K
theorem inj {K : PySem.W.Frag} (i : Nat) (hi : i < nms.length) : Inj (GG K) i := inj_nm i hi (by decide +kernel) (by decide +kernel)
section
variable {P : Program} {w : World} {K : PySem.W.Frag} {mg : Str → Option Value} {base : Heap}
theorem m_clsall (C : Ctx K base mg) : cCls GG [0, 1] K = true := C.says.fact 0 rfl
theorem m_b_isinstance (C : Ctx K base mg) : mg "isinstance" = none := cFree_ok C.inn C.ns (C.says.fact 1 rfl)
theorem m_b_int (C : Ctx K base mg) : mg "int" = none := cFree_ok C.inn C.ns (C.says.fact 2 rfl)
theorem m_kit_intty (C : Ctx K base mg) : ∀ t b, (t, b) ∈ ([(.non, false), (.bl, true), (.int, true), (.str, false), (.tup, false), (.lst, false), (.dct, false), (.own 0, false), (.own 1, false)] : List (TyN × Bool)) → PySem.W.kitOne (GG K).K (t.val (GG K)) (.type "int") = some b ∧ ∀ c, t = .own c → ClsI (GG K) c := cKit_ok (G := GG) (cu := fun K => (.type "int")) rfl (C.says.fact 3 rfl) (m_clsall C) (by decide)
theorem m_b_bool (C : Ctx K base mg) : mg "bool" = none := cFree_ok C.inn C.ns (C.says.fact 4 rfl)
theorem m_kit_boolty (C : Ctx K base mg) : ∀ t b, (t, b) ∈ ([(.non, false), (.bl, true), (.int, false), (.str, false), (.tup, false), (.lst, false), (.dct, false), (.own 0, false), (.own 1, false)] : List (TyN × Bool)) → PySem.W.kitOne (GG K).K (t.val (GG K)) (.type "bool") = some b ∧ ∀ c, t = .own c → ClsI (GG K) c := cKit_ok (G := GG) (cu := fun K => (.type "bool")) rfl (C.says.fact 5 rfl) (m_clsall C) (by decide)
theorem m_b_list (C : Ctx K base mg) : mg "list" = none := cFree_ok C.inn C.ns (C.says.fact 6 rfl)
theorem m_b_tuple (C : Ctx K base mg) : mg "tuple" = none := cFree_ok C.inn C.ns (C.says.fact 7 rfl)
theorem m_kitT_list_tuple (C : Ctx K base mg) : ∀ t b, (t, b) ∈ ([(.non, false), (.bl, false), (.int, false), (.str, false), (.tup, true), (.lst, true), (.dct, false), (.own 0, false), (.own 1, false)] : List (TyN × Bool)) → PySem.W.kitAny (GG K).K (t.val (GG K)) [(.type "list"), (.type "tuple")] = some b ∧ ∀ c, t = .own c → ClsI (GG K) c := cKitT_ok (G := GG) (cus := fun K => [(.type "list"), (.type "tuple")]) rfl (C.says.fact 8 rfl) (m_clsall C) (by decide)
theorem m_spc___len__ (C : Ctx K base mg) : ∀ p ∈ ([(0, 3)] : List (Nat × Nat)), Spc (GG K).K ((GG K).ca p.1) ((GG K).fa p.2) "__len__" ∧ PySem.W.fnIn (GG K).K ((GG K).fa p.2) = true := cSpc_ok rfl (C.says.fact 9 rfl)
theorem m_b_len (C : Ctx K base mg) : mg "len" = none := cFree_ok C.inn C.ns (C.says.fact 10 rfl)
theorem m_i_MOST_VALUES (C : Ctx K base mg) : ∃ u, mg "MOST_VALUES" = some u ∧ RelV (.int (12)) u := cInt_ok C.inn C.ns (C.says.fact 11 rfl)
theorem m_f_is_number (C : Ctx K base mg) : mg "is_number" = some (.ref ((GG K).fa 0)) := cGlo_ok C.inn C.ns (C.says.fact 12 rfl)
theorem m_k_is_number (C : Ctx K base mg) : PySem.W.keepIn K (.ref ((GG K).fa 0)) = true := C.says.fact 13 rfl
theorem m_i_MOST_COUNT (C : Ctx K base mg) : ∃ u, mg "MOST_COUNT" = some u ∧ RelV (.int (9)) u := cInt_ok C.inn C.ns (C.says.fact 14 rfl)
theorem m_b_all (C : Ctx K base mg) : mg "all" = none := cFree_ok C.inn C.ns (C.says.fact 15 rfl)
theorem m_fld_counts (C : Ctx K base mg) : ∀ c ∈ ([0] : List Nat), Cls (GG K).K ((GG K).ca c) ∧ NoAttr (GG K).K ((GG K).ca c) ((GG K).nm 0) := cFld_ok rfl (C.says.fact 16 rfl)
theorem m_c_Column (C : Ctx K base mg) : mg "Column" = some (.ref ((GG K).ca 0)) := cGlo_ok C.inn C.ns (C.says.fact 17 rfl)
theorem m_kit_0own (C : Ctx K base mg) : ∀ t b, (t, b) ∈ ([(.non, false), (.bl, false), (.int, false), (.str, false), (.tup, false), (.lst, false), (.dct, false), (.own 0, true), (.own 1, false)] : List (TyN × Bool)) → PySem.W.kitOne (GG K).K (t.val (GG K)) (.ref ((GG K).ca 0)) = some b ∧ ∀ c, t = .own c → ClsI (GG K) c := cKit_ok (G := GG) (cu := fun K => (.ref ((GG K).ca 0))) rfl (C.says.fact 18 rfl) (m_clsall C) (by decide)
theorem m_eq_spc (C : Ctx K base mg) : cSpc GG [(0, 2), (1, 14)] "__eq__" K = true := C.says.fact 19 rfl
theorem m_eq_ne (C : Ctx K base mg) : cNe GG [(0, 2), (1, 14)] K = true := C.says.fact 20 rfl
theorem m_eq_nf (C : Ctx K base mg) : cNf GG [(0, 2), (1, 14)] [.non, .bl, .int, .str, .tup, .lst, .dct, .own 0, .own 1] K = true := C.says.fact 21 rfl
theorem m_spc___getitem__ (C : Ctx K base mg) : ∀ p ∈ ([(0, 4)] : List (Nat × Nat)), Spc (GG K).K ((GG K).ca p.1) ((GG K).fa p.2) "__getitem__" ∧ PySem.W.fnIn (GG K).K ((GG K).fa p.2) = true := cSpc_ok rfl (C.says.fact 22 rfl)
theorem m_b_sum (C : Ctx K base mg) : mg "sum" = none := cFree_ok C.inn C.ns (C.says.fact 23 rfl)
theorem m_b_range (C : Ctx K base mg) : mg "range" = none := cFree_ok C.inn C.ns (C.says.fact 24 rfl)
theorem m_b_zip (C : Ctx K base mg) : mg "zip" = none := cFree_ok C.inn C.ns (C.says.fact 25 rfl)
theorem m_b_enumerate (C : Ctx K base mg) : mg "enumerate" = none := cFree_ok C.inn C.ns (C.says.fact 26 rfl)
theorem m_f_check_column (C : Ctx K base mg) : mg "check_column" = some (.ref ((GG K).fa 10)) := cGlo_ok C.inn C.ns (C.says.fact 27 rfl)
theorem m_k_check_column (C : Ctx K base mg) : PySem.W.keepIn K (.ref ((GG K).fa 10)) = true := C.says.fact 28 rfl
theorem m_met_rows (C : Ctx K base mg) : ∀ p ∈ ([(0, 6)] : List (Nat × Nat)), Cls (GG K).K ((GG K).ca p.1) ∧ Meth (GG K).K ((GG K).ca p.1) ((GG K).nm 2) ((GG K).fa p.2) := cMet_ok rfl (C.says.fact 29 rfl)
theorem m_met_prefixes (C : Ctx K base mg) : ∀ p ∈ ([(0, 7)] : List (Nat × Nat)), Cls (GG K).K ((GG K).ca p.1) ∧ Meth (GG K).K ((GG K).ca p.1) ((GG K).nm 3) ((GG K).fa p.2) := cMet_ok rfl (C.says.fact 30 rfl)
theorem m_fld_flows (C : Ctx K base mg) : ∀ c ∈ ([1] : List Nat), Cls (GG K).K ((GG K).ca c) ∧ NoAttr (GG K).K ((GG K).ca c) ((GG K).nm 4) := cFld_ok rfl (C.says.fact 31 rfl)
theorem m_fld_heights (C : Ctx K base mg) : ∀ c ∈ ([1] : List Nat), Cls (GG K).K ((GG K).ca c) ∧ NoAttr (GG K).K ((GG K).ca c) ((GG K).nm 5) := cFld_ok rfl (C.says.fact 32 rfl)
theorem m_c_Moved (C : Ctx K base mg) : mg "Moved" = some (.ref ((GG K).ca 1)) := cGlo_ok C.inn C.ns (C.says.fact 33 rfl)
theorem m_kit_1own (C : Ctx K base mg) : ∀ t b, (t, b) ∈ ([(.non, false), (.bl, false), (.int, false), (.str, false), (.tup, false), (.lst, false), (.dct, false), (.own 0, false), (.own 1, true)] : List (TyN × Bool)) → PySem.W.kitOne (GG K).K (t.val (GG K)) (.ref ((GG K).ca 1)) = some b ∧ ∀ c, t = .own c → ClsI (GG K) c := cKit_ok (G := GG) (cu := fun K => (.ref ((GG K).ca 1))) rfl (C.says.fact 34 rfl) (m_clsall C) (by decide)
theorem m_f_check_pair (C : Ctx K base mg) : mg "check_pair" = some (.ref ((GG K).fa 11)) := cGlo_ok C.inn C.ns (C.says.fact 35 rfl)
theorem m_k_check_pair (C : Ctx K base mg) : PySem.W.keepIn K (.ref ((GG K).fa 11)) = true := C.says.fact 36 rfl
theorem m_b_abs (C : Ctx K base mg) : mg "abs" = none := cFree_ok C.inn C.ns (C.says.fact 37 rfl)
theorem m_b_any (C : Ctx K base mg) : mg "any" = none := cFree_ok C.inn C.ns (C.says.fact 38 rfl)
theorem m_f_flows_of (C : Ctx K base mg) : mg "flows_of" = some (.ref ((GG K).fa 12)) := cGlo_ok C.inn C.ns (C.says.fact 39 rfl)
theorem m_k_flows_of (C : Ctx K base mg) : PySem.W.keepIn K (.ref ((GG K).fa 12)) = true := C.says.fact 40 rfl
theorem m_mk_Moved (C : Ctx K base mg) : Mk (GG K).K ((GG K).ca 1) ((GG K).fa 13) := cMk_ok rfl (C.says.fact 41 rfl)
theorem m_b_max (C : Ctx K base mg) : mg "max" = none := cFree_ok C.inn C.ns (C.says.fact 42 rfl)
theorem m_met_sorted_rows (C : Ctx K base mg) : ∀ p ∈ ([(0, 9)] : List (Nat × Nat)), Cls (GG K).K ((GG K).ca p.1) ∧ Meth (GG K).K ((GG K).ca p.1) ((GG K).nm 7) ((GG K).fa p.2) := cMet_ok rfl (C.says.fact 43 rfl)
theorem m_f__law_number (C : Ctx K base mg) : mg "_law_number" = some (.ref ((GG K).fa 20)) := cGlo_ok C.inn C.ns (C.says.fact 44 rfl)
theorem m_k__law_number (C : Ctx K base mg) : PySem.W.keepIn K (.ref ((GG K).fa 20)) = true := C.says.fact 45 rfl
theorem m_f__law_take (C : Ctx K base mg) : mg "_law_take" = some (.ref ((GG K).fa 21)) := cGlo_ok C.inn C.ns (C.says.fact 46 rfl)
theorem m_k__law_take (C : Ctx K base mg) : PySem.W.keepIn K (.ref ((GG K).fa 21)) = true := C.says.fact 47 rfl
theorem m_met_shows (C : Ctx K base mg) : ∀ p ∈ ([(1, 15)] : List (Nat × Nat)), Cls (GG K).K ((GG K).ca p.1) ∧ Meth (GG K).K ((GG K).ca p.1) ((GG K).nm 8) ((GG K).fa p.2) := cMet_ok rfl (C.says.fact 48 rfl)
theorem m_f__law_shows (C : Ctx K base mg) : mg "_law_shows" = some (.ref ((GG K).fa 24)) := cGlo_ok C.inn C.ns (C.says.fact 49 rfl)
theorem m_k__law_shows (C : Ctx K base mg) : PySem.W.keepIn K (.ref ((GG K).fa 24)) = true := C.says.fact 50 rfl
theorem m_f__law_pair (C : Ctx K base mg) : mg "_law_pair" = some (.ref ((GG K).fa 22)) := cGlo_ok C.inn C.ns (C.says.fact 51 rfl)
theorem m_k__law_pair (C : Ctx K base mg) : PySem.W.keepIn K (.ref ((GG K).fa 22)) = true := C.says.fact 52 rfl
theorem m_mk_Column (C : Ctx K base mg) : Mk (GG K).K ((GG K).ca 0) ((GG K).fa 1) := cMk_ok rfl (C.says.fact 53 rfl)
theorem m_f_least_steps (C : Ctx K base mg) : mg "least_steps" = some (.ref ((GG K).fa 16)) := cGlo_ok C.inn C.ns (C.says.fact 54 rfl)
theorem m_k_least_steps (C : Ctx K base mg) : PySem.W.keepIn K (.ref ((GG K).fa 16)) = true := C.says.fact 55 rfl
theorem m_f__law_search (C : Ctx K base mg) : mg "_law_search" = some (.ref ((GG K).fa 23)) := cGlo_ok C.inn C.ns (C.says.fact 56 rfl)
theorem m_k__law_search (C : Ctx K base mg) : PySem.W.keepIn K (.ref ((GG K).fa 23)) = true := C.says.fact 57 rfl
theorem m_f_farthest_row (C : Ctx K base mg) : mg "farthest_row" = some (.ref ((GG K).fa 19)) := cGlo_ok C.inn C.ns (C.says.fact 58 rfl)
theorem m_k_farthest_row (C : Ctx K base mg) : PySem.W.keepIn K (.ref ((GG K).fa 19)) = true := C.says.fact 59 rfl
theorem m_f_fewest_changed (C : Ctx K base mg) : mg "fewest_changed" = some (.ref ((GG K).fa 18)) := cGlo_ok C.inn C.ns (C.says.fact 60 rfl)
theorem m_k_fewest_changed (C : Ctx K base mg) : PySem.W.keepIn K (.ref ((GG K).fa 18)) = true := C.says.fact 61 rfl
theorem m_b_min (C : Ctx K base mg) : mg "min" = none := cFree_ok C.inn C.ns (C.says.fact 62 rfl)
theorem m_f_move_rows (C : Ctx K base mg) : mg "move_rows" = some (.ref ((GG K).fa 17)) := cGlo_ok C.inn C.ns (C.says.fact 63 rfl)
theorem m_k_move_rows (C : Ctx K base mg) : PySem.W.keepIn K (.ref ((GG K).fa 17)) = true := C.says.fact 64 rfl
theorem m_f__law_bent_right (C : Ctx K base mg) : mg "_law_bent_right" = some (.ref ((GG K).fa 25)) := cGlo_ok C.inn C.ns (C.says.fact 65 rfl)
theorem m_k__law_bent_right (C : Ctx K base mg) : PySem.W.keepIn K (.ref ((GG K).fa 25)) = true := C.says.fact 66 rfl
theorem m_f_law (C : Ctx K base mg) : mg "law" = some (.ref ((GG K).fa 26)) := cGlo_ok C.inn C.ns (C.says.fact 67 rfl)
theorem m_eqt (C : Ctx K base mg) : EqT (GG K) [(0, 2), (1, 14)] [.non, .bl, .int, .str, .tup, .lst, .dct, .own 0, .own 1] := cEq_ok rfl (m_eq_spc C) (m_eq_ne C) (m_eq_nf C) (m_clsall C) (by decide)
abbrev N0 : List Str := ["thing", "least", "most"]
theorem sc0 : FnScope N0 ["thing", "least", "most"] (defScope (top 10)) := ⟨rfl, rfl, rfl, by decide +kernel, rfl, by decide +kernel, by decide +kernel⟩
theorem dv0 {n : Nat} {cf : CF} (C : Ctx K base mg) (ih : ∀ f np, FnR P w K mg base L2.CX0 (2 * n) ((GG K).fa f) (spF (GG K) cf f np)) (cdv : Value) (A : Around) (outer : List PySem.Env) (s : Shared) (H : Hp) (E : XK) (n0 : Nat) (hr : Room (2 * n + 1) (A.deeper (envOfC "is_number" (defScope (top 10)) s.heap.objs.size ((GG K).fa 0) cdv))) :
    PSs (cxOf L2.CX0 P w K mg base N0 "is_number" (defScope (top 10)) ((GG K).fa 0) cdv A outer s H E).nox (defBody (top 10)) (rdS (GG K) n0 (sRet (eAn (eIsi [(.non, false), (.bl, true), (.int, true), (.str, false), (.tup, false), (.lst, false), (.dct, false), (.own 0, false), (.own 1, false)] (eVar 0)) (eAn (eNot (eIsi [(.non, false), (.bl, true), (.int, false), (.str, false), (.tup, false), (.lst, false), (.dct, false), (.own 0, false), (.own 1, false)] (eVar 0))) (eCh oLe oLe (eVar 1) (eVar 0) (eVar 2)))))) := by
  have T : Tb (cxOf L2.CX0 P w K mg base N0 "is_number" (defScope (top 10)) ((GG K).fa 0) cdv A outer s H E).nox (GG K) cf (2 * n) := ⟨rfl, ih, hr, rfl⟩
  have nd := sc0.nd
  exact (ss_one (ss_ret (se_and rfl (se_isi1 (cv := (.ty "int")) (cu := (.type "int")) rfl rfl (m_b_isinstance C) (by rfl) (.ty _) (m_kit_intty C) (se_var (pv 0)) (pe_bltn (v := .ty "int") (u := .type "int") rfl (m_b_int C) (by rfl) rfl (by decide))) (se_and rfl (se_not rfl (se_isi1 (cv := (.ty "bool")) (cu := (.type "bool")) rfl rfl (m_b_isinstance C) (by rfl) (.ty _) (m_kit_boolty C) (se_var (pv 0)) (pe_bltn (v := .ty "bool") (u := .type "bool") rfl (m_b_bool C) (by rfl) rfl (by decide)))) (se_one (se_ch op_le ok_le op_le ok_le (se_var (pv 1)) (se_var (pv 0)) (se_var (pv 2)) (pe_chain op_le op_le (toV (se_var (pv 1))) (toV (se_var (pv 0))) (toV (se_var (pv 2))))))))))
theorem ok0 {n : Nat} (C : Ctx K base mg) (ih : All P w K mg base (GG K) TT n) : ∀ np, FnR P w K mg base L2.CX0 (2 * (n + 1)) ((GG K).fa 0) (spF (GG K) (callF TT (n + 1)) 0 np) := by
  obtain ⟨fd, F⟩ := C.says.def_ 0 (d := d0) rfl
  exact def_ok (b := b0) rfl F sc0 rfl rfl (FunD_binds F fun _ _ _ _ _ _ us hl => match us, hl with | [_, _, _], _ => rfl) fun cdv A outer s H E n0 hr => dv0 C ih cdv A outer s H E n0 hr
abbrev N1 : List Str := ["self", "counts", "count"]
theorem sc1 : FnScope N1 ["self", "counts"] (defScope (inClass (top 11) 0)) := ⟨rfl, rfl, rfl, by decide +kernel, rfl, by decide +kernel, by decide +kernel⟩
theorem dv1 {n : Nat} {cf : CF} (C : Ctx K base mg) (ih : ∀ f np, FnR P w K mg base L2.CX0 (2 * n) ((GG K).fa f) (spF (GG K) cf f np)) (cdv : Value) (A : Around) (outer : List PySem.Env) (s : Shared) (H : Hp) (E : XK) (n0 : Nat) (hr : Room (2 * n + 1) (A.deeper (envOfC "Column.__init__" (defScope (inClass (top 11) 0)) s.heap.objs.size ((GG K).fa 1) cdv))) :
    PSs (cxOf L2.CX0 P w K mg base N1 "Column.__init__" (defScope (inClass (top 11) 0)) ((GG K).fa 1) cdv A outer s H E).nox (defBody (inClass (top 11) 0)) (rdS (GG K) n0 (sCons (sIf (tOr (tNo (tTru (eIsi [(.non, false), (.bl, false), (.int, false), (.str, false), (.tup, true), (.lst, true), (.dct, false), (.own 0, false), (.own 1, false)] (eVar 1)))) (tNo (tBl (eCh oLe oLe (eLit (.int 1)) (eLen cf [(0, 3)] (eVar 1)) (eLit (.int (12))))))) sNo sNil) (sCons (sIf (tNo (tTru (eArg bAll (aCons (eLc (iSeq (eVar 1)) (gNm 2) [2] tYesP (eCall cf 3 0 (aCons (eVar 2) (aCons (eLit (.int 0)) (aCons (eLit (.int (9))) aNil))))) aNil)))) sNo sNil) (sFld n0 [0] 0 (eVar 0) (eArg bTuple (aCons (eVar 1) aNil)))))) := by
  have T : Tb (cxOf L2.CX0 P w K mg base N1 "Column.__init__" (defScope (inClass (top 11) 0)) ((GG K).fa 1) cdv A outer s H E).nox (GG K) cf (2 * n) := ⟨rfl, ih, hr, rfl⟩
  have nd := sc1.nd
  exact (ss_cons (ss_if (PW.pt (sw_or (st_no (st_tru rfl (se_isiT (cvs := [(.ty "list"), (.ty "tuple")]) (cus := [(.type "list"), (.type "tuple")]) rfl rfl (m_b_isinstance C) (by rfl) (.cons (.ty _) (.cons (.ty _) .nil)) (m_kitT_list_tuple C) (se_var (pv 1)) (pa_cons (pe_bltn (v := .ty "list") (u := .type "list") rfl (m_b_list C) (by rfl) rfl (by decide)) (pa_cons (pe_bltn (v := .ty "tuple") (u := .type "tuple") rfl (m_b_tuple C) (by rfl) rfl (by decide)) pa_nil)) (fun _ _ _ h => h) (by decide)))) (sw_one (st_no (st_ch op_le ok_le op_le ok_le (se_lit pe_int fun _ _ => rfl) (se_len T rfl (m_b_len C) (fun p hp => ((m_spc___len__ C) p hp).1) (se_var (pv 1))) (se_lit (C8.pe_gc rfl (m_i_MOST_VALUES C)) fun _ _ => rfl)))))) (ss_one ss_no) ss_nil)
 (ss_cons (ss_if (st_no (st_tru rfl (se_argB (pe_callB (cr_all rfl) rfl (m_b_all C) (by rfl) (sa_cons (se_lc (own := [("count", 2)]) rfl nd (si_seq rfl (se_var (pv 1))) (blk_ok (own := [("count", 2)]) (by kernel_rfl)) (tb_nm 2 (by decide)) (fun _ _ _ _ _ => (pg_name (i := 2) nd rfl (by first | exact Or.inl rfl | exact Or.inr rfl))) (fun _ _ _ _ _ => sts_nil) (fun _ _ _ _ _ => (sx_call (T.blk _ _ _ _ _) rfl (m_f_is_number C) (m_k_is_number C) (sa_cons (se_var (pv 2)) (sa_cons (se_lit pe_int fun _ _ => rfl) (sa_cons (se_lit (C8.pe_gc rfl (m_i_MOST_COUNT C)) fun _ _ => rfl) sa_nil)))))) sa_nil)) ok_all))) (ss_one ss_no) ss_nil)
 (ss_one (ss_fld (f := 0) rfl (inj 0 (by decide)) (m_fld_counts C) (se_var (pv 0)) (se_argB (pe_callTy call_tuple_of rfl (m_b_tuple C) (by rfl) (sa_cons (se_var (pv 1)) sa_nil)) ok_tuple)))))
theorem ok1 {n : Nat} (C : Ctx K base mg) (ih : All P w K mg base (GG K) TT n) : ∀ np, FnR P w K mg base L2.CX0 (2 * (n + 1)) ((GG K).fa 1) (spF (GG K) (callF TT (n + 1)) 1 np) := by
  obtain ⟨fd, F⟩ := C.says.def_ 1 (d := d1) rfl
  exact def_ok (b := b1) rfl F sc1 rfl rfl (FunD_binds F fun _ _ _ _ _ _ us hl => match us, hl with | [_, _], _ => rfl) fun cdv A outer s H E n0 hr => dv1 C ih cdv A outer s H E n0 hr
abbrev N2 : List Str := ["self", "other"]
theorem sc2 : FnScope N2 ["self", "other"] (defScope (inClass (top 11) 1)) := ⟨rfl, rfl, rfl, by decide +kernel, rfl, by decide +kernel, by decide +kernel⟩
theorem dv2 {n : Nat} {cf : CF} (C : Ctx K base mg) (ih : ∀ f np, FnR P w K mg base L2.CX0 (2 * n) ((GG K).fa f) (spF (GG K) cf f np)) (cdv : Value) (A : Around) (outer : List PySem.Env) (s : Shared) (H : Hp) (E : XK) (n0 : Nat) (hr : Room (2 * n + 1) (A.deeper (envOfC "Column.__eq__" (defScope (inClass (top 11) 1)) s.heap.objs.size ((GG K).fa 2) cdv))) :
    PSs (cxOf L2.CX0 P w K mg base N2 "Column.__eq__" (defScope (inClass (top 11) 1)) ((GG K).fa 2) cdv A outer s H E).nox (defBody (inClass (top 11) 1)) (rdS (GG K) n0 (sRet (eAn (eIsi [(.non, false), (.bl, false), (.int, false), (.str, false), (.tup, false), (.lst, false), (.dct, false), (.own 0, true), (.own 1, false)] (eVar 1)) (eEq cf [(0, 2), (1, 14)] [.non, .bl, .int, .str, .tup, .lst, .dct, .own 0, .own 1] (eFld [0] 0 (eVar 0)) (eFld [0] 0 (eVar 1)))))) := by
  have T : Tb (cxOf L2.CX0 P w K mg base N2 "Column.__eq__" (defScope (inClass (top 11) 1)) ((GG K).fa 2) cdv A outer s H E).nox (GG K) cf (2 * n) := ⟨rfl, ih, hr, rfl⟩
  have nd := sc2.nd
  exact (ss_one (ss_ret (se_and rfl (se_isi1 (cv := (.ref ((GG K).ca 0))) (cu := (.ref ((GG K).ca 0))) rfl rfl (m_b_isinstance C) (by rfl) (.own _) (m_kit_0own C) (se_var (pv 1)) (pe_glob (v := .ref ((GG K).ca 0)) rfl (m_c_Column C) rfl)) (se_one (se_eq T (m_eqt C) (se_fld (f := 0) rfl (inj 0 (by decide)) (m_fld_counts C) (se_var (pv 0))) (se_fld (f := 0) rfl (inj 0 (by decide)) (m_fld_counts C) (se_var (pv 1))) (nomark _))))))
theorem ok2 {n : Nat} (C : Ctx K base mg) (ih : All P w K mg base (GG K) TT n) : ∀ np, FnR P w K mg base L2.CX0 (2 * (n + 1)) ((GG K).fa 2) (spF (GG K) (callF TT (n + 1)) 2 np) := by
  obtain ⟨fd, F⟩ := C.says.def_ 2 (d := d2) rfl
  exact def_ok (b := b2) rfl F sc2 rfl rfl (FunD_binds F fun _ _ _ _ _ _ us hl => match us, hl with | [_, _], _ => rfl) fun cdv A outer s H E n0 hr => dv2 C ih cdv A outer s H E n0 hr
abbrev N3 : List Str := ["self"]
theorem sc3 : FnScope N3 ["self"] (defScope (inClass (top 11) 2)) := ⟨rfl, rfl, rfl, by decide +kernel, rfl, by decide +kernel, by decide +kernel⟩
theorem dv3 {n : Nat} {cf : CF} (C : Ctx K base mg) (ih : ∀ f np, FnR P w K mg base L2.CX0 (2 * n) ((GG K).fa f) (spF (GG K) cf f np)) (cdv : Value) (A : Around) (outer : List PySem.Env) (s : Shared) (H : Hp) (E : XK) (n0 : Nat) (hr : Room (2 * n + 1) (A.deeper (envOfC "Column.__len__" (defScope (inClass (top 11) 2)) s.heap.objs.size ((GG K).fa 3) cdv))) :
    PSs (cxOf L2.CX0 P w K mg base N3 "Column.__len__" (defScope (inClass (top 11) 2)) ((GG K).fa 3) cdv A outer s H E).nox (defBody (inClass (top 11) 2)) (rdS (GG K) n0 (sRet (eLen cf [(0, 3)] (eFld [0] 0 (eVar 0))))) := by
  have T : Tb (cxOf L2.CX0 P w K mg base N3 "Column.__len__" (defScope (inClass (top 11) 2)) ((GG K).fa 3) cdv A outer s H E).nox (GG K) cf (2 * n) := ⟨rfl, ih, hr, rfl⟩
  have nd := sc3.nd
  exact (ss_one (ss_ret (se_len T rfl (m_b_len C) (fun p hp => ((m_spc___len__ C) p hp).1) (se_fld (f := 0) rfl (inj 0 (by decide)) (m_fld_counts C) (se_var (pv 0))))))
theorem ok3 {n : Nat} (C : Ctx K base mg) (ih : All P w K mg base (GG K) TT n) : ∀ np, FnR P w K mg base L2.CX0 (2 * (n + 1)) ((GG K).fa 3) (spF (GG K) (callF TT (n + 1)) 3 np) := by
  obtain ⟨fd, F⟩ := C.says.def_ 3 (d := d3) rfl
  exact def_ok (b := b3) rfl F sc3 rfl rfl (FunD_binds F fun _ _ _ _ _ _ us hl => match us, hl with | [_], _ => rfl) fun cdv A outer s H E n0 hr => dv3 C ih cdv A outer s H E n0 hr
abbrev N4 : List Str := ["self", "value"]
theorem sc4 : FnScope N4 ["self", "value"] (defScope (inClass (top 11) 3)) := ⟨rfl, rfl, rfl, by decide +kernel, rfl, by decide +kernel, by decide +kernel⟩
theorem dv4 {n : Nat} {cf : CF} (C : Ctx K base mg) (ih : ∀ f np, FnR P w K mg base L2.CX0 (2 * n) ((GG K).fa f) (spF (GG K) cf f np)) (cdv : Value) (A : Around) (outer : List PySem.Env) (s : Shared) (H : Hp) (E : XK) (n0 : Nat) (hr : Room (2 * n + 1) (A.deeper (envOfC "Column.__getitem__" (defScope (inClass (top 11) 3)) s.heap.objs.size ((GG K).fa 4) cdv))) :
    PSs (cxOf L2.CX0 P w K mg base N4 "Column.__getitem__" (defScope (inClass (top 11) 3)) ((GG K).fa 4) cdv A outer s H E).nox (defBody (inClass (top 11) 3)) (rdS (GG K) n0 (sCons (sIf (tNo (tTru (eCall cf 3 0 (aCons (eVar 1) (aCons (eLit (.int 0)) (aCons (eBin oSub (eLen cf [(0, 3)] (eFld [0] 0 (eVar 0))) (eLit (.int 1))) aNil)))))) sNo sNil) (sRet (eIx cf [(0, 4)] (eFld [0] 0 (eVar 0)) (eVar 1))))) := by
  have T : Tb (cxOf L2.CX0 P w K mg base N4 "Column.__getitem__" (defScope (inClass (top 11) 3)) ((GG K).fa 4) cdv A outer s H E).nox (GG K) cf (2 * n) := ⟨rfl, ih, hr, rfl⟩
  have nd := sc4.nd
  exact (ss_cons (ss_if (st_no (st_tru rfl (sx_call T rfl (m_f_is_number C) (m_k_is_number C) (sa_cons (se_var (pv 1)) (sa_cons (se_lit pe_int fun _ _ => rfl) (sa_cons (se_bin op_sub ok_sub (se_len T rfl (m_b_len C) (fun p hp => ((m_spc___len__ C) p hp).1) (se_fld (f := 0) rfl (inj 0 (by decide)) (m_fld_counts C) (se_var (pv 0)))) (se_lit pe_int fun _ _ => rfl)) sa_nil)))))) (ss_one ss_no) ss_nil)
 (ss_one (ss_ret (se_ixG T (m_spc___getitem__ C) (se_fld (f := 0) rfl (inj 0 (by decide)) (m_fld_counts C) (se_var (pv 0))) (se_var (pv 1)) (fun _ _ => rfl) (fun _ _ => by with_unfolding_all rfl)))))
theorem ok4 {n : Nat} (C : Ctx K base mg) (ih : All P w K mg base (GG K) TT n) : ∀ np, FnR P w K mg base L2.CX0 (2 * (n + 1)) ((GG K).fa 4) (spF (GG K) (callF TT (n + 1)) 4 np) := by
  obtain ⟨fd, F⟩ := C.says.def_ 4 (d := d4) rfl
  exact def_ok (b := b4) rfl F sc4 rfl rfl (FunD_binds F fun _ _ _ _ _ _ us hl => match us, hl with | [_, _], _ => rfl) fun cdv A outer s H E n0 hr => dv4 C ih cdv A outer s H E n0 hr
abbrev N5 : List Str := ["self"]
theorem sc5 : FnScope N5 ["self"] (defScope (inClass (top 11) 4)) := ⟨rfl, rfl, rfl, by decide +kernel, rfl, by decide +kernel, by decide +kernel⟩
theorem dv5 {n : Nat} {cf : CF} (C : Ctx K base mg) (ih : ∀ f np, FnR P w K mg base L2.CX0 (2 * n) ((GG K).fa f) (spF (GG K) cf f np)) (cdv : Value) (A : Around) (outer : List PySem.Env) (s : Shared) (H : Hp) (E : XK) (n0 : Nat) (hr : Room (2 * n + 1) (A.deeper (envOfC "Column.__iter__" (defScope (inClass (top 11) 4)) s.heap.objs.size ((GG K).fa 5) cdv))) :
    PSs (cxOf L2.CX0 P w K mg base N5 "Column.__iter__" (defScope (inClass (top 11) 4)) ((GG K).fa 5) cdv A outer s H E).nox (defBody (inClass (top 11) 4)) (rdS (GG K) n0 sNo) := by
  have T : Tb (cxOf L2.CX0 P w K mg base N5 "Column.__iter__" (defScope (inClass (top 11) 4)) ((GG K).fa 5) cdv A outer s H E).nox (GG K) cf (2 * n) := ⟨rfl, ih, hr, rfl⟩
  have nd := sc5.nd
  exact (ss_one ss_no)
theorem ok5 {n : Nat} (C : Ctx K base mg) (ih : All P w K mg base (GG K) TT n) : ∀ np, FnR P w K mg base L2.CX0 (2 * (n + 1)) ((GG K).fa 5) (spF (GG K) (callF TT (n + 1)) 5 np) := by
  obtain ⟨fd, F⟩ := C.says.def_ 5 (d := d5) rfl
  exact def_ok (b := b5) rfl F sc5 rfl rfl (FunD_binds F fun _ _ _ _ _ _ us hl => match us, hl with | [_], _ => rfl) fun cdv A outer s H E n0 hr => dv5 C ih cdv A outer s H E n0 hr
abbrev N6 : List Str := ["self"]
theorem sc6 : FnScope N6 ["self"] (defScope (inClass (top 11) 5)) := ⟨rfl, rfl, rfl, by decide +kernel, rfl, by decide +kernel, by decide +kernel⟩
theorem dv6 {n : Nat} {cf : CF} (C : Ctx K base mg) (ih : ∀ f np, FnR P w K mg base L2.CX0 (2 * n) ((GG K).fa f) (spF (GG K) cf f np)) (cdv : Value) (A : Around) (outer : List PySem.Env) (s : Shared) (H : Hp) (E : XK) (n0 : Nat) (hr : Room (2 * n + 1) (A.deeper (envOfC "Column.rows" (defScope (inClass (top 11) 5)) s.heap.objs.size ((GG K).fa 6) cdv))) :
    PSs (cxOf L2.CX0 P w K mg base N6 "Column.rows" (defScope (inClass (top 11) 5)) ((GG K).fa 6) cdv A outer s H E).nox (defBody (inClass (top 11) 5)) (rdS (GG K) n0 (sRet (eArg bSum (aCons (eFld [0] 0 (eVar 0)) aNil)))) := by
  have T : Tb (cxOf L2.CX0 P w K mg base N6 "Column.rows" (defScope (inClass (top 11) 5)) ((GG K).fa 6) cdv A outer s H E).nox (GG K) cf (2 * n) := ⟨rfl, ih, hr, rfl⟩
  have nd := sc6.nd
  exact (ss_one (ss_ret (se_argB (pe_callB (cr_sumA rfl) rfl (m_b_sum C) (by rfl) (sa_cons (se_fld (f := 0) rfl (inj 0 (by decide)) (m_fld_counts C) (se_var (pv 0))) sa_nil)) ok_sum)))
theorem ok6 {n : Nat} (C : Ctx K base mg) (ih : All P w K mg base (GG K) TT n) : ∀ np, FnR P w K mg base L2.CX0 (2 * (n + 1)) ((GG K).fa 6) (spF (GG K) (callF TT (n + 1)) 6 np) := by
  obtain ⟨fd, F⟩ := C.says.def_ 6 (d := d6) rfl
  exact def_ok (b := b6) rfl F sc6 rfl rfl (FunD_binds F fun _ _ _ _ _ _ us hl => match us, hl with | [_], _ => rfl) fun cdv A outer s H E n0 hr => dv6 C ih cdv A outer s H E n0 hr
abbrev N7 : List Str := ["self", "past"]
theorem sc7 : FnScope N7 ["self"] (defScope (inClass (top 11) 6)) := ⟨rfl, rfl, rfl, by decide +kernel, rfl, by decide +kernel, by decide +kernel⟩
theorem dv7 {n : Nat} {cf : CF} (C : Ctx K base mg) (ih : ∀ f np, FnR P w K mg base L2.CX0 (2 * n) ((GG K).fa f) (spF (GG K) cf f np)) (cdv : Value) (A : Around) (outer : List PySem.Env) (s : Shared) (H : Hp) (E : XK) (n0 : Nat) (hr : Room (2 * n + 1) (A.deeper (envOfC "Column.prefixes" (defScope (inClass (top 11) 6)) s.heap.objs.size ((GG K).fa 7) cdv))) :
    PSs (cxOf L2.CX0 P w K mg base N7 "Column.prefixes" (defScope (inClass (top 11) 6)) ((GG K).fa 7) cdv A outer s H E).nox (defBody (inClass (top 11) 6)) (rdS (GG K) n0 (sRet (eLc (iRg1 (eBin oCat (eLen cf [(0, 3)] (eFld [0] 0 (eVar 0))) (eLit (.int 1)))) (gNm 1) [1] tYesP (eArg bSum (aCons (eSl (eFld [0] 0 (eVar 0)) pNo (pSo (eVar 1))) aNil))))) := by
  have T : Tb (cxOf L2.CX0 P w K mg base N7 "Column.prefixes" (defScope (inClass (top 11) 6)) ((GG K).fa 7) cdv A outer s H E).nox (GG K) cf (2 * n) := ⟨rfl, ih, hr, rfl⟩
  have nd := sc7.nd
  exact (ss_one (ss_ret (se_lc (own := [("past", 1)]) rfl nd (si_rng1 rfl (m_b_range C) (se_bin op_catR ok_cat (se_len T rfl (m_b_len C) (fun p hp => ((m_spc___len__ C) p hp).1) (se_fld (f := 0) rfl (inj 0 (by decide)) (m_fld_counts C) (se_var (pv 0)))) (se_lit pe_int fun _ _ => rfl))) (blk_ok (own := [("past", 1)]) (by kernel_rfl)) (tb_nm 1 (by decide)) (fun _ _ _ _ _ => (pg_name (i := 1) nd rfl (by first | exact Or.inl rfl | exact Or.inr rfl))) (fun _ _ _ _ _ => sts_nil) (fun _ _ _ _ _ => (se_argB (pe_callB (cr_sumA rfl) rfl (m_b_sum C) (by rfl) (sa_cons (se_sl rfl (se_fld (f := 0) rfl (inj 0 (by decide)) (m_fld_counts C) (se_var (pv 0))) so_none (so_some (se_var (pv 1)))) sa_nil)) ok_sum)))))
theorem ok7 {n : Nat} (C : Ctx K base mg) (ih : All P w K mg base (GG K) TT n) : ∀ np, FnR P w K mg base L2.CX0 (2 * (n + 1)) ((GG K).fa 7) (spF (GG K) (callF TT (n + 1)) 7 np) := by
  obtain ⟨fd, F⟩ := C.says.def_ 7 (d := d7) rfl
  exact def_ok (b := b7) rfl F sc7 rfl rfl (FunD_binds F fun _ _ _ _ _ _ us hl => match us, hl with | [_], _ => rfl) fun cdv A outer s H E n0 hr => dv7 C ih cdv A outer s H E n0 hr
abbrev N8 : List Str := ["self", "one", "other"]
theorem sc8 : FnScope N8 ["self"] (defScope (inClass (top 11) 9)) := ⟨rfl, rfl, rfl, by decide +kernel, rfl, by decide +kernel, by decide +kernel⟩
theorem dv8 {n : Nat} {cf : CF} (C : Ctx K base mg) (ih : ∀ f np, FnR P w K mg base L2.CX0 (2 * n) ((GG K).fa f) (spF (GG K) cf f np)) (cdv : Value) (A : Around) (outer : List PySem.Env) (s : Shared) (H : Hp) (E : XK) (n0 : Nat) (hr : Room (2 * n + 1) (A.deeper (envOfC "Column.steps" (defScope (inClass (top 11) 9)) s.heap.objs.size ((GG K).fa 8) cdv))) :
    PSs (cxOf L2.CX0 P w K mg base N8 "Column.steps" (defScope (inClass (top 11) 9)) ((GG K).fa 8) cdv A outer s H E).nox (defBody (inClass (top 11) 9)) (rdS (GG K) n0 (sRet (eBin oCat (eLit (.int 1)) (eLen cf [(0, 3)] (eLc (iZip (eFld [0] 0 (eVar 0)) (eSl (eFld [0] 0 (eVar 0)) (pSo (eLit (.int 1))) pNo)) (gTp [(gNm 1), (gNm 2)]) [1, 2] (tBl (eNe cf [(0, 2), (1, 14)] [.non, .bl, .int, .str, .tup, .lst, .dct, .own 0, .own 1] (eVar 1) (eVar 2))) (eVar 1)))))) := by
  have T : Tb (cxOf L2.CX0 P w K mg base N8 "Column.steps" (defScope (inClass (top 11) 9)) ((GG K).fa 8) cdv A outer s H E).nox (GG K) cf (2 * n) := ⟨rfl, ih, hr, rfl⟩
  have nd := sc8.nd
  exact (ss_one (ss_ret (se_bin op_catR ok_cat (se_lit pe_int fun _ _ => rfl) (se_len T rfl (m_b_len C) (fun p hp => ((m_spc___len__ C) p hp).1) (se_lc (own := [("one", 1), ("other", 2)]) rfl nd (si_zip rfl rfl (m_b_zip C) (se_fld (f := 0) rfl (inj 0 (by decide)) (m_fld_counts C) (se_var (pv 0))) (se_sl rfl (se_fld (f := 0) rfl (inj 0 (by decide)) (m_fld_counts C) (se_var (pv 0))) (so_some (se_lit pe_int fun _ _ => rfl)) so_none)) (blk_ok (own := [("one", 1), ("other", 2)]) (by kernel_rfl)) (tb_tp (tbs_cons (tb_nm 1 (by decide)) (tbs_cons (tb_nm 2 (by decide)) tbs_nil)) rfl) (fun _ _ _ _ _ => (pg_tup rfl (pgs_cons (pg_name (i := 1) nd rfl (by first | exact Or.inl rfl | exact Or.inr rfl)) (pgs_cons (pg_name (i := 2) nd rfl (by first | exact Or.inl rfl | exact Or.inr rfl)) pgs_nil)))) (fun _ _ _ _ _ => (sts_one (st_ne (T.blk _ _ _ _ _) (m_eqt C) (se_var (pv 1)) (se_var (pv 2)) (nomark _)))) (fun _ _ _ _ _ => (se_var (pv 1))))))))
theorem ok8 {n : Nat} (C : Ctx K base mg) (ih : All P w K mg base (GG K) TT n) : ∀ np, FnR P w K mg base L2.CX0 (2 * (n + 1)) ((GG K).fa 8) (spF (GG K) (callF TT (n + 1)) 8 np) := by
  obtain ⟨fd, F⟩ := C.says.def_ 8 (d := d8) rfl
  exact def_ok (b := b8) rfl F sc8 rfl rfl (FunD_binds F fun _ _ _ _ _ _ us hl => match us, hl with | [_], _ => rfl) fun cdv A outer s H E n0 hr => dv8 C ih cdv A outer s H E n0 hr
abbrev N9 : List Str := ["self", "found", "value", "count"]
theorem sc9 : FnScope N9 ["self"] (defScope (inClass (top 11) 10)) := ⟨rfl, rfl, rfl, by decide +kernel, rfl, by decide +kernel, by decide +kernel⟩
theorem dv9 {n : Nat} {cf : CF} (C : Ctx K base mg) (ih : ∀ f np, FnR P w K mg base L2.CX0 (2 * n) ((GG K).fa f) (spF (GG K) cf f np)) (cdv : Value) (A : Around) (outer : List PySem.Env) (s : Shared) (H : Hp) (E : XK) (n0 : Nat) (hr : Room (2 * n + 1) (A.deeper (envOfC "Column.sorted_rows" (defScope (inClass (top 11) 10)) s.heap.objs.size ((GG K).fa 9) cdv))) :
    PSs (cxOf L2.CX0 P w K mg base N9 "Column.sorted_rows" (defScope (inClass (top 11) 10)) ((GG K).fa 9) cdv A outer s H E).nox (defBody (inClass (top 11) 10)) (rdS (GG K) n0 (sCons (sAsg (gNm 1) (eNew (eLst aNil))) (sCons (sFor (iEnu (eFld [0] 0 (eVar 0))) (gTp [(gNm 2), (gNm 3)]) (sExp (eLm (extL n0) (eVar 1) (eBin oRep (eLst (aCons (eVar 2) aNil)) (eVar 3))))) (sRet (eVar 1))))) := by
  have T : Tb (cxOf L2.CX0 P w K mg base N9 "Column.sorted_rows" (defScope (inClass (top 11) 10)) ((GG K).fa 9) cdv A outer s H E).nox (GG K) cf (2 * n) := ⟨rfl, ih, hr, rfl⟩
  have nd := sc9.nd
  exact (ss_cons (ss_asg (ps_asg (toV (se_new (se_lst sa_nil))) (pg_name (i := 1) nd rfl (by first | exact Or.inl rfl | exact Or.inr rfl))) (tg_nm 1))
 (ss_cons (ss_for (ps_for PassesOwn.never rfl (si_enum rfl rfl (m_b_enumerate C) (se_fld (f := 0) rfl (inj 0 (by decide)) (m_fld_counts C) (se_var (pv 0)))) (pg_tup rfl (pgs_cons (pg_name (i := 2) nd rfl (by first | exact Or.inl rfl | exact Or.inr rfl)) (pgs_cons (pg_name (i := 3) nd rfl (by first | exact Or.inl rfl | exact Or.inr rfl)) pgs_nil))) (ss_one (ss_expr (se_lm rfl chg_ext (pe_bm PySem.F.plainAttrs_list PySem.F.slot_list_extend PySem.F.type_list_extend mt_extR (toV (se_var (pv 1))) (pa_cons (toV (se_bin op_repR ok_rep (se_lst (sa_cons (se_var (pv 2)) sa_nil)) (se_var (pv 3)))) pa_nil)))))) (tg_tp (tgs_cons (tg_nm 2) (tgs_cons (tg_nm 3) tgs_nil)) rfl))
 (ss_one (ss_ret (se_var (pv 1))))))
theorem ok9 {n : Nat} (C : Ctx K base mg) (ih : All P w K mg base (GG K) TT n) : ∀ np, FnR P w K mg base L2.CX0 (2 * (n + 1)) ((GG K).fa 9) (spF (GG K) (callF TT (n + 1)) 9 np) := by
  obtain ⟨fd, F⟩ := C.says.def_ 9 (d := d9) rfl
  exact def_ok (b := b9) rfl F sc9 rfl rfl (FunD_binds F fun _ _ _ _ _ _ us hl => match us, hl with | [_], _ => rfl) fun cdv A outer s H E n0 hr => dv9 C ih cdv A outer s H E n0 hr
abbrev N10 : List Str := ["column"]
theorem sc10 : FnScope N10 ["column"] (defScope (top 12)) := ⟨rfl, rfl, rfl, by decide +kernel, rfl, by decide +kernel, by decide +kernel⟩
theorem dv10 {n : Nat} {cf : CF} (C : Ctx K base mg) (ih : ∀ f np, FnR P w K mg base L2.CX0 (2 * n) ((GG K).fa f) (spF (GG K) cf f np)) (cdv : Value) (A : Around) (outer : List PySem.Env) (s : Shared) (H : Hp) (E : XK) (n0 : Nat) (hr : Room (2 * n + 1) (A.deeper (envOfC "check_column" (defScope (top 12)) s.heap.objs.size ((GG K).fa 10) cdv))) :
    PSs (cxOf L2.CX0 P w K mg base N10 "check_column" (defScope (top 12)) ((GG K).fa 10) cdv A outer s H E).nox (defBody (top 12)) (rdS (GG K) n0 (sIf (tNo (tTru (eIsi [(.non, false), (.bl, false), (.int, false), (.str, false), (.tup, false), (.lst, false), (.dct, false), (.own 0, true), (.own 1, false)] (eVar 0)))) sNo sNil)) := by
  have T : Tb (cxOf L2.CX0 P w K mg base N10 "check_column" (defScope (top 12)) ((GG K).fa 10) cdv A outer s H E).nox (GG K) cf (2 * n) := ⟨rfl, ih, hr, rfl⟩
  have nd := sc10.nd
  exact (ss_one (ss_if (st_no (st_tru rfl (se_isi1 (cv := (.ref ((GG K).ca 0))) (cu := (.ref ((GG K).ca 0))) rfl rfl (m_b_isinstance C) (by rfl) (.own _) (m_kit_0own C) (se_var (pv 0)) (pe_glob (v := .ref ((GG K).ca 0)) rfl (m_c_Column C) rfl)))) (ss_one ss_no) ss_nil))
theorem ok10 {n : Nat} (C : Ctx K base mg) (ih : All P w K mg base (GG K) TT n) : ∀ np, FnR P w K mg base L2.CX0 (2 * (n + 1)) ((GG K).fa 10) (spF (GG K) (callF TT (n + 1)) 10 np) := by
  obtain ⟨fd, F⟩ := C.says.def_ 10 (d := d10) rfl
  exact def_ok (b := b10) rfl F sc10 rfl rfl (FunD_binds F fun _ _ _ _ _ _ us hl => match us, hl with | [_], _ => rfl) fun cdv A outer s H E n0 hr => dv10 C ih cdv A outer s H E n0 hr
abbrev N11 : List Str := ["one", "other"]
theorem sc11 : FnScope N11 ["one", "other"] (defScope (top 14)) := ⟨rfl, rfl, rfl, by decide +kernel, rfl, by decide +kernel, by decide +kernel⟩
theorem dv11 {n : Nat} {cf : CF} (C : Ctx K base mg) (ih : ∀ f np, FnR P w K mg base L2.CX0 (2 * n) ((GG K).fa f) (spF (GG K) cf f np)) (cdv : Value) (A : Around) (outer : List PySem.Env) (s : Shared) (H : Hp) (E : XK) (n0 : Nat) (hr : Room (2 * n + 1) (A.deeper (envOfC "check_pair" (defScope (top 14)) s.heap.objs.size ((GG K).fa 11) cdv))) :
    PSs (cxOf L2.CX0 P w K mg base N11 "check_pair" (defScope (top 14)) ((GG K).fa 11) cdv A outer s H E).nox (defBody (top 14)) (rdS (GG K) n0 (sCons (sExp (eCall cf 1 10 (aCons (eVar 0) aNil))) (sCons (sExp (eCall cf 1 10 (aCons (eVar 1) aNil))) (sIf (tOr (tBl (eNe cf [(0, 2), (1, 14)] [.non, .bl, .int, .str, .tup, .lst, .dct, .own 0, .own 1] (eLen cf [(0, 3)] (eVar 0)) (eLen cf [(0, 3)] (eVar 1)))) (tBl (eNe cf [(0, 2), (1, 14)] [.non, .bl, .int, .str, .tup, .lst, .dct, .own 0, .own 1] (eMeth cf 1 2 [(0, 6)] (eVar 0) aNil) (eMeth cf 1 2 [(0, 6)] (eVar 1) aNil)))) sNo sNil)))) := by
  have T : Tb (cxOf L2.CX0 P w K mg base N11 "check_pair" (defScope (top 14)) ((GG K).fa 11) cdv A outer s H E).nox (GG K) cf (2 * n) := ⟨rfl, ih, hr, rfl⟩
  have nd := sc11.nd
  exact (ss_cons (ss_expr (sx_call T rfl (m_f_check_column C) (m_k_check_column C) (sa_cons (se_var (pv 0)) sa_nil)))
 (ss_cons (ss_expr (sx_call T rfl (m_f_check_column C) (m_k_check_column C) (sa_cons (se_var (pv 1)) sa_nil)))
 (ss_one (ss_if (PW.pt (sw_or (st_ne T (m_eqt C) (se_len T rfl (m_b_len C) (fun p hp => ((m_spc___len__ C) p hp).1) (se_var (pv 0))) (se_len T rfl (m_b_len C) (fun p hp => ((m_spc___len__ C) p hp).1) (se_var (pv 1))) (nomark _)) (sw_one (st_ne T (m_eqt C) (se_meth0 (m := 2) T (inj 2 (by decide)) (m_met_rows C) (se_var (pv 0))) (se_meth0 (m := 2) T (inj 2 (by decide)) (m_met_rows C) (se_var (pv 1))) (nomark _))))) (ss_one ss_no) ss_nil))))
theorem ok11 {n : Nat} (C : Ctx K base mg) (ih : All P w K mg base (GG K) TT n) : ∀ np, FnR P w K mg base L2.CX0 (2 * (n + 1)) ((GG K).fa 11) (spF (GG K) (callF TT (n + 1)) 11 np) := by
  obtain ⟨fd, F⟩ := C.says.def_ 11 (d := d11) rfl
  exact def_ok (b := b11) rfl F sc11 rfl rfl (FunD_binds F fun _ _ _ _ _ _ us hl => match us, hl with | [_, _], _ => rfl) fun cdv A outer s H E n0 hr => dv11 C ih cdv A outer s H E n0 hr
abbrev N12 : List Str := ["one", "other", "early", "late"]
theorem sc12 : FnScope N12 ["one", "other"] (defScope (top 15)) := ⟨rfl, rfl, rfl, by decide +kernel, rfl, by decide +kernel, by decide +kernel⟩
theorem dv12 {n : Nat} {cf : CF} (C : Ctx K base mg) (ih : ∀ f np, FnR P w K mg base L2.CX0 (2 * n) ((GG K).fa f) (spF (GG K) cf f np)) (cdv : Value) (A : Around) (outer : List PySem.Env) (s : Shared) (H : Hp) (E : XK) (n0 : Nat) (hr : Room (2 * n + 1) (A.deeper (envOfC "flows_of" (defScope (top 15)) s.heap.objs.size ((GG K).fa 12) cdv))) :
    PSs (cxOf L2.CX0 P w K mg base N12 "flows_of" (defScope (top 15)) ((GG K).fa 12) cdv A outer s H E).nox (defBody (top 15)) (rdS (GG K) n0 (sRet (eLc (iZip (eSl (eMeth cf 1 3 [(0, 7)] (eVar 0) aNil) (pSo (eLit (.int 1))) (pSo (eUn oNeg (eLit (.int 1))))) (eSl (eMeth cf 1 3 [(0, 7)] (eVar 1) aNil) (pSo (eLit (.int 1))) (pSo (eUn oNeg (eLit (.int 1)))))) (gTp [(gNm 2), (gNm 3)]) [2, 3] tYesP (eBin oSub (eVar 2) (eVar 3))))) := by
  have T : Tb (cxOf L2.CX0 P w K mg base N12 "flows_of" (defScope (top 15)) ((GG K).fa 12) cdv A outer s H E).nox (GG K) cf (2 * n) := ⟨rfl, ih, hr, rfl⟩
  have nd := sc12.nd
  exact (ss_one (ss_ret (se_lc (own := [("early", 2), ("late", 3)]) rfl nd (si_zip rfl rfl (m_b_zip C) (se_sl rfl (se_meth0 (m := 3) T (inj 3 (by decide)) (m_met_prefixes C) (se_var (pv 0))) (so_some (se_lit pe_int fun _ _ => rfl)) (so_some (se_un un_neg ok_neg (se_lit pe_int fun _ _ => rfl)))) (se_sl rfl (se_meth0 (m := 3) T (inj 3 (by decide)) (m_met_prefixes C) (se_var (pv 1))) (so_some (se_lit pe_int fun _ _ => rfl)) (so_some (se_un un_neg ok_neg (se_lit pe_int fun _ _ => rfl))))) (blk_ok (own := [("early", 2), ("late", 3)]) (by kernel_rfl)) (tb_tp (tbs_cons (tb_nm 2 (by decide)) (tbs_cons (tb_nm 3 (by decide)) tbs_nil)) rfl) (fun _ _ _ _ _ => (pg_tup rfl (pgs_cons (pg_name (i := 2) nd rfl (by first | exact Or.inl rfl | exact Or.inr rfl)) (pgs_cons (pg_name (i := 3) nd rfl (by first | exact Or.inl rfl | exact Or.inr rfl)) pgs_nil)))) (fun _ _ _ _ _ => sts_nil) (fun _ _ _ _ _ => (se_bin op_sub ok_sub (se_var (pv 2)) (se_var (pv 3)))))))
theorem ok12 {n : Nat} (C : Ctx K base mg) (ih : All P w K mg base (GG K) TT n) : ∀ np, FnR P w K mg base L2.CX0 (2 * (n + 1)) ((GG K).fa 12) (spF (GG K) (callF TT (n + 1)) 12 np) := by
  obtain ⟨fd, F⟩ := C.says.def_ 12 (d := d12) rfl
  exact def_ok (b := b12) rfl F sc12 rfl rfl (FunD_binds F fun _ _ _ _ _ _ us hl => match us, hl with | [_, _], _ => rfl) fun cdv A outer s H E n0 hr => dv12 C ih cdv A outer s H E n0 hr
abbrev N13 : List Str := ["self", "flows", "heights"]
theorem sc13 : FnScope N13 ["self", "flows", "heights"] (defScope (inClass (top 16) 0)) := ⟨rfl, rfl, rfl, by decide +kernel, rfl, by decide +kernel, by decide +kernel⟩
theorem dv13 {n : Nat} {cf : CF} (C : Ctx K base mg) (ih : ∀ f np, FnR P w K mg base L2.CX0 (2 * n) ((GG K).fa f) (spF (GG K) cf f np)) (cdv : Value) (A : Around) (outer : List PySem.Env) (s : Shared) (H : Hp) (E : XK) (n0 : Nat) (hr : Room (2 * n + 1) (A.deeper (envOfC "Moved.__init__" (defScope (inClass (top 16) 0)) s.heap.objs.size ((GG K).fa 13) cdv))) :
    PSs (cxOf L2.CX0 P w K mg base N13 "Moved.__init__" (defScope (inClass (top 16) 0)) ((GG K).fa 13) cdv A outer s H E).nox (defBody (inClass (top 16) 0)) (rdS (GG K) n0 (sCons (sFld n0 [1] 4 (eVar 0) (eArg bTuple (aCons (eVar 1) aNil))) (sFld n0 [1] 5 (eVar 0) (eArg bTuple (aCons (eVar 2) aNil))))) := by
  have T : Tb (cxOf L2.CX0 P w K mg base N13 "Moved.__init__" (defScope (inClass (top 16) 0)) ((GG K).fa 13) cdv A outer s H E).nox (GG K) cf (2 * n) := ⟨rfl, ih, hr, rfl⟩
  have nd := sc13.nd
  exact (ss_cons (ss_fld (f := 4) rfl (inj 4 (by decide)) (m_fld_flows C) (se_var (pv 0)) (se_argB (pe_callTy call_tuple_of rfl (m_b_tuple C) (by rfl) (sa_cons (se_var (pv 1)) sa_nil)) ok_tuple))
 (ss_one (ss_fld (f := 5) rfl (inj 5 (by decide)) (m_fld_heights C) (se_var (pv 0)) (se_argB (pe_callTy call_tuple_of rfl (m_b_tuple C) (by rfl) (sa_cons (se_var (pv 2)) sa_nil)) ok_tuple))))
theorem ok13 {n : Nat} (C : Ctx K base mg) (ih : All P w K mg base (GG K) TT n) : ∀ np, FnR P w K mg base L2.CX0 (2 * (n + 1)) ((GG K).fa 13) (spF (GG K) (callF TT (n + 1)) 13 np) := by
  obtain ⟨fd, F⟩ := C.says.def_ 13 (d := d13) rfl
  exact def_ok (b := b13) rfl F sc13 rfl rfl (FunD_binds F fun _ _ _ _ _ _ us hl => match us, hl with | [_, _, _], _ => rfl) fun cdv A outer s H E n0 hr => dv13 C ih cdv A outer s H E n0 hr
abbrev N14 : List Str := ["self", "other"]
theorem sc14 : FnScope N14 ["self", "other"] (defScope (inClass (top 16) 1)) := ⟨rfl, rfl, rfl, by decide +kernel, rfl, by decide +kernel, by decide +kernel⟩
theorem dv14 {n : Nat} {cf : CF} (C : Ctx K base mg) (ih : ∀ f np, FnR P w K mg base L2.CX0 (2 * n) ((GG K).fa f) (spF (GG K) cf f np)) (cdv : Value) (A : Around) (outer : List PySem.Env) (s : Shared) (H : Hp) (E : XK) (n0 : Nat) (hr : Room (2 * n + 1) (A.deeper (envOfC "Moved.__eq__" (defScope (inClass (top 16) 1)) s.heap.objs.size ((GG K).fa 14) cdv))) :
    PSs (cxOf L2.CX0 P w K mg base N14 "Moved.__eq__" (defScope (inClass (top 16) 1)) ((GG K).fa 14) cdv A outer s H E).nox (defBody (inClass (top 16) 1)) (rdS (GG K) n0 (sRet (eAn (eIsi [(.non, false), (.bl, false), (.int, false), (.str, false), (.tup, false), (.lst, false), (.dct, false), (.own 0, false), (.own 1, true)] (eVar 1)) (eEq cf [(0, 2), (1, 14)] [.non, .bl, .int, .str, .tup, .lst, .dct, .own 0, .own 1] (eTup (aCons (eFld [1] 4 (eVar 0)) (aCons (eFld [1] 5 (eVar 0)) aNil))) (eTup (aCons (eFld [1] 4 (eVar 1)) (aCons (eFld [1] 5 (eVar 1)) aNil))))))) := by
  have T : Tb (cxOf L2.CX0 P w K mg base N14 "Moved.__eq__" (defScope (inClass (top 16) 1)) ((GG K).fa 14) cdv A outer s H E).nox (GG K) cf (2 * n) := ⟨rfl, ih, hr, rfl⟩
  have nd := sc14.nd
  exact (ss_one (ss_ret (se_and rfl (se_isi1 (cv := (.ref ((GG K).ca 1))) (cu := (.ref ((GG K).ca 1))) rfl rfl (m_b_isinstance C) (by rfl) (.own _) (m_kit_1own C) (se_var (pv 1)) (pe_glob (v := .ref ((GG K).ca 1)) rfl (m_c_Moved C) rfl)) (se_one (se_eq T (m_eqt C) (se_tup (sa_cons (se_fld (f := 4) rfl (inj 4 (by decide)) (m_fld_flows C) (se_var (pv 0))) (sa_cons (se_fld (f := 5) rfl (inj 5 (by decide)) (m_fld_heights C) (se_var (pv 0))) sa_nil))) (se_tup (sa_cons (se_fld (f := 4) rfl (inj 4 (by decide)) (m_fld_flows C) (se_var (pv 1))) (sa_cons (se_fld (f := 5) rfl (inj 5 (by decide)) (m_fld_heights C) (se_var (pv 1))) sa_nil))) (nomark _))))))
theorem ok14 {n : Nat} (C : Ctx K base mg) (ih : All P w K mg base (GG K) TT n) : ∀ np, FnR P w K mg base L2.CX0 (2 * (n + 1)) ((GG K).fa 14) (spF (GG K) (callF TT (n + 1)) 14 np) := by
  obtain ⟨fd, F⟩ := C.says.def_ 14 (d := d14) rfl
  exact def_ok (b := b14) rfl F sc14 rfl rfl (FunD_binds F fun _ _ _ _ _ _ us hl => match us, hl with | [_, _], _ => rfl) fun cdv A outer s H E n0 hr => dv14 C ih cdv A outer s H E n0 hr
abbrev N15 : List Str := ["self", "one", "other", "ends", "late", "gain", "count", "early", "more", "low", "high", "height", "less", "flow"]
theorem sc15 : FnScope N15 ["self", "one", "other"] (defScope (inClass (top 16) 2)) := ⟨rfl, rfl, rfl, by decide +kernel, rfl, by decide +kernel, by decide +kernel⟩
theorem dv15 {n : Nat} {cf : CF} (C : Ctx K base mg) (ih : ∀ f np, FnR P w K mg base L2.CX0 (2 * n) ((GG K).fa f) (spF (GG K) cf f np)) (cdv : Value) (A : Around) (outer : List PySem.Env) (s : Shared) (H : Hp) (E : XK) (n0 : Nat) (hr : Room (2 * n + 1) (A.deeper (envOfC "Moved.shows" (defScope (inClass (top 16) 2)) s.heap.objs.size ((GG K).fa 15) cdv))) :
    PSs (cxOf L2.CX0 P w K mg base N15 "Moved.shows" (defScope (inClass (top 16) 2)) ((GG K).fa 15) cdv A outer s H E).nox (defBody (inClass (top 16) 2)) (rdS (GG K) n0 (sCons (sExp (eCall cf 2 11 (aCons (eVar 1) (aCons (eVar 2) aNil)))) (sCons (sIf (tOr (tBl (eNe cf [(0, 2), (1, 14)] [.non, .bl, .int, .str, .tup, .lst, .dct, .own 0, .own 1] (eLen cf [(0, 3)] (eFld [1] 4 (eVar 0))) (eBin oSub (eLen cf [(0, 3)] (eVar 1)) (eLit (.int 1))))) (tBl (eNe cf [(0, 2), (1, 14)] [.non, .bl, .int, .str, .tup, .lst, .dct, .own 0, .own 1] (eLen cf [(0, 3)] (eFld [1] 5 (eVar 0))) (eLen cf [(0, 3)] (eVar 1))))) (sRet (eLit (.bl false))) sNil) (sCons (sAsg (gNm 3) (eLst (aCons (eLit (.int 0)) (aStar (eFld [1] 4 (eVar 0)) (aCons (eLit (.int 0)) aNil))))) (sCons (sAsg (gNm 4) (eLc (iZip3 (eFld [0] 0 (eVar 1)) (eVar 3) (eSl (eVar 3) (pSo (eLit (.int 1))) pNo)) (gTp [(gNm 6), (gNm 7), (gNm 8)]) [6, 7, 8] tYesP (eBin oSub (eBin oCat (eVar 6) (eVar 7)) (eVar 8)))) (sCons (sIf (tBl (eNe cf [(0, 2), (1, 14)] [.non, .bl, .int, .str, .tup, .lst, .dct, .own 0, .own 1] (eArg bTuple (aCons (eVar 4) aNil)) (eFld [0] 0 (eVar 2)))) (sRet (eLit (.bl false))) sNil) (sCons (sIf (tTru (eArg bAny (aCons (eLc (iZip (eFld [1] 5 (eVar 0)) (eSl (eFld [1] 5 (eVar 0)) (pSo (eLit (.int 1))) pNo)) (gTp [(gNm 9), (gNm 10)]) [9, 10] tYesP (eBin oGt (eArg bAbs (aCons (eBin oSub (eVar 9) (eVar 10)) aNil)) (eLit (.int 1)))) aNil))) (sRet (eLit (.bl false))) sNil) (sCons (sAsg (gNm 5) (eArg bSum (aCons (eLc (iZip3 (eFld [1] 5 (eVar 0)) (eFld [0] 0 (eVar 2)) (eFld [0] 0 (eVar 1))) (gTp [(gNm 11), (gNm 8), (gNm 12)]) [11, 8, 12] tYesP (eBin oRep (eVar 11) (eBin oSub (eVar 8) (eVar 12)))) aNil))) (sRet (eEq cf [(0, 2), (1, 14)] [.non, .bl, .int, .str, .tup, .lst, .dct, .own 0, .own 1] (eVar 5) (eArg bSum (aCons (eLc (iSeq (eFld [1] 4 (eVar 0))) (gNm 13) [13] tYesP (eArg bAbs (aCons (eVar 13) aNil))) aNil)))))))))))) := by
  have T : Tb (cxOf L2.CX0 P w K mg base N15 "Moved.shows" (defScope (inClass (top 16) 2)) ((GG K).fa 15) cdv A outer s H E).nox (GG K) cf (2 * n) := ⟨rfl, ih, hr, rfl⟩
  have nd := sc15.nd
  exact (ss_cons (ss_expr (sx_call T rfl (m_f_check_pair C) (m_k_check_pair C) (sa_cons (se_var (pv 1)) (sa_cons (se_var (pv 2)) sa_nil))))
 (ss_cons (ss_if (PW.pt (sw_or (st_ne T (m_eqt C) (se_len T rfl (m_b_len C) (fun p hp => ((m_spc___len__ C) p hp).1) (se_fld (f := 4) rfl (inj 4 (by decide)) (m_fld_flows C) (se_var (pv 0)))) (se_bin op_sub ok_sub (se_len T rfl (m_b_len C) (fun p hp => ((m_spc___len__ C) p hp).1) (se_var (pv 1))) (se_lit pe_int fun _ _ => rfl)) (nomark _)) (sw_one (st_ne T (m_eqt C) (se_len T rfl (m_b_len C) (fun p hp => ((m_spc___len__ C) p hp).1) (se_fld (f := 5) rfl (inj 5 (by decide)) (m_fld_heights C) (se_var (pv 0)))) (se_len T rfl (m_b_len C) (fun p hp => ((m_spc___len__ C) p hp).1) (se_var (pv 1))) (nomark _))))) (ss_one (ss_ret (se_lit pe_bl fun _ _ => rfl))) ss_nil)
 (ss_cons (ss_asg (ps_asg (toV (se_lst (sa_cons (se_lit pe_int fun _ _ => rfl) (sa_star rfl (se_fld (f := 4) rfl (inj 4 (by decide)) (m_fld_flows C) (se_var (pv 0))) (sa_cons (se_lit pe_int fun _ _ => rfl) sa_nil))))) (pg_name (i := 3) nd rfl (by first | exact Or.inl rfl | exact Or.inr rfl))) (tg_nm 3))
 (ss_cons (ss_asg (asgV (ss_setLc (own := [("count", 6), ("early", 7), ("more", 8)]) rfl nd (i := 4) rfl rfl (by rfl) (si_zip3 rfl rfl (m_b_zip C) (se_fld (f := 0) rfl (inj 0 (by decide)) (m_fld_counts C) (se_var (pv 1))) (se_var (pv 3)) (se_sl rfl (se_var (pv 3)) (so_some (se_lit pe_int fun _ _ => rfl)) so_none)) (blk_ok (own := [("count", 6), ("early", 7), ("more", 8)]) (by kernel_rfl)) (tb_tp (tbs_cons (tb_nm 6 (by decide)) (tbs_cons (tb_nm 7 (by decide)) (tbs_cons (tb_nm 8 (by decide)) tbs_nil))) rfl) (fun _ _ _ _ _ => (pg_tup rfl (pgs_cons (pg_name (i := 6) nd rfl (by first | exact Or.inl rfl | exact Or.inr rfl)) (pgs_cons (pg_name (i := 7) nd rfl (by first | exact Or.inl rfl | exact Or.inr rfl)) (pgs_cons (pg_name (i := 8) nd rfl (by first | exact Or.inl rfl | exact Or.inr rfl)) pgs_nil))))) (fun _ _ _ _ _ => sts_nil) (fun _ _ _ _ _ => (se_bin op_sub ok_sub (se_bin op_catR ok_cat (se_var (pv 6)) (se_var (pv 7))) (se_var (pv 8)))))) (tg_nm 4))
 (ss_cons (ss_if (st_ne T (m_eqt C) (se_argB (pe_callTy call_tuple_of rfl (m_b_tuple C) (by rfl) (sa_cons (se_var (pv 4)) sa_nil)) ok_tuple) (se_fld (f := 0) rfl (inj 0 (by decide)) (m_fld_counts C) (se_var (pv 2))) (nomark _)) (ss_one (ss_ret (se_lit pe_bl fun _ _ => rfl))) ss_nil)
 (ss_cons (ss_if (st_tru rfl (se_argB (pe_callB (cr_any rfl) rfl (m_b_any C) (by rfl) (sa_cons (se_lc (own := [("low", 9), ("high", 10)]) rfl nd (si_zip rfl rfl (m_b_zip C) (se_fld (f := 5) rfl (inj 5 (by decide)) (m_fld_heights C) (se_var (pv 0))) (se_sl rfl (se_fld (f := 5) rfl (inj 5 (by decide)) (m_fld_heights C) (se_var (pv 0))) (so_some (se_lit pe_int fun _ _ => rfl)) so_none)) (blk_ok (own := [("low", 9), ("high", 10)]) (by kernel_rfl)) (tb_tp (tbs_cons (tb_nm 9 (by decide)) (tbs_cons (tb_nm 10 (by decide)) tbs_nil)) rfl) (fun _ _ _ _ _ => (pg_tup rfl (pgs_cons (pg_name (i := 9) nd rfl (by first | exact Or.inl rfl | exact Or.inr rfl)) (pgs_cons (pg_name (i := 10) nd rfl (by first | exact Or.inl rfl | exact Or.inr rfl)) pgs_nil)))) (fun _ _ _ _ _ => sts_nil) (fun _ _ _ _ _ => (se_cmp op_gt ok_gt (se_argB (pe_callB call_abs rfl (m_b_abs C) (by rfl) (sa_cons (se_bin op_sub ok_sub (se_var (pv 9)) (se_var (pv 10))) sa_nil)) ok_abs) (se_lit pe_int fun _ _ => rfl) (nomark _)))) sa_nil)) ok_any)) (ss_one (ss_ret (se_lit pe_bl fun _ _ => rfl))) ss_nil)
 (ss_cons (ss_asg (ps_asg (toV (se_argB (pe_callB (cr_sumA rfl) rfl (m_b_sum C) (by rfl) (sa_cons (se_lc (own := [("height", 11), ("more", 8), ("less", 12)]) rfl nd (si_zip3 rfl rfl (m_b_zip C) (se_fld (f := 5) rfl (inj 5 (by decide)) (m_fld_heights C) (se_var (pv 0))) (se_fld (f := 0) rfl (inj 0 (by decide)) (m_fld_counts C) (se_var (pv 2))) (se_fld (f := 0) rfl (inj 0 (by decide)) (m_fld_counts C) (se_var (pv 1)))) (blk_ok (own := [("height", 11), ("more", 8), ("less", 12)]) (by kernel_rfl)) (tb_tp (tbs_cons (tb_nm 11 (by decide)) (tbs_cons (tb_nm 8 (by decide)) (tbs_cons (tb_nm 12 (by decide)) tbs_nil))) rfl) (fun _ _ _ _ _ => (pg_tup rfl (pgs_cons (pg_name (i := 11) nd rfl (by first | exact Or.inl rfl | exact Or.inr rfl)) (pgs_cons (pg_name (i := 8) nd rfl (by first | exact Or.inl rfl | exact Or.inr rfl)) (pgs_cons (pg_name (i := 12) nd rfl (by first | exact Or.inl rfl | exact Or.inr rfl)) pgs_nil))))) (fun _ _ _ _ _ => sts_nil) (fun _ _ _ _ _ => (se_bin op_repR ok_rep (se_var (pv 11)) (se_bin op_sub ok_sub (se_var (pv 8)) (se_var (pv 12)))))) sa_nil)) ok_sum)) (pg_name (i := 5) nd rfl (by first | exact Or.inl rfl | exact Or.inr rfl))) (tg_nm 5))
 (ss_one (ss_ret (se_eq T (m_eqt C) (se_var (pv 5)) (se_argB (pe_callB (cr_sumA rfl) rfl (m_b_sum C) (by rfl) (sa_cons (se_lc (own := [("flow", 13)]) rfl nd (si_seq rfl (se_fld (f := 4) rfl (inj 4 (by decide)) (m_fld_flows C) (se_var (pv 0)))) (blk_ok (own := [("flow", 13)]) (by kernel_rfl)) (tb_nm 13 (by decide)) (fun _ _ _ _ _ => (pg_name (i := 13) nd rfl (by first | exact Or.inl rfl | exact Or.inr rfl))) (fun _ _ _ _ _ => sts_nil) (fun _ _ _ _ _ => (se_argB (pe_callB call_abs rfl (m_b_abs C) (by rfl) (sa_cons (se_var (pv 13)) sa_nil)) ok_abs))) sa_nil)) ok_sum) (nomark _)))))))))))
theorem ok15 {n : Nat} (C : Ctx K base mg) (ih : All P w K mg base (GG K) TT n) : ∀ np, FnR P w K mg base L2.CX0 (2 * (n + 1)) ((GG K).fa 15) (spF (GG K) (callF TT (n + 1)) 15 np) := by
  obtain ⟨fd, F⟩ := C.says.def_ 15 (d := d15) rfl
  exact def_ok (b := b15) rfl F sc15 rfl rfl (FunD_binds F fun _ _ _ _ _ _ us hl => match us, hl with | [_, _, _], _ => rfl) fun cdv A outer s H E n0 hr => dv15 C ih cdv A outer s H E n0 hr
abbrev N16 : List Str := ["one", "other", "flow"]
theorem sc16 : FnScope N16 ["one", "other"] (defScope (top 17)) := ⟨rfl, rfl, rfl, by decide +kernel, rfl, by decide +kernel, by decide +kernel⟩
theorem dv16 {n : Nat} {cf : CF} (C : Ctx K base mg) (ih : ∀ f np, FnR P w K mg base L2.CX0 (2 * n) ((GG K).fa f) (spF (GG K) cf f np)) (cdv : Value) (A : Around) (outer : List PySem.Env) (s : Shared) (H : Hp) (E : XK) (n0 : Nat) (hr : Room (2 * n + 1) (A.deeper (envOfC "least_steps" (defScope (top 17)) s.heap.objs.size ((GG K).fa 16) cdv))) :
    PSs (cxOf L2.CX0 P w K mg base N16 "least_steps" (defScope (top 17)) ((GG K).fa 16) cdv A outer s H E).nox (defBody (top 17)) (rdS (GG K) n0 (sCons (sExp (eCall cf 2 11 (aCons (eVar 0) (aCons (eVar 1) aNil)))) (sRet (eArg bSum (aCons (eLc (iSeq (eCall cf 2 12 (aCons (eVar 0) (aCons (eVar 1) aNil)))) (gNm 2) [2] tYesP (eArg bAbs (aCons (eVar 2) aNil))) aNil))))) := by
  have T : Tb (cxOf L2.CX0 P w K mg base N16 "least_steps" (defScope (top 17)) ((GG K).fa 16) cdv A outer s H E).nox (GG K) cf (2 * n) := ⟨rfl, ih, hr, rfl⟩
  have nd := sc16.nd
  exact (ss_cons (ss_expr (sx_call T rfl (m_f_check_pair C) (m_k_check_pair C) (sa_cons (se_var (pv 0)) (sa_cons (se_var (pv 1)) sa_nil))))
 (ss_one (ss_ret (se_argB (pe_callB (cr_sumA rfl) rfl (m_b_sum C) (by rfl) (sa_cons (se_lc (own := [("flow", 2)]) rfl nd (si_seq rfl (sx_call T rfl (m_f_flows_of C) (m_k_flows_of C) (sa_cons (se_var (pv 0)) (sa_cons (se_var (pv 1)) sa_nil)))) (blk_ok (own := [("flow", 2)]) (by kernel_rfl)) (tb_nm 2 (by decide)) (fun _ _ _ _ _ => (pg_name (i := 2) nd rfl (by first | exact Or.inl rfl | exact Or.inr rfl))) (fun _ _ _ _ _ => sts_nil) (fun _ _ _ _ _ => (se_argB (pe_callB call_abs rfl (m_b_abs C) (by rfl) (sa_cons (se_var (pv 2)) sa_nil)) ok_abs))) sa_nil)) ok_sum))))
theorem ok16 {n : Nat} (C : Ctx K base mg) (ih : All P w K mg base (GG K) TT n) : ∀ np, FnR P w K mg base L2.CX0 (2 * (n + 1)) ((GG K).fa 16) (spF (GG K) (callF TT (n + 1)) 16 np) := by
  obtain ⟨fd, F⟩ := C.says.def_ 16 (d := d16) rfl
  exact def_ok (b := b16) rfl F sc16 rfl rfl (FunD_binds F fun _ _ _ _ _ _ us hl => match us, hl with | [_, _], _ => rfl) fun cdv A outer s H E n0 hr => dv16 C ih cdv A outer s H E n0 hr
abbrev N17 : List Str := ["one", "other", "flows", "heights", "flow"]
theorem sc17 : FnScope N17 ["one", "other"] (defScope (top 18)) := ⟨rfl, rfl, rfl, by decide +kernel, rfl, by decide +kernel, by decide +kernel⟩
theorem dv17 {n : Nat} {cf : CF} (C : Ctx K base mg) (ih : ∀ f np, FnR P w K mg base L2.CX0 (2 * n) ((GG K).fa f) (spF (GG K) cf f np)) (cdv : Value) (A : Around) (outer : List PySem.Env) (s : Shared) (H : Hp) (E : XK) (n0 : Nat) (hr : Room (2 * n + 1) (A.deeper (envOfC "move_rows" (defScope (top 18)) s.heap.objs.size ((GG K).fa 17) cdv))) :
    PSs (cxOf L2.CX0 P w K mg base N17 "move_rows" (defScope (top 18)) ((GG K).fa 17) cdv A outer s H E).nox (defBody (top 18)) (rdS (GG K) n0 (sCons (sExp (eCall cf 2 11 (aCons (eVar 0) (aCons (eVar 1) aNil)))) (sCons (sPar [2, 3] (aCons (eCall cf 2 12 (aCons (eVar 0) (aCons (eVar 1) aNil))) (aCons (eNew (eLst (aCons (eLit (.int 0)) aNil))) aNil))) (sCons (sFor (iSeq (eVar 2)) (gNm 4) (sExp (eLm (appL n0) (eVar 3) (eBin oCat (eIx cf [(0, 4)] (eVar 3) (eUn oNeg (eLit (.int 1)))) (eIf (tBl (eBin oGt (eVar 4) (eLit (.int 0)))) (eLit (.int 1)) (eIf (tBl (eBin oLt (eVar 4) (eLit (.int 0)))) (eUn oNeg (eLit (.int 1))) (eLit (.int 0)))))))) (sRet (eMake cf 3 1 13 (aCons (eVar 2) (aCons (eVar 3) aNil)))))))) := by
  have T : Tb (cxOf L2.CX0 P w K mg base N17 "move_rows" (defScope (top 18)) ((GG K).fa 17) cdv A outer s H E).nox (GG K) cf (2 * n) := ⟨rfl, ih, hr, rfl⟩
  have nd := sc17.nd
  exact (ss_cons (ss_expr (sx_call T rfl (m_f_check_pair C) (m_k_check_pair C) (sa_cons (se_var (pv 0)) (sa_cons (se_var (pv 1)) sa_nil))))
 (ss_cons (ss_par (ps_par (i := 2) (j := 3) rfl nd rfl rfl (by decide) rfl rfl (sa_cons (sx_call T rfl (m_f_flows_of C) (m_k_flows_of C) (sa_cons (se_var (pv 0)) (sa_cons (se_var (pv 1)) sa_nil))) (sa_cons (se_new (se_lst (sa_cons (se_lit pe_int fun _ _ => rfl) sa_nil))) sa_nil)) (by rfl)))
 (ss_cons (ss_for (ps_for PassesOwn.never rfl (si_seq rfl (se_var (pv 2))) (pg_name (i := 4) nd rfl (by first | exact Or.inl rfl | exact Or.inr rfl)) (ss_one (ss_expr (se_lm rfl chg_app (pe_bm PySem.F.plainAttrs_list PySem.F.slot_list_append PySem.F.type_list_append mt_append (toV (se_var (pv 3))) (pa_cons (toV (se_bin op_catR ok_cat (se_ixG T (m_spc___getitem__ C) (se_var (pv 3)) (se_un un_neg ok_neg (se_lit pe_int fun _ _ => rfl)) (fun _ _ => rfl) (fun _ _ => by with_unfolding_all rfl)) (se_if (st_cmp op_gt ok_gt (se_var (pv 4)) (se_lit pe_int fun _ _ => rfl) (nomark _)) (se_lit pe_int fun _ _ => rfl) (se_if (st_cmp op_lt ok_lt (se_var (pv 4)) (se_lit pe_int fun _ _ => rfl) (nomark _)) (se_un un_neg ok_neg (se_lit pe_int fun _ _ => rfl)) (se_lit pe_int fun _ _ => rfl))))) pa_nil)))))) (tg_nm 4))
 (ss_one (ss_ret (se_make T (m_mk_Moved C) rfl (m_c_Moved C) (sa_cons (se_var (pv 2)) (sa_cons (se_var (pv 3)) sa_nil))))))))
theorem ok17 {n : Nat} (C : Ctx K base mg) (ih : All P w K mg base (GG K) TT n) : ∀ np, FnR P w K mg base L2.CX0 (2 * (n + 1)) ((GG K).fa 17) (spF (GG K) (callF TT (n + 1)) 17 np) := by
  obtain ⟨fd, F⟩ := C.says.def_ 17 (d := d17) rfl
  exact def_ok (b := b17) rfl F sc17 rfl rfl (FunD_binds F fun _ _ _ _ _ _ us hl => match us, hl with | [_, _], _ => rfl) fun cdv A outer s H E n0 hr => dv17 C ih cdv A outer s H E n0 hr
abbrev N18 : List Str := ["one", "other", "count", "late"]
theorem sc18 : FnScope N18 ["one", "other"] (defScope (top 19)) := ⟨rfl, rfl, rfl, by decide +kernel, rfl, by decide +kernel, by decide +kernel⟩
theorem dv18 {n : Nat} {cf : CF} (C : Ctx K base mg) (ih : ∀ f np, FnR P w K mg base L2.CX0 (2 * n) ((GG K).fa f) (spF (GG K) cf f np)) (cdv : Value) (A : Around) (outer : List PySem.Env) (s : Shared) (H : Hp) (E : XK) (n0 : Nat) (hr : Room (2 * n + 1) (A.deeper (envOfC "fewest_changed" (defScope (top 19)) s.heap.objs.size ((GG K).fa 18) cdv))) :
    PSs (cxOf L2.CX0 P w K mg base N18 "fewest_changed" (defScope (top 19)) ((GG K).fa 18) cdv A outer s H E).nox (defBody (top 19)) (rdS (GG K) n0 (sCons (sExp (eCall cf 2 11 (aCons (eVar 0) (aCons (eVar 1) aNil)))) (sRet (eArg bSum (aCons (eLc (iZip (eFld [0] 0 (eVar 0)) (eFld [0] 0 (eVar 1))) (gTp [(gNm 2), (gNm 3)]) [2, 3] tYesP (eArg bMax2 (aCons (eLit (.int 0)) (aCons (eBin oSub (eVar 2) (eVar 3)) aNil)))) aNil))))) := by
  have T : Tb (cxOf L2.CX0 P w K mg base N18 "fewest_changed" (defScope (top 19)) ((GG K).fa 18) cdv A outer s H E).nox (GG K) cf (2 * n) := ⟨rfl, ih, hr, rfl⟩
  have nd := sc18.nd
  exact (ss_cons (ss_expr (sx_call T rfl (m_f_check_pair C) (m_k_check_pair C) (sa_cons (se_var (pv 0)) (sa_cons (se_var (pv 1)) sa_nil))))
 (ss_one (ss_ret (se_argB (pe_callB (cr_sumA rfl) rfl (m_b_sum C) (by rfl) (sa_cons (se_lc (own := [("count", 2), ("late", 3)]) rfl nd (si_zip rfl rfl (m_b_zip C) (se_fld (f := 0) rfl (inj 0 (by decide)) (m_fld_counts C) (se_var (pv 0))) (se_fld (f := 0) rfl (inj 0 (by decide)) (m_fld_counts C) (se_var (pv 1)))) (blk_ok (own := [("count", 2), ("late", 3)]) (by kernel_rfl)) (tb_tp (tbs_cons (tb_nm 2 (by decide)) (tbs_cons (tb_nm 3 (by decide)) tbs_nil)) rfl) (fun _ _ _ _ _ => (pg_tup rfl (pgs_cons (pg_name (i := 2) nd rfl (by first | exact Or.inl rfl | exact Or.inr rfl)) (pgs_cons (pg_name (i := 3) nd rfl (by first | exact Or.inl rfl | exact Or.inr rfl)) pgs_nil)))) (fun _ _ _ _ _ => sts_nil) (fun _ _ _ _ _ => (se_argB (pe_callB (call_max2 rfl) rfl (m_b_max C) (by rfl) (sa_cons (se_lit pe_int fun _ _ => rfl) (sa_cons (se_bin op_sub ok_sub (se_var (pv 2)) (se_var (pv 3))) sa_nil))) ok_max2))) sa_nil)) ok_sum))))
theorem ok18 {n : Nat} (C : Ctx K base mg) (ih : All P w K mg base (GG K) TT n) : ∀ np, FnR P w K mg base L2.CX0 (2 * (n + 1)) ((GG K).fa 18) (spF (GG K) (callF TT (n + 1)) 18 np) := by
  obtain ⟨fd, F⟩ := C.says.def_ 18 (d := d18) rfl
  exact def_ok (b := b18) rfl F sc18 rfl rfl (FunD_binds F fun _ _ _ _ _ _ us hl => match us, hl with | [_, _], _ => rfl) fun cdv A outer s H E n0 hr => dv18 C ih cdv A outer s H E n0 hr
abbrev N19 : List Str := ["one", "other", "early", "late"]
theorem sc19 : FnScope N19 ["one", "other"] (defScope (top 20)) := ⟨rfl, rfl, rfl, by decide +kernel, rfl, by decide +kernel, by decide +kernel⟩
theorem dv19 {n : Nat} {cf : CF} (C : Ctx K base mg) (ih : ∀ f np, FnR P w K mg base L2.CX0 (2 * n) ((GG K).fa f) (spF (GG K) cf f np)) (cdv : Value) (A : Around) (outer : List PySem.Env) (s : Shared) (H : Hp) (E : XK) (n0 : Nat) (hr : Room (2 * n + 1) (A.deeper (envOfC "farthest_row" (defScope (top 20)) s.heap.objs.size ((GG K).fa 19) cdv))) :
    PSs (cxOf L2.CX0 P w K mg base N19 "farthest_row" (defScope (top 20)) ((GG K).fa 19) cdv A outer s H E).nox (defBody (top 20)) (rdS (GG K) n0 (sCons (sExp (eCall cf 2 11 (aCons (eVar 0) (aCons (eVar 1) aNil)))) (sRet (eArg bMaxL (aCons (eLst (aCons (eLit (.int 0)) (aStar (eLc (iZip (eMeth cf 1 7 [(0, 9)] (eVar 0) aNil) (eMeth cf 1 7 [(0, 9)] (eVar 1) aNil)) (gTp [(gNm 2), (gNm 3)]) [2, 3] tYesP (eArg bAbs (aCons (eBin oSub (eVar 2) (eVar 3)) aNil))) aNil))) aNil))))) := by
  have T : Tb (cxOf L2.CX0 P w K mg base N19 "farthest_row" (defScope (top 20)) ((GG K).fa 19) cdv A outer s H E).nox (GG K) cf (2 * n) := ⟨rfl, ih, hr, rfl⟩
  have nd := sc19.nd
  exact (ss_cons (ss_expr (sx_call T rfl (m_f_check_pair C) (m_k_check_pair C) (sa_cons (se_var (pv 0)) (sa_cons (se_var (pv 1)) sa_nil))))
 (ss_one (ss_ret (se_argB (pe_callB (cr_maxA rfl (Tb.room T).units) rfl (m_b_max C) (by rfl) (sa_cons (se_lst (sa_cons (se_lit pe_int fun _ _ => rfl) (sa_star rfl (se_lc (own := [("early", 2), ("late", 3)]) rfl nd (si_zip rfl rfl (m_b_zip C) (se_meth0 (m := 7) T (inj 7 (by decide)) (m_met_sorted_rows C) (se_var (pv 0))) (se_meth0 (m := 7) T (inj 7 (by decide)) (m_met_sorted_rows C) (se_var (pv 1)))) (blk_ok (own := [("early", 2), ("late", 3)]) (by kernel_rfl)) (tb_tp (tbs_cons (tb_nm 2 (by decide)) (tbs_cons (tb_nm 3 (by decide)) tbs_nil)) rfl) (fun _ _ _ _ _ => (pg_tup rfl (pgs_cons (pg_name (i := 2) nd rfl (by first | exact Or.inl rfl | exact Or.inr rfl)) (pgs_cons (pg_name (i := 3) nd rfl (by first | exact Or.inl rfl | exact Or.inr rfl)) pgs_nil)))) (fun _ _ _ _ _ => sts_nil) (fun _ _ _ _ _ => (se_argB (pe_callB call_abs rfl (m_b_abs C) (by rfl) (sa_cons (se_bin op_sub ok_sub (se_var (pv 2)) (se_var (pv 3))) sa_nil)) ok_abs))) sa_nil))) sa_nil)) ok_maxL))))
theorem ok19 {n : Nat} (C : Ctx K base mg) (ih : All P w K mg base (GG K) TT n) : ∀ np, FnR P w K mg base L2.CX0 (2 * (n + 1)) ((GG K).fa 19) (spF (GG K) (callF TT (n + 1)) 19 np) := by
  obtain ⟨fd, F⟩ := C.says.def_ 19 (d := d19) rfl
  exact def_ok (b := b19) rfl F sc19 rfl rfl (FunD_binds F fun _ _ _ _ _ _ us hl => match us, hl with | [_, _], _ => rfl) fun cdv A outer s H E n0 hr => dv19 C ih cdv A outer s H E n0 hr
abbrev N20 : List Str := ["_law_script", "_law_index", "_law_cells", "_law_cell", "_law_low", "_law_high", "_law_total", "_law_blend"]
theorem sc20 : FnScope N20 ["_law_script", "_law_index"] (defScope (top 22)) := ⟨rfl, rfl, rfl, by decide +kernel, rfl, by decide +kernel, by decide +kernel⟩
theorem dv20 {n : Nat} {cf : CF} (C : Ctx K base mg) (ih : ∀ f np, FnR P w K mg base L2.CX0 (2 * n) ((GG K).fa f) (spF (GG K) cf f np)) (cdv : Value) (A : Around) (outer : List PySem.Env) (s : Shared) (H : Hp) (E : XK) (n0 : Nat) (hr : Room (2 * n + 1) (A.deeper (envOfC "_law_number" (defScope (top 22)) s.heap.objs.size ((GG K).fa 20) cdv))) :
    PSs (cxOf L2.CX0 P w K mg base N20 "_law_number" (defScope (top 22)) ((GG K).fa 20) cdv A outer s H E).nox (defBody (top 22)) (rdS (GG K) n0 (sCons (sAsg (gNm 2) (eIf (tBl (eNe cf [(0, 2), (1, 14)] [.non, .bl, .int, .str, .tup, .lst, .dct, .own 0, .own 1] (eVar 0) (eLst aNil))) (eSl (eVar 0) pNo (pSo (eLit (.int 63)))) (eLst (aCons (eLit (.int 5)) aNil)))) (sCons (sAsg (gNm 3) (eBin oCat (eIx cf [(0, 4)] (eVar 2) (eBin oMod (eArg bInt (aCons (eVar 1) aNil)) (eLen cf [(0, 3)] (eVar 2)))) (eBin oRep (eLit (.int 13)) (eBin oDiv (eVar 1) (eLen cf [(0, 3)] (eVar 2)))))) (sCons (sPar [4, 5] (aCons (eBin oMod (eArg bInt (aCons (eVar 3) aNil)) (eLit (.int 1000003))) (aCons (eBin oMod (eArg bInt (aCons (eBin oDiv (eVar 3) (eLit (.int 1000003))) aNil)) (eLit (.int 999983))) aNil))) (sCons (sAsg (gNm 6) (eBin oMod (eArg bInt (aCons (eArg bSum (aCons (eVar 2) aNil)) aNil)) (eLit (.int 65521)))) (sCons (sAsg (gNm 7) (eBin oMod (eArg bInt (aCons (eBin oCat (eBin oCat (eBin oRep (eBin oCat (eVar 4) (eBin oRep (eLit (.int 977)) (eVar 1))) (eLit (.int 48271))) (eBin oRep (eLit (.int 31)) (eVar 5))) (eVar 6)) aNil)) (eLit (.int 2147483647)))) (sRet (eBin oCat (eBin oRep (eBin oMod (eArg bInt (aCons (eBin oRep (eVar 7) (eBin oCat (eBin oCat (eVar 7) (eBin oRep (eLit (.int 31)) (eVar 1))) (eLit (.int 7)))) aNil)) (eLit (.int 2147483629))) (eLit (.int 65537))) (eVar 5))))))))) := by
  have T : Tb (cxOf L2.CX0 P w K mg base N20 "_law_number" (defScope (top 22)) ((GG K).fa 20) cdv A outer s H E).nox (GG K) cf (2 * n) := ⟨rfl, ih, hr, rfl⟩
  have nd := sc20.nd
  exact (ss_cons (ss_asg (ps_asg (toV (se_if (st_ne T (m_eqt C) (se_var (pv 0)) (se_lst sa_nil) (nomark _)) (se_sl rfl (se_var (pv 0)) so_none (so_some (se_lit pe_int fun _ _ => rfl))) (se_lst (sa_cons (se_lit pe_int fun _ _ => rfl) sa_nil)))) (pg_name (i := 2) nd rfl (by first | exact Or.inl rfl | exact Or.inr rfl))) (tg_nm 2))
 (ss_cons (ss_asg (ps_asg (toV (se_bin op_catR ok_cat (se_ixG T (m_spc___getitem__ C) (se_var (pv 2)) (se_bin op_mod ok_mod (se_argB (pe_callTy call_int1 rfl (m_b_int C) (by rfl) (sa_cons (se_var (pv 1)) sa_nil)) ok_int) (se_len T rfl (m_b_len C) (fun p hp => ((m_spc___len__ C) p hp).1) (se_var (pv 2)))) (fun _ _ => rfl) (fun _ _ => by with_unfolding_all rfl)) (se_bin op_repR ok_rep (se_lit pe_int fun _ _ => rfl) (se_bin op_fdiv ok_div (se_var (pv 1)) (se_len T rfl (m_b_len C) (fun p hp => ((m_spc___len__ C) p hp).1) (se_var (pv 2))))))) (pg_name (i := 3) nd rfl (by first | exact Or.inl rfl | exact Or.inr rfl))) (tg_nm 3))
 (ss_cons (ss_par (ps_par (i := 4) (j := 5) rfl nd rfl rfl (by decide) rfl rfl (sa_cons (se_bin op_mod ok_mod (se_argB (pe_callTy call_int1 rfl (m_b_int C) (by rfl) (sa_cons (se_var (pv 3)) sa_nil)) ok_int) (se_lit pe_int fun _ _ => rfl)) (sa_cons (se_bin op_mod ok_mod (se_argB (pe_callTy call_int1 rfl (m_b_int C) (by rfl) (sa_cons (se_bin op_fdiv ok_div (se_var (pv 3)) (se_lit pe_int fun _ _ => rfl)) sa_nil)) ok_int) (se_lit pe_int fun _ _ => rfl)) sa_nil)) (by rfl)))
 (ss_cons (ss_asg (ps_asg (toV (se_bin op_mod ok_mod (se_argB (pe_callTy call_int1 rfl (m_b_int C) (by rfl) (sa_cons (se_argB (pe_callB (cr_sumA rfl) rfl (m_b_sum C) (by rfl) (sa_cons (se_var (pv 2)) sa_nil)) ok_sum) sa_nil)) ok_int) (se_lit pe_int fun _ _ => rfl))) (pg_name (i := 6) nd rfl (by first | exact Or.inl rfl | exact Or.inr rfl))) (tg_nm 6))
 (ss_cons (ss_asg (ps_asg (toV (se_bin op_mod ok_mod (se_argB (pe_callTy call_int1 rfl (m_b_int C) (by rfl) (sa_cons (se_bin op_catR ok_cat (se_bin op_catR ok_cat (se_bin op_repR ok_rep (se_bin op_catR ok_cat (se_var (pv 4)) (se_bin op_repR ok_rep (se_lit pe_int fun _ _ => rfl) (se_var (pv 1)))) (se_lit pe_int fun _ _ => rfl)) (se_bin op_repR ok_rep (se_lit pe_int fun _ _ => rfl) (se_var (pv 5)))) (se_var (pv 6))) sa_nil)) ok_int) (se_lit pe_int fun _ _ => rfl))) (pg_name (i := 7) nd rfl (by first | exact Or.inl rfl | exact Or.inr rfl))) (tg_nm 7))
 (ss_one (ss_ret (se_bin op_catR ok_cat (se_bin op_repR ok_rep (se_bin op_mod ok_mod (se_argB (pe_callTy call_int1 rfl (m_b_int C) (by rfl) (sa_cons (se_bin op_repR ok_rep (se_var (pv 7)) (se_bin op_catR ok_cat (se_bin op_catR ok_cat (se_var (pv 7)) (se_bin op_repR ok_rep (se_lit pe_int fun _ _ => rfl) (se_var (pv 1)))) (se_lit pe_int fun _ _ => rfl))) sa_nil)) ok_int) (se_lit pe_int fun _ _ => rfl)) (se_lit pe_int fun _ _ => rfl)) (se_var (pv 5))))))))))
theorem ok20 {n : Nat} (C : Ctx K base mg) (ih : All P w K mg base (GG K) TT n) : ∀ np, FnR P w K mg base L2.CX0 (2 * (n + 1)) ((GG K).fa 20) (spF (GG K) (callF TT (n + 1)) 20 np) := by
  obtain ⟨fd, F⟩ := C.says.def_ 20 (d := d20) rfl
  exact def_ok (b := b20) rfl F sc20 rfl rfl (FunD_binds F fun _ _ _ _ _ _ us hl => match us, hl with | [_, _], _ => rfl) fun cdv A outer s H E n0 hr => dv20 C ih cdv A outer s H E n0 hr
abbrev N21 : List Str := ["_law_draw", "_law_many"]
theorem sc21 : FnScope N21 ["_law_draw", "_law_many"] (defScope (top 23)) := ⟨rfl, rfl, rfl, by decide +kernel, rfl, by decide +kernel, by decide +kernel⟩
theorem dv21 {n : Nat} {cf : CF} (C : Ctx K base mg) (ih : ∀ f np, FnR P w K mg base L2.CX0 (2 * n) ((GG K).fa f) (spF (GG K) cf f np)) (cdv : Value) (A : Around) (outer : List PySem.Env) (s : Shared) (H : Hp) (E : XK) (n0 : Nat) (hr : Room (2 * n + 1) (A.deeper (envOfC "_law_take" (defScope (top 23)) s.heap.objs.size ((GG K).fa 21) cdv))) :
    PSs (cxOf L2.CX0 P w K mg base N21 "_law_take" (defScope (top 23)) ((GG K).fa 21) cdv A outer s H E).nox (defBody (top 23)) (rdS (GG K) n0 (sCons (sSetI (setG n0) (eVar 0) (eLit (.int 1)) (eBin oCat (eIx cf [(0, 4)] (eVar 0) (eLit (.int 1))) (eLit (.int 1)))) (sRet (eBin oMod (eArg bInt (aCons (eCall cf 2 20 (aCons (eIx cf [(0, 4)] (eVar 0) (eLit (.int 0))) (aCons (eArg bInt (aCons (eIx cf [(0, 4)] (eVar 0) (eLit (.int 1))) aNil)) aNil))) aNil)) (eVar 1))))) := by
  have T : Tb (cxOf L2.CX0 P w K mg base N21 "_law_take" (defScope (top 23)) ((GG K).fa 21) cdv A outer s H E).nox (GG K) cf (2 * n) := ⟨rfl, ih, hr, rfl⟩
  have nd := sc21.nd
  exact (ss_cons (ss_setI chg_setG (ps_asg (toV (se_bin op_catR ok_cat (se_ixG T (m_spc___getitem__ C) (se_var (pv 0)) (se_lit pe_int fun _ _ => rfl) (fun _ _ => rfl) (fun _ _ => by with_unfolding_all rfl)) (se_lit pe_int fun _ _ => rfl))) (pg_sub (toV (se_var (pv 0))) (toV (se_lit pe_int fun _ _ => rfl)) (set_G (units2 T)))))
 (ss_one (ss_ret (se_bin op_mod ok_mod (se_argB (pe_callTy call_int1 rfl (m_b_int C) (by rfl) (sa_cons (sx_call T rfl (m_f__law_number C) (m_k__law_number C) (sa_cons (se_ixG T (m_spc___getitem__ C) (se_var (pv 0)) (se_lit pe_int fun _ _ => rfl) (fun _ _ => rfl) (fun _ _ => by with_unfolding_all rfl)) (sa_cons (se_argB (pe_callTy call_int1 rfl (m_b_int C) (by rfl) (sa_cons (se_ixG T (m_spc___getitem__ C) (se_var (pv 0)) (se_lit pe_int fun _ _ => rfl) (fun _ _ => rfl) (fun _ _ => by with_unfolding_all rfl)) sa_nil)) ok_int) sa_nil))) sa_nil)) ok_int) (se_var (pv 1))))))
theorem ok21 {n : Nat} (C : Ctx K base mg) (ih : All P w K mg base (GG K) TT n) : ∀ np, FnR P w K mg base L2.CX0 (2 * (n + 1)) ((GG K).fa 21) (spF (GG K) (callF TT (n + 1)) 21 np) := by
  obtain ⟨fd, F⟩ := C.says.def_ 21 (d := d21) rfl
  exact def_ok (b := b21) rfl F sc21 rfl rfl (FunD_binds F fun _ _ _ _ _ _ us hl => match us, hl with | [_, _], _ => rfl) fun cdv A outer s H E n0 hr => dv21 C ih cdv A outer s H E n0 hr
abbrev N22 : List Str := ["_law_draw", "_law_most", "_law_rows", "_law_width", "_law_found", "_law_turn", "_law_counts", "_law_row", "_law_value"]
theorem sc22 : FnScope N22 ["_law_draw", "_law_most", "_law_rows"] (defScope (top 24)) := ⟨rfl, rfl, rfl, by decide +kernel, rfl, by decide +kernel, by decide +kernel⟩
theorem dv22 {n : Nat} {cf : CF} (C : Ctx K base mg) (ih : ∀ f np, FnR P w K mg base L2.CX0 (2 * n) ((GG K).fa f) (spF (GG K) cf f np)) (cdv : Value) (A : Around) (outer : List PySem.Env) (s : Shared) (H : Hp) (E : XK) (n0 : Nat) (hr : Room (2 * n + 1) (A.deeper (envOfC "_law_pair" (defScope (top 24)) s.heap.objs.size ((GG K).fa 22) cdv))) :
    PSs (cxOf L2.CX0 P w K mg base N22 "_law_pair" (defScope (top 24)) ((GG K).fa 22) cdv A outer s H E).nox (defBody (top 24)) (rdS (GG K) n0 (sCons (sAsg (gNm 3) (eBin oCat (eLit (.int 1)) (eCall cf 2 21 (aCons (eVar 0) (aCons (eVar 1) aNil))))) (sCons (sAsg (gNm 4) (eNew (eLst aNil))) (sCons (sFor (iRg1 (eLit (.int 2))) (gNm 5) (sCons (sAsg (gNm 6) (eNew (eBin oRep (eLst (aCons (eLit (.int 0)) aNil)) (eVar 3)))) (sCons (sFor (iRg1 (eVar 2)) (gNm 7) (sCons (sAsg (gNm 8) (eCall cf 2 21 (aCons (eVar 0) (aCons (eVar 3) aNil)))) (sCons (sWhl 100 (tBl (eEq cf [(0, 2), (1, 14)] [.non, .bl, .int, .str, .tup, .lst, .dct, .own 0, .own 1] (eIx cf [(0, 4)] (eVar 6) (eVar 8)) (eLit (.int 9)))) (sAsg (gNm 8) (eBin oMod (eBin oCat (eVar 8) (eLit (.int 1))) (eVar 3)))) (sSetI (setG n0) (eVar 6) (eVar 8) (eBin oCat (eIx cf [(0, 4)] (eVar 6) (eVar 8)) (eLit (.int 1))))))) (sExp (eLm (appL n0) (eVar 4) (eVar 6)))))) (sRet (eVar 4)))))) := by
  have T : Tb (cxOf L2.CX0 P w K mg base N22 "_law_pair" (defScope (top 24)) ((GG K).fa 22) cdv A outer s H E).nox (GG K) cf (2 * n) := ⟨rfl, ih, hr, rfl⟩
  have nd := sc22.nd
  exact (ss_cons (ss_asg (ps_asg (toV (se_bin op_catR ok_cat (se_lit pe_int fun _ _ => rfl) (sx_call T rfl (m_f__law_take C) (m_k__law_take C) (sa_cons (se_var (pv 0)) (sa_cons (se_var (pv 1)) sa_nil))))) (pg_name (i := 3) nd rfl (by first | exact Or.inl rfl | exact Or.inr rfl))) (tg_nm 3))
 (ss_cons (ss_asg (ps_asg (toV (se_new (se_lst sa_nil))) (pg_name (i := 4) nd rfl (by first | exact Or.inl rfl | exact Or.inr rfl))) (tg_nm 4))
 (ss_cons (ss_for (ps_for PassesOwn.never rfl (si_rng1 rfl (m_b_range C) (se_lit pe_int fun _ _ => rfl)) (pg_name (i := 5) nd rfl (by first | exact Or.inl rfl | exact Or.inr rfl)) (ss_cons (ss_asg (ps_asg (toV (se_new (se_bin op_repR ok_rep (se_lst (sa_cons (se_lit pe_int fun _ _ => rfl) sa_nil)) (se_var (pv 3))))) (pg_name (i := 6) nd rfl (by first | exact Or.inl rfl | exact Or.inr rfl))) (tg_nm 6))
 (ss_cons (ss_for (ps_for PassesOwn.never rfl (si_rng1 rfl (m_b_range C) (se_var (pv 2))) (pg_name (i := 7) nd rfl (by first | exact Or.inl rfl | exact Or.inr rfl)) (ss_cons (ss_asg (ps_asg (toV (sx_call T rfl (m_f__law_take C) (m_k__law_take C) (sa_cons (se_var (pv 0)) (sa_cons (se_var (pv 3)) sa_nil)))) (pg_name (i := 8) nd rfl (by first | exact Or.inl rfl | exact Or.inr rfl))) (tg_nm 8))
 (ss_cons (ss_whl (ps_while PassesOwn.never (st_eq T (m_eqt C) (se_ixG T (m_spc___getitem__ C) (se_var (pv 6)) (se_var (pv 8)) (fun _ _ => rfl) (fun _ _ => by with_unfolding_all rfl)) (se_lit pe_int fun _ _ => rfl) (nomark _)) (ss_one (ss_asg (ps_asg (toV (se_bin op_mod ok_mod (se_bin op_catR ok_cat (se_var (pv 8)) (se_lit pe_int fun _ _ => rfl)) (se_var (pv 3)))) (pg_name (i := 8) nd rfl (by first | exact Or.inl rfl | exact Or.inr rfl))) (tg_nm 8)))))
 (ss_one (ss_setI chg_setG (ps_asg (toV (se_bin op_catR ok_cat (se_ixG T (m_spc___getitem__ C) (se_var (pv 6)) (se_var (pv 8)) (fun _ _ => rfl) (fun _ _ => by with_unfolding_all rfl)) (se_lit pe_int fun _ _ => rfl))) (pg_sub (toV (se_var (pv 6))) (toV (se_var (pv 8))) (set_G (units2 T))))))))) (tg_nm 7))
 (ss_one (ss_expr (se_lm rfl chg_app (pe_bm PySem.F.plainAttrs_list PySem.F.slot_list_append PySem.F.type_list_append mt_append (toV (se_var (pv 4))) (pa_cons (toV (se_var (pv 6))) pa_nil)))))))) (tg_nm 5))
 (ss_one (ss_ret (se_var (pv 4)))))))
theorem ok22 {n : Nat} (C : Ctx K base mg) (ih : All P w K mg base (GG K) TT n) : ∀ np, FnR P w K mg base L2.CX0 (2 * (n + 1)) ((GG K).fa 22) (spF (GG K) (callF TT (n + 1)) 22 np) := by
  obtain ⟨fd, F⟩ := C.says.def_ 22 (d := d22) rfl
  exact def_ok (b := b22) rfl F sc22 rfl rfl (FunD_binds F fun _ _ _ _ _ _ us hl => match us, hl with | [_, _, _], _ => rfl) fun cdv A outer s H E n0 hr => dv22 C ih cdv A outer s H E n0 hr
abbrev N23 : List Str := ["_law_one", "_law_other", "_law_layer", "_law_known", "_law_steps", "_law_fresh", "_law_some", "_law_value", "_law_late", "_law_next_one", "_law_at", "_law_count"]
theorem sc23 : FnScope N23 ["_law_one", "_law_other"] (defScope (top 25)) := ⟨rfl, rfl, rfl, by decide +kernel, rfl, by decide +kernel, by decide +kernel⟩
theorem dv23 {n : Nat} {cf : CF} (C : Ctx K base mg) (ih : ∀ f np, FnR P w K mg base L2.CX0 (2 * n) ((GG K).fa f) (spF (GG K) cf f np)) (cdv : Value) (A : Around) (outer : List PySem.Env) (s : Shared) (H : Hp) (E : XK) (n0 : Nat) (hr : Room (2 * n + 1) (A.deeper (envOfC "_law_search" (defScope (top 25)) s.heap.objs.size ((GG K).fa 23) cdv))) :
    PSs (cxOf L2.CX0 P w K mg base N23 "_law_search" (defScope (top 25)) ((GG K).fa 23) cdv A outer s H E).nox (defBody (top 25)) (rdS (GG K) n0 (sCons (sPar [2, 3, 4] (aCons (eLst (aCons (eArg bTuple (aCons (eVar 0) aNil)) aNil)) (aCons (eNew (eDsp1T (eArg bTuple (aCons (eVar 0) aNil)) (eLit (.bl true)))) (aCons (eLit (.int 0)) aNil)))) (sCons (sWhl 100 (tBl (eBin oNotIn (eArg bTuple (aCons (eVar 1) aNil)) (eVar 3))) (sCons (sAsg (gNm 5) (eNew (eLst aNil))) (sCons (sFor (iSeq (eVar 2)) (gNm 6) (sFor (iRg1 (eLen cf [(0, 3)] (eVar 6))) (gNm 7) (sFor (iSeq (eTup (aCons (eBin oSub (eVar 7) (eLit (.int 1))) (aCons (eBin oCat (eVar 7) (eLit (.int 1))) aNil)))) (gNm 8) (sIf (tAn (tBl (eBin oGt (eIx cf [(0, 4)] (eVar 6) (eVar 7)) (eLit (.int 0)))) (tBl (eCh oLe oLt (eLit (.int 0)) (eVar 8) (eLen cf [(0, 3)] (eVar 6))))) (sCons (sAsg (gNm 9) (eArg bTuple (aCons (eLc (iEnu (eVar 6)) (gTp [(gNm 10), (gNm 11)]) [10, 11] tYesP (eBin oCat (eBin oSub (eVar 11) (eArg bInt (aCons (eEq cf [(0, 2), (1, 14)] [.non, .bl, .int, .str, .tup, .lst, .dct, .own 0, .own 1] (eVar 10) (eVar 7)) aNil))) (eArg bInt (aCons (eEq cf [(0, 2), (1, 14)] [.non, .bl, .int, .str, .tup, .lst, .dct, .own 0, .own 1] (eVar 10) (eVar 8)) aNil)))) aNil))) (sIf (tBl (eBin oNotIn (eVar 9) (eVar 3))) (sCons (sSetI (setG n0) (eVar 3) (eVar 9) (eLit (.bl true))) (sExp (eLm (appL n0) (eVar 5) (eVar 9)))) sNil)) sNil)))) (sPar [2, 4] (aCons (eVar 5) (aCons (eBin oCat (eVar 4) (eLit (.int 1))) aNil)))))) (sRet (eVar 4))))) := by
  have T : Tb (cxOf L2.CX0 P w K mg base N23 "_law_search" (defScope (top 25)) ((GG K).fa 23) cdv A outer s H E).nox (GG K) cf (2 * n) := ⟨rfl, ih, hr, rfl⟩
  have nd := sc23.nd
  exact (ss_cons (ss_par3 (ps_par3 (i := 2) (j := 3) (l := 4) rfl nd rfl rfl rfl (by decide) (by decide) (by decide) rfl rfl rfl (sa_cons (se_lst (sa_cons (se_argB (pe_callTy call_tuple_of rfl (m_b_tuple C) (by rfl) (sa_cons (se_var (pv 0)) sa_nil)) ok_tuple) sa_nil)) (sa_cons (se_new (se_disp1T (units2 T) (toV (se_argB (pe_callTy call_tuple_of rfl (m_b_tuple C) (by rfl) (sa_cons (se_var (pv 0)) sa_nil)) ok_tuple)) (toV (se_lit pe_bl fun _ _ => rfl)))) (sa_cons (se_lit pe_int fun _ _ => rfl) sa_nil))) (by rfl)))
 (ss_cons (ss_whl (ps_while PassesOwn.never (st_cmp (op_notInG (units65 T)) ok_notIn (se_argB (pe_callTy call_tuple_of rfl (m_b_tuple C) (by rfl) (sa_cons (se_var (pv 1)) sa_nil)) ok_tuple) (se_var (pv 3)) (by rfl)) (ss_cons (ss_asg (ps_asg (toV (se_new (se_lst sa_nil))) (pg_name (i := 5) nd rfl (by first | exact Or.inl rfl | exact Or.inr rfl))) (tg_nm 5))
 (ss_cons (ss_for (ps_for PassesOwn.never rfl (si_seq rfl (se_var (pv 2))) (pg_name (i := 6) nd rfl (by first | exact Or.inl rfl | exact Or.inr rfl)) (ss_one (ss_for (ps_for PassesOwn.never rfl (si_rng1 rfl (m_b_range C) (se_len T rfl (m_b_len C) (fun p hp => ((m_spc___len__ C) p hp).1) (se_var (pv 6)))) (pg_name (i := 7) nd rfl (by first | exact Or.inl rfl | exact Or.inr rfl)) (ss_one (ss_for (ps_for PassesOwn.never rfl (si_seq rfl (se_tup (sa_cons (se_bin op_sub ok_sub (se_var (pv 7)) (se_lit pe_int fun _ _ => rfl)) (sa_cons (se_bin op_catR ok_cat (se_var (pv 7)) (se_lit pe_int fun _ _ => rfl)) sa_nil)))) (pg_name (i := 8) nd rfl (by first | exact Or.inl rfl | exact Or.inr rfl)) (ss_one (ss_if (PW.pt (sw_and (st_cmp op_gt ok_gt (se_ixG T (m_spc___getitem__ C) (se_var (pv 6)) (se_var (pv 7)) (fun _ _ => rfl) (fun _ _ => by with_unfolding_all rfl)) (se_lit pe_int fun _ _ => rfl) (nomark _)) (sw_one (st_ch op_le ok_le op_lt ok_lt (se_lit pe_int fun _ _ => rfl) (se_var (pv 8)) (se_len T rfl (m_b_len C) (fun p hp => ((m_spc___len__ C) p hp).1) (se_var (pv 6))))))) (ss_cons (ss_asg (ps_asg (toV (se_argB (pe_callTy call_tuple_of rfl (m_b_tuple C) (by rfl) (sa_cons (se_lc (own := [("_law_at", 10), ("_law_count", 11)]) rfl nd (si_enum rfl rfl (m_b_enumerate C) (se_var (pv 6))) (blk_ok (own := [("_law_at", 10), ("_law_count", 11)]) (by kernel_rfl)) (tb_tp (tbs_cons (tb_nm 10 (by decide)) (tbs_cons (tb_nm 11 (by decide)) tbs_nil)) rfl) (fun _ _ _ _ _ => (pg_tup rfl (pgs_cons (pg_name (i := 10) nd rfl (by first | exact Or.inl rfl | exact Or.inr rfl)) (pgs_cons (pg_name (i := 11) nd rfl (by first | exact Or.inl rfl | exact Or.inr rfl)) pgs_nil)))) (fun _ _ _ _ _ => sts_nil) (fun _ _ _ _ _ => (se_bin op_catR ok_cat (se_bin op_sub ok_sub (se_var (pv 11)) (se_argB (pe_callTy call_int1 rfl (m_b_int C) (by rfl) (sa_cons (se_eq (T.blk _ _ _ _ _) (m_eqt C) (se_var (pv 10)) (se_var (pv 7)) (nomark _)) sa_nil)) ok_int)) (se_argB (pe_callTy call_int1 rfl (m_b_int C) (by rfl) (sa_cons (se_eq (T.blk _ _ _ _ _) (m_eqt C) (se_var (pv 10)) (se_var (pv 8)) (nomark _)) sa_nil)) ok_int)))) sa_nil)) ok_tuple)) (pg_name (i := 9) nd rfl (by first | exact Or.inl rfl | exact Or.inr rfl))) (tg_nm 9))
 (ss_one (ss_if (st_cmp (op_notInG (units65 T)) ok_notIn (se_var (pv 9)) (se_var (pv 3)) (by rfl)) (ss_cons (ss_setI chg_setG (ps_asg (toV (se_lit pe_bl fun _ _ => rfl)) (pg_sub (toV (se_var (pv 3))) (toV (se_var (pv 9))) (set_G (units2 T)))))
 (ss_one (ss_expr (se_lm rfl chg_app (pe_bm PySem.F.plainAttrs_list PySem.F.slot_list_append PySem.F.type_list_append mt_append (toV (se_var (pv 5))) (pa_cons (toV (se_var (pv 9))) pa_nil)))))) ss_nil))) ss_nil))) (tg_nm 8)))) (tg_nm 7)))) (tg_nm 6))
 (ss_one (ss_par (ps_par (i := 2) (j := 4) rfl nd rfl rfl (by decide) rfl rfl (sa_cons (se_var (pv 5)) (sa_cons (se_bin op_catR ok_cat (se_var (pv 4)) (se_lit pe_int fun _ _ => rfl)) sa_nil)) (by rfl))))))))
 (ss_one (ss_ret (se_var (pv 4))))))
theorem ok23 {n : Nat} (C : Ctx K base mg) (ih : All P w K mg base (GG K) TT n) : ∀ np, FnR P w K mg base L2.CX0 (2 * (n + 1)) ((GG K).fa 23) (spF (GG K) (callF TT (n + 1)) 23 np) := by
  obtain ⟨fd, F⟩ := C.says.def_ 23 (d := d23) rfl
  exact def_ok (b := b23) rfl F sc23 rfl rfl (FunD_binds F fun _ _ _ _ _ _ us hl => match us, hl with | [_, _], _ => rfl) fun cdv A outer s H E n0 hr => dv23 C ih cdv A outer s H E n0 hr
abbrev N24 : List Str := ["_law_one", "_law_other", "_law_flows", "_law_heights", "_law_late", "_law_at", "_law_flow", "_law_gain", "_law_height", "_law_more", "_law_less", "_law_low", "_law_high"]
theorem sc24 : FnScope N24 ["_law_one", "_law_other", "_law_flows", "_law_heights"] (defScope (top 26)) := ⟨rfl, rfl, rfl, by decide +kernel, rfl, by decide +kernel, by decide +kernel⟩
theorem dv24 {n : Nat} {cf : CF} (C : Ctx K base mg) (ih : ∀ f np, FnR P w K mg base L2.CX0 (2 * n) ((GG K).fa f) (spF (GG K) cf f np)) (cdv : Value) (A : Around) (outer : List PySem.Env) (s : Shared) (H : Hp) (E : XK) (n0 : Nat) (hr : Room (2 * n + 1) (A.deeper (envOfC "_law_shows" (defScope (top 26)) s.heap.objs.size ((GG K).fa 24) cdv))) :
    PSs (cxOf L2.CX0 P w K mg base N24 "_law_shows" (defScope (top 26)) ((GG K).fa 24) cdv A outer s H E).nox (defBody (top 26)) (rdS (GG K) n0 (sCons (sIf (tOr (tBl (eNe cf [(0, 2), (1, 14)] [.non, .bl, .int, .str, .tup, .lst, .dct, .own 0, .own 1] (eLen cf [(0, 3)] (eVar 2)) (eBin oSub (eLen cf [(0, 3)] (eVar 0)) (eLit (.int 1))))) (tBl (eNe cf [(0, 2), (1, 14)] [.non, .bl, .int, .str, .tup, .lst, .dct, .own 0, .own 1] (eLen cf [(0, 3)] (eVar 3)) (eLen cf [(0, 3)] (eVar 0))))) (sRet (eLit (.bl false))) sNil) (sCons (sAsg (gNm 4) (eNew (eArg bList (aCons (eVar 0) aNil)))) (sCons (sFor (iEnu (eVar 2)) (gTp [(gNm 5), (gNm 6)]) (sAsgX [(xSub (setG n0) (eVar 4) (eVar 5)), (xSub (setG n0) (eVar 4) (eBin oCat (eVar 5) (eLit (.int 1))))] (eTup (aCons (eBin oSub (eIx cf [(0, 4)] (eVar 4) (eVar 5)) (eVar 6)) (aCons (eBin oCat (eIx cf [(0, 4)] (eVar 4) (eBin oCat (eVar 5) (eLit (.int 1)))) (eVar 6)) aNil))))) (sCons (sIf (tOr (tBl (eNe cf [(0, 2), (1, 14)] [.non, .bl, .int, .str, .tup, .lst, .dct, .own 0, .own 1] (eVar 4) (eArg bList (aCons (eVar 1) aNil)))) (tTru (eArg bAny (aCons (eLc (iZip (eVar 3) (eSl (eVar 3) (pSo (eLit (.int 1))) pNo)) (gTp [(gNm 11), (gNm 12)]) [11, 12] tYesP (eBin oGt (eArg bAbs (aCons (eBin oSub (eVar 11) (eVar 12)) aNil)) (eLit (.int 1)))) aNil)))) (sRet (eLit (.bl false))) sNil) (sCons (sAsg (gNm 7) (eArg bSum (aCons (eLc (iZip3 (eVar 3) (eVar 1) (eVar 0)) (gTp [(gNm 8), (gNm 9), (gNm 10)]) [8, 9, 10] tYesP (eBin oRep (eVar 8) (eBin oSub (eVar 9) (eVar 10)))) aNil))) (sRet (eEq cf [(0, 2), (1, 14)] [.non, .bl, .int, .str, .tup, .lst, .dct, .own 0, .own 1] (eVar 7) (eArg bSum (aCons (eLc (iSeq (eVar 2)) (gNm 6) [6] tYesP (eArg bAbs (aCons (eVar 6) aNil))) aNil)))))))))) := by
  have T : Tb (cxOf L2.CX0 P w K mg base N24 "_law_shows" (defScope (top 26)) ((GG K).fa 24) cdv A outer s H E).nox (GG K) cf (2 * n) := ⟨rfl, ih, hr, rfl⟩
  have nd := sc24.nd
  exact (ss_cons (ss_if (PW.pt (sw_or (st_ne T (m_eqt C) (se_len T rfl (m_b_len C) (fun p hp => ((m_spc___len__ C) p hp).1) (se_var (pv 2))) (se_bin op_sub ok_sub (se_len T rfl (m_b_len C) (fun p hp => ((m_spc___len__ C) p hp).1) (se_var (pv 0))) (se_lit pe_int fun _ _ => rfl)) (nomark _)) (sw_one (st_ne T (m_eqt C) (se_len T rfl (m_b_len C) (fun p hp => ((m_spc___len__ C) p hp).1) (se_var (pv 3))) (se_len T rfl (m_b_len C) (fun p hp => ((m_spc___len__ C) p hp).1) (se_var (pv 0))) (nomark _))))) (ss_one (ss_ret (se_lit pe_bl fun _ _ => rfl))) ss_nil)
 (ss_cons (ss_asg (ps_asg (toV (se_new (se_argB (pe_callTy call_list_of rfl (m_b_list C) (by rfl) (sa_cons (se_var (pv 0)) sa_nil)) ok_list))) (pg_name (i := 4) nd rfl (by first | exact Or.inl rfl | exact Or.inr rfl))) (tg_nm 4))
 (ss_cons (ss_for (ps_for PassesOwn.never rfl (si_enum rfl rfl (m_b_enumerate C) (se_var (pv 2))) (pg_tup rfl (pgs_cons (pg_name (i := 5) nd rfl (by first | exact Or.inl rfl | exact Or.inr rfl)) (pgs_cons (pg_name (i := 6) nd rfl (by first | exact Or.inl rfl | exact Or.inr rfl)) pgs_nil))) (ss_one (ss_asgX (n := 2) rfl (txs_cons (tx_sub chg_setG) (txs_cons (tx_sub chg_setG) txs_nil)) (ps_asg (toV (se_tup (sa_cons (se_bin op_sub ok_sub (se_ixG T (m_spc___getitem__ C) (se_var (pv 4)) (se_var (pv 5)) (fun _ _ => rfl) (fun _ _ => by with_unfolding_all rfl)) (se_var (pv 6))) (sa_cons (se_bin op_catR ok_cat (se_ixG T (m_spc___getitem__ C) (se_var (pv 4)) (se_bin op_catR ok_cat (se_var (pv 5)) (se_lit pe_int fun _ _ => rfl)) (fun _ _ => rfl) (fun _ _ => by with_unfolding_all rfl)) (se_var (pv 6))) sa_nil)))) (pg_tup rfl (pgs_cons (pg_sub (toV (se_var (pv 4))) (toV (se_var (pv 5))) (set_G (units2 T))) (pgs_cons (pg_sub (toV (se_var (pv 4))) (toV (se_bin op_catR ok_cat (se_var (pv 5)) (se_lit pe_int fun _ _ => rfl))) (set_G (units2 T))) pgs_nil)))) (List.forall_mem_cons.mpr ⟨(nx_sub _ _ _), (List.forall_mem_cons.mpr ⟨(nx_sub _ _ _), (List.forall_mem_nil _)⟩)⟩)))) (tg_tp (tgs_cons (tg_nm 5) (tgs_cons (tg_nm 6) tgs_nil)) rfl))
 (ss_cons (ss_if (PW.pt (sw_or (st_ne T (m_eqt C) (se_var (pv 4)) (se_argB (pe_callTy call_list_of rfl (m_b_list C) (by rfl) (sa_cons (se_var (pv 1)) sa_nil)) ok_list) (nomark _)) (sw_one (st_tru rfl (se_argB (pe_callB (cr_any rfl) rfl (m_b_any C) (by rfl) (sa_cons (se_lc (own := [("_law_low", 11), ("_law_high", 12)]) rfl nd (si_zip rfl rfl (m_b_zip C) (se_var (pv 3)) (se_sl rfl (se_var (pv 3)) (so_some (se_lit pe_int fun _ _ => rfl)) so_none)) (blk_ok (own := [("_law_low", 11), ("_law_high", 12)]) (by kernel_rfl)) (tb_tp (tbs_cons (tb_nm 11 (by decide)) (tbs_cons (tb_nm 12 (by decide)) tbs_nil)) rfl) (fun _ _ _ _ _ => (pg_tup rfl (pgs_cons (pg_name (i := 11) nd rfl (by first | exact Or.inl rfl | exact Or.inr rfl)) (pgs_cons (pg_name (i := 12) nd rfl (by first | exact Or.inl rfl | exact Or.inr rfl)) pgs_nil)))) (fun _ _ _ _ _ => sts_nil) (fun _ _ _ _ _ => (se_cmp op_gt ok_gt (se_argB (pe_callB call_abs rfl (m_b_abs C) (by rfl) (sa_cons (se_bin op_sub ok_sub (se_var (pv 11)) (se_var (pv 12))) sa_nil)) ok_abs) (se_lit pe_int fun _ _ => rfl) (nomark _)))) sa_nil)) ok_any))))) (ss_one (ss_ret (se_lit pe_bl fun _ _ => rfl))) ss_nil)
 (ss_cons (ss_asg (ps_asg (toV (se_argB (pe_callB (cr_sumA rfl) rfl (m_b_sum C) (by rfl) (sa_cons (se_lc (own := [("_law_height", 8), ("_law_more", 9), ("_law_less", 10)]) rfl nd (si_zip3 rfl rfl (m_b_zip C) (se_var (pv 3)) (se_var (pv 1)) (se_var (pv 0))) (blk_ok (own := [("_law_height", 8), ("_law_more", 9), ("_law_less", 10)]) (by kernel_rfl)) (tb_tp (tbs_cons (tb_nm 8 (by decide)) (tbs_cons (tb_nm 9 (by decide)) (tbs_cons (tb_nm 10 (by decide)) tbs_nil))) rfl) (fun _ _ _ _ _ => (pg_tup rfl (pgs_cons (pg_name (i := 8) nd rfl (by first | exact Or.inl rfl | exact Or.inr rfl)) (pgs_cons (pg_name (i := 9) nd rfl (by first | exact Or.inl rfl | exact Or.inr rfl)) (pgs_cons (pg_name (i := 10) nd rfl (by first | exact Or.inl rfl | exact Or.inr rfl)) pgs_nil))))) (fun _ _ _ _ _ => sts_nil) (fun _ _ _ _ _ => (se_bin op_repR ok_rep (se_var (pv 8)) (se_bin op_sub ok_sub (se_var (pv 9)) (se_var (pv 10)))))) sa_nil)) ok_sum)) (pg_name (i := 7) nd rfl (by first | exact Or.inl rfl | exact Or.inr rfl))) (tg_nm 7))
 (ss_one (ss_ret (se_eq T (m_eqt C) (se_var (pv 7)) (se_argB (pe_callB (cr_sumA rfl) rfl (m_b_sum C) (by rfl) (sa_cons (se_lc (own := [("_law_flow", 6)]) rfl nd (si_seq rfl (se_var (pv 2))) (blk_ok (own := [("_law_flow", 6)]) (by kernel_rfl)) (tb_nm 6 (by decide)) (fun _ _ _ _ _ => (pg_name (i := 6) nd rfl (by first | exact Or.inl rfl | exact Or.inr rfl))) (fun _ _ _ _ _ => sts_nil) (fun _ _ _ _ _ => (se_argB (pe_callB call_abs rfl (m_b_abs C) (by rfl) (sa_cons (se_var (pv 6)) sa_nil)) ok_abs))) sa_nil)) ok_sum) (nomark _)))))))))
theorem ok24 {n : Nat} (C : Ctx K base mg) (ih : All P w K mg base (GG K) TT n) : ∀ np, FnR P w K mg base L2.CX0 (2 * (n + 1)) ((GG K).fa 24) (spF (GG K) (callF TT (n + 1)) 24 np) := by
  obtain ⟨fd, F⟩ := C.says.def_ 24 (d := d24) rfl
  exact def_ok (b := b24) rfl F sc24 rfl rfl (FunD_binds F fun _ _ _ _ _ _ us hl => match us, hl with | [_, _, _, _], _ => rfl) fun cdv A outer s H E n0 hr => dv24 C ih cdv A outer s H E n0 hr
abbrev N25 : List Str := ["_law_draw", "_law_one", "_law_other", "_law_first", "_law_second", "_law_found", "_law_flows", "_law_heights", "_law_at", "_law_cases", "_law_more", "_law_some", "_law_levels", "_law_height", "_law_flow"]
theorem sc25 : FnScope N25 ["_law_draw", "_law_one", "_law_other", "_law_first", "_law_second", "_law_found"] (defScope (top 27)) := ⟨rfl, rfl, rfl, by decide +kernel, rfl, by decide +kernel, by decide +kernel⟩
theorem dv25 {n : Nat} {cf : CF} (C : Ctx K base mg) (ih : ∀ f np, FnR P w K mg base L2.CX0 (2 * n) ((GG K).fa f) (spF (GG K) cf f np)) (cdv : Value) (A : Around) (outer : List PySem.Env) (s : Shared) (H : Hp) (E : XK) (n0 : Nat) (hr : Room (2 * n + 1) (A.deeper (envOfC "_law_bent_right" (defScope (top 27)) s.heap.objs.size ((GG K).fa 25) cdv))) :
    PSs (cxOf L2.CX0 P w K mg base N25 "_law_bent_right" (defScope (top 27)) ((GG K).fa 25) cdv A outer s H E).nox (defBody (top 27)) (rdS (GG K) n0 (sCons (sPar [6, 7, 8] (aCons (eFld [1] 4 (eVar 5)) (aCons (eFld [1] 5 (eVar 5)) (aCons (eCall cf 2 21 (aCons (eVar 0) (aCons (eLen cf [(0, 3)] (eVar 1)) aNil))) aNil)))) (sCons (sAsg (gNm 9) (eNew (eLst (aCons (eTup (aCons (eVar 6) (aCons (eArg bTuple (aCons (eLc (iSeq (eVar 7)) (gNm 13) [13] tYesP (eBin oCat (eVar 13) (eLit (.int 3)))) aNil)) aNil))) (aCons (eTup (aCons (eVar 6) (aCons (eRev2 (eVar 7)) aNil))) (aCons (eTup (aCons (eRev2 (eVar 6)) (aCons (eVar 7) aNil))) (aCons (eTup (aCons (eSl (eVar 6) pNo (pSo (eUn oNeg (eLit (.int 1))))) (aCons (eVar 7) aNil))) (aCons (eTup (aCons (eVar 6) (aCons (eSl (eVar 7) pNo (pSo (eUn oNeg (eLit (.int 1))))) aNil))) aNil)))))))) (sCons (sAsg (gNm 9) (eNew (eBin oCat (eVar 9) (eLst (aCons (eTup (aCons (eArg bTuple (aCons (eLc (iSeq (eVar 6)) (gNm 14) [14] tYesP (eUn oNeg (eVar 14))) aNil)) (aCons (eVar 7) aNil))) (aCons (eTup (aCons (eVar 6) (aCons (eArg bTuple (aCons (eLc (iSeq (eVar 7)) (gNm 13) [13] tYesP (eUn oNeg (eVar 13))) aNil)) aNil))) (aCons (eTup (aCons (eVar 6) (aCons (eBin oRepT (eTup (aCons (eLit (.int 0)) aNil)) (eLen cf [(0, 3)] (eVar 1))) aNil))) aNil))))))) (sCons (sFor (iSeq (eTup (aCons (eLit (.int 1)) (aCons (eUn oNeg (eLit (.int 1))) (aCons (eLit (.int 2)) aNil))))) (gNm 10) (sExp (eLm (appL n0) (eVar 9) (eTup (aCons (eVar 6) (aCons (eBin oCat (eBin oCat (eSl (eVar 7) pNo (pSo (eVar 8))) (eTup (aCons (eBin oCat (eIx cf [(0, 4)] (eVar 7) (eVar 8)) (eVar 10)) aNil))) (eSl (eVar 7) (pSo (eBin oCat (eVar 8) (eLit (.int 1)))) pNo)) aNil)))))) (sCons (sIf (tBl (eBin oLt (eVar 8) (eLen cf [(0, 3)] (eVar 6)))) (sExp (eLm (appL n0) (eVar 9) (eTup (aCons (eBin oCat (eBin oCat (eSl (eVar 6) pNo (pSo (eVar 8))) (eTup (aCons (eBin oCat (eIx cf [(0, 4)] (eVar 6) (eVar 8)) (eLit (.int 1))) aNil))) (eSl (eVar 6) (pSo (eBin oCat (eVar 8) (eLit (.int 1)))) pNo)) (aCons (eVar 7) aNil))))) sNil) (sCons (sFor (iSeq (eVar 9)) (gTp [(gNm 11), (gNm 12)]) (sIf (tBl (eNe cf [(0, 2), (1, 14)] [.non, .bl, .int, .str, .tup, .lst, .dct, .own 0, .own 1] (eMeth cf 3 8 [(1, 15)] (eMake cf 3 1 13 (aCons (eVar 11) (aCons (eVar 12) aNil))) (aCons (eVar 3) (aCons (eVar 4) aNil))) (eCall cf 4 24 (aCons (eVar 1) (aCons (eVar 2) (aCons (eVar 11) (aCons (eVar 12) aNil))))))) (sRet (eLit (.bl false))) sNil)) (sRet (eLit (.bl true)))))))))) := by
  have T : Tb (cxOf L2.CX0 P w K mg base N25 "_law_bent_right" (defScope (top 27)) ((GG K).fa 25) cdv A outer s H E).nox (GG K) cf (2 * n) := ⟨rfl, ih, hr, rfl⟩
  have nd := sc25.nd
  exact (ss_cons (ss_par3 (ps_par3 (i := 6) (j := 7) (l := 8) rfl nd rfl rfl rfl (by decide) (by decide) (by decide) rfl rfl rfl (sa_cons (se_fld (f := 4) rfl (inj 4 (by decide)) (m_fld_flows C) (se_var (pv 5))) (sa_cons (se_fld (f := 5) rfl (inj 5 (by decide)) (m_fld_heights C) (se_var (pv 5))) (sa_cons (sx_call T rfl (m_f__law_take C) (m_k__law_take C) (sa_cons (se_var (pv 0)) (sa_cons (se_len T rfl (m_b_len C) (fun p hp => ((m_spc___len__ C) p hp).1) (se_var (pv 1))) sa_nil))) sa_nil))) (by rfl)))
 (ss_cons (ss_asg (ps_asg (toV (se_new (se_lst (sa_cons (se_tup (sa_cons (se_var (pv 6)) (sa_cons (se_argB (pe_callTy call_tuple_of rfl (m_b_tuple C) (by rfl) (sa_cons (se_lc (own := [("_law_height", 13)]) rfl nd (si_seq rfl (se_var (pv 7))) (blk_ok (own := [("_law_height", 13)]) (by kernel_rfl)) (tb_nm 13 (by decide)) (fun _ _ _ _ _ => (pg_name (i := 13) nd rfl (by first | exact Or.inl rfl | exact Or.inr rfl))) (fun _ _ _ _ _ => sts_nil) (fun _ _ _ _ _ => (se_bin op_catR ok_cat (se_var (pv 13)) (se_lit pe_int fun _ _ => rfl)))) sa_nil)) ok_tuple) sa_nil))) (sa_cons (se_tup (sa_cons (se_var (pv 6)) (sa_cons (se_rev2 rfl (se_var (pv 7))) sa_nil))) (sa_cons (se_tup (sa_cons (se_rev2 rfl (se_var (pv 6))) (sa_cons (se_var (pv 7)) sa_nil))) (sa_cons (se_tup (sa_cons (se_sl rfl (se_var (pv 6)) so_none (so_some (se_un un_neg ok_neg (se_lit pe_int fun _ _ => rfl)))) (sa_cons (se_var (pv 7)) sa_nil))) (sa_cons (se_tup (sa_cons (se_var (pv 6)) (sa_cons (se_sl rfl (se_var (pv 7)) so_none (so_some (se_un un_neg ok_neg (se_lit pe_int fun _ _ => rfl)))) sa_nil))) sa_nil)))))))) (pg_name (i := 9) nd rfl (by first | exact Or.inl rfl | exact Or.inr rfl))) (tg_nm 9))
 (ss_cons (ss_asg (ps_asg (toV (se_new (se_bin op_catR ok_cat (se_var (pv 9)) (se_lst (sa_cons (se_tup (sa_cons (se_argB (pe_callTy call_tuple_of rfl (m_b_tuple C) (by rfl) (sa_cons (se_lc (own := [("_law_flow", 14)]) rfl nd (si_seq rfl (se_var (pv 6))) (blk_ok (own := [("_law_flow", 14)]) (by kernel_rfl)) (tb_nm 14 (by decide)) (fun _ _ _ _ _ => (pg_name (i := 14) nd rfl (by first | exact Or.inl rfl | exact Or.inr rfl))) (fun _ _ _ _ _ => sts_nil) (fun _ _ _ _ _ => (se_un un_neg ok_neg (se_var (pv 14))))) sa_nil)) ok_tuple) (sa_cons (se_var (pv 7)) sa_nil))) (sa_cons (se_tup (sa_cons (se_var (pv 6)) (sa_cons (se_argB (pe_callTy call_tuple_of rfl (m_b_tuple C) (by rfl) (sa_cons (se_lc (own := [("_law_height", 13)]) rfl nd (si_seq rfl (se_var (pv 7))) (blk_ok (own := [("_law_height", 13)]) (by kernel_rfl)) (tb_nm 13 (by decide)) (fun _ _ _ _ _ => (pg_name (i := 13) nd rfl (by first | exact Or.inl rfl | exact Or.inr rfl))) (fun _ _ _ _ _ => sts_nil) (fun _ _ _ _ _ => (se_un un_neg ok_neg (se_var (pv 13))))) sa_nil)) ok_tuple) sa_nil))) (sa_cons (se_tup (sa_cons (se_var (pv 6)) (sa_cons (se_bin op_repTT ok_repT (se_tup (sa_cons (se_lit pe_int fun _ _ => rfl) sa_nil)) (se_len T rfl (m_b_len C) (fun p hp => ((m_spc___len__ C) p hp).1) (se_var (pv 1)))) sa_nil))) sa_nil))))))) (pg_name (i := 9) nd rfl (by first | exact Or.inl rfl | exact Or.inr rfl))) (tg_nm 9))
 (ss_cons (ss_for (ps_for PassesOwn.never rfl (si_seq rfl (se_tup (sa_cons (se_lit pe_int fun _ _ => rfl) (sa_cons (se_un un_neg ok_neg (se_lit pe_int fun _ _ => rfl)) (sa_cons (se_lit pe_int fun _ _ => rfl) sa_nil))))) (pg_name (i := 10) nd rfl (by first | exact Or.inl rfl | exact Or.inr rfl)) (ss_one (ss_expr (se_lm rfl chg_app (pe_bm PySem.F.plainAttrs_list PySem.F.slot_list_append PySem.F.type_list_append mt_append (toV (se_var (pv 9))) (pa_cons (toV (se_tup (sa_cons (se_var (pv 6)) (sa_cons (se_bin op_catR ok_cat (se_bin op_catR ok_cat (se_sl rfl (se_var (pv 7)) so_none (so_some (se_var (pv 8)))) (se_tup (sa_cons (se_bin op_catR ok_cat (se_ixG T (m_spc___getitem__ C) (se_var (pv 7)) (se_var (pv 8)) (fun _ _ => rfl) (fun _ _ => by with_unfolding_all rfl)) (se_var (pv 10))) sa_nil))) (se_sl rfl (se_var (pv 7)) (so_some (se_bin op_catR ok_cat (se_var (pv 8)) (se_lit pe_int fun _ _ => rfl))) so_none)) sa_nil)))) pa_nil)))))) (tg_nm 10))
 (ss_cons (ss_if (st_cmp op_lt ok_lt (se_var (pv 8)) (se_len T rfl (m_b_len C) (fun p hp => ((m_spc___len__ C) p hp).1) (se_var (pv 6))) (nomark _)) (ss_one (ss_expr (se_lm rfl chg_app (pe_bm PySem.F.plainAttrs_list PySem.F.slot_list_append PySem.F.type_list_append mt_append (toV (se_var (pv 9))) (pa_cons (toV (se_tup (sa_cons (se_bin op_catR ok_cat (se_bin op_catR ok_cat (se_sl rfl (se_var (pv 6)) so_none (so_some (se_var (pv 8)))) (se_tup (sa_cons (se_bin op_catR ok_cat (se_ixG T (m_spc___getitem__ C) (se_var (pv 6)) (se_var (pv 8)) (fun _ _ => rfl) (fun _ _ => by with_unfolding_all rfl)) (se_lit pe_int fun _ _ => rfl)) sa_nil))) (se_sl rfl (se_var (pv 6)) (so_some (se_bin op_catR ok_cat (se_var (pv 8)) (se_lit pe_int fun _ _ => rfl))) so_none)) (sa_cons (se_var (pv 7)) sa_nil)))) pa_nil))))) ss_nil)
 (ss_cons (ss_for (ps_for PassesOwn.never rfl (si_seq rfl (se_var (pv 9))) (pg_tup rfl (pgs_cons (pg_name (i := 11) nd rfl (by first | exact Or.inl rfl | exact Or.inr rfl)) (pgs_cons (pg_name (i := 12) nd rfl (by first | exact Or.inl rfl | exact Or.inr rfl)) pgs_nil))) (ss_one (ss_if (st_ne T (m_eqt C) (se_meth (m := 8) T (inj 8 (by decide)) (m_met_shows C) (se_make T (m_mk_Moved C) rfl (m_c_Moved C) (sa_cons (se_var (pv 11)) (sa_cons (se_var (pv 12)) sa_nil))) (sa_cons (se_var (pv 3)) (sa_cons (se_var (pv 4)) sa_nil))) (sx_call T rfl (m_f__law_shows C) (m_k__law_shows C) (sa_cons (se_var (pv 1)) (sa_cons (se_var (pv 2)) (sa_cons (se_var (pv 11)) (sa_cons (se_var (pv 12)) sa_nil))))) (nomark _)) (ss_one (ss_ret (se_lit pe_bl fun _ _ => rfl))) ss_nil))) (tg_tp (tgs_cons (tg_nm 11) (tgs_cons (tg_nm 12) tgs_nil)) rfl))
 (ss_one (ss_ret (se_lit pe_bl fun _ _ => rfl)))))))))
theorem ok25 {n : Nat} (C : Ctx K base mg) (ih : All P w K mg base (GG K) TT n) : ∀ np, FnR P w K mg base L2.CX0 (2 * (n + 1)) ((GG K).fa 25) (spF (GG K) (callF TT (n + 1)) 25 np) := by
  obtain ⟨fd, F⟩ := C.says.def_ 25 (d := d25) rfl
  exact def_ok (b := b25) rfl F sc25 rfl rfl (FunD_binds F fun _ _ _ _ _ _ us hl => match us, hl with | [_, _, _, _, _, _], _ => rfl) fun cdv A outer s H E n0 hr => dv25 C ih cdv A outer s H E n0 hr
abbrev N26 : List Str := ["_law_script", "_law_draw", "_law_turn", "_law_one", "_law_other", "_law_first", "_law_second", "_law_third", "_law_rows", "_law_gaps", "_law_found", "_law_early", "_law_late", "_law_count"]
theorem sc26 : FnScope N26 ["_law_script"] (defScope (top 28)) := ⟨rfl, rfl, rfl, by decide +kernel, rfl, by decide +kernel, by decide +kernel⟩
theorem dv26 {n : Nat} {cf : CF} (C : Ctx K base mg) (ih : ∀ f np, FnR P w K mg base L2.CX0 (2 * n) ((GG K).fa f) (spF (GG K) cf f np)) (cdv : Value) (A : Around) (outer : List PySem.Env) (s : Shared) (H : Hp) (E : XK) (n0 : Nat) (hr : Room (2 * n + 1) (A.deeper (envOfC "law" (defScope (top 28)) s.heap.objs.size ((GG K).fa 26) cdv))) :
    PSs (cxOf L2.CX0 P w K mg base N26 "law" (defScope (top 28)) ((GG K).fa 26) cdv A outer s H E).nox (defBody (top 28)) (rdS (GG K) n0 (sCons (sAsg (gNm 1) (eNew (eLst (aCons (eVar 0) (aCons (eLit (.int 0)) aNil))))) (sCons (sFor (iRg1 (eLit (.int 2))) (gNm 2) (sCons (sAsg (gTpB [(gNm 3), (gNm 4)]) (eCall cf 3 22 (aCons (eVar 1) (aCons (eLit (.int 4)) (aCons (eCall cf 2 21 (aCons (eVar 1) (aCons (eLit (.int 5)) aNil))) aNil))))) (sCons (sPar [5, 6] (aCons (eMake cf 2 0 1 (aCons (eVar 3) aNil)) (aCons (eMake cf 2 0 1 (aCons (eVar 4) aNil)) aNil))) (sIf (tOr (tBl (eNe cf [(0, 2), (1, 14)] [.non, .bl, .int, .str, .tup, .lst, .dct, .own 0, .own 1] (eCall cf 2 16 (aCons (eVar 5) (aCons (eVar 6) aNil))) (eCall cf 2 23 (aCons (eVar 3) (aCons (eVar 4) aNil))))) (tBl (eNe cf [(0, 2), (1, 14)] [.non, .bl, .int, .str, .tup, .lst, .dct, .own 0, .own 1] (eCall cf 2 16 (aCons (eVar 6) (aCons (eVar 5) aNil))) (eCall cf 2 16 (aCons (eVar 5) (aCons (eVar 6) aNil)))))) (sRet (eLit (.bl false))) sNil)))) (sCons (sFor (iRg1 (eLit (.int 3))) (gNm 2) (sCons (sAsg (gTpB [(gNm 3), (gNm 4)]) (eCall cf 3 22 (aCons (eVar 1) (aCons (eLit (.int 12)) (aCons (eCall cf 2 21 (aCons (eVar 1) (aCons (eLit (.int 9)) aNil))) aNil))))) (sCons (sPar [5, 6, 7] (aCons (eMake cf 2 0 1 (aCons (eVar 3) aNil)) (aCons (eMake cf 2 0 1 (aCons (eVar 4) aNil)) (aCons (eMake cf 2 0 1 (aCons (eRev2 (eVar 3)) aNil)) aNil)))) (sCons (sAsg (gNm 8) (eLz (eMeth cf 1 7 [(0, 9)] (eVar 5) aNil) (eMeth cf 1 7 [(0, 9)] (eVar 6) aNil))) (sCons (sAsg (gNm 9) (eLc (iSeq (eVar 8)) (gTp [(gNm 11), (gNm 12)]) [11, 12] tYesP (eArg bAbs (aCons (eBin oSub (eVar 11) (eVar 12)) aNil)))) (sCons (sIf (tOr (tBl (eNe cf [(0, 2), (1, 14)] [.non, .bl, .int, .str, .tup, .lst, .dct, .own 0, .own 1] (eCall cf 2 16 (aCons (eVar 5) (aCons (eVar 6) aNil))) (eArg bSum (aCons (eVar 9) aNil)))) (tBl (eNe cf [(0, 2), (1, 14)] [.non, .bl, .int, .str, .tup, .lst, .dct, .own 0, .own 1] (eCall cf 2 19 (aCons (eVar 5) (aCons (eVar 6) aNil))) (eArg bMaxL (aCons (eBin oCat (eLst (aCons (eLit (.int 0)) aNil)) (eVar 9)) aNil))))) (sRet (eLit (.bl false))) sNil) (sCons (sIf (tBl (eNe cf [(0, 2), (1, 14)] [.non, .bl, .int, .str, .tup, .lst, .dct, .own 0, .own 1] (eCall cf 2 18 (aCons (eVar 5) (aCons (eVar 6) aNil))) (eBin oSub (eLen cf [(0, 3)] (eLc (iSeq (eMeth cf 1 7 [(0, 9)] (eVar 5) aNil)) (gNm 11) [11] tYesP (eLit (.int 0)))) (eArg bSum (aCons (eLc (iZip (eVar 3) (eVar 4)) (gTp [(gNm 13), (gNm 12)]) [13, 12] tYesP (eArg bMin2 (aCons (eVar 13) (aCons (eVar 12) aNil)))) aNil))))) (sRet (eLit (.bl false))) sNil) (sCons (sIf (tBl (eBin oGt (eCall cf 2 18 (aCons (eVar 5) (aCons (eVar 6) aNil))) (eCall cf 2 16 (aCons (eVar 5) (aCons (eVar 6) aNil))))) (sRet (eLit (.bl false))) sNil) (sCons (sIf (tBl (eBin oGt (eCall cf 2 16 (aCons (eVar 5) (aCons (eVar 7) aNil))) (eBin oCat (eCall cf 2 16 (aCons (eVar 5) (aCons (eVar 6) aNil))) (eCall cf 2 16 (aCons (eVar 6) (aCons (eVar 7) aNil)))))) (sRet (eLit (.bl false))) sNil) (sCons (sAsg (gNm 10) (eCall cf 2 17 (aCons (eVar 5) (aCons (eVar 6) aNil)))) (sCons (sIf (tOr (tNo (tTru (eCall cf 4 24 (aCons (eVar 3) (aCons (eVar 4) (aCons (eFld [1] 4 (eVar 10)) (aCons (eFld [1] 5 (eVar 10)) aNil))))))) (tBl (eBin oNotB (eMeth cf 3 8 [(1, 15)] (eVar 10) (aCons (eVar 5) (aCons (eVar 6) aNil))) (eLit (.bl true))))) (sRet (eLit (.bl false))) sNil) (sIf (tNo (tTru (eCall cf 6 25 (aCons (eVar 1) (aCons (eVar 3) (aCons (eVar 4) (aCons (eVar 5) (aCons (eVar 6) (aCons (eVar 10) aNil))))))))) (sRet (eLit (.bl false))) sNil)))))))))))) (sRet (eLit (.bl true))))))) := by
  have T : Tb (cxOf L2.CX0 P w K mg base N26 "law" (defScope (top 28)) ((GG K).fa 26) cdv A outer s H E).nox (GG K) cf (2 * n) := ⟨rfl, ih, hr, rfl⟩
  have nd := sc26.nd
  exact (ss_cons (ss_asg (ps_asg (toV (se_new (se_lst (sa_cons (se_var (pv 0)) (sa_cons (se_lit pe_int fun _ _ => rfl) sa_nil))))) (pg_name (i := 1) nd rfl (by first | exact Or.inl rfl | exact Or.inr rfl))) (tg_nm 1))
 (ss_cons (ss_for (ps_for PassesOwn.never rfl (si_rng1 rfl (m_b_range C) (se_lit pe_int fun _ _ => rfl)) (pg_name (i := 2) nd rfl (by first | exact Or.inl rfl | exact Or.inr rfl)) (ss_cons (ss_asg (ps_asg (toV (sx_call T rfl (m_f__law_pair C) (m_k__law_pair C) (sa_cons (se_var (pv 1)) (sa_cons (se_lit pe_int fun _ _ => rfl) (sa_cons (sx_call T rfl (m_f__law_take C) (m_k__law_take C) (sa_cons (se_var (pv 1)) (sa_cons (se_lit pe_int fun _ _ => rfl) sa_nil))) sa_nil))))) (pg_tupB rfl (pgs_cons (pg_name (i := 3) nd rfl (by first | exact Or.inl rfl | exact Or.inr rfl)) (pgs_cons (pg_name (i := 4) nd rfl (by first | exact Or.inl rfl | exact Or.inr rfl)) pgs_nil)))) (tg_tpB (tgs_cons (tg_nm 3) (tgs_cons (tg_nm 4) tgs_nil)) rfl))
 (ss_cons (ss_par (ps_par (i := 5) (j := 6) rfl nd rfl rfl (by decide) rfl rfl (sa_cons (se_make T (m_mk_Column C) rfl (m_c_Column C) (sa_cons (se_var (pv 3)) sa_nil)) (sa_cons (se_make T (m_mk_Column C) rfl (m_c_Column C) (sa_cons (se_var (pv 4)) sa_nil)) sa_nil)) (by rfl)))
 (ss_one (ss_if (PW.pt (sw_or (st_ne T (m_eqt C) (sx_call T rfl (m_f_least_steps C) (m_k_least_steps C) (sa_cons (se_var (pv 5)) (sa_cons (se_var (pv 6)) sa_nil))) (sx_call T rfl (m_f__law_search C) (m_k__law_search C) (sa_cons (se_var (pv 3)) (sa_cons (se_var (pv 4)) sa_nil))) (nomark _)) (sw_one (st_ne T (m_eqt C) (sx_call T rfl (m_f_least_steps C) (m_k_least_steps C) (sa_cons (se_var (pv 6)) (sa_cons (se_var (pv 5)) sa_nil))) (sx_call T rfl (m_f_least_steps C) (m_k_least_steps C) (sa_cons (se_var (pv 5)) (sa_cons (se_var (pv 6)) sa_nil))) (nomark _))))) (ss_one (ss_ret (se_lit pe_bl fun _ _ => rfl))) ss_nil))))) (tg_nm 2))
 (ss_cons (ss_for (ps_for PassesOwn.never rfl (si_rng1 rfl (m_b_range C) (se_lit pe_int fun _ _ => rfl)) (pg_name (i := 2) nd rfl (by first | exact Or.inl rfl | exact Or.inr rfl)) (ss_cons (ss_asg (ps_asg (toV (sx_call T rfl (m_f__law_pair C) (m_k__law_pair C) (sa_cons (se_var (pv 1)) (sa_cons (se_lit pe_int fun _ _ => rfl) (sa_cons (sx_call T rfl (m_f__law_take C) (m_k__law_take C) (sa_cons (se_var (pv 1)) (sa_cons (se_lit pe_int fun _ _ => rfl) sa_nil))) sa_nil))))) (pg_tupB rfl (pgs_cons (pg_name (i := 3) nd rfl (by first | exact Or.inl rfl | exact Or.inr rfl)) (pgs_cons (pg_name (i := 4) nd rfl (by first | exact Or.inl rfl | exact Or.inr rfl)) pgs_nil)))) (tg_tpB (tgs_cons (tg_nm 3) (tgs_cons (tg_nm 4) tgs_nil)) rfl))
 (ss_cons (ss_par3 (ps_par3 (i := 5) (j := 6) (l := 7) rfl nd rfl rfl rfl (by decide) (by decide) (by decide) rfl rfl rfl (sa_cons (se_make T (m_mk_Column C) rfl (m_c_Column C) (sa_cons (se_var (pv 3)) sa_nil)) (sa_cons (se_make T (m_mk_Column C) rfl (m_c_Column C) (sa_cons (se_var (pv 4)) sa_nil)) (sa_cons (se_make T (m_mk_Column C) rfl (m_c_Column C) (sa_cons (se_rev2 rfl (se_var (pv 3))) sa_nil)) sa_nil))) (by rfl)))
 (ss_cons (ss_asg (ps_asg (toV (se_lz rfl rfl rfl (m_b_list C) rfl (m_b_zip C) (se_meth0 (m := 7) T (inj 7 (by decide)) (m_met_sorted_rows C) (se_var (pv 5))) (se_meth0 (m := 7) T (inj 7 (by decide)) (m_met_sorted_rows C) (se_var (pv 6))))) (pg_name (i := 8) nd rfl (by first | exact Or.inl rfl | exact Or.inr rfl))) (tg_nm 8))
 (ss_cons (ss_asg (asgV (ss_setLc (own := [("_law_early", 11), ("_law_late", 12)]) rfl nd (i := 9) rfl rfl (by rfl) (si_seq rfl (se_var (pv 8))) (blk_ok (own := [("_law_early", 11), ("_law_late", 12)]) (by kernel_rfl)) (tb_tp (tbs_cons (tb_nm 11 (by decide)) (tbs_cons (tb_nm 12 (by decide)) tbs_nil)) rfl) (fun _ _ _ _ _ => (pg_tup rfl (pgs_cons (pg_name (i := 11) nd rfl (by first | exact Or.inl rfl | exact Or.inr rfl)) (pgs_cons (pg_name (i := 12) nd rfl (by first | exact Or.inl rfl | exact Or.inr rfl)) pgs_nil)))) (fun _ _ _ _ _ => sts_nil) (fun _ _ _ _ _ => (se_argB (pe_callB call_abs rfl (m_b_abs C) (by rfl) (sa_cons (se_bin op_sub ok_sub (se_var (pv 11)) (se_var (pv 12))) sa_nil)) ok_abs)))) (tg_nm 9))
 (ss_cons (ss_if (PW.pt (sw_or (st_ne T (m_eqt C) (sx_call T rfl (m_f_least_steps C) (m_k_least_steps C) (sa_cons (se_var (pv 5)) (sa_cons (se_var (pv 6)) sa_nil))) (se_argB (pe_callB (cr_sumA rfl) rfl (m_b_sum C) (by rfl) (sa_cons (se_var (pv 9)) sa_nil)) ok_sum) (nomark _)) (sw_one (st_ne T (m_eqt C) (sx_call T rfl (m_f_farthest_row C) (m_k_farthest_row C) (sa_cons (se_var (pv 5)) (sa_cons (se_var (pv 6)) sa_nil))) (se_argB (pe_callB (cr_maxA rfl (Tb.room T).units) rfl (m_b_max C) (by rfl) (sa_cons (se_bin op_catR ok_cat (se_lst (sa_cons (se_lit pe_int fun _ _ => rfl) sa_nil)) (se_var (pv 9))) sa_nil)) ok_maxL) (nomark _))))) (ss_one (ss_ret (se_lit pe_bl fun _ _ => rfl))) ss_nil)
 (ss_cons (ss_if (st_ne T (m_eqt C) (sx_call T rfl (m_f_fewest_changed C) (m_k_fewest_changed C) (sa_cons (se_var (pv 5)) (sa_cons (se_var (pv 6)) sa_nil))) (se_bin op_sub ok_sub (se_len T rfl (m_b_len C) (fun p hp => ((m_spc___len__ C) p hp).1) (se_lc (own := [("_law_early", 11)]) rfl nd (si_seq rfl (se_meth0 (m := 7) T (inj 7 (by decide)) (m_met_sorted_rows C) (se_var (pv 5)))) (blk_ok (own := [("_law_early", 11)]) (by kernel_rfl)) (tb_nm 11 (by decide)) (fun _ _ _ _ _ => (pg_name (i := 11) nd rfl (by first | exact Or.inl rfl | exact Or.inr rfl))) (fun _ _ _ _ _ => sts_nil) (fun _ _ _ _ _ => (se_lit pe_int fun _ _ => rfl)))) (se_argB (pe_callB (cr_sumA rfl) rfl (m_b_sum C) (by rfl) (sa_cons (se_lc (own := [("_law_count", 13), ("_law_late", 12)]) rfl nd (si_zip rfl rfl (m_b_zip C) (se_var (pv 3)) (se_var (pv 4))) (blk_ok (own := [("_law_count", 13), ("_law_late", 12)]) (by kernel_rfl)) (tb_tp (tbs_cons (tb_nm 13 (by decide)) (tbs_cons (tb_nm 12 (by decide)) tbs_nil)) rfl) (fun _ _ _ _ _ => (pg_tup rfl (pgs_cons (pg_name (i := 13) nd rfl (by first | exact Or.inl rfl | exact Or.inr rfl)) (pgs_cons (pg_name (i := 12) nd rfl (by first | exact Or.inl rfl | exact Or.inr rfl)) pgs_nil)))) (fun _ _ _ _ _ => sts_nil) (fun _ _ _ _ _ => (se_argB (pe_callB (call_min2 rfl) rfl (m_b_min C) (by rfl) (sa_cons (se_var (pv 13)) (sa_cons (se_var (pv 12)) sa_nil))) ok_min2))) sa_nil)) ok_sum)) (nomark _)) (ss_one (ss_ret (se_lit pe_bl fun _ _ => rfl))) ss_nil)
 (ss_cons (ss_if (st_cmp op_gt ok_gt (sx_call T rfl (m_f_fewest_changed C) (m_k_fewest_changed C) (sa_cons (se_var (pv 5)) (sa_cons (se_var (pv 6)) sa_nil))) (sx_call T rfl (m_f_least_steps C) (m_k_least_steps C) (sa_cons (se_var (pv 5)) (sa_cons (se_var (pv 6)) sa_nil))) (nomark _)) (ss_one (ss_ret (se_lit pe_bl fun _ _ => rfl))) ss_nil)
 (ss_cons (ss_if (st_cmp op_gt ok_gt (sx_call T rfl (m_f_least_steps C) (m_k_least_steps C) (sa_cons (se_var (pv 5)) (sa_cons (se_var (pv 7)) sa_nil))) (se_bin op_catR ok_cat (sx_call T rfl (m_f_least_steps C) (m_k_least_steps C) (sa_cons (se_var (pv 5)) (sa_cons (se_var (pv 6)) sa_nil))) (sx_call T rfl (m_f_least_steps C) (m_k_least_steps C) (sa_cons (se_var (pv 6)) (sa_cons (se_var (pv 7)) sa_nil)))) (nomark _)) (ss_one (ss_ret (se_lit pe_bl fun _ _ => rfl))) ss_nil)
 (ss_cons (ss_asg (ps_asg (toV (sx_call T rfl (m_f_move_rows C) (m_k_move_rows C) (sa_cons (se_var (pv 5)) (sa_cons (se_var (pv 6)) sa_nil)))) (pg_name (i := 10) nd rfl (by first | exact Or.inl rfl | exact Or.inr rfl))) (tg_nm 10))
 (ss_cons (ss_if (PW.pt (sw_or (st_no (st_tru rfl (sx_call T rfl (m_f__law_shows C) (m_k__law_shows C) (sa_cons (se_var (pv 3)) (sa_cons (se_var (pv 4)) (sa_cons (se_fld (f := 4) rfl (inj 4 (by decide)) (m_fld_flows C) (se_var (pv 10))) (sa_cons (se_fld (f := 5) rfl (inj 5 (by decide)) (m_fld_heights C) (se_var (pv 10))) sa_nil))))))) (sw_one (st_cmp op_isnot_bl ok_notB (se_meth (m := 8) T (inj 8 (by decide)) (m_met_shows C) (se_var (pv 10)) (sa_cons (se_var (pv 5)) (sa_cons (se_var (pv 6)) sa_nil))) (se_lit pe_bl fun _ _ => rfl) (nomark _))))) (ss_one (ss_ret (se_lit pe_bl fun _ _ => rfl))) ss_nil)
 (ss_one (ss_if (st_no (st_tru rfl (sx_call T rfl (m_f__law_bent_right C) (m_k__law_bent_right C) (sa_cons (se_var (pv 1)) (sa_cons (se_var (pv 3)) (sa_cons (se_var (pv 4)) (sa_cons (se_var (pv 5)) (sa_cons (se_var (pv 6)) (sa_cons (se_var (pv 10)) sa_nil))))))))) (ss_one (ss_ret (se_lit pe_bl fun _ _ => rfl))) ss_nil))))))))))))) (tg_nm 2))
 (ss_one (ss_ret (se_lit pe_bl fun _ _ => rfl))))))
theorem ok26 {n : Nat} (C : Ctx K base mg) (ih : All P w K mg base (GG K) TT n) : ∀ np, FnR P w K mg base L2.CX0 (2 * (n + 1)) ((GG K).fa 26) (spF (GG K) (callF TT (n + 1)) 26 np) := by
  obtain ⟨fd, F⟩ := C.says.def_ 26 (d := d26) rfl
  exact def_ok (b := b26) rfl F sc26 rfl rfl (FunD_binds F fun _ _ _ _ _ _ us hl => match us, hl with | [_], _ => rfl) fun cdv A outer s H E n0 hr => dv26 C ih cdv A outer s H E n0 hr
theorem all_ok (C : Ctx K base mg) (n : Nat) : All P w K mg base (GG K) TT n := by
  induction n with
  | zero => exact all_zero
  | succ n ih =>
    intro f np
    match f with
    | 0 => exact ok0 C ih np
    | 1 => exact ok1 C ih np
    | 2 => exact ok2 C ih np
    | 3 => exact ok3 C ih np
    | 4 => exact ok4 C ih np
    | 5 => exact ok5 C ih np
    | 6 => exact ok6 C ih np
    | 7 => exact ok7 C ih np
    | 8 => exact ok8 C ih np
    | 9 => exact ok9 C ih np
    | 10 => exact ok10 C ih np
    | 11 => exact ok11 C ih np
    | 12 => exact ok12 C ih np
    | 13 => exact ok13 C ih np
    | 14 => exact ok14 C ih np
    | 15 => exact ok15 C ih np
    | 16 => exact ok16 C ih np
    | 17 => exact ok17 C ih np
    | 18 => exact ok18 C ih np
    | 19 => exact ok19 C ih np
    | 20 => exact ok20 C ih np
    | 21 => exact ok21 C ih np
    | 22 => exact ok22 C ih np
    | 23 => exact ok23 C ih np
    | 24 => exact ok24 C ih np
    | 25 => exact ok25 C ih np
    | 26 => exact ok26 C ih np
    | k + 27 => exact fun A outer s H us vs Q E hr he hv hs => (spF_none (by rfl) hs).elim
theorem lawOk {n : Nat} {fd : FuncData} (C : Ctx K base mg) (F : FunD K d26.name d26.qual d26.params d26.body d26.scope [] [] ((GG K).fa 26) fd) : FnOk P w K mg base L2.CX0 (2 * (n + 1)) ((GG K).fa 26) fd ["_law_script"] (spF (GG K) (callF TT (n + 1)) 26 1) :=
  def_fn (b := b26) rfl F sc26 rfl rfl fun cdv A outer s H E n0 hr => dv26 C (all_ok C n) cdv A outer s H E n0 hr
end
end PX.K63
set_option Elab.async false
set_option linter.all false
set_option maxRecDepth 100000
set_option maxHeartbeats 0
namespace PX.K63
open PySem PySem.Spec PyProof.Rows L2 He PX
abbrev RR : PySem.W.OpenRow := PySem.W.OpenLaw.row PySem.Challenge.rw_bucketsums_k63_whole_moving
abbrev hk : PySem.W.Hook := hookP 6 fb fn
def ob (s : PySem.W.SharedT) : He.AlD := obsPG 6 fb fn (HandSHeadRun.getT s)
theorem ob_eq (s : PySem.W.SharedT) : ob s = hk.obs s.abs := obsPG_eq (HandSHeadRun.getT_eq s)
theorem run (w : World) : HandSHeadRun.RunEq RR (PySem.W.view RR.prog [28]) hk ob 20000 ("_wall" :: "SumError" :: "BadCounts" :: "BadColumn" :: "BadValue" :: "Unlike" :: "MOST_VALUES" :: "MOST_COUNT" :: "is_number" :: "Column" :: "check_column" :: "check_pair" :: "flows_of" :: "Moved" :: "least_steps" :: "move_rows" :: "fewest_changed" :: "farthest_row" :: "_law_number" :: "_law_take" :: "_law_pair" :: "_law_search" :: "_law_shows" :: "_law_bent_right" :: ([] : List PySem.Str)) w := by
  intro os
  kernel_rfl
end PX.K63
set_option linter.all false
set_option maxRecDepth 100000
set_option maxHeartbeats 1000000
namespace PX.K63
open PySem PX K22M
abbrev dig (c : Int) : Prop := 0 ≤ c ∧ c ≤ 9
abbrev col (cs : List Int) : PV := .ins 0 [0] [.tup (cs.map .int)]
theorem is_number_int (n n0 : Nat) (S : Store) (v lo hi : Int) : callF TT (n + 1) 0 [.int v, .int lo, .int hi] n0 S = .ok (.bl (decide (lo ≤ v ∧ v ≤ hi))) S := by
  rw [call_at (b := b0) [some (.int v), some (.int lo), some (.int hi)] rfl rfl rfl]
  unfold b0
  simp [q_var, tyN, truth, oLe, lk_cons]
  by_cases h1 : lo ≤ v
  · simp [h1]
  · simp [h1]
theorem isnumV (n : Nat) (S : Store) (v lo hi : Int) : callV (callF TT (n + 1)) 0 [.int v, .int lo, .int hi] S = .ok (false, .bl (decide (lo ≤ v ∧ v ≤ hi))) S := callV_same (is_number_int n S.length S v lo hi) rfl
theorem len_ok (n n0 : Nat) (S : Store) (cs : List Int) : callF TT (n + 1) 3 [col cs] n0 S = .ok (.int cs.length) S := by
  rw [call_at (b := b3) [some (col cs)] rfl rfl rfl]
  unfold b3
  simp [q_var, fldOf, ownOf, bLen]
theorem lenV (n : Nat) (S : Store) (cs : List Int) : callV (callF TT (n + 1)) 3 [col cs] S = .ok (false, .int cs.length) S := callV_same (len_ok n S.length S cs) rfl
theorem len_col (n : Nat) (S : Store) (cs : List Int) (a : SE) (env : Env) (b : Bool) (hl : cs.length ≤ 1000) (ha : a env S = .ok (b, col cs) S) : eLen (callF TT (n + 1)) [(0, 3)] a env S = .ok (false, .int cs.length) S := by
  rw [q_len, ha, R.bind_ok]
  show (callV (callF TT (n + 1)) 3 [col cs] S).bind lenI = _
  rw [lenV, R.bind_ok]
  unfold lenI
  simp only
  rw [decide_eq_true (by omega), decide_eq_true (by omega)]
  rfl
theorem chkcol_ok (n n0 : Nat) (S : Store) (cs : List Int) : callF TT (n + 1) 10 [col cs] n0 S = .ok .non S := by
  rw [call_at (b := b10) [some (col cs)] rfl rfl rfl]
  unfold b10
  simp [q_var, tyN, truth, lk_cons]
theorem chkcolV (n : Nat) (S : Store) (cs : List Int) : callV (callF TT (n + 1)) 10 [col cs] S = .ok (false, .non) S := callV_same (chkcol_ok n S.length S cs) rfl
theorem fld0 (S : Store) (cs : List Int) (i : Nat) (env : Env) (h : env[i]? = some (some (col cs))) : eFld [0] 0 (eVar i) env S = .ok (false, .tup (cs.map .int)) S := by
  rw [q_fld, q_var, h]
  rfl
theorem lenN {cf : CF} {tb : List (Nat × Nat)} {a : SE} {env : Env} {S : Store} {k : Bool} {c : List Int} (ha : a env S = .ok (k, .tup (c.map .int)) S) : eLen cf tb a env S = .ok (false, .int c.length) S := by
  rw [len_flat ha rfl (bLen_tup _ _), List.length_map]
theorem lenL {cf : CF} {tb : List (Nat × Nat)} {a : SE} {env : Env} {S : Store} {k : Bool} {c : List Int} (ha : a env S = .ok (k, .lst (c.map .int)) S) : eLen cf tb a env S = .ok (false, .int c.length) S := by
  rw [len_flat ha rfl (bLen_lst _ _), List.length_map]
theorem cinit (n : Nat) (S : Store) (b : Bool) (cs : List Int) (h1 : 1 ≤ cs.length) (h2 : cs.length ≤ 12) (hd : ∀ c ∈ cs, dig c) :
    callF TT (n + 2) 1 [.ref S.length, sq b cs] S.length (S ++ [.ins 0 [] []]) = .ok .non (S ++ [col cs]) := by
  rw [call_at (b := b1) [some (.ref S.length), some (sq b cs), none] rfl rfl rfl]
  unfold b1
  dsimp only
  have hit : itP (sq b cs) = some (cs.map .int) := by cases b <;> rfl
  have t1 : tNo (tTru (eIsi [(.non, false), (.bl, false), (.int, false), (.str, false), (.tup, true), (.lst, true), (.dct, false), (.own 0, false), (.own 1, false)] (eVar 1))) [some (.ref S.length), some (sq b cs), none] (S ++ [.ins 0 [] []]) = .ok false (S ++ [.ins 0 [] []]) := by
    cases b <;> simp [q_var, sq, tyN, truth, lk_cons]
  have hln : eLen (callF TT (n + 1)) [(0, 3)] (eVar 1) [some (.ref S.length), some (sq b cs), none] (S ++ [.ins 0 [] []]) = .ok (false, .int cs.length) (S ++ [.ins 0 [] []]) := by
    cases b
    · exact lenL (k := false) rfl
    · exact lenN (k := false) rfl
  have t2 := tno_val (tbl_val (ch_val (o := oLe) (o' := oLe) (a := eLit (.int 1)) (u := .int 1) (k1 := false) rfl hln (c := eLit (.int 12)) (k3 := false) (w := .int 12) rfl rfl rfl))
  rw [q_scons, sif_val (t := false) (by
    rw [tor_val t1, if_neg (by simp), t2]
    rw [decide_eq_true (by omega), decide_eq_true (by omega)]
    rfl), if_neg (by simp), q_snil, RS.then_nx, q_scons]
  have e3 := all_lc (i := iSeq (eVar 1)) (t := gNm 2) (vs := [2]) (e := eCall (callF TT (n + 1)) 3 0 (aCons (eVar 2) (aCons (eLit (.int 0)) (aCons (eLit (.int 9)) aNil)))) (env := [some (.ref S.length), some (sq b cs), none]) (S := S ++ [.ins 0 [] []]) cs (fun x => PV.int x) (fun _ => true) (fun x => [some (.ref S.length), some (sq b cs), some (.int x)]) (by
    rw [q_seq, show eVar 1 [some (.ref S.length), some (sq b cs), none] (S ++ [.ins 0 [] []]) = .ok (false, sq b cs) (S ++ [.ins 0 [] []]) from rfl, R.bind_ok]
    simp only [lockS_it hit]) (by omega) (fun x _ => rfl) (fun x hx => ⟨false, by
      refine call3 (v := .int x) (b := false) rfl (v2 := .int 0) (b2 := false) rfl (v3 := .int 9) (b3 := false) rfl ?_
      rw [isnumV, decide_eq_true (hd x hx)]⟩)
  rw [show (cs.all fun _ => true) = true by simp] at e3
  rw [sif_val (tno_val (ttru_bl e3)), Bool.not_true, if_neg (by simp), q_snil, RS.then_nx]
  rw [fld_last (n0 := S.length) (k := false) (w := .tup (cs.map .int)) (k' := false) rfl (arg1_val (a := eVar 1) (k := false) (v := sq b cs) rfl (by cases b <;> rfl)) rfl rfl rfl]
  rfl
theorem cmake {a1 : SE} {env : Env} {S : Store} {k1 : Bool} (n : Nat) (b : Bool) (cs : List Int) (h1 : 1 ≤ cs.length) (h2 : cs.length ≤ 12) (hd : ∀ c ∈ cs, dig c) (h : a1 env S = .ok (k1, sq b cs) S) : eMake (callF TT (n + 2)) 2 0 1 (aCons a1 aNil) env S = .ok (true, col cs) S := by
  unfold eMake
  rw [q_cons, h, R.bind_ok, q_nil, R.bind_ok, R.bind_ok, if_pos (by rfl), cinit n S b cs h1 h2 hd]
  show norm S.length (.ref S.length) (S ++ [col cs]) = _
  exact norm_ins S 0 [0] [cs]
end PX.K63
set_option linter.all false
set_option maxRecDepth 100000
set_option maxHeartbeats 1000000
namespace PX.K63
open PySem PX K22M
theorem number_ok (n n0 : Nat) (S : Store) (ns : List Int) (k : Int) (hn : ns.length ≤ 63) : ∃ x, callF TT (n + 1) 20 [.lst (ns.map .int), .int k] n0 S = .ok (.int x) S := by
  obtain ⟨cells, hc, hne, hl⟩ : ∃ cells : List Int, (if ns = [] then PV.lst ([5].map .int) else .lst (ns.map .int)) = .lst (cells.map .int) ∧ cells ≠ [] ∧ cells.length ≤ 63 := by
    by_cases h : ns = []
    · exact ⟨[5], by rw [if_pos h], by simp, by simp⟩
    · exact ⟨ns, by rw [if_neg h], h, hn⟩
  have hpos : 0 < cells.length := List.length_pos_iff.mpr hne
  obtain ⟨c, e1, _⟩ := oIx_lst S cells (k % cells.length) (Int.emod_nonneg _ (by omega)) (Int.emod_lt_of_pos _ (by omega))
  have he : eNe (callF TT n) [(0, 2), (1, 14)] [.non, .bl, .int, .str, .tup, .lst, .dct, .own 0, .own 1] (eVar 0) (eLst aNil) [some (.lst (ns.map .int)), some (.int k), none, none, none, none, none, none] S = .ok (false, .bl (!decide (ns = []))) S := by
    simp [q_var, ownOf_lst, small]
    show ofO (oNe (.lst (ns.map .int)) (.lst (List.map .int [])) S) S = _
    unfold oNe
    rw [eqD_lst]
    rfl
  rw [call_at (b := b20) [some (.lst (ns.map .int)), some (.int k), none, none, none, none, none, none] rfl rfl rfl]
  unfold b20
  have hcell : eIf (tBl (eNe (callF TT n) [(0, 2), (1, 14)] [.non, .bl, .int, .str, .tup, .lst, .dct, .own 0, .own 1] (eVar 0) (eLst aNil))) (eSl (eVar 0) pNo (pSo (eLit (.int 63)))) (eLst (aCons (eLit (.int 5)) aNil)) [some (.lst (ns.map .int)), some (.int k), none, none, none, none, none, none] S = .ok (true, .lst (cells.map .int)) S := by
    rw [q_if, q_tbl, he]
    by_cases h : ns = []
    · rw [if_pos h] at hc
      simp [h, small]
      exact (PV.lst.inj hc)
    · rw [if_neg h] at hc
      simp [h, q_var, slP]
      rw [cut_all _ (by rw [List.length_map]; exact hn)]
      exact (PV.lst.inj hc)
  simp only [q_scons, q_sasg, hcell, R.go_ok, q_gnm, RS.then_nx]
  simp [q_var, ownOf_lst, dIx_lst, bLen_lst, bInt_int, gTps]
  rw [mod_int _ _ _ (by omega)]
  simp [e1, dIx_lst]
  rw [div_int _ _ _ (by omega) (by omega)]
  simp [cat_int, rep_l, mod_int, div_int, q_var, bInt_int, gTps]
  simp [cat_int, rep_l, rep_r, mod_int, div_int, q_var, bInt_int, gTps, bSum_lst, rep_m]
abbrev DD (ns : List Int) (k : Nat) : PV := .lst [.lst (ns.map .int), .int k]
theorem take_ok (n n0 : Nat) (R : Store) (ns : List Int) (k : Nat) (many : Int) (hn : ns.length ≤ 63) (hm : 0 < many) :
    ∃ v, 0 ≤ v ∧ v < many ∧ callF TT (n + 2) 21 [.ref 0, .int many] n0 (DD ns k :: R) = .ok (.int v) (DD ns (k + 1) :: R) := by
  obtain ⟨x, hx⟩ := number_ok n (DD ns (k + 1) :: R).length (DD ns (k + 1) :: R) ns (k + 1) hn
  refine ⟨x % many, Int.emod_nonneg _ (by omega), Int.emod_lt_of_pos _ hm, ?_⟩
  rw [call_at (b := b21) [some (.ref 0), some (.int many)] rfl rfl rfl]
  unfold b21
  have hs : sSetI (setG n0) (eVar 0) (eLit (.int 1)) (eBin oCat (eIx (callF TT (n + 1)) [(0, 4)] (eVar 0) (eLit (.int 1))) (eLit (.int 1))) [some (.ref 0), some (.int many)] (DD ns k :: R) = .nx [some (.ref 0), some (.int many)] (DD ns (k + 1) :: R) := by
    unfold sSetI
    simp [q_var, ownOf, unl, dIx, oIx, itemsOf, ixP, cat_int, setG, setL, mayPut, noref]
  simp only [q_scons, hs, RS.then_nx]
  have hv : callV (callF TT (n + 1)) 20 [.lst (ns.map .int), .int (k + 1)] (DD ns (k + 1) :: R) = .ok (false, .int x) (DD ns (k + 1) :: R) := callV_same hx rfl
  simp [q_var, ownOf, unl, dIx, oIx, itemsOf, ixP, bInt_int]
  rw [hv]
  simp [bInt_int, mod_int, hm]
theorem takeV (n : Nat) (R : Store) (ns : List Int) (k : Nat) (many : Int) (hn : ns.length ≤ 63) (hm : 0 < many) :
    ∃ v, 0 ≤ v ∧ v < many ∧ callV (callF TT (n + 2)) 21 [.ref 0, .int many] (DD ns k :: R) = .ok (false, .int v) (DD ns (k + 1) :: R) := by
  obtain ⟨v, h1, h2, h3⟩ := take_ok n (DD ns k :: R).length R ns k many hn hm
  exact ⟨v, h1, h2, callV_same h3 rfl⟩
end PX.K63
set_option linter.all false
set_option maxRecDepth 100000
set_option maxHeartbeats 1000000
namespace PX.K63
open PySem PX K22M
def IsD (ns : List Int) (R0 : Store) (S : Store) : Prop := ∃ k, S = DD ns k :: R0
theorem take0 (n : Nat) (R0 : Store) (ns : List Int) (hn : ns.length ≤ 63) (many : Int) (hm : 0 < many) {S : Store} (hS : IsD ns R0 S) {a b : SE} {env : Env} {k k' : Bool} (ha : ∀ S, a env S = .ok (k, .ref 0) S) (hb : ∀ S, b env S = .ok (k', .int many) S) : ∃ v S', 0 ≤ v ∧ v < many ∧ IsD ns R0 S' ∧ eCall (callF TT (n + 2)) 2 21 (aCons a (aCons b aNil)) env S = .ok (false, .int v) S' := by
  obtain ⟨d, rfl⟩ := hS
  obtain ⟨v, g0, g1, g2⟩ := takeV n R0 ns d many hn hm
  exact ⟨v, _, g0, g1, ⟨d + 1, rfl⟩, by rw [q_call, args2 (ha _) (hb _), R.bind_ok, if_pos (by rfl), g2]⟩
theorem rowsV (n : Nat) (S : Store) (cs : List Int) : callV (callF TT (n + 1)) 6 [col cs] S = .ok (false, .int cs.sum) S := by
  refine callV_same ?_ rfl
  rw [call_at (b := b6) [some (col cs)] rfl rfl rfl]
  unfold b6
  dsimp only
  rw [sret_val (arg1_val (fld0 S cs 0 _ rfl) (bSum_tup _ S))]
  rfl
end PX.K63
set_option linter.all false
set_option maxRecDepth 100000
set_option maxHeartbeats 1000000
namespace PX.K63
open PySem PX K22M
def lineF : List Int → Nat → List Int
  | [], _ => []
  | c :: cs, k => List.replicate c.toNat (k : Int) ++ lineF cs (k + 1)
theorem lineF_len : ∀ (cs : List Int) (k : Nat), (∀ c ∈ cs, 0 ≤ c) → ((lineF cs k).length : Int) = cs.sum
  | [], _, _ => rfl
  | c :: cs, k, h => by
    have ih := lineF_len cs (k + 1) fun x hx => h x (List.mem_cons_of_mem _ hx)
    have h0 := h c List.mem_cons_self
    show (((List.replicate c.toNat (k : Int) ++ lineF cs (k + 1)).length : Nat) : Int) = (c :: cs).sum
    rw [List.length_append, List.length_replicate, List.sum_cons, ← ih]
    omega
theorem lineF_ge : ∀ (cs : List Int) (k : Nat), ∀ x ∈ lineF cs k, (k : Int) ≤ x
  | [], _, x, hx => absurd hx (by simp [lineF])
  | c :: cs, k, x, hx => by
    rcases List.mem_append.mp hx with h | h
    · rw [(List.mem_replicate.mp h).2]
      exact Int.le_refl _
    · have := lineF_ge cs (k + 1) x h
      omega
theorem lineF_sorted : ∀ (cs : List Int) (k : Nat), (lineF cs k).Pairwise (· ≤ ·)
  | [], _ => .nil
  | c :: cs, k => by
    refine List.pairwise_append.mpr ⟨?_, lineF_sorted cs (k + 1), fun a ha b hb => ?_⟩
    · exact List.pairwise_replicate.mpr (.inr (Int.le_refl _))
    · rw [(List.mem_replicate.mp ha).2]
      have := lineF_ge cs (k + 1) b hb
      omega
end PX.K63
set_option linter.all false
set_option maxRecDepth 100000
set_option maxHeartbeats 1000000
namespace PX.K63
open PySem PX K22M
def absI (i : Int) : Int := if i < 0 then -i else i
def pre (c : List Int) (v : Nat) : Int := (c.take v).sum
def flowsL (a b : List Int) : List Int := (List.range (a.length - 1)).map fun i => pre a (i + 1) - pre b (i + 1)
def stepsL (a b : List Int) : Int := ((flowsL a b).map absI).sum
def flR : Int → List Int → List Int → List Int
  | d, x :: x' :: as, y :: y' :: bs => (d + x - y) :: flR (d + x - y) (x' :: as) (y' :: bs)
  | _, _, _ => []
theorem flR_at : ∀ (a b : List Int) (d : Int), a.length = b.length → flR d a b = (List.range (a.length - 1)).map fun i => d + (pre a (i + 1) - pre b (i + 1))
  | [], [], d, _ => rfl
  | [x], [y], d, _ => rfl
  | x :: x' :: as, y :: y' :: bs, d, h => by
    have ih := flR_at (x' :: as) (y' :: bs) (d + x - y) (by simpa using h)
    show (d + x - y) :: flR (d + x - y) (x' :: as) (y' :: bs) = _
    rw [ih]
    show _ = (List.range (as.length + 1)).map _
    rw [List.range_succ_eq_map, List.map_cons, List.map_map]
    congr 1
    · simp [pre]
      omega
    · show (List.range as.length).map _ = _
      refine List.map_congr_left fun i _ => ?_
      show d + x - y + (pre (x' :: as) (i + 1) - pre (y' :: bs) (i + 1)) = d + (pre (x :: x' :: as) (i + 1 + 1) - pre (y :: y' :: bs) (i + 1 + 1))
      unfold pre
      rw [List.take_succ_cons (a := x), List.take_succ_cons (a := y), List.sum_cons, List.sum_cons]
      omega
  | [], _ :: _, _, h => by simp at h
  | _ :: _, [], _, h => by simp at h
  | [x], y :: y' :: bs, _, h => by simp at h
  | x :: x' :: as, [y], _, h => by simp at h
theorem flows_R {a b : List Int} (h : a.length = b.length) : flowsL a b = flR 0 a b := by
  rw [flR_at a b 0 h]
  unfold flowsL
  refine List.map_congr_left fun i _ => ?_
  omega
/-- what the flows make of a column -/
def swp : Int → List Int → List Int → List Int
  | c, r, [] => c :: r
  | c, [], _ :: _ => [c]
  | c, r :: rs, f :: fs => (c - f) :: swp (r + f) rs fs
theorem swp_flR : ∀ (a b : List Int) (x y d : Int), a.length = b.length → d + x + a.sum = y + b.sum → swp (x + d) a (flR d (x :: a) (y :: b)) = y :: b
  | [], [], x, y, d, _, h => by
    simp at h
    show [x + d] = [y]
    congr 1
    omega
  | x' :: as, y' :: bs, x, y, d, hl, h => by
    show (x + d - (d + x - y)) :: swp (x' + (d + x - y)) as (flR (d + x - y) (x' :: as) (y' :: bs)) = _
    rw [List.sum_cons, List.sum_cons] at h
    rw [swp_flR as bs x' y' (d + x - y) (by simpa using hl) (by omega)]
    congr 1
    omega
  | [], _ :: _, _, _, _, h, _ => by simp at h
  | _ :: _, [], _, _, _, h, _ => by simp at h
/-- the same, by three lists side by side -/
def z3 : List Int → List Int → List Int → List Int
  | c :: cs, e :: es, m :: ms => (c + e - m) :: z3 cs es ms
  | _, _, _ => []
theorem z3_swp : ∀ (cs f : List Int) (c e : Int), f.length = cs.length → z3 (c :: cs) (e :: (f ++ [0])) (f ++ [0]) = swp (c + e) cs f
  | [], [], c, e, _ => by
    show [c + e - 0] = [c + e]
    congr 1
    omega
  | r :: cs, f :: fs, c, e, h => by
    have ih := z3_swp cs fs r f (by simpa using h)
    show (c + e - f) :: z3 (r :: cs) (f :: (fs ++ [0])) (fs ++ [0]) = (c + e - f) :: swp (r + f) cs fs
    rw [ih]
  | [], _ :: _, _, _, h => by simp at h
  | _ :: _, [], _, _, h => by simp at h
def sgn (f : Int) : Int := if 0 < f then 1 else if f < 0 then -1 else 0
def hts : Int → List Int → List Int
  | h, [] => [h]
  | h, f :: fs => h :: hts (h + sgn f) fs
theorem hts_len : ∀ (f : List Int) (h : Int), (hts h f).length = f.length + 1
  | [], _ => rfl
  | f :: fs, h => by
    show (hts (h + sgn f) fs).length + 1 = _
    rw [hts_len fs]
    rfl
def steep (h : List Int) : Bool := (h.zip (h.drop 1)).any fun p => decide (1 < absI (p.1 - p.2))
theorem hts_flat : ∀ (f : List Int) (h : Int), steep (hts h f) = false
  | [], _ => rfl
  | f :: fs, h => by
    have ih := hts_flat fs (h + sgn f)
    have e : ∃ t, hts (h + sgn f) fs = (h + sgn f) :: t := by
      cases fs with
      | nil => exact ⟨[], rfl⟩
      | cons g fs => exact ⟨_, rfl⟩
    obtain ⟨t, e⟩ := e
    show steep (h :: hts (h + sgn f) fs) = false
    rw [e] at ih ⊢
    have : steep (h :: (h + sgn f) :: t) = (decide (1 < absI (h - (h + sgn f))) || steep ((h + sgn f) :: t)) := rfl
    rw [this, ih, Bool.or_false, decide_eq_false]
    unfold absI sgn
    split <;> split <;> omega
def gain : List Int → List Int → List Int → Int
  | h :: hs, m :: ms, l :: ls => h * (m - l) + gain hs ms ls
  | _, _, _ => 0
theorem gain_hts : ∀ (a b : List Int) (x y d h : Int), a.length = b.length → d + x + a.sum = y + b.sum → gain (hts h (flR d (x :: a) (y :: b))) (y :: b) (x :: a) = h * d + ((flR d (x :: a) (y :: b)).map absI).sum
  | [], [], x, y, d, h, _, he => by
    simp at he
    show h * (y - x) + 0 = h * d + 0
    have : y - x = d := by omega
    rw [this]
  | x' :: as, y' :: bs, x, y, d, h, hl, he => by
    rw [List.sum_cons, List.sum_cons] at he
    have ih := gain_hts as bs x' y' (d + x - y) (h + sgn (d + x - y)) (by simpa using hl) (by omega)
    show h * (y - x) + gain (hts (h + sgn (d + x - y)) (flR (d + x - y) (x' :: as) (y' :: bs))) (y' :: bs) (x' :: as) = h * d + (absI (d + x - y) + ((flR (d + x - y) (x' :: as) (y' :: bs)).map absI).sum)
    rw [ih]
    generalize ((flR (d + x - y) (x' :: as) (y' :: bs)).map absI).sum = s
    have e1 : y - x = d - (d + x - y) := by omega
    rw [e1]
    generalize d + x - y = f
    have e2 : sgn f * f = absI f := by
      unfold sgn absI
      by_cases h1 : 0 < f
      · rw [if_pos h1, if_neg (by omega)]
        omega
      · by_cases h2 : f < 0
        · rw [if_neg h1, if_pos h2, if_pos h2]
          omega
        · rw [if_neg h1, if_neg h2, if_neg h2]
          omega
    rw [Int.mul_sub, Int.add_mul, e2]
    omega
  | [], _ :: _, _, _, _, _, h, _ => by simp at h
  | _ :: _, [], _, _, _, _, h, _ => by simp at h
def showM (one other f h : List Int) : Bool := decide (f.length = one.length - 1) && decide (h.length = one.length) && (decide (swp (one.headD 0) (one.drop 1) f = other) && !steep h) && decide (gain h other one = (f.map absI).sum)
theorem flR_len {a b : List Int} (d : Int) (h : a.length = b.length) : (flR d a b).length = a.length - 1 := by
  rw [flR_at a b d h, List.length_map, List.length_range]
theorem show_moved {a b : List Int} (h1 : 1 ≤ a.length) (hl : a.length = b.length) (hs : a.sum = b.sum) : showM a b (flowsL a b) (hts 0 (flowsL a b)) = true := by
  rw [flows_R hl]
  have hfl := flR_len 0 hl
  unfold showM
  rw [decide_eq_true hfl, decide_eq_true (by rw [hts_len, hfl]; omega), hts_flat]
  obtain ⟨x, as, rfl⟩ : ∃ x as, a = x :: as := by
    cases a with
    | nil => simp at h1
    | cons x as => exact ⟨x, as, rfl⟩
  obtain ⟨y, bs, rfl⟩ : ∃ y bs, b = y :: bs := by
    cases b with
    | nil => simp at hl
    | cons y bs => exact ⟨y, bs, rfl⟩
  rw [List.sum_cons, List.sum_cons] at hs
  have e1 := swp_flR as bs x y 0 (by simpa using hl) (by omega)
  rw [Int.add_zero] at e1
  have e2 := gain_hts as bs x y 0 0 (by simpa using hl) (by omega)
  rw [show ((x :: as).headD 0) = x from rfl, show (x :: as).drop 1 = as from rfl, e1, e2, decide_eq_true rfl, decide_eq_true (by omega)]
  rfl
def max0 (x : Int) : Int := if x > 0 then x else 0
def chg : List Int → List Int → Int
  | x :: as, y :: bs => max0 (x - y) + chg as bs
  | _, _ => 0
def mins : List Int → List Int → Int
  | x :: as, y :: bs => (if y < x then y else x) + mins as bs
  | _, _ => 0
theorem chg_mins : ∀ (a b : List Int), a.length = b.length → chg a b = a.sum - mins a b
  | [], [], _ => rfl
  | x :: as, y :: bs, h => by
    have ih := chg_mins as bs (by simpa using h)
    show max0 (x - y) + chg as bs = (x :: as).sum - ((if y < x then y else x) + mins as bs)
    rw [ih, List.sum_cons]
    unfold max0
    split <;> split <;> omega
  | [], _ :: _, h => by simp at h
  | _ :: _, [], h => by simp at h
theorem chg_le : ∀ (a b : List Int) (x y d : Int), a.length = b.length → d + x + a.sum = y + b.sum → chg (x :: a) (y :: b) ≤ max0 (-d) + ((flR d (x :: a) (y :: b)).map absI).sum
  | [], [], x, y, d, _, h => by
    simp at h
    show max0 (x - y) + 0 ≤ max0 (-d) + 0
    have : x - y = -d := by omega
    rw [this]
    exact Int.le_refl _
  | x' :: as, y' :: bs, x, y, d, hl, h => by
    rw [List.sum_cons, List.sum_cons] at h
    have ih := chg_le as bs x' y' (d + x - y) (by simpa using hl) (by omega)
    show max0 (x - y) + chg (x' :: as) (y' :: bs) ≤ max0 (-d) + (absI (d + x - y) + ((flR (d + x - y) (x' :: as) (y' :: bs)).map absI).sum)
    have : max0 (x - y) + max0 (-(d + x - y)) ≤ max0 (-d) + absI (d + x - y) := by
      unfold max0 absI
      split <;> split <;> split <;> split <;> omega
    omega
  | [], _ :: _, _, _, _, h, _ => by simp at h
  | _ :: _, [], _, _, _, h, _ => by simp at h
theorem chg_steps {a b : List Int} (h1 : 1 ≤ a.length) (hl : a.length = b.length) (hs : a.sum = b.sum) : chg a b ≤ stepsL a b := by
  unfold stepsL
  rw [flows_R hl]
  obtain ⟨x, as, rfl⟩ : ∃ x as, a = x :: as := by
    cases a with
    | nil => simp at h1
    | cons x as => exact ⟨x, as, rfl⟩
  obtain ⟨y, bs, rfl⟩ : ∃ y bs, b = y :: bs := by
    cases b with
    | nil => simp at hl
    | cons y bs => exact ⟨y, bs, rfl⟩
  rw [List.sum_cons, List.sum_cons] at hs
  have := chg_le as bs x y 0 (by simpa using hl) (by omega)
  have h0 : max0 (-0) = 0 := rfl
  omega
theorem steps_tri {a b c : List Int} (h1 : a.length = b.length) (h2 : a.length = c.length) : stepsL a c ≤ stepsL a b + stepsL b c := by
  unfold stepsL flowsL
  rw [← h1]
  generalize List.range (a.length - 1) = l
  induction l with
  | nil => simp
  | cons i l ih =>
    simp only [List.map_cons, List.sum_cons]
    have : absI (pre a (i + 1) - pre c (i + 1)) ≤ absI (pre a (i + 1) - pre b (i + 1)) + absI (pre b (i + 1) - pre c (i + 1)) := by
      unfold absI
      split <;> split <;> split <;> omega
    omega
theorem steps_comm {a b : List Int} (h1 : a.length = b.length) : stepsL b a = stepsL a b := by
  unfold stepsL flowsL
  rw [← h1, List.map_map, List.map_map]
  refine congrArg List.sum (List.map_congr_left fun i _ => ?_)
  show absI (pre b (i + 1) - pre a (i + 1)) = absI (pre a (i + 1) - pre b (i + 1))
  unfold absI
  split <;> split <;> omega
def gaps : List Int → List Int → List Int
  | x :: l, y :: m => absI (x - y) :: gaps l m
  | _, _ => []
def cnt (l : List Int) (v : Int) : Int := ((l.filter fun x => decide (x ≤ v)).length : Nat)
theorem cnt_cons (x : Int) (l : List Int) (v : Int) : cnt (x :: l) v = (if x ≤ v then 1 else 0) + cnt l v := by
  unfold cnt
  by_cases h : x ≤ v
  · rw [List.filter_cons_of_pos (by simp [h]), if_pos h, List.length_cons]
    omega
  · rw [List.filter_cons_of_neg (by simp [h]), if_neg h]
    omega
theorem cnt_zero {l : List Int} {v : Int} (h : ∀ x ∈ l, v < x) : cnt l v = 0 := by
  unfold cnt
  rw [List.filter_eq_nil_iff.mpr fun x hx => by have := h x hx; simp; omega]
  rfl
theorem cnt_nonneg (l : List Int) (v : Int) : 0 ≤ cnt l v := by unfold cnt; omega
def lay (l m : List Int) (w : Nat) : Int := ((List.range w).map fun v => absI (cnt l (v : Nat) - cnt m (v : Nat))).sum
def lay1 (x y : Int) (w : Nat) : Int := ((List.range w).map fun v => absI ((if x ≤ (v : Nat) then 1 else 0) - (if y ≤ ((v : Nat) : Int) then 1 else 0))).sum
theorem lay1_eq : ∀ (w : Nat) (x y : Int), 0 ≤ x → x ≤ w → 0 ≤ y → y ≤ w → lay1 x y w = absI (x - y)
  | 0, x, y, h1, h2, h3, h4 => by
    have : x = 0 := by omega
    have : y = 0 := by omega
    subst x y
    rfl
  | w + 1, x, y, h1, h2, h3, h4 => by
    have e : lay1 x y (w + 1) = lay1 x y w + absI ((if x ≤ (w : Nat) then 1 else 0) - (if y ≤ ((w : Nat) : Int) then 1 else 0)) := by
      unfold lay1
      rw [List.range_succ, List.map_append, List.sum_append]
      simp
    have low : ∀ x : Int, x = w + 1 → ∀ v, v < w → ¬ (x ≤ ((v : Nat) : Int)) := fun x hx v hv => by omega
    rw [e]
    by_cases hx : x ≤ w
    · by_cases hy : y ≤ w
      · rw [lay1_eq w x y h1 hx h3 hy, if_pos hx, if_pos hy]
        show absI (x - y) + 0 = _
        omega
      · have hy' : y = w + 1 := by omega
        have e2 : lay1 x y w = lay1 x w w := by
          unfold lay1
          refine congrArg List.sum (List.map_congr_left fun v hv => ?_)
          have := List.mem_range.mp hv
          rw [if_neg (show ¬ y ≤ ((v : Nat) : Int) by omega), if_neg (show ¬ (w : Int) ≤ ((v : Nat) : Int) by omega)]
        rw [e2, lay1_eq w x w h1 hx (by omega) (Int.le_refl _), if_pos hx, if_neg hy]
        unfold absI
        split <;> split <;> split <;> omega
    · have hx' : x = w + 1 := by omega
      by_cases hy : y ≤ w
      · have e2 : lay1 x y w = lay1 w y w := by
          unfold lay1
          refine congrArg List.sum (List.map_congr_left fun v hv => ?_)
          have := List.mem_range.mp hv
          rw [if_neg (show ¬ x ≤ ((v : Nat) : Int) by omega), if_neg (show ¬ (w : Int) ≤ ((v : Nat) : Int) by omega)]
        rw [e2, lay1_eq w w y (by omega) (Int.le_refl _) h3 hy, if_neg hx, if_pos hy]
        unfold absI
        split <;> split <;> split <;> omega
      · have hy' : y = w + 1 := by omega
        have e2 : lay1 x y w = 0 := by
          unfold lay1
          have : ((List.range w).map fun v => absI ((if x ≤ ((v : Nat) : Int) then 1 else 0) - (if y ≤ ((v : Nat) : Int) then 1 else 0))) = (List.range w).map fun _ => 0 := by
            refine List.map_congr_left fun v hv => ?_
            have := List.mem_range.mp hv
            rw [if_neg (show ¬ x ≤ ((v : Nat) : Int) by omega), if_neg (show ¬ y ≤ ((v : Nat) : Int) by omega)]
            rfl
          rw [this]
          clear this
          induction (List.range w) with
          | nil => rfl
          | cons a l ih => rw [List.map_cons, List.sum_cons, ih]; rfl
        rw [e2, if_neg hx, if_neg hy, hx', hy']
        unfold absI
        split <;> split <;> omega
theorem gaps_lay : ∀ (l m : List Int) (w : Nat), l.length = m.length → l.Pairwise (· ≤ ·) → m.Pairwise (· ≤ ·) → (∀ x ∈ l, 0 ≤ x ∧ x ≤ w) → (∀ x ∈ m, 0 ≤ x ∧ x ≤ w) → (gaps l m).sum = lay l m w
  | [], [], w, _, _, _, _, _ => by
    show 0 = lay [] [] w
    unfold lay
    have : ((List.range w).map fun v => absI (cnt [] (v : Nat) - cnt [] (v : Nat))) = (List.range w).map fun _ => 0 := List.map_congr_left fun v _ => rfl
    rw [this]
    induction (List.range w) with
    | nil => rfl
    | cons a l ih => rw [List.map_cons, List.sum_cons, ← ih]; rfl
  | x :: l, y :: m, w, hl, pl, pm, bl, bm => by
    obtain ⟨p1, p2⟩ := List.pairwise_cons.mp pl
    obtain ⟨q1, q2⟩ := List.pairwise_cons.mp pm
    have ih := gaps_lay l m w (by simpa using hl) p2 q2 (fun z hz => bl z (List.mem_cons_of_mem _ hz)) (fun z hz => bm z (List.mem_cons_of_mem _ hz))
    have hx := bl x List.mem_cons_self
    have hy := bm y List.mem_cons_self
    show absI (x - y) + (gaps l m).sum = _
    rw [ih, ← lay1_eq w x y hx.1 hx.2 hy.1 hy.2]
    unfold lay lay1
    generalize List.range w = vs
    induction vs with
    | nil => rfl
    | cons v vs ihv =>
      simp only [List.map_cons, List.sum_cons]
      rw [← ihv]
      have key : absI (cnt (x :: l) (v : Nat) - cnt (y :: m) (v : Nat)) = absI ((if x ≤ ((v : Nat) : Int) then 1 else 0) - (if y ≤ ((v : Nat) : Int) then 1 else 0)) + absI (cnt l (v : Nat) - cnt m (v : Nat)) := by
        rw [cnt_cons, cnt_cons]
        have n1 := cnt_nonneg l (v : Nat)
        have n2 := cnt_nonneg m (v : Nat)
        by_cases h1 : x ≤ ((v : Nat) : Int)
        · by_cases h2 : y ≤ ((v : Nat) : Int)
          · rw [if_pos h1, if_pos h2]
            unfold absI
            split <;> split <;> split <;> omega
          · rw [if_pos h1, if_neg h2]
            have : cnt m (v : Nat) = 0 := cnt_zero fun z hz => by have := q1 z hz; omega
            rw [this]
            unfold absI
            split <;> split <;> split <;> omega
        · by_cases h2 : y ≤ ((v : Nat) : Int)
          · rw [if_neg h1, if_pos h2]
            have : cnt l (v : Nat) = 0 := cnt_zero fun z hz => by have := p1 z hz; omega
            rw [this]
            unfold absI
            split <;> split <;> split <;> omega
          · rw [if_neg h1, if_neg h2]
            unfold absI
            split <;> split <;> split <;> omega
      rw [key]
      omega
  | [], _ :: _, _, h, _, _, _, _ => by simp at h
  | _ :: _, [], _, h, _, _, _, _ => by simp at h
theorem cnt_rep (n : Nat) (k v : Int) : cnt (List.replicate n k) v = if k ≤ v then (n : Int) else 0 := by
  unfold cnt
  rw [List.filter_replicate]
  by_cases h : k ≤ v
  · rw [if_pos (by simp [h]), if_pos h, List.length_replicate]
  · rw [if_neg (by simp [h]), if_neg h]
    rfl
theorem cnt_app (l m : List Int) (v : Int) : cnt (l ++ m) v = cnt l v + cnt m v := by
  unfold cnt
  rw [List.filter_append, List.length_append]
  omega
theorem cnt_line : ∀ (cs : List Int) (k v : Nat), (∀ c ∈ cs, 0 ≤ c) → cnt (lineF cs k) v = pre cs (v + 1 - k)
  | [], k, v, _ => by unfold pre; simp [lineF, cnt]
  | c :: cs, k, v, h => by
    have ih := cnt_line cs (k + 1) v fun x hx => h x (List.mem_cons_of_mem _ hx)
    have h0 := h c List.mem_cons_self
    show cnt (List.replicate c.toNat (k : Int) ++ lineF cs (k + 1)) v = _
    rw [cnt_app, cnt_rep, ih]
    by_cases hk : k ≤ v
    · rw [if_pos (by omega)]
      unfold pre
      rw [show v + 1 - k = (v + 1 - (k + 1)) + 1 by omega, List.take_succ_cons, List.sum_cons]
      omega
    · rw [if_neg (by omega)]
      unfold pre
      rw [show v + 1 - k = 0 by omega, show v + 1 - (k + 1) = 0 by omega]
      simp
theorem lineF_lt : ∀ (cs : List Int) (k : Nat), ∀ x ∈ lineF cs k, x < (k : Int) + cs.length
  | [], _, x, hx => absurd hx (by simp [lineF])
  | c :: cs, k, x, hx => by
    rw [List.length_cons]
    rcases List.mem_append.mp hx with h | h
    · rw [(List.mem_replicate.mp h).2]
      omega
    · have := lineF_lt cs (k + 1) x h
      omega
theorem gaps_steps {a b : List Int} (h1 : 1 ≤ a.length) (hl : a.length = b.length) (hs : a.sum = b.sum) (ha : ∀ c ∈ a, 0 ≤ c) (hb : ∀ c ∈ b, 0 ≤ c) : (gaps (lineF a 0) (lineF b 0)).sum = stepsL a b := by
  have la := lineF_len a 0 ha
  have lb := lineF_len b 0 hb
  rw [gaps_lay _ _ (a.length - 1) (by omega) (lineF_sorted a 0) (lineF_sorted b 0) (fun x hx => by
    have := lineF_ge a 0 x hx
    have := lineF_lt a 0 x hx
    omega) (fun x hx => by
    have := lineF_ge b 0 x hx
    have := lineF_lt b 0 x hx
    omega)]
  unfold lay stepsL flowsL
  rw [List.map_map]
  refine congrArg List.sum (List.map_congr_left fun v _ => ?_)
  show absI _ = absI _
  rw [cnt_line a 0 v ha, cnt_line b 0 v hb]
  rfl
end PX.K63
set_option linter.all false
set_option maxRecDepth 100000
set_option maxHeartbeats 1000000
namespace PX.K63
open PySem PX K22M
abbrev tI (a : List Int) : PV := .tup (a.map .int)
theorem oNe_bl (a b : Bool) (S : Store) : oNe (.bl a) (.bl b) S = some (false, .bl (!decide (a = b))) := by
  unfold oNe
  rw [eqD_bl]
  rfl
theorem mayPutL_all (n0 : Nat) : ∀ ys : List PV, mayPutL n0 n0 ys = true
  | [] => rfl
  | y :: ys => by
    show (mayPut n0 n0 y && mayPutL n0 n0 ys) = true
    rw [mayPutL_all n0 ys]
    show ((Nat.ble n0 n0 || noref y) && true) = true
    rw [Nat.ble_eq_true_of_le (Nat.le_refl _)]
    rfl
theorem ext_last (S : Store) (xs ys : List PV) (h : xs.length + ys.length ≤ 1000000) : extL S.length (.ref S.length) (.lst ys) (S ++ [.lst xs]) = some (S ++ [.lst (xs ++ ys)]) := by
  show (match (S ++ [PV.lst xs])[S.length]? with
    | some (.lst zs) => match lstOf (S ++ [PV.lst xs]) (.lst ys) with
      | some ws => if mayPutL S.length S.length ws && small (zs.length + ws.length) then some ((S ++ [PV.lst xs]).set S.length (.lst (zs ++ ws))) else none
      | none => none
    | _ => none) = _
  rw [at_last]
  have e : lstOf (S ++ [PV.lst xs]) (.lst ys) = some ys := rfl
  simp only [e, mayPutL_all, small_nat h, Bool.and_self, if_true, set_last]
theorem rep_flat {α : Type} (x : α) : ∀ n : Nat, (List.replicate n [x]).flatten = List.replicate n x
  | 0 => rfl
  | n + 1 => by
    rw [List.replicate_succ, List.flatten_cons, rep_flat x n]
    rfl
section
variable (n : Nat) (S : Store)
noncomputable abbrev B7 (n0 : Nat) : SS := (sExp (eLm (extL n0) (eVar 1) (eBin oRep (eLst (aCons (eVar 2) aNil)) (eVar 3))))
theorem repV (x c : Int) (h0 : 0 ≤ c) (h1 : c ≤ 9) (S : Store) : oRep (.lst [.int x]) (.int c) S = some (true, .lst ((List.replicate c.toNat x).map .int)) := by
  show (if decide (-1000 ≤ c ∧ c ≤ 1000) && Nat.ble [PV.int x].length 1000 then some (true, PV.lst (List.replicate c.toNat [PV.int x]).flatten) else none) = _
  rw [decide_eq_true (by omega), rep_flat]
  rw [List.map_replicate]
  rfl
theorem loop7 (a0 : Option PV) : ∀ (cs : List Int) (k : Nat) (acc : List Int) (x2 x3 : Option PV), (∀ c ∈ cs, dig c) → acc.length + 9 * cs.length ≤ 1000 →
    ∃ y2 y3, forR (gTp [(gNm 2), (gNm 3)]) (B7 S.length) ((cs.zipIdx k).map fun p => PV.tup [.int (p.2 : Nat), .int p.1]) [a0, some (.ref S.length), x2, x3] (S ++ [.lst (acc.map .int)]) =
      .nx [a0, some (.ref S.length), y2, y3] (S ++ [.lst ((acc ++ lineF cs k).map .int)])
  | [], k, acc, x2, x3, _, _ => ⟨x2, x3, by simp [lineF]⟩
  | c :: cs, k, acc, x2, x3, h, hl => by
    obtain ⟨d0, d9⟩ := h c List.mem_cons_self
    simp only [List.length_cons] at hl
    have e1 : B7 S.length [a0, some (.ref S.length), some (.int (k : Nat)), some (.int c)] (S ++ [.lst (acc.map .int)]) = .nx [a0, some (.ref S.length), some (.int (k : Nat)), some (.int c)] (S ++ [.lst ((acc ++ List.replicate c.toNat (k : Int)).map .int)]) := by
      refine sexp_stD (z := (false, .non)) ?_
      rw [q_lm, show eVar 1 [a0, some (.ref S.length), some (.int (k : Nat)), some (.int c)] (S ++ [.lst (acc.map .int)]) = .ok (false, .ref S.length) (S ++ [.lst (acc.map .int)]) from rfl, R.bind_ok]
      simp only [isL_last, if_true]
      rw [bin_val (a := eLst (aCons (eVar 2) aNil)) (k := true) (v := .lst [.int (k : Nat)]) (b := eVar 3) (k' := false) (w := .int c) rfl rfl (repV (k : Nat) c d0 d9 _), R.bind_ok]
      simp only [ext_last S (acc.map .int) ((List.replicate c.toNat (k : Int)).map .int) (by rw [List.length_map, List.length_map, List.length_replicate]; omega)]
      rw [List.map_append]
    obtain ⟨y2, y3, ih⟩ := loop7 a0 cs (k + 1) (acc ++ List.replicate c.toNat (k : Int)) (some (.int (k : Nat))) (some (.int c)) (fun x hx => h x (List.mem_cons_of_mem _ hx)) (by rw [List.length_append, List.length_replicate]; omega)
    refine ⟨y2, y3, ?_⟩
    rw [List.zipIdx_cons, List.map_cons, for_nx (env1 := [a0, some (.ref S.length), some (.int (k : Nat)), some (.int c)]) rfl e1, ih, List.append_assoc]
    rfl
theorem sortedV (cs : List Int) (hl : cs.length ≤ 12) (hd : ∀ c ∈ cs, dig c) : callV (callF TT (n + 1)) 9 [col cs] S = .ok (true, .lst ((lineF cs 0).map .int)) S := by
  refine callV_own ?_ (frzL_ints _ _ _ 7 _)
  rw [call_at (b := b9) [some (col cs), none, none, none] rfl rfl rfl]
  unfold b9
  dsimp only
  rw [q_scons, sasg_st (k := false) (v := .ref S.length) (S' := S ++ [.lst []]) (by
    rw [q_new]
    rfl), RS.then_nx, q_scons]
  rw [show ([some (col cs), none, none, none] : Env).set 1 (some (.ref S.length)) = [some (col cs), some (.ref S.length), none, none] from rfl]
  rw [q_sfor, enu_gen cs (fun x => .int x) (v := .tup (cs.map .int)) (k := false) rfl (fld0 _ cs 0 _ rfl), R.go_ok]
  simp only [q_unl0]
  obtain ⟨y2, y3, e⟩ := loop7 S (some (col cs)) cs 0 [] none none hd (by rw [List.length_nil]; omega)
  rw [show forR (gTp [(gNm 2), (gNm 3)]) _ (cs.zipIdx.map fun p => PV.tup [.int (p.2 : Nat), .int p.1]) _ (S ++ [PV.lst []]) = _ from e, RS.then_nx, sret_val (k := false) (v := .ref S.length) rfl, List.nil_append]
  rfl
theorem rowsE {i : Nat} {cs : List Int} {env : Env} (h : env[i]? = some (some (col cs))) : eMeth (callF TT (n + 1)) 1 2 [(0, 6)] (eVar i) aNil env S = .ok (false, .int cs.sum) S :=
  meth0 (b := false) (v := col cs) (by rw [q_var, h]) rfl (rowsV n S cs)
theorem drop1_sl (c : List Int) : slP (some 1) none (tI c) S = some (false, tI (c.drop 1)) := by
  cases c with
  | nil => rfl
  | cons x xs =>
    show some (false, PV.tup (cutP ((x :: xs).map .int) (some ((1 : Nat) : Int)) none)) = _
    rw [cut_drop (x :: xs) 1 (by simp)]
theorem zipD {env : Env} {a : SE} {k : Bool} {c : List Int} (ha : a env S = .ok (k, tI c) S) : iZip a (eSl a (pSo (eLit (.int 1))) pNo) env S = .ok ((c.zip (c.drop 1)).map fun p => PV.tup [.int p.1, .int p.2], []) S :=
  zip_val a _ env S k false c (c.drop 1) ha (sl_val (lo := pSo (eLit (.int 1))) (hi := pNo) ha rfl rfl (drop1_sl S c))
theorem zip_len (c : List Int) (h : c.length ≤ 1000) : (c.zip (c.drop 1)).length ≤ 100000 := by
  rw [List.length_zip]
  have := Nat.min_le_left c.length (c.drop 1).length
  omega
end
end PX.K63
set_option linter.all false
set_option maxRecDepth 100000
set_option maxHeartbeats 1000000
namespace PX
open PySem K22M
theorem starF {a : SE} {r : SA} {env : Env} {S : Store} {k : Bool} {v : PV} {xs ys : List PV} (ha : a env S = .ok (k, v) S) (hi : itemsOf S v = some xs) (hr : r env S = .ok ys S) : aStar a r env S = .ok (xs ++ ys) S := by
  rw [q_star, ha, R.bind_ok]
  simp only [hi]
  rw [hr, R.bind_ok]
def zip3T (a b c : List Int) : List (Int × (Int × Int)) := a.zip (b.zip c)
theorem zip3L_ints : ∀ a b c : List Int, zip3L (a.map .int) (b.map .int) (c.map .int) = (zip3T a b c).map fun p => PV.tup [.int p.1, .int p.2.1, .int p.2.2]
  | [], _, _ => rfl
  | _ :: _, [], _ => rfl
  | _ :: _, _ :: _, [] => rfl
  | x :: a, y :: b, z :: c => by
    show PV.tup [.int x, .int y, .int z] :: zip3L (a.map .int) (b.map .int) (c.map .int) = _
    rw [zip3L_ints a b c]
    rfl
theorem zip3_it {a b c : SE} {env : Env} {S : Store} {k1 k2 k3 : Bool} {u v w : PV} {x y z : List Int} (h1 : itP u = some (x.map .int)) (h2 : itP v = some (y.map .int)) (h3 : itP w = some (z.map .int)) (ha : a env S = .ok (k1, u) S) (hb : b env S = .ok (k2, v) S) (hc : c env S = .ok (k3, w) S) : iZip3 a b c env S = .ok ((zip3T x y z).map fun p => PV.tup [.int p.1, .int p.2.1, .int p.2.2], []) S := by
  show ((a env S).bind fun p S1 => (b env S1).bind fun q S2 => (c env S2).bind fun w S3 => match lockS p.2 S3 with
  | some z => match lockS q.2 z.2.2 with
    | some y => match lockS w.2 y.2.2 with
      | some x => R.ok (zip3L z.1 y.1 x.1, x.2.1 ++ (y.2.1 ++ z.2.1)) x.2.2
      | none => .no
    | none => .no
  | none => .no) = _
  rw [ha, R.bind_ok, hb, R.bind_ok, hc, R.bind_ok]
  simp only [lockS_it h1, lockS_it h2, lockS_it h3, zip3L_ints]
  rfl
theorem ne_ref (S : Store) (a b : List Int) : oNe (.ref S.length) (.lst (b.map .int)) (S ++ [.lst (a.map .int)]) = some (false, .bl (!decide (a = b))) := by
  have hd : deref (S ++ [.lst (a.map .int)]) (.ref S.length) = deref (S ++ [.lst (a.map .int)]) (.lst (a.map .int)) := by
    rw [d_ref, at_last]
    rfl
  have e : oNe (.ref S.length) (.lst (b.map .int)) (S ++ [.lst (a.map .int)]) = oNe (.lst (a.map .int)) (.lst (b.map .int)) (S ++ [.lst (a.map .int)]) := by
    unfold oNe eqD
    rw [toD_deref hd]
  rw [e, oNe_lst]
end PX
namespace PX.K63
open PySem PX K22M
theorem z3_T : ∀ a b c : List Int, z3 a b c = (zip3T a b c).map fun p => p.1 + p.2.1 - p.2.2
  | [], _, _ => rfl
  | _ :: _, [], _ => rfl
  | _ :: _, _ :: _, [] => rfl
  | x :: a, y :: b, z :: c => by
    show (x + y - z) :: z3 a b c = _
    rw [z3_T a b c]
    rfl
theorem gain_T : ∀ a b c : List Int, gain a b c = ((zip3T a b c).map fun p => p.1 * (p.2.1 - p.2.2)).sum
  | [], _, _ => rfl
  | _ :: _, [], _ => rfl
  | _ :: _, _ :: _, [] => rfl
  | x :: a, y :: b, z :: c => by
    show x * (y - z) + gain a b c = _
    rw [gain_T a b c]
    show _ = ((x * (y - z)) :: (zip3T a b c).map fun p => p.1 * (p.2.1 - p.2.2)).sum
    rw [List.sum_cons]
theorem zip3T_len (a b c : List Int) (h : a.length ≤ 1000) : (zip3T a b c).length ≤ 100000 := by
  unfold zip3T
  rw [List.length_zip]
  have := Nat.min_le_left a.length (b.zip c).length
  omega
section
variable (n : Nat) (S : Store)
theorem lenC {a : List Int} {i : Nat} {env : Env} (hl : a.length ≤ 1000) (h : env[i]? = some (some (col a))) : eLen (callF TT (n + 1)) [(0, 3)] (eVar i) env S = .ok (false, .int a.length) S := len_col n S a _ _ false hl (by rw [q_var, h])
structure Fit (a b : List Int) : Prop where
  one : 1 ≤ a.length
  most : a.length ≤ 12
  len : a.length = b.length
  sum : a.sum = b.sum
  da : ∀ c ∈ a, dig c
  db : ∀ c ∈ b, dig c
theorem chkpairV {a b : List Int} (h : Fit a b) : callV (callF TT (n + 2)) 11 [col a, col b] S = .ok (false, .non) S := by
  refine callV_same ?_ rfl
  rw [call_at (b := b11) [some (col a), some (col b)] rfl rfl rfl]
  unfold b11
  dsimp only
  have hm := h.most
  have hl := h.len
  rw [q_scons, sexp_val (call1 (a := eVar 0) (v := col a) (b := false) rfl (chkcolV n S a)), RS.then_nx]
  rw [q_scons, sexp_val (call1 (a := eVar 1) (v := col b) (b := false) rfl (chkcolV n S b)), RS.then_nx]
  have t1 : tBl (eNe (callF TT (n + 1)) [(0, 2), (1, 14)] [.non, .bl, .int, .str, .tup, .lst, .dct, .own 0, .own 1] (eLen (callF TT (n + 1)) [(0, 3)] (eVar 0)) (eLen (callF TT (n + 1)) [(0, 3)] (eVar 1))) [some (col a), some (col b)] S = .ok false S :=
    tbl_val (k := false) (ne_flat (z := (false, .bl false)) (lenC n S (a := a) (by omega) rfl) (lenC n S (a := b) (by omega) rfl) rfl (by rw [oNe_int', decide_eq_true (by rw [hl])]; rfl))
  have t2 : tBl (eNe (callF TT (n + 1)) [(0, 2), (1, 14)] [.non, .bl, .int, .str, .tup, .lst, .dct, .own 0, .own 1] (eMeth (callF TT (n + 1)) 1 2 [(0, 6)] (eVar 0) aNil) (eMeth (callF TT (n + 1)) 1 2 [(0, 6)] (eVar 1) aNil)) [some (col a), some (col b)] S = .ok false S :=
    tbl_val (k := false) (ne_flat (z := (false, .bl false)) (rowsE n S (cs := a) rfl) (rowsE n S (cs := b) rfl) rfl (by rw [oNe_int', decide_eq_true h.sum]; rfl))
  rw [sif_val (t := false) (by rw [tor_val t1, if_neg (by simp)]; exact t2)]
  rfl
theorem prefsV (a : List Int) (hl : a.length ≤ 12) : callV (callF TT (n + 1)) 7 [col a] S = .ok (false, .lst (((List.range (a.length + 1)).map (pre a)).map .int)) S := by
  refine callV_same ?_ rfl
  rw [call_at (b := b7) [some (col a), none] rfl rfl rfl]
  unfold b7
  dsimp only
  have e := lc_int (S := S) (i := iRg1 (eBin oCat (eLen (callF TT n) [(0, 3)] (eFld [0] 0 (eVar 0))) (eLit (.int 1)))) (t := gNm 1) (vs := [1]) (c := tYesP) (e := eArg bSum (aCons (eSl (eFld [0] 0 (eVar 0)) pNo (pSo (eVar 1))) aNil)) (env := [some (col a), none])
    (List.range (a.length + 1)) (fun v => .int ((v : Nat) : Int)) (pre a) (fun _ => true) (fun v => [some (col a), some (.int ((v : Nat) : Int))])
    (by rw [rg1_n (bin_val (lenN (fld0 S a 0 [some (col a), none] rfl)) (b := eLit (.int 1)) (k' := false) (w := .int 1) rfl (cat_int _ _ S)) (by omega) (by omega), show ((a.length : Int) + 1).toNat = a.length + 1 by omega, rngL_map0]) (by rw [List.length_range]; omega) (fun _ _ => rfl) (fun _ _ => rfl)
    (fun v hv _ => ⟨false, by
      have hv' := List.mem_range.mp hv
      rw [arg1_val (sl_val (fld0 S a 0 [some (col a), some (.int ((v : Nat) : Int))] rfl) (lo := pNo) (hi := pSo (eVar 1)) rfl (pso_val (a := eVar 1) (k := false) rfl) (z := (false, .tup ((a.take v).map .int))) (by
        show some (false, PV.tup (cutP (a.map .int) none (some (v : Int)))) = _
        rw [cut_take a v (by omega)])) (bSum_tup _ S)]
      rfl⟩)
  rw [filter_yes] at e
  rw [sret_val e]
  rfl
theorem cut_inner (f : Nat → Int) (w : Nat) (h : 1 ≤ w) : cutP (((List.range (w + 1)).map f).map PV.int) (some 1) (some (-1)) = ((List.range (w - 1)).map fun i => f (i + 1)).map .int := by
  rw [cutP_map]
  have hl : ((List.range (w + 1)).map f).length = w + 1 := by rw [List.length_map, List.length_range]
  rw [hl]
  have e1 : sIxP (w + 1) 0 (some 1) = 1 := by
    show min 1 (w + 1) = 1
    omega
  have e2 : sIxP (w + 1) (w + 1) (some (-1)) = w := by
    show ((-1 : Int) + ((w + 1 : Nat) : Int)).toNat = w
    omega
  rw [e1, e2, List.range_succ_eq_map, List.map_cons, List.drop_succ_cons, List.drop_zero, List.map_map, ← List.map_take, List.take_range, Nat.min_eq_left (by omega)]
  rfl
theorem zip_sub (f g : Nat → Int) : ∀ l : List Nat, ((l.map f).zip (l.map g)).map (fun p => p.1 - p.2) = l.map fun i => f i - g i
  | [] => rfl
  | x :: l => by
    rw [List.map_cons, List.map_cons, List.zip_cons_cons, List.map_cons, zip_sub f g l]
    rfl
theorem flowsV {a b : List Int} (h : Fit a b) : callV (callF TT (n + 2)) 12 [col a, col b] S = .ok (false, .lst ((flowsL a b).map .int)) S := by
  refine callV_same ?_ rfl
  rw [call_at (b := b12) [some (col a), some (col b), none, none] rfl rfl rfl]
  unfold b12
  dsimp only
  have hm := h.most
  have hl := h.len
  have sl : ∀ (i : Nat) (c : List Int), ([some (col a), some (col b), none, none] : Env)[i]? = some (some (col c)) → c.length ≤ 12 → 1 ≤ c.length → eSl (eMeth (callF TT (n + 1)) 1 3 [(0, 7)] (eVar i) aNil) (pSo (eLit (.int 1))) (pSo (eUn oNeg (eLit (.int 1)))) [some (col a), some (col b), none, none] S = .ok (true, .lst (((List.range (c.length - 1)).map fun i => pre c (i + 1)).map .int)) S := by
    intro i c hi h12 h1
    refine sl_val (meth0 (b := false) (v := col c) (by rw [q_var, hi]) rfl (prefsV n S c h12)) (lo := pSo (eLit (.int 1))) (hi := pSo (eUn oNeg (eLit (.int 1)))) rfl rfl ?_
    show some (true, PV.lst (cutP (((List.range (c.length + 1)).map (pre c)).map .int) (some 1) (some (-1)))) = _
    rw [cut_inner (pre c) c.length h1]
  have s0 := sl 0 a rfl hm h.one
  have s1 := sl 1 b rfl (by omega) (by have := h.one; omega)
  rw [← hl] at s1
  have ez := zip_it _ _ [some (col a), some (col b), none, none] S true true _ _ _ _ rfl rfl s0 s1
  rw [zipL_map] at ez
  have e := lc_int (S := S) (t := gTp [(gNm 2), (gNm 3)]) (vs := [2, 3]) (c := tYesP) (e := eBin oSub (eVar 2) (eVar 3)) (env := [some (col a), some (col b), none, none])
    (((List.range (a.length - 1)).map fun i => pre a (i + 1)).zip ((List.range (a.length - 1)).map fun i => pre b (i + 1))) (fun p => PV.tup [.int p.1, .int p.2]) (fun p => p.1 - p.2) (fun _ => true) (fun p => [some (col a), some (col b), some (.int p.1), some (.int p.2)])
    ez (by rw [List.length_zip, List.length_map, List.length_map, List.length_range]; omega) (fun _ _ => rfl) (fun _ _ => rfl) (fun p _ _ => ⟨false, rfl⟩)
  rw [filter_yes, zip_sub] at e
  rw [sret_val e]
  rfl
theorem flows_len (a b : List Int) : (flowsL a b).length = a.length - 1 := by unfold flowsL; rw [List.length_map, List.length_range]
theorem stepsV {a b : List Int} (h : Fit a b) : callV (callF TT (n + 3)) 16 [col a, col b] S = .ok (false, .int (stepsL a b)) S := by
  have hm := h.most
  refine callV_same ?_ rfl
  rw [call_at (b := b16) [some (col a), some (col b), none] rfl rfl rfl]
  unfold b16
  dsimp only
  rw [q_scons, sexp_val (call2 (a := eVar 0) (b := false) (v := col a) (a2 := eVar 1) (b2 := false) (v2 := col b) rfl rfl (chkpairV n S h)), RS.then_nx]
  have e := lc_int (S := S) (i := iSeq (eCall (callF TT (n + 2)) 2 12 (aCons (eVar 0) (aCons (eVar 1) aNil)))) (t := gNm 2) (vs := [2]) (c := tYesP) (e := eArg bAbs (aCons (eVar 2) aNil)) (env := [some (col a), some (col b), none])
    (flowsL a b) (fun x => .int x) absI (fun _ => true) (fun x => [some (col a), some (col b), some (.int x)])
    (seq_it (v := .lst ((flowsL a b).map .int)) (k := false) rfl (call2 (a := eVar 0) (b := false) (v := col a) (a2 := eVar 1) (b2 := false) (v2 := col b) rfl rfl (flowsV n S h))) (by rw [flows_len]; omega) (fun _ _ => rfl) (fun _ _ => rfl) (fun x _ _ => ⟨false, rfl⟩)
  rw [filter_yes] at e
  rw [sret_val (arg1_val e (bSum_lst _ S))]
  rfl
abbrev mv (f h : List Int) : PV := .ins 1 [4, 5] [tI f, tI h]
theorem minitV {v w : PV} (f h : List Int) (h1 : bTuple [v] (S ++ [.ins 1 [] []]) = some (false, tI f)) (h2 : bTuple [w] (S ++ [.ins 1 [4] [tI f]]) = some (false, tI h)) : callF TT (n + 1) 13 [.ref S.length, v, w] S.length (S ++ [.ins 1 [] []]) = .ok .non (S ++ [mv f h]) := by
  rw [call_at (b := b13) [some (.ref S.length), some v, some w] rfl rfl rfl]
  unfold b13
  dsimp only
  rw [q_scons, fld_last (n0 := S.length) (k := false) (w := tI f) (k' := false) rfl (arg1_val (a := eVar 1) (k := false) (v := v) rfl h1) rfl rfl rfl, RS.then_nx]
  show fin (sFld S.length [1] 5 (eVar 0) (eArg bTuple (aCons (eVar 2) aNil)) [some (.ref S.length), some v, some w] (S ++ [.ins 1 [4] [tI f]])) = _
  rw [fld_last (n0 := S.length) (k := false) (w := tI h) (k' := false) rfl (arg1_val (a := eVar 2) (k := false) (v := w) rfl h2) rfl rfl rfl]
  rfl
theorem mvmake {a1 a2 : SE} {env : Env} {k1 k2 : Bool} {v w : PV} (f h : List Int) (e1 : a1 env S = .ok (k1, v) S) (e2 : a2 env S = .ok (k2, w) S) (h1 : ∀ x, bTuple [v] (S ++ [x]) = some (false, tI f)) (h2 : ∀ x, bTuple [w] (S ++ [x]) = some (false, tI h)) : eMake (callF TT (n + 1)) 3 1 13 (aCons a1 (aCons a2 aNil)) env S = .ok (true, mv f h) S := by
  unfold eMake
  rw [args2 e1 e2, R.bind_ok, if_pos (by rfl), minitV n S f h (h1 _) (h2 _)]
  show norm S.length (.ref S.length) (S ++ [mv f h]) = _
  exact norm_ins S 1 [4, 5] [f, h]
theorem mf4 {f h : List Int} {i : Nat} {env : Env} (e : env[i]? = some (some (mv f h))) : eFld [1] 4 (eVar i) env S = .ok (false, tI f) S := by
  rw [q_fld, q_var, e]
  rfl
theorem mf5 {f h : List Int} {i : Nat} {env : Env} (e : env[i]? = some (some (mv f h))) : eFld [1] 5 (eVar i) env S = .ok (false, tI h) S := by
  rw [q_fld, q_var, e]
  rfl
theorem steepE {env : Env} {a : SE} {k : Bool} {h : List Int} (x y : Nat) (hl : h.length ≤ 1000) (ha : a env S = .ok (k, tI h) S) (en : Int × Int → Env) (ht : ∀ p : Int × Int, gTp [gNm x, gNm y] (PV.tup [.int p.1, .int p.2]) (wipeE env [x, y]) S = some (en p)) (hx : ∀ p : Int × Int, (en p)[x]? = some (some (.int p.1))) (hy : ∀ p : Int × Int, (en p)[y]? = some (some (.int p.2))) :
    eArg bAny (aCons (eLc (iZip a (eSl a (pSo (eLit (.int 1))) pNo)) (gTp [(gNm x), (gNm y)]) [x, y] tYesP (eBin oGt (eArg bAbs (aCons (eBin oSub (eVar x) (eVar y)) aNil)) (eLit (.int 1)))) aNil) env S = .ok (false, .bl (steep h)) S := by
  refine any_lc (S := S) (h.zip (h.drop 1)) (fun p => PV.tup [.int p.1, .int p.2]) (fun p => decide (1 < absI (p.1 - p.2))) en (zipD S ha) (zip_len h hl) (fun p _ => ht p) (fun p _ => ⟨false, ?_⟩)
  exact bin_val (arg1_val (bin_val (o := oSub) (a := eVar x) (k := false) (v := .int p.1) (b := eVar y) (k' := false) (w := .int p.2) (by rw [q_var, hx]) (by rw [q_var, hy]) rfl) rfl) (b := eLit (.int 1)) (k' := false) (w := .int 1) rfl rfl
theorem mshowsV {a b : List Int} (F : Fit a b) (f h : List Int) (lf : f.length ≤ 500) (lh : h.length ≤ 500) : callV (callF TT (n + 3)) 15 [mv f h, col a, col b] S = .ok (false, .bl (showM a b f h)) S := by
  have hm := F.most
  have h1 := F.one
  have hab := F.len
  refine callV_same ?_ rfl
  rw [call_at (b := b15) [some (mv f h), some (col a), some (col b), none, none, none, none, none, none, none, none, none, none, none] rfl rfl rfl]
  unfold b15
  dsimp only
  rw [q_scons, sexp_val (call2 (a := eVar 1) (b := false) (v := col a) (a2 := eVar 2) (b2 := false) (v2 := col b) rfl rfl (chkpairV n S F)), RS.then_nx]
  have f4 : eFld [1] 4 (eVar 0) [some (mv f h), some (col a), some (col b), none, none, none, none, none, none, none, none, none, none, none] S = .ok (false, tI f) S := mf4 S rfl
  have f5 : eFld [1] 5 (eVar 0) [some (mv f h), some (col a), some (col b), none, none, none, none, none, none, none, none, none, none, none] S = .ok (false, tI h) S := mf5 S rfl
  have ln : eLen (callF TT (n + 2)) [(0, 3)] (eVar 1) [some (mv f h), some (col a), some (col b), none, none, none, none, none, none, none, none, none, none, none] S = .ok (false, .int a.length) S := lenC (n + 1) S (by omega) rfl
  have t1 : tBl (eNe (callF TT (n + 2)) [(0, 2), (1, 14)] [.non, .bl, .int, .str, .tup, .lst, .dct, .own 0, .own 1] (eLen (callF TT (n + 2)) [(0, 3)] (eFld [1] 4 (eVar 0))) (eBin oSub (eLen (callF TT (n + 2)) [(0, 3)] (eVar 1)) (eLit (.int 1)))) [some (mv f h), some (col a), some (col b), none, none, none, none, none, none, none, none, none, none, none] S = .ok (!decide (f.length = a.length - 1)) S := by
    refine tbl_val (k := false) ?_
    rw [ne_flat (lenN f4) (bin_val (o := oSub) ln (b := eLit (.int 1)) (k' := false) (w := .int 1) rfl rfl) rfl (oNe_int' _ _ S)]
    refine okc ?_ S
    rw [decide_eq_decide.mpr (show (f.length : Int) = (a.length : Int) - 1 ↔ f.length = a.length - 1 by omega)]
  have t2 : tBl (eNe (callF TT (n + 2)) [(0, 2), (1, 14)] [.non, .bl, .int, .str, .tup, .lst, .dct, .own 0, .own 1] (eLen (callF TT (n + 2)) [(0, 3)] (eFld [1] 5 (eVar 0))) (eLen (callF TT (n + 2)) [(0, 3)] (eVar 1))) [some (mv f h), some (col a), some (col b), none, none, none, none, none, none, none, none, none, none, none] S = .ok (!decide (h.length = a.length)) S := by
    refine tbl_val (k := false) ?_
    rw [ne_flat (lenN f5) ln rfl (oNe_int' _ _ S)]
    refine okc ?_ S
    rw [decide_eq_decide.mpr (show (h.length : Int) = (a.length : Int) ↔ h.length = a.length by omega)]
  have hB : showM a b f h = (decide (f.length = a.length - 1) && decide (h.length = a.length) && (decide (swp (a.headD 0) (a.drop 1) f = b) && !steep h) && decide (gain h b a = (f.map absI).sum)) := rfl
  rw [q_scons, sif_val (t := !(decide (f.length = a.length - 1) && decide (h.length = a.length))) (by
    rw [tor_val t1]
    cases decide (f.length = a.length - 1) with
    | false => rfl
    | true => rw [Bool.not_true, if_neg (by simp), t2, Bool.true_and]), hB]
  by_cases hlen : (decide (f.length = a.length - 1) && decide (h.length = a.length)) = true
  · rw [hlen, Bool.not_true, if_neg (by simp), q_snil, RS.then_nx]
    rw [Bool.and_eq_true, decide_eq_true_eq, decide_eq_true_eq] at hlen
    have e3 : eLst (aCons (eLit (.int 0)) (aStar (eFld [1] 4 (eVar 0)) (aCons (eLit (.int 0)) aNil))) [some (mv f h), some (col a), some (col b), none, none, none, none, none, none, none, none, none, none, none] S = .ok (true, .lst ((0 :: (f ++ [0])).map .int)) S := by
      rw [lst_valD (aconsD (a := eLit (.int 0)) (k := false) (v := .int 0) rfl (starF f4 rfl (args1 (a := eLit (.int 0)) (k := false) (v := .int 0) rfl))) (by simp; omega)]
      rw [List.map_cons, List.map_append]
      rfl
    rw [q_scons, sasg_val e3, RS.then_nx]
    rw [show ([some (mv f h), some (col a), some (col b), none, none, none, none, none, none, none, none, none, none, none] : Env).set 3 (some (.lst ((0 :: (f ++ [0])).map .int))) = [some (mv f h), some (col a), some (col b), some (.lst ((0 :: (f ++ [0])).map .int)), none, none, none, none, none, none, none, none, none, none] from rfl]
    have es : eSl (eVar 3) (pSo (eLit (.int 1))) pNo [some (mv f h), some (col a), some (col b), some (.lst ((0 :: (f ++ [0])).map .int)), none, none, none, none, none, none, none, none, none, none] S = .ok (true, .lst ((f ++ [0]).map .int)) S := by
      refine sl_val (k := false) (v := .lst ((0 :: (f ++ [0])).map .int)) (lo := pSo (eLit (.int 1))) (hi := pNo) rfl rfl rfl ?_
      show some (true, PV.lst (cutP ((0 :: (f ++ [0])).map .int) (some ((1 : Nat) : Int)) none)) = _
      rw [cut_drop (0 :: (f ++ [0])) 1 (by simp)]
      rfl
    have e4 := lc_int (S := S) (t := gTp [(gNm 6), (gNm 7), (gNm 8)]) (vs := [6, 7, 8]) (c := tYesP) (e := eBin oSub (eBin oCat (eVar 6) (eVar 7)) (eVar 8)) (env := [some (mv f h), some (col a), some (col b), some (.lst ((0 :: (f ++ [0])).map .int)), none, none, none, none, none, none, none, none, none, none])
      (zip3T a (0 :: (f ++ [0])) (f ++ [0])) (fun p => PV.tup [.int p.1, .int p.2.1, .int p.2.2]) (fun p => p.1 + p.2.1 - p.2.2) (fun _ => true) (fun p => [some (mv f h), some (col a), some (col b), some (.lst ((0 :: (f ++ [0])).map .int)), none, none, some (.int p.1), some (.int p.2.1), some (.int p.2.2), none, none, none, none, none])
      (zip3_it (u := .tup (a.map .int)) rfl rfl rfl (fld0 S a 1 _ rfl) (b := eVar 3) (k2 := false) (v := .lst ((0 :: (f ++ [0])).map .int)) rfl es) (zip3T_len a _ _ (by omega)) (fun _ _ => rfl) (fun _ _ => rfl) (fun p _ _ => ⟨false, rfl⟩)
    obtain ⟨c, cs, rfl⟩ : ∃ c cs, a = c :: cs := by
      cases a with
      | nil => simp at h1
      | cons c cs => exact ⟨c, cs, rfl⟩
    rw [filter_yes, ← z3_T, z3_swp cs f c 0 (by have := hlen.1; simp at this; omega), Int.add_zero] at e4
    rw [q_scons, sasg_val e4, RS.then_nx]
    rw [show ([some (mv f h), some (col (c :: cs)), some (col b), some (.lst ((0 :: (f ++ [0])).map .int)), none, none, none, none, none, none, none, none, none, none] : Env).set 4 (some (.lst ((swp c cs f).map .int))) = [some (mv f h), some (col (c :: cs)), some (col b), some (.lst ((0 :: (f ++ [0])).map .int)), some (.lst ((swp c cs f).map .int)), none, none, none, none, none, none, none, none, none] from rfl]
    have t3 : tBl (eNe (callF TT (n + 2)) [(0, 2), (1, 14)] [.non, .bl, .int, .str, .tup, .lst, .dct, .own 0, .own 1] (eArg bTuple (aCons (eVar 4) aNil)) (eFld [0] 0 (eVar 2))) [some (mv f h), some (col (c :: cs)), some (col b), some (.lst ((0 :: (f ++ [0])).map .int)), some (.lst ((swp c cs f).map .int)), none, none, none, none, none, none, none, none, none] S = .ok (!decide (swp c cs f = b)) S :=
      tbl_val (k := false) (ne_flat (arg1_val (a := eVar 4) (k := false) rfl (tuple_lst _ S)) (fld0 S b 2 _ rfl) rfl (oNe_tup _ _ S))
    rw [q_scons, sif_val t3]
    rw [show ((c :: cs).headD 0) = c from rfl, show (c :: cs).drop 1 = cs from rfl]
    cases decide (swp c cs f = b) with
    | false => simp only [Bool.not_false, if_true, Bool.false_and, Bool.and_false]; rfl
    | true =>
      rw [Bool.not_true, if_neg (by simp), q_snil, RS.then_nx]
      have t4 := ttru_bl (steepE S (env := [some (mv f h), some (col (c :: cs)), some (col b), some (.lst ((0 :: (f ++ [0])).map .int)), some (.lst ((swp c cs f).map .int)), none, none, none, none, none, none, none, none, none]) (a := eFld [1] 5 (eVar 0)) (h := h) 9 10 (by omega) (mf5 S rfl) (fun p => [some (mv f h), some (col (c :: cs)), some (col b), some (.lst ((0 :: (f ++ [0])).map .int)), some (.lst ((swp c cs f).map .int)), none, none, none, none, some (.int p.1), some (.int p.2), none, none, none]) (fun _ => rfl) (fun _ => rfl) (fun _ => rfl))
      rw [q_scons, sif_val t4]
      cases steep h with
      | true => rw [if_pos rfl]; simp only [Bool.not_true, Bool.and_false, Bool.false_and]; rfl
      | false =>
        rw [if_neg (by simp), q_snil, RS.then_nx]
        have f5' : eFld [1] 5 (eVar 0) [some (mv f h), some (col (c :: cs)), some (col b), some (.lst ((0 :: (f ++ [0])).map .int)), some (.lst ((swp c cs f).map .int)), none, none, none, none, none, none, none, none, none] S = .ok (false, tI h) S := mf5 S rfl
        have e5 := lc_int (S := S) (t := gTp [(gNm 11), (gNm 8), (gNm 12)]) (vs := [11, 8, 12]) (c := tYesP) (e := eBin oRep (eVar 11) (eBin oSub (eVar 8) (eVar 12))) (env := [some (mv f h), some (col (c :: cs)), some (col b), some (.lst ((0 :: (f ++ [0])).map .int)), some (.lst ((swp c cs f).map .int)), none, none, none, none, none, none, none, none, none])
          (zip3T h b (c :: cs)) (fun p => PV.tup [.int p.1, .int p.2.1, .int p.2.2]) (fun p => p.1 * (p.2.1 - p.2.2)) (fun _ => true) (fun p => [some (mv f h), some (col (c :: cs)), some (col b), some (.lst ((0 :: (f ++ [0])).map .int)), some (.lst ((swp c cs f).map .int)), none, none, none, some (.int p.2.1), none, none, some (.int p.1), some (.int p.2.2), none])
          (zip3_it (u := tI h) (v := .tup (b.map .int)) (w := .tup ((c :: cs).map .int)) rfl rfl rfl f5' (fld0 S b 2 _ rfl) (fld0 S (c :: cs) 1 _ rfl)) (zip3T_len h _ _ (by omega)) (fun _ _ => rfl) (fun _ _ => rfl)
          (fun p hp _ => ⟨false, by
            obtain ⟨x, y, z⟩ := p
            have hz := List.of_mem_zip hp
            have hz2 := List.of_mem_zip hz.2
            have a1 : 0 ≤ y ∧ y ≤ 9 := F.db _ hz2.1
            have b1 : 0 ≤ z ∧ z ≤ 9 := F.da _ hz2.2
            exact bin_val (a := eVar 11) (k := false) (v := .int x) rfl (bin_val (o := oSub) (a := eVar 8) (k := false) (v := .int y) (b := eVar 12) (k' := false) (w := .int z) rfl rfl rfl) (rep_r x (y - z) S (by omega) (by omega))⟩)
        rw [filter_yes] at e5
        rw [q_scons, sasg_val (arg1_val e5 (bSum_lst _ S)), RS.then_nx, ← gain_T]
        rw [show ([some (mv f h), some (col (c :: cs)), some (col b), some (.lst ((0 :: (f ++ [0])).map .int)), some (.lst ((swp c cs f).map .int)), none, none, none, none, none, none, none, none, none] : Env).set 5 (some (.int (gain h b (c :: cs)))) = [some (mv f h), some (col (c :: cs)), some (col b), some (.lst ((0 :: (f ++ [0])).map .int)), some (.lst ((swp c cs f).map .int)), some (.int (gain h b (c :: cs))), none, none, none, none, none, none, none, none] from rfl]
        have e6 := lc_int (S := S) (i := iSeq (eFld [1] 4 (eVar 0))) (t := gNm 13) (vs := [13]) (c := tYesP) (e := eArg bAbs (aCons (eVar 13) aNil)) (env := [some (mv f h), some (col (c :: cs)), some (col b), some (.lst ((0 :: (f ++ [0])).map .int)), some (.lst ((swp c cs f).map .int)), some (.int (gain h b (c :: cs))), none, none, none, none, none, none, none, none])
          f (fun x => .int x) absI (fun _ => true) (fun x => [some (mv f h), some (col (c :: cs)), some (col b), some (.lst ((0 :: (f ++ [0])).map .int)), some (.lst ((swp c cs f).map .int)), some (.int (gain h b (c :: cs))), none, none, none, none, none, none, none, some (.int x)])
          (seq_it (v := tI f) (k := false) rfl (mf4 S rfl)) (by omega) (fun _ _ => rfl) (fun _ _ => rfl) (fun x _ _ => ⟨false, rfl⟩)
        rw [filter_yes] at e6
        rw [sret_val (eq_flat (a := eVar 5) (k := false) (v := .int (gain h b (c :: cs))) rfl (arg1_val e6 (bSum_lst _ S)) rfl (oEq_int' _ _ S))]
        simp only [Bool.not_false, Bool.and_true, Bool.true_and]
        rfl
  · rw [Bool.not_eq_true] at hlen
    rw [hlen]
    rfl
end
end PX.K63
set_option linter.all false
set_option maxRecDepth 100000
set_option maxHeartbeats 1000000
namespace PX.K63
open PySem PX K22M
section
variable (n : Nat) (S : Store)
noncomputable abbrev B17 (cf : CF) (n0 : Nat) : SS := (sExp (eLm (appL n0) (eVar 3) (eBin oCat (eIx cf [(0, 4)] (eVar 3) (eUn oNeg (eLit (.int 1)))) (eIf (tBl (eBin oGt (eVar 4) (eLit (.int 0)))) (eLit (.int 1)) (eIf (tBl (eBin oLt (eVar 4) (eLit (.int 0)))) (eUn oNeg (eLit (.int 1))) (eLit (.int 0)))))))
theorem sgnE (cf : CF) (f : Int) (a0 a1 a2 a3 : Option PV) (S : Store) : ∃ k, eIf (tBl (eBin oGt (eVar 4) (eLit (.int 0)))) (eLit (.int 1)) (eIf (tBl (eBin oLt (eVar 4) (eLit (.int 0)))) (eUn oNeg (eLit (.int 1))) (eLit (.int 0))) [a0, a1, a2, a3, some (.int f)] S = .ok (k, .int (sgn f)) S := by
  have t1 : tBl (eBin oGt (eVar 4) (eLit (.int 0))) [a0, a1, a2, a3, some (.int f)] S = .ok (decide (0 < f)) S := rfl
  have t2 : tBl (eBin oLt (eVar 4) (eLit (.int 0))) [a0, a1, a2, a3, some (.int f)] S = .ok (decide (f < 0)) S := rfl
  rw [eif_val t1]
  unfold sgn
  by_cases h : 0 < f
  · rw [if_pos (decide_eq_true h), if_pos h]
    exact ⟨_, rfl⟩
  · rw [if_neg (by simp [h]), if_neg h, eif_val t2]
    by_cases h2 : f < 0
    · rw [if_pos (decide_eq_true h2), if_pos h2]
      exact ⟨_, rfl⟩
    · rw [if_neg (by simp [h2]), if_neg h2]
      exact ⟨_, rfl⟩
theorem loop17 (cf : CF) (a0 a1 a2 : Option PV) : ∀ (fl : List Int) (dn : List Int) (h : Int) (x4 : Option PV), dn.length + fl.length ≤ 1000 →
    ∃ y4, forR (gNm 4) (B17 cf S.length) (fl.map .int) [a0, a1, a2, some (.ref S.length), x4] (S ++ [.lst ((dn ++ [h]).map .int)]) = .nx [a0, a1, a2, some (.ref S.length), y4] (S ++ [.lst ((dn ++ hts h fl).map .int)])
  | [], dn, h, x4, _ => ⟨x4, rfl⟩
  | f :: fl, dn, h, x4, hl => by
    simp only [List.length_cons] at hl
    obtain ⟨k, es⟩ := sgnE cf f a0 a1 a2 (some (.ref S.length)) (S ++ [.lst ((dn ++ [h]).map .int)])
    have hix : eIx cf [(0, 4)] (eVar 3) (eUn oNeg (eLit (.int 1))) [a0, a1, a2, some (.ref S.length), some (.int f)] (S ++ [.lst ((dn ++ [h]).map .int)]) = .ok (false, .int h) (S ++ [.lst ((dn ++ [h]).map .int)]) :=
      ix_val (a := eVar 3) (k := false) (v := .ref S.length) (b := eUn oNeg (eLit (.int 1))) (k' := false) (w := .int (-1)) rfl rfl (ownL_at _ (at_last S _)) (dIx_at _ (at_last S _)) (ix_end (itemsOf_at (xs := dn.map .int ++ [.int h]) (by rw [at_last, List.map_append]; rfl)))
    have e1 : B17 cf S.length [a0, a1, a2, some (.ref S.length), some (.int f)] (S ++ [.lst ((dn ++ [h]).map .int)]) = .nx [a0, a1, a2, some (.ref S.length), some (.int f)] (S ++ [.lst (((dn ++ [h]) ++ [h + sgn f]).map .int)]) := by
      rw [B17, sexp_app (o := eVar 3) (k := false) (i := S.length) (xs := (dn ++ [h]).map .int) (k' := false) (v := .int (h + sgn f)) rfl (at_last S _) (bin_val hix es rfl) (Nat.le_refl _) (by rw [List.length_map, List.length_append, List.length_singleton]; omega), set_last, List.map_append (l₁ := dn ++ [h])]
      rfl
    obtain ⟨y4, ih⟩ := loop17 cf a0 a1 a2 fl (dn ++ [h]) (h + sgn f) (some (.int f)) (by rw [List.length_append, List.length_singleton]; omega)
    refine ⟨y4, ?_⟩
    rw [List.map_cons, for_nx (env1 := [a0, a1, a2, some (.ref S.length), some (.int f)]) rfl e1, ih, List.append_assoc]
    rfl
theorem movesV {a b : List Int} (F : Fit a b) : callV (callF TT (n + 3)) 17 [col a, col b] S = .ok (false, mv (flowsL a b) (hts 0 (flowsL a b))) S := by
  have hm := F.most
  have fl : (flowsL a b).length ≤ 12 := by rw [flows_len]; omega
  have e : callF TT (n + 3) 17 [col a, col b] S.length S = .ok (mv (flowsL a b) (hts 0 (flowsL a b))) (S ++ [.lst ((hts 0 (flowsL a b)).map .int)]) := by
    rw [call_at (b := b17) [some (col a), some (col b), none, none, none] rfl rfl rfl]
    unfold b17
    dsimp only
    rw [q_scons, sexp_val (call2 (a := eVar 0) (b := false) (v := col a) (a2 := eVar 1) (b2 := false) (v2 := col b) rfl rfl (chkpairV n S F)), RS.then_nx]
    rw [q_scons, spar_val (args2_stD (call2 (a := eVar 0) (b := false) (v := col a) (a2 := eVar 1) (b2 := false) (v2 := col b) rfl rfl (flowsV n S F)) (new_val (a := eLst (aCons (eLit (.int 0)) aNil)) (v := .lst ([0].map .int)) rfl)) (env' := [some (col a), some (col b), some (.lst ((flowsL a b).map .int)), some (.ref S.length), none]) rfl, RS.then_nx]
    rw [q_scons, q_sfor, seq_it (v := .lst ((flowsL a b).map .int)) (k := false) (xs := (flowsL a b).map .int) rfl rfl, R.go_ok]
    simp only [q_unl0]
    obtain ⟨y4, el⟩ := loop17 S (callF TT (n + 2)) (some (col a)) (some (col b)) (some (.lst ((flowsL a b).map .int))) (flowsL a b) [] 0 none (by rw [List.length_nil]; omega)
    rw [show forR (gNm 4) _ ((flowsL a b).map .int) _ (S ++ [PV.lst ([0].map .int)]) = _ from el, RS.then_nx, List.nil_append]
    have em : eMake (callF TT (n + 2)) 3 1 13 (aCons (eVar 2) (aCons (eVar 3) aNil)) [some (col a), some (col b), some (.lst ((flowsL a b).map .int)), some (.ref S.length), y4] (S ++ [.lst ((hts 0 (flowsL a b)).map .int)]) = .ok (true, mv (flowsL a b) (hts 0 (flowsL a b))) (S ++ [.lst ((hts 0 (flowsL a b)).map .int)]) := (mvmake (n + 1) (S ++ [.lst ((hts 0 (flowsL a b)).map .int)]) (a1 := eVar 2) (a2 := eVar 3) (k1 := false) (k2 := false) (v := .lst ((flowsL a b).map .int)) (w := .ref S.length) (flowsL a b) (hts 0 (flowsL a b)) rfl rfl (fun x => tuple_lst _ _) (fun x => tuple_at (by simp)))
    rw [sret_val em]
    rfl
  refine callV_norm e (norm_flat S _ _ (fun i h => by cases h) ?_)
  have h2 := frzL_tups S.length (S ++ [PV.lst ((hts 0 (flowsL a b)).map .int)]).length (S ++ [.lst ((hts 0 (flowsL a b)).map .int)]) 5 [flowsL a b, hts 0 (flowsL a b)]
  show (frzL (frz S.length (S ++ [PV.lst ((hts 0 (flowsL a b)).map .int)]).length (S ++ [.lst ((hts 0 (flowsL a b)).map .int)]) 7) _).map (PV.ins 1 [4, 5]) = _
  rw [show (5 + 2) = 7 from rfl] at h2
  erw [h2]
  rfl
theorem chg_zip : ∀ a b : List Int, chg a b = ((a.zip b).map fun p => max0 (p.1 - p.2)).sum
  | [], _ => rfl
  | _ :: _, [] => rfl
  | x :: a, y :: b => by
    show max0 (x - y) + chg a b = _
    rw [chg_zip a b]
    rfl
theorem mins_zip : ∀ a b : List Int, mins a b = ((a.zip b).map fun p => if p.2 < p.1 then p.2 else p.1).sum
  | [], _ => rfl
  | _ :: _, [] => rfl
  | x :: a, y :: b => by
    show _ + mins a b = _
    rw [mins_zip a b]
    rfl
theorem gaps_zip : ∀ a b : List Int, gaps a b = (a.zip b).map fun p => absI (p.1 - p.2)
  | [], _ => rfl
  | _ :: _, [] => rfl
  | x :: a, y :: b => by
    show absI (x - y) :: gaps a b = _
    rw [gaps_zip a b]
    rfl
theorem fewestV {a b : List Int} (F : Fit a b) : callV (callF TT (n + 3)) 18 [col a, col b] S = .ok (false, .int (chg a b)) S := by
  have hm := F.most
  refine callV_same ?_ rfl
  rw [call_at (b := b18) [some (col a), some (col b), none, none] rfl rfl rfl]
  unfold b18
  dsimp only
  rw [q_scons, sexp_val (call2 (a := eVar 0) (b := false) (v := col a) (a2 := eVar 1) (b2 := false) (v2 := col b) rfl rfl (chkpairV n S F)), RS.then_nx]
  have e := lc_int (S := S) (i := iZip (eFld [0] 0 (eVar 0)) (eFld [0] 0 (eVar 1))) (t := gTp [(gNm 2), (gNm 3)]) (vs := [2, 3]) (c := tYesP) (e := eArg bMax2 (aCons (eLit (.int 0)) (aCons (eBin oSub (eVar 2) (eVar 3)) aNil))) (env := [some (col a), some (col b), none, none])
    (a.zip b) (fun p => PV.tup [.int p.1, .int p.2]) (fun p => max0 (p.1 - p.2)) (fun _ => true) (fun p => [some (col a), some (col b), some (.int p.1), some (.int p.2)])
    (zip_val _ _ _ S false false a b (fld0 S a 0 _ rfl) (fld0 S b 1 _ rfl)) (by rw [List.length_zip]; omega) (fun _ _ => rfl) (fun _ _ => rfl)
    (fun p _ _ => ⟨false, arg2_val (a := eLit (.int 0)) (k := false) (v := .int 0) rfl (bin_val (o := oSub) (a := eVar 2) (k := false) (v := .int p.1) (b := eVar 3) (k' := false) (w := .int p.2) rfl rfl rfl) rfl⟩)
  rw [filter_yes, ] at e
  rw [sret_val (arg1_val e (bSum_lst _ S)), ← chg_zip]
  rfl
theorem sortE {i : Nat} {cs : List Int} {env : Env} (hl : cs.length ≤ 12) (hd : ∀ c ∈ cs, dig c) (h : env[i]? = some (some (col cs))) : eMeth (callF TT (n + 1)) 1 7 [(0, 9)] (eVar i) aNil env S = .ok (true, .lst ((lineF cs 0).map .int)) S :=
  meth0 (b := false) (v := col cs) (by rw [q_var, h]) rfl (sortedV n S cs hl hd)
theorem line_le {cs : List Int} (hl : cs.length ≤ 12) (hd : ∀ c ∈ cs, dig c) : (lineF cs 0).length ≤ 108 := by
  have h := lineF_len cs 0 fun c hc => (hd c hc).1
  have : cs.sum ≤ 9 * cs.length := by
    clear h hl
    induction cs with
    | nil => simp
    | cons c cs ih =>
      have := ih fun x hx => hd x (List.mem_cons_of_mem _ hx)
      have := (hd c List.mem_cons_self).2
      rw [List.sum_cons, List.length_cons]
      omega
  omega
theorem farV {a b : List Int} (F : Fit a b) : callV (callF TT (n + 3)) 19 [col a, col b] S = .ok (false, .int (mx (0 :: gaps (lineF a 0) (lineF b 0)))) S := by
  have hm := F.most
  have hl := F.len
  refine callV_same ?_ rfl
  rw [call_at (b := b19) [some (col a), some (col b), none, none] rfl rfl rfl]
  unfold b19
  dsimp only
  rw [q_scons, sexp_val (call2 (a := eVar 0) (b := false) (v := col a) (a2 := eVar 1) (b2 := false) (v2 := col b) rfl rfl (chkpairV n S F)), RS.then_nx]
  have e := lc_int (S := S) (i := iZip (eMeth (callF TT (n + 2)) 1 7 [(0, 9)] (eVar 0) aNil) (eMeth (callF TT (n + 2)) 1 7 [(0, 9)] (eVar 1) aNil)) (t := gTp [(gNm 2), (gNm 3)]) (vs := [2, 3]) (c := tYesP) (e := eArg bAbs (aCons (eBin oSub (eVar 2) (eVar 3)) aNil)) (env := [some (col a), some (col b), none, none])
    ((lineF a 0).zip (lineF b 0)) (fun p => PV.tup [.int p.1, .int p.2]) (fun p => absI (p.1 - p.2)) (fun _ => true) (fun p => [some (col a), some (col b), some (.int p.1), some (.int p.2)])
    (by rw [zip_it _ _ _ S true true _ _ _ _ rfl rfl (sortE (n + 1) S hm F.da rfl) (sortE (n + 1) S (by omega) F.db rfl), zipL_gen (fun x => PV.int x) (fun x => PV.int x)]) (by rw [List.length_zip]; have := line_le hm F.da; omega) (fun _ _ => rfl) (fun _ _ => rfl)
    (fun p _ _ => ⟨false, arg1_val (bin_val (o := oSub) (a := eVar 2) (k := false) (v := .int p.1) (b := eVar 3) (k' := false) (w := .int p.2) rfl rfl rfl) rfl⟩)
  rw [filter_yes, ← gaps_zip] at e
  have hg : (gaps (lineF a 0) (lineF b 0)).length ≤ 108 := by
    rw [gaps_zip, List.length_map, List.length_zip]
    have := line_le hm F.da
    omega
  rw [sret_val (arg1_val (lst_valD (aconsD (a := eLit (.int 0)) (k := false) (v := .int 0) rfl (starF e rfl (ys := []) rfl)) (by simp; omega)) (by rw [List.append_nil]; exact mx_lst (0 :: gaps (lineF a 0) (lineF b 0)) (by simp) S))]
  rfl
end
end PX.K63
set_option linter.all false
set_option maxRecDepth 100000
set_option maxHeartbeats 1000000
namespace PX.K63
open PySem PX K22M
section
variable (n : Nat) (S : Store)
theorem xsub_val {f : PV → PV → PV → Store → Option Store} {o k : SE} {env : Env} {S S' : Store} {k2 k3 : Bool} {v w x : PV} (ho : o env S = .ok (k2, v) S) (hk : k env S = .ok (k3, w) S) (hf : f v w x S = some S') : xSub f o k x env S = .nx env S' := by
  unfold xSub
  rw [ho, R.go_ok, hk, R.go_ok]
  simp only [hf]
noncomputable abbrev B24 (cf : CF) (n0 : Nat) : SS := (sAsgX [(xSub (setG n0) (eVar 4) (eVar 5)), (xSub (setG n0) (eVar 4) (eBin oCat (eVar 5) (eLit (.int 1))))] (eTup (aCons (eBin oSub (eIx cf [(0, 4)] (eVar 4) (eVar 5)) (eVar 6)) (aCons (eBin oCat (eIx cf [(0, 4)] (eVar 4) (eBin oCat (eVar 5) (eLit (.int 1)))) (eVar 6)) aNil))))
abbrev en24 (a0 a1 a2 a3 : Option PV) (L : Nat) (x5 x6 : Option PV) : Env := [a0, a1, a2, a3, some (.ref L), x5, x6, none, none, none, none, none, none]
theorem set_ints (A : List Int) (x y : Int) (B : List Int) : ((A ++ x :: B).map PV.int).set A.length (.int y) = (A ++ y :: B).map PV.int := by
  rw [List.map_append, List.map_cons, List.map_append, List.map_cons]
  have := set_mid (A.map PV.int) (.int x) (.int y) (B.map PV.int)
  rw [List.length_map] at this
  exact this
theorem at_ints (A : List Int) (x : Int) (B : List Int) : ((A ++ x :: B).map PV.int)[A.length]? = some (.int x) := by
  rw [List.map_append, List.map_cons]
  have := at_mid (A.map PV.int) (.int x) (B.map PV.int)
  rw [List.length_map] at this
  exact this
theorem body24 (cf : CF) (a0 a1 a2 a3 : Option PV) (dn : List Int) (c r f : Int) (rs : List Int) : B24 cf S.length (en24 a0 a1 a2 a3 S.length (some (.int (dn.length : Nat))) (some (.int f))) (S ++ [.lst ((dn ++ c :: r :: rs).map .int)]) = .nx (en24 a0 a1 a2 a3 S.length (some (.int (dn.length : Nat))) (some (.int f))) (S ++ [.lst ((dn ++ (c - f) :: (r + f) :: rs).map .int)]) := by
  have l1 : (dn ++ [c]).length = dn.length + 1 := by rw [List.length_append]; rfl
  have i1 : eIx cf [(0, 4)] (eVar 4) (eVar 5) (en24 a0 a1 a2 a3 S.length (some (.int (dn.length : Nat))) (some (.int f))) (S ++ [.lst ((dn ++ c :: r :: rs).map .int)]) = .ok (false, .int c) (S ++ [.lst ((dn ++ c :: r :: rs).map .int)]) :=
    ix_at (k := false) (k' := false) (j := dn.length) rfl rfl (at_last S _) (at_ints dn c (r :: rs))
  have e1 : eBin oCat (eVar 5) (eLit (.int 1)) (en24 a0 a1 a2 a3 S.length (some (.int (dn.length : Nat))) (some (.int f))) (S ++ [.lst ((dn ++ c :: r :: rs).map .int)]) = .ok (false, .int ((dn.length + 1 : Nat) : Nat)) (S ++ [.lst ((dn ++ c :: r :: rs).map .int)]) := rfl
  have e2 : eBin oCat (eVar 5) (eLit (.int 1)) (en24 a0 a1 a2 a3 S.length (some (.int (dn.length : Nat))) (some (.int f))) (S ++ [.lst ((dn ++ (c - f) :: r :: rs).map .int)]) = .ok (false, .int ((dn.length + 1 : Nat) : Nat)) (S ++ [.lst ((dn ++ (c - f) :: r :: rs).map .int)]) := rfl
  have i2 : eIx cf [(0, 4)] (eVar 4) (eBin oCat (eVar 5) (eLit (.int 1))) (en24 a0 a1 a2 a3 S.length (some (.int (dn.length : Nat))) (some (.int f))) (S ++ [.lst ((dn ++ c :: r :: rs).map .int)]) = .ok (false, .int r) (S ++ [.lst ((dn ++ c :: r :: rs).map .int)]) :=
    ix_at (k := false) (j := dn.length + 1) rfl e1 (at_last S _) (by
      have := at_ints (dn ++ [c]) r rs
      rw [l1, List.append_assoc] at this
      exact this)
  have s1 : setG S.length (.ref S.length) (.int (dn.length : Nat)) (.int (c - f)) (S ++ [.lst ((dn ++ c :: r :: rs).map .int)]) = some (S ++ [.lst ((dn ++ (c - f) :: r :: rs).map .int)]) := by
    rw [set_at _ (at_last S _) (Nat.le_refl _) (by simp), set_last, set_ints]
  have s2 : setG S.length (.ref S.length) (.int ((dn.length + 1 : Nat) : Nat)) (.int (r + f)) (S ++ [.lst ((dn ++ (c - f) :: r :: rs).map .int)]) = some (S ++ [.lst ((dn ++ (c - f) :: (r + f) :: rs).map .int)]) := by
    rw [set_at _ (at_last S _) (Nat.le_refl _) (by simp), set_last]
    have := set_ints (dn ++ [c - f]) r (r + f) rs
    rw [show (dn ++ [c - f]).length = dn.length + 1 by rw [List.length_append]; rfl, List.append_assoc, List.append_assoc] at this
    rw [show dn ++ (c - f) :: r :: rs = dn ++ ([c - f] ++ r :: rs) from rfl, this]
    rfl
  have ht := tup2_val (bin_val (o := oSub) i1 (b := eVar 6) (k' := false) (w := .int f) rfl rfl) (bin_val (o := oCat) i2 (b := eVar 6) (k' := false) (w := .int f) rfl rfl)
  show sAsgX _ _ _ _ = _
  unfold sAsgX
  rw [ht, R.go_ok]
  show (xSub (setG S.length) (eVar 4) (eVar 5) (.int (c - f)) (en24 a0 a1 a2 a3 S.length (some (.int (dn.length : Nat))) (some (.int f))) (S ++ [.lst ((dn ++ c :: r :: rs).map .int)])).then _ = _
  rw [xsub_val (o := eVar 4) (k2 := false) (k := eVar 5) (k3 := false) rfl rfl s1, RS.then_nx]
  show (xSub (setG S.length) (eVar 4) (eBin oCat (eVar 5) (eLit (.int 1))) (.int (r + f)) (en24 a0 a1 a2 a3 S.length (some (.int (dn.length : Nat))) (some (.int f))) (S ++ [.lst ((dn ++ (c - f) :: r :: rs).map .int)])).then _ = _
  rw [xsub_val (o := eVar 4) (k2 := false) rfl e2 s2, RS.then_nx]
  rfl
theorem loop24 (cf : CF) (a0 a1 a2 a3 : Option PV) : ∀ (fs : List Int) (dn : List Int) (c : Int) (rs : List Int) (x5 x6 : Option PV), fs.length ≤ rs.length →
    ∃ y5 y6, forR (gTp [(gNm 5), (gNm 6)]) (B24 cf S.length) ((fs.zipIdx dn.length).map fun p => PV.tup [.int (p.2 : Nat), .int p.1]) (en24 a0 a1 a2 a3 S.length x5 x6) (S ++ [.lst ((dn ++ c :: rs).map .int)]) =
      .nx (en24 a0 a1 a2 a3 S.length y5 y6) (S ++ [.lst ((dn ++ swp c rs fs).map .int)])
  | [], dn, c, rs, x5, x6, _ => ⟨x5, x6, by cases rs <;> rfl⟩
  | f :: fs, dn, c, [], x5, x6, h => by simp at h
  | f :: fs, dn, c, r :: rs, x5, x6, h => by
    obtain ⟨y5, y6, ih⟩ := loop24 cf a0 a1 a2 a3 fs (dn ++ [c - f]) (r + f) rs (some (.int (dn.length : Nat))) (some (.int f)) (by simpa using h)
    refine ⟨y5, y6, ?_⟩
    rw [show (dn ++ [c - f]).length = dn.length + 1 by rw [List.length_append]; rfl, List.append_assoc, List.append_assoc] at ih
    rw [List.zipIdx_cons, List.map_cons, for_nx (env1 := en24 a0 a1 a2 a3 S.length (some (.int (dn.length : Nat))) (some (.int f))) rfl (body24 S cf a0 a1 a2 a3 dn c r f rs)]
    exact ih
end
end PX.K63
set_option linter.all false
set_option maxRecDepth 100000
set_option maxHeartbeats 1000000
namespace PX.K63
open PySem PX K22M
section
variable (n : Nat) (S : Store)
abbrev lI (a : List Int) : PV := .lst (a.map .int)
theorem lshowV {a b : List Int} (F : Fit a b) (f h : List Int) (lf : f.length ≤ 500) (lh : h.length ≤ 500) : callV (callF TT (n + 1)) 24 [lI a, lI b, tI f, tI h] S = .ok (false, .bl (showM a b f h)) S := by
  have hm := F.most
  have h1 := F.one
  have hab := F.len
  obtain ⟨T, e⟩ : ∃ T, callF TT (n + 1) 24 [lI a, lI b, tI f, tI h] S.length S = .ok (.bl (showM a b f h)) (S ++ T) := by
    rw [call_at (b := b24) [some (lI a), some (lI b), some (tI f), some (tI h), none, none, none, none, none, none, none, none, none] rfl rfl rfl]
    unfold b24
    dsimp only
    have t1 : tBl (eNe (callF TT n) [(0, 2), (1, 14)] [.non, .bl, .int, .str, .tup, .lst, .dct, .own 0, .own 1] (eLen (callF TT n) [(0, 3)] (eVar 2)) (eBin oSub (eLen (callF TT n) [(0, 3)] (eVar 0)) (eLit (.int 1)))) [some (lI a), some (lI b), some (tI f), some (tI h), none, none, none, none, none, none, none, none, none] S = .ok (!decide (f.length = a.length - 1)) S := by
      refine tbl_val (k := false) ?_
      rw [ne_flat (lenN (a := eVar 2) (k := false) (c := f) rfl) (bin_val (o := oSub) (lenL (a := eVar 0) (k := false) (c := a) rfl) (b := eLit (.int 1)) (k' := false) (w := .int 1) rfl rfl) rfl (oNe_int' _ _ S)]
      refine okc ?_ S
      rw [decide_eq_decide.mpr (show (f.length : Int) = (a.length : Int) - 1 ↔ f.length = a.length - 1 by omega)]
    have t2 : tBl (eNe (callF TT n) [(0, 2), (1, 14)] [.non, .bl, .int, .str, .tup, .lst, .dct, .own 0, .own 1] (eLen (callF TT n) [(0, 3)] (eVar 3)) (eLen (callF TT n) [(0, 3)] (eVar 0))) [some (lI a), some (lI b), some (tI f), some (tI h), none, none, none, none, none, none, none, none, none] S = .ok (!decide (h.length = a.length)) S := by
      refine tbl_val (k := false) ?_
      rw [ne_flat (lenN (a := eVar 3) (k := false) (c := h) rfl) (lenL (a := eVar 0) (k := false) (c := a) rfl) rfl (oNe_int' _ _ S)]
      refine okc ?_ S
      rw [decide_eq_decide.mpr (show (h.length : Int) = (a.length : Int) ↔ h.length = a.length by omega)]
    have hB : showM a b f h = (decide (f.length = a.length - 1) && decide (h.length = a.length) && (decide (swp (a.headD 0) (a.drop 1) f = b) && !steep h) && decide (gain h b a = (f.map absI).sum)) := rfl
    rw [q_scons, sif_val (t := !(decide (f.length = a.length - 1) && decide (h.length = a.length))) (by
      rw [tor_val t1]
      cases decide (f.length = a.length - 1) with
      | false => rfl
      | true => rw [Bool.not_true, if_neg (by simp), t2, Bool.true_and]), hB]
    by_cases hlen : (decide (f.length = a.length - 1) && decide (h.length = a.length)) = true
    · rw [hlen, Bool.not_true, if_neg (by simp), q_snil, RS.then_nx]
      rw [Bool.and_eq_true, decide_eq_true_eq, decide_eq_true_eq] at hlen
      obtain ⟨c, cs, rfl⟩ : ∃ c cs, a = c :: cs := by
        cases a with
        | nil => simp at h1
        | cons c cs => exact ⟨c, cs, rfl⟩
      rw [q_scons, sasg_st (i := 4) (k := false) (v := .ref S.length) (S' := S ++ [lI (c :: cs)]) (new_val (arg1_val (a := eVar 0) (k := false) (v := lI (c :: cs)) rfl rfl)), RS.then_nx]
      rw [show ([some (lI (c :: cs)), some (lI b), some (tI f), some (tI h), none, none, none, none, none, none, none, none, none] : Env).set 4 (some (.ref S.length)) = en24 (some (lI (c :: cs))) (some (lI b)) (some (tI f)) (some (tI h)) S.length none none from rfl]
      rw [q_scons, q_sfor, enu_gen f (fun x => .int x) (v := tI f) (k := false) rfl rfl, R.go_ok]
      simp only [q_unl0]
      obtain ⟨y5, y6, el⟩ := loop24 S (callF TT n) (some (lI (c :: cs))) (some (lI b)) (some (tI f)) (some (tI h)) f [] c cs none none (by have := hlen.1; simp at this; omega)
      rw [show forR (gTp [(gNm 5), (gNm 6)]) _ (f.zipIdx.map fun p => PV.tup [.int (p.2 : Nat), .int p.1]) _ (S ++ [lI (c :: cs)]) = _ from el, RS.then_nx, List.nil_append]
      refine ⟨[lI (swp c cs f)], ?_⟩
      rw [show ((c :: cs).headD 0) = c from rfl, show (c :: cs).drop 1 = cs from rfl]
      generalize hS1 : S ++ [PV.lst ((swp c cs f).map .int)] = S1
      have t3 : tBl (eNe (callF TT n) [(0, 2), (1, 14)] [.non, .bl, .int, .str, .tup, .lst, .dct, .own 0, .own 1] (eVar 4) (eArg bList (aCons (eVar 1) aNil))) (en24 (some (lI (c :: cs))) (some (lI b)) (some (tI f)) (some (tI h)) S.length y5 y6) S1 = .ok (!decide (swp c cs f = b)) S1 :=
        tbl_val (k := false) (ne_flat (a := eVar 4) (k := false) (v := .ref S.length) rfl (arg1_val (a := eVar 1) (k := false) (v := lI b) rfl rfl) (by rw [← hS1]; exact ownL_at _ (at_last S _)) (by rw [← hS1]; exact ne_ref S (swp c cs f) b))
      have t4 := ttru_bl (steepE S1 (env := en24 (some (lI (c :: cs))) (some (lI b)) (some (tI f)) (some (tI h)) S.length y5 y6) (a := eVar 3) (k := false) (h := h) 11 12 (by omega) rfl (fun p => [some (lI (c :: cs)), some (lI b), some (tI f), some (tI h), some (.ref S.length), y5, y6, none, none, none, none, some (.int p.1), some (.int p.2)]) (fun _ => rfl) (fun _ => rfl) (fun _ => rfl))
      rw [q_scons, sif_val (t := !(decide (swp c cs f = b) && !steep h)) (by
        rw [tor_val t3]
        cases decide (swp c cs f = b) with
        | false => rfl
        | true => rw [Bool.not_true, if_neg (by simp), t4, Bool.true_and, Bool.not_not])]
      cases hc : (decide (swp c cs f = b) && !steep h) with
      | false =>
        rw [Bool.not_false, if_pos rfl, ← hS1]
        rfl
      | true =>
        rw [Bool.not_true, if_neg (by simp), q_snil, RS.then_nx]
        have e5 := lc_int (S := S1) (i := iZip3 (eVar 3) (eVar 1) (eVar 0)) (t := gTp [(gNm 8), (gNm 9), (gNm 10)]) (vs := [8, 9, 10]) (c := tYesP) (e := eBin oRep (eVar 8) (eBin oSub (eVar 9) (eVar 10))) (env := en24 (some (lI (c :: cs))) (some (lI b)) (some (tI f)) (some (tI h)) S.length y5 y6)
          (zip3T h b (c :: cs)) (fun p => PV.tup [.int p.1, .int p.2.1, .int p.2.2]) (fun p => p.1 * (p.2.1 - p.2.2)) (fun _ => true) (fun p => [some (lI (c :: cs)), some (lI b), some (tI f), some (tI h), some (.ref S.length), y5, y6, none, some (.int p.1), some (.int p.2.1), some (.int p.2.2), none, none])
          (zip3_it (u := tI h) (v := lI b) (w := lI (c :: cs)) (k1 := false) (k2 := false) (k3 := false) rfl rfl rfl rfl rfl rfl) (zip3T_len h _ _ (by omega)) (fun _ _ => rfl) (fun _ _ => rfl)
          (fun p hp _ => ⟨false, by
            obtain ⟨x, y, z⟩ := p
            have hz := List.of_mem_zip hp
            have hz2 := List.of_mem_zip hz.2
            have a1 : 0 ≤ y ∧ y ≤ 9 := F.db _ hz2.1
            have b1 : 0 ≤ z ∧ z ≤ 9 := F.da _ hz2.2
            exact bin_val (a := eVar 8) (k := false) (v := .int x) rfl (bin_val (o := oSub) (a := eVar 9) (k := false) (v := .int y) (b := eVar 10) (k' := false) (w := .int z) rfl rfl rfl) (rep_r x (y - z) S1 (by omega) (by omega))⟩)
        rw [filter_yes] at e5
        rw [q_scons, sasg_val (arg1_val e5 (bSum_lst _ S1)), RS.then_nx, ← gain_T]
        rw [show (en24 (some (lI (c :: cs))) (some (lI b)) (some (tI f)) (some (tI h)) S.length y5 y6).set 7 (some (.int (gain h b (c :: cs)))) = [some (lI (c :: cs)), some (lI b), some (tI f), some (tI h), some (.ref S.length), y5, y6, some (.int (gain h b (c :: cs))), none, none, none, none, none] from rfl]
        have e6 := lc_int (S := S1) (i := iSeq (eVar 2)) (t := gNm 6) (vs := [6]) (c := tYesP) (e := eArg bAbs (aCons (eVar 6) aNil)) (env := [some (lI (c :: cs)), some (lI b), some (tI f), some (tI h), some (.ref S.length), y5, y6, some (.int (gain h b (c :: cs))), none, none, none, none, none])
          f (fun x => .int x) absI (fun _ => true) (fun x => [some (lI (c :: cs)), some (lI b), some (tI f), some (tI h), some (.ref S.length), y5, some (.int x), some (.int (gain h b (c :: cs))), none, none, none, none, none])
          (seq_it (v := tI f) (k := false) rfl rfl) (by omega) (fun _ _ => rfl) (fun _ _ => rfl) (fun x _ _ => ⟨false, rfl⟩)
        rw [filter_yes] at e6
        rw [sret_val (eq_flat (a := eVar 7) (k := false) (v := .int (gain h b (c :: cs))) rfl (arg1_val e6 (bSum_lst _ S1)) rfl (oEq_int' _ _ S1)), ← hS1]
        simp only [Bool.and_true, Bool.true_and]
        rfl
    · rw [Bool.not_eq_true] at hlen
      rw [hlen]
      exact ⟨[], by rw [List.append_nil]; rfl⟩
  exact callV_norm e (norm_bl S T _)
end
end PX.K63
set_option linter.all false
set_option maxRecDepth 100000
set_option maxHeartbeats 1000000
namespace PX.K63
open PySem PX K22M
theorem sumP : ∀ l : List Int, (∀ c ∈ l, 0 ≤ c) → 0 ≤ l.sum
  | [], _ => Int.le_refl _
  | c :: l, h => by
    have := sumP l fun x hx => h x (List.mem_cons_of_mem _ hx)
    have := h c List.mem_cons_self
    rw [List.sum_cons]
    omega
theorem split_at {α : Type} : ∀ (l : List α) (j : Nat), j < l.length → ∃ A x B, l = A ++ x :: B ∧ A.length = j
  | [], _, h => by simp at h
  | x :: l, 0, _ => ⟨[], x, l, rfl, rfl⟩
  | x :: l, j + 1, h => by
    obtain ⟨A, y, B, e, e2⟩ := split_at l j (by simpa using h)
    exact ⟨x :: A, y, B, by rw [e]; rfl, by rw [List.length_cons, e2]⟩
theorem sum_at (A : List Int) (x : Int) (B : List Int) : (A ++ x :: B).sum = A.sum + x + B.sum := by
  rw [List.sum_append, List.sum_cons]
  omega
section
variable (n : Nat)
noncomputable abbrev I22 (cf : CF) (n0 : Nat) : SS := (sCons (sAsg (gNm 8) (eCall cf 2 21 (aCons (eVar 0) (aCons (eVar 3) aNil)))) (sCons (sWhl 100 (tBl (eEq cf [(0, 2), (1, 14)] [.non, .bl, .int, .str, .tup, .lst, .dct, .own 0, .own 1] (eIx cf [(0, 4)] (eVar 6) (eVar 8)) (eLit (.int 9)))) (sAsg (gNm 8) (eBin oMod (eBin oCat (eVar 8) (eLit (.int 1))) (eVar 3)))) (sSetI (setG n0) (eVar 6) (eVar 8) (eBin oCat (eIx cf [(0, 4)] (eVar 6) (eVar 8)) (eLit (.int 1))))))
noncomputable abbrev O22 (cf : CF) (n0 : Nat) : SS := (sCons (sAsg (gNm 6) (eNew (eBin oRep (eLst (aCons (eLit (.int 0)) aNil)) (eVar 3)))) (sCons (sFor (iRg1 (eVar 2)) (gNm 7) (I22 cf n0)) (sExp (eLm (appL n0) (eVar 4) (eVar 6)))))
abbrev en22 (most r w : Int) (F : Nat) (x5 x6 x7 x8 : Option PV) : Env := [some (.ref 0), some (.int most), some (.int r), some (.int w), some (.ref F), x5, x6, x7, x8]
def I9 (ns : List Int) (R1 : Store) (most r : Int) (w : Nat) (F : Nat) (x5 : Option PV) (j : Nat) (env : Env) (S : Store) : Prop :=
  ∃ (k : Nat) (cs : List Int) (x7 x8 : Option PV), env = en22 most r w F x5 (some (.ref (R1.length + 1))) x7 x8 ∧ S = DD ns k :: (R1 ++ [.lst (cs.map .int)]) ∧ cs.length = w ∧ (∀ c ∈ cs, 0 ≤ c) ∧ cs.sum = j
theorem turnI (ns : List Int) (hn : ns.length ≤ 63) (R1 : Store) (most r : Int) (w : Nat) (hw : 1 ≤ w) (F n0 : Nat) (h0 : n0 ≤ R1.length + 1) (x5 : Option PV) (j : Nat) (env : Env) (S : Store) (hj : j < 9) (hI : I9 ns R1 most r w F x5 j env S) :
    ∃ env1, gNm 7 (.int (j : Nat)) env S = some env1 ∧ ∃ env2 S2, I22 (callF TT (n + 2)) n0 env1 S = .nx env2 S2 ∧ I9 ns R1 most r w F x5 (j + 1) env2 S2 := by
  obtain ⟨k, cs, x7, x8, rfl, rfl, hl, hp, hs⟩ := hI
  refine ⟨en22 most r w F x5 (some (.ref (R1.length + 1))) (some (.int (j : Nat))) x8, rfl, ?_⟩
  obtain ⟨v, S', v0, v1, ⟨k', rfl⟩, ev⟩ := take0 n (R1 ++ [.lst (cs.map .int)]) ns hn (w : Nat) (by omega) (S := DD ns k :: (R1 ++ [.lst (cs.map .int)])) ⟨k, rfl⟩ (a := eVar 0) (b := eVar 3) (k := false) (k' := false) (env := en22 most r w F x5 (some (.ref (R1.length + 1))) (some (.int (j : Nat))) x8) (fun _ => rfl) (fun _ => rfl)
  obtain ⟨m, rfl⟩ : ∃ m : Nat, v = m := ⟨v.toNat, by omega⟩
  obtain ⟨A, x, B, rfl, hA⟩ := split_at cs m (by omega)
  have pA := sumP A fun c hc => hp c (List.mem_append_left _ hc)
  have pB := sumP B fun c hc => hp c (List.mem_append_right _ (List.mem_cons_of_mem _ hc))
  have px := hp x (List.mem_append_right _ List.mem_cons_self)
  rw [sum_at] at hs
  have hat : (DD ns k' :: (R1 ++ [.lst ((A ++ x :: B).map .int)]))[R1.length + 1]? = some (.lst ((A ++ x :: B).map .int)) := at_last (DD ns k' :: R1) _
  have hix : eIx (callF TT (n + 2)) [(0, 4)] (eVar 6) (eVar 8) (en22 most r w F x5 (some (.ref (R1.length + 1))) (some (.int (j : Nat))) (some (.int (m : Nat)))) (DD ns k' :: (R1 ++ [.lst ((A ++ x :: B).map .int)])) = .ok (false, .int x) (DD ns k' :: (R1 ++ [.lst ((A ++ x :: B).map .int)])) :=
    ix_at (a := eVar 6) (k := false) (b := eVar 8) (k' := false) (j := m) rfl rfl hat (by rw [← hA]; exact at_ints A x B)
  have hset : setG n0 (.ref (R1.length + 1)) (.int (m : Nat)) (.int (x + 1)) (DD ns k' :: (R1 ++ [.lst ((A ++ x :: B).map .int)])) = some (DD ns k' :: (R1 ++ [.lst ((A ++ (x + 1) :: B).map .int)])) := by
    rw [set_at _ hat h0 (by rw [List.length_map]; omega), ← hA, set_ints]
    exact congrArg some (set_last (DD ns k' :: R1) _ _)
  refine ⟨en22 most r w F x5 (some (.ref (R1.length + 1))) (some (.int (j : Nat))) (some (.int (m : Nat))), DD ns k' :: (R1 ++ [.lst ((A ++ (x + 1) :: B).map .int)]), ?_, ⟨k', A ++ (x + 1) :: B, _, _, rfl, rfl, by rw [← hl]; simp, ?_, by rw [sum_at]; omega⟩⟩
  · rw [I22, q_scons, sasg_st ev, RS.then_nx]
    rw [show (en22 most r w F x5 (some (.ref (R1.length + 1))) (some (.int (j : Nat))) x8).set 8 (some (.int (m : Nat))) = en22 most r w F x5 (some (.ref (R1.length + 1))) (some (.int (j : Nat))) (some (.int (m : Nat))) from rfl]
    have ht : tBl (eEq (callF TT (n + 2)) [(0, 2), (1, 14)] [.non, .bl, .int, .str, .tup, .lst, .dct, .own 0, .own 1] (eIx (callF TT (n + 2)) [(0, 4)] (eVar 6) (eVar 8)) (eLit (.int 9))) (en22 most r w F x5 (some (.ref (R1.length + 1))) (some (.int (j : Nat))) (some (.int (m : Nat)))) (DD ns k' :: (R1 ++ [.lst ((A ++ x :: B).map .int)])) = .ok false (DD ns k' :: (R1 ++ [.lst ((A ++ x :: B).map .int)])) :=
      tbl_val (k := false) (eq_flat (z := (false, .bl false)) hix (b := eLit (.int 9)) (k' := false) (w := .int 9) rfl rfl (by rw [oEq_int', decide_eq_false (by omega)]))
    rw [q_scons, show sWhl 100 (tBl (eEq (callF TT (n + 2)) [(0, 2), (1, 14)] [.non, .bl, .int, .str, .tup, .lst, .dct, .own 0, .own 1] (eIx (callF TT (n + 2)) [(0, 4)] (eVar 6) (eVar 8)) (eLit (.int 9)))) (sAsg (gNm 8) (eBin oMod (eBin oCat (eVar 8) (eLit (.int 1))) (eVar 3))) (en22 most r w F x5 (some (.ref (R1.length + 1))) (some (.int (j : Nat))) (some (.int (m : Nat)))) (DD ns k' :: (R1 ++ [.lst ((A ++ x :: B).map .int)])) = .nx (en22 most r w F x5 (some (.ref (R1.length + 1))) (some (.int (j : Nat))) (some (.int (m : Nat)))) (DD ns k' :: (R1 ++ [.lst ((A ++ x :: B).map .int)])) by
      show whileR _ _ (99 + 1) _ _ = _
      rw [q_whl, ht, R.go_ok, if_neg (by simp)], RS.then_nx]
    exact ssub_val (bin_val hix (b := eLit (.int 1)) (k' := false) (w := .int 1) rfl rfl) (o := eVar 6) (k2 := false) rfl (k := eVar 8) (k3 := false) rfl hset
  · intro c hc
    rcases List.mem_append.mp hc with h | h
    · exact hp c (List.mem_append_left _ h)
    · rcases List.mem_cons.mp h with h | h
      · omega
      · exact hp c (List.mem_append_right _ (List.mem_cons_of_mem _ h))
theorem repW (x c : Int) (h0 : 0 ≤ c) (h1 : c ≤ 1000) (S : Store) : oRep (.lst [.int x]) (.int c) S = some (true, .lst ((List.replicate c.toNat x).map .int)) := by
  show (if decide (-1000 ≤ c ∧ c ≤ 1000) && Nat.ble [PV.int x].length 1000 then some (true, PV.lst (List.replicate c.toNat [PV.int x]).flatten) else none) = _
  rw [decide_eq_true (by omega), rep_flat]
  rw [List.map_replicate]
  rfl
theorem sum_rep0 : ∀ n : Nat, (List.replicate n (0 : Int)).sum = 0
  | 0 => rfl
  | n + 1 => by rw [List.replicate_succ, List.sum_cons, sum_rep0 n]; rfl
theorem turnO (ns : List Int) (hn : ns.length ≤ 63) (R0 : Store) (fs : List PV) (M : Store) (most : Int) (r w : Nat) (hr : r ≤ 8) (hw : 1 ≤ w) (hw2 : w ≤ 12) (hf : fs.length ≤ 10) (k : Nat) (x5 x6 x7 x8 : Option PV) :
    ∃ (k' : Nat) (cs : List Int) (y7 y8 : Option PV), O22 (callF TT (n + 2)) (R0.length + 1) (en22 most r w (R0.length + 1) x5 x6 x7 x8) (DD ns k :: (R0 ++ .lst fs :: M)) = .nx (en22 most r w (R0.length + 1) x5 (some (.ref ((R0 ++ .lst fs :: M).length + 1))) y7 y8) (DD ns k' :: (R0 ++ .lst (fs ++ [.ref ((R0 ++ .lst fs :: M).length + 1)]) :: (M ++ [.lst (cs.map .int)]))) ∧ cs.length = w ∧ (∀ c ∈ cs, 0 ≤ c) ∧ cs.sum = r := by
  have hle : R0.length + 1 ≤ (R0 ++ PV.lst fs :: M).length + 1 := by rw [List.length_append]; omega
  obtain ⟨env', S', e1, ⟨k', cs, y7, y8, rfl, rfl, hl, hp, hs⟩⟩ := for_rng (t := gNm 7) (b := I22 (callF TT (n + 2)) (R0.length + 1)) r (I9 ns (R0 ++ .lst fs :: M) most r w (R0.length + 1) x5)
    (fun j env S hj hI => turnI n ns hn (R0 ++ .lst fs :: M) most r w hw (R0.length + 1) (R0.length + 1) hle x5 j env S (by omega) hI) r 0
    (en22 most r w (R0.length + 1) x5 (some (.ref ((R0 ++ .lst fs :: M).length + 1))) x7 x8) (DD ns k :: ((R0 ++ .lst fs :: M) ++ [.lst ((List.replicate w 0).map .int)]))
    ⟨k, List.replicate w 0, x7, x8, rfl, rfl, List.length_replicate, fun c hc => by rw [(List.mem_replicate.mp hc).2]; exact Int.le_refl _, sum_rep0 w⟩ (by omega)
  refine ⟨k', cs, y7, y8, ?_, hl, hp, hs⟩
  rw [O22, q_scons, sasg_st (new_val (bin_val (a := eLst (aCons (eLit (.int 0)) aNil)) (k := true) (v := .lst [.int 0]) (b := eVar 3) (k' := false) (w := .int w) rfl rfl (repW 0 w (by omega) (by omega) _))), RS.then_nx, Int.toNat_natCast]
  rw [show (en22 most r w (R0.length + 1) x5 x6 x7 x8).set 6 (some (.ref (DD ns k :: (R0 ++ .lst fs :: M)).length)) = en22 most r w (R0.length + 1) x5 (some (.ref ((R0 ++ .lst fs :: M).length + 1))) x7 x8 from rfl]
  rw [q_scons, q_sfor, rg1_n (a := eVar 2) (k := false) (j := (r : Nat)) rfl (by omega) (by omega), R.go_ok]
  simp only [q_unl0]
  rw [show forR (gNm 7) (I22 (callF TT (n + 2)) (R0.length + 1)) (rngL 0 ((r : Nat) : Int).toNat) (en22 most r w (R0.length + 1) x5 (some (.ref ((R0 ++ .lst fs :: M).length + 1))) x7 x8) ((DD ns k :: (R0 ++ .lst fs :: M)) ++ [.lst ((List.replicate w 0).map .int)]) = _ from e1, RS.then_nx]
  have hat : (DD ns k' :: ((R0 ++ .lst fs :: M) ++ [.lst (cs.map .int)]))[R0.length + 1]? = some (.lst fs) := by
    rw [show DD ns k' :: ((R0 ++ .lst fs :: M) ++ [.lst (cs.map .int)]) = (DD ns k' :: R0) ++ .lst fs :: (M ++ [.lst (cs.map .int)]) by simp]
    exact at_mid (DD ns k' :: R0) _ _
  rw [sexp_app (o := eVar 4) (k := false) (i := R0.length + 1) (xs := fs) (e := eVar 6) (k' := false) (v := .ref ((R0 ++ .lst fs :: M).length + 1)) rfl hat rfl (Nat.le_refl _) (by omega)]
  rw [show DD ns k' :: ((R0 ++ .lst fs :: M) ++ [.lst (cs.map .int)]) = (DD ns k' :: R0) ++ .lst fs :: (M ++ [.lst (cs.map .int)]) by simp]
  have hz := set_mid (DD ns k' :: R0) (.lst fs) (.lst (fs ++ [.ref ((R0 ++ PV.lst fs :: M).length + 1)])) (M ++ [.lst (cs.map .int)])
  rw [show (DD ns k' :: R0).length = R0.length + 1 from rfl] at hz
  rw [hz]
  rfl
theorem norm_pair (S : Store) (a b : List Int) : norm S.length (.ref S.length) (S ++ [.lst [.ref (S.length + 1), .ref (S.length + 2)], .lst (a.map .int), .lst (b.map .int)]) = .ok (true, .lst [.lst (a.map .int), .lst (b.map .int)]) S := by
  generalize hT : S ++ [PV.lst [.ref (S.length + 1), .ref (S.length + 2)], .lst (a.map .int), .lst (b.map .int)] = T
  have g0 : T[S.length]? = some (.lst [.ref (S.length + 1), .ref (S.length + 2)]) := by rw [← hT]; simp
  have g1 : T[S.length + 1]? = some (.lst (a.map .int)) := by rw [← hT]; simp
  have g2 : T[S.length + 2]? = some (.lst (b.map .int)) := by rw [← hT]; simp
  have gl : ¬ T.length = S.length := by rw [← hT]; simp
  have gt : T.take S.length = S := by rw [← hT]; simp
  have f1 : frz S.length S.length T 8 (.ref (S.length + 1)) = some (.lst (a.map .int)) := by
    show (if S.length + 1 < S.length then some (PV.ref (S.length + 1)) else if S.length + 1 = S.length then none else match T[S.length + 1]? with
      | some o => frzO (frz S.length S.length T 7) o
      | none => none) = _
    rw [if_neg (by omega), if_neg (by omega)]
    simp only [g1]
    show (frzL (frz S.length S.length T 7) (a.map .int)).map PV.lst = _
    rw [frzL_ints]
    rfl
  have f2 : frz S.length S.length T 8 (.ref (S.length + 2)) = some (.lst (b.map .int)) := by
    show (if S.length + 2 < S.length then some (PV.ref (S.length + 2)) else if S.length + 2 = S.length then none else match T[S.length + 2]? with
      | some o => frzO (frz S.length S.length T 7) o
      | none => none) = _
    rw [if_neg (by omega), if_neg (by omega)]
    simp only [g2]
    show (frzL (frz S.length S.length T 7) (b.map .int)).map PV.lst = _
    rw [frzL_ints]
    rfl
  unfold norm
  rw [if_neg gl]
  simp only [Nat.lt_irrefl, if_false, g0]
  show (match (frzL (frz S.length S.length T 8) [.ref (S.length + 1), .ref (S.length + 2)]).map PV.lst with
    | some w => R.ok (true, w) (T.take S.length)
    | none => .no) = _
  rw [frzL_c f1 (frzL_c f2 rfl), gt]
  rfl
theorem pairV (ns : List Int) (hn : ns.length ≤ 63) (R0 : Store) (k : Nat) (most : Int) (hm1 : 1 ≤ most) (hm2 : most ≤ 12) (r : Nat) (hr : r ≤ 8) :
    ∃ (k' : Nat) (a b : List Int), callV (callF TT (n + 3)) 22 [.ref 0, .int most, .int (r : Nat)] (DD ns k :: R0) = .ok (true, .lst [.lst (a.map .int), .lst (b.map .int)]) (DD ns k' :: R0) ∧ a.length = b.length ∧ 1 ≤ a.length ∧ (a.length : Int) ≤ most ∧ a.sum = r ∧ b.sum = r ∧ (∀ c ∈ a, 0 ≤ c) ∧ (∀ c ∈ b, 0 ≤ c) := by
  obtain ⟨v, S', v0, v1, ⟨k1, rfl⟩, ev⟩ := take0 n R0 ns hn most (by omega) (S := DD ns k :: R0) ⟨k, rfl⟩ (a := eVar 0) (b := eVar 1) (k := false) (k' := false) (env := [some (.ref 0), some (.int most), some (.int (r : Nat)), none, none, none, none, none, none]) (fun _ => rfl) (fun _ => rfl)
  obtain ⟨w, hw⟩ : ∃ w : Nat, 1 + v = w := ⟨(1 + v).toNat, by omega⟩
  obtain ⟨k2, a, a7, a8, e1, la, pa, sa⟩ := turnO n ns hn R0 [] [] most r w hr (by omega) (by omega) (by simp) k1 (some (.int 0)) none none none
  obtain ⟨k3, b, b7, b8, e2, lb, pb, sb⟩ := turnO n ns hn R0 [.ref ((R0 ++ [PV.lst []]).length + 1)] [PV.lst (a.map .int)] most r w hr (by omega) (by omega) (by simp) k2 (some (.int 1)) (some (.ref ((R0 ++ [PV.lst []]).length + 1))) a7 a8
  rw [List.nil_append, List.nil_append] at e1
  refine ⟨k3, a, b, ?_, by omega, by omega, by omega, sa, sb, pa, pb⟩
  have e : callF TT (n + 3) 22 [.ref 0, .int most, .int (r : Nat)] (DD ns k :: R0).length (DD ns k :: R0) = .ok (.ref (R0.length + 1)) (DD ns k3 :: (R0 ++ PV.lst ([.ref ((R0 ++ [PV.lst []]).length + 1)] ++ [.ref ((R0 ++ PV.lst [.ref ((R0 ++ [PV.lst []]).length + 1)] :: [PV.lst (a.map .int)]).length + 1)]) :: ([PV.lst (a.map .int)] ++ [PV.lst (b.map .int)]))) := by
    rw [call_at (b := b22) [some (.ref 0), some (.int most), some (.int (r : Nat)), none, none, none, none, none, none] rfl rfl rfl]
    unfold b22
    dsimp only
    rw [q_scons, sasg_st (i := 3) (bin_st (a := eLit (.int 1)) (k := false) (v := .int 1) rfl ev (cat_int 1 v _)), RS.then_nx, hw]
    rw [show ([some (.ref 0), some (.int most), some (.int (r : Nat)), none, none, none, none, none, none] : Env).set 3 (some (.int w)) = [some (.ref 0), some (.int most), some (.int (r : Nat)), some (.int w), none, none, none, none, none] from rfl]
    rw [q_scons, sasg_st (i := 4) (new_val (a := eLst aNil) (v := PV.lst []) rfl), RS.then_nx]
    rw [show ([some (.ref 0), some (.int most), some (.int (r : Nat)), some (.int w), none, none, none, none, none] : Env).set 4 (some (.ref (DD ns k1 :: R0).length)) = en22 most r w (R0.length + 1) none none none none from rfl]
    rw [q_scons, q_sfor, rg1_n (a := eLit (.int 2)) (k := false) (j := 2) rfl (by omega) (by omega), R.go_ok]
    simp only [q_unl0]
    rw [show rngL 0 (2 : Int).toNat = [.int 0, .int 1] from rfl]
    show fin ((forR (gNm 5) (O22 (callF TT (n + 2)) (R0.length + 1)) [.int 0, .int 1] (en22 most (r : Nat) (w : Nat) (R0.length + 1) none none none none) (DD ns k1 :: (R0 ++ [PV.lst []]))).then (sRet (eVar 4))) = _
    rw [for_nx (env1 := en22 most r w (R0.length + 1) (some (.int 0)) none none none) rfl e1]
    rw [for_nx (env1 := en22 most r w (R0.length + 1) (some (.int 1)) (some (.ref ((R0 ++ [PV.lst []]).length + 1))) a7 a8) rfl e2, q_forN, RS.then_nx]
    rfl
  refine callV_norm e ?_
  have := norm_pair (DD ns k3 :: R0) a b
  rw [show (R0 ++ [PV.lst []]).length + 1 = (DD ns k3 :: R0).length + 1 by simp, show (R0 ++ [PV.lst [PV.ref ((DD ns k3 :: R0).length + 1)], PV.lst (a.map PV.int)]).length + 1 = (DD ns k3 :: R0).length + 2 by simp]
  exact this
end
end PX.K63
set_option linter.all false
set_option maxRecDepth 100000
set_option maxHeartbeats 1000000
namespace PX.K63
open PySem PX K22M
abbrev LL : Type := List (List Int)
def nxt (sm : List Int) (v l : Int) : List Int := sm.zipIdx.map fun p => p.1 - (if decide (((p.2 : Nat) : Int) = v) = true then 1 else 0) + (if decide (((p.2 : Nat) : Int) = l) = true then 1 else 0)
def st8 (sm : List Int) (v : Nat) (s : LL × LL) (l : Int) : LL × LL :=
  if (decide (0 < sm.getD v 0) && (decide (0 ≤ l) && decide (l < sm.length))) = true then (if nxt sm v l ∈ s.1 then s else (s.1 ++ [nxt sm v l], s.2 ++ [nxt sm v l])) else s
def st7 (sm : List Int) (s : LL × LL) (v : Nat) : LL × LL := [(v : Int) - 1, (v : Int) + 1].foldl (st8 sm v) s
def st6 (s : LL × LL) (sm : List Int) : LL × LL := (List.range sm.length).foldl (st7 sm) s
def stp (s : LL × LL) : LL × LL := s.2.foldl st6 (s.1, [])
def srch (a : List Int) : Nat → LL × LL
  | 0 => ([a], [a])
  | k + 1 => stp (srch a k)
def small3 (s : LL × LL) : Prop := s.1.length ≤ 1000 ∧ s.2.length ≤ 1000
def allC : Nat → Nat → LL
  | 0, 0 => [[]]
  | 0, _ + 1 => []
  | w + 1, r => (List.range (r + 1)).flatMap fun x => (allC w (r - x)).map (((x : Nat) : Int) :: ·)
theorem mem_allC : ∀ (a : List Int) (r : Nat), (∀ c ∈ a, 0 ≤ c) → a.sum = r → a ∈ allC a.length r
  | [], r, _, h => by
    have : r = 0 := by
      simp at h
      omega
    subst this
    exact List.mem_singleton.mpr rfl
  | c :: a, r, hp, h => by
    have h0 := hp c List.mem_cons_self
    rw [List.sum_cons] at h
    have hs : 0 ≤ a.sum := by
      have : ∀ l : List Int, (∀ c ∈ l, 0 ≤ c) → 0 ≤ l.sum := fun l => by
        induction l with
        | nil => intro _; exact Int.le_refl _
        | cons c l ih =>
          intro h
          have := ih fun x hx => h x (List.mem_cons_of_mem _ hx)
          have := h c List.mem_cons_self
          rw [List.sum_cons]
          omega
      exact this a fun x hx => hp x (List.mem_cons_of_mem _ hx)
    obtain ⟨m, rfl⟩ : ∃ m : Nat, c = m := ⟨c.toNat, by omega⟩
    refine List.mem_flatMap.mpr ⟨m, List.mem_range.mpr (by omega), List.mem_map.mpr ⟨a, mem_allC a (r - m) (fun x hx => hp x (List.mem_cons_of_mem _ hx)) (by omega), rfl⟩⟩
end PX.K63
set_option linter.all false
set_option maxRecDepth 100000
set_option maxHeartbeats 1000000
namespace PX.K63
open PySem PX K22M
def goC (a : List Int) (bs : LL) : Nat → Nat → LL × LL → Bool
  | 0, k, s => Nat.ble s.1.length 1000 && (s.2.all fun b => decide (stepsL a b = k)) && bs.all fun b => decide (b ∈ s.1)
  | f + 1, k, s => (s.2.all fun b => decide (stepsL a b = k)) && goC a bs f (k + 1) (stp s)
def chkC (w r : Nat) : Bool := (allC w r).all fun a => goC a (allC w r) 12 0 ([a], [a])
theorem chk4 : ((List.range 5).all fun w => (List.range 5).all fun r => chkC w r) = true := by decide +kernel
end PX.K63
set_option linter.all false
set_option maxRecDepth 100000
set_option maxHeartbeats 1000000
namespace PX.K63
open PySem PX K22M
abbrev Ext2 (B : LL) (s : LL × LL) : Prop := s.1 = B ++ s.2
theorem ext8 (B : LL) (sm : List Int) (v : Nat) (s : LL × LL) (l : Int) (h : Ext2 B s) : Ext2 B (st8 sm v s l) := by
  unfold st8
  split
  · split
    · exact h
    · show s.1 ++ _ = B ++ (s.2 ++ _)
      rw [show s.1 = B ++ s.2 from h, List.append_assoc]
  · exact h
theorem ext_fold {α : Type} (B : LL) (f : LL × LL → α → LL × LL) (hf : ∀ s x, Ext2 B s → Ext2 B (f s x)) : ∀ (l : List α) (s : LL × LL), Ext2 B s → Ext2 B (l.foldl f s)
  | [], _, h => h
  | x :: l, s, h => ext_fold B f hf l (f s x) (hf s x h)
theorem stp_app (s : LL × LL) : (stp s).1 = s.1 ++ (stp s).2 :=
  ext_fold s.1 st6 (fun s sm h => ext_fold _ (st7 sm) (fun s v h => ext_fold _ (st8 sm v) (fun s l h => ext8 _ sm v s l h) _ s h) _ s h) s.2 (s.1, []) (by simp [Ext2])
theorem goC_at (a : List Int) (bs : LL) : ∀ (f k : Nat) (s : LL × LL), s = srch a k → goC a bs f k s = true → (∀ j, k ≤ j → j ≤ k + f → ∀ q ∈ (srch a j).2, stepsL a q = j) ∧ (srch a (k + f)).1.length ≤ 1000 ∧ ∀ b ∈ bs, b ∈ (srch a (k + f)).1
  | 0, k, s, hs, h => by
    subst hs
    unfold goC at h
    rw [Bool.and_eq_true, Bool.and_eq_true, List.all_eq_true, List.all_eq_true] at h
    refine ⟨fun j h1 h2 q hq => ?_, Nat.le_of_ble_eq_true h.1.1, fun b hb => of_decide_eq_true (h.2 b hb)⟩
    have : j = k := by omega
    subst this
    exact of_decide_eq_true (h.1.2 q hq)
  | f + 1, k, s, hs, h => by
    unfold goC at h
    rw [Bool.and_eq_true, List.all_eq_true] at h
    obtain ⟨i1, i2, i3⟩ := goC_at a bs f (k + 1) (stp s) (by rw [hs]; rfl) h.2
    rw [show k + 1 + f = k + (f + 1) by omega] at i1 i2 i3
    refine ⟨fun j h1 h2 q hq => ?_, i2, i3⟩
    by_cases hj : j = k
    · subst hj
      subst hs
      exact of_decide_eq_true (h.1 q hq)
    · exact i1 j (by omega) h2 q hq
theorem mem_srch (a q : List Int) : ∀ k, q ∈ (srch a k).1 ↔ ∃ j ≤ k, q ∈ (srch a j).2
  | 0 => ⟨fun h => ⟨0, Nat.le_refl _, h⟩, fun ⟨j, hj, h⟩ => by
    have : j = 0 := by omega
    subst this
    exact h⟩
  | k + 1 => by
    show q ∈ (stp (srch a k)).1 ↔ _
    rw [stp_app, List.mem_append, mem_srch a q k]
    constructor
    · rintro (⟨j, hj, h⟩ | h)
      · exact ⟨j, by omega, h⟩
      · exact ⟨k + 1, Nat.le_refl _, h⟩
    · rintro ⟨j, hj, h⟩
      by_cases e : j = k + 1
      · subst e
        exact .inr h
      · exact .inl ⟨j, by omega, h⟩
theorem len_srch (a : List Int) : ∀ k j, j ≤ k → (srch a j).1.length ≤ (srch a k).1.length
  | 0, j, h => by
    have : j = 0 := by omega
    subst this
    exact Nat.le_refl _
  | k + 1, j, h => by
    by_cases e : j = k + 1
    · subst e
      exact Nat.le_refl _
    · have ih := len_srch a k j (by omega)
      show _ ≤ (stp (srch a k)).1.length
      rw [stp_app, List.length_append]
      omega
theorem lay_le (a : List Int) : ∀ k, (srch a k).2.length ≤ (srch a k).1.length
  | 0 => Nat.le_refl _
  | k + 1 => by
    show (stp (srch a k)).2.length ≤ (stp (srch a k)).1.length
    rw [stp_app, List.length_append]
    omega
theorem search_ok (a b : List Int) (r : Nat) (h1 : a.length ≤ 4) (hl : a.length = b.length) (hr : r ≤ 4) (ha : ∀ c ∈ a, 0 ≤ c) (hb : ∀ c ∈ b, 0 ≤ c) (sa : a.sum = r) (sb : b.sum = r) :
    ∃ d : Nat, d ≤ 12 ∧ stepsL a b = d ∧ b ∈ (srch a d).1 ∧ (∀ j < d, b ∉ (srch a j).1) ∧ ∀ j ≤ d, small3 (srch a j) := by
  have h := chk4
  rw [List.all_eq_true] at h
  have h := h a.length (List.mem_range.mpr (by omega))
  rw [List.all_eq_true] at h
  have h := h r (List.mem_range.mpr (by omega))
  unfold chkC at h
  rw [List.all_eq_true] at h
  have ma := mem_allC a r ha sa
  have mb := mem_allC b r hb sb
  rw [← hl] at mb
  obtain ⟨i1, i2, i3⟩ := goC_at a _ 12 0 ([a], [a]) rfl (h a ma)
  rw [show 0 + 12 = 12 from rfl] at i1 i2 i3
  obtain ⟨d, hd, hm⟩ := (mem_srch a b 12).mp (i3 b mb)
  have e := i1 d (by omega) hd b hm
  refine ⟨d, hd, e, (mem_srch a b d).mpr ⟨d, Nat.le_refl _, hm⟩, fun j hj hc => ?_, fun j hj => ?_⟩
  · obtain ⟨i, hi, hm2⟩ := (mem_srch a b j).mp hc
    have := i1 i (by omega) (by omega) b hm2
    omega
  · have := len_srch a 12 j (by omega)
    have := lay_le a j
    exact ⟨by omega, by omega⟩
end PX.K63
set_option linter.all false
set_option maxRecDepth 100000
set_option maxHeartbeats 1000000
namespace PX
open PySem
theorem down {α σ : Type} {step : σ → α → σ} {P : σ → Prop} (hP : ∀ s x, P (step s x) → P s) : ∀ (l : List α) (s : σ), P (l.foldl step s) → P s
  | [], s, h => h
  | x :: l, s, h => hP s x (down hP l (step s x) h)
theorem for_foldB {α σ : Type} {t : Tg} {b : SS} (g : α → PV) (step : σ → α → σ) (I : σ → Env → Store → Prop) (P : σ → Prop) (hP : ∀ s x, P (step s x) → P s) : ∀ (l : List α) (s : σ) (env : Env) (S : Store), I s env S → P (l.foldl step s) → (∀ x ∈ l, ∀ s env S, I s env S → P (step s x) → ∃ env1, t (g x) env S = some env1 ∧ ∃ env2 S2, b env1 S = .nx env2 S2 ∧ I (step s x) env2 S2) → ∃ env' S', forR t b (l.map g) env S = .nx env' S' ∧ I (l.foldl step s) env' S'
  | [], s, env, S, h, _, _ => ⟨env, S, rfl, h⟩
  | x :: l, s, env, S, h, hp, hb => by
    obtain ⟨env1, e1, env2, S2, e2, h2⟩ := hb x List.mem_cons_self s env S h (down hP l (step s x) hp)
    obtain ⟨env', S', e3, h3⟩ := for_foldB g step I P hP l (step s x) env2 S2 h2 hp fun y hy => hb y (List.mem_cons_of_mem _ hy)
    refine ⟨env', S', ?_, h3⟩
    rw [List.map_cons, q_forC, e1]
    simp only [e2]
    exact e3
end PX
namespace PX.K63
open PySem PX K22M
theorem down8 (sm : List Int) (v : Nat) (s : LL × LL) (l : Int) (h : small3 (st8 sm v s l)) : small3 s := by
  unfold st8 at h
  split at h
  · split at h
    · exact h
    · obtain ⟨h1, h2⟩ := h
      simp only [List.length_append, List.length_singleton] at h1 h2
      exact ⟨by omega, by omega⟩
  · exact h
theorem down7 (sm : List Int) (s : LL × LL) (v : Nat) (h : small3 (st7 sm s v)) : small3 s := down (down8 sm v) _ _ h
theorem down6 (s : LL × LL) (sm : List Int) (h : small3 (st6 s sm)) : small3 s := down (down7 sm) _ _ h
section
variable (n : Nat) (S0 : Store)
abbrev fT : List Int → PV := fun _ => .bl true
abbrev Wst (J : Store) (s : LL × LL) : Store := S0 ++ dT s.1 fT :: (J ++ [.lst (s.2.map tI)])
theorem W_kn (J : Store) (s : LL × LL) : (Wst S0 J s)[S0.length]? = some (dT s.1 fT) := at_mid S0 _ _
theorem W_fr (J : Store) (s : LL × LL) : (Wst S0 J s)[S0.length + 1 + J.length]? = some (.lst (s.2.map tI)) := by
  have := at_last (S0 ++ dT s.1 fT :: J) (.lst (s.2.map tI))
  rw [List.length_append, List.length_cons] at this
  rw [show Wst S0 J s = (S0 ++ dT s.1 fT :: J) ++ [.lst (s.2.map tI)] by simp [Wst], show S0.length + 1 + J.length = S0.length + (J.length + 1) by omega]
  exact this
theorem W_setk (J : Store) (s : LL × LL) (q : List Int) : (Wst S0 J s).set S0.length (dT (s.1 ++ [q]) fT) = Wst S0 J (s.1 ++ [q], s.2) := set_mid S0 _ _ _
theorem W_setf (J : Store) (s : LL × LL) (q : List Int) : (Wst S0 J s).set (S0.length + 1 + J.length) (.lst (s.2.map tI ++ [tI q])) = Wst S0 J (s.1, s.2 ++ [q]) := by
  have := set_last (S0 ++ dT s.1 fT :: J) (.lst (s.2.map tI)) (.lst (s.2.map tI ++ [tI q]))
  rw [List.length_append, List.length_cons] at this
  rw [show Wst S0 J s = (S0 ++ dT s.1 fT :: J) ++ [.lst (s.2.map tI)] by simp [Wst], show S0.length + 1 + J.length = S0.length + (J.length + 1) by omega, this]
  simp [Wst]
noncomputable abbrev X9 (cf : CF) : SE := eArg bTuple (aCons (eLc (iEnu (eVar 6)) (gTp [(gNm 10), (gNm 11)]) [10, 11] tYesP (eBin oCat (eBin oSub (eVar 11) (eArg bInt (aCons (eEq cf [(0, 2), (1, 14)] [.non, .bl, .int, .str, .tup, .lst, .dct, .own 0, .own 1] (eVar 10) (eVar 7)) aNil))) (eArg bInt (aCons (eEq cf [(0, 2), (1, 14)] [.non, .bl, .int, .str, .tup, .lst, .dct, .own 0, .own 1] (eVar 10) (eVar 8)) aNil)))) aNil)
noncomputable abbrev L8 (cf : CF) (n0 : Nat) : SS := (sIf (tAn (tBl (eBin oGt (eIx cf [(0, 4)] (eVar 6) (eVar 7)) (eLit (.int 0)))) (tBl (eCh oLe oLt (eLit (.int 0)) (eVar 8) (eLen cf [(0, 3)] (eVar 6))))) (sCons (sAsg (gNm 9) (X9 cf)) (sIf (tBl (eBin oNotIn (eVar 9) (eVar 3))) (sCons (sSetI (setG n0) (eVar 3) (eVar 9) (eLit (.bl true))) (sExp (eLm (appL n0) (eVar 5) (eVar 9)))) sNil)) sNil)
noncomputable abbrev L7 (cf : CF) (n0 : Nat) : SS := (sFor (iSeq (eTup (aCons (eBin oSub (eVar 7) (eLit (.int 1))) (aCons (eBin oCat (eVar 7) (eLit (.int 1))) aNil)))) (gNm 8) (L8 cf n0))
noncomputable abbrev L6 (cf : CF) (n0 : Nat) : SS := (sFor (iRg1 (eLen cf [(0, 3)] (eVar 6))) (gNm 7) (L7 cf n0))
abbrev e23 (a0 a1 a2 : Option PV) (K : Nat) (a4 : Option PV) (Fr : Nat) (x6 x7 x8 x9 x10 x11 : Option PV) : Env := [a0, a1, a2, some (.ref K), a4, some (.ref Fr), x6, x7, x8, x9, x10, x11]
theorem nxtE (cf : CF) (S : Store) (a0 a1 a2 : Option PV) (K : Nat) (a4 : Option PV) (Fr : Nat) (sm : List Int) (v l : Int) (x9 x10 x11 : Option PV) (hl : sm.length ≤ 1000) : X9 cf (e23 a0 a1 a2 K a4 Fr (some (tI sm)) (some (.int v)) (some (.int l)) x9 x10 x11) S = .ok (false, tI (nxt sm v l)) S := by
  have e := lc_int (S := S) (i := iEnu (eVar 6)) (t := gTp [(gNm 10), (gNm 11)]) (vs := [10, 11]) (c := tYesP) (e := (eBin oCat (eBin oSub (eVar 11) (eArg bInt (aCons (eEq cf [(0, 2), (1, 14)] [.non, .bl, .int, .str, .tup, .lst, .dct, .own 0, .own 1] (eVar 10) (eVar 7)) aNil))) (eArg bInt (aCons (eEq cf [(0, 2), (1, 14)] [.non, .bl, .int, .str, .tup, .lst, .dct, .own 0, .own 1] (eVar 10) (eVar 8)) aNil)))) (env := e23 a0 a1 a2 K a4 Fr (some (tI sm)) (some (.int v)) (some (.int l)) x9 x10 x11)
    sm.zipIdx (fun p => PV.tup [.int (p.2 : Nat), .int p.1]) (fun p => p.1 - (if decide (((p.2 : Nat) : Int) = v) = true then 1 else 0) + (if decide (((p.2 : Nat) : Int) = l) = true then 1 else 0)) (fun _ => true) (fun p => e23 a0 a1 a2 K a4 Fr (some (tI sm)) (some (.int v)) (some (.int l)) x9 (some (.int (p.2 : Nat))) (some (.int p.1)))
    (enu_gen sm (fun x => .int x) (v := tI sm) (k := false) rfl rfl) (by rw [List.length_zipIdx]; omega) (fun _ _ => rfl) (fun _ _ => rfl)
    (fun p _ _ => ⟨false, bin_val (bin_val (o := oSub) (a := eVar 11) (k := false) (v := .int p.1) rfl (arg1_val (eq_flat (a := eVar 10) (k := false) (v := .int (p.2 : Nat)) (b := eVar 7) (k' := false) (w := .int v) rfl rfl rfl (oEq_int' _ _ S)) rfl) rfl) (arg1_val (eq_flat (a := eVar 10) (k := false) (v := .int (p.2 : Nat)) (b := eVar 8) (k' := false) (w := .int l) rfl rfl rfl (oEq_int' _ _ S)) rfl) rfl⟩)
  rw [filter_yes] at e
  exact arg1_val e (tuple_lst _ S)
theorem body8 (cf : CF) (J : Store) (s : LL × LL) (a0 a1 a2 a4 : Option PV) (sm : List Int) (v : Nat) (l : Int) (x9 x10 x11 : Option PV) (hl : sm.length ≤ 1000) (hv : v < sm.length) (hs : small3 s) :
    ∃ y9, L8 cf S0.length (e23 a0 a1 a2 S0.length a4 (S0.length + 1 + J.length) (some (tI sm)) (some (.int (v : Nat))) (some (.int l)) x9 x10 x11) (Wst S0 J s) = .nx (e23 a0 a1 a2 S0.length a4 (S0.length + 1 + J.length) (some (tI sm)) (some (.int (v : Nat))) (some (.int l)) y9 x10 x11) (Wst S0 J (st8 sm v s l)) := by
  obtain ⟨s1, s2⟩ := hs
  have hix : eIx cf [(0, 4)] (eVar 6) (eVar 7) (e23 a0 a1 a2 S0.length a4 (S0.length + 1 + J.length) (some (tI sm)) (some (.int (v : Nat))) (some (.int l)) x9 x10 x11) (Wst S0 J s) = .ok (false, .int (sm.getD v 0)) (Wst S0 J s) :=
    ix_val (a := eVar 6) (k := false) (v := tI sm) (b := eVar 7) (k' := false) (w := .int (v : Nat)) rfl rfl rfl rfl (oIx_at (xs := sm.map .int) rfl (by rw [List.getElem?_map, List.getElem?_eq_getElem hv, List.getD_eq_getElem?_getD, List.getElem?_eq_getElem hv]; rfl))
  have t1 : tBl (eBin oGt (eIx cf [(0, 4)] (eVar 6) (eVar 7)) (eLit (.int 0))) (e23 a0 a1 a2 S0.length a4 (S0.length + 1 + J.length) (some (tI sm)) (some (.int (v : Nat))) (some (.int l)) x9 x10 x11) (Wst S0 J s) = .ok (decide (0 < sm.getD v 0)) (Wst S0 J s) :=
    tbl_val (k := false) (bin_val hix (b := eLit (.int 0)) (k' := false) (w := .int 0) rfl rfl)
  have t2 : tBl (eCh oLe oLt (eLit (.int 0)) (eVar 8) (eLen cf [(0, 3)] (eVar 6))) (e23 a0 a1 a2 S0.length a4 (S0.length + 1 + J.length) (some (tI sm)) (some (.int (v : Nat))) (some (.int l)) x9 x10 x11) (Wst S0 J s) = .ok (decide (0 ≤ l) && decide (l < sm.length)) (Wst S0 J s) :=
    tbl_val (ch_val (o := oLe) (o' := oLt) (a := eLit (.int 0)) (u := .int 0) (k1 := false) rfl (b := eVar 8) (v := .int l) (k2 := false) rfl (lenN (a := eVar 6) (k := false) (c := sm) rfl) rfl rfl)
  rw [L8, sif_val (t := decide (0 < sm.getD v 0) && (decide (0 ≤ l) && decide (l < sm.length))) (by
    rw [tan_val t1]
    cases decide (0 < sm.getD v 0) with
    | false => rfl
    | true => rw [if_pos rfl, t2, Bool.true_and])]
  unfold st8
  by_cases hc : (decide (0 < sm.getD v 0) && (decide (0 ≤ l) && decide (l < sm.length))) = true
  · rw [if_pos hc, if_pos hc, q_scons, sasg_val (nxtE cf _ a0 a1 a2 S0.length a4 _ sm v l x9 x10 x11 hl), RS.then_nx]
    rw [show (e23 a0 a1 a2 S0.length a4 (S0.length + 1 + J.length) (some (tI sm)) (some (.int (v : Nat))) (some (.int l)) x9 x10 x11).set 9 (some (tI (nxt sm v l))) = e23 a0 a1 a2 S0.length a4 (S0.length + 1 + J.length) (some (tI sm)) (some (.int (v : Nat))) (some (.int l)) (some (tI (nxt sm v l))) x10 x11 from rfl]
    refine ⟨some (tI (nxt sm v l)), ?_⟩
    have t3 : tBl (eBin oNotIn (eVar 9) (eVar 3)) (e23 a0 a1 a2 S0.length a4 (S0.length + 1 + J.length) (some (tI sm)) (some (.int (v : Nat))) (some (.int l)) (some (tI (nxt sm v l))) x10 x11) (Wst S0 J s) = .ok (!decide (nxt sm v l ∈ s.1)) (Wst S0 J s) :=
      tbl_val (k := false) (bin_val (a := eVar 9) (k := false) (v := tI (nxt sm v l)) (b := eVar 3) (k' := false) (w := .ref S0.length) rfl rfl (notinT_at fT _ (W_kn S0 J s)))
    rw [sif_val t3]
    by_cases hm : nxt sm v l ∈ s.1
    · rw [decide_eq_true hm, Bool.not_true, if_neg (by simp), if_pos hm]
      rfl
    · rw [decide_eq_false hm, Bool.not_false, if_pos rfl, if_neg hm]
      have es := setT_at (n0 := S0.length) fT (nxt sm v l) hm (by omega) (W_kn S0 J s) (Nat.le_refl _)
      rw [W_setk] at es
      rw [q_scons, ssub_val (e := eLit (.bl true)) (k1 := false) (x := .bl true) rfl (o := eVar 3) (k2 := false) (v := .ref S0.length) rfl (k := eVar 9) (k3 := false) (w := tI (nxt sm v l)) rfl es, RS.then_nx]
      rw [sexp_app (o := eVar 5) (k := false) (i := S0.length + 1 + J.length) (xs := s.2.map tI) (e := eVar 9) (k' := false) (v := tI (nxt sm v l)) rfl (W_fr S0 J (s.1 ++ [nxt sm v l], s.2)) rfl (by omega) (by rw [List.length_map]; omega)]
      rw [W_setf S0 J (s.1 ++ [nxt sm v l], s.2)]
  · rw [if_neg hc, if_neg hc]
    exact ⟨x9, rfl⟩
end
end PX.K63
set_option linter.all false
set_option maxRecDepth 100000
set_option maxHeartbeats 1000000
namespace PX.K63
open PySem PX K22M
section
variable (n : Nat) (S0 : Store)
theorem body7 (cf : CF) (J : Store) (s : LL × LL) (a0 a1 a2 a4 : Option PV) (sm : List Int) (v : Nat) (x8 x9 x10 x11 : Option PV) (hl : sm.length ≤ 1000) (hv : v < sm.length) (hs : small3 (st7 sm s v)) :
    ∃ y8 y9, L7 cf S0.length (e23 a0 a1 a2 S0.length a4 (S0.length + 1 + J.length) (some (tI sm)) (some (.int (v : Nat))) x8 x9 x10 x11) (Wst S0 J s) = .nx (e23 a0 a1 a2 S0.length a4 (S0.length + 1 + J.length) (some (tI sm)) (some (.int (v : Nat))) y8 y9 x10 x11) (Wst S0 J (st7 sm s v)) := by
  rw [L7, q_sfor, seq_it (v := tI [(v : Int) - 1, (v : Int) + 1]) (k := false) (xs := [(v : Int) - 1, (v : Int) + 1].map .int) rfl rfl, R.go_ok]
  simp only [q_unl0]
  obtain ⟨env', S', e, y8, y9, rfl, rfl⟩ := for_foldB (t := gNm 8) (b := L8 cf S0.length) (fun x => PV.int x) (st8 sm v) (fun s env S => ∃ y8 y9, env = e23 a0 a1 a2 S0.length a4 (S0.length + 1 + J.length) (some (tI sm)) (some (.int (v : Nat))) y8 y9 x10 x11 ∧ S = Wst S0 J s) small3 (down8 sm v)
    [(v : Int) - 1, (v : Int) + 1] s (e23 a0 a1 a2 S0.length a4 (S0.length + 1 + J.length) (some (tI sm)) (some (.int (v : Nat))) x8 x9 x10 x11) (Wst S0 J s) ⟨x8, x9, rfl, rfl⟩ hs
    (fun l _ s env S hI hp => by
      obtain ⟨y8, y9, rfl, rfl⟩ := hI
      obtain ⟨z9, e⟩ := body8 S0 cf J s a0 a1 a2 a4 sm v l y9 x10 x11 hl hv (down8 sm v s l hp)
      exact ⟨_, rfl, _, _, e, some (.int l), z9, rfl, rfl⟩)
  exact ⟨y8, y9, e⟩
theorem body6 (cf : CF) (J : Store) (s : LL × LL) (a0 a1 a2 a4 : Option PV) (sm : List Int) (x7 x8 x9 x10 x11 : Option PV) (hl : sm.length ≤ 1000) (hs : small3 (st6 s sm)) :
    ∃ y7 y8 y9, L6 cf S0.length (e23 a0 a1 a2 S0.length a4 (S0.length + 1 + J.length) (some (tI sm)) x7 x8 x9 x10 x11) (Wst S0 J s) = .nx (e23 a0 a1 a2 S0.length a4 (S0.length + 1 + J.length) (some (tI sm)) y7 y8 y9 x10 x11) (Wst S0 J (st6 s sm)) := by
  rw [L6, q_sfor, rg1_n (lenN (a := eVar 6) (k := false) (c := sm) rfl) (by omega) (by omega), R.go_ok, Int.toNat_natCast, rngL_map0]
  simp only [q_unl0]
  obtain ⟨env', S', e, y7, y8, y9, rfl, rfl⟩ := for_foldB (t := gNm 7) (b := L7 cf S0.length) (fun x => PV.int ((x : Nat) : Int)) (st7 sm) (fun s env S => ∃ y7 y8 y9, env = e23 a0 a1 a2 S0.length a4 (S0.length + 1 + J.length) (some (tI sm)) y7 y8 y9 x10 x11 ∧ S = Wst S0 J s) small3 (down7 sm)
    (List.range sm.length) s (e23 a0 a1 a2 S0.length a4 (S0.length + 1 + J.length) (some (tI sm)) x7 x8 x9 x10 x11) (Wst S0 J s) ⟨x7, x8, x9, rfl, rfl⟩ hs
    (fun v hv s env S hI hp => by
      obtain ⟨y7, y8, y9, rfl, rfl⟩ := hI
      obtain ⟨z8, z9, e⟩ := body7 S0 cf J s a0 a1 a2 a4 sm v y8 y9 x10 x11 hl (List.mem_range.mp hv) hp
      exact ⟨_, rfl, _, _, e, some (.int (v : Nat)), z8, z9, rfl, rfl⟩)
  exact ⟨y7, y8, y9, e⟩
theorem loop6 (cf : CF) (J : Store) (s : LL × LL) (a0 a1 a2 a4 : Option PV) (la : LL) (x6 x7 x8 x9 x10 x11 : Option PV) (hl : ∀ sm ∈ la, sm.length ≤ 1000) (hs : small3 (la.foldl st6 s)) :
    ∃ y6 y7 y8 y9, forR (gNm 6) (L6 cf S0.length) (la.map tI) (e23 a0 a1 a2 S0.length a4 (S0.length + 1 + J.length) x6 x7 x8 x9 x10 x11) (Wst S0 J s) = .nx (e23 a0 a1 a2 S0.length a4 (S0.length + 1 + J.length) y6 y7 y8 y9 x10 x11) (Wst S0 J (la.foldl st6 s)) := by
  obtain ⟨env', S', e, y6, y7, y8, y9, rfl, rfl⟩ := for_foldB (t := gNm 6) (b := L6 cf S0.length) tI st6 (fun s env S => ∃ y6 y7 y8 y9, env = e23 a0 a1 a2 S0.length a4 (S0.length + 1 + J.length) y6 y7 y8 y9 x10 x11 ∧ S = Wst S0 J s) small3 down6
    la s (e23 a0 a1 a2 S0.length a4 (S0.length + 1 + J.length) x6 x7 x8 x9 x10 x11) (Wst S0 J s) ⟨x6, x7, x8, x9, rfl, rfl⟩ hs
    (fun sm hsm s env S hI hp => by
      obtain ⟨y6, y7, y8, y9, rfl, rfl⟩ := hI
      obtain ⟨z7, z8, z9, e⟩ := body6 S0 cf J s a0 a1 a2 a4 sm y7 y8 y9 x10 x11 (hl sm hsm) hp
      exact ⟨_, rfl, _, _, e, some (tI sm), z7, z8, z9, rfl, rfl⟩)
  exact ⟨y6, y7, y8, y9, e⟩
def LV (lv : PV) (J : Store) (la : LL) : Prop := lv = .lst (la.map tI) ∨ ∃ J', J = J' ++ [.lst (la.map tI)] ∧ lv = .ref (S0.length + 1 + J'.length)
def Rep (a0 a1 : Option PV) (s : LL × LL) (j : Nat) (env : Env) (S : Store) : Prop :=
  ∃ (lv : PV) (J : Store) (x5 x6 x7 x8 x9 x10 x11 : Option PV), env = [a0, a1, some lv, some (.ref S0.length), some (.int j), x5, x6, x7, x8, x9, x10, x11] ∧ S = S0 ++ dT s.1 fT :: J ∧ LV S0 lv J s.2
noncomputable abbrev BW (cf : CF) (n0 : Nat) : SS := (sCons (sAsg (gNm 5) (eNew (eLst aNil))) (sCons (sFor (iSeq (eVar 2)) (gNm 6) (L6 cf n0)) (sPar [2, 4] (aCons (eVar 5) (aCons (eBin oCat (eVar 4) (eLit (.int 1))) aNil)))))
theorem par_end (cf : CF) (a0 a1 a2 : Option PV) (Fr j : Nat) (x6 x7 x8 x9 x10 x11 : Option PV) (S : Store) : sPar [2, 4] (aCons (eVar 5) (aCons (eBin oCat (eVar 4) (eLit (.int 1))) aNil)) (e23 a0 a1 a2 S0.length (some (.int j)) Fr x6 x7 x8 x9 x10 x11) S = .nx [a0, a1, some (.ref Fr), some (.ref S0.length), some (.int ((j + 1 : Nat) : Nat)), some (.ref Fr), x6, x7, x8, x9, x10, x11] S := rfl
theorem step23 (cf : CF) (a0 a1 : Option PV) (s : LL × LL) (j : Nat) (env : Env) (S : Store) (hR : Rep S0 a0 a1 s j env S) (hl : ∀ sm ∈ s.2, sm.length ≤ 1000) (hs : small3 (stp s)) :
    ∃ env' S', BW cf S0.length env S = .nx env' S' ∧ Rep S0 a0 a1 (stp s) (j + 1) env' S' := by
  obtain ⟨lv, J, x5, x6, x7, x8, x9, x10, x11, rfl, rfl, hL⟩ := hR
  have hlen : (S0 ++ dT s.1 fT :: J).length = S0.length + 1 + J.length := by rw [List.length_append, List.length_cons]; omega
  rw [BW, q_scons, sasg_st (i := 5) (new_val (a := eLst aNil) (v := .lst []) rfl), RS.then_nx, hlen]
  rw [show ([a0, a1, some lv, some (.ref S0.length), some (.int j), x5, x6, x7, x8, x9, x10, x11] : Env).set 5 (some (.ref (S0.length + 1 + J.length))) = e23 a0 a1 (some lv) S0.length (some (.int j)) (S0.length + 1 + J.length) x6 x7 x8 x9 x10 x11 from rfl]
  rcases hL with rfl | ⟨J', rfl, rfl⟩
  · obtain ⟨y6, y7, y8, y9, e⟩ := loop6 S0 cf J (s.1, []) a0 a1 (some (.lst (s.2.map tI))) (some (.int j)) s.2 x6 x7 x8 x9 x10 x11 hl hs
    refine ⟨_, _, ?_, .ref (S0.length + 1 + J.length), J ++ [.lst ((stp s).2.map tI)], some (.ref (S0.length + 1 + J.length)), y6, y7, y8, y9, x10, x11, rfl, rfl, .inr ⟨J, rfl, rfl⟩⟩
    rw [q_scons, q_sfor, seq_it (a := eVar 2) (v := .lst (s.2.map tI)) (k := false) (xs := s.2.map tI) rfl rfl, R.go_ok]
    simp only [q_unl0]
    rw [show (S0 ++ dT s.1 fT :: J) ++ [PV.lst []] = Wst S0 J (s.1, []) by simp [Wst], e, RS.then_nx, par_end S0 cf]
    rfl
  · obtain ⟨y6, y7, y8, y9, e⟩ := loop6 S0 cf (J' ++ [.lck (.lst (s.2.map tI))]) (s.1, []) a0 a1 (some (.ref (S0.length + 1 + J'.length))) (some (.int j)) s.2 x6 x7 x8 x9 x10 x11 hl hs
    have hj : (J' ++ [PV.lck (.lst (s.2.map tI))]).length = (J' ++ [PV.lst (s.2.map tI)]).length := by simp
    rw [hj] at e
    refine ⟨_, _, ?_, .ref (S0.length + 1 + (J' ++ [PV.lst (s.2.map tI)]).length), (J' ++ [.lst (s.2.map tI)]) ++ [.lst ((stp s).2.map tI)], some (.ref (S0.length + 1 + (J' ++ [PV.lst (s.2.map tI)]).length)), y6, y7, y8, y9, x10, x11, rfl, rfl, .inr ⟨J' ++ [.lst (s.2.map tI)], rfl, rfl⟩⟩
    have hm : (S0 ++ dT s.1 fT :: J').length = S0.length + 1 + J'.length := by rw [List.length_append, List.length_cons]; omega
    have hS : (S0 ++ dT s.1 fT :: (J' ++ [.lst (s.2.map tI)])) ++ [PV.lst []] = (S0 ++ dT s.1 fT :: J') ++ .lst (s.2.map tI) :: [.lst []] := by simp
    rw [hS]
    have ha := at_mid (S0 ++ dT s.1 fT :: J') (.lst (s.2.map tI)) [.lst []]
    have hset := set_mid (S0 ++ dT s.1 fT :: J') (.lst (s.2.map tI)) (.lck (.lst (s.2.map tI))) [.lst []]
    rw [hm] at ha hset
    rw [q_scons, q_sfor, seq_own (a := eVar 2) (k := false) (i := S0.length + 1 + J'.length) rfl ha, R.go_ok, hset]
    dsimp only
    rw [show (S0 ++ dT s.1 fT :: J') ++ PV.lck (.lst (s.2.map tI)) :: [.lst []] = Wst S0 (J' ++ [.lck (.lst (s.2.map tI))]) (s.1, []) by simp [Wst], e]
    have hset2 := set_mid (S0 ++ dT (stp s).1 fT :: J') (.lck (.lst (s.2.map tI))) (.lst (s.2.map tI)) [.lst ((stp s).2.map tI)]
    have hm2 : (S0 ++ dT (stp s).1 fT :: J').length = S0.length + 1 + J'.length := by rw [List.length_append, List.length_cons]; omega
    rw [hm2] at hset2
    have hu : unlock [(S0.length + 1 + J'.length, PV.lst (s.2.map tI))] (Wst S0 (J' ++ [.lck (.lst (s.2.map tI))]) (s.2.foldl st6 (s.1, []))) = S0 ++ dT (stp s).1 fT :: ((J' ++ [.lst (s.2.map tI)]) ++ [.lst ((stp s).2.map tI)]) := by
      show (Wst S0 (J' ++ [.lck (.lst (s.2.map tI))]) (stp s)).set (S0.length + 1 + J'.length) (.lst (s.2.map tI)) = _
      rw [show Wst S0 (J' ++ [.lck (.lst (s.2.map tI))]) (stp s) = (S0 ++ dT (stp s).1 fT :: J') ++ PV.lck (.lst (s.2.map tI)) :: [.lst ((stp s).2.map tI)] by simp [Wst], hset2]
      simp
    show (RS.nx _ (unlock [(S0.length + 1 + J'.length, PV.lst (s.2.map tI))] (Wst S0 (J' ++ [.lck (.lst (s.2.map tI))]) (s.2.foldl st6 (s.1, []))))).then _ = _
    rw [hu, RS.then_nx, par_end S0 cf]
theorem srch_len (a : List Int) : ∀ k, ∀ sm ∈ (srch a k).2, sm.length = a.length := by
  have h8 : ∀ (sm : List Int) (v : Nat) (s : LL × LL) (l : Int), (∀ x ∈ s.2, x.length = a.length) → sm.length = a.length → ∀ x ∈ (st8 sm v s l).2, x.length = a.length := by
    intro sm v s l h hl x hx
    unfold st8 at hx
    split at hx
    · split at hx
      · exact h x hx
      · rcases List.mem_append.mp hx with h2 | h2
        · exact h x h2
        · rw [List.mem_singleton.mp h2]
          unfold nxt
          rw [List.length_map, List.length_zipIdx, hl]
    · exact h x hx
  have f8 : ∀ (sm : List Int) (v : Nat) (ls : List Int) (s : LL × LL), (∀ x ∈ s.2, x.length = a.length) → sm.length = a.length → ∀ x ∈ (ls.foldl (st8 sm v) s).2, x.length = a.length := by
    intro sm v ls
    induction ls with
    | nil => intro s h _; exact h
    | cons l ls ih => intro s h hl; exact ih _ (h8 sm v s l h hl) hl
  have f7 : ∀ (sm : List Int) (vs : List Nat) (s : LL × LL), (∀ x ∈ s.2, x.length = a.length) → sm.length = a.length → ∀ x ∈ (vs.foldl (st7 sm) s).2, x.length = a.length := by
    intro sm vs
    induction vs with
    | nil => intro s h _; exact h
    | cons v vs ih => intro s h hl; exact ih _ (f8 sm v _ s h hl) hl
  have f6 : ∀ (la : LL) (s : LL × LL), (∀ x ∈ s.2, x.length = a.length) → (∀ sm ∈ la, sm.length = a.length) → ∀ x ∈ (la.foldl st6 s).2, x.length = a.length := by
    intro la
    induction la with
    | nil => intro s h _; exact h
    | cons sm la ih => intro s h hl; exact ih _ (f7 sm _ s h (hl sm List.mem_cons_self)) fun x hx => hl x (List.mem_cons_of_mem _ hx)
  intro k
  induction k with
  | zero => intro sm h; rw [List.mem_singleton.mp h]
  | succ k ih => exact f6 _ _ (fun x hx => absurd hx (by simp)) ih
theorem while23 (cf : CF) (a b : List Int) (ha : a.length ≤ 1000) (d : Nat) (hs : ∀ j ≤ d, small3 (srch a j)) (hd : b ∈ (srch a d).1) (hn : ∀ j < d, b ∉ (srch a j).1) :
    ∀ (m j : Nat) (env : Env) (S : Store), j + m = d → Rep S0 (some (lI a)) (some (lI b)) (srch a j) j env S → ∀ fuel, m < fuel → ∃ env' S', whileR (tBl (eBin oNotIn (eArg bTuple (aCons (eVar 1) aNil)) (eVar 3))) (BW cf S0.length) fuel env S = .nx env' S' ∧ Rep S0 (some (lI a)) (some (lI b)) (srch a d) d env' S'
  | m, j, env, S, hj, hR, 0, hf => absurd hf (by omega)
  | m, j, env, S, hj, hR, fuel + 1, hf => by
    have hR' := hR
    obtain ⟨lv, J, x5, x6, x7, x8, x9, x10, x11, rfl, rfl, hL⟩ := hR'
    have ht : tBl (eBin oNotIn (eArg bTuple (aCons (eVar 1) aNil)) (eVar 3)) [some (lI a), some (lI b), some lv, some (.ref S0.length), some (.int j), x5, x6, x7, x8, x9, x10, x11] (S0 ++ dT (srch a j).1 fT :: J) = .ok (!decide (b ∈ (srch a j).1)) (S0 ++ dT (srch a j).1 fT :: J) :=
      tbl_val (k := false) (bin_val (arg1_val (a := eVar 1) (k := false) (v := lI b) rfl (tuple_lst b _)) (b := eVar 3) (k' := false) (w := .ref S0.length) rfl (notinT_at fT b (at_mid S0 _ _)))
    rw [q_whl, ht, R.go_ok]
    cases m with
    | zero =>
      have : j = d := by omega
      subst this
      rw [decide_eq_true hd]
      exact ⟨_, _, rfl, hR⟩
    | succ m =>
      rw [decide_eq_false (hn j (by omega)), Bool.not_false, if_pos rfl]
      obtain ⟨env', S', e, hR2⟩ := step23 S0 cf (some (lI a)) (some (lI b)) (srch a j) j _ _ hR (fun sm hsm => by rw [srch_len a j sm hsm]; exact ha) (hs (j + 1) (by omega))
      rw [e]
      exact while23 cf a b ha d hs hd hn m (j + 1) env' S' (by omega) hR2 fuel (by omega)
theorem searchV (S : Store) (a b : List Int) (ha : a.length ≤ 1000) (d : Nat) (hd100 : d < 100) (hs : ∀ j ≤ d, small3 (srch a j)) (hd : b ∈ (srch a d).1) (hn : ∀ j < d, b ∉ (srch a j).1) : callV (callF TT (n + 1)) 23 [lI a, lI b] S = .ok (false, .int d) S := by
  obtain ⟨T, e⟩ : ∃ T, callF TT (n + 1) 23 [lI a, lI b] S.length S = .ok (.int d) (S ++ T) := by
    rw [call_at (b := b23) [some (lI a), some (lI b), none, none, none, none, none, none, none, none, none, none] rfl rfl rfl]
    unfold b23
    dsimp only
    have e1 : aCons (eLst (aCons (eArg bTuple (aCons (eVar 0) aNil)) aNil)) (aCons (eNew (eDsp1T (eArg bTuple (aCons (eVar 0) aNil)) (eLit (.bl true)))) (aCons (eLit (.int 0)) aNil)) [some (lI a), some (lI b), none, none, none, none, none, none, none, none, none, none] S = .ok [.lst ([a].map tI), .ref S.length, .int 0] (S ++ [dT [a] fT]) := by
      have hk : eDsp1T (eArg bTuple (aCons (eVar 0) aNil)) (eLit (.bl true)) [some (lI a), some (lI b), none, none, none, none, none, none, none, none, none, none] S = .ok (true, dT [a] fT) S := by
        unfold eDsp1T evP evP
        dsimp only
        rw [arg1_val (a := eVar 0) (k := false) (v := lI a) rfl (tuple_lst a S), R.bind_ok]
        show (match keysOf (a.map PV.int) with
          | some ks => R.ok (true, PV.dct (.t [ks]) [.bl true]) S
          | none => .no) = _
        rw [keysOf_ints]
        rfl
      have e3 := lst1_val (arg1_val (a := eVar 0) (k := false) (v := lI a) (env := [some (lI a), some (lI b), none, none, none, none, none, none, none, none, none, none]) rfl (tuple_lst a S))
      rw [q_cons, e3, R.bind_ok, q_cons, new_val hk, R.bind_ok]
      rfl
    rw [q_scons, spar_val e1 (env' := [some (lI a), some (lI b), some (.lst ([a].map tI)), some (.ref S.length), some (.int 0), none, none, none, none, none, none, none]) rfl, RS.then_nx]
    have hR : Rep S (some (lI a)) (some (lI b)) (srch a 0) 0 [some (lI a), some (lI b), some (.lst ([a].map tI)), some (.ref S.length), some (.int 0), none, none, none, none, none, none, none] (S ++ [dT [a] fT]) :=
      ⟨_, [], _, _, _, _, _, _, _, rfl, rfl, .inl rfl⟩
    obtain ⟨env', S', ew, lv, J, x5, x6, x7, x8, x9, x10, x11, rfl, rfl, _⟩ := while23 S (callF TT n) a b ha d hs hd hn d 0 _ _ (by omega) hR 100 hd100
    rw [q_scons, show sWhl 100 _ _ [some (lI a), some (lI b), some (.lst ([a].map tI)), some (.ref S.length), some (.int 0), none, none, none, none, none, none, none] (S ++ [dT [a] fT]) = _ from ew, RS.then_nx]
    exact ⟨_, rfl⟩
  exact callV_norm e (norm_int S T d)
end
end PX.K63
set_option linter.all false
set_option maxRecDepth 100000
set_option maxHeartbeats 1000000
namespace PX
open PySem K22M
theorem repT_one (x : Int) (k : Nat) (h0 : 1 ≤ k) (h : k ≤ 900) (S : Store) : oRepT (.tup [.int x]) (.int k) S = some (false, .tup ((List.replicate k x).map .int)) := by
  have e : oRepT (.tup [.int x]) (.int k) S = if decide (1 ≤ (k : Int) ∧ (k : Int) ≤ 1000) && Nat.ble 0 900 then some (false, .tup (List.replicate (k : Int).toNat [PV.int x]).flatten) else none := rfl
  rw [e, decide_eq_true ⟨by omega, by omega⟩, show Nat.ble 0 900 = true from rfl]
  rw [if_pos (by rfl), Int.toNat_natCast, List.map_replicate]
  congr 3
  clear e h0 h
  induction k with
  | zero => rfl
  | succ k ih => rw [List.replicate_succ, List.flatten_cons, ih, List.replicate_succ]; rfl
theorem revI {a : SE} {env : Env} {S : Store} {k : Bool} {c : List Int} (ha : a env S = .ok (k, .tup (c.map .int)) S) : eRev2 a env S = .ok (false, .tup (c.reverse.map .int)) S := by
  unfold eRev2
  rw [ha, R.bind_ok]
  show R.ok (false, PV.tup (c.map .int).reverse) S = _
  rw [List.map_reverse]
theorem sl_ex (lo hi : Option Int) (f : List Int) (S : Store) : ∃ f' : List Int, slP lo hi (.tup (f.map .int)) S = some (false, .tup (f'.map .int)) ∧ f'.length ≤ f.length := by
  refine ⟨_, congrArg (fun z => some (false, PV.tup z)) (cutP_map f lo hi), ?_⟩
  rw [List.length_take, List.length_drop]
  omega
end PX
namespace PX.K63
open PySem PX K22M
abbrev pT (p : List Int × List Int) : PV := .tup [tI p.1, tI p.2]
def OKp (p : List Int × List Int) : Prop := p.1.length ≤ 500 ∧ p.2.length ≤ 500
abbrev en25 (a b f h : List Int) (at_ : Int) (C : Nat) (x10 x11 x12 : Option PV) : Env := [some (.ref 0), some (lI a), some (lI b), some (col a), some (col b), some (mv f h), some (tI f), some (tI h), some (.int at_), some (.ref C), x10, x11, x12, none, none]
section
variable (n : Nat)
theorem negE {x : Nat} {env : Env} {S : Store} {v : Int} (h : env[x]? = some (some (.int v))) : eUn oNeg (eVar x) env S = .ok (false, .int (-v)) S := neg_val (by rw [q_var, h])
theorem insE (cf : CF) (a b f h g : List Int) (i : Nat) (at_ x : Int) (C : Nat) (x10 x11 x12 : Option PV) (S : Store) (xe : SE) (hi : (en25 a b f h at_ C x10 x11 x12)[i]? = some (some (tI g))) (h0 : 0 ≤ at_) (h1 : at_ < g.length) (hg : g.length ≤ 100) (he : xe (en25 a b f h at_ C x10 x11 x12) S = .ok (false, .int x) S) :
    ∃ g' : List Int, eBin oCat (eBin oCat (eSl (eVar i) pNo (pSo (eVar 8))) (eTup (aCons (eBin oCat (eIx cf [(0, 4)] (eVar i) (eVar 8)) xe) aNil))) (eSl (eVar i) (pSo (eBin oCat (eVar 8) (eLit (.int 1)))) pNo) (en25 a b f h at_ C x10 x11 x12) S = .ok (false, tI g') S ∧ g'.length ≤ 300 := by
  obtain ⟨m, rfl⟩ : ∃ m : Nat, at_ = m := ⟨at_.toNat, by omega⟩
  have hv : eVar i (en25 a b f h (m : Nat) C x10 x11 x12) S = .ok (false, tI g) S := by rw [q_var, hi]
  obtain ⟨g1, e1, l1⟩ := sl_ex none (some (m : Int)) g S
  obtain ⟨g2, e2, l2⟩ := sl_ex (some ((m : Int) + 1)) none g S
  have hm : m < g.length := by omega
  have hix : eIx cf [(0, 4)] (eVar i) (eVar 8) (en25 a b f h (m : Nat) C x10 x11 x12) S = .ok (false, .int g[m]) S :=
    ix_val hv (b := eVar 8) (k' := false) (w := .int (m : Nat)) rfl rfl rfl (oIx_at (xs := g.map .int) rfl (by rw [List.getElem?_map, List.getElem?_eq_getElem hm]; rfl))
  refine ⟨g1 ++ [g[m] + x] ++ g2, bin_val (bin_val (sl_val hv (lo := pNo) (hi := pSo (eVar 8)) rfl (pso_val (a := eVar 8) (k := false) rfl) e1) (tup_val (args1 (bin_val hix he (cat_int _ _ S))) (by simp)) (cat_tup g1 [g[m] + x] S (by simp; omega))) (sl_val hv (lo := pSo (eBin oCat (eVar 8) (eLit (.int 1)))) (hi := pNo) (pso_val (bin_val (a := eVar 8) (k := false) (v := .int (m : Nat)) rfl (b := eLit (.int 1)) (k' := false) (w := .int 1) rfl (cat_int _ _ S))) rfl e2) (cat_tup (g1 ++ [g[m] + x]) g2 S (by simp; omega)), by simp; omega⟩
theorem cases5 (a b f h : List Int) (at_ : Int) (x9 : Option PV) (S : Store) (hf : f.length ≤ 100) (hh : h.length ≤ 100) :
    ∃ cs : List (List Int × List Int), cs.length = 5 ∧ (∀ p ∈ cs, OKp p) ∧ (eLst (aCons (eTup (aCons (eVar 6) (aCons (eArg bTuple (aCons (eLc (iSeq (eVar 7)) (gNm 13) [13] tYesP (eBin oCat (eVar 13) (eLit (.int 3)))) aNil)) aNil))) (aCons (eTup (aCons (eVar 6) (aCons (eRev2 (eVar 7)) aNil))) (aCons (eTup (aCons (eRev2 (eVar 6)) (aCons (eVar 7) aNil))) (aCons (eTup (aCons (eSl (eVar 6) pNo (pSo (eUn oNeg (eLit (.int 1))))) (aCons (eVar 7) aNil))) (aCons (eTup (aCons (eVar 6) (aCons (eSl (eVar 7) pNo (pSo (eUn oNeg (eLit (.int 1))))) aNil))) aNil)))))) [some (.ref 0), some (lI a), some (lI b), some (col a), some (col b), some (mv f h), some (tI f), some (tI h), some (.int at_), x9, none, none, none, none, none] S = .ok (true, .lst (cs.map pT)) S := by
  obtain ⟨f1, e1, l1⟩ := sl_ex none (some (-1)) f S
  obtain ⟨h1, e2, l2⟩ := sl_ex none (some (-1)) h S
  have e3 := lc_int (S := S) (i := iSeq (eVar 7)) (t := gNm 13) (vs := [13]) (c := tYesP) (e := eBin oCat (eVar 13) (eLit (.int 3))) (env := [some (.ref 0), some (lI a), some (lI b), some (col a), some (col b), some (mv f h), some (tI f), some (tI h), some (.int at_), x9, none, none, none, none, none])
    h (fun x => .int x) (fun x => x + 3) (fun _ => true) (fun x => [some (.ref 0), some (lI a), some (lI b), some (col a), some (col b), some (mv f h), some (tI f), some (tI h), some (.int at_), x9, none, none, none, some (.int x), none])
    (seq_it (v := tI h) (k := false) rfl rfl) (by omega) (fun _ _ => rfl) (fun _ _ => rfl) (fun x _ _ => ⟨false, rfl⟩)
  rw [filter_yes] at e3
  refine ⟨[(f, h.map fun x => x + 3), (f, h.reverse), (f.reverse, h), (f1, h), (f, h1)], rfl, ?_, ?_⟩
  · intro p hp
    simp only [List.mem_cons, List.not_mem_nil, or_false] at hp
    rcases hp with rfl | rfl | rfl | rfl | rfl <;> (unfold OKp; simp; omega)
  · refine lst_valD (aconsD (tup2_val (a := eVar 6) (k := false) (v := tI f) rfl (arg1_val e3 (tuple_lst _ S))) (aconsD (tup2_val (a := eVar 6) (k := false) (v := tI f) rfl (revI (a := eVar 7) (k := false) (c := h) rfl)) (aconsD (tup2_val (revI (a := eVar 6) (k := false) (c := f) rfl) (b := eVar 7) (k' := false) (w := tI h) rfl) (aconsD (tup2_val (sl_val (a := eVar 6) (k := false) (v := tI f) rfl (lo := pNo) (hi := pSo (eUn oNeg (eLit (.int 1)))) rfl rfl e1) (b := eVar 7) (k' := false) (w := tI h) rfl) (args1 (tup2_val (a := eVar 6) (k := false) (v := tI f) rfl (sl_val (a := eVar 7) (k := false) (v := tI h) rfl (lo := pNo) (hi := pSo (eUn oNeg (eLit (.int 1)))) rfl rfl e2))))))) (by simp)
theorem cases3 (cf : CF) (a b f h : List Int) (at_ : Int) (C : Nat) (S : Store) (cs : List (List Int × List Int)) (hS : S[C]? = some (.lst (cs.map pT))) (hc : cs.length = 5) (ha : 1 ≤ a.length) (ha2 : a.length ≤ 100) (hf : f.length ≤ 100) (hh : h.length ≤ 100) (hok : ∀ p ∈ cs, OKp p) :
    ∃ cs' : List (List Int × List Int), cs'.length = 8 ∧ (∀ p ∈ cs', OKp p) ∧ eBin oCat (eVar 9) (eLst (aCons (eTup (aCons (eArg bTuple (aCons (eLc (iSeq (eVar 6)) (gNm 14) [14] tYesP (eUn oNeg (eVar 14))) aNil)) (aCons (eVar 7) aNil))) (aCons (eTup (aCons (eVar 6) (aCons (eArg bTuple (aCons (eLc (iSeq (eVar 7)) (gNm 13) [13] tYesP (eUn oNeg (eVar 13))) aNil)) aNil))) (aCons (eTup (aCons (eVar 6) (aCons (eBin oRepT (eTup (aCons (eLit (.int 0)) aNil)) (eLen cf [(0, 3)] (eVar 1))) aNil))) aNil)))) (en25 a b f h at_ C none none none) S = .ok (true, .lst (cs'.map pT)) S := by
  have e3 := lc_int (S := S) (i := iSeq (eVar 6)) (t := gNm 14) (vs := [14]) (c := tYesP) (e := eUn oNeg (eVar 14)) (env := en25 a b f h at_ C none none none)
    f (fun x => .int x) (fun x => -x) (fun _ => true) (fun x => [some (.ref 0), some (lI a), some (lI b), some (col a), some (col b), some (mv f h), some (tI f), some (tI h), some (.int at_), some (.ref C), none, none, none, none, some (.int x)])
    (seq_it (v := tI f) (k := false) rfl rfl) (by omega) (fun _ _ => rfl) (fun _ _ => rfl) (fun x _ _ => ⟨false, negE rfl⟩)
  have e4 := lc_int (S := S) (i := iSeq (eVar 7)) (t := gNm 13) (vs := [13]) (c := tYesP) (e := eUn oNeg (eVar 13)) (env := en25 a b f h at_ C none none none)
    h (fun x => .int x) (fun x => -x) (fun _ => true) (fun x => [some (.ref 0), some (lI a), some (lI b), some (col a), some (col b), some (mv f h), some (tI f), some (tI h), some (.int at_), some (.ref C), none, none, none, some (.int x), none])
    (seq_it (v := tI h) (k := false) rfl rfl) (by omega) (fun _ _ => rfl) (fun _ _ => rfl) (fun x _ _ => ⟨false, negE rfl⟩)
  rw [filter_yes] at e3 e4
  have el := lst_valD (S := S) (aconsD (tup2_val (arg1_val e3 (tuple_lst _ S)) (b := eVar 7) (k' := false) (w := tI h) rfl) (aconsD (tup2_val (a := eVar 6) (k := false) (v := tI f) rfl (arg1_val e4 (tuple_lst _ S))) (args1 (tup2_val (a := eVar 6) (k := false) (v := tI f) rfl (bin_val (o := oRepT) (a := eTup (aCons (eLit (.int 0)) aNil)) (k := false) (v := .tup [.int 0]) rfl (lenL (cf := cf) (tb := [(0, 3)]) (a := eVar 1) (k := false) (c := a) rfl) (repT_one 0 a.length ha (by omega) S)))))) (by simp)
  refine ⟨cs ++ [(f.map fun x => -x, h), (f, h.map fun x => -x), (f, List.replicate a.length 0)], by simp [hc], ?_, ?_⟩
  · intro p hp
    rcases List.mem_append.mp hp with hp | hp
    · exact hok p hp
    · simp only [List.mem_cons, List.not_mem_nil, or_false] at hp
      rcases hp with rfl | rfl | rfl <;> (unfold OKp; simp; omega)
  · refine bin_val (a := eVar 9) (k := false) (v := .ref C) rfl el ?_
    unfold oCat
    simp only [d_ref, hS]
    show (if small ((cs.map pT).length + 3) then some (true, PV.lst (cs.map pT ++ _)) else none) = _
    rw [small_nat (by rw [List.length_map]; omega), if_pos rfl, List.map_append]
    rfl
end
end PX.K63
set_option linter.all false
set_option maxRecDepth 100000
set_option maxHeartbeats 1000000
namespace PX.K63
open PySem PX K22M
section
variable (n : Nat)
abbrev CS : Type := List (List Int × List Int)
theorem appC (cf : CF) (n0 : Nat) (e : SE) (env : Env) (B : Store) (cs : CS) (k : Bool) (p : List Int × List Int) (hn : n0 ≤ B.length) (h9 : eVar 9 env (B ++ [.lst (cs.map pT)]) = .ok (false, .ref B.length) (B ++ [.lst (cs.map pT)])) (he : e env (B ++ [.lst (cs.map pT)]) = .ok (k, pT p) (B ++ [.lst (cs.map pT)])) (hl : cs.length ≤ 1000) :
    sExp (eLm (appL n0) (eVar 9) e) env (B ++ [.lst (cs.map pT)]) = .nx env (B ++ [.lst ((cs ++ [p]).map pT)]) := by
  rw [sexp_app (i := B.length) (xs := cs.map pT) h9 (at_last B _) he hn (by rw [List.length_map]; omega), set_last, List.map_append]
  rfl
noncomputable abbrev M25 (cf : CF) (n0 : Nat) : SS := (sExp (eLm (appL n0) (eVar 9) (eTup (aCons (eVar 6) (aCons (eBin oCat (eBin oCat (eSl (eVar 7) pNo (pSo (eVar 8))) (eTup (aCons (eBin oCat (eIx cf [(0, 4)] (eVar 7) (eVar 8)) (eVar 10)) aNil))) (eSl (eVar 7) (pSo (eBin oCat (eVar 8) (eLit (.int 1)))) pNo)) aNil)))))
theorem more25 (cf : CF) (n0 : Nat) (a b f h : List Int) (at_ m : Int) (B : Store) (cs : CS) (hn : n0 ≤ B.length) (h0 : 0 ≤ at_) (h1 : at_ < h.length) (hh : h.length ≤ 100) (hf : f.length ≤ 100) (hl : cs.length ≤ 1000) (hok : ∀ p ∈ cs, OKp p) :
    ∃ cs' : CS, M25 cf n0 (en25 a b f h at_ B.length (some (.int m)) none none) (B ++ [.lst (cs.map pT)]) = .nx (en25 a b f h at_ B.length (some (.int m)) none none) (B ++ [.lst (cs'.map pT)]) ∧ cs'.length = cs.length + 1 ∧ ∀ p ∈ cs', OKp p := by
  obtain ⟨g', e, l⟩ := insE cf a b f h h 7 at_ m B.length (some (.int m)) none none (B ++ [.lst (cs.map pT)]) (eVar 10) rfl h0 h1 hh rfl
  refine ⟨cs ++ [(f, g')], appC cf n0 _ _ B cs false (f, g') hn rfl (tup2_val (a := eVar 6) (k := false) (v := tI f) rfl e) hl, by simp, fun p hp => ?_⟩
  rcases List.mem_append.mp hp with hp | hp
  · exact hok p hp
  · rw [List.mem_singleton.mp hp]
    exact ⟨by show f.length ≤ 500; omega, by show g'.length ≤ 500; omega⟩
noncomputable abbrev F25 (cf : CF) (n0 : Nat) : SS := (sExp (eLm (appL n0) (eVar 9) (eTup (aCons (eBin oCat (eBin oCat (eSl (eVar 6) pNo (pSo (eVar 8))) (eTup (aCons (eBin oCat (eIx cf [(0, 4)] (eVar 6) (eVar 8)) (eLit (.int 1))) aNil))) (eSl (eVar 6) (pSo (eBin oCat (eVar 8) (eLit (.int 1)))) pNo)) (aCons (eVar 7) aNil)))))
theorem flow25 (cf : CF) (n0 : Nat) (a b f h : List Int) (at_ m : Int) (B : Store) (cs : CS) (hn : n0 ≤ B.length) (h0 : 0 ≤ at_) (h1 : at_ < f.length) (hh : h.length ≤ 100) (hf : f.length ≤ 100) (hl : cs.length ≤ 1000) (hok : ∀ p ∈ cs, OKp p) :
    ∃ cs' : CS, F25 cf n0 (en25 a b f h at_ B.length (some (.int m)) none none) (B ++ [.lst (cs.map pT)]) = .nx (en25 a b f h at_ B.length (some (.int m)) none none) (B ++ [.lst (cs'.map pT)]) ∧ cs'.length = cs.length + 1 ∧ ∀ p ∈ cs', OKp p := by
  obtain ⟨g', e, l⟩ := insE cf a b f h f 6 at_ 1 B.length (some (.int m)) none none (B ++ [.lst (cs.map pT)]) (eLit (.int 1)) rfl h0 h1 hf rfl
  refine ⟨cs ++ [(g', h)], appC cf n0 _ _ B cs false (g', h) hn rfl (tup2_val e (b := eVar 7) (k' := false) (w := tI h) rfl) hl, by simp, fun p hp => ?_⟩
  rcases List.mem_append.mp hp with hp | hp
  · exact hok p hp
  · rw [List.mem_singleton.mp hp]
    exact ⟨by show g'.length ≤ 500; omega, by show h.length ≤ 500; omega⟩
noncomputable abbrev T25 (cf : CF) : SS := (sIf (tBl (eNe cf [(0, 2), (1, 14)] [.non, .bl, .int, .str, .tup, .lst, .dct, .own 0, .own 1] (eMeth cf 3 8 [(1, 15)] (eMake cf 3 1 13 (aCons (eVar 11) (aCons (eVar 12) aNil))) (aCons (eVar 3) (aCons (eVar 4) aNil))) (eCall cf 4 24 (aCons (eVar 1) (aCons (eVar 2) (aCons (eVar 11) (aCons (eVar 12) aNil))))))) (sRet (eLit (.bl false))) sNil)
theorem turn25 {a b : List Int} (F : Fit a b) (f h : List Int) (at_ : Int) (C : Nat) (x10 : Option PV) (T : Store) (p : List Int × List Int) (hp : OKp p) :
    T25 (callF TT (n + 3)) (en25 a b f h at_ C x10 (some (tI p.1)) (some (tI p.2))) T = .nx (en25 a b f h at_ C x10 (some (tI p.1)) (some (tI p.2))) T := by
  have e1 : eMake (callF TT (n + 3)) 3 1 13 (aCons (eVar 11) (aCons (eVar 12) aNil)) (en25 a b f h at_ C x10 (some (tI p.1)) (some (tI p.2))) T = .ok (true, mv p.1 p.2) T :=
    mvmake (n + 2) T (a1 := eVar 11) (a2 := eVar 12) (k1 := false) (k2 := false) (v := tI p.1) (w := tI p.2) p.1 p.2 rfl rfl (fun x => rfl) (fun x => rfl)
  have e2 : eMeth (callF TT (n + 3)) 3 8 [(1, 15)] (eMake (callF TT (n + 3)) 3 1 13 (aCons (eVar 11) (aCons (eVar 12) aNil))) (aCons (eVar 3) (aCons (eVar 4) aNil)) (en25 a b f h at_ C x10 (some (tI p.1)) (some (tI p.2))) T = .ok (false, .bl (showM a b p.1 p.2)) T :=
    methN e1 rfl (args2 (a := eVar 3) (k := false) (v := col a) (b := eVar 4) (k' := false) (w := col b) rfl rfl) rfl (mshowsV n T F p.1 p.2 hp.1 hp.2)
  have e3 : eCall (callF TT (n + 3)) 4 24 (aCons (eVar 1) (aCons (eVar 2) (aCons (eVar 11) (aCons (eVar 12) aNil)))) (en25 a b f h at_ C x10 (some (tI p.1)) (some (tI p.2))) T = .ok (false, .bl (showM a b p.1 p.2)) T :=
    call4 (a := eVar 1) (b := false) (v := lI a) (a2 := eVar 2) (b2 := false) (v2 := lI b) (a3 := eVar 11) (b3 := false) (v3 := tI p.1) (a4 := eVar 12) (b4 := false) (v4 := tI p.2) rfl rfl rfl rfl (lshowV (n + 2) T F p.1 p.2 hp.1 hp.2)
  rw [T25, sif_val (t := false) (tbl_val (k := false) (ne_flat (z := (false, .bl false)) e2 e3 rfl (by rw [oNe_bl, decide_eq_true rfl]; rfl)))]
  rfl
theorem bentV (ns : List Int) (hn : ns.length ≤ 63) (R0 : Store) (k : Nat) {a b : List Int} (F : Fit a b) (f h : List Int) (lf : f.length = a.length - 1) (lh : h.length = a.length) :
    ∃ k', callV (callF TT (n + 4)) 25 [.ref 0, lI a, lI b, col a, col b, mv f h] (DD ns k :: R0) = .ok (false, .bl true) (DD ns k' :: R0) := by
  have hm := F.most
  have h1 := F.one
  obtain ⟨at_, S', v0, v1, ⟨k', rfl⟩, ev⟩ := take0 (n + 1) R0 ns hn a.length (by omega) (S := DD ns k :: R0) ⟨k, rfl⟩ (a := eVar 0) (b := eLen (callF TT (n + 3)) [(0, 3)] (eVar 1)) (k := false) (k' := false) (env := [some (.ref 0), some (lI a), some (lI b), some (col a), some (col b), some (mv f h), none, none, none, none, none, none, none, none, none]) (fun _ => rfl) (fun _ => lenL (a := eVar 1) (k := false) (c := a) rfl)
  refine ⟨k', ?_⟩
  obtain ⟨T, e⟩ : ∃ T, callF TT (n + 4) 25 [.ref 0, lI a, lI b, col a, col b, mv f h] (DD ns k :: R0).length (DD ns k :: R0) = .ok (.bl true) ((DD ns k' :: R0) ++ T) := by
    rw [call_at (b := b25) [some (.ref 0), some (lI a), some (lI b), some (col a), some (col b), some (mv f h), none, none, none, none, none, none, none, none, none] rfl rfl rfl]
    unfold b25
    dsimp only
    have ea : aCons (eFld [1] 4 (eVar 5)) (aCons (eFld [1] 5 (eVar 5)) (aCons (eCall (callF TT (n + 3)) 2 21 (aCons (eVar 0) (aCons (eLen (callF TT (n + 3)) [(0, 3)] (eVar 1)) aNil))) aNil)) [some (.ref 0), some (lI a), some (lI b), some (col a), some (col b), some (mv f h), none, none, none, none, none, none, none, none, none] (DD ns k :: R0) = .ok [tI f, tI h, .int at_] (DD ns k' :: R0) := by
      rw [q_cons, mf4 (DD ns k :: R0) (f := f) (h := h) rfl, R.bind_ok, q_cons, mf5 (DD ns k :: R0) (f := f) (h := h) rfl, R.bind_ok, q_cons, ev, R.bind_ok]
      rfl
    rw [q_scons, spar_val ea (env' := [some (.ref 0), some (lI a), some (lI b), some (col a), some (col b), some (mv f h), some (tI f), some (tI h), some (.int at_), none, none, none, none, none, none]) rfl, RS.then_nx]
    clear ea ev
    rw [show (DD ns k :: R0).length = (DD ns k' :: R0).length from rfl]
    generalize hA : DD ns k' :: R0 = A
    obtain ⟨c5, l5, o5, e5⟩ := cases5 a b f h at_ none A (by omega) (by omega)
    rw [q_scons, sasg_st (i := 9) (new_val e5), RS.then_nx]
    rw [show ([some (.ref 0), some (lI a), some (lI b), some (col a), some (col b), some (mv f h), some (tI f), some (tI h), some (.int at_), none, none, none, none, none, none] : Env).set 9 (some (.ref A.length)) = en25 a b f h at_ A.length none none none from rfl]
    obtain ⟨c8, l8, o8, e8⟩ := cases3 (callF TT (n + 3)) a b f h at_ A.length (A ++ [.lst (c5.map pT)]) c5 (at_last A _) l5 h1 (by omega) (by omega) (by omega) o5
    rw [q_scons, sasg_st (i := 9) (new_val e8), RS.then_nx]
    rw [show (en25 a b f h at_ A.length none none none).set 9 (some (.ref (A ++ [PV.lst (c5.map pT)]).length)) = en25 a b f h at_ (A ++ [PV.lst (c5.map pT)]).length none none none from rfl]
    have hle : A.length ≤ (A ++ [PV.lst (c5.map pT)]).length := by rw [List.length_append]; omega
    generalize hB : A ++ [PV.lst (c5.map pT)] = B at hle ⊢
    obtain ⟨c9, e9, l9, o9⟩ := more25 (callF TT (n + 3)) A.length a b f h at_ 1 B c8 hle v0 (by omega) (by omega) (by omega) (by omega) o8
    obtain ⟨c10, e10, l10, o10⟩ := more25 (callF TT (n + 3)) A.length a b f h at_ (-1) B c9 hle v0 (by omega) (by omega) (by omega) (by omega) o9
    obtain ⟨c11, e11, l11, o11⟩ := more25 (callF TT (n + 3)) A.length a b f h at_ 2 B c10 hle v0 (by omega) (by omega) (by omega) (by omega) o10
    rw [q_scons, q_sfor, seq_it (v := tI [1, -1, 2]) (k := false) (xs := [.int 1, .int (-1), .int 2]) rfl rfl, R.go_ok]
    simp only [q_unl0]
    rw [for_nx (env1 := en25 a b f h at_ B.length (some (.int 1)) none none) rfl e9, for_nx (env1 := en25 a b f h at_ B.length (some (.int (-1))) none none) rfl e10, for_nx (env1 := en25 a b f h at_ B.length (some (.int 2)) none none) rfl e11, q_forN, RS.then_nx]
    have tl : tBl (eBin oLt (eVar 8) (eLen (callF TT (n + 3)) [(0, 3)] (eVar 6))) (en25 a b f h at_ B.length (some (.int 2)) none none) (B ++ [.lst (c11.map pT)]) = .ok (decide (at_ < f.length)) (B ++ [.lst (c11.map pT)]) :=
      tbl_val (k := false) (bin_val (a := eVar 8) (k := false) (v := .int at_) rfl (lenN (a := eVar 6) (k := false) (c := f) rfl) rfl)
    obtain ⟨c12, o12, e12⟩ : ∃ c12 : CS, (∀ p ∈ c12, OKp p) ∧ sIf (tBl (eBin oLt (eVar 8) (eLen (callF TT (n + 3)) [(0, 3)] (eVar 6)))) (F25 (callF TT (n + 3)) A.length) sNil (en25 a b f h at_ B.length (some (.int 2)) none none) (B ++ [.lst (c11.map pT)]) = .nx (en25 a b f h at_ B.length (some (.int 2)) none none) (B ++ [.lst (c12.map pT)]) := by
      rw [sif_val tl]
      by_cases hlt : at_ < f.length
      · obtain ⟨c12, e12, _, o12⟩ := flow25 (callF TT (n + 3)) A.length a b f h at_ 2 B c11 hle v0 hlt (by omega) (by omega) (by omega) o11
        exact ⟨c12, o12, by rw [decide_eq_true hlt, if_pos rfl, e12]⟩
      · exact ⟨c11, o11, by rw [decide_eq_false hlt, if_neg (by simp)]; rfl⟩
    rw [q_scons, show sIf _ _ sNil _ (B ++ [.lst (c11.map pT)]) = _ from e12, RS.then_nx]
    rw [q_scons, q_sfor, seq_own (a := eVar 9) (k := false) (i := B.length) (xs := c12.map pT) rfl (at_last B _), R.go_ok, set_last]
    dsimp only
    obtain ⟨env', S', el, x11, x12, rfl, rfl⟩ := for_inv (t := gTp [(gNm 11), (gNm 12)]) (b := T25 (callF TT (n + 3))) (fun env S => ∃ x11 x12, env = en25 a b f h at_ B.length (some (.int 2)) x11 x12 ∧ S = B ++ [.lck (.lst (c12.map pT))])
      (c12.map pT) (en25 a b f h at_ B.length (some (.int 2)) none none) (B ++ [.lck (.lst (c12.map pT))]) ⟨none, none, rfl, rfl⟩ (fun x hx env S hI => by
        obtain ⟨x11, x12, rfl, rfl⟩ := hI
        obtain ⟨p, hp, rfl⟩ := List.mem_map.mp hx
        exact ⟨_, rfl, _, _, turn25 n F f h at_ B.length (some (.int 2)) _ p (o12 p hp), _, _, rfl, rfl⟩)
    refine ⟨.lst (c5.map pT) :: [.lst (c12.map pT)], ?_⟩
    rw [show forR (gTp [(gNm 11), (gNm 12)]) _ (c12.map pT) _ (B ++ [.lck (.lst (c12.map pT))]) = _ from el]
    show fin ((RS.nx _ ((B ++ [PV.lck (.lst (c12.map pT))]).set B.length (.lst (c12.map pT)))).then _) = _
    rw [set_last, RS.then_nx, sret_val (a := eLit (.bl true)) (k := false) (v := .bl true) rfl, ← hB, List.append_assoc]
    rfl
  exact callV_norm e (norm_bl (DD ns k' :: R0) T true)
end
end PX.K63
set_option linter.all false
set_option maxRecDepth 100000
set_option maxHeartbeats 1000000
namespace PX
open PySem K22M
theorem lz_ints {a b : SE} {env : Env} {S : Store} {k k' : Bool} {x y : List Int} (ha : a env S = .ok (k, .lst (x.map .int)) S) (hb : b env S = .ok (k', .lst (y.map .int)) S) (hl : x.length ≤ 1000) : eLz a b env S = .ok (true, .lst ((x.zip y).map fun p => PV.tup [.int p.1, .int p.2])) S := by
  refine bin_val ha hb ?_
  show (if small (x.map PV.int).length then some (true, PV.lst (zipL (x.map .int) (y.map .int))) else none) = _
  rw [small_nat (by rw [List.length_map]; omega), if_pos rfl, zipL_gen (fun x => PV.int x) (fun x => PV.int x)]
theorem revL {a : SE} {env : Env} {S : Store} {k : Bool} {c : List Int} (ha : a env S = .ok (k, .lst (c.map .int)) S) : eRev2 a env S = .ok (true, .lst (c.reverse.map .int)) S := by
  unfold eRev2
  rw [ha, R.bind_ok]
  show R.ok (true, PV.lst (c.map .int).reverse) S = _
  rw [List.map_reverse]
end PX
namespace PX.K63
open PySem PX K22M
theorem mem_le_sum : ∀ (l : List Int), (∀ c ∈ l, 0 ≤ c) → ∀ c ∈ l, c ≤ l.sum
  | [], _, c, h => absurd h (by simp)
  | x :: l, hp, c, h => by
    have hs := sumP l fun y hy => hp y (List.mem_cons_of_mem _ hy)
    have h0 := hp x List.mem_cons_self
    rw [List.sum_cons]
    rcases List.mem_cons.mp h with rfl | h
    · omega
    · have := mem_le_sum l (fun y hy => hp y (List.mem_cons_of_mem _ hy)) c h
      omega
theorem fit_of {a b : List Int} {r : Nat} (hr : r ≤ 8) (hl : a.length = b.length) (h1 : 1 ≤ a.length) (h2 : a.length ≤ 12) (sa : a.sum = r) (sb : b.sum = r) (pa : ∀ c ∈ a, 0 ≤ c) (pb : ∀ c ∈ b, 0 ≤ c) : Fit a b :=
  ⟨h1, h2, hl, by omega, fun c hc => ⟨pa c hc, by have := mem_le_sum a pa c hc; omega⟩, fun c hc => ⟨pb c hc, by have := mem_le_sum b pb c hc; omega⟩⟩
theorem Fit.swap {a b : List Int} (F : Fit a b) : Fit b a := ⟨by have := F.one; have := F.len; omega, by have := F.most; have := F.len; omega, F.len.symm, F.sum.symm, F.db, F.da⟩
theorem Fit.self {a b : List Int} (F : Fit a b) : Fit a a := ⟨F.one, F.most, rfl, rfl, F.da, F.da⟩
theorem sum_rev : ∀ l : List Int, l.reverse.sum = l.sum
  | [] => rfl
  | x :: l => by
    rw [List.reverse_cons, List.sum_append, sum_rev l, List.sum_cons]
    simp
    omega
theorem Fit.rev {a b : List Int} (F : Fit a b) : Fit a b.reverse := ⟨F.one, F.most, by rw [List.length_reverse]; exact F.len, by rw [sum_rev]; exact F.sum, F.da, fun c hc => F.db c (List.mem_reverse.mp hc)⟩
section
variable (n : Nat)
abbrev en26 (ns : List Int) (x2 x3 x4 x5 x6 x7 x8 x9 x10 x11 x12 x13 : Option PV) : Env := [some (.lst (ns.map .int)), some (.ref 0), x2, x3, x4, x5, x6, x7, x8, x9, x10, x11, x12, x13]
abbrev NE (cf : CF) (a b : SE) : ST := tBl (eNe cf [(0, 2), (1, 14)] [.non, .bl, .int, .str, .tup, .lst, .dct, .own 0, .own 1] a b)
abbrev C2e (cf : CF) (f i j : Nat) : SE := eCall cf 2 f (aCons (eVar i) (aCons (eVar j) aNil))
theorem ne_same {cf : CF} {a b : SE} {env : Env} {S : Store} {k k' : Bool} {v w : Int} (ha : a env S = .ok (k, .int v) S) (hb : b env S = .ok (k', .int w) S) (h : v = w) : NE cf a b env S = .ok false S :=
  tbl_val (k := false) (ne_flat (z := (false, .bl false)) ha hb rfl (by rw [oNe_int', decide_eq_true h]; rfl))
theorem gt_no {a b : SE} {env : Env} {S : Store} {k k' : Bool} {v w : Int} (ha : a env S = .ok (k, .int v) S) (hb : b env S = .ok (k', .int w) S) (h : v ≤ w) : tBl (eBin oGt a b) env S = .ok false S :=
  tbl_val (k := false) (bin_val ha hb (by
    show some (false, PV.bl (decide (w < v))) = _
    rw [decide_eq_false (by omega)]))
theorem drawP (ns : List Int) (hn : ns.length ≤ 63) (k : Nat) (most many : Int) (m1 : 1 ≤ most) (m2 : most ≤ 12) (h1 : 1 ≤ many) (h2 : many ≤ 9) (x2 x3 x4 x5 x6 x7 x8 x9 x10 x11 x12 x13 : Option PV) :
    ∃ (k' : Nat) (a b : List Int) (r : Nat), sAsg (gTpB [(gNm 3), (gNm 4)]) (eCall (callF TT (n + 3)) 3 22 (aCons (eVar 1) (aCons (eLit (.int most)) (aCons (eCall (callF TT (n + 3)) 2 21 (aCons (eVar 1) (aCons (eLit (.int many)) aNil))) aNil)))) (en26 ns x2 x3 x4 x5 x6 x7 x8 x9 x10 x11 x12 x13) [DD ns k] = .nx (en26 ns x2 (some (lI a)) (some (lI b)) x5 x6 x7 x8 x9 x10 x11 x12 x13) [DD ns k'] ∧ (r : Int) < many ∧ Fit a b ∧ (a.length : Int) ≤ most ∧ a.sum = r ∧ b.sum = r := by
  obtain ⟨v, S', v0, v1, ⟨k1, rfl⟩, ev⟩ := take0 (n + 1) [] ns hn many (by omega) (S := [DD ns k]) ⟨k, rfl⟩ (a := eVar 1) (b := eLit (.int many)) (k := false) (k' := false) (env := en26 ns x2 x3 x4 x5 x6 x7 x8 x9 x10 x11 x12 x13) (fun _ => rfl) (fun _ => rfl)
  obtain ⟨r, rfl⟩ : ∃ r : Nat, v = r := ⟨v.toNat, by omega⟩
  obtain ⟨k', a, b, ep, hl, h1', h2', sa, sb, pa, pb⟩ := pairV n ns hn [] k1 most m1 m2 r (by omega)
  refine ⟨k', a, b, r, ?_, v1, fit_of (r := r) (by omega) hl h1' (by omega) sa sb pa pb, h2', sa, sb⟩
  have e : eCall (callF TT (n + 3)) 3 22 (aCons (eVar 1) (aCons (eLit (.int most)) (aCons (eCall (callF TT (n + 3)) 2 21 (aCons (eVar 1) (aCons (eLit (.int many)) aNil))) aNil))) (en26 ns x2 x3 x4 x5 x6 x7 x8 x9 x10 x11 x12 x13) [DD ns k] = .ok (true, .lst [lI a, lI b]) [DD ns k'] := by
    have ea : aCons (eVar 1) (aCons (eLit (.int most)) (aCons (eCall (callF TT (n + 3)) 2 21 (aCons (eVar 1) (aCons (eLit (.int many)) aNil))) aNil)) (en26 ns x2 x3 x4 x5 x6 x7 x8 x9 x10 x11 x12 x13) [DD ns k] = .ok [.ref 0, .int most, .int (r : Nat)] [DD ns k1] := by
      rw [q_cons, show eVar 1 (en26 ns x2 x3 x4 x5 x6 x7 x8 x9 x10 x11 x12 x13) [DD ns k] = .ok (false, .ref 0) [DD ns k] from rfl, R.bind_ok, q_cons, show eLit (.int most) (en26 ns x2 x3 x4 x5 x6 x7 x8 x9 x10 x11 x12 x13) [DD ns k] = .ok (false, .int most) [DD ns k] from rfl, R.bind_ok, q_cons, ev, R.bind_ok]
      rfl
    rw [q_call, ea, R.bind_ok, if_pos (by rfl), ep]
  rw [q_sasg, e, R.go_ok]
  rfl
noncomputable abbrev A1 (cf : CF) : SS := (sCons (sAsg (gTpB [(gNm 3), (gNm 4)]) (eCall cf 3 22 (aCons (eVar 1) (aCons (eLit (.int 4)) (aCons (eCall cf 2 21 (aCons (eVar 1) (aCons (eLit (.int 5)) aNil))) aNil))))) (sCons (sPar [5, 6] (aCons (eMake cf 2 0 1 (aCons (eVar 3) aNil)) (aCons (eMake cf 2 0 1 (aCons (eVar 4) aNil)) aNil))) (sIf (tOr (tBl (eNe cf [(0, 2), (1, 14)] [.non, .bl, .int, .str, .tup, .lst, .dct, .own 0, .own 1] (eCall cf 2 16 (aCons (eVar 5) (aCons (eVar 6) aNil))) (eCall cf 2 23 (aCons (eVar 3) (aCons (eVar 4) aNil))))) (tBl (eNe cf [(0, 2), (1, 14)] [.non, .bl, .int, .str, .tup, .lst, .dct, .own 0, .own 1] (eCall cf 2 16 (aCons (eVar 6) (aCons (eVar 5) aNil))) (eCall cf 2 16 (aCons (eVar 5) (aCons (eVar 6) aNil)))))) (sRet (eLit (.bl false))) sNil)))
theorem stepsE {a b : List Int} (F : Fit a b) (i j : Nat) (env : Env) (S : Store) (hi : env[i]? = some (some (col a))) (hj : env[j]? = some (some (col b))) : C2e (callF TT (n + 3)) 16 i j env S = .ok (false, .int (stepsL a b)) S :=
  call2 (b := false) (v := col a) (b2 := false) (v2 := col b) (by rw [q_var, hi]) (by rw [q_var, hj]) (stepsV n S F)
theorem makeE (cs : List Int) (i : Nat) (env : Env) (S : Store) (h1 : 1 ≤ cs.length) (h2 : cs.length ≤ 12) (hd : ∀ c ∈ cs, dig c) (hi : env[i]? = some (some (lI cs))) : eMake (callF TT (n + 3)) 2 0 1 (aCons (eVar i) aNil) env S = .ok (true, col cs) S :=
  cmake (k1 := false) (n + 1) false cs h1 h2 hd (by rw [q_var, hi]; rfl)
theorem turnA (ns : List Int) (hn : ns.length ≤ 63) (k : Nat) (x2 x3 x4 x5 x6 x7 x8 x9 x10 x11 x12 x13 : Option PV) :
    ∃ (k' : Nat) (y3 y4 y5 y6 : Option PV), A1 (callF TT (n + 3)) (en26 ns x2 x3 x4 x5 x6 x7 x8 x9 x10 x11 x12 x13) [DD ns k] = .nx (en26 ns x2 y3 y4 y5 y6 x7 x8 x9 x10 x11 x12 x13) [DD ns k'] := by
  obtain ⟨k', a, b, r, e1, hr, F, hw, sa, sb⟩ := drawP n ns hn k 4 5 (by omega) (by omega) (by omega) (by omega) x2 x3 x4 x5 x6 x7 x8 x9 x10 x11 x12 x13
  refine ⟨k', some (lI a), some (lI b), some (col a), some (col b), ?_⟩
  have F' := F.swap
  rw [A1, q_scons, e1, RS.then_nx, q_scons, spar_val (args2 (makeE n a 3 _ _ F.one F.most F.da rfl) (makeE n b 4 _ _ F'.one F'.most F.db rfl)) (env' := en26 ns x2 (some (lI a)) (some (lI b)) (some (col a)) (some (col b)) x7 x8 x9 x10 x11 x12 x13) rfl, RS.then_nx]
  obtain ⟨d, hd, es, hin, hno, hsm⟩ := search_ok a b r (by omega) F.len (by omega) (fun c hc => (F.da c hc).1) (fun c hc => (F.db c hc).1) sa sb
  have s1 := stepsE n F 5 6 (en26 ns x2 (some (lI a)) (some (lI b)) (some (col a)) (some (col b)) x7 x8 x9 x10 x11 x12 x13) [DD ns k'] rfl rfl
  have s2 := stepsE n F' 6 5 (en26 ns x2 (some (lI a)) (some (lI b)) (some (col a)) (some (col b)) x7 x8 x9 x10 x11 x12 x13) [DD ns k'] rfl rfl
  have s3 : C2e (callF TT (n + 3)) 23 3 4 (en26 ns x2 (some (lI a)) (some (lI b)) (some (col a)) (some (col b)) x7 x8 x9 x10 x11 x12 x13) [DD ns k'] = .ok (false, .int d) [DD ns k'] :=
    call2 (a := eVar 3) (b := false) (v := lI a) (a2 := eVar 4) (b2 := false) (v2 := lI b) rfl rfl (searchV (n + 2) [DD ns k'] a b (by have := F.most; omega) d (by omega) hsm hin hno)
  rw [sif_val (t := false) (by
    rw [tor_val (ne_same s1 s3 es), if_neg (by simp)]
    exact ne_same s2 s1 (steps_comm F.len))]
  rfl
noncomputable abbrev A2 (cf : CF) : SS := (sCons (sAsg (gTpB [(gNm 3), (gNm 4)]) (eCall cf 3 22 (aCons (eVar 1) (aCons (eLit (.int 12)) (aCons (eCall cf 2 21 (aCons (eVar 1) (aCons (eLit (.int 9)) aNil))) aNil))))) (sCons (sPar [5, 6, 7] (aCons (eMake cf 2 0 1 (aCons (eVar 3) aNil)) (aCons (eMake cf 2 0 1 (aCons (eVar 4) aNil)) (aCons (eMake cf 2 0 1 (aCons (eRev2 (eVar 3)) aNil)) aNil)))) (sCons (sAsg (gNm 8) (eLz (eMeth cf 1 7 [(0, 9)] (eVar 5) aNil) (eMeth cf 1 7 [(0, 9)] (eVar 6) aNil))) (sCons (sAsg (gNm 9) (eLc (iSeq (eVar 8)) (gTp [(gNm 11), (gNm 12)]) [11, 12] tYesP (eArg bAbs (aCons (eBin oSub (eVar 11) (eVar 12)) aNil)))) (sCons (sIf (tOr (tBl (eNe cf [(0, 2), (1, 14)] [.non, .bl, .int, .str, .tup, .lst, .dct, .own 0, .own 1] (eCall cf 2 16 (aCons (eVar 5) (aCons (eVar 6) aNil))) (eArg bSum (aCons (eVar 9) aNil)))) (tBl (eNe cf [(0, 2), (1, 14)] [.non, .bl, .int, .str, .tup, .lst, .dct, .own 0, .own 1] (eCall cf 2 19 (aCons (eVar 5) (aCons (eVar 6) aNil))) (eArg bMaxL (aCons (eBin oCat (eLst (aCons (eLit (.int 0)) aNil)) (eVar 9)) aNil))))) (sRet (eLit (.bl false))) sNil) (sCons (sIf (tBl (eNe cf [(0, 2), (1, 14)] [.non, .bl, .int, .str, .tup, .lst, .dct, .own 0, .own 1] (eCall cf 2 18 (aCons (eVar 5) (aCons (eVar 6) aNil))) (eBin oSub (eLen cf [(0, 3)] (eLc (iSeq (eMeth cf 1 7 [(0, 9)] (eVar 5) aNil)) (gNm 11) [11] tYesP (eLit (.int 0)))) (eArg bSum (aCons (eLc (iZip (eVar 3) (eVar 4)) (gTp [(gNm 13), (gNm 12)]) [13, 12] tYesP (eArg bMin2 (aCons (eVar 13) (aCons (eVar 12) aNil)))) aNil))))) (sRet (eLit (.bl false))) sNil) (sCons (sIf (tBl (eBin oGt (eCall cf 2 18 (aCons (eVar 5) (aCons (eVar 6) aNil))) (eCall cf 2 16 (aCons (eVar 5) (aCons (eVar 6) aNil))))) (sRet (eLit (.bl false))) sNil) (sCons (sIf (tBl (eBin oGt (eCall cf 2 16 (aCons (eVar 5) (aCons (eVar 7) aNil))) (eBin oCat (eCall cf 2 16 (aCons (eVar 5) (aCons (eVar 6) aNil))) (eCall cf 2 16 (aCons (eVar 6) (aCons (eVar 7) aNil)))))) (sRet (eLit (.bl false))) sNil) (sCons (sAsg (gNm 10) (eCall cf 2 17 (aCons (eVar 5) (aCons (eVar 6) aNil)))) (sCons (sIf (tOr (tNo (tTru (eCall cf 4 24 (aCons (eVar 3) (aCons (eVar 4) (aCons (eFld [1] 4 (eVar 10)) (aCons (eFld [1] 5 (eVar 10)) aNil))))))) (tBl (eBin oNotB (eMeth cf 3 8 [(1, 15)] (eVar 10) (aCons (eVar 5) (aCons (eVar 6) aNil))) (eLit (.bl true))))) (sRet (eLit (.bl false))) sNil) (sIf (tNo (tTru (eCall cf 6 25 (aCons (eVar 1) (aCons (eVar 3) (aCons (eVar 4) (aCons (eVar 5) (aCons (eVar 6) (aCons (eVar 10) aNil))))))))) (sRet (eLit (.bl false))) sNil)))))))))))
theorem turnB (ns : List Int) (hn : ns.length ≤ 63) (k : Nat) (x2 x3 x4 x5 x6 x7 x8 x9 x10 x11 x12 x13 : Option PV) :
    ∃ (k' : Nat) (y3 y4 y5 y6 y7 y8 y9 y10 : Option PV), A2 (callF TT (n + 4)) (en26 ns x2 x3 x4 x5 x6 x7 x8 x9 x10 x11 x12 x13) [DD ns k] = .nx (en26 ns x2 y3 y4 y5 y6 y7 y8 y9 y10 x11 x12 x13) [DD ns k'] := by
  obtain ⟨k1, a, b, r, e1, hr, F, hw, sa, sb⟩ := drawP (n + 1) ns hn k 12 9 (by omega) (by omega) (by omega) (by omega) x2 x3 x4 x5 x6 x7 x8 x9 x10 x11 x12 x13
  have F' := F.swap
  have hm := F.most
  have hl := F.len
  have flen : (flowsL a b).length = a.length - 1 := flows_len a b
  have hlen : (hts 0 (flowsL a b)).length = a.length := by rw [hts_len, flen]; have := F.one; omega
  obtain ⟨k', e25⟩ := bentV n ns hn [] k1 F (flowsL a b) (hts 0 (flowsL a b)) flen hlen
  refine ⟨k', some (lI a), some (lI b), some (col a), some (col b), some (col a.reverse), some (.lst (((lineF a 0).zip (lineF b 0)).map fun p => PV.tup [.int p.1, .int p.2])), some (lI (gaps (lineF a 0) (lineF b 0))), some (mv (flowsL a b) (hts 0 (flowsL a b))), ?_⟩
  rw [A2, q_scons, e1, RS.then_nx]
  have hrev : eMake (callF TT (n + 4)) 2 0 1 (aCons (eRev2 (eVar 3)) aNil) (en26 ns x2 (some (lI a)) (some (lI b)) x5 x6 x7 x8 x9 x10 x11 x12 x13) [DD ns k1] = .ok (true, col a.reverse) [DD ns k1] :=
    cmake (k1 := true) (n + 2) false a.reverse (by rw [List.length_reverse]; exact F.one) (by rw [List.length_reverse]; exact hm) (fun c hc => F.da c (List.mem_reverse.mp hc)) (revL (a := eVar 3) (k := false) (c := a) rfl)
  rw [q_scons, spar_val (args3 (makeE (n + 1) a 3 _ _ F.one F.most F.da rfl) (makeE (n + 1) b 4 _ _ F'.one F'.most F.db rfl) hrev) (env' := en26 ns x2 (some (lI a)) (some (lI b)) (some (col a)) (some (col b)) (some (col a.reverse)) x8 x9 x10 x11 x12 x13) rfl, RS.then_nx]
  have ll := line_le hm F.da
  rw [q_scons, sasg_val (lz_ints (sortE (n + 3) [DD ns k1] hm F.da rfl) (sortE (n + 3) [DD ns k1] F'.most F.db rfl) (by omega)), RS.then_nx]
  rw [show (en26 ns x2 (some (lI a)) (some (lI b)) (some (col a)) (some (col b)) (some (col a.reverse)) x8 x9 x10 x11 x12 x13).set 8 (some (.lst (((lineF a 0).zip (lineF b 0)).map fun p => PV.tup [.int p.1, .int p.2]))) = en26 ns x2 (some (lI a)) (some (lI b)) (some (col a)) (some (col b)) (some (col a.reverse)) (some (.lst (((lineF a 0).zip (lineF b 0)).map fun p => PV.tup [.int p.1, .int p.2]))) x9 x10 x11 x12 x13 from rfl]
  generalize hZ : some (PV.lst (((lineF a 0).zip (lineF b 0)).map fun p => PV.tup [.int p.1, .int p.2])) = Z
  have e9 := lc_int (S := [DD ns k1]) (i := iSeq (eVar 8)) (t := gTp [(gNm 11), (gNm 12)]) (vs := [11, 12]) (c := tYesP) (e := eArg bAbs (aCons (eBin oSub (eVar 11) (eVar 12)) aNil)) (env := en26 ns x2 (some (lI a)) (some (lI b)) (some (col a)) (some (col b)) (some (col a.reverse)) Z x9 x10 x11 x12 x13)
    ((lineF a 0).zip (lineF b 0)) (fun p => PV.tup [.int p.1, .int p.2]) (fun p => absI (p.1 - p.2)) (fun _ => true) (fun p => en26 ns x2 (some (lI a)) (some (lI b)) (some (col a)) (some (col b)) (some (col a.reverse)) Z x9 x10 (some (.int p.1)) (some (.int p.2)) x13)
    (by rw [← hZ]; exact seq_it (v := .lst (((lineF a 0).zip (lineF b 0)).map fun p => PV.tup [.int p.1, .int p.2])) (k := false) rfl rfl) (by rw [List.length_zip]; omega) (fun _ _ => rfl) (fun _ _ => rfl)
    (fun p _ _ => ⟨false, arg1_val (bin_val (o := oSub) (a := eVar 11) (k := false) (v := .int p.1) (b := eVar 12) (k' := false) (w := .int p.2) rfl rfl rfl) rfl⟩)
  rw [filter_yes, ← gaps_zip] at e9
  rw [q_scons, sasg_val e9, RS.then_nx]
  rw [show (en26 ns x2 (some (lI a)) (some (lI b)) (some (col a)) (some (col b)) (some (col a.reverse)) Z x9 x10 x11 x12 x13).set 9 (some (.lst ((gaps (lineF a 0) (lineF b 0)).map .int))) = en26 ns x2 (some (lI a)) (some (lI b)) (some (col a)) (some (col b)) (some (col a.reverse)) Z (some (lI (gaps (lineF a 0) (lineF b 0)))) x10 x11 x12 x13 from rfl]
  have hg : (gaps (lineF a 0) (lineF b 0)).length ≤ 108 := by
    rw [gaps_zip, List.length_map, List.length_zip]
    omega
  generalize hE : en26 ns x2 (some (lI a)) (some (lI b)) (some (col a)) (some (col b)) (some (col a.reverse)) Z (some (lI (gaps (lineF a 0) (lineF b 0)))) x10 x11 x12 x13 = E
  have i3 : E[3]? = some (some (lI a)) := by rw [← hE]; rfl
  have i4 : E[4]? = some (some (lI b)) := by rw [← hE]; rfl
  have i5 : E[5]? = some (some (col a)) := by rw [← hE]; rfl
  have i6 : E[6]? = some (some (col b)) := by rw [← hE]; rfl
  have i7 : E[7]? = some (some (col a.reverse)) := by rw [← hE]; rfl
  have i9 : E[9]? = some (some (lI (gaps (lineF a 0) (lineF b 0)))) := by rw [← hE]; rfl
  have v9 : eVar 9 E [DD ns k1] = .ok (false, lI (gaps (lineF a 0) (lineF b 0))) [DD ns k1] := by rw [q_var, i9]
  have s1 := stepsE (n + 1) F 5 6 E [DD ns k1] i5 i6
  have hgs := gaps_steps F.one F.len F.sum (fun c hc => (F.da c hc).1) (fun c hc => (F.db c hc).1)
  have s19 : C2e (callF TT (n + 4)) 19 5 6 E [DD ns k1] = .ok (false, .int (mx (0 :: gaps (lineF a 0) (lineF b 0)))) [DD ns k1] :=
    call2 (b := false) (v := col a) (b2 := false) (v2 := col b) (by rw [q_var, i5]) (by rw [q_var, i6]) (farV (n + 1) [DD ns k1] F)
  have smx : eArg bMaxL (aCons (eBin oCat (eLst (aCons (eLit (.int 0)) aNil)) (eVar 9)) aNil) E [DD ns k1] = .ok (false, .int (mx (0 :: gaps (lineF a 0) (lineF b 0)))) [DD ns k1] :=
    arg1_val (bin_val (o := oCat) (a := eLst (aCons (eLit (.int 0)) aNil)) (k := true) (v := .lst [.int 0]) rfl v9 (cat_lst [.int 0] ((gaps (lineF a 0) (lineF b 0)).map .int) _ (by rw [List.length_map, List.length_singleton]; omega))) (mx_lst (0 :: gaps (lineF a 0) (lineF b 0)) (by simp) _)
  rw [q_scons, sif_val (t := false) (by
    rw [tor_val (ne_same s1 (arg1_val v9 (bSum_lst _ _)) hgs.symm), if_neg (by simp)]
    exact ne_same s19 smx rfl), if_neg (by simp), q_snil, RS.then_nx]
  have s18 : C2e (callF TT (n + 4)) 18 5 6 E [DD ns k1] = .ok (false, .int (chg a b)) [DD ns k1] :=
    call2 (b := false) (v := col a) (b2 := false) (v2 := col b) (by rw [q_var, i5]) (by rw [q_var, i6]) (fewestV (n + 1) [DD ns k1] F)
  have z1 := lc_int (S := [DD ns k1]) (i := iSeq (eMeth (callF TT (n + 4)) 1 7 [(0, 9)] (eVar 5) aNil)) (t := gNm 11) (vs := [11]) (c := tYesP) (e := eLit (.int 0)) (env := E)
    (lineF a 0) (fun x => .int x) (fun _ => 0) (fun _ => true) (fun x => en26 ns x2 (some (lI a)) (some (lI b)) (some (col a)) (some (col b)) (some (col a.reverse)) Z (some (lI (gaps (lineF a 0) (lineF b 0)))) x10 (some (.int x)) x12 x13)
    (seq_it (v := .lst ((lineF a 0).map .int)) (k := true) rfl (sortE (n + 3) [DD ns k1] hm F.da i5)) (by omega) (fun _ _ => by rw [← hE]; rfl) (fun _ _ => rfl) (fun x _ _ => ⟨false, rfl⟩)
  rw [filter_yes] at z1
  have z2 := lc_int (S := [DD ns k1]) (i := iZip (eVar 3) (eVar 4)) (t := gTp [(gNm 13), (gNm 12)]) (vs := [13, 12]) (c := tYesP) (e := eArg bMin2 (aCons (eVar 13) (aCons (eVar 12) aNil))) (env := E)
    (a.zip b) (fun p => PV.tup [.int p.1, .int p.2]) (fun p => if p.2 < p.1 then p.2 else p.1) (fun _ => true) (fun p => en26 ns x2 (some (lI a)) (some (lI b)) (some (col a)) (some (col b)) (some (col a.reverse)) Z (some (lI (gaps (lineF a 0) (lineF b 0)))) x10 x11 (some (.int p.2)) (some (.int p.1)))
    (by rw [zip_it (eVar 3) (eVar 4) E _ false false (lI a) (lI b) _ _ rfl rfl (by rw [q_var, i3]) (by rw [q_var, i4]), zipL_gen (fun x => PV.int x) (fun x => PV.int x)]) (by rw [List.length_zip]; omega) (fun _ _ => by rw [← hE]; rfl) (fun _ _ => rfl)
    (fun p _ _ => ⟨false, arg2_val (a := eVar 13) (k := false) (v := .int p.1) rfl (b := eVar 12) (k' := false) (w := .int p.2) rfl rfl⟩)
  rw [filter_yes] at z2
  have hchg : chg a b = (((lineF a 0).map fun _ => (0 : Int)).length : Int) - ((a.zip b).map fun p => if p.2 < p.1 then p.2 else p.1).sum := by
    rw [List.length_map, lineF_len a 0 fun c hc => (F.da c hc).1, ← mins_zip, chg_mins a b F.len]
  rw [q_scons, sif_val (t := false) (ne_same s18 (bin_val (o := oSub) (lenL z1) (arg1_val z2 (bSum_lst _ _)) rfl) hchg), if_neg (by simp), q_snil, RS.then_nx]
  rw [q_scons, sif_val (t := false) (gt_no s18 s1 (chg_steps F.one F.len F.sum)), if_neg (by simp), q_snil, RS.then_nx]
  have s57 := stepsE (n + 1) F.self.rev 5 7 E [DD ns k1] i5 i7
  have s67 := stepsE (n + 1) F'.rev 6 7 E [DD ns k1] i6 i7
  rw [q_scons, sif_val (t := false) (gt_no s57 (bin_val s1 s67 (cat_int _ _ _)) (steps_tri F.len (by rw [List.length_reverse]))), if_neg (by simp), q_snil, RS.then_nx]
  have s17 : C2e (callF TT (n + 4)) 17 5 6 E [DD ns k1] = .ok (false, mv (flowsL a b) (hts 0 (flowsL a b))) [DD ns k1] :=
    call2 (b := false) (v := col a) (b2 := false) (v2 := col b) (by rw [q_var, i5]) (by rw [q_var, i6]) (movesV (n + 1) [DD ns k1] F)
  rw [q_scons, sasg_val s17, RS.then_nx, ← hE]
  rw [show (en26 ns x2 (some (lI a)) (some (lI b)) (some (col a)) (some (col b)) (some (col a.reverse)) Z (some (lI (gaps (lineF a 0) (lineF b 0)))) x10 x11 x12 x13).set 10 (some (mv (flowsL a b) (hts 0 (flowsL a b)))) = en26 ns x2 (some (lI a)) (some (lI b)) (some (col a)) (some (col b)) (some (col a.reverse)) Z (some (lI (gaps (lineF a 0) (lineF b 0)))) (some (mv (flowsL a b) (hts 0 (flowsL a b)))) x11 x12 x13 from rfl]
  have hsh := show_moved F.one F.len F.sum
  have t24 : eCall (callF TT (n + 4)) 4 24 (aCons (eVar 3) (aCons (eVar 4) (aCons (eFld [1] 4 (eVar 10)) (aCons (eFld [1] 5 (eVar 10)) aNil)))) (en26 ns x2 (some (lI a)) (some (lI b)) (some (col a)) (some (col b)) (some (col a.reverse)) Z (some (lI (gaps (lineF a 0) (lineF b 0)))) (some (mv (flowsL a b) (hts 0 (flowsL a b)))) x11 x12 x13) [DD ns k1] = .ok (false, .bl true) [DD ns k1] :=
    call4 (a := eVar 3) (b := false) (v := lI a) (a2 := eVar 4) (b2 := false) (v2 := lI b) rfl rfl (mf4 _ rfl) (mf5 _ rfl) (by rw [lshowV (n + 3) [DD ns k1] F (flowsL a b) (hts 0 (flowsL a b)) (by omega) (by omega), hsh])
  have t15 : eMeth (callF TT (n + 4)) 3 8 [(1, 15)] (eVar 10) (aCons (eVar 5) (aCons (eVar 6) aNil)) (en26 ns x2 (some (lI a)) (some (lI b)) (some (col a)) (some (col b)) (some (col a.reverse)) Z (some (lI (gaps (lineF a 0) (lineF b 0)))) (some (mv (flowsL a b) (hts 0 (flowsL a b)))) x11 x12 x13) [DD ns k1] = .ok (false, .bl true) [DD ns k1] :=
    methN (o := eVar 10) (b := false) (v := mv (flowsL a b) (hts 0 (flowsL a b))) rfl rfl (args2 (a := eVar 5) (k := false) (v := col a) (b := eVar 6) (k' := false) (w := col b) rfl rfl) rfl (by rw [mshowsV (n + 1) [DD ns k1] F (flowsL a b) (hts 0 (flowsL a b)) (by omega) (by omega), hsh])
  rw [q_scons, sif_val (t := false) (by
    rw [tor_val (tno_val (ttru_bl t24)), Bool.not_true, if_neg (by simp)]
    exact tbl_val (k := false) (bin_val t15 (b := eLit (.bl true)) (k' := false) (w := .bl true) rfl rfl)), if_neg (by simp), q_snil, RS.then_nx]
  have t25 : eCall (callF TT (n + 4)) 6 25 (aCons (eVar 1) (aCons (eVar 3) (aCons (eVar 4) (aCons (eVar 5) (aCons (eVar 6) (aCons (eVar 10) aNil)))))) (en26 ns x2 (some (lI a)) (some (lI b)) (some (col a)) (some (col b)) (some (col a.reverse)) Z (some (lI (gaps (lineF a 0) (lineF b 0)))) (some (mv (flowsL a b) (hts 0 (flowsL a b)))) x11 x12 x13) [DD ns k1] = .ok (false, .bl true) [DD ns k'] := by
    rw [q_call, show aCons (eVar 1) (aCons (eVar 3) (aCons (eVar 4) (aCons (eVar 5) (aCons (eVar 6) (aCons (eVar 10) aNil))))) (en26 ns x2 (some (lI a)) (some (lI b)) (some (col a)) (some (col b)) (some (col a.reverse)) Z (some (lI (gaps (lineF a 0) (lineF b 0)))) (some (mv (flowsL a b) (hts 0 (flowsL a b)))) x11 x12 x13) [DD ns k1] = .ok [.ref 0, lI a, lI b, col a, col b, mv (flowsL a b) (hts 0 (flowsL a b))] [DD ns k1] from rfl, R.bind_ok, if_pos (by rfl), e25]
  rw [sif_st (t := false) (by
    show ((tTru (eCall (callF TT (n + 4)) 6 25 _) _ _).bind fun b S1 => R.ok (!b) S1) = _
    rw [show tTru (eCall (callF TT (n + 4)) 6 25 (aCons (eVar 1) (aCons (eVar 3) (aCons (eVar 4) (aCons (eVar 5) (aCons (eVar 6) (aCons (eVar 10) aNil))))))) (en26 ns x2 (some (lI a)) (some (lI b)) (some (col a)) (some (col b)) (some (col a.reverse)) Z (some (lI (gaps (lineF a 0) (lineF b 0)))) (some (mv (flowsL a b) (hts 0 (flowsL a b)))) x11 x12 x13) [DD ns k1] = .ok true [DD ns k'] by
      unfold tTru
      rw [t25, R.bind_ok]
      rfl, R.bind_ok]
    rfl), if_neg (by simp), q_snil, ← hZ]
theorem law_eval (ns : List Int) (h : ns.length ≤ 63) : ∃ S', callF TT 60 26 [.lst (ns.map .int)] 0 [] = .ok (.bl true) S' := by
  obtain ⟨env1, S1, l1, x2, x3, x4, x5, x6, x7, x8, x9, x10, x11, x12, x13, k1, rfl, rfl⟩ := for_inv (t := gNm 2) (b := A1 (callF TT 59)) (fun env S => ∃ x2 x3 x4 x5 x6 x7 x8 x9 x10 x11 x12 x13 k, env = en26 ns x2 x3 x4 x5 x6 x7 x8 x9 x10 x11 x12 x13 ∧ S = [DD ns k])
    (rngL 0 2) (en26 ns none none none none none none none none none none none none) [DD ns 0] ⟨none, none, none, none, none, none, none, none, none, none, none, none, 0, rfl, rfl⟩ (fun x _ env S hI => by
      obtain ⟨x2, x3, x4, x5, x6, x7, x8, x9, x10, x11, x12, x13, k, rfl, rfl⟩ := hI
      obtain ⟨k', y3, y4, y5, y6, e⟩ := turnA 56 ns h k (some x) x3 x4 x5 x6 x7 x8 x9 x10 x11 x12 x13
      exact ⟨_, rfl, _, _, e, _, _, _, _, _, _, _, _, _, _, _, _, _, rfl, rfl⟩)
  obtain ⟨env2, S2, l2, z2, z3, z4, z5, z6, z7, z8, z9, z10, z11, z12, z13, k2, rfl, rfl⟩ := for_inv (t := gNm 2) (b := A2 (callF TT 59)) (fun env S => ∃ x2 x3 x4 x5 x6 x7 x8 x9 x10 x11 x12 x13 k, env = en26 ns x2 x3 x4 x5 x6 x7 x8 x9 x10 x11 x12 x13 ∧ S = [DD ns k])
    (rngL 0 3) (en26 ns x2 x3 x4 x5 x6 x7 x8 x9 x10 x11 x12 x13) [DD ns k1] ⟨_, _, _, _, _, _, _, _, _, _, _, _, _, rfl, rfl⟩ (fun x _ env S hI => by
      obtain ⟨x2, x3, x4, x5, x6, x7, x8, x9, x10, x11, x12, x13, k, rfl, rfl⟩ := hI
      obtain ⟨k', y3, y4, y5, y6, y7, y8, y9, y10, e⟩ := turnB 55 ns h k (some x) x3 x4 x5 x6 x7 x8 x9 x10 x11 x12 x13
      exact ⟨_, rfl, _, _, e, _, _, _, _, _, _, _, _, _, _, _, _, _, rfl, rfl⟩)
  refine ⟨[DD ns k2], ?_⟩
  rw [call_at (b := b26) [some (.lst (ns.map .int)), none, none, none, none, none, none, none, none, none, none, none, none, none] rfl rfl rfl]
  unfold b26
  dsimp only
  rw [q_scons, sasg_st (i := 1) (new_val (a := eLst (aCons (eVar 0) (aCons (eLit (.int 0)) aNil))) (v := DD ns 0) rfl), RS.then_nx]
  rw [show ([some (.lst (ns.map .int)), none, none, none, none, none, none, none, none, none, none, none, none, none] : Env).set 1 (some (.ref ([] : Store).length)) = en26 ns none none none none none none none none none none none none from rfl]
  rw [q_scons, q_sfor, rg1_n (a := eLit (.int 2)) (k := false) (j := 2) rfl (by omega) (by omega), R.go_ok]
  simp only [q_unl0]
  rw [show forR (gNm 2) _ (rngL 0 (2 : Int).toNat) _ ([] ++ [DD ns 0]) = _ from l1, RS.then_nx]
  rw [q_scons, q_sfor, rg1_n (a := eLit (.int 3)) (k := false) (j := 3) rfl (by omega) (by omega), R.go_ok]
  simp only [q_unl0]
  rw [show forR (gNm 2) _ (rngL 0 (3 : Int).toNat) _ [DD ns k1] = _ from l2, RS.then_nx]
  rfl
end
end PX.K63
set_option Elab.async false
set_option linter.all false
set_option maxRecDepth 100000
set_option maxHeartbeats 0
open PySem PySem.W PySem.Calls PyProof.Rows PX PX.K63
theorem PySem.Challenge.cw_bucketsums_k63_whole_moving_holds : PySem.Challenge.rw_bucketsums_k63_whole_moving.Holds := by
  w_on; o_law
  refine HandSHeadRun.head_any (r := OpenLaw.row PySem.Challenge.rw_bucketsums_k63_whole_moving) (q := view (OpenLaw.row PySem.Challenge.rw_bucketsums_k63_whole_moving).prog [28]) (H := PX.K63.hk) (ob := PX.K63.ob) (M := 20000) (loose := ("_wall" :: "SumError" :: "BadCounts" :: "BadColumn" :: "BadValue" :: "Unlike" :: "MOST_VALUES" :: "MOST_COUNT" :: "is_number" :: "Column" :: "check_column" :: "check_pair" :: "flows_of" :: "Moved" :: "least_steps" :: "move_rows" :: "fewest_changed" :: "farthest_row" :: "_law_number" :: "_law_take" :: "_law_pair" :: "_law_search" :: "_law_shows" :: "_law_bent_right" :: ([] : List PySem.Str))) (d := HandSHeadRun.topDef (OpenLaw.row PySem.Challenge.rw_bucketsums_k63_whole_moving).prog 28) (kwd := []) PX.K63.ob_eq
    (by kernel_rfl) (fun s => by kernel_rfl) PX.K63.run (by kernel_rfl) (by kernel_rfl) (by kernel_rfl) (by rfl) (by first | assumption | decide +kernel) (by decide +kernel) ⟨rfl, rfl, rfl, rfl, rfl, by decide +kernel⟩ ?hw ?hc
  case hw => w_witness2
  case hc =>
    refine L2.walk_ofE (l := PySem.Challenge.rw_bucketsums_k63_whole_moving) (n := 63) (k := 2 * 60) (x := "_law_script") (CX := L2.CX0) rfl (by decide) (by kernel_rfl) ⟨rfl, by decide, by decide⟩ ?F (fun _ _ _ _ z => z)
    intro w mg fa h Y G hmg0
    obtain ⟨K, KX, c⟩ := Y
    have C : PX.K63.Ctx K h mg := ⟨KX, G, c⟩
    have hmg : mg ("law" : PySem.Str) = some (.ref fa) := by
      have e : (HandSHeadRun.topDef (OpenLaw.row PySem.Challenge.rw_bucketsums_k63_whole_moving).prog 28).name = ("law" : PySem.Str) := by kernel_rfl
      rw [← e]
      exact hmg0
    have e := hmg.symm.trans (PX.K63.m_f_law C)
    cases e
    obtain ⟨fd, F⟩ := c.def_ 26 (d := PX.K63.d26) rfl
    have hb := L2.FunD.bindsA (ps := ["_law_script"]) F fun _ _ _ _ _ _ us hl => match us, hl with | [_], _ => rfl
    refine ⟨K, fd, PX.spF (PX.K63.GG K) (PX.callF PX.K63.TT 60) 26 1, KX, fun s u => hb s [u] rfl, fun H a ns hl _ hS => ?_, fun base kb nb => ?_⟩
    · obtain ⟨S', e⟩ := PX.K63.law_eval ns hl
      exact PX.law_sp c.nol hS e
    · exact PX.K63.lawOk ⟨kb, nb, c⟩ F
