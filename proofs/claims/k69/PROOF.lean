import PyProof.Rows.All
import Wide.All
import OpenK.AllK
import Wide.FinOn
import HandS.ForMost
import KE.KDictKeyed
import HandS.Lambda
import HandS.Dict
import HandS.Flow
import HandS.Star
import HandS.Style
import HandS.Defaults
import KE.KTupSum
import KE.DataAny
import HandS.TupAny
import HandS.TupMul
import KE.DataMinMax
import PyProof.InstEq
import HandS.IsInst
import HandS.OwnEq
import HandS.SlotsOwn
import HandS.Words
import HandS.Exc
import PyProof.InstNe
import HandS.Finally
import HandS.More
import HandS.RaiseOp
import PyProof.ZipIter
import PyProof.Draws
import HandS.Zip0
import HandS.Zip
import HandS.Iter
import HandS.Comp
import HandS.SortInts
import KE.KStateDown
import HandS.Base
import HandS.Call
import HandS.Ends
import HandS.HeadEnd
import HandS.HeadHook1
import HandS.HeadHook2
import HandS.Codes
import HandS.Deep
import PyProof.ListNew
import KE.KDictZip
import HandS.Conv
import HandS.Small
import KE.GoesZip
import KE.GoesMore
import PyProof.EqAt
import PyProof.EqKinds
import PyProof.TupleCall
import PyProof.Rows.SortShell
import PyProof.Rows.SortRev
import PyProof.Rows.CallKwBuiltin
import PyProof.Rows.CallKw2
import KE.KSortTup
import KE.KSortKey
import HandS.List
import HandS.Sort
import HandS.SortOrd
import HandS.SortRule
import HandS.SortKw
import KE.KDictList
import HandS.DictSubView
import KE.KEqNest
import PyProof.NeKinds
import HandS.DeepEq
import HandS.NamedTupSort
import HandS.TupLen
import KE.KDictPairs
import KE.KDictCopyH
import HandS.Set
import HandS.SetFor
import HandS.Strs
import HandS.ListItems
import KE.KDictSum
import KE.KItemsList
import HandS.DictTup
import HandS.ForExc
import HandS.TryOnly
import HandS.ExcOwn
import HandS.WordsExc
import PyProof.SumWalkG
import HandS.HeadHook4
import HandS.HeadWalk
import HandS.ExcInitHot
import HandS.Hot
import HandS.HotCalls
import HandS.Head0
import HandS.Head1
import HandS.Head2
import PySem.Challenge.RW_bucketsums_k69_edges_hunt
set_option Elab.async false
set_option linter.all false
set_option maxRecDepth 100000
namespace PX
open PySem
inductive DK where
  | k (x : Sum Int Str)
  | t (xs : List (Sum Int Str))
  deriving DecidableEq
inductive DKs where
  | k (l : List (Sum Int Str))
  | t (l : List (List (Sum Int Str)))
  | n (l : List NestedKey)
  deriving DecidableEq
inductive PV where
  | non
  | bl (b : Bool)
  | int (i : Int)
  | str (s : Str)
  | tup (xs : List PV)
  | lst (xs : List PV)
  | dct (ks : DKs) (vs : List PV)
  | ins (c : Nat) (ns : List Nat) (vs : List PV)
  | ref (i : Nat)
  | lck (v : PV)
abbrev Store := List PV
abbrev Env := List (Option PV)
inductive R (α : Type) where
  | ok (a : α) (S : Store)
  | ex (c : Nat) (pl : List PV) (S : Store)
  | no
def R.bind {α β : Type} : R α → (α → Store → R β) → R β
  | .ok a S, k => k a S
  | .ex c p S, _ => .ex c p S
  | .no, _ => .no
@[simp] theorem R.bind_ok {α β : Type} (a : α) (S : Store) (k : α → Store → R β) : (R.ok a S).bind k = k a S := (rfl)
@[simp] theorem R.bind_ex {α β : Type} (c : Nat) (p : List PV) (S : Store) (k : α → Store → R β) : (R.ex c p S : R α).bind k = .ex c p S := (rfl)
@[simp] theorem R.bind_no {α β : Type} (k : α → Store → R β) : (R.no : R α).bind k = .no := (rfl)
def unl : PV → PV
  | .lck o => o
  | v => v
def unlD : PV → Option PV
  | .lck (.dct (.t _) _) => none
  | .lck (.dct (.n _) _) => none
  | o => some (unl o)
def deref (S : Store) : PV → Option PV
  | .ref i => match S[i]? with
    | some o => unlD o
    | none => none
  | v => some v
theorem unlD_some {o w : PV} (h : unlD o = some w) : unl o = w := by
  unfold unlD at h
  split at h
  · cases h
  · cases h
  · exact Option.some.inj h
abbrev SE := Env → Store → R (Bool × PV)
abbrev SA := Env → Store → R (List PV)
abbrev ST := Env → Store → R Bool
end PX
namespace PX
open PySem
def eLit (v : PV) : SE := fun _ S => .ok (false, v) S
def eVar (i : Nat) : SE := fun env S => match env[i]? with
  | some (some v) => .ok (false, v) S
  | _ => .no
abbrev Op1 := PV → Store → Option (Bool × PV)
abbrev Op2 := PV → PV → Store → Option (Bool × PV)
abbrev OpN := List PV → Store → Option (Bool × PV)
def ofO (o : Option (Bool × PV)) (S : Store) : R (Bool × PV) := match o with
  | some z => .ok z S
  | none => .no
def eUn (o : Op1) (a : SE) : SE := fun env S => (a env S).bind fun p S1 => ofO (o p.2 S1) S1
def eBin (o : Op2) (a b : SE) : SE := fun env S => (a env S).bind fun p S1 => (b env S1).bind fun q S2 => ofO (o p.2 q.2 S2) S2
def aNil : SA := fun _ S => .ok [] S
def aCons (a : SE) (r : SA) : SA := fun env S => (a env S).bind fun p S1 => (r env S1).bind fun q S2 => .ok (p.2 :: q) S2
def itemsOf (S : Store) (v : PV) : Option (List PV) := match deref S v with
  | some (.lst xs) => some xs
  | some (.tup xs) => some xs
  | _ => none
def aStar (a : SE) (r : SA) : SA := fun env S => (a env S).bind fun p S1 => match itemsOf S1 p.2 with
  | some xs => (r env S1).bind fun q S2 => .ok (xs ++ q) S2
  | none => .no
def eArg (o : OpN) (a : SA) : SE := fun env S => (a env S).bind fun p S1 => ofO (o p S1) S1
def small (n : Nat) : Bool := Nat.ble n 1000000
def eTup (a : SA) : SE := fun env S => (a env S).bind fun p S1 => if small p.length then .ok (false, .tup p) S1 else .no
def eLst (a : SA) : SE := fun env S => (a env S).bind fun p S1 => if small p.length then .ok (true, .lst p) S1 else .no
def truth (S : Store) (v : PV) : Option Bool := match deref S v with
  | some (.bl b) => some b
  | some (.int i) => some (i != 0)
  | some .non => some false
  | some (.lst xs) => some (!xs.isEmpty)
  | some (.tup xs) => some (!xs.isEmpty)
  | _ => none
def tTru (a : SE) : ST := fun env S => (a env S).bind fun p S1 => match truth S1 p.2 with
  | some b => .ok b S1
  | none => .no
def tBl (a : SE) : ST := fun env S => (a env S).bind fun p S1 => match p.2 with
  | .bl b => .ok b S1
  | _ => .no
def tNo (a : ST) : ST := fun env S => (a env S).bind fun b S1 => .ok (!b) S1
def tAn (a b : ST) : ST := fun env S => (a env S).bind fun c S1 => if c = true then b env S1 else .ok false S1
def tOr (a b : ST) : ST := fun env S => (a env S).bind fun c S1 => if c = true then .ok true S1 else b env S1
def eAn (a b : SE) : SE := fun env S => (a env S).bind fun p S1 => match truth S1 p.2 with
  | some true => b env S1
  | some false => .ok (false, p.2) S1
  | none => .no
def eOr (a b : SE) : SE := fun env S => (a env S).bind fun p S1 => match truth S1 p.2 with
  | some true => .ok (false, p.2) S1
  | some false => b env S1
  | none => .no
def eNot (a : SE) : SE := fun env S => (a env S).bind fun p S1 => match truth S1 p.2 with
  | some b => .ok (false, .bl (!b)) S1
  | none => .no
def eIf (c : ST) (a b : SE) : SE := fun env S => (c env S).bind fun t S1 => if t = true then a env S1 else b env S1
def eCh (o o' : Op2) (a b c : SE) : SE := fun env S => (a env S).bind fun p S1 => (b env S1).bind fun q S2 => match o p.2 q.2 S2 with
  | some (false, .bl true) => (c env S2).bind fun z S3 => ofO (o' q.2 z.2 S3) S3
  | some (false, .bl false) => .ok (false, .bl false) S2
  | _ => .no
def eNew (a : SE) : SE := fun env S => (a env S).bind fun p S1 => match p.1 with
  | true => .ok (false, .ref S1.length) (S1 ++ [p.2])
  | false => .ok p S1
def oAdd : Op2 := fun x y S => match x, y with
  | .int i, .int j => some (false, .int (i + j))
  | _, _ => none
def oSub : Op2 := fun x y _ => match x, y with
  | .int i, .int j => some (false, .int (i - j))
  | _, _ => none
def mulOk (i j : Int) : Bool := (decide (-18446744073709551616 < i) && decide (i < 18446744073709551616)) || (decide (-18446744073709551616 < j) && decide (j < 18446744073709551616))
def oMod : Op2 := fun x y _ => match x, y with
  | .int i, .int j => if 0 < j then some (false, .int (i % j)) else none
  | _, _ => none
def oNeg : Op1 := fun x _ => match x with
  | .int i => some (false, .int (-i))
  | _ => none
def oLt : Op2 := fun x y _ => match x, y with
  | .int i, .int j => some (false, .bl (decide (i < j)))
  | _, _ => none
def oLe : Op2 := fun x y _ => match x, y with
  | .int i, .int j => some (false, .bl (decide (i ≤ j)))
  | _, _ => none
def oGt : Op2 := fun x y _ => match x, y with
  | .int i, .int j => some (false, .bl (decide (j < i)))
  | _, _ => none
end PX
namespace PX
open PySem
inductive RS where
  | nx (env : Env) (S : Store)
  | rt (v : PV) (S : Store)
  | bk (env : Env) (S : Store)
  | ct (env : Env) (S : Store)
  | ex (c : Nat) (pl : List PV) (S : Store)
  | no
abbrev SS := Env → Store → RS
def R.go {α : Type} : R α → (α → Store → RS) → RS
  | .ok a S, k => k a S
  | .ex _ _ _, _ => .no
  | .no, _ => .no
@[simp] theorem R.go_ok {α : Type} (a : α) (S : Store) (k : α → Store → RS) : (R.ok a S).go k = k a S := (rfl)
@[simp] theorem R.go_ex {α : Type} (c : Nat) (p : List PV) (S : Store) (k : α → Store → RS) : (R.ex c p S : R α).go k = .no := (rfl)
@[simp] theorem R.go_no {α : Type} (k : α → Store → RS) : (R.no : R α).go k = .no := (rfl)
def RS.then : RS → (Env → Store → RS) → RS
  | .nx e S, k => k e S
  | z, _ => z
@[simp] theorem RS.then_nx (e : Env) (S : Store) (k : Env → Store → RS) : (RS.nx e S).then k = k e S := (rfl)
@[simp] theorem RS.then_rt (v : PV) (S : Store) (k : Env → Store → RS) : (RS.rt v S).then k = .rt v S := (rfl)
@[simp] theorem RS.then_bk (e : Env) (S : Store) (k : Env → Store → RS) : (RS.bk e S).then k = .bk e S := (rfl)
@[simp] theorem RS.then_ct (e : Env) (S : Store) (k : Env → Store → RS) : (RS.ct e S).then k = .ct e S := (rfl)
@[simp] theorem RS.then_ex (c : Nat) (p : List PV) (S : Store) (k : Env → Store → RS) : (RS.ex c p S).then k = .ex c p S := (rfl)
@[simp] theorem RS.then_no (k : Env → Store → RS) : RS.no.then k = .no := (rfl)
def sNil : SS := fun env S => .nx env S
def sCons (a b : SS) : SS := fun env S => (a env S).then b
def sExp (a : SE) : SS := fun env S => (a env S).go fun _ S1 => .nx env S1
def sRet (a : SE) : SS := fun env S => (a env S).go fun p S1 => .rt p.2 S1
def sNo : SS := fun _ _ => .no
def sRse (c : Nat) : SS := fun _ S => .ex c [] S
def sIf (c : ST) (a b : SS) : SS := fun env S => (c env S).go fun t S1 => if t = true then a env S1 else b env S1
abbrev Tg := PV → Env → Store → Option Env
def gNm (i : Nat) : Tg := fun v env _ => some (env.set i (some v))
def gTps (ts : List Tg) : List PV → Env → Store → Option Env := fun vs env S => match ts, vs with
  | [], [] => some env
  | t :: ts, v :: vs => match t v env S with
    | some env' => gTps ts vs env' S
    | none => none
  | _, _ => none
def gTp (ts : List Tg) : Tg := fun v env S => match deref S v with
  | some (.tup xs) => gTps ts xs env S
  | _ => none
def sAsg (t : Tg) (a : SE) : SS := fun env S => (a env S).go fun p S1 => match t p.2 env S1 with
  | some env' => .nx env' S1
  | none => .no
def sPar (is : List Nat) (a : SA) : SS := fun env S => (a env S).go fun vs S1 => match gTps (is.map gNm) vs env S1 with
  | some env' => .nx env' S1
  | none => .no
abbrev SI := Env → Store → R (List PV × List (Nat × PV))
def unlock : List (Nat × PV) → Store → Store
  | [], S => S
  | p :: r, S => unlock r (S.set p.1 p.2)
def RS.unl (ls : List (Nat × PV)) : RS → RS
  | .nx e S => .nx e (unlock ls S)
  | .rt v S => .rt v (unlock ls S)
  | .bk e S => .bk e (unlock ls S)
  | .ct e S => .ct e (unlock ls S)
  | .ex c p S => .ex c p (unlock ls S)
  | .no => .no
def forR (t : Tg) (b : SS) : List PV → Env → Store → RS
  | [], env, S => .nx env S
  | x :: xs, env, S => match t x env S with
    | none => .no
    | some env' => match b env' S with
      | .nx e S' => forR t b xs e S'
      | .ct e S' => forR t b xs e S'
      | .bk e S' => .nx e S'
      | z => z
def sFor (i : SI) (t : Tg) (b : SS) : SS := fun env S => (i env S).go fun p S1 => (forR t b p.1 env S1).unl p.2
def whileR (c : ST) (b : SS) : Nat → Env → Store → RS
  | 0, _, _ => .no
  | n + 1, env, S => (c env S).go fun t S1 => if t = true then
      match b env S1 with
      | .nx e S' => whileR c b n e S'
      | .ct e S' => whileR c b n e S'
      | .bk e S' => .nx e S'
      | z => z
    else .nx env S1
def sWhl (n : Nat) (c : ST) (b : SS) : SS := whileR c b n
end PX
namespace PX
open PySem
abbrev CF := Nat → List PV → Nat → Store → R PV
structure FnB where
  np : Nat
  nl : Nat
  body : CF → Nat → SS
def runB (b : FnB) (cf : CF) (args : List PV) (n0 : Nat) (S : Store) : R PV := if args.length = b.np then
    match b.body cf n0 (args.map some ++ List.replicate (b.nl - b.np) none) S with
    | .rt v S' => .ok v S'
    | .nx _ S' => .ok .non S'
    | .ex c p S' => .ex c p S'
    | _ => .no
  else .no
def callF (T : Nat → Option FnB) : Nat → CF
  | 0 => fun _ _ _ _ => .no
  | n + 1 => fun f args n0 S => match T f with
    | some b => runB b (callF T n) args n0 S
    | none => .no
def frzL (f : PV → Option PV) : List PV → Option (List PV)
  | [] => some []
  | v :: vs => match f v with
    | some w => match frzL f vs with
      | some ws => some (w :: ws)
      | none => none
    | none => none
def frzO (f : PV → Option PV) : PV → Option PV
  | .lst xs => (frzL f xs).map .lst
  | .dct ks vs => (frzL f vs).map (.dct ks)
  | .ins c ns vs => (frzL f vs).map (.ins c ns)
  | _ => none
def frz (n0 t : Nat) (S : Store) : Nat → PV → Option PV
  | 0, _ => none
  | k + 1, v => match v with
    | .ref i => if i < n0 then some (.ref i) else if i = t then none else match S[i]? with
      | some o => frzO (frz n0 t S k) o
      | none => none
    | .tup xs => (frzL (frz n0 t S k) xs).map .tup
    | .lst xs => (frzL (frz n0 t S k) xs).map .lst
    | .dct ks vs => (frzL (frz n0 t S k) vs).map (.dct ks)
    | .ins c ns vs => (frzL (frz n0 t S k) vs).map (.ins c ns)
    | .lck _ => none
    | w => some w
def norm (n0 : Nat) (v : PV) (S : Store) : R (Bool × PV) := if S.length = n0 then .ok (false, v) S else match v with
  | .ref i => if i < n0 then .ok (false, .ref i) (S.take n0) else match S[i]? with
    | some o => match frzO (frz n0 i S 8) o with
      | some w => .ok (true, w) (S.take n0)
      | none => .no
    | none => .no
  | v => match frz n0 S.length S 8 v with
    | some w => .ok (false, w) (S.take n0)
    | none => .no
def cutX {α : Type} (n0 : Nat) : R α → R α
  | .ex c p S => .ex c p (S.take n0)
  | z => z
def eCall (cf : CF) (np f : Nat) (a : SA) : SE := fun env S => (a env S).bind fun args S1 => if args.length = np then (cutX S1.length (cf f args S1.length S1)).bind fun v S2 => norm S1.length v S2 else .no
def eMake (cf : CF) (np c f : Nat) (a : SA) : SE := fun env S => (a env S).bind fun args S1 => if args.length + 1 = np then
    (cutX S1.length (cf f (.ref S1.length :: args) S1.length (S1 ++ [.ins c [] []]))).bind fun v S2 => match v with
      | .non => norm S1.length (.ref S1.length) S2
      | _ => .no
  else .no
def methOf (m : Nat) (T : List (Nat × Nat)) (S : Store) (v : PV) : Option Nat := match deref S v with
  | some (.ins c ns _) => if ns.contains m then none else T.lookup c
  | _ => none
def eMeth (cf : CF) (np m : Nat) (T : List (Nat × Nat)) (o : SE) (a : SA) : SE := fun env S => (o env S).bind fun p S0 => match methOf m T S0 p.2 with
  | some f => (a env S0).bind fun args S1 => if args.length + 1 = np then (cutX S1.length (cf f (p.2 :: args) S1.length S1)).bind fun v S2 => norm S1.length v S2 else .no
  | none => .no
def fldOf (cs : List Nat) (f : Nat) (S : Store) (v : PV) : Option PV := match deref S v with
  | some (.ins c ns vs) => if cs.contains c then (ns.zip vs).lookup f else none
  | _ => none
def eFld (cs : List Nat) (f : Nat) (a : SE) : SE := eUn (fun v S => (fldOf cs f S v).map fun w => (false, w)) a
def noref : PV → Bool
  | .non => true
  | .bl _ => true
  | .int _ => true
  | .str _ => true
  | .tup xs => norefL xs
  | .lst xs => norefL xs
  | .dct _ vs => norefL vs
  | .ins _ _ vs => norefL vs
  | .ref _ => false
  | .lck _ => false
where norefL : List PV → Bool
  | [] => true
  | v :: vs => noref v && norefL vs
def mayPut (n0 i : Nat) (v : PV) : Bool := Nat.ble n0 i || noref v
def putFld (f : Nat) (v : PV) : List Nat → List PV → List Nat × List PV
  | n :: ns, w :: ws => if n = f then (n :: ns, v :: ws) else let z := putFld f v ns ws; (n :: z.1, w :: z.2)
  | _, _ => ([f], [v])
def sFld (n0 : Nat) (cs : List Nat) (f : Nat) (o e : SE) : SS := fun env S => (e env S).go fun p S1 => (o env S1).go fun q S2 => match q.2 with
  | .ref i => match S2[i]? with
    | some (.ins c ns vs) => if cs.contains c && mayPut n0 i p.2 && Nat.ble ns.length 100 then .nx env (S2.set i (.ins c (putFld f p.2 ns vs).1 (putFld f p.2 ns vs).2)) else .no
    | _ => .no
  | _ => .no
end PX
set_option Elab.async false
set_option linter.all false
set_option maxRecDepth 100000
namespace PX
open PySem PySem.Spec PyProof.Rows L2
mutual
def nhash : NestedKey → Int
  | .num i => hashInt i
  | .tup ks => reduceHash (Builtin.Tuple.tupleHashOf (nhashes ks))
  | .none => 0
  | .text _ => 0
def nhashes : List NestedKey → List Int
  | [] => []
  | k :: ks => nhash k :: nhashes ks
end
mutual
def NkV (F : Hp) : NestedKey → V → Prop
  | .num i, u => u = .int i
  | .tup ks, u => ∃ a us, u = .ref a ∧ F a = some (.tup us) ∧ NkVs F ks us
  | .none, _ => False
  | .text _, _ => False
def NkVs (F : Hp) : List NestedKey → List V → Prop
  | [], us => us = []
  | k :: ks, us => ∃ u ur, us = u :: ur ∧ NkV F k u ∧ NkVs F ks ur
end
mutual
theorem NkV.mono {F F' : Hp} (h : ∀ a us, F a = some (.tup us) → F' a = some (.tup us)) : ∀ (k : NestedKey) (u : V), NkV F k u → NkV F' k u
  | .num i, u, q => by unfold NkV at q ⊢; exact q
  | .tup ks, u, q => by
    unfold NkV at q ⊢
    obtain ⟨a, us, e, e1, e2⟩ := q
    exact ⟨a, us, e, h _ _ e1, NkVs.mono h ks us e2⟩
  | .none, u, q => by unfold NkV at q; exact q.elim
  | .text _, u, q => by unfold NkV at q; exact q.elim
theorem NkVs.mono {F F' : Hp} (h : ∀ a us, F a = some (.tup us) → F' a = some (.tup us)) : ∀ (ks : List NestedKey) (us : List V), NkVs F ks us → NkVs F' ks us
  | [], us, q => by unfold NkVs at q ⊢; exact q
  | k :: ks, us, q => by
    unfold NkVs at q ⊢
    obtain ⟨u, ur, e, e1, e2⟩ := q
    exact ⟨u, ur, e, NkV.mono h k u e1, NkVs.mono h ks ur e2⟩
end
mutual
theorem NkV.hash {F : Hp} (w : World) : ∀ (k : NestedKey) (u : V), NkV F k u → k.hash w = nhash k
  | .num i, u, q => by unfold NestedKey.hash nhash; rfl
  | .tup ks, u, q => by
    unfold NkV at q
    obtain ⟨a, us, e, e1, e2⟩ := q
    unfold NestedKey.hash nhash
    rw [NkVs.hash w ks us e2]
  | .none, u, q => by unfold NkV at q; exact q.elim
  | .text _, u, q => by unfold NkV at q; exact q.elim
theorem NkVs.hash {F : Hp} (w : World) : ∀ (ks : List NestedKey) (us : List V), NkVs F ks us → NestedKey.hashes w ks = nhashes ks
  | [], us, q => by unfold NestedKey.hashes nhashes; rfl
  | k :: ks, us, q => by
    unfold NkVs at q
    obtain ⟨u, ur, e, e1, e2⟩ := q
    unfold NestedKey.hashes nhashes
    rw [NkV.hash w k u e1, NkVs.hash w ks ur e2]
end
section
variable {P : Program} {w : World} {H : Hp} {h : Heap}
mutual
theorem NkV.is (ok : HOk P w H h) : ∀ (k : NestedKey) (u : V) (z : Value), NkV H k u → RelV u z → NestedIs h k z
  | .num i, u, z, q, r => by
    unfold NkV at q
    subst q
    obtain ⟨t, rfl⟩ := (show ∃ t, z = Value.int i t from r)
    exact .int i t
  | .tup ks, u, z, q, r => by
    unfold NkV at q
    obtain ⟨a, us, rfl, e1, e2⟩ := q
    obtain rfl : z = Value.ref a := r
    obtain ⟨_, its, rl, o, h1, h2, n, h3⟩ := (show ObjOk P w H h a (.tup us) from ok a _ e1)
    exact .tup h1 h2 h3 (NkVs.is ok ks us its e2 rl)
  | .none, u, z, q, r => by unfold NkV at q; exact q.elim
  | .text _, u, z, q, r => by unfold NkV at q; exact q.elim
theorem NkVs.is (ok : HOk P w H h) : ∀ (ks : List NestedKey) (us : List V) (zs : List Value), NkVs H ks us → Vals us zs → NestedAll h ks zs
  | [], us, zs, q, r => by
    unfold NkVs at q
    subst q
    cases r
    exact .nil
  | k :: ks, us, zs, q, r => by
    unfold NkVs at q
    obtain ⟨u, ur, rfl, e1, e2⟩ := q
    cases r with
    | cons r1 r2 => exact .cons (NkV.is ok k u _ e1 r1) (NkVs.is ok ks ur _ e2 r2)
end
end
abbrev NKX := List (NestedKey × Addr × Value)
def nent (x : NestedKey × Addr × Value) : DictEntry := ⟨nhash x.1, .ref x.2.1, x.2.2⟩
def nPhi (d : Addr) (xs : NKX) : Heap → Prop := fun h => xs.length ≤ sizeLine ∧ (d == sysModules) = false ∧ (xs.map (·.1)).Nodup ∧ ∃ (o : Obj) (es : Array DictEntry) (ep : Nat), h.get? d = some o ∧ o.ExactDict ∧ o.data = .dict es ep ∧ es.toList = xs.map nent
abbrev NT (H : Hp) : List (NestedKey × V) → NKX → Prop := Paired fun p q => p.1 = q.1 ∧ NkV H p.1 (.ref q.2.1) ∧ p.1.depth ≤ 8 ∧ RelV p.2 q.2.2
theorem NT.keeps {H H' : Hp} {kvs : List (NestedKey × V)} {xs : NKX} (r : NT H kvs xs) (ht : ∀ b ys, H b = some (.tup ys) → H' b = some (.tup ys)) : NT H' kvs xs :=
  Paired.mapP r fun _ _ z => ⟨z.1, NkV.mono ht _ _ z.2.1, z.2.2⟩
theorem NT.val {H : Hp} {kvs : List (NestedKey × V)} {xs : NKX} (r : NT H kvs xs) (k : NestedKey) : RelO (valV kvs k) ((atKey xs k).map (·.2)) := by
  induction r with
  | nil => exact True.intro
  | @cons p q ps qs h t ih =>
    obtain ⟨h1, _, _, h2⟩ := h
    by_cases e : p.1 = k
    · have e' : q.1 = k := h1.symm.trans e
      have b : atKey (q :: qs) k = some q.2 := by simp [atKey, List.find?_cons, e']
      rw [valV_pos e, b]; exact h2
    · have e' : ¬ q.1 = k := fun z => e (h1.trans z)
      have b : atKey (q :: qs) k = atKey qs k := by simp [atKey, List.find?_cons, e']
      rw [valV_neg e, b]; exact ih
theorem NT.put {H : Hp} {kvs : List (NestedKey × V)} {xs : NKX} (r : NT H kvs xs) (k : NestedKey) {b : Addr} {y : V} {u : Value} (hb : NkV H k (.ref b)) (hd : k.depth ≤ 8) (ry : RelV y u) :
    NT H (putK kvs k y) (storedH xs k b u) := by
  have e : (kvs.any fun kv => decide (kv.1 = k)) = (atKey xs k).isSome := by
    rw [valV_any, (r.val k).isSome_eq, Option.isSome_map]
  unfold putK storedH
  rw [e]
  by_cases q : (atKey xs k).isSome = true
  · rw [if_pos q, if_pos q]
    clear e q
    induction r with
    | nil => exact .nil
    | @cons p q ps qs h t ih =>
      rw [List.map_cons, List.map_cons]
      refine .cons ?_ ih
      obtain ⟨h1, h2, h3, h4⟩ := h
      unfold putAt
      by_cases e : p.1 = k
      · rw [if_pos e, if_pos (h1.symm.trans e)]; exact ⟨h1, h2, h3, ry⟩
      · rw [if_neg e, if_neg (fun z => e (h1.trans z))]; exact ⟨h1, h2, h3, h4⟩
  · rw [if_neg q, if_neg q]; exact Paired.snoc r ⟨rfl, hb, hd, ry⟩
end PX
set_option Elab.async false
set_option linter.all false
set_option maxRecDepth 100000
namespace PX
open PySem PySem.Spec PyProof.Rows L2
structure Gam where
  K : PySem.W.Frag
  fa : Nat → Addr
  ca : Nat → Addr
  nm : Nat → Str
  tb : List (Addr × Str)
def DR (F : Hp) (ho : HO) (ks : DKs) (us : List V) : Prop := match ks with
  | .k kk => ho = .dK (kk.zip us) ∧ kk.length = us.length
  | .t kt => ho = .dT (kt.zip us) ∧ kt.length = us.length
  | .n kn => (∃ d xs, ho = .ext (nPhi d xs) ∧ NT F (kn.zip us) xs) ∧ kn.length = us.length
mutual
def RV (G : Gam) (F : Hp) (r : List Addr) : PV → V → Prop
  | .non, u => u = .non
  | .bl b, u => u = .bl b
  | .int i, u => u = .int i
  | .str x, u => u = .str x
  | .tup xs, u => ∃ a us, u = .ref a ∧ F a = some (.tup us) ∧ RVs G F r xs us
  | .lst xs, u => ∃ a us, u = .ref a ∧ Rd F a (.lst us) ∧ RVs G F r xs us
  | .dct ks vs, u => ∃ a us ho, u = .ref a ∧ F a = some ho ∧ DR F ho ks us ∧ RVs G F r vs us
  | .ins c ns vs, u => ∃ a dx us, u = .ref a ∧ F a = some (.ins (G.ca c) dx ((ns.map G.nm).zip us)) ∧ ns.length = us.length ∧ RVs G F r vs us
  | .ref i, u => ∃ a, r[i]? = some a ∧ u = .ref a
  | .lck _, _ => False
def RVs (G : Gam) (F : Hp) (r : List Addr) : List PV → List V → Prop
  | [], us => us = []
  | v :: vs, us => ∃ u ur, us = u :: ur ∧ RV G F r v u ∧ RVs G F r vs ur
end
def RO (G : Gam) (F : Hp) (r : List Addr) (v : PV) (ho : HO) : Prop := match unl v with
  | .lst xs => ∃ us, ho = .lst us ∧ RVs G F r xs us
  | .dct ks vs => ∃ us, DR F ho ks us ∧ RVs G F r vs us
  | .ins c ns vs => ∃ dx us, ho = .ins (G.ca c) dx ((ns.map G.nm).zip us) ∧ ns.length = us.length ∧ RVs G F r vs us
  | _ => False
def Le (F F' : Hp) : Prop := ∀ a o, F a = some o → F' a = some o
theorem Le.refl (F : Hp) : Le F F := fun _ _ e => e
theorem Le.trans {F F' F2 : Hp} (h : Le F F') (k : Le F' F2) : Le F F2 := fun a o e => k a o (h a o e)
theorem Le.sqT {K : PySem.W.Frag} {F F' : Hp} (h : Le F F') {a : Addr} {us : List V} (q : SqT K F a us) : SqT K F' a us := by
  rcases q with (q | ⟨o, q⟩) | q
  · exact .inl (.inl (h _ _ q))
  · exact .inl (.inr ⟨o, h _ _ q⟩)
  · exact .inr q
theorem Le.tp {K : PySem.W.Frag} {F F' : Hp} (h : Le F F') {a : Addr} {us : List V} (q : F a = some (.tup us)) : SqT K F' a us := .inl (.inl (h _ _ q))
theorem Le.sqL {K : PySem.W.Frag} {F F' : Hp} (h : Le F F') {a : Addr} {us : List V} (q : SqL K F a us) : SqL K F' a us := by
  rcases q with (q | ⟨o, q⟩) | q
  · exact .inl (.inl (h _ _ q))
  · exact .inl (.inr ⟨o, h _ _ q⟩)
  · exact .inr q
theorem Le.rd {F F' : Hp} (h : Le F F') {a : Addr} {o : HO} (q : Rd F a o) : Rd F' a o := by
  rcases q with q | ⟨z, q⟩
  · exact .inl (h _ _ q)
  · exact .inr ⟨z, h _ _ q⟩
def isDk : HO → Bool
  | .dK _ => true
  | .dT _ => true
  | _ => false
def LeD (F H : Hp) : Prop := ∀ a o, F a = some o → H a = some o ∨ (isDk o = true ∧ ∃ od, H a = some (.frz od o))
theorem LeD.of {F H : Hp} (h : Le F H) : LeD F H := fun a o e => .inl (h a o e)
theorem LeD.refl (F : Hp) : LeD F F := fun _ _ e => .inl e
theorem LeD.trans {F F' H : Hp} (h : Le F F') (k : LeD F' H) : LeD F H := fun a o e => k a o (h a o e)
theorem LeD.eq {F H : Hp} (h : LeD F H) {a : Addr} {o : HO} (e : F a = some o) (hd : isDk o = false) : H a = some o := by
  rcases h a o e with q | ⟨q, _⟩
  · exact q
  · rw [hd] at q; cases q
theorem LeD.ne {F H : Hp} (h : LeD F H) {a : Addr} {o : HO} (e : F a = some o) : H a ≠ none := by
  rcases h a o e with q | ⟨_, _, q⟩ <;> rw [q] <;> intro z <;> cases z
theorem LeD.any {F H : Hp} (h : LeD F H) {a : Addr} {o : HO} (e : F a = some o) : Rd H a o := by
  rcases h a o e with q | ⟨_, od, q⟩
  · exact .inl q
  · exact .inr ⟨od, q⟩
theorem LeD.rd {F H : Hp} (h : LeD F H) {a : Addr} {us : List V} (q : Rd F a (.lst us)) : Rd H a (.lst us) := by
  rcases q with q | ⟨z, q⟩
  · exact .inl (h.eq q rfl)
  · exact .inr ⟨z, h.eq q rfl⟩
theorem LeD.tpH {F H : Hp} (h : LeD F H) {a : Addr} {us : List V} (q : F a = some (.tup us)) : H a = some (.tup us) := h.eq q rfl
theorem LeD.tp {K : PySem.W.Frag} {F H : Hp} (h : LeD F H) {a : Addr} {us : List V} (q : F a = some (.tup us)) : SqT K H a us := .inl (.inl (h.eq q rfl))
theorem LeD.heap {F H H' : Hp} (h : LeD F H) (k : ∀ a o, H a = some o → H' a = some o) : LeD F H' := fun a o e => by
  rcases h a o e with q | ⟨q, od, z⟩
  · exact .inl (k _ _ q)
  · exact .inr ⟨q, od, k _ _ z⟩
def isFz : HO → Bool
  | .frz _ (.dK _) => true
  | .frz _ (.dT _) => true
  | _ => false
theorem noFz {P Q : Prop} {o : HO} (q : P ∨ (isFz o = true ∧ Q)) (h : isFz o = false) : P := by
  rcases q with q | ⟨q, _⟩
  · exact q
  · rw [h] at q; cases q
def isDkA : HO → Bool
  | .dK _ => true
  | .dT _ => true
  | _ => false
def isLk : PV → Bool
  | .lck (.dct _ _) => true
  | _ => false
def AtL (H : Hp) (a : Addr) (ob : PV) (ho : HO) : Prop := match isLk ob with
  | false => H a = some ho
  | true => isDkA ho = true ∧ ∃ od, H a = some (.frz od ho)
theorem AtL.nl {H : Hp} {a : Addr} {ob : PV} {ho : HO} (q : AtL H a ob ho) (h : isLk ob = false) : H a = some ho := by
  unfold AtL at q
  rw [h] at q
  exact q
theorem AtL.mk {H : Hp} {a : Addr} {ob : PV} {ho : HO} (q : H a = some ho) (h : isLk ob = false) : AtL H a ob ho := by
  unfold AtL
  rw [h]
  exact q
theorem AtL.lk {H : Hp} {a : Addr} {ob : PV} {ho : HO} (q : AtL H a ob ho) (h : isLk ob = true) : isDkA ho = true ∧ ∃ od, H a = some (.frz od ho) := by
  unfold AtL at q
  rw [h] at q
  exact q
theorem AtL.or {H : Hp} {a : Addr} {ob : PV} {ho : HO} (q : AtL H a ob ho) : H a = some ho ∨ (isDkA ho = true ∧ ∃ od, H a = some (.frz od ho)) := by
  cases h : isLk ob with
  | false => exact .inl (q.nl h)
  | true => exact .inr (q.lk h)
theorem AtL.nd {H : Hp} {a : Addr} {ob : PV} {ho : HO} (q : AtL H a ob ho) (h : isDkA ho = false) : H a = some ho := by
  rcases q.or with q | ⟨q, _⟩
  · exact q
  · rw [h] at q; cases q
theorem isLk_unl {ob : PV} (h : unl ob = ob) : isLk ob = false := by
  cases ob with
  | lck o =>
    have e : o = .lck o := h
    exact absurd e (by intro z; have := congrArg sizeOf z; simp at this)
  | _ => rfl
theorem AtL.un {H : Hp} {a : Addr} {ob : PV} {ho : HO} (q : AtL H a ob ho) (h : unl ob = ob) : H a = some ho := q.nl (isLk_unl h)
theorem AtL.heap {H H' : Hp} {a : Addr} {ob : PV} {ho : HO} (q : AtL H a ob ho) (k : ∀ o, H a = some o → H' a = some o) : AtL H' a ob ho := by
  unfold AtL at q ⊢
  cases h : isLk ob with
  | false =>
    rw [h] at q
    exact k _ q
  | true =>
    rw [h] at q
    obtain ⟨q2, od, q3⟩ := q
    exact ⟨q2, od, k _ q3⟩
theorem AtL.upd {H : Hp} {a b : Addr} {ob : PV} {ho o : HO} (q : AtL H b ob ho) (hb : b ≠ a) : AtL (L2.upd H a o) b ob ho := q.heap fun o e => by
  rw [upd_ne hb]
  exact e
theorem AtL.there {H : Hp} {a : Addr} {ob : PV} {ho : HO} (q : AtL H a ob ho) : ∃ o, H a = some o := by
  rcases q.or with q | ⟨_, _, q⟩ <;> exact ⟨_, q⟩
theorem DR.mono {F F' : Hp} (h : Le F F') {ho : HO} {ks : DKs} {us : List V} (q : DR F ho ks us) : DR F' ho ks us := by
  cases ks with
  | k l => exact q
  | t l => exact q
  | n l =>
    obtain ⟨⟨d, xs, e, k⟩, hl⟩ := q
    exact ⟨⟨d, xs, e, k.keeps fun b ys z => h _ _ z⟩, hl⟩
mutual
theorem RV.mono {G : Gam} {F F' : Hp} {r r' : List Addr} (h : Le F F') (p : ∀ (i : Nat) a, r[i]? = some a → r'[i]? = some a) : ∀ (v : PV) (u : V), RV G F r v u → RV G F' r' v u
  | .non, _, q => q
  | .bl _, _, q => q
  | .int _, _, q => q
  | .str _, _, q => q
  | .tup xs, _, q => by
    obtain ⟨a, us, e, s, k⟩ := q
    exact ⟨a, us, e, h _ _ s, RVs.mono h p xs us k⟩
  | .lst xs, _, q => by
    obtain ⟨a, us, e, s, k⟩ := q
    exact ⟨a, us, e, h.rd s, RVs.mono h p xs us k⟩
  | .dct ks vs, _, q => by
    obtain ⟨a, us, ho, e, s, d, k⟩ := q
    exact ⟨a, us, ho, e, h _ _ s, d.mono h, RVs.mono h p vs us k⟩
  | .ins c ns vs, _, q => by
    obtain ⟨a, dx, us, e, s, d, k⟩ := q
    exact ⟨a, dx, us, e, h _ _ s, d, RVs.mono h p vs us k⟩
  | .ref i, _, q => by
    obtain ⟨a, e, k⟩ := q
    exact ⟨a, p i a e, k⟩
  | .lck _, _, q => q.elim
theorem RVs.mono {G : Gam} {F F' : Hp} {r r' : List Addr} (h : Le F F') (p : ∀ (i : Nat) a, r[i]? = some a → r'[i]? = some a) : ∀ (vs : List PV) (us : List V), RVs G F r vs us → RVs G F' r' vs us
  | [], _, q => q
  | v :: vs, _, q => by
    obtain ⟨u, ur, e, k, l⟩ := q
    exact ⟨u, ur, e, RV.mono h p v u k, RVs.mono h p vs ur l⟩
end
theorem RO.mono {G : Gam} {F F' : Hp} {r r' : List Addr} (h : Le F F') (p : ∀ (i : Nat) a, r[i]? = some a → r'[i]? = some a) {v : PV} {ho : HO} (q : RO G F r v ho) : RO G F' r' v ho := by
  unfold RO at q ⊢
  split at q
  · obtain ⟨us, e, k⟩ := q
    exact ⟨us, e, RVs.mono h p _ us k⟩
  · obtain ⟨us, e, k⟩ := q
    exact ⟨us, e.mono h, RVs.mono h p _ us k⟩
  · obtain ⟨dx, us, e, l, k⟩ := q
    exact ⟨dx, us, e, l, RVs.mono h p _ us k⟩
  · exact q.elim
theorem RVs.length {G : Gam} {F : Hp} {r : List Addr} : ∀ {vs : List PV} {us : List V}, RVs G F r vs us → vs.length = us.length
  | [], _, q => by
    have e := (show _ = [] from q)
    rw [e]; rfl
  | v :: vs, _, q => by
    obtain ⟨u, ur, e, k, l⟩ := q
    rw [e, List.length_cons, List.length_cons, RVs.length l]
theorem RVs.get {G : Gam} {F : Hp} {r : List Addr} : ∀ {vs : List PV} {us : List V} {i : Nat} {v : PV}, RVs G F r vs us → vs[i]? = some v → ∃ u, us[i]? = some u ∧ RV G F r v u
  | [], _, i, v, q, e => by simp at e
  | w :: vs, _, 0, v, q, e => by
    obtain ⟨u, ur, rfl, k, l⟩ := q
    simp at e; subst e
    exact ⟨u, by simp, k⟩
  | w :: vs, _, i + 1, v, q, e => by
    obtain ⟨u, ur, rfl, k, l⟩ := q
    obtain ⟨u', h1, h2⟩ := RVs.get (i := i) (v := v) l (by simpa using e)
    exact ⟨u', by simpa using h1, h2⟩
theorem RVs.append {G : Gam} {F : Hp} {r : List Addr} : ∀ {vs : List PV} {us : List V} {ws : List PV} {zs : List V}, RVs G F r vs us → RVs G F r ws zs → RVs G F r (vs ++ ws) (us ++ zs)
  | [], _, ws, zs, q, k => by
    have e := (show _ = [] from q)
    subst e
    exact k
  | v :: vs, _, ws, zs, q, k => by
    obtain ⟨u, ur, rfl, h, l⟩ := q
    exact ⟨u, ur ++ zs, rfl, h, RVs.append l k⟩
theorem RVs.set {G : Gam} {F : Hp} {r : List Addr} {x : PV} {y : V} (h : RV G F r x y) : ∀ {vs : List PV} {us : List V} (i : Nat), RVs G F r vs us → RVs G F r (vs.set i x) (us.set i y)
  | [], _, i, q => by
    have e := (show _ = [] from q)
    subst e
    exact rfl
  | v :: vs, _, 0, q => by
    obtain ⟨u, ur, rfl, k, l⟩ := q
    exact ⟨y, ur, rfl, h, l⟩
  | v :: vs, _, i + 1, q => by
    obtain ⟨u, ur, rfl, k, l⟩ := q
    exact ⟨u, ur.set i y, rfl, k, RVs.set h i l⟩
theorem RVs.ints {G : Gam} {F : Hp} {r : List Addr} : ∀ {ns : List Int} {us : List V}, RVs G F r (ns.map PV.int) us → us = ns.map V.int
  | [], _, q => q
  | n :: ns, _, q => by
    obtain ⟨u, ur, rfl, k, l⟩ := q
    have e : u = V.int n := k
    rw [e, RVs.ints l]
    rfl
theorem RVs.of_ints {G : Gam} {F : Hp} {r : List Addr} : ∀ (ns : List Int), RVs G F r (ns.map PV.int) (ns.map V.int)
  | [] => rfl
  | n :: ns => ⟨_, _, rfl, rfl, RVs.of_ints ns⟩
def lim (n0 : Nat) (L : Nat → Nat) (r : List Addr) (i : Nat) : List Addr := if i < n0 then r.take (L i) else r
structure Gh where
  L : Nat → Nat
  pn : Hp
  lk : Addr → Bool
noncomputable def isTb : HO → Bool
  | .tbl _ => true
  | .ext φ => @decide (¬ ∃ d xs, φ = nPhi d xs) (Classical.propDecidable _)
  | _ => false
theorem isTb_n (d : Addr) (xs : NKX) : isTb (.ext (nPhi d xs)) = false :=
  @decide_eq_false (¬ ∃ d' xs', nPhi d xs = nPhi d' xs') (Classical.propDecidable _) fun h => h ⟨d, xs, rfl⟩
def wit (c : Addr) (q : Str) : Heap := ⟨(Array.replicate c default).push ⟨.none, none, .fields #[.none, .str q default], #[]⟩, default⟩
theorem wit_at (c : Addr) (q : Str) : (wit c q).get? c = some ⟨.none, none, .fields #[.none, .str q default], #[]⟩ := by
  show (match ((Array.replicate c (default : Obj)).push ⟨.none, none, .fields #[.none, .str q default], #[]⟩)[c]? with | some ⟨_, _, .freed, _⟩ => none | o => o) = _
  rw [Array.getElem?_push, if_pos (by rw [Array.size_replicate])]
theorem wit_ne {c d : Addr} (q : Str) (h : d ≠ c) {o : Obj} (e : (wit c q).get? d = some o) : o = default := by
  have e : (match ((Array.replicate c (default : Obj)).push ⟨.none, none, .fields #[.none, .str q default], #[]⟩)[d]? with | some ⟨_, _, .freed, _⟩ => none | o => o) = some o := e
  rw [Array.getElem?_push, if_neg (by rw [Array.size_replicate]; exact h), Array.getElem?_replicate] at e
  by_cases k : d < c
  · rw [if_pos k] at e
    exact (Option.some.inj e).symm
  · rw [if_neg k] at e
    cases e
theorem isTb_code (c : Addr) (q : Str) : isTb (LamX.CodeO c q) = true := by
  unfold LamX.CodeO isTb
  refine @decide_eq_true _ (Classical.propDecidable _) fun hh => ?_
  obtain ⟨d, xs, e⟩ := hh
  have k := congrFun e (wit c q)
  have g : (∃ (oc : Obj) (vs : Array Value) (t : Tok), (wit c q).get? c = some oc ∧ oc.data = .fields vs ∧ vs[1]? = some (.str q t)) := ⟨_, _, default, wit_at c q, rfl, rfl⟩
  have k2 : nPhi d xs (wit c q) := k ▸ g
  obtain ⟨_, _, _, o, es, ep, g1, hx, hd, _⟩ := k2
  by_cases z : d = c
  · subst z
    rw [wit_at] at g1
    cases g1
    cases hd
  · have := wit_ne q z g1
    subst this
    cases hd
theorem DR.tb {F : Hp} {ho : HO} {ks : DKs} {us : List V} (q : DR F ho ks us) : isTb ho = false := by
  cases ks with
  | k l => obtain ⟨rfl, _⟩ := q; rfl
  | t l => obtain ⟨rfl, _⟩ := q; rfl
  | n l => obtain ⟨⟨d, xs, rfl, _⟩, _⟩ := q; exact isTb_n d xs
def isTk : HO → Bool
  | .tbl _ => true
  | .tup _ => true
  | _ => false
theorem tabS_upd {H : Hp} {P d : Addr} {q : Str} {o x : HO} (t : LamX.TabS H P q) (hd : H d = some o) (ho : isTb o = false) : LamX.TabS (L2.upd H d x) P q := by
  obtain ⟨ps, h1, h2, h3⟩ := t
  refine ⟨ps, ?_, h2, fun pos cv hc => ?_⟩
  · rw [upd_ne (fun z => by rw [z, hd] at h1; cases h1; cases ho)]
    exact h1
  · obtain ⟨c, e1, e2⟩ := h3 pos cv hc
    refine ⟨c, e1, ?_⟩
    rw [upd_ne (fun z => by
      rw [z, hd] at e2
      have e2 := Option.some.inj e2
      rw [e2, isTb_code] at ho
      cases ho)]
    exact e2
structure TabP (G : Gam) (g : Gh) (F : Hp) (r : List Addr) (H : Hp) (p : Addr × Str) : Prop where
  t : LamX.TabS H p.1 p.2
  f : F p.1 = none
  nr : p.1 ∉ r
  np : g.pn p.1 = none
theorem TabP.ne {G : Gam} {g : Gh} {F : Hp} {r : List Addr} {H : Hp} {p : Addr × Str} (t : TabP G g F r H p) {a : Addr} {o : HO} (h : H a = some o) (ho : isTb o = false) : p.1 ≠ a := fun z => by
  obtain ⟨ps, h1, _⟩ := t.t
  rw [z, h] at h1
  cases h1
  cases ho
theorem tb_upd {t : HO → Bool} {f : Hp} {a : Addr} {x : HO} (h : ∀ b o, f b = some o → t o = false) (hx : t x = false) : ∀ b o, L2.upd f a x b = some o → t o = false := fun b o e => by
  by_cases hb : b = a
  · subst hb
    rw [upd_same] at e
    cases e
    exact hx
  · rw [upd_ne hb] at e
    exact h b o e
structure TabA (G : Gam) (g : Gh) (F : Hp) (r : List Addr) (H : Hp) : Prop where
  t : ∀ p ∈ G.tb, TabP G g F r H p
  nf : ∀ a o, F a = some o → isTb o = false
  np : ∀ a o, g.pn a = some o → isTk o = false
structure HR (G : Gam) (n0 : Nat) (g : Gh) (F : Hp) (r : List Addr) (S : Store) (H : Hp) : Prop where
  sub : LeD F H
  nd : r.Nodup
  off : ∀ a ∈ r, F a = none
  len : r.length = S.length
  nle : n0 ≤ S.length
  lle : ∀ i : Nat, i < n0 → g.L i ≤ n0
  obj : ∀ (i : Nat) ob a, S[i]? = some ob → r[i]? = some a → ∃ ho, AtL H a ob ho ∧ RO G F (lim n0 g.L r i) ob ho
  pin : ∀ a o, g.pn a = some o → H a = some o ∧ (F a = none ∨ (isFz o = true ∧ g.lk a = true)) ∧ ∀ i : Nat, r[i]? = some a → ∃ ob, S[i]? = some (.lck ob)
  lckd : ∀ (i : Nat) ob a, S[i]? = some (.lck ob) → r[i]? = some a → ∃ o, g.pn a = some o
  out : ∀ a o, g.pn a = some o → g.lk a = false → a ∉ r
  tab : TabA G g F r H
structure Sg (G : Gam) (n0 : Nat) (g : Gh) (F : Hp) (r : List Addr) (env : Env) (σ : L2.St) (S : Store) (H : Hp) : Prop where
  hr : HR G n0 g F r S H
  sl : env.length = σ.length
  vr : ∀ (i : Nat) v, env[i]? = some (some v) → ∃ u, σ[i]? = some (some u) ∧ RV G F r v u
def Ext (F F' : Hp) (r r' : List Addr) : Prop := Le F F' ∧ r <+: r'
theorem Ext.refl (F : Hp) (r : List Addr) : Ext F F r r := ⟨Le.refl F, List.prefix_refl r⟩
theorem Ext.trans {F F' F2 : Hp} {r r' r2 : List Addr} (h : Ext F F' r r') (k : Ext F' F2 r' r2) : Ext F F2 r r2 := ⟨h.1.trans k.1, h.2.trans k.2⟩
theorem at_of {r r' : List Addr} (h : r <+: r') : ∀ (i : Nat) a, r[i]? = some a → r'[i]? = some a := fun i a e => by
  obtain ⟨t, rfl⟩ := h
  have hi := (List.getElem?_eq_some_iff.mp e).1
  rw [List.getElem?_append_left hi]
  exact e
theorem Ext.at_ {F F' : Hp} {r r' : List Addr} (h : Ext F F' r r') : ∀ (i : Nat) a, r[i]? = some a → r'[i]? = some a := at_of h.2
theorem lim_le (n0 : Nat) (L : Nat → Nat) (r : List Addr) (i : Nat) : lim n0 L r i <+: r := by
  unfold lim
  split
  · exact List.take_prefix _ _
  · exact List.prefix_refl r
theorem lim_mono {n0 : Nat} {L : Nat → Nat} {r r' : List Addr} (h : r <+: r') (i : Nat) : ∀ (j : Nat) a, (lim n0 L r i)[j]? = some a → (lim n0 L r' i)[j]? = some a := fun j b e => by
  unfold lim at e ⊢
  split at e
  · rename_i hn
    rw [if_pos hn]
    rw [List.getElem?_take] at e ⊢
    split at e
    · rename_i hj
      rw [if_pos hj]
      exact at_of h j b e
    · cases e
  · rename_i hn
    rw [if_neg hn]
    exact at_of h j b e
theorem RV.ext {G : Gam} {F F' : Hp} {r r' : List Addr} (h : Ext F F' r r') {v : PV} {u : V} (q : RV G F r v u) : RV G F' r' v u := RV.mono h.1 h.at_ v u q
theorem RVs.ext {G : Gam} {F F' : Hp} {r r' : List Addr} (h : Ext F F' r r') {v : List PV} {u : List V} (q : RVs G F r v u) : RVs G F' r' v u := RVs.mono h.1 h.at_ v u q
theorem Sg.ext {G : Gam} {n0 : Nat} {g : Gh} {F F' : Hp} {r r' : List Addr} {env : Env} {σ : L2.St} {S S' : Store} {H H' : Hp} (s : Sg G n0 g F r env σ S H) (h : Ext F F' r r') (k : HR G n0 g F' r' S' H') : Sg G n0 g F' r' env σ S' H' :=
  ⟨k, s.sl, fun i v e => let ⟨u, h1, h2⟩ := s.vr i v e; ⟨u, h1, h2.ext h⟩⟩
def RF (G : Gam) (g : Gh) (F : Hp) (r : List Addr) (H : Hp) (b : Bool) (v : PV) (u : V) : Prop := match b with
  | true => ∃ a ho, u = .ref a ∧ H a = some ho ∧ F a = none ∧ a ∉ r ∧ g.pn a = none ∧ RO G F r v ho ∧ unl v = v
  | false => RV G F r v u
section
variable {G : Gam} {n0 : Nat} {g : Gh} {F : Hp} {r : List Addr} {S : Store} {H : Hp}
theorem Le.upd {a : Addr} {ho : HO} (hF : F a = none) : Le F (L2.upd F a ho) := fun b o e => by
  rw [upd_ne (fun z => by rw [z, hF] at e; cases e)]
  exact e
theorem HR.nopin (h : HR G n0 g F r S H) {i : Nat} {a : Addr} {ob : PV} (e1 : r[i]? = some a) (e2 : S[i]? = some ob) (hu : unl ob = ob) : g.pn a = none := by
  cases e : g.pn a with
  | none => rfl
  | some o =>
    obtain ⟨ob', q⟩ := (h.pin a o e).2.2 i e1
    rw [e2] at q
    cases q
    have e4 : ob' = .lck ob' := hu
    exact absurd e4 (by intro z; have := congrArg sizeOf z; simp at this)
theorem HR.mem (h : HR G n0 g F r S H) {a : Addr} (ha : a ∈ r) : ∃ ho, H a = some ho := by
  obtain ⟨i, hi, e⟩ := List.getElem_of_mem ha
  have hs : i < S.length := by rw [← h.len]; exact hi
  obtain ⟨ho, q, _⟩ := h.obj i S[i] a (List.getElem?_eq_getElem hs) (by rw [List.getElem?_eq_getElem hi, e])
  exact q.there
theorem HR.noF (h : HR G n0 g F r S H) {a : Addr} (ha : H a = none) : F a = none := by
  cases e : F a with
  | none => rfl
  | some o =>
    exact absurd ha (h.sub.ne e)
theorem HR.nor (h : HR G n0 g F r S H) {a : Addr} (ha : H a = none) : a ∉ r := fun hm => by
  obtain ⟨ho, e⟩ := h.mem hm
  rw [e] at ha
  cases ha
theorem HR.nop (h : HR G n0 g F r S H) {a : Addr} (ha : H a = none) : g.pn a = none := by
  cases e : g.pn a with
  | none => rfl
  | some o =>
    rw [(h.pin a o e).1] at ha
    cases ha
theorem ro_tb {v : PV} {ho : HO} (q : RO G F r v ho) : isTb ho = false := by
  unfold RO at q
  split at q
  · obtain ⟨us, rfl, _⟩ := q; rfl
  · rename_i ks vs _
    obtain ⟨us, d, _⟩ := q
    exact d.tb
  · obtain ⟨dx, us, rfl, _⟩ := q; rfl
  · exact q.elim
theorem HR.tb_of (h : HR G n0 g F r S H) {a : Addr} {o : HO} (ha : a ∈ r) (e : H a = some o) : isTb o = false := by
  obtain ⟨i, hi, e1⟩ := List.getElem_of_mem ha
  have hs : i < S.length := by rw [← h.len]; exact hi
  obtain ⟨ho, q, ro⟩ := h.obj i S[i] a (List.getElem?_eq_getElem hs) (by rw [List.getElem?_eq_getElem hi, e1])
  rcases q.or with q | ⟨_, od, q⟩
  · rw [e] at q; cases q; exact ro_tb ro
  · rw [e] at q; cases q; rfl
theorem HR.heap {H' : Hp} (h : HR G n0 g F r S H) (k : ∀ a o, H a = some o → H' a = some o) : HR G n0 g F r S H' :=
  ⟨h.sub.heap k, h.nd, h.off, h.len, h.nle, h.lle, fun i ob a e1 e2 => let ⟨ho, q, z⟩ := h.obj i ob a e1 e2; ⟨ho, q.heap (k a), z⟩, fun a o e => let ⟨q, z⟩ := h.pin a o e; ⟨k _ _ q, z⟩, h.lckd, h.out, ⟨fun p hp => let t := h.tab.t p hp; ⟨t.t.ext k, t.f, t.nr, t.np⟩, h.tab.nf, h.tab.np⟩⟩
theorem HR.grow {a : Addr} {ho : HO} (h : HR G n0 g F r S H) (hH : H a = some ho) (hF : F a = none) (hr : a ∉ r) (hp : g.pn a = none) (hb : isTb ho = false) : HR G n0 g (L2.upd F a ho) r S H := by
  refine ⟨fun b o e => ?_, h.nd, fun b hb => ?_, h.len, h.nle, h.lle, fun i ob c e1 e2 => ?_, fun b o e => ?_, h.lckd, h.out, ⟨fun p hp' => let t := h.tab.t p hp'; ⟨t.t, by rw [upd_ne (t.ne hH hb)]; exact t.f, t.nr, t.np⟩, tb_upd h.tab.nf hb, h.tab.np⟩⟩
  · by_cases hb : b = a
    · subst hb
      rw [upd_same] at e
      rw [hH]; exact .inl e
    · rw [upd_ne hb] at e
      exact h.sub b o e
  · rw [upd_ne (fun z => hr (by rw [← z]; exact hb))]
    exact h.off b hb
  · obtain ⟨o, h1, h2⟩ := h.obj i ob c e1 e2
    exact ⟨o, h1, RO.mono (Le.upd hF) (fun _ _ e => e) h2⟩
  · obtain ⟨q1, q2, q3⟩ := h.pin b o e
    refine ⟨q1, ?_, q3⟩
    rw [upd_ne (fun z => by rw [z, hp] at e; cases e)]
    exact q2
theorem freeze {b : Bool} {v : PV} {u : V} (h : HR G n0 g F r S H) (q : RF G g F r H b v u) : ∃ F', Ext F F' r r ∧ HR G n0 g F' r S H ∧ RV G F' r v u := by
  cases b with
  | false => exact ⟨F, .refl F r, h, q⟩
  | true =>
    obtain ⟨a, ho, rfl, hH, hF, hr, hp, ro, hu⟩ := q
    refine ⟨L2.upd F a ho, ⟨Le.upd hF, List.prefix_refl r⟩, h.grow hH hF hr hp (ro_tb ro), ?_⟩
    have ro' : RO G (L2.upd F a ho) r v ho := RO.mono (Le.upd hF) (fun _ _ e => e) ro
    unfold RO at ro'
    rw [hu] at ro'
    split at ro'
    · obtain ⟨us, rfl, k⟩ := ro'
      exact ⟨a, us, rfl, .inl upd_same, k⟩
    · obtain ⟨us, d, k⟩ := ro'
      exact ⟨a, us, ho, rfl, upd_same, d, k⟩
    · obtain ⟨dx, us, rfl, l, k⟩ := ro'
      exact ⟨a, dx, us, rfl, upd_same, l, k⟩
    · exact ro'.elim
theorem store_new {v : PV} {u : V} (h : HR G n0 g F r S H) (q : RF G g F r H true v u) : ∃ r', Ext F F r r' ∧ HR G n0 g F r' (S ++ [v]) H ∧ RV G F r' (.ref S.length) u := by
  obtain ⟨a, ho, rfl, hH, hF, hr, hp, ro, hu⟩ := q
  have ex : Ext F F r (r ++ [a]) := ⟨.refl F, List.prefix_append r [a]⟩
  refine ⟨r ++ [a], ex, ⟨h.sub, ?_, fun b hb => ?_, by simp [h.len], by rw [List.length_append]; exact Nat.le_trans h.nle (Nat.le_add_right _ _), h.lle, fun i ob c e1 e2 => ?_, fun b o e => ?_, fun i ob c e1 e2 => ?_, fun b o e el hb => ?_, ⟨fun p hp' => let t := h.tab.t p hp'; ⟨t.t, t.f, fun hm => (List.mem_append.mp hm).elim t.nr fun z => t.ne hH (ro_tb ro) (by simpa using z), t.np⟩, h.tab.nf, h.tab.np⟩⟩, ⟨a, ?_, rfl⟩⟩
  · rw [List.nodup_append]
    refine ⟨h.nd, by simp, fun x hx y hy e => ?_⟩
    have : y = a := by simpa using hy
    exact hr (by rw [← this, ← e]; exact hx)
  · rcases List.mem_append.mp hb with hb | hb
    · exact h.off b hb
    · have : b = a := by simpa using hb
      rw [this]; exact hF
  · by_cases hi : i < S.length
    · rw [List.getElem?_append_left hi] at e1
      rw [List.getElem?_append_left (by rw [h.len]; exact hi)] at e2
      obtain ⟨o, h1, h2⟩ := h.obj i ob c e1 e2
      exact ⟨o, h1, RO.mono (.refl F) (lim_mono ex.2 i) h2⟩
    · have hi' : i = S.length := by
        have := (List.getElem?_eq_some_iff.mp e1).1
        rw [List.length_append, List.length_singleton] at this
        omega
      subst hi'
      rw [List.getElem?_append_right (Nat.le_refl _)] at e1
      rw [← h.len, List.getElem?_append_right (Nat.le_refl _)] at e2
      simp at e1 e2
      subst e1 e2
      refine ⟨ho, .mk hH (isLk_unl hu), ?_⟩
      unfold lim
      rw [if_neg (by have := h.nle; omega)]
      exact RO.mono (.refl F) ex.at_ ro
  · obtain ⟨q1, q2, q3⟩ := h.pin b o e
    refine ⟨q1, q2, fun i hm => ?_⟩
    by_cases hi : i < r.length
    · rw [List.getElem?_append_left hi] at hm
      obtain ⟨ob, hb⟩ := q3 i hm
      exact ⟨ob, by rw [List.getElem?_append_left (by rw [← h.len]; exact hi)]; exact hb⟩
    · have : b = a := by
        rw [List.getElem?_append_right (by omega)] at hm
        have := List.mem_of_getElem? hm
        simpa using this
      rw [this, hp] at e
      cases e
  · by_cases hi : i < S.length
    · rw [List.getElem?_append_left hi] at e1
      rw [List.getElem?_append_left (by rw [h.len]; exact hi)] at e2
      exact h.lckd i ob c e1 e2
    · rw [List.getElem?_append_right (by omega)] at e1
      have := List.mem_of_getElem? e1
      have e3 : PV.lck ob = v := by simpa using this
      rw [← e3] at hu ro
      have e4 : ob = .lck ob := hu
      exact absurd e4 (by intro z; have := congrArg sizeOf z; simp at this)
  · rcases List.mem_append.mp hb with hb | hb
    · exact h.out b o e el hb
    · have : b = a := by simpa using hb
      rw [this, hp] at e
      cases e
  · rw [← h.len, List.getElem?_append_right (Nat.le_refl _)]
    simp
theorem new_obj {p : Addr} {ho : HO} {v : PV} (h : HR G n0 g F r S H) (hp : H p = none) (ro : RO G F r v ho) (hu : unl v = v) : HR G n0 g F r S (L2.upd H p ho) ∧ RF G g F r (L2.upd H p ho) true v (.ref p) :=
  ⟨h.heap fun a o e => by rw [upd_ne (ne_of_none e hp)]; exact e, ⟨p, ho, rfl, upd_same, h.noF hp, h.nor hp, h.nop hp, ro, hu⟩⟩
theorem new_tup {p : Addr} {xs : List PV} {us : List V} (h : HR G n0 g F r S H) (hp : H p = none) (q : RVs G F r xs us) : ∃ F', Ext F F' r r ∧ HR G n0 g F' r S (L2.upd H p (.tup us)) ∧ RV G F' r (.tup xs) (.ref p) := by
  have h1 : HR G n0 g F r S (L2.upd H p (.tup us)) := h.heap fun a o e => by rw [upd_ne (ne_of_none e hp)]; exact e
  have x : Ext F (L2.upd F p (.tup us)) r r := ⟨Le.upd (h.noF hp), List.prefix_refl r⟩
  exact ⟨_, x, h1.grow upd_same (h.noF hp) (h.nor hp) (h.nop hp) rfl, ⟨p, us, rfl, upd_same, q.ext x⟩⟩
theorem HR.ref (h : HR G n0 g F r S H) {i : Nat} {u : V} {ob : PV} (q : RV G F r (.ref i) u) (e : S[i]? = some ob) : ∃ a ho, u = .ref a ∧ r[i]? = some a ∧ AtL H a ob ho ∧ RO G F r ob ho := by
  obtain ⟨a, e1, rfl⟩ := q
  obtain ⟨ho, h1, h2⟩ := h.obj i ob a e e1
  exact ⟨a, ho, rfl, e1, h1, RO.mono (.refl F) (at_of (lim_le n0 g.L r i)) h2⟩
theorem RO.unl_ {v : PV} {ho : HO} (q : RO G F r v ho) : RO G F r (unl v) ho := by
  unfold RO at q ⊢
  cases v with
  | lck w =>
    cases w <;> first | exact q.elim | exact q
  | _ => exact q
theorem AtL.orK {a : Addr} {ob w : PV} {ho : HO} (q : AtL H a ob ho) (ro : RO G F r ob ho) (e : unlD ob = some w) : H a = some ho ∨ (isDk ho = true ∧ ∃ od, H a = some (.frz od ho)) := by
  cases hl : isLk ob with
  | false => exact .inl (q.nl hl)
  | true =>
    refine .inr ⟨?_, (q.lk hl).2⟩
    cases ob with
    | lck o =>
      cases o with
      | dct ks vs =>
        cases ks with
        | k l =>
          obtain ⟨us, ⟨rfl, _⟩, _⟩ := ro
          rfl
        | t l => cases e
        | n l => cases e
      | _ => cases hl
    | _ => cases hl
theorem view (h : HR G n0 g F r S H) {v w : PV} {u : V} (q : RV G F r v u) (e : deref S v = some w) : RV G F r w u ∧ (∀ i, w ≠ .ref i) ∨ ∃ a ho, u = .ref a ∧ (H a = some ho ∨ (isDk ho = true ∧ ∃ od, H a = some (.frz od ho))) ∧ RO G F r w ho := by
  cases v with
  | ref i =>
    unfold deref at e
    cases es : S[i]? with
    | none =>
      simp only [es] at e
      cases e
    | some ob =>
      simp only [es] at e
      obtain ⟨a, ho, e1, _, e3, e4⟩ := h.ref q es
      have ew := unlD_some e
      subst ew
      exact .inr ⟨a, ho, e1, e3.orK e4 e, e4.unl_⟩
  | lck v => exact False.elim q
  | non => cases e; exact .inl ⟨q, fun i z => nomatch z⟩
  | bl b => cases e; exact .inl ⟨q, fun i z => nomatch z⟩
  | int b => cases e; exact .inl ⟨q, fun i z => nomatch z⟩
  | str b => cases e; exact .inl ⟨q, fun i z => nomatch z⟩
  | tup b => cases e; exact .inl ⟨q, fun i z => nomatch z⟩
  | lst b => cases e; exact .inl ⟨q, fun i z => nomatch z⟩
  | dct b c => cases e; exact .inl ⟨q, fun i z => nomatch z⟩
  | ins b c d => cases e; exact .inl ⟨q, fun i z => nomatch z⟩
theorem nodk {a : Addr} {ho : HO} (q : H a = some ho ∨ (isDk ho = true ∧ ∃ od, H a = some (.frz od ho))) (h : isDk ho = false) : H a = some ho := by
  rcases q with q | ⟨q, _⟩
  · exact q
  · rw [h] at q; cases q
theorem view_lst (h : HR G n0 g F r S H) {v : PV} {u : V} {xs : List PV} (q : RV G F r v u) (e : deref S v = some (.lst xs)) : ∃ a us, u = .ref a ∧ Rd H a (.lst us) ∧ RVs G F r xs us := by
  rcases view h q e with ⟨k, _⟩ | ⟨a, ho, e1, e2, k⟩
  · obtain ⟨a, us, e1, e2, e3⟩ := k
    exact ⟨a, us, e1, h.sub.rd e2, e3⟩
  · obtain ⟨us, rfl, k⟩ := k
    exact ⟨a, us, e1, .inl (nodk e2 rfl), k⟩
theorem view_tup (h : HR G n0 g F r S H) {v : PV} {u : V} {xs : List PV} (q : RV G F r v u) (e : deref S v = some (.tup xs)) : ∃ a us, u = .ref a ∧ SqT G.K H a us ∧ RVs G F r xs us := by
  rcases view h q e with ⟨k, _⟩ | ⟨a, ho, e1, e2, k⟩
  · obtain ⟨a, us, e1, e2, e3⟩ := k
    exact ⟨a, us, e1, h.sub.tp e2, e3⟩
  · exact k.elim
theorem view_ins (h : HR G n0 g F r S H) {v : PV} {u : V} {c : Nat} {ns : List Nat} {vs : List PV} (q : RV G F r v u) (e : deref S v = some (.ins c ns vs)) :
    ∃ a dx us, u = .ref a ∧ H a = some (.ins (G.ca c) dx ((ns.map G.nm).zip us)) ∧ ns.length = us.length ∧ RVs G F r vs us := by
  rcases view h q e with ⟨k, _⟩ | ⟨a, ho, e1, e2, k⟩
  · obtain ⟨a, dx, us, e1, e2, e3, e4⟩ := k
    exact ⟨a, dx, us, e1, h.sub.eq e2 rfl, e3, e4⟩
  · obtain ⟨dx, us, rfl, l, k⟩ := k
    exact ⟨a, dx, us, e1, nodk e2 rfl, l, k⟩
theorem view_dct (h : HR G n0 g F r S H) {v : PV} {u : V} {ks : DKs} {vs : List PV} (q : RV G F r v u) (e : deref S v = some (.dct ks vs)) : ∃ a ho us, u = .ref a ∧ Rd H a ho ∧ DR F ho ks us ∧ RVs G F r vs us := by
  rcases view h q e with ⟨k, _⟩ | ⟨a, ho, e1, e2, k⟩
  · obtain ⟨a, us, ho, e1, e2, e3, e4⟩ := k
    exact ⟨a, ho, us, e1, h.sub.any e2, e3, e4⟩
  · obtain ⟨us, d, k⟩ := k
    exact ⟨a, ho, us, e1, e2.imp (fun q => q) (fun ⟨_, od, q⟩ => ⟨od, q⟩), d, k⟩
theorem view_dctTd (h : HR G n0 g F r S H) {v : PV} {u : V} {kt : List (List (Sum Int Str))} {vs : List PV} (q : RV G F r v u) (e : deref S v = some (.dct (.t kt) vs)) : ∃ a us, u = .ref a ∧ Rd H a (.dT (kt.zip us)) ∧ kt.length = us.length ∧ RVs G F r vs us := by
  obtain ⟨a, ho, us, e1, e2, ⟨rfl, hl⟩, e4⟩ := view_dct h q e
  exact ⟨a, us, e1, e2, hl, e4⟩
def derf (S : Store) (v : PV) : Option PV := match v with
  | .dct (.t _) _ => none
  | _ => deref S v
theorem derf_d {v w : PV} (e : derf S v = some w) : deref S v = some w := by
  unfold derf at e
  split at e
  · cases e
  · exact e
theorem view_dctT (h : HR G n0 g F r S H) {v : PV} {u : V} {kt : List (List (Sum Int Str))} {vs : List PV} (q : RV G F r v u) (e : derf S v = some (.dct (.t kt) vs)) : ∃ a us, u = .ref a ∧ H a = some (.dT (kt.zip us)) ∧ kt.length = us.length ∧ RVs G F r vs us := by
  cases v with
  | ref i =>
    have e : deref S (.ref i) = some (.dct (.t kt) vs) := e
    unfold deref at e
    cases es : S[i]? with
    | none => simp only [es] at e; cases e
    | some ob =>
      simp only [es] at e
      obtain ⟨a, ho, e1, _, e3, e4⟩ := h.ref q es
      have ew := unlD_some e
      have hl : isLk ob = false := by
        cases ob with
        | lck o =>
          cases o with
          | dct ks vs => cases ks <;> first | rfl | cases e
          | _ => first | rfl | cases e
        | _ => rfl
      have e5 : RO G F r (unl ob) ho := e4.unl_
      rw [ew] at e5
      obtain ⟨us, ⟨rfl, hz⟩, k⟩ := e5
      exact ⟨a, us, e1, e3.nl hl, hz, k⟩
  | dct ks vs' => cases ks <;> cases e
  | _ => cases e
theorem view_int (h : HR G n0 g F r S H) {v : PV} {u : V} {i : Int} (q : RV G F r v u) (e : deref S v = some (.int i)) : u = .int i := by
  rcases view h q e with ⟨k, _⟩ | ⟨a, ho, e1, e2, k⟩
  · exact k
  · exact k.elim
theorem view_bl (h : HR G n0 g F r S H) {v : PV} {u : V} {i : Bool} (q : RV G F r v u) (e : deref S v = some (.bl i)) : u = .bl i := by
  rcases view h q e with ⟨k, _⟩ | ⟨a, ho, e1, e2, k⟩
  · exact k
  · exact k.elim
theorem view_non (h : HR G n0 g F r S H) {v : PV} {u : V} (q : RV G F r v u) (e : deref S v = some .non) : u = .non := by
  rcases view h q e with ⟨k, _⟩ | ⟨a, ho, e1, e2, k⟩
  · exact k
  · exact k.elim
theorem view_str (h : HR G n0 g F r S H) {v : PV} {u : V} {x : Str} (q : RV G F r v u) (e : deref S v = some (.str x)) : u = .str x := by
  rcases view h q e with ⟨k, _⟩ | ⟨a, ho, e1, e2, k⟩
  · exact k
  · exact k.elim
theorem view_seq (h : HR G n0 g F r S H) {v : PV} {u : V} {xs : List PV} (q : RV G F r v u) (e : itemsOf S v = some xs) : ∃ a us, u = .ref a ∧ (SqL G.K H a us ∨ SqT G.K H a us) ∧ RVs G F r xs us := by
  unfold itemsOf at e
  split at e
  · rename_i xs' e'
    cases e
    obtain ⟨a, us, e1, e2, e3⟩ := view_lst h q e'
    exact ⟨a, us, e1, .inl (.inl e2), e3⟩
  · rename_i xs' e'
    cases e
    obtain ⟨a, us, e1, e2, e3⟩ := view_tup h q e'
    exact ⟨a, us, e1, .inr e2, e3⟩
  · cases e
end
def atV : PV → Option V
  | .non => some .non
  | .bl b => some (.bl b)
  | .int i => some (.int i)
  | .str x => some (.str x)
  | _ => none
def XD (pl : List PV) (d : Option Addr) (H : Hp) : Prop := match pl with
  | [] => d = none
  | [.str f, v] => ∃ dx y, d = some dx ∧ H dx = some (.xd [(f, y)]) ∧ atV v = some y
  | _ => False
def XE (E : XK) (cls : Value) (pl : List PV) (H : Hp) : Prop := ∀ d, XD pl d H → E cls d H
end PX
set_option Elab.async false
set_option linter.all false
set_option maxRecDepth 100000
namespace PX
open PySem PySem.Spec PyProof.Rows L2
def PoE (G : Gam) (n0 : Nat) (g : Gh) (F : Hp) (r : List Addr) (env : Env) (σ : L2.St) (z : R (Bool × PV)) (Q : VK) : Prop := match z with
  | .ok p S' => ∀ F' r' H' u, Ext F F' r r' → Sg G n0 g F' r' env σ S' H' → RF G g F' r' H' p.1 p.2 u → Q u H'
  | _ => False
def PoV (G : Gam) (n0 : Nat) (g : Gh) (F : Hp) (r : List Addr) (env : Env) (σ : L2.St) (z : R (Bool × PV)) (Q : VK) : Prop := match z with
  | .ok p S' => ∀ F' r' H' u, Ext F F' r r' → Sg G n0 g F' r' env σ S' H' → RV G F' r' p.2 u → Q u H'
  | _ => False
def PoT (G : Gam) (n0 : Nat) (g : Gh) (F : Hp) (r : List Addr) (env : Env) (σ : L2.St) (z : R Bool) (Q : Bool → Hp → Prop) : Prop := match z with
  | .ok b S' => ∀ F' r' H', Ext F F' r r' → Sg G n0 g F' r' env σ S' H' → Q b H'
  | _ => False
def PoA (G : Gam) (n0 : Nat) (g : Gh) (F : Hp) (r : List Addr) (env : Env) (σ : L2.St) (z : R (List PV)) (Q : List V → Hp → Prop) : Prop := match z with
  | .ok vs S' => ∀ F' r' H' us, Ext F F' r r' → Sg G n0 g F' r' env σ S' H' → RVs G F' r' vs us → Q us H'
  | _ => False
def rdE (G : Gam) (n0 : Nat) (f : SE) : TE := fun σ H Q => ∃ F r env S g, Sg G n0 g F r env σ S H ∧ PoE G n0 g F r env σ (f env S) Q
def rdV (G : Gam) (n0 : Nat) (f : SE) : TE := fun σ H Q => ∃ F r env S g, Sg G n0 g F r env σ S H ∧ PoV G n0 g F r env σ (f env S) Q
def rdT (G : Gam) (n0 : Nat) (f : ST) : TT := fun σ H Q => ∃ F r env S g, Sg G n0 g F r env σ S H ∧ PoT G n0 g F r env σ (f env S) Q
def rdA (G : Gam) (n0 : Nat) (f : SA) : TA := fun σ H Q => ∃ F r env S g, Sg G n0 g F r env σ S H ∧ PoA G n0 g F r env σ (f env S) Q
theorem peI {X : Cx} {e : Expr} {t t' : TE} (h : PE X e t) (w : ∀ σ H Q, t' σ H Q → t σ H Q) : PE X e t' := ⟨fun pins s σ H Q I q => h.run pins s σ H Q I (w σ H Q q)⟩
theorem ptI {X : Cx} {e : Expr} {t t' : TT} (h : PT X e t) (w : ∀ σ H Q, t' σ H Q → t σ H Q) : PT X e t' := ⟨fun pins s σ H Q I q => h.run pins s σ H Q I (w σ H Q q)⟩
theorem pwI {X : Cx} {e : Expr} {t t' : TT} (h : PW X e t) (w : ∀ σ H Q, t' σ H Q → t σ H Q) : PW X e t' := ⟨fun wh pins s σ H Q I q => h.run wh pins s σ H Q I (w σ H Q q)⟩
theorem paI {X : Cx} {e : List Expr} {t t' : TA} (h : PA X e t) (w : ∀ σ H Q, t' σ H Q → t σ H Q) : PA X e t' := ⟨fun pos pins s σ H Q I q => h.run pos pins s σ H Q I (w σ H Q q)⟩
structure Cn {α : Type} (C : R α → Prop) : Prop where
  no : ¬ C .no
  ex : ∀ c p S', ¬ C (.ex c p S')
section
variable {G : Gam} {n0 : Nat} {g : Gh} {F F1 : Hp} {r r1 : List Addr} {env : Env} {σ : L2.St} {S S1 : Store} {H H1 : Hp} {Q : VK} {QT : Bool → Hp → Prop} {QA : List V → Hp → Prop}
theorem cnE : Cn fun z => PoE G n0 g F r env σ z Q := ⟨fun h => h, fun _ _ _ h => h⟩
theorem cnT : Cn fun z => PoT G n0 g F r env σ z QT := ⟨fun h => h, fun _ _ _ h => h⟩
theorem cnA : Cn fun z => PoA G n0 g F r env σ z QA := ⟨fun h => h, fun _ _ _ h => h⟩
theorem stE {f : SE} {T : V → Hp → Prop} {α : Type} {kk : Bool × PV → Store → R α} {C : R α → Prop} (s : Sg G n0 g F r env σ S H) (cn : Cn C) (h : C ((f env S).bind kk))
    (step : ∀ p S' F' r' H' u, Ext F F' r r' → Sg G n0 g F' r' env σ S' H' → RF G g F' r' H' p.1 p.2 u → C (kk p S') → T u H') : rdE G n0 f σ H T := by
  refine ⟨F, r, env, S, g, s, ?_⟩
  cases e : f env S with
  | ok p S' =>
    rw [e] at h
    exact fun F' r' H' u ex s' q => step p S' F' r' H' u ex s' q h
  | ex c p S' =>
    rw [e] at h
    exact (cn.ex c p S' h).elim
  | no =>
    rw [e] at h
    exact (cn.no h).elim
theorem stV {f : SE} {T : V → Hp → Prop} {α : Type} {kk : Bool × PV → Store → R α} {C : R α → Prop} (s : Sg G n0 g F r env σ S H) (cn : Cn C) (h : C ((f env S).bind kk))
    (step : ∀ p S' F' r' H' u, Ext F F' r r' → Sg G n0 g F' r' env σ S' H' → RV G F' r' p.2 u → C (kk p S') → T u H') : rdV G n0 f σ H T := by
  refine ⟨F, r, env, S, g, s, ?_⟩
  cases e : f env S with
  | ok p S' =>
    rw [e] at h
    exact fun F' r' H' u ex s' q => step p S' F' r' H' u ex s' q h
  | ex c p S' =>
    rw [e] at h
    exact (cn.ex c p S' h).elim
  | no =>
    rw [e] at h
    exact (cn.no h).elim
theorem stT {f : ST} {T : Bool → Hp → Prop} {α : Type} {kk : Bool → Store → R α} {C : R α → Prop} (s : Sg G n0 g F r env σ S H) (cn : Cn C) (h : C ((f env S).bind kk))
    (step : ∀ p S' F' r' H', Ext F F' r r' → Sg G n0 g F' r' env σ S' H' → C (kk p S') → T p H') : rdT G n0 f σ H T := by
  refine ⟨F, r, env, S, g, s, ?_⟩
  cases e : f env S with
  | ok p S' =>
    rw [e] at h
    exact fun F' r' H' ex s' => step p S' F' r' H' ex s' h
  | ex c p S' =>
    rw [e] at h
    exact (cn.ex c p S' h).elim
  | no =>
    rw [e] at h
    exact (cn.no h).elim
theorem stA {f : SA} {T : List V → Hp → Prop} {α : Type} {kk : List PV → Store → R α} {C : R α → Prop} (s : Sg G n0 g F r env σ S H) (cn : Cn C) (h : C ((f env S).bind kk))
    (step : ∀ p S' F' r' H' us, Ext F F' r r' → Sg G n0 g F' r' env σ S' H' → RVs G F' r' p us → C (kk p S') → T us H') : rdA G n0 f σ H T := by
  refine ⟨F, r, env, S, g, s, ?_⟩
  cases e : f env S with
  | ok p S' =>
    rw [e] at h
    exact fun F' r' H' us ex s' q => step p S' F' r' H' us ex s' q h
  | ex c p S' =>
    rw [e] at h
    exact (cn.ex c p S' h).elim
  | no =>
    rw [e] at h
    exact (cn.no h).elim
theorem goE {f : SE} (s : Sg G n0 g F1 r1 env σ S1 H1) (x : Ext F F1 r r1) (h : PoE G n0 g F r env σ (f env S1) Q) : rdE G n0 f σ H1 Q := by
  refine ⟨F1, r1, env, S1, g, s, ?_⟩
  cases e : f env S1 with
  | ok p S' => rw [e] at h; exact fun F' r' H' u ex s' q => h F' r' H' u (x.trans ex) s' q
  | ex => rw [e] at h; exact h
  | no => rw [e] at h; exact h
theorem goT {f : ST} (s : Sg G n0 g F1 r1 env σ S1 H1) (x : Ext F F1 r r1) (h : PoT G n0 g F r env σ (f env S1) QT) : rdT G n0 f σ H1 QT := by
  refine ⟨F1, r1, env, S1, g, s, ?_⟩
  cases e : f env S1 with
  | ok p S' => rw [e] at h; exact fun F' r' H' ex s' => h F' r' H' (x.trans ex) s'
  | ex => rw [e] at h; exact h
  | no => rw [e] at h; exact h
theorem endO {o : Option (Bool × PV)} {T : VK → Prop} (s : Sg G n0 g F1 r1 env σ S1 H1) (x : Ext F F1 r r1) (h : PoE G n0 g F r env σ (ofO o S1) Q)
    (ok : ∀ z, o = some z → (∀ F' r' H' w, Ext F1 F' r1 r' → HR G n0 g F' r' S1 H' → RF G g F' r' H' z.1 z.2 w → Q w H') → T Q) : T Q := by
  unfold ofO at h
  cases o with
  | none => exact h.elim
  | some z => exact ok z rfl fun F' r' H' w x' hr rf => h F' r' H' w (x.trans x') (s.ext x' hr) rf
end
section
variable {X : Cx} {G : Gam} {n0 : Nat} {e : Expr} {f : SE}
theorem toV (h : PE X e (rdE G n0 f)) : PE X e (rdV G n0 f) := by
  refine peI h fun σ H Q ⟨F, r, env, S, g, s, p⟩ => ⟨F, r, env, S, g, s, ?_⟩
  cases e : f env S with
  | ok p' S' =>
    rw [e] at p
    intro F' r' H' u x s' q
    obtain ⟨F2, x2, h2, q2⟩ := freeze s'.hr q
    exact p F2 r' H' u (x.trans x2) (s'.ext x2 h2) q2
  | ex => rw [e] at p; exact p
  | no => rw [e] at p; exact p
def Ok1 (G : Gam) (o : Op1) (t : V → Hp → VK → Prop) : Prop := ∀ n0 g F r S H x u z Q, HR G n0 g F r S H → RV G F r x u → o x S = some z →
  (∀ F' r' H' w, Ext F F' r r' → HR G n0 g F' r' S H' → RF G g F' r' H' z.1 z.2 w → Q w H') → t u H Q
def Ok2 (G : Gam) (o : Op2) (t : R2) : Prop := ∀ n0 g F r S H x y u v z Q, HR G n0 g F r S H → RV G F r x u → RV G F r y v → o x y S = some z →
  (∀ F' r' H' w, Ext F F' r r' → HR G n0 g F' r' S H' → RF G g F' r' H' z.1 z.2 w → Q w H') → t u v H Q
def OkN (G : Gam) (o : OpN) (t : List V → Hp → VK → Prop) : Prop := ∀ n0 g F r S H xs us z Q, HR G n0 g F r S H → RVs G F r xs us → o xs S = some z →
  (∀ F' r' H' w, Ext F F' r r' → HR G n0 g F' r' S H' → RF G g F' r' H' z.1 z.2 w → Q w H') → t us H Q
variable {a b c : Expr} {fa fb fc : SE} {pos : Pos} {es : List Expr} {fs : SA} {rest : List Expr}
theorem se_var {i : Nat} (hp : PE X e (tVar i)) : PE X e (rdE G n0 (eVar i)) := by
  refine peI hp fun σ H Q ⟨F, r, env, S, g, s, h⟩ => ?_
  unfold eVar at h
  split at h
  · rename_i v ev
    obtain ⟨u, h1, h2⟩ := s.vr i v ev
    exact ⟨u, h1, h F r H u (.refl F r) s h2⟩
  · exact h.elim
theorem se_lit {u : V} {v : PV} (hp : PE X e (tC u)) (hv : ∀ F r, RV G F r v u) : PE X e (rdE G n0 (eLit v)) :=
  peI hp fun σ H Q ⟨F, r, env, S, g, s, h⟩ => h F r H u (.refl F r) s (hv F r)
theorem se_un {op : UnaryOp} {o : Op1} {t : V → Hp → VK → Prop} (hop : UnR X (unaryOp op) t) (ho : Ok1 G o t) (ha : PE X a (rdE G n0 fa)) : PE X (.UnaryOp op a pos) (rdE G n0 (eUn o fa)) := by
  refine peI (pe_un hop (toV ha)) fun σ H Q ⟨F, r, env, S, g, s, h⟩ => ?_
  refine stV s cnE h fun p S1 F1 r1 H1 u x1 s1 q1 h1 => ?_
  exact endO (T := fun Q => t u H1 Q) s1 x1 h1 fun z ez k => ho n0 g F1 r1 S1 H1 p.2 u z Q s1.hr q1 ez k
theorem se_bin {op : Operator} {o : Op2} {t : R2} (hop : OpR X (binaryOp op) t) (ho : Ok2 G o t) (ha : PE X a (rdE G n0 fa)) (hb : PE X b (rdE G n0 fb)) : PE X (.BinOp a op b pos) (rdE G n0 (eBin o fa fb)) := by
  refine peI (pe_op hop (toV ha) (toV hb)) fun σ H Q ⟨F, r, env, S, g, s, h⟩ => ?_
  refine stV s cnE h fun p S1 F1 r1 H1 u x1 s1 q1 h1 => ?_
  refine stV s1 cnE h1 fun q S2 F2 r2 H2 v x2 s2 q2 h2 => ?_
  exact endO (T := fun Q => t u v H2 Q) s2 (x1.trans x2) h2 fun z ez k => ho n0 g F2 r2 S2 H2 p.2 q.2 u v z Q s2.hr (q1.ext x2) q2 ez k
theorem se_cmp {op : CmpOp} {o : Op2} {t : R2} (hop : OpR X (compareOp op) t) (ho : Ok2 G o t) (ha : PE X a (rdE G n0 fa)) (hb : PE X b (rdE G n0 fb)) (hm : behindInMarks op b = false) : PE X (.Compare a [op] [b] pos) (rdE G n0 (eBin o fa fb)) := by
  refine peI (pe_cmpR hop (toV ha) (toV hb) hm) fun σ H Q ⟨F, r, env, S, g, s, h⟩ => ?_
  refine stV s cnE h fun p S1 F1 r1 H1 u x1 s1 q1 h1 => ?_
  refine stV s1 cnE h1 fun q S2 F2 r2 H2 v x2 s2 q2 h2 => ?_
  exact endO (T := fun Q => t u v H2 Q) s2 (x1.trans x2) h2 fun z ez k => ho n0 g F2 r2 S2 H2 p.2 q.2 u v z Q s2.hr (q1.ext x2) q2 ez k
theorem bl_of {g : Gh} {F : Hp} {r : List Addr} {H : Hp} {b : Bool} {k : Bool} {w : V} (q : RF G g F r H b (.bl k) w) : w = .bl k := by
  cases b with
  | false => exact q
  | true =>
    obtain ⟨_, _, _, _, _, _, _, ro, _⟩ := q
    exact ro.elim
theorem st_cmp {op : CmpOp} {o : Op2} {t : R2} (hop : OpR X (compareOp op) t) (ho : Ok2 G o t) (ha : PE X a (rdE G n0 fa)) (hb : PE X b (rdE G n0 fb)) (hm : behindInMarks op b = false) : PT X (.Compare a [op] [b] pos) (rdT G n0 (tBl (eBin o fa fb))) := by
  refine ptI (pt_cmpR hop (toV ha) (toV hb) hm) fun σ H Q ⟨F, r, env, S, g, s, h⟩ => ?_
  have h : PoT G n0 g F r env σ (((fa env S).bind fun p S1 => (fb env S1).bind fun q S2 => ofO (o p.2 q.2 S2) S2).bind fun p S1 => match p.2 with
    | .bl b => .ok b S1
    | _ => .no) Q := h
  have assoc : ∀ {α β γ : Type} (m : R α) (k : α → Store → R β) (l : β → Store → R γ), (m.bind k).bind l = m.bind fun x S => (k x S).bind l := fun m k l => by cases m <;> rfl
  rw [assoc] at h
  refine stV s cnT h fun p S1 F1 r1 H1 u x1 s1 q1 h1 => ?_
  rw [assoc] at h1
  refine stV s1 cnT h1 fun q S2 F2 r2 H2 v x2 s2 q2 h2 => ?_
  cases eo : o p.2 q.2 S2 with
  | none => rw [eo] at h2; exact h2.elim
  | some z =>
    rw [eo] at h2
    refine ho n0 g F2 r2 S2 H2 p.2 q.2 u v z _ s2.hr (q1.ext x2) q2 eo fun F' r' H' w x hr rf => ?_
    have h3 : PoT G n0 g F r env σ (match z.2 with
      | .bl b => .ok b S2
      | _ => .no) Q := h2
    split at h3
    · rename_i k ek
      rw [ek] at rf
      exact ⟨k, bl_of rf, h3 F' r' H' ((x1.trans x2).trans x) (s2.ext x hr)⟩
    · exact h3.elim
theorem truth_ok {g : Gh} {F : Hp} {r : List Addr} {S : Store} {H : Hp} {v : PV} {u : V} {k : Bool} (h : HR G n0 g F r S H) (q : RV G F r v u) (e : truth S v = some k) : TruV G.K u H k := by
  unfold truth at e
  split at e
  · rename_i b e'
    cases e
    rw [view_bl h q e']
    exact rfl
  · rename_i i e'
    cases e
    rw [view_int h q e']
    exact rfl
  · rename_i e'
    cases e
    rw [view_non h q e']
    exact rfl
  · rename_i xs e'
    cases e
    obtain ⟨a, us, rfl, h1, h2⟩ := view_lst h q e'
    refine .inl ⟨us, .inl h1, ?_⟩
    cases xs with
    | nil => have e3 : us = [] := h2; rw [e3]; rfl
    | cons x xs => obtain ⟨_, _, rfl, _, _⟩ := h2; rfl
  · rename_i xs e'
    cases e
    obtain ⟨a, us, rfl, h1, h2⟩ := view_tup h q e'
    refine .inr (.inl ⟨us, h1, ?_⟩)
    cases xs with
    | nil => have e3 : us = [] := h2; rw [e3]; rfl
    | cons x xs => obtain ⟨_, _, rfl, _, _⟩ := h2; rfl
  · cases e
theorem st_tru (hK : G.K = X.K) (ha : PE X a (rdE G n0 fa)) (he : ∀ whole, isTrue a X.env whole = (do let v ← whole; standAt a.pos; holding [v] (truthy v)) := by intro _; rfl) : PT X a (rdT G n0 (tTru fa)) := by
  refine ptI (pt_truth (toV ha) he) fun σ H Q ⟨F, r, env, S, g, s, h⟩ => ?_
  refine stV s cnT h fun p S1 F1 r1 H1 u x1 s1 q1 h1 => ?_
  cases et : truth S1 p.2 with
  | none => rw [et] at h1; exact h1.elim
  | some k =>
    rw [et] at h1
    exact ⟨k, hK ▸ truth_ok s1.hr q1 et, h1 F1 r1 H1 x1 s1⟩
theorem st_no {ta : ST} (ha : PT X a (rdT G n0 ta)) : PT X (.UnaryOp .Not a pos) (rdT G n0 (tNo ta)) := by
  refine ptI (pt_not ha) fun σ H Q ⟨F, r, env, S, g, s, h⟩ => ?_
  exact stT s cnT h fun p S1 F1 r1 H1 x1 s1 h1 => h1 F1 r1 H1 x1 s1
theorem sw_one {op : BoolOp} {ta : ST} (ha : PT X a (rdT G n0 ta)) : PW X (.BoolOp op [a] pos) (rdT G n0 ta) := by
  cases op with
  | And => exact pw_and1 ha
  | Or => exact pw_or1 ha
theorem sw_or {ta tb : ST} (ha : PT X a (rdT G n0 ta)) (hb : PW X (.BoolOp .Or (b :: rest) pos) (rdT G n0 tb)) : PW X (.BoolOp .Or (a :: b :: rest) pos) (rdT G n0 (tOr ta tb)) := by
  refine pwI (pw_or ha hb) fun σ H Q ⟨F, r, env, S, g, s, h⟩ => ?_
  refine stT s cnT h fun p S1 F1 r1 H1 x1 s1 h1 => ?_
  cases p with
  | true => exact h1 F1 r1 H1 x1 s1
  | false => exact goT s1 x1 h1
theorem se_one {op : BoolOp} (ha : PE X a (rdE G n0 fa)) : PE X (.BoolOp op [a] pos) (rdE G n0 fa) := pe_one ha
theorem se_and (hK : G.K = X.K) (ha : PE X a (rdE G n0 fa)) (hb : PE X (.BoolOp .And (b :: rest) pos) (rdE G n0 fb)) : PE X (.BoolOp .And (a :: b :: rest) pos) (rdE G n0 (eAn fa fb)) := by
  refine peI (pe_andT (toV ha) hb) fun σ H Q ⟨F, r, env, S, g, s, h⟩ => ?_
  refine stV s cnE h fun p S1 F1 r1 H1 u x1 s1 q1 h1 => ?_
  cases et : truth S1 p.2 with
  | none => rw [et] at h1; exact h1.elim
  | some k =>
    rw [et] at h1
    refine ⟨k, hK ▸ truth_ok s1.hr q1 et, ?_⟩
    cases k with
    | true => exact goE s1 x1 h1
    | false => exact h1 F1 r1 H1 u x1 s1 q1
theorem se_not (hK : G.K = X.K) (ha : PE X a (rdE G n0 fa)) : PE X (.UnaryOp .Not a pos) (rdE G n0 (eNot fa)) := by
  refine peI (pe_notT (toV ha)) fun σ H Q ⟨F, r, env, S, g, s, h⟩ => ?_
  refine stV s cnE h fun p S1 F1 r1 H1 u x1 s1 q1 h1 => ?_
  cases et : truth S1 p.2 with
  | none => rw [et] at h1; exact h1.elim
  | some k =>
    rw [et] at h1
    exact ⟨k, hK ▸ truth_ok s1.hr q1 et, h1 F1 r1 H1 _ x1 s1 rfl⟩
theorem se_if {tc : ST} (hc : PT X c (rdT G n0 tc)) (ha : PE X a (rdE G n0 fa)) (hb : PE X b (rdE G n0 fb)) : PE X (.IfExp c a b pos) (rdE G n0 (eIf tc fa fb)) := by
  refine peI (pe_ifExp hc ha hb) fun σ H Q ⟨F, r, env, S, g, s, h⟩ => ?_
  refine stT s cnE h fun p S1 F1 r1 H1 x1 s1 h1 => ?_
  cases p with
  | true => exact goE s1 x1 h1
  | false => exact goE s1 x1 h1
theorem se_ch {o1 o2 : CmpOp} {o o' : Op2} {t t' : R2} (hop : OpR X (compareOp o1) t) (ho : Ok2 G o t) (hop' : OpR X (compareOp o2) t') (ho' : Ok2 G o' t') (ha : PE X a (rdE G n0 fa)) (hb : PE X b (rdE G n0 fb)) (hc : PE X c (rdE G n0 fc))
    (hp : PE X (.Compare a [o1, o2] [b, c] pos) (tChain t t' (rdV G n0 fa) (rdV G n0 fb) (rdV G n0 fc))) : PE X (.Compare a [o1, o2] [b, c] pos) (rdE G n0 (eCh o o' fa fb fc)) := by
  refine peI hp fun σ H Q ⟨F, r, env, S, g, s, h⟩ => ?_
  refine stV s cnE h fun p S1 F1 r1 H1 u x1 s1 q1 h1 => ?_
  refine stV s1 cnE h1 fun q S2 F2 r2 H2 v x2 s2 q2 h2 => ?_
  split at h2
  · rename_i eo
    refine ho n0 g F2 r2 S2 H2 p.2 q.2 u v _ _ s2.hr (q1.ext x2) q2 eo fun F3 r3 H3 w x3 hr3 rf => ⟨true, rf, ?_⟩
    refine stV (s2.ext x3 hr3) cnE h2 fun z S4 F4 r4 H4 w' x4 s4 q4 h4 => ?_
    exact endO (T := fun Q => t' v w' H4 Q) s4 (((x1.trans x2).trans x3).trans x4) h4 fun z' ez k => ho' n0 g F4 r4 S4 H4 q.2 z.2 v w' z' Q s4.hr (q2.ext (x3.trans x4)) q4 ez k
  · rename_i eo
    refine ho n0 g F2 r2 S2 H2 p.2 q.2 u v _ _ s2.hr (q1.ext x2) q2 eo fun F3 r3 H3 w x3 hr3 rf => ⟨false, rf, ?_⟩
    exact h2 F3 r3 H3 _ ((x1.trans x2).trans x3) (s2.ext x3 hr3) rfl
  · exact h2.elim
theorem sa_nil : PA X [] (rdA G n0 aNil) := paI pa_nil fun σ H Q ⟨F, r, env, S, g, s, h⟩ => h F r H [] (.refl F r) s rfl
theorem sa_cons (ha : PE X a (rdE G n0 fa)) (hr : PA X es (rdA G n0 fs)) (hs : starEach (a :: es) X.env = (false, eval a X.env) :: starEach es X.env := by rfl) : PA X (a :: es) (rdA G n0 (aCons fa fs)) := by
  refine paI (pa_cons (toV ha) hr hs) fun σ H Q ⟨F, r, env, S, g, s, h⟩ => ?_
  refine stV s cnA h fun p S1 F1 r1 H1 u x1 s1 q1 h1 => ?_
  refine stA s1 cnA h1 fun q S2 F2 r2 H2 us x2 s2 q2 h2 => ?_
  exact h2 F2 r2 H2 _ (x1.trans x2) s2 ⟨u, us, rfl, q1.ext x2, q2⟩
theorem sa_star {sp_ : Pos} (hK : G.K = X.K) (ha : PE X a (rdE G n0 fa)) (hr : PA X es (rdA G n0 fs)) (hs : starEach (.Starred a sp_ :: es) X.env = (true, eval a X.env) :: starEach es X.env := by rfl) : PA X (.Starred a sp_ :: es) (rdA G n0 (aStar fa fs)) := by
  refine paI (StX.pa_star (toV ha) hr hs) fun σ H Q ⟨F, r, env, S, g, s, h⟩ => ?_
  refine stV s cnA h fun p S1 F1 r1 H1 u x1 s1 q1 h1 => ?_
  cases ei : itemsOf S1 p.2 with
  | none => simp only [ei] at h1; exact h1.elim
  | some xs =>
    simp only [ei] at h1
    obtain ⟨a', us, rfl, hs', rv⟩ := view_seq s1.hr q1 ei
    refine ⟨a', us, rfl, hK ▸ hs'.symm, ?_⟩
    refine stA s1 cnA h1 fun q S2 F2 r2 H2 ws x2 s2 q2 h2 => ?_
    exact h2 F2 r2 H2 _ (x1.trans x2) s2 ((rv.ext x2).append q2)
theorem small_le {n : Nat} (h : small n = true) : n ≤ sizeLine := by
  have : n ≤ 1000000 := Nat.le_of_ble_eq_true h
  exact Nat.le_trans this (by rw [sizeLine_eq]; decide)
theorem se_tup {x1} (h : PA X es (rdA G n0 fs)) : PE X (.Tuple es x1 pos) (rdE G n0 (eTup fs)) := by
  refine peI (pe_tup h) fun σ H Q ⟨F, r, env, S, g, s, h⟩ => ?_
  refine stA s cnE h fun p S1 F1 r1 H1 us x1 s1 q1 h1 => ?_
  split at h1
  · rename_i hz
    refine ⟨by rw [← RVs.length q1]; exact small_le hz, fun p' hp => ?_⟩
    obtain ⟨F2, x2, h2, k⟩ := new_tup s1.hr hp q1
    exact h1 F2 r1 _ _ (x1.trans x2) (s1.ext x2 h2) k
  · exact h1.elim
theorem se_lst (h : PA X es (rdA G n0 fs)) : PE X (.List es pos) (rdE G n0 (eLst fs)) := by
  refine peI (pe_lst h) fun σ H Q ⟨F, r, env, S, g, s, h⟩ => ?_
  refine stA s cnE h fun p S1 F1 r1 H1 us x1 s1 q1 h1 => ?_
  split at h1
  · rename_i hz
    refine ⟨by rw [← RVs.length q1]; exact small_le hz, fun p' hp => ?_⟩
    obtain ⟨h2, k⟩ := new_obj s1.hr hp (v := .lst p) ⟨us, rfl, q1⟩ rfl
    exact h1 F1 r1 _ _ x1 (s1.ext (.refl _ _) h2) k
  · exact h1.elim
theorem se_new (ha : PE X a (rdE G n0 fa)) : PE X a (rdE G n0 (eNew fa)) := by
  refine peI ha fun σ H Q ⟨F, r, env, S, g, s, h⟩ => ?_
  refine stE s cnE h fun p S1 F1 r1 H1 u x1 s1 q1 h1 => ?_
  obtain ⟨b, v⟩ := p
  cases b with
  | false => exact h1 F1 r1 H1 u x1 s1 q1
  | true =>
    obtain ⟨r2, x2, h2, k⟩ := store_new s1.hr q1
    exact h1 F1 r2 H1 u (x1.trans x2) (s1.ext x2 h2) k
end
end PX
set_option Elab.async false
set_option linter.all false
set_option maxRecDepth 100000
namespace PX
open PySem PySem.Spec PyProof.Rows L2
def PoS (G : Gam) (n0 : Nat) (E : XK) (g : Gh) (F : Hp) (r : List Addr) (z : RS) (D : Ends) : Prop := match z with
  | .nx e S' => ∀ F' r' H' σ', Ext F F' r r' → Sg G n0 g F' r' e σ' S' H' → D.nx σ' H'
  | .bk e S' => ∀ F' r' H' σ', Ext F F' r r' → Sg G n0 g F' r' e σ' S' H' → D.bk σ' H'
  | .ct e S' => ∀ F' r' H' σ', Ext F F' r r' → Sg G n0 g F' r' e σ' S' H' → D.ct σ' H'
  | .rt v S' => ∀ F' r' H' u, Ext F F' r r' → HR G n0 g F' r' S' H' → RV G F' r' v u → D.rt u H'
  | .ex c pl S' => ∀ F' r' H', Ext F F' r r' → HR G n0 g F' r' S' H' → XE E (.ref (G.ca c)) pl H'
  | .no => False
def rdS (G : Gam) (n0 : Nat) (E : XK) (f : SS) : TS := fun D σ H => ∃ F r env S g, Sg G n0 g F r env σ S H ∧ PoS G n0 E g F r (f env S) D
def GhLe (g g2 : Gh) : Prop := ∀ a o, g.pn a = some o → g.lk a = true → g2.pn a = some o ∧ g2.lk a = true
theorem GhLe.refl (g : Gh) : GhLe g g := fun _ _ e l => ⟨e, l⟩
theorem GhLe.trans {g g2 g3 : Gh} (h : GhLe g g2) (k : GhLe g2 g3) : GhLe g g3 := fun a o e l => k a o (h a o e l).1 (h a o e l).2
def Gh.rep (g : Gh) (rp : Option (Addr × HO)) : Gh := match rp with
  | none => g
  | some p => ⟨g.L, L2.upd g.pn p.1 p.2, g.lk⟩
def Gh.has (g : Gh) (rp : Option (Addr × HO)) : Prop := ∀ p, rp = some p → (∃ o, g.pn p.1 = some o) ∧ g.lk p.1 = false
def GhPin (g g' : Gh) : Prop := ∀ a o, g.pn a = some o → g.lk a = false → g'.pn a = some o ∧ g'.lk a = false
theorem GhPin.refl (g : Gh) : GhPin g g := fun _ _ e l => ⟨e, l⟩
theorem GhPin.has {g g' : Gh} (h : GhPin g g') {rp : Option (Addr × HO)} (k : g.has rp) : g'.has rp := fun p e => by
  obtain ⟨⟨o, q⟩, l⟩ := k p e
  exact ⟨⟨o, (h _ o q l).1⟩, (h _ o q l).2⟩
def Its (G : Gam) (n0 : Nat) (g : Gh) (F : Hp) (r : List Addr) (J : It) (xs : List PV) : Prop := ∀ g2, GhLe g g2 → ∀ F2 r2 S2 H2, HR G n0 g2 F2 r2 S2 H2 → Ext F F2 r r2 →
  (∀ (i : Nat) x, xs[i]? = some x → J.go i H2 ∧ ∀ v H3, J.yld i H2 v H3 → ∃ F3, Ext F2 F3 r2 r2 ∧ HR G n0 g2 F3 r2 S2 H3 ∧ RV G F3 r2 x v) ∧ (∀ i, xs.length ≤ i → J.stop i H2)
def PoI (G : Gam) (n0 : Nat) (g : Gh) (F : Hp) (r : List Addr) (env : Env) (σ : L2.St) (z : R (List PV × List (Nat × PV))) (T : It → Hp → Prop) : Prop := match z with
  | .ok p S' => ∀ F' r' H' J g', Ext F F' r r' → Sg G n0 g' F' r' env σ S' H' → Its G n0 g' F' r' J p.1 →
      GhPin g g' → (∀ rp, g.has rp → ∀ F2 r2 S2 H2, HR G n0 (g'.rep rp) F2 r2 S2 H2 → Ext F' F2 r' r2 → HR G n0 (g.rep rp) F2 r2 (unlock p.2 S2) H2) → T J H'
  | _ => False
def rdI (G : Gam) (n0 : Nat) (f : SI) : TI := fun σ H T => ∃ F r env S g, Sg G n0 g F r env σ S H ∧ PoI G n0 g F r env σ (f env S) T
theorem psI {X : Cx} {st : Stmt} {t t' : TS} (h : PS X st t) (w : ∀ D σ H, t' D σ H → t D σ H) : PS X st t' := ⟨fun pins s σ H D I q => h.run pins s σ H D I (w D σ H q)⟩
theorem pssI {X : Cx} {st : List Stmt} {t t' : TS} (h : PSs X st t) (w : ∀ D σ H, t' D σ H → t D σ H) : PSs X st t' := ⟨fun pins s σ H D I q => h.run pins s σ H D I (w D σ H q)⟩
theorem piI {X : Cx} {tg e : Expr} {t t' : TI} (h : PI X tg e t) (w : ∀ σ H R, t' σ H R → t σ H R) : PI X tg e t' := ⟨fun pins s σ H R I q => h.run pins s σ H R I (w σ H R q)⟩
def TgOk (G : Gam) (t : Tg) (gg : TG) : Prop := ∀ n0 g F r env σ S H v u env' (Q : L2.St → Hp → Prop), Sg G n0 g F r env σ S H → RV G F r v u → t v env S = some env' → (∀ σ', Sg G n0 g F r env' σ' S H → Q σ' H) → gg u σ H Q
section
variable {X : Cx} {G : Gam} {n0 : Nat} {g : Gh} {F F1 : Hp} {r r1 : List Addr} {env : Env} {σ : L2.St} {S S1 : Store} {H H1 : Hp} {D : Ends} {E : XK}
theorem PoS.ext {z : RS} (h : PoS G n0 E g F r z D) (x : Ext F F1 r r1) : PoS G n0 E g F1 r1 z D := by
  cases z with
  | nx e S' => exact fun F' r' H' σ' e s => h F' r' H' σ' (x.trans e) s
  | bk e S' => exact fun F' r' H' σ' e s => h F' r' H' σ' (x.trans e) s
  | ct e S' => exact fun F' r' H' σ' e s => h F' r' H' σ' (x.trans e) s
  | rt v S' => exact fun F' r' H' u e s => h F' r' H' u (x.trans e) s
  | ex c p S' => exact fun F' r' H' e q => h F' r' H' (x.trans e) q
  | no => exact h
theorem goS {f : SS} (s : Sg G n0 g F1 r1 env σ S1 H1) (x : Ext F F1 r r1) (h : PoS G n0 E g F r (f env S1) D) : rdS G n0 E f D σ H1 := ⟨F1, r1, env, S1, g, s, h.ext x⟩
theorem sgV {f : SE} {T : V → Hp → Prop} {kk : Bool × PV → Store → RS} (s : Sg G n0 g F r env σ S H) (h : PoS G n0 E g F r ((f env S).go kk) D)
    (step : ∀ p S' F' r' H' u, Ext F F' r r' → Sg G n0 g F' r' env σ S' H' → RV G F' r' p.2 u → PoS G n0 E g F r (kk p S') D → T u H') : rdV G n0 f σ H T := by
  refine ⟨F, r, env, S, g, s, ?_⟩
  cases e : f env S with
  | ok p S' => rw [e] at h; exact fun F' r' H' u ex s' q => step p S' F' r' H' u ex s' q h
  | ex c p S' => rw [e] at h; exact False.elim h
  | no => rw [e] at h; exact False.elim h
theorem sgT {f : ST} {T : Bool → Hp → Prop} {kk : Bool → Store → RS} (s : Sg G n0 g F r env σ S H) (h : PoS G n0 E g F r ((f env S).go kk) D)
    (step : ∀ p S' F' r' H', Ext F F' r r' → Sg G n0 g F' r' env σ S' H' → PoS G n0 E g F r (kk p S') D → T p H') : rdT G n0 f σ H T := by
  refine ⟨F, r, env, S, g, s, ?_⟩
  cases e : f env S with
  | ok p S' => rw [e] at h; exact fun F' r' H' ex s' => step p S' F' r' H' ex s' h
  | ex c p S' => rw [e] at h; exact False.elim h
  | no => rw [e] at h; exact False.elim h
theorem sgA {f : SA} {T : List V → Hp → Prop} {kk : List PV → Store → RS} (s : Sg G n0 g F r env σ S H) (h : PoS G n0 E g F r ((f env S).go kk) D)
    (step : ∀ p S' F' r' H' us, Ext F F' r r' → Sg G n0 g F' r' env σ S' H' → RVs G F' r' p us → PoS G n0 E g F r (kk p S') D → T us H') : rdA G n0 f σ H T := by
  refine ⟨F, r, env, S, g, s, ?_⟩
  cases e : f env S with
  | ok p S' => rw [e] at h; exact fun F' r' H' us ex s' q => step p S' F' r' H' us ex s' q h
  | ex c p S' => rw [e] at h; exact False.elim h
  | no => rw [e] at h; exact False.elim h
variable {st : Stmt} {rest : List Stmt} {fa fb : SS} {e : Expr} {fe : SE} {pos : Pos}
theorem ss_nil : PSs X [] (rdS G n0 E sNil) := pssI pss_nil fun D σ H ⟨F, r, env, S, g, s, h⟩ => h F r H σ (.refl F r) s
theorem ss_cons (h1 : PS X st (rdS G n0 E fa)) (h2 : PSs X rest (rdS G n0 E fb)) : PSs X (st :: rest) (rdS G n0 E (sCons fa fb)) := by
  refine pssI (pss_cons h1 h2) fun D σ H ⟨F, r, env, S, g, s, h⟩ => ?_
  refine ⟨F, r, env, S, g, s, ?_⟩
  have h : PoS G n0 E g F r ((fa env S).then fb) D := h
  cases e : fa env S with
  | nx env' S' => rw [e] at h; exact fun F' r' H' σ' x s' => goS s' x h
  | bk => rw [e] at h; exact h
  | ct => rw [e] at h; exact h
  | rt => rw [e] at h; exact h
  | ex => rw [e] at h; exact h
  | no => rw [e] at h; exact h
theorem ss_one (h1 : PS X st (rdS G n0 E fa)) : PSs X [st] (rdS G n0 E fa) := pss_one h1
theorem ss_expr (he : PE X e (rdE G n0 fe)) (hs : swapsWith e none pos.line X.env = pure false := by rfl) : PS X (.Expr e pos) (rdS G n0 E (sExp fe)) := by
  refine psI (ps_expr (toV he) hs) fun D σ H ⟨F, r, env, S, g, s, h⟩ => ?_
  exact sgV s h fun p S1 F1 r1 H1 u x1 s1 q1 h1 => h1 F1 r1 H1 σ x1 s1
theorem ss_ret (he : PE X e (rdE G n0 fe)) : PS X (.Return (some e) pos) (rdS G n0 E (sRet fe)) := by
  refine psI (ps_ret (toV he)) fun D σ H ⟨F, r, env, S, g, s, h⟩ => ?_
  exact sgV s h fun p S1 F1 r1 H1 u x1 s1 q1 h1 => h1 F1 r1 H1 u x1 s1.hr q1
theorem ss_no : PS X st (rdS G n0 E sNo) := psI ps_never fun D σ H ⟨F, r, env, S, g, s, h⟩ => h
theorem ss_if {c : Expr} {a b : List Stmt} {tc : ST} (hc : PT X c (rdT G n0 tc)) (ha : PSs X a (rdS G n0 E fa)) (hb : PSs X b (rdS G n0 E fb)) : PS X (.If c a b pos) (rdS G n0 E (sIf tc fa fb)) := by
  refine psI (ps_if hc ha hb) fun D σ H ⟨F, r, env, S, g, s, h⟩ => ?_
  refine sgT s h fun p S1 F1 r1 H1 x1 s1 h1 => ?_
  cases p with
  | true => exact goS s1 x1 h1
  | false => exact goS s1 x1 h1
theorem Sg.set {i : Nat} {v : PV} {u : V} (s : Sg G n0 g F r env σ S H) (q : RV G F r v u) : Sg G n0 g F r (env.set i (some v)) (σ.set i (some u)) S H := by
  refine ⟨s.hr, by rw [List.length_set, List.length_set, s.sl], fun j w e => ?_⟩
  by_cases hj : i = j
  · subst hj
    have hi : i < env.length := by
      have := (List.getElem?_eq_some_iff.mp e).1
      rwa [List.length_set] at this
    rw [List.getElem?_set_self hi] at e
    cases e
    exact ⟨u, by rw [List.getElem?_set_self (by rw [← s.sl]; exact hi)], q⟩
  · rw [List.getElem?_set_ne hj] at e
    obtain ⟨u', h1, h2⟩ := s.vr j w e
    exact ⟨u', by rw [List.getElem?_set_ne hj]; exact h1, h2⟩
theorem tg_nm (i : Nat) : TgOk G (gNm i) (gName i) := fun n0 g F r env σ S H v u env' Q s q e h => by
  cases e
  exact h _ (s.set q)
def TgsOk (G : Gam) (ts : List Tg) (gs : TGs) : Prop := ∀ n0 g F r env σ S H vs us env' (Q : L2.St → Hp → Prop), Sg G n0 g F r env σ S H → RVs G F r vs us → gTps ts vs env S = some env' → (∀ σ', Sg G n0 g F r env' σ' S H → Q σ' H) → gs us σ H Q
theorem tgs_nil : TgsOk G [] gNil := fun n0 g F r env σ S H vs us env' Q s q e h => by
  cases vs with
  | nil =>
    cases e
    exact ⟨q, h σ s⟩
  | cons v vs => cases e
theorem tgs_cons {t : Tg} {ts : List Tg} {gg : TG} {gs : TGs} (h1 : TgOk G t gg) (h2 : TgsOk G ts gs) : TgsOk G (t :: ts) (gCons gg gs) := fun n0 g F r env σ S H vs us env' Q s q e h => by
  cases vs with
  | nil => cases e
  | cons v vs =>
    obtain ⟨u, ur, rfl, q1, q2⟩ := q
    have e : (match t v env S with
      | some env' => gTps ts vs env' S
      | none => none) = some env' := e
    cases e1 : t v env S with
    | none => rw [e1] at e; cases e
    | some env1 =>
      rw [e1] at e
      exact ⟨u, ur, rfl, h1 n0 g F r env σ S H v u env1 _ s q1 e1 fun σ' s' => h2 n0 g F r env1 σ' S H vs ur env' Q s' q2 e h⟩
theorem gTps_len {ts : List Tg} : ∀ {vs : List PV} {env env' : Env}, gTps ts vs env S = some env' → vs.length = ts.length := by
  induction ts with
  | nil =>
    intro vs env env' e
    cases vs with
    | nil => rfl
    | cons => cases e
  | cons t ts ih =>
    intro vs env env' e
    cases vs with
    | nil => cases e
    | cons v vs =>
      have e : (match t v env S with
        | some env' => gTps ts vs env' S
        | none => none) = some env' := e
      cases e1 : t v env S with
      | none => rw [e1] at e; cases e
      | some env1 =>
        rw [e1] at e
        rw [List.length_cons, List.length_cons, ih e]
theorem tg_tp {ts : List Tg} {gs : TGs} {n : Nat} (h : TgsOk G ts gs) (hn : ts.length = n) : TgOk G (gTp ts) (gTup G.K n gs) := fun n0 g F r env σ S H v u env' Q s q e k => by
  unfold gTp at e
  split at e
  · rename_i xs e'
    obtain ⟨a, us, rfl, h1, h2⟩ := view_tup s.hr q e'
    exact ⟨a, us, rfl, h1, by rw [← RVs.length h2, gTps_len e, hn], h n0 g F r env σ S H xs us env' Q s h2 e k⟩
  · cases e
theorem ss_asg {gg : TG} {t : Tg} (hp : PS X st (tAsg (rdV G n0 fe) gg)) (ht : TgOk G t gg) : PS X st (rdS G n0 E (sAsg t fe)) := by
  refine psI hp fun D σ H ⟨F, r, env, S, g, s, h⟩ => ?_
  refine sgV s h fun p S1 F1 r1 H1 u x1 s1 q1 h1 => ?_
  cases e : t p.2 env S1 with
  | none => rw [e] at h1; exact False.elim h1
  | some env' =>
    rw [e] at h1
    exact ht n0 g F1 r1 env σ S1 H1 p.2 u env' D.nx s1 q1 e fun σ' s' => h1 F1 r1 H1 σ' x1 s'
theorem ss_par {i j : Nat} {ft : SA} (hp : PS X st (tPar i j (rdA G n0 ft))) : PS X st (rdS G n0 E (sPar [i, j] ft)) := by
  refine psI hp fun D σ H ⟨F, r, env, S, g, s, h⟩ => ?_
  refine sgA s h fun p S1 F1 r1 H1 us x1 s1 q1 h1 => ?_
  match p, q1, h1 with
  | [], _, h1 => exact False.elim h1
  | [a], _, h1 => exact False.elim h1
  | a :: b :: c :: d, _, h1 => exact False.elim h1
  | [a, b], q1, h1 =>
    obtain ⟨u, ur, rfl, k1, q2⟩ := q1
    obtain ⟨v, vr, rfl, k2, q3⟩ := q2
    have e : vr = [] := q3
    subst e
    exact ⟨u, v, rfl, h1 F1 r1 H1 _ x1 ((s1.set k1).set k2)⟩
theorem ss_for {fi : SI} {t : Tg} {gg : TG} (hf : PS X st (tFor (rdI G n0 fi) gg (rdS G n0 E fb))) (ht : TgOk G t gg) : PS X st (rdS G n0 E (sFor fi t fb)) := by
  refine psI hf fun D σ H ⟨F, r, env, S, g, s, h⟩ => ?_
  refine ⟨F, r, env, S, g, s, ?_⟩
  have h : PoS G n0 E g F r ((fi env S).go fun p S1 => (forR t fb p.1 env S1).unl p.2) D := h
  cases ei : fi env S with
  | no => rw [ei] at h; exact False.elim h
  | ex => rw [ei] at h; exact False.elim h
  | ok p S1 =>
    rw [ei] at h
    obtain ⟨xs, ls⟩ := p
    have h : PoS G n0 E g F r ((forR t fb xs env S1).unl ls) D := h
    intro F1 r1 H1 J g' x1 s1 its _ ul
    have ul : ∀ F2 r2 S2 H2, HR G n0 g' F2 r2 S2 H2 → Ext F1 F2 r1 r2 → HR G n0 g F2 r2 (unlock ls S2) H2 := ul none (fun p e => nomatch e)
    have its : Its G n0 g' F1 r1 J xs := its
    refine ⟨fun i m σ' H' => m = xs.length - i ∧ i ≤ xs.length ∧ ∃ F2 r2 env2 S2, Ext F1 F2 r1 r2 ∧ Sg G n0 g' F2 r2 env2 σ' S2 H' ∧ PoS G n0 E g F r ((forR t fb (xs.drop i) env2 S2).unl ls) D,
      ⟨xs.length, rfl, Nat.zero_le _, F1, r1, env, S1, .refl _ _, s1, h⟩, ?_⟩
    rintro i m σ2 H2 ⟨rfl, hi, F2, r2, env2, S2, x2, s2, h2⟩
    obtain ⟨ig, ie⟩ := its g' (.refl g') F2 r2 S2 H2 s2.hr x2
    by_cases hlt : i < xs.length
    · have hx : xs[i]? = some xs[i] := List.getElem?_eq_getElem hlt
      have hd : xs.drop i = xs[i] :: xs.drop (i + 1) := List.drop_eq_getElem_cons hlt
      rw [hd] at h2
      obtain ⟨go, yl⟩ := ig i xs[i] hx
      refine .inr ⟨go, fun σ' H' => (xs.length - (i + 1)) < xs.length - i ∧ ∃ F2 r2 env2 S2, Ext F1 F2 r1 r2 ∧ Sg G n0 g' F2 r2 env2 σ' S2 H' ∧ PoS G n0 E g F r ((forR t fb (xs.drop (i + 1)) env2 S2).unl ls) D,
        fun σ' H' ⟨q0, q⟩ => ⟨_, q0, rfl, hlt, q⟩, fun v H3 hy => ?_⟩
      obtain ⟨F3, x3, hr3, q3⟩ := yl v H3 hy
      have h3 : PoS G n0 E g F r ((match t xs[i] env2 S2 with
        | none => RS.no
        | some env' => match fb env' S2 with
          | .nx e S' => forR t fb (xs.drop (i + 1)) e S'
          | .ct e S' => forR t fb (xs.drop (i + 1)) e S'
          | .bk e S' => .nx e S'
          | z => z).unl ls) D := h2
      cases et : t xs[i] env2 S2 with
      | none => rw [et] at h3; exact False.elim h3
      | some env3 =>
        simp only [et] at h3
        refine ht n0 g' F3 r2 env2 σ2 S2 H3 xs[i] v env3 _ (s2.ext x3 hr3) q3 et fun σ3 s3 => ?_
        refine ⟨F3, r2, env3, S2, g', s3, ?_⟩
        have xx : Ext F1 F3 r1 r2 := x2.trans x3
        cases eb : fb env3 S2 with
        | nx e S' =>
          rw [eb] at h3
          exact fun F4 r4 H4 σ4 x4 s4 => ⟨by omega, F4, r4, e, S', xx.trans x4, s4, h3⟩
        | ct e S' =>
          rw [eb] at h3
          exact fun F4 r4 H4 σ4 x4 s4 => ⟨by omega, F4, r4, e, S', xx.trans x4, s4, h3⟩
        | bk e S' =>
          rw [eb] at h3
          exact fun F4 r4 H4 σ4 x4 s4 => h3 F4 r4 H4 σ4 ((x1.trans xx).trans x4) ⟨ul F4 r4 S' H4 s4.hr (xx.trans x4), s4.sl, s4.vr⟩
        | rt w S' =>
          rw [eb] at h3
          exact fun F4 r4 H4 u4 x4 s4 q4 => h3 F4 r4 H4 u4 ((x1.trans xx).trans x4) (ul F4 r4 S' H4 s4 (xx.trans x4)) q4
        | ex c p S' => rw [eb] at h3; exact fun F4 r4 H4 x4 s4 => h3 F4 r4 H4 ((x1.trans xx).trans x4) (ul F4 r4 S' H4 s4 (xx.trans x4))
        | no => rw [eb] at h3; exact False.elim h3
    · have e : i = xs.length := by omega
      subst e
      rw [List.drop_length] at h2
      exact .inl ⟨ie _ (Nat.le_refl _), h2 F2 r2 H2 σ2 (x1.trans x2) ⟨ul F2 r2 S2 H2 s2.hr x2, s2.sl, s2.vr⟩⟩
theorem ss_whl {n : Nat} {tc : ST} (hf : PS X st (tWhile (rdT G n0 tc) (rdS G n0 E fb))) : PS X st (rdS G n0 E (sWhl n tc fb)) := by
  refine psI hf fun D σ H ⟨F, r, env, S, g, s, h⟩ => ?_
  refine ⟨fun m σ' H' => ∃ F2 r2 env2 S2, Ext F F2 r r2 ∧ Sg G n0 g F2 r2 env2 σ' S2 H' ∧ PoS G n0 E g F r (whileR tc fb m env2 S2) D, ⟨n, F, r, env, S, .refl _ _, s, h⟩, ?_⟩
  rintro m σ2 H2 ⟨F2, r2, env2, S2, x2, s2, h2⟩
  cases m with
  | zero => exact False.elim h2
  | succ m =>
    have h2 : PoS G n0 E g F r ((tc env2 S2).go fun t S1 => if t = true then
      match fb env2 S1 with
      | .nx e S' => whileR tc fb m e S'
      | .ct e S' => whileR tc fb m e S'
      | .bk e S' => .nx e S'
      | z => z
      else .nx env2 S1) D := h2
    refine ⟨F2, r2, env2, S2, g, s2, ?_⟩
    cases ec : tc env2 S2 with
    | no => rw [ec] at h2; exact False.elim h2
    | ex => rw [ec] at h2; exact False.elim h2
    | ok b S3 =>
      rw [ec] at h2
      intro F3 r3 H3 x3 s3
      cases b with
      | false => exact h2 F3 r3 H3 σ2 (x2.trans x3) s3
      | true =>
        rw [if_pos rfl]
        refine ⟨fun σ' H' => ∃ F2 r2 env2 S2, Ext F F2 r r2 ∧ Sg G n0 g F2 r2 env2 σ' S2 H' ∧ PoS G n0 E g F r (whileR tc fb m env2 S2) D, fun σ' H' q => ⟨m, Nat.lt_succ_self m, q⟩, F3, r3, env2, S3, g, s3, ?_⟩
        have h3 : PoS G n0 E g F r (match fb env2 S3 with
          | .nx e S' => whileR tc fb m e S'
          | .ct e S' => whileR tc fb m e S'
          | .bk e S' => .nx e S'
          | z => z) D := h2
        have xx : Ext F F3 r r3 := x2.trans x3
        cases eb : fb env2 S3 with
        | nx e S' => rw [eb] at h3; exact fun F4 r4 H4 σ4 x4 s4 => ⟨F4, r4, e, S', xx.trans x4, s4, h3⟩
        | ct e S' => rw [eb] at h3; exact fun F4 r4 H4 σ4 x4 s4 => ⟨F4, r4, e, S', xx.trans x4, s4, h3⟩
        | bk e S' => rw [eb] at h3; exact fun F4 r4 H4 σ4 x4 s4 => h3 F4 r4 H4 σ4 (xx.trans x4) s4
        | rt w S' => rw [eb] at h3; exact fun F4 r4 H4 u4 x4 s4 q4 => h3 F4 r4 H4 u4 (xx.trans x4) s4 q4
        | ex c p S' => rw [eb] at h3; exact fun F4 r4 H4 x4 s4 => h3 F4 r4 H4 (xx.trans x4) s4
        | no => rw [eb] at h3; exact False.elim h3
end
end PX
set_option Elab.async false
set_option linter.all false
set_option maxRecDepth 100000
namespace PX
open PySem PySem.Spec PyProof.Rows L2
section
variable {G : Gam} {n0 : Nat} {g : Gh} {F : Hp} {r : List Addr} {S : Store} {H : Hp}
theorem rv_of_ro {a : Addr} {ho : HO} {v : PV} (hF : F a = some ho) (ro : RO G F r v ho) (hu : unl v = v) : RV G F r v (.ref a) := by
  unfold RO at ro
  rw [hu] at ro
  split at ro
  · obtain ⟨us, rfl, k⟩ := ro
    exact ⟨a, us, rfl, .inl hF, k⟩
  · obtain ⟨us, d, k⟩ := ro
    exact ⟨a, us, ho, rfl, hF, d, k⟩
  · obtain ⟨dx, us, rfl, l, k⟩ := ro
    exact ⟨a, dx, us, rfl, hF, l, k⟩
  · exact ro.elim
def frF (n0 t : Nat) (g : Gh) (F : Hp) (r : List Addr) (H : Hp) : Hp := fun a => open Classical in if a ∈ r.drop n0 ∧ g.pn a = none ∧ r[t]? ≠ some a then H a else F a
theorem frF_le (h : HR G n0 g F r S H) (t : Nat) : Le F (frF n0 t g F r H) := fun a o e => by
  unfold frF
  rw [if_neg (fun z => by rw [h.off a (List.mem_of_mem_drop z.1)] at e; cases e)]
  exact e
theorem frF_sub (h : HR G n0 g F r S H) (t : Nat) : LeD (frF n0 t g F r H) H := fun a o e => by
  unfold frF at e
  split at e
  · exact .inl e
  · exact h.sub a o e
theorem take_at (h : HR G n0 g F r S H) {i : Nat} {a : Addr} (hi : i < n0) (e : r[i]? = some a) : (r.take n0)[i]? = some a := by
  rw [List.getElem?_take, if_pos hi]
  exact e
theorem frF_at (h : HR G n0 g F r S H) {t i : Nat} {a : Addr} {ob : PV} (hi : ¬ i < n0) (ht : i ≠ t) (e : r[i]? = some a) (eo : S[i]? = some ob) (hu : unl ob = ob) : frF n0 t g F r H a = H a := by
  unfold frF
  refine if_pos ⟨?_, h.nopin e eo hu, fun e2 => ?_⟩
  · have : (r.drop n0)[i - n0]? = some a := by
      rw [List.getElem?_drop]
      rw [show n0 + (i - n0) = i by omega]
      exact e
    exact List.mem_of_getElem? this
  · obtain ⟨h1, e1⟩ := List.getElem?_eq_some_iff.mp e
    obtain ⟨h2, e2⟩ := List.getElem?_eq_some_iff.mp e2
    exact ht ((List.getElem_inj h.nd).mp (e1.trans e2.symm))
section
variable {t : Nat} (h : HR G n0 g F r S H)
include h
theorem frzL_ok {f : PV → Option PV} (hf : ∀ v u w, RV G F r v u → f v = some w → RV G (frF n0 t g F r H) (r.take n0) w u) : ∀ {vs : List PV} {us : List V} {ws : List PV}, RVs G F r vs us → frzL f vs = some ws → RVs G (frF n0 t g F r H) (r.take n0) ws us
  | [], us, ws, q, e => by cases e; exact q
  | v :: vs, us, ws, q, e => by
    obtain ⟨u, ur, rfl, k, l⟩ := q
    unfold frzL at e
    cases e1 : f v with
    | none => rw [e1] at e; cases e
    | some w =>
      simp only [e1] at e
      cases e2 : frzL f vs with
      | none => rw [e2] at e; cases e
      | some ws' =>
        rw [e2] at e
        cases e
        exact ⟨u, ur, rfl, hf v u w k e1, frzL_ok hf l e2⟩
theorem frzO_ok {f : PV → Option PV} (hf : ∀ v u w, RV G F r v u → f v = some w → RV G (frF n0 t g F r H) (r.take n0) w u) {o w : PV} {ho : HO} (q : RO G F r o ho) (e : frzO f o = some w) : RO G (frF n0 t g F r H) (r.take n0) w ho ∧ unl w = w ∧ unl o = o := by
  unfold frzO at e
  split at e
  · cases e1 : frzL f ‹_› with
    | none => rw [e1] at e; cases e
    | some ws =>
      rw [e1] at e
      cases e
      obtain ⟨us, rfl, k⟩ := q
      exact ⟨⟨us, rfl, frzL_ok h hf k e1⟩, rfl, rfl⟩
  · cases e1 : frzL f ‹List PV› with
    | none => rw [e1] at e; cases e
    | some ws =>
      rw [e1] at e
      cases e
      obtain ⟨us, d, k⟩ := q
      exact ⟨⟨us, d.mono (frF_le h t), frzL_ok h hf k e1⟩, rfl, rfl⟩
  · cases e1 : frzL f ‹List PV› with
    | none => rw [e1] at e; cases e
    | some ws =>
      rw [e1] at e
      cases e
      obtain ⟨dx, us, rfl, l, k⟩ := q
      exact ⟨⟨dx, us, rfl, l, frzL_ok h hf k e1⟩, rfl, rfl⟩
  · cases e
theorem frz_ok : ∀ (k : Nat) (v : PV) (u : V) (w : PV), RV G F r v u → frz n0 t S k v = some w → RV G (frF n0 t g F r H) (r.take n0) w u
  | 0, _, _, _, _, e => by cases e
  | k + 1, v, u, w, q, e => by
    have ih := frz_ok k
    have le := frF_le h t
    cases v with
    | non => cases e; exact q
    | bl => cases e; exact q
    | int => cases e; exact q
    | str => cases e; exact q
    | lck => cases e
    | ref i =>
      have e : (if i < n0 then some (.ref i) else if i = t then none else match S[i]? with
        | some o => frzO (frz n0 t S k) o
        | none => none) = some w := e
      split at e
      · rename_i hi
        cases e
        obtain ⟨a, e1, rfl⟩ := q
        exact ⟨a, take_at h hi e1, rfl⟩
      · rename_i hi
        split at e
        · cases e
        · rename_i ht
          cases eo : S[i]? with
          | none => rw [eo] at e; cases e
          | some o =>
            simp only [eo] at e
            obtain ⟨a, ho, rfl, e1, e2, e3⟩ := h.ref q eo
            obtain ⟨z1, z2, z3⟩ := frzO_ok h ih e3 e
            exact rv_of_ro (by rw [frF_at h hi ht e1 eo z3]; exact e2.un z3) z1 z2
    | tup xs =>
      have e : (frzL (frz n0 t S k) xs).map .tup = some w := e
      cases e1 : frzL (frz n0 t S k) xs with
      | none => rw [e1] at e; cases e
      | some ws =>
        rw [e1] at e; cases e
        obtain ⟨a, us, rfl, k1, k2⟩ := q
        exact ⟨a, us, rfl, le _ _ k1, frzL_ok h ih k2 e1⟩
    | lst xs =>
      have e : (frzL (frz n0 t S k) xs).map .lst = some w := e
      cases e1 : frzL (frz n0 t S k) xs with
      | none => rw [e1] at e; cases e
      | some ws =>
        rw [e1] at e; cases e
        obtain ⟨a, us, rfl, k1, k2⟩ := q
        exact ⟨a, us, rfl, le.rd k1, frzL_ok h ih k2 e1⟩
    | dct ks vs =>
      have e : (frzL (frz n0 t S k) vs).map (.dct ks) = some w := e
      cases e1 : frzL (frz n0 t S k) vs with
      | none => rw [e1] at e; cases e
      | some ws =>
        rw [e1] at e; cases e
        obtain ⟨a, us, ho, rfl, k1, d, k2⟩ := q
        exact ⟨a, us, ho, rfl, le _ _ k1, d.mono le, frzL_ok h ih k2 e1⟩
    | ins c ns vs =>
      have e : (frzL (frz n0 t S k) vs).map (.ins c ns) = some w := e
      cases e1 : frzL (frz n0 t S k) vs with
      | none => rw [e1] at e; cases e
      | some ws =>
        rw [e1] at e; cases e
        obtain ⟨a, dx, us, rfl, k1, d, k2⟩ := q
        exact ⟨a, dx, us, rfl, le _ _ k1, d, frzL_ok h ih k2 e1⟩
theorem frz_hr (t : Nat) : HR G n0 g (frF n0 t g F r H) (r.take n0) (S.take n0) H := by
  have hnd : r.Nodup := h.nd
  have apart : ∀ a, a ∈ r.take n0 → a ∈ r.drop n0 → False := fun a h1 h2 => by
    have e : r = r.take n0 ++ r.drop n0 := (List.take_append_drop n0 r).symm
    rw [e] at hnd
    exact (List.nodup_append.mp hnd).2.2 a h1 a h2 rfl
  refine ⟨frF_sub h t, (List.take_sublist n0 r).nodup hnd, fun a ha => ?_, by rw [List.length_take, List.length_take, h.len], by rw [List.length_take]; have := h.nle; omega, h.lle, fun i ob a e1 e2 => ?_, fun a o e => ?_, fun i ob a e1 e2 => ?_, fun a o e el ha => h.out a o e el (List.mem_of_mem_take ha), ⟨fun p hp => let t := h.tab.t p hp; ⟨t.t, by unfold frF; rw [if_neg (fun z => t.nr (List.mem_of_mem_drop z.1))]; exact t.f, fun z => t.nr (List.mem_of_mem_take z), t.np⟩, fun a o e => (by
    unfold frF at e
    split at e
    · rename_i hc
      exact h.tb_of (List.mem_of_mem_drop hc.1) e
    · exact h.tab.nf a o e), h.tab.np⟩⟩
  · unfold frF
    rw [if_neg (fun z => apart a ha z.1)]
    exact h.off a (List.mem_of_mem_take ha)
  · rw [List.getElem?_take] at e1 e2
    split at e1
    · rename_i hi
      rw [if_pos hi] at e2
      obtain ⟨ho, q1, q2⟩ := h.obj i ob a e1 e2
      refine ⟨ho, q1, RO.mono (frF_le h t) (fun j b e => ?_) q2⟩
      unfold lim at e ⊢
      rw [if_pos hi] at e ⊢
      have hl := h.lle i hi
      rw [List.getElem?_take] at e ⊢
      split at e
      · rename_i hj
        rw [if_pos hj, List.getElem?_take, if_pos (by omega)]
        exact e
      · cases e
    · cases e1
  · obtain ⟨q1, q2, q3⟩ := h.pin a o e
    refine ⟨q1, ?_, fun i hi => ?_⟩
    · unfold frF
      rw [if_neg (fun z => by rw [z.2.1] at e; cases e)]
      exact q2
    · rw [List.getElem?_take] at hi
      split at hi
      · rename_i hi'
        obtain ⟨ob, hb⟩ := q3 i hi
        exact ⟨ob, by rw [List.getElem?_take, if_pos hi']; exact hb⟩
      · cases hi
  · rw [List.getElem?_take] at e1 e2
    split at e1
    · rename_i hi
      rw [if_pos hi] at e2
      exact h.lckd i ob a e1 e2
    · cases e1
end
theorem norm_ok {v v' : PV} {u : V} {b : Bool} {S' : Store} (h : HR G n0 g F r S H) (q : RV G F r v u) (e : norm n0 v S = .ok (b, v') S') :
    ∃ F', Le F F' ∧ HR G n0 g F' (r.take n0) S' H ∧ RF G g F' (r.take n0) H b v' u := by
  have hl := h.nle
  unfold norm at e
  split at e
  · rename_i hs
    cases e
    have e2 : r.take n0 = r := List.take_of_length_le (by rw [h.len, hs]; exact Nat.le_refl _)
    rw [e2]
    exact ⟨F, .refl F, h, q⟩
  · have any : ∀ w, frz n0 S.length S 8 v = some w → ∃ F', Le F F' ∧ HR G n0 g F' (r.take n0) (S.take n0) H ∧ RF G g F' (r.take n0) H false w u := fun w e =>
      ⟨_, frF_le h S.length, frz_hr h S.length, frz_ok h 8 v u w q e⟩
    split at e
    · rename_i i
      split at e
      · rename_i hi
        cases e
        obtain ⟨a, e1, rfl⟩ := q
        exact ⟨_, frF_le h i, frz_hr h i, ⟨a, take_at h hi e1, rfl⟩⟩
      · rename_i hi
        cases eo : S[i]? with
        | none => simp only [eo] at e; cases e
        | some o =>
          simp only [eo] at e
          cases ew : frzO (frz n0 i S 8) o with
          | none => simp only [ew] at e; cases e
          | some w =>
            simp only [ew] at e
            cases e
            obtain ⟨a, ho, rfl, e1, e2, e3⟩ := h.ref q eo
            obtain ⟨z1, z2, z3⟩ := frzO_ok h (frz_ok h 8) e3 ew
            refine ⟨_, frF_le h i, frz_hr h i, ⟨a, ho, rfl, e2.un z3, ?_, fun hm => ?_, h.nopin e1 eo z3, z1, z2⟩⟩
            · unfold frF
              rw [if_neg (fun z => z.2.2 e1)]
              exact h.off a (List.mem_of_getElem? e1)
            · obtain ⟨j, hj, ej⟩ := List.getElem_of_mem hm
              have hj2 : j < n0 := by rw [List.length_take] at hj; omega
              rw [List.getElem_take] at ej
              obtain ⟨h2, e2⟩ := List.getElem?_eq_some_iff.mp e1
              have := (List.getElem_inj h.nd).mp (ej.trans e2.symm)
              omega
    · cases ew : frz n0 S.length S 8 v with
      | none => rw [ew] at e; cases e
      | some w =>
        rw [ew] at e
        cases e
        exact any _ ew
def spF (G : Gam) (cf : CF) (f np : Nat) : Sp := fun vs H Q E => ∃ F r S g n0 args, HR G n0 g F r S H ∧ RVs G F r args vs ∧ args.length = np ∧ match cf f args n0 S with
  | .ok v S' => ∀ F' r' H' u, Ext F F' r r' → HR G n0 g F' r' S' H' → RV G F' r' v u → Q u H'
  | .ex c pl S' => ∀ F' r' H', Ext F F' r r' → HR G n0 g F' r' S' H' → XE E (.ref (G.ca c)) pl H'
  | .no => False
theorem spF_len {cf : CF} {f np : Nat} : ∀ vs H Q E, spF G cf f np vs H Q E → vs.length = np := fun vs H Q E ⟨F, r, S, g, n0, args, _, q, l, _⟩ => by rw [← RVs.length q, l]
def subG (n0 : Nat) (g : Gh) (n : Nat) : Gh := ⟨fun i => if i < n0 then g.L i else n, g.pn, g.lk⟩
theorem HR.call (h : HR G n0 g F r S H) : HR G S.length (subG n0 g S.length) F r S H := by
  refine ⟨h.sub, h.nd, h.off, h.len, Nat.le_refl _, fun i hi => ?_, fun i ob a e1 e2 => ?_, h.pin, h.lckd, h.out, ⟨fun p hp => let t := h.tab.t p hp; ⟨t.t, t.f, t.nr, t.np⟩, h.tab.nf, h.tab.np⟩⟩
  · unfold subG
    show (if i < n0 then g.L i else S.length) ≤ S.length
    split
    · rename_i h1
      exact Nat.le_trans (h.lle i h1) h.nle
    · exact Nat.le_refl _
  · obtain ⟨ho, q1, q2⟩ := h.obj i ob a e1 e2
    refine ⟨ho, q1, RO.mono (.refl F) (fun j b e => ?_) q2⟩
    have hi : i < S.length := (List.getElem?_eq_some_iff.mp e1).1
    unfold lim at e ⊢
    rw [if_pos hi]
    unfold subG
    show (r.take (if i < n0 then g.L i else S.length))[j]? = some b
    split at e
    · rename_i h1
      rw [if_pos h1]
      exact e
    · rename_i h1
      rw [if_neg h1, ← h.len, List.take_length]
      exact e
theorem HR.back {F2 : Hp} {S2 : Store} {H2 : Hp} (h : HR G n0 g F r S H) (k : HR G S.length (subG n0 g S.length) F2 r S2 H2) : HR G n0 g F2 r S2 H2 := by
  refine ⟨k.sub, k.nd, k.off, k.len, Nat.le_trans h.nle k.nle, h.lle, fun i ob a e1 e2 => ?_, k.pin, k.lckd, k.out, ⟨fun p hp => let t := k.tab.t p hp; ⟨t.t, t.f, t.nr, t.np⟩, k.tab.nf, k.tab.np⟩⟩
  obtain ⟨ho, q1, q2⟩ := k.obj i ob a e1 e2
  refine ⟨ho, q1, RO.mono (.refl F2) (fun j b e => ?_) q2⟩
  have hi : i < S.length := by
    rw [← h.len, k.len]
    exact (List.getElem?_eq_some_iff.mp e1).1
  unfold lim at e ⊢
  rw [if_pos hi] at e
  unfold subG at e
  have e : (r.take (if i < n0 then g.L i else S.length))[j]? = some b := e
  split
  · rename_i h1
    rw [if_pos h1] at e
    exact e
  · rename_i h1
    rw [if_neg h1, ← h.len, List.take_length] at e
    exact e
theorem take_ext {F2 : Hp} {r2 : List Addr} (h : HR G n0 g F r S H) (x : Ext F F2 r r2) : r2.take S.length = r := by
  obtain ⟨t, ht⟩ := x.2
  rw [← ht, ← h.len, List.take_left']
  rfl
end
section
variable {X : Cx} {G : Gam} {n0 : Nat} {a : Expr} {es : List Expr} {fs : SA} {e : Expr} {cf : CF} {np f : Nat}
theorem run_call {g : Gh} {F0 F : Hp} {r0 r : List Addr} {env : Env} {σ : L2.St} {S : Store} {H : Hp} {Q : VK} {E : XK} {args : List PV} {us : List V} (s : Sg G n0 g F r env σ S H) (x0 : Ext F0 F r0 r) (q : RVs G F r args us) (hl : args.length = np)
    (h : PoE G n0 g F0 r0 env σ ((cutX S.length (cf f args S.length S)).bind fun v S2 => norm S.length v S2) Q) : spF G cf f np us H Q E := by
  refine ⟨F, r, S, subG n0 g S.length, S.length, args, s.hr.call, q, hl, ?_⟩
  cases ec : cf f args S.length S with
  | no => rw [ec] at h; exact h
  | ex => rw [ec] at h; exact False.elim h
  | ok v S2 =>
    rw [ec] at h
    intro F2 r2 H2 u x2 h2 q2
    have h : PoE G n0 g F0 r0 env σ (norm S.length v S2) Q := h
    cases en : norm S.length v S2 with
    | no => rw [en] at h; exact h.elim
    | ex => rw [en] at h; exact h.elim
    | ok p S3 =>
      rw [en] at h
      obtain ⟨b, w⟩ := p
      obtain ⟨F3, x3, h3, q3⟩ := norm_ok h2 q2 en
      rw [take_ext s.hr x2] at h3 q3
      have x4 : Ext F F3 r r := ⟨x2.1.trans x3, List.prefix_refl r⟩
      exact h F3 r H2 u (x0.trans x4) (s.ext x4 (s.hr.back h3)) q3
theorem se_call (hp : PE X e (tCall (spF G cf f np) [] E0 (rdA G n0 fs))) : PE X e (rdE G n0 (eCall cf np f fs)) := by
  refine peI hp fun σ H Q ⟨F, r, env, S, g, s, h⟩ => ?_
  refine stA s cnE h fun p S1 F1 r1 H1 us x1 s1 q1 h1 => ?_
  split at h1
  · rename_i hl
    rw [List.append_nil]
    exact run_call s1 x1 q1 hl h1
  · exact h1.elim
theorem sg_start {g : Gh} {F : Hp} {r : List Addr} {S : Store} {H : Hp} {N : List Str} {nl : Nat} {args : List PV} {vs : List V} (h : HR G n0 g F r S H) (q : RVs G F r args vs) (hl : args.length = np) (hn : nl - np = N.length - np) :
    Sg G n0 g F r (args.map some ++ List.replicate (nl - np) none) (L2.start N vs) S H := by
  have l := RVs.length q
  refine ⟨h, ?_, fun i v e => ?_⟩
  · unfold L2.start
    rw [List.length_append, List.length_append, List.length_map, List.length_map, List.length_replicate, List.length_replicate, ← l, hl, hn]
  · by_cases hi : i < args.length
    · rw [List.getElem?_append_left (by rw [List.length_map]; exact hi), List.getElem?_map] at e
      cases ea : args[i]? with
      | none => rw [ea] at e; cases e
      | some w =>
        rw [ea] at e
        cases e
        obtain ⟨u, e1, q1⟩ := RVs.get q ea
        refine ⟨u, ?_, q1⟩
        unfold L2.start
        rw [List.getElem?_append_left (by rw [List.length_map, ← l]; exact hi), List.getElem?_map, e1]
        rfl
    · rw [List.getElem?_append_right (by rw [List.length_map]; omega), List.getElem?_replicate] at e
      split at e <;> cases e
theorem body_ok {T : Nat → Option FnB} {n : Nat} {b : FnB} {N : List Str} {vs : List V} {H : Hp} {Q : VK} {E : XK} (hT : T f = some b) (hn : b.nl = N.length) (h : spF G (callF T (n + 1)) f b.np vs H Q E) :
    ∃ n0, rdS G n0 E (b.body (callF T n) n0) { nx := fun _ H' => Q .non H', rt := Q } (L2.start N vs) H := by
  obtain ⟨F, r, S, g, n0, args, hr, q, l, h⟩ := h
  refine ⟨n0, F, r, _, S, g, sg_start (nl := b.nl) hr q l (by rw [hn]), ?_⟩
  have h : (match (match T f with
    | some b => runB b (callF T n) args n0 S
    | none => R.no) with
    | .ok v S' => ∀ F' r' H' u, Ext F F' r r' → HR G n0 g F' r' S' H' → RV G F' r' v u → Q u H'
    | .ex c pl S' => ∀ F' r' H', Ext F F' r r' → HR G n0 g F' r' S' H' → XE E (.ref (G.ca c)) pl H'
    | .no => False) := h
  rw [hT] at h
  simp only [runB] at h
  rw [if_pos l] at h
  cases eb : b.body (callF T n) n0 (args.map some ++ List.replicate (b.nl - b.np) none) S with
  | nx env' S' => rw [eb] at h; exact fun F' r' H' σ' x s' => h F' r' H' .non x s'.hr rfl
  | rt v S' => rw [eb] at h; exact h
  | bk => rw [eb] at h; exact h.elim
  | ct => rw [eb] at h; exact h.elim
  | ex => rw [eb] at h; exact h
  | no => rw [eb] at h; exact h.elim
end
end PX
set_option Elab.async false
set_option linter.all false
set_option maxRecDepth 100000
namespace PX
open PySem
def toDL (f : PV → Option PyData) : List PV → Option (List PyData)
  | [] => some []
  | v :: vs => match f v with
    | some d => match toDL f vs with
      | some ds => some (d :: ds)
      | none => none
    | none => none
def toD (S : Store) : Nat → PV → Option PyData
  | 0, v => match v with
    | .non => some .none
    | .bl b => some (.bool b)
    | .int i => some (.int i)
    | .str x => if PyData.strOk x then some (.str x) else none
    | _ => none
  | k + 1, v => match deref S v with
    | some .non => some .none
    | some (.bl b) => some (.bool b)
    | some (.int i) => some (.int i)
    | some (.str x) => if PyData.strOk x then some (.str x) else none
    | some (.lst xs) => (toDL (toD S k) xs).map .list
    | some (.tup xs) => (toDL (toD S k) xs).map .tuple
    | _ => none
def eqD (S : Store) (v w : PV) : Option Bool := match toD S 6 v with
  | some d => match toD S 6 w with
    | some e => some (PyData.eqv d e)
    | none => none
  | none => none
def oEq : Op2 := fun x y S => (eqD S x y).map fun b => (false, .bl b)
def oNe : Op2 := fun x y S => (eqD S x y).map fun b => (false, .bl (!b))
def intsOf : List PV → Option (List Int)
  | [] => some []
  | .int i :: r => (intsOf r).map (i :: ·)
  | _ :: _ => none
def blsOf : List PV → Option (List Bool)
  | [] => some []
  | .bl i :: r => (blsOf r).map (i :: ·)
  | _ :: _ => none
def bLen : OpN := fun xs S => match xs with
  | [v] => match deref S v with
    | some (.lst xs) => some (false, .int xs.length)
    | some (.tup xs) => some (false, .int xs.length)
    | _ => none
  | _ => none
def bSum : OpN := fun xs S => match xs with
  | [v] => match itemsOf S v with
    | some ws => (intsOf ws).map fun ns => (false, .int ns.sum)
    | none => none
  | _ => none
def bTuple : OpN := fun xs S => match xs with
  | [v] => match itemsOf S v with
    | some ws => some (false, .tup ws)
    | none => none
  | _ => none
def bList : OpN := fun xs S => match xs with
  | [v] => match itemsOf S v with
    | some ws => some (true, .lst ws)
    | none => none
  | _ => none
def bInt : OpN := fun xs _ => match xs with
  | [.int i] => some (false, .int i)
  | [.bl b] => some (false, .int (if b then 1 else 0))
  | _ => none
def bAbs : OpN := fun xs _ => match xs with
  | [.int i] => some (false, .int (if i < 0 then -i else i))
  | _ => none
def bMax2 : OpN := fun xs _ => match xs with
  | [.int i, .int j] => some (false, .int (if j > i then j else i))
  | _ => none
end PX
namespace PX
open PySem PySem.Spec PyProof.Rows L2
section
variable {X : Cx} {G : Gam}
theorem ok_add : Ok2 G oAdd (rI0 fun i j => .int (i + j)) := fun n0 g F r S H x y u v z Q h q1 q2 e k => by
  unfold oAdd at e
  split at e
  · cases e
    exact ⟨_, _, q1, q2, k F r H _ (.refl F r) h rfl⟩
  · cases e
theorem ok_sub : Ok2 G oSub (rI0 fun i j => .int (i - j)) := fun n0 g F r S H x y u v z Q h q1 q2 e k => by
  unfold oSub at e
  split at e
  · cases e
    exact ⟨_, _, q1, q2, k F r H _ (.refl F r) h rfl⟩
  · cases e
theorem ok_mod : Ok2 G oMod (rI (fun _ j => 0 < j) fun i j => .int (i % j)) := fun n0 g F r S H x y u v z Q h q1 q2 e k => by
  unfold oMod at e
  split at e
  · split at e
    · rename_i hm
      cases e
      exact ⟨_, _, q1, q2, hm, k F r H _ (.refl F r) h rfl⟩
    · cases e
  · cases e
theorem ok_neg : Ok1 G oNeg (rU fun i => .int (-i)) := fun n0 g F r S H x u z Q h q1 e k => by
  unfold oNeg at e
  split at e
  · cases e
    exact ⟨_, q1, k F r H _ (.refl F r) h rfl⟩
  · cases e
theorem ok_lt : Ok2 G oLt (rI0 fun i j => .bl (decide (i < j))) := fun n0 g F r S H x y u v z Q h q1 q2 e k => by
  unfold oLt at e
  split at e
  · cases e
    exact ⟨_, _, q1, q2, k F r H _ (.refl F r) h rfl⟩
  · cases e
theorem ok_le : Ok2 G oLe (rI0 fun i j => .bl (decide (i ≤ j))) := fun n0 g F r S H x y u v z Q h q1 q2 e k => by
  unfold oLe at e
  split at e
  · cases e
    exact ⟨_, _, q1, q2, k F r H _ (.refl F r) h rfl⟩
  · cases e
theorem ok_gt : Ok2 G oGt (rI0 fun i j => .bl (decide (j < i))) := fun n0 g F r S H x y u v z Q h q1 q2 e k => by
  unfold oGt at e
  split at e
  · cases e
    exact ⟨_, _, q1, q2, k F r H _ (.refl F r) h rfl⟩
  · cases e
theorem toDL_ok {n0 : Nat} {g : Gh} {F : Hp} {r : List Addr} {S : Store} {H : Hp} {f : PV → Option PyData} {k : Nat} (h : HR G n0 g F r S H)
    (hf : ∀ v u d, RV G F r v u → f v = some d → Dp G.K H u d ∧ d.canLay0 = true ∧ d.depth ≤ k) : ∀ {vs : List PV} {us : List V} {ds : List PyData}, RVs G F r vs us → toDL f vs = some ds → DpAll G.K H us ds ∧ PyData.canLayAll0 ds = true ∧ PyData.depthAll ds ≤ k
  | [], us, ds, q, e => by
    cases e
    have e1 : us = [] := q
    subst e1
    exact ⟨.nil, rfl, Nat.zero_le _⟩
  | v :: vs, us, ds, q, e => by
    obtain ⟨u, ur, rfl, q1, q2⟩ := q
    unfold toDL at e
    cases e1 : f v with
    | none => rw [e1] at e; cases e
    | some d =>
      simp only [e1] at e
      cases e2 : toDL f vs with
      | none => rw [e2] at e; cases e
      | some ds' =>
        rw [e2] at e
        cases e
        obtain ⟨a1, a2, a3⟩ := hf v u d q1 e1
        obtain ⟨b1, b2, b3⟩ := toDL_ok h hf q2 e2
        refine ⟨.cons a1 b1, ?_, ?_⟩
        · simp only [PyData.canLayAll0, a2, b2, Bool.and_self]
        · simp only [PyData.depthAll]
          exact Nat.max_le.mpr ⟨a3, b3⟩
theorem toD_ok {n0 : Nat} {g : Gh} {F : Hp} {r : List Addr} {S : Store} {H : Hp} (h : HR G n0 g F r S H) : ∀ (k : Nat) (v : PV) (u : V) (d : PyData), RV G F r v u → toD S k v = some d → Dp G.K H u d ∧ d.canLay0 = true ∧ d.depth ≤ k
  | 0, v, u, d, q, e => by
    unfold toD at e
    split at e
    · cases e; cases (show u = .non from q); exact ⟨.non, rfl, Nat.le_refl _⟩
    · cases e; cases (show u = .bl _ from q); exact ⟨.bl _, rfl, Nat.le_refl _⟩
    · cases e; cases (show u = .int _ from q); exact ⟨.int _, rfl, Nat.le_refl _⟩
    · split at e
      · rename_i hs
        cases e; cases (show u = .str _ from q); exact ⟨.str _, hs, Nat.le_refl _⟩
      · cases e
    · cases e
  | k + 1, v, u, d, q, e => by
    unfold toD at e
    split at e
    · rename_i ed
      cases e; cases view_non h q ed; exact ⟨.non, rfl, Nat.zero_le _⟩
    · rename_i ed
      cases e; cases view_bl h q ed; exact ⟨.bl _, rfl, Nat.zero_le _⟩
    · rename_i ed
      cases e; cases view_int h q ed; exact ⟨.int _, rfl, Nat.zero_le _⟩
    · rename_i ed
      split at e
      · rename_i hs
        cases e; cases view_str h q ed; exact ⟨.str _, hs, Nat.zero_le _⟩
      · cases e
    · rename_i xs ed
      cases e1 : toDL (toD S k) xs with
      | none => rw [e1] at e; cases e
      | some ds =>
        rw [e1] at e
        cases e
        obtain ⟨a, us, rfl, k1, k2⟩ := view_lst h q ed
        obtain ⟨b1, b2, b3⟩ := toDL_ok h (toD_ok h k) k2 e1
        exact ⟨.lst (.inl k1) b1, by simp only [PyData.canLay0]; exact b2, by simp only [PyData.depth]; omega⟩
    · rename_i xs ed
      cases e1 : toDL (toD S k) xs with
      | none => rw [e1] at e; cases e
      | some ds =>
        rw [e1] at e
        cases e
        obtain ⟨a, us, rfl, k1, k2⟩ := view_tup h q ed
        obtain ⟨b1, b2, b3⟩ := toDL_ok h (toD_ok h k) k2 e1
        exact ⟨.tup k1 b1, by simp only [PyData.canLay0]; exact b2, by simp only [PyData.depth]; omega⟩
    · cases e
theorem toD_shaped {d : PyData} {k : Nat} (h1 : d.canLay0 = true) (h2 : d.depth ≤ k) (hk : k ≤ 64) : SeqAt.shaped d = true := by
  unfold SeqAt.shaped
  rw [h1, Bool.true_and]
  exact decide_eq_true (Nat.le_trans h2 hk)
theorem se_argB {o : OpN} {t : List V → Hp → VK → Prop} {fs : SA} {n0 : Nat} {ex : Expr} (hp : PE X ex (tCB t (rdA G n0 fs))) (ho : OkN G o t) : PE X ex (rdE G n0 (eArg o fs)) := by
  refine peI hp fun σ H Q ⟨F, r, env, S, g, s, h⟩ => ?_
  refine stA s cnE h fun p S1 F1 r1 H1 us x1 s1 q1 h1 => ?_
  exact endO (T := fun Q => t us H1 Q) s1 x1 h1 fun z ez k => ho n0 g F1 r1 S1 H1 p us z Q s1.hr q1 ez k
theorem intsOf_eq : ∀ {ws : List PV} {ns : List Int}, intsOf ws = some ns → ws = ns.map PV.int
  | [], _, e => by cases e; rfl
  | w :: ws, ns, e => by
    cases w <;> try cases e
    rename_i i
    have e : (intsOf ws).map (i :: ·) = some ns := e
    cases e1 : intsOf ws with
    | none => rw [e1] at e; cases e
    | some ms =>
      rw [e1] at e
      cases e
      rw [intsOf_eq e1]
      rfl
theorem blsOf_eq : ∀ {ws : List PV} {ns : List Bool}, blsOf ws = some ns → ws = ns.map PV.bl
  | [], _, e => by cases e; rfl
  | w :: ws, ns, e => by
    cases w <;> try cases e
    rename_i i
    have e : (blsOf ws).map (i :: ·) = some ns := e
    cases e1 : blsOf ws with
    | none => rw [e1] at e; cases e
    | some ms =>
      rw [e1] at e
      cases e
      rw [blsOf_eq e1]
      rfl
theorem RVs.bls {F : Hp} {r : List Addr} : ∀ {ns : List Bool} {us : List V}, RVs G F r (ns.map PV.bl) us → us = ns.map V.bl
  | [], _, q => q
  | n :: ns, _, q => by
    obtain ⟨u, ur, rfl, k, l⟩ := q
    have e : u = V.bl n := k
    rw [e, RVs.bls l]
    rfl
theorem one_of {F : Hp} {r : List Addr} {v : PV} {us : List V} (q : RVs G F r [v] us) : ∃ u, us = [u] ∧ RV G F r v u := by
  obtain ⟨u, ur, rfl, k, l⟩ := q
  have e : ur = [] := l
  exact ⟨u, by rw [e], k⟩
theorem two_of {F : Hp} {r : List Addr} {v w : PV} {us : List V} (q : RVs G F r [v, w] us) : ∃ u y, us = [u, y] ∧ RV G F r v u ∧ RV G F r w y := by
  obtain ⟨u, ur, rfl, k, l⟩ := q
  obtain ⟨y, rfl, m⟩ := one_of l
  exact ⟨u, y, rfl, k, m⟩
theorem ok_len : OkN G bLen (fun xs H Q => ∃ p ys, xs = [.ref p] ∧ (SqL G.K H p ys ∨ SqT G.K H p ys) ∧ Q (.int ys.length) H) := fun n0 g F r S H xs us z Q h q e k => by
  unfold bLen at e
  split at e
  · obtain ⟨u, rfl, q1⟩ := one_of q
    split at e
    · rename_i ws ed
      cases e
      obtain ⟨a, us, rfl, k1, k2⟩ := view_lst h q1 ed
      exact ⟨a, us, rfl, .inl (.inl k1), by rw [← RVs.length k2]; exact k F r H _ (.refl F r) h rfl⟩
    · rename_i ws ed
      cases e
      obtain ⟨a, us, rfl, k1, k2⟩ := view_tup h q1 ed
      exact ⟨a, us, rfl, .inr k1, by rw [← RVs.length k2]; exact k F r H _ (.refl F r) h rfl⟩
    · cases e
  · cases e
def rSumA (K : PySem.W.Frag) : List V → Hp → VK → Prop := fun vs H Q => ∃ (a : Addr) (ns : List Int), vs = [V.ref a] ∧ (SqL K H a (ns.map V.int) ∨ SqT K H a (ns.map V.int)) ∧ Q (.int ns.sum) H
theorem cr_sumA (hc : X.calm = true) : CallR X (.builtin "sum") (rSumA X.K) := by
  intro pins s σ H vs us Q I r h
  obtain ⟨a, ns, rfl, hs | hs, q⟩ := h
  · exact cr_sum hc pins s σ H _ us Q I r ⟨a, ns, rfl, hs, q⟩
  · obtain ⟨its, rv, hl, _⟩ := I.tuple hs
    rw [Vals.ref1 r]
    have hi := rv.ints
    obtain ⟨xs, e⟩ := hi.allInts.items
    have hn : numsOf (intItems xs).toList = ns := by rw [← e]; exact hi.numsOf
    rw [nums_intItems] at hn
    rw [e] at hl
    refine PySem.W.ktm_sumG (I.ok.hd hc) (show s.heap.IsTuple a _ from hl) fun h' tk t' hk => ?_
    refine ⟨.int _, H, I.kept hk, ⟨_, rfl⟩, ?_⟩
    rw [preSum_eq, List.take_of_length_le (by simp), hn]
    exact q
theorem ok_sum : OkN G bSum (rSumA G.K) := fun n0 g F r S H xs us z Q h q e k => by
  unfold bSum at e
  split at e
  · obtain ⟨u, rfl, q1⟩ := one_of q
    cases ei : itemsOf S ‹PV› with
    | none => simp only [ei] at e; cases e
    | some ws =>
      simp only [ei] at e
      cases en : intsOf ws with
      | none => rw [en] at e; cases e
      | some ns =>
        rw [en] at e
        cases e
        obtain ⟨a, us, rfl, k1, k2⟩ := view_seq h q1 ei
        rw [intsOf_eq en] at k2
        rw [RVs.ints k2] at k1
        exact ⟨a, ns, rfl, k1, k F r H _ (.refl F r) h rfl⟩
  · cases e
end
end PX
set_option Elab.async false
set_option linter.all false
set_option maxRecDepth 100000
namespace PX
open PySem PySem.Spec PyProof.Rows L2
def ixP (n : Nat) (i : Int) : Option Nat := if 0 ≤ i then (if i < n then some i.toNat else none) else if -(n : Int) ≤ i then some (i + n).toNat else none
def oIx : Op2 := fun x y S => match y with
  | .int i => match itemsOf S x with
    | some xs => match ixP xs.length i with
      | some j => match xs[j]? with
        | some v => some (false, v)
        | none => none
      | none => none
    | none => none
  | _ => none
abbrev SO := Env → Store → R (Option Int)
def pNo : SO := fun _ S => .ok none S
def pSo (a : SE) : SO := fun env S => (a env S).bind fun p S1 => match p.2 with
  | .int i => .ok (some i) S1
  | _ => .no
def sIxP (n d : Nat) : Option Int → Nat
  | none => d
  | some v => if v < 0 then (v + (n : Int)).toNat else min v.toNat n
def cutP (xs : List PV) (lo hi : Option Int) : List PV := (xs.drop (sIxP xs.length 0 lo)).take (sIxP xs.length xs.length hi - sIxP xs.length 0 lo)
def slP (lo hi : Option Int) : Op1 := fun x S => match deref S x with
  | some (.lst xs) => some (true, .lst (cutP xs lo hi))
  | some (.tup xs) => some (false, .tup (cutP xs lo hi))
  | _ => none
def eSl (a : SE) (lo hi : SO) : SE := fun env S => (a env S).bind fun p S1 => (lo env S1).bind fun l S2 => (hi env S2).bind fun u S3 => ofO (slP l u p.2 S3) S3
def oCat : Op2 := fun x y S => match deref S x with
  | some (.lst xs) => match deref S y with
    | some (.lst ys) => if small (xs.length + ys.length) then some (true, .lst (xs ++ ys)) else none
    | _ => none
  | some (.tup xs) => match deref S y with
    | some (.tup ys) => if small (xs.length + ys.length) then some (false, .tup (xs ++ ys)) else none
    | _ => none
  | some (.int i) => match y with
    | .int j => some (false, .int (i + j))
    | _ => none
  | _ => none
def oRep : Op2 := fun x y S => match y with
  | .int k => match deref S x with
    | some (.lst xs) => if decide (-1000 ≤ k ∧ k ≤ 1000) && Nat.ble xs.length 1000 then some (true, .lst (List.replicate k.toNat xs).flatten) else none
    | some (.int i) => if mulOk i k then some (false, .int (i * k)) else none
    | _ => none
  | _ => none
def lstOf (S : Store) (v : PV) : Option (List PV) := match deref S v with
  | some (.lst xs) => some xs
  | _ => none
def bAll : OpN := fun xs S => match xs with
  | [v] => match lstOf S v with
    | some ws => match blsOf ws with
      | some ns => some (false, .bl (ns.all id))
      | none => none
    | none => none
  | _ => none
section
variable {X : Cx} {G : Gam}
theorem view_lstOf {n0 : Nat} {g : Gh} {F : Hp} {r : List Addr} {S : Store} {H : Hp} (h : HR G n0 g F r S H) {v : PV} {u : V} {xs : List PV} (q : RV G F r v u) (e : lstOf S v = some xs) : ∃ a us, u = .ref a ∧ Rd H a (.lst us) ∧ RVs G F r xs us := by
  unfold lstOf at e
  split at e
  · rename_i ed
    cases e
    exact view_lst h q ed
  · cases e
theorem ok_all : OkN G bAll (rAll G.K) := fun n0 g F r S H xs us z Q h q e k => by
  unfold bAll at e
  split at e
  · obtain ⟨u, rfl, q1⟩ := one_of q
    split at e
    · rename_i ws ei
      split at e
      · rename_i ns en
        cases e
        obtain ⟨a, us, rfl, k1, k2⟩ := view_lstOf h q1 ei
        rw [blsOf_eq en] at k2
        rw [RVs.bls k2] at k1
        exact ⟨a, ns, rfl, .inl k1, k F r H _ (.refl F r) h rfl⟩
      · cases e
    · cases e
  · cases e
theorem ok_tuple : OkN G bTuple (fun xs H Q => ∃ p ys, xs = [.ref p] ∧ ((SqL G.K H p ys ∧ ∀ l, H l = none → Q (.ref l) (upd H l (.tup ys))) ∨ (SqT G.K H p ys ∧ Q (.ref p) H))) := fun n0 g F r S H xs us z Q h q e k => by
  unfold bTuple at e
  split at e
  · obtain ⟨u, rfl, q1⟩ := one_of q
    split at e
    · rename_i ws ei
      cases e
      unfold itemsOf at ei
      split at ei
      · rename_i ws' ed
        cases ei
        obtain ⟨a, us, rfl, k1, k2⟩ := view_lst h q1 ed
        refine ⟨a, us, rfl, .inl ⟨.inl k1, fun l hl => ?_⟩⟩
        obtain ⟨F2, x2, h2, k3⟩ := new_tup h hl k2
        exact k F2 r _ _ x2 h2 k3
      · rename_i ws' ed
        cases ei
        rcases view h q1 ed with ⟨k1, _⟩ | ⟨a, ho, e1, e2, k1⟩
        · obtain ⟨a, us, rfl, k2, k3⟩ := id k1
          exact ⟨a, us, rfl, .inr ⟨h.sub.tp k2, k F r H _ (.refl F r) h k1⟩⟩
        · exact k1.elim
      · cases ei
    · cases e
  · cases e
theorem ok_list : OkN G bList (fun xs H Q => ∃ p ys, xs = [.ref p] ∧ (SqL G.K H p ys ∨ SqT G.K H p ys) ∧ ∀ l, H l = none → Q (.ref l) (upd H l (.lst ys))) := fun n0 g F r S H xs us z Q h q e k => by
  unfold bList at e
  split at e
  · obtain ⟨u, rfl, q1⟩ := one_of q
    split at e
    · rename_i ws ei
      cases e
      obtain ⟨a, us, rfl, k1, k2⟩ := view_seq h q1 ei
      refine ⟨a, us, rfl, k1, fun l hl => ?_⟩
      obtain ⟨h2, k3⟩ := new_obj h hl (v := .lst ws) ⟨us, rfl, k2⟩ rfl
      exact k F r _ _ (.refl F r) h2 k3
    · cases e
  · cases e
theorem ok_int : OkN G bInt (fun xs H Q => (∃ i, xs = [.int i] ∧ Q (.int i) H) ∨ ∃ k, xs = [.bl k] ∧ Q (.int (if k then 1 else 0)) H) := fun n0 g F r S H xs us z Q h q e k => by
  unfold bInt at e
  split at e
  · cases e
    obtain ⟨u, rfl, q1⟩ := one_of q
    cases (show u = V.int _ from q1)
    exact .inl ⟨_, rfl, k F r H _ (.refl F r) h rfl⟩
  · cases e
    obtain ⟨u, rfl, q1⟩ := one_of q
    cases (show u = V.bl _ from q1)
    exact .inr ⟨_, rfl, k F r H _ (.refl F r) h rfl⟩
  · cases e
theorem ok_abs : OkN G bAbs (fun xs H Q => ∃ i, xs = [.int i] ∧ Q (.int (if i < 0 then -i else i)) H) := fun n0 g F r S H xs us z Q h q e k => by
  unfold bAbs at e
  split at e
  · cases e
    obtain ⟨u, rfl, q1⟩ := one_of q
    cases (show u = V.int _ from q1)
    exact ⟨_, rfl, k F r H _ (.refl F r) h rfl⟩
  · cases e
theorem ok_max2 : OkN G bMax2 (fun xs H Q => ∃ i j, xs = [.int i, .int j] ∧ Q (.int (if j > i then j else i)) H) := fun n0 g F r S H xs us z Q h q e k => by
  unfold bMax2 at e
  split at e
  · cases e
    obtain ⟨u, y, rfl, q1, q2⟩ := two_of q
    cases (show u = V.int _ from q1)
    cases (show y = V.int _ from q2)
    exact ⟨_, _, rfl, k F r H _ (.refl F r) h rfl⟩
  · cases e
theorem ixP_eq (n : Nat) (i : Int) : ixP n i = ixN n i := rfl
theorem sIxP_eq (n d : Nat) : ∀ o : Option Int, sIxP n d o = HT.sIx n d o
  | none => rfl
  | some _ => rfl
theorem ok_ix : Ok2 G oIx (rIx G.K) := fun n0 g F r S H x y u v z Q h q1 q2 e k => by
  unfold oIx at e
  split at e
  · rename_i i
    split at e
    · rename_i xs ei
      split at e
      · rename_i j ej
        split at e
        · rename_i w ew
          cases e
          obtain ⟨a, us, rfl, k1, k2⟩ := view_seq h q1 ei
          obtain ⟨w', e1, q3⟩ := RVs.get k2 ew
          have ea : atI us i = some w' := by
            unfold atI
            rw [← RVs.length k2, ← ixP_eq, ej]
            exact e1
          have fin := k F r H w' (.refl F r) h q3
          cases (show v = V.int i from q2)
          rcases k1 with k1 | k1
          · exact .inl ⟨a, us, i, w', rfl, rfl, k1, ea, fin⟩
          · exact .inr (.inl ⟨a, us, i, w', rfl, rfl, k1, ea, fin⟩)
        · cases e
      · cases e
    · cases e
  · cases e
theorem se_ix {n0 : Nat} {a b : Expr} {fa fb : SE} {pos : Pos} {o : Op2} {t : R2} (hr : IxR X t) (ho : Ok2 G o t) (ha : PE X a (rdE G n0 fa)) (hb : PE X b (rdE G n0 fb)) (hs : PlainIx b) : PE X (.Subscript a b pos) (rdE G n0 (eBin o fa fb)) := by
  refine peI (pe_ix hr (toV ha) (toV hb) hs) fun σ H Q ⟨F, r, env, S, g, s, h⟩ => ?_
  refine stV s cnE h fun p S1 F1 r1 H1 u x1 s1 q1 h1 => ?_
  refine stV s1 cnE h1 fun q S2 F2 r2 H2 v x2 s2 q2 h2 => ?_
  exact endO (T := fun Q => t u v H2 Q) s2 (x1.trans x2) h2 fun z ez k => ho n0 g F2 r2 S2 H2 p.2 q.2 u v z Q s2.hr (q1.ext x2) q2 ez k
def PoO (G : Gam) (n0 : Nat) (g : Gh) (F : Hp) (r : List Addr) (env : Env) (σ : L2.St) (z : R (Option Int)) (T : Option Int → Hp → Prop) : Prop := match z with
  | .ok b S' => ∀ F' r' H', Ext F F' r r' → Sg G n0 g F' r' env σ S' H' → T b H'
  | _ => False
def rdO (G : Gam) (n0 : Nat) (f : SO) : TO := fun σ H T => ∃ F r env S g, Sg G n0 g F r env σ S H ∧ PoO G n0 g F r env σ (f env S) T
theorem poI {e : Option Expr} {t t' : TO} (h : PO X e t) (w : ∀ σ H Q, t' σ H Q → t σ H Q) : PO X e t' := ⟨fun pins s σ H Q I q => h.run pins s σ H Q I (w σ H Q q)⟩
theorem so_none {n0 : Nat} : PO X none (rdO G n0 pNo) := poI po_none fun σ H Q ⟨F, r, env, S, g, s, h⟩ => h F r H (.refl F r) s
theorem cnO {n0 : Nat} {g : Gh} {F : Hp} {r : List Addr} {env : Env} {σ : L2.St} {T : Option Int → Hp → Prop} : Cn fun z => PoO G n0 g F r env σ z T := ⟨fun h => h, fun _ _ _ h => h⟩
theorem so_some {n0 : Nat} {e : Expr} {fe : SE} (he : PE X e (rdE G n0 fe)) : PO X (some e) (rdO G n0 (pSo fe)) := by
  refine poI (po_some (toV he)) fun σ H T ⟨F, r, env, S, g, s, h⟩ => ?_
  refine stV s cnO h fun p S1 F1 r1 H1 u x1 s1 q1 h1 => ?_
  obtain ⟨b, v⟩ := p
  cases v with
  | int i => exact ⟨i, q1, h1 F1 r1 H1 x1 s1⟩
  | _ => exact False.elim h1
theorem stO {n0 : Nat} {g : Gh} {F : Hp} {r : List Addr} {env : Env} {σ : L2.St} {S : Store} {H : Hp} {f : SO} {T : Option Int → Hp → Prop} {α : Type} {kk : Option Int → Store → R α} {C : R α → Prop} (s : Sg G n0 g F r env σ S H) (cn : Cn C) (h : C ((f env S).bind kk))
    (step : ∀ p S' F' r' H', Ext F F' r r' → Sg G n0 g F' r' env σ S' H' → C (kk p S') → T p H') : rdO G n0 f σ H T := by
  refine ⟨F, r, env, S, g, s, ?_⟩
  cases e : f env S with
  | ok p S' => rw [e] at h; exact fun F' r' H' ex s' => step p S' F' r' H' ex s' h
  | ex c p S' => rw [e] at h; exact (cn.ex c p S' h).elim
  | no => rw [e] at h; exact (cn.no h).elim
theorem RVs.drop {F : Hp} {r : List Addr} : ∀ {vs : List PV} {us : List V} (n : Nat), RVs G F r vs us → RVs G F r (vs.drop n) (us.drop n)
  | _, _, 0, q => q
  | [], us, n + 1, q => by
    have e : us = [] := q
    subst e
    exact rfl
  | v :: vs, us, n + 1, q => by
    obtain ⟨u, ur, rfl, k, l⟩ := q
    exact RVs.drop n l
theorem RVs.take {F : Hp} {r : List Addr} : ∀ {vs : List PV} {us : List V} (n : Nat), RVs G F r vs us → RVs G F r (vs.take n) (us.take n)
  | _, _, 0, q => rfl
  | [], us, n + 1, q => by
    have e : us = [] := q
    subst e
    exact rfl
  | v :: vs, us, n + 1, q => by
    obtain ⟨u, ur, rfl, k, l⟩ := q
    exact ⟨u, ur.take n, rfl, k, RVs.take n l⟩
theorem RVs.cut {F : Hp} {r : List Addr} {vs : List PV} {us : List V} (lo hi : Option Int) (q : RVs G F r vs us) : RVs G F r (cutP vs lo hi) (cutV us lo hi) := by
  unfold cutP cutV
  rw [sIxP_eq, sIxP_eq, RVs.length q]
  exact (q.drop _).take _
def rSlG (K : PySem.W.Frag) : V → Option Int → Option Int → Hp → VK → Prop := fun x lo hi H Q => rSlL K x lo hi H Q ∨ rSlA K x lo hi H Q
theorem sl_any : SlR X (rSlG X.K) := sl_list.or sl_tupA
theorem se_sl {n0 : Nat} {a : Expr} {lo hi : Option Expr} {fa : SE} {fl fh : SO} {p2 pos : Pos} (hK : G.K = X.K) (ha : PE X a (rdE G n0 fa)) (hl : PO X lo (rdO G n0 fl)) (hh : PO X hi (rdO G n0 fh)) : PE X (.Subscript a (.Slice lo hi none p2) pos) (rdE G n0 (eSl fa fl fh)) := by
  refine peI (pe_slice sl_any (toV ha) hl hh) fun σ H Q ⟨F, r, env, S, g, s, h⟩ => ?_
  refine stV s cnE h fun p S1 F1 r1 H1 u x1 s1 q1 h1 => ?_
  refine stO s1 cnE h1 fun l S2 F2 r2 H2 x2 s2 h2 => ?_
  refine stO s2 cnE h2 fun m S3 F3 r3 H3 x3 s3 h3 => ?_
  have q3 := q1.ext (x2.trans x3)
  have xx := (x1.trans x2).trans x3
  rw [← hK]
  unfold slP at h3
  split at h3
  · rename_i xs ed
    obtain ⟨a', us, rfl, k1, k2⟩ := view_lst s3.hr q3 ed
    refine .inl ⟨a', us, rfl, .inl k1, fun p' hp => ?_⟩
    obtain ⟨h4, k4⟩ := new_obj s3.hr hp (v := .lst (cutP xs l m)) ⟨_, rfl, k2.cut l m⟩ rfl
    exact h3 F3 r3 _ _ xx (s3.ext (.refl _ _) h4) k4
  · rename_i xs ed
    rcases view s3.hr q3 ed with ⟨k1, _⟩ | ⟨a, ho, e1, e2, k1⟩
    · obtain ⟨a', us, rfl, k2, k3⟩ := id k1
      refine .inr ⟨a', us, rfl, s3.hr.sub.tp k2, fun hw => ?_, fun hw p' hp => ?_⟩
      · have e : cutP xs l m = xs := by
          unfold cutP
          rw [sIxP_eq, sIxP_eq, RVs.length k3, hw.1, hw.2, List.drop_zero, ← RVs.length k3]
          simp
        rw [e] at h3
        exact h3 F3 r3 H3 _ xx s3 k1
      · obtain ⟨F4, x4, h4, k4⟩ := new_tup s3.hr hp (k3.cut l m)
        exact h3 F4 r3 _ _ (xx.trans x4) (s3.ext x4 h4) k4
    · exact k1.elim
  · exact False.elim h3
end
end PX
set_option Elab.async false
set_option linter.all false
set_option maxRecDepth 100000
namespace PX
open PySem PySem.Spec PyProof.Rows L2
def isL (S : Store) (v : PV) : Bool := match deref S v with
  | some (.lst _) => true
  | _ => false
def appL (n0 : Nat) (o v : PV) (S : Store) : Option Store := match o with
  | .ref i => match S[i]? with
    | some (.lst xs) => if mayPut n0 i v && small xs.length then some (S.set i (.lst (xs ++ [v]))) else none
    | _ => none
  | _ => none
def eLm (f : PV → PV → Store → Option Store) (o a : SE) : SE := fun env S => (o env S).bind fun p S1 => if isL S1 p.2 then (a env S1).bind fun q S2 => match f p.2 q.2 S2 with
    | some S3 => .ok (false, .non) S3
    | none => .no
  else .no
def setL (n0 : Nat) (o k v : PV) (S : Store) : Option Store := match o with
  | .ref i => match S[i]? with
    | some (.lst xs) => match k with
      | .int j => match ixP xs.length j with
        | some m => if mayPut n0 i v then some (S.set i (.lst (xs.set m v))) else none
        | none => none
      | _ => none
    | _ => none
  | _ => none
def sSetI (f : PV → PV → PV → Store → Option Store) (o k e : SE) : SS := fun env S => (e env S).go fun p S1 => (o env S1).go fun q S2 => (k env S2).go fun z S3 => match f q.2 z.2 p.2 S3 with
  | some S4 => .nx env S4
  | none => .no
def sAugI (op : Op2) (gt : Op2) (f : PV → PV → PV → Store → Option Store) (o k e : SE) : SS := fun env S => (o env S).go fun p S1 => (k env S1).go fun q S2 => match gt p.2 q.2 S2 with
  | some x => (e env S2).go fun z S3 => match op x.2 z.2 S3 with
    | some y => match f p.2 q.2 y.2 S3 with
      | some S4 => .nx env S4
      | none => .no
    | none => .no
  | none => .no
section
variable {X : Cx} {G : Gam}
def rCatR (K : PySem.W.Frag) : R2 := fun x y H Q => (∃ l b xs zs, x = .ref l ∧ y = .ref b ∧ Rd H l (.lst xs) ∧ Rd H b (.lst zs) ∧ xs.length + zs.length ≤ sizeLine ∧ ∀ p, H p = none → Q (.ref p) (upd H p (.lst (xs ++ zs)))) ∨ rCatA K x y H Q ∨ rI0 (fun i j => .int (i + j)) x y H Q
theorem op_catR : OpR X (binaryOp .Add) (rCatR X.K) := by
  intro pins s σ H x y v u Q I rx ry h
  rcases h with h | h | h
  · obtain ⟨l, b, xs, zs, rfl, rfl, hH, hB, hz, q⟩ := h
    cases rx
    cases ry
    obtain ⟨z, its, n, r, e⟩ := hH.ok I.hok
    obtain ⟨z2, its2, n2, r2, e2⟩ := hB.ok I.hok
    have hl := r.length
    have hl2 := r2.length
    refine PySem.P.add_list e e2 ?_ (by rw [List.size_toArray, List.size_toArray]; omega)
    have ea : its.toArray ++ its2.toArray = (its ++ its2).toArray := by simp
    rw [ea]
    exact ⟨.ref _, _, I.lnew (t' := s.toks) (r.append r2) (by rw [List.length_append]; omega), rfl, q _ I.fresh⟩
  · exact op_catA pins s σ H x y v u Q I rx ry h
  · exact op_add pins s σ H x y v u Q I rx ry h
theorem ok_cat : Ok2 G oCat (rCatR G.K) := fun n0 g F r S H x y u v z Q h q1 q2 e k => by
  unfold oCat at e
  split at e
  · rename_i xs ex
    split at e
    · rename_i ys ey
      split at e
      · rename_i hz
        cases e
        obtain ⟨a, us, rfl, k1, k2⟩ := view_lst h q1 ex
        obtain ⟨b, vs, rfl, l1, l2⟩ := view_lst h q2 ey
        refine .inl ⟨a, b, us, vs, rfl, rfl, k1, l1, by rw [← RVs.length k2, ← RVs.length l2]; exact small_le hz, fun p hp => ?_⟩
        obtain ⟨h2, k3⟩ := new_obj h hp (v := .lst (xs ++ ys)) ⟨_, rfl, k2.append l2⟩ rfl
        exact k F r _ _ (.refl F r) h2 k3
      · cases e
    · cases e
  · rename_i xs ex
    split at e
    · rename_i ys ey
      split at e
      · rename_i hz
        cases e
        rcases view h q1 ex with ⟨k0, _⟩ | ⟨_, _, _, _, k0⟩
        · rcases view h q2 ey with ⟨l0, _⟩ | ⟨_, _, _, _, l0⟩
          · obtain ⟨a, us, rfl, k1, k2⟩ := id k0
            obtain ⟨b, vs, rfl, l1, l2⟩ := id l0
            refine .inr (.inl ⟨a, b, us, vs, rfl, rfl, h.sub.tp k1, h.sub.tp l1, by rw [← RVs.length k2, ← RVs.length l2]; exact small_le hz, fun hx => ?_, fun hx hy => ?_, fun hx hy p hp => ?_⟩)
            · have e1 : xs = [] := List.eq_nil_of_length_eq_zero (by rw [RVs.length k2, hx]; rfl)
              refine k F r H _ (.refl F r) h ?_
              show RV G F r (.tup (xs ++ ys)) _
              rw [e1]
              exact l0
            · have e1 : ys = [] := List.eq_nil_of_length_eq_zero (by rw [RVs.length l2, hy]; rfl)
              refine k F r H _ (.refl F r) h ?_
              show RV G F r (.tup (xs ++ ys)) _
              rw [e1, List.append_nil]
              exact k0
            · obtain ⟨F4, x4, h4, k4⟩ := new_tup h hp (k2.append l2)
              exact k F4 r _ _ x4 h4 k4
          · exact l0.elim
        · exact k0.elim
      · cases e
    · cases e
  · rename_i i ex
    split at e
    · cases e
      exact .inr (.inr ⟨_, _, view_int h q1 ex, q2, k F r H _ (.refl F r) h rfl⟩)
    · cases e
  · cases e
def rRepR : R2 := fun x y H Q => (∃ l k xs, x = .ref l ∧ y = .int k ∧ Rd H l (.lst xs) ∧ -1000 ≤ k ∧ k ≤ 1000 ∧ xs.length ≤ 1000 ∧ ∀ p, H p = none → Q (.ref p) (upd H p (.lst (List.replicate k.toNat xs).flatten))) ∨ rI CMul (fun i j => .int (i * j)) x y H Q
theorem op_repR : OpR X (binaryOp .Mult) rRepR := by
  intro pins s σ H x y v u Q I rx ry h
  rcases h with h | h
  · obtain ⟨l, k, xs, rfl, rfl, hH, h1, h2, hx, q⟩ := h
    cases rx
    obtain ⟨t, rfl⟩ := ry
    obtain ⟨z, its, n, r, e⟩ := hH.ok I.hok
    have hl := r.length
    have hm : its.length * k.toNat ≤ 1000 * 1000 := Nat.mul_le_mul (by omega) (by omega)
    have hs : (1000 * 1000 : Nat) ≤ sizeLine := by rw [sizeLine_eq]; decide
    have hlen : its.toArray.size * k.toNat ≤ sizeLine := by rw [List.size_toArray]; exact Nat.le_trans hm hs
    have hcap : ¬ its.toArray.size * k.toNat > (2 ^ 63 - 1) / 8 := by
      have : (sizeLine : Nat) ≤ (2 ^ 63 - 1) / 8 := by decide
      omega
    have hfit : ¬ (!Builtin.List.listFitsIndex k) = true := by
      rw [fitsIndex_both (by omega) (by omega)]
      exact Bool.false_ne_true
    have hlong : ¬ Builtin.List.listTooLong (its.toArray.size * k.toNat) = true := by
      rw [notLongL hlen]
      exact Bool.false_ne_true
    have hnew : List.foldl (fun x1 x2 => x1 ++ x2) #[] (List.replicate (if its.toArray.isEmpty = true then 0 else k.toNat) its.toArray) = (List.replicate k.toNat its).flatten.toArray := by
      have f0 : ∀ m : Nat, List.foldl (fun x1 x2 => x1 ++ x2) #[] (List.replicate m its.toArray) = (List.replicate m its).flatten.toArray := fun m => by
        have := foldl_rep its m []
        rw [List.nil_append] at this
        exact this
      rw [f0]
      cases its with
      | nil => simp
      | cons a r' => rw [if_neg (by simp)]
    refine wpAny_binaryOp_repeat_ref (T := "list") (U := "int") (by decide) ⟨_, e, rfl⟩ (fun s' => typeIs_int s' k t) noFill_list_mul F.fills_int_mul F.slot_int_rmul repeat_list F.slot_int_index.lookup
      (call_meets F.slot_int_rmul (typeIs_int s k t) F.entry_int_rmul (F.args_int_rmul_2 _ _) (int___rmul___int_list k t l its.toArray n)
        ⟨e, rfl, ⟨_, e, rfl⟩, call_meets F.slot_list_mul ⟨_, e, rfl⟩ F.entry_list_mul (F.args_list_mul_2 _ _) (AutoListH.list___mul___list_int_3 l its.toArray n k t hfit hcap hlong) ⟨e, ?_⟩⟩)
    rw [hnew]
    exact ⟨.ref _, _, I.lnew (t' := s.toks) (r.rep k.toNat) (by rw [PyProof.Rows.lm_len_rep_flat, Nat.mul_comm, hl]; omega), rfl, q _ I.fresh⟩
  · exact op_mul pins s σ H x y v u Q I rx ry h
theorem RVs.rep {F : Hp} {r : List Addr} {vs : List PV} {us : List V} (q : RVs G F r vs us) : ∀ n : Nat, RVs G F r (List.replicate n vs).flatten (List.replicate n us).flatten
  | 0 => rfl
  | n + 1 => by
    rw [List.replicate_succ, List.replicate_succ, List.flatten_cons, List.flatten_cons]
    exact q.append (RVs.rep q n)
theorem ok_rep : Ok2 G oRep rRepR := fun n0 g F r S H x y u v z Q h q1 q2 e k => by
  unfold oRep at e
  split at e
  · rename_i m
    split at e
    · rename_i xs ex
      split at e
      · rename_i hz
        cases e
        simp only [Bool.and_eq_true, decide_eq_true_eq] at hz
        obtain ⟨a, us, rfl, k1, k2⟩ := view_lst h q1 ex
        refine .inl ⟨a, m, us, rfl, q2, k1, hz.1.1, hz.1.2, by rw [← RVs.length k2]; exact Nat.le_of_ble_eq_true hz.2, fun p hp => ?_⟩
        obtain ⟨h2, k3⟩ := new_obj h hp (v := .lst (List.replicate m.toNat xs).flatten) ⟨_, rfl, k2.rep _⟩ rfl
        exact k F r _ _ (.refl F r) h2 k3
      · cases e
    · rename_i i ex
      split at e
      · rename_i hm
        cases e
        refine .inr ⟨_, _, view_int h q1 ex, q2, ?_, k F r H _ (.refl F r) h rfl⟩
        unfold mulOk at hm
        simp only [Bool.or_eq_true, Bool.and_eq_true, decide_eq_true_eq] at hm
        unfold CMul
        omega
      · cases e
    · cases e
  · cases e
theorem noref_rv {F : Hp} {r r' : List Addr} : (∀ (v : PV) (u : V), noref v = true → RV G F r v u → RV G F r' v u) := by
  have key : ∀ (n : Nat) (v : PV), sizeOf v ≤ n → ∀ u, noref v = true → RV G F r v u → RV G F r' v u := by
    intro n
    induction n with
    | zero =>
      intro v hv
      cases v <;> simp at hv
    | succ n ih =>
      intro v hv u hn q
      have all : ∀ (vs : List PV), sizeOf vs ≤ n → ∀ us, noref.norefL vs = true → RVs G F r vs us → RVs G F r' vs us := by
        intro vs
        induction vs with
        | nil => intro _ us _ q; exact q
        | cons w ws ihw =>
          intro hs us hn q
          obtain ⟨u, ur, rfl, k, l⟩ := q
          simp only [noref.norefL, Bool.and_eq_true] at hn
          simp only [List.cons.sizeOf_spec] at hs
          exact ⟨u, ur, rfl, ih w (by omega) u hn.1 k, ihw (by omega) ur hn.2 l⟩
      cases v with
      | non => exact q
      | bl => exact q
      | int => exact q
      | str => exact q
      | ref i => exact absurd hn (by simp [noref])
      | lck => exact q.elim
      | tup xs =>
        obtain ⟨a, us, e, k1, k2⟩ := q
        simp only [PV.tup.sizeOf_spec] at hv
        exact ⟨a, us, e, k1, all xs (by omega) us hn k2⟩
      | lst xs =>
        obtain ⟨a, us, e, k1, k2⟩ := q
        simp only [PV.lst.sizeOf_spec] at hv
        exact ⟨a, us, e, k1, all xs (by omega) us hn k2⟩
      | dct ks vs =>
        obtain ⟨a, us, ho, e, k1, d, k2⟩ := q
        simp only [PV.dct.sizeOf_spec] at hv
        exact ⟨a, us, ho, e, k1, d, all vs (by omega) us hn k2⟩
      | ins c ns vs =>
        obtain ⟨a, dx, us, e, k1, d, k2⟩ := q
        simp only [PV.ins.sizeOf_spec] at hv
        exact ⟨a, dx, us, e, k1, d, all vs (by omega) us hn k2⟩
  exact fun v u => key (sizeOf v) v (Nat.le_refl _) u
theorem put_rv {n0 i : Nat} {L : Nat → Nat} {F : Hp} {r : List Addr} {v : PV} {u : V} (h : mayPut n0 i v = true) (q : RV G F r v u) : RV G F (lim n0 L r i) v u := by
  unfold mayPut at h
  rw [Bool.or_eq_true] at h
  rcases h with h | h
  · unfold lim
    rw [if_neg (by have := Nat.le_of_ble_eq_true h; omega)]
    exact q
  · exact noref_rv v u h q
theorem HR.put {n0 : Nat} {g : Gh} {F : Hp} {r : List Addr} {S : Store} {H : Hp} {i : Nat} {a : Addr} {ob ob' : PV} {ho' : HO} (h : HR G n0 g F r S H) (e1 : r[i]? = some a) (e2 : S[i]? = some ob) (hu : unl ob = ob) (hu' : unl ob' = ob')
    (ro : RO G F (lim n0 g.L r i) ob' ho') : HR G n0 g F r (S.set i ob') (upd H a ho') := by
  have hp := h.nopin e1 e2 hu
  have hi : i < S.length := (List.getElem?_eq_some_iff.mp e2).1
  have hF := h.off a (List.mem_of_getElem? e1)
  have ne_of_pin : ∀ b o, g.pn b = some o → b ≠ a := fun b o e z => by rw [z, hp] at e; cases e
  have lck_ne : ∀ w : PV, PV.lck w ≠ ob' := fun w z => by
    rw [← z] at hu'
    have e4 : w = .lck w := hu'
    exact absurd e4 (by intro z; have := congrArg sizeOf z; simp at this)
  refine ⟨fun b o e => ?_, h.nd, h.off, by rw [List.length_set]; exact h.len, by rw [List.length_set]; exact h.nle, h.lle, fun j oj b e3 e4 => ?_, fun b o e => ?_, fun j oj b e3 e4 => ?_, h.out, ⟨fun p hp => by
    let t := h.tab.t p hp
    obtain ⟨ho0, q0, ro0⟩ := h.obj i ob a e2 e1
    exact ⟨tabS_upd t.t (q0.un hu) (ro_tb ro0), t.f, t.nr, t.np⟩, h.tab.nf, h.tab.np⟩⟩
  · rw [upd_ne (fun z => by rw [z, hF] at e; cases e)]
    exact h.sub b o e
  · by_cases hj : j = i
    · subst hj
      rw [List.getElem?_set_self hi] at e3
      cases e3
      rw [e1] at e4
      cases e4
      exact ⟨ho', .mk upd_same (isLk_unl hu'), ro⟩
    · rw [List.getElem?_set_ne (Ne.symm hj)] at e3
      obtain ⟨ho, q1, q2⟩ := h.obj j oj b e3 e4
      refine ⟨ho, q1.upd (fun z => ?_), q2⟩
      · rw [z] at e4
        obtain ⟨h2, e2'⟩ := List.getElem?_eq_some_iff.mp e1
        obtain ⟨h3, e3'⟩ := List.getElem?_eq_some_iff.mp e4
        exact hj ((List.getElem_inj h.nd).mp (e3'.trans e2'.symm))
  · obtain ⟨q1, q2, q3⟩ := h.pin b o e
    refine ⟨by rw [upd_ne (ne_of_pin b o e)]; exact q1, q2, fun j hj => ?_⟩
    obtain ⟨w, hw⟩ := q3 j hj
    refine ⟨w, ?_⟩
    rw [List.getElem?_set_ne (fun z => ?_)]
    · exact hw
    · subst z
      rw [e1] at hj
      cases hj
      exact ne_of_pin _ o e rfl
  · by_cases hj : j = i
    · subst hj
      rw [List.getElem?_set_self hi] at e3
      exact absurd (Option.some.inj e3).symm (lck_ne oj)
    · rw [List.getElem?_set_ne (Ne.symm hj)] at e3
      exact h.lckd j oj b e3 e4
theorem store_lst {n0 : Nat} {g : Gh} {F : Hp} {r : List Addr} {S : Store} {H : Hp} {i : Nat} {u : V} {xs : List PV} (h : HR G n0 g F r S H) (q : RV G F r (.ref i) u) (e : S[i]? = some (.lst xs)) :
    ∃ a us, u = .ref a ∧ r[i]? = some a ∧ H a = some (.lst us) ∧ RVs G F (lim n0 g.L r i) xs us := by
  obtain ⟨a, e1, rfl⟩ := q
  obtain ⟨ho, h1, h2⟩ := h.obj i _ a e e1
  obtain ⟨us, rfl, k⟩ := h2
  exact ⟨a, us, rfl, e1, h1.nl rfl, k⟩
theorem small_lt {n : Nat} (h : small n = true) : n < sizeLine := by
  have : n ≤ 1000000 := Nat.le_of_ble_eq_true h
  exact Nat.lt_of_le_of_lt this (by rw [sizeLine_eq]; decide)
def Chg (G : Gam) (n0 : Nat) (f : PV → PV → Store → Option Store) (t : V → List V → Hp → VK → Prop) : Prop := ∀ g F r S H o v u w S' Q, HR G n0 g F r S H → RV G F r o u → RV G F r v w → f o v S = some S' →
  (∀ H', HR G n0 g F r S' H' → Q .non H') → t u [w] H Q
theorem chg_app {n0 : Nat} : Chg G n0 (appL n0) rAppend := fun g F r S H o v u w S' Q h q1 q2 e k => by
  unfold appL at e
  split at e
  · split at e
    · rename_i i xs es
      split at e
      · rename_i hm
        cases e
        rw [Bool.and_eq_true] at hm
        obtain ⟨a, us, rfl, e1, e2, k2⟩ := store_lst h q1 es
        refine ⟨a, us, w, rfl, rfl, e2, by rw [← RVs.length k2]; exact small_lt hm.2, k _ (h.put e1 es rfl rfl ⟨_, rfl, k2.append ⟨w, [], rfl, put_rv hm.1 q2, rfl⟩⟩)⟩
      · cases e
    · cases e
  · cases e
theorem se_lm {n0 : Nat} {ex : Expr} {fo fa : SE} {f : PV → PV → Store → Option Store} {t : V → List V → Hp → VK → Prop} (hK : G.K = X.K) (ho : Chg G n0 f t) (hp : PE X ex (tBM X.K "list" t (rdV G n0 fo) (tCons (rdV G n0 fa) tNil))) : PE X ex (rdE G n0 (eLm f fo fa)) := by
  refine peI hp fun σ H Q ⟨F, r, env, S, g, s, h⟩ => ?_
  refine stV s cnE h fun p S1 F1 r1 H1 u x1 s1 q1 h1 => ?_
  split at h1
  · rename_i hl
    unfold isL at hl
    split at hl
    · rename_i xs ed
      obtain ⟨a, us, rfl, k1, k2⟩ := view_lst s1.hr q1 ed
      refine ⟨.inl ⟨rfl, us, .inl k1⟩, ?_⟩
      refine stV s1 cnE h1 fun q S2 F2 r2 H2 w x2 s2 q2 h2 => ?_
      cases ef : f p.2 q.2 S2 with
      | none => rw [ef] at h2; exact h2.elim
      | some S3 =>
        rw [ef] at h2
        exact ho g F2 r2 S2 H2 p.2 q.2 _ w S3 Q s2.hr (q1.ext x2) q2 ef fun H' hr => h2 F2 r2 H' .non (x1.trans x2) (s2.ext (.refl _ _) hr) rfl
    · cases hl
  · exact h1.elim
def ChgI (G : Gam) (n0 : Nat) (f : PV → PV → PV → Store → Option Store) (t : TSet) : Prop := ∀ g F r S H o k v u y w S' Q, HR G n0 g F r S H → RV G F r o u → RV G F r k y → RV G F r v w → f o k v S = some S' →
  (∀ H', HR G n0 g F r S' H' → Q H') → t u y w H Q
theorem chg_setL {n0 : Nat} : ChgI G n0 (setL n0) rSetL := fun g F r S H o k v u y w S' Q h q1 q2 q3 e kk => by
  unfold setL at e
  split at e
  · rename_i i
    split at e
    · rename_i xs es
      split at e
      · rename_i j
        split at e
        · rename_i m em
          split at e
          · rename_i hm
            cases e
            obtain ⟨a, us, rfl, e1, e2, k2⟩ := store_lst h q1 es
            refine ⟨a, us, j, m, rfl, q2, e2, by rw [← RVs.length k2, ← ixP_eq]; exact em, kk _ (h.put e1 es rfl rfl ⟨_, rfl, RVs.set (put_rv hm q3) m k2⟩)⟩
          · cases e
        · cases e
      · cases e
    · cases e
  · cases e
theorem ss_setI {n0 : Nat} {E : XK} {st : Stmt} {fo fk fe : SE} {f : PV → PV → PV → Store → Option Store} {t : TSet} (ho : ChgI G n0 f t) (hp : PS X st (tAsg (rdV G n0 fe) (gSub (rdV G n0 fo) (rdV G n0 fk) t))) : PS X st (rdS G n0 E (sSetI f fo fk fe)) := by
  refine psI hp fun D σ H ⟨F, r, env, S, g, s, h⟩ => ?_
  refine sgV s h fun p S1 F1 r1 H1 w x1 s1 q1 h1 => ?_
  have h1 := PoS.ext h1 x1
  refine sgV s1 h1 fun q S2 F2 r2 H2 u x2 s2 q2 h2 => ?_
  have h2 := PoS.ext h2 x2
  refine sgV s2 h2 fun z S3 F3 r3 H3 y x3 s3 q3 h3 => ?_
  cases ef : f q.2 z.2 p.2 S3 with
  | none => rw [ef] at h3; exact False.elim h3
  | some S4 =>
    rw [ef] at h3
    exact ho g F3 r3 S3 H3 q.2 z.2 p.2 u y w S4 _ s3.hr (q2.ext x3) q3 (q1.ext (x2.trans x3)) ef fun H' hr => h3 F3 r3 H' σ x3 (s3.ext (.refl _ _) hr)
theorem ss_augI {n0 : Nat} {E : XK} {st : Stmt} {fo fk fe : SE} {f : PV → PV → PV → Store → Option Store} {op gt : Op2} {t : TSet} {tg tp : R2} (hg : Ok2 G gt tg) (hop : Ok2 G op tp) (ho : ChgI G n0 f t) (hp : PS X st (tAugS (rdV G n0 fo) (rdV G n0 fk) (rdV G n0 fe) tg tp t)) : PS X st (rdS G n0 E (sAugI op gt f fo fk fe)) := by
  refine psI hp fun D σ H ⟨F, r, env, S, g, s, h⟩ => ?_
  refine sgV s h fun p S1 F1 r1 H1 u x1 s1 q1 h1 => ?_
  have h1 := PoS.ext h1 x1
  refine sgV s1 h1 fun q S2 F2 r2 H2 y x2 s2 q2 h2 => ?_
  have h2 := PoS.ext h2 x2
  cases eg : gt p.2 q.2 S2 with
  | none => rw [eg] at h2; exact False.elim h2
  | some x =>
    rw [eg] at h2
    refine hg n0 g F2 r2 S2 H2 p.2 q.2 u y x _ s2.hr (q1.ext x2) q2 eg fun F3 r3 H3 w x3 hr3 rf => ?_
    obtain ⟨F4, x4, hr4, q4⟩ := freeze hr3 rf
    have s4 := s2.ext (x3.trans x4) hr4
    have x34 := x3.trans x4
    have h3 := PoS.ext h2 x34
    refine sgV s4 h3 fun z S5 F5 r5 H5 w5 x5 s5 q5 h5 => ?_
    have h5 := PoS.ext h5 x5
    cases eo : op x.2 z.2 S5 with
    | none => rw [eo] at h5; exact False.elim h5
    | some v6 =>
      simp only [eo] at h5
      refine hop n0 g F5 r5 S5 H5 x.2 z.2 w w5 v6 _ s5.hr (q4.ext x5) q5 eo fun F6 r6 H6 w6 x6 hr6 rf6 => ?_
      obtain ⟨F7, x7, hr7, q7⟩ := freeze hr6 rf6
      have x67 := x6.trans x7
      cases ef : f p.2 q.2 v6.2 S5 with
      | none => rw [ef] at h5; exact False.elim h5
      | some S7 =>
        rw [ef] at h5
        have xa : Ext F2 F7 r2 r6 := (x34.trans x5).trans x67
        exact ho g F7 r6 S5 H6 p.2 q.2 v6.2 u y w6 S7 _ hr7 ((q1.ext x2).ext xa) (q2.ext xa) q7 ef fun H' hr => h5 F7 r6 H' σ x67 ((s5.ext x67 hr7).ext (.refl _ _) hr)
end
end PX
set_option Elab.async false
set_option linter.all false
set_option maxRecDepth 100000
namespace PX
open PySem PySem.Spec PyProof.Rows L2
theorem cx_none {P : Program} {w : World} {outer : List PySem.Env} {H : Hp} {s s' : Shared} {u : Value} (h : L2.CX P w outer H s E0 u s') : False := by
  obtain ⟨_, _, _, _, _, _, _, _, _, _, _, _, h⟩ := h
  exact h
theorem passE0 {X : Cx} : Passes (L2.CX X.prog X.w) X E0 := fun _ _ _ _ _ _ _ h => (cx_none h).elim
structure Tb (X : Cx) (G : Gam) (cf : CF) (k : Nat) : Prop where
  hK : G.K = X.K
  call : ∀ f np, FnR X.prog X.w X.K X.mg X.base (L2.CX X.prog X.w) k (G.fa f) (spF G cf f np)
  room : Room (k + 1) X.A
  calm : X.calm = true
def Inj (G : Gam) (f : Nat) : Prop := ∀ j, G.nm j = G.nm f → j = f
structure ClsI (G : Gam) (c : Nat) : Prop where
  cls : Cls G.K (G.ca c)
  isi : SlX.SIsi G.K (G.ca c)
section
variable {G : Gam} {F : Hp} {r : List Addr}
theorem fld_look {f : Nat} (hi : Inj G f) : ∀ {ns : List Nat} {vs : List PV} {us : List V} {w : PV}, ns.length = us.length → RVs G F r vs us → (ns.zip vs).lookup f = some w → ∃ y, ((ns.map G.nm).zip us).lookup (G.nm f) = some y ∧ RV G F r w y
  | [], _, _, _, _, _, e => by cases e
  | n :: ns, [], us, w, _, _, e => by cases e
  | n :: ns, v :: vs, us, w, hl, q, e => by
    obtain ⟨u, ur, rfl, k, l⟩ := q
    rw [List.zip_cons_cons, List.lookup_cons] at e
    rw [List.map_cons, List.zip_cons_cons, List.lookup_cons]
    cases hb : f == n with
    | true =>
      rw [hb] at e
      cases e
      rw [beq_iff_eq.mp hb, beq_self_eq_true]
      exact ⟨u, rfl, k⟩
    | false =>
      rw [hb] at e
      have : (G.nm f == G.nm n) = false := by
        rw [beq_eq_false_iff_ne]
        intro z
        have := hi n z.symm
        rw [this, beq_self_eq_true] at hb
        cases hb
      rw [this]
      exact fld_look hi (by simpa using hl) l e
theorem fld_none {m : Nat} (hi : Inj G m) : ∀ {ns : List Nat} {us : List V}, ns.contains m = false → ((ns.map G.nm).zip us).lookup (G.nm m) = none
  | [], _, _ => rfl
  | n :: ns, [], _ => rfl
  | n :: ns, u :: us, h => by
    rw [List.contains_cons, Bool.or_eq_false_iff] at h
    rw [List.map_cons, List.zip_cons_cons, List.lookup_cons]
    have : (G.nm m == G.nm n) = false := by
      rw [beq_eq_false_iff_ne]
      intro z
      have := hi n z.symm
      rw [this, beq_self_eq_true] at h
      cases h.1
    rw [this]
    exact fld_none hi h.2
theorem fld_put {f : Nat} (hi : Inj G f) {v : PV} {y : V} (q : RV G F r v y) : ∀ {ns : List Nat} {vs : List PV} {us : List V}, ns.length = us.length → RVs G F r vs us →
    ∃ us', putF (G.nm f) y ((ns.map G.nm).zip us) = (((putFld f v ns vs).1).map G.nm).zip us' ∧ (putFld f v ns vs).1.length = us'.length ∧ RVs G F r (putFld f v ns vs).2 us' ∧ (putFld f v ns vs).1.length ≤ ns.length + 1
  | [], vs, us, hl, k => by
    cases us with
    | cons => cases hl
    | nil =>
      cases vs with
      | cons => obtain ⟨_, _, z, _⟩ := k; cases z
      | nil => exact ⟨[y], rfl, rfl, ⟨y, [], rfl, q, rfl⟩, Nat.le_refl _⟩
  | n :: ns, vs, us, hl, k => by
    cases us with
    | nil => cases hl
    | cons u us =>
      cases vs with
      | nil => cases (show (u :: us) = [] from k)
      | cons w ws =>
        obtain ⟨u', ur, e, k1, l⟩ := k
        cases e
        unfold putFld
        rw [List.map_cons, List.zip_cons_cons]
        unfold putF
        by_cases hn : n = f
        · subst hn
          rw [if_pos rfl, if_pos rfl]
          exact ⟨y :: us, rfl, by simpa using hl, ⟨y, us, rfl, q, l⟩, Nat.le_succ _⟩
        · rw [if_neg hn, if_neg (fun z => hn (hi n z))]
          obtain ⟨us', e1, e2, e3, e4⟩ := fld_put hi q (by simpa using hl) l
          refine ⟨u :: us', ?_, ?_, ⟨u, us', rfl, k1, e3⟩, ?_⟩
          · rw [e1]; rfl
          · show _ + 1 = _ + 1
            rw [e2]
          · show _ + 1 ≤ _ + 1
            exact Nat.succ_le_succ e4
end
section
variable {X : Cx} {G : Gam} {n0 : Nat} {cf : CF} {k : Nat} {E : XK}
theorem se_fld {cs : List Nat} {f : Nat} {e : Expr} {fe : SE} {pos : Pos} (hK : G.K = X.K) (hi : Inj G f) (hc : ∀ c ∈ cs, Cls G.K (G.ca c) ∧ NoAttr G.K (G.ca c) (G.nm f)) (he : PE X e (rdE G n0 fe)) (hb : attributeBase e (G.nm f) X.env (eval e X.env) = eval e X.env := by rfl) :
    PE X (.Attribute e (G.nm f) pos) (rdE G n0 (eFld cs f fe)) := by
  refine peI (pe_fld (toV he) hb) fun σ H Q ⟨F, r, env, S, g, s, h⟩ => ?_
  refine stV s cnE h fun p S1 F1 r1 H1 u x1 s1 q1 h1 => ?_
  unfold fldOf at h1
  simp only at h1
  cases ed : deref S1 p.2 with
  | none => rw [ed] at h1; exact h1.elim
  | some o =>
    rw [ed] at h1
    cases o with
    | ins c ns vs =>
      simp only at h1
      cases hcs : cs.contains c with
      | false => rw [hcs] at h1; exact h1.elim
      | true =>
        rw [hcs, if_pos rfl] at h1
        cases el : (ns.zip vs).lookup f with
        | none => rw [el] at h1; exact h1.elim
        | some w =>
          rw [el] at h1
          obtain ⟨a, dx, us, rfl, k1, k2, k3⟩ := view_ins s1.hr q1 ed
          obtain ⟨y, e1, q2⟩ := fld_look hi k2 k3 el
          obtain ⟨h2, h3⟩ := hc c (by simpa using hcs)
          rw [← hK]
          exact ⟨a, G.ca c, dx, _, y, rfl, k1, h2, h3, e1, h1 F1 r1 H1 y x1 s1 q2⟩
    | _ => exact h1.elim
theorem ss_fld {cs : List Nat} {f : Nat} {o e : Expr} {fo fe : SE} {pos pos' : Pos} (hK : G.K = X.K) (hi : Inj G f) (hc : ∀ c ∈ cs, Cls G.K (G.ca c) ∧ NoAttr G.K (G.ca c) (G.nm f)) (ho : PE X o (rdE G n0 fo)) (he : PE X e (rdE G n0 fe))
    (hs : swapsWith e (some (.Attribute o (G.nm f) pos')) pos.line X.env = pure false := by rfl) : PS X (.Assign [.Attribute o (G.nm f) pos'] e pos) (rdS G n0 E (sFld n0 cs f fo fe)) := by
  refine psI (ps_fld (toV ho) (toV he) hs) fun D σ H ⟨F, r, env, S, g, s, h⟩ => ?_
  refine sgV s h fun p S1 F1 r1 H1 y x1 s1 q1 h1 => ?_
  have h1 := PoS.ext h1 x1
  refine sgV s1 h1 fun q S2 F2 r2 H2 u x2 s2 q2 h2 => ?_
  obtain ⟨b, v⟩ := q
  cases v with
  | ref i =>
    simp only at h2
    cases es : S2[i]? with
    | none => rw [es] at h2; exact False.elim h2
    | some ob =>
      rw [es] at h2
      cases ob with
      | ins c ns vs =>
        simp only at h2
        cases hcond : (cs.contains c && mayPut n0 i p.2 && Nat.ble ns.length 100) with
        | false => rw [hcond] at h2; exact False.elim h2
        | true =>
          rw [hcond, if_pos rfl] at h2
          rw [Bool.and_eq_true, Bool.and_eq_true] at hcond
          obtain ⟨⟨c1, c2⟩, c3⟩ := hcond
          obtain ⟨a, e1, rfl⟩ := q2
          obtain ⟨ho, k1, k2⟩ := s2.hr.obj i _ a es e1
          have k1 := k1.nl rfl
          obtain ⟨dx, us, rfl, k3, k4⟩ := k2
          obtain ⟨hc1, hc2⟩ := hc c (by simpa using c1)
          obtain ⟨us', e2, e3, e4, e5⟩ := fld_put hi (put_rv c2 (q1.ext x2)) k3 k4
          have hl : ns.length ≤ 100 := Nat.le_of_ble_eq_true c3
          rw [← hK]
          refine ⟨a, G.ca c, dx, _, rfl, k1, hc1, hc2, ?_, ?_⟩
          · rw [List.length_zip, List.length_map]
            omega
          · rw [e2]
            have hr := s2.hr.put (ob' := .ins c (putFld f p.2 ns vs).1 (putFld f p.2 ns vs).2) e1 es rfl rfl ⟨dx, us', rfl, e3, e4⟩
            exact h2 F2 r2 _ σ x2 ⟨hr, s2.sl, s2.vr⟩
      | _ => exact False.elim h2
  | _ => exact False.elim h2
theorem pe_callR {f : Addr} {sp : Sp} {x : Str} {p pos : Pos} {e : Expr} {es : List Expr} {t : TA} (F : FnR X.prog X.w X.K X.mg X.base (L2.CX X.prog X.w) k f sp) (hr : Room k X.A) (hg : Gl X x) (hm : X.mg x = some (.ref f)) (hk : PySem.W.keepIn X.K (.ref f) = true)
    (ha : PA X (e :: es) t) (hdb : (x == ("__debug__" : Str)) = false := by decide) (he : starEach (e :: es) X.env = (false, eval e X.env) :: starEach es X.env := by rfl) (hpl : (backTo pos (starEach es X.env)).any (·.1) = false := by rfl) :
    PE X (.Call (.Name x p) (e :: es) [] pos) (tCall sp [] E0 t) := by
  refine ⟨fun pins s σ H Q I h => ?_⟩
  refine wpAny_Call_Name_kw (ld_glob I hg hm ?_ hdb)
  refine PySem.W.callWith_K (h₀ := X.base) I.ok.mod.kin hk (thn (ha.run pos pins s σ H _ I h) fun us s1 ⟨vs, H1, I1, r, q⟩ => ⟨I1.kIn, ?_⟩) he hpl
  have q : sp (vs ++ []) H1 Q E0 := q
  rw [List.append_nil] at q
  exact wpAny_call (run_fnR F hr passE0 I1 r q)
theorem sx_call {f np : Nat} {x : Str} {p pos : Pos} {e : Expr} {es : List Expr} {fs : SA} (T : Tb X G cf k) (hg : Gl X x) (hm : X.mg x = some (.ref (G.fa f))) (hk : PySem.W.keepIn G.K (.ref (G.fa f)) = true) (ha : PA X (e :: es) (rdA G n0 fs))
    (hdb : (x == ("__debug__" : Str)) = false := by decide) (he : starEach (e :: es) X.env = (false, eval e X.env) :: starEach es X.env := by rfl) (hpl : (backTo pos (starEach es X.env)).any (·.1) = false := by rfl) :
    PE X (.Call (.Name x p) (e :: es) [] pos) (rdE G n0 (eCall cf np f fs)) := se_call (pe_callR (T.call f np) (T.room.mono (Nat.le_succ k)) hg hm (T.hK ▸ hk) ha hdb he hpl)
def tMethD (X : Cx) (k : Nat) (m : Str) (ta : TE) (t : TA) : TE := fun σ H Q => ta σ H fun x H1 => ∃ a C dx fs g sp, x = .ref a ∧ H1 a = some (.ins C dx fs) ∧ Cls X.K C ∧ Meth X.K C m g ∧ fs.lookup m = none ∧ FnR X.prog X.w X.K X.mg X.base (L2.CX X.prog X.w) k g sp ∧ t σ H1 fun vs H2 => sp (x :: vs) H2 Q E0
theorem pe_methD {m : Str} {pos apos : Pos} {o e : Expr} {es : List Expr} {ta : TE} {t : TA} {pl : Sem Bool} (he : PE X o ta) (hr : Room k X.A) (ha : PA X (e :: es) t)
    (hst : starEach (e :: es) X.env = (false, eval e X.env) :: starEach es X.env := by rfl) (hpl : (backTo pos (starEach es X.env)).any (·.1) = false := by rfl)
    (ht : eval (.Call (.Attribute o m apos) (e :: es) [] pos) X.env = (do
      let ov ← eval o X.env
      standAt apos.atName
      let (f, first) ← holding [ov] (getMethod ov m pl)
      callWith pos f first (backTo pos (starEach (e :: es) X.env)) (backToKw pos (keywordEach [] X.env))) := by rfl) :
    PE X (.Call (.Attribute o m apos) (e :: es) [] pos) (tMethD X k m ta t) := by
  refine ⟨fun pins s σ H Q I h => ?_⟩
  refine PySem.W.methodCall_KW (pl := pl) (thn (he.run pins s σ H _ I h) fun u s1 ⟨x, H1, I1, rx, a, C, dx, fs, g, sp, ex, ea, c, hm, l, F, q⟩ => ?_) ht
  subst ex
  obtain rfl : u = Value.ref a := rx
  refine getmeth_ok I1 ea c hm l ?_
  refine PySem.W.callWith_K (first := [.ref a]) (h₀ := X.base) I.ok.mod.kin hm.kp (thn (ha.run pos pins s1 σ H1 _ I1 q) fun us s2 ⟨ws, H2, I2, r, q2⟩ => ⟨I2.kIn, ?_⟩) hst hpl
  exact wpAny_call (run_fnR (us := .ref a :: us) (vs := .ref a :: ws) F hr passE0 I2 (.cons rfl r) q2)
theorem pe_methD0 {m : Str} {pos apos : Pos} {o : Expr} {ta : TE} {pl : Sem Bool} (he : PE X o ta) (hr : Room k X.A)
    (ht : eval (.Call (.Attribute o m apos) [] [] pos) X.env = (do
      let ov ← eval o X.env
      standAt apos.atName
      let (f, first) ← holding [ov] (getMethod ov m pl)
      callWith pos f first (backTo pos (starEach [] X.env)) (backToKw pos (keywordEach [] X.env))) := by rfl) :
    PE X (.Call (.Attribute o m apos) [] [] pos) (tMethD X k m ta tNil) := by
  refine ⟨fun pins s σ H Q I h => ?_⟩
  refine PySem.W.methodCall_KW (pl := pl) (thn (he.run pins s σ H _ I h) fun u s1 ⟨x, H1, I1, rx, a, C, dx, fs, g, sp, ex, ea, c, hm, l, F, q⟩ => ?_) ht
  subst ex
  obtain rfl : u = Value.ref a := rx
  refine getmeth_ok I1 ea c hm l ?_
  exact PySem.W.callWith_K0 (first := [.ref a]) I1.kIn hm.kp (wpAny_call (run_fnR (us := [.ref a]) (vs := [.ref a]) F hr passE0 I1 (.cons rfl .nil) q))
theorem look_mem {α : Type} : ∀ {l : List (Nat × α)} {c : Nat} {f : α}, l.lookup c = some f → (c, f) ∈ l
  | [], _, _, e => by cases e
  | (a, b) :: l, c, f, e => by
    rw [List.lookup_cons] at e
    cases hb : c == a with
    | true =>
      rw [hb] at e
      cases e
      rw [beq_iff_eq.mp hb]
      exact List.mem_cons_self
    | false =>
      rw [hb] at e
      exact List.mem_cons_of_mem _ (look_mem e)
theorem sa_nilT {σ : L2.St} {H : Hp} {Q : List V → Hp → Prop} (h : rdA G n0 aNil σ H Q) : tNil σ H Q := by
  obtain ⟨F, r, env, S, g, s, h⟩ := h
  exact h F r H [] (.refl F r) s rfl
theorem meth_core {np m : Nat} {tb : List (Nat × Nat)} {fo : SE} {fs : SA} {t : TA} {ex : Expr} (T : Tb X G cf k) (ht : ∀ σ H Q, rdA G n0 fs σ H Q → t σ H Q) (hi : Inj G m) (hc : ∀ p ∈ tb, Cls G.K (G.ca p.1) ∧ Meth G.K (G.ca p.1) (G.nm m) (G.fa p.2))
    (hp : PE X ex (tMethD X k (G.nm m) (rdV G n0 fo) t)) : PE X ex (rdE G n0 (eMeth cf np m tb fo fs)) := by
  refine peI hp fun σ H Q ⟨F, r, env, S, g, s, h⟩ => ?_
  refine stV s cnE h fun p S1 F1 r1 H1 u x1 s1 q1 h1 => ?_
  unfold methOf at h1
  cases ed : deref S1 p.2 with
  | none => rw [ed] at h1; exact h1.elim
  | some o =>
    rw [ed] at h1
    cases o with
    | ins c ns vs =>
      simp only at h1
      cases hn : ns.contains m with
      | true => rw [hn] at h1; exact h1.elim
      | false =>
        rw [hn] at h1
        simp only [Bool.false_eq_true, if_false] at h1
        cases el : tb.lookup c with
        | none => rw [el] at h1; exact h1.elim
        | some f =>
          rw [el] at h1
          obtain ⟨a, dx, us, rfl, k1, k2, k3⟩ := view_ins s1.hr q1 ed
          obtain ⟨h2, h3⟩ := hc (c, f) (look_mem el)
          refine ⟨a, G.ca c, dx, _, G.fa f, _, rfl, k1, T.hK ▸ h2, T.hK ▸ h3, fld_none hi hn, T.call f np, ?_⟩
          refine ht _ _ _ (stA s1 cnE h1 fun q S2 F2 r2 H2 ws x2 s2 q2 h4 => ?_)
          split at h4
          · rename_i hl
            exact run_call (E := E0) s2 (x1.trans x2) (show RVs G F2 r2 (p.2 :: q) _ from ⟨_, ws, rfl, q1.ext x2, q2⟩) hl h4
          · exact h4.elim
    | _ => exact h1.elim
theorem se_meth {np m : Nat} {tb : List (Nat × Nat)} {o e : Expr} {es : List Expr} {fo : SE} {fs : SA} {pos apos : Pos} {pl : Sem Bool} (T : Tb X G cf k) (hi : Inj G m) (hc : ∀ p ∈ tb, Cls G.K (G.ca p.1) ∧ Meth G.K (G.ca p.1) (G.nm m) (G.fa p.2)) (ho : PE X o (rdE G n0 fo)) (ha : PA X (e :: es) (rdA G n0 fs))
    (hst : starEach (e :: es) X.env = (false, eval e X.env) :: starEach es X.env := by rfl) (hpl : (backTo pos (starEach es X.env)).any (·.1) = false := by rfl)
    (ht : eval (.Call (.Attribute o (G.nm m) apos) (e :: es) [] pos) X.env = (do
      let ov ← eval o X.env
      standAt apos.atName
      let (f, first) ← holding [ov] (getMethod ov (G.nm m) pl)
      callWith pos f first (backTo pos (starEach (e :: es) X.env)) (backToKw pos (keywordEach [] X.env))) := by rfl) :
    PE X (.Call (.Attribute o (G.nm m) apos) (e :: es) [] pos) (rdE G n0 (eMeth cf np m tb fo fs)) :=
  meth_core T (fun _ _ _ h => h) hi hc (pe_methD (pl := pl) (toV ho) (T.room.mono (Nat.le_succ k)) ha hst hpl ht)
theorem se_meth0 {m : Nat} {tb : List (Nat × Nat)} {o : Expr} {fo : SE} {pos apos : Pos} {pl : Sem Bool} (T : Tb X G cf k) (hi : Inj G m) (hc : ∀ p ∈ tb, Cls G.K (G.ca p.1) ∧ Meth G.K (G.ca p.1) (G.nm m) (G.fa p.2)) (ho : PE X o (rdE G n0 fo))
    (ht : eval (.Call (.Attribute o (G.nm m) apos) [] [] pos) X.env = (do
      let ov ← eval o X.env
      standAt apos.atName
      let (f, first) ← holding [ov] (getMethod ov (G.nm m) pl)
      callWith pos f first (backTo pos (starEach [] X.env)) (backToKw pos (keywordEach [] X.env))) := by rfl) :
    PE X (.Call (.Attribute o (G.nm m) apos) [] [] pos) (rdE G n0 (eMeth cf 1 m tb fo aNil)) :=
  meth_core T (fun _ _ _ h => sa_nilT h) hi hc (pe_methD0 (pl := pl) (toV ho) (T.room.mono (Nat.le_succ k)) ht)
theorem run_makeR {C f : Addr} {sp : Sp} {pins : List (Addr × Obj)} {σ : L2.St} {H : Hp} {s : Shared} {Q : VK} {us : List Value} {vs : List V} (M : Mk X.K C f) (F : FnR X.prog X.w X.K X.mg X.base (L2.CX X.prog X.w) k f sp) (hr : Room (k + 1) X.A)
    (I : Inv X pins σ H s) (r : Vals vs us)
    (h : ∀ x dx, H x = none → H dx = none → dx ≠ x → sp (.ref x :: vs) (upd (upd H dx (.own x)) x (.ins C dx [])) (fun v H2 => v = .non ∧ Q (.ref x) H2) E0) :
    wpAny (model X.prog X.w) X.A (call (.ref C) us) (EP X pins σ Q) X.xe s := by
  have hq := h (s.heap.objs.size + 1) s.heap.objs.size (I.hok.fresh (Nat.le_succ _)) (I.hok.fresh (Nat.le_refl _)) (Nat.ne_of_lt (Nat.lt_succ_self _))
  have I2 := Inv.made (C := C) I
  have r2 : Vals (V.ref (s.heap.objs.size + 1) :: vs) (Value.ref (s.heap.objs.size + 1) :: us) := .cons rfl r
  refine wpAny_call (make_map (f := f) I.kIn M.makes M.init (beq_iff_eq.mp M.fn) (codeAny_mono (F _ X.stack _ _ (Value.ref (s.heap.objs.size + 1) :: us) _ _ E0 (hr.make C us [])
    (I2.env0.make C us []) r2 hq) fun r s' hq' => ?_))
  cases r with
  | error e => exact (cx_none hq').elim
  | ok fl =>
    cases fl with
    | ret u =>
      obtain ⟨v, H', I3, rv, ev, q3⟩ := I2.after hq'
      subst ev
      exact ⟨rv, ⟨V.ref (s.heap.objs.size + 1), H', I3, rfl, q3⟩⟩
    | next => exact False.elim hq'
    | brk => exact False.elim hq'
    | cont => exact False.elim hq'
theorem pe_makeR {C f : Addr} {sp : Sp} {x : Str} {p pos : Pos} {e : Expr} {es : List Expr} {t : TA} (M : Mk X.K C f) (F : FnR X.prog X.w X.K X.mg X.base (L2.CX X.prog X.w) k f sp) (hr : Room (k + 1) X.A) (hg : Gl X x) (hm : X.mg x = some (.ref C))
    (ha : PA X (e :: es) t) (hdb : (x == ("__debug__" : Str)) = false := by decide) (he : starEach (e :: es) X.env = (false, eval e X.env) :: starEach es X.env := by rfl) (hpl : (backTo pos (starEach es X.env)).any (·.1) = false := by rfl) :
    PE X (.Call (.Name x p) (e :: es) [] pos) (tMake C sp [] E0 t) := by
  refine ⟨fun pins s σ H Q I h => ?_⟩
  refine wpAny_Call_Name_kw (ld_glob I hg hm ?_ hdb)
  refine PySem.W.callWith_K (h₀ := X.base) I.ok.mod.kin M.kp (thn (ha.run pos pins s σ H _ I h) fun us s1 ⟨vs, H1, I1, r, q⟩ => ⟨I1.kIn, ?_⟩) he hpl
  exact run_makeR M F hr I1 r fun x dx h1 h2 h3 => by
    have z := q x dx h1 h2 h3
    rw [List.append_nil] at z
    exact z
theorem se_make {np c f : Nat} {x : Str} {p pos : Pos} {e : Expr} {es : List Expr} {fs : SA} (T : Tb X G cf k) (M : Mk G.K (G.ca c) (G.fa f)) (hg : Gl X x) (hm : X.mg x = some (.ref (G.ca c))) (ha : PA X (e :: es) (rdA G n0 fs))
    (hdb : (x == ("__debug__" : Str)) = false := by decide) (he : starEach (e :: es) X.env = (false, eval e X.env) :: starEach es X.env := by rfl) (hpl : (backTo pos (starEach es X.env)).any (·.1) = false := by rfl) :
    PE X (.Call (.Name x p) (e :: es) [] pos) (rdE G n0 (eMake cf np c f fs)) := by
  refine peI (pe_makeR (T.hK ▸ M) (T.call f np) T.room hg hm ha hdb he hpl) fun σ H Q ⟨F, r, env, S, g, s, h⟩ => ?_
  refine stA s cnE h fun q S1 F1 r1 H1 us x1 s1 q1 h1 => ?_
  split at h1
  · rename_i hl
    intro x dx hx hd hne
    rw [List.append_nil]
    have hc := (s1.hr.call).heap (H' := upd H1 dx (.own x)) fun a o e => by rw [upd_ne (ne_of_none e hd)]; exact e
    obtain ⟨h2, rf⟩ := new_obj (v := .ins c [] []) (ho := .ins (G.ca c) dx []) hc (by rw [upd_ne hne.symm]; exact hx) ⟨dx, [], rfl, rfl, rfl⟩ rfl
    obtain ⟨r2, x2, h3, q3⟩ := store_new h2 rf
    refine ⟨F1, r2, S1 ++ [.ins c [] []], subG n0 g S1.length, S1.length, .ref S1.length :: q, h3, ⟨_, us, rfl, q3, q1.ext x2⟩, hl, ?_⟩
    cases ec : cf f (.ref S1.length :: q) S1.length (S1 ++ [.ins c [] []]) with
    | no => rw [ec] at h1; exact h1
    | ex => rw [ec] at h1; exact False.elim h1
    | ok v S2 =>
      rw [ec] at h1
      intro F3 r3 H3 u x3 h4 q4
      cases v with
      | non =>
        refine ⟨q4, ?_⟩
        have h1 : PoE G n0 g F r env σ (norm S1.length (.ref S1.length) S2) Q := h1
        cases en : norm S1.length (.ref S1.length) S2 with
        | no => rw [en] at h1; exact h1.elim
        | ex => rw [en] at h1; exact h1.elim
        | ok p S3 =>
          rw [en] at h1
          obtain ⟨b, w⟩ := p
          obtain ⟨F4, x4, h5, q5⟩ := norm_ok h4 (RV.ext x3 q3) en
          rw [take_ext s1.hr (x2.trans x3)] at h5 q5
          have x5 : Ext F1 F4 r1 r1 := ⟨(x2.trans x3).1.trans x4, List.prefix_refl r1⟩
          exact h1 F4 r1 H3 _ (x1.trans x5) (s1.ext x5 (s1.hr.back h5)) q5
      | _ => exact h1.elim
  · exact h1.elim
inductive TyN where
  | non | bl | int | str | tup | lst | dct
  | own (c : Nat)
  deriving DecidableEq
def tyN (S : Store) (v : PV) : Option TyN := match deref S v with
  | some .non => some .non
  | some (.bl _) => some .bl
  | some (.int _) => some .int
  | some (.str _) => some .str
  | some (.tup _) => some .tup
  | some (.lst _) => some .lst
  | some (.dct (.n _) _) => none
  | some (.dct (.t _) _) => match derf S v with
    | some (.dct (.t _) _) => some .dct
    | _ => none
  | some (.dct _ _) => some .dct
  | some (.ins c _ _) => some (.own c)
  | _ => none
def TyN.val (G : Gam) : TyN → Value
  | .non => .type "NoneType"
  | .bl => .type "bool"
  | .int => .type "int"
  | .str => .type "str"
  | .tup => .type "tuple"
  | .lst => .type "list"
  | .dct => .type "dict"
  | .own c => .ref (G.ca c)
def eIsi (tb : List (TyN × Bool)) : SE → SE := eUn fun v S => match tyN S v with
  | some t => (tb.lookup t).map fun b => (false, .bl b)
  | none => none
theorem tyN_ok {g : Gh} {F : Hp} {r : List Addr} {S : Store} {H : Hp} {v : PV} {u : V} {t : TyN} (h : HR G n0 g F r S H) (q : RV G F r v u) (hc : ∀ c, t = .own c → ClsI G c) (e : tyN S v = some t) : TyX G.K H u (t.val G) := by
  unfold tyN at e
  split at e
  · rename_i ed; cases e; rw [view_non h q ed]; exact .base .non
  · rename_i ed; cases e; rw [view_bl h q ed]; exact .base (.bl _)
  · rename_i ed; cases e; rw [view_int h q ed]; exact .base (.int _)
  · rename_i ed; cases e; rw [view_str h q ed]; exact .base (.str _)
  · rename_i ed
    cases e
    obtain ⟨a, us, rfl, k1, _⟩ := view_tup h q ed
    rcases k1 with (k1 | ⟨o, k1⟩) | ⟨o, its, n, k1, k2, _⟩
    · exact .base (.tup k1)
    · exact .fTuple k1
    · exact .kTuple k1 k2
  · rename_i ed
    cases e
    obtain ⟨a, us, rfl, k1, _⟩ := view_lst h q ed
    rcases k1 with k1 | ⟨o, k1⟩
    · exact .base (.lst k1)
    · exact .base (.frz k1)
  · cases e
  · rename_i kt vs ed
    split at e
    · rename_i kt2 vs2 ed2
      cases e
      obtain ⟨a, us, rfl, k1, _⟩ := view_dctT h q ed2
      exact .base (.dT k1)
    · cases e
  · rename_i ks vs nk nt ed
    cases e
    cases ks with
    | n l => exact absurd rfl (nk l)
    | k kk =>
      obtain ⟨a, ho, us, rfl, k1, k2, _⟩ := view_dct h q ed
      obtain ⟨rfl, _⟩ := k2
      rcases k1 with k1 | ⟨o, k1⟩
      · exact .base (.dK k1)
      · exact .fDict k1
    | t kk => exact absurd rfl (nt kk)
  · rename_i ed
    cases e
    obtain ⟨a, dx, us, rfl, k1, _⟩ := view_ins h q ed
    obtain ⟨c1, c2⟩ := hc _ rfl
    exact .base (.ins k1 c1 c2.ca c2.cn c2.ct c2.cm)
  · cases e
theorem tb_mem {tb : List (TyN × Bool)} {t : TyN} {b : Bool} : tb.lookup t = some b → (t, b) ∈ tb := by
  induction tb with
  | nil => intro e; cases e
  | cons p l ih =>
    obtain ⟨a, c⟩ := p
    intro e
    rw [List.lookup_cons] at e
    cases hb : t == a with
    | true =>
      rw [hb] at e
      cases e
      rw [beq_iff_eq.mp hb]
      exact List.mem_cons_self
    | false =>
      rw [hb] at e
      exact List.mem_cons_of_mem _ (ih e)
theorem se_isi1 {tb : List (TyN × Bool)} {e ce : Expr} {fe : SE} {p pos : Pos} {cv : V} {cu : Value} (hK : G.K = X.K) (hg : Gl X "isinstance") (hm : X.mg "isinstance" = none) (hb : bootBuiltins "isinstance" = some (.builtin "isinstance")) (hcv : ClsV cv cu)
    (hcl : ∀ t b, (t, b) ∈ tb → PySem.W.kitOne G.K (t.val G) cu = some b ∧ ∀ c, t = .own c → ClsI G c) (he : PE X e (rdE G n0 fe)) (hc : PE X ce (tC cv))
    (hs : starEach [e, ce] X.env = (false, eval e X.env) :: starEach [ce] X.env := by rfl) (hs2 : starEach [ce] X.env = (false, eval ce X.env) :: starEach [] X.env := by rfl) (hpl : (backTo pos (starEach [ce] X.env)).any (·.1) = false := by rfl) :
    PE X (.Call (.Name "isinstance" p) [e, ce] [] pos) (rdE G n0 (eIsi tb fe)) := by
  refine peI (pe_callB call_isi hg hm hb (pa_cons (toV he) (pa_cons hc pa_nil hs2) hs) (by decide) (by decide) hs hpl) fun σ H Q ⟨F, r, env, S, g, s, h⟩ => ?_
  refine stV s cnE h fun p S1 F1 r1 H1 u x1 s1 q1 h1 => ?_
  simp only at h1
  cases et : tyN S1 p.2 with
  | none => rw [et] at h1; exact h1.elim
  | some t =>
    rw [et] at h1
    cases el : tb.lookup t with
    | none => simp only [el] at h1; exact h1.elim
    | some b =>
      simp only [el] at h1
      obtain ⟨k1, k2⟩ := hcl t b (tb_mem el)
      exact ⟨u, cv, t.val G, cu, b, rfl, hcv, hK ▸ tyN_ok s1.hr q1 k2 et, hK ▸ k1, h1 F1 r1 H1 _ x1 s1 rfl⟩
end
end PX
set_option Elab.async false
set_option linter.all false
set_option maxRecDepth 100000
namespace PX
open PySem PySem.Spec PyProof.Rows L2
section
open Builtin
variable {prog : Program} {w : World} {A : Around} {E : Value → Shared → Prop} {s : Shared} {K : PySem.W.Frag} {x C L f : Addr} {h₀ : Heap} {m : Str → Option Value} {ox : Obj} {od : Option Obj} {b tb : Value}
theorem ne_entry {Q : Fin → Shared → Prop} {h : Heap} {g : Array GenState} {d : Drawn} {t : Nat} {os : OsState} (hu : A.units < cLine) (X : K.In h) (I : PySem.W.InstAt h x ox C od)
    (hs : PySem.W.findIn K (.ref C) "__eq__" = some (some (.ref f))) (hf : PySem.W.isFn K (.ref f) = true)
    (hcall : wpAny (model prog w) A (call (.ref f) [.ref x, b]) (fun v s' => ∃ b, v = .bool b ∧ Q (.done (.ret (.bool (!b)))) s') E ⟨h, g, d, t, os⟩) :
    wpAny (model prog w) A (Builtin.«object.__ne__» ⟨[.ref x, b], []⟩) Q E ⟨h, g, d, t, os⟩ := by
  unfold Builtin.«object.__ne__»
  repeat (first
    | with_reducible refine wpAny_cRoomFor hu ?_
    | (refine wpAny_bind (m := callSpecialIfBound? (.ref x) (Str.ofString "__eq__") [b])
        (PySem.W.ifBound_K X I hs hf (wpAny_mono hcall (fun r s' hr => by
          obtain ⟨b, rfl, hq⟩ := hr
          repeat (first | exact hq | exact wpAny_pure hq | exact wpAny_truthy_bool hq | (refine wpAny_bind (m := truthy (.bool _)) (wpAny_truthy_bool ?_)) | wp_step)) fun _ _ e => e)))
    | wp_step)
theorem ne_try {Q : Option Value → Shared → Prop} (hu : A.units + 1 < cLine) (X : K.In s.heap) (I : PySem.W.InstAt s.heap x ox C od)
    (hne : PySem.W.findIn K (.ref C) "__ne__" = some (some (.builtin "object.__ne__"))) (hm : PySem.W.mroIn K C (.type "object") = some true) (hs : PySem.W.findIn K (.ref C) "__eq__" = some (some (.ref f))) (hf : PySem.W.isFn K (.ref f) = true)
    (h : wpAny (model prog w) A.in1 (call (.ref f) [.ref x, b]) (fun v s' => ∃ k, v = .bool k ∧ Q (some (.bool (!k))) s') E s) : wpAny (model prog w) A (tryCompare (.ref x) "__ne__" b) Q E s := by
  have S := PySem.F.cmp_object.ne
  simp only [tryCompare]
  refine wpAny_bind (m := callSpecialIfBound? (.ref x) "__ne__" [b]) ?_
  simp only [callSpecialIfBound?, bindSpecialIfBound?]
  have body : wpAny (model prog w) A (call (.builtin "object.__ne__") [.ref x, b]) (fun v s' => ∃ k, v = .bool (!k) ∧ Q (some (.bool (!k))) s') E s := by
    refine wpAny_call (codeAny_call_builtin S.plain F.cmpEntry_ne (PySem.W.check_slot F.cmpKind_ne F.cmpSplit_ne (I.type.andThen (PySem.W.looks_mroIn X hm)) (F.cmpArgs_ne _ _) ?_))
    obtain ⟨hp, g, d, t, os⟩ := s
    refine ne_entry (A := A.in1) hu X I hs hf (wpAny_mono h (fun v s' hv => ?_) fun _ _ e => e)
    obtain ⟨k, rfl, hq⟩ := hv
    exact ⟨k, rfl, k, rfl, hq⟩
  have fin : wpAny (model prog w) A (call (.builtin "object.__ne__") ([.ref x] ++ [b]) >>= fun v => pure (some v)) (fun r s' => wpAny (model prog w) A (match r with
      | some .notImplemented => pure none
      | none => pure none
      | some v => pure (some v)) Q E s') E s := by
    refine wpAny_bind (wpAny_mono body (fun v s' hv => ?_) fun _ _ e => e)
    obtain ⟨k, rfl, hq⟩ := hv
    exact wpAny_pure (wpAny_pure hq)
  refine wpAny_holding (wpAny_bind (wpAny_bind (wpAny_bind (I.type.here ((PySem.W.looks_findIn X hne).here ?_)))))
  simp only [S.bind]
  refine wpAny_bind (wpAny_askSetting (wpAny_ite ?_))
  split
  · exact wpAny_bind (wpAny_pure (wpAny_pure fin))
  · exact wpAny_tryCatch (wpAny_bind (wpAny_pure (wpAny_pure fin)))
theorem ne_K {Q : Value → Shared → Prop} (hu : A.units + 1 < cLine) (X : K.In s.heap) (I : PySem.W.InstAt s.heap x ox C od) (hb : PySem.W.Looks (model prog w) s.heap (typeOf b) tb) (hn : PySem.W.notFirst K C tb = true)
    (hne : PySem.W.findIn K (.ref C) "__ne__" = some (some (.builtin "object.__ne__"))) (hm : PySem.W.mroIn K C (.type "object") = some true) (hs : PySem.W.findIn K (.ref C) "__eq__" = some (some (.ref f))) (hf : PySem.W.isFn K (.ref f) = true)
    (h : wpAny (model prog w) A.in1 (call (.ref f) [.ref x, b]) (fun v s' => ∃ k, v = .bool k ∧ Q (.bool (!k)) s') E s) : wpAny (model prog w) A (richCompare .NotEq (.ref x) b) Q E s := by
  have one : wpAny (model prog w) A (tryCompare (.ref x) (cmpInfo .NotEq).2.1 b) (fun r s' => ∃ v, r = some v ∧ Q v s') E s :=
    ne_try hu X I hne hm hs hf (wpAny_mono h (fun v s' hv => by
      obtain ⟨k, e, q⟩ := hv
      exact ⟨k, e, _, rfl, q⟩) fun _ _ e => e)
  unfold richCompare
  simp only [oneThing_ref]
  refine wpAny_holding (wpAny_bind (wpAny_cRoomFor (Nat.lt_of_succ_lt hu) ?_))
  refine wpAny_bind (I.type.here (wpAny_bind (hb.here ?_)))
  split
  · rename_i q
    have e : PySem.W.subIn K tb (.ref C) = some false := by
      rcases Bool.or_eq_true_iff.mp hn with e | e
      · rw [beq_iff_eq.mp e] at q; simp at q
      · exact beq_iff_eq.mp e
    refine wpAny_bind ((PySem.W.looks_subIn X e).here ?_)
    simp only [Bool.false_eq_true, if_false]
    refine wpAny_bind (wpAny_mono one (fun r s' z => ?_) fun _ _ e => e)
    obtain ⟨v, rfl, hq⟩ := z
    exact wpAny_pure hq
  · refine wpAny_bind (wpAny_pure ?_)
    simp only [Bool.false_eq_true, if_false]
    refine wpAny_bind (wpAny_mono one (fun r s' z => ?_) fun _ _ e => e)
    obtain ⟨v, rfl, hq⟩ := z
    exact wpAny_pure hq
end
structure Spc (K : PySem.W.Frag) (C f : Addr) (name : Str) : Prop where
  at_ : PySem.W.findIn K (.ref C) name = some (some (.ref f))
  fn : PySem.W.isFn K (.ref f) = true
def callV (cf : CF) (f : Nat) (args : List PV) (S : Store) : R (Bool × PV) := (cutX S.length (cf f args S.length S)).bind fun v S2 => norm S.length v S2
def ownOf (tb : List (Nat × Nat)) (S : Store) (v : PV) : Option Nat := match deref S v with
  | some (.ins c _ _) => tb.lookup c
  | _ => none
def lenI (z : Bool × PV) (S : Store) : R (Bool × PV) := match z.2 with
  | .int n => if decide (0 ≤ n) && decide (n < 4611686018427387904) then .ok (false, .int n) S else .no
  | _ => .no
def eLen (cf : CF) (tb : List (Nat × Nat)) (a : SE) : SE := fun env S => (a env S).bind fun p S1 => match ownOf tb S1 p.2 with
  | some f => (callV cf f [p.2] S1).bind lenI
  | none => ofO (bLen [p.2] S1) S1
def notI (z : Bool × PV) (S : Store) : R (Bool × PV) := match z.2 with
  | .bl b => .ok (false, .bl (!b)) S
  | _ => .no
def okTy (tys : List TyN) (S : Store) (v : PV) : Bool := match tyN S v with
  | some t => tys.contains t
  | none => false
def eEq (cf : CF) (tb : List (Nat × Nat)) (tys : List TyN) (a b : SE) : SE := fun env S => (a env S).bind fun p S1 => (b env S1).bind fun q S2 => match ownOf tb S2 p.2 with
  | some f => if okTy tys S2 q.2 then callV cf f [p.2, q.2] S2 else .no
  | none => ofO (oEq p.2 q.2 S2) S2
def eNe (cf : CF) (tb : List (Nat × Nat)) (tys : List TyN) (a b : SE) : SE := fun env S => (a env S).bind fun p S1 => (b env S1).bind fun q S2 => match ownOf tb S2 p.2 with
  | some f => if okTy tys S2 q.2 then (callV cf f [p.2, q.2] S2).bind notI else .no
  | none => ofO (oNe p.2 q.2 S2) S2
section
variable {X : Cx} {k : Nat}
def rLenOwn (X : Cx) (k : Nat) : List V → Hp → VK → Prop := fun xs H Q => ∃ a C dx fs g sp, xs = [V.ref a] ∧ H a = some (.ins C dx fs) ∧ Spc X.K C g "__len__" ∧ FnR X.prog X.w X.K X.mg X.base (L2.CX X.prog X.w) k g sp ∧
  sp [.ref a] H (fun v H' => ∃ n : Int, v = .int n ∧ 0 ≤ n ∧ n < 2 ^ 63 ∧ Q (.int n) H') E0
theorem inst_at {pins : List (Addr × Obj)} {σ : L2.St} {H : Hp} {s : Shared} {a C dx : Addr} {fs : List (Str × V)} (I : Inv X pins σ H s) (ea : H a = some (.ins C dx fs)) : ∃ od, PySem.W.InstAt s.heap a (PySem.W.instObj C dx) C (some od) := by
  obtain ⟨mA, O, _⟩ := ins_get I.hok ea
  obtain ⟨od, J, _⟩ := O.look
  exact ⟨od, J⟩
theorem cr_lenOwn (hr : Room (k + 1) X.A) : CallR X (.builtin "len") (rLenOwn X k) := by
  intro pins s σ H xs us Q I r h
  obtain ⟨a, C, dx, fs, g, sp, rfl, ea, hs, F, q⟩ := h
  rw [Vals.ref1 r]
  obtain ⟨od, J⟩ := inst_at I ea
  obtain ⟨m, hF⟩ := I.fr
  refine PySem.W.len_K hF I.ok.mod.kin J hs.at_ hs.fn (wpAny_mono (wpAny_call (SlX.run_at (us := [.ref a]) (ws := [.ref a]) F hr.in1 I.env0.in1 passE0 I (.cons rfl .nil) q)) (fun w s' z => ?_) fun _ _ x => x)
  obtain ⟨z', H', I', rz, n, ez, h1, h2, qz⟩ := z
  subst ez
  obtain ⟨t, e⟩ := (show ∃ t, w = Value.int n t from rz)
  cases e
  exact ⟨⟨h1, h2⟩, .int n, H', I'.tok _, ⟨_, rfl⟩, qz⟩
def rEqOwn (X : Cx) (k : Nat) : R2 := fun x y H Q => ∃ a C dx fs g sp t, x = .ref a ∧ H a = some (.ins C dx fs) ∧ TyX X.K H y t ∧ PySem.W.notFirst X.K C t = true ∧ Spc X.K C g "__eq__" ∧ FnR X.prog X.w X.K X.mg X.base (L2.CX X.prog X.w) k g sp ∧ sp [x, y] H Q E0
theorem op_eqOwn (hr : Room (k + 1) X.A) : OpR X (compareOp .Eq) (rEqOwn X k) := by
  intro pins s σ H x y v u Q I rx ry h
  obtain ⟨a, C, dx, fs, g, sp, t, rfl, ea, ty, hn, hs, F, q⟩ := h
  cases (show v = Value.ref a from rx)
  obtain ⟨od, J⟩ := inst_at I ea
  obtain ⟨m, hF⟩ := I.fr
  obtain ⟨P, Z, p, _⟩ := kit_of I ry ty
  show wpAny (model X.prog X.w) X.A (richCompare .Eq (.ref a) u) (EP X pins σ Q) X.xe s
  refine PySem.W.cmp_K (op := .Eq) (tb := t) hr.units0 hF I.ok.mod.kin J (Z.ty _ _ I.kIn p) hn hs.at_ hs.fn ?_
  refine wpAny_mono (wpAny_call (run_fnR (us := [.ref a, u]) (vs := [.ref a, y]) F (hr.mono (Nat.le_succ k)) passE0 I (.cons rfl (.cons ry .nil)) q)) (fun w s' z => ?_) fun _ _ x => x
  obtain ⟨z', H', I', rz, qz⟩ := z
  exact SlX.cmpback rz ⟨z', H', I', rz, qz⟩
def rNeOwn (X : Cx) (k : Nat) : R2 := fun x y H Q => ∃ a C dx fs g sp t, x = .ref a ∧ H a = some (.ins C dx fs) ∧ TyX X.K H y t ∧ PySem.W.notFirst X.K C t = true ∧ Spc X.K C g "__eq__" ∧
  PySem.W.findIn X.K (.ref C) "__ne__" = some (some (.builtin "object.__ne__")) ∧ PySem.W.mroIn X.K C (.type "object") = some true ∧ FnR X.prog X.w X.K X.mg X.base (L2.CX X.prog X.w) k g sp ∧ sp [x, y] H (fun v H' => ∃ b, v = .bl b ∧ Q (.bl (!b)) H') E0
theorem op_neOwn (hr : Room (k + 1) X.A) : OpR X (compareOp .NotEq) (rNeOwn X k) := by
  intro pins s σ H x y v u Q I rx ry h
  obtain ⟨a, C, dx, fs, g, sp, t, rfl, ea, ty, hn, hs, hne, hm, F, q⟩ := h
  cases (show v = Value.ref a from rx)
  obtain ⟨od, J⟩ := inst_at I ea
  obtain ⟨P, Z, p, _⟩ := kit_of I ry ty
  show wpAny (model X.prog X.w) X.A (richCompare .NotEq (.ref a) u) (EP X pins σ Q) X.xe s
  refine ne_K (tb := t) (by have := hr.units; omega) I.kIn J (Z.ty _ _ I.kIn p) hn hne hm hs.at_ hs.fn ?_
  refine wpAny_mono (wpAny_call (SlX.run_at (us := [.ref a, u]) (ws := [.ref a, y]) F hr.in1 I.env0.in1 passE0 I (.cons rfl (.cons ry .nil)) q)) (fun w s' z => ?_) fun _ _ x => x
  obtain ⟨z', H', I', rz, b, ez, qz⟩ := z
  subst ez
  cases (show w = Value.bool b from rz)
  exact ⟨b, rfl, .bl (!b), H', I', rfl, qz⟩
end
section
variable {X : Cx} {G : Gam} {n0 : Nat} {cf : CF} {k : Nat}
theorem poB {g : Gh} {F0 : Hp} {r0 : List Addr} {env : Env} {σ : L2.St} {m : R (Bool × PV)} {kk : Bool × PV → Store → R (Bool × PV)} {Q Q' : VK} (h : PoE G n0 g F0 r0 env σ (m.bind kk) Q)
    (step : ∀ p S' F' r' H' u, Ext F0 F' r0 r' → Sg G n0 g F' r' env σ S' H' → RF G g F' r' H' p.1 p.2 u → PoE G n0 g F0 r0 env σ (kk p S') Q → Q' u H') : PoE G n0 g F0 r0 env σ m Q' := by
  cases m with
  | ok p S' => exact fun F' r' H' u x s q => step p S' F' r' H' u x s q h
  | ex => exact h
  | no => exact h
theorem se_of {ex : Expr} {t : TE} {f : SE} (hp : PE X ex t) (h : ∀ σ H Q, rdE G n0 f σ H Q → t σ H Q) : PE X ex (rdE G n0 f) := peI hp h
theorem st_of {ex : Expr} {t : TE} {f : SE} (hp : PT X ex (tTest t)) (h : ∀ σ H Q, rdE G n0 f σ H Q → t σ H Q) : PT X ex (rdT G n0 (tBl f)) := by
  refine ptI hp fun σ H Q ⟨F, r, env, S, g, s, p⟩ => h σ H _ ⟨F, r, env, S, g, s, ?_⟩
  have p : PoT G n0 g F r env σ ((f env S).bind fun p S1 => match p.2 with
    | .bl b => .ok b S1
    | _ => .no) Q := p
  cases e : f env S with
  | no => rw [e] at p; exact p
  | ex => rw [e] at p; exact p
  | ok q S' =>
    rw [e] at p
    obtain ⟨b, v⟩ := q
    cases v with
    | bl k =>
      intro F' r' H' u x s' rf
      exact ⟨k, bl_of rf, p F' r' H' x s'⟩
    | _ => exact p.elim
structure EqT (G : Gam) (tb : List (Nat × Nat)) (tys : List TyN) : Prop where
  spc : ∀ p ∈ tb, Spc G.K (G.ca p.1) (G.fa p.2) "__eq__"
  ne : ∀ p ∈ tb, PySem.W.findIn G.K (.ref (G.ca p.1)) "__ne__" = some (some (.builtin "object.__ne__")) ∧ PySem.W.mroIn G.K (G.ca p.1) (.type "object") = some true
  nf : ∀ p ∈ tb, ∀ t ∈ tys, PySem.W.notFirst G.K (G.ca p.1) (t.val G) = true
  cl : ∀ c, TyN.own c ∈ tys → ClsI G c
theorem own_at {tb : List (Nat × Nat)} {g : Gh} {F : Hp} {r : List Addr} {S : Store} {H : Hp} {v : PV} {u : V} {f : Nat} (h : HR G n0 g F r S H) (q : RV G F r v u) (e : ownOf tb S v = some f) : ∃ a c dx fs, u = .ref a ∧ H a = some (.ins (G.ca c) dx fs) ∧ (c, f) ∈ tb := by
  unfold ownOf at e
  split at e
  · rename_i c ns ws ed
    obtain ⟨a, dx, us, rfl, k1, k2, k3⟩ := view_ins h q ed
    exact ⟨a, c, dx, _, rfl, k1, look_mem e⟩
  · cases e
theorem okTy_at {tys : List TyN} {g : Gh} {F : Hp} {r : List Addr} {S : Store} {H : Hp} {v : PV} {u : V} (hc : ∀ c, TyN.own c ∈ tys → ClsI G c) (h : HR G n0 g F r S H) (q : RV G F r v u) (e : okTy tys S v = true) : ∃ t ∈ tys, TyX G.K H u (t.val G) := by
  unfold okTy at e
  cases et : tyN S v with
  | none => rw [et] at e; cases e
  | some t =>
    rw [et] at e
    have hm : t ∈ tys := by simpa using e
    exact ⟨t, hm, tyN_ok h q (fun c ec => hc c (ec ▸ hm)) et⟩
variable {tb : List (Nat × Nat)} {tys : List TyN} {fa fb : SE} {a b : Expr} {pos : Pos}
end
end PX
set_option Elab.async false
set_option linter.all false
set_option maxRecDepth 100000
namespace PX
open PySem PySem.Spec PyProof.Rows L2
def eqK : Key → Key → Bool
  | .inl i, .inl j => decide (i = j)
  | .inr x, .inr y => decide (x = y)
  | _, _ => false
theorem eqK_ok : ∀ a b : Key, eqK a b = decide (a = b)
  | .inl i, .inl j => by
    show decide (i = j) = _
    exact decide_eq_decide.mpr ⟨fun h => by rw [h], fun h => Sum.inl.inj h⟩
  | .inr i, .inr j => by
    show decide (i = j) = _
    exact decide_eq_decide.mpr ⟨fun h => by rw [h], fun h => Sum.inr.inj h⟩
  | .inl i, .inr j => by rw [decide_eq_false (fun z => nomatch z)]; rfl
  | .inr i, .inl j => by rw [decide_eq_false (fun z => nomatch z)]; rfl
def eqKs : List Key → List Key → Bool
  | [], [] => true
  | a :: as, b :: bs => eqK a b && eqKs as bs
  | _, _ => false
theorem eqKs_ok : ∀ a b : List Key, eqKs a b = decide (a = b)
  | [], [] => by rw [decide_eq_true rfl]; rfl
  | [], b :: bs => by rw [decide_eq_false (fun z => nomatch z)]; rfl
  | a :: as, [] => by rw [decide_eq_false (fun z => nomatch z)]; rfl
  | a :: as, b :: bs => by
    unfold eqKs
    rw [eqK_ok, eqKs_ok]
    by_cases h1 : a = b
    · by_cases h2 : as = bs
      · rw [decide_eq_true h1, decide_eq_true h2, decide_eq_true (by rw [h1, h2])]; rfl
      · rw [decide_eq_true h1, decide_eq_false h2, decide_eq_false (fun z => h2 (List.cons.inj z).2)]; rfl
    · rw [decide_eq_false h1, decide_eq_false (fun z => h1 (List.cons.inj z).1)]; rfl
section
variable {κ : Type}
def lookB (eq : κ → κ → Bool) : List κ → List PV → κ → Option PV
  | k :: ks, v :: vs, q => bif eq k q then some v else lookB eq ks vs q
  | _, _, _ => none
def anyB (eq : κ → κ → Bool) : List κ → κ → Bool
  | k :: ks, q => bif eq k q then true else anyB eq ks q
  | _, _ => false
def replB (eq : κ → κ → Bool) : List κ → List PV → κ → PV → List PV
  | k :: ks, v :: vs, q, w => (bif eq k q then w else v) :: replB eq ks vs q w
  | _, _, _, _ => []
def putB (eq : κ → κ → Bool) (ks : List κ) (vs : List PV) (q : κ) (w : PV) : List κ × List PV := bif anyB eq ks q then (ks, replB eq ks vs q w) else (ks ++ [q], vs ++ [w])
end
def keysOf : List PV → Option (List Key)
  | [] => some []
  | .int i :: r => (keysOf r).map (.inl i :: ·)
  | .str i :: r => (keysOf r).map (.inr i :: ·)
  | _ :: _ => none
def keyOf : PV → Option DK
  | .int i => some (.k (.inl i))
  | .str x => some (.k (.inr x))
  | .tup xs => (keysOf xs).map .t
  | _ => none
def dGet (ks : DKs) (vs : List PV) (q : DK) : Option (Option PV) := match ks, q with
  | .k l, .k q => some (lookB eqK l vs q)
  | .t l, .t q => some (lookB eqKs l vs q)
  | _, _ => none
def dPut (ks : DKs) (vs : List PV) (q : DK) (w : PV) : Option (DKs × List PV) := match ks, q with
  | .k l, .k q => let z := putB eqK l vs q w; some (.k z.1, z.2)
  | .t l, .t q => let z := putB eqKs l vs q w; some (.t z.1, z.2)
  | _, _ => none
def OptR (G : Gam) (F : Hp) (r : List Addr) (o : Option PV) (o' : Option V) : Prop := match o with
  | some w => ∃ y, o' = some y ∧ RV G F r w y
  | none => o' = none
section
variable {G : Gam} {F : Hp} {r : List Addr} {κ : Type} [DecidableEq κ] {eq : κ → κ → Bool}
theorem lookB_ok (he : ∀ a b, eq a b = decide (a = b)) (q : κ) : ∀ {ks : List κ} {us : List V} {vs : List PV}, ks.length = us.length → RVs G F r vs us → OptR G F r (lookB eq ks vs q) (valV (ks.zip us) q)
  | [], us, vs, _, _ => by
    cases vs <;> exact valV_nil
  | k :: ks, [], vs, h, _ => by cases h
  | k :: ks, u :: us, [], _, k' => by cases (show (u :: us) = [] from k')
  | k :: ks, u :: us, v :: vs, h, k' => by
    obtain ⟨u', ur, e, k1, k2⟩ := k'
    cases e
    unfold lookB
    rw [he]
    by_cases hq : k = q
    · rw [decide_eq_true hq]
      exact ⟨u, by rw [List.zip_cons_cons, valV_pos hq], k1⟩
    · rw [decide_eq_false hq]
      have ih := lookB_ok he q (by simpa using h) k2
      rw [List.zip_cons_cons, valV_neg hq]
      exact ih
theorem anyB_ok (he : ∀ a b, eq a b = decide (a = b)) (q : κ) : ∀ {ks : List κ} {us : List V}, ks.length = us.length → anyB eq ks q = (ks.zip us).any fun kv => decide (kv.1 = q)
  | [], us, _ => rfl
  | k :: ks, [], h => by cases h
  | k :: ks, u :: us, h => by
    unfold anyB
    rw [he, List.zip_cons_cons, List.any_cons, anyB_ok he q (us := us) (by simpa using h)]
    cases decide (k = q) <;> rfl
theorem replB_ok (he : ∀ a b, eq a b = decide (a = b)) {q : κ} {w : PV} {y : V} (hw : RV G F r w y) : ∀ {ks : List κ} {us : List V} {vs : List PV}, ks.length = us.length → RVs G F r vs us →
    ∃ us', (ks.zip us).map (fun kv => if kv.1 = q then (kv.1, y) else kv) = ks.zip us' ∧ ks.length = us'.length ∧ RVs G F r (replB eq ks vs q w) us'
  | [], us, vs, _, _ => ⟨[], rfl, rfl, by cases vs <;> exact rfl⟩
  | k :: ks, [], vs, h, _ => by cases h
  | k :: ks, u :: us, [], _, k' => by cases (show (u :: us) = [] from k')
  | k :: ks, u :: us, v :: vs, h, k' => by
    obtain ⟨u', ur, e, k1, k2⟩ := k'
    cases e
    obtain ⟨us', e1, e2, e3⟩ := replB_ok he hw (by simpa using h) k2
    unfold replB
    rw [List.zip_cons_cons, List.map_cons, e1, he]
    by_cases hq : k = q
    · rw [decide_eq_true hq, if_pos hq]
      exact ⟨y :: us', rfl, by simpa using e2, y, us', rfl, hw, e3⟩
    · rw [decide_eq_false hq, if_neg hq]
      exact ⟨u :: us', rfl, by simpa using e2, u, us', rfl, k1, e3⟩
theorem putB_ok (he : ∀ a b, eq a b = decide (a = b)) {q : κ} {w : PV} {y : V} (hw : RV G F r w y) {ks : List κ} {us : List V} {vs : List PV} (hl : ks.length = us.length) (k : RVs G F r vs us) :
    ∃ us', putK (ks.zip us) q y = (putB eq ks vs q w).1.zip us' ∧ (putB eq ks vs q w).1.length = us'.length ∧ RVs G F r (putB eq ks vs q w).2 us' := by
  unfold putB putK
  rw [anyB_ok he q hl]
  cases hb : (ks.zip us).any fun kv => decide (kv.1 = q) with
  | true =>
    rw [if_pos rfl]
    exact replB_ok he hw hl k
  | false =>
    rw [if_neg Bool.false_ne_true]
    refine ⟨us ++ [y], ?_, ?_, k.append ⟨y, [], rfl, hw, rfl⟩⟩
    · show ks.zip us ++ [(q, y)] = (ks ++ [q]).zip (us ++ [y])
      rw [List.zip_append hl]
      rfl
    · show (ks ++ [q]).length = (us ++ [y]).length
      rw [List.length_append, List.length_append, hl]
      rfl
end
section
variable {G : Gam} {n0 : Nat} {g : Gh} {F : Hp} {r : List Addr} {S : Store} {H : Hp}
theorem keysOf_ok : ∀ {xs : List PV} {us : List V} {ks : List Key}, RVs G F r xs us → keysOf xs = some ks → us = ks.map kV
  | [], us, ks, q, e => by cases e; exact q
  | v :: vs, us, ks, q, e => by
    obtain ⟨u, ur, rfl, k, l⟩ := q
    cases v <;> try cases e
    · rename_i i
      have e : (keysOf vs).map (.inl i :: ·) = some ks := e
      cases e1 : keysOf vs with
      | none => rw [e1] at e; cases e
      | some ks' =>
        rw [e1] at e
        cases e
        rw [keysOf_ok l e1, show u = V.int i from k]
        rfl
    · rename_i i
      have e : (keysOf vs).map (.inr i :: ·) = some ks := e
      cases e1 : keysOf vs with
      | none => rw [e1] at e; cases e
      | some ks' =>
        rw [e1] at e
        cases e
        rw [keysOf_ok l e1, show u = V.str i from k]
        rfl
theorem keyOf_k {v : PV} {u : V} {k : Key} (q : RV G F r v u) (e : keyOf v = some (.k k)) : u = kV k := by
  cases v <;> try cases e
  · exact q
  · exact q
  · rename_i xs
    have e : (keysOf xs).map .t = some (DK.k k) := e
    cases e1 : keysOf xs with
    | none => rw [e1] at e; cases e
    | some => rw [e1] at e; cases e
theorem keyOf_t {v : PV} {u : V} {k : List Key} (q : RV G F r v u) (e : keyOf v = some (.t k)) : ∃ b, u = .ref b ∧ F b = some (.tup (k.map kV)) := by
  cases v <;> try cases e
  rename_i xs
  have e : (keysOf xs).map .t = some (DK.t k) := e
  cases e1 : keysOf xs with
  | none => rw [e1] at e; cases e
  | some ks =>
    rw [e1] at e
    cases e
    obtain ⟨a, us, rfl, k1, k2⟩ := q
    rw [keysOf_ok k2 e1] at k1
    exact ⟨a, rfl, k1⟩
theorem dGet_ok (h : HR G n0 g F r S H) {v w : PV} {u y : V} {ks : DKs} {vs : List PV} {q : DK} {o : Option PV} (qd : RV G F r v u) (ed : deref S v = some (.dct ks vs)) (qk : RV G F r w y) (ek : keyOf w = some q) (e : dGet ks vs q = some o) :
    ∃ a o', u = .ref a ∧ DGet H a y o' ∧ OptR G F r o o' := by
  obtain ⟨a, ho, us, rfl, k1, k2, k3⟩ := view_dct h qd ed
  cases ks with
  | k l =>
    obtain ⟨rfl, hl⟩ := k2
    cases q with
    | t q => cases e
    | k q =>
      have e : some (lookB eqK l vs q) = some o := e
      have e := Option.some.inj e
      refine ⟨a, valV (l.zip us) q, rfl, .inl ⟨_, q, k1, keyOf_k qk ek, rfl⟩, ?_⟩
      have := lookB_ok eqK_ok q hl k3
      rw [e] at this
      exact this
  | t l =>
    obtain ⟨rfl, hl⟩ := k2
    cases q with
    | k q => cases e
    | t q =>
      have e : some (lookB eqKs l vs q) = some o := e
      have e := Option.some.inj e
      obtain ⟨b, rfl, eb⟩ := keyOf_t qk ek
      refine ⟨a, valV (l.zip us) q, rfl, .inr ⟨_, q, b, k1, rfl, h.sub.tpH eb, rfl⟩, ?_⟩
      have := lookB_ok eqKs_ok q hl k3
      rw [e] at this
      exact this
  | n l => cases q <;> cases e
end
end PX
set_option Elab.async false
set_option linter.all false
set_option maxRecDepth 100000
set_option maxHeartbeats 2000000
namespace ZG
open PySem RZ
def SqIt (b : Bool) (h : Heap) (it l : Addr) (i : Nat) : Prop := match b with
  | true => h.IsTupleIter it l i
  | false => h.IsListIter it l i
def SqOb (b : Bool) (h : Heap) (l : Addr) (items : Array Value) : Prop := match b with
  | true => h.IsTuple l items
  | false => h.IsList l items
section
variable {b : Bool} {h h' : Heap} {it l : Addr} {i : Nat} {items : Array Value}
theorem SqIt.at_ (q : SqIt b h it l i) (k : ∀ o, h.get? it = some o → h'.get? it = some o) : SqIt b h' it l i := by
  cases b with
  | true => exact Heap.IsTupleIter.at q k
  | false => exact Heap.IsListIter.at q k
theorem SqIt.obj (q : SqIt b h it l i) : ∃ o vs, h.get? it = some o ∧ o.data = .fields vs := by
  cases b with
  | true =>
    obtain ⟨o, e, _, d⟩ := q
    exact ⟨o, _, e, d⟩
  | false =>
    obtain ⟨o, e, _, d⟩ := q
    exact ⟨o, _, e, d⟩
theorem SqIt.lt (q : SqIt b h it l i) : it < h.objs.size := by
  obtain ⟨o, _, e, _⟩ := q.obj
  exact Heap.lt_size e
theorem SqIt.extBut {z : Addr} (q : SqIt b h it l i) (k : Heap.ExtBut z h h') (hz : it ≠ z) : SqIt b h' it l i := q.at_ fun o e => k _ _ hz e
theorem SqOb.extBut {z : Addr} (q : SqOb b h l items) (k : Heap.ExtBut z h h') (hz : l ≠ z) : SqOb b h' l items := by
  cases b with
  | true =>
    obtain ⟨o, e, r⟩ := (show h.IsTuple l items from q)
    exact (show h'.IsTuple l items from ⟨o, k _ _ hz e, r⟩)
  | false =>
    obtain ⟨o, e, r⟩ := (show h.IsList l items from q)
    exact (show h'.IsList l items from ⟨o, k _ _ hz e, r⟩)
theorem SqOb.push (q : SqOb b h l items) (o : Obj) : SqOb b (h.push o) l items := by
  cases b with
  | true =>
    obtain ⟨o', e, r⟩ := (show h.IsTuple l items from q)
    exact (show (h.push o).IsTuple l items from ⟨o', Heap.get?_push_of_some _ e, r⟩)
  | false =>
    obtain ⟨o', e, r⟩ := (show h.IsList l items from q)
    exact (show (h.push o).IsList l items from ⟨o', Heap.get?_push_of_some _ e, r⟩)
end
section
variable {prog : Program} {w : World} {A : Around} {E : Value → Shared → Prop} {s : Shared}
theorem nextOf_item {b : Bool} {it l : Addr} {i : Nat} {items : Array Value} {x : Value} {Q : Value → Shared → Prop} (hit : SqIt b s.heap it l i)
    (hl : SqOb b s.heap l items) (hx : items[i]? = some x)
    (hQ : ∀ h', SqIt b h' it l (i + 1) → Heap.SameBut it s.heap h' → Q x { s with heap := h' }) :
    wpAny (model prog w) A (Builtin.SmallTypes.nextOf (.ref it)) Q E s := by
  cases b with
  | true => exact nextOf_tuple_item hit hl hx hQ
  | false => exact wpAny_nextOf_list_item hit hl hx hQ
theorem nextOf_end {b : Bool} {it l : Addr} {i : Nat} {items : Array Value} {Q : Value → Shared → Prop} (hh : A.handled = none)
    (hit : SqIt b s.heap it l i) (hl : SqOb b s.heap l items) (hx : items[i]? = none)
    (hE : ∀ h' e, Heap.ExtBut it s.heap h' → (∃ o, h'.get? e = some o ∧ o.cls = .type "StopIteration") → E (.ref e) { s with heap := h' }) :
    wpAny (model prog w) A (Builtin.SmallTypes.nextOf (.ref it)) Q E s := by
  cases b with
  | true => exact nextOf_tuple_end hh hit hl hx hE
  | false => exact wpAny_nextOf_list_end hh hit hl hx hE
theorem zipG_next_item {b1 b2 : Bool} {z TI TO i1 i2 l1 l2 : Addr} {k1 k2 : Nat} {xs ys : Array Value} {x y a b : Value} {Q : Value → Shared → Prop} (D : ZipApart z TI TO i1 i2 l1 l2)
    (hz : IsZip s.heap z TI TO .none) (hTI : IsPair s.heap TI (.ref i1) (.ref i2)) (hTO : IsPair s.heap TO a b)
    (h1 : SqIt b1 s.heap i1 l1 k1) (h2 : SqIt b2 s.heap i2 l2 k2) (hl1 : SqOb b1 s.heap l1 xs) (hl2 : SqOb b2 s.heap l2 ys) (hx : xs[k1]? = some x) (hy : ys[k2]? = some y)
    (hQ : ∀ h', IsZip h' z TI TO (rawInt s.heap.objs.size) → IsPair h' TO x y → SqIt b1 h' i1 l1 (k1 + 1) → SqIt b2 h' i2 l2 (k2 + 1) → IsPair h' s.heap.objs.size x y → h'.objs.size = s.heap.objs.size + 1 →
      (∀ c o, c ≠ z → c ≠ TO → c ≠ i1 → c ≠ i2 → s.heap.get? c = some o → h'.get? c = some o) → Q (.ref s.heap.objs.size) { s with heap := h' }) :
    wpAny (model prog w) A (Builtin.«zip.__next__» ⟨[.ref z], []⟩) (fun fin s' => ∃ v, fin = .done (.ret v) ∧ Q v s') E s := by
  show wpAny _ _ (field (.ref z) 2 >>= _) _ _ _
  refine wpAny_bind (wpAny_field hz rfl (x := .bool false) rfl ?_)
  show wpAny _ _ (field (.ref z) 3 >>= _) _ _ _
  refine wpAny_bind (wpAny_field hz rfl (x := .ref TI) rfl ?_)
  refine wpAny_bind (wpAny_seqItems hTI rfl ?_)
  show wpAny _ _ (Builtin.SmallTypes.ownedTupleIsFree (.ref z) >>= _) _ _ _
  refine wpAny_bind ?_
  unfold Builtin.SmallTypes.ownedTupleIsFree
  refine wpAny_bind (wpAny_field hz rfl (x := .none) rfl (wpAny_pure ?_))
  simp only [if_true]
  refine wpAny_bind (wpAny_rule ?_)
  refine wpAny_bind (wpAny_field hz rfl (x := .ref TO) rfl ?_)
  refine wpAny_bind (wpAny_setField_rec hz (by simp) fun h₁ hz₁ hs₁ => ?_)
  replace hz₁ : IsZip h₁ z TI TO .ellipsis := hz₁
  refine wpAny_bind ?_
  simp only [List.zipIdx_cons, List.zipIdx_nil, List.forIn_cons, List.forIn_nil]

  refine wpAny_bind (wpAny_bind (wpAny_onRaise ?_))
  show wpAny _ _ (Builtin.SmallTypes.nextOf (.ref i1) >>= _) _ _ _
  refine wpAny_bind (nextOf_item (h1.extBut hs₁.extBut D.i1z) (hl1.extBut hs₁.extBut D.l1z) hx fun h₂ h1₂ hs₂ => wpAny_pure ?_)
  have hTO₂ : IsPair h₂ TO a b := hs₂.extBut _ _ D.TOi1 (hs₁.extBut _ _ D.TOz hTO)
  refine wpAny_bind (wpAny_seqItems hTO₂ rfl ?_)
  refine wpAny_bind (wpAny_updateSeq_pair hTO₂ fun h₃ hTO₃ hs₃ => ?_)
  replace hTO₃ : IsPair h₃ TO x b := hTO₃
  refine wpAny_bind (wpAny_letGo (wpAny_pure ?_))

  refine wpAny_bind (wpAny_bind (wpAny_onRaise ?_))
  show wpAny _ _ (Builtin.SmallTypes.nextOf (.ref i2) >>= _) _ _ _
  refine wpAny_bind (nextOf_item (((h2.extBut hs₁.extBut D.i2z).extBut hs₂.extBut D.i12.symm).extBut hs₃.extBut D.TOi2.symm)
    (((hl2.extBut hs₁.extBut D.l2z).extBut hs₂.extBut D.l2i1).extBut hs₃.extBut D.l2TO) hy fun h₄ h2₄ hs₄ => wpAny_pure ?_)
  have hTO₄ : IsPair h₄ TO x b := hs₄.extBut _ _ D.TOi2 hTO₃
  refine wpAny_bind (wpAny_seqItems hTO₄ rfl ?_)
  refine wpAny_bind (wpAny_updateSeq_pair hTO₄ fun h₅ hTO₅ hs₅ => ?_)
  replace hTO₅ : IsPair h₅ TO x y := hTO₅
  refine wpAny_bind (wpAny_letGo (wpAny_pure (wpAny_pure ?_)))

  refine wpAny_bind (wpAny_seqItems hTO₅ rfl ?_)
  refine wpAny_bind (wpAny_newTuple ?_)
  have hsz : h₅.objs.size = s.heap.objs.size := by rw [hs₅.1, hs₄.1, hs₃.1, hs₂.1, hs₁.1]
  have hz₅ : IsZip h₅ z TI TO .ellipsis := hs₅.extBut _ _ D.TOz.symm (hs₄.extBut _ _ D.i2z.symm (hs₃.extBut _ _ D.TOz.symm (hs₂.extBut _ _ D.i1z.symm hz₁)))
  have hk₅ : ∀ c o, c ≠ z → c ≠ TO → c ≠ i1 → c ≠ i2 → s.heap.get? c = some o → h₅.get? c = some o := fun c o c1 c2 c3 c4 e =>
    hs₅.extBut _ _ c2 (hs₄.extBut _ _ c4 (hs₃.extBut _ _ c2 (hs₂.extBut _ _ c3 (hs₁.extBut _ _ c1 e))))
  have h1₅ : SqIt b1 h₅ i1 l1 (k1 + 1) := ((h1₂.extBut hs₃.extBut D.TOi1.symm).extBut hs₄.extBut D.i12).extBut hs₅.extBut D.TOi1.symm
  have h2₅ : SqIt b2 h₅ i2 l2 (k2 + 1) := h2₄.extBut hs₅.extBut D.TOi2.symm
  have hzlt : z < h₅.objs.size := Heap.lt_size hz₅
  have hTOlt : TO < h₅.objs.size := Heap.lt_size hTO₅
  have hi1lt : i1 < h₅.objs.size := h1₅.lt
  have hi2lt : i2 < h₅.objs.size := h2₅.lt
  show wpAny _ _ (Builtin.SmallTypes.ownedTupleHandOut (.ref z) (.ref h₅.objs.size) >>= _) _ _ _
  refine wpAny_bind ?_
  unfold Builtin.SmallTypes.ownedTupleHandOut
  have hz₆ : IsZip (h₅.push { cls := .type "tuple", data := .seq #[x, y] }) z TI TO .ellipsis := Heap.get?_push_of_some _ hz₅
  refine wpAny_bind (wpAny_setField_rec hz₆ (by simp) fun h₇ hz₇ hs₇ => ?_)
  replace hz₇ : IsZip h₇ z TI TO (rawInt h₅.objs.size) := hz₇
  refine wpAny_setField_rec hz₇ (by simp) fun h₈ hz₈ hs₈ => ?_
  replace hz₈ : IsZip h₈ z TI TO (rawInt h₅.objs.size) := hz₈
  have up : ∀ c o, c ≠ z → h₅.get? c = some o → h₈.get? c = some o := fun c o c1 e => hs₈.extBut _ _ c1 (hs₇.extBut _ _ c1 (Heap.get?_push_of_some _ e))
  have hT₈ : IsPair h₈ h₅.objs.size x y := hs₈.extBut _ _ (Nat.ne_of_gt hzlt) (hs₇.extBut _ _ (Nat.ne_of_gt hzlt) (Heap.get?_push_size _ rfl))
  have hz8 : h₈.objs.size = h₅.objs.size + 1 := by rw [hs₈.1, hs₇.1, Heap.size_push]
  rw [hsz] at hz₈ hT₈ hz8
  refine wpAny_pure ⟨_, rfl, ?_⟩
  show Q (.ref h₅.objs.size) _
  rw [hsz]
  exact hQ h₈ hz₈ (up _ _ D.TOz hTO₅) (h1₅.at_ fun o e => up _ o D.i1z e) (h2₅.at_ fun o e => up _ o D.i2z e) hT₈ hz8 fun c o c1 c2 c3 c4 e => up c o c1 (hk₅ c o c1 c2 c3 c4 e)
theorem zipG_next_end {b1 b2 : Bool} {z TI TO i1 i2 l1 l2 : Addr} {k1 k2 : Nat} {xs ys : Array Value} {a b : Value} {Q : Fin → Shared → Prop} (hh : A.handled = none) (D : ZipApart z TI TO i1 i2 l1 l2)
    (hz : IsZip s.heap z TI TO .none) (hTI : IsPair s.heap TI (.ref i1) (.ref i2)) (hTO : IsPair s.heap TO a b)
    (h1 : SqIt b1 s.heap i1 l1 k1) (h2 : SqIt b2 s.heap i2 l2 k2) (hl1 : SqOb b1 s.heap l1 xs) (hl2 : SqOb b2 s.heap l2 ys) (hend : xs[k1]? = none ∨ ys[k2]? = none)
    (hE : ∀ h' e, (∀ c o, c ≠ z → c ≠ TO → c ≠ i1 → c ≠ i2 → s.heap.get? c = some o → h'.get? c = some o) → (∃ o, h'.get? e = some o ∧ o.cls = .type "StopIteration") → E (.ref e) { s with heap := h' }) :
    wpAny (model prog w) A (Builtin.«zip.__next__» ⟨[.ref z], []⟩) Q E s := by
  show wpAny _ _ (field (.ref z) 2 >>= _) _ _ _
  refine wpAny_bind (wpAny_field hz rfl (x := .bool false) rfl ?_)
  show wpAny _ _ (field (.ref z) 3 >>= _) _ _ _
  refine wpAny_bind (wpAny_field hz rfl (x := .ref TI) rfl ?_)
  refine wpAny_bind (wpAny_seqItems hTI rfl ?_)
  show wpAny _ _ (Builtin.SmallTypes.ownedTupleIsFree (.ref z) >>= _) _ _ _
  refine wpAny_bind ?_
  unfold Builtin.SmallTypes.ownedTupleIsFree
  refine wpAny_bind (wpAny_field hz rfl (x := .none) rfl (wpAny_pure ?_))
  simp only [if_true]
  refine wpAny_bind (wpAny_rule ?_)
  refine wpAny_bind (wpAny_field hz rfl (x := .ref TO) rfl ?_)
  refine wpAny_bind (wpAny_setField_rec hz (by simp) fun h₁ hz₁ hs₁ => ?_)
  replace hz₁ : IsZip h₁ z TI TO .ellipsis := hz₁
  refine wpAny_bind ?_
  simp only [List.zipIdx_cons, List.zipIdx_nil, List.forIn_cons, List.forIn_nil]
  refine wpAny_bind (wpAny_bind (wpAny_onRaise ?_))
  show wpAny _ _ (Builtin.SmallTypes.nextOf (.ref i1) >>= _) _ _ _
  cases hx : xs[k1]? with
  | none =>
    refine wpAny_bind (nextOf_end hh (h1.extBut hs₁.extBut D.i1z) (hl1.extBut hs₁.extBut D.l1z) hx fun h₂ e hs₂ he => ?_)
    obtain ⟨oe, hoe, hce⟩ := he
    have hz₂ : IsZip h₂ z TI TO .ellipsis := hs₂ _ _ D.i1z.symm hz₁
    have hez : e ≠ z := fun x => by subst x; rw [hz₂] at hoe; cases hoe; simp at hce
    refine wpAny_setField_rec hz₂ (by simp) fun h₃ _ hs₃ => hE h₃ e (fun c o c1 _ c3 _ x => hs₃.extBut _ _ c1 (hs₂ _ _ c3 (hs₁.extBut _ _ c1 x))) ⟨oe, hs₃.extBut _ _ hez hoe, hce⟩
  | some x =>
    have hy : ys[k2]? = none := by rcases hend with h | h; rw [hx] at h; cases h; exact h
    refine wpAny_bind (nextOf_item (h1.extBut hs₁.extBut D.i1z) (hl1.extBut hs₁.extBut D.l1z) hx fun h₂ h1₂ hs₂ => wpAny_pure ?_)
    have hTO₂ : IsPair h₂ TO a b := hs₂.extBut _ _ D.TOi1 (hs₁.extBut _ _ D.TOz hTO)
    refine wpAny_bind (wpAny_seqItems hTO₂ rfl ?_)
    refine wpAny_bind (wpAny_updateSeq_pair hTO₂ fun h₃ hTO₃ hs₃ => ?_)
    refine wpAny_bind (wpAny_letGo (wpAny_pure ?_))
    refine wpAny_bind (wpAny_bind (wpAny_onRaise ?_))
    show wpAny _ _ (Builtin.SmallTypes.nextOf (.ref i2) >>= _) _ _ _
    refine wpAny_bind (nextOf_end hh (((h2.extBut hs₁.extBut D.i2z).extBut hs₂.extBut D.i12.symm).extBut hs₃.extBut D.TOi2.symm)
      (((hl2.extBut hs₁.extBut D.l2z).extBut hs₂.extBut D.l2i1).extBut hs₃.extBut D.l2TO) hy fun h₄ e hs₄ he => ?_)
    obtain ⟨oe, hoe, hce⟩ := he
    have hz₄ : IsZip h₄ z TI TO .ellipsis := hs₄ _ _ D.i2z.symm (hs₃.extBut _ _ D.TOz.symm (hs₂.extBut _ _ D.i1z.symm hz₁))
    have hez : e ≠ z := fun x => by subst x; rw [hz₄] at hoe; cases hoe; simp at hce
    refine wpAny_setField_rec hz₄ (by simp) fun h₅ _ hs₅ => hE h₅ e (fun c o c1 c2 c3 c4 x => hs₅.extBut _ _ c1 (hs₄ _ _ c4 (hs₃.extBut _ _ c2 (hs₂.extBut _ _ c3 (hs₁.extBut _ _ c1 x))))) ⟨oe, hs₅.extBut _ _ hez hoe, hce⟩
theorem pyNext_zipG_item {b1 b2 : Bool} {z TI TO i1 i2 l1 l2 : Addr} {k1 k2 : Nat} {xs ys : Array Value} {x y a b : Value} {Q : Option Value → Shared → Prop} (D : ZipApart z TI TO i1 i2 l1 l2)
    (hz : IsZip s.heap z TI TO .none) (hTI : IsPair s.heap TI (.ref i1) (.ref i2)) (hTO : IsPair s.heap TO a b)
    (h1 : SqIt b1 s.heap i1 l1 k1) (h2 : SqIt b2 s.heap i2 l2 k2) (hl1 : SqOb b1 s.heap l1 xs) (hl2 : SqOb b2 s.heap l2 ys) (hx : xs[k1]? = some x) (hy : ys[k2]? = some y)
    (hQ : ∀ h', IsZip h' z TI TO (rawInt s.heap.objs.size) → IsPair h' TO x y → SqIt b1 h' i1 l1 (k1 + 1) → SqIt b2 h' i2 l2 (k2 + 1) → IsPair h' s.heap.objs.size x y → h'.objs.size = s.heap.objs.size + 1 →
      (∀ c o, c ≠ z → c ≠ TO → c ≠ i1 → c ≠ i2 → s.heap.get? c = some o → h'.get? c = some o) → Q (some (.ref s.heap.objs.size)) { s with heap := h' }) :
    wpAny (model prog w) A (pyNext (.ref z)) Q E s := by
  have hT : s.TypeIs (.ref z) "zip" := ⟨_, hz, rfl⟩
  unfold pyNext
  exact wpAny_bind (wpAny_attempt (wpAny_callSpecial?_slot (name := Str.ofString "__next__") hT F.slot_zip_next
    (wpAny_call_entry F.slot_zip_next hT F.entry_zip_next
      (zipG_next_item D hz hTI hTO h1 h2 hl1 hl2 hx hy fun h' a1 a2 a3 a4 a5 a6 a7 => wpAny_pure (hQ h' a1 a2 a3 a4 a5 a6 a7)) (F.args_zip_next_1 _))))
theorem pyNext_zipG_end {b1 b2 : Bool} {z TI TO i1 i2 l1 l2 : Addr} {k1 k2 : Nat} {xs ys : Array Value} {a b : Value} {Q : Option Value → Shared → Prop} (hh : A.handled = none) (D : ZipApart z TI TO i1 i2 l1 l2)
    (hz : IsZip s.heap z TI TO .none) (hTI : IsPair s.heap TI (.ref i1) (.ref i2)) (hTO : IsPair s.heap TO a b)
    (h1 : SqIt b1 s.heap i1 l1 k1) (h2 : SqIt b2 s.heap i2 l2 k2) (hl1 : SqOb b1 s.heap l1 xs) (hl2 : SqOb b2 s.heap l2 ys) (hend : xs[k1]? = none ∨ ys[k2]? = none)
    (hQ : ∀ h', (∀ c o, c ≠ z → c ≠ TO → c ≠ i1 → c ≠ i2 → s.heap.get? c = some o → h'.get? c = some o) → Q none { s with heap := h' }) : wpAny (model prog w) A (pyNext (.ref z)) Q E s := by
  have hT : s.TypeIs (.ref z) "zip" := ⟨_, hz, rfl⟩
  unfold pyNext
  refine wpAny_bind (wpAny_attempt (wpAny_callSpecial?_slot (name := Str.ofString "__next__") hT F.slot_zip_next
    (wpAny_call_entry F.slot_zip_next hT F.entry_zip_next (zipG_next_end hh D hz hTI hTO h1 h2 hl1 hl2 hend fun h' e hk he => ?_) (F.args_zip_next_1 _))))
  obtain ⟨o, ho, hc⟩ := he
  refine wpAny_bind (wpAny_isInstance (T := "StopIteration") (b := true) ⟨o, ho, hc⟩ isSubtype_stop ?_)
  exact wpAny_pure (hQ _ hk)
end
def itObj (b : Bool) (l : Addr) : Obj := { cls := .type (bif b then "tuple_iterator" else "list_iterator"), data := .fields #[.ref l, .int 0 0] }
theorem SqIt.new {b : Bool} {h : Heap} {it l : Addr} (e : h.get? it = some (itObj b l)) : SqIt b h it l 0 := by
  cases b with
  | true => exact ⟨_, e, rfl, rfl⟩
  | false => exact ⟨_, e, rfl, rfl⟩
theorem pyIter_sq {prog : Program} {w : World} {A : Around} {E : Value → Shared → Prop} {s : Shared} {b : Bool} {l : Addr} {items : Array Value} {Q : Value → Shared → Prop} (hl : SqOb b s.heap l items)
    (h : Q (.ref s.heap.objs.size) { s with heap := s.heap.push (itObj b l) }) : wpAny (model prog w) A (pyIter (.ref l)) Q E s := by
  cases b with
  | true => exact wpAny_pyIter_tuple hl h
  | false => exact wpAny_pyIter_list hl h
abbrev zH1 (b1 : Bool) (h : Heap) (l1 : Addr) : Heap := h.push (itObj b1 l1)
abbrev zH2 (b1 b2 : Bool) (h : Heap) (l1 l2 : Addr) : Heap := (zH1 b1 h l1).push (itObj b2 l2)
abbrev zH3 (b1 b2 : Bool) (h : Heap) (l1 l2 : Addr) : Heap := (zH2 b1 b2 h l1 l2).push { cls := .type "tuple", data := .seq #[.ref h.objs.size, .ref (zH1 b1 h l1).objs.size] }
abbrev zH4 (b1 b2 : Bool) (h : Heap) (l1 l2 : Addr) : Heap := (zH3 b1 b2 h l1 l2).push { cls := .type "tuple", data := .seq #[.none, .none] }
abbrev zH5 (b1 b2 : Bool) (h : Heap) (l1 l2 : Addr) : Heap := (zH4 b1 b2 h l1 l2).push { cls := .type "zip", data := .fields #[.none, .bool false, .bool false, .ref (zH2 b1 b2 h l1 l2).objs.size, .ref (zH3 b1 b2 h l1 l2).objs.size] }
theorem meets_zipG_new (b1 b2 : Bool) (l1 l2 : Addr) (xs ys : Array Value) :
    Meets (Builtin.«zip.__new__» ⟨[.type "zip", .ref l1, .ref l2], []⟩) (fun _ R s => SqOb b1 s.heap l1 xs ∧ SqOb b2 s.heap l2 ys ∧
      R (.ok (.ret (.ref (zH4 b1 b2 s.heap l1 l2).objs.size))) { s with heap := zH5 b1 b2 s.heap l1 l2 }) :=
  .of_wp fun prog w A R s h => by
    obtain ⟨hp, g, d, tk, os⟩ := s; obtain ⟨hl1, hl2, h⟩ := h
    have hsub := sub_zip
    have hL1 : SqOb b1 (Shared.heap ⟨hp, g, d, tk, os⟩) l1 xs := hl1
    have hL2 : SqOb b2 (Shared.heap ⟨hp.push (itObj b1 l1), g, d, tk, os⟩) l2 ys := SqOb.push hl2 _
    wp_walk using pyIter_sq hL1, pyIter_sq hL2
    exact ⟨_, rfl, h⟩
theorem call_zipG {prog : Program} {w : World} {A : Around} {E : Value → Shared → Prop} {s : Shared} {b1 b2 : Bool} {l1 l2 : Addr} {xs ys : Array Value} {Q : Value → Shared → Prop} (hl1 : SqOb b1 s.heap l1 xs) (hl2 : SqOb b2 s.heap l2 ys)
    (h : ∀ h', IsZip h' (s.heap.objs.size + 4) (s.heap.objs.size + 2) (s.heap.objs.size + 3) .none → IsPair h' (s.heap.objs.size + 2) (.ref s.heap.objs.size) (.ref (s.heap.objs.size + 1)) →
      IsPair h' (s.heap.objs.size + 3) .none .none → SqIt b1 h' s.heap.objs.size l1 0 → SqIt b2 h' (s.heap.objs.size + 1) l2 0 → h'.objs.size = s.heap.objs.size + 5 →
      (∀ c o, s.heap.get? c = some o → h'.get? c = some o) → Q (.ref (s.heap.objs.size + 4)) { s with heap := h' }) :
    wpAny (model prog w) A (call (.type "zip") [.ref l1, .ref l2]) Q E s := by
  refine callType_new F.called_zip (by decide) (F.typeCall_zip_2 _ _) (F.newCall_zip_2 _ _) (fun obj => F.args_object_init_3 obj _ _) F.entry_zip_new
    (meets_zipG_new b1 b2 l1 l2 xs ys) ⟨hl1, hl2, ?_⟩
  have fr1 : (itObj b1 l1).isFreed = false := by cases b1 <;> rfl
  have fr2 : (itObj b2 l2).isFreed = false := by cases b2 <;> rfl
  have z1 : (zH1 b1 s.heap l1).objs.size = s.heap.objs.size + 1 := Heap.size_push ..
  have z2 : (zH2 b1 b2 s.heap l1 l2).objs.size = s.heap.objs.size + 2 := by rw [Heap.size_push, z1]
  have z3 : (zH3 b1 b2 s.heap l1 l2).objs.size = s.heap.objs.size + 3 := by rw [Heap.size_push, z2]
  have z4 : (zH4 b1 b2 s.heap l1 l2).objs.size = s.heap.objs.size + 4 := by rw [Heap.size_push, z3]
  have z5 : (zH5 b1 b2 s.heap l1 l2).objs.size = s.heap.objs.size + 5 := by rw [Heap.size_push, z4]
  have g5 : (zH5 b1 b2 s.heap l1 l2).get? (zH4 b1 b2 s.heap l1 l2).objs.size = some _ := Heap.get?_push_size _ rfl
  have g4 : (zH5 b1 b2 s.heap l1 l2).get? (zH3 b1 b2 s.heap l1 l2).objs.size = some _ := Heap.get?_push_of_some _ (Heap.get?_push_size _ rfl)
  have g3 : (zH5 b1 b2 s.heap l1 l2).get? (zH2 b1 b2 s.heap l1 l2).objs.size = some _ := Heap.get?_push_of_some _ (Heap.get?_push_of_some _ (Heap.get?_push_size _ rfl))
  have g2 : (zH5 b1 b2 s.heap l1 l2).get? (zH1 b1 s.heap l1).objs.size = some (itObj b2 l2) := Heap.get?_push_of_some _ (Heap.get?_push_of_some _ (Heap.get?_push_of_some _ (Heap.get?_push_size _ fr2)))
  have g1 : (zH5 b1 b2 s.heap l1 l2).get? s.heap.objs.size = some (itObj b1 l1) := Heap.get?_push_of_some _ (Heap.get?_push_of_some _ (Heap.get?_push_of_some _ (Heap.get?_push_of_some _ (Heap.get?_push_size _ fr1))))
  show _ ∧ _
  rw [z2, z3, z4] at g5
  rw [z1, z2] at g3
  rw [z3] at g4
  rw [z1] at g2
  rw [z4]
  exact ⟨⟨_, g5, rfl⟩, h _ g5 g3 g4 (SqIt.new g1) (SqIt.new g2) z5 fun c o x =>
    Heap.get?_push_of_some _ (Heap.get?_push_of_some _ (Heap.get?_push_of_some _ (Heap.get?_push_of_some _ (Heap.get?_push_of_some _ x))))⟩
open AutoSeq1 (wpAny_loadPart')
abbrev sqTy (b : Bool) : String := match b with
  | true => "tuple"
  | false => "list"
theorem SqOb.get {b : Bool} {h : Heap} {l : Addr} {items : Array Value} (q : SqOb b h l items) : ∃ dct n sl, h.get? l = some { cls := .type (sqTy b), dict := dct, data := .seq items n, slots := sl } := by
  cases b with
  | true =>
    obtain ⟨⟨c, dct, dt, sl⟩, hl, hc, n, hd⟩ := (show h.IsTuple l items from q)
    replace hc : c = .type "tuple" := hc
    replace hd : dt = .seq items n := hd
    subst hc hd
    exact ⟨dct, n, sl, hl⟩
  | false =>
    obtain ⟨⟨c, dct, dt, sl⟩, hl, hc, n, hd⟩ := (show h.IsList l items from q)
    replace hc : c = .type "list" := hc
    replace hd : dt = .seq items n := hd
    subst hc hd
    exact ⟨dct, n, sl, hl⟩
theorem meets_enumG_new (b : Bool) (l : Addr) (items : Array Value) :
    Meets (Builtin.«enumerate.__new__» ⟨[.type "enumerate", .ref l], []⟩) (fun _ R s => SqOb b s.heap l items ∧
      R (.ok (.ret (.ref (s.heap.push (itObj b l)).objs.size)))
        { s with heap := (s.heap.push (itObj b l)).push { cls := .type "enumerate", data := .fields #[.none, .bool false, .ref s.heap.objs.size, rawInt 0, .none, .none] } }) :=
  .of_wp fun prog w A R s h => by
    obtain ⟨hp, g, d, tk, os⟩ := s; obtain ⟨hl0, h⟩ := h
    obtain ⟨dct, n, sl, hl⟩ := hl0.get
    have hsub := sub_enumerate
    have hL : SqOb b (Shared.heap ⟨hp, g, d, tk, os⟩) l items := hl0
    cases b with
    | true =>
      wp_walk using wpAny_loadPart' hl
      refine wpAny_stack_any fun st => wpAny_pure ?_
      split
      · rename_i c _ _ _ _ _
        cases (c == Value.type "enumerate")
        · wp_walk using wpAny_loadPart' hl, pyIter_sq hL
          exact ⟨_, rfl, h⟩
        · wp_walk using wpAny_loadPart' hl, pyIter_sq hL
          exact ⟨_, rfl, h⟩
      · wp_walk using wpAny_loadPart' hl, pyIter_sq hL
        exact ⟨_, rfl, h⟩
    | false =>
      wp_walk using wpAny_loadPart' hl
      refine wpAny_stack_any fun st => wpAny_pure ?_
      split
      · rename_i c _ _ _ _ _
        cases (c == Value.type "enumerate")
        · wp_walk using wpAny_loadPart' hl, pyIter_sq hL
          exact ⟨_, rfl, h⟩
        · wp_walk using wpAny_loadPart' hl, pyIter_sq hL
          exact ⟨_, rfl, h⟩
      · wp_walk using wpAny_loadPart' hl, pyIter_sq hL
        exact ⟨_, rfl, h⟩
section
variable {prog : Program} {w : World} {A : Around} {E : Value → Shared → Prop} {s : Shared}
theorem call_enumG {b : Bool} {l : Addr} {items : Array Value} {Q : Value → Shared → Prop} (hL : SqOb b s.heap l items)
    (h : ∀ h', IsEnum h' (s.heap.objs.size + 1) s.heap.objs.size 0 .none → SqIt b h' s.heap.objs.size l 0 → h'.objs.size = s.heap.objs.size + 2 →
      (∀ b o, s.heap.get? b = some o → h'.get? b = some o) → Q (.ref (s.heap.objs.size + 1)) { s with heap := h' }) :
    wpAny (model prog w) A (call (.type "enumerate") [.ref l]) Q E s := by
  refine callType_new F.called_enumerate (by decide) (F.typeCall_enumerate_1 _) (F.newCall_enumerate_1 _) (fun obj => F.args_object_init_2 obj _) F.entry_enumerate_new
    (meets_enumG_new b l items) ⟨hL, ?_⟩
  have fr : (itObj b l).isFreed = false := by cases b <;> rfl
  have hz : (s.heap.push (itObj b l)).objs.size = s.heap.objs.size + 1 := Heap.size_push ..
  show _ ∧ _
  rw [hz]
  have he : IsEnum ((s.heap.push (itObj b l)).push
      { cls := .type "enumerate", data := .fields #[.none, .bool false, .ref s.heap.objs.size, rawInt 0, .none, .none] }) (s.heap.objs.size + 1) s.heap.objs.size 0 .none := by
    have := Heap.get?_push_size (s.heap.push (itObj b l))
      (o := { cls := .type "enumerate", data := .fields #[.none, .bool false, .ref s.heap.objs.size, rawInt 0, .none, .none] }) rfl
    rw [hz] at this; exact this
  exact ⟨⟨_, he, rfl⟩, h _ he (SqIt.new (Heap.get?_push_of_some _ (Heap.get?_push_size _ fr))) (by rw [Heap.size_push, hz]) fun b o x => Heap.get?_push_of_some _ (Heap.get?_push_of_some _ x)⟩
theorem drawsG (hh : A.handled = none) (b : Bool) (it l : Addr) (hne : l ≠ it) (items : Array Value) :
    Draws prog w A it [it, l] items.size (fun i v => items[i]? = some v) (fun i h => SqIt b h it l i ∧ SqOb b h l items) where
  live := fun _ _ st => by
    obtain ⟨o, _, e, _⟩ := st.1.obj
    exact ⟨o, e⟩
  frame := fun _ _ _ st hk => ⟨st.1.at_ fun o e => hk it (by simp) o e, by
    have q := st.2
    cases b with
    | true => exact Heap.IsTuple.at q fun o e => hk l (by simp) o e
    | false => exact Heap.IsList.at q fun o e => hk l (by simp) o e⟩
  item := fun i s Q E hi st hQ => by
    refine nextOf_item st.1 st.2 (x := items[i]) (by simp [hi]) fun h' hit' hs' => ?_
    exact hQ _ h' s.toks (by simp [hi]) ⟨hit', st.2.extBut hs'.extBut hne⟩ hs'
  done := fun s Q E st hE => nextOf_end hh st.1 st.2 (by simp) hE
theorem wpAny_pyNext_enum_endG {b : Bool} {e it l : Addr} {i : Nat} {items : Array Value} {old : Value} {Q : Option Value → Shared → Prop} (hh : A.handled = none)
    (he : IsEnum s.heap e it i old) (hit : SqIt b s.heap it l i) (hl : SqOb b s.heap l items) (hx : items[i]? = none)
    (hQ : ∀ h', Heap.ExtBut it s.heap h' → Q none { s with heap := h' }) : wpAny (model prog w) A (pyNext (.ref e)) Q E s := by
  have hT : s.TypeIs (.ref e) "enumerate" := ⟨_, he, rfl⟩
  unfold pyNext
  refine wpAny_bind (wpAny_attempt (wpAny_callSpecial?_slot (name := Str.ofString "__next__") hT F.slot_enumerate_next
    (wpAny_call_entry F.slot_enumerate_next hT F.entry_enumerate_next ?_ (F.args_enumerate_next_1 _))))
  show wpAny _ _ (field (.ref e) 2 >>= _) _ _ _
  refine wpAny_bind (wpAny_field he rfl (x := .ref it) rfl ?_)
  refine wpAny_bind (nextOf_end hh hit hl hx fun h' x he' hx' => ?_)
  obtain ⟨o, ho, hc⟩ := hx'
  refine wpAny_bind (wpAny_isInstance (T := "StopIteration") (b := true) ⟨o, ho, hc⟩ isSubtype_stop ?_)
  exact wpAny_pure (hQ _ he')
end
end ZG
set_option Elab.async false
set_option linter.all false
set_option maxRecDepth 100000
set_option maxHeartbeats 1000000
namespace PX
open PySem PySem.Spec PyProof.Rows L2 ZG
def SqG (b : Bool) (K : PySem.W.Frag) (H : Hp) (a : Addr) (xs : List V) : Prop := match b with
  | true => SqT K H a xs
  | false => SqL K H a xs
theorem Inv.sqG {X : Cx} {pins : List (Addr × Obj)} {σ : L2.St} {H : Hp} {s : Shared} {b : Bool} {a : Addr} {xs : List V} (I : L2.Inv X pins σ H s) (q : SqG b X.K H a xs) : ∃ its, Vals xs its ∧ SqOb b s.heap a its.toArray ∧ a < s.heap.objs.size := by
  cases b with
  | true =>
    obtain ⟨its, rv, p, _⟩ := I.tuple q
    obtain ⟨o, ho, _⟩ := id p
    exact ⟨its, rv, p, Heap.lt_size ho⟩
  | false =>
    obtain ⟨its, rv, p, _⟩ := I.list q
    exact ⟨its, rv, p.isList, p.lt⟩
theorem Inv.sqG_inj {X : Cx} {pins : List (Addr × Obj)} {σ : L2.St} {H : Hp} {s : Shared} {b : Bool} {a : Addr} {xs ys : List V} (I : L2.Inv X pins σ H s) (q : SqG b X.K H a xs) (q' : SqG b X.K H a ys) : xs = ys := by
  cases b with
  | true => exact I.tuple_inj q q'
  | false => exact I.list_inj q q'
def Iteg (K : PySem.W.Frag) (b : Bool) (a : Addr) : It :=
  ⟨fun i H => ∃ (xs : List V) (x : V), SqG b K H a xs ∧ xs[i]? = some x, fun i H v H' => ∃ T x, v = .ref T ∧ H T = none ∧ H' = upd H T (.tup [.int (i : Nat), x]) ∧ ∀ xs, SqG b K H a xs → xs[i]? = some x, fun i H => ∃ xs : List V, SqG b K H a xs ∧ xs.length ≤ i⟩
theorem turn_enumG {P : Program} {w : World} {K : PySem.W.Frag} {elts : List Expr} {kk : Nat} {tpos : Pos} (b : Bool) (a e it : Addr) :
    Turn P w K (.Tuple elts kk tpos) (Iteg K b a) [e, it] e (fun i h => (∃ old, IsEnum h e it ((i : Nat) : Int) old) ∧ SqIt b h it a i ∧ e ≠ it ∧ a ≠ it ∧ e ≠ a) where
  mem := by simp
  obj := fun i h st c hc => by
    obtain ⟨⟨old, he⟩, hit, _⟩ := st
    have e' : c = e ∨ c = it := by simpa using hc
    rcases e' with z | z
    · rw [z]; exact ⟨_, he, fun v q => nomatch q⟩
    · rw [z]
      obtain ⟨o, vs, ho, hd⟩ := hit.obj
      exact ⟨o, ho, fun v q => by rw [hd] at q; cases q⟩
  keep := fun i h h' st k => let ⟨⟨old, he⟩, hi, hne⟩ := st; ⟨⟨old, k e (by simp) _ he⟩, hi.at_ fun o q => k it (by simp) o q, hne⟩
  item := by
    intro X hP hw hK hc i pins s σ H E I hf st hg
    subst hP hw hK
    obtain ⟨⟨old, he⟩, hit, hne, hai, hea⟩ := st
    obtain ⟨xs, x, hq, hx⟩ := hg
    obtain ⟨its, rv, p, hz⟩ := Inv.sqG I hq
    obtain ⟨u, hu, ru⟩ := rv.get hx
    have hel : e < s.heap.objs.size := Heap.lt_size he
    have hil : it < s.heap.objs.size := hit.lt
    have hlt : i < its.toArray.size := by
      have := (List.getElem?_eq_some_iff.mp hu).1
      simpa using this
    refine wpAny_pyNext_enum_itemD (drawsG (A := X.A.in1) (I.ok.hd hc) b it a hai its.toArray) he ⟨hit, p⟩ hlt hne (by simp [hne, hea]) fun u' h' tk hP ho st' hT hsz hk => ?_
    have eu : u' = u := by
      have hP : its.toArray[i]? = some u' := hP
      rw [List.getElem?_toArray, hu] at hP
      exact (Option.some.inj hP).symm
    subst eu
    refine ⟨_, rfl, wpAny_letOwnedTupleGo_enum (s := { s with heap := h', toks := tk + 1 }) ho fun h'' he' sb => ?_⟩
    have hT2 : h''.get? s.heap.objs.size = some { cls := .type "tuple", data := .seq #[.int i tk, u'] } := (sb.2 _ (Nat.ne_of_gt hel)).trans hT
    have new : ObjOk X.prog X.w (upd H s.heap.objs.size (.tup [.int (i : Nat), x])) h'' s.heap.objs.size (.tup [.int (i : Nat), x]) :=
      ⟨by show 2 ≤ sizeLine; decide, [.int i tk, u'], .cons ⟨_, rfl⟩ (.cons ru .nil), ⟨_, hT2, rfl, _, rfl⟩⟩
    have I1 : L2.Inv X pins σ (upd H s.heap.objs.size (.tup [.int (i : Nat), x])) { s with heap := h'', toks := tk + 1 } :=
      I.turnedNew (t' := tk + 1) (ch := [e, it]) (fun c o hb q => (sb.2 c (fun q' => hb (by simp [q']))).trans (hk c o (fun q' => hb (by simp [q'])) (fun q' => hb (by simp [q'])) q)) hf (Nat.le_refl _) new
    refine ⟨.ref s.heap.objs.size, _, I1, rfl, ⟨_, x, rfl, I.hok.fresh (Nat.le_refl _), rfl, fun l hl => by rw [Inv.sqG_inj I hl hq]; exact hx⟩, ⟨⟨_, he'⟩, ?_, hne, hai, hea⟩, fun c hcm => ?_⟩
    · exact st'.1.at_ fun o q => (sb.2 _ hne.symm).trans q
    · have hlt : c < s.heap.objs.size := by
        have e' : c = e ∨ c = it := by simpa using hcm
        rcases e' with z | z
        · rw [z]; exact hel
        · rw [z]; exact hil
      rw [upd_ne (Nat.ne_of_lt hlt)]
      exact (hf c hcm).1
  done := by
    intro X hP hw hK hc i pins s σ H E I hf st hg
    subst hP hw hK
    obtain ⟨⟨old, he⟩, hit, hne, hai, hea⟩ := st
    obtain ⟨xs, hq, hx⟩ := hg
    obtain ⟨its, rv, p, hz⟩ := Inv.sqG I hq
    obtain ⟨f0, f1, f2, f3, f4, f5⟩ := hf it (by simp)
    have hl := rv.length
    have hn : its.toArray[i]? = none := by simp; omega
    refine wpAny_pyNext_enum_endG (I.ok.hd hc) he hit p hn fun h' eb => ⟨rfl, I.turned (t' := s.toks) (fun b o hb q => eb b o hb q) f0 f1 f3 f4 f5⟩
  self := fun A i s Q E st h => let ⟨⟨_, he⟩, _⟩ := st; wpAny_pyIter_enum he h
def Itzg (K : PySem.W.Frag) (b1 b2 : Bool) (a b : Addr) : It :=
  ⟨fun i H => ∃ (xs ys : List V) (x y : V), SqG b1 K H a xs ∧ SqG b2 K H b ys ∧ xs[i]? = some x ∧ ys[i]? = some y,
    fun i H v H' => ∃ T x y, v = .ref T ∧ H T = none ∧ H' = upd H T (.tup [x, y]) ∧ (∀ xs, SqG b1 K H a xs → xs[i]? = some x) ∧ ∀ ys, SqG b2 K H b ys → ys[i]? = some y,
    fun i H => ∃ xs ys : List V, SqG b1 K H a xs ∧ SqG b2 K H b ys ∧ (xs.length ≤ i ∨ ys.length ≤ i)⟩
theorem turn_zipG {P : Program} {w : World} {K : PySem.W.Frag} {elts : List Expr} {kk : Nat} {tpos : Pos} (b1 b2 : Bool) {a b z TI TO i1 i2 : Addr} (D : ZipApart z TI TO i1 i2 a b) :
    Turn P w K (.Tuple elts kk tpos) (Itzg K b1 b2 a b) [z, TI, TO, i1, i2] z (fun i h => IsZip h z TI TO .none ∧ IsPair h TI (.ref i1) (.ref i2) ∧ (∃ x y, IsPair h TO x y) ∧ SqIt b1 h i1 a i ∧ SqIt b2 h i2 b i) where
  mem := by simp
  obj := fun i h st c hc => by
    obtain ⟨hz, hTI, ⟨x, y, hTO⟩, h1, h2⟩ := st
    have e' : c = z ∨ c = TI ∨ c = TO ∨ c = i1 ∨ c = i2 := by simpa using hc
    rcases e' with q | q | q | q | q
    · rw [q]; exact ⟨_, hz, fun v q => nomatch q⟩
    · rw [q]; exact ⟨_, hTI, fun v q => nomatch q⟩
    · rw [q]; exact ⟨_, hTO, fun v q => nomatch q⟩
    · rw [q]
      obtain ⟨o1, _, e1, d1⟩ := h1.obj
      exact ⟨o1, e1, fun v q => by rw [d1] at q; cases q⟩
    · rw [q]
      obtain ⟨o1, _, e1, d1⟩ := h2.obj
      exact ⟨o1, e1, fun v q => by rw [d1] at q; cases q⟩
  keep := fun i h h' st k => by
    obtain ⟨hz, hTI, ⟨x, y, hTO⟩, h1, h2⟩ := st
    exact ⟨k z (by simp) _ hz, k TI (by simp) _ hTI, ⟨x, y, k TO (by simp) _ hTO⟩, h1.at_ fun o q => k i1 (by simp) o q, h2.at_ fun o q => k i2 (by simp) o q⟩
  item := by
    intro X hP hw hK hc i pins s σ H E I hf st hg
    subst hP hw hK
    obtain ⟨hz, hTI, ⟨x0, y0, hTO⟩, h1, h2⟩ := st
    obtain ⟨xs, ys, x, y, hqx, hqy, hx, hy⟩ := hg
    obtain ⟨its, rv, p, _⟩ := Inv.sqG I hqx
    obtain ⟨its2, rv2, p2, _⟩ := Inv.sqG I hqy
    obtain ⟨u, hu, ru⟩ := rv.get hx
    obtain ⟨u2, hu2, ru2⟩ := rv2.get hy
    have hzl : z < s.heap.objs.size := Heap.lt_size hz
    refine pyNext_zipG_item D hz hTI hTO h1 h2 p p2 (x := u) (y := u2) (by simpa using hu) (by simpa using hu2) fun h' z' TO' h1' h2' hT hsz hk => ?_
    refine ⟨_, rfl, wpAny_letOwnedTupleGo_zip (s := { s with heap := h' }) z' fun h'' z'' sb => ?_⟩
    have hT2 : h''.get? s.heap.objs.size = some { cls := .type "tuple", data := .seq #[u, u2] } := (sb.2 _ (Nat.ne_of_gt hzl)).trans hT
    have new : ObjOk X.prog X.w (upd H s.heap.objs.size (.tup [x, y])) h'' s.heap.objs.size (.tup [x, y]) :=
      ⟨by show 2 ≤ sizeLine; decide, [u, u2], .cons ru (.cons ru2 .nil), ⟨_, hT2, rfl, _, rfl⟩⟩
    have I1 : L2.Inv X pins σ (upd H s.heap.objs.size (.tup [x, y])) { s with heap := h'' } :=
      I.turnedNew (t' := s.toks) (ch := [z, TI, TO, i1, i2]) (fun c o hb q => (sb.2 c (fun q' => hb (by simp [q']))).trans (hk c o (fun q' => hb (by simp [q'])) (fun q' => hb (by simp [q'])) (fun q' => hb (by simp [q'])) (fun q' => hb (by simp [q'])) q)) hf (Nat.le_refl _) new
    refine ⟨.ref s.heap.objs.size, _, I1, rfl, ⟨_, x, y, rfl, I.hok.fresh (Nat.le_refl _), rfl, fun l hl => by rw [Inv.sqG_inj I hl hqx]; exact hx, fun l hl => by rw [Inv.sqG_inj I hl hqy]; exact hy⟩, ⟨z'', ?_, ⟨u, u2, ?_⟩, ?_, ?_⟩, fun c hcm => ?_⟩
    · exact (sb.2 _ D.TIz).trans (hk _ _ D.TIz D.TITO D.TIi1 D.TIi2 hTI)
    · exact (sb.2 _ D.TOz).trans TO'
    · exact h1'.at_ fun o q => (sb.2 _ D.i1z).trans q
    · exact h2'.at_ fun o q => (sb.2 _ D.i2z).trans q
    · have hlt : c < s.heap.objs.size := by
        have e' : c = z ∨ c = TI ∨ c = TO ∨ c = i1 ∨ c = i2 := by simpa using hcm
        rcases e' with q | q | q | q | q
        · rw [q]; exact hzl
        · rw [q]; exact Heap.lt_size hTI
        · rw [q]; exact Heap.lt_size hTO
        · rw [q]; exact h1.lt
        · rw [q]; exact h2.lt
      rw [upd_ne (Nat.ne_of_lt hlt)]
      exact (hf c hcm).1
  done := by
    intro X hP hw hK hc i pins s σ H E I hf st hg
    subst hP hw hK
    obtain ⟨hz, hTI, ⟨x0, y0, hTO⟩, h1, h2⟩ := st
    obtain ⟨xs, ys, hqx, hqy, hend⟩ := hg
    obtain ⟨its, rv, p, _⟩ := Inv.sqG I hqx
    obtain ⟨its2, rv2, p2, _⟩ := Inv.sqG I hqy
    have l1 := rv.length
    have l2 := rv2.length
    have he : its.toArray[i]? = none ∨ its2.toArray[i]? = none := by
      rcases hend with q | q
      · exact .inl (by simp; omega)
      · exact .inr (by simp; omega)
    exact pyNext_zipG_end (I.ok.hd hc) D hz hTI hTO h1 h2 p p2 he fun h' hk => ⟨rfl, I.turnedL (t' := s.toks) (ch := [z, TI, TO, i1, i2]) (fun c o hb q =>
      hk c o (fun q' => hb (by simp [q'])) (fun q' => hb (by simp [q'])) (fun q' => hb (by simp [q'])) (fun q' => hb (by simp [q'])) q) hf⟩
  self := fun A i s Q E st h => wpAny_pyIter_zip st.1 h
def iSeqG (K : PySem.W.Frag) (tl : TE) : TI := fun σ H R => tl σ H fun x H1 => ∃ a b xs, x = .ref a ∧ SqG b K H1 a xs ∧ R (match b with
  | true => Itt K a
  | false => Itl K a) H1
theorem pi_seqG {X : Cx} {tg l : Expr} {tl : TE} (hl : PE X l tl) : PI X tg l (iSeqG X.K tl) := by
  refine ⟨fun pins s σ H R I h => ?_⟩
  refine thn (hl.run pins s σ H _ I h) fun v s1 ⟨x, H1, I1, r1, q1⟩ => ?_
  obtain ⟨a, b, xs, e, hq, q⟩ := q1
  subst e
  cases r1
  have fp : ∀ c ∈ [s1.heap.objs.size], FpOk X pins H1 c := fun c hc => by
    have e : c = s1.heap.objs.size := by simpa using hc
    subst e
    exact I1.fpOk (Nat.le_refl _) (I1.hok.fresh (Nat.le_refl _))
  cases b with
  | true =>
    obtain ⟨its, rv, p, hz⟩ := I1.tuple hq
    refine wpAny_pyIter_tuple (show s1.heap.IsTuple a its.toArray from p) ?_
    exact ⟨s1.heap.objs.size, [s1.heap.objs.size], _, _, H1, rfl, I1.kept (t' := s1.toks) fun b o e => Heap.get?_push_of_some _ e, turn_tuple a _, ⟨_, Heap.get?_push_size _ rfl, rfl, rfl⟩, fp, q⟩
  | false =>
    obtain ⟨its, rv, p, hz⟩ := I1.list hq
    refine wpAny_pyIter_list p.isList ?_
    exact ⟨s1.heap.objs.size, [s1.heap.objs.size], _, _, H1, rfl, I1.kept (t' := s1.toks) fun b o e => Heap.get?_push_of_some _ e, turn_list a _, ⟨_, Heap.get?_push_size _ rfl, rfl, rfl⟩, fp, q⟩
def iEnumG (K : PySem.W.Frag) (ta : TA) : TI := fun σ H R => ta σ H fun vs H1 => ∃ a b xs, vs = [.ref a] ∧ SqG b K H1 a xs ∧ R (Iteg K b a) H1
theorem pi_enumG {X : Cx} {e : Expr} {ta : TA} {p pos tpos : Pos} {elts : List Expr} {kk : Nat} (hg : Gl X "enumerate") (hm : X.mg "enumerate" = none) (ha : PA X [e] ta) (hs : starEach [e] X.env = [(false, eval e X.env)] := by rfl) :
    PI X (.Tuple elts kk tpos) (.Call (.Name "enumerate" p) [e] [] pos) (iEnumG X.K ta) := by
  refine ⟨fun pins s σ H R I h => ?_⟩
  refine Call_ (ld_blt I hg hm boot_enumerate (PyProof.Rows.callWith_type1 (thn (ha.run pos pins s σ H _ I h) fun us s1 ⟨vs, H1, I1, r1, q1⟩ => ?_) hs rfl))
  obtain ⟨a, b, xs, ex, hq, q⟩ := q1
  subst ex
  rw [Vals.ref1 r1]
  obtain ⟨its, rv, p', hz⟩ := Inv.sqG I1 hq
  refine call_enumG p' fun h' he hit hsz hk => wpAny_pyIter_enum he ?_
  have I2 : L2.Inv X pins σ H1 { s1 with heap := h' } := I1.kept (t' := s1.toks) hk
  refine ⟨s1.heap.objs.size + 1, [s1.heap.objs.size + 1, s1.heap.objs.size], _, _, H1, rfl, I2, turn_enumG b a (s1.heap.objs.size + 1) s1.heap.objs.size, ⟨⟨.none, he⟩, hit, Nat.succ_ne_self _, Nat.ne_of_lt hz, Nat.ne_of_gt (Nat.lt_succ_of_lt hz)⟩, fun c hc => ?_, q⟩
  have e' : c = s1.heap.objs.size + 1 ∨ c = s1.heap.objs.size := by simpa using hc
  have hle : s1.heap.objs.size ≤ c := by
    rcases e' with z | z
    · rw [z]; exact Nat.le_add_right _ _
    · rw [z]; exact Nat.le_refl _
  exact I1.fpOk hle (I1.hok.fresh hle)
def iZipG (K : PySem.W.Frag) (ta : TA) : TI := fun σ H R => ta σ H fun vs H1 => ∃ a b b1 b2 xs ys, vs = [.ref a, .ref b] ∧ SqG b1 K H1 a xs ∧ SqG b2 K H1 b ys ∧ R (Itzg K b1 b2 a b) H1
theorem pi_zipG {X : Cx} {e e2 : Expr} {ta : TA} {p pos tpos : Pos} {elts : List Expr} {kk : Nat} (hg : Gl X "zip") (hm : X.mg "zip" = none) (ha : PA X [e, e2] ta)
    (hs : starEach [e, e2] X.env = (false, eval e X.env) :: starEach [e2] X.env := by rfl) (hpl : (backTo pos (starEach [e2] X.env)).any (·.1) = false := by rfl) :
    PI X (.Tuple elts kk tpos) (.Call (.Name "zip" p) [e, e2] [] pos) (iZipG X.K ta) := by
  refine ⟨fun pins s σ H R I h => ?_⟩
  refine Call_ (ld_blt I hg hm PyProof.Rows.boot_zip (PyProof.Rows.callWith_type1 (thn (ha.run pos pins s σ H _ I h) fun us s1 ⟨vs, H1, I1, r1, q1⟩ => ?_) hs hpl))
  obtain ⟨a, b, b1, b2, xs, ys, ex, hqx, hqy, q⟩ := q1
  subst ex
  obtain ⟨u1, u2, rfl, ra, rb⟩ := r1.two
  cases (show u1 = Value.ref a from ra)
  cases (show u2 = Value.ref b from rb)
  have fresh5 : ∀ c, c ∈ [s1.heap.objs.size + 4, s1.heap.objs.size + 2, s1.heap.objs.size + 3, s1.heap.objs.size, s1.heap.objs.size + 1] → FpOk X pins H1 c := fun c hcm => by
    have hle : s1.heap.objs.size ≤ c := by
      simp only [List.mem_cons, List.mem_singleton, List.not_mem_nil, or_false] at hcm
      omega
    exact I1.fpOk hle (I1.hok.fresh hle)
  obtain ⟨its, rv, p1, l1⟩ := Inv.sqG I1 hqx
  obtain ⟨its2, rv2, p2, l2⟩ := Inv.sqG I1 hqy
  refine call_zipG p1 p2 fun h' hz hTI hTO h1 h2 hsz hk => wpAny_pyIter_zip hz ?_
  have I2 : L2.Inv X pins σ H1 { s1 with heap := h' } := I1.kept (t' := s1.toks) hk
  exact ⟨s1.heap.objs.size + 4, [s1.heap.objs.size + 4, s1.heap.objs.size + 2, s1.heap.objs.size + 3, s1.heap.objs.size, s1.heap.objs.size + 1], _, _, H1, rfl, I2, turn_zipG b1 b2 (PySem.W.ktu_apart s1.heap.objs.size a b l1 l2), ⟨hz, hTI, ⟨_, _, hTO⟩, h1, h2⟩, fresh5, q⟩
end PX
set_option Elab.async false
set_option linter.all false
set_option maxRecDepth 100000
set_option maxHeartbeats 1000000
namespace PX
open PySem PySem.Spec PyProof.Rows L2 ZG
def lockS (v : PV) (S : Store) : Option (List PV × List (Nat × PV) × Store) := match v with
  | .ref i => match S[i]? with
    | some (.lst xs) => some (xs, [(i, .lst xs)], S.set i (.lck (.lst xs)))
    | some (.lck (.lst xs)) => some (xs, [], S)
    | _ => none
  | .lst xs => some (xs, [], S)
  | .tup xs => some (xs, [], S)
  | _ => none
def enumL : Int → List PV → List PV
  | _, [] => []
  | k, x :: xs => .tup [.int k, x] :: enumL (k + 1) xs
def zipL : List PV → List PV → List PV
  | x :: xs, y :: ys => .tup [x, y] :: zipL xs ys
  | _, _ => []
def rngL : Int → Nat → List PV
  | _, 0 => []
  | lo, n + 1 => .int lo :: rngL (lo + 1) n
def iSeq (a : SE) : SI := fun env S => (a env S).bind fun p S1 => match lockS p.2 S1 with
  | some z => .ok (z.1, z.2.1) z.2.2
  | none => .no
def iEnu (a : SE) : SI := fun env S => (a env S).bind fun p S1 => match lockS p.2 S1 with
  | some z => .ok (enumL 0 z.1, z.2.1) z.2.2
  | none => .no
def iZip (a b : SE) : SI := fun env S => (a env S).bind fun p S1 => (b env S1).bind fun q S2 => match lockS p.2 S2 with
  | some z => match lockS q.2 z.2.2 with
    | some y => .ok (zipL z.1 y.1, y.2.1 ++ z.2.1) y.2.2
    | none => .no
  | none => .no
def okRg (j : Int) : Bool := decide (-4611686018427387904 ≤ j) && decide (j < 4611686018427387904)
def iRg1 (a : SE) : SI := fun env S => (a env S).bind fun p S1 => match p.2 with
  | .int j => if okRg j then .ok (rngL 0 j.toNat, []) S1 else .no
  | _ => .no
def iRg2 (a b : SE) : SI := fun env S => (a env S).bind fun p S1 => (b env S1).bind fun q S2 => match p.2, q.2 with
  | .int i, .int j => if okRg i && okRg j then .ok (rngL i (j - i).toNat, []) S2 else .no
  | _, _ => .no
def Gh.lock (g : Gh) (a : Addr) (ho : HO) : Gh := ⟨g.L, upd g.pn a ho, fun b => if b = a then true else g.lk b⟩
section
variable {G : Gam} {n0 : Nat} {g : Gh} {F : Hp} {r : List Addr} {S : Store} {H : Hp}
theorem nd_inj {r : List Addr} (h : r.Nodup) {i j : Nat} {a : Addr} (e1 : r[i]? = some a) (e2 : r[j]? = some a) : i = j := by
  obtain ⟨h1, e1'⟩ := List.getElem?_eq_some_iff.mp e1
  obtain ⟨h2, e2'⟩ := List.getElem?_eq_some_iff.mp e2
  exact (List.getElem_inj h).mp (e1'.trans e2'.symm)
theorem HR.lock {i : Nat} {a : Addr} {xs : List PV} {us : List V} (h : HR G n0 g F r S H) (e1 : r[i]? = some a) (e2 : S[i]? = some (.lst xs)) (e3 : H a = some (.lst us)) : HR G n0 (g.lock a (.lst us)) F r (S.set i (.lck (.lst xs))) H := by
  have hi : i < S.length := (List.getElem?_eq_some_iff.mp e2).1
  have hF := h.off a (List.mem_of_getElem? e1)
  refine ⟨h.sub, h.nd, h.off, by rw [List.length_set]; exact h.len, by rw [List.length_set]; exact h.nle, h.lle, fun j oj b e4 e5 => ?_, fun b o e => ?_, fun j oj b e4 e5 => ?_, fun b o e el => ?_, ⟨fun p hp => let t := h.tab.t p hp; ⟨t.t, t.f, t.nr, by show upd g.pn _ _ p.1 = none; rw [upd_ne (t.ne e3 rfl)]; exact t.np⟩, h.tab.nf, tb_upd h.tab.np rfl⟩⟩
  · by_cases hj : i = j
    · subst hj
      rw [List.getElem?_set_self hi] at e4
      cases e4
      obtain ⟨ho, q1, q2⟩ := h.obj i _ b e2 e5
      exact ⟨ho, .mk (q1.nl rfl) rfl, q2⟩
    · rw [List.getElem?_set_ne hj] at e4
      exact h.obj j oj b e4 e5
  · by_cases hb : b = a
    · subst hb
      have e : upd g.pn b (.lst us) b = some o := e
      rw [upd_same] at e
      cases e
      refine ⟨e3, .inl hF, fun j hj => ?_⟩
      have := nd_inj h.nd e1 hj
      subst this
      exact ⟨_, List.getElem?_set_self hi⟩
    · have e : upd g.pn a (.lst us) b = some o := e
      rw [upd_ne hb] at e
      obtain ⟨q1, q2, q3⟩ := h.pin b o e
      refine ⟨q1, q2.imp (fun q => q) (fun q => ⟨q.1, by show (if b = a then true else g.lk b) = true; rw [if_neg hb]; exact q.2⟩), fun j hj => ?_⟩
      obtain ⟨ob, q⟩ := q3 j hj
      refine ⟨ob, ?_⟩
      rw [List.getElem?_set_ne (fun z => by subst z; rw [e1] at hj; cases hj; exact hb rfl)]
      exact q
  · show ∃ o, upd g.pn a (.lst us) b = some o
    by_cases hb : b = a
    · rw [hb, upd_same]; exact ⟨_, rfl⟩
    · rw [upd_ne hb]
      rw [List.getElem?_set_ne (fun z => by subst z; rw [e1] at e5; cases e5; exact hb rfl)] at e4
      exact h.lckd j oj b e4 e5
  · have e : upd g.pn a (.lst us) b = some o := e
    have el : (if b = a then true else g.lk b) = false := el
    by_cases hb : b = a
    · rw [if_pos hb] at el; cases el
    · rw [upd_ne hb] at e
      rw [if_neg hb] at el
      exact h.out b o e el
theorem HR.unlock {i : Nat} {a : Addr} {xs : List PV} {us : List V} (h : HR G n0 (g.lock a (.lst us)) F r S H) (hp : g.pn a = none) (e1 : r[i]? = some a) (k : RVs G F (lim n0 g.L r i) xs us) : HR G n0 g F r (S.set i (.lst xs)) H := by
  have hi : i < S.length := by rw [← h.len]; exact (List.getElem?_eq_some_iff.mp e1).1
  have ea : (g.lock a (.lst us)).pn a = some (.lst us) := by
    show upd g.pn a (.lst us) a = _
    rw [upd_same]
  have ne_of : ∀ b o, g.pn b = some o → b ≠ a := fun b o e z => by rw [z, hp] at e; cases e
  have pn_ne : ∀ b, b ≠ a → (g.lock a (.lst us)).pn b = g.pn b := fun b hb => by
    show upd g.pn a (.lst us) b = _
    rw [upd_ne hb]
  refine ⟨h.sub, h.nd, h.off, by rw [List.length_set]; exact h.len, by rw [List.length_set]; exact h.nle, h.lle, fun j oj b e4 e5 => ?_, fun b o e => ?_, fun j oj b e4 e5 => ?_, fun b o e el => ?_, ⟨fun p hp => let t := h.tab.t p hp; ⟨t.t, t.f, t.nr, by rw [← pn_ne p.1 (fun z => by have z2 := t.np; rw [z, ea] at z2; cases z2)]; exact t.np⟩, h.tab.nf, fun b o e => h.tab.np b o (Le.upd hp b o e)⟩⟩
  · by_cases hj : i = j
    · subst hj
      rw [List.getElem?_set_self hi] at e4
      cases e4
      rw [e1] at e5
      cases e5
      exact ⟨_, .mk (h.pin a _ ea).1 rfl, ⟨us, rfl, k⟩⟩
    · rw [List.getElem?_set_ne hj] at e4
      exact h.obj j oj b e4 e5
  · have hb := ne_of b o e
    obtain ⟨q1, q2, q3⟩ := h.pin b o (by rw [pn_ne b hb]; exact e)
    refine ⟨q1, q2.imp (fun q => q) (fun q => ⟨q.1, by have z : (if b = a then true else g.lk b) = true := q.2; rw [if_neg hb] at z; exact z⟩), fun j hj => ?_⟩
    obtain ⟨ob, q⟩ := q3 j hj
    refine ⟨ob, ?_⟩
    rw [List.getElem?_set_ne (fun z => by subst z; rw [e1] at hj; cases hj; exact hb rfl)]
    exact q
  · by_cases hj : i = j
    · subst hj
      rw [List.getElem?_set_self hi] at e4
      cases e4
    · rw [List.getElem?_set_ne hj] at e4
      have hb : b ≠ a := fun z => by subst z; exact hj (nd_inj h.nd e1 e5)
      obtain ⟨o, q⟩ := h.lckd j oj b e4 e5
      exact ⟨o, by rw [← pn_ne b hb]; exact q⟩
  · have hb := ne_of b o e
    refine h.out b o (by rw [pn_ne b hb]; exact e) ?_
    show (if b = a then true else g.lk b) = false
    rw [if_neg hb]
    exact el
structure Held (G : Gam) (n0 : Nat) (g g' : Gh) (F : Hp) (r : List Addr) (S' : Store) (H : Hp) (xs : List PV) (ls : List (Nat × PV)) (b : Bool) (a : Addr) (us : List V) : Prop where
  hr : HR G n0 g' F r S' H
  rv : RVs G F r xs us
  sq : ∀ g2, GhLe g' g2 → ∀ F2 r2 S2 H2, HR G n0 g2 F2 r2 S2 H2 → Ext F F2 r r2 → SqG b G.K H2 a us
  le : GhLe g g'
  pn : GhPin g g'
  un : ∀ rp, g.has rp → ∀ F2 r2 S2 H2, HR G n0 (g'.rep rp) F2 r2 S2 H2 → Ext F F2 r r2 → HR G n0 (g.rep rp) F2 r2 (unlock ls S2) H2
theorem lock_ok {v : PV} {u : V} {xs : List PV} {ls : List (Nat × PV)} {S' : Store} (h : HR G n0 g F r S H) (q : RV G F r v u) (e : lockS v S = some (xs, ls, S')) : ∃ g' b a us, u = .ref a ∧ Held G n0 g g' F r S' H xs ls b a us := by
  unfold lockS at e
  split at e
  · rename_i i
    obtain ⟨a, e1, rfl⟩ := q
    split at e
    · rename_i ys es
      cases e
      obtain ⟨ho, q1, q2⟩ := h.obj i _ a es e1
      obtain ⟨us, rfl, k⟩ := q2
      have q1 := q1.nd rfl
      refine ⟨g.lock a (.lst us), false, a, us, rfl, h.lock e1 es q1, RVs.mono (.refl F) (at_of (lim_le n0 g.L r i)) _ _ k, fun g2 hg F2 r2 S2 H2 h2 x => ?_, fun b o eb el => ?_, fun b o eb el => ?_, fun rp hrp F2 r2 S2 H2 h2 x => ?_⟩
      · have ea : (g.lock a (.lst us)).pn a = some (.lst us) := by
          show upd g.pn a (.lst us) a = _
          rw [upd_same]
        exact (show SqL G.K H2 a us from .inl (.inl (h2.pin a _ (hg a _ ea (by show (if a = a then true else g.lk a) = true; rw [if_pos rfl])).1).1))
      · have hb : b ≠ a := fun z => by rw [z, h.nopin e1 es rfl] at eb; cases eb
        refine ⟨?_, ?_⟩
        · show upd g.pn a (.lst us) b = _
          rw [upd_ne hb]
          exact eb
        · show (if b = a then true else g.lk b) = true
          rw [if_neg hb]
          exact el
      · have hb : b ≠ a := fun z => by rw [z, h.nopin e1 es rfl] at eb; cases eb
        refine ⟨?_, ?_⟩
        · show upd g.pn a (.lst us) b = _
          rw [upd_ne hb]
          exact eb
        · show (if b = a then true else g.lk b) = false
          rw [if_neg hb]
          exact el
      · have hpa : (g.rep rp).pn a = none := by
          cases rp with
          | none => exact h.nopin e1 es rfl
          | some p =>
            obtain ⟨⟨o, ep⟩, el⟩ := hrp p rfl
            have hne : a ≠ p.1 := fun z => h.out p.1 o ep el (z ▸ List.mem_of_getElem? e1)
            show upd g.pn p.1 p.2 a = none
            rw [upd_ne hne]
            exact h.nopin e1 es rfl
        have eg : (g.lock a (.lst us)).rep rp = (g.rep rp).lock a (.lst us) := by
          cases rp with
          | none => rfl
          | some p =>
            obtain ⟨⟨o, ep⟩, el⟩ := hrp p rfl
            have hne : a ≠ p.1 := fun z => h.out p.1 o ep el (z ▸ List.mem_of_getElem? e1)
            show (⟨g.L, upd (upd g.pn a (.lst us)) p.1 p.2, fun b => if b = a then true else g.lk b⟩ : Gh) = ⟨g.L, upd (upd g.pn p.1 p.2) a (.lst us), fun b => if b = a then true else g.lk b⟩
            congr 1
            funext b
            by_cases hb : b = a
            · rw [hb, upd_ne hne, upd_same, upd_same]
            · by_cases hb2 : b = p.1
              · rw [hb2, upd_same, upd_ne (Ne.symm hne), upd_same]
              · rw [upd_ne hb2, upd_ne hb, upd_ne hb, upd_ne hb2]
        rw [eg] at h2
        have eL : (g.rep rp).L = g.L := by cases rp <;> rfl
        exact h2.unlock hpa (x.at_ i a e1) (by rw [eL]; exact RVs.mono x.1 (lim_mono x.2 i) _ _ k)
    · rename_i ys es
      cases e
      obtain ⟨ho, q1, q2⟩ := h.obj i _ a es e1
      obtain ⟨us, rfl, k⟩ := q2
      have q1 := q1.nd rfl
      obtain ⟨o, ep⟩ := h.lckd i _ a es e1
      have eo : o = .lst us := by
        have := (h.pin a o ep).1
        rw [q1] at this
        exact (Option.some.inj this).symm
      subst eo
      have elk : g.lk a = true := by
        cases z : g.lk a with
        | true => rfl
        | false => exact absurd (List.mem_of_getElem? e1) (h.out a _ ep z)
      exact ⟨g, false, a, us, rfl, h, RVs.mono (.refl F) (at_of (lim_le n0 g.L r i)) _ _ k, fun g2 hg F2 r2 S2 H2 h2 x => (show SqL G.K H2 a us from .inl (.inl (h2.pin a _ (hg a _ ep elk).1).1)), .refl g, .refl g, fun _ _ F2 r2 S2 H2 h2 x => h2⟩
    · cases e
  · cases e
    obtain ⟨a, us, rfl, k1, k2⟩ := q
    exact ⟨g, false, a, us, rfl, h, k2, fun g2 hg F2 r2 S2 H2 h2 x => (show SqL G.K H2 a us from .inl (h2.sub.rd (x.1.rd k1))), .refl g, .refl g, fun _ _ F2 r2 S2 H2 h2 x => h2⟩
  · cases e
    obtain ⟨a, us, rfl, k1, k2⟩ := q
    exact ⟨g, true, a, us, rfl, h, k2, fun g2 hg F2 r2 S2 H2 h2 x => (show SqT G.K H2 a us from h2.sub.tp (x.1 _ _ k1)), .refl g, .refl g, fun _ _ F2 r2 S2 H2 h2 x => h2⟩
  · cases e
theorem enumL_get : ∀ {xs : List PV} {k : Int} {i : Nat} {t : PV}, (enumL k xs)[i]? = some t → ∃ x, xs[i]? = some x ∧ t = .tup [.int (k + i), x]
  | [], k, i, t, e => by simp [enumL] at e
  | x :: xs, k, 0, t, e => by
    simp [enumL] at e
    exact ⟨x, by simp, by rw [← e]; simp⟩
  | x :: xs, k, i + 1, t, e => by
    have e : (enumL (k + 1) xs)[i]? = some t := by simpa [enumL] using e
    obtain ⟨y, h1, h2⟩ := enumL_get e
    exact ⟨y, by simpa using h1, by rw [h2]; congr 3; omega⟩
theorem enumL_len : ∀ (xs : List PV) (k : Int), (enumL k xs).length = xs.length
  | [], _ => rfl
  | x :: xs, k => by
    show (enumL (k + 1) xs).length + 1 = xs.length + 1
    rw [enumL_len xs]
theorem zipL_get : ∀ {xs ys : List PV} {i : Nat} {t : PV}, (zipL xs ys)[i]? = some t → ∃ x y, xs[i]? = some x ∧ ys[i]? = some y ∧ t = .tup [x, y]
  | [], ys, i, t, e => by simp [zipL] at e
  | x :: xs, [], i, t, e => by simp [zipL] at e
  | x :: xs, y :: ys, 0, t, e => by
    simp [zipL] at e
    exact ⟨x, y, by simp, by simp, e.symm⟩
  | x :: xs, y :: ys, i + 1, t, e => by
    have e : (zipL xs ys)[i]? = some t := by simpa [zipL] using e
    obtain ⟨x', y', h1, h2, h3⟩ := zipL_get e
    exact ⟨x', y', by simpa using h1, by simpa using h2, h3⟩
theorem zipL_len : ∀ (xs ys : List PV) (i : Nat), (zipL xs ys).length ≤ i → xs.length ≤ i ∨ ys.length ≤ i
  | [], ys, i, h => .inl (Nat.zero_le _)
  | x :: xs, [], i, h => .inr (Nat.zero_le _)
  | x :: xs, y :: ys, 0, h => absurd h (by simp [zipL])
  | x :: xs, y :: ys, i + 1, h => by
    have h : (zipL xs ys).length + 1 ≤ i + 1 := h
    rcases zipL_len xs ys i (by omega) with q | q
    · exact .inl (Nat.succ_le_succ q)
    · exact .inr (Nat.succ_le_succ q)
theorem rngL_get : ∀ {n : Nat} {lo : Int} {i : Nat} {t : PV}, (rngL lo n)[i]? = some t → i < n ∧ t = .int (lo + i)
  | 0, lo, i, t, e => by simp [rngL] at e
  | n + 1, lo, 0, t, e => by
    simp [rngL] at e
    exact ⟨Nat.succ_pos n, by rw [← e]; simp⟩
  | n + 1, lo, i + 1, t, e => by
    have e : (rngL (lo + 1) n)[i]? = some t := by simpa [rngL] using e
    obtain ⟨h1, h2⟩ := rngL_get e
    exact ⟨Nat.succ_lt_succ h1, by rw [h2]; congr 1; omega⟩
theorem rngL_len : ∀ (n : Nat) (lo : Int), (rngL lo n).length = n
  | 0, _ => rfl
  | n + 1, lo => by
    show (rngL (lo + 1) n).length + 1 = n + 1
    rw [rngL_len n]
variable {X : Cx}
theorem cnI {env : Env} {σ : L2.St} {T : It → Hp → Prop} : Cn fun z => PoI G n0 g F r env σ z T := ⟨fun h => h, fun _ _ _ h => h⟩
variable {tg e e2 : Expr} {fe fe2 : SE} {p pos tpos : Pos} {elts : List Expr} {kk : Nat}
theorem si_seq (hK : G.K = X.K) (he : PE X e (rdE G n0 fe)) : PI X tg e (rdI G n0 (iSeq fe)) := by
  refine piI (pi_seqG (toV he)) fun σ H T ⟨F, r, env, S, g, s, h⟩ => ?_
  refine stV s cnI h fun p S1 F1 r1 H1 u x1 s1 q1 h1 => ?_
  cases el : lockS p.2 S1 with
  | none => rw [el] at h1; exact h1.elim
  | some z =>
    obtain ⟨xs, ls, S2⟩ := z
    rw [el] at h1
    obtain ⟨g', b, a, us, rfl, hd⟩ := lock_ok s1.hr q1 el
    refine ⟨a, b, us, rfl, hK ▸ hd.sq g' (.refl g') F1 r1 S2 H1 hd.hr (.refl _ _), h1 F1 r1 H1 _ g' x1 ⟨hd.hr, s1.sl, s1.vr⟩ (fun g2 hg2 F2 r2 S3 H2 h2 x2 => ?_) hd.pn hd.un⟩
    have sq := hd.sq g2 hg2 F2 r2 S3 H2 h2 x2
    rw [← hK]
    cases b with
    | true =>
      refine ⟨fun i x ex => ?_, fun i hi => ⟨us, sq, by rw [← RVs.length hd.rv]; exact hi⟩⟩
      obtain ⟨y, e1, q2⟩ := RVs.get hd.rv ex
      refine ⟨⟨us, y, sq, e1⟩, fun v H3 hy => ?_⟩
      obtain ⟨rfl, hv⟩ := hy
      have := hv us sq
      rw [e1] at this
      cases this
      exact ⟨F2, .refl _ _, h2, q2.ext x2⟩
    | false =>
      refine ⟨fun i x ex => ?_, fun i hi => ⟨us, sq, by rw [← RVs.length hd.rv]; exact hi⟩⟩
      obtain ⟨y, e1, q2⟩ := RVs.get hd.rv ex
      refine ⟨⟨us, y, sq, e1⟩, fun v H3 hy => ?_⟩
      obtain ⟨rfl, hv⟩ := hy
      have := hv us sq
      rw [e1] at this
      cases this
      exact ⟨F2, .refl _ _, h2, q2.ext x2⟩
theorem si_enum (hK : G.K = X.K) (hg : Gl X "enumerate") (hm : X.mg "enumerate" = none) (he : PE X e (rdE G n0 fe)) (hs : starEach [e] X.env = [(false, eval e X.env)] := by rfl) :
    PI X (.Tuple elts kk tpos) (.Call (.Name "enumerate" p) [e] [] pos) (rdI G n0 (iEnu fe)) := by
  refine piI (pi_enumG hg hm (pa_cons (toV he) pa_nil hs) hs) fun σ H T ⟨F, r, env, S, g, s, h⟩ => ?_
  refine stV s cnI h fun p S1 F1 r1 H1 u x1 s1 q1 h1 => ?_
  cases el : lockS p.2 S1 with
  | none => rw [el] at h1; exact h1.elim
  | some z =>
    obtain ⟨xs, ls, S2⟩ := z
    rw [el] at h1
    obtain ⟨g', b, a, us, rfl, hd⟩ := lock_ok s1.hr q1 el
    refine ⟨a, b, us, rfl, hK ▸ hd.sq g' (.refl g') F1 r1 S2 H1 hd.hr (.refl _ _), h1 F1 r1 H1 _ g' x1 ⟨hd.hr, s1.sl, s1.vr⟩ (fun g2 hg2 F2 r2 S3 H2 h2 x2 => ?_) hd.pn hd.un⟩
    have sq := hd.sq g2 hg2 F2 r2 S3 H2 h2 x2
    rw [← hK]
    refine ⟨fun i x ex => ?_, fun i hi => ⟨us, sq, by rw [← RVs.length hd.rv, ← enumL_len xs 0]; exact hi⟩⟩
    obtain ⟨x', ex', rfl⟩ := enumL_get ex
    obtain ⟨y, e1, q2⟩ := RVs.get hd.rv ex'
    refine ⟨⟨us, y, sq, e1⟩, fun v H3 hy => ?_⟩
    obtain ⟨T', y', rfl, hT, rfl, hv⟩ := hy
    have := hv us sq
    rw [e1] at this
    cases this
    obtain ⟨F4, x4, h4, k4⟩ := new_tup (xs := [.int (0 + i), x']) (us := [.int (i : Nat), y]) h2 hT ⟨_, _, rfl, by rw [Int.zero_add]; exact rfl, _, [], rfl, q2.ext x2, rfl⟩
    exact ⟨F4, x4, h4, k4⟩
theorem si_zip (hK : G.K = X.K) (hg : Gl X "zip") (hm : X.mg "zip" = none) (he : PE X e (rdE G n0 fe)) (he2 : PE X e2 (rdE G n0 fe2)) (hs : starEach [e, e2] X.env = (false, eval e X.env) :: starEach [e2] X.env := by rfl) (hs2 : starEach [e2] X.env = (false, eval e2 X.env) :: starEach [] X.env := by rfl)
    (hpl : (backTo pos (starEach [e2] X.env)).any (·.1) = false := by rfl) :
    PI X (.Tuple elts kk tpos) (.Call (.Name "zip" p) [e, e2] [] pos) (rdI G n0 (iZip fe fe2)) := by
  refine piI (pi_zipG hg hm (pa_cons (toV he) (pa_cons (toV he2) pa_nil hs2) hs) hs hpl) fun σ H T ⟨F, r, env, S, g, s, h⟩ => ?_
  refine stV s cnI h fun p S1 F1 r1 H1 u x1 s1 q1 h1 => ?_
  refine stV s1 cnI h1 fun q S2 F2 r2 H2 w x2 s2 q2 h2 => ?_
  cases el : lockS p.2 S2 with
  | none => rw [el] at h2; exact h2.elim
  | some z =>
    obtain ⟨xs, ls, S3⟩ := z
    simp only [el] at h2
    cases el2 : lockS q.2 S3 with
    | none => rw [el2] at h2; exact h2.elim
    | some z2 =>
      obtain ⟨ys, ls2, S4⟩ := z2
      simp only [el2] at h2
      obtain ⟨g1, b1, a1, us1, rfl, hd1⟩ := lock_ok s2.hr (q1.ext x2) el
      obtain ⟨g2, b2, a2, us2, rfl, hd2⟩ := lock_ok hd1.hr q2 el2
      have hpn : GhPin g g2 := fun a o e l => hd2.pn a o (hd1.pn a o e l).1 (hd1.pn a o e l).2
      have hun : ∀ rp, g.has rp → ∀ F5 r5 S5 H5, HR G n0 (g2.rep rp) F5 r5 S5 H5 → Ext F2 F5 r2 r5 → HR G n0 (g.rep rp) F5 r5 (unlock (ls2 ++ ls) S5) H5 := fun rp hrp F5 r5 S5 H5 h5 x5 => by
        have e : ∀ (l1 l2 : List (Nat × PV)) (S : Store), unlock (l1 ++ l2) S = unlock l2 (unlock l1 S) := by
          intro l1
          induction l1 with
          | nil => intro l2 S; rfl
          | cons c l1 ih => intro l2 S; exact ih l2 _
        rw [e]
        exact hd1.un rp hrp F5 r5 _ H5 (hd2.un rp (hd1.pn.has hrp) F5 r5 S5 H5 h5 x5) x5
      refine ⟨a1, a2, b1, b2, us1, us2, rfl, hK ▸ hd1.sq g2 hd2.le F2 r2 S4 H2 hd2.hr (.refl _ _), hK ▸ hd2.sq g2 (.refl g2) F2 r2 S4 H2 hd2.hr (.refl _ _), h2 F2 r2 H2 _ g2 (x1.trans x2) ⟨hd2.hr, s2.sl, s2.vr⟩ (fun g5 hg5 F5 r5 S5 H5 h5 x5 => ?_) hpn hun⟩
      have s1' := hd1.sq g5 (hd2.le.trans hg5) F5 r5 S5 H5 h5 x5
      have s2' := hd2.sq g5 hg5 F5 r5 S5 H5 h5 x5
      rw [← hK]
      refine ⟨fun i x ex => ?_, fun i hi => ⟨us1, us2, s1', s2', by rw [← RVs.length hd1.rv, ← RVs.length hd2.rv]; exact zipL_len xs ys i hi⟩⟩
      obtain ⟨x', y', ex', ey', rfl⟩ := zipL_get ex
      obtain ⟨u1, e1, k1⟩ := RVs.get hd1.rv ex'
      obtain ⟨u2, e2, k2⟩ := RVs.get hd2.rv ey'
      refine ⟨⟨us1, us2, u1, u2, s1', s2', e1, e2⟩, fun v H3 hy => ?_⟩
      obtain ⟨T', y1, y2, rfl, hT, rfl, hv1, hv2⟩ := hy
      have := hv1 us1 s1'
      rw [e1] at this
      cases this
      have := hv2 us2 s2'
      rw [e2] at this
      cases this
      exact new_tup (xs := [x', y']) (us := [u1, u2]) h5 hT ⟨_, _, rfl, k1.ext x5, _, [], rfl, k2.ext x5, rfl⟩
theorem its_rng {g' : Gh} {lo : Int} {n : Nat} : Its G n0 g' F r (Itr lo n) (rngL lo n) := fun g2 hg2 F2 r2 S2 H2 h2 x2 => by
  refine ⟨fun i x ex => ?_, fun i hi => by rw [rngL_len] at hi; exact hi⟩
  obtain ⟨h1, rfl⟩ := rngL_get ex
  refine ⟨h1, fun v H3 hy => ?_⟩
  obtain ⟨rfl, rfl⟩ := hy
  exact ⟨F2, .refl _ _, h2, rfl⟩
theorem okRg_ok {j : Int} (h : okRg j = true) : -(2 ^ 62) ≤ j ∧ j < 2 ^ 62 := by
  unfold okRg at h
  rw [Bool.and_eq_true, decide_eq_true_eq, decide_eq_true_eq] at h
  omega
theorem si_rng1 (hg : Gl X "range") (hm : X.mg "range" = none) (he : PE X e (rdE G n0 fe)) (hs : starEach [e] X.env = [(false, eval e X.env)] := by rfl) : PI X tg (.Call (.Name "range" p) [e] [] pos) (rdI G n0 (iRg1 fe)) := by
  refine piI (pi_range1 hg hm (pa_cons (toV he) pa_nil hs) hs) fun σ H T ⟨F, r, env, S, g, s, h⟩ => ?_
  refine stV s cnI h fun p S1 F1 r1 H1 u x1 s1 q1 h1 => ?_
  obtain ⟨b, v⟩ := p
  cases v with
  | int j =>
    simp only at h1
    split at h1
    · rename_i hj
      obtain ⟨k1, k2⟩ := okRg_ok hj
      exact ⟨j, by rw [show u = V.int j from q1], k1, k2, h1 F1 r1 H1 _ g x1 s1 its_rng (.refl g) (fun _ _ _ _ _ _ h _ => h)⟩
    · exact h1.elim
  | _ => exact h1.elim
theorem si_rng2 (hg : Gl X "range") (hm : X.mg "range" = none) (he : PE X e (rdE G n0 fe)) (he2 : PE X e2 (rdE G n0 fe2)) (hs : starEach [e, e2] X.env = [(false, eval e X.env), (false, eval e2 X.env)] := by rfl) (hs2 : starEach [e2] X.env = [(false, eval e2 X.env)] := by rfl) :
    PI X tg (.Call (.Name "range" p) [e, e2] [] pos) (rdI G n0 (iRg2 fe fe2)) := by
  refine piI (pi_range2 hg hm (pa_cons (toV he) (pa_cons (toV he2) pa_nil hs2) (hs.trans (by rw [hs2]))) hs hs2) fun σ H T ⟨F, r, env, S, g, s, h⟩ => ?_
  refine stV s cnI h fun p S1 F1 r1 H1 u x1 s1 q1 h1 => ?_
  refine stV s1 cnI h1 fun q S2 F2 r2 H2 w x2 s2 q2 h2 => ?_
  obtain ⟨b, v⟩ := p
  obtain ⟨b', v'⟩ := q
  cases v with
  | int i =>
    cases v' with
    | int j =>
      simp only at h2
      split at h2
      · rename_i hj
        rw [Bool.and_eq_true] at hj
        obtain ⟨k1, k2⟩ := okRg_ok hj.1
        obtain ⟨k3, k4⟩ := okRg_ok hj.2
        exact ⟨i, j, by rw [show u = V.int i from q1, show w = V.int j from q2], ⟨k1, k2, k3, k4⟩, h2 F2 r2 H2 _ g (x1.trans x2) s2 its_rng (.refl g) (fun _ _ _ _ _ _ h _ => h)⟩
      · exact h2.elim
    | _ => exact h2.elim
  | _ => exact h2.elim
end
end PX
set_option Elab.async false
set_option linter.all false
set_option maxRecDepth 100000
set_option maxHeartbeats 1000000
namespace PX
open PySem PySem.Spec PyProof.Rows L2 ZG
def wipeE (env : Env) : List Nat → Env
  | [] => env
  | v :: vs => (wipeE env vs).set v none
def compR (t : Tg) (c : ST) (e : SE) : List PV → Env → List PV → Store → R (List PV)
  | [], _, acc, S => .ok acc S
  | x :: xs, env, acc, S => match t x env S with
    | none => .no
    | some env' => (c env' S).bind fun b S1 => if b = true then (e env' S1).bind fun q S2 => if small acc.length then compR t c e xs env (acc ++ [q.2]) S2 else .no
      else compR t c e xs env acc S1
def eLc (i : SI) (t : Tg) (vs : List Nat) (c : ST) (e : SE) : SE := fun env S => (i env S).bind fun p S1 => (compR t c e p.1 (wipeE env vs) [] S1).bind fun acc S2 => .ok (true, .lst acc) (unlock p.2 S2)
def tYesP : ST := fun _ S => .ok true S
theorem wipe_get (σ : L2.St) (i : Nat) : ∀ vs : List Nat, (L2.wipe σ vs)[i]? = if i ∈ vs ∧ i < σ.length then some none else σ[i]?
  | [] => by simp [L2.wipe]
  | v :: vs => by
    unfold L2.wipe
    by_cases hv : v = i
    · subst hv
      by_cases hl : v < σ.length
      · rw [List.getElem?_set_self (by rw [wipe_length]; exact hl), if_pos ⟨by simp, hl⟩]
      · rw [if_neg (fun z => hl z.2), List.getElem?_eq_none (by rw [List.length_set, wipe_length]; omega), List.getElem?_eq_none (by omega)]
    · rw [List.getElem?_set_ne hv, wipe_get σ i vs]
      have : (i ∈ v :: vs) ↔ i ∈ vs := by
        rw [List.mem_cons]
        exact ⟨fun h => h.resolve_left (fun z => hv z.symm), .inr⟩
      simp only [this]
theorem wipe_idem (σ : L2.St) (vs : List Nat) : L2.wipe (L2.wipe σ vs) vs = L2.wipe σ vs := by
  refine List.ext_getElem? fun i => ?_
  rw [wipe_get, wipe_length, wipe_get]
  split <;> rfl
theorem wipe_set {σ : L2.St} {vs : List Nat} {i : Nat} {x : Option V} (h : i ∈ vs) : L2.wipe (σ.set i x) vs = L2.wipe σ vs := by
  refine List.ext_getElem? fun j => ?_
  rw [wipe_get, wipe_get, List.length_set]
  by_cases hj : i = j
  · subst hj
    by_cases hl : i < σ.length
    · rw [if_pos ⟨h, hl⟩, if_pos ⟨h, hl⟩]
    · rw [if_neg (fun z => hl z.2), if_neg (fun z => hl z.2), List.getElem?_eq_none (by rw [List.length_set]; omega), List.getElem?_eq_none (by omega)]
  · rw [List.getElem?_set_ne hj]
theorem wipeE_some {env : Env} {i : Nat} {v : PV} : ∀ {vs : List Nat}, (wipeE env vs)[i]? = some (some v) → env[i]? = some (some v) ∧ i ∉ vs
  | [], e => ⟨e, by simp⟩
  | w :: vs, e => by
    unfold wipeE at e
    by_cases hw : w = i
    · subst hw
      rw [List.getElem?_set] at e
      rw [if_pos rfl] at e
      split at e <;> cases e
    · rw [List.getElem?_set_ne hw] at e
      obtain ⟨h1, h2⟩ := wipeE_some e
      exact ⟨h1, by rw [List.mem_cons]; rintro (z | z); exact hw z.symm; exact h2 z⟩
theorem wipeE_len (env : Env) : ∀ vs : List Nat, (wipeE env vs).length = env.length
  | [] => rfl
  | v :: vs => by
    unfold wipeE
    rw [List.length_set, wipeE_len env vs]
section
variable {G : Gam} {n0 : Nat} {g : Gh} {F : Hp} {r : List Addr} {S : Store} {H : Hp}
theorem Sg.wipe {env : Env} {σ : L2.St} (s : Sg G n0 g F r env σ S H) (vs : List Nat) : Sg G n0 g F r (wipeE env vs) (L2.wipe σ vs) S H := by
  refine ⟨s.hr, by rw [wipeE_len, wipe_length, s.sl], fun i v e => ?_⟩
  obtain ⟨h1, h2⟩ := wipeE_some e
  obtain ⟨u, e1, q⟩ := s.vr i v h1
  exact ⟨u, by rw [wipe_get, if_neg (fun z => h2 z.1)]; exact e1, q⟩
def TgB (G : Gam) (vs : List Nat) (t : Tg) (gg : TG) : Prop := ∀ n0 g F r env σ S H v u env' w0 (Q : L2.St → Hp → Prop), L2.wipe σ vs = w0 → Sg G n0 g F r env σ S H → RV G F r v u → t v env S = some env' → (∀ σ', L2.wipe σ' vs = w0 → Sg G n0 g F r env' σ' S H → Q σ' H) → gg u σ H Q
def TgsB (G : Gam) (vs : List Nat) (ts : List Tg) (gs : TGs) : Prop := ∀ n0 g F r env σ S H xs us env' w0 (Q : L2.St → Hp → Prop), L2.wipe σ vs = w0 → Sg G n0 g F r env σ S H → RVs G F r xs us → gTps ts xs env S = some env' → (∀ σ', L2.wipe σ' vs = w0 → Sg G n0 g F r env' σ' S H → Q σ' H) → gs us σ H Q
theorem tb_nm {vs : List Nat} (i : Nat) (h : i ∈ vs) : TgB G vs (gNm i) (gName i) := fun n0 g F r env σ S H v u env' w0 Q hw s q e k => by
  cases e
  exact k _ (by rw [wipe_set h]; exact hw) (s.set q)
theorem tbs_nil {vs : List Nat} : TgsB G vs [] gNil := fun n0 g F r env σ S H xs us env' w0 Q hw s q e k => by
  cases xs with
  | nil =>
    cases e
    exact ⟨q, k σ hw s⟩
  | cons v xs => cases e
theorem tbs_cons {vs : List Nat} {t : Tg} {ts : List Tg} {gg : TG} {gs : TGs} (h1 : TgB G vs t gg) (h2 : TgsB G vs ts gs) : TgsB G vs (t :: ts) (gCons gg gs) := fun n0 g F r env σ S H xs us env' w0 Q hw s q e k => by
  cases xs with
  | nil => cases e
  | cons v xs =>
    obtain ⟨u, ur, rfl, q1, q2⟩ := q
    have e : (match t v env S with
      | some env' => gTps ts xs env' S
      | none => none) = some env' := e
    cases e1 : t v env S with
    | none => rw [e1] at e; cases e
    | some env1 =>
      rw [e1] at e
      exact ⟨u, ur, rfl, h1 n0 g F r env σ S H v u env1 w0 _ hw s q1 e1 fun σ' hw' s' => h2 n0 g F r env1 σ' S H xs ur env' w0 Q hw' s' q2 e k⟩
theorem tb_tp {vs : List Nat} {ts : List Tg} {gs : TGs} {n : Nat} (h : TgsB G vs ts gs) (hn : ts.length = n) : TgB G vs (gTp ts) (gTup G.K n gs) := fun n0 g F r env σ S H v u env' w0 Q hw s q e k => by
  unfold gTp at e
  split at e
  · rename_i xs e'
    obtain ⟨a, us, rfl, h1, h2⟩ := view_tup s.hr q e'
    exact ⟨a, us, rfl, h1, by rw [← RVs.length h2, gTps_len e, hn], h n0 g F r env σ S H xs us env' w0 Q hw s h2 e k⟩
  · cases e
def Gh.pin (g : Gh) (a : Addr) (ho : HO) : Gh := ⟨g.L, upd g.pn a ho, fun b => if b = a then false else g.lk b⟩
theorem HR.pinNew {a : Addr} {ho : HO} (h : HR G n0 g F r S H) (ha : H a = none) (hb : isTk ho = false := by rfl) : HR G n0 (g.pin a ho) F r S (upd H a ho) := by
  have hF := h.noF ha
  have hr := h.nor ha
  have h1 := h.heap (H' := upd H a ho) fun b o e => by rw [upd_ne (ne_of_none e ha)]; exact e
  refine ⟨h1.sub, h.nd, h.off, h.len, h.nle, h.lle, h1.obj, fun b o e => ?_, fun i ob b e1 e2 => ?_, fun b o e el hb => ?_, ⟨fun p hp => let t := h1.tab.t p hp; ⟨t.t, t.f, t.nr, by show upd g.pn a ho p.1 = none; rw [upd_ne (fun z => by obtain ⟨ps, q1, _⟩ := (h.tab.t p hp).t; rw [z, ha] at q1; cases q1)]; exact t.np⟩, h.tab.nf, tb_upd h.tab.np hb⟩⟩
  · by_cases hb : b = a
    · subst hb
      have e : upd g.pn b ho b = some o := e
      rw [upd_same] at e
      cases e
      exact ⟨upd_same, .inl hF, fun i hi => absurd (List.mem_of_getElem? hi) hr⟩
    · have e : upd g.pn a ho b = some o := e
      rw [upd_ne hb] at e
      obtain ⟨q1, q2, q3⟩ := h1.pin b o e
      exact ⟨q1, q2.imp (fun q => q) (fun q => ⟨q.1, by show (if b = a then false else g.lk b) = true; rw [if_neg hb]; exact q.2⟩), q3⟩
  · show ∃ o, upd g.pn a ho b = some o
    by_cases hb : b = a
    · rw [hb, upd_same]; exact ⟨_, rfl⟩
    · rw [upd_ne hb]; exact h.lckd i ob b e1 e2
  · by_cases hb' : b = a
    · subst hb'; exact hr hb
    · have e : upd g.pn a ho b = some o := e
      rw [upd_ne hb'] at e
      have el : (if b = a then false else g.lk b) = false := el
      rw [if_neg hb'] at el
      exact h.out b o e el hb
theorem pin_at {a : Addr} {ho : HO} : (g.pin a ho).pn a = some ho := by
  show upd g.pn a ho a = _
  rw [upd_same]
theorem pin_ne {a b : Addr} {ho : HO} (hb : b ≠ a) : (g.pin a ho).pn b = g.pn b := by
  show upd g.pn a ho b = _
  rw [upd_ne hb]
theorem pin_le {a : Addr} {ho : HO} (hp : g.pn a = none) : GhLe g (g.pin a ho) := fun b o e l => by
  have hb : b ≠ a := fun z => by rw [z, hp] at e; cases e
  refine ⟨by rw [pin_ne hb]; exact e, ?_⟩
  show (if b = a then false else g.lk b) = true
  rw [if_neg hb]
  exact l
theorem pin_out {a : Addr} {ho : HO} (h : HR G n0 (g.pin a ho) F r S H) : a ∉ r := h.out a ho pin_at (by show (if a = a then false else g.lk a) = false; rw [if_pos rfl])
theorem HR.pinSet {a : Addr} {ho ho' : HO} (h : HR G n0 (g.pin a ho) F r S H) (hz : isFz ho = false := by rfl) (hb : isTb ho = false := by rfl) (hb' : isTk ho' = false := by rfl) : HR G n0 (g.pin a ho') F r S (upd H a ho') := by
  have hF : F a = none := noFz (h.pin a ho pin_at).2.1 hz
  have hr := pin_out h
  refine ⟨fun b o e => ?_, h.nd, h.off, h.len, h.nle, h.lle, fun i ob b e1 e2 => ?_, fun b o e => ?_, fun i ob b e1 e2 => ?_, fun b o e el hb => ?_, ⟨fun p hp => let t := h.tab.t p hp; ⟨tabS_upd t.t (h.pin a _ pin_at).1 hb, t.f, t.nr, by have z2 := t.np; have hn : p.1 ≠ a := fun z => (by rw [z, pin_at] at z2; cases z2); rw [pin_ne hn] at z2 ⊢; exact z2⟩, h.tab.nf, fun b o e => (by
    by_cases q : b = a
    · subst q
      rw [pin_at] at e
      cases e
      exact hb'
    · rw [pin_ne q] at e
      exact h.tab.np b o (by rw [pin_ne q]; exact e))⟩⟩
  · rw [upd_ne (fun z => by rw [z, hF] at e; cases e)]
    exact h.sub b o e
  · obtain ⟨ho2, q1, q2⟩ := h.obj i ob b e1 e2
    exact ⟨ho2, q1.upd (fun z => hr (by rw [← z]; exact List.mem_of_getElem? e2)), q2⟩
  · by_cases hb : b = a
    · subst hb
      rw [pin_at] at e
      cases e
      exact ⟨upd_same, .inl hF, fun i hi => absurd (List.mem_of_getElem? hi) hr⟩
    · rw [pin_ne hb] at e
      obtain ⟨q1, q2, q3⟩ := h.pin b o (by rw [pin_ne hb]; exact e)
      exact ⟨by rw [upd_ne hb]; exact q1, q2, q3⟩
  · obtain ⟨o, q⟩ := h.lckd i ob b e1 e2
    by_cases hb : b = a
    · rw [hb, pin_at]; exact ⟨_, rfl⟩
    · rw [pin_ne hb] at q ⊢; exact ⟨o, q⟩
  · by_cases hb' : b = a
    · subst hb'; exact hr hb
    · rw [pin_ne hb'] at e
      exact h.out b o (by rw [pin_ne hb']; exact e) el hb
theorem HR.unpin {a : Addr} {ho : HO} (h : HR G n0 (g.pin a ho) F r S H) (hp : g.pn a = none) : HR G n0 g F r S H := by
  have hr := pin_out h
  have ne_of : ∀ b o, g.pn b = some o → b ≠ a := fun b o e z => by rw [z, hp] at e; cases e
  refine ⟨h.sub, h.nd, h.off, h.len, h.nle, h.lle, h.obj, fun b o e => (let hb := ne_of b o e; let ⟨q1, q2, q3⟩ := h.pin b o (by rw [pin_ne hb]; exact e); ⟨q1, q2.imp (fun q => q) (fun q => ⟨q.1, by have z : (if b = a then false else g.lk b) = true := q.2; rw [if_neg hb] at z; exact z⟩), q3⟩), fun i ob b e1 e2 => ?_, fun b o e el => ?_, ⟨fun p hp => let t := h.tab.t p hp; ⟨t.t, t.f, t.nr, by have z2 := t.np; have hn : p.1 ≠ a := fun z => (by rw [z, pin_at] at z2; cases z2); rw [pin_ne hn] at z2; exact z2⟩, h.tab.nf, fun b o e => h.tab.np b o (Le.upd hp b o e)⟩⟩
  · obtain ⟨o, q⟩ := h.lckd i ob b e1 e2
    have hb : b ≠ a := fun z => hr (by rw [← z]; exact List.mem_of_getElem? e2)
    rw [pin_ne hb] at q
    exact ⟨o, q⟩
  · have hb := ne_of b o e
    refine h.out b o (by rw [pin_ne hb]; exact e) ?_
    show (if b = a then false else g.lk b) = false
    rw [if_neg hb]
    exact el
variable {X : Cx}
theorem lc_core' {fi : SI} {t : Tg} {gg : TG} {vs : List Nat} {c : ST} {fe : SE} (ht : TgB G vs t gg) (σ : L2.St) (H : Hp) (Q : VK) (hh : rdE G n0 (eLc fi t vs c fe) σ H Q) : tLc (rdI G n0 fi) gg (rdT G n0 c) (rdV G n0 fe) vs σ H Q := by
  obtain ⟨F, r, env, S, g, s, h⟩ := hh
  refine ⟨F, r, env, S, g, s, ?_⟩
  have h : PoE G n0 g F r env σ ((fi env S).bind fun p S1 => (compR t c fe p.1 (wipeE env vs) [] S1).bind fun acc S2 => .ok (true, .lst acc) (unlock p.2 S2)) Q := h
  cases ei : fi env S with
  | no => rw [ei] at h; exact h
  | ex => rw [ei] at h; exact h
  | ok p S1 =>
    rw [ei] at h
    obtain ⟨xs, ls⟩ := p
    have h : PoE G n0 g F r env σ ((compR t c fe xs (wipeE env vs) [] S1).bind fun acc S2 => .ok (true, .lst acc) (unlock ls S2)) Q := h
    intro F1 r1 H1 J g' x1 s1 its _ ul D hD
    have ul : ∀ F2 r2 S2 H2, HR G n0 g' F2 r2 S2 H2 → Ext F1 F2 r1 r2 → HR G n0 g F2 r2 (unlock ls S2) H2 := ul none (fun p e => nomatch e)
    have its : Its G n0 g' F1 r1 J xs := its
    have hp : g'.pn D = none := s1.hr.nop hD
    have hgp : g.pn D = none := (ul F1 r1 S1 H1 s1.hr (.refl _ _)).nop hD
    -- what holds ahead of turn i
    refine ⟨fun i m H' => m = xs.length - i ∧ i ≤ xs.length ∧ ∃ F2 r2 S2 acc us, Ext F1 F2 r1 r2 ∧ Sg G n0 (g'.pin D (.lst us)) F2 r2 (wipeE env vs) (L2.wipe σ vs) S2 H' ∧ RVs G F2 r2 acc us ∧
      PoE G n0 g F r env σ ((compR t c fe (xs.drop i) (wipeE env vs) acc S2).bind fun acc S2 => .ok (true, .lst acc) (unlock ls S2)) Q,
      ⟨xs.length, rfl, Nat.zero_le _, F1, r1, S1, [], [], .refl _ _, ⟨s1.hr.pinNew hD, (s1.wipe vs).sl, (s1.wipe vs).vr⟩, rfl, h⟩, ?_⟩
    rintro i m H2 ⟨rfl, hi, F2, r2, S2, acc, us, x2, s2, racc, h2⟩
    have hDr := pin_out s2.hr
    have hDH := (s2.hr.pin D _ pin_at).1
    have hDF := noFz (s2.hr.pin D _ pin_at).2.1 rfl
    have hr2 := s2.hr.unpin hp
    obtain ⟨ig, ie⟩ := its (g'.pin D (.lst us)) (fun a o e l => pin_le hp a o e l) F2 r2 S2 H2 s2.hr x2
    by_cases hlt : i < xs.length
    · have hx : xs[i]? = some xs[i] := List.getElem?_eq_getElem hlt
      have hd : xs.drop i = xs[i] :: xs.drop (i + 1) := List.drop_eq_getElem_cons hlt
      rw [hd] at h2
      obtain ⟨go, yl⟩ := ig i xs[i] hx
      refine .inr ⟨go, fun H' => ∃ F2 r2 S2 acc us, Ext F1 F2 r1 r2 ∧ Sg G n0 (g'.pin D (.lst us)) F2 r2 (wipeE env vs) (L2.wipe σ vs) S2 H' ∧ RVs G F2 r2 acc us ∧
        PoE G n0 g F r env σ ((compR t c fe (xs.drop (i + 1)) (wipeE env vs) acc S2).bind fun acc S2 => .ok (true, .lst acc) (unlock ls S2)) Q,
        fun H' q => ⟨xs.length - (i + 1), by omega, rfl, hlt, q⟩, fun v H3 hy => ?_⟩
      obtain ⟨F3, x3, hr3, q3⟩ := yl v H3 hy
      have h3 : PoE G n0 g F r env σ ((match t xs[i] (wipeE env vs) S2 with
        | none => R.no
        | some env' => (c env' S2).bind fun b S1 => if b = true then (fe env' S1).bind fun q S2 => if small acc.length then compR t c fe (xs.drop (i + 1)) (wipeE env vs) (acc ++ [q.2]) S2 else .no
          else compR t c fe (xs.drop (i + 1)) (wipeE env vs) acc S1).bind fun acc S2 => .ok (true, .lst acc) (unlock ls S2)) Q := h2
      cases et : t xs[i] (wipeE env vs) S2 with
      | none => rw [et] at h3; exact h3.elim
      | some env3 =>
        simp only [et] at h3
        refine ht n0 _ F3 r2 (wipeE env vs) (L2.wipe σ vs) S2 H3 xs[i] v env3 (L2.wipe σ vs) _ (wipe_idem σ vs) (s2.ext x3 hr3) q3 et fun σ3 hw3 s3 => ⟨hw3, ?_⟩
        refine ⟨F3, r2, env3, S2, _, s3, ?_⟩
        cases ec : c env3 S2 with
        | no => rw [ec] at h3; exact h3
        | ex => rw [ec] at h3; exact h3
        | ok b S4 =>
          rw [ec] at h3
          intro F4 r4 H4 x4 s4
          have xx : Ext F1 F4 r1 r4 := (x2.trans x3).trans x4
          have back : ∀ {us' F' r' S' H'}, Ext F4 F' r4 r' → Sg G n0 (g'.pin D (.lst us')) F' r' env3 σ3 S' H' → Sg G n0 (g'.pin D (.lst us')) F' r' (wipeE env vs) (L2.wipe σ vs) S' H' := fun {us' F' r' S' H'} x' s' =>
            ⟨s'.hr, s2.sl, fun j w e => by
              obtain ⟨u, e1, q1⟩ := s2.vr j w e
              exact ⟨u, e1, q1.ext ((x3.trans x4).trans x')⟩⟩
          cases b with
          | false => exact ⟨F4, r4, S4, acc, us, xx, back (.refl _ _) s4, racc.ext (x3.trans x4), h3⟩
          | true =>
            have h4 : PoE G n0 g F r env σ (((fe env3 S4).bind fun q S2 => if small acc.length then compR t c fe (xs.drop (i + 1)) (wipeE env vs) (acc ++ [q.2]) S2 else .no).bind fun acc S2 => .ok (true, .lst acc) (unlock ls S2)) Q := h3
            refine ⟨F4, r4, env3, S4, _, s4, ?_⟩
            cases ee : fe env3 S4 with
            | no => rw [ee] at h4; exact h4
            | ex => rw [ee] at h4; exact h4
            | ok q S5 =>
              rw [ee] at h4
              intro F5 r5 H5 y x5 s5 q5
              have h5 : PoE G n0 g F r env σ ((if small acc.length then compR t c fe (xs.drop (i + 1)) (wipeE env vs) (acc ++ [q.2]) S5 else .no).bind fun acc S2 => .ok (true, .lst acc) (unlock ls S2)) Q := h4
              cases hsm : small acc.length with
              | false => rw [hsm] at h5; exact h5.elim
              | true =>
                rw [hsm, if_pos rfl] at h5
                have hr5 := s5.hr
                refine ⟨us, (hr5.pin D _ pin_at).1, by rw [← RVs.length racc]; exact small_lt hsm, F5, r5, S5, acc ++ [q.2], us ++ [y], xx.trans x5, back x5 ⟨hr5.pinSet, s5.sl, s5.vr⟩, (racc.ext ((x3.trans x4).trans x5)).append ⟨y, [], rfl, q5, rfl⟩, h5⟩
    · have e : i = xs.length := by omega
      subst e
      rw [List.drop_length] at h2
      refine .inl ⟨ie _ (Nat.le_refl _), ?_⟩
      have h6 := ul F2 r2 S2 H2 hr2 x2
      have s6 : Sg G n0 g F2 r2 env σ (unlock ls S2) H2 := ⟨h6, s1.sl, fun j w e => by
        obtain ⟨u, e1, q1⟩ := s1.vr j w e
        exact ⟨u, e1, q1.ext x2⟩⟩
      exact h2 F2 r2 H2 (.ref D) (x1.trans x2) s6 ⟨D, .lst us, rfl, hDH, hDF, hDr, hgp, ⟨us, rfl, racc⟩, rfl⟩
theorem sts_nil : PTs X [] (rdT G n0 tYesP) := ⟨fun pins s σ H Q I h => pts_nil.run pins s σ H Q I (by
  obtain ⟨F, r, env, S, g, s, h⟩ := h
  exact h F r H (.refl F r) s)⟩
theorem sts_one {c : Expr} {tc : ST} (h : PT X c (rdT G n0 tc)) : PTs X [c] (rdT G n0 tc) := pts_one h
theorem Tb.blk {cf : CF} {k : Nat} (T : Tb X G cf k) (s : Shared) (H : Hp) (scope : Scope) (cenv : PySem.Env) (fp : List Addr) : Tb (X.blk s H scope cenv fp) G cf k := ⟨T.hK, T.call, T.room, T.calm⟩
theorem se_lc {elt tg iter : Expr} {ifs : List Expr} {scope : Scope} {own : List (Str × Nat)} {pos : Pos} {fi : SI} {t : Tg} {gg : TG} {c : ST} {fe : SE} (hc : X.calm = true) (hN : X.N.Nodup) (hi : PI X tg iter (rdI G n0 fi)) (ok : BlkOk X.N X.env.scope scope own) (ht : TgB G (own.map (·.2)) t gg)
    (hg : ∀ (s : Shared) (H : Hp) (C : Addr) (cl : List (Str × Addr)) (fp : List Addr), PG (X.blk s H scope (compEnvC scope cl C X.env) fp) tg gg)
    (hts : ∀ (s : Shared) (H : Hp) (C : Addr) (cl : List (Str × Addr)) (fp : List Addr), PTs (X.blk s H scope (compEnvC scope cl C X.env) fp) ifs (rdT G n0 c))
    (he : ∀ (s : Shared) (H : Hp) (C : Addr) (cl : List (Str × Addr)) (fp : List Addr), PE (X.blk s H scope (compEnvC scope cl C X.env) fp) elt (rdE G n0 fe)) (hs : ∀ x, foldedSetIterable iter X.env x = pure x := by intro _; rfl) :
    PE X (.ListComp elt [⟨tg, iter, ifs, 0⟩] scope pos) (rdE G n0 (eLc fi t (own.map (·.2)) c fe)) :=
  se_of (pe_lc hc hN hi ok hg hts (fun s H C cl fp => toV (he s H C cl fp)) hs) (lc_core' ht)
end
end PX
set_option Elab.async false
set_option linter.all false
set_option maxRecDepth 100000
set_option maxHeartbeats 1000000
namespace PX
open PySem PySem.Spec PyProof.Rows L2
def dIx (x y : PV) (S : Store) : Option (Bool × PV) := match deref S x with
  | some (.dct ks vs) => match keyOf y with
    | some q => match dGet ks vs q with
      | some (some v) => some (false, v)
      | _ => none
    | none => none
  | _ => none
def eIx (cf : CF) (tb : List (Nat × Nat)) (a b : SE) : SE := fun env S => (a env S).bind fun p S1 => (b env S1).bind fun q S2 => match ownOf tb S2 p.2 with
  | some f => callV cf f [p.2, q.2] S2
  | none => match dIx p.2 q.2 S2 with
    | some z => .ok z S2
    | none => ofO (oIx p.2 q.2 S2) S2
section
variable {X : Cx} {k : Nat}
def rIxOwn (X : Cx) (k : Nat) : R2 := fun x y H Q => ∃ a C dx fs g sp, x = .ref a ∧ H a = some (.ins C dx fs) ∧ Spc X.K C g "__getitem__" ∧ PySem.W.fnIn X.K g = true ∧ FnR X.prog X.w X.K X.mg X.base (L2.CX X.prog X.w) k g sp ∧ sp [x, y] H Q E0
def rIxDct : R2 := fun x y H Q => ∃ a v, x = .ref a ∧ DGet H a y (some v) ∧ Q v H
theorem pe_ixG {a b : Expr} {ta tb : TE} {pos : Pos} (hr : Room (k + 1) X.A) (ha : PE X a ta) (hb : PE X b tb) (hs : PlainIx b) (hsl : ∀ x i, subscripted b true (.ref x) i = runValue (.builtin "lifetime.subscript" ⟨[.ref x, i], []⟩)) :
    PE X (.Subscript a b pos) (tOp (fun x y H Q => rIxOwn X k x y H Q ∨ rIxDct x y H Q ∨ rIx X.K x y H Q) ta tb) := by
  refine ⟨fun pins s σ H Q I h => ?_⟩
  refine Subscript_ (binT ha hb I h fun v u s2 x y H2 I2 rx ry q => ?_)
  rcases q with q | q | q
  · obtain ⟨a', C, dx, fs, g, sp, rfl, ea, hs', hf, F, q⟩ := q
    cases (show v = Value.ref a' from rx)
    obtain ⟨od, J⟩ := inst_at I2 ea
    obtain ⟨m, hF⟩ := I2.fr
    refine PySem.W.sub_K hF I2.ok.mod.kin J hs'.at_ hf hs'.fn ?_ (hsl a' u)
    exact wpAny_call (SlX.run_at (us := [.ref a', u]) (ws := [.ref a', y]) F hr.in1 I2.env0.in1 passE0 I2 (.cons rfl (.cons ry .nil)) q)
  · obtain ⟨a', z, rfl, gd, q⟩ := q
    cases (show v = Value.ref a' from rx)
    exact tail_any (dict_typeIs I2 gd) PySem.F.slot_dict_getitem.lookup (d_getItem (by have := hr.units; omega) I2 gd ry fun w' s3 I3 rw' => ⟨z, H2, I3, rw', q⟩) (hs _ _)
  · exact ix_seq a b pins s2 σ H2 x y v u Q I2 rx ry q (hs _ _)
end
section
variable {X : Cx} {G : Gam} {n0 : Nat} {cf : CF} {k : Nat}
theorem se_ixG {tb : List (Nat × Nat)} {a b : Expr} {fa fb : SE} {pos : Pos} (T : Tb X G cf k) (hc : ∀ p ∈ tb, Spc G.K (G.ca p.1) (G.fa p.2) "__getitem__" ∧ PySem.W.fnIn G.K (G.fa p.2) = true) (ha : PE X a (rdE G n0 fa)) (hb : PE X b (rdE G n0 fb))
    (hs : PlainIx b) (hsl : ∀ x i, subscripted b true (.ref x) i = runValue (.builtin "lifetime.subscript" ⟨[.ref x, i], []⟩)) : PE X (.Subscript a b pos) (rdE G n0 (eIx cf tb fa fb)) := by
  refine se_of (pe_ixG T.room (toV ha) (toV hb) hs hsl) fun σ H Q ⟨F, r, env, S, g, s, h⟩ => ?_
  refine stV s cnE h fun p S1 F1 r1 H1 u x1 s1 q1 h1 => ?_
  refine stV s1 cnE h1 fun q S2 F2 r2 H2 v x2 s2 q2 h2 => ?_
  have q1' := q1.ext x2
  cases eo : ownOf tb S2 p.2 with
  | some f =>
    simp only [eo] at h2
    obtain ⟨a', c, dx, fs, rfl, k1, k2⟩ := own_at s2.hr q1' eo
    obtain ⟨c1, c2⟩ := hc _ k2
    refine .inl ⟨a', G.ca c, dx, fs, G.fa f, _, rfl, k1, T.hK ▸ c1, T.hK ▸ c2, T.call f 2, ?_⟩
    exact run_call (np := 2) s2 (x1.trans x2) (show RVs G F2 r2 [p.2, q.2] _ from ⟨_, _, rfl, q1', _, [], rfl, q2, rfl⟩) rfl h2
  | none =>
    simp only [eo] at h2
    cases ed : dIx p.2 q.2 S2 with
    | some z =>
      simp only [ed] at h2
      unfold dIx at ed
      split at ed
      · rename_i ks vs edr
        cases ek : keyOf q.2 with
        | none => simp only [ek] at ed; cases ed
        | some kk =>
          simp only [ek] at ed
          cases eg : dGet ks vs kk with
          | none => simp only [eg] at ed; cases ed
          | some o =>
            cases o with
            | none => simp only [eg] at ed; cases ed
            | some w =>
              simp only [eg] at ed
              cases ed
              obtain ⟨a', o', rfl, gd, y, rfl, rv⟩ := dGet_ok s2.hr q1' edr q2 ek eg
              exact .inr (.inl ⟨a', y, rfl, gd, h2 F2 r2 H2 y (x1.trans x2) s2 rv⟩)
      · cases ed
    | none =>
      simp only [ed] at h2
      exact .inr (.inr (T.hK ▸ endO (T := fun Q => rIx G.K u v H2 Q) s2 (x1.trans x2) h2 fun z ez k => ok_ix n0 g F2 r2 S2 H2 p.2 q.2 u v z Q s2.hr q1' q2 ez k))
theorem se_isiT {tb : List (TyN × Bool)} {e : Expr} {fe : SE} {p pos : Pos} {cvs : List V} {cus : List Value} {ht : TA} {es : List Expr} {x1 : _} {tpos : Pos} (hK : G.K = X.K) (hg : Gl X "isinstance") (hm : X.mg "isinstance" = none) (hb : bootBuiltins "isinstance" = some (.builtin "isinstance")) (hcv : Paired ClsV cvs cus)
    (hcl : ∀ t b, (t, b) ∈ tb → PySem.W.kitAny G.K (t.val G) cus = some b ∧ ∀ c, t = .own c → ClsI G c) (he : PE X e (rdE G n0 fe)) (hc : PA X es ht) (hht : ∀ σ H Q, Q cvs H → ht σ H Q) (hlen : cvs.length ≤ sizeLine)
    (hs : starEach [e, .Tuple es x1 tpos] X.env = (false, eval e X.env) :: starEach [.Tuple es x1 tpos] X.env := by rfl) (hs2 : starEach [.Tuple es x1 tpos] X.env = (false, eval (.Tuple es x1 tpos) X.env) :: starEach [] X.env := by rfl) (hpl : (backTo pos (starEach [.Tuple es x1 tpos] X.env)).any (·.1) = false := by rfl) :
    PE X (.Call (.Name "isinstance" p) [e, .Tuple es x1 tpos] [] pos) (rdE G n0 (eIsi tb fe)) := by
  refine peI (pe_callB call_isiT hg hm hb (pa_cons (toV he) (pa_cons (pe_tup hc) pa_nil hs2) hs) (by decide) (by decide) hs hpl) fun σ H Q ⟨F, r, env, S, g, s, h⟩ => ?_
  refine stV s cnE h fun p S1 F1 r1 H1 u x1 s1 q1 h1 => ?_
  simp only at h1
  cases et : tyN S1 p.2 with
  | none => rw [et] at h1; exact h1.elim
  | some t =>
    rw [et] at h1
    cases el : tb.lookup t with
    | none => simp only [el] at h1; exact h1.elim
    | some b =>
      simp only [el] at h1
      obtain ⟨k1, k2⟩ := hcl t b (tb_mem el)
      refine hht _ _ _ ⟨hlen, fun tp htp => ?_⟩
      have h2 := s1.hr.heap (H' := upd H1 tp (.tup cvs)) fun a o e => by rw [upd_ne (ne_of_none e htp)]; exact e
      refine ⟨u, tp, cvs, t.val G, cus, b, rfl, upd_same, hcv, hK ▸ tyN_ok h2 q1 k2 et, hK ▸ k1, ?_⟩
      exact h1 F1 r1 _ _ x1 (s1.ext (.refl _ _) h2) rfl
def eRev (a : SE) : SE := fun env S => (a env S).bind fun p S1 => match lstOf S1 p.2 with
  | some xs => .ok (true, .lst xs.reverse) S1
  | none => .no
end
def insI (x : Int) : List Int → List Int
  | [] => [x]
  | y :: ys => if x ≤ y then x :: y :: ys else y :: insI x ys
def srtI : List Int → List Int
  | [] => []
  | x :: xs => insI x (srtI xs)
theorem insI_perm (x : Int) : ∀ ys : List Int, (insI x ys).Perm (x :: ys)
  | [] => .refl _
  | y :: ys => by
    unfold insI
    split
    · exact .refl _
    · exact ((insI_perm x ys).cons y).trans (.swap x y ys)
theorem srtI_perm : ∀ xs : List Int, (srtI xs).Perm xs
  | [] => .refl _
  | x :: xs => (insI_perm x _).trans ((srtI_perm xs).cons x)
theorem insI_mem {x z : Int} {ys : List Int} (h : z ∈ insI x ys) : z = x ∨ z ∈ ys := by
  have := (insI_perm x ys).mem_iff.mp h
  exact List.mem_cons.mp this
theorem insI_sorted (x : Int) : ∀ {ys : List Int}, ys.Pairwise (· ≤ ·) → (insI x ys).Pairwise (· ≤ ·)
  | [], _ => by simp [insI]
  | y :: ys, h => by
    unfold insI
    have hc := List.pairwise_cons.mp h
    split
    · rename_i hxy
      refine List.pairwise_cons.mpr ⟨fun z hz => ?_, h⟩
      rcases List.mem_cons.mp hz with rfl | hz
      · exact hxy
      · exact Int.le_trans hxy (hc.1 z hz)
    · rename_i hxy
      refine List.pairwise_cons.mpr ⟨fun z hz => ?_, insI_sorted x hc.2⟩
      rcases insI_mem hz with rfl | hz
      · omega
      · exact hc.1 z hz
theorem srtI_sorted : ∀ xs : List Int, (srtI xs).Pairwise (· ≤ ·)
  | [] => .nil
  | x :: xs => insI_sorted x (srtI_sorted xs)
theorem sorted_uniq : ∀ {xs ys : List Int}, xs.Pairwise (· ≤ ·) → ys.Pairwise (· ≤ ·) → xs.Perm ys → xs = ys
  | [], ys, _, _, p => p.nil_eq
  | x :: xs, [], _, _, p => by
    have := p.length_eq
    simp at this
  | x :: xs, y :: ys, h1, h2, p => by
    have c1 := List.pairwise_cons.mp h1
    have c2 := List.pairwise_cons.mp h2
    have hxy : x = y := by
      have hx : x ∈ y :: ys := p.mem_iff.mp List.mem_cons_self
      have hy : y ∈ x :: xs := p.mem_iff.mpr List.mem_cons_self
      rcases List.mem_cons.mp hx with e | hx
      · exact e
      · rcases List.mem_cons.mp hy with e | hy
        · exact e.symm
        · have := c1.1 y hy
          have := c2.1 x hx
          omega
    subst hxy
    rw [sorted_uniq c1.2 c2.2 ((List.perm_cons x).mp p)]
theorem srtI_eq {ns ns' : List Int} (p : ns'.Perm ns) (h : ns'.Pairwise (· ≤ ·)) : ns' = srtI ns := sorted_uniq h (srtI_sorted ns) (p.trans (srtI_perm ns).symm)
def keysI : List Key → Option (List Int)
  | [] => some []
  | .inl i :: r => (keysI r).map (i :: ·)
  | .inr _ :: _ => none
theorem keysI_ok : ∀ {ks : List Key} {ns : List Int}, keysI ks = some ns → ks = ns.map Sum.inl
  | [], ns, e => by cases e; rfl
  | .inl i :: r, ns, e => by
    have e : (keysI r).map (i :: ·) = some ns := e
    cases e1 : keysI r with
    | none => rw [e1] at e; cases e
    | some ms =>
      rw [e1] at e
      cases e
      rw [keysI_ok e1]
      rfl
  | .inr _ :: _, _, e => by cases e
def bSort : OpN := fun xs S => match xs with
  | [v] => match deref S v with
    | some (.lst ws) => (intsOf ws).map fun ns => (true, .lst ((srtI ns).map .int))
    | some (.dct (.k ks) _) => match keysI ks with
      | some ns => if Nat.ble ns.length 63 then some (true, .lst ((srtI ns).map .int)) else none
      | none => none
    | _ => none
  | _ => none
def pairsK : List PV → Option (List Key × List PV)
  | [] => some ([], [])
  | .tup [a, b] :: r => match keyOf a with
    | some (.k q) => match pairsK r with
      | some z => some (q :: z.1, b :: z.2)
      | none => none
    | _ => none
  | _ :: _ => none
def mergeB : List Key → List PV → List Key → List PV → List Key × List PV
  | ks, vs, q :: qs, w :: ws => let z := putB eqK ks vs q w; mergeB z.1 z.2 qs ws
  | ks, vs, _, _ => (ks, vs)
def bDict : OpN := fun xs S => match xs with
  | [v] => match deref S v with
    | some (.lst ws) => match pairsK ws with
      | some z => let y := mergeB [] [] z.1 z.2; some (true, .dct (.k y.1) y.2)
      | none => none
    | some (.dct (.k ks) vs) => some (true, .dct (.k ks) vs)
    | _ => none
  | _ => none
section
variable {X : Cx} {G : Gam}
def rSort (K : PySem.W.Frag) : List V → Hp → VK → Prop := fun vs H Q => rSortedI K vs H Q ∨ ∃ (a : Addr) (kvs : List (Key × V)) (ks : List Int), vs = [.ref a] ∧ Rd H a (.dK kvs) ∧ kvs.map (·.1) = ks.map Sum.inl ∧ ks.length < 64 ∧
    ∀ (ys : List Int) (p : Addr), ys.Perm ks → ys.Pairwise (· ≤ ·) → H p = none → Q (.ref p) (upd H p (.lst (ys.map V.int)))
theorem cr_sort (hc : X.calm = true) : CallR X (.builtin "sorted") (rSort X.K) := by
  intro pins s σ H vs us Q I r h
  rcases h with h | h
  · exact cr_sortedI pins s σ H vs us Q I r h
  · exact call_sortedDI hc pins s σ H vs us Q I r h
theorem RVs.toI {F : Hp} {r : List Addr} (ns : List Int) : RVs G F r (ns.map PV.int) (ns.map V.int) := RVs.of_ints ns
theorem ok_sort : OkN G bSort (rSort G.K) := fun n0 g F r S H xs us z Q h q e k => by
  unfold bSort at e
  split at e
  · obtain ⟨u, rfl, q1⟩ := one_of q
    split at e
    · rename_i ws ed
      cases en : intsOf ws with
      | none => rw [en] at e; cases e
      | some ns =>
        rw [en] at e
        cases e
        obtain ⟨a, us, rfl, k1, k2⟩ := view_lst h q1 ed
        rw [intsOf_eq en] at k2
        rw [RVs.ints k2] at k1
        refine .inl ⟨a, ns, rfl, .inl k1, fun ns' p hp hs hH => ?_⟩
        rw [srtI_eq hp hs]
        obtain ⟨h2, k3⟩ := new_obj h hH (v := .lst ((srtI ns).map .int)) ⟨_, rfl, RVs.toI _⟩ rfl
        exact k F r _ _ (.refl F r) h2 k3
    · rename_i ks ws ed
      cases en : keysI ks with
      | none => simp only [en] at e; cases e
      | some ns =>
        simp only [en] at e
        split at e
        · rename_i hl
          cases e
          obtain ⟨a, ho, us, rfl, k1, k2, k3⟩ := view_dct h q1 ed
          obtain ⟨rfl, hlen⟩ := k2
          refine .inr ⟨a, _, ns, rfl, k1, ?_, by have := Nat.le_of_ble_eq_true hl; omega, fun ys p hp hs hH => ?_⟩
          · rw [keysI_ok en] at hlen ⊢
            rw [show (fun x : Key × V => x.1) = Prod.fst from rfl, List.map_fst_zip (Nat.le_of_eq hlen)]
          · rw [srtI_eq hp hs]
            obtain ⟨h2, k4⟩ := new_obj h hH (v := .lst ((srtI ns).map .int)) ⟨_, rfl, RVs.toI _⟩ rfl
            exact k F r _ _ (.refl F r) h2 k4
        · cases e
    · cases e
  · cases e
theorem pairsK_ok {F : Hp} {r : List Addr} : ∀ {ws : List PV} {us : List V} {z : List Key × List PV}, RVs G F r ws us → pairsK ws = some z →
    ∃ (ps : List Addr) (ys : List V), us = ps.map V.ref ∧ z.1.length = ys.length ∧ RVs G F r z.2 ys ∧ Paired (fun p kv => F p = some (.tup [kV kv.1, kv.2])) ps (z.1.zip ys)
  | [], us, z, q, e => by
    cases e
    exact ⟨[], [], q, rfl, rfl, .nil⟩
  | w :: ws, us, z, q, e => by
    unfold pairsK at e
    split at e
    · rename_i h0; cases h0
    · rename_i a b r' h0
      cases h0
      split at e
      · rename_i kk ek
        split at e
        · rename_i y ey
          cases e
          obtain ⟨u, ur, rfl, k, l⟩ := q
          obtain ⟨p, ts, rfl, k1, k2⟩ := k
          obtain ⟨ua, ub, rfl, ka, kb⟩ := two_of k2
          obtain ⟨ps, ys, rfl, e1, e2, e3⟩ := pairsK_ok l ey
          rw [keyOf_k ka ek] at k1
          exact ⟨p :: ps, ub :: ys, rfl, by simpa using e1, ⟨ub, ys, rfl, kb, e2⟩, .cons k1 e3⟩
        · cases e
      · cases e
    · cases e
theorem mergeB_ok {F : Hp} {r : List Addr} : ∀ {qs : List Key} {ws : List PV} {ys : List V} {ks : List Key} {vs : List PV} {us : List V}, qs.length = ys.length → RVs G F r ws ys → ks.length = us.length → RVs G F r vs us →
    ∃ us', mergeK (ks.zip us) (qs.zip ys) = (mergeB ks vs qs ws).1.zip us' ∧ (mergeB ks vs qs ws).1.length = us'.length ∧ RVs G F r (mergeB ks vs qs ws).2 us'
  | [], ws, ys, ks, vs, us, _, _, hl, k => by
    have e : mergeB ks vs [] ws = (ks, vs) := by cases ws <;> rfl
    rw [e]
    exact ⟨us, rfl, hl, k⟩
  | q :: qs, ws, [], ks, vs, us, h, _, _, _ => by cases h
  | q :: qs, [], y :: ys, ks, vs, us, _, k', _, _ => by cases (show (y :: ys) = [] from k')
  | q :: qs, w :: ws, y :: ys, ks, vs, us, h, k', hl, k => by
    obtain ⟨u', ur, e, k1, k2⟩ := k'
    cases e
    obtain ⟨us1, e1, e2, e3⟩ := putB_ok eqK_ok k1 (q := q) hl k
    obtain ⟨us2, e4, e5, e6⟩ := mergeB_ok (qs := qs) (by simpa using h) k2 e2 e3
    refine ⟨us2, ?_, e5, e6⟩
    show mergeK (putK (ks.zip us) q y) (qs.zip ys) = _
    rw [e1]
    exact e4
def rDict (K : PySem.W.Frag) : List V → Hp → VK → Prop := fun xs H Q => (∃ (a : Addr) (ps : List Addr) (kvs : List (Key × V)), xs = [.ref a] ∧ SqL K H a (ps.map V.ref) ∧ Paired (fun p kv => SqT K H p [kV kv.1, kv.2]) ps kvs ∧
    ∀ p, H p = none → Q (.ref p) (upd H p (.dK (mergeK [] kvs)))) ∨ ∃ (a : Addr) (kvs : List (Key × V)), xs = [.ref a] ∧ Rd H a (.dK kvs) ∧ ∀ p, H p = none → Q (.ref p) (upd H p (.dK kvs))
theorem cr_dict (hc : X.calm = true) : CallR X (.type "dict") (rDict X.K) := by
  intro pins s σ H vs us Q I r h
  rcases h with h | h
  · exact call_dictP hc pins s σ H vs us Q I r h
  · exact call_dictD pins s σ H vs us Q I r h
theorem Paired.imp' {α β : Type} {R R' : α → β → Prop} (h : ∀ a b, R a b → R' a b) : ∀ {as : List α} {bs : List β}, Paired R as bs → Paired R' as bs
  | _, _, .nil => .nil
  | _, _, .cons a b => .cons (h _ _ a) (Paired.imp' h b)
theorem ok_dict : OkN G bDict (rDict G.K) := fun n0 g F r S H xs us z Q h q e k => by
  unfold bDict at e
  split at e
  · obtain ⟨u, rfl, q1⟩ := one_of q
    split at e
    · rename_i ws ed
      cases ep : pairsK ws with
      | none => simp only [ep] at e; cases e
      | some y =>
        simp only [ep] at e
        cases e
        obtain ⟨a, us, rfl, k1, k2⟩ := view_lst h q1 ed
        obtain ⟨ps, ys, rfl, e1, e2, e3⟩ := pairsK_ok k2 ep
        refine .inl ⟨a, ps, _, rfl, .inl k1, Paired.imp' (fun _ _ e => h.sub.tp e) e3, fun p hp => ?_⟩
        obtain ⟨us', f1, f2, f3⟩ := mergeB_ok (ks := []) (vs := []) (us := []) e1 e2 rfl rfl
        have f1 : mergeK [] (y.1.zip ys) = _ := f1
        rw [f1]
        obtain ⟨h2, k4⟩ := new_obj h hp (v := .dct (.k (mergeB [] [] y.1 y.2).1) (mergeB [] [] y.1 y.2).2) ⟨us', ⟨rfl, f2⟩, f3⟩ rfl
        exact k F r _ _ (.refl F r) h2 k4
    · rename_i ks vs ed
      cases e
      obtain ⟨a, ho, us, rfl, k1, k2, k3⟩ := view_dct h q1 ed
      obtain ⟨rfl, hlen⟩ := k2
      refine .inr ⟨a, _, rfl, k1, fun p hp => ?_⟩
      obtain ⟨h2, k4⟩ := new_obj h hp (v := .dct (.k ks) vs) ⟨us, ⟨rfl, hlen⟩, k3⟩ rfl
      exact k F r _ _ (.refl F r) h2 k4
    · cases e
  · cases e
end
end PX
set_option Elab.async false
set_option linter.all false
set_option maxRecDepth 100000
namespace PX
open PySem PySem.Spec PyProof.Rows L2 He
def noLst (g : Addr → Option Obj) : Addr → Option Obj := fun a => match g a with
  | some o => (match o.cls with
    | .type n => if n = "list" then none else some o
    | _ => some o)
  | none => none
theorem noLst_at {g : Addr → Option Obj} {a : Addr} {o : Obj} (h : noLst g a = some o) : g a = some o ∧ o.cls ≠ .type "list" := by
  unfold noLst at h
  cases e : g a with
  | none => rw [e] at h; cases h
  | some ob =>
    rw [e] at h
    simp only at h
    cases ec : ob.cls with
    | type n =>
      rw [ec] at h
      simp only at h
      split at h
      · cases h
      · rename_i hn
        cases h
        rw [ec]
        exact ⟨rfl, fun z => hn (Value.type.inj z)⟩
    | _ =>
      rw [ec] at h
      cases h
      rw [ec]
      exact ⟨rfl, fun z => nomatch z⟩
abbrev Ck : Type := PySem.W.Frag → Bool
def obsP (fb : List Ck) (fn : List DefD) (K : PySem.W.Frag) : AlD := ((fb.all fun f => f K) && fn.all fun d => d.ok K, fn.map fun d => fnW K d.at_)
structure SaysP (fb : List Ck) (fn : List DefD) (K : PySem.W.Frag) : Prop where
  eq : obsP fb fn K = valD fn
  nol : ∀ a o, K.lookup a = some o → o.cls ≠ .type "list"
def obsPG (n : Nat) (fb : List Ck) (fn : List DefD) (g : Addr → Option Obj) : AlD := obsP fb fn (frG (noLst g) (asD g n))
def hookP (n : Nat) (fb : List Ck) (fn : List DefD) : PySem.W.Hook where
  α := AlD
  obs := fun s => obsPG n fb fn s.heap.get?
  val := fun _ => valD fn
  says := fun _ h => ∃ K : PySem.W.Frag, K.In h ∧ SaysP fb fn K
  of := fun _ _ e => ⟨_, fun _ _ e' => (noLst_at (frG_at _ e')).1, e, fun _ _ e' => (noLst_at (frG_at _ e')).2⟩
  keeps := fun _ _ _ ⟨K, hK, c⟩ k => ⟨K, PySem.W.Frag.In.keeps hK k, c⟩
theorem obsPG_eq {n : Nat} {fb : List Ck} {fn : List DefD} {g : Addr → Option Obj} {s : Shared} (h : ∀ a, g a = s.heap.get? a) : obsPG n fb fn g = (hookP n fb fn).obs s := by
  have e : g = s.heap.get? := funext h
  rw [e] <;> rfl
section
variable {fb : List Ck} {fn : List DefD} {K : PySem.W.Frag}
theorem SaysP.fact (c : SaysP fb fn K) (i : Nat) {f : Ck} (h : fb[i]? = some f := by rfl) : f K = true := by
  have c1 := (He.ba (show ((fb.all fun f => f K) && fn.all fun d => d.ok K) = true from congrArg (fun z : AlD => z.1) c.eq)).1
  exact List.all_eq_true.mp c1 f (List.mem_of_getElem? h)
theorem SaysP.def_ (c : SaysP fb fn K) (i : Nat) {d : DefD} (h : fn[i]? = some d := by rfl) : ∃ fd, FunD K d.name d.qual d.params d.body d.scope (d.dvs K) (d.kws K) (fAd K d.at_) fd := by
  have c2 := (He.ba (show ((fb.all fun f => f K) && fn.all fun d => d.ok K) = true from congrArg (fun z : AlD => z.1) c.eq)).2
  have e : fn.map (fun d => fnW K d.at_) = fn.map DefD.val := congrArg (fun z : AlD => z.2) c.eq
  have e2 : (fn.map fun d => fnW K d.at_)[i]? = (fn.map DefD.val)[i]? := by rw [e]
  rw [List.getElem?_map, List.getElem?_map, h] at e2
  exact DefD.funD (Option.some.inj e2) (List.all_eq_true.mp c2 d (List.mem_of_getElem? h))
end
def gam (fs : List (Str × Option Str)) (cs ns : List Str) (K : PySem.W.Frag) : Gam := ⟨K, fun i => fAd K (fs.getD i ("", none)), fun c => ga K (cs.getD c ""), fun n => ns.getD n "", []⟩
theorem inj_nm {fs : List (Str × Option Str)} {cs ns : List Str} {K : PySem.W.Frag} (i : Nat) (hi : i < ns.length) (hn : ns.Nodup) (he : ("" : Str) ∉ ns) : Inj (gam fs cs ns K) i := fun j e => by
  have e : ns.getD j "" = ns.getD i "" := e
  have hi' : ns.getD i "" = ns[i] := by simp [List.getD_eq_getElem?_getD, hi]
  by_cases hj : j < ns.length
  · have hj' : ns.getD j "" = ns[j] := by simp [List.getD_eq_getElem?_getD, hj]
    rw [hi', hj'] at e
    exact (List.getElem_inj hn).mp e
  · have hj' : ns.getD j "" = "" := by simp [List.getD_eq_getElem?_getD, hj]
    rw [hi', hj'] at e
    exact absurd (e ▸ List.getElem_mem hi) he
def cGlo (x : Str) : Ck := fun K => eqO (PySem.W.nsIn K mainGlobals x) (some (some (.ref (ga K x))))
def cFree (x : Str) : Ck := fun K => eqO (PySem.W.nsIn K mainGlobals x) (some none)
def cInt (x : Str) (i : Int) : Ck := fun K => Fa.ok K (.int x i)
def cKeep (G : PySem.W.Frag → Gam) (f : Nat) : Ck := fun K => PySem.W.keepIn K (.ref ((G K).fa f))
def clsB (K : PySem.W.Frag) (C : Addr) : Bool := PySem.W.plainGet K C Str.empty && (PySem.W.hasDictIn K C && (PySem.W.plainOver K C && eqO (PySem.W.findIn K (.ref C) "__setattr__") (some (some (.builtin "object.__setattr__")))))
def isiB (K : PySem.W.Frag) (C : Addr) : Bool := eqO (PySem.W.findIn K (.ref C) "__class__") (some (some (.builtin "object.__class__"))) && (eqO (PySem.W.specialIn K (.builtin "object.__class__") "__get__") (some (some (.builtin "getset_descriptor.__get__"))) &&
  (decide (PySem.W.takesIn K (.builtin "object.__class__") = some true) && decide (PySem.W.mroIn K C (.type "object") = some true)))
def methB (K : PySem.W.Frag) (C f : Addr) (m : Str) : Bool := eqO (PySem.W.findIn K (.ref C) m) (some (some (.ref f))) && (PySem.W.isFn K (.ref f) && PySem.W.keepIn K (.ref f))
def cCls (G : PySem.W.Frag → Gam) (cs : List Nat) : Ck := fun K => cs.all fun c => clsB K ((G K).ca c) && isiB K ((G K).ca c)
def cFld (G : PySem.W.Frag → Gam) (f : Nat) (cs : List Nat) : Ck := fun K => cs.all fun c => clsB K ((G K).ca c) && eqO (PySem.W.findIn K (.ref ((G K).ca c)) ((G K).nm f)) (some none)
def cMet (G : PySem.W.Frag → Gam) (m : Nat) (tb : List (Nat × Nat)) : Ck := fun K => tb.all fun p => clsB K ((G K).ca p.1) && methB K ((G K).ca p.1) ((G K).fa p.2) ((G K).nm m)
def cMk (G : PySem.W.Frag → Gam) (c f : Nat) : Ck := fun K => PySem.W.makesIn K ((G K).ca c) && (eqO (PySem.W.findIn K (.ref ((G K).ca c)) "__init__") (some (some (.ref ((G K).fa f)))) && (PySem.W.isFn K (.ref ((G K).fa f)) && PySem.W.keepIn K (.ref ((G K).ca c))))
def cSpc (G : PySem.W.Frag → Gam) (tb : List (Nat × Nat)) (m : Str) : Ck := fun K => tb.all fun p => eqO (PySem.W.findIn K (.ref ((G K).ca p.1)) m) (some (some (.ref ((G K).fa p.2)))) && (PySem.W.isFn K (.ref ((G K).fa p.2)) && PySem.W.fnIn K ((G K).fa p.2))
def cNe (G : PySem.W.Frag → Gam) (tb : List (Nat × Nat)) : Ck := fun K => tb.all fun p => eqO (PySem.W.findIn K (.ref ((G K).ca p.1)) "__ne__") (some (some (.builtin "object.__ne__"))) && decide (PySem.W.mroIn K ((G K).ca p.1) (.type "object") = some true)
def cNf (G : PySem.W.Frag → Gam) (tb : List (Nat × Nat)) (tys : List TyN) : Ck := fun K => tb.all fun p => tys.all fun t => PySem.W.notFirst K ((G K).ca p.1) (t.val (G K))
def cKit (G : PySem.W.Frag → Gam) (tb : List (TyN × Bool)) (cu : PySem.W.Frag → Value) : Ck := fun K => tb.all fun p => decide (PySem.W.kitOne K (p.1.val (G K)) (cu K) = some p.2)
def cKitT (G : PySem.W.Frag → Gam) (tb : List (TyN × Bool)) (cus : PySem.W.Frag → List Value) : Ck := fun K => tb.all fun p => decide (PySem.W.kitAny K (p.1.val (G K)) (cus K) = some p.2)
section
variable {K : PySem.W.Frag} {h : Heap} {mg : Str → Option Value}
theorem cGlo_ok (X : K.In h) (G : h.Ns mainGlobals mg) {x : Str} (c : cGlo x K = true) : mg x = some (.ref (ga K x)) := PySem.W.mg_of X G (eqO_ok c)
theorem cFree_ok (X : K.In h) (G : h.Ns mainGlobals mg) {x : Str} (c : cFree x K = true) : mg x = none := PySem.W.mg_none_of X G (eqO_ok c)
theorem cInt_ok (X : K.In h) (G : h.Ns mainGlobals mg) {x : Str} {i : Int} (c : cInt x i K = true) : ∃ u, mg x = some u ∧ RelV (.int i) u := by
  obtain ⟨t, e⟩ := int_ok X G c
  exact ⟨_, e, ⟨t, rfl⟩⟩
variable {G : PySem.W.Frag → Gam}
theorem clsB_ok {C : Addr} (c : clsB K C = true) : Cls K C := by
  obtain ⟨c1, c⟩ := He.ba c
  obtain ⟨c2, c⟩ := He.ba c
  obtain ⟨c3, c4⟩ := He.ba c
  exact ⟨c1, c2, c3, eqO_ok c4⟩
theorem isiB_ok {C : Addr} (c : isiB K C = true) : SlX.SIsi K C := by
  obtain ⟨c1, c⟩ := He.ba c
  obtain ⟨c2, c⟩ := He.ba c
  obtain ⟨c3, c4⟩ := He.ba c
  exact ⟨eqO_ok c1, eqO_ok c2, of_decide_eq_true c3, of_decide_eq_true c4⟩
theorem methB_ok {C f : Addr} {m : Str} (c : methB K C f m = true) : Meth K C m f := by
  obtain ⟨c1, c⟩ := He.ba c
  obtain ⟨c2, c3⟩ := He.ba c
  exact ⟨eqO_ok c1, c2, c3⟩
theorem cCls_ok (hG : (G K).K = K) {cs : List Nat} (h : cCls G cs K = true) : ∀ c ∈ cs, ClsI (G K) c := fun c hc => by
  obtain ⟨h1, h2⟩ := He.ba (List.all_eq_true.mp h c hc)
  exact ⟨hG.symm ▸ clsB_ok h1, hG.symm ▸ isiB_ok h2⟩
theorem cFld_ok (hG : (G K).K = K) {f : Nat} {cs : List Nat} (h : cFld G f cs K = true) : ∀ c ∈ cs, Cls (G K).K ((G K).ca c) ∧ NoAttr (G K).K ((G K).ca c) ((G K).nm f) := fun c hc => by
  obtain ⟨h1, h2⟩ := He.ba (List.all_eq_true.mp h c hc)
  rw [hG]
  exact ⟨clsB_ok h1, eqO_ok h2⟩
theorem cMet_ok (hG : (G K).K = K) {m : Nat} {tb : List (Nat × Nat)} (h : cMet G m tb K = true) : ∀ p ∈ tb, Cls (G K).K ((G K).ca p.1) ∧ Meth (G K).K ((G K).ca p.1) ((G K).nm m) ((G K).fa p.2) := fun p hp => by
  obtain ⟨h1, h2⟩ := He.ba (List.all_eq_true.mp h p hp)
  rw [hG]
  exact ⟨clsB_ok h1, methB_ok h2⟩
theorem cMk_ok (hG : (G K).K = K) {c f : Nat} (h : cMk G c f K = true) : Mk (G K).K ((G K).ca c) ((G K).fa f) := by
  obtain ⟨h1, h⟩ := He.ba h
  obtain ⟨h2, h⟩ := He.ba h
  obtain ⟨h3, h4⟩ := He.ba h
  rw [hG]
  exact ⟨h1, eqO_ok h2, h3, h4⟩
theorem cSpc_ok (hG : (G K).K = K) {tb : List (Nat × Nat)} {m : Str} (h : cSpc G tb m K = true) : ∀ p ∈ tb, Spc (G K).K ((G K).ca p.1) ((G K).fa p.2) m ∧ PySem.W.fnIn (G K).K ((G K).fa p.2) = true := fun p hp => by
  obtain ⟨h1, h2⟩ := He.ba (List.all_eq_true.mp h p hp)
  obtain ⟨h2, h3⟩ := He.ba h2
  rw [hG]
  exact ⟨⟨eqO_ok h1, h2⟩, h3⟩
def ownIn (cs : List Nat) : TyN → Bool
  | .own c => cs.contains c
  | _ => true
theorem ownIn_ok {cs : List Nat} {c : Nat} (h : ownIn cs (.own c) = true) : c ∈ cs := by
  have h : cs.contains c = true := h
  simpa using h
theorem cEq_ok (hG : (G K).K = K) {tb : List (Nat × Nat)} {tys : List TyN} {cs : List Nat} (h1 : cSpc G tb "__eq__" K = true) (h2 : cNe G tb K = true) (h3 : cNf G tb tys K = true) (h4 : cCls G cs K = true) (h5 : (tys.all fun t => ownIn cs t) = true) : EqT (G K) tb tys := by
  refine ⟨fun p hp => (cSpc_ok hG h1 p hp).1, fun p hp => ?_, fun p hp t ht => ?_, fun c hc => cCls_ok hG h4 c (ownIn_ok (List.all_eq_true.mp h5 _ hc))⟩
  · obtain ⟨a, b⟩ := He.ba (List.all_eq_true.mp h2 p hp)
    rw [hG]
    exact ⟨eqO_ok a, of_decide_eq_true b⟩
  · rw [hG]
    exact List.all_eq_true.mp (List.all_eq_true.mp h3 p hp) t ht
theorem cKit_ok (hG : (G K).K = K) {tb : List (TyN × Bool)} {cu : PySem.W.Frag → Value} {cs : List Nat} (h1 : cKit G tb cu K = true) (h4 : cCls G cs K = true) (h5 : (tb.all fun p => ownIn cs p.1) = true) : ∀ t b, (t, b) ∈ tb → PySem.W.kitOne (G K).K (t.val (G K)) (cu K) = some b ∧ ∀ c, t = .own c → ClsI (G K) c := fun t b hm => by
  refine ⟨?_, fun c hc => ?_⟩
  · rw [hG]
    exact of_decide_eq_true (List.all_eq_true.mp h1 (t, b) hm)
  · subst hc
    exact cCls_ok hG h4 c (ownIn_ok (List.all_eq_true.mp h5 _ hm))
theorem cKitT_ok (hG : (G K).K = K) {tb : List (TyN × Bool)} {cus : PySem.W.Frag → List Value} {cs : List Nat} (h1 : cKitT G tb cus K = true) (h4 : cCls G cs K = true) (h5 : (tb.all fun p => ownIn cs p.1) = true) : ∀ t b, (t, b) ∈ tb → PySem.W.kitAny (G K).K (t.val (G K)) (cus K) = some b ∧ ∀ c, t = .own c → ClsI (G K) c := fun t b hm => by
  refine ⟨?_, fun c hc => ?_⟩
  · rw [hG]
    exact of_decide_eq_true (List.all_eq_true.mp h1 (t, b) hm)
  · subst hc
    exact cCls_ok hG h4 c (ownIn_ok (List.all_eq_true.mp h5 _ hm))
end
section
variable {P : Program} {w : World} {K : PySem.W.Frag} {mg : Str → Option Value} {base : Heap} {G : Gam}
theorem spF_np {T : Nat → Option FnB} {n f np : Nat} {b : FnB} {vs : List V} {H : Hp} {Q : VK} {E : XK} (hT : T f = some b) (h : spF G (callF T (n + 1)) f np vs H Q E) : np = b.np := by
  obtain ⟨F, r, S, g, n0, args, hr, q, l, h⟩ := h
  have h : (match (match T f with
    | some b => runB b (callF T n) args n0 S
    | none => R.no) with
    | .ok v S' => ∀ F' r' H' u, Ext F F' r r' → HR G n0 g F' r' S' H' → RV G F' r' v u → Q u H'
    | .ex c pl S' => ∀ F' r' H', Ext F F' r r' → HR G n0 g F' r' S' H' → XE E (.ref (G.ca c)) pl H'
    | .no => False) := h
  rw [hT] at h
  simp only [runB] at h
  by_cases hl : args.length = b.np
  · rw [← l, hl]
  · rw [if_neg hl] at h
    exact h.elim
theorem spF_none {T : Nat → Option FnB} {n f np : Nat} {vs : List V} {H : Hp} {Q : VK} {E : XK} (hT : T f = none) (h : spF G (callF T n) f np vs H Q E) : False := by
  obtain ⟨F, r, S, g, n0, args, hr, q, l, h⟩ := h
  cases n with
  | zero => exact h
  | succ n =>
    have h : (match (match T f with
      | some b => runB b (callF T n) args n0 S
      | none => R.no) with
      | .ok v S' => ∀ F' r' H' u, Ext F F' r r' → HR G n0 g F' r' S' H' → RV G F' r' v u → Q u H'
      | .ex c pl S' => ∀ F' r' H', Ext F F' r r' → HR G n0 g F' r' S' H' → XE E (.ref (G.ca c)) pl H'
      | .no => False) := h
    rw [hT] at h
    exact h
abbrev All (P : Program) (w : World) (K : PySem.W.Frag) (mg : Str → Option Value) (base : Heap) (G : Gam) (T : Nat → Option FnB) (n : Nat) : Prop := ∀ f np, FnR P w K mg base (L2.CX P w) (4 * n) (G.fa f) (spF G (callF T n) f np)
theorem all_zero {T : Nat → Option FnB} : All P w K mg base G T 0 := fun f np A outer s H us vs Q E hr he hv hs => by
  obtain ⟨F, r, S, g, n0, args, hr, q, l, h⟩ := hs
  exact h.elim
theorem def_fn {T : Nat → Option FnB} {n f : Nat} {b : FnB} {x qual : Str} {params : Arguments} {body : List Stmt} {scope : Scope} {fd : FuncData} {N ps : List Str} (hT : T f = some b) (F : FunD K x qual params body scope [] [] (G.fa f) fd) (S : FnScope N ps scope) (hn : b.nl = N.length) (hp : ps.length = b.np)
    (hbody : ∀ (cdv : Value) (A : Around) (outer : List PySem.Env) (s : Shared) (H : Hp) (E : XK) (n0 : Nat), Room (4 * n + 3) (A.deeper (envOfC qual scope s.heap.objs.size (G.fa f) cdv)) → Takes (cxOf (L2.CX P w) P w K mg base N qual scope (G.fa f) cdv A outer s H E) (fun cls d _ H => E cls d H) →
      PSs (cxOf (L2.CX P w) P w K mg base N qual scope (G.fa f) cdv A outer s H E) body (rdS G n0 E (b.body (callF T n) n0))) : FnOk P w K mg base (L2.CX P w) (4 * (n + 1)) (G.fa f) fd ps (spF G (callF T (n + 1)) f b.np) :=
  F.ok S (fun vs H Q E h => by rw [spF_len vs H Q E h, hp]) fun cdv A outer s H vs Q E hr h => by
    obtain ⟨n0, hb⟩ := body_ok hT hn h
    exact ⟨_, hbody cdv A outer s H E n0 hr (takes_of rfl rfl rfl rfl), hb⟩
theorem def_ok {T : Nat → Option FnB} {n f : Nat} {b : FnB} {x qual : Str} {params : Arguments} {body : List Stmt} {scope : Scope} {fd : FuncData} {N ps : List Str} (hT : T f = some b) (F : FunD K x qual params body scope [] [] (G.fa f) fd) (S : FnScope N ps scope) (hn : b.nl = N.length) (hp : ps.length = b.np)
    (hb : Binds K fd ps []) (hbody : ∀ (cdv : Value) (A : Around) (outer : List PySem.Env) (s : Shared) (H : Hp) (E : XK) (n0 : Nat), Room (4 * n + 3) (A.deeper (envOfC qual scope s.heap.objs.size (G.fa f) cdv)) → Takes (cxOf (L2.CX P w) P w K mg base N qual scope (G.fa f) cdv A outer s H E) (fun cls d _ H => E cls d H) →
      PSs (cxOf (L2.CX P w) P w K mg base N qual scope (G.fa f) cdv A outer s H E) body (rdS G n0 E (b.body (callF T n) n0))) : ∀ np, FnR P w K mg base (L2.CX P w) (4 * (n + 1)) (G.fa f) (spF G (callF T (n + 1)) f np) := by
  have ok := def_fn hT F S hn hp hbody
  intro np A outer s H us vs Q E hr he hv hs
  have e := spF_np hT hs
  subst e
  exact (ok.raw hb .nil) A outer s H us vs Q E hr he hv (by show spF G (callF T (n + 1)) f b.np (vs ++ []) H Q E; rw [List.append_nil]; exact hs)
end
section
variable {P : Program} {w : World} {K : PySem.W.Frag} {mg : Str → Option Value} {base : Heap} {G : Gam}
def spF0 (G : Gam) (cf : CF) (f np : Nat) : Sp := fun vs H Q _ => spF G cf f np vs H Q E0
theorem to0 {k : Nat} {f : Addr} {fd : FuncData} {ps : List Str} {sp : Sp} (F : FnOk P w K mg base (L2.CX P w) k f fd ps sp) : FnOk P w K mg base L2.CX0 k f fd ps (fun vs H Q _ => sp vs H Q E0) :=
  ⟨fun vs H Q E h => F.len vs H Q E0 h, fun A outer s H args us vs Q E hr he hb hv hs => codeAny_mono (F.run A outer s H args us vs Q E0 hr he hb hv hs) fun r s' hq => by
    cases r with
    | error e => exact (cx_none hq).elim
    | ok fl => cases fl <;> exact hq⟩
theorem law_sp {T : Nat → Option FnB} {n f : Nat} {H : Hp} {a : Addr} {ns : List Int} {S' : Store} (nol : ∀ a o, K.lookup a = some o → o.cls ≠ .type "list") (hS : SqL K H a (ns.map V.int)) (h : callF T n f [.lst (ns.map .int)] 0 [] = .ok (.bl true) S') (ht : ∀ p ∈ G.tb, LamX.TabS H p.1 p.2 := by intro p hp; cases hp) :
    spF G (callF T n) f 1 [.ref a] H (fun v _ => v = .bl true) fun _ _ _ => False := by
  have hR : Rd H a (.lst (ns.map V.int)) := by
    rcases hS with h | ⟨o, its, k, h1, h2, _⟩
    · exact h
    · exact absurd h2 (nol a o h1)
  have hF : Le (fun b => if b = a then H a else none) H := fun b o e => by
    have e : (if b = a then H a else none) = some o := e
    split at e
    · rename_i hb
      rw [hb]
      exact e
    · cases e
  refine ⟨fun b => if b = a then H a else none, [], [], ⟨fun _ => 0, fun _ => none, fun _ => false⟩, 0, [.lst (ns.map .int)], ⟨LeD.of hF, .nil, fun b hb => absurd hb (by simp), rfl, Nat.le_refl _, fun i hi => absurd hi (Nat.not_lt_zero i), fun i ob b e => absurd e (by simp), fun b o e => (by cases e), fun i ob b e => absurd e (by simp), fun b o e => (by cases e), ⟨fun p hp => ⟨ht p hp, if_neg (fun z => ?_), by simp, rfl⟩, fun b o e => ?_, fun b o e => (by cases e)⟩⟩, ⟨.ref a, [], rfl, ⟨a, ns.map V.int, rfl, ?_, RVs.of_ints ns⟩, rfl⟩, rfl, ?_⟩
  · obtain ⟨ps, h1, _⟩ := ht p hp
    rw [z] at h1
    rcases hR with h | ⟨o, h⟩ <;> rw [h1] at h <;> cases h
  · have e : (if b = a then H a else none) = some o := e
    split at e
    · rcases hR with h | ⟨o2, h⟩ <;> rw [h] at e <;> cases e <;> rfl
    · cases e
  · rcases hR with h | ⟨o, h⟩
    · exact .inl (by show (if a = a then H a else none) = _; rw [if_pos rfl]; exact h)
    · exact .inr ⟨o, by show (if a = a then H a else none) = _; rw [if_pos rfl]; exact h⟩
  · rw [h]
    exact fun F' r' H' u _ _ q => q
end
end PX
set_option Elab.async false
set_option linter.all false
set_option maxRecDepth 100000
namespace PX
open PySem PySem.Spec PyProof.Rows L2
def isFnK : ScopeKind → Bool
  | .function => true
  | _ => false
def blkB (N : List Str) (sc scope : Scope) (own : List (Str × Nat)) : Bool := isFnK scope.kind && (scope.names.all (fun y => decide (scope.names.lookup y.1 = some y.2)) && (own.all (fun p => decide (N[p.2]? = some p.1)) &&
  (scope.names.all (fun y => !decide (y.2 = .free) || (decide (sc.names.lookup y.1 = some .cell) || decide (sc.names.lookup y.1 = some .free))) &&
  scope.names.all (fun y => !(decide (y.2 = .local) || decide (y.2 = .cell)) || (decide (y.1 ∈ own.map (·.1)) || !decide (y.1 ∈ N))))))
theorem blk_ok {N : List Str} {sc scope : Scope} {own : List (Str × Nat)} (h : blkB N sc scope own = true) : BlkOk N sc scope own := by
  unfold blkB at h
  simp only [Bool.and_eq_true, List.all_eq_true, Bool.or_eq_true, Bool.not_eq_true', decide_eq_true_eq, decide_eq_false_iff_not, Bool.or_eq_false_iff] at h
  obtain ⟨h1, h2, h3, h4, h5⟩ := h
  refine ⟨?_, fun y hy => h2 y hy, fun p hp => h3 p hp, fun y hy e => (h4 y hy).resolve_left (fun z => z e), fun y hy e => (h5 y hy).resolve_left (fun z => ?_)⟩
  · cases hk : scope.kind with
    | function => rfl
    | _ => rw [hk] at h1; cases h1
  · rcases e with e | e
    · exact z.1 e
    · exact z.2 e
section
variable {X : Cx} {G : Gam} {n0 : Nat}
theorem ch_core {o o' : Op2} {t t' : R2} {fa fb fc : SE} (ho : Ok2 G o t) (ho' : Ok2 G o' t') (σ : L2.St) (H : Hp) (Q : VK) (hh : rdE G n0 (eCh o o' fa fb fc) σ H Q) : tChain t t' (rdV G n0 fa) (rdV G n0 fb) (rdV G n0 fc) σ H Q := by
  obtain ⟨F, r, env, S, g, s, h⟩ := hh
  refine stV s cnE h fun p S1 F1 r1 H1 u x1 s1 q1 h1 => ?_
  refine stV s1 cnE h1 fun q S2 F2 r2 H2 v x2 s2 q2 h2 => ?_
  split at h2
  · rename_i eo
    refine ho n0 g F2 r2 S2 H2 p.2 q.2 u v _ _ s2.hr (q1.ext x2) q2 eo fun F3 r3 H3 w x3 hr3 rf => ⟨true, rf, ?_⟩
    refine stV (s2.ext x3 hr3) cnE h2 fun z S4 F4 r4 H4 w' x4 s4 q4 h4 => ?_
    exact endO (T := fun Q => t' v w' H4 Q) s4 (((x1.trans x2).trans x3).trans x4) h4 fun z' ez k => ho' n0 g F4 r4 S4 H4 q.2 z.2 v w' z' Q s4.hr (q2.ext (x3.trans x4)) q4 ez k
  · rename_i eo
    refine ho n0 g F2 r2 S2 H2 p.2 q.2 u v _ _ s2.hr (q1.ext x2) q2 eo fun F3 r3 H3 w x3 hr3 rf => ⟨false, rf, ?_⟩
    exact h2 F3 r3 H3 _ ((x1.trans x2).trans x3) (s2.ext x3 hr3) rfl
  · exact h2.elim
theorem st_ch {o1 o2 : CmpOp} {o o' : Op2} {t t' : R2} {a b c : Expr} {fa fb fc : SE} {pos : Pos} (hop : OpR X (compareOp o1) t) (ho : Ok2 G o t) (hop' : OpR X (compareOp o2) t') (ho' : Ok2 G o' t') (ha : PE X a (rdE G n0 fa)) (hb : PE X b (rdE G n0 fb)) (hc : PE X c (rdE G n0 fc))
    (hm : lastMarks [o1, o2] [b, c] = false := by with_unfolding_all rfl) : PT X (.Compare a [o1, o2] [b, c] pos) (rdT G n0 (tBl (eCh o o' fa fb fc))) :=
  st_of (pt_chain hop hop' (toV ha) (toV hb) (toV hc) hm) (ch_core ho ho')
end
theorem FunD_binds {K : PySem.W.Frag} {x qual : Str} {params : Arguments} {body : List Stmt} {scope : Scope} {f : Addr} {fd : FuncData} {ps : List Str} (F : FunD K x qual params body scope [] [] f fd)
    (h : ∀ (kV doc pm : Value) (an : Option Addr) (cdv ct : Value) (us : List Value), us.length = ps.length → bindArgs (PySem.W.fnOf x qual params body scope .none kV doc pm an cdv ct) ⟨us, []⟩ = pure (ps.zip us)) : Binds K fd ps [] := fun s us _ hl => by
  rw [List.append_nil] at hl ⊢
  exact F.bindsA h s us hl
end PX
set_option Elab.async false
set_option linter.all false
set_option maxRecDepth 100000
set_option maxHeartbeats 1000000
namespace PX
open PySem PySem.Spec PyProof.Rows L2
def flatP : PV → Bool
  | .non => true
  | .bl _ => true
  | .int _ => true
  | .str _ => true
  | _ => false
def eqP : PV → PV → Bool
  | .non, .non => true
  | .bl a, .bl b => a == b
  | .bl a, .int b => (if a then 1 else 0) == b
  | .int a, .bl b => a == (if b then 1 else 0)
  | .int a, .int b => a == b
  | .str a, .str b => a == b
  | _, _ => false
def flatsP : List PV → Bool
  | [] => true
  | v :: vs => flatP v && flatsP vs
def anyP (x : PV) : List PV → Bool
  | [] => false
  | v :: vs => eqP v x || anyP x vs
def memP (S : Store) (x y : PV) : Option Bool := match deref S y with
  | some (.dct ks vs) => match keyOf x with
    | some q => match dGet ks vs q with
      | some o => some o.isSome
      | none => none
    | none => none
  | _ => match itemsOf S y with
    | some ys => if flatP x && flatsP ys then some (anyP x ys) else match toD S 6 x with
      | some d => match toD S 6 y with
        | some (.list ds) => some (ds.any fun z => PyData.eqv z d)
        | some (.tuple ds) => some (ds.any fun z => PyData.eqv z d)
        | _ => none
      | none => none
    | none => none
def oNotIn : Op2 := fun x y S => (memP S x y).map fun b => (false, .bl (!b))
section
variable {X : Cx} {G : Gam} {n0 : Nat} {g : Gh} {F : Hp} {r : List Addr} {S : Store} {H : Hp}
theorem flat_ok {v : PV} {u : V} (q : RV G F r v u) (h : flatP v = true) : flatV u = true := by
  cases v <;> first | (cases q; rfl) | cases h
theorem flats_ok : ∀ {vs : List PV} {us : List V}, RVs G F r vs us → flatsP vs = true → us.all flatV = true
  | [], us, q, _ => by
    cases (show us = [] from q)
    rfl
  | v :: vs, us, q, h => by
    obtain ⟨u, ur, rfl, k, l⟩ := q
    simp only [flatsP, Bool.and_eq_true] at h
    rw [List.all_cons, flat_ok k h.1, flats_ok l h.2]
    rfl
theorem eqP_ok {v w : PV} {u y : V} (q : RV G F r v u) (k : RV G F r w y) (h : flatP v = true) (h2 : flatP w = true) : eqP v w = eqV u y := by
  cases v <;> cases w <;> first | (cases q; cases k; rfl) | (simp [flatP] at h; done) | (simp [flatP] at h2; done)
theorem anyP_ok {x : PV} {y : V} (q : RV G F r x y) (h : flatP x = true) : ∀ {vs : List PV} {us : List V}, RVs G F r vs us → flatsP vs = true → anyP x vs = inV y us
  | [], us, k, _ => by
    cases (show us = [] from k)
    rfl
  | v :: vs, us, k, h2 => by
    obtain ⟨u, ur, rfl, k1, k2⟩ := k
    simp only [flatsP, Bool.and_eq_true] at h2
    show (eqP v x || anyP x vs) = (eqV u y || inV y ur)
    rw [eqP_ok k1 q h2.1 h, anyP_ok q h k2 h2.2]
def rInG (K : PySem.W.Frag) (f : Bool → Bool) : R2 := fun x y H Q => (∃ a o, y = .ref a ∧ DGet H a x o ∧ Q (.bl (f o.isSome)) H) ∨ (∃ p xs, y = .ref p ∧ (SqL K H p xs ∨ SqT K H p xs) ∧ flatV x = true ∧ xs.all flatV = true ∧ Q (.bl (f (inV x xs))) H) ∨
  (∃ d ds, Dp K H x d ∧ Dp K H y (.list ds) ∧ SeqAt.shaped d = true ∧ SeqAt.shaped (.list ds) = true ∧ Q (.bl (f (ds.any fun z => PyData.eqv z d))) H) ∨
  ∃ d ds, Dp K H x d ∧ Dp K H y (.tuple ds) ∧ SeqAt.shaped d = true ∧ SeqAt.shaped (.tuple ds) = true ∧ Q (.bl (f (ds.any fun z => PyData.eqv z d))) H
theorem canT {ds : List PyData} (h : SeqAt.shaped (.tuple ds) = true) : PyData.canLayAll0 ds = true := SeqAt.canLay_of_shaped h
theorem roomT {n : Nat} {ds : List PyData} {d : PyData} (h : SeqAt.shaped d = true) (hu : n + 65 < cLine) : n + 1 + min (PyData.depthAll ds) d.depth < cLine := by
  have h2 : d.depth ≤ 64 := by
    unfold SeqAt.shaped at h
    simp only [Bool.and_eq_true, decide_eq_true_eq] at h
    exact h.2
  omega
theorem op_notInG (hu : X.A.units + 65 < cLine) : OpR X (compareOp .NotIn) (rInG X.K fun b => !b) := by
  intro pins s σ H x y v u Q I rx ry h
  rcases h with ⟨a, o, rfl, g, q⟩ | h | h | h
  · obtain rfl : u = Value.ref a := ry
    exact d_notIn (by omega) I g rx fun s3 I3 => ⟨.bl (!o.isSome), H, I3, rfl, q⟩
  · obtain ⟨p, xs, rfl, hq, fx, fs, q⟩ := h
    exact op_notIn_seq pins s σ H x _ v u Q I rx ry ⟨p, xs, rfl, hq, fx, fs, q⟩
  · exact op_notInD hu pins s σ H x y v u Q I rx ry h
  · obtain ⟨d, ds, hd, he, sd, se, q⟩ := h
    obtain ⟨as, r1⟩ := Dp.reads I d x v hd rx
    obtain ⟨bs, r2⟩ := Dp.reads I (.tuple ds) y u he ry
    exact SeqAt.notIn_tuple_reads r2 r1 (canT se) (SeqAt.canLay_of_shaped sd) (roomT sd hu) ⟨.bl _, H, I, rfl, q⟩
theorem memP_ok (h : HR G n0 g F r S H) {x y : PV} {u v : V} {b : Bool} {f : Bool → Bool} {Q : VK} (q1 : RV G F r x u) (q2 : RV G F r y v) (e : memP S x y = some b) (k : Q (.bl (f b)) H) : rInG G.K f u v H Q := by
  unfold memP at e
  split at e
  · rename_i ks vs ed
    cases ek : keyOf x with
    | none => simp only [ek] at e; cases e
    | some q =>
      simp only [ek] at e
      cases eg : dGet ks vs q with
      | none => simp only [eg] at e; cases e
      | some o =>
        simp only [eg] at e
        cases e
        obtain ⟨a, o', rfl, gd, oo⟩ := dGet_ok h q2 ed q1 ek eg
        refine .inl ⟨a, o', rfl, gd, ?_⟩
        have : o'.isSome = o.isSome := by
          cases o with
          | none => rw [show o' = none from oo]; rfl
          | some w => obtain ⟨y, rfl, _⟩ := oo; rfl
        rw [this]
        exact k
  · cases ei : itemsOf S y with
    | none => simp only [ei] at e; cases e
    | some ys =>
      simp only [ei] at e
      split at e
      · rename_i hf
        cases e
        simp only [Bool.and_eq_true] at hf
        obtain ⟨a, us, rfl, hs, rv⟩ := view_seq h q2 ei
        exact .inr (.inl ⟨a, us, rfl, hs, flat_ok q1 hf.1, flats_ok rv hf.2, by rw [← anyP_ok q1 hf.1 rv hf.2]; exact k⟩)
      · cases e1 : toD S 6 x with
        | none => simp only [e1] at e; cases e
        | some d =>
          simp only [e1] at e
          cases e2 : toD S 6 y with
          | none => simp only [e2] at e; cases e
          | some d' =>
            simp only [e2] at e
            split at e
            · rename_i ds eds
              cases eds
              cases e
              obtain ⟨a1, a2, a3⟩ := toD_ok h 6 x u d q1 e1
              obtain ⟨b1, b2, b3⟩ := toD_ok h 6 y v _ q2 e2
              exact .inr (.inr (.inl ⟨d, ds, a1, b1, toD_shaped a2 a3 (by decide), toD_shaped b2 b3 (by decide), k⟩))
            · rename_i ds eds
              cases eds
              cases e
              obtain ⟨a1, a2, a3⟩ := toD_ok h 6 x u d q1 e1
              obtain ⟨b1, b2, b3⟩ := toD_ok h 6 y v _ q2 e2
              exact .inr (.inr (.inr ⟨d, ds, a1, b1, toD_shaped a2 a3 (by decide), toD_shaped b2 b3 (by decide), k⟩))
            · cases e
theorem ok_notIn : Ok2 G oNotIn (rInG G.K fun b => !b) := fun n0 g F r S H x y u v z Q h q1 q2 e k => by
  unfold oNotIn at e
  cases em : memP S x y with
  | none => rw [em] at e; cases e
  | some b =>
    rw [em] at e
    cases e
    exact memP_ok (f := fun b => !b) h q1 q2 em (k F r H _ (.refl F r) h rfl)
theorem units65 {cf : CF} {k : Nat} (T : Tb X G cf k) : X.A.units + 65 < cLine := by
  have := T.room.un
  omega
end
end PX
set_option Elab.async false
set_option linter.all false
set_option maxRecDepth 100000
set_option maxHeartbeats 2000000
namespace ZG
open PySem RZ
section
variable {prog : Program} {w : World} {A : Around} {E : Value → Shared → Prop} {s : Shared}
theorem zipG_item_held {b1 b2 : Bool} {z TI TO T i1 i2 l1 l2 : Addr} {f : Bool} {oT : Obj} {k1 k2 : Nat} {xs ys : Array Value} {x y : Value} {Q : Value → Shared → Prop} (D : ZipApart z TI TO i1 i2 l1 l2)
    (hz : IsZipHeld s.heap z TI TO T f) (hT : s.heap.get? T = some oT) (hTI : IsPair s.heap TI (.ref i1) (.ref i2))
    (h1 : SqIt b1 s.heap i1 l1 k1) (h2 : SqIt b2 s.heap i2 l2 k2) (hl1 : SqOb b1 s.heap l1 xs) (hl2 : SqOb b2 s.heap l2 ys) (hx : xs[k1]? = some x) (hy : ys[k2]? = some y)
    (hQ : ∀ h', IsZipHeld h' z TI TO T true → SqIt b1 h' i1 l1 (k1 + 1) → SqIt b2 h' i2 l2 (k2 + 1) → IsPair h' s.heap.objs.size x y → h'.objs.size = s.heap.objs.size + 1 →
      (∀ c o, c ≠ z → c ≠ i1 → c ≠ i2 → s.heap.get? c = some o → h'.get? c = some o) → Q (.ref s.heap.objs.size) { s with heap := h' }) :
    wpAny (model prog w) A (Builtin.«zip.__next__» ⟨[.ref z], []⟩) (fun fin s' => ∃ v, fin = .done (.ret v) ∧ Q v s') E s := by
  show wpAny _ _ (field (.ref z) 2 >>= _) _ _ _
  refine wpAny_bind (wpAny_field hz rfl (x := .bool false) rfl ?_)
  show wpAny _ _ (field (.ref z) 3 >>= _) _ _ _
  refine wpAny_bind (wpAny_field hz rfl (x := .ref TI) rfl ?_)
  refine wpAny_bind (wpAny_seqItems hTI rfl ?_)
  show wpAny _ _ (Builtin.SmallTypes.ownedTupleIsFree (.ref z) >>= _) _ _ _
  refine wpAny_bind (wpAny_tupleHeld_zip hz hT fun h₁ hz₁ hs₁ => ?_)
  simp only [Bool.false_eq_true, if_false]
  refine wpAny_bind ?_
  rw [← Array.forIn_toList]
  simp only [List.forIn_cons, List.forIn_nil]
  refine wpAny_bind (wpAny_bind (wpAny_holding ?_))
  show wpAny _ _ (Builtin.SmallTypes.nextOf (.ref i1) >>= _) _ _ _
  refine wpAny_bind (nextOf_item (s := { s with heap := h₁ }) (h1.extBut hs₁.extBut D.i1z) (hl1.extBut hs₁.extBut D.l1z) hx fun h₂ h1₂ hs₂ => wpAny_pure ?_)
  refine wpAny_pure ?_
  refine wpAny_bind (wpAny_bind (wpAny_holding ?_))
  show wpAny _ _ (Builtin.SmallTypes.nextOf (.ref i2) >>= _) _ _ _
  refine wpAny_bind (nextOf_item (s := { s with heap := h₂ }) ((h2.extBut hs₁.extBut D.i2z).extBut hs₂.extBut D.i12.symm) ((hl2.extBut hs₁.extBut D.l2z).extBut hs₂.extBut D.l2i1) hy fun h₃ h2₃ hs₃ => wpAny_pure ?_)
  refine wpAny_pure (wpAny_pure ?_)
  show wpAny _ _ (newTuple [x, y] >>= _) _ _ _
  refine wpAny_bind (wpAny_newTuple ?_)
  have hsz : h₃.objs.size = s.heap.objs.size := by rw [hs₃.1, hs₂.1, hs₁.1]
  have hz₃ : IsZipHeld h₃ z TI TO T true := hs₃.extBut _ _ D.i2z.symm (hs₂.extBut _ _ D.i1z.symm hz₁)
  have hk : ∀ c o, c ≠ z → c ≠ i1 → c ≠ i2 → s.heap.get? c = some o → h₃.get? c = some o := fun c o c1 c2 c3 e => hs₃.extBut _ _ c3 (hs₂.extBut _ _ c2 (hs₁.extBut _ _ c1 e))
  have h1₃ : SqIt b1 h₃ i1 l1 (k1 + 1) := h1₂.extBut hs₃.extBut D.i12
  refine wpAny_pure ⟨_, rfl, ?_⟩
  show Q (.ref h₃.objs.size) _
  have hp : IsPair (h₃.push { cls := .type "tuple", data := .seq #[x, y] }) h₃.objs.size x y := Heap.get?_push_size _ rfl
  have hz4 : (h₃.push { cls := .type "tuple", data := .seq #[x, y] }).objs.size = h₃.objs.size + 1 := Heap.size_push ..
  rw [hsz] at hp hz4 ⊢
  exact hQ _ (Heap.get?_push_of_some _ hz₃) (h1₃.at_ fun o e => Heap.get?_push_of_some _ e) (h2₃.at_ fun o e => Heap.get?_push_of_some _ e) hp hz4 fun c o c1 c2 c3 e => Heap.get?_push_of_some _ (hk c o c1 c2 c3 e)
theorem zipG_end_held {b1 b2 : Bool} {z TI TO T i1 i2 l1 l2 : Addr} {f : Bool} {oT : Obj} {k1 k2 : Nat} {xs ys : Array Value} {Q : Fin → Shared → Prop} (hh : A.handled = none) (D : ZipApart z TI TO i1 i2 l1 l2)
    (hz : IsZipHeld s.heap z TI TO T f) (hT : s.heap.get? T = some oT) (hTI : IsPair s.heap TI (.ref i1) (.ref i2))
    (h1 : SqIt b1 s.heap i1 l1 k1) (h2 : SqIt b2 s.heap i2 l2 k2) (hl1 : SqOb b1 s.heap l1 xs) (hl2 : SqOb b2 s.heap l2 ys) (hend : xs[k1]? = none ∨ ys[k2]? = none)
    (hE : ∀ h' e, (∀ c o, c ≠ z → c ≠ i1 → c ≠ i2 → s.heap.get? c = some o → h'.get? c = some o) → (∃ o, h'.get? e = some o ∧ o.cls = .type "StopIteration") → E (.ref e) { s with heap := h' }) :
    wpAny (model prog w) A (Builtin.«zip.__next__» ⟨[.ref z], []⟩) Q E s := by
  show wpAny _ _ (field (.ref z) 2 >>= _) _ _ _
  refine wpAny_bind (wpAny_field hz rfl (x := .bool false) rfl ?_)
  show wpAny _ _ (field (.ref z) 3 >>= _) _ _ _
  refine wpAny_bind (wpAny_field hz rfl (x := .ref TI) rfl ?_)
  refine wpAny_bind (wpAny_seqItems hTI rfl ?_)
  show wpAny _ _ (Builtin.SmallTypes.ownedTupleIsFree (.ref z) >>= _) _ _ _
  refine wpAny_bind (wpAny_tupleHeld_zip hz hT fun h₁ hz₁ hs₁ => ?_)
  simp only [Bool.false_eq_true, if_false]
  refine wpAny_bind ?_
  rw [← Array.forIn_toList]
  simp only [List.forIn_cons, List.forIn_nil]
  refine wpAny_bind (wpAny_bind (wpAny_holding ?_))
  show wpAny _ _ (Builtin.SmallTypes.nextOf (.ref i1) >>= _) _ _ _
  cases hx : xs[k1]? with
  | none =>
    refine wpAny_bind (nextOf_end (s := { s with heap := h₁ }) hh (h1.extBut hs₁.extBut D.i1z) (hl1.extBut hs₁.extBut D.l1z) hx fun h₂ e hs₂ he => ?_)
    exact hE h₂ e (fun c o c1 c2 _ x => hs₂ _ _ c2 (hs₁.extBut _ _ c1 x)) he
  | some x =>
    have hy : ys[k2]? = none := by rcases hend with h | h; rw [hx] at h; cases h; exact h
    refine wpAny_bind (nextOf_item (s := { s with heap := h₁ }) (h1.extBut hs₁.extBut D.i1z) (hl1.extBut hs₁.extBut D.l1z) hx fun h₂ h1₂ hs₂ => wpAny_pure ?_)
    refine wpAny_pure ?_
    refine wpAny_bind (wpAny_bind (wpAny_holding ?_))
    show wpAny _ _ (Builtin.SmallTypes.nextOf (.ref i2) >>= _) _ _ _
    refine wpAny_bind (nextOf_end (s := { s with heap := h₂ }) hh ((h2.extBut hs₁.extBut D.i2z).extBut hs₂.extBut D.i12.symm) ((hl2.extBut hs₁.extBut D.l2z).extBut hs₂.extBut D.l2i1) hy fun h₃ e hs₃ he => ?_)
    exact hE h₃ e (fun c o c1 c2 c3 x => hs₃ _ _ c3 (hs₂.extBut _ _ c2 (hs₁.extBut _ _ c1 x))) he
theorem pyNext_zipG_item_held {b1 b2 : Bool} {z TI TO T i1 i2 l1 l2 : Addr} {f : Bool} {oT : Obj} {k1 k2 : Nat} {xs ys : Array Value} {x y : Value} {Q : Option Value → Shared → Prop} (D : ZipApart z TI TO i1 i2 l1 l2)
    (hz : IsZipHeld s.heap z TI TO T f) (hT : s.heap.get? T = some oT) (hTI : IsPair s.heap TI (.ref i1) (.ref i2))
    (h1 : SqIt b1 s.heap i1 l1 k1) (h2 : SqIt b2 s.heap i2 l2 k2) (hl1 : SqOb b1 s.heap l1 xs) (hl2 : SqOb b2 s.heap l2 ys) (hx : xs[k1]? = some x) (hy : ys[k2]? = some y)
    (hQ : ∀ h', IsZipHeld h' z TI TO T true → SqIt b1 h' i1 l1 (k1 + 1) → SqIt b2 h' i2 l2 (k2 + 1) → IsPair h' s.heap.objs.size x y → h'.objs.size = s.heap.objs.size + 1 →
      (∀ c o, c ≠ z → c ≠ i1 → c ≠ i2 → s.heap.get? c = some o → h'.get? c = some o) → Q (some (.ref s.heap.objs.size)) { s with heap := h' }) :
    wpAny (model prog w) A (pyNext (.ref z)) Q E s := by
  have hTy : s.TypeIs (.ref z) "zip" := ⟨_, hz, rfl⟩
  unfold pyNext
  exact wpAny_bind (wpAny_attempt (wpAny_callSpecial?_slot (name := Str.ofString "__next__") hTy F.slot_zip_next
    (wpAny_call_entry F.slot_zip_next hTy F.entry_zip_next
      (zipG_item_held D hz hT hTI h1 h2 hl1 hl2 hx hy fun h' a1 a3 a4 a5 a6 a7 => wpAny_pure (hQ h' a1 a3 a4 a5 a6 a7)) (F.args_zip_next_1 _))))
theorem pyNext_zipG_end_held {b1 b2 : Bool} {z TI TO T i1 i2 l1 l2 : Addr} {f : Bool} {oT : Obj} {k1 k2 : Nat} {xs ys : Array Value} {Q : Option Value → Shared → Prop} (hh : A.handled = none) (D : ZipApart z TI TO i1 i2 l1 l2)
    (hz : IsZipHeld s.heap z TI TO T f) (hT : s.heap.get? T = some oT) (hTI : IsPair s.heap TI (.ref i1) (.ref i2))
    (h1 : SqIt b1 s.heap i1 l1 k1) (h2 : SqIt b2 s.heap i2 l2 k2) (hl1 : SqOb b1 s.heap l1 xs) (hl2 : SqOb b2 s.heap l2 ys) (hend : xs[k1]? = none ∨ ys[k2]? = none)
    (hQ : ∀ h', (∀ c o, c ≠ z → c ≠ i1 → c ≠ i2 → s.heap.get? c = some o → h'.get? c = some o) → Q none { s with heap := h' }) : wpAny (model prog w) A (pyNext (.ref z)) Q E s := by
  have hTy : s.TypeIs (.ref z) "zip" := ⟨_, hz, rfl⟩
  unfold pyNext
  refine wpAny_bind (wpAny_attempt (wpAny_callSpecial?_slot (name := Str.ofString "__next__") hTy F.slot_zip_next
    (wpAny_call_entry F.slot_zip_next hTy F.entry_zip_next (zipG_end_held hh D hz hT hTI h1 h2 hl1 hl2 hend fun h' e hk he => ?_) (F.args_zip_next_1 _))))
  obtain ⟨o, ho, hc⟩ := he
  refine wpAny_bind (wpAny_isInstance (T := "StopIteration") (b := true) ⟨o, ho, hc⟩ isSubtype_stop ?_)
  exact wpAny_pure (hQ _ hk)
end
theorem zip_no_len : typeLookup (.type "zip") "__len__" = pure none := am_miss_of_fast (by decide +kernel)
theorem zip_no_hint : typeLookup (.type "zip") "__length_hint__" = pure none := am_miss_of_fast (by decide +kernel)
end ZG
namespace PX
open PySem PySem.Spec PyProof.Rows L2 ZG
def ZSt (H : Hp) (h : Heap) (z TI TO : Addr) : Prop := (∃ x y, IsPair h TO x y) ∧ (IsZip h z TI TO .none ∨ ∃ T f us, IsZipHeld h z TI TO T f ∧ H T = some (.tup us))
theorem SqG.le {K : PySem.W.Frag} {b : Bool} {H H' : Hp} {a : Addr} {xs : List V} (q : SqG b K H a xs) (k : Le H H') : SqG b K H' a xs := by
  cases b with
  | true => exact k.sqT q
  | false => exact k.sqL q
structure ZDone (H0 H' : Hp) (S : Addr) (xs ys : List V) (ts : List Addr) : Prop where
  keep : ∀ c o, H0 c = some o → H' c = some o
  new : H0 S = none
  lst : H' S = some (.lst (ts.map V.ref))
  len : ts.length = min xs.length ys.length
  tup : ∀ (k : Nat) t, ts[k]? = some t → ∃ x y, xs[k]? = some x ∧ ys[k]? = some y ∧ H' t = some (.tup [x, y]) ∧ H0 t = none
section
variable {X : Cx} {pins : List (Addr × Obj)} {σ : L2.St}
theorem drainZ {A : Around} {R : Result → Shared → Prop} {b1 b2 : Bool} {a b z TI TO i1 i2 S : Addr} {xs ys : List V} {res : Value} {H0 : Hp} (hh : A.handled = none) (D : ZipApart z TI TO i1 i2 a b) (hS : S ∉ [z, TI, TO, i1, i2]) (hn : xs.length ≤ 1000000) (h0 : H0 S = none) (hqx0 : SqG b1 X.K H0 a xs) (hqy0 : SqG b2 X.K H0 b ys)
    (hR : ∀ s' H' ts, Inv X pins σ H' s' → ZDone H0 H' S xs ys ts → R (.ok (.ret res)) s') :
    ∀ (m : Nat) (s : Shared) (H : Hp) (ts : List Addr), min xs.length ys.length - ts.length = m → ts.length ≤ min xs.length ys.length → Inv X pins σ H s → (∀ c ∈ [z, TI, TO, i1, i2], FpOk X pins H c) → ZSt H s.heap z TI TO → IsPair s.heap TI (.ref i1) (.ref i2) →
      SqIt b1 s.heap i1 a ts.length → SqIt b2 s.heap i2 b ts.length → H S = some (.lst (ts.map V.ref)) → (∀ c o, H0 c = some o → H c = some o) →
      (∀ (k : Nat) t, ts[k]? = some t → ∃ x y, xs[k]? = some x ∧ ys[k]? = some y ∧ H t = some (.tup [x, y]) ∧ H0 t = none) →
      codeAny (model X.prog X.w) A (.builtin "list.extend.loop" ⟨[.ref S, .ref z, res], []⟩) R s := by
  intro m
  induction m with
  | zero =>
    intro s H ts hm hl I hf hz hTI h1 h2 hS' hk ht
    have hqx := hqx0.le hk
    have hqy := hqy0.le hk
    refine codeAny_builtin F.entry_extend_loop ?_
    rw [Around.under_plainId F.plain_extend_loop _]
    show wpAny _ A.in1 (pyNext (.ref z) >>= _) _ _ s
    obtain ⟨its, rv, p, _⟩ := Inv.sqG I hqx
    obtain ⟨its2, rv2, p2, _⟩ := Inv.sqG I hqy
    have l1 := rv.length
    have l2 := rv2.length
    have he : its.toArray[ts.length]? = none ∨ its2.toArray[ts.length]? = none := by
      simp only [List.getElem?_toArray, List.getElem?_eq_none_iff]
      omega
    have fin : ∀ h', (∀ c o, c ∉ [z, TI, TO, i1, i2] → s.heap.get? c = some o → h'.get? c = some o) → R (.ok (.ret res)) { s with heap := h' } := fun h' hk' =>
      hR _ H ts (I.turnedL (t' := s.toks) (ch := [z, TI, TO, i1, i2]) hk' hf) ⟨hk, h0, hS', by omega, ht⟩
    obtain ⟨⟨x0, y0, hTO⟩, hz | ⟨T, f, us, hz, hT⟩⟩ := hz
    · exact wpAny_bind (pyNext_zipG_end hh D hz hTI hTO h1 h2 p p2 he fun h' hk' => wpAny_pure (fin h' fun c o hb q => hk' c o (fun q' => hb (by simp [q'])) (fun q' => hb (by simp [q'])) (fun q' => hb (by simp [q'])) (fun q' => hb (by simp [q'])) q))
    · obtain ⟨_, oT⟩ := (I.hok T _ hT)
      obtain ⟨itsT, _, ⟨oo, hoo, _⟩⟩ := oT
      exact wpAny_bind (pyNext_zipG_end_held hh D hz hoo hTI h1 h2 p p2 he fun h' hk' => wpAny_pure (fin h' fun c o hb q => hk' c o (fun q' => hb (by simp [q'])) (fun q' => hb (by simp [q'])) (fun q' => hb (by simp [q'])) q))
  | succ m ih =>
    intro s H ts hm hl I hf hz hTI h1 h2 hS' hk ht
    have hqx := hqx0.le hk
    have hqy := hqy0.le hk
    refine codeAny_builtin F.entry_extend_loop ?_
    rw [Around.under_plainId F.plain_extend_loop _]
    show wpAny _ A.in1 (pyNext (.ref z) >>= _) _ _ s
    obtain ⟨its, rv, p, _⟩ := Inv.sqG I hqx
    obtain ⟨its2, rv2, p2, _⟩ := Inv.sqG I hqy
    have l1 := rv.length
    have l2 := rv2.length
    have hx0 : ts.length < xs.length := by omega
    have hy0 : ts.length < ys.length := by omega
    have hx : xs[ts.length]? = some xs[ts.length] := List.getElem?_eq_getElem hx0
    have hy : ys[ts.length]? = some ys[ts.length] := List.getElem?_eq_getElem hy0
    obtain ⟨u, hu, ru⟩ := rv.get hx
    obtain ⟨u2, hu2, ru2⟩ := rv2.get hy
    have fpl : ∀ c ∈ [z, TI, TO, i1, i2], H c = none := fun c hc => (hf c hc).1
    obtain ⟨⟨x0, y0, hTO⟩, hz⟩ := hz
    have hzl : z < s.heap.objs.size := by
      rcases hz with hz | ⟨T, f, us, hz, _⟩
      · exact Heap.lt_size hz
      · exact Heap.lt_size hz
    -- behind the pair
    have step : ∀ h', (∃ x y, IsPair h' TO x y) → (IsZipHeld h' z TI TO s.heap.objs.size false ∨ (∃ T f us, IsZipHeld h' z TI TO T f ∧ H T = some (.tup us))) → SqIt b1 h' i1 a (ts.length + 1) → SqIt b2 h' i2 b (ts.length + 1) → IsPair h' s.heap.objs.size u u2 → h'.objs.size = s.heap.objs.size + 1 →
        (∀ c o, c ∉ [z, TO, i1, i2] → s.heap.get? c = some o → h'.get? c = some o) → wpAny (model X.prog X.w) A.in1 (updateSeq S (·.push (.ref s.heap.objs.size)) >>= fun _ => again (.builtin "list.extend.loop" ⟨[.ref S, .ref z, res], []⟩))
          (fun fin s' => match fin with | .done f => R (.ok f) s' | .again c' => c'.quiet = true ∧ codeAny (model X.prog X.w) A c' R s') (fun e s' => R (.error e) s') { s with heap := h' } := by
      intro h' hTO' hz' h1' h2' hT hsz hk'
      have hTn : H s.heap.objs.size = none := I.hok.fresh (Nat.le_refl _)
      have new : ObjOk X.prog X.w (upd H s.heap.objs.size (.tup [xs[ts.length], ys[ts.length]])) h' s.heap.objs.size (.tup [xs[ts.length], ys[ts.length]]) :=
        ⟨by show 2 ≤ sizeLine; decide, [u, u2], .cons ru (.cons ru2 .nil), ⟨_, hT, rfl, _, rfl⟩⟩
      have I1 : Inv X pins σ (upd H s.heap.objs.size (.tup [xs[ts.length], ys[ts.length]])) { s with heap := h' } :=
        I.turnedNew (t' := s.toks) (ch := [z, TI, TO, i1, i2]) (fun c o hb q => hk' c o (fun z => hb (by simp only [List.mem_cons, List.not_mem_nil, or_false] at z ⊢; rcases z with z | z | z | z <;> simp [z])) q) hf (Nat.le_refl _) new
      have hST : S ≠ s.heap.objs.size := fun e => by rw [e, hTn] at hS'; cases hS'
      have hS1 : (upd H s.heap.objs.size (.tup [xs[ts.length], ys[ts.length]])) S = some (.lst (ts.map V.ref)) := by rw [upd_ne hST]; exact hS'
      obtain ⟨z1, itsS, n, rS, hlS, eS⟩ := I1.lstM hS1
      have hits : itsS.length ≤ 1000000 := by
        rw [← rS.length, List.length_map]; omega
      refine wpAny_bind (wpAny_updateSeq eS rfl (wpAny_pure ⟨plainId_quiet F.plain_extend_loop _, ?_⟩) (by rw [List.size_toArray, sizeLine_eq]; omega) (by show (itsS.toArray.push _).size ≤ sizeLine + 1; rw [Array.size_push, List.size_toArray, sizeLine_eq]; omega))
      have I2 := I1.lset (its' := itsS ++ [.ref s.heap.objs.size]) (ys := (ts ++ [s.heap.objs.size]).map V.ref) (f := (·.push (.ref s.heap.objs.size))) (t' := s.toks) hS1 eS (by simp) (by rw [List.map_append]; exact rS.append (.cons rfl .nil)) (by rw [List.length_map, List.length_append, List.length_singleton, sizeLine_eq]; omega)
      have hne : ∀ {c : Addr}, c ∈ [z, TI, TO, i1, i2] → c ≠ s.heap.objs.size ∧ c ≠ S := fun {c} hc => ⟨fun e => by
        have hlt : c < s.heap.objs.size := by
          simp only [List.mem_cons, List.not_mem_nil, or_false] at hc
          rcases hc with q | q | q | q | q
          · rw [q]; exact hzl
          · rw [q]; exact Heap.lt_size hTI
          · rw [q]
            exact Heap.lt_size hTO
          · rw [q]; exact h1.lt
          · rw [q]; exact h2.lt
        exact absurd hlt (by rw [e]; exact Nat.lt_irrefl _), fun e => hS (e ▸ hc)⟩
      have ot : ∀ c o, c ≠ S → h'.get? c = some o → (h'.update S (Obj.mapSeq (·.push (.ref s.heap.objs.size)))).get? c = some o := fun c o hc e => (Heap.get?_update_other _ _ (Ne.symm hc)).trans e
      have oc : ∀ {c : Addr} {o : HO}, H c = some o → c ≠ S → (upd (upd H s.heap.objs.size (.tup [xs[ts.length], ys[ts.length]])) S (.lst ((ts ++ [s.heap.objs.size]).map V.ref))) c = some o := fun {c o} e hc => by
        rw [upd_ne hc, upd_ne (fun q => by rw [q, hTn] at e; cases e)]
        exact e
      refine ih _ _ (ts ++ [s.heap.objs.size]) (by rw [List.length_append, List.length_singleton]; omega) (by rw [List.length_append, List.length_singleton]; omega) I2 (fun c hc => ⟨?_, (hf c hc).2⟩) ⟨?_, ?_⟩ ?_ ?_ ?_ upd_same (fun c o e => ?_) (fun k t e => ?_)
      · rw [upd_ne (hne hc).2, upd_ne (hne hc).1]
        exact (hf c hc).1
      · obtain ⟨x1, y1, e⟩ := hTO'
        exact ⟨x1, y1, ot _ _ (hne (c := TO) (by simp)).2 e⟩
      · rcases hz' with e | ⟨T, f, us, e, eT⟩
        · exact .inr ⟨_, false, _, ot _ _ (hne (c := z) (by simp)).2 e, by rw [upd_ne (Ne.symm hST)]; exact upd_same⟩
        · exact .inr ⟨T, f, us, ot _ _ (hne (c := z) (by simp)).2 e, oc eT fun q => by rw [q, hS'] at eT; cases eT⟩
      · exact ot _ _ (hne (c := TI) (by simp)).2 (hk' _ _ (fun q => by simp only [List.mem_cons, List.not_mem_nil, or_false] at q; rcases q with q | q | q | q <;> first | exact D.TIz q | exact D.TITO q | exact D.TIi1 q | exact D.TIi2 q) hTI)
      · rw [List.length_append, List.length_singleton]
        exact h1'.at_ fun o e => ot _ _ (hne (c := i1) (by simp)).2 e
      · rw [List.length_append, List.length_singleton]
        exact h2'.at_ fun o e => ot _ _ (hne (c := i2) (by simp)).2 e
      · exact oc (hk c o e) fun q => by rw [q, h0] at e; cases e
      · by_cases hkl : k < ts.length
        · rw [List.getElem?_append_left hkl] at e
          obtain ⟨x1, y1, e1, e2, e3, e4⟩ := ht k t e
          exact ⟨x1, y1, e1, e2, oc e3 (fun q => by rw [q, hS'] at e3; cases e3), e4⟩
        · have hlt := (List.getElem?_eq_some_iff.mp e).1
          rw [List.length_append, List.length_singleton] at hlt
          have hkk : k = ts.length := by omega
          subst hkk
          rw [List.getElem?_append_right (Nat.le_refl _), Nat.sub_self] at e
          cases e
          refine ⟨_, _, hx, hy, by rw [upd_ne (Ne.symm hST)]; exact upd_same, ?_⟩
          cases e0 : H0 s.heap.objs.size with
          | none => rfl
          | some o => rw [hk _ _ e0] at hTn; cases hTn
    have hux : its.toArray[ts.length]? = some u := by simpa using hu
    have huy : its2.toArray[ts.length]? = some u2 := by simpa using hu2
    rcases hz with hz | ⟨T, f, us, hz, hT⟩
    · refine wpAny_bind (pyNext_zipG_item D hz hTI hTO h1 h2 p p2 hux huy fun h' a1 a2 a3 a4 a5 a6 a7 => ?_)
      exact step h' ⟨_, _, a2⟩ (.inl a1) a3 a4 a5 a6 fun c o hc e => a7 c o (fun q => hc (by simp [q])) (fun q => hc (by simp [q])) (fun q => hc (by simp [q])) (fun q => hc (by simp [q])) e
    · obtain ⟨_, oT⟩ := (I.hok T _ hT)
      obtain ⟨itsT, _, ⟨oo, hoo, _⟩⟩ := oT
      refine wpAny_bind (pyNext_zipG_item_held D hz hoo hTI h1 h2 p p2 hux huy fun h' a1 a3 a4 a5 a6 a7 => ?_)
      exact step h' ⟨x0, y0, a7 TO _ D.TOz D.TOi1 D.TOi2 hTO⟩ (.inr ⟨T, true, us, a1, hT⟩) a3 a4 a5 a6 fun c o hc e => a7 c o (fun q => hc (by simp [q])) (fun q => hc (by simp [q])) (fun q => hc (by simp [q])) e
theorem call_list_zip {A : Around} {Q : Value → Shared → Prop} {E : Value → Shared → Prop} {b1 b2 : Bool} {a b z TI TO i1 i2 : Addr} {xs ys : List V} {s : Shared} {H : Hp} (hh : A.handled = none) (D : ZipApart z TI TO i1 i2 a b) (hn : xs.length ≤ 1000000)
    (I : Inv X pins σ H s) (hf : ∀ c ∈ [z, TI, TO, i1, i2], FpOk X pins H c) (hz : IsZip s.heap z TI TO .none) (hTI : IsPair s.heap TI (.ref i1) (.ref i2)) (hTO : ∃ x y, IsPair s.heap TO x y) (h1 : SqIt b1 s.heap i1 a 0) (h2 : SqIt b2 s.heap i2 b 0) (hqx : SqG b1 X.K H a xs) (hqy : SqG b2 X.K H b ys)
    (hQ : ∀ S s' H' ts, Inv X pins σ H' s' → ZDone H H' S xs ys ts → Q (.ref S) s') : wpAny (model X.prog X.w) A (call (.type "list") [.ref z]) Q E s := by
  have hSf : ∀ {c : Addr}, c ∈ [z, TI, TO, i1, i2] → c < s.heap.objs.size := fun {c} hc => by
    simp only [List.mem_cons, List.not_mem_nil, or_false] at hc
    obtain ⟨x0, y0, hTO⟩ := hTO
    rcases hc with q | q | q | q | q
    · rw [q]; exact Heap.lt_size hz
    · rw [q]; exact Heap.lt_size hTI
    · rw [q]; exact Heap.lt_size hTO
    · rw [q]; exact h1.lt
    · rw [q]; exact h2.lt
  have hSn : s.heap.objs.size ∉ [z, TI, TO, i1, i2] := fun hm => Nat.lt_irrefl _ (hSf hm)
  have hSz : s.heap.objs.size ≠ z := fun e => hSn (by simp [e])
  have hS0 : H s.heap.objs.size = none := I.hok.fresh (Nat.le_refl _)
  refine callType_codes (Q₁ := fun obj s₁ => obj = .ref s.heap.objs.size ∧ s₁ = { s with heap := s.heap.push { cls := .type "list", data := .seq #[] } }) F.called_list (F.typeCall_list_1 _) F.entry_list_init
    (code_list_new _ ⟨rfl, rfl⟩) fun obj s₁ h₁ => ?_
  obtain ⟨rfl, rfl⟩ := h₁
  have hS : (s.heap.push { cls := .type "list", data := .seq #[] }).get? s.heap.objs.size = some { cls := .type "list", data := .seq #[] } := Heap.get?_push_size _ rfl
  have I0 : Inv X pins σ (upd H s.heap.objs.size (.lst [])) { s with heap := s.heap.push { cls := .type "list", data := .seq #[] } } := I.lnew (its := []) (t' := s.toks) .nil (Nat.zero_le _)
  refine ⟨⟨_, hS, rfl⟩, F.args_list_init_2 _ _, ?_⟩
  show wpAny _ A.in1.in1 (do let old ← Builtin.List.listItems (.ref s.heap.objs.size); Builtin.List.listUpdate (.ref s.heap.objs.size) (fun _ => #[]); letGo old.toList.reverse; Builtin.List.listExtendWith (.ref s.heap.objs.size) (.ref z) .none) _ _ _
  refine wpAny_bind ?_
  unfold Builtin.List.listItems
  refine wpAny_bind (wpAny_seqItems hS rfl (wpAny_pure ?_))
  show wpAny _ A.in1.in1 (updateSeq s.heap.objs.size (fun _ => #[]) >>= fun _ => letGo (#[] : Array Value).toList.reverse >>= fun _ => Builtin.List.listExtendWith (.ref s.heap.objs.size) (.ref z) .none) _ _ _
  have I1 := I0.lset (its := []) (its' := []) (ys := []) (f := fun _ => (#[] : Array Value)) (t' := s.toks) upd_same hS rfl .nil (Nat.zero_le _)
  refine wpAny_bind (wpAny_updateSeq hS rfl ?_)
  have hS2 := Heap.get?_update_self (Obj.mapSeq (fun _ => (#[] : Array Value))) hS rfl
  refine wpAny_bind (wpAny_letGo ?_)
  unfold Builtin.List.listExtendWith
  have up : ∀ (h : Heap) (f : Obj → Obj), (∀ b o, s.heap.get? b = some o → h.get? b = some o) → ∀ b o, s.heap.get? b = some o → (h.update s.heap.objs.size f).get? b = some o := fun h f q b o e =>
    (Heap.get?_update_other _ _ (Ne.symm (Nat.ne_of_lt (Heap.lt_size e)))).trans (q b o e)
  have k1 : ∀ b o, s.heap.get? b = some o → (s.heap.push { cls := .type "list", data := .seq #[] }).get? b = some o := fun b o e => Heap.get?_push_of_some _ e
  have k2 := up _ (Obj.mapSeq (fun _ => (#[] : Array Value))) k1
  have zty : ∀ {h : Heap}, (∀ b o, s.heap.get? b = some o → h.get? b = some o) → ∀ g d t os, Shared.TypeIs ⟨h, g, d, t, os⟩ (.ref z) "zip" := fun {h} q g d t os => ⟨_, q _ _ hz, rfl⟩
  refine wpAny_bind (wpAny_typeOf (zty k2 _ _ _ _) ?_)
  have e1 : Builtin.List.listSameRef (.ref s.heap.objs.size) (.ref z) = false := by simp [Builtin.List.listSameRef, hSz]
  have e2 : (Value.type "zip" == Value.type "list") = false := by decide
  have e3 : (Value.type "zip" == Value.type "tuple") = false := by decide
  simp only [e1, e2, e3, Bool.or_false, Bool.false_eq_true, if_false]
  refine wpAny_bind (wpAny_pyIter_zip (s := { s with heap := _ }) (k2 _ _ hz) ?_)
  refine wpAny_bind (wpAny_holding ?_)
  unfold Builtin.List.listLengthHint
  refine wpAny_bind (wpAny_specialOf (zty k2 _ _ _ _) zip_no_len ?_)
  show wpAny _ A.in1.in1 (specialOf (Value.ref z) (Str.ofString "__length_hint__") >>= _) _ _ _
  refine wpAny_bind (wpAny_specialOf (zty k2 _ _ _ _) zip_no_hint ?_)
  refine wpAny_pure ?_
  show wpAny _ A.in1.in1 (rule "list.extend.makes-room" >>= fun _ => Builtin.List.listTouch (.ref s.heap.objs.size) >>= fun _ =>
    again (.builtin "list.extend.loop" ⟨[.ref s.heap.objs.size, .ref z, .none], []⟩)) _ _ _
  refine wpAny_bind (wpAny_rule ?_)
  refine wpAny_bind ?_
  show wpAny _ A.in1.in1 (updateSeq s.heap.objs.size (·.push .none) >>= fun _ => updateSeq s.heap.objs.size (·.pop)) _ _ _
  have I2 := I1.lset (its := []) (its' := [.none]) (ys := [.non]) (f := (·.push Value.none)) (t' := s.toks) upd_same hS2 rfl (.cons rfl .nil) (by decide)
  refine wpAny_bind (wpAny_updateSeq hS2 rfl ?_)
  have hS3 := Heap.get?_update_self (Obj.mapSeq (·.push Value.none)) hS2 rfl
  have I3 := I2.lset (its := [.none]) (its' := []) (ys := []) (f := (·.pop)) (t' := s.toks) upd_same hS3 rfl .nil (Nat.zero_le _)
  refine wpAny_updateSeq (hz := by seq_fits) hS3 rfl ?_
  have k4 := up _ (Obj.mapSeq (·.pop)) (up _ (Obj.mapSeq (·.push Value.none)) k2)
  refine wpAny_pure ⟨plainId_quiet F.plain_extend_loop _, ?_⟩
  rw [upd_upd, upd_upd, upd_upd] at I3
  obtain ⟨x0, y0, hTO⟩ := hTO
  refine drainZ (A := A.in1) (b1 := b1) (b2 := b2) (xs := xs) (ys := ys) (H0 := H) hh D hSn hn hS0 hqx hqy (fun s' H' ts I' dn => ⟨rfl, hQ _ s' H' ts I' dn⟩) _ _ (upd H s.heap.objs.size (.lst [])) [] rfl (Nat.zero_le _) I3 (fun c hc => ⟨?_, (hf c hc).2⟩) ⟨⟨x0, y0, k4 _ _ hTO⟩, .inl (k4 _ _ hz)⟩ (k4 _ _ hTI) (h1.at_ fun o e => k4 _ _ e) (h2.at_ fun o e => k4 _ _ e) upd_same (fun c o e => ?_) (fun k t e => by simp at e)
  · have hcs : c ≠ s.heap.objs.size := fun e => by have q := hSf hc; rw [e] at q; exact Nat.lt_irrefl _ q
    rw [upd_ne hcs]
    exact (hf c hc).1
  · rw [upd_ne (fun q => by rw [q, hS0] at e; cases e)]
    exact e
end
def tLz (K : PySem.W.Frag) (ta : TA) : TE := fun σ H Q => ta σ H fun vs H1 => ∃ a b b1 b2 xs ys, vs = [.ref a, .ref b] ∧ SqG b1 K H1 a xs ∧ SqG b2 K H1 b ys ∧ xs.length ≤ 1000000 ∧ ∀ S H' ts, ZDone H1 H' S xs ys ts → Q (.ref S) H'
theorem pe_lz {X : Cx} {e e2 : Expr} {ta : TA} {p p2 pos pos2 : Pos} (hc : X.calm = true) (hl : Gl X "list") (hml : X.mg "list" = none) (hg : Gl X "zip") (hm : X.mg "zip" = none) (ha : PA X [e, e2] ta)
    (hs : starEach [e, e2] X.env = (false, eval e X.env) :: starEach [e2] X.env := by rfl) (hpl : (backTo pos2 (starEach [e2] X.env)).any (·.1) = false := by rfl)
    (na : starEach [.Call (.Name "zip" p2) [e, e2] [] pos2] X.env = (false, eval (.Call (.Name "zip" p2) [e, e2] [] pos2) X.env) :: starEach [] X.env := by rfl) :
    PE X (.Call (.Name "list" p) [.Call (.Name "zip" p2) [e, e2] [] pos2] [] pos) (tLz X.K ta) := by
  refine ⟨fun pins s σ H Q I h => ?_⟩
  refine Call_ (ld_blt I hl hml boot_list (PyProof.Rows.callWith_type1 (PyProof.Rows.args_cons ?_ na) na rfl))
  refine Call_ (ld_blt I hg hm PyProof.Rows.boot_zip (PyProof.Rows.callWith_type1 (thn (ha.run pos2 pins s σ H _ I h) fun us s1 ⟨vs, H1, I1, r1, q1⟩ => ?_) hs hpl))
  obtain ⟨a, b, b1, b2, xs, ys, ex, hqx, hqy, hn, q⟩ := q1
  subst ex
  obtain ⟨u1, u2, rfl, ra, rb⟩ := r1.two
  cases (show u1 = Value.ref a from ra)
  cases (show u2 = Value.ref b from rb)
  have fresh5 : ∀ c, c ∈ [s1.heap.objs.size + 4, s1.heap.objs.size + 2, s1.heap.objs.size + 3, s1.heap.objs.size, s1.heap.objs.size + 1] → FpOk X pins H1 c := fun c hcm => by
    have hle : s1.heap.objs.size ≤ c := by
      simp only [List.mem_cons, List.mem_singleton, List.not_mem_nil, or_false] at hcm
      omega
    exact I1.fpOk hle (I1.hok.fresh hle)
  obtain ⟨its, rv, p1, l1⟩ := Inv.sqG I1 hqx
  obtain ⟨its2, rv2, p2', l2⟩ := Inv.sqG I1 hqy
  refine call_zipG p1 p2' fun h' hz hTI hTO h1 h2 hsz hk => PyProof.Rows.args_nil ?_
  have I2 : L2.Inv X pins σ H1 { s1 with heap := h' } := I1.kept (t' := s1.toks) hk
  exact call_list_zip (xs := xs) (ys := ys) (I1.ok.hd hc) (PySem.W.ktu_apart s1.heap.objs.size a b l1 l2) hn I2 fresh5 hz hTI ⟨_, _, hTO⟩ h1 h2 hqx hqy fun S s' H' ts I' dn => ⟨.ref S, H', I', rfl, q S H' ts dn⟩
def bLz : Op2 := fun x y S => match itemsOf S x with
  | some xs => match itemsOf S y with
    | some ys => if small xs.length then some (true, .lst (zipL xs ys)) else none
    | none => none
  | none => none
def eLz (a b : SE) : SE := eBin bLz a b
theorem sqG_of {K : PySem.W.Frag} {H : Hp} {a : Addr} {us : List V} (h : SqL K H a us ∨ SqT K H a us) : ∃ b, SqG b K H a us := by
  rcases h with h | h
  · exact ⟨false, h⟩
  · exact ⟨true, h⟩
section
variable {G : Gam} {n0 : Nat} {g : Gh} {F : Hp} {r : List Addr} {S : Store} {H H' : Hp}
theorem grow_pairs (h : HR G n0 g F r S H') : ∀ (ts : List Addr) (xs ys : List PV) (us vs : List V), RVs G F r xs us → RVs G F r ys vs → ts.length = min us.length vs.length → (∀ (k : Nat) t, ts[k]? = some t → ∃ x y, us[k]? = some x ∧ vs[k]? = some y ∧ H' t = some (.tup [x, y]) ∧ F t = none ∧ t ∉ r ∧ g.pn t = none) →
    ∃ F', Ext F F' r r ∧ HR G n0 g F' r S H' ∧ RVs G F' r (zipL xs ys) (ts.map V.ref) ∧ ∀ c, F' c ≠ F c → c ∈ ts
  | [], xs, ys, us, vs, q1, q2, hl, _ => by
    refine ⟨F, .refl F r, h, ?_, fun c hc => absurd rfl hc⟩
    cases us with
    | nil =>
      have : xs = [] := by cases xs with
        | nil => rfl
        | cons x xs => obtain ⟨_, _, e, _⟩ := q1; cases e
      subst this
      exact rfl
    | cons u us =>
      cases vs with
      | nil =>
        have : ys = [] := by cases ys with
          | nil => rfl
          | cons x xs => obtain ⟨_, _, e, _⟩ := q2; cases e
        subst this
        cases xs <;> exact rfl
      | cons v vs => simp at hl
  | t :: ts, xs, ys, us, vs, q1, q2, hl, ht => by
    cases us with
    | nil => simp at hl
    | cons u us =>
      cases vs with
      | nil => simp at hl
      | cons v vs =>
        cases xs with
        | nil => cases (show (u :: us) = [] from q1)
        | cons x xs =>
          cases ys with
          | nil => cases (show (v :: vs) = [] from q2)
          | cons y ys =>
            obtain ⟨u', ur, e, k1, k2⟩ := q1
            cases e
            obtain ⟨v', vr, e, m1, m2⟩ := q2
            cases e
            obtain ⟨F1, x1, h1, rv, ch⟩ := grow_pairs h ts xs ys us vs k2 m2 (by simp at hl ⊢; omega) fun k t' e => by
              have := ht (k + 1) t' (by simpa using e)
              simpa using this
            obtain ⟨x0, y0, e1, e2, e3, e4, e5, e6⟩ := ht 0 t rfl
            simp at e1 e2
            subst e1 e2
            cases ef : F1 t with
            | none =>
              have ex : Ext F1 (L2.upd F1 t (.tup [u, v])) r r := ⟨Le.upd ef, List.prefix_refl r⟩
              refine ⟨_, x1.trans ex, h1.grow e3 ef e5 e6 rfl, ⟨_, _, rfl, ⟨t, [u, v], rfl, upd_same, _, _, rfl, (k1.ext x1).ext ex, _, _, rfl, (m1.ext x1).ext ex, rfl⟩, rv.ext ex⟩, fun c hc => ?_⟩
              by_cases hct : c = t
              · rw [hct]; exact List.mem_cons_self
              · rw [upd_ne hct] at hc
                exact List.mem_cons_of_mem _ (ch c hc)
            | some o =>
              have ht := h1.sub.any ef
              rcases ht with ht | ⟨z, ht⟩
              rotate_left
              · rw [e3] at ht; cases ht
              rw [e3] at ht
              cases ht
              exact ⟨F1, x1, h1, ⟨_, _, rfl, ⟨t, [u, v], rfl, ef, _, _, rfl, k1.ext x1, _, _, rfl, m1.ext x1, rfl⟩, rv⟩, fun c hc => List.mem_cons_of_mem _ (ch c hc)⟩
end
section
variable {X : Cx} {G : Gam} {n0 : Nat}
theorem se_lz {e e2 : Expr} {fe fe2 : SE} {p p2 pos pos2 : Pos} (hK : G.K = X.K) (hc : X.calm = true) (hl : Gl X "list") (hml : X.mg "list" = none) (hg : Gl X "zip") (hm : X.mg "zip" = none) (he : PE X e (rdE G n0 fe)) (he2 : PE X e2 (rdE G n0 fe2))
    (hs : starEach [e, e2] X.env = (false, eval e X.env) :: starEach [e2] X.env := by rfl) (hs2 : starEach [e2] X.env = (false, eval e2 X.env) :: starEach [] X.env := by rfl) (hpl : (backTo pos2 (starEach [e2] X.env)).any (·.1) = false := by rfl)
    (na : starEach [.Call (.Name "zip" p2) [e, e2] [] pos2] X.env = (false, eval (.Call (.Name "zip" p2) [e, e2] [] pos2) X.env) :: starEach [] X.env := by rfl) :
    PE X (.Call (.Name "list" p) [.Call (.Name "zip" p2) [e, e2] [] pos2] [] pos) (rdE G n0 (eLz fe fe2)) := by
  refine peI (pe_lz hc hl hml hg hm (pa_cons (toV he) (pa_cons (toV he2) pa_nil hs2) hs) hs hpl na) fun σ H Q ⟨F, r, env, S, g, s, h⟩ => ?_
  refine stV s cnE h fun p S1 F1 r1 H1 u x1 s1 q1 h1 => ?_
  refine stV s1 cnE h1 fun q S2 F2 r2 H2 v x2 s2 q2 h2 => ?_
  cases ea : itemsOf S2 p.2 with
  | none => simp only [bLz, ea] at h2; exact h2.elim
  | some xs =>
    cases eb : itemsOf S2 q.2 with
    | none => simp only [bLz, ea, eb] at h2; exact h2.elim
    | some ys =>
      simp only [bLz, ea, eb] at h2
      split at h2
      · rename_i hz
        obtain ⟨a, us, rfl, hs1, rv1⟩ := view_seq s2.hr (q1.ext x2) ea
        obtain ⟨b, vs, rfl, hs2', rv2⟩ := view_seq s2.hr q2 eb
        obtain ⟨b1, k1⟩ := sqG_of hs1
        obtain ⟨b2, k2⟩ := sqG_of hs2'
        have hle : us.length ≤ 1000000 := by rw [← RVs.length rv1]; exact Nat.le_of_ble_eq_true hz
        refine ⟨a, b, b1, b2, us, vs, rfl, hK ▸ k1, hK ▸ k2, hle, fun L H' ts dn => ?_⟩
        have hr' := s2.hr.heap dn.keep
        obtain ⟨F3, x3, h3, rv3, ch⟩ := grow_pairs hr' ts xs ys us vs rv1 rv2 dn.len fun k t e => by
          obtain ⟨x, y, e1, e2, e3, e4⟩ := dn.tup k t e
          exact ⟨x, y, e1, e2, e3, s2.hr.noF e4, s2.hr.nor e4, s2.hr.nop e4⟩
        have hFL : F3 L = none := by
          by_cases hL : F3 L = F2 L
          · rw [hL]; exact s2.hr.noF dn.new
          · obtain ⟨k, hk, e⟩ := List.getElem_of_mem (ch L hL)
            obtain ⟨x, y, _, _, e3, _⟩ := dn.tup k L (by rw [List.getElem?_eq_getElem hk, e])
            rw [dn.lst] at e3
            cases e3
        refine h2 F3 r2 H' _ ((x1.trans x2).trans x3) (s2.ext x3 h3) ⟨L, _, rfl, dn.lst, hFL, s2.hr.nor dn.new, s2.hr.nop dn.new, ⟨_, rfl, rv3⟩, rfl⟩
      · exact h2.elim
end
end PX
set_option Elab.async false
set_option linter.all false
set_option maxRecDepth 100000
set_option maxHeartbeats 1000000
set_option Elab.async false
set_option linter.all false
set_option maxRecDepth 100000
set_option maxHeartbeats 2000000
namespace PX
open PySem PySem.Spec PyProof.Rows L2 ZG
def compR2 (t : Tg) (c : ST) (i1 : SI) (t1 : Tg) (vs1 : List Nat) (c1 : ST) (e : SE) : List PV → Env → List PV → Store → R (List PV)
  | [], _, acc, S => .ok acc S
  | x :: xs, env, acc, S => match t x env S with
    | none => .no
    | some env' => (c env' S).bind fun b S1 => if b = true then (i1 env' S1).bind fun p S2 => (compR t1 c1 e p.1 (wipeE env' vs1) acc S2).bind fun acc' S3 => compR2 t c i1 t1 vs1 c1 e xs env acc' (unlock p.2 S3)
      else compR2 t c i1 t1 vs1 c1 e xs env acc S1
def eLc2 (i : SI) (t : Tg) (vs : List Nat) (c : ST) (i1 : SI) (t1 : Tg) (vs1 : List Nat) (c1 : ST) (e : SE) : SE := fun env S => (i env S).bind fun p S1 => (compR2 t c i1 t1 vs1 c1 e p.1 (wipeE env vs) [] S1).bind fun acc S2 => .ok (true, .lst acc) (unlock p.2 S2)
section
variable {G : Gam} {n0 : Nat} {g : Gh} {F : Hp} {r : List Addr} {S : Store} {H : Hp}
theorem rep_pin {a : Addr} {ho ho' : HO} : (g.pin a ho).rep (some (a, ho')) = g.pin a ho' := by
  show (⟨g.L, upd (upd g.pn a ho) a ho', _⟩ : Gh) = ⟨g.L, upd g.pn a ho', _⟩
  rw [upd_upd]
  rfl
theorem rep_at {a : Addr} {ho : HO} : (g.rep (some (a, ho))).pn a = some ho := upd_same
theorem rep_rep {a : Addr} {ho ho' : HO} : (g.rep (some (a, ho))).rep (some (a, ho')) = g.rep (some (a, ho')) := by
  show (⟨g.L, upd (upd g.pn a ho) a ho', _⟩ : Gh) = ⟨g.L, upd g.pn a ho', _⟩
  rw [upd_upd]
  rfl
theorem rep_le {a : Addr} {ho : HO} (hl : g.lk a = false) : GhLe g (g.rep (some (a, ho))) := fun b o e l => by
  have hb : b ≠ a := fun z => by rw [z, hl] at l; cases l
  exact ⟨by show upd g.pn a ho b = _; rw [upd_ne hb]; exact e, l⟩
theorem rep_self {a : Addr} {ho : HO} (hp : g.pn a = some ho) : g.rep (some (a, ho)) = g := by
  show (⟨g.L, upd g.pn a ho, g.lk⟩ : Gh) = g
  have : upd g.pn a ho = g.pn := by
    funext b
    by_cases hb : b = a
    · rw [hb, upd_same, hp]
    · rw [upd_ne hb]
  rw [this]
theorem HR.repSet {a : Addr} {ho ho' : HO} (h : HR G n0 g F r S H) (hp : g.pn a = some ho) (hl : g.lk a = false) (hz : isFz ho = false := by rfl) (hb : isTb ho = false := by rfl) (hb' : isTk ho' = false := by rfl) : HR G n0 (g.rep (some (a, ho'))) F r S (upd H a ho') := by
  have hp' := hp
  have hr : a ∉ r := h.out a ho hp hl
  have hF : F a = none := noFz (h.pin a ho hp).2.1 hz
  refine ⟨fun b o e => ?_, h.nd, h.off, h.len, h.nle, h.lle, fun i ob b e1 e2 => ?_, fun b o e => ?_, fun i ob b e1 e2 => ?_, fun b o e el => ?_, ⟨fun p hp => let t := h.tab.t p hp; ⟨tabS_upd t.t (h.pin a _ hp').1 hb, t.f, t.nr, by have z2 := t.np; show upd g.pn a ho' p.1 = none; rw [upd_ne (fun z => by rw [z, hp'] at z2; cases z2)]; exact z2⟩, h.tab.nf, tb_upd h.tab.np hb'⟩⟩
  · rw [upd_ne (fun z => by rw [z, hF] at e; cases e)]
    exact h.sub b o e
  · obtain ⟨o, q1, q2⟩ := h.obj i ob b e1 e2
    have hb : b ≠ a := fun z => hr (by rw [← z]; exact List.mem_of_getElem? e2)
    exact ⟨o, q1.upd hb, q2⟩
  · have e : upd g.pn a ho' b = some o := e
    by_cases hb : b = a
    · subst hb
      rw [upd_same] at e
      cases e
      exact ⟨upd_same, .inl hF, fun i hi => absurd (List.mem_of_getElem? hi) hr⟩
    · rw [upd_ne hb] at e
      obtain ⟨q1, q2, q3⟩ := h.pin b o e
      exact ⟨by rw [upd_ne hb]; exact q1, q2, q3⟩
  · have hb : b ≠ a := fun z => hr (by rw [← z]; exact List.mem_of_getElem? e2)
    obtain ⟨o, q⟩ := h.lckd i ob b e1 e2
    exact ⟨o, by show upd g.pn a ho' b = _; rw [upd_ne hb]; exact q⟩
  · have e : upd g.pn a ho' b = some o := e
    by_cases hb : b = a
    · subst hb; exact hr
    · rw [upd_ne hb] at e
      exact h.out b o e el
theorem lc2_core' {fi fi1 : SI} {t t1 : Tg} {gg gg1 : TG} {vs vs1 : List Nat} {c c1 : ST} {fe : SE} (ht : TgB G vs t gg) (ht1 : TgB G vs1 t1 gg1) (σ : L2.St) (H : Hp) (Q : VK) (hh : rdE G n0 (eLc2 fi t vs c fi1 t1 vs1 c1 fe) σ H Q) :
    tLc2 (rdI G n0 fi) gg (rdT G n0 c) (rdI G n0 fi1) gg1 (rdT G n0 c1) (rdV G n0 fe) vs vs1 σ H Q := by
  obtain ⟨F, r, env, S, g, s, h⟩ := hh
  refine ⟨F, r, env, S, g, s, ?_⟩
  have h : PoE G n0 g F r env σ ((fi env S).bind fun p S1 => (compR2 t c fi1 t1 vs1 c1 fe p.1 (wipeE env vs) [] S1).bind fun acc S2 => .ok (true, .lst acc) (unlock p.2 S2)) Q := h
  cases ei : fi env S with
  | no => rw [ei] at h; exact h
  | ex => rw [ei] at h; exact h
  | ok p S1 =>
    rw [ei] at h
    obtain ⟨xs, ls⟩ := p
    have h : PoE G n0 g F r env σ ((compR2 t c fi1 t1 vs1 c1 fe xs (wipeE env vs) [] S1).bind fun acc S2 => .ok (true, .lst acc) (unlock ls S2)) Q := h
    intro F1 r1 H1 J g' x1 s1 its _ ul D hD
    have ul : ∀ F2 r2 S2 H2, HR G n0 g' F2 r2 S2 H2 → Ext F1 F2 r1 r2 → HR G n0 g F2 r2 (unlock ls S2) H2 := ul none (fun p e => nomatch e)
    have its : Its G n0 g' F1 r1 J xs := its
    have hp : g'.pn D = none := s1.hr.nop hD
    have hgp : g.pn D = none := (ul F1 r1 S1 H1 s1.hr (.refl _ _)).nop hD
    refine ⟨fun i m H' => m = xs.length - i ∧ i ≤ xs.length ∧ ∃ F2 r2 S2 acc us, Ext F1 F2 r1 r2 ∧ Sg G n0 (g'.pin D (.lst us)) F2 r2 (wipeE env vs) (L2.wipe σ vs) S2 H' ∧ RVs G F2 r2 acc us ∧
      PoE G n0 g F r env σ ((compR2 t c fi1 t1 vs1 c1 fe (xs.drop i) (wipeE env vs) acc S2).bind fun acc S2 => .ok (true, .lst acc) (unlock ls S2)) Q,
      ⟨xs.length, rfl, Nat.zero_le _, F1, r1, S1, [], [], .refl _ _, ⟨s1.hr.pinNew hD, (s1.wipe vs).sl, (s1.wipe vs).vr⟩, rfl, h⟩, ?_⟩
    rintro i m H2 ⟨rfl, hi, F2, r2, S2, acc, us, x2, s2, racc, h2⟩
    have hDr := pin_out s2.hr
    have hDH := (s2.hr.pin D _ pin_at).1
    have hDF := noFz (s2.hr.pin D _ pin_at).2.1 rfl
    have hr2 := s2.hr.unpin hp
    obtain ⟨ig, ie⟩ := its (g'.pin D (.lst us)) (fun a o e l => pin_le hp a o e l) F2 r2 S2 H2 s2.hr x2
    by_cases hlt : i < xs.length
    · have hx : xs[i]? = some xs[i] := List.getElem?_eq_getElem hlt
      have hd : xs.drop i = xs[i] :: xs.drop (i + 1) := List.drop_eq_getElem_cons hlt
      rw [hd] at h2
      obtain ⟨go, yl⟩ := ig i xs[i] hx
      refine .inr ⟨go, fun H' => ∃ F2 r2 S2 acc us, Ext F1 F2 r1 r2 ∧ Sg G n0 (g'.pin D (.lst us)) F2 r2 (wipeE env vs) (L2.wipe σ vs) S2 H' ∧ RVs G F2 r2 acc us ∧
        PoE G n0 g F r env σ ((compR2 t c fi1 t1 vs1 c1 fe (xs.drop (i + 1)) (wipeE env vs) acc S2).bind fun acc S2 => .ok (true, .lst acc) (unlock ls S2)) Q,
        fun H' q => ⟨xs.length - (i + 1), by omega, rfl, hlt, q⟩, fun v H3 hy => ?_⟩
      obtain ⟨F3, x3, hr3, q3⟩ := yl v H3 hy
      have h3 : PoE G n0 g F r env σ ((match t xs[i] (wipeE env vs) S2 with
        | none => R.no
        | some env' => (c env' S2).bind fun b S1 => if b = true then (fi1 env' S1).bind fun p S2 => (compR t1 c1 fe p.1 (wipeE env' vs1) acc S2).bind fun acc' S3 => compR2 t c fi1 t1 vs1 c1 fe (xs.drop (i + 1)) (wipeE env vs) acc' (unlock p.2 S3)
          else compR2 t c fi1 t1 vs1 c1 fe (xs.drop (i + 1)) (wipeE env vs) acc S1).bind fun acc S2 => .ok (true, .lst acc) (unlock ls S2)) Q := h2
      cases et : t xs[i] (wipeE env vs) S2 with
      | none => rw [et] at h3; exact h3.elim
      | some env3 =>
        simp only [et] at h3
        refine ht n0 _ F3 r2 (wipeE env vs) (L2.wipe σ vs) S2 H3 xs[i] v env3 (L2.wipe σ vs) _ (wipe_idem σ vs) (s2.ext x3 hr3) q3 et fun σ3 hw3 s3 => ⟨hw3, ?_⟩
        refine ⟨F3, r2, env3, S2, _, s3, ?_⟩
        cases ec : c env3 S2 with
        | no => rw [ec] at h3; exact h3
        | ex => rw [ec] at h3; exact h3
        | ok b S4 =>
          rw [ec] at h3
          intro F4 r4 H4 x4 s4
          have xx : Ext F1 F4 r1 r4 := (x2.trans x3).trans x4
          have back : ∀ {us' F' r' S' H'}, Ext F4 F' r4 r' → HR G n0 (g'.pin D (.lst us')) F' r' S' H' → Sg G n0 (g'.pin D (.lst us')) F' r' (wipeE env vs) (L2.wipe σ vs) S' H' := fun {us' F' r' S' H'} x' hr' =>
            ⟨hr', s2.sl, fun j w e => by
              obtain ⟨u, e1, q1⟩ := s2.vr j w e
              exact ⟨u, e1, q1.ext ((x3.trans x4).trans x')⟩⟩
          cases b with
          | false => exact ⟨F4, r4, S4, acc, us, xx, back (.refl _ _) s4.hr, racc.ext (x3.trans x4), h3⟩
          | true =>
            have h4 : PoE G n0 g F r env σ (((fi1 env3 S4).bind fun p S2 => (compR t1 c1 fe p.1 (wipeE env3 vs1) acc S2).bind fun acc' S3 => compR2 t c fi1 t1 vs1 c1 fe (xs.drop (i + 1)) (wipeE env vs) acc' (unlock p.2 S3)).bind fun acc S2 => .ok (true, .lst acc) (unlock ls S2)) Q := h3
            rw [if_pos rfl]
            refine ⟨F4, r4, env3, S4, _, s4, ?_⟩
            cases ei1 : fi1 env3 S4 with
            | no => rw [ei1] at h4; exact h4
            | ex => rw [ei1] at h4; exact h4
            | ok p1 S5 =>
              rw [ei1] at h4
              obtain ⟨ys, ls1⟩ := p1
              have h5 : PoE G n0 g F r env σ (((compR t1 c1 fe ys (wipeE env3 vs1) acc S5).bind fun acc' S3 => compR2 t c fi1 t1 vs1 c1 fe (xs.drop (i + 1)) (wipeE env vs) acc' (unlock ls1 S3)).bind fun acc S2 => .ok (true, .lst acc) (unlock ls S2)) Q := h4
              intro F5 r5 H5 J1 g1 x5 s5 its1 pn1 ul1
              have its1 : Its G n0 g1 F5 r5 J1 ys := its1
              have ul1 : ∀ rp, (g'.pin D (.lst us)).has rp → ∀ F2 r2 S2 H2, HR G n0 (g1.rep rp) F2 r2 S2 H2 → Ext F5 F2 r5 r2 → HR G n0 ((g'.pin D (.lst us)).rep rp) F2 r2 (unlock ls1 S2) H2 := ul1
              have lk0 : (g'.pin D (.lst us)).lk D = false := by show (if D = D then false else g'.lk D) = false; rw [if_pos rfl]
              obtain ⟨pD, lD⟩ := pn1 D _ pin_at lk0
              have hasD : ∀ ho, (g'.pin D (.lst us)).has (some (D, ho)) := fun ho p e => by cases e; exact ⟨⟨_, pin_at⟩, lk0⟩
              -- the inner loop
              refine ⟨fun j m H' => m = ys.length - j ∧ j ≤ ys.length ∧ ∃ F6 r6 S6 acc6 us6, Ext F5 F6 r5 r6 ∧ Sg G n0 (g1.rep (some (D, .lst us6))) F6 r6 (wipeE env3 vs1) (L2.wipe σ3 vs1) S6 H' ∧ RVs G F6 r6 acc6 us6 ∧
                PoE G n0 g F r env σ (((compR t1 c1 fe (ys.drop j) (wipeE env3 vs1) acc6 S6).bind fun acc' S3 => compR2 t c fi1 t1 vs1 c1 fe (xs.drop (i + 1)) (wipeE env vs) acc' (unlock ls1 S3)).bind fun acc S2 => .ok (true, .lst acc) (unlock ls S2)) Q,
                ⟨ys.length, rfl, Nat.zero_le _, F5, r5, S5, acc, us, .refl _ _, ⟨by rw [rep_self pD]; exact s5.hr, (s5.wipe vs1).sl, (s5.wipe vs1).vr⟩, (racc.ext (x3.trans x4)).ext x5, h5⟩, ?_⟩
              rintro j m H6 ⟨rfl, hj, F6, r6, S6, acc6, us6, x6, s6, racc6, h6⟩
              obtain ⟨ig1, ie1⟩ := its1 (g1.rep (some (D, .lst us6))) (rep_le lD) F6 r6 S6 H6 s6.hr x6
              by_cases hlt1 : j < ys.length
              · have hy1 : ys[j]? = some ys[j] := List.getElem?_eq_getElem hlt1
                have hd1 : ys.drop j = ys[j] :: ys.drop (j + 1) := List.drop_eq_getElem_cons hlt1
                rw [hd1] at h6
                obtain ⟨go1, yl1⟩ := ig1 j ys[j] hy1
                refine .inr ⟨go1, fun H' => ∃ F6 r6 S6 acc6 us6, Ext F5 F6 r5 r6 ∧ Sg G n0 (g1.rep (some (D, .lst us6))) F6 r6 (wipeE env3 vs1) (L2.wipe σ3 vs1) S6 H' ∧ RVs G F6 r6 acc6 us6 ∧
                  PoE G n0 g F r env σ (((compR t1 c1 fe (ys.drop (j + 1)) (wipeE env3 vs1) acc6 S6).bind fun acc' S3 => compR2 t c fi1 t1 vs1 c1 fe (xs.drop (i + 1)) (wipeE env vs) acc' (unlock ls1 S3)).bind fun acc S2 => .ok (true, .lst acc) (unlock ls S2)) Q,
                  fun H' q => ⟨ys.length - (j + 1), by omega, rfl, hlt1, q⟩, fun v1 H7 hyv => ?_⟩
                obtain ⟨F7, x7, hr7, q7⟩ := yl1 v1 H7 hyv
                have h7 : PoE G n0 g F r env σ (((match t1 ys[j] (wipeE env3 vs1) S6 with
                  | none => R.no
                  | some env' => (c1 env' S6).bind fun b S1 => if b = true then (fe env' S1).bind fun q S2 => if small acc6.length then compR t1 c1 fe (ys.drop (j + 1)) (wipeE env3 vs1) (acc6 ++ [q.2]) S2 else .no
                    else compR t1 c1 fe (ys.drop (j + 1)) (wipeE env3 vs1) acc6 S1).bind fun acc' S3 => compR2 t c fi1 t1 vs1 c1 fe (xs.drop (i + 1)) (wipeE env vs) acc' (unlock ls1 S3)).bind fun acc S2 => .ok (true, .lst acc) (unlock ls S2)) Q := h6
                cases et1 : t1 ys[j] (wipeE env3 vs1) S6 with
                | none => rw [et1] at h7; exact h7.elim
                | some env8 =>
                  simp only [et1] at h7
                  refine ht1 n0 _ F7 r6 (wipeE env3 vs1) (L2.wipe σ3 vs1) S6 H7 ys[j] v1 env8 (L2.wipe σ3 vs1) _ (wipe_idem σ3 vs1) (s6.ext x7 hr7) q7 et1 fun σ8 hw8 s8 => ⟨hw8, ?_⟩
                  refine ⟨F7, r6, env8, S6, _, s8, ?_⟩
                  cases ec1 : c1 env8 S6 with
                  | no => rw [ec1] at h7; exact h7
                  | ex => rw [ec1] at h7; exact h7
                  | ok b1 S9 =>
                    rw [ec1] at h7
                    intro F9 r9 H9 x9 s9
                    have xx9 : Ext F5 F9 r5 r9 := (x6.trans x7).trans x9
                    have back1 : ∀ {us' F' r' S' H'}, Ext F9 F' r9 r' → HR G n0 (g1.rep (some (D, .lst us'))) F' r' S' H' → Sg G n0 (g1.rep (some (D, .lst us'))) F' r' (wipeE env3 vs1) (L2.wipe σ3 vs1) S' H' := fun {us' F' r' S' H'} x' hr' =>
                      ⟨hr', s6.sl, fun j w e => by
                        obtain ⟨u, e1, q1⟩ := s6.vr j w e
                        exact ⟨u, e1, q1.ext ((x7.trans x9).trans x')⟩⟩
                    cases b1 with
                    | false => exact ⟨F9, r9, S9, acc6, us6, xx9, back1 (.refl _ _) s9.hr, racc6.ext (x7.trans x9), h7⟩
                    | true =>
                      have h8 : PoE G n0 g F r env σ ((((fe env8 S9).bind fun q S2 => if small acc6.length then compR t1 c1 fe (ys.drop (j + 1)) (wipeE env3 vs1) (acc6 ++ [q.2]) S2 else .no).bind fun acc' S3 => compR2 t c fi1 t1 vs1 c1 fe (xs.drop (i + 1)) (wipeE env vs) acc' (unlock ls1 S3)).bind fun acc S2 => .ok (true, .lst acc) (unlock ls S2)) Q := h7
                      rw [if_pos rfl]
                      refine ⟨F9, r9, env8, S9, _, s9, ?_⟩
                      cases ee : fe env8 S9 with
                      | no => rw [ee] at h8; exact h8
                      | ex => rw [ee] at h8; exact h8
                      | ok q S10 =>
                        rw [ee] at h8
                        intro F10 r10 H10 y x10 s10 q10
                        have h9 : PoE G n0 g F r env σ (((if small acc6.length then compR t1 c1 fe (ys.drop (j + 1)) (wipeE env3 vs1) (acc6 ++ [q.2]) S10 else .no).bind fun acc' S3 => compR2 t c fi1 t1 vs1 c1 fe (xs.drop (i + 1)) (wipeE env vs) acc' (unlock ls1 S3)).bind fun acc S2 => .ok (true, .lst acc) (unlock ls S2)) Q := h8
                        cases hsm : small acc6.length with
                        | false => rw [hsm] at h9; exact h9.elim
                        | true =>
                          rw [hsm, if_pos rfl] at h9
                          have hr10 := s10.hr
                          have set10 := hr10.repSet (ho' := .lst (us6 ++ [y])) rep_at lD
                          rw [rep_rep] at set10
                          refine ⟨us6, (hr10.pin D _ rep_at).1, by rw [← RVs.length racc6]; exact small_lt hsm, F10, r10, S10, acc6 ++ [q.2], us6 ++ [y], xx9.trans x10, back1 x10 set10, (racc6.ext ((x7.trans x9).trans x10)).append ⟨y, [], rfl, q10, rfl⟩, h9⟩
              · have e : j = ys.length := by omega
                subst e
                rw [List.drop_length] at h6
                refine .inl ⟨ie1 _ (Nat.le_refl _), ?_⟩
                have h10 := ul1 (some (D, .lst us6)) (hasD _) F6 r6 S6 H6 s6.hr x6
                rw [rep_pin] at h10
                exact ⟨F6, r6, unlock ls1 S6, acc6, us6, (xx.trans x5).trans x6, back (x5.trans x6) h10, racc6, h6⟩
    · have e : i = xs.length := by omega
      subst e
      rw [List.drop_length] at h2
      refine .inl ⟨ie _ (Nat.le_refl _), ?_⟩
      have h6 := ul F2 r2 S2 H2 hr2 x2
      have s6 : Sg G n0 g F2 r2 env σ (unlock ls S2) H2 := ⟨h6, s1.sl, fun j w e => by
        obtain ⟨u, e1, q1⟩ := s1.vr j w e
        exact ⟨u, e1, q1.ext x2⟩⟩
      exact h2 F2 r2 H2 (.ref D) (x1.trans x2) s6 ⟨D, .lst us, rfl, hDH, hDF, hDr, hgp, ⟨us, rfl, racc⟩, rfl⟩
variable {X : Cx}
theorem se_lc2 {elt tg iter tg1 iter1 : Expr} {ifs ifs1 : List Expr} {scope : Scope} {own : List (Str × Nat)} {vs1 : List Nat} {pos : Pos} {fi fi1 : SI} {t t1 : Tg} {gg gg1 : TG} {c c1 : ST} {fe : SE} (hc : X.calm = true) (hN : X.N.Nodup) (hi : PI X tg iter (rdI G n0 fi)) (ok : BlkOk X.N X.env.scope scope own) (hv : ∀ i ∈ vs1, i ∈ own.map (·.2)) (ht : TgB G (own.map (·.2)) t gg) (ht1 : TgB G vs1 t1 gg1)
    (hg : ∀ (s : Shared) (H : Hp) (C : Addr) (cl : List (Str × Addr)) (fp : List Addr), PG (X.blk s H scope (compEnvC scope cl C X.env) fp) tg gg)
    (hts : ∀ (s : Shared) (H : Hp) (C : Addr) (cl : List (Str × Addr)) (fp : List Addr), PTs (X.blk s H scope (compEnvC scope cl C X.env) fp) ifs (rdT G n0 c))
    (hi1 : ∀ (s : Shared) (H : Hp) (C : Addr) (cl : List (Str × Addr)) (fp : List Addr), PI (X.blk s H scope (compEnvC scope cl C X.env) fp) tg1 iter1 (rdI G n0 fi1))
    (hg1 : ∀ (s : Shared) (H : Hp) (C : Addr) (cl : List (Str × Addr)) (fp : List Addr), PG (X.blk s H scope (compEnvC scope cl C X.env) fp) tg1 gg1)
    (hts1 : ∀ (s : Shared) (H : Hp) (C : Addr) (cl : List (Str × Addr)) (fp : List Addr), PTs (X.blk s H scope (compEnvC scope cl C X.env) fp) ifs1 (rdT G n0 c1))
    (he : ∀ (s : Shared) (H : Hp) (C : Addr) (cl : List (Str × Addr)) (fp : List Addr), PE (X.blk s H scope (compEnvC scope cl C X.env) fp) elt (rdE G n0 fe)) (hs : ∀ x, foldedSetIterable iter X.env x = pure x := by intro _; rfl) (hs1 : ∀ env x, foldedSetIterable iter1 env x = pure x := by intro _ _; rfl) :
    PE X (.ListComp elt [⟨tg, iter, ifs, 0⟩, ⟨tg1, iter1, ifs1, 0⟩] scope pos) (rdE G n0 (eLc2 fi t (own.map (·.2)) c fi1 t1 vs1 c1 fe)) :=
  se_of (pe_lc2 hc hN hi ok hv hg hts hi1 hg1 hts1 (fun s H C cl fp => toV (he s H C cl fp)) hs hs1) (lc2_core' ht ht1)
end
end PX
set_option Elab.async false
set_option linter.all false
set_option maxRecDepth 100000
set_option maxHeartbeats 1000000
namespace PX
open PySem PySem.Spec PyProof.Rows L2
def eDnK : SE := fun _ S => .ok (true, .dct (.k []) []) S
def setG (n0 : Nat) (o k v : PV) (S : Store) : Option Store := match o with
  | .ref i => match S[i]? with
    | some (.lst xs) => setL n0 o k v S
    | some (.dct ks vs) => match keyOf k with
      | some q => match dPut ks vs q v with
        | some z => if mayPut n0 i v && small vs.length then some (S.set i (.dct z.1 z.2)) else none
        | none => none
      | none => none
    | _ => none
  | _ => none
def oGet : Op2 := fun x y S => match dIx x y S with
  | some z => some z
  | none => match deref S x with
    | some (.lst xs) => match y with
      | .int i => match ixP xs.length i with
        | some j => (xs[j]?).map fun v => (false, v)
        | none => none
      | _ => none
    | _ => none
def dG (x y z : PV) (S : Store) : Option PV := match deref S x with
  | some (.dct ks vs) => match keyOf y with
    | some q => match dGet ks vs q with
      | some (some v) => some v
      | some none => some z
      | none => none
    | none => none
  | _ => none
def isD (S : Store) (v : PV) : Bool := match deref S v with
  | some (.dct (.n _) _) => false
  | some (.dct _ _) => true
  | _ => false
def eGet2 (d k f : SE) : SE := fun env S => (d env S).bind fun p S1 => if isD S1 p.2 then (k env S1).bind fun q S2 => (f env S2).bind fun z S3 => match dG p.2 q.2 z.2 S3 with
  | some v => .ok (false, v) S3
  | none => .no
  else .no
section
variable {X : Cx} {G : Gam} {n0 : Nat} {g : Gh} {F : Hp} {r : List Addr} {S : Store} {H : Hp}
theorem se_dnK {pos : Pos} : PE X (.Dict [] [] pos) (rdE G n0 eDnK) := by
  refine peI pe_dnewK fun σ H Q ⟨F, r, env, S, g, s, h⟩ => fun p hp => ?_
  obtain ⟨h2, k⟩ := new_obj s.hr hp (v := .dct (.k []) []) (ho := .dK []) ⟨[], ⟨rfl, rfl⟩, rfl⟩ rfl
  exact h F r _ _ (.refl _ _) (s.ext (.refl _ _) h2) k
def rSetG : TSet := fun o i v H Q => rSetL o i v H Q ∨ rSetD o i v H Q
theorem set_G (hu : X.A.units + 1 < cLine) : PSet X rSetG := by
  intro pins s σ H o i v ov iv u Q I ro ri rv h
  rcases h with h | h
  · exact set_list pins s σ H o i v ov iv u Q I ro ri rv h
  · exact set_dict hu pins s σ H o i v ov iv u Q I ro ri rv h
theorem store_dct {i : Nat} {u : V} {ks : DKs} {vs : List PV} (h : HR G n0 g F r S H) (q : RV G F r (.ref i) u) (e : S[i]? = some (.dct ks vs)) : ∃ a ho us, u = .ref a ∧ r[i]? = some a ∧ H a = some ho ∧ DR F ho ks us ∧ RVs G F (lim n0 g.L r i) vs us := by
  obtain ⟨a, e1, rfl⟩ := q
  obtain ⟨ho, h1, us, d, k⟩ := h.obj i _ a e e1
  exact ⟨a, ho, us, rfl, e1, h1.nl rfl, d, k⟩
theorem chg_setG : ChgI G n0 (setG n0) rSetG := fun g F r S H o k v u y w S' Q h q1 q2 q3 e kk => by
  unfold setG at e
  split at e
  · rename_i i
    split at e
    · exact .inl (chg_setL g F r S H _ k v u y w S' Q h q1 q2 q3 e kk)
    · rename_i ks vs es
      cases ek : keyOf k with
      | none => simp only [ek] at e; cases e
      | some q =>
        simp only [ek] at e
        cases ep : dPut ks vs q v with
        | none => simp only [ep] at e; cases e
        | some z =>
          simp only [ep] at e
          split at e
          · rename_i hm
            cases e
            rw [Bool.and_eq_true] at hm
            obtain ⟨a, ho, us, rfl, e1, e2, d, k2⟩ := store_dct h q1 es
            have hw := put_rv hm.1 (L := g.L) q3
            have hl : us.length < sizeLine := by rw [← RVs.length k2]; exact small_lt hm.2
            cases ks with
            | k l =>
              obtain ⟨rfl, hll⟩ := d
              cases q with
              | t q => cases ep
              | k q =>
                have ep : some (DKs.k (putB eqK l vs q v).1, (putB eqK l vs q v).2) = some z := ep
                cases ep
                obtain ⟨us', p1, p2, p3⟩ := putB_ok eqK_ok (q := q) hw hll k2
                refine .inr ⟨a, _, rfl, .inl ⟨_, q, e2, keyOf_k q2 ek, by rw [List.length_zip, hll, Nat.min_self]; exact hl, rfl⟩, kk _ ?_⟩
                rw [p1]
                exact h.put e1 es rfl rfl ⟨us', ⟨rfl, p2⟩, p3⟩
            | t l =>
              obtain ⟨rfl, hll⟩ := d
              cases q with
              | k q => cases ep
              | t q =>
                have ep : some (DKs.t (putB eqKs l vs q v).1, (putB eqKs l vs q v).2) = some z := ep
                cases ep
                obtain ⟨b, rfl, eb⟩ := keyOf_t q2 ek
                obtain ⟨us', p1, p2, p3⟩ := putB_ok eqKs_ok (q := q) hw hll k2
                refine .inr ⟨a, _, rfl, .inr ⟨_, q, b, e2, rfl, h.sub.tpH eb, by rw [List.length_zip, hll, Nat.min_self]; exact hl, rfl⟩, kk _ ?_⟩
                rw [p1]
                exact h.put e1 es rfl rfl ⟨us', ⟨rfl, p2⟩, p3⟩
            | n l => cases q <;> cases ep
          · cases e
    · cases e
  · cases e
def rGetG (K : PySem.W.Frag) : R2 := fun x y H Q => rIxDct x y H Q ∨ rIxL K x y H Q
theorem get_G (hu : X.A.units + 1 < cLine) : PGet X (rGetG X.K) := by
  intro pins s σ H x y v u Q I rx ry h
  rcases h with h | h
  · obtain ⟨a, z, rfl, gd, q⟩ := h
    cases (show v = Value.ref a from rx)
    exact d_getItem hu I gd ry fun w' s3 I3 rw' => ⟨z, H, I3, rw', q⟩
  · obtain ⟨p, xs, i, z, rfl, rfl, hq, he, q⟩ := h
    cases rx
    obtain ⟨t, rfl⟩ := ry
    obtain ⟨its, r, pl, hz⟩ := I.list hq
    obtain ⟨j, h1, h2, h3, h4, h5⟩ := atI_get he
    obtain ⟨w, ew, rw'⟩ := r.get h2
    have hl := r.length
    have hn := line63
    have fin : EP X pins σ Q w s := ⟨z, H, I, rw', q⟩
    by_cases h0 : 0 ≤ i
    · have hj : i.toNat = j := by
        rw [seqIndex_of h0 h5] at h1
        exact Option.some.inj h1
      exact wpAny_getItem_list pl.isList h0 (by omega) (by rw [hj]; simpa using ew) fin
    · have hj : (i + (its.toArray.size : Int)).toNat = j := by
        rw [seqIndex_neg (by omega) h4] at h1
        rw [List.size_toArray, ← hl]
        exact Option.some.inj h1
      exact wpAny_getItem_list_neg pl.isList (by omega) (by rw [List.size_toArray] <;> omega) (by omega) (by rw [hj]; simpa using ew) fin
theorem dIx_ok (h : HR G n0 g F r S H) {x y : PV} {u v : V} {z : Bool × PV} {Q : VK} (q1 : RV G F r x u) (q2 : RV G F r y v) (e : dIx x y S = some z) (k : ∀ F' r' H' w, Ext F F' r r' → HR G n0 g F' r' S H' → RF G g F' r' H' z.1 z.2 w → Q w H') : rIxDct u v H Q := by
  unfold dIx at e
  split at e
  · rename_i ks vs edr
    cases ek : keyOf y with
    | none => simp only [ek] at e; cases e
    | some kk =>
      simp only [ek] at e
      cases eg : dGet ks vs kk with
      | none => simp only [eg] at e; cases e
      | some o =>
        cases o with
        | none => simp only [eg] at e; cases e
        | some w =>
          simp only [eg] at e
          cases e
          obtain ⟨a', o', rfl, gd, y', rfl, rv⟩ := dGet_ok h q1 edr q2 ek eg
          exact ⟨a', y', rfl, gd, k F r H y' (.refl _ _) h rv⟩
  · cases e
theorem ok_get : Ok2 G oGet (rGetG G.K) := fun n0 g F r S H x y u v z Q h q1 q2 e k => by
  unfold oGet at e
  cases ed : dIx x y S with
  | some w =>
    simp only [ed] at e
    cases e
    exact .inl (dIx_ok h q1 q2 ed k)
  | none =>
    simp only [ed] at e
    split at e
    · rename_i xs edr
      split at e
      · rename_i i
        split at e
        · rename_i j ej
          cases ew : xs[j]? with
          | none => rw [ew] at e; cases e
          | some w =>
            rw [ew] at e
            cases e
            obtain ⟨a, us, rfl, k1, k2⟩ := view_lst h q1 edr
            obtain ⟨w', e1, q3⟩ := RVs.get k2 ew
            have ea : atI us i = some w' := by
              unfold atI
              rw [← RVs.length k2, ← ixP_eq, ej]
              exact e1
            cases (show v = V.int i from q2)
            exact .inr ⟨a, us, i, w', rfl, rfl, .inl k1, ea, k F r H w' (.refl F r) h q3⟩
        · cases e
      · cases e
    · cases e
theorem isD_ok (h : HR G n0 g F r S H) {v : PV} {u : V} (q : RV G F r v u) (e : isD S v = true) : ∃ a, u = .ref a ∧ IsD H a := by
  unfold isD at e
  split at e
  · cases e
  · rename_i ks vs nk ed
    obtain ⟨a, ho, us, rfl, k1, k2, k3⟩ := view_dct h q ed
    refine ⟨a, rfl, ?_⟩
    cases ks with
    | k l => obtain ⟨rfl, _⟩ := k2; exact .inl ⟨_, k1⟩
    | t l => obtain ⟨rfl, _⟩ := k2; exact .inr ⟨_, k1⟩
    | n l => exact absurd rfl (nk l)
  · cases e
theorem se_get2 {o e f : Expr} {fo fe ff : SE} {apos cpos : Pos} {cf : CF} {k : Nat} (T : Tb X G cf k) (ho : PE X o (rdE G n0 fo)) (he : PE X e (rdE G n0 fe)) (hf : PE X f (rdE G n0 ff)) (m : M2 X o "get" apos e f cpos) : PE X (.Call (.Attribute o "get" apos) [e, f] [] cpos) (rdE G n0 (eGet2 fo fe ff)) := by
  refine peI (pe_dget2 (by have := T.room.un; omega) (toV ho) (toV he) (toV hf) m) fun σ H Q ⟨F, r, env, S, g, s, h⟩ => ?_
  refine stV s cnE h fun p S1 F1 r1 H1 u x1 s1 q1 h1 => ?_
  split at h1
  · rename_i hd
    obtain ⟨a, rfl, ia⟩ := isD_ok s1.hr q1 hd
    refine ⟨a, rfl, ia, ?_⟩
    refine stV s1 cnE h1 fun q S2 F2 r2 H2 v x2 s2 q2 h2 => ?_
    refine stV s2 cnE h2 fun z S3 F3 r3 H3 w x3 s3 q3 h3 => ?_
    cases ed : dG p.2 q.2 z.2 S3 with
    | none => simp only [ed] at h3; exact h3.elim
    | some y =>
      simp only [ed] at h3
      unfold dG at ed
      split at ed
      · rename_i ks vs edr
        cases ek : keyOf q.2 with
        | none => simp only [ek] at ed; cases ed
        | some kk =>
          simp only [ek] at ed
          cases eg : dGet ks vs kk with
          | none => simp only [eg] at ed; cases ed
          | some oo =>
            obtain ⟨a', o', e', gd, rv⟩ := dGet_ok s3.hr (q1.ext (x2.trans x3)) edr (q2.ext x3) ek eg
            cases e'
            refine ⟨o', gd, ?_⟩
            cases oo with
            | none =>
              simp only [eg] at ed
              cases ed
              rw [show o' = none from rv]
              exact h3 F3 r3 H3 w ((x1.trans x2).trans x3) s3 q3
            | some y' =>
              simp only [eg] at ed
              cases ed
              obtain ⟨u', rfl, rv⟩ := rv
              exact h3 F3 r3 H3 u' ((x1.trans x2).trans x3) s3 rv
      · cases ed
  · exact h1.elim
theorem units2 {cf : CF} {k : Nat} (T : Tb X G cf k) : X.A.units + 1 < cLine := by
  have := T.room.un
  omega
end
end PX
set_option Elab.async false
set_option linter.all false
set_option maxRecDepth 100000
set_option maxHeartbeats 2000000
set_option Elab.async false
set_option linter.all false
set_option maxRecDepth 100000
set_option maxHeartbeats 1000000
namespace PX
open PySem PySem.Spec PyProof.Rows L2 ZG
def tGhost (t : TE) : TE := fun σ H Q => t σ H fun x H1 => Q x H1 ∨ ∃ d u, H1 d = some u ∧ Mut (some u) ∧ ∀ od, Q x (upd H1 d (.frz od u))
theorem pe_ghost {X : Cx} {e : Expr} {t : TE} (h : PE X e t) : PE X e (tGhost t) := by
  refine ⟨fun pins s σ H Q I hw => ?_⟩
  refine thn (h.run pins s σ H _ I hw) fun v s1 ⟨x, H1, I1, r, q⟩ => ?_
  rcases q with q | ⟨d, u, hd, mu, q⟩
  · exact ⟨x, H1, I1, r, q⟩
  · obtain ⟨od, I2⟩ := I1.lock hd mu
    exact ⟨x, _, I2, r, q od⟩
def kPV : Key → PV
  | .inl i => .int i
  | .inr s => .str s
def pairL : List Key → List PV → List PV
  | k :: ks, v :: vs => .tup [kPV k, v] :: pairL ks vs
  | _, _ => []
def dctOf (S : Store) (v : PV) : Option (List Key × List PV) := match v with
  | .dct (.k ks) vs => some (ks, vs)
  | .ref i => match S[i]? with
    | some (.lck (.dct (.k ks) vs)) => some (ks, vs)
    | _ => none
  | _ => none
def iItm (a : SE) : SI := fun env S => (a env S).bind fun p S1 => match dctOf S1 p.2 with
  | some z => .ok (pairL z.1 z.2, []) S1
  | none => .no
def iVls (a : SE) : SI := fun env S => (a env S).bind fun p S1 => match dctOf S1 p.2 with
  | some z => .ok (z.2, []) S1
  | none => .no
def iKys (a : SE) : SI := fun env S => (a env S).bind fun p S1 => match dctOf S1 p.2 with
  | some z => .ok (z.1.map kPV, []) S1
  | none => .no
section
variable {G : Gam} {n0 : Nat} {g : Gh} {F : Hp} {r : List Addr} {S : Store} {H : Hp}
theorem kPV_rv (k : Key) : RV G F r (kPV k) (kV k) := by
  cases k with
  | inl i => exact (show kV (.inl i) = V.int i from rfl)
  | inr s => exact (show kV (.inr s) = V.str s from rfl)
theorem pairL_get : ∀ {ks : List Key} {vs : List PV} {i : Nat} {t : PV}, (pairL ks vs)[i]? = some t → ∃ k v, ks[i]? = some k ∧ vs[i]? = some v ∧ t = .tup [kPV k, v]
  | [], vs, i, t, e => by simp [pairL] at e
  | k :: ks, [], i, t, e => by simp [pairL] at e
  | k :: ks, v :: vs, 0, t, e => by
    simp [pairL] at e
    exact ⟨k, v, by simp, by simp, e.symm⟩
  | k :: ks, v :: vs, i + 1, t, e => by
    have e : (pairL ks vs)[i]? = some t := by simpa [pairL] using e
    obtain ⟨a, b, h1, h2, h3⟩ := pairL_get e
    exact ⟨a, b, by simpa using h1, by simpa using h2, h3⟩
theorem pairL_len : ∀ {ks : List Key} {vs : List PV}, ks.length = vs.length → (pairL ks vs).length = ks.length
  | [], vs, _ => by cases vs <;> rfl
  | k :: ks, [], h => by cases h
  | k :: ks, v :: vs, h => by
    show (pairL ks vs).length + 1 = ks.length + 1
    rw [pairL_len (by simpa using h)]
theorem HR.pinD {d : Addr} {od : Obj} {kvs : List (Key × V)} (h : HR G n0 g F r S H) (hd : H d = some (.frz od (.dK kvs))) (hr : d ∉ r) : HR G n0 (g.lock d (.frz od (.dK kvs))) F r S H := by
  refine ⟨h.sub, h.nd, h.off, h.len, h.nle, h.lle, h.obj, fun b o e => ?_, fun i ob b e1 e2 => ?_, fun b o e el => ?_, ⟨fun p hp => let t := h.tab.t p hp; ⟨t.t, t.f, t.nr, by show upd g.pn _ _ p.1 = none; rw [upd_ne (t.ne hd rfl)]; exact t.np⟩, h.tab.nf, tb_upd h.tab.np rfl⟩⟩
  · by_cases hb : b = d
    · subst hb
      have e : upd g.pn b (.frz od (.dK kvs)) b = some o := e
      rw [upd_same] at e
      cases e
      exact ⟨hd, .inr ⟨rfl, by show (if b = b then true else g.lk b) = true; rw [if_pos rfl]⟩, fun j hj => absurd (List.mem_of_getElem? hj) hr⟩
    · have e : upd g.pn d (.frz od (.dK kvs)) b = some o := e
      rw [upd_ne hb] at e
      obtain ⟨q1, q2, q3⟩ := h.pin b o e
      exact ⟨q1, q2.imp (fun q => q) (fun q => ⟨q.1, by show (if b = d then true else g.lk b) = true; rw [if_neg hb]; exact q.2⟩), q3⟩
  · show ∃ o, upd g.pn d (.frz od (.dK kvs)) b = some o
    have hb : b ≠ d := fun z => hr (by rw [← z]; exact List.mem_of_getElem? e2)
    rw [upd_ne hb]
    exact h.lckd i ob b e1 e2
  · have e : upd g.pn d (.frz od (.dK kvs)) b = some o := e
    have el : (if b = d then true else g.lk b) = false := el
    by_cases hb : b = d
    · rw [if_pos hb] at el; cases el
    · rw [upd_ne hb] at e
      rw [if_neg hb] at el
      exact h.out b o e el
theorem HR.lockF {d : Addr} {od : Obj} {kvs : List (Key × V)} (h : HR G n0 g F r S H) (hF : F d = some (.dK kvs)) (hd : H d = some (.dK kvs)) : HR G n0 g F r S (upd H d (.frz od (.dK kvs))) := by
  have hr : d ∉ r := fun hm => by rw [h.off d hm] at hF; cases hF
  refine ⟨fun a o e => ?_, h.nd, h.off, h.len, h.nle, h.lle, fun i ob a e1 e2 => ?_, fun a o e => ?_, h.lckd, h.out, ⟨fun p hp => let t := h.tab.t p hp; ⟨tabS_upd t.t hd rfl, t.f, t.nr, t.np⟩, h.tab.nf, h.tab.np⟩⟩
  · by_cases ha : a = d
    · subst ha
      rw [hF] at e
      cases e
      exact .inr ⟨rfl, od, upd_same⟩
    · rw [upd_ne ha]
      exact h.sub a o e
  · obtain ⟨ho, q1, q2⟩ := h.obj i ob a e1 e2
    exact ⟨ho, q1.upd (fun z => hr (by rw [← z]; exact List.mem_of_getElem? e2)), q2⟩
  · obtain ⟨q1, q2, q3⟩ := h.pin a o e
    have ha : a ≠ d := fun z => by
      subst z
      rw [hd] at q1
      cases q1
      rcases q2 with q2 | q2
      · rw [hF] at q2; cases q2
      · cases q2.1
    exact ⟨by rw [upd_ne ha]; exact q1, q2, q3⟩
theorem HR.unpinD {d : Addr} {ho : HO} (h : HR G n0 (g.lock d ho) F r S H) (hp : g.pn d = none) (hr : d ∉ r) : HR G n0 g F r S H := by
  have ne_of : ∀ b o, g.pn b = some o → b ≠ d := fun b o e z => by rw [z, hp] at e; cases e
  have pn_ne : ∀ b, b ≠ d → (g.lock d ho).pn b = g.pn b := fun b hb => by
    show upd g.pn d ho b = _
    rw [upd_ne hb]
  refine ⟨h.sub, h.nd, h.off, h.len, h.nle, h.lle, h.obj, fun b o e => ?_, fun i ob b e1 e2 => ?_, fun b o e el => ?_, ⟨fun p hp => let t := h.tab.t p hp; ⟨t.t, t.f, t.nr, by rw [← pn_ne p.1 (fun z => by have z2 := t.np; rw [z] at z2; have z3 : upd g.pn d ho d = none := z2; rw [upd_same] at z3; cases z3)]; exact t.np⟩, h.tab.nf, fun b o e => h.tab.np b o (Le.upd hp b o e)⟩⟩
  · have hb := ne_of b o e
    obtain ⟨q1, q2, q3⟩ := h.pin b o (by rw [pn_ne b hb]; exact e)
    exact ⟨q1, q2.imp (fun q => q) (fun q => ⟨q.1, by have z : (if b = d then true else g.lk b) = true := q.2; rw [if_neg hb] at z; exact z⟩), q3⟩
  · have hb : b ≠ d := fun z => hr (by rw [← z]; exact List.mem_of_getElem? e2)
    obtain ⟨o, q⟩ := h.lckd i ob b e1 e2
    rw [pn_ne b hb] at q
    exact ⟨o, q⟩
  · have hb := ne_of b o e
    refine h.out b o (by rw [pn_ne b hb]; exact e) ?_
    show (if b = d then true else g.lk b) = false
    rw [if_neg hb]
    exact el
theorem lock_rep {d : Addr} {ho : HO} {rp : Option (Addr × HO)} (h : ∀ p, rp = some p → p.1 ≠ d) : (g.lock d ho).rep rp = (g.rep rp).lock d ho := by
  cases rp with
  | none => rfl
  | some p =>
    have hne := h p rfl
    show (⟨g.L, upd (upd g.pn d ho) p.1 p.2, fun b => if b = d then true else g.lk b⟩ : Gh) = ⟨g.L, upd (upd g.pn p.1 p.2) d ho, fun b => if b = d then true else g.lk b⟩
    congr 1
    funext b
    by_cases hb : b = d
    · rw [hb, upd_ne hne.symm, upd_same, upd_same]
    · by_cases hb2 : b = p.1
      · rw [hb2, upd_same, upd_ne hne, upd_same]
      · rw [upd_ne hb2, upd_ne hb, upd_ne hb, upd_ne hb2]
structure HeldD (G : Gam) (n0 : Nat) (g g' : Gh) (F : Hp) (r : List Addr) (S : Store) (H : Hp) (d : Addr) (od : Obj) (kvs : List (Key × V)) : Prop where
  hr : HR G n0 g' F r S H
  at_ : H d = some (.frz od (.dK kvs))
  sq : ∀ g2, GhLe g' g2 → ∀ F2 r2 S2 H2, HR G n0 g2 F2 r2 S2 H2 → H2 d = some (.frz od (.dK kvs))
  pn : GhPin g g'
  un : ∀ rp, g.has rp → ∀ F2 r2 S2 H2, HR G n0 (g'.rep rp) F2 r2 S2 H2 → Ext F F2 r r2 → HR G n0 (g.rep rp) F2 r2 S2 H2
theorem heldF {d : Addr} {od : Obj} {kvs : List (Key × V)} (h : HR G n0 g F r S H) (hF : F d = some (.dK kvs)) (hd : H d = some (.frz od (.dK kvs))) : ∃ g', HeldD G n0 g g' F r S H d od kvs := by
  have hr : d ∉ r := fun hm => by rw [h.off d hm] at hF; cases hF
  cases hp : g.pn d with
  | some o =>
    obtain ⟨q1, q2, _⟩ := h.pin d o hp
    rw [hd] at q1
    cases q1
    have hl : g.lk d = true := by
      rcases q2 with q2 | q2
      · rw [hF] at q2; cases q2
      · exact q2.2
    exact ⟨g, h, hd, fun g2 hg F2 r2 S2 H2 h2 => (h2.pin d _ (hg d _ hp hl).1).1, .refl g, fun _ _ F2 r2 S2 H2 h2 _ => h2⟩
  | none =>
    refine ⟨g.lock d (.frz od (.dK kvs)), h.pinD hd hr, hd, fun g2 hg F2 r2 S2 H2 h2 => (h2.pin d _ (hg d _ (by show upd g.pn d _ d = _; rw [upd_same]) (by show (if d = d then true else g.lk d) = true; rw [if_pos rfl])).1).1, fun b o eb el => ?_, fun rp hrp F2 r2 S2 H2 h2 x => ?_⟩
    · have hb : b ≠ d := fun z => by rw [z, hp] at eb; cases eb
      refine ⟨?_, ?_⟩
      · show upd g.pn d _ b = _
        rw [upd_ne hb]
        exact eb
      · show (if b = d then true else g.lk b) = false
        rw [if_neg hb]
        exact el
    · have hne : ∀ p, rp = some p → p.1 ≠ d := fun p e z => by
        obtain ⟨⟨o, ep⟩, _⟩ := hrp p e
        rw [z, hp] at ep
        cases ep
      rw [lock_rep hne] at h2
      have hF2 : F2 d = some (.dK kvs) := x.1 _ _ hF
      refine h2.unpinD ?_ (fun hm => by rw [h2.off d hm] at hF2; cases hF2)
      cases rp with
      | none => exact hp
      | some p =>
        show upd g.pn p.1 p.2 d = none
        rw [upd_ne (hne p rfl).symm]
        exact hp
theorem dct_ok {v : PV} {u : V} {ks : List Key} {vs : List PV} (h : HR G n0 g F r S H) (q : RV G F r v u) (e : dctOf S v = some (ks, vs)) : ∃ d us, u = .ref d ∧ ks.length = us.length ∧ RVs G F r vs us ∧
    ((H d = some (.dK (ks.zip us)) ∧ F d = some (.dK (ks.zip us))) ∨ ∃ od g', HeldD G n0 g g' F r S H d od (ks.zip us)) := by
  unfold dctOf at e
  split at e
  · cases e
    obtain ⟨a, us, ho, rfl, k1, k2, k3⟩ := q
    obtain ⟨rfl, hl⟩ := k2
    refine ⟨a, us, rfl, hl, k3, ?_⟩
    rcases h.sub a _ k1 with z | ⟨_, od, z⟩
    · exact .inl ⟨z, k1⟩
    · exact .inr ⟨od, heldF h k1 z⟩
  · rename_i i
    split at e
    · rename_i ks' vs' es
      cases e
      obtain ⟨a, e1, rfl⟩ := q
      obtain ⟨ho, q1, q2⟩ := h.obj i _ a es e1
      obtain ⟨us, k2, k3⟩ := q2
      obtain ⟨rfl, hl⟩ := k2
      obtain ⟨_, od, hd⟩ := q1.lk rfl
      obtain ⟨o, ep⟩ := h.lckd i _ a es e1
      have eo := (h.pin a o ep).1
      rw [hd] at eo
      cases eo
      have elk : g.lk a = true := by
        cases z : g.lk a with
        | true => rfl
        | false => exact absurd (List.mem_of_getElem? e1) (h.out a _ ep z)
      exact ⟨a, us, rfl, hl, RVs.mono (.refl F) (at_of (lim_le n0 g.L r i)) _ _ k3, .inr ⟨od, g, h, hd, fun g2 hg F2 r2 S2 H2 h2 => (h2.pin a _ (hg a _ ep elk).1).1, .refl g, fun _ _ F2 r2 S2 H2 h2 _ => h2⟩⟩
    · cases e
  · cases e
variable {X : Cx} {tg e : Expr} {fe : SE} {apos cpos tpos : Pos} {elts : List Expr} {kk : Nat}
theorem src_core {t : TI} {fs : SI} {xsf : List Key → List PV → List PV} {J : Addr → Obj → List (Key × V) → It} (hf : ∀ env S, fs env S = (fe env S).bind fun p S1 => match dctOf S1 p.2 with
    | some z => .ok (xsf z.1 z.2, []) S1
    | none => .no) (ht : ∀ σ H R, tGhost (rdV G n0 fe) σ H (fun x H1 => ∃ d o kvs, x = .ref d ∧ H1 d = some (.frz o (.dK kvs)) ∧ R (J d o kvs) H1) → t σ H R)
    (its : ∀ g' F r S H d od ks us vs, ks.length = us.length → RVs G F r vs us → HR G n0 g' F r S H → (∀ g2, GhLe g' g2 → ∀ F2 r2 S2 H2, HR G n0 g2 F2 r2 S2 H2 → H2 d = some (.frz od (.dK (ks.zip us)))) → Its G n0 g' F r (J d od (ks.zip us)) (xsf ks vs))
    (σ : L2.St) (H : Hp) (R : It → Hp → Prop) (hh : rdI G n0 fs σ H R) : t σ H R := by
  obtain ⟨F, r, env, S, g, s, h⟩ := hh
  refine ht σ H R ?_
  rw [hf] at h
  refine stV s cnI h fun p S1 F1 r1 H1 u x1 s1 q1 h1 => ?_
  cases ed : dctOf S1 p.2 with
  | none => rw [ed] at h1; exact h1.elim
  | some z =>
    obtain ⟨ks, vs⟩ := z
    rw [ed] at h1
    obtain ⟨d, us, rfl, hl, rv, q⟩ := dct_ok s1.hr q1 ed
    have fin : ∀ {H2 : Hp} {od : Obj} {g' : Gh}, HeldD G n0 g g' F1 r1 S1 H2 d od (ks.zip us) → ∃ d' o kvs, V.ref d = .ref d' ∧ H2 d' = some (.frz o (.dK kvs)) ∧ R (J d' o kvs) H2 := fun {H2 od g'} hd =>
      ⟨d, od, ks.zip us, rfl, hd.at_, h1 F1 r1 H2 _ g' x1 ⟨hd.hr, s1.sl, s1.vr⟩ (its g' F1 r1 S1 H2 d od ks us vs hl rv hd.hr hd.sq) hd.pn (fun rp hrp F2 r2 S2 H3 h3 x3 => hd.un rp hrp F2 r2 S2 H3 h3 x3)⟩
    rcases q with ⟨k1, k2⟩ | ⟨od, g', hd⟩
    · refine .inr ⟨d, _, k1, trivial, fun od => ?_⟩
      obtain ⟨g', hd⟩ := heldF (s1.hr.lockF (od := od) k2 k1) k2 upd_same
      exact fin hd
    · exact .inl (fin hd)
theorem zip_at {ks : List Key} {us : List V} (hl : ks.length = us.length) {i : Nat} {k : Key} {u : V} (e1 : ks[i]? = some k) (e2 : us[i]? = some u) : (ks.zip us)[i]? = some (k, u) := by
  rw [List.getElem?_zip_eq_some]
  exact ⟨e1, e2⟩
theorem zip_len {ks : List Key} {us : List V} (hl : ks.length = us.length) : (ks.zip us).length = ks.length := by
  rw [List.length_zip, hl, Nat.min_self]
theorem si_items (he : PE X e (rdE G n0 fe)) (hbase : attributeBase e "items" X.env (eval e X.env) = eval e X.env := by rfl) (hline : (apos.endLine == cpos.line) = true := by rfl) :
    PI X (.Tuple elts kk tpos) (.Call (.Attribute e "items" apos) [] [] cpos) (rdI G n0 (iItm fe)) := by
  refine piI (pi_items (pe_ghost (toV he)) hbase hline) fun σ H R hh => ?_
  refine src_core (J := Iti) (xsf := pairL) (fun _ _ => rfl) (fun σ H R q => q) (fun g' F r S H d od ks us vs hl rv hr sq g2 hg F2 r2 S2 H2 h2 x2 => ?_) σ H R hh
  have hd := sq g2 hg F2 r2 S2 H2 h2
  have hv : ks.length = vs.length := by rw [hl, RVs.length rv]
  refine ⟨fun i x ex => ?_, fun i hi => ⟨hd, by rw [zip_len hl]; rw [pairL_len hv] at hi; exact hi⟩⟩
  obtain ⟨k, v, e1, e2, rfl⟩ := pairL_get ex
  obtain ⟨y, e3, q3⟩ := RVs.get rv e2
  have ez := zip_at hl e1 e3
  refine ⟨⟨hd, (List.getElem?_eq_some_iff.mp ez).1⟩, fun v' H3 hy => ?_⟩
  obtain ⟨T, k', w', ew, rfl, hT, rfl⟩ := hy
  rw [ez] at ew
  cases ew
  exact new_tup (xs := [kPV k, v]) (us := [kV k, y]) h2 hT ⟨_, _, rfl, kPV_rv k, _, [], rfl, q3.ext x2, rfl⟩
theorem si_values (he : PE X e (rdE G n0 fe)) (hbase : attributeBase e "values" X.env (eval e X.env) = eval e X.env := by rfl) (hline : (apos.endLine == cpos.line) = true := by rfl) :
    PI X tg (.Call (.Attribute e "values" apos) [] [] cpos) (rdI G n0 (iVls fe)) := by
  refine piI (pi_values (pe_ghost (toV he)) hbase hline) fun σ H R hh => ?_
  refine src_core (J := Itd) (xsf := fun _ vs => vs) (fun _ _ => rfl) (fun σ H R q => q) (fun g' F r S H d od ks us vs hl rv hr sq g2 hg F2 r2 S2 H2 h2 x2 => ?_) σ H R hh
  have hd := sq g2 hg F2 r2 S2 H2 h2
  have hv : ks.length = vs.length := by rw [hl, RVs.length rv]
  refine ⟨fun i x ex => ?_, fun i hi => ⟨hd, by rw [zip_len hl, hv]; exact hi⟩⟩
  obtain ⟨y, e3, q3⟩ := RVs.get rv ex
  have hlt : i < ks.length := by rw [hv]; exact (List.getElem?_eq_some_iff.mp ex).1
  have ez := zip_at hl (List.getElem?_eq_getElem hlt) e3
  refine ⟨⟨hd, (List.getElem?_eq_some_iff.mp ez).1⟩, fun v' H3 hy => ?_⟩
  obtain ⟨rfl, k', ew⟩ := hy
  rw [ez] at ew
  cases ew
  exact ⟨F2, .refl _ _, h2, q3.ext x2⟩
theorem si_keys (he : PE X e (rdE G n0 fe)) : PI X tg e (rdI G n0 (iKys fe)) := by
  refine piI (pi_keys (pe_ghost (toV he))) fun σ H R hh => ?_
  refine src_core (J := Itk) (xsf := fun ks _ => ks.map kPV) (fun _ _ => rfl) (fun σ H R q => ?_) (fun g' F r S H d od ks us vs hl rv hr sq g2 hg F2 r2 S2 H2 h2 x2 => ?_) σ H R hh
  · obtain ⟨F, r, env, S, g, s, h⟩ := q
    refine ⟨F, r, env, S, g, s, ?_⟩
    cases ez : fe env S with
    | no => rw [ez] at h; exact h
    | ex => rw [ez] at h; exact h
    | ok p S' =>
      rw [ez] at h
      exact fun F' r' H' u x s' q => (h F' r' H' u x s' q).imp (fun ⟨d, o, kvs, e1, e2, e3⟩ => ⟨d, o, e1, .inl ⟨kvs, e2, e3⟩⟩) fun ⟨d, w, e1, e2, e3⟩ => ⟨d, w, e1, e2, fun od => let ⟨d', o, kvs, f1, f2, f3⟩ := e3 od; ⟨d', o, f1, .inl ⟨kvs, f2, f3⟩⟩⟩
  have hd := sq g2 hg F2 r2 S2 H2 h2
  refine ⟨fun i x ex => ?_, fun i hi => ⟨hd, by rw [zip_len hl]; rw [List.length_map] at hi; exact hi⟩⟩
  rw [List.getElem?_map] at ex
  cases ek : ks[i]? with
  | none => rw [ek] at ex; cases ex
  | some k =>
    rw [ek] at ex
    cases ex
    have hlt : i < us.length := by rw [← hl]; exact (List.getElem?_eq_some_iff.mp ek).1
    have ez := zip_at hl ek (List.getElem?_eq_getElem hlt)
    refine ⟨⟨hd, (List.getElem?_eq_some_iff.mp ez).1⟩, fun v' H3 hy => ?_⟩
    obtain ⟨rfl, k', w', ew, rfl⟩ := hy
    rw [ez] at ew
    cases ew
    exact ⟨F2, .refl _ _, h2, kPV_rv k⟩
end
end PX
set_option Elab.async false
set_option linter.all false
set_option maxRecDepth 100000
set_option maxHeartbeats 1000000
set_option Elab.async false
set_option linter.all false
set_option maxRecDepth 100000
set_option maxHeartbeats 1000000
set_option Elab.async false
set_option linter.all false
set_option maxRecDepth 100000
set_option maxHeartbeats 4000000
namespace SrtO
open PySem PyProof.Rows Srt
section
variable {prog : Program} {w : World} {A : Around} {E : Value → Shared → Prop} {s : Shared}
theorem collect_tup {l : Addr} {vs : List Value} {Q : List Value → Shared → Prop} (hl : s.heap.IsTuple l vs.toArray)
    (h : Q vs { s with heap := (s.heap.push (seqObj "list" #[] 0)).update s.heap.objs.size (Obj.mapSeq (· ++ vs.toArray)) }) (hsz : vs.length ≤ sizeLine) :
    wpAny (model prog w) A (collect (.ref l)) Q E s := by
  obtain ⟨o, ho, hc, n, hd⟩ := id hl
  unfold collect
  refine wpAny_bind (wpAny_runValue (codeAny_builtin entry_proto_collect' ?_))
  show wpAny _ _ (do again (.builtin "list.__iadd__" ⟨[← newList [], .ref l], []⟩)) _ _ s
  refine wpAny_bind (wpAny_newList (wpAny_pure ⟨Code.quiet_builtin _ (by decide +kernel), codeAny_builtin entry_list_iadd' ?_⟩))
  show wpAny _ _ (Builtin.List.listExtendWith (.ref s.heap.objs.size) (.ref l) (.ref s.heap.objs.size)) _ _ { s with heap := s.heap.push (seqObj "list" #[] 0) }
  unfold Builtin.List.listExtendWith
  have ho' : (s.heap.push (seqObj "list" #[] 0)).get? l = some o := Heap.get?_push_of_some _ ho
  refine wpAny_bind (wpAny_typeOf (T := "tuple") ⟨o, ho', hc⟩ ?_)
  have ht : (Value.type "tuple" == Value.type "tuple") = true := by rfl
  rw [if_pos (by rw [ht]; simp)]
  refine wpAny_bind (listItems_at ho' hd ?_)
  refine wpAny_bind (listItems_at (xs := #[]) (n := 0) (Heap.get?_push_size _ rfl) rfl ?_)
  rw [if_neg (by simp)]
  refine wpAny_bind (listUpdate_at (xs := #[]) (n := 0) (Heap.get?_push_size _ rfl) rfl ?_ (Nat.zero_le _) (by show (#[] ++ vs.toArray).size ≤ sizeLine + 1; simp only [Array.size_append, List.size_toArray, List.length_nil]; omega))
  refine wpAny_pure ?_
  show wpAny (model prog w) A (do
      let o ← load s.heap.objs.size
      match o.data with
      | .seq xs _ => pure xs.toList
      | _ => unsupported "internal:collect") Q E { s with heap := (s.heap.push (seqObj "list" #[] 0)).update s.heap.objs.size (Obj.mapSeq (· ++ vs.toArray)) }
  refine wpAny_bind (wpAny_load (get?_update_seq (Heap.get?_push_size _ rfl) _) ?_)
  show wpAny _ _ (pure ((#[] : Array Value) ++ vs.toArray).toList) Q E _
  rw [show ((#[] : Array Value) ++ vs.toArray).toList = vs by simp]
  exact wpAny_pure h
theorem sorted_ordT {l : Addr} {vs : List Value} {ltv : Value → Value → Bool} {Q : Value → Shared → Prop} (O : Swo ltv) (hl : s.heap.IsTuple l vs.toArray) (hz : vs.length ≤ sizeLine)
    (hS : 2 ≤ vs.length → ∀ (h₁ : Heap) (a : Addr), h₁.get? a = some (seqObj "list" vs.toArray 0) → (∀ b o, s.heap.get? b = some o → b ≠ a ∧ h₁.get? b = some o) → SortableO prog w A.in1.in1 { s with heap := h₁ } a vs ltv)
    (h : ∀ out : List Value, Srtd ltv out → Stb ltv out vs → Q (.ref (s.heap.objs.size + 1)) { s with heap := sortedAll s.heap vs out.toArray }) :
    wpAny (model prog w) A (call (.builtin "sorted") [.ref l]) Q E s := by
  refine Calls.call_function_entry kind_sorted plain_sorted entry_sorted (args_sorted1 _) ?_
  unfold Builtin.«sorted»
  refine wpAny_bind (m := checkCount "sorted" 1 1 _) (wpAny_pure ?_)
  refine wpAny_bind (collect_tup hl ?_ hz)
  refine wpAny_bind (wpAny_newList ?_ hz)
  have hsz : ((s.heap.push (seqObj "list" #[] 0)).update s.heap.objs.size (Obj.mapSeq (· ++ vs.toArray))).objs.size = s.heap.objs.size + 1 := by
    rw [Heap.size_update, size_push']
  have hoL : (((s.heap.push (seqObj "list" #[] 0)).update s.heap.objs.size (Obj.mapSeq (· ++ vs.toArray))).push (seqObj "list" vs.toArray 0)).get? (s.heap.objs.size + 1) = some (seqObj "list" vs.toArray 0) := by
    rw [← hsz]; exact Heap.get?_push_size _ rfl
  have keep : ∀ b o, s.heap.get? b = some o → b ≠ s.heap.objs.size + 1 ∧ (((s.heap.push (seqObj "list" #[] 0)).update s.heap.objs.size (Obj.mapSeq (· ++ vs.toArray))).push (seqObj "list" vs.toArray 0)).get? b = some o := fun b o q => by
    have hlt : b < s.heap.objs.size := Heap.lt_size q
    refine ⟨Nat.ne_of_lt (Nat.lt_succ_of_lt hlt), Heap.get?_push_of_some _ ?_⟩
    rw [Heap.get?_update_ne _ _ _ _ (Nat.ne_of_lt hlt)]
    exact Heap.get?_push_of_some _ q
  show wpAny _ _ _ _ _ { s with heap := ((s.heap.push (seqObj "list" #[] 0)).update s.heap.objs.size (Obj.mapSeq (· ++ vs.toArray))).push (seqObj "list" vs.toArray 0) }
  rw [hsz]
  refine wpAny_bind (wpAny_holding (wpAny_call_entry slot_list_sort ⟨_, hoL, rfl⟩ entry_list_sort (list_sort_ord O hoL hz (fun h2 => hS h2 _ _ hoL keep) fun out hs hb => ⟨_, rfl, ?_⟩) (args_list_sort _)))
  exact wpAny_pure ⟨_, rfl, h out hs hb⟩
end
end SrtO
namespace SrtR
open PySem PyProof.Rows Srt SrtO
section
variable {prog : Program} {w : World} {A : Around} {E : Value → Shared → Prop} {s : Shared}
theorem sorted_ordKT {l : Addr} {vs : List Value} {b : Bool} {kw : List (Str × Value)} {ltv : Value → Value → Bool} {Q : Value → Shared → Prop} (hk : ∀ a, Builtin.«list.sort» ⟨[.ref a], kw⟩ = Builtin.«list.sort» ⟨[.ref a], [(Str.ofString "reverse", .bool b)]⟩)
    (ha1 : argsOk "sorted" ⟨[.ref l], kw⟩) (ha2 : ∀ a, argsOk "list.sort" ⟨[a], kw⟩) (O : Swo ltv) (hl : s.heap.IsTuple l vs.toArray) (hz : vs.length ≤ sizeLine)
    (hS : 2 ≤ vs.length → ∀ (h₁ : Heap) (a : Addr), h₁.get? a = some (seqObj "list" vs.toArray 0) → (∀ b o, s.heap.get? b = some o → b ≠ a ∧ h₁.get? b = some o) → SortableO prog w A.in1.in1 { s with heap := h₁ } a vs ltv)
    (h : ∀ out : List Value, Srtd ltv out → Stb ltv out (if b = true then vs.reverse else vs) → Q (.ref (s.heap.objs.size + 1)) { s with heap := sortedAll s.heap vs (if b = true then out.toArray.reverse else out.toArray) }) :
    wpAny (model prog w) A (call (.builtin "sorted") [.ref l] kw) Q E s := by
  refine call_function_entry_kw kind_sorted plain_sorted entry_sorted ha1 ?_
  unfold Builtin.«sorted»
  refine wpAny_bind (m := checkCount "sorted" 1 1 _) (wpAny_pure ?_)
  refine wpAny_bind (collect_tup hl ?_ hz)
  refine wpAny_bind (wpAny_newList ?_ hz)
  have hsz : ((s.heap.push (seqObj "list" #[] 0)).update s.heap.objs.size (Obj.mapSeq (· ++ vs.toArray))).objs.size = s.heap.objs.size + 1 := by
    rw [Heap.size_update, size_push']
  have hoL : (((s.heap.push (seqObj "list" #[] 0)).update s.heap.objs.size (Obj.mapSeq (· ++ vs.toArray))).push (seqObj "list" vs.toArray 0)).get? (s.heap.objs.size + 1) = some (seqObj "list" vs.toArray 0) := by
    rw [← hsz]; exact Heap.get?_push_size _ rfl
  have keep : ∀ b o, s.heap.get? b = some o → b ≠ s.heap.objs.size + 1 ∧ (((s.heap.push (seqObj "list" #[] 0)).update s.heap.objs.size (Obj.mapSeq (· ++ vs.toArray))).push (seqObj "list" vs.toArray 0)).get? b = some o := fun b o q => by
    have hlt : b < s.heap.objs.size := Heap.lt_size q
    refine ⟨Nat.ne_of_lt (Nat.lt_succ_of_lt hlt), Heap.get?_push_of_some _ ?_⟩
    rw [Heap.get?_update_ne _ _ _ _ (Nat.ne_of_lt hlt)]
    exact Heap.get?_push_of_some _ q
  show wpAny _ _ _ _ _ { s with heap := ((s.heap.push (seqObj "list" #[] 0)).update s.heap.objs.size (Obj.mapSeq (· ++ vs.toArray))).push (seqObj "list" vs.toArray 0) }
  rw [hsz]
  refine wpAny_bind (wpAny_holding (wpAny_call_entry_kw slot_list_sort ⟨_, hoL, rfl⟩ entry_list_sort ?_ (ha2 _)))
  rw [hk]
  refine list_sort_ordR O hoL hz (fun h2 => hS h2 _ _ hoL keep) fun out hs hb => ⟨_, rfl, ?_⟩
  exact wpAny_pure ⟨_, rfl, h out hs hb⟩
end
end SrtR
namespace L2
open PySem PySem.Spec PyProof.Rows
def rSortedIT (K : PySem.W.Frag) : List V → Hp → VK → Prop := fun vs H Q => ∃ (a : Addr) (ns : List Int), vs = [V.ref a] ∧ SqT K H a (ns.map V.int) ∧
  ∀ (ns' : List Int) (p : Addr), ns'.Perm ns → ns'.Pairwise (· ≤ ·) → H p = none → Q (.ref p) (upd H p (.lst (ns'.map V.int)))
section
variable {X : Cx}
theorem cr_sortedIT : CallR X (.builtin "sorted") (rSortedIT X.K) := by
  intro pins s σ H vs us Q I r h
  obtain ⟨a, ns, rfl, hs, q⟩ := h
  obtain ⟨its, rv, hl, hz⟩ := I.tuple hs
  rw [Vals.ref1 r]
  have hi := rv.ints
  refine SrtO.sorted_ordT SrtO.swo_int (show s.heap.IsTuple a its.toArray from hl) (by rw [← rv.length]; exact hz) (fun h2 h₁ a' _ _ => SrtO.ints_sortable hi h2) fun out h1 h2 => ?_
  obtain ⟨k1, k2, k3⟩ := SrtO.ints_out hi h1 h2
  obtain ⟨ep, he'⟩ := PyProof.Rows.sortedAll_at s.heap its out.toArray
  have hlen : ((out.map SrtO.iv).map V.int).length ≤ sizeLine := by
    rw [List.length_map, k2.length_eq]
    rw [List.length_map] at hz
    exact hz
  exact ⟨.ref _, upd H (s.heap.objs.size + 1) (.lst ((out.map SrtO.iv).map V.int)), I.laid (t' := s.toks) (fun _ _ => PyProof.Rows.sortedAll_old) (Nat.le_succ _) ⟨hlen, out, ep, vals_of_ints k1, he'⟩, rfl, q _ _ k2 k3 (I.hok.fresh (Nat.le_succ _))⟩
theorem sorted_runT {b : Bool} {kw : List (Str × Value)} {pins : List (Addr × Obj)} {s : Shared} {σ : St} {H : Hp} {a : Addr} {ns : List Int} {Q : VK} (I : Inv X pins σ H s) (hs : SqT X.K H a (ns.map V.int))
    (hk : ∀ a, Builtin.«list.sort» ⟨[.ref a], kw⟩ = Builtin.«list.sort» ⟨[.ref a], [(Str.ofString "reverse", .bool b)]⟩) (ha1 : argsOk "sorted" ⟨[.ref a], kw⟩) (ha2 : ∀ a, argsOk "list.sort" ⟨[a], kw⟩)
    (q : ∀ (ns' : List Int) (p : Addr), ns'.Perm ns → OrdB b ns' → H p = none → Q (.ref p) (upd H p (.lst (ns'.map V.int)))) : wpAny (model X.prog X.w) X.A (call (.builtin "sorted") [.ref a] kw) (EP X pins σ Q) X.xe s := by
  obtain ⟨its, rv, hl, hz⟩ := I.tuple hs
  have hi := rv.ints
  refine SrtR.sorted_ordKT hk ha1 ha2 SrtO.swo_int (show s.heap.IsTuple a its.toArray from hl) (by rw [← rv.length]; exact hz) (fun h2 h₁ a' _ _ => SrtO.ints_sortable hi h2) fun out h1 h2 => ?_
  obtain ⟨ns', k1, k2, k3⟩ := SrtR.ints_outR hi h1 h2
  obtain ⟨ep, he'⟩ := PyProof.Rows.sortedAll_at s.heap its (if b = true then out.toArray.reverse else out.toArray)
  have hlen : (ns'.map V.int).length ≤ sizeLine := by
    rw [List.length_map, k2.length_eq]
    rw [List.length_map] at hz
    exact hz
  have e0 : ((if b = true then out.toArray.reverse else out.toArray).toList).toArray = (if b = true then out.toArray.reverse else out.toArray) := by rw [Array.toArray_toList]
  exact ⟨.ref _, upd H (s.heap.objs.size + 1) (.lst (ns'.map V.int)), I.laid (t' := s.toks) (fun _ _ => PyProof.Rows.sortedAll_old) (Nat.le_succ _) ⟨hlen, _, ep, vals_of_ints k1, by rw [e0]; exact he'⟩, rfl, q _ _ k2 k3 (I.hok.fresh (Nat.le_succ _))⟩
def rSortedR (K : PySem.W.Frag) (b : Bool) : List V → List V → Hp → VK → Prop := fun vs zs H Q => ∃ (a : Addr) (ns : List Int), vs = [V.ref a] ∧ zs = [.bl b] ∧ (SqL K H a (ns.map V.int) ∨ SqT K H a (ns.map V.int)) ∧
  ∀ (ns' : List Int) (p : Addr), ns'.Perm ns → OrdB b ns' → H p = none → Q (.ref p) (upd H p (.lst (ns'.map V.int)))
theorem cr_sortedR {b : Bool} : CallRK X (.builtin "sorted") [Str.ofString "reverse"] (rSortedR X.K b) := by
  intro pins s σ H vs zs us ws Q I r rz h
  obtain ⟨a, ns, rfl, rfl, hs, q⟩ := h
  obtain rfl := Vals.ref1 r
  obtain ⟨w1, rfl, e1⟩ := vals1 rz
  obtain rfl : w1 = Value.bool b := e1
  rcases hs with hs | hs
  · exact sorted_run I hs (fun _ => rfl) (PyProof.Rows.args_sorted_rev _ _) (fun _ => PyProof.Rows.args_list_sort_rev _ _) q
  · exact sorted_runT I hs (fun _ => rfl) (PyProof.Rows.args_sorted_rev _ _) (fun _ => PyProof.Rows.args_list_sort_rev _ _) q
end
end L2
set_option Elab.async false
set_option linter.all false
set_option maxRecDepth 100000
set_option maxHeartbeats 4000000
namespace SrtV
open PySem PyProof.Rows Srt SrtO PySem.W
section
variable {prog : Program} {w : World} {A : Around} {E : Value → Shared → Prop} {s : Shared} {T : String} {r d : Addr} {n : Nat} {P : Nat → Value → Prop} {OK : Heap → Prop}
theorem collect_src {Q : List Value → Shared → Prop} (K : KdlSrc prog w T r d n P OK) (hh : A.handled = none) (hok : OK s.heap) (hn : n ≤ sizeLine)
    (h : ∀ h' tk (acc : Array Value), (∀ b o, s.heap.get? b = some o → h'.get? b = some o) → s.heap.objs.size < h'.objs.size → ItemsOf P acc n → Q acc.toList { s with heap := h', toks := tk }) :
    wpAny (model prog w) A (collect (.ref r)) Q E s := by
  unfold collect
  refine wpAny_bind (wpAny_runValue (codeAny_builtin entry_proto_collect' ?_))
  show wpAny _ _ (do again (.builtin "list.__iadd__" ⟨[← newList [], .ref r], []⟩)) _ _ s
  refine wpAny_bind (wpAny_newList (wpAny_pure ⟨Code.quiet_builtin _ (by decide +kernel), codeAny_builtin entry_list_iadd' ?_⟩))
  have hlt := K.there _ hok
  refine wpAny_mono (kdl_extend (A := A) (R := fun res s' => match res with
    | .ok (.ret v) => wpAny (model prog w) A (match v with
      | .ref a => do
        let o ← load a
        match o.data with
        | .seq xs _ => pure xs.toList
        | _ => unsupported "internal:collect"
      | _ => unsupported "internal:collect") Q E s'
    | .ok _ => False
    | .error e => E e s') K (s := { s with heap := s.heap.push (seqObj "list" #[] 0) }) hh (K.keep _ _ hok fun b _ o e => Heap.get?_push_of_some _ e) s.heap.objs.size (Nat.ne_of_gt hlt.1) (Nat.ne_of_gt hlt.2) (.ref s.heap.objs.size) 0 (Heap.get?_push_size _ rfl) (fun h' tk acc c' hk hS hacc => ?_) hn) (fun fin s' x => ?_) (fun e s' x => x)
  · show wpAny (model prog w) A (do
      let o ← load s.heap.objs.size
      match o.data with
      | .seq xs _ => pure xs.toList
      | _ => unsupported "internal:collect") Q E { s with heap := h', toks := tk }
    refine wpAny_bind (wpAny_load hS ?_)
    exact wpAny_pure (h h' tk acc (fun b o e => hk b o (Nat.ne_of_lt (Heap.lt_size e)) (Heap.get?_push_of_some _ e)) (Heap.lt_size hS) hacc)
  · cases fin with
    | done f =>
      cases f <;> exact x
    | again c' =>
      refine ⟨x.1, ?_⟩
      exact x.2
theorem sorted_src {b : Bool} {kw : List (Str × Value)} {ns : List Int} {Q : Value → Shared → Prop} (K : KdlSrc prog w T r d n P OK) (hh : A.handled = none) (hok : OK s.heap) (hn : n ≤ sizeLine)
    (hk : ∀ a, Builtin.«list.sort» ⟨[.ref a], kw⟩ = Builtin.«list.sort» ⟨[.ref a], [(Str.ofString "reverse", .bool b)]⟩)
    (ha1 : argsOk "sorted" ⟨[.ref r], kw⟩) (ha2 : ∀ a, argsOk "list.sort" ⟨[a], kw⟩) (hi : ∀ acc : Array Value, ItemsOf P acc n → IntsAre acc.toList ns)
    (h : ∀ (h' : Heap) tk (a : Addr) (ep : Nat) (out : Array Value) (ns' : List Int), (∀ b o, s.heap.get? b = some o → h'.get? b = some o) → s.heap.objs.size ≤ a → h'.get? a = some (seqObj "list" out ep) → IntsAre out.toList ns' → ns'.Perm ns → Ordered b ns' → Q (.ref a) { s with heap := h', toks := tk }) :
    wpAny (model prog w) A (call (.builtin "sorted") [.ref r] kw) Q E s := by
  refine call_function_entry_kw kind_sorted plain_sorted entry_sorted ha1 ?_
  unfold Builtin.«sorted»
  refine wpAny_bind (m := checkCount "sorted" 1 1 _) (wpAny_pure ?_)
  refine wpAny_bind (collect_src K hh hok hn fun h1 tk acc k1 hsz hacc => ?_)
  have hI := hi acc hacc
  have hz : acc.toList.length ≤ sizeLine := by rw [Array.length_toList, hacc.1]; exact hn
  refine wpAny_bind (wpAny_newList ?_ hz)
  have hoL : (h1.push (seqObj "list" acc.toList.toArray 0)).get? h1.objs.size = some (seqObj "list" acc.toList.toArray 0) := Heap.get?_push_size _ rfl
  have hle : s.heap.objs.size ≤ h1.objs.size := Nat.le_of_lt hsz
  show wpAny _ _ _ _ _ { s with heap := h1.push (seqObj "list" acc.toList.toArray 0), toks := tk }
  refine wpAny_bind (wpAny_holding (wpAny_call_entry_kw slot_list_sort ⟨_, hoL, rfl⟩ entry_list_sort ?_ (ha2 _)))
  rw [hk]
  refine SrtR.list_sort_ordR swo_int hoL hz (fun h2 => ints_sortable hI h2) fun out hs hb => ⟨_, rfl, ?_⟩
  obtain ⟨ns', q1, q2, q3⟩ := SrtR.ints_outR hI hs hb
  obtain ⟨ep, he⟩ := sortedHeap_at (vs := acc.toList) (out := if b = true then out.toArray.reverse else out.toArray) hoL
  refine wpAny_pure ⟨_, rfl, h _ tk h1.objs.size ep _ ns' (fun c o e => ?_) hle he q1 q2 q3⟩
  have hc := Heap.lt_size (k1 c o e)
  rw [sortedHeap_old (Nat.ne_of_lt hc) (by rw [size_push']; exact Nat.lt_succ_of_lt hc)]
  exact Heap.get?_push_of_some _ (k1 c o e)
end
end SrtV
namespace L2
open PySem PySem.Spec PyProof.Rows PySem.W
def tVw (td : TE) : TE := fun σ H Q => td σ H fun x H1 => ∃ d kvs, x = .ref d ∧ Rd H1 d (.dK kvs) ∧ ∀ p, H1 p = none → Q (.ref p) (upd H1 p (viewO "dict_values" p d))
theorem pe_vw {X : Cx} {e : Expr} {td : TE} {apos cpos : Pos} (he : PE X e td) (hbase : attributeBase e "values" X.env (eval e X.env) = eval e X.env := by rfl) (hline : (apos.endLine == cpos.line) = true := by rfl) : PE X (.Call (.Attribute e "values" apos) [] [] cpos) (tVw td) := by
  refine ⟨fun pins s σ H Q I h => ?_⟩
  refine wpAny_Call_method (T := "dict") (id := "dict.values") hbase rfl hline F.plainAttrs_dict F.slot_dict_values F.type_dict_values (thn (he.run pins s σ H _ I h) fun u s1 ⟨x, H1, I1, rx, d, kvs, ex, hd, q⟩ => ?_)
  subst ex
  obtain rfl : u = Value.ref d := rx
  obtain ⟨hz, hs, vs, kv, hm⟩ := dk_rd I1.hok hd
  refine ⟨hm.typeIs, hm.mapOf.noDict, ?_⟩
  show wpAny _ _ (callWith cpos (.builtin "dict.values") [.ref d] [] []) _ X.xe s1
  exact method_meetsIn F.slot_dict_values F.entry_dict_values rfl (PySem.evalArgs_none ⟨rfl, hm.typeIs, F.args_dict_values_1 _, _, meets_dict_values (mixKind X.prog X.w) d hs, ⟨vs, hm⟩,
    ⟨.ref s1.heap.objs.size, _, I1.laid (t' := s1.toks) (fun b o q => Heap.get?_push_of_some _ q) (Nat.le_refl _) (viewO_ok (Heap.get?_push_size _ rfl)), rfl, q _ (I1.hok.fresh (Nat.le_refl _))⟩⟩)
def rSortV (b : Bool) : List V → List V → Hp → VK → Prop := fun vs zs H Q => ∃ (p d : Addr) (kvs : List (Key × V)) (ns : List Int), vs = [V.ref p] ∧ zs = [.bl b] ∧ H p = some (viewO "dict_values" p d) ∧ Rd H d (.dK kvs) ∧ kvs.map Prod.snd = ns.map V.int ∧
  ∀ (ns' : List Int) (q : Addr), ns'.Perm ns → OrdB b ns' → H q = none → Q (.ref q) (upd H q (.lst (ns'.map V.int)))
theorem cr_sortV {X : Cx} {b : Bool} (hc : X.calm = true) : CallRK X (.builtin "sorted") [Str.ofString "reverse"] (rSortV b) := by
  intro pins s σ H vs zs us ws Q I r rz h
  obtain ⟨p, d, kvs, ns, rfl, rfl, hp, hd, en, q⟩ := h
  obtain rfl := Vals.ref1 r
  obtain ⟨w1, rfl, e1⟩ := vals1 rz
  obtain rfl : w1 = Value.bool b := e1
  obtain ⟨hz, hs, ws, kv, hm⟩ := dk_rd I.hok hd
  have hv : s.heap.get? p = some (DSub.viewOb "dict_values" d) := (show ObjOk X.prog X.w H s.heap p (viewO "dict_values" p d) from I.hok p _ hp).1
  obtain ⟨o, es, ep, hm⟩ := hm
  have hlen : ws.length = kvs.length := (Paired.length kv).symm
  refine SrtV.sorted_src (ns := ns) (kdl_values (knd := mixKind X.prog X.w) (r := p) (d := d) (kvs := ws) (ep := ep)) (I.ok.hd hc) ⟨⟨_, hv, rfl, rfl⟩, ⟨o, es, hm⟩⟩ (by rw [hlen]; exact hz) (fun _ => rfl) (PyProof.Rows.args_sorted_rev _ _) (fun _ => PyProof.Rows.args_list_sort_rev _ _) (fun acc ha => ?_) fun h' tk a ep' out ns' k hle he hI hp' ho => ?_
  · have hvs : Vals (ns.map V.int) acc.toList := by
      have e1 : acc.toList = ws.map Prod.snd := kdl_vals_eq acc.toList (by rw [Array.length_toList, ha.1]) fun j v e => ha.2 j v (by rw [← Array.getElem?_toList]; exact e)
      rw [e1, ← en]
      clear en hz hd ha e1 hm hlen q
      unfold KV at kv
      induction kv with
      | nil => exact .nil
      | cons h t ih => exact .cons h.2 ih
    exact hvs.ints
  · have hl : (ns'.map V.int).length ≤ sizeLine := by
      rw [List.length_map, hp'.length_eq]
      have := congrArg List.length en
      rw [List.length_map, List.length_map] at this
      omega
    exact ⟨.ref _, upd H a (.lst (ns'.map V.int)), I.laid (t' := tk) k hle ⟨hl, out.toList, ep', vals_of_ints hI, by rw [Array.toArray_toList]; exact he⟩, rfl, q _ _ hp' ho (I.hok.fresh hle)⟩
end L2
namespace PX
open PySem PySem.Spec PyProof.Rows L2
def srtB (b : Bool) (ns : List Int) : List Int := if b then (srtI ns).reverse else srtI ns
theorem srtB_eq {b : Bool} {ns ns' : List Int} (p : ns'.Perm ns) (h : OrdB b ns') : ns' = srtB b ns := by
  unfold srtB
  unfold OrdB at h
  cases b with
  | false => exact srtI_eq p h
  | true =>
    have e : ns'.reverse = srtI ns := srtI_eq (ns'.reverse_perm.trans p) (List.pairwise_reverse.mpr h)
    show ns' = (srtI ns).reverse
    rw [← e, List.reverse_reverse]
def eSrt (b : Bool) (a : SE) : SE := fun env S => (a env S).bind fun p S1 => match itemsOf S1 p.2 with
  | some ws => match intsOf ws with
    | some ns => .ok (true, .lst ((srtB b ns).map .int)) S1
    | none => .no
  | none => .no
def valsOf (S : Store) (v : PV) : Option (List PV) := match deref S v with
  | some (.dct (.k _) vs) => some vs
  | _ => none
def eSrtV (b : Bool) (a : SE) : SE := fun env S => (a env S).bind fun p S1 => match valsOf S1 p.2 with
  | some ws => match intsOf ws with
    | some ns => .ok (true, .lst ((srtB b ns).map .int)) S1
    | none => .no
  | none => .no
section
variable {G : Gam} {n0 : Nat} {g : Gh} {F : Hp} {r : List Addr} {S : Store} {H : Hp} {X : Cx}
theorem intsOf_ok : ∀ {ws : List PV} {ns : List Int}, intsOf ws = some ns → ws = ns.map .int
  | [], ns, e => by cases e; rfl
  | w :: ws, ns, e => by
    cases w with
    | int i =>
      have e : (intsOf ws).map (i :: ·) = some ns := e
      cases e1 : intsOf ws with
      | none => rw [e1] at e; cases e
      | some ms =>
        rw [e1] at e
        cases e
        rw [intsOf_ok e1]
        rfl
    | _ => cases e
theorem se_srt {b : Bool} {e : Expr} {fe : SE} {p pos kp kp2 : Pos} {kk : Nat} (hK : G.K = X.K) (hg : Gl X "sorted") (hm : X.mg "sorted" = none) (he : PE X e (rdE G n0 fe)) (hs : starEach [e] X.env = [(false, eval e X.env)] := by rfl) (hb : ∀ (X : Cx), PE X (.Constant (.bool b) kk kp) (tC (.bl b)) := by exact fun _ => pe_bl)
    (hes : backTo pos (starEach [e] X.env) = (false, eval e X.env) :: backTo pos (starEach [] X.env) := by rfl) (hpl : (backTo pos (starEach [e] X.env)).any (·.1) = false := by rfl) :
    PE X (.Call (.Name "sorted" p) [e] [⟨some "reverse", .Constant (.bool b) kk kp, kp2⟩] pos) (rdE G n0 (eSrt b fe)) := by
  refine peI (pe_callBK (cr_sortedR (X := X) (b := b)) hg hm (by rfl) (pa_cons (toV he) pa_nil hs) (pk_cons (hb X) pk_nil) (by decide) (by decide) hes hpl) fun σ H Q ⟨F, r, env, S, g, s, h⟩ => ?_
  refine stV s cnE h fun p S1 F1 r1 H1 u x1 s1 q1 h1 => ?_
  cases ei : itemsOf S1 p.2 with
  | none => rw [ei] at h1; exact h1.elim
  | some ws =>
    simp only [ei] at h1
    cases en : intsOf ws with
    | none => rw [en] at h1; exact h1.elim
    | some ns =>
      rw [en] at h1
      obtain ⟨a, us, rfl, hq, rv⟩ := view_seq s1.hr q1 ei
      rw [intsOf_ok en] at rv
      have eu := RVs.ints rv
      subst eu
      refine ⟨a, ns, rfl, rfl, hK ▸ hq, fun ns' p' hp ho hn => ?_⟩
      rw [srtB_eq hp ho]
      obtain ⟨h2, k4⟩ := new_obj s1.hr hn (v := .lst ((srtB b ns).map .int)) ⟨_, rfl, RVs.of_ints _⟩ rfl
      exact h1 F1 r1 _ _ x1 (s1.ext (.refl _ _) h2) k4
theorem se_srtV {b : Bool} {e : Expr} {fe : SE} {p pos apos cpos kp kp2 : Pos} {kk : Nat} (hc : X.calm = true) (hg : Gl X "sorted") (hm : X.mg "sorted" = none) (he : PE X e (rdE G n0 fe)) (hbase : attributeBase e "values" X.env (eval e X.env) = eval e X.env := by rfl) (hline : (apos.endLine == cpos.line) = true := by rfl)
    (hs : starEach [.Call (.Attribute e "values" apos) [] [] cpos] X.env = [(false, eval (.Call (.Attribute e "values" apos) [] [] cpos) X.env)] := by rfl) (hb : ∀ (X : Cx), PE X (.Constant (.bool b) kk kp) (tC (.bl b)) := by exact fun _ => pe_bl)
    (hes : backTo pos (starEach [.Call (.Attribute e "values" apos) [] [] cpos] X.env) = (false, eval (.Call (.Attribute e "values" apos) [] [] cpos) X.env) :: backTo pos (starEach [] X.env) := by rfl) (hpl : (backTo pos (starEach [.Call (.Attribute e "values" apos) [] [] cpos] X.env)).any (·.1) = false := by rfl) :
    PE X (.Call (.Name "sorted" p) [.Call (.Attribute e "values" apos) [] [] cpos] [⟨some "reverse", .Constant (.bool b) kk kp, kp2⟩] pos) (rdE G n0 (eSrtV b fe)) := by
  refine peI (pe_callBK (cr_sortV (X := X) (b := b) hc) hg hm (by rfl) (pa_cons (pe_vw (toV he) hbase hline) pa_nil hs) (pk_cons (hb X) pk_nil) (by decide) (by decide) hes hpl) fun σ H Q ⟨F, r, env, S, g, s, h⟩ => ?_
  refine stV s cnE h fun p S1 F1 r1 H1 u x1 s1 q1 h1 => ?_
  cases ei : valsOf S1 p.2 with
  | none => rw [ei] at h1; exact h1.elim
  | some ws =>
    simp only [ei] at h1
    cases en : intsOf ws with
    | none => rw [en] at h1; exact h1.elim
    | some ns =>
      rw [en] at h1
      unfold valsOf at ei
      split at ei
      · rename_i kd vs ed
        cases ei
        obtain ⟨a, ho, us, rfl, k1, k2, rv⟩ := view_dct s1.hr q1 ed
        obtain ⟨rfl, hl⟩ := k2
        rw [intsOf_ok en] at rv
        have eu := RVs.ints rv
        subst eu
        refine ⟨a, _, rfl, k1, fun p' hp' => ?_⟩
        have hpa : a ≠ p' := fun z => by
          subst z
          rcases k1 with k1 | ⟨_, k1⟩ <;> rw [hp'] at k1 <;> cases k1
        refine ⟨p', a, kd.zip (ns.map V.int), ns, rfl, rfl, upd_same, ?_, ?_, fun ns' q' hp ho hn => ?_⟩
        · rcases k1 with k1 | ⟨o, k1⟩
          · exact .inl (by rw [upd_ne hpa]; exact k1)
          · exact .inr ⟨o, by rw [upd_ne hpa]; exact k1⟩
        · rw [show (Prod.snd : Key × V → V) = Prod.snd from rfl, List.map_snd_zip (Nat.le_of_eq hl.symm)]
        · rw [srtB_eq hp ho]
          have h0 := s1.hr.heap (H' := upd H1 p' (viewO "dict_values" p' a)) fun b o e => by rw [upd_ne (ne_of_none e hp')]; exact e
          obtain ⟨h2, k4⟩ := new_obj h0 hn (v := .lst ((srtB b ns).map .int)) ⟨_, rfl, RVs.of_ints _⟩ rfl
          exact h1 F1 r1 _ _ x1 (s1.ext (.refl _ _) h2) k4
      · cases ei
end
end PX
set_option Elab.async false
set_option linter.all false
set_option maxRecDepth 100000
set_option maxHeartbeats 1000000
namespace PX
open PySem PySem.Spec PyProof.Rows L2
structure TupG (K : PySem.W.Frag) (mg : Str → Option Value) (x : Str) (ns : List Int) (a : Addr) : Prop where
  at_ : mg x = some (.ref a)
  sq : ∀ H, SqT K H a (ns.map V.int)
end PX
set_option Elab.async false
set_option linter.all false
set_option maxRecDepth 100000
set_option maxHeartbeats 2000000
namespace PySem.SeqAt
open AutoSeq1 (wpAny_loadPart')
open MeetsSeq MeetsSeq2 MeetsSeq3 SeqRoads2
section
variable {prog : Program} {w : World}
theorem qne_loop (l b : Addr) (items items2 : Array Value) (n n2 : Nat) (dd dd2 : Option Addr) (sl sl2 : Array (Option Value)) (hsz : items.size = items2.size) (e : Nat → Bool) (k : Nat) :
    ∀ i : Nat, items.size - i = k → MeetsIn prog w (Builtin.«list.__eq__.loop» ⟨[.ref l, .ref b, rawInt i, rawInt 3], []⟩)
      (fun A R s => s.heap.get? l = some { cls := .type "list", dict := dd, data := .seq items n, slots := sl } ∧ s.heap.get? b = some { cls := .type "list", dict := dd2, data := .seq items2 n2, slots := sl2 } ∧
        (∀ j (h1 : j < items.size) (h2 : j < items2.size), EqIn prog w A.in1 s items[j] items2[j] (e j)) ∧
        R (.ok (.ret (.bool (!((List.range items.size).drop i).all e)))) s) := by
  induction k with
  | zero =>
    intro i hk A R s h
    obtain ⟨hp, g, d, tk, os⟩ := s
    obtain ⟨hl, hb, he, h⟩ := h
    wp_walk using wpAny_loadPart' hl, wpAny_loadPart' hb
    have z1 : items[((i : Nat) : Int).toNat]? = none := by simp; omega
    have z2 : items2[((i : Nat) : Int).toNat]? = none := by simp; omega
    have zd : (List.range items.size).drop i = [] := by simp; omega
    rw [zd] at h
    rw [z1, z2]
    wp_walk using wpAny_loadPart' hl, wpAny_loadPart' hb
    show R (.ok (.ret (.bool (items.size != items2.size)))) _
    rw [hsz]
    simpa using h
  | succ k ih =>
    intro i hk A R s h
    obtain ⟨hp, g, d, tk, os⟩ := s
    obtain ⟨hl, hb, he, h⟩ := h
    wp_walk using wpAny_loadPart' hl, wpAny_loadPart' hb
    have lt1 : i < items.size := by omega
    have lt2 : i < items2.size := by omega
    have z1 : items[((i : Nat) : Int).toNat]? = some items[i] := by simp [lt1]
    have z2 : items2[((i : Nat) : Int).toNat]? = some items2[i] := by simp [lt2]
    have zd : (List.range items.size).drop i = i :: (List.range items.size).drop (i + 1) := by simp [List.drop_eq_getElem_cons, lt1]
    have zc : ((i : Int) + 1) = ((i + 1 : Nat) : Int) := by push_cast; rfl
    rw [zd, List.all_cons] at h
    rw [z1, z2]
    refine wpAny_bind (he i lt1 lt2 _ _ ?_)
    cases q : e i with
    | true =>
      rw [q] at h
      wp_walk
      rw [zc]
      refine ⟨plainId_quiet plain_eq_loop _, codeAny_builtin entry_eq_loop ?_⟩
      rw [Around.under_plainId plain_eq_loop _]
      exact ih (i + 1) (by omega) A R _ ⟨hl, hb, he, by simpa using h⟩
    | false =>
      rw [q] at h
      wp_walk using wpAny_loadPart' hl, wpAny_loadPart' hb
      rw [z1, z2]
      wp_walk
      simpa using h
theorem qne_list (l b : Addr) (items items2 : Array Value) (n n2 : Nat) (dd dd2 : Option Addr) (sl sl2 : Array (Option Value)) (hsz : items.size = items2.size) (e : Nat → Bool) :
    MeetsIn prog w (Builtin.«list.__ne__» ⟨[.ref l, .ref b], []⟩)
      (fun A R s => s.heap.get? l = some { cls := .type "list", dict := dd, data := .seq items n, slots := sl } ∧ s.heap.get? b = some { cls := .type "list", dict := dd2, data := .seq items2 n2, slots := sl2 } ∧
        (∀ j (h1 : j < items.size) (h2 : j < items2.size), EqIn prog w A.in1 s items[j] items2[j] (e j)) ∧
        R (.ok (.ret (.bool (!(List.range items.size).all e)))) s) := by
  intro A R s h
  obtain ⟨hp, g, d, tk, os⟩ := s
  obtain ⟨hl, hb, he, h⟩ := h
  have f3 := AutoSeq1.sub_list_list
  have hne : ¬ (items.size != items2.size) = true := by simp [hsz]
  wp_walk using wpAny_loadPart' hl, wpAny_loadPart' hb
  refine ⟨plainId_quiet plain_eq_loop _, codeAny_builtin entry_eq_loop ?_⟩
  rw [Around.under_plainId plain_eq_loop _]
  exact qne_loop l b items items2 n n2 dd dd2 sl sl2 hsz e _ 0 rfl A R _ ⟨hl, hb, he, by simpa using h⟩
variable {A : Around} {s : Shared}
theorem qne_lists {E : Value → Shared → Prop} {l b : Addr} {items items2 : Array Value} {e : Nat → Bool} {Q : Value → Shared → Prop} (hl : s.heap.IsList l items) (hb : s.heap.IsList b items2) (hsz : items.size = items2.size) (hu : A.units < cLine)
    (he : ∀ j (h1 : j < items.size) (h2 : j < items2.size), EqIn prog w A.in1 s items[j] items2[j] (e j)) (h : Q (.bool (!(List.range items.size).all e)) s) : wpAny (model prog w) A (richCompare .NotEq (.ref l) (.ref b)) Q E s := by
  obtain ⟨⟨cls, dd, data, sl⟩, ho, hc, n, hd⟩ := id hl
  obtain ⟨⟨cls2, dd2, data2, sl2⟩, ho2, hc2, n2, hd2⟩ := id hb
  simp only at hc hd hc2 hd2
  subst hc hd hc2 hd2
  exact wpAny_richCompare_same_room (T := "list") (op := .NotEq) ⟨_, ho, rfl⟩ ⟨_, ho2, rfl⟩ F.slot_list_ne (call_meetsIn F.slot_list_ne ⟨_, ho, rfl⟩ F.entry_list_ne (F.args_list_ne_2 _ _) (qne_list l b items items2 n n2 dd dd2 sl sl2 hsz e)
    ⟨ho, ho2, he, show Value.bool (!(List.range items.size).all e) ≠ Value.notImplemented ∧ Q (.bool (!(List.range items.size).all e)) s from ⟨(fun x => nomatch x), h⟩⟩) hu
end
end PySem.SeqAt
namespace PySem.W
open PySem PySem.Calls PyProof.Rows PyProof.V PySem.Spec PySem.SeqAt
section
variable {prog : Program} {w : World} {K : Type} [DecidableEq K] {knd : KeyKind prog w K} {A : Around} {E : Value → Shared → Prop} {s : Shared}
theorem qne_dicts {a b : Addr} {ka kb : List (K × Value)} {r : Bool} {Q : Value → Shared → Prop} (ha : (a == sysModules) = false) (hb : (b == sysModules) = false)
    (da : s.heap.DictOf knd a ka) (db : s.heap.DictOf knd b kb) (hu : A.units < cLine) (hits : ka.length = kb.length → KeqHitsIn prog w A.in1 s kb ka r) (h : Q (.bool (!(ka.length == kb.length && r))) s) :
    wpAny (model prog w) A (compareOp .NotEq (.ref a) (.ref b)) Q E s := by
  refine wpAny_richCompare_same_room (op := .NotEq) da.typeIs db.typeIs PySem.F.slot_dict_ne (wpAny_call_entry PySem.F.slot_dict_ne da.typeIs PySem.F.entry_dict_ne ?_ (PySem.F.args_dict_ne_2 _ _)) hu
  show wpAny _ _ (Builtin.Dict.dictSlotArgs "__ne__" ⟨[.ref a, .ref b], []⟩ >>= _) _ _ s
  refine wpAny_bind ?_
  unfold Builtin.Dict.dictSlotArgs
  refine wpAny_bind (wpAny_notOrdered_dict da.typeIs ?_)
  show wpAny _ _ (pure (Value.ref a, Value.ref b)) _ _ s
  refine wpAny_pure ?_
  refine wpAny_bind (wpAny_isInstance (T := "dict") db.typeIs PySem.F.sub_dict_dict ?_)
  simp only [Bool.not_true, Bool.false_eq_true, if_false]
  refine wpAny_bind (wpAny_pure (wpAny_bind (wpAny_pure ?_)))
  refine wpAny_bind (keq_samePairsIn ha hb da db hits ?_)
  exact wpAny_pure ⟨_, rfl, (fun x => nomatch x), by simpa using h⟩
end
end PySem.W
namespace L2
open PySem PySem.Spec PyProof.Rows PySem.SeqAt
def beqD (ka kb : List (Key × V)) : Bool := ka.length == kb.length && ka.all fun p => match valV kb p.1 with
  | some u => eqV p.2 u
  | none => false
def flatD (ka : List (Key × V)) : Bool := ka.all fun p => flatV p.2
theorem eqV_refl {x : V} (h : flatV x = true) : eqV x x = true := by
  cases x with
  | non => rfl
  | bl b => exact beq_self_eq_true b
  | int i => exact beq_self_eq_true i
  | str s => exact beq_self_eq_true s
  | _ => cases h
theorem valV_self : ∀ {ka : List (Key × V)}, (ka.map (·.1)).Nodup → ∀ p ∈ ka, valV ka p.1 = some p.2
  | q :: ka, nd, p, hp => by
    rw [List.map_cons, List.nodup_cons] at nd
    unfold valV
    rw [List.find?_cons]
    rcases List.mem_cons.mp hp with e | hp
    · rw [e]; simp
    · have hne : ¬ q.1 = p.1 := fun z => nd.1 (List.mem_map.mpr ⟨p, hp, z.symm⟩)
      have ih := valV_self nd.2 p hp
      unfold valV at ih
      simp only [hne, decide_false]
      exact ih
theorem beqD_self {ka : List (Key × V)} (nd : (ka.map (·.1)).Nodup) (f : flatD ka = true) : beqD ka ka = true := by
  unfold beqD
  rw [beq_self_eq_true, Bool.true_and, List.all_eq_true]
  intro p hp
  rw [valV_self nd p hp]
  exact eqV_refl (List.all_eq_true.mp f p hp)
section
variable {X : Cx} {pins : List (Addr × Obj)} {σ : St} {H : Hp} {s : Shared}
theorem hitsD {P : Program} {w : World} {A : Around} {ls : List (Key × V)} {vb : List (Key × Value)} (rb : KV ls vb) (fb : flatD ls = true) {ks : List (Key × V)} {va : List (Key × Value)} (ra : KV ks va) : flatD ks = true →
    PySem.W.KeqHitsIn P w A s vb va (ks.all fun p => match valV ls p.1 with
      | some u => eqV p.2 u
      | none => false) := by
  unfold KV at ra
  induction ra with
  | nil => intro _; exact .nil
  | @cons p q ps qs h t ih =>
    intro fk
    have fk : (flatV p.2 && flatD ps) = true := fk
    rw [Bool.and_eq_true] at fk
    obtain ⟨key, v⟩ := q
    obtain ⟨h1, h2⟩ := h
    have h1 : p.1 = key := h1
    have rr := rb.val p.1
    rw [List.all_cons]
    cases ev : valV ls p.1 with
    | none =>
      rw [ev] at rr
      rw [h1] at rr
      have hn : valueAt vb key = none := by
        cases z : valueAt vb key with
        | none => rfl
        | some y => rw [z] at rr; exact rr.elim
      exact .miss hn
    | some u =>
      rw [ev] at rr
      obtain ⟨y, hy, ry⟩ := rr.some_of
      rw [h1] at hy
      have fu : flatV u = true := by
        have hm : ∃ q ∈ ls, q.2 = u := by
          unfold valV at ev
          cases ef : ls.find? fun kv => decide (kv.1 = p.1) with
          | none => rw [ef] at ev; cases ev
          | some q => rw [ef] at ev; cases ev; exact ⟨q, List.mem_of_find?_eq_some ef, rfl⟩
        obtain ⟨q, hq, rfl⟩ := hm
        exact List.all_eq_true.mp fb q hq
      exact .hit hy ((eqAt_V h2 ry fk.1 fu).inModel P w) (ih fk.2)
theorem dict_two (I : Inv X pins σ H s) {a b : Addr} {ka kb : List (Key × V)} (ha : Rd H a (.dK ka)) (hb : Rd H b (.dK kb)) (fa : flatD ka = true) (fb : flatD kb = true) {A : Around} (hu : A.units < cLine) :
    (∀ (E Q : Value → Shared → Prop), Q (.bool (beqD ka kb)) s → wpAny (model X.prog X.w) A (compareOp .Eq (.ref a) (.ref b)) Q E s) ∧ (∀ (E Q : Value → Shared → Prop), Q (.bool (!beqD ka kb)) s → wpAny (model X.prog X.w) A (compareOp .NotEq (.ref a) (.ref b)) Q E s) := by
  obtain ⟨_, ya, va, ra, da⟩ := dk_rd I.hok ha
  obtain ⟨_, yb, vb, rb, db⟩ := dk_rd I.hok hb
  have el : (va.length == vb.length) = (ka.length == kb.length) := by rw [← ra.length, ← rb.length]
  refine ⟨fun E Q q => PySem.W.keq_eqIn (knd := mixKind X.prog X.w) ya yb da db hu (fun _ => hitsD rb fb ra fa) ?_, fun E Q q => PySem.W.qne_dicts (knd := mixKind X.prog X.w) ya yb da db hu (fun _ => hitsD rb fb ra fa) ?_⟩
  · rw [el]; exact q
  · rw [el]; exact q
def EqE (K : PySem.W.Frag) (H : Hp) (x y : V) (b : Bool) : Prop := (∃ d e, Dp K H x d ∧ Dp K H y e ∧ SeqAt.shaped d = true ∧ SeqAt.shaped e = true ∧ b = PyData.eqv d e) ∨
  ∃ a c ka kb, x = .ref a ∧ y = .ref c ∧ Rd H a (.dK ka) ∧ Rd H c (.dK kb) ∧ flatD ka = true ∧ flatD kb = true ∧ b = beqD ka kb
theorem eqE_run (I : Inv X pins σ H s) {x y : V} {b : Bool} (h : EqE X.K H x y b) {u v : Value} (rx : RelV x u) (ry : RelV y v) {A : Around} (hu : A.units + 64 < cLine) : SeqAt.EqIn X.prog X.w A s u v b := by
  rcases h with ⟨d, e, hd, he, sd, se, rfl⟩ | ⟨a, c, ka, kb, rfl, rfl, ha, hb, fa, fb, rfl⟩
  · obtain ⟨as, r1⟩ := Dp.reads I d x u hd rx
    obtain ⟨bs, r2⟩ := Dp.reads I e y v he ry
    exact (SeqAt.eqAt_reads d e A s u v as bs r1 r2 (SeqAt.canLay_of_shaped sd) (SeqAt.canLay_of_shaped se) (SeqAt.room_of_shaped sd hu)).inModel X.prog X.w
  · cases (show u = Value.ref a from rx)
    cases (show v = Value.ref c from ry)
    by_cases hac : a = c
    · subst hac
      have hk : ka = kb := by
        rcases ha with ha | ⟨o, ha⟩ <;> rcases hb with hb | ⟨o', hb⟩ <;> rw [ha] at hb <;> cases hb <;> rfl
      subst hk
      obtain ⟨_, _, va, ra, da⟩ := dk_rd I.hok ha
      obtain ⟨_, _, _, _, _, _, _, _, nd⟩ := da
      rw [beqD_self (by rw [ra.keys]; exact nd) fa]
      exact (SeqAt.EqAt.same _).inModel X.prog X.w
    · exact SeqAt.EqIn.of_refs hac fun E Q q => (dict_two I ha hb fa fb (by omega)).1 E Q q
def EqQ (K : PySem.W.Frag) (H : Hp) (x y : V) (b : Bool) : Prop := EqE K H x y b ∨
  (∃ a c xs ys, ∃ e : Nat → Bool, x = .ref a ∧ y = .ref c ∧ SqL K H a xs ∧ SqL K H c ys ∧ xs.length = ys.length ∧ (∀ (j : Nat) x y, xs[j]? = some x → ys[j]? = some y → EqE K H x y (e j)) ∧ b = (List.range xs.length).all e) ∨
  (∃ a c xs ys, x = .ref a ∧ y = .ref c ∧ SqL K H a xs ∧ SqL K H c ys ∧ (xs.length == ys.length) = false ∧ b = false)
def rEqQ (K : PySem.W.Frag) (f : Bool → Bool) : R2 := fun x y H Q => ∃ b, EqQ K H x y b ∧ Q (.bl (f b)) H
theorem eqQ_items (I : Inv X pins σ H s) {xs ys : List V} {e : Nat → Bool} (h : ∀ (j : Nat) x y, xs[j]? = some x → ys[j]? = some y → EqE X.K H x y (e j)) {us vs : List Value} (rx : Vals xs us) (ry : Vals ys vs) {A : Around} (hu : A.units + 64 < cLine) :
    ∀ j (h1 : j < us.toArray.size) (h2 : j < vs.toArray.size), SeqAt.EqIn X.prog X.w A s us.toArray[j] vs.toArray[j] (e j) := fun j h1 h2 => by
  have l1 : j < us.length := by simpa using h1
  have l2 : j < vs.length := by simpa using h2
  have k1 : j < xs.length := by rw [rx.length]; exact l1
  have k2 : j < ys.length := by rw [ry.length]; exact l2
  obtain ⟨u, e1, r1⟩ := rx.get (List.getElem?_eq_getElem k1)
  obtain ⟨v, e2, r2⟩ := ry.get (List.getElem?_eq_getElem k2)
  have q := eqE_run I (h j _ _ (List.getElem?_eq_getElem k1) (List.getElem?_eq_getElem k2)) r1 r2 (A := A) hu
  have z1 : us.toArray[j] = u := by
    have : us[j]? = some us[j] := List.getElem?_eq_getElem l1
    rw [e1] at this
    simpa using (Option.some.inj this).symm
  have z2 : vs.toArray[j] = v := by
    have : vs[j]? = some vs[j] := List.getElem?_eq_getElem l2
    rw [e2] at this
    simpa using (Option.some.inj this).symm
  rw [z1, z2]
  exact q
theorem op_eqQ (hu : X.A.units + 65 < cLine) : OpR X (compareOp .Eq) (rEqQ X.K fun b => b) := by
  intro pins s σ H x y u v Q I rx ry h
  obtain ⟨b, h, q⟩ := h
  have fin : (EP X pins σ Q) (.bool b) s := ⟨.bl b, H, I, rfl, q⟩
  rcases h with (⟨d, e, hd, he, sd, se, rfl⟩ | ⟨a, c, ka, kb, rfl, rfl, ha, hb, fa, fb, rfl⟩) | ⟨a, c, xs, ys, e, rfl, rfl, ha, hb, hl, hi, rfl⟩ | ⟨a, c, xs, ys, rfl, rfl, ha, hb, hl, rfl⟩
  · exact op_eqD (by omega) pins s σ H x y u v Q I rx ry ⟨d, e, hd, he, sd, se, q⟩
  · cases (show u = Value.ref a from rx)
    cases (show v = Value.ref c from ry)
    exact (dict_two I ha hb fa fb (by omega)).1 _ _ fin
  · cases (show u = Value.ref a from rx)
    cases (show v = Value.ref c from ry)
    obtain ⟨us, r1, p1, _⟩ := I.list ha
    obtain ⟨vs, r2, p2, _⟩ := I.list hb
    have hsz : us.toArray.size = vs.toArray.size := by rw [List.size_toArray, List.size_toArray, ← r1.length, ← r2.length, hl]
    refine SeqAt.rcIn_lists p1.isList p2.isList hsz (by omega) (eqQ_items I hi r1 r2 (A := X.A.in1) (by show X.A.units + 1 + 64 < cLine; omega)) ?_
    rw [show us.toArray.size = xs.length by rw [List.size_toArray, ← r1.length]]
    exact fin
  · cases (show u = Value.ref a from rx)
    cases (show v = Value.ref c from ry)
    obtain ⟨us, r1, p1, _⟩ := I.list ha
    obtain ⟨vs, r2, p2, _⟩ := I.list hb
    exact SeqAt.eq_list_lengthsAt p1.isList p2.isList (by rw [List.size_toArray, List.size_toArray, ← r1.length, ← r2.length]; simpa using hl) (by omega) fin
theorem op_neQ (hu : X.A.units + 65 < cLine) : OpR X (compareOp .NotEq) (rEqQ X.K fun b => !b) := by
  intro pins s σ H x y u v Q I rx ry h
  obtain ⟨b, h, q⟩ := h
  have fin : (EP X pins σ Q) (.bool (!b)) s := ⟨.bl (!b), H, I, rfl, q⟩
  rcases h with (⟨d, e, hd, he, sd, se, rfl⟩ | ⟨a, c, ka, kb, rfl, rfl, ha, hb, fa, fb, rfl⟩) | ⟨a, c, xs, ys, e, rfl, rfl, ha, hb, hl, hi, rfl⟩ | ⟨a, c, xs, ys, rfl, rfl, ha, hb, hl, rfl⟩
  · exact op_neD (by omega) pins s σ H x y u v Q I rx ry ⟨d, e, hd, he, sd, se, q⟩
  · cases (show u = Value.ref a from rx)
    cases (show v = Value.ref c from ry)
    exact (dict_two I ha hb fa fb (by omega)).2 _ _ fin
  · cases (show u = Value.ref a from rx)
    cases (show v = Value.ref c from ry)
    obtain ⟨us, r1, p1, _⟩ := I.list ha
    obtain ⟨vs, r2, p2, _⟩ := I.list hb
    have hsz : us.toArray.size = vs.toArray.size := by rw [List.size_toArray, List.size_toArray, ← r1.length, ← r2.length, hl]
    refine SeqAt.qne_lists p1.isList p2.isList hsz (by omega) (eqQ_items I hi r1 r2 (A := X.A.in1) (by show X.A.units + 1 + 64 < cLine; omega)) ?_
    rw [show us.toArray.size = xs.length by rw [List.size_toArray, ← r1.length]]
    exact fin
  · cases (show u = Value.ref a from rx)
    cases (show v = Value.ref c from ry)
    obtain ⟨us, r1, p1, _⟩ := I.list ha
    obtain ⟨vs, r2, p2, _⟩ := I.list hb
    exact SeqAt.RcNeAt.lists_lengths p1.isList p2.isList (by rw [List.size_toArray, List.size_toArray, ← r1.length, ← r2.length]; simpa using hl) (by omega) X.prog X.w X.xe _ fin
end
end L2
set_option Elab.async false
set_option linter.all false
set_option maxRecDepth 100000
set_option maxHeartbeats 2000000
namespace PX
open PySem PySem.Spec PyProof.Rows L2
def allP (kb : List Key) (vb : List PV) : List Key → List PV → Bool
  | k :: ks, v :: vs => (match lookB eqK kb vb k with
    | some w => eqP v w
    | none => false) && allP kb vb ks vs
  | _, _ => true
def dctEq (S : Store) (x y : PV) : Option Bool := match deref S x with
  | some (.dct (.k ka) va) => match deref S y with
    | some (.dct (.k kb) vb) => if flatsP va && flatsP vb then some (ka.length == kb.length && allP kb vb ka va) else none
    | _ => none
  | _ => none
def eqEl (S : Store) (x y : PV) : Option Bool := match eqD S x y with
  | some b => some b
  | none => dctEq S x y
def eqEls (S : Store) : List PV → List PV → Option (List Bool)
  | [], [] => some []
  | x :: xs, y :: ys => match eqEl S x y with
    | some b => match eqEls S xs ys with
      | some bs => some (b :: bs)
      | none => none
    | none => none
  | _, _ => none
def eqQ (S : Store) (x y : PV) : Option Bool := match eqEl S x y with
  | some b => some b
  | none => match deref S x with
    | some (.lst xs) => match deref S y with
      | some (.lst ys) => if xs.length == ys.length then (eqEls S xs ys).map fun l => l.all fun b => b else some false
      | _ => none
    | _ => none
def oEqQ : Op2 := fun x y S => (eqQ S x y).map fun b => (false, .bl b)
def oNeQ : Op2 := fun x y S => (eqQ S x y).map fun b => (false, .bl (!b))
def eEqQ (cf : CF) (tb : List (Nat × Nat)) (tys : List TyN) (a b : SE) : SE := fun env S => (a env S).bind fun p S1 => (b env S1).bind fun q S2 => match ownOf tb S2 p.2 with
  | some f => if okTy tys S2 q.2 then callV cf f [p.2, q.2] S2 else .no
  | none => ofO (oEqQ p.2 q.2 S2) S2
def eNeQ (cf : CF) (tb : List (Nat × Nat)) (tys : List TyN) (a b : SE) : SE := fun env S => (a env S).bind fun p S1 => (b env S1).bind fun q S2 => match ownOf tb S2 p.2 with
  | some f => if okTy tys S2 q.2 then (callV cf f [p.2, q.2] S2).bind notI else .no
  | none => ofO (oNeQ p.2 q.2 S2) S2
section
variable {G : Gam} {n0 : Nat} {g : Gh} {F : Hp} {r : List Addr} {S : Store} {H : Hp} {X : Cx}
theorem flatD_zip {ks : List Key} : ∀ {us : List V} {ks : List Key}, us.all flatV = true → flatD (ks.zip us) = true
  | [], ks, _ => by rw [List.zip_nil_right]; rfl
  | u :: us, [], _ => rfl
  | u :: us, k :: ks, h => by
    rw [List.all_cons, Bool.and_eq_true] at h
    show (flatV u && flatD (ks.zip us)) = true
    rw [h.1, flatD_zip (ks := ks) h.2]
    rfl
theorem allP_ok {kb : List Key} {vb : List PV} {ub : List V} (hlb : kb.length = ub.length) (kb' : RVs G F r vb ub) (fb : flatsP vb = true) : ∀ {ka : List Key} {va : List PV} {ua : List V}, ka.length = ua.length → RVs G F r va ua → flatsP va = true →
    allP kb vb ka va = (ka.zip ua).all fun p => match valV (kb.zip ub) p.1 with
      | some u => eqV p.2 u
      | none => false
  | [], va, ua, h, _, _ => by
    cases ua with
    | nil => cases va <;> rfl
    | cons => cases h
  | k :: ka, va, [], h, _, _ => by cases h
  | k :: ka, [], u :: ua, h, q, _ => by cases (show (u :: ua) = [] from q)
  | k :: ka, v :: va, u :: ua, h, q, f => by
    obtain ⟨u', ur, e, q1, q2⟩ := q
    cases e
    simp only [flatsP, Bool.and_eq_true] at f
    have ih := allP_ok hlb kb' fb (ka := ka) (by simpa using h) q2 f.2
    show ((match lookB eqK kb vb k with
      | some w => eqP v w
      | none => false) && allP kb vb ka va) = ((match valV (kb.zip ub) k with
      | some u' => eqV u u'
      | none => false) && ((ka.zip ua).all fun p => match valV (kb.zip ub) p.1 with
      | some u => eqV p.2 u
      | none => false))
    rw [ih]
    congr 1
    have hl := lookB_ok (G := G) (F := F) (r := r) eqK_ok k hlb kb'
    cases el : lookB eqK kb vb k with
    | none =>
      rw [el] at hl
      cases ev : valV (kb.zip ub) k with
      | none => rfl
      | some u' => rw [ev] at hl; cases hl
    | some w =>
      rw [el] at hl
      cases ev : valV (kb.zip ub) k with
      | none => rw [ev] at hl; obtain ⟨_, z, _⟩ := hl; cases z
      | some u' =>
        rw [ev] at hl
        have fw : flatP w = true := by
          have hm : ∀ {kb : List Key} {vb : List PV}, lookB eqK kb vb k = some w → flatsP vb = true → flatP w = true := by
            intro kb
            induction kb with
            | nil => intro vb e _; cases vb <;> cases e
            | cons c kb ihk =>
              intro vb e fv
              cases vb with
              | nil => cases e
              | cons z vb =>
                simp only [flatsP, Bool.and_eq_true] at fv
                simp only [lookB] at e
                cases hb : eqK c k with
                | true => simp only [hb, cond_true] at e; cases e; exact fv.1
                | false => simp only [hb, cond_false] at e; exact ihk e fv.2
          exact hm el fb
        obtain ⟨y', ey, hl⟩ := hl
        cases ey
        exact eqP_ok q1 hl f.1 fw
theorem eqEl_ok (h : HR G n0 g F r S H) {x y : PV} {u v : V} {b : Bool} (q1 : RV G F r x u) (q2 : RV G F r y v) (e : eqEl S x y = some b) : EqE G.K H u v b := by
  unfold eqEl at e
  cases ed : eqD S x y with
  | some b' =>
    rw [ed] at e
    cases e
    unfold eqD at ed
    cases e1 : toD S 6 x with
    | none => rw [e1] at ed; cases ed
    | some d =>
      simp only [e1] at ed
      cases e2 : toD S 6 y with
      | none => rw [e2] at ed; cases ed
      | some d' =>
        rw [e2] at ed
        cases ed
        obtain ⟨a1, a2, a3⟩ := toD_ok h 6 x u d q1 e1
        obtain ⟨b1, b2, b3⟩ := toD_ok h 6 y v d' q2 e2
        exact .inl ⟨d, d', a1, b1, toD_shaped a2 a3 (by decide), toD_shaped b2 b3 (by decide), rfl⟩
  | none =>
    rw [ed] at e
    have e : dctEq S x y = some b := e
    unfold dctEq at e
    split at e
    · rename_i ka va e1
      split at e
      · rename_i kb vb e2
        split at e
        · rename_i hf
          cases e
          rw [Bool.and_eq_true] at hf
          obtain ⟨a, ho, ua, rfl, k1, ⟨rfl, hla⟩, k3⟩ := view_dct h q1 e1
          obtain ⟨c, ho', ub, rfl, l1, ⟨rfl, hlb⟩, l3⟩ := view_dct h q2 e2
          refine .inr ⟨a, c, ka.zip ua, kb.zip ub, rfl, rfl, k1, l1, flatD_zip (ks := ka) (flats_ok k3 hf.1), flatD_zip (ks := kb) (flats_ok l3 hf.2), ?_⟩
          unfold beqD
          rw [allP_ok hlb l3 hf.2 hla k3 hf.1, List.length_zip, List.length_zip, ← hla, ← hlb, Nat.min_self, Nat.min_self]
          all_goals rfl
        · cases e
      · cases e
    · cases e
theorem eqEls_len : ∀ {xs ys : List PV} {bs : List Bool}, eqEls S xs ys = some bs → bs.length = xs.length
  | [], [], bs, e => by cases e; rfl
  | x :: xs, [], bs, e => by cases e
  | [], y :: ys, bs, e => by cases e
  | x :: xs, y :: ys, bs, e => by
    unfold eqEls at e
    cases e1 : eqEl S x y with
    | none => rw [e1] at e; cases e
    | some b =>
      simp only [e1] at e
      cases e2 : eqEls S xs ys with
      | none => rw [e2] at e; cases e
      | some bs' =>
        rw [e2] at e
        cases e
        rw [List.length_cons, List.length_cons, eqEls_len e2]
theorem eqEls_ok (h : HR G n0 g F r S H) : ∀ {xs ys : List PV} {us vs : List V} {bs : List Bool}, RVs G F r xs us → RVs G F r ys vs → eqEls S xs ys = some bs → ∀ (j : Nat) u v, us[j]? = some u → vs[j]? = some v → EqE G.K H u v (bs.getD j false)
  | [], [], us, vs, bs, q1, q2, e, j, u, v, e1, e2 => by
    have z : us = [] := q1
    rw [z] at e1
    simp at e1
  | x :: xs, [], us, vs, bs, q1, q2, e, j, u, v, e1, e2 => by cases e
  | [], y :: ys, us, vs, bs, q1, q2, e, j, u, v, e1, e2 => by cases e
  | x :: xs, y :: ys, us, vs, bs, q1, q2, e, j, u, v, e1, e2 => by
    obtain ⟨u0, us0, rfl, k1, k2⟩ := q1
    obtain ⟨v0, vs0, rfl, l1, l2⟩ := q2
    unfold eqEls at e
    cases z1 : eqEl S x y with
    | none => rw [z1] at e; cases e
    | some b =>
      simp only [z1] at e
      cases z2 : eqEls S xs ys with
      | none => rw [z2] at e; cases e
      | some bs' =>
        rw [z2] at e
        cases e
        cases j with
        | zero =>
          simp at e1 e2
          subst e1 e2
          exact eqEl_ok h k1 l1 z1
        | succ j =>
          have := eqEls_ok h k2 l2 z2 j u v (by simpa using e1) (by simpa using e2)
          simpa using this
theorem all_getD : ∀ (bs : List Bool), (List.range bs.length).all (fun j => bs.getD j false) = bs.all fun b => b
  | [] => rfl
  | b :: bs => by
    rw [List.length_cons, List.range_succ_eq_map, List.all_cons, List.all_map, List.all_cons, ← all_getD bs]
    rfl
theorem eqQ_ok (h : HR G n0 g F r S H) {x y : PV} {u v : V} {b : Bool} (q1 : RV G F r x u) (q2 : RV G F r y v) (e : eqQ S x y = some b) : EqQ G.K H u v b := by
  unfold eqQ at e
  cases ee : eqEl S x y with
  | some b' => rw [ee] at e; cases e; exact .inl (eqEl_ok h q1 q2 ee)
  | none =>
    simp only [ee] at e
    split at e
    · rename_i xs e1
      split at e
      · rename_i ys e2
        obtain ⟨a, us, rfl, k1, k2⟩ := view_lst h q1 e1
        obtain ⟨c, vs, rfl, l1, l2⟩ := view_lst h q2 e2
        split at e
        · rename_i hl
          cases eb : eqEls S xs ys with
          | none => rw [eb] at e; cases e
          | some bs =>
            rw [eb] at e
            cases e
            have hb := eqEls_len eb
            refine .inr (.inl ⟨a, c, us, vs, fun j => bs.getD j false, rfl, rfl, .inl k1, .inl l1, by rw [← RVs.length k2, ← RVs.length l2]; simpa using hl, eqEls_ok h k2 l2 eb, ?_⟩)
            rw [← RVs.length k2, ← hb, all_getD]
        · rename_i hl
          cases e
          exact .inr (.inr ⟨a, c, us, vs, rfl, rfl, .inl k1, .inl l1, by rw [← RVs.length k2, ← RVs.length l2]; simpa using hl, rfl⟩)
      · cases e
    · cases e
theorem ok_eqQ : Ok2 G oEqQ (rEqQ G.K fun b => b) := fun n0 g F r S H x y u v z Q h q1 q2 e k => by
  unfold oEqQ at e
  cases eq : eqQ S x y with
  | none => rw [eq] at e; cases e
  | some b => rw [eq] at e; cases e; exact ⟨b, eqQ_ok h q1 q2 eq, k F r H _ (.refl F r) h rfl⟩
theorem ok_neQ : Ok2 G oNeQ (rEqQ G.K fun b => !b) := fun n0 g F r S H x y u v z Q h q1 q2 e k => by
  unfold oNeQ at e
  cases eq : eqQ S x y with
  | none => rw [eq] at e; cases e
  | some b => rw [eq] at e; cases e; exact ⟨b, eqQ_ok h q1 q2 eq, k F r H _ (.refl F r) h rfl⟩
variable {cf : CF} {k : Nat}
theorem eqQ_core {tb : List (Nat × Nat)} {tys : List TyN} {fa fb : SE} (T : Tb X G cf k) (E : EqT G tb tys) (σ : L2.St) (H : Hp) (Q : VK) (hh : rdE G n0 (eEqQ cf tb tys fa fb) σ H Q) : tOp (fun x y H Q => rEqOwn X k x y H Q ∨ rEqQ G.K (fun b => b) x y H Q) (rdV G n0 fa) (rdV G n0 fb) σ H Q := by
  obtain ⟨F, r, env, S, g, s, h⟩ := hh
  refine stV s cnE h fun p S1 F1 r1 H1 u x1 s1 q1 h1 => ?_
  refine stV s1 cnE h1 fun q S2 F2 r2 H2 v x2 s2 q2 h2 => ?_
  have q1' := q1.ext x2
  cases eo : ownOf tb S2 p.2 with
  | none =>
    simp only [eo] at h2
    exact .inr (endO (T := fun Q => rEqQ G.K (fun b => b) u v H2 Q) s2 (x1.trans x2) h2 fun z ez k => ok_eqQ n0 g F2 r2 S2 H2 p.2 q.2 u v z Q s2.hr q1' q2 ez k)
  | some f =>
    simp only [eo] at h2
    split at h2
    · rename_i ot
      obtain ⟨a, c, dx, fs, rfl, k1, k2⟩ := own_at s2.hr q1' eo
      obtain ⟨t, ht, ty⟩ := okTy_at E.cl s2.hr q2 ot
      refine .inl ⟨a, G.ca c, dx, fs, G.fa f, _, t.val G, rfl, k1, T.hK ▸ ty, T.hK ▸ E.nf _ k2 t ht, T.hK ▸ E.spc _ k2, T.call f 2, ?_⟩
      exact run_call (np := 2) s2 (x1.trans x2) (show RVs G F2 r2 [p.2, q.2] _ from ⟨_, _, rfl, q1', _, [], rfl, q2, rfl⟩) rfl h2
    · exact h2.elim
theorem neQ_core {tb : List (Nat × Nat)} {tys : List TyN} {fa fb : SE} (T : Tb X G cf k) (E : EqT G tb tys) (σ : L2.St) (H : Hp) (Q : VK) (hh : rdE G n0 (eNeQ cf tb tys fa fb) σ H Q) : tOp (fun x y H Q => rNeOwn X k x y H Q ∨ rEqQ G.K (fun b => !b) x y H Q) (rdV G n0 fa) (rdV G n0 fb) σ H Q := by
  obtain ⟨F, r, env, S, g, s, h⟩ := hh
  refine stV s cnE h fun p S1 F1 r1 H1 u x1 s1 q1 h1 => ?_
  refine stV s1 cnE h1 fun q S2 F2 r2 H2 v x2 s2 q2 h2 => ?_
  have q1' := q1.ext x2
  cases eo : ownOf tb S2 p.2 with
  | none =>
    simp only [eo] at h2
    exact .inr (endO (T := fun Q => rEqQ G.K (fun b => !b) u v H2 Q) s2 (x1.trans x2) h2 fun z ez k => ok_neQ n0 g F2 r2 S2 H2 p.2 q.2 u v z Q s2.hr q1' q2 ez k)
  | some f =>
    simp only [eo] at h2
    split at h2
    · rename_i ot
      obtain ⟨a, c, dx, fs, rfl, k1, k2⟩ := own_at s2.hr q1' eo
      obtain ⟨t, ht, ty⟩ := okTy_at E.cl s2.hr q2 ot
      refine .inl ⟨a, G.ca c, dx, fs, G.fa f, _, t.val G, rfl, k1, T.hK ▸ ty, T.hK ▸ E.nf _ k2 t ht, T.hK ▸ E.spc _ k2, T.hK ▸ (E.ne _ k2).1, T.hK ▸ (E.ne _ k2).2, T.call f 2, ?_⟩
      refine run_call (np := 2) s2 (x1.trans x2) (show RVs G F2 r2 [p.2, q.2] _ from ⟨_, _, rfl, q1', _, [], rfl, q2, rfl⟩) rfl (poB h2 fun z S3 F3 r3 H3 w x3 s3 q3 h3 => ?_)
      obtain ⟨b, v⟩ := z
      cases v with
      | bl b' => exact ⟨b', bl_of q3, h3 F3 r3 H3 _ x3 s3 rfl⟩
      | _ => exact h3.elim
    · exact h2.elim
variable {tb : List (Nat × Nat)} {tys : List TyN} {fa fb : SE} {a b : Expr} {pos : Pos}
theorem un65 (T : Tb X G cf k) : X.A.units + 65 < cLine := units65 T
theorem op_eqAllQ (T : Tb X G cf k) : OpR X (compareOp .Eq) (fun x y H Q => rEqOwn X k x y H Q ∨ rEqQ G.K (fun b => b) x y H Q) := (op_eqOwn T.room).or (T.hK ▸ op_eqQ (un65 T))
theorem op_neAllQ (T : Tb X G cf k) : OpR X (compareOp .NotEq) (fun x y H Q => rNeOwn X k x y H Q ∨ rEqQ G.K (fun b => !b) x y H Q) := (op_neOwn T.room).or (T.hK ▸ op_neQ (un65 T))
theorem se_eqQ (T : Tb X G cf k) (E : EqT G tb tys) (ha : PE X a (rdE G n0 fa)) (hb : PE X b (rdE G n0 fb)) (hm : behindInMarks .Eq b = false) : PE X (.Compare a [.Eq] [b] pos) (rdE G n0 (eEqQ cf tb tys fa fb)) :=
  se_of (pe_cmpR (op_eqAllQ T) (toV ha) (toV hb) hm) (eqQ_core T E)
theorem st_eqQ (T : Tb X G cf k) (E : EqT G tb tys) (ha : PE X a (rdE G n0 fa)) (hb : PE X b (rdE G n0 fb)) (hm : behindInMarks .Eq b = false) : PT X (.Compare a [.Eq] [b] pos) (rdT G n0 (tBl (eEqQ cf tb tys fa fb))) :=
  st_of (pt_cmpR (op_eqAllQ T) (toV ha) (toV hb) hm) (eqQ_core T E)
theorem st_neQ (T : Tb X G cf k) (E : EqT G tb tys) (ha : PE X a (rdE G n0 fa)) (hb : PE X b (rdE G n0 fb)) (hm : behindInMarks .NotEq b = false) : PT X (.Compare a [.NotEq] [b] pos) (rdT G n0 (tBl (eNeQ cf tb tys fa fb))) :=
  st_of (pt_cmpR (op_neAllQ T) (toV ha) (toV hb) hm) (neQ_core T E)
end
end PX
namespace PX
theorem T_calm {X : L2.Cx} {G : Gam} {cf : CF} {k : Nat} (T : Tb X G cf k) : X.calm = true := T.calm
end PX
set_option Elab.async false
set_option linter.all false
set_option maxRecDepth 100000
set_option maxHeartbeats 4000000
namespace SrtT
open PySem PyProof.Rows Srt SrtO
section
variable {prog : Program} {w : World} {A : Around} {E : Value → Shared → Prop} {s : Shared}
theorem lex_intsL {b : Bool} {Q : Bool → Shared → Prop} {z : Bool} : ∀ {xs ys : List Value} {ns ms : List Int} (i : Nat), IntsAre xs ns → IntsAre ys ms →
    (z = decide (ns.length < ms.length)) → Q (HT.lexLt ns ms) s → PySem.W.KatLex prog w A b z Q (xs.zip ys) i s := by
  intro xs ys ns ms i hx
  induction hx generalizing ys ms i with
  | nil =>
    intro hy hz h
    cases hy with
    | nil =>
      rw [hz]
      exact h
    | cons q u hy =>
      rw [hz]
      exact h
  | @cons p t xs ns hx ih =>
    intro hy hz h
    cases hy with
    | nil =>
      rw [hz]
      exact h
    | @cons q u ys ms hy =>
      rw [HT.lexLt_cons] at h
      refine PySem.W.kat_cons (wpAny_eqBool_int ?_)
      by_cases e : p = q
      · subst e
        rw [if_pos rfl] at h
        rw [beq_self_eq_true]
        refine PySem.W.kat_yes ?_
        have hz' : z = decide (xs.length < ys.length) := by
          rw [hz]
          have l1 := hx.length
          have l2 := hy.length
          simp only [List.length_cons] at *
          exact decide_eq_decide.mpr (by omega)
        exact ih (i + 1) hy (by rw [hz]; exact decide_eq_decide.mpr (by simp)) h
      · rw [if_neg e] at h
        rw [show (p == q) = false from beq_eq_false_iff_ne.mpr e]
        exact PySem.W.kat_no (TS.oneLt_ints _ h)
theorem tup_cmp {vs : List Value} {k : Value → List Int} (hp : ∀ v ∈ vs, TS.TupInts s.heap v (k v)) (c : Bool) : Cmp prog w A s (tuples' c) (fun p => p.1 ∈ vs) (lt2 fun v u => HT.lexLt (k v) (k u)) := by
  intro p q hm hm'
  have h1 := hp _ hm
  have h2 := hp _ hm'
  show wpAny (model prog w) A (keyLt' (tuples' c) p.1 q.1) (fun r s' => s' = s ∧ r = HT.lexLt (k p.1) (k q.1)) (fun _ _ => False) s
  generalize k p.1 = ns at h1 ⊢
  generalize k q.1 = ms at h2 ⊢
  obtain ⟨a, xs, e1, ⟨o, ho, hc, n, hdt⟩, i⟩ := h1
  obtain ⟨a', ys, e2, ⟨o', ho', hc', n', hdt'⟩, i'⟩ := h2
  rw [e1, e2]
  refine PySem.W.kat_lt ho hdt ho' hdt' ?_
  refine lex_intsL 0 i i' ?_ ⟨rfl, rfl⟩
  have l1 := i.length
  have l2 := i'.length
  rw [Array.length_toList] at l1 l2
  rw [l1, l2]
theorem tups_sortableO {a : Addr} {vs : List Value} {k : Value → List Int} (h0 : 0 < vs.length) (hp : ∀ v ∈ vs, TS.TupInts s.heap v (k v)) (hk : ∀ v ∈ vs, k v ≠ []) (ha : ∀ o, s.heap.get? a = some o → o.cls ≠ .type "tuple") : SortableO prog w A s a vs fun v u => HT.lexLt (k v) (k u) := by
  intro h' keep
  have hp' : ∀ v ∈ vs, TS.TupInts h' v (k v) := fun v hm => (hp v hm).keeps fun b o e c => keep b o (fun z => by subst z; exact ha o e c) e
  have firsts : ∀ ws : List Value, (∀ v ∈ ws, v ∈ vs) → ∃ fs, PySem.W.KatTups h' ws fs ∧ fs.length = ws.length ∧ ∀ f, f ∈ fs → ∃ n t, f = Value.int n t := by
    intro ws
    induction ws with
    | nil => exact fun _ => ⟨[], PySem.W.KatTups.nil, rfl, fun f hf => by simp at hf⟩
    | cons v ws ih =>
      intro hin
      obtain ⟨fs, k1, hl, hi⟩ := ih fun u hu => hin u (List.mem_cons_of_mem _ hu)
      have hv := hin v List.mem_cons_self
      have hne := hk v hv
      obtain ⟨a, xs, rfl, ⟨o, ho, hc, n, hdt⟩, i⟩ := hp' v hv
      obtain ⟨y, ys, e⟩ : ∃ y ys, xs.toList = y :: ys := by
        cases q : xs.toList with
        | nil =>
          rw [q] at i
          have l := i.length
          rw [List.length_nil] at l
          exact absurd (List.length_eq_zero_iff.mp l.symm) hne
        | cons y ys => exact ⟨y, ys, rfl⟩
      obtain ⟨m, t, hy⟩ := i.all y (by rw [e]; exact List.mem_cons_self ..)
      refine ⟨y :: fs, PySem.W.KatTups.cons ho hc hdt ?_ k1, by simp [hl], ?_⟩
      · have z := congrArg (fun l : List Value => l[0]?) e
        simpa using z
      · intro f hf
        rcases List.mem_cons.mp hf with rfl | hf
        · exact ⟨m, t, hy⟩
        · exact hi f hf
  obtain ⟨fs, h1, h2, h3⟩ := firsts vs fun _ h => h
  refine ⟨tuples' true, fun Q E hq => ?_, tup_cmp hp' true⟩
  refine PySem.W.kat_kind (T := .type "int") h1 (by omega) (fun f hm => ?_) (by rfl) ?_
  · obtain ⟨x, t, rfl⟩ := h3 f hm
    exact PySem.W.Looks.now
  · have e : (Value.type "int" != Value.type "tuple") = true := by first | decide +kernel | rfl | decide
    rw [e]
    exact hq
end
end SrtT
namespace L2
open PySem PySem.Spec PyProof.Rows
abbrev ltT (k : V → List Int) (x y : V) : Bool := HT.lexLt (k x) (k y)
def rSortedTO (K : PySem.W.Frag) : List V → Hp → VK → Prop := fun vs H Q => ∃ (a : Addr) (xs : List V) (k : V → List Int), vs = [V.ref a] ∧ SqL K H a xs ∧ (∀ x ∈ xs, k x ≠ [] ∧ ∃ t, x = V.ref t ∧ H t = some (.tup ((k x).map .int))) ∧
  ∀ ys p, SrtO.Srtd (ltT k) ys → SrtO.Stb (ltT k) ys xs → H p = none → Q (.ref p) (upd H p (.lst ys))
def rSortedTT (K : PySem.W.Frag) : List V → Hp → VK → Prop := fun vs H Q => ∃ (a : Addr) (xs : List V) (k : V → List Int), vs = [V.ref a] ∧ SqT K H a xs ∧ (∀ x ∈ xs, k x ≠ [] ∧ ∃ t, x = V.ref t ∧ H t = some (.tup ((k x).map .int))) ∧
  ∀ ys p, SrtO.Srtd (ltT k) ys → SrtO.Stb (ltT k) ys xs → H p = none → Q (.ref p) (upd H p (.lst ys))
section
variable {X : Cx}
theorem cr_sortedTO : CallR X (.builtin "sorted") (rSortedTO X.K) := by
  intro pins s σ H vs us Q I r h
  obtain ⟨a, xs, k, rfl, hs, hx, q⟩ := h
  obtain ⟨its, rv, hl, hz⟩ := I.list hs
  obtain ⟨u, rfl, ru⟩ := vals1 r
  obtain rfl : u = Value.ref a := ru
  obtain ⟨e1, e2⟩ := refs_back rv fun x m => by
    obtain ⟨_, t, e, _⟩ := hx x m
    exact ⟨t, e⟩
  have hp : ∀ v ∈ its, TS.TupInts s.heap v (k (backV v)) ∧ k (backV v) ≠ [] := fun v hv => by
    obtain ⟨t, rfl⟩ := e2 v hv
    have hm : V.ref t ∈ xs := by rw [e1]; exact List.mem_map.mpr ⟨_, hv, rfl⟩
    obtain ⟨hne, t', e, ht⟩ := hx _ hm
    cases e
    obtain ⟨_, its2, r2, o, ho, hc, n, hd⟩ := I.hok _ _ ht
    have ri : IntsAre its2 (k (V.ref t)) := r2.ints
    exact ⟨⟨t, its2.toArray, rfl, ⟨o, ho, hc, n, hd⟩, by rw [List.toList_toArray]; exact ri⟩, hne⟩
  refine SrtO.sorted_ord (ltv := fun v u => HT.lexLt (k (backV v)) (k (backV u))) (NtL.swo_lexL fun v => k (backV v)) hl.isList (by rw [← rv.length]; exact hz) (fun h2 h₁ a' ha kk => ?_) fun out h1 h2 => ?_
  · refine SrtT.tups_sortableO (s := { s with heap := h₁ }) (k := fun v => k (backV v)) (by omega) (fun v hm => ((hp v hm).1).keeps fun b o e _ => (kk b o e).2) (fun v hm => (hp v hm).2) fun o e => ?_
    have e' : some o = some (seqObj "list" its.toArray 0) := e.symm.trans ha
    cases e'
    intro c
    exact absurd (Value.type.inj c) (by decide)
  · have h3 : ∀ u ∈ out, ∃ a, u = Value.ref a := fun u hu => e2 u (h2.perm.mem_iff.mp hu)
    obtain ⟨n, hn⟩ := PyProof.Rows.sortedAll_at s.heap its out.toArray
    have hb : SrtO.Stb (ltT k) (out.map backV) xs := by
      rw [e1]
      exact SrtO.Stb.map (NtL.swo_lexL k) backV h2
    refine ⟨.ref _, upd H (s.heap.objs.size + 1) (.lst (out.map backV)), I.laid (t' := s.toks) (fun _ _ => PyProof.Rows.sortedAll_old) (Nat.le_succ _) ⟨?_, out, n, vals_back h3, hn⟩, rfl, q _ _ (SrtO.srtd_map h1) hb (I.hok.fresh (Nat.le_succ _))⟩
    rw [hb.len]
    exact hz
theorem cr_sortedTT : CallR X (.builtin "sorted") (rSortedTT X.K) := by
  intro pins s σ H vs us Q I r h
  obtain ⟨a, xs, k, rfl, hs, hx, q⟩ := h
  obtain ⟨its, rv, hl, hz⟩ := I.tuple hs
  obtain ⟨u, rfl, ru⟩ := vals1 r
  obtain rfl : u = Value.ref a := ru
  obtain ⟨e1, e2⟩ := refs_back rv fun x m => by
    obtain ⟨_, t, e, _⟩ := hx x m
    exact ⟨t, e⟩
  have hp : ∀ v ∈ its, TS.TupInts s.heap v (k (backV v)) ∧ k (backV v) ≠ [] := fun v hv => by
    obtain ⟨t, rfl⟩ := e2 v hv
    have hm : V.ref t ∈ xs := by rw [e1]; exact List.mem_map.mpr ⟨_, hv, rfl⟩
    obtain ⟨hne, t', e, ht⟩ := hx _ hm
    cases e
    obtain ⟨_, its2, r2, o, ho, hc, n, hd⟩ := I.hok _ _ ht
    have ri : IntsAre its2 (k (V.ref t)) := r2.ints
    exact ⟨⟨t, its2.toArray, rfl, ⟨o, ho, hc, n, hd⟩, by rw [List.toList_toArray]; exact ri⟩, hne⟩
  refine SrtO.sorted_ordT (ltv := fun v u => HT.lexLt (k (backV v)) (k (backV u))) (NtL.swo_lexL fun v => k (backV v)) (show s.heap.IsTuple a its.toArray from hl) (by rw [← rv.length]; exact hz) (fun h2 h₁ a' ha kk => ?_) fun out h1 h2 => ?_
  · refine SrtT.tups_sortableO (s := { s with heap := h₁ }) (k := fun v => k (backV v)) (by omega) (fun v hm => ((hp v hm).1).keeps fun b o e _ => (kk b o e).2) (fun v hm => (hp v hm).2) fun o e => ?_
    have e' : some o = some (seqObj "list" its.toArray 0) := e.symm.trans ha
    cases e'
    intro c
    exact absurd (Value.type.inj c) (by decide)
  · have h3 : ∀ u ∈ out, ∃ a, u = Value.ref a := fun u hu => e2 u (h2.perm.mem_iff.mp hu)
    obtain ⟨n, hn⟩ := PyProof.Rows.sortedAll_at s.heap its out.toArray
    have hb : SrtO.Stb (ltT k) (out.map backV) xs := by
      rw [e1]
      exact SrtO.Stb.map (NtL.swo_lexL k) backV h2
    refine ⟨.ref _, upd H (s.heap.objs.size + 1) (.lst (out.map backV)), I.laid (t' := s.toks) (fun _ _ => PyProof.Rows.sortedAll_old) (Nat.le_succ _) ⟨?_, out, n, vals_back h3, hn⟩, rfl, q _ _ (SrtO.srtd_map h1) hb (I.hok.fresh (Nat.le_succ _))⟩
    rw [hb.len]
    exact hz
end
end L2
set_option Elab.async false
set_option linter.all false
set_option maxRecDepth 100000
set_option maxHeartbeats 2000000
namespace PX
open PySem PySem.Spec PyProof.Rows L2 SrtO
def insQ (x : Int × Int) : List (Int × Int) → List (Int × Int)
  | [] => [x]
  | y :: ys => if lexB y x then y :: insQ x ys else x :: y :: ys
def srtQ : List (Int × Int) → List (Int × Int)
  | [] => []
  | x :: xs => insQ x (srtQ xs)
theorem insQ_perm (x : Int × Int) : ∀ ys, (insQ x ys).Perm (x :: ys)
  | [] => .refl _
  | y :: ys => by
    unfold insQ
    split
    · exact ((insQ_perm x ys).cons y).trans (List.Perm.swap x y ys)
    · exact .refl _
theorem srtQ_perm : ∀ xs, (srtQ xs).Perm xs
  | [] => .refl _
  | x :: xs => (insQ_perm x _).trans ((srtQ_perm xs).cons x)
theorem lex_le {a b c : Int × Int} (h1 : lexB b a = false) (h2 : lexB c b = false) : lexB c a = false := by
  have a1 := lexB_no.mp h1
  have a2 := lexB_no.mp h2
  refine lexB_no.mpr ?_
  omega
theorem lex_as {a b : Int × Int} (h : lexB a b = true) : lexB b a = false := by
  have a1 := lexB_iff.mp h
  refine lexB_no.mpr ?_
  omega
theorem insQ_srt (x : Int × Int) : ∀ {ys}, Srtd lexB ys → Srtd lexB (insQ x ys)
  | [], _ => List.pairwise_singleton _ _
  | y :: ys, h => by
    obtain ⟨h1, h2⟩ := List.pairwise_cons.mp h
    unfold insQ
    cases hb : lexB y x with
    | true =>
      rw [if_pos rfl]
      refine List.pairwise_cons.mpr ⟨fun z hz => ?_, insQ_srt x h2⟩
      rcases List.mem_cons.mp ((insQ_perm x ys).mem_iff.mp hz) with e | hz
      · rw [e]; exact lex_as hb
      · exact h1 z hz
    | false =>
      rw [if_neg (by simp)]
      refine List.pairwise_cons.mpr ⟨fun z hz => ?_, h⟩
      rcases List.mem_cons.mp hz with e | hz
      · rw [e]; exact hb
      · exact lex_le hb (h1 z hz)
theorem srtQ_srt : ∀ xs, Srtd lexB (srtQ xs)
  | [] => .nil
  | x :: xs => insQ_srt x (srtQ_srt xs)
theorem lex_eq {a b : Int × Int} (h1 : lexB a b = false) (h2 : lexB b a = false) : a = b := by
  have a1 := lexB_no.mp h1
  have a2 := lexB_no.mp h2
  exact Prod.ext (by omega) (by omega)
theorem lex_swo : Swo (lexB) := ⟨fun x y h => lex_as h, fun x y z h1 h2 => lex_le h1 h2⟩
theorem stb_of {l m : List (Int × Int)} (p : l.Perm m) : Stb lexB l m := by
  refine ⟨p, fun x => ?_⟩
  have q := p.filter (eqv lexB x)
  have e : ∀ l : List (Int × Int), l.filter (eqv lexB x) = List.replicate (l.filter (eqv lexB x)).length x := fun l => by
    refine List.eq_replicate_of_mem fun y hy => ?_
    obtain ⟨h1, h2⟩ := eqv_iff.mp (List.mem_filter.mp hy).2
    exact (lex_eq h1 h2).symm
  rw [e l, e m, q.length_eq]
def pairsI : List PV → Option (List (Int × Int))
  | [] => some []
  | .tup [.int i, .int j] :: vs => (pairsI vs).map ((i, j) :: ·)
  | _ :: _ => none
def pQ (p : Int × Int) : PV := .tup [.int p.1, .int p.2]
theorem pairsI_ok : ∀ {vs : List PV} {ps : List (Int × Int)}, pairsI vs = some ps → vs = ps.map pQ
  | [], ps, e => by cases e; rfl
  | v :: vs, ps, e => by
    unfold pairsI at e
    split at e
    · cases e; rename_i h; cases h
    · rename_i i j vs' h
      cases h
      cases e1 : pairsI vs with
      | none => rw [e1] at e; cases e
      | some qs =>
        rw [e1] at e
        cases e
        rw [pairsI_ok e1]
        rfl
    · cases e
def insR (x : List Int) : List (List Int) → List (List Int)
  | [] => [x]
  | y :: ys => if HT.lexLt y x then y :: insR x ys else x :: y :: ys
def srtR : List (List Int) → List (List Int)
  | [] => []
  | x :: xs => insR x (srtR xs)
theorem insR_perm (x : List Int) : ∀ ys, (insR x ys).Perm (x :: ys)
  | [] => .refl _
  | y :: ys => by
    unfold insR
    split
    · exact ((insR_perm x ys).cons y).trans (List.Perm.swap x y ys)
    · exact .refl _
theorem srtR_perm : ∀ xs, (srtR xs).Perm xs
  | [] => .refl _
  | x :: xs => (insR_perm x _).trans ((srtR_perm xs).cons x)
theorem lexR_swo : Swo (fun v u : List Int => HT.lexLt v u) := NtL.swo_lexL fun v => v
theorem insR_srt (x : List Int) : ∀ {ys}, Srtd (fun v u : List Int => HT.lexLt v u) ys → Srtd (fun v u : List Int => HT.lexLt v u) (insR x ys)
  | [], _ => List.pairwise_singleton _ _
  | y :: ys, h => by
    obtain ⟨h1, h2⟩ := List.pairwise_cons.mp h
    unfold insR
    cases hb : HT.lexLt y x with
    | true =>
      rw [if_pos rfl]
      refine List.pairwise_cons.mpr ⟨fun z hz => ?_, insR_srt x h2⟩
      rcases List.mem_cons.mp ((insR_perm x ys).mem_iff.mp hz) with e | hz
      · rw [e]; exact lexR_swo.asym _ _ hb
      · exact h1 z hz
    | false =>
      rw [if_neg (by simp)]
      refine List.pairwise_cons.mpr ⟨fun z hz => ?_, h⟩
      rcases List.mem_cons.mp hz with e | hz
      · rw [e]; exact hb
      · exact lexR_swo.tr _ _ _ hb (h1 z hz)
theorem srtR_srt : ∀ xs, Srtd (fun v u : List Int => HT.lexLt v u) (srtR xs)
  | [] => .nil
  | x :: xs => insR_srt x (srtR_srt xs)
theorem lexR_eq : ∀ {a b : List Int}, HT.lexLt a b = false → HT.lexLt b a = false → a = b
  | [], [], _, _ => rfl
  | [], _ :: _, h, _ => by rw [HT.lexLt_nil_cons] at h; cases h
  | _ :: _, [], _, h => by rw [HT.lexLt_nil_cons] at h; cases h
  | x :: xs, y :: ys, h1, h2 => by
    rw [HT.lexLt_cons] at h1 h2
    by_cases e : x = y
    · subst e
      rw [if_pos rfl] at h1 h2
      rw [lexR_eq h1 h2]
    · rw [if_neg e] at h1
      rw [if_neg (fun z => e z.symm)] at h2
      have a1 := of_decide_eq_false h1
      have a2 := of_decide_eq_false h2
      omega
theorem stb_ofR {l m : List (List Int)} (p : l.Perm m) : Stb (fun v u : List Int => HT.lexLt v u) l m := by
  refine ⟨p, fun x => ?_⟩
  have q := p.filter (eqv (fun v u : List Int => HT.lexLt v u) x)
  have e : ∀ l : List (List Int), l.filter (eqv (fun v u : List Int => HT.lexLt v u) x) = List.replicate (l.filter (eqv (fun v u : List Int => HT.lexLt v u) x)).length x := fun l => by
    refine List.eq_replicate_of_mem fun y hy => ?_
    obtain ⟨h1, h2⟩ := eqv_iff.mp (List.mem_filter.mp hy).2
    exact (lexR_eq h1 h2).symm
  rw [e l, e m, q.length_eq]
def rowsI : List PV → Option (List (List Int))
  | [] => some []
  | .tup ws :: vs => match intsOf ws with
    | some (n :: ns) => (rowsI vs).map ((n :: ns) :: ·)
    | _ => none
  | _ :: _ => none
def rQ (p : List Int) : PV := .tup (p.map .int)
theorem rowsI_ok : ∀ {vs : List PV} {ps : List (List Int)}, rowsI vs = some ps → vs = ps.map rQ ∧ ∀ p ∈ ps, p ≠ []
  | [], ps, e => by cases e; exact ⟨rfl, fun p hp => absurd hp (by simp)⟩
  | v :: vs, ps, e => by
    unfold rowsI at e
    split at e
    · cases e; rename_i h; cases h
    · rename_i ws vs' h
      cases h
      split at e
      · rename_i n ns en
        cases e1 : rowsI vs with
        | none => rw [e1] at e; cases e
        | some qs =>
          rw [e1] at e
          cases e
          obtain ⟨i1, i2⟩ := rowsI_ok e1
          have ew := intsOf_ok en
          subst ew
          refine ⟨by rw [i1] <;> rfl, fun p hp => ?_⟩
          rcases List.mem_cons.mp hp with e | hp
          · rw [e]; simp
          · exact i2 p hp
      · cases e
    · cases e
theorem int_map_inj : ∀ {p q : List Int}, p.map V.int = q.map V.int → p = q
  | [], [], _ => rfl
  | [], _ :: _, e => by cases e
  | _ :: _, [], e => by cases e
  | x :: xs, y :: ys, e => by
    injection e with e1 e2
    rw [V.int.inj e1, int_map_inj e2]
def bSortG : OpN := fun xs S => match bSort xs S with
  | some z => some z
  | none => match xs with
    | [v] => match deref S v with
      | some (.tup ws) => match intsOf ws with
        | some ns => some (true, .lst ((srtI ns).map .int))
        | none => (rowsI ws).map fun ps => (true, .lst ((srtR ps).map rQ))
      | some (.lst ws) => match pairsI ws with
        | some ps => some (true, .lst ((srtQ ps).map pQ))
        | none => (rowsI ws).map fun ps => (true, .lst ((srtR ps).map rQ))
      | _ => none
    | _ => none
def rSortG (K : PySem.W.Frag) : List V → Hp → VK → Prop := fun vs H Q => rSort K vs H Q ∨ rSortedIT K vs H Q ∨ rSortedPO K vs H Q ∨ rSortedTO K vs H Q ∨ rSortedTT K vs H Q
section
variable {G : Gam} {n0 : Nat} {g : Gh} {F : Hp} {r : List Addr} {S : Store} {H : Hp} {X : Cx}
theorem cr_sortG (hc : X.calm = true) : CallR X (.builtin "sorted") (rSortG X.K) := by
  intro pins s σ H vs us Q I r h
  rcases h with h | h | h | h | h
  · exact cr_sort hc pins s σ H vs us Q I r h
  · exact cr_sortedIT pins s σ H vs us Q I r h
  · exact cr_sortedPO pins s σ H vs us Q I r h
  · exact cr_sortedTO pins s σ H vs us Q I r h
  · exact cr_sortedTT pins s σ H vs us Q I r h
theorem rows_srt {ps : List (List Int)} {us : List V} {Q : VK} (h : HR G n0 g F r S H) (k2 : RVs G F r (ps.map rQ) us) (en2 : ∀ p ∈ ps, p ≠ [])
    (k : ∀ F' r' H' w, Ext F F' r r' → HR G n0 g F' r' S H' → RF G g F' r' H' true (.lst ((srtR ps).map rQ)) w → Q w H') :
    ∃ kf : V → List Int, (∀ x ∈ us, kf x ≠ [] ∧ ∃ t, x = V.ref t ∧ H t = some (.tup ((kf x).map .int))) ∧ ∀ ys p, Srtd (ltT kf) ys → Stb (ltT kf) ys us → H p = none → Q (.ref p) (upd H p (.lst ys)) := by
  have kx : ∀ u : V, ∃ p : List Int, (∃ p', RV G F r (rQ p') u) → RV G F r (rQ p) u := fun u => by
    by_cases hx : ∃ p', RV G F r (rQ p') u
    · obtain ⟨p, hp⟩ := hx; exact ⟨p, fun _ => hp⟩
    · exact ⟨[], fun z => absurd z hx⟩
  obtain ⟨kf, hkf⟩ : ∃ kf : V → List Int, ∀ u, (∃ p', RV G F r (rQ p') u) → RV G F r (rQ (kf u)) u := ⟨fun u => (kx u).choose, fun u => (kx u).choose_spec⟩
  have at2 : ∀ {p : List Int} {u : V}, RV G F r (rQ p) u → ∃ t, u = .ref t ∧ F t = some (.tup (p.map .int)) := fun {p u} q => by
    obtain ⟨t, us, rfl, e1, e2⟩ := q
    have eu := RVs.ints e2
    subst eu
    exact ⟨t, rfl, e1⟩
  have uniq : ∀ {p p' : List Int} {u : V}, RV G F r (rQ p) u → RV G F r (rQ p') u → p = p' := fun {p p' u} q q' => by
    obtain ⟨t, rfl, e1⟩ := at2 q
    obtain ⟨t', e, e2⟩ := at2 q'
    cases e
    rw [e1] at e2
    have e2 := HO.tup.inj (Option.some.inj e2)
    exact int_map_inj e2
  have all : ∀ {ps : List (List Int)} {us : List V}, RVs G F r (ps.map rQ) us → us.map kf = ps ∧ ∀ u ∈ us, RV G F r (rQ (kf u)) u := by
    intro ps
    induction ps with
    | nil => intro us q; have q : us = [] := q; subst q; exact ⟨rfl, fun u hu => absurd hu (by simp)⟩
    | cons p ps ih =>
      intro us q
      obtain ⟨u, ur, rfl, a1, a2⟩ := q
      obtain ⟨i1, i2⟩ := ih a2
      have hk := hkf u ⟨p, a1⟩
      refine ⟨by rw [List.map_cons, i1, uniq hk a1], fun w hw => ?_⟩
      rcases List.mem_cons.mp hw with e | hw
      · rw [e]; exact hk
      · exact i2 w hw
  obtain ⟨m1, m2⟩ := all k2
  refine ⟨kf, fun x hx => ?_, fun ys p hs hb hn => ?_⟩
  · obtain ⟨t, e1, e2⟩ := at2 (m2 x hx)
    exact ⟨en2 _ (by rw [← m1]; exact List.mem_map_of_mem hx), t, e1, h.sub.tpH e2⟩
  · have em : ys.map kf = srtR ps := by
      refine stb_uniq lexR_swo (srtd_map hs) (srtR_srt ps) (stb_ofR ?_)
      refine (hb.perm.map kf).trans ?_
      rw [m1]
      exact (srtR_perm ps).symm
    have rv : ∀ {ys : List V}, (∀ y ∈ ys, y ∈ us) → RVs G F r ((ys.map kf).map rQ) ys := by
      intro ys
      induction ys with
      | nil => intro _; rfl
      | cons y ys ih => intro hm; exact ⟨y, ys, rfl, m2 y (hm y List.mem_cons_self), ih fun z hz => hm z (List.mem_cons_of_mem _ hz)⟩
    have r2 := rv fun y hy => hb.perm.mem_iff.mp hy
    rw [em] at r2
    obtain ⟨h2, k4⟩ := new_obj h hn (v := .lst ((srtR ps).map rQ)) ⟨ys, rfl, r2⟩ rfl
    exact k F r _ _ (.refl F r) h2 k4
theorem ok_sortG : OkN G bSortG (rSortG G.K) := fun n0 g F r S H xs us z Q h q e k => by
  unfold bSortG at e
  cases e0 : bSort xs S with
  | some z' => rw [e0] at e; cases e; exact .inl (ok_sort n0 g F r S H xs us z Q h q e0 k)
  | none =>
    simp only [e0] at e
    split at e
    · rename_i v
      obtain ⟨u, ur, rfl, q1, q2⟩ := q
      have q2 : ur = [] := q2
      subst q2
      split at e
      · rename_i ws ed
        cases en : intsOf ws with
        | none =>
          simp only [en] at e
          cases er : rowsI ws with
          | none => rw [er] at e; cases e
          | some ps =>
            rw [er] at e
            cases e
            obtain ⟨a, us, rfl, k1, k2⟩ := view_tup h q1 ed
            obtain ⟨en1, en2⟩ := rowsI_ok er
            rw [en1] at k2
            obtain ⟨kf, g1, g2⟩ := rows_srt h k2 en2 k
            exact .inr (.inr (.inr (.inr ⟨a, us, kf, rfl, k1, g1, g2⟩)))
        | some ns =>
          simp only [en] at e
          cases e
          obtain ⟨a, us, rfl, k1, k2⟩ := view_tup h q1 ed
          rw [intsOf_ok en] at k2
          have eu := RVs.ints k2
          subst eu
          refine .inr (.inl ⟨a, ns, rfl, k1, fun ns' p hp ho hn => ?_⟩)
          rw [srtI_eq hp ho]
          obtain ⟨h2, k4⟩ := new_obj h hn (v := .lst ((srtI ns).map .int)) ⟨_, rfl, RVs.of_ints _⟩ rfl
          exact k F r _ _ (.refl F r) h2 k4
      · rename_i ws ed
        cases en0 : pairsI ws with
        | none =>
          simp only [en0] at e
          cases en : rowsI ws with
          | none => rw [en] at e; cases e
          | some ps =>
            rw [en] at e
            cases e
            obtain ⟨a, us, rfl, k1, k2⟩ := view_lst h q1 ed
            obtain ⟨en1, en2⟩ := rowsI_ok en
            rw [en1] at k2
            obtain ⟨kf, g1, g2⟩ := rows_srt h k2 en2 k
            exact .inr (.inr (.inr (.inl ⟨a, us, kf, rfl, .inl k1, g1, g2⟩)))
        | some ps =>
          have en := en0
          simp only [en0] at e
          cases e
          obtain ⟨a, us, rfl, k1, k2⟩ := view_lst h q1 ed
          rw [pairsI_ok en] at k2
          have kx : ∀ u : V, ∃ p : Int × Int, (∃ p', RV G F r (pQ p') u) → RV G F r (pQ p) u := fun u => by
            by_cases hx : ∃ p', RV G F r (pQ p') u
            · obtain ⟨p, hp⟩ := hx; exact ⟨p, fun _ => hp⟩
            · exact ⟨(0, 0), fun z => absurd z hx⟩
          obtain ⟨kf, hkf⟩ : ∃ kf : V → Int × Int, ∀ u, (∃ p', RV G F r (pQ p') u) → RV G F r (pQ (kf u)) u := ⟨fun u => (kx u).choose, fun u => (kx u).choose_spec⟩
          have at2 : ∀ {p : Int × Int} {u : V}, RV G F r (pQ p) u → ∃ t, u = .ref t ∧ F t = some (.tup [.int p.1, .int p.2]) := fun {p u} q => by
            obtain ⟨t, us, rfl, e1, e2⟩ := q
            obtain ⟨u1, r1, rfl, a1, e2⟩ := e2
            obtain ⟨u2, r2, rfl, a2, e3⟩ := e2
            have e3 : r2 = [] := e3
            have a1 : u1 = .int p.1 := a1
            have a2 : u2 = .int p.2 := a2
            subst a1 a2 e3
            exact ⟨t, rfl, e1⟩
          have uniq : ∀ {p p' : Int × Int} {u : V}, RV G F r (pQ p) u → RV G F r (pQ p') u → p = p' := fun {p p' u} q q' => by
            obtain ⟨t, rfl, e1⟩ := at2 q
            obtain ⟨t', e, e2⟩ := at2 q'
            cases e
            rw [e1] at e2
            have e2 := HO.tup.inj (Option.some.inj e2)
            injection e2 with z1 z2
            injection z2 with z2 z3
            exact Prod.ext (V.int.inj z1) (V.int.inj z2)
          have all : ∀ {ps : List (Int × Int)} {us : List V}, RVs G F r (ps.map pQ) us → us.map kf = ps ∧ ∀ u ∈ us, RV G F r (pQ (kf u)) u := by
            intro ps
            induction ps with
            | nil => intro us q; have q : us = [] := q; subst q; exact ⟨rfl, fun u hu => absurd hu (by simp)⟩
            | cons p ps ih =>
              intro us q
              obtain ⟨u, ur, rfl, a1, a2⟩ := q
              obtain ⟨i1, i2⟩ := ih a2
              have hk := hkf u ⟨p, a1⟩
              refine ⟨by rw [List.map_cons, i1, uniq hk a1], fun w hw => ?_⟩
              rcases List.mem_cons.mp hw with e | hw
              · rw [e]; exact hk
              · exact i2 w hw
          obtain ⟨m1, m2⟩ := all k2
          refine .inr (.inr (.inl ⟨a, us, kf, rfl, .inl k1, fun x hx => ?_, fun ys p hs hb hn => ?_⟩))
          · obtain ⟨t, e1, e2⟩ := at2 (m2 x hx)
            exact ⟨t, e1, h.sub.tpH e2⟩
          · have em : ys.map kf = srtQ ps := by
              refine stb_uniq lex_swo (srtd_map hs) (srtQ_srt ps) (stb_of ?_)
              refine (hb.perm.map kf).trans ?_
              rw [m1]
              exact (srtQ_perm ps).symm
            have rv : ∀ {ys : List V}, (∀ y ∈ ys, y ∈ us) → RVs G F r ((ys.map kf).map pQ) ys := by
              intro ys
              induction ys with
              | nil => intro _; rfl
              | cons y ys ih => intro hm; exact ⟨y, ys, rfl, m2 y (hm y List.mem_cons_self), ih fun z hz => hm z (List.mem_cons_of_mem _ hz)⟩
            have r2 := rv fun y hy => hb.perm.mem_iff.mp hy
            rw [em] at r2
            obtain ⟨h2, k4⟩ := new_obj h hn (v := .lst ((srtQ ps).map pQ)) ⟨ys, rfl, r2⟩ rfl
            exact k F r _ _ (.refl F r) h2 k4
      · cases e
    · cases e
def rLenD : List V → Hp → VK → Prop := fun xs H Q => (∃ (p : Addr) (kvs : List (Key × V)), xs = [.ref p] ∧ Rd H p (.dK kvs) ∧ Q (.int ((kvs.length : Nat) : Int)) H) ∨ rLenT xs H Q
theorem call_lenD : CallR X (.builtin "len") rLenD := by
  intro pins s σ H xs us Q I r h
  rcases h with ⟨p, kvs, rfl, hp, q⟩ | h
  · obtain ⟨u, rfl, rx⟩ := vals1 r
    obtain rfl : u = .ref p := rx
    exact d_len I hp fun t s' I' => ⟨.int ((kvs.length : Nat) : Int), H, I', ⟨_, rfl⟩, q⟩
  · exact call_len_dT pins s σ H xs us Q I r h
def bLenG : OpN := fun xs S => match bLen xs S with
  | some z => some z
  | none => match xs with
    | [v] => match derf S v with
      | some (.dct (.n _) _) => none
      | some (.dct _ vs) => some (false, .int vs.length)
      | _ => none
    | _ => none
theorem ok_lenD {S : Store} {v : PV} {u : V} {ks : DKs} {vs : List PV} {Q : VK} (h : HR G n0 g F r S H) (q1 : RV G F r v u) (ed : derf S v = some (.dct ks vs)) (nk : ∀ l, ks = .n l → False) (k : Q (.int ((vs.length : Nat) : Int)) H) : rLenD [u] H Q := by
  cases ks with
  | n l => exact (nk l rfl).elim
  | k kk =>
    obtain ⟨a, ho, us, rfl, k1, ⟨rfl, hl⟩, k3⟩ := view_dct h q1 (derf_d ed)
    refine .inl ⟨a, kk.zip us, rfl, k1, ?_⟩
    rw [List.length_zip, hl, Nat.min_self, ← RVs.length k3]
    exact k
  | t kk =>
    obtain ⟨a, us, rfl, k1, hl, k3⟩ := view_dctT h q1 ed
    refine .inr ⟨a, kk.zip us, rfl, k1, ?_⟩
    rw [List.length_zip, hl, Nat.min_self, ← RVs.length k3]
    exact k
def eLenG (cf : CF) (tb : List (Nat × Nat)) (a : SE) : SE := fun env S => (a env S).bind fun p S1 => match ownOf tb S1 p.2 with
  | some f => (callV cf f [p.2] S1).bind lenI
  | none => ofO (bLenG [p.2] S1) S1
variable {cf : CF} {k : Nat}
theorem se_lenG {tb : List (Nat × Nat)} {e : Expr} {fe : SE} {p pos : Pos} (T : Tb X G cf k) (hg : Gl X "len") (hm : X.mg "len" = none) (hc : ∀ p ∈ tb, Spc G.K (G.ca p.1) (G.fa p.2) "__len__") (he : PE X e (rdE G n0 fe))
    (hb : bootBuiltins "len" = some (.builtin "len") := by rfl) (hs : starEach [e] X.env = (false, eval e X.env) :: starEach [] X.env := by rfl) (hpl : (backTo pos (starEach [] X.env)).any (·.1) = false := by rfl) :
    PE X (.Call (.Name "len" p) [e] [] pos) (rdE G n0 (eLenG cf tb fe)) := by
  have cr : CallR X (.builtin "len") (fun xs H Q => rLenOwn X k xs H Q ∨ (∃ x n, xs = [x] ∧ LenV X.K x H n ∧ Q (.int n) H) ∨ rLenD xs H Q) := by
    intro pins s σ H vs us Q I r h
    rcases h with h | h | h
    · exact cr_lenOwn T.room pins s σ H vs us Q I r h
    · exact call_len pins s σ H vs us Q I r h
    · exact call_lenD pins s σ H vs us Q I r h
  refine peI (pe_callB cr hg hm hb (pa_cons (toV he) pa_nil hs) (by decide) (by decide) hs hpl) fun σ H Q ⟨F, r, env, S, g, s, h⟩ => ?_
  refine stV s cnE h fun p S1 F1 r1 H1 u x1 s1 q1 h1 => ?_
  cases eo : ownOf tb S1 p.2 with
  | none =>
    simp only [eo] at h1
    refine .inr ?_
    unfold bLenG at h1
    cases e0 : bLen [p.2] S1 with
    | some z =>
      simp only [e0] at h1
      unfold bLen at e0
      simp only at e0
      split at e0
      · rename_i ws ed
        cases e0
        obtain ⟨a, us, rfl, k1, k2⟩ := view_lst s1.hr q1 ed
        refine .inl ⟨.ref a, us.length, rfl, .inl ⟨us, .inl k1, rfl⟩, ?_⟩
        rw [← RVs.length k2]
        exact h1 F1 r1 H1 _ x1 s1 rfl
      · rename_i ws ed
        cases e0
        obtain ⟨a, us, rfl, k1, k2⟩ := view_tup s1.hr q1 ed
        refine .inl ⟨.ref a, us.length, rfl, .inr ⟨us, T.hK ▸ k1, rfl⟩, ?_⟩
        rw [← RVs.length k2]
        exact h1 F1 r1 H1 _ x1 s1 rfl
      · cases e0
    | none =>
      simp only [e0] at h1
      split at h1
      · exact h1.elim
      · rename_i ks vs nk ed
        exact .inr (ok_lenD s1.hr q1 ed nk (h1 F1 r1 H1 _ x1 s1 rfl))
      · exact h1.elim
  | some f =>
    simp only [eo] at h1
    refine .inl ?_
    unfold ownOf at eo
    split at eo
    · rename_i c ns ws ed
      obtain ⟨a, dx, us, rfl, k1, k2, k3⟩ := view_ins s1.hr q1 ed
      refine ⟨a, G.ca c, dx, _, G.fa f, _, rfl, k1, T.hK ▸ hc (c, f) (look_mem eo), T.call f 1, ?_⟩
      refine run_call (np := 1) s1 x1 (show RVs G F1 r1 [p.2] _ from ⟨_, [], rfl, q1, rfl⟩) rfl (poB h1 fun z S2 F2 r2 H2 w x2 s2 q2 h2 => ?_)
      obtain ⟨b, v⟩ := z
      cases v with
      | int n =>
        unfold lenI at h2
        simp only at h2
        split at h2
        · rename_i hn
          rw [Bool.and_eq_true, decide_eq_true_eq, decide_eq_true_eq] at hn
          have ew : w = .int n := by
            cases b with
            | false => exact q2
            | true =>
              obtain ⟨_, _, _, _, _, _, _, ro, _⟩ := q2
              exact ro.elim
          exact ⟨n, ew, hn.1, by omega, h2 F2 r2 H2 _ x2 s2 rfl⟩
        · exact h2.elim
      | _ => exact h2.elim
    · cases eo
end
end PX
set_option Elab.async false
set_option linter.all false
set_option maxRecDepth 100000
set_option maxHeartbeats 2000000
namespace PX
open PySem PySem.Spec PyProof.Rows L2
def mergeT (kvs more : List (List Key × V)) : List (List Key × V) := more.foldl (fun acc kv => putK acc kv.1 kv.2) kvs
theorem length_mergeT : ∀ (more kvs : List (List Key × V)), (mergeT kvs more).length ≤ kvs.length + more.length
  | [], kvs => by show kvs.length ≤ kvs.length + 0; omega
  | p :: r, kvs => by
    have h1 := length_mergeT r (putK kvs p.1 p.2)
    have h2 := length_putK kvs p.1 p.2
    show (mergeT (putK kvs p.1 p.2) r).length ≤ _
    rw [List.length_cons]
    omega
theorem KT.merge {H : Hp} : ∀ {more : List (List Key × V)} {rs : List (List Key × Addr × Value)} {kvs : List (List Key × V)} {vs : List (List Key × Addr × Value)}, KT H more rs → KT H kvs vs → KT H (mergeT kvs more) (storedAllH vs rs) := by
  intro more rs kvs vs r
  induction r generalizing kvs vs with
  | nil => intro h; exact h
  | cons h t ih =>
    intro q
    obtain ⟨h1, h2, h3⟩ := h
    rename_i p z _ _
    obtain ⟨zk, zb, zv⟩ := z
    have h1 : p.1 = zk := h1
    subst h1
    exact ih (q.put p.1 h2 h3)
section
variable {X : Cx}
theorem pairs_ofT {pins : List (Addr × Obj)} {σ : L2.St} {H : Hp} {s : Shared} (I : Inv X pins σ H s) : ∀ {ps : List Addr} {kvs : List (List Key × Addr × V)}, Paired (fun p kv => SqT X.K H p [.ref kv.2.1, kv.2.2] ∧ H kv.2.1 = some (.tup (kv.1.map kV))) ps kvs →
    ∃ rs : List (List Key × Addr × Value), KT H (kvs.map fun x => (x.1, x.2.2)) rs ∧ rs.length = ps.length ∧ ∀ (j : Nat) (q : List Key × Addr × Value), rs[j]? = some q → ∃ b : Addr, ps[j]? = some b ∧ IsTup s.heap b #[.ref q.2.1, q.2.2]
  | _, _, .nil => ⟨[], .nil, rfl, fun j q e => by simp at e⟩
  | _, _, .cons (a := p) (b := kv) h t => by
    obtain ⟨rs, r, hl, hp⟩ := pairs_ofT I t
    obtain ⟨its, rv, ht, _⟩ := I.tuple h.1
    obtain ⟨u, y, ei, ru, ry⟩ := vals2 rv
    subst ei
    cases (show u = Value.ref kv.2.1 from ru)
    refine ⟨(kv.1, kv.2.1, y) :: rs, .cons ⟨rfl, h.2, ry⟩ r, by rw [List.length_cons, List.length_cons, hl], fun j q e => ?_⟩
    cases j with
    | zero =>
      have e' : (kv.1, kv.2.1, y) = q := Option.some.inj e
      subst e'
      exact ⟨p, rfl, ht⟩
    | succ j =>
      obtain ⟨b, e1, e3⟩ := hp j q (by simpa using e)
      exact ⟨b, by simpa using e1, e3⟩
theorem call_dictPT (hcalm : X.calm = true) (hu : X.A.units + 3 < cLine) : CallR X (.type "dict") (fun xs H Q => ∃ (a : Addr) (ps : List Addr) (kvs : List (List Key × Addr × V)), xs = [.ref a] ∧ SqL X.K H a (ps.map V.ref) ∧
    Paired (fun p kv => SqT X.K H p [.ref kv.2.1, kv.2.2] ∧ H kv.2.1 = some (.tup (kv.1.map kV))) ps kvs ∧
    ∀ p, H p = none → Q (.ref p) (upd H p (.dT (mergeT [] (kvs.map fun x => (x.1, x.2.2)))))) := by
  intro pins s σ H xs us Q I r q
  obtain ⟨a, ps, kvs, ex, hq, hp, q⟩ := q
  subst ex
  obtain ⟨u, eu, rx⟩ := vals1 r
  subst eu
  cases rx
  obtain ⟨its, rv, pl, hz⟩ := I.list hq
  have ei := refs_at rv
  subst ei
  rw [List.length_map] at hz
  obtain ⟨rs, rel, hl, hpr⟩ := pairs_ofT I hp
  obtain ⟨o, n, ho, hc, hd, hdat⟩ := pl
  have hkey : ∀ x ∈ rs, H x.2.1 = some (.tup (x.1.map kV)) := by
    have all : ∀ {l : List (List Key × V)} {m : List (List Key × Addr × Value)}, KT H l m → ∀ x ∈ m, H x.2.1 = some (.tup (x.1.map kV)) := by
      intro l m q
      induction q with
      | nil => intro x hx; exact nomatch hx
      | @cons p q ps qs hq t ih =>
        intro x hx
        rcases List.mem_cons.mp hx with e | hx
        · subst e
          rw [← hq.1]; exact hq.2.1
        · exact ih x hx
    exact all rel
  refine call_dict_pairsH (knd := tupleKind (mixKind X.prog X.w)) (ps := rs) (PairArg.list a _ (fun j => (ps[j]?).getD 0) (rs.map fun x => (Value.ref x.2.1, x.2.2))) (I.ok.hd hcalm) ?_ ⟨⟨o, n, ho, hc, hd, hdat⟩, by simp [hl], fun j k v e => ?_⟩
    ⟨by simp, fun i key v e => ?_⟩ (fun h' hk x hx => ?_) (by rw [List.length_map, hl]; exact hz) fun h' tk hd' k => ?_
  · show X.A.units + 1 + 1 < cLine
    omega
  · rw [List.getElem?_map] at e
    obtain ⟨x, e1, e2⟩ := Option.map_eq_some_iff.mp e
    obtain ⟨b, e3, e4⟩ := hpr j x e1
    injection e2 with e5 e6
    subst e5 e6
    refine ⟨by simp [e3], .inl ?_⟩
    show s.heap.IsTuple ((ps[j]?).getD 0) _
    rw [e3]
    obtain ⟨ob, z1, z2, nn, z3⟩ := e4
    exact ⟨ob, z1, z2, nn, z3⟩
  · have e : (rs.map fun x => (Value.ref x.2.1, x.2.2))[i]? = some (key, v) := e
    rw [List.getElem?_map] at e
    obtain ⟨x, e1, e2⟩ := Option.map_eq_some_iff.mp e
    injection e2 with e5 e6
    subst e5 e6
    exact ⟨x.1, x.2.1, e1, rfl⟩
  · have hk2 := key_of I.hok (hkey x hx)
    exact (tupleKind_stays (knd := mixKind X.prog X.w)).stays (fun b o vs n e _ => hk b o (Nat.ne_of_lt (Heap.lt_size e)) (by simp) e) hk2
  · have hm : (s.heap.objs.size == sysModules) = false := beq_eq_false_iff_ne.mpr (Nat.ne_of_gt I.big)
    have hlen : (mergeT [] (kvs.map fun x => (x.1, x.2.2))).length ≤ sizeLine := by
      refine Nat.le_trans (length_mergeT _ []) ?_
      rw [List.length_nil, Nat.zero_add, Paired.length rel, hl]
      exact hz
    obtain ⟨ob, es, ep, h1, h2, h3, h4, _, h5⟩ := hd'
    have fr : H s.heap.objs.size = none := I.hok.fresh (Nat.le_refl _)
    have rel2 : KT H (mergeT [] (kvs.map fun x => (x.1, x.2.2))) (storedAllH [] rs) := KT.merge rel .nil
    refine ⟨.ref s.heap.objs.size, upd H s.heap.objs.size (.dT (mergeT [] (kvs.map fun x => (x.1, x.2.2)))), I.laid (t' := tk) (fun b o e => k b o (by simp) e) (Nat.le_refl _)
      (show ObjOk X.prog X.w _ _ _ (.dT (mergeT [] (kvs.map fun x => (x.1, x.2.2)))) from ⟨hlen, hm, _, rel2.keeps fun b ys e => ?_, ob, es, ep, h1, h2, h3, h4, h5⟩), rfl, q _ fr⟩
    rw [upd_ne (fun z => by rw [z, fr] at e; cases e)]
    exact e
theorem call_dictDT (hu : X.A.units + 3 < cLine) : CallR X (.type "dict") (fun xs H Q => ∃ (a : Addr) (kvs : List (List Key × V)), xs = [.ref a] ∧ H a = some (.dT kvs) ∧ (kvs.map fun x => (tupleKind (mixKind X.prog X.w)).hash x.1).Nodup ∧
    ∀ p, H p = none → Q (.ref p) (upd H p (.dT kvs))) := by
  intro pins s σ H xs us Q I r q
  obtain ⟨a, kvs, ex, hd, hn, q⟩ := q
  subst ex
  obtain ⟨u, eu, rx⟩ := vals1 r
  subst eu
  cases rx
  obtain ⟨z, lo, xs, rel, dd⟩ := dt_of I.hok hd
  have hm : (s.heap.objs.size == sysModules) = false := beq_eq_false_iff_ne.mpr (Nat.ne_of_gt I.big)
  have fr : H s.heap.objs.size = none := I.hok.fresh (Nat.le_refl _)
  have hne : s.heap.objs.size ≠ a := by
    obtain ⟨_, _, _, hg, _⟩ := dd
    exact fun e => absurd (Heap.lt_size hg) (by rw [e]; exact Nat.lt_irrefl _)
  have eh : xs.map (fun x => (tupleKind (mixKind X.prog X.w)).hash x.1) = kvs.map fun x => (tupleKind (mixKind X.prog X.w)).hash x.1 := by
    have all : ∀ {l : List (List Key × V)} {m : List (List Key × Addr × Value)}, KT H l m → m.map (fun x => (tupleKind (mixKind X.prog X.w)).hash x.1) = l.map fun x => (tupleKind (mixKind X.prog X.w)).hash x.1 := by
      intro l m q
      induction q with
      | nil => rfl
      | cons h t ih => rw [List.map_cons, List.map_cons, ih, h.1]
    exact all rel
  have hnk : (xs.map (·.1)).Nodup := let ⟨_, _, _, _, _, _, _, _, hn⟩ := dd; hn
  refine callType_codes (Q₁ := fun obj s₁ => obj = .ref s.heap.objs.size ∧ s₁ = { s with heap := s.heap.push { cls := .type "dict", data := .dict #[] } }) F.kt_called_dict (F.kt_typeCall_dict_1 _) F.entry_dict_init (kt_code_dict_new _ ⟨rfl, rfl⟩) ?_
  rintro obj s₁ ⟨rfl, rfl⟩
  have hT : Shared.TypeIs { s with heap := s.heap.push { cls := .type "dict", data := .dict #[] } } (.ref s.heap.objs.size) "dict" := ⟨_, Heap.get?_push_size _ rfl, rfl⟩
  refine ⟨hT, F.args_dict_init_2 _ _, ?_⟩
  unfold Builtin.«dict.__init__»
  refine wpAny_bind ?_
  unfold Builtin.Dict.selfAndRest
  refine wpAny_bind (wpAny_notOrdered_dict hT ?_)
  show wpAny _ _ (pure (s.heap.objs.size, [Value.ref a])) _ _ _
  refine wpAny_pure ?_
  have dd' : (s.heap.push { cls := .type "dict", data := .dict #[] }).DictOfH (tupleKind (mixKind X.prog X.w)) a xs := by
    obtain ⟨ob, es, ep, h1, h2, h3, h4, h5, h6⟩ := dd
    exact ⟨ob, es, ep, Heap.get?_push_of_some _ h1, h2, h3, h4, fun x hx => (tupleKind_stays (knd := mixKind X.prog X.w)).stays (fun b o vs n e _ => Heap.get?_push_of_some _ e) (h5 x hx), h6⟩
  refine updateFrom_dictH (A := X.A.in1) (knd := tupleKind (mixKind X.prog X.w)) .none ?_ hne lo (Heap.DictOfH.new s.heap) dd' (.inr ⟨fun x hx => (tupleKind_stays (knd := mixKind X.prog X.w)).tuple (k := x.1) (let ⟨_, _, _, _, _, _, _, h5, _⟩ := dd'; h5 x hx), by rw [eh]; exact hn⟩) ?_ fun h' hd1 hd2 hs => ?_
  · show X.A.units + 1 + 1 < cLine
    omega
  · show 0 + xs.length ≤ sizeLine
    rw [Nat.zero_add, ← Paired.length rel]; exact z
  · rw [storedAllH_nil_of_nodup xs hnk] at hd1
    obtain ⟨ob, es, ep, h1, h2, h3, h4, _, h5⟩ := hd1
    refine ⟨rfl, .ref s.heap.objs.size, upd H s.heap.objs.size (.dT kvs), I.laid (t' := s.toks) (fun b u e => (hs.2 b (Nat.ne_of_lt (Heap.lt_size e))).trans (Heap.get?_push_of_some _ e)) (Nat.le_refl _)
      (show ObjOk X.prog X.w _ _ _ (.dT kvs) from ⟨z, hm, xs, rel.keeps fun b ys e => ?_, ob, es, ep, h1, h2, h3, h4, h5⟩), rfl, q _ fr⟩
    rw [upd_ne (fun z => by rw [z, fr] at e; cases e)]
    exact e
end
def pairsT : List PV → Option (List (List Key) × List PV)
  | [] => some ([], [])
  | .tup [a, b] :: r => match keyOf a with
    | some (.t q) => match pairsT r with
      | some z => some (q :: z.1, b :: z.2)
      | none => none
    | _ => none
  | _ :: _ => none
def mergeBT : List (List Key) → List PV → List (List Key) → List PV → List (List Key) × List PV
  | ks, vs, q :: qs, w :: ws => let z := putB eqKs ks vs q w; mergeBT z.1 z.2 qs ws
  | ks, vs, _, _ => (ks, vs)
def hashK (k : List Key) : Option Int := (keysI k).map fun ns => reduceHash (Builtin.Tuple.tupleHashOf (ns.map hashInt))
def hashesK : List (List Key) → Option (List Int)
  | [] => some []
  | k :: ks => match hashK k with
    | some h => match hashesK ks with
      | some hs => some (h :: hs)
      | none => none
    | none => none
def memI (x : Int) : List Int → Bool
  | [] => false
  | y :: ys => decide (x = y) || memI x ys
def nodI : List Int → Bool
  | [] => true
  | x :: xs => !memI x xs && nodI xs
theorem memI_ok {x : Int} : ∀ {l : List Int}, memI x l = false → x ∉ l
  | [], _ => by simp
  | y :: ys, h => by
    obtain ⟨h1, h2⟩ := Bool.or_eq_false_iff.mp (show (decide (x = y) || memI x ys) = false from h)
    have := memI_ok h2
    have h1 := of_decide_eq_false h1
    simp [h1, this]
theorem nodI_ok : ∀ {l : List Int}, nodI l = true → l.Nodup
  | [], _ => .nil
  | x :: xs, h => by
    obtain ⟨h1, h2⟩ := Bool.and_eq_true_iff.mp (show (!memI x xs && nodI xs) = true from h)
    exact List.nodup_cons.mpr ⟨memI_ok (by simpa using h1), nodI_ok h2⟩
def bDictT : OpN := fun xs S => match xs with
  | [v] => match derf S v with
    | some (.lst ws) => match pairsT ws with
      | some z => let y := mergeBT [] [] z.1 z.2; some (true, .dct (.t y.1) y.2)
      | none => none
    | some (.dct (.t ks) vs) => match hashesK ks with
      | some hs => if nodI hs then some (true, .dct (.t ks) vs) else none
      | none => none
    | _ => none
  | _ => none
def bDictG : OpN := fun xs S => match bDict xs S with
  | some z => some z
  | none => bDictT xs S
section
variable {X : Cx} {G : Gam}
theorem hashK_ok {P : Program} {w : World} {k : List Key} {h : Int} (e : hashK k = some h) : (tupleKind (mixKind P w)).hash k = h := by
  unfold hashK at e
  cases e1 : keysI k with
  | none => rw [e1] at e; cases e
  | some ns =>
    rw [e1] at e
    cases e
    rw [keysI_ok e1]
    show reduceHash (Builtin.Tuple.tupleHashOf ((ns.map Sum.inl).map (mixKind P w).hash)) = _
    rw [List.map_map]
    rfl
theorem hashesK_ok {P : Program} {w : World} : ∀ {ks : List (List Key)} {hs : List Int}, hashesK ks = some hs → ks.map (tupleKind (mixKind P w)).hash = hs
  | [], hs, e => by cases e; rfl
  | k :: ks, hs, e => by
    unfold hashesK at e
    split at e
    · rename_i h e1
      split at e
      · rename_i hs' e2
        cases e
        rw [List.map_cons, hashK_ok e1, hashesK_ok e2]
      · cases e
    · cases e
theorem pairsT_ok {F : Hp} {r : List Addr} : ∀ {ws : List PV} {us : List V} {z : List (List Key) × List PV}, RVs G F r ws us → pairsT ws = some z →
    ∃ (ps : List Addr) (bs : List Addr) (ys : List V), us = ps.map V.ref ∧ z.1.length = ys.length ∧ z.1.length = bs.length ∧ RVs G F r z.2 ys ∧
      Paired (fun p (kv : List Key × Addr × V) => F p = some (.tup [.ref kv.2.1, kv.2.2]) ∧ F kv.2.1 = some (.tup (kv.1.map kV))) ps (z.1.zip (bs.zip ys))
  | [], us, z, q, e => by
    cases e
    exact ⟨[], [], [], q, rfl, rfl, rfl, .nil⟩
  | w :: ws, us, z, q, e => by
    unfold pairsT at e
    split at e
    · rename_i h0; cases h0
    · rename_i a b r' h0
      cases h0
      split at e
      · rename_i kk ek
        split at e
        · rename_i y ey
          cases e
          obtain ⟨u, ur, rfl, k, l⟩ := q
          obtain ⟨p, ts, rfl, k1, k2⟩ := k
          obtain ⟨ua, ub, rfl, ka, kb⟩ := two_of k2
          obtain ⟨ps, bs, ys, rfl, e1, e1', e2, e3⟩ := pairsT_ok l ey
          obtain ⟨c, rfl, ec⟩ := keyOf_t ka ek
          exact ⟨p :: ps, c :: bs, ub :: ys, rfl, by simpa using e1, by simpa using e1', ⟨ub, ys, rfl, kb, e2⟩, .cons ⟨k1, ec⟩ e3⟩
        · cases e
      · cases e
    · cases e
theorem mergeBT_ok {F : Hp} {r : List Addr} : ∀ {qs : List (List Key)} {ws : List PV} {ys : List V} {ks : List (List Key)} {vs : List PV} {us : List V}, qs.length = ys.length → RVs G F r ws ys → ks.length = us.length → RVs G F r vs us →
    ∃ us', mergeT (ks.zip us) (qs.zip ys) = (mergeBT ks vs qs ws).1.zip us' ∧ (mergeBT ks vs qs ws).1.length = us'.length ∧ RVs G F r (mergeBT ks vs qs ws).2 us'
  | [], ws, ys, ks, vs, us, _, _, hl, k => by
    have e : mergeBT ks vs [] ws = (ks, vs) := by cases ws <;> rfl
    rw [e]
    exact ⟨us, rfl, hl, k⟩
  | q :: qs, ws, [], ks, vs, us, h, _, _, _ => by cases h
  | q :: qs, [], y :: ys, ks, vs, us, _, k', _, _ => by cases (show (y :: ys) = [] from k')
  | q :: qs, w :: ws, y :: ys, ks, vs, us, h, k', hl, k => by
    obtain ⟨u', ur, e, k1, k2⟩ := k'
    cases e
    obtain ⟨us1, e1, e2, e3⟩ := putB_ok eqKs_ok k1 (q := q) hl k
    obtain ⟨us2, e4, e5, e6⟩ := mergeBT_ok (qs := qs) (by simpa using h) k2 e2 e3
    refine ⟨us2, ?_, e5, e6⟩
    show mergeT (putK (ks.zip us) q y) (qs.zip ys) = _
    rw [e1]
    exact e4
def rDictT (K : PySem.W.Frag) (P : Program) (w : World) : List V → Hp → VK → Prop := fun xs H Q => (∃ (a : Addr) (ps : List Addr) (kvs : List (List Key × Addr × V)), xs = [.ref a] ∧ SqL K H a (ps.map V.ref) ∧
    Paired (fun p kv => SqT K H p [.ref kv.2.1, kv.2.2] ∧ H kv.2.1 = some (.tup (kv.1.map kV))) ps kvs ∧
    ∀ p, H p = none → Q (.ref p) (upd H p (.dT (mergeT [] (kvs.map fun x => (x.1, x.2.2)))))) ∨ (∃ (a : Addr) (kvs : List (List Key × V)), xs = [.ref a] ∧ H a = some (.dT kvs) ∧ (kvs.map fun x => (tupleKind (mixKind P w)).hash x.1).Nodup ∧
    ∀ p, H p = none → Q (.ref p) (upd H p (.dT kvs)))
def rDictG (K : PySem.W.Frag) (P : Program) (w : World) : List V → Hp → VK → Prop := fun xs H Q => rDict K xs H Q ∨ rDictT K P w xs H Q
theorem cr_dictG (hc : X.calm = true) (hu : X.A.units + 65 < cLine) : CallR X (.type "dict") (rDictG X.K X.prog X.w) := by
  intro pins s σ H vs us Q I r h
  rcases h with h | h | h
  · exact cr_dict hc pins s σ H vs us Q I r h
  · exact call_dictPT hc (by omega) pins s σ H vs us Q I r h
  · exact call_dictDT (by omega) pins s σ H vs us Q I r h
theorem zip3_map {α β γ : Type} : ∀ {as : List α} {bs : List β} {cs : List γ}, as.length = bs.length → as.length = cs.length → (as.zip (bs.zip cs)).map (fun x => (x.1, x.2.2)) = as.zip cs
  | [], _, _, _, _ => by simp
  | a :: as, [], _, h, _ => by cases h
  | a :: as, b :: bs, [], _, h => by cases h
  | a :: as, b :: bs, c :: cs, h1, h2 => by
    rw [List.zip_cons_cons, List.zip_cons_cons, List.map_cons, zip3_map (by simpa using h1) (by simpa using h2), List.zip_cons_cons]
theorem ok_dictG {P : Program} {w : World} : OkN G bDictG (rDictG G.K P w) := fun n0 g F r S H xs us z Q h q e k => by
  unfold bDictG at e
  cases e0 : bDict xs S with
  | some z' => rw [e0] at e; cases e; exact .inl (ok_dict n0 g F r S H xs us z Q h q e0 k)
  | none =>
    simp only [e0] at e
    unfold bDictT at e
    split at e
    · obtain ⟨u, rfl, q1⟩ := one_of q
      split at e
      · rename_i ws ed
        cases ep : pairsT ws with
        | none => simp only [ep] at e; cases e
        | some y =>
          simp only [ep] at e
          cases e
          obtain ⟨a, us, rfl, k1, k2⟩ := view_lst h q1 (derf_d ed)
          obtain ⟨ps, bs, ys, rfl, e1, e1', e2, e3⟩ := pairsT_ok k2 ep
          refine .inr (.inl ⟨a, ps, _, rfl, .inl k1, Paired.imp' (fun _ _ e => ⟨h.sub.tp e.1, h.sub.tpH e.2⟩) e3, fun p hp => ?_⟩)
          rw [zip3_map e1' e1]
          obtain ⟨us', f1, f2, f3⟩ := mergeBT_ok (ks := []) (vs := []) (us := []) e1 e2 rfl rfl
          have f1 : mergeT [] (y.1.zip ys) = _ := f1
          rw [f1]
          obtain ⟨h2, k4⟩ := new_obj h hp (v := .dct (.t (mergeBT [] [] y.1 y.2).1) (mergeBT [] [] y.1 y.2).2) ⟨us', ⟨rfl, f2⟩, f3⟩ rfl
          exact k F r _ _ (.refl F r) h2 k4
      · rename_i ks vs ed
        cases eh : hashesK ks with
        | none => simp only [eh] at e; cases e
        | some hs =>
          simp only [eh] at e
          split at e
          · rename_i hn
            cases e
            obtain ⟨a, us, rfl, k1, k2, k3⟩ := view_dctT h q1 ed
            refine .inr (.inr ⟨a, _, rfl, k1, ?_, fun p hp => ?_⟩)
            · have e1 : (ks.zip us).map (fun x => (tupleKind (mixKind P w)).hash x.1) = ks.map (tupleKind (mixKind P w)).hash := by
                conv => rhs; rw [← List.map_fst_zip (l₁ := ks) (l₂ := us) (Nat.le_of_eq k2)]
                rw [List.map_map]
                rfl
              rw [e1, hashesK_ok eh]
              exact nodI_ok hn
            · obtain ⟨h2, k4⟩ := new_obj h hp (v := .dct (.t ks) vs) ⟨us, ⟨rfl, k2⟩, k3⟩ rfl
              exact k F r _ _ (.refl F r) h2 k4
          · cases e
      · cases e
    · cases e
end
end PX
set_option Elab.async false
set_option linter.all false
set_option maxRecDepth 100000
set_option maxHeartbeats 1000000
namespace PX
open PySem PySem.Spec PyProof.Rows L2 ZG
def iSeqH (a : SE) : SI := fun env S => (a env S).bind fun p S1 => match lockS p.2 S1 with
  | some z => .ok (z.1, z.2.1) z.2.2
  | none => match dctOf S1 p.2 with
    | some z => .ok (z.1.map kPV, []) S1
    | none => .no
theorem PI.or {X : Cx} {tg e : Expr} {t1 t2 : TI} (h1 : PI X tg e t1) (h2 : PI X tg e t2) : PI X tg e fun σ H R => t1 σ H R ∨ t2 σ H R :=
  ⟨fun pins s σ H R I q => q.elim (h1.run pins s σ H R I) (h2.run pins s σ H R I)⟩
theorem si_seqH {X : Cx} {G : Gam} {n0 : Nat} {tg e : Expr} {fe : SE} (hK : G.K = X.K) (he : PE X e (rdE G n0 fe)) : PI X tg e (rdI G n0 (iSeqH fe)) := by
  refine piI (PI.or (si_seq hK he) (si_keys he)) fun σ H R ⟨F, r, env, S, g, s, h⟩ => ?_
  unfold iSeqH at h
  cases e0 : fe env S with
  | no => rw [e0] at h; exact h.elim
  | ex => rw [e0] at h; exact h.elim
  | ok p S1 =>
    rw [e0] at h
    have h : PoI G n0 g F r env σ (match lockS p.2 S1 with
      | some z => .ok (z.1, z.2.1) z.2.2
      | none => match dctOf S1 p.2 with
        | some z => .ok (z.1.map kPV, []) S1
        | none => .no) R := h
    cases el : lockS p.2 S1 with
    | some z =>
      rw [el] at h
      refine .inl ⟨F, r, env, S, g, s, ?_⟩
      unfold iSeq
      rw [e0]
      show PoI G n0 g F r env σ (match lockS p.2 S1 with
        | some z => _
        | none => .no) R
      rw [el]
      exact h
    | none =>
      rw [el] at h
      refine .inr ⟨F, r, env, S, g, s, ?_⟩
      unfold iKys
      rw [e0]
      exact h
end PX
set_option Elab.async false
set_option linter.all false
set_option maxRecDepth 100000
set_option maxHeartbeats 4000000
namespace L2
open PySem PySem.Spec PyProof.Rows
section
variable {P : Program} {w : World} {A : Around} {E : Value → Shared → Prop} {s : Shared}
set_option maxRecDepth 100000 in
set_option maxHeartbeats 3200000 in
theorem call_set_lstI {l : Addr} {items : Array Value} (ns : List Int) {Q : Value → Shared → Prop} (hh : A.handled = none) (hl : s.heap.IsList l items) (hit : IntsAre items.toList ns) (hb : ns.length + 1 < scanBound)
    (h : ∀ (h' : Heap) (tk c : Nat), SetR w h' s.heap.objs.size (fun j => decide (j ∈ ns)) c → c ≤ ns.length → (∀ b o, s.heap.get? b = some o → h'.get? b = some o) → Q (.ref s.heap.objs.size) { s with heap := h', toks := tk }) :
    wpAny (model P w) A (call (.type "set") [.ref l]) Q E s := by
  have hisz : items.size = ns.length := by
    have q := IntsAre.length hit
    rw [Array.length_toList] at q
    exact q
  obtain ⟨c, tl, hmro⟩ := F.called_set.mro
  have hmade := F.called_set.made
  have hsub := F.called_set.sub
  refine wpAny_call (codeAny_of_tree ?_)
  show wpAny _ _ (callAny (.type "set") _) _ _ _
  refine wpAny_pure ⟨Code.quiet_builtin _ (by decide +kernel), codeAny_builtin F.entry_type_call ?_⟩
  rw [Around.under_plain (weight_type_call_type "set" [.ref l] []) rfl]
  have h1 := F.called_set.notType
  have h2 := F.called_set.canCreate
  have hct := F.typeCall_set_1 (.ref l)
  repeat (any_goals (first | assumption | wp_step))

  refine codeAny_mono (code_set_led1 (.ref l) (E := E) (Q₁ := fun obj s₁ => obj = .ref s.heap.objs.size ∧ s₁ = { s with heap := s.heap.push { cls := .type "set", dict := none, data := .set #[] 0 (.fresh 0 0 (!w.params.followText "set-order")) } }) ⟨rfl, rfl⟩) fun r s₁ hr => ?_
  cases r with
  | error e => exact hr
  | ok fl =>
    cases fl with
    | ret obj =>
      obtain ⟨rfl, rfl⟩ := hr
      have hS : (s.heap.push { cls := .type "set", dict := none, data := .set #[] 0 (.fresh 0 0 (!w.params.followText "set-order")) }).get? s.heap.objs.size = some { cls := .type "set", dict := none, data := .set #[] 0 (.fresh 0 0 (!w.params.followText "set-order")) } := Heap.get?_push_size _ rfl
      have hT : Shared.TypeIs { s with heap := s.heap.push { cls := .type "set", dict := none, data := .set #[] 0 (.fresh 0 0 (!w.params.followText "set-order")) } } (.ref s.heap.objs.size) "set" := ⟨_, hS, rfl⟩
      have hli := F.called_set.init.lookup
      have hbi := F.called_set.init.bind (.ref s.heap.objs.size)
      repeat (any_goals (first | assumption | wp_step))

      refine codeAny_mono (codeAny_call_builtin (R := wants (fun r s₂ => r = .none ∧ ∃ h' tk c, s₂ = { s with heap := h', toks := tk } ∧ SetR w h' s.heap.objs.size (fun j => decide (j ∈ ns)) c ∧ c ≤ ns.length ∧
          (∀ b o, s.heap.get? b = some o → h'.get? b = some o)) E) F.called_set.init.plain F.entry_set_init (check_set_init_1 hT ?_)) fun r₂ s₂ hr₂ => ?_
      · obtain ⟨ol, hol, hcl, nl, hdl⟩ := hl
        obtain ⟨ocls, odict, odata, oslots⟩ := ol
        simp only at hcl hdl
        subst hcl; subst hdl
        have hol' : (s.heap.push { cls := .type "set", dict := none, data := .set #[] 0 (.fresh 0 0 (!w.params.followText "set-order")) }).get? l = some { cls := .type "list", dict := odict, data := .seq items nl, slots := oslots } := Heap.get?_push_of_some _ hol
        have hsls := F.sub_list_set
        have hslf := F.sub_list_frozenset
        have hne : (Value.type "list" == Value.type "dict") = false := by decide
        have hl1 : (s.heap.push { cls := .type "set", dict := none, data := .set #[] 0 (.fresh 0 0 (!w.params.followText "set-order")) }).IsList l items := ⟨_, hol', rfl, nl, rfl⟩
        unfold Builtin.«set.__init__» noKeywords Builtin.Frozenset.updateFrom
        generalize hPI : pyIter = PI
        wp_walk
        subst hPI

        refine wpAny_pyIter_list hl1 ?_
        refine wpAny_bind (wpAny_runValue ?_)
        have hlS : l < s.heap.objs.size := Heap.lt_size hol
        have hh3 : A.in1.in1.in1.handled = none := by simp [hh]
        have hz1 : (s.heap.push { cls := .type "set", dict := none, data := .set #[] 0 (.fresh 0 0 (!w.params.followText "set-order")) }).objs.size = s.heap.objs.size + 1 := Heap.size_push ..
        have hneI : l ≠ (s.heap.push { cls := .type "set", dict := none, data := .set #[] 0 (.fresh 0 0 (!w.params.followText "set-order")) }).objs.size := by
          rw [Heap.size_push]; exact Nat.ne_of_lt (Nat.lt_succ_of_lt hlS)
        have hSf : s.heap.objs.size ∉ [(s.heap.push { cls := .type "set", dict := none, data := .set #[] 0 (.fresh 0 0 (!w.params.followText "set-order")) }).objs.size, l] := by
          rw [Heap.size_push]; simp only [List.mem_cons, List.mem_singleton, List.not_mem_nil, or_false, not_or]
          exact ⟨Nat.ne_of_lt (Nat.lt_succ_self _), Nat.ne_of_gt hlS⟩
        have hval : ∀ (i : Nat) (v : Value), items[i]? = some v → ∃ k t, ns[i]? = some k ∧ v = .int k t := fun i v hv => by
          have hi : i < ns.length := by rw [← hisz]; exact (Array.getElem?_eq_some_iff.mp hv).1
          obtain ⟨t, e⟩ := PyProof.Rows.IntsAre.int_at hit i v (by rw [Array.getElem?_toList]; exact hv)
          refine ⟨ns[i], t, List.getElem?_eq_getElem hi, ?_⟩
          rw [e, List.getD_eq_getElem?_getD, List.getElem?_eq_getElem hi] <;> rfl
        refine set_update_ints ((Walks.list hh3 _ l hneI items).toS) s.heap.objs.size
          hSf ns hisz hb hval (items.size - 0) 0 _ (by omega) (Nat.zero_le _)
          ⟨⟨_, Heap.get?_push_size _ rfl, rfl, rfl⟩, (hl1.push _)⟩ ?hS0 ?hR
        case hS0 =>
          have hget : ((s.heap.push { cls := .type "set", dict := none, data := .set #[] 0 (.fresh 0 0 (!w.params.followText "set-order")) }).push { cls := .type "list_iterator", data := .fields #[.ref l, .int 0 0] }).get? s.heap.objs.size
              = some { cls := .type "set", dict := none, data := .set #[] 0 (.fresh 0 0 (!w.params.followText "set-order")) } := Heap.get?_push_of_some _ hS
          exact ⟨0, Nat.le_refl 0, setR_new_at hget⟩
        case hR =>
          intro s' c' hm hc' hS'
          obtain ⟨h', g2, d', tk', os'⟩ := s'
          have eg : g2 = s.gens := hm.gens
          have ed : d' = s.drawn := hm.drawn
          have eo : os' = s.os := hm.os
          subst eg; subst ed; subst eo
          show wpAny _ _ _ _ _ _
          refine wpAny_pure ?_
          show wpAny _ _ (ret Value.none) _ _ _
          rw [hisz] at hc'
          refine wpAny_pure ⟨rfl, h', tk', c', rfl, hS', hc', fun b o e => ?_⟩
          have hb0 : b < s.heap.objs.size := Heap.lt_size e
          have hb1 : b ≠ s.heap.objs.size := Nat.ne_of_lt hb0
          have hb2 : b ≠ (s.heap.push { cls := .type "set", dict := none, data := .set #[] 0 (.fresh 0 0 (!w.params.followText "set-order")) }).objs.size := by
            rw [Heap.size_push]; exact Nat.ne_of_lt (Nat.lt_succ_of_lt hb0)
          exact hm.heap b o (by simp only [List.mem_cons, List.mem_singleton, List.not_mem_nil, or_false, not_or]; exact ⟨hb1, hb2⟩) (Heap.get?_push_of_some _ (Heap.get?_push_of_some _ e))

      · cases r₂ with
        | error e => exact hr₂
        | ok fl₂ =>
          cases fl₂ with
          | ret r =>
            obtain ⟨rfl, h', tk, c', rfl, hS', hc', hk'⟩ := hr₂
            repeat (any_goals (first | assumption | wp_step))
            exact h _ _ _ hS' hc' hk'
          | _ => exact hr₂.elim
    | _ => exact hr.elim
end
end L2
set_option Elab.async false
set_option linter.all false
set_option maxRecDepth 100000
set_option maxHeartbeats 4000000
namespace L2
open PySem PySem.Spec PyProof.Rows
def rSetI (K : PySem.W.Frag) (w : World) : List V → Hp → VK → Prop := fun vs H Q => ∃ (a : Addr) (ns : List Int), vs = [V.ref a] ∧ (SqL K H a (ns.map V.int) ∨ SqT K H a (ns.map V.int)) ∧ ns.length ≤ 4000 ∧
  ∀ (p : Addr) (c : Nat), (∀ ms : List Int, ms.Nodup → (∀ k, k ∈ ms ↔ k ∈ ns) → c = ms.length) → H p = none → Q (.ref p) (upd H p (SetO w p (fun j => decide (j ∈ ns)) c))
theorem cr_setI {X : Cx} (hc : X.calm = true) : CallR X (.type "set") (rSetI X.K X.w) := by
  intro pins s σ H vs us Q I r h
  obtain ⟨a, ns, rfl, hs, hl, q⟩ := h
  rw [Vals.ref1 r]
  have fin : ∀ (h' : Heap) (tk c : Nat), SetR X.w h' s.heap.objs.size (fun j => decide (j ∈ ns)) c → c ≤ ns.length → (∀ b o, s.heap.get? b = some o → h'.get? b = some o) → EP X pins σ Q (.ref s.heap.objs.size) { s with heap := h', toks := tk } := fun h' tk c R hcn k =>
    ⟨.ref s.heap.objs.size, _, I.laid k (Nat.le_refl _) (setO_new R), rfl, q _ c (fun ms nd hm => by
      obtain ⟨o, es, ep, t, ho, hex, hd, g, nd', hm', hb, hf, hn, _, _⟩ := R
      have e : es.size = (es.toList.map keyOf).length := by rw [List.length_map, Array.length_toList]
      rw [← hn, e]
      exact ((List.perm_ext_iff_of_nodup nd' nd).mpr fun z => by rw [← hm' z, hm z]; simp).length_eq) (I.hok.fresh (Nat.le_refl _))⟩
  rcases hs with hs | hs
  · obtain ⟨its, rv, pl, hz⟩ := I.list hs
    exact call_set_lstI ns (I.ok.hd hc) pl.isList (ints_of_vals rv) (by unfold scanBound; omega) fin
  · obtain ⟨its, rv, pt, hz⟩ := I.tuple hs
    exact call_set_tupI ns (I.ok.hd hc) (show s.heap.IsTuple a its.toArray from pt) (ints_of_vals rv) (by unfold scanBound; omega) fin
def rLenSet (w : World) : List V → Hp → VK → Prop := fun vs H Q => ∃ (a : Addr) (S : Int → Bool) (n : Nat), vs = [V.ref a] ∧ H a = some (SetO w a S n) ∧ ∀ ms : List Int, ms.Nodup → (∀ k, k ∈ ms ↔ S k = true) → Q (.int ms.length) H
theorem cr_lenSet {X : Cx} : CallR X (.builtin "len") (rLenSet X.w) := by
  intro pins s σ H vs us Q I r h
  obtain ⟨a, S, n, rfl, ha, q⟩ := h
  obtain ⟨o, es, ep, t, ho, hex, hd, g, nd, hm, hb, hf, hn, _, _⟩ := setO_get I ha
  rw [Vals.ref1 r]
  have e : es.size = (es.toList.map keyOf).length := by rw [List.length_map, Array.length_toList]
  refine call_len_set ho hex hd hf (by unfold scanBound at hb; omega) ⟨.int es.size, H, I.tok _, ⟨_, rfl⟩, ?_⟩
  rw [e]
  exact q _ nd fun k => (hm k).symm
end L2
namespace PX
open PySem PySem.Spec PyProof.Rows L2
theorem bind_as {α β γ : Type} (m : R α) (k : α → Store → R β) (l : β → Store → R γ) : (m.bind k).bind l = m.bind fun x S => (k x S).bind l := by cases m <;> rfl
def insU (x : Int) : List Int → List Int
  | [] => [x]
  | y :: ys => if x < y then x :: y :: ys else if x = y then y :: ys else y :: insU x ys
def srtU : List Int → List Int
  | [] => []
  | x :: xs => insU x (srtU xs)
theorem insU_mem (x z : Int) : ∀ ys : List Int, z ∈ insU x ys ↔ z = x ∨ z ∈ ys
  | [] => by simp [insU]
  | y :: ys => by
    unfold insU
    split
    · simp
    · split
      · rename_i h
        subst h
        simp
      · simp only [List.mem_cons, insU_mem x z ys]
        constructor
        · rintro (h | h | h)
          · exact .inr (.inl h)
          · exact .inl h
          · exact .inr (.inr h)
        · rintro (h | h | h)
          · exact .inr (.inl h)
          · exact .inl h
          · exact .inr (.inr h)
theorem insU_sorted (x : Int) : ∀ {ys : List Int}, ys.Pairwise (· < ·) → (insU x ys).Pairwise (· < ·)
  | [], _ => by simp [insU]
  | y :: ys, h => by
    have hc := List.pairwise_cons.mp h
    unfold insU
    split
    · rename_i hxy
      refine List.pairwise_cons.mpr ⟨fun z hz => ?_, h⟩
      rcases List.mem_cons.mp hz with e | hz
      · rw [e]; exact hxy
      · have := hc.1 z hz; omega
    · split
      · exact h
      · rename_i h1 h2
        refine List.pairwise_cons.mpr ⟨fun z hz => ?_, insU_sorted x hc.2⟩
        rcases (insU_mem x z ys).mp hz with e | hz
        · rw [e]; omega
        · exact hc.1 z hz
theorem srtU_mem (z : Int) : ∀ xs : List Int, z ∈ srtU xs ↔ z ∈ xs
  | [] => by simp [srtU]
  | x :: xs => by
    show z ∈ insU x (srtU xs) ↔ _
    rw [insU_mem, srtU_mem z xs, List.mem_cons]
theorem srtU_sorted : ∀ xs : List Int, (srtU xs).Pairwise (· < ·)
  | [] => .nil
  | x :: xs => insU_sorted x (srtU_sorted xs)
theorem nodup_len : ∀ {xs ys : List Int}, xs.Nodup → ys.Nodup → (∀ z, z ∈ xs ↔ z ∈ ys) → xs.length = ys.length := fun {xs ys} h1 h2 h => ((List.perm_ext_iff_of_nodup h1 h2).mpr h).length_eq
def bLset : OpN := fun xs S => match xs with
  | [v] => match itemsOf S v with
    | some ws => match intsOf ws with
      | some ns => if Nat.ble ns.length 4000 then some (false, .int ((srtU ns).length : Nat)) else none
      | none => none
    | none => none
  | _ => none
section
variable {X : Cx} {G : Gam} {n0 : Nat}
theorem ints_seq {n0 : Nat} {g : Gh} {F : Hp} {r : List Addr} {S : Store} {H : Hp} {v : PV} {u : V} {ws : List PV} {ns : List Int} (h : HR G n0 g F r S H) (q : RV G F r v u) (e : itemsOf S v = some ws) (en : intsOf ws = some ns) : ∃ a, u = .ref a ∧ (SqL G.K H a (ns.map V.int) ∨ SqT G.K H a (ns.map V.int)) := by
  obtain ⟨a, us, rfl, hs, rv⟩ := view_seq h q e
  rw [intsOf_eq en] at rv
  rw [RVs.ints rv] at hs
  exact ⟨a, rfl, hs⟩
theorem nodup_srtU (ns : List Int) : (srtU ns).Nodup := (srtU_sorted ns).imp fun h => Int.ne_of_lt h
theorem se_lset {e : Expr} {fe : SE} {p p2 pos pos2 : Pos} {cf : CF} {k : Nat} (T : Tb X G cf k) (hl : Gl X "len") (hml : X.mg "len" = none) (hg : Gl X "set") (hm : X.mg "set" = none) (he : PE X e (rdE G n0 fe)) (hs : starEach [e] X.env = (false, eval e X.env) :: starEach [] X.env := by rfl)
    (na : starEach [.Call (.Name "set" p2) [e] [] pos2] X.env = (false, eval (.Call (.Name "set" p2) [e] [] pos2) X.env) :: starEach [] X.env := by rfl) : PE X (.Call (.Name "len" p) [.Call (.Name "set" p2) [e] [] pos2] [] pos) (rdE G n0 (eArg bLset (aCons fe aNil))) := by
  refine peI (pe_callB cr_lenSet hl hml (by rfl) (pa_cons (pe_callTy (cr_setI T.calm) hg hm (by rfl) (pa_cons (toV he) pa_nil hs) (he := hs)) pa_nil na) (he := na)) fun σ H Q ⟨F, r, env, S, g, s, h⟩ => ?_
  have h : PoE G n0 g F r env σ (((fe env S).bind fun p S1 => R.ok [p.2] S1).bind fun q S2 => ofO (bLset q S2) S2) Q := h
  rw [bind_as] at h
  refine stV s cnE h fun p S1 F1 r1 H1 u x1 s1 q1 h1 => ?_
  have h1 : PoE G n0 g F r env σ (ofO (bLset [p.2] S1) S1) Q := h1
  cases eb : bLset [p.2] S1 with
  | none => rw [eb] at h1; exact h1.elim
  | some z =>
    rw [eb] at h1
    simp only [bLset] at eb
    split at eb
    · rename_i ws ei
      split at eb
      · rename_i ns en
        split at eb
        · rename_i hb
          cases eb
          obtain ⟨a, rfl, hq⟩ := ints_seq s1.hr q1 ei en
          refine ⟨a, ns, rfl, T.hK ▸ hq, Nat.le_of_ble_eq_true hb, fun q c hc hH => ?_⟩
          refine ⟨q, _, c, rfl, upd_same, fun ms nd hmem => ?_⟩
          have e : ms.length = (srtU ns).length := nodup_len nd (nodup_srtU ns) fun z => by rw [hmem z, srtU_mem]; simp
          rw [e]
          have h2 := s1.hr.heap (H' := upd H1 q (SetO X.w q (fun j => decide (j ∈ ns)) c)) fun b o eo => by rw [upd_ne (ne_of_none eo hH)]; exact eo
          exact h1 F1 r1 _ _ x1 (s1.ext (.refl _ _) h2) rfl
        · cases eb
      · cases eb
    · cases eb
end
end PX
set_option Elab.async false
set_option linter.all false
set_option maxRecDepth 100000
set_option maxHeartbeats 1000000
set_option Elab.async false
set_option linter.all false
set_option maxRecDepth 100000
set_option maxHeartbeats 4000000
namespace L2
open PySem PySem.Spec PyProof.Rows SrtO
def rSortedDT : List V → Hp → VK → Prop := fun vs H Q => ∃ (a : Addr) (kvs : List (List Key × V)), vs = [V.ref a] ∧ Rd H a (.dT kvs) ∧ ∀ bs, IsKeys H kvs bs → ∃ k : V → List Int, (∀ x ∈ bs.map V.ref, k x ≠ [] ∧ ∃ t, x = V.ref t ∧ H t = some (.tup ((k x).map .int))) ∧
  ∀ ys p, SrtO.Srtd (ltT k) ys → SrtO.Stb (ltT k) ys (bs.map V.ref) → H p = none → Q (.ref p) (upd H p (.lst ys))
section
variable {X : Cx}
theorem cr_sortedDT (hcalm : X.calm = true) : CallR X (.builtin "sorted") rSortedDT := by
  intro pins s σ H vs us Q I r h
  obtain ⟨a, kvs, rfl, hd, q⟩ := h
  obtain ⟨u, rfl, ru⟩ := vals1 r
  obtain rfl : u = Value.ref a := ru
  obtain ⟨z, hs, ks, pr, o, es, ep, ho, hx, hdt, he, hn⟩ := (show ObjOk X.prog X.w H s.heap a (.dT kvs) from by
    rcases hd with hd | ⟨od, hd⟩
    · exact I.hok _ _ hd
    · exact (I.hok _ _ hd).2)
  have l1 : es.size = ks.length := size_of_entries he
  have l2 : kvs.length = ks.length := Paired.length pr
  have hb : IsKeys H kvs (ks.map fun x => x.2.1) := isKeys_of pr
  obtain ⟨k, hxs, q2⟩ := q _ hb
  refine Calls.call_function_entry PyProof.Rows.kind_sorted PyProof.Rows.plain_sorted PyProof.Rows.entry_sorted (PyProof.Rows.args_sorted1 _) ?_
  unfold Builtin.«sorted»
  refine wpAny_bind (m := checkCount "sorted" 1 1 _) (wpAny_pure ?_)
  refine wpAny_bind (PySem.W.kdu_collect (A := X.A.in1) (kdl_raw hs hx hdt) (I.ok.hd hcalm) ho (by omega) fun h' tk acc' hk it => ?_)
  have ea : acc'.toList = ks.map fun x => Value.ref x.2.1 := by
    have hl : acc'.toList.length = ks.length := by rw [Array.length_toList, it.1]; exact l1
    apply List.ext_getElem?
    intro j
    rw [List.getElem?_map]
    cases hj : acc'.toList[j]? with
    | none =>
      have h1 := List.getElem?_eq_none_iff.mp hj
      rw [List.getElem?_eq_none (by omega)]
      all_goals rfl
    | some v =>
      obtain ⟨en, hen, hv⟩ := it.2 j v (by rw [← Array.getElem?_toList]; exact hj)
      have qe := entry_at he j
      rw [hen] at qe
      cases hb : ks[j]? with
      | none =>
        rw [hb] at qe
        exact nomatch (show some en = none from qe)
      | some b =>
        rw [hb] at qe
        have e2 : en = entryOfKey (tupleKind (mixKind X.prog X.w)) b := Option.some.inj qe
        rw [hv, e2]
        all_goals rfl
  have eb : acc'.toList = (ks.map fun x => x.2.1).map Value.ref := by rw [ea, List.map_map]; all_goals rfl
  generalize hbs : ks.map (fun x => x.2.1) = bs at *
  have lb : bs.length = ks.length := by rw [← hbs, List.length_map]
  have I1 : Inv X pins σ H { s with heap := h', toks := tk } := I.kept hk
  have rv : Vals (bs.map V.ref) acc'.toList := by rw [eb]; exact L2.vals_refs _
  obtain ⟨e1, e2⟩ := refs_back rv fun x m => by
    obtain ⟨_, t, e, _⟩ := hxs x m
    exact ⟨t, e⟩
  have hp : ∀ v ∈ acc'.toList, TS.TupInts h' v (k (backV v)) ∧ k (backV v) ≠ [] := fun v hv => by
    obtain ⟨t, rfl⟩ := e2 v hv
    have hm : V.ref t ∈ bs.map V.ref := by rw [e1]; exact List.mem_map.mpr ⟨_, hv, rfl⟩
    obtain ⟨hne, t', e, ht⟩ := hxs _ hm
    cases e
    obtain ⟨_, its2, r2, o, ho, hc, n, hd⟩ := I1.hok _ _ ht
    have ri : IntsAre its2 (k (V.ref t)) := r2.ints
    exact ⟨⟨t, its2.toArray, rfl, ⟨o, ho, hc, n, hd⟩, by rw [List.toList_toArray]; exact ri⟩, hne⟩
  have hal : acc'.toList.length ≤ sizeLine := by rw [eb, List.length_map]; omega
  refine wpAny_bind (wpAny_newList ?_ hal)
  have hoL : (h'.push (seqObj "list" acc'.toList.toArray 0)).get? h'.objs.size = some (seqObj "list" acc'.toList.toArray 0) := Heap.get?_push_size _ rfl
  show wpAny _ _ _ _ _ { s with heap := h'.push (seqObj "list" acc'.toList.toArray 0), toks := tk }
  refine wpAny_bind (wpAny_holding (wpAny_call_entry PyProof.Rows.slot_list_sort ⟨_, hoL, rfl⟩ PyProof.Rows.entry_list_sort
    (SrtO.list_sort_ord (s := { s with heap := h'.push (seqObj "list" acc'.toList.toArray 0), toks := tk }) (ltv := fun v u => HT.lexLt (k (backV v)) (k (backV u))) (NtL.swo_lexL fun v => k (backV v)) hoL hal (fun h2 => ?_) fun out h1 h2 => ⟨_, rfl, ?_⟩) (PyProof.Rows.args_list_sort _)))
  · refine SrtT.tups_sortableO (s := { s with heap := h'.push (seqObj "list" acc'.toList.toArray 0), toks := tk }) (k := fun v => k (backV v)) (by omega) (fun v hm => ((hp v hm).1).keeps fun b o e _ => Heap.get?_push_of_some _ e) (fun v hm => (hp v hm).2) fun o e => ?_
    have e' : some o = some (seqObj "list" acc'.toList.toArray 0) := e.symm.trans hoL
    cases e'
    intro c
    exact absurd (Value.type.inj c) (by decide)
  · obtain ⟨e', he'⟩ := PyProof.Rows.sortedHeap_at (vs := acc'.toList) (out := out.toArray) hoL
    have h3 : ∀ u ∈ out, ∃ a, u = Value.ref a := fun u hu => e2 u (h2.perm.mem_iff.mp hu)
    have hb : SrtO.Stb (ltT k) (out.map backV) (bs.map V.ref) := by
      rw [e1]
      exact SrtO.Stb.map (NtL.swo_lexL k) backV h2
    refine wpAny_pure ⟨_, rfl, .ref h'.objs.size, upd H h'.objs.size (.lst (out.map backV)), I1.laid (t' := tk) (fun b u e => ?_) (Nat.le_refl _)
      (show ObjOk X.prog X.w _ _ _ (.lst (out.map backV)) from ⟨?_, out, e', vals_back h3, he'⟩), rfl, q2 _ _ (SrtO.srtd_map h1) hb (I1.hok.fresh (Nat.le_refl _))⟩
    · have hb : b < h'.objs.size := Heap.lt_size e
      rw [PyProof.Rows.sortedHeap_old (Nat.ne_of_lt hb) (by rw [size_push']; exact Nat.lt_succ_of_lt hb)]
      exact Heap.get?_push_of_some _ e
    · rw [hb.len, List.length_map]
      omega
end
end L2
set_option Elab.async false
set_option linter.all false
set_option maxRecDepth 100000
set_option maxHeartbeats 4000000
namespace PX
open PySem PySem.Spec PyProof.Rows L2
def rowK : List Key → Option (List Int)
  | [] => some []
  | .inl i :: r => (rowK r).map (i :: ·)
  | .inr _ :: _ => none
def rowsK : List (List Key) → Option (List (List Int))
  | [] => some []
  | k :: r => match k with
    | [] => none
    | _ :: _ => match rowK k with
      | some p => (rowsK r).map (p :: ·)
      | none => none
def bSortH : OpN := fun xs S => match bSortG xs S with
  | some z => some z
  | none => match xs with
    | [v] => match deref S v with
      | some (.dct (.t ks) _) => (rowsK ks).map fun ps => (true, .lst ((srtR ps).map rQ))
      | _ => none
    | _ => none
theorem rowK_ok : ∀ {k : List Key} {p : List Int}, rowK k = some p → k = p.map Sum.inl
  | [], p, e => by cases e; rfl
  | .inl i :: r, p, e => by
    unfold rowK at e
    cases er : rowK r with
    | none => rw [er] at e; cases e
    | some q =>
      rw [er] at e
      cases e
      rw [List.map_cons, ← rowK_ok er]
  | .inr x :: r, p, e => by cases e
theorem rowsK_ok : ∀ {ks : List (List Key)} {ps : List (List Int)}, rowsK ks = some ps → ks = ps.map (fun p => p.map Sum.inl) ∧ ∀ p ∈ ps, p ≠ []
  | [], ps, e => by cases e; exact ⟨rfl, fun p hp => by cases hp⟩
  | [] :: r, ps, e => by cases e
  | (x :: k) :: r, ps, e => by
    unfold rowsK at e
    dsimp only at e
    cases ek : rowK (x :: k) with
    | none => rw [ek] at e; cases e
    | some p =>
      rw [ek] at e
      dsimp only at e
      cases er : rowsK r with
      | none => rw [er] at e; cases e
      | some q =>
        rw [er] at e
        cases e
        obtain ⟨i1, i2⟩ := rowsK_ok er
        have ep := rowK_ok ek
        refine ⟨by rw [List.map_cons, ← i1, ← ep], fun z hz => ?_⟩
        rcases List.mem_cons.mp hz with rfl | hz
        · intro e0
          rw [e0] at ep
          cases ep
        · exact i2 z hz
section
variable {G : Gam} {n0 : Nat} {g : Gh} {F : Hp} {r : List Addr} {S : Store} {H : Hp}
theorem HR.tup_nr (h : HR G n0 g F r S H) {t : Addr} {us : List V} (ht : H t = some (.tup us)) : t ∉ r ∧ g.pn t = none := by
  constructor
  · intro hm
    obtain ⟨i, hi, e⟩ := List.getElem_of_mem hm
    have hs : i < S.length := by rw [← h.len]; exact hi
    obtain ⟨ho, at1, ro⟩ := h.obj i S[i] t (List.getElem?_eq_getElem hs) (by rw [List.getElem?_eq_getElem hi, e])
    cases hl : isLk S[i] with
    | true =>
      obtain ⟨_, od, e2⟩ := at1.lk hl
      rw [ht] at e2
      cases e2
    | false =>
      have e2 := at1.nl hl
      rw [ht] at e2
      cases e2
      unfold RO at ro
      split at ro
      · obtain ⟨us, e, _⟩ := ro; cases e
      · rename_i ks vs _
        obtain ⟨us, d, _⟩ := ro
        cases ks with
        | k _ => cases d.1
        | t _ => cases d.1
        | n _ => obtain ⟨⟨_, _, z, _⟩, _⟩ := d; cases z
      · obtain ⟨dx, us, e, _⟩ := ro; cases e
      · exact ro
  · cases ep : g.pn t with
    | none => rfl
    | some o =>
      have e1 := (h.pin t o ep).1
      rw [ht] at e1
      cases e1
      have := h.tab.np t _ ep
      cases this
theorem kV_row {p : List Int} : (p.map (Sum.inl : Int → Key)).map kV = p.map V.int := by
  rw [List.map_map]
  rfl
theorem grow_keys : ∀ (ps : List (List Int)) (us : List V) (bs : List Addr) {F : Hp}, HR G n0 g F r S H → ps.length = us.length → IsKeys H ((ps.map fun p => p.map Sum.inl).zip us) bs → ∃ F', Ext F F' r r ∧ HR G n0 g F' r S H ∧ RVs G F' r (ps.map rQ) (bs.map V.ref)
  | [], us, bs, F, h, hl, hk => by
    cases us with
    | cons => cases hl
    | nil =>
      have : bs = [] := by
        cases bs with
        | nil => rfl
        | cons => cases hk
      subst this
      exact ⟨F, .refl _ _, h, rfl⟩
  | p :: ps, us, bs, F, h, hl, hk => by
    cases us with
    | nil => cases hl
    | cons u us =>
      cases bs with
      | nil => cases hk
      | cons b bs =>
        cases hk with
        | cons ht hk =>
          have ht : H b = some (.tup (p.map V.int)) := by rw [← kV_row]; exact ht
          obtain ⟨f2, f3⟩ := h.tup_nr ht
          have one : ∃ F1, Ext F F1 r r ∧ HR G n0 g F1 r S H ∧ F1 b = some (.tup (p.map V.int)) := by
            cases ef : F b with
            | none => exact ⟨_, ⟨Le.upd ef, List.prefix_refl r⟩, h.grow ht ef f2 f3 rfl, upd_same⟩
            | some o =>
              rcases h.sub.any ef with e | ⟨z, e⟩
              · rw [ht] at e
                cases e
                exact ⟨F, .refl _ _, h, ef⟩
              · rw [ht] at e
                cases e
          obtain ⟨F1, x1, h1, at1⟩ := one
          obtain ⟨F', x2, h2, q2⟩ := grow_keys ps us bs h1 (by simpa using hl) hk
          exact ⟨F', x1.trans x2, h2, ⟨.ref b, bs.map V.ref, rfl, ⟨b, p.map V.int, rfl, x2.1 _ _ at1, RVs.of_ints p⟩, q2⟩⟩
end
def rSortH (K : PySem.W.Frag) : List V → Hp → VK → Prop := fun vs H Q => rSortG K vs H Q ∨ rSortedDT vs H Q
section
variable {G : Gam} {n0 : Nat} {X : Cx}
theorem cr_sortH (hc : X.calm = true) : CallR X (.builtin "sorted") (rSortH X.K) := by
  intro pins s σ H vs us Q I r h
  rcases h with h | h
  · exact cr_sortG hc pins s σ H vs us Q I r h
  · exact cr_sortedDT hc pins s σ H vs us Q I r h
theorem ok_sortH : OkN G bSortH (rSortH G.K) := fun n0 g F r S H xs us z Q h q e k => by
  unfold bSortH at e
  cases e0 : bSortG xs S with
  | some z' => rw [e0] at e; cases e; exact .inl (ok_sortG n0 g F r S H xs us z Q h q e0 k)
  | none =>
    simp only [e0] at e
    split at e
    · rename_i v
      obtain ⟨u, ur, rfl, q1, q2⟩ := q
      have q2 : ur = [] := q2
      subst q2
      split at e
      · rename_i ks ws ed
        cases er : rowsK ks with
        | none => rw [er] at e; cases e
        | some ps =>
          rw [er] at e
          cases e
          obtain ⟨a, us, rfl, k1, k2, k3⟩ := view_dctTd h q1 ed
          obtain ⟨en1, en2⟩ := rowsK_ok er
          rw [en1] at k1 k2
          refine .inr ⟨a, _, rfl, k1, fun bs hbs => ?_⟩
          obtain ⟨F1, x1, h1, q3⟩ := grow_keys ps us bs h (by simpa using k2) hbs
          exact rows_srt h1 q3 en2 fun F' r' H' w x h' rf => k F' r' H' w (x1.trans x) h' rf
      · cases e
    · cases e
end
end PX
set_option Elab.async false
set_option linter.all false
set_option maxRecDepth 100000
set_option maxHeartbeats 4000000
set_option Elab.async false
set_option linter.all false
set_option maxRecDepth 100000
set_option maxHeartbeats 4000000
set_option Elab.async false
set_option linter.all false
set_option maxRecDepth 100000
set_option maxHeartbeats 4000000
set_option Elab.async false
set_option linter.all false
set_option maxRecDepth 100000
set_option maxHeartbeats 4000000
set_option Elab.async false
set_option linter.all false
set_option maxRecDepth 100000
set_option maxHeartbeats 1000000
namespace PX
open PySem PySem.Spec PyProof.Rows L2
abbrev xVal (G : Gam) (c : Nat) : Value := .ref (G.ca c)
abbrev bmVE : List Value := [.type "ValueError", .type "Exception", .type "BaseException", .type "object"]
def excB (K : PySem.W.Frag) (C : Addr) : Bool := PySem.W.excIn K C bmVE "ValueError.__new__" && (PySem.W.keepIn K (.ref C) && (decide (PySem.W.subIn K (.ref C) (.type "BaseException") = some true) && (decide (PySem.W.typeIn K (.ref C) = some (.type "type")) && decide (PySem.W.exmOne K (.ref C) (.ref C) = some true))))
section
variable {X : Cx} {G : Gam} {n0 : Nat} {E : XK}
theorem ss_rse {c : Nat} {x m : Str} {j : Nat} {p p2 pos pos2 : Pos} (hG : G.K = X.K) (hc : X.calm = true) (tk : Takes X fun cls d _ H => E cls d H) (hk : excB G.K (G.ca c) = true) (hm : X.mg x = some (.ref (G.ca c))) (hg : Gl X x) (hx : (x == PySem.Str.ofString "__debug__") = false := by rfl) :
    PS X (.Raise (some (.Call (.Name x p) [.Constant (.str m) j p2] [] pos)) none pos2) (rdS G n0 E (sRse c)) := by
  rw [hG] at hk
  unfold excB at hk
  simp only [Bool.and_eq_true, decide_eq_true_eq] at hk
  obtain ⟨h1, h2, h3, h4, h5⟩ := hk
  exact psI (ps_raise hc tk (pmk_own PySem.F.excBase_ValueError h1 hm h2 (raises_own h3 h4) hg hx)) fun D σ H ⟨F, r, env, S, g, s, h⟩ => h F r H (.refl F r) s.hr none rfl
end
section
variable {X : Cx} {CX : CXT} {k : Nat} {f : Addr} {sp : Sp} {E : L2.St → XK} {x : Str} {p pos : Pos} {e : Expr} {es : List Expr} {t : TA}
theorem run_fnRS {pins : List (Addr × Obj)} {σ : L2.St} {H : Hp} {s : Shared} {Q : VK} {us : List Value} {vs : List V} (F : FnR X.prog X.w X.K X.mg X.base CX k f sp) (hr : Room k X.A) (hx : PassesAt CX X σ (E σ)) (I : Inv X pins σ H s) (r : Vals vs us) (h : sp vs H Q (E σ)) :
    codeAny (model X.prog X.w) X.A (.call (.ref f) ⟨us, []⟩) (fun r s' => match r with | .ok (.ret v) => EP X pins σ Q v s' | .ok _ => False | .error e => X.xe e s') s := by
  refine codeAny_mono (F X.A X.stack s H us vs Q (E σ) hr I.env0 r h) fun r s' hq => ?_
  cases r with
  | error e => exact hx pins H s e s' I hq
  | ok fl =>
    cases fl with
    | ret u => exact I.after hq
    | next => exact False.elim hq
    | brk => exact False.elim hq
    | cont => exact False.elim hq
theorem pe_callRS (F : FnR X.prog X.w X.K X.mg X.base CX k f sp) (hr : Room k X.A) (hg : Gl X x) (hm : X.mg x = some (.ref f)) (hk : PySem.W.keepIn X.K (.ref f) = true) (hx : ∀ σ, PassesAt CX X σ (E σ))
    (ha : PA X (e :: es) t) (hdb : (x == ("__debug__" : Str)) = false := by decide) (he : starEach (e :: es) X.env = (false, eval e X.env) :: starEach es X.env := by rfl) (hpl : (backTo pos (starEach es X.env)).any (·.1) = false := by rfl) :
    PE X (.Call (.Name x p) (e :: es) [] pos) (tCallS sp E t) := by
  refine ⟨fun pins s σ H Q I h => ?_⟩
  refine wpAny_Call_Name_kw (ld_glob I hg hm ?_ hdb)
  refine PySem.W.callWith_K (h₀ := X.base) I.ok.mod.kin hk (thn (ha.run pos pins s σ H _ I h) fun us s1 ⟨vs, H1, I1, r, q⟩ => ⟨I1.kIn, ?_⟩) he hpl
  exact wpAny_call (run_fnRS F hr (hx σ) I1 r q)
end
def sTryC (cf : CF) (np f : Nat) (fa : SA) (fe1 : SE) (c : Nat) (fe2 : SE) : SS := fun env S => match fa env S with
  | .ok args S1 => if args.length = np then (match cutX S1.length (cf f args S1.length S1) with
      | .ok v S2 => (match norm S1.length v S2 with
        | .ok _ S3 => sRet fe1 env S3
        | _ => .no)
      | .ex k _ S2 => if k = c then sRet fe2 env S2 else .no
      | .no => .no)
    else .no
  | _ => .no
section
variable {X : Cx} {G : Gam} {n0 : Nat} {E : XK} {cf : CF} {np f c k : Nat} {fa : SA} {fe1 fe2 : SE}
theorem run_try {g : Gh} {F0 F : Hp} {r0 r : List Addr} {env : Env} {σ : L2.St} {S : Store} {H : Hp} {Q : VK} {E1 : XK} {D : Ends} {args : List PV} {us : List V} (s : Sg G n0 g F r env σ S H) (x0 : Ext F0 F r0 r) (q : RVs G F r args us) (hl : args.length = np)
    (h : PoS G n0 E g F0 r0 (match cutX S.length (cf f args S.length S) with
      | .ok v S2 => (match norm S.length v S2 with
        | .ok _ S3 => sRet fe1 env S3
        | _ => .no)
      | .ex k _ S2 => if k = c then sRet fe2 env S2 else .no
      | .no => .no) D)
    (hQ : ∀ F2 r2 H2 u S3, Ext F0 F2 r0 r2 → Sg G n0 g F2 r2 env σ S3 H2 → PoS G n0 E g F0 r0 (sRet fe1 env S3) D → Q u H2)
    (hE : ∀ F2 r2 H2 S3 pl, Ext F0 F2 r0 r2 → Sg G n0 g F2 r2 env σ S3 H2 → PoS G n0 E g F0 r0 (sRet fe2 env S3) D → XE E1 (xVal G c) pl H2) : spF G cf f np us H Q E1 := by
  refine ⟨F, r, S, subG n0 g S.length, S.length, args, s.hr.call, q, hl, ?_⟩
  cases ec : cf f args S.length S with
  | no => rw [ec] at h; exact h
  | ex k p S2 =>
    rw [ec] at h
    have h : PoS G n0 E g F0 r0 (if k = c then sRet fe2 env (S2.take S.length) else .no) D := h
    by_cases hk : k = c
    · subst hk
      rw [if_pos rfl] at h
      intro F2 r2 H2 x2 h2
      have h3 := frz_hr h2 S2.length
      have le := frF_le h2 S2.length
      rw [take_ext s.hr x2] at h3
      have x4 : Ext F (frF S.length S2.length (subG n0 g S.length) F2 r2 H2) r r := ⟨x2.1.trans le, List.prefix_refl r⟩
      exact hE _ r H2 _ p (x0.trans x4) (s.ext x4 (s.hr.back h3)) h
    · rw [if_neg hk] at h
      exact h.elim
  | ok v S2 =>
    rw [ec] at h
    intro F2 r2 H2 u x2 h2 q2
    have h : PoS G n0 E g F0 r0 (match norm S.length v S2 with
        | .ok _ S3 => sRet fe1 env S3
        | _ => .no) D := h
    cases en : norm S.length v S2 with
    | no => rw [en] at h; exact h.elim
    | ex => rw [en] at h; exact h.elim
    | ok p S3 =>
      rw [en] at h
      obtain ⟨b, w⟩ := p
      obtain ⟨F3, x3, h3, q3⟩ := norm_ok h2 q2 en
      rw [take_ext s.hr x2] at h3 q3
      have x4 : Ext F F3 r r := ⟨x2.1.trans x3, List.prefix_refl r⟩
      exact hQ F3 r H2 u S3 (x0.trans x4) (s.ext x4 (s.hr.back h3)) h
theorem ss_try {x C : Str} {e e1 e2 : Expr} {es : List Expr} {p pos pe pr1 pr2 pn_ hp pt : Pos} (T : Tb X G cf k)
    (hs : X.stack = X.env :: X.outer) (hf : X.env.frame = some X.env.locals) (hC : Names X C (xVal G c)) (hx : excB G.K (G.ca c) = true)
    (hg : Gl X x) (hm : X.mg x = some (.ref (G.fa f))) (hk : PySem.W.keepIn G.K (.ref (G.fa f)) = true)
    (hpa : ∀ pn xe, PA (X.tr pn xe) (e :: es) (rdA G n0 fa)) (he1 : ∀ pn xe, PE (X.tr pn xe) e1 (rdE G n0 fe1)) (he2 : ∀ a pn, PE (X.suite a pn) e2 (rdE G n0 fe2))
    (hd : (x == PySem.Str.ofString "__debug__") = false := by rfl)
    (hst : PySem.starEach (e :: es) X.env = (false, PySem.eval e X.env) :: PySem.starEach es X.env := by rfl)
    (hsb : ((PySem.backTo pos (PySem.starEach es X.env)).any fun x => x.fst) = false := by rfl)
    (hsw : PySem.swapsWith ((PySem.Expr.Name x p).Call (e :: es) [] pos) none pe.line X.env = pure false := by rfl) :
    PS X (.Try [.Expr (.Call (.Name x p) (e :: es) [] pos) pe, .Return (some e1) pr1] [.ExceptHandler (some (.Name C pn_)) none [.Return (some e2) pr2] hp] [] [] pt) (rdS G n0 E (sTryC cf np f fa fe1 c fe2)) := by
  have hK := T.hK
  rw [hK] at hx hk
  refine psI (ps_try_only hs hf hC takes0 (tb := fun W => tSeq (tDrop (tCallS (spF G cf f np) (fun σ => WE W σ) (rdA G n0 fa))) (rdS G n0 E (sRet fe1))) (ts := fun _ _ _ => rdS G n0 E (sRet fe2))
    (fun W pn xe tk _ => pss_cons (ps_expr (pe_callRS (X := X.tr pn xe) (T.call f np) (T.room.mono (Nat.le_succ k)) hg hm hk (passAt tk) (hpa pn xe) hd hst hsb) hsw) (ss_one (ss_ret (he1 pn xe))))
    (fun a oe cls d pn _ _ => ss_one (ss_ret (he2 a _)))) fun D σ H ⟨F, r, env, S, g, s, h⟩ => ?_
  show rdA G n0 fa σ H fun vs H1 => spF G cf f np vs H1 _ _
  refine ⟨F, r, env, S, g, s, ?_⟩
  have h : PoS G n0 E g F r (match fa env S with
    | .ok args S1 => if args.length = np then (match cutX S1.length (cf f args S1.length S1) with
        | .ok v S2 => (match norm S1.length v S2 with
          | .ok _ S3 => sRet fe1 env S3
          | _ => .no)
        | .ex k _ S2 => if k = c then sRet fe2 env S2 else .no
        | .no => .no)
      else .no
    | _ => .no) D := h
  cases ea : fa env S with
  | no => rw [ea] at h; exact h.elim
  | ex => rw [ea] at h; exact h.elim
  | ok args S1 =>
    rw [ea] at h
    intro F1 r1 H1 us x1 s1 q1
    have h : PoS G n0 E g F r (if args.length = np then _ else .no) D := h
    by_cases hl : args.length = np
    · rw [if_pos hl] at h
      refine run_try s1 x1 q1 hl h (fun F2 r2 H2 u S3 x2 s2 h2 => goS s2 x2 h2) fun F2 r2 H2 S3 pl x2 s2 h2 => ?_
      unfold excB at hx
      simp only [Bool.and_eq_true, decide_eq_true_eq] at hx
      exact fun d _ => ⟨true, hx.2.2.2.2, fun _ a _ => goS s2 x2 h2, fun e => absurd e (by simp)⟩
    · rw [if_neg hl] at h
      exact h.elim
end
end PX
set_option Elab.async false
set_option linter.all false
set_option maxRecDepth 100000
set_option maxHeartbeats 1000000
namespace PX
open PySem PySem.Spec PyProof.Rows L2 He
abbrev Ih (P : Program) (w : World) (K : PySem.W.Frag) (mg : Str → Option Value) (base : Heap) (G : Gam) (n : Nat) (cf : CF) : Prop := ∀ f np, FnR P w K mg base (L2.CX P w) (4 * n) (G.fa f) (spF G cf f np)
abbrev Dv (P : Program) (w : World) (K : PySem.W.Frag) (mg : Str → Option Value) (base : Heap) (G : Gam) (N : List Str) (qual : Str) (pl : Stmt) (f : Addr) (n : Nat) (ev : Nat → SS) : Prop :=
  ∀ (cdv : Value) (A : Around) (outer : List PySem.Env) (s : Shared) (H : Hp) (E : XK) (n0 : Nat), Room (4 * n + 3) (A.deeper (envOfC qual (defScope pl) s.heap.objs.size f cdv)) → Takes (cxOf (L2.CX P w) P w K mg base N qual (defScope pl) f cdv A outer s H E) (fun cls d _ H => E cls d H) →
    PSs (cxOf (L2.CX P w) P w K mg base N qual (defScope pl) f cdv A outer s H E) (defBody pl) (rdS G n0 E (ev n0))
theorem dvT {X : Cx} {W : WX} {G : Gam} {cf : CF} {n : Nat} (tk : Takes X W) (hK : G.K = X.K) (ih : ∀ f np, FnR X.prog X.w X.K X.mg X.base (L2.CX X.prog X.w) (4 * n) (G.fa f) (spF G cf f np)) (hr : Room (4 * n + 3) X.A) (hc : X.calm = true) : Tb X G cf (4 * n) := ⟨hK, ih, hr.mono (by omega), hc⟩
theorem dvP {X : Cx} {W : WX} {Kx E₁ : Value → Shared → Prop} (tk : Takes X W) (hx : X.xe = fun e s' => wpAny (model X.prog X.w) X.A (leaving X.env e) (fun _ s'' => Kx e s'') E₁ s') : PassesOwn (model X.prog X.w) X.A X.env X.xe := passes_of hx
theorem mkSc {N P : List Str} {sc : Scope} (h : (decide (sc.kind = .function) && (!sc.isCoroutine && (!sc.isGenerator && (decide N.Nodup && (decide (N.take P.length = P) && ((P.all fun x => decide (sc.names.lookup x = some .local ∨ sc.names.lookup x = some .cell)) && sc.names.all fun y => decide (y.2 ≠ .free))))))) = true) : FnScope N P sc := by
  simp only [Bool.and_eq_true, decide_eq_true_eq, Bool.not_eq_true', List.all_eq_true] at h
  obtain ⟨h1, h2, h3, h4, h5, h6, h7⟩ := h
  exact ⟨h1, h2, h3, h4, h5, h6, h7⟩
end PX
set_option Elab.async false
set_option linter.all false
set_option maxRecDepth 100000
set_option maxHeartbeats 4000000
set_option Elab.async false
set_option linter.all false
set_option maxRecDepth 100000
set_option maxHeartbeats 4000000
namespace PX
open PySem PySem.Spec PyProof.Rows L2
def kP : Key → PV
  | .inl i => .int i
  | .inr x => .str x
def bListK : OpN := fun xs S => match bList xs S with
  | some z => some z
  | none => match xs with
    | [v] => match deref S v with
      | some (.dct (.k ks) _) => some (true, .lst (ks.map kP))
      | _ => none
    | _ => none
def rListK (K : PySem.W.Frag) : List V → Hp → VK → Prop := fun xs H Q => (∃ p ys, xs = [.ref p] ∧ (SqL K H p ys ∨ SqT K H p ys) ∧ ∀ l, H l = none → Q (.ref l) (upd H l (.lst ys))) ∨
  ∃ (a : Addr) (kvs : List (Key × V)), xs = [.ref a] ∧ Rd H a (.dK kvs) ∧ ∀ p, H p = none → Q (.ref p) (upd H p (.lst (kvs.map fun kv => kV kv.1)))
section
variable {G : Gam} {X : Cx}
theorem cr_listK (hc : X.calm = true) : CallR X (.type "list") (rListK X.K) := by
  intro pins s σ H xs us Q I r h
  rcases h with h | h
  · exact call_list_of pins s σ H xs us Q I r h
  · exact call_listD hc pins s σ H xs us Q I r h
theorem rvs_keys {F : Hp} {r : List Addr} : ∀ ks : List Key, RVs G F r (ks.map kP) (ks.map kV)
  | [] => rfl
  | .inl i :: ks => ⟨_, _, rfl, rfl, rvs_keys ks⟩
  | .inr x :: ks => ⟨_, _, rfl, rfl, rvs_keys ks⟩
theorem ok_listK : OkN G bListK (rListK G.K) := fun n0 g F r S H xs us z Q h q e k => by
  unfold bListK at e
  cases e0 : bList xs S with
  | some z' => rw [e0] at e; cases e; exact .inl (ok_list n0 g F r S H xs us z Q h q e0 k)
  | none =>
    simp only [e0] at e
    split at e
    · rename_i v
      obtain ⟨u, ur, rfl, q1, q2⟩ := q
      have q2 : ur = [] := q2
      subst q2
      split at e
      · rename_i ks ws ed
        cases e
        obtain ⟨a, ho, us, rfl, k1, k2, k3⟩ := view_dct h q1 ed
        obtain ⟨rfl, hl⟩ := k2
        refine .inr ⟨a, _, rfl, k1, fun p hp => ?_⟩
        have em : (ks.zip us).map (fun kv => kV kv.1) = ks.map kV := by
          rw [show (fun kv : Key × V => kV kv.1) = kV ∘ Prod.fst from rfl, ← List.map_map, List.map_fst_zip (Nat.le_of_eq hl)]
        rw [em]
        obtain ⟨h2, k4⟩ := new_obj h hp (v := .lst (ks.map kP)) ⟨ks.map kV, rfl, rvs_keys ks⟩ rfl
        exact k F r _ _ (.refl _ _) h2 k4
      · cases e
    · cases e
end
end PX
set_option Elab.async false
set_option linter.all false
set_option maxRecDepth 100000
set_option maxHeartbeats 1000000
namespace PX
open PySem PySem.Spec PyProof.Rows L2
def PoEX (G : Gam) (n0 : Nat) (E : XK) (g : Gh) (F : Hp) (r : List Addr) (env : Env) (σ : L2.St) (z : R (Bool × PV)) (Q : VK) : Prop := match z with
  | .ok p S' => ∀ F' r' H' u, Ext F F' r r' → Sg G n0 g F' r' env σ S' H' → RF G g F' r' H' p.1 p.2 u → Q u H'
  | .ex c pl S' => ∀ F' r' H', Ext F F' r r' → HR G n0 g F' r' S' H' → XE E (.ref (G.ca c)) pl H'
  | .no => False
def PoVX (G : Gam) (n0 : Nat) (E : XK) (g : Gh) (F : Hp) (r : List Addr) (env : Env) (σ : L2.St) (z : R (Bool × PV)) (Q : VK) : Prop := match z with
  | .ok p S' => ∀ F' r' H' u, Ext F F' r r' → Sg G n0 g F' r' env σ S' H' → RV G F' r' p.2 u → Q u H'
  | .ex c pl S' => ∀ F' r' H', Ext F F' r r' → HR G n0 g F' r' S' H' → XE E (.ref (G.ca c)) pl H'
  | .no => False
def rdEX (G : Gam) (n0 : Nat) (E : L2.St → XK) (f : SE) : TE := fun σ H Q => ∃ F r env S g, Sg G n0 g F r env σ S H ∧ PoEX G n0 (E σ) g F r env σ (f env S) Q
def rdVX (G : Gam) (n0 : Nat) (E : L2.St → XK) (f : SE) : TE := fun σ H Q => ∃ F r env S g, Sg G n0 g F r env σ S H ∧ PoVX G n0 (E σ) g F r env σ (f env S) Q
def nxA (a : SA) : SA := fun env S => match a env S with
  | .ok v S1 => .ok v S1
  | _ => .no
theorem norm_ex {n0 : Nat} {v : PV} {S : Store} {c : Nat} {p : List PV} {S' : Store} (h : norm n0 v S = .ex c p S') : False := by
  unfold norm at h
  split at h
  · cases h
  · split at h
    · split at h
      · cases h
      · split at h
        · split at h <;> cases h
        · cases h
    · split at h <;> cases h
section
variable {X : Cx} {G : Gam} {n0 : Nat} {E : XK} {g : Gh} {F F1 : Hp} {r r1 : List Addr} {env : Env} {σ : L2.St} {S S1 : Store} {H H1 : Hp} {Q : VK} {D : Ends}
theorem stAX {f : SA} {T : List V → Hp → Prop} {kk : List PV → Store → R (Bool × PV)} (s : Sg G n0 g F r env σ S H) (h : PoEX G n0 E g F r env σ ((nxA f env S).bind kk) Q)
    (step : ∀ p S' F' r' H' us, Ext F F' r r' → Sg G n0 g F' r' env σ S' H' → RVs G F' r' p us → PoEX G n0 E g F r env σ (kk p S') Q → T us H') : rdA G n0 f σ H T := by
  refine ⟨F, r, env, S, g, s, ?_⟩
  unfold nxA at h
  cases e : f env S with
  | ok p S' => rw [e] at h; exact fun F' r' H' us ex s' q => step p S' F' r' H' us ex s' q h
  | ex c p S' => rw [e] at h; exact h.elim
  | no => rw [e] at h; exact h.elim
theorem PoEX.ext {z : R (Bool × PV)} (h : PoEX G n0 E g F r env σ z Q) (x : Ext F F1 r r1) : PoEX G n0 E g F1 r1 env σ z Q := by
  cases z with
  | ok p S' => exact fun F' r' H' u ex s' q => h F' r' H' u (x.trans ex) s' q
  | ex c p S' => exact fun F' r' H' ex hr => h F' r' H' (x.trans ex) hr
  | no => exact h
theorem toVX {e : Expr} {f : SE} {E : L2.St → XK} (h : PE X e (rdEX G n0 E f)) : PE X e (rdVX G n0 E f) := by
  refine peI h fun σ H Q ⟨F, r, env, S, g, s, p⟩ => ⟨F, r, env, S, g, s, ?_⟩
  cases e : f env S with
  | ok p' S' =>
    rw [e] at p
    intro F' r' H' u x s' q
    obtain ⟨F2, x2, h2, q2⟩ := freeze s'.hr q
    exact p F2 r' H' u (x.trans x2) (s'.ext x2 h2) q2
  | ex => rw [e] at p; exact p
  | no => rw [e] at p; exact p
end
section
variable {X : Cx} {G : Gam} {n0 : Nat} {E : XK} {cf : CF} {np f c k : Nat} {fa : SA} {fe : SE} {st : Stmt} {e : Expr} {es : List Expr} {pos : Pos}
def tMakeX (C : Addr) (sp : Sp) (E : L2.St → XK) (t : TA) : TE := fun σ H Q => t σ H fun vs H1 => ∀ x dx, H1 x = none → H1 dx = none → dx ≠ x → sp (.ref x :: vs) (upd (upd H1 dx (.own x)) x (.ins C dx [])) (fun v H2 => v = .non ∧ Q (.ref x) H2) (E σ)
def RS.nox : RS → RS
  | .ex _ _ _ => .no
  | z => z
def sTryE (b : SE) (fa : SS) (mt : Nat → Bool) (fb : SS) : SS := fun env S => match b env S with
  | .ok _ S1 => (fa env S1).nox
  | .ex k _ S1 => if mt k = true then (fb env S1).nox else .no
  | .no => .no
theorem PoS.nox {E' : XK} {g : Gh} {F : Hp} {r : List Addr} {D : Ends} {z : RS} (h : PoS G n0 E g F r z.nox D) : PoS G n0 E' g F r z D := by
  cases z with
  | ex => exact h.elim
  | nx => exact h
  | bk => exact h
  | ct => exact h
  | rt => exact h
  | no => exact h
end
end PX
set_option Elab.async false
set_option linter.all false
set_option maxRecDepth 100000
namespace PX
open PySem PySem.Spec PyProof.Rows L2 He
structure SaysQ (fb : List Ck) (fn : List DefD) (tf : List Defn) (h : Heap) (K : PySem.W.Frag) : Prop where
  p : SaysP fb fn K
  hd : ∀ p ∈ tf, PySem.W.codeHdIn K (cT K p).1 (cT K p).2 = true
  out : ∀ p ∈ tf, K.lookup (cT K p).2 = none
  empty : ∀ p ∈ tf, h.get? (cT K p).2 = some { cls := .none, data := .fields #[] }
  nd : (tf.map fun p => (cT K p).2).Nodup
end PX
set_option Elab.async false
set_option linter.all false
set_option maxRecDepth 100000
set_option maxHeartbeats 1000000
namespace PX
open PySem PySem.Spec PyProof.Rows L2 L2H
structure FnP (P : Program) (w : World) (K : PySem.W.Frag) (mg : Str → Option Value) (base : Heap) (CX : CXT) (k : Nat) (f : Addr) (fd : FuncData) (ps : List Str) (sp : Sp) : Prop where
  len : ∀ vs H Q E, sp vs H Q E → vs.length = ps.length
  run : ∀ (A : Around) (outer : List PySem.Env) (s : Shared) (H : Hp) (args : Args) (us : List Value) (vs : List V) (Q : VK) (E : XK) (p : Addr × Obj), RoomH k A → PinOk outer H s p → Env0 P w K mg base A outer s H → BindsTo s fd args (ps.zip us) → Vals vs us → sp vs H Q E →
    codeAny (model P w) A (.call (.ref f) args) (CR CX outer P w H s Q E) s
def PinC (X : Cx) : Prop := ∃ p : Addr × Obj, p ∈ X.pn
end PX
set_option Elab.async false
set_option linter.all false
set_option maxRecDepth 100000
set_option maxHeartbeats 1000000
namespace PX
open PySem PySem.Spec PyProof.Rows L2 L2H
structure TbH (X : Cx) (G : Gam) (cf : CF) (k : Nat) (hs : List Nat) : Prop where
  hK : G.K = X.K
  call : ∀ f np, f ∈ hs → ∃ fd ps, FnP X.prog X.w X.K X.mg X.base (L2.CX X.prog X.w) k (G.fa f) fd ps (spF G cf f np) ∧ Binds X.K fd ps []
  room : RoomH (k + 1) X.A
  pin : PinC X
end PX
set_option Elab.async false
set_option linter.all false
set_option maxRecDepth 100000
set_option maxHeartbeats 1000000
set_option Elab.async false
set_option linter.all false
set_option maxRecDepth 100000
set_option maxHeartbeats 2000000
namespace PX
open PySem PySem.Spec PyProof.Rows L2 ZG RZ HotX L2H
theorem hotAt_keep {A : Around} {x1 : Addr} {h h' : Heap} (hot : HotAt A x1 h) (k : ∀ o, h.get? x1 = some o → h'.get? x1 = some o) : HotAt A x1 h' := by
  obtain ⟨hh, o, vs, e, d, c⟩ := hot
  exact ⟨hh, o, vs, k o e, d, c⟩
section
variable {prog : Program} {w : World} {A : Around} {E : Value → Shared → Prop} {s : Shared}
theorem stop_hot {α : Type} {x1 : Addr} {Q : α → Shared → Prop} (hot : HotAt A x1 s.heap)
    (hE : ∀ h' e, (∀ b o, s.heap.get? b = some o → h'.get? b = some o) → (∃ o, h'.get? e = some o ∧ o.cls = .type "StopIteration") → E (.ref e) { s with heap := h' }) :
    wpAny (model prog w) A (newExc (.type "StopIteration") [] >>= fun e => (raiseNew e : Sem α)) Q E s := by
  obtain ⟨hh, o1, vs1, h1, d1, c1⟩ := hot
  refine wpAny_bind ?_
  simp only [newExc, newTuple]
  refine wpAny_bind (wpAny_newObj_type ?_ (by size_fits))
  refine wpAny_bind (m := firstArgMember _ _) (wpAny_of_eq (a := Value.none) (by first | rfl | (simp only [firstArgMember]; rfl)) ?_)
  refine wpAny_newObj_type ?_ (by size_fits)
  refine raiseNew_hot ⟨hh, o1, vs1, Heap.get?_push_of_some _ (Heap.get?_push_of_some _ h1), d1, c1⟩ (Nat.ne_of_lt (Heap.lt_size (Heap.get?_push_of_some _ h1))) (Heap.get?_push_size _ rfl) rfl (by first | (simp; done) | (simp; omega) | (simp only [Array.size_append]; simp; omega)) ?_
  refine hE _ _ (fun b o e => ?_) ⟨_, Heap.get?_update_self _ (Heap.get?_push_size _ rfl) rfl, rfl⟩
  rw [Heap.get?_update_other _ _ (Nat.ne_of_gt (Heap.lt_size (Heap.get?_push_of_some _ e)))]
  exact Heap.get?_push_of_some _ (Heap.get?_push_of_some _ e)
theorem listNext_hot {it l x1 : Addr} {i : Nat} {items} {Q : Fin → Shared → Prop} (hot : HotAt A x1 s.heap) (hne : x1 ≠ it)
    (hit : s.heap.IsListIter it l i) (hl : s.heap.IsList l items) (hx : items[i]? = none)
    (hE : ∀ h' e, Heap.ExtBut it s.heap h' → (∃ o, h'.get? e = some o ∧ o.cls = .type "StopIteration") → E (.ref e) { s with heap := h' }) :
    wpAny (model prog w) A (Builtin.«list_iterator.__next__» ⟨[.ref it], []⟩) Q E s := by
  obtain ⟨o, ho, hc, hd⟩ := id hit
  obtain ⟨ol, hol, _, nl, hdl⟩ := hl
  show wpAny _ _ (field (.ref it) 0 >>= _) _ _ s
  refine wpAny_bind (wpAny_field ho hd (x := .ref l) rfl ?_)
  show wpAny _ _ (if (Value.ref l == Value.none) = true then _ else _) _ _ s
  rw [if_neg (show ¬ ((Value.ref l == Value.none) = true) from Bool.false_ne_true)]
  show wpAny _ _ (field (.ref it) 1 >>= _) _ _ s
  refine wpAny_bind (wpAny_field ho hd (x := .int i 0) rfl ?_)
  show wpAny _ _ (seqItems? (.ref l) >>= _) _ _ s
  refine wpAny_bind (wpAny_seqItems hol hdl ?_)
  simp only [Int.toNat_natCast, hx]
  refine wpAny_bind (wpAny_rule (wpAny_bind (wpAny_setField ho hd (by simp) ?_)))
  have k : ∀ f, Heap.ExtBut it s.heap (s.heap.update it f) := fun f b o hb e => (Heap.get?_update_other _ _ (Ne.symm hb)).trans e
  show wpAny _ _ (newExc (.type "StopIteration") [] >>= _) _ _ _
  exact stop_hot (hotAt_keep hot fun o e => k _ _ _ hne e) fun h' e q r => hE h' e (fun b o hb x => q b o (k _ b o hb x)) r
theorem tupNext_hot {it l x1 : Addr} {i : Nat} {items} {Q : Fin → Shared → Prop} (hot : HotAt A x1 s.heap) (hne : x1 ≠ it)
    (hit : s.heap.IsTupleIter it l i) (hl : s.heap.IsTuple l items) (hx : items[i]? = none)
    (hE : ∀ h' e, Heap.ExtBut it s.heap h' → (∃ o, h'.get? e = some o ∧ o.cls = .type "StopIteration") → E (.ref e) { s with heap := h' }) :
    wpAny (model prog w) A (Builtin.«tuple_iterator.__next__» ⟨[.ref it], []⟩) Q E s := by
  obtain ⟨o, ho, hc, hd⟩ := id hit
  obtain ⟨ol, hol, _, nl, hdl⟩ := hl
  show wpAny _ _ (field (.ref it) 0 >>= _) _ _ s
  refine wpAny_bind (wpAny_field ho hd (x := .ref l) rfl ?_)
  show wpAny _ _ (if (Value.ref l == Value.none) = true then _ else _) _ _ s
  rw [if_neg (show ¬ ((Value.ref l == Value.none) = true) from Bool.false_ne_true)]
  show wpAny _ _ (field (.ref it) 1 >>= _) _ _ s
  refine wpAny_bind (wpAny_field ho hd (x := .int i 0) rfl ?_)
  show wpAny _ _ (seqItems? (.ref l) >>= _) _ _ s
  refine wpAny_bind (wpAny_seqItems hol hdl ?_)
  simp only [Int.toNat_natCast, hx]
  refine wpAny_bind (wpAny_rule (wpAny_bind (wpAny_setField ho hd (by simp) ?_)))
  have k : ∀ f, Heap.ExtBut it s.heap (s.heap.update it f) := fun f b o hb e => (Heap.get?_update_other _ _ (Ne.symm hb)).trans e
  show wpAny _ _ (newExc (.type "StopIteration") [] >>= _) _ _ _
  exact stop_hot (hotAt_keep hot fun o e => k _ _ _ hne e) fun h' e q r => hE h' e (fun b o hb x => q b o (k _ b o hb x)) r
theorem nextOf_end_hot {b : Bool} {it l x1 : Addr} {i : Nat} {items : Array Value} {Q : Value → Shared → Prop} (hot : HotAt A x1 s.heap) (hne : x1 ≠ it)
    (hit : SqIt b s.heap it l i) (hl : SqOb b s.heap l items) (hx : items[i]? = none)
    (hE : ∀ h' e, Heap.ExtBut it s.heap h' → (∃ o, h'.get? e = some o ∧ o.cls = .type "StopIteration") → E (.ref e) { s with heap := h' }) :
    wpAny (model prog w) A (Builtin.SmallTypes.nextOf (.ref it)) Q E s := by
  cases b with
  | true =>
    have hit : s.heap.IsTupleIter it l i := hit
    unfold Builtin.SmallTypes.nextOf
    exact wpAny_bind (wpAny_callSpecial?_slot (name := Str.ofString "__next__") hit.typeIs F.slot_tuple_iterator_next
      (wpAny_call_entry F.slot_tuple_iterator_next hit.typeIs F.entry_tuple_iterator_next (tupNext_hot (A := A.in1) hot hne hit hl hx hE) (F.args_tuple_iterator_next_1 _)))
  | false =>
    have hit : s.heap.IsListIter it l i := hit
    unfold Builtin.SmallTypes.nextOf
    exact wpAny_bind (wpAny_callSpecial?_slot (name := Str.ofString "__next__") hit.typeIs slot_listiter_next
      (wpAny_call_entry slot_listiter_next hit.typeIs entry_listiter_next (listNext_hot (A := A.in1) hot hne hit hl hx hE) (args_listiter_next _)))
theorem pyNext_sq_end_hot {b : Bool} {it l x1 : Addr} {i : Nat} {items : Array Value} {Q : Option Value → Shared → Prop} (hot : HotAt A x1 s.heap) (hne : x1 ≠ it)
    (hit : SqIt b s.heap it l i) (hl : SqOb b s.heap l items) (hx : items[i]? = none)
    (hQ : ∀ h', Heap.ExtBut it s.heap h' → Q none { s with heap := h' }) : wpAny (model prog w) A (pyNext (.ref it)) Q E s := by
  have fin : ∀ h' e, Heap.ExtBut it s.heap h' → (∃ o, h'.get? e = some o ∧ o.cls = .type "StopIteration") → wpAny (model prog w) A (do if ← isInstance (.ref e) (.type "StopIteration") then pure none else throw (.ref e)) Q E { s with heap := h' } := fun h' e k ⟨o, ho, hc⟩ =>
    wpAny_bind (wpAny_isInstance (T := "StopIteration") (b := true) ⟨o, ho, hc⟩ isSubtype_stop (wpAny_pure (hQ _ k)))
  cases b with
  | true =>
    have hit : s.heap.IsTupleIter it l i := hit
    unfold pyNext
    exact wpAny_bind (wpAny_attempt (wpAny_callSpecial?_slot (name := Str.ofString "__next__") hit.typeIs F.slot_tuple_iterator_next
      (wpAny_call_entry F.slot_tuple_iterator_next hit.typeIs F.entry_tuple_iterator_next (tupNext_hot (A := A.in1) hot hne hit hl hx fin) (F.args_tuple_iterator_next_1 _))))
  | false =>
    have hit : s.heap.IsListIter it l i := hit
    unfold pyNext
    exact wpAny_bind (wpAny_attempt (wpAny_callSpecial?_slot (name := Str.ofString "__next__") hit.typeIs slot_listiter_next
      (wpAny_call_entry slot_listiter_next hit.typeIs entry_listiter_next (listNext_hot (A := A.in1) hot hne hit hl hx fin) (args_listiter_next _))))
theorem zipG_next_endH {b1 b2 : Bool} {z TI TO i1 i2 l1 l2 x1 : Addr} {k1 k2 : Nat} {xs ys : Array Value} {a b : Value} {Q : Fin → Shared → Prop} (hot : HotAt A x1 s.heap) (n1 : x1 ≠ z) (n2 : x1 ≠ TO) (n3 : x1 ≠ i1) (n4 : x1 ≠ i2) (D : ZipApart z TI TO i1 i2 l1 l2)
    (hz : IsZip s.heap z TI TO .none) (hTI : IsPair s.heap TI (.ref i1) (.ref i2)) (hTO : IsPair s.heap TO a b)
    (h1 : SqIt b1 s.heap i1 l1 k1) (h2 : SqIt b2 s.heap i2 l2 k2) (hl1 : SqOb b1 s.heap l1 xs) (hl2 : SqOb b2 s.heap l2 ys) (hend : xs[k1]? = none ∨ ys[k2]? = none)
    (hE : ∀ h' e, (∀ c o, c ≠ z → c ≠ TO → c ≠ i1 → c ≠ i2 → s.heap.get? c = some o → h'.get? c = some o) → (∃ o, h'.get? e = some o ∧ o.cls = .type "StopIteration") → E (.ref e) { s with heap := h' }) :
    wpAny (model prog w) A (Builtin.«zip.__next__» ⟨[.ref z], []⟩) Q E s := by
  show wpAny _ _ (field (.ref z) 2 >>= _) _ _ _
  refine wpAny_bind (wpAny_field hz rfl (x := .bool false) rfl ?_)
  show wpAny _ _ (field (.ref z) 3 >>= _) _ _ _
  refine wpAny_bind (wpAny_field hz rfl (x := .ref TI) rfl ?_)
  refine wpAny_bind (wpAny_seqItems hTI rfl ?_)
  show wpAny _ _ (Builtin.SmallTypes.ownedTupleIsFree (.ref z) >>= _) _ _ _
  refine wpAny_bind ?_
  unfold Builtin.SmallTypes.ownedTupleIsFree
  refine wpAny_bind (wpAny_field hz rfl (x := .none) rfl (wpAny_pure ?_))
  simp only [if_true]
  refine wpAny_bind (wpAny_rule ?_)
  refine wpAny_bind (wpAny_field hz rfl (x := .ref TO) rfl ?_)
  refine wpAny_bind (wpAny_setField_rec hz (by simp) fun h₁ hz₁ hs₁ => ?_)
  replace hz₁ : IsZip h₁ z TI TO .ellipsis := hz₁
  refine wpAny_bind ?_
  simp only [List.zipIdx_cons, List.zipIdx_nil, List.forIn_cons, List.forIn_nil]
  refine wpAny_bind (wpAny_bind (wpAny_onRaise ?_))
  show wpAny _ _ (Builtin.SmallTypes.nextOf (.ref i1) >>= _) _ _ _
  cases hx : xs[k1]? with
  | none =>
    refine wpAny_bind (nextOf_end_hot (hotAt_keep hot fun o e => hs₁.extBut _ _ n1 e) n3 (h1.extBut hs₁.extBut D.i1z) (hl1.extBut hs₁.extBut D.l1z) hx fun h₂ e hs₂ he => ?_)
    obtain ⟨oe, hoe, hce⟩ := he
    have hz₂ : IsZip h₂ z TI TO .ellipsis := hs₂ _ _ D.i1z.symm hz₁
    have hez : e ≠ z := fun x => by subst x; rw [hz₂] at hoe; cases hoe; simp at hce
    refine wpAny_setField_rec hz₂ (by simp) fun h₃ _ hs₃ => hE h₃ e (fun c o c1 _ c3 _ x => hs₃.extBut _ _ c1 (hs₂ _ _ c3 (hs₁.extBut _ _ c1 x))) ⟨oe, hs₃.extBut _ _ hez hoe, hce⟩
  | some x =>
    have hy : ys[k2]? = none := by rcases hend with h | h; rw [hx] at h; cases h; exact h
    refine wpAny_bind (nextOf_item (h1.extBut hs₁.extBut D.i1z) (hl1.extBut hs₁.extBut D.l1z) hx fun h₂ h1₂ hs₂ => wpAny_pure ?_)
    have hTO₂ : IsPair h₂ TO a b := hs₂.extBut _ _ D.TOi1 (hs₁.extBut _ _ D.TOz hTO)
    refine wpAny_bind (wpAny_seqItems hTO₂ rfl ?_)
    refine wpAny_bind (wpAny_updateSeq_pair hTO₂ fun h₃ hTO₃ hs₃ => ?_)
    refine wpAny_bind (wpAny_letGo (wpAny_pure ?_))
    refine wpAny_bind (wpAny_bind (wpAny_onRaise ?_))
    show wpAny _ _ (Builtin.SmallTypes.nextOf (.ref i2) >>= _) _ _ _
    refine wpAny_bind (nextOf_end_hot (hotAt_keep hot fun o e => hs₃.extBut _ _ n2 (hs₂.extBut _ _ n3 (hs₁.extBut _ _ n1 e))) n4 (((h2.extBut hs₁.extBut D.i2z).extBut hs₂.extBut D.i12.symm).extBut hs₃.extBut D.TOi2.symm)
      (((hl2.extBut hs₁.extBut D.l2z).extBut hs₂.extBut D.l2i1).extBut hs₃.extBut D.l2TO) hy fun h₄ e hs₄ he => ?_)
    obtain ⟨oe, hoe, hce⟩ := he
    have hz₄ : IsZip h₄ z TI TO .ellipsis := hs₄ _ _ D.i2z.symm (hs₃.extBut _ _ D.TOz.symm (hs₂.extBut _ _ D.i1z.symm hz₁))
    have hez : e ≠ z := fun x => by subst x; rw [hz₄] at hoe; cases hoe; simp at hce
    refine wpAny_setField_rec hz₄ (by simp) fun h₅ _ hs₅ => hE h₅ e (fun c o c1 c2 c3 c4 x => hs₅.extBut _ _ c1 (hs₄ _ _ c4 (hs₃.extBut _ _ c2 (hs₂.extBut _ _ c3 (hs₁.extBut _ _ c1 x))))) ⟨oe, hs₅.extBut _ _ hez hoe, hce⟩
theorem pyNext_zipG_endH {b1 b2 : Bool} {z TI TO i1 i2 l1 l2 x1 : Addr} {k1 k2 : Nat} {xs ys : Array Value} {a b : Value} {Q : Option Value → Shared → Prop} (hot : HotAt A x1 s.heap) (n1 : x1 ≠ z) (n2 : x1 ≠ TO) (n3 : x1 ≠ i1) (n4 : x1 ≠ i2) (D : ZipApart z TI TO i1 i2 l1 l2)
    (hz : IsZip s.heap z TI TO .none) (hTI : IsPair s.heap TI (.ref i1) (.ref i2)) (hTO : IsPair s.heap TO a b)
    (h1 : SqIt b1 s.heap i1 l1 k1) (h2 : SqIt b2 s.heap i2 l2 k2) (hl1 : SqOb b1 s.heap l1 xs) (hl2 : SqOb b2 s.heap l2 ys) (hend : xs[k1]? = none ∨ ys[k2]? = none)
    (hQ : ∀ h', (∀ c o, c ≠ z → c ≠ TO → c ≠ i1 → c ≠ i2 → s.heap.get? c = some o → h'.get? c = some o) → Q none { s with heap := h' }) : wpAny (model prog w) A (pyNext (.ref z)) Q E s := by
  have hT : s.TypeIs (.ref z) "zip" := ⟨_, hz, rfl⟩
  unfold pyNext
  refine wpAny_bind (wpAny_attempt (wpAny_callSpecial?_slot (name := Str.ofString "__next__") hT F.slot_zip_next
    (wpAny_call_entry F.slot_zip_next hT F.entry_zip_next (zipG_next_endH (A := A.in1) hot n1 n2 n3 n4 D hz hTI hTO h1 h2 hl1 hl2 hend fun h' e hk he => ?_) (F.args_zip_next_1 _))))
  obtain ⟨o, ho, hc⟩ := he
  refine wpAny_bind (wpAny_isInstance (T := "StopIteration") (b := true) ⟨o, ho, hc⟩ isSubtype_stop ?_)
  exact wpAny_pure (hQ _ hk)
theorem zipG_end_heldH {b1 b2 : Bool} {z TI TO T i1 i2 l1 l2 x1 : Addr} {f : Bool} {oT : Obj} {k1 k2 : Nat} {xs ys : Array Value} {Q : Fin → Shared → Prop} (hot : HotAt A x1 s.heap) (n1 : x1 ≠ z) (n2 : x1 ≠ TO) (n3 : x1 ≠ i1) (n4 : x1 ≠ i2) (D : ZipApart z TI TO i1 i2 l1 l2)
    (hz : IsZipHeld s.heap z TI TO T f) (hT : s.heap.get? T = some oT) (hTI : IsPair s.heap TI (.ref i1) (.ref i2))
    (h1 : SqIt b1 s.heap i1 l1 k1) (h2 : SqIt b2 s.heap i2 l2 k2) (hl1 : SqOb b1 s.heap l1 xs) (hl2 : SqOb b2 s.heap l2 ys) (hend : xs[k1]? = none ∨ ys[k2]? = none)
    (hE : ∀ h' e, (∀ c o, c ≠ z → c ≠ i1 → c ≠ i2 → s.heap.get? c = some o → h'.get? c = some o) → (∃ o, h'.get? e = some o ∧ o.cls = .type "StopIteration") → E (.ref e) { s with heap := h' }) :
    wpAny (model prog w) A (Builtin.«zip.__next__» ⟨[.ref z], []⟩) Q E s := by
  show wpAny _ _ (field (.ref z) 2 >>= _) _ _ _
  refine wpAny_bind (wpAny_field hz rfl (x := .bool false) rfl ?_)
  show wpAny _ _ (field (.ref z) 3 >>= _) _ _ _
  refine wpAny_bind (wpAny_field hz rfl (x := .ref TI) rfl ?_)
  refine wpAny_bind (wpAny_seqItems hTI rfl ?_)
  show wpAny _ _ (Builtin.SmallTypes.ownedTupleIsFree (.ref z) >>= _) _ _ _
  refine wpAny_bind (wpAny_tupleHeld_zip hz hT fun h₁ hz₁ hs₁ => ?_)
  simp only [Bool.false_eq_true, if_false]
  refine wpAny_bind ?_
  rw [← Array.forIn_toList]
  simp only [List.forIn_cons, List.forIn_nil]
  refine wpAny_bind (wpAny_bind (wpAny_holding ?_))
  show wpAny _ _ (Builtin.SmallTypes.nextOf (.ref i1) >>= _) _ _ _
  cases hx : xs[k1]? with
  | none =>
    refine wpAny_bind (nextOf_end_hot (s := { s with heap := h₁ }) (hotAt_keep hot fun o e => hs₁.extBut _ _ n1 e) n3 (h1.extBut hs₁.extBut D.i1z) (hl1.extBut hs₁.extBut D.l1z) hx fun h₂ e hs₂ he => ?_)
    exact hE h₂ e (fun c o c1 c2 _ x => hs₂ _ _ c2 (hs₁.extBut _ _ c1 x)) he
  | some x =>
    have hy : ys[k2]? = none := by rcases hend with h | h; rw [hx] at h; cases h; exact h
    refine wpAny_bind (nextOf_item (s := { s with heap := h₁ }) (h1.extBut hs₁.extBut D.i1z) (hl1.extBut hs₁.extBut D.l1z) hx fun h₂ h1₂ hs₂ => wpAny_pure ?_)
    refine wpAny_pure ?_
    refine wpAny_bind (wpAny_bind (wpAny_holding ?_))
    show wpAny _ _ (Builtin.SmallTypes.nextOf (.ref i2) >>= _) _ _ _
    refine wpAny_bind (nextOf_end_hot (s := { s with heap := h₂ }) (hotAt_keep hot fun o e => hs₂.extBut _ _ n3 (hs₁.extBut _ _ n1 e)) n4 ((h2.extBut hs₁.extBut D.i2z).extBut hs₂.extBut D.i12.symm) ((hl2.extBut hs₁.extBut D.l2z).extBut hs₂.extBut D.l2i1) hy fun h₃ e hs₃ he => ?_)
    exact hE h₃ e (fun c o c1 c2 c3 x => hs₃ _ _ c3 (hs₂.extBut _ _ c2 (hs₁.extBut _ _ c1 x))) he
theorem pyNext_zipG_end_heldH {b1 b2 : Bool} {z TI TO T i1 i2 l1 l2 x1 : Addr} {f : Bool} {oT : Obj} {k1 k2 : Nat} {xs ys : Array Value} {Q : Option Value → Shared → Prop} (hot : HotAt A x1 s.heap) (n1 : x1 ≠ z) (n2 : x1 ≠ TO) (n3 : x1 ≠ i1) (n4 : x1 ≠ i2) (D : ZipApart z TI TO i1 i2 l1 l2)
    (hz : IsZipHeld s.heap z TI TO T f) (hT : s.heap.get? T = some oT) (hTI : IsPair s.heap TI (.ref i1) (.ref i2))
    (h1 : SqIt b1 s.heap i1 l1 k1) (h2 : SqIt b2 s.heap i2 l2 k2) (hl1 : SqOb b1 s.heap l1 xs) (hl2 : SqOb b2 s.heap l2 ys) (hend : xs[k1]? = none ∨ ys[k2]? = none)
    (hQ : ∀ h', (∀ c o, c ≠ z → c ≠ i1 → c ≠ i2 → s.heap.get? c = some o → h'.get? c = some o) → Q none { s with heap := h' }) : wpAny (model prog w) A (pyNext (.ref z)) Q E s := by
  have hTy : s.TypeIs (.ref z) "zip" := ⟨_, hz, rfl⟩
  unfold pyNext
  refine wpAny_bind (wpAny_attempt (wpAny_callSpecial?_slot (name := Str.ofString "__next__") hTy F.slot_zip_next
    (wpAny_call_entry F.slot_zip_next hTy F.entry_zip_next (zipG_end_heldH (A := A.in1) hot n1 n2 n3 n4 D hz hT hTI h1 h2 hl1 hl2 hend fun h' e hk he => ?_) (F.args_zip_next_1 _))))
  obtain ⟨o, ho, hc⟩ := he
  refine wpAny_bind (wpAny_isInstance (T := "StopIteration") (b := true) ⟨o, ho, hc⟩ isSubtype_stop ?_)
  exact wpAny_pure (hQ _ hk)
end
end PX
set_option Elab.async false
set_option linter.all false
set_option maxRecDepth 100000
set_option maxHeartbeats 2000000
namespace PX
open PySem PySem.Spec PyProof.Rows L2 ZG RZ HotX L2H
theorem turn_listH {P : Program} {w : World} {K : PySem.W.Frag} {tg : Expr} (a it : Addr) : TurnH P w K tg (Itl K a) [it] it (fun i h => h.IsListIter it a i) where
  mem := by simp
  obj := fun i h st b hb => by
    have e : b = it := by simpa using hb
    subst e
    obtain ⟨o, e, c, d⟩ := st
    exact ⟨o, e, fun v z => by rw [d] at z; cases z⟩
  keep := fun i h h' st k => st.at fun o e => k it (by simp) o e
  item := by
    intro X hP hw hK hc i pins s σ H E I hf st hg
    subst hP hw hK
    obtain ⟨xs, x, hq, hx⟩ := hg
    obtain ⟨its, rv, p, hz⟩ := I.list hq
    obtain ⟨u, hu, ru⟩ := rv.get hx
    obtain ⟨f0, f1, f2, f3, f4, f5⟩ := hf it (by simp)
    refine wpAny_pyNext_list_item st p.isList (x := u) (by simpa using hu) fun h' st' sb => ?_
    have I1 : Inv X pins σ H { s with heap := h' } := I.turned (t' := s.toks) (fun b o hb e => (sb.2 b hb).trans e) f0 f1 f3 f4 f5
    obtain ⟨o, e, c, d⟩ := id st'
    exact ⟨u, rfl, go_of (s := { s with heap := h' }) e c d (by decide) ⟨x, H, I1, ru, ⟨rfl, fun ys hy => by rw [I.list_inj hy hq]; exact hx⟩, st', fun b hb => (hf b hb).1⟩⟩
  done := by
    intro X hP hw hK hc i pins s σ H E I hf st hg
    subst hP hw hK
    obtain ⟨xs, hq, hx⟩ := hg
    obtain ⟨its, rv, p, hz⟩ := I.list hq
    obtain ⟨f0, f1, f2, f3, f4, f5⟩ := hf it (by simp)
    have hl := rv.length
    obtain ⟨p0, ⟨hh, v1, e1, c1⟩, hp⟩ := hc
    exact pyNext_sq_end_hot (b := false) (x1 := p0.1) ⟨hh, p0.2, v1, (I.pin p0 (List.mem_append_left _ hp)).1, e1, c1⟩ (f5 p0 (List.mem_append_left _ hp)) st p.isList (by simp; omega) fun h' eb => ⟨rfl, I.turned (t' := s.toks) (fun b o hb e => eb b o hb e) f0 f1 f3 f4 f5⟩
  self := fun _ _ _ _ _ st h => wpAny_pyIter_listiter st h
theorem turn_tupleH {P : Program} {w : World} {K : PySem.W.Frag} {tg : Expr} (a it : Addr) : TurnH P w K tg (Itt K a) [it] it (fun i h => h.IsTupleIter it a i) where
  mem := by simp
  obj := fun i h st b hb => by
    have e : b = it := by simpa using hb
    subst e
    obtain ⟨o, e, c, d⟩ := st
    exact ⟨o, e, fun v z => by rw [d] at z; cases z⟩
  keep := fun i h h' st k => st.at fun o e => k it (by simp) o e
  item := by
    intro X hP hw hK hc i pins s σ H E I hf st hg
    subst hP hw hK
    obtain ⟨xs, x, hq, hx⟩ := hg
    obtain ⟨its, rv, p, hz⟩ := I.tuple hq
    obtain ⟨u, hu, ru⟩ := rv.get hx
    obtain ⟨f0, f1, f2, f3, f4, f5⟩ := hf it (by simp)
    refine wpAny_pyNext_tuple_item st (show s.heap.IsTuple a its.toArray from p) (x := u) (by simpa using hu) fun h' st' sb => ?_
    have I1 : Inv X pins σ H { s with heap := h' } := I.turned (t' := s.toks) (fun b o hb e => (sb.2 b hb).trans e) f0 f1 f3 f4 f5
    obtain ⟨o, e, c, d⟩ := id st'
    exact ⟨u, rfl, go_of (s := { s with heap := h' }) e c d (by decide) ⟨x, H, I1, ru, ⟨rfl, fun ys hy => by rw [I.tuple_inj hy hq]; exact hx⟩, st', fun b hb => (hf b hb).1⟩⟩
  done := by
    intro X hP hw hK hc i pins s σ H E I hf st hg
    subst hP hw hK
    obtain ⟨xs, hq, hx⟩ := hg
    obtain ⟨its, rv, p, hz⟩ := I.tuple hq
    obtain ⟨f0, f1, f2, f3, f4, f5⟩ := hf it (by simp)
    have hl := rv.length
    obtain ⟨p0, ⟨hh, v1, e1, c1⟩, hp⟩ := hc
    exact pyNext_sq_end_hot (b := true) (x1 := p0.1) ⟨hh, p0.2, v1, (I.pin p0 (List.mem_append_left _ hp)).1, e1, c1⟩ (f5 p0 (List.mem_append_left _ hp)) st (show s.heap.IsTuple a its.toArray from p) (by simp; omega) fun h' eb => ⟨rfl, I.turned (t' := s.toks) (fun b o hb e => eb b o hb e) f0 f1 f3 f4 f5⟩
  self := fun _ _ _ _ _ st h => wpAny_pyIter_tupleiter st h
theorem turn_zipGH {P : Program} {w : World} {K : PySem.W.Frag} {elts : List Expr} {kk : Nat} {tpos : Pos} (b1 b2 : Bool) {a b z TI TO i1 i2 : Addr} (D : ZipApart z TI TO i1 i2 a b) :
    TurnH P w K (.Tuple elts kk tpos) (Itzg K b1 b2 a b) [z, TI, TO, i1, i2] z (fun i h => IsZip h z TI TO .none ∧ IsPair h TI (.ref i1) (.ref i2) ∧ (∃ x y, IsPair h TO x y) ∧ SqIt b1 h i1 a i ∧ SqIt b2 h i2 b i) where
  mem := by simp
  obj := fun i h st c hc => by
    obtain ⟨hz, hTI, ⟨x, y, hTO⟩, h1, h2⟩ := st
    have e' : c = z ∨ c = TI ∨ c = TO ∨ c = i1 ∨ c = i2 := by simpa using hc
    rcases e' with q | q | q | q | q
    · rw [q]; exact ⟨_, hz, fun v q => nomatch q⟩
    · rw [q]; exact ⟨_, hTI, fun v q => nomatch q⟩
    · rw [q]; exact ⟨_, hTO, fun v q => nomatch q⟩
    · rw [q]
      obtain ⟨o1, _, e1, d1⟩ := h1.obj
      exact ⟨o1, e1, fun v q => by rw [d1] at q; cases q⟩
    · rw [q]
      obtain ⟨o1, _, e1, d1⟩ := h2.obj
      exact ⟨o1, e1, fun v q => by rw [d1] at q; cases q⟩
  keep := fun i h h' st k => by
    obtain ⟨hz, hTI, ⟨x, y, hTO⟩, h1, h2⟩ := st
    exact ⟨k z (by simp) _ hz, k TI (by simp) _ hTI, ⟨x, y, k TO (by simp) _ hTO⟩, h1.at_ fun o q => k i1 (by simp) o q, h2.at_ fun o q => k i2 (by simp) o q⟩
  item := by
    intro X hP hw hK hc i pins s σ H E I hf st hg
    subst hP hw hK
    obtain ⟨hz, hTI, ⟨x0, y0, hTO⟩, h1, h2⟩ := st
    obtain ⟨xs, ys, x, y, hqx, hqy, hx, hy⟩ := hg
    obtain ⟨its, rv, p, _⟩ := Inv.sqG I hqx
    obtain ⟨its2, rv2, p2, _⟩ := Inv.sqG I hqy
    obtain ⟨u, hu, ru⟩ := rv.get hx
    obtain ⟨u2, hu2, ru2⟩ := rv2.get hy
    have hzl : z < s.heap.objs.size := Heap.lt_size hz
    refine pyNext_zipG_item D hz hTI hTO h1 h2 p p2 (x := u) (y := u2) (by simpa using hu) (by simpa using hu2) fun h' z' TO' h1' h2' hT hsz hk => ?_
    refine ⟨_, rfl, wpAny_letOwnedTupleGo_zip (s := { s with heap := h' }) z' fun h'' z'' sb => ?_⟩
    have hT2 : h''.get? s.heap.objs.size = some { cls := .type "tuple", data := .seq #[u, u2] } := (sb.2 _ (Nat.ne_of_gt hzl)).trans hT
    have new : ObjOk X.prog X.w (upd H s.heap.objs.size (.tup [x, y])) h'' s.heap.objs.size (.tup [x, y]) :=
      ⟨by show 2 ≤ sizeLine; decide, [u, u2], .cons ru (.cons ru2 .nil), ⟨_, hT2, rfl, _, rfl⟩⟩
    have I1 : L2.Inv X pins σ (upd H s.heap.objs.size (.tup [x, y])) { s with heap := h'' } :=
      I.turnedNew (t' := s.toks) (ch := [z, TI, TO, i1, i2]) (fun c o hb q => (sb.2 c (fun q' => hb (by simp [q']))).trans (hk c o (fun q' => hb (by simp [q'])) (fun q' => hb (by simp [q'])) (fun q' => hb (by simp [q'])) (fun q' => hb (by simp [q'])) q)) hf (Nat.le_refl _) new
    refine ⟨.ref s.heap.objs.size, _, I1, rfl, ⟨_, x, y, rfl, I.hok.fresh (Nat.le_refl _), rfl, fun l hl => by rw [Inv.sqG_inj I hl hqx]; exact hx, fun l hl => by rw [Inv.sqG_inj I hl hqy]; exact hy⟩, ⟨z'', ?_, ⟨u, u2, ?_⟩, ?_, ?_⟩, fun c hcm => ?_⟩
    · exact (sb.2 _ D.TIz).trans (hk _ _ D.TIz D.TITO D.TIi1 D.TIi2 hTI)
    · exact (sb.2 _ D.TOz).trans TO'
    · exact h1'.at_ fun o q => (sb.2 _ D.i1z).trans q
    · exact h2'.at_ fun o q => (sb.2 _ D.i2z).trans q
    · have hlt : c < s.heap.objs.size := by
        have e' : c = z ∨ c = TI ∨ c = TO ∨ c = i1 ∨ c = i2 := by simpa using hcm
        rcases e' with q | q | q | q | q
        · rw [q]; exact hzl
        · rw [q]; exact Heap.lt_size hTI
        · rw [q]; exact Heap.lt_size hTO
        · rw [q]; exact h1.lt
        · rw [q]; exact h2.lt
      rw [upd_ne (Nat.ne_of_lt hlt)]
      exact (hf c hcm).1
  done := by
    intro X hP hw hK hc i pins s σ H E I hf st hg
    subst hP hw hK
    obtain ⟨hz, hTI, ⟨x0, y0, hTO⟩, h1, h2⟩ := st
    obtain ⟨xs, ys, hqx, hqy, hend⟩ := hg
    obtain ⟨its, rv, p, _⟩ := Inv.sqG I hqx
    obtain ⟨its2, rv2, p2, _⟩ := Inv.sqG I hqy
    have l1 := rv.length
    have l2 := rv2.length
    have he : its.toArray[i]? = none ∨ its2.toArray[i]? = none := by
      rcases hend with q | q
      · exact .inl (by simp; omega)
      · exact .inr (by simp; omega)
    obtain ⟨p0, ⟨hh, v1, e1, c1⟩, hp⟩ := hc
    have nb : ∀ b, b ∈ [z, TI, TO, i1, i2] → p0.1 ≠ b := fun b hb => (hf b hb).2.2.2.2.2 p0 (List.mem_append_left _ hp)
    exact pyNext_zipG_endH (x1 := p0.1) ⟨hh, p0.2, v1, (I.pin p0 (List.mem_append_left _ hp)).1, e1, c1⟩ (nb z (by simp)) (nb TO (by simp)) (nb i1 (by simp)) (nb i2 (by simp)) D hz hTI hTO h1 h2 p p2 he fun h' hk => ⟨rfl, I.turnedL (t' := s.toks) (ch := [z, TI, TO, i1, i2]) (fun c o hb q =>
      hk c o (fun q' => hb (by simp [q'])) (fun q' => hb (by simp [q'])) (fun q' => hb (by simp [q'])) (fun q' => hb (by simp [q'])) q) hf⟩
  self := fun A i s Q E st h => wpAny_pyIter_zip st.1 h
theorem pi_seqGH {X : Cx} {tg l : Expr} {tl : TE} (hl : PE X l tl) : PIH X tg l (iSeqG X.K tl) := by
  refine ⟨fun pins s σ H R I h => ?_⟩
  refine thn (hl.run pins s σ H _ I h) fun v s1 ⟨x, H1, I1, r1, q1⟩ => ?_
  obtain ⟨a, b, xs, e, hq, q⟩ := q1
  subst e
  cases r1
  have fp : ∀ c ∈ [s1.heap.objs.size], FpOk X pins H1 c := fun c hc => by
    have e : c = s1.heap.objs.size := by simpa using hc
    subst e
    exact I1.fpOk (Nat.le_refl _) (I1.hok.fresh (Nat.le_refl _))
  cases b with
  | true =>
    obtain ⟨its, rv, p, hz⟩ := I1.tuple hq
    refine wpAny_pyIter_tuple (show s1.heap.IsTuple a its.toArray from p) ?_
    exact ⟨s1.heap.objs.size, [s1.heap.objs.size], _, _, H1, rfl, I1.kept (t' := s1.toks) fun b o e => Heap.get?_push_of_some _ e, turn_tupleH a _, ⟨_, Heap.get?_push_size _ rfl, rfl, rfl⟩, fp, q⟩
  | false =>
    obtain ⟨its, rv, p, hz⟩ := I1.list hq
    refine wpAny_pyIter_list p.isList ?_
    exact ⟨s1.heap.objs.size, [s1.heap.objs.size], _, _, H1, rfl, I1.kept (t' := s1.toks) fun b o e => Heap.get?_push_of_some _ e, turn_listH a _, ⟨_, Heap.get?_push_size _ rfl, rfl, rfl⟩, fp, q⟩
theorem pi_zipGH {X : Cx} {e e2 : Expr} {ta : TA} {p pos tpos : Pos} {elts : List Expr} {kk : Nat} (hg : Gl X "zip") (hm : X.mg "zip" = none) (ha : PA X [e, e2] ta)
    (hs : starEach [e, e2] X.env = (false, eval e X.env) :: starEach [e2] X.env := by rfl) (hpl : (backTo pos (starEach [e2] X.env)).any (·.1) = false := by rfl) :
    PIH X (.Tuple elts kk tpos) (.Call (.Name "zip" p) [e, e2] [] pos) (iZipG X.K ta) := by
  refine ⟨fun pins s σ H R I h => ?_⟩
  refine Call_ (ld_blt I hg hm PyProof.Rows.boot_zip (PyProof.Rows.callWith_type1 (thn (ha.run pos pins s σ H _ I h) fun us s1 ⟨vs, H1, I1, r1, q1⟩ => ?_) hs hpl))
  obtain ⟨a, b, b1, b2, xs, ys, ex, hqx, hqy, q⟩ := q1
  subst ex
  obtain ⟨u1, u2, rfl, ra, rb⟩ := r1.two
  cases (show u1 = Value.ref a from ra)
  cases (show u2 = Value.ref b from rb)
  have fresh5 : ∀ c, c ∈ [s1.heap.objs.size + 4, s1.heap.objs.size + 2, s1.heap.objs.size + 3, s1.heap.objs.size, s1.heap.objs.size + 1] → FpOk X pins H1 c := fun c hcm => by
    have hle : s1.heap.objs.size ≤ c := by
      simp only [List.mem_cons, List.mem_singleton, List.not_mem_nil, or_false] at hcm
      omega
    exact I1.fpOk hle (I1.hok.fresh hle)
  obtain ⟨its, rv, p1, l1⟩ := Inv.sqG I1 hqx
  obtain ⟨its2, rv2, p2, l2⟩ := Inv.sqG I1 hqy
  refine call_zipG p1 p2 fun h' hz hTI hTO h1 h2 hsz hk => wpAny_pyIter_zip hz ?_
  have I2 : L2.Inv X pins σ H1 { s1 with heap := h' } := I1.kept (t' := s1.toks) hk
  exact ⟨s1.heap.objs.size + 4, [s1.heap.objs.size + 4, s1.heap.objs.size + 2, s1.heap.objs.size + 3, s1.heap.objs.size, s1.heap.objs.size + 1], _, _, H1, rfl, I2, turn_zipGH b1 b2 (PySem.W.ktu_apart s1.heap.objs.size a b l1 l2), ⟨hz, hTI, ⟨_, _, hTO⟩, h1, h2⟩, fresh5, q⟩
section
variable {X : Cx} {tg iter : Expr}
theorem pihI {w1 w2 : TI} (h : PIH X tg iter w1) (k : ∀ σ H R, w2 σ H R → w1 σ H R) : PIH X tg iter w2 := ⟨fun pins s σ H R I q => h.run pins s σ H R I (k σ H R q)⟩
end
section
variable {X : Cx} {G : Gam} {n0 : Nat} {g : Gh} {F : Hp} {r : List Addr} {env : Env} {σ : L2.St} {S : Store} {H : Hp}
variable {tg e e2 : Expr} {fe fe2 : SE} {p pos tpos : Pos} {elts : List Expr} {kk : Nat}
theorem si_seqHH (hK : G.K = X.K) (he : PE X e (rdE G n0 fe)) : PIH X tg e (rdI G n0 (iSeq fe)) := by
  refine pihI (pi_seqGH (toV he)) fun σ H T ⟨F, r, env, S, g, s, h⟩ => ?_
  refine stV s cnI h fun p S1 F1 r1 H1 u x1 s1 q1 h1 => ?_
  cases el : lockS p.2 S1 with
  | none => rw [el] at h1; exact h1.elim
  | some z =>
    obtain ⟨xs, ls, S2⟩ := z
    rw [el] at h1
    obtain ⟨g', b, a, us, rfl, hd⟩ := lock_ok s1.hr q1 el
    refine ⟨a, b, us, rfl, hK ▸ hd.sq g' (.refl g') F1 r1 S2 H1 hd.hr (.refl _ _), h1 F1 r1 H1 _ g' x1 ⟨hd.hr, s1.sl, s1.vr⟩ (fun g2 hg2 F2 r2 S3 H2 h2 x2 => ?_) hd.pn hd.un⟩
    have sq := hd.sq g2 hg2 F2 r2 S3 H2 h2 x2
    rw [← hK]
    cases b with
    | true =>
      refine ⟨fun i x ex => ?_, fun i hi => ⟨us, sq, by rw [← RVs.length hd.rv]; exact hi⟩⟩
      obtain ⟨y, e1, q2⟩ := RVs.get hd.rv ex
      refine ⟨⟨us, y, sq, e1⟩, fun v H3 hy => ?_⟩
      obtain ⟨rfl, hv⟩ := hy
      have := hv us sq
      rw [e1] at this
      cases this
      exact ⟨F2, .refl _ _, h2, q2.ext x2⟩
    | false =>
      refine ⟨fun i x ex => ?_, fun i hi => ⟨us, sq, by rw [← RVs.length hd.rv]; exact hi⟩⟩
      obtain ⟨y, e1, q2⟩ := RVs.get hd.rv ex
      refine ⟨⟨us, y, sq, e1⟩, fun v H3 hy => ?_⟩
      obtain ⟨rfl, hv⟩ := hy
      have := hv us sq
      rw [e1] at this
      cases this
      exact ⟨F2, .refl _ _, h2, q2.ext x2⟩
theorem si_zipHH (hK : G.K = X.K) (hg : Gl X "zip") (hm : X.mg "zip" = none) (he : PE X e (rdE G n0 fe)) (he2 : PE X e2 (rdE G n0 fe2)) (hs : starEach [e, e2] X.env = (false, eval e X.env) :: starEach [e2] X.env := by rfl) (hs2 : starEach [e2] X.env = (false, eval e2 X.env) :: starEach [] X.env := by rfl)
    (hpl : (backTo pos (starEach [e2] X.env)).any (·.1) = false := by rfl) :
    PIH X (.Tuple elts kk tpos) (.Call (.Name "zip" p) [e, e2] [] pos) (rdI G n0 (iZip fe fe2)) := by
  refine pihI (pi_zipGH hg hm (pa_cons (toV he) (pa_cons (toV he2) pa_nil hs2) hs) hs hpl) fun σ H T ⟨F, r, env, S, g, s, h⟩ => ?_
  refine stV s cnI h fun p S1 F1 r1 H1 u x1 s1 q1 h1 => ?_
  refine stV s1 cnI h1 fun q S2 F2 r2 H2 w x2 s2 q2 h2 => ?_
  cases el : lockS p.2 S2 with
  | none => rw [el] at h2; exact h2.elim
  | some z =>
    obtain ⟨xs, ls, S3⟩ := z
    simp only [el] at h2
    cases el2 : lockS q.2 S3 with
    | none => rw [el2] at h2; exact h2.elim
    | some z2 =>
      obtain ⟨ys, ls2, S4⟩ := z2
      simp only [el2] at h2
      obtain ⟨g1, b1, a1, us1, rfl, hd1⟩ := lock_ok s2.hr (q1.ext x2) el
      obtain ⟨g2, b2, a2, us2, rfl, hd2⟩ := lock_ok hd1.hr q2 el2
      have hpn : GhPin g g2 := fun a o e l => hd2.pn a o (hd1.pn a o e l).1 (hd1.pn a o e l).2
      have hun : ∀ rp, g.has rp → ∀ F5 r5 S5 H5, HR G n0 (g2.rep rp) F5 r5 S5 H5 → Ext F2 F5 r2 r5 → HR G n0 (g.rep rp) F5 r5 (unlock (ls2 ++ ls) S5) H5 := fun rp hrp F5 r5 S5 H5 h5 x5 => by
        have e : ∀ (l1 l2 : List (Nat × PV)) (S : Store), unlock (l1 ++ l2) S = unlock l2 (unlock l1 S) := by
          intro l1
          induction l1 with
          | nil => intro l2 S; rfl
          | cons c l1 ih => intro l2 S; exact ih l2 _
        rw [e]
        exact hd1.un rp hrp F5 r5 _ H5 (hd2.un rp (hd1.pn.has hrp) F5 r5 S5 H5 h5 x5) x5
      refine ⟨a1, a2, b1, b2, us1, us2, rfl, hK ▸ hd1.sq g2 hd2.le F2 r2 S4 H2 hd2.hr (.refl _ _), hK ▸ hd2.sq g2 (.refl g2) F2 r2 S4 H2 hd2.hr (.refl _ _), h2 F2 r2 H2 _ g2 (x1.trans x2) ⟨hd2.hr, s2.sl, s2.vr⟩ (fun g5 hg5 F5 r5 S5 H5 h5 x5 => ?_) hpn hun⟩
      have s1' := hd1.sq g5 (hd2.le.trans hg5) F5 r5 S5 H5 h5 x5
      have s2' := hd2.sq g5 hg5 F5 r5 S5 H5 h5 x5
      rw [← hK]
      refine ⟨fun i x ex => ?_, fun i hi => ⟨us1, us2, s1', s2', by rw [← RVs.length hd1.rv, ← RVs.length hd2.rv]; exact zipL_len xs ys i hi⟩⟩
      obtain ⟨x', y', ex', ey', rfl⟩ := zipL_get ex
      obtain ⟨u1, e1, k1⟩ := RVs.get hd1.rv ex'
      obtain ⟨u2, e2, k2⟩ := RVs.get hd2.rv ey'
      refine ⟨⟨us1, us2, u1, u2, s1', s2', e1, e2⟩, fun v H3 hy => ?_⟩
      obtain ⟨T', y1, y2, rfl, hT, rfl, hv1, hv2⟩ := hy
      have := hv1 us1 s1'
      rw [e1] at this
      cases this
      have := hv2 us2 s2'
      rw [e2] at this
      cases this
      exact new_tup (xs := [x', y']) (us := [u1, u2]) h5 hT ⟨_, _, rfl, k1.ext x5, _, [], rfl, k2.ext x5, rfl⟩
end
end PX
set_option Elab.async false
set_option linter.all false
set_option maxRecDepth 100000
set_option maxHeartbeats 2000000
namespace PX
open PySem PySem.Spec PyProof.Rows L2 ZG RZ HotX L2H
abbrev blkH (X : Cx) (s : Shared) (H : Hp) (scope : Scope) (cenv : PySem.Env) (fp : List Addr) : Cx := { X with s_0 := s, H_0 := H, env := cenv, outer := X.stack, ex := fp, fn := fun x => scope.names.lookup x == some .cell, xe := fun _ _ => False }
theorem hotB {X : Cx} {s : Shared} {H : Hp} {scope : Scope} {cenv : PySem.Env} {fp : List Addr} (hc : HotC X) : HotC (blkH X s H scope cenv fp) := hc
theorem notFrs {X : Cx} {a : Addr} (ok : X.Ok) (h1 : a ≠ X.env.locals) (h2 : a ∉ X.fs) : a ∉ frs X.stack := by
  rcases ok.stk with e | ⟨e, ef⟩
  · rw [e]; exact h2
  · rw [e]
    intro hm
    have hm : a ∈ ((X.env :: X.outer).filterMap (·.frame)) := hm
    rw [List.filterMap_cons, ef] at hm
    rcases List.mem_cons.mp hm with h | h
    · exact h1 h
    · exact h2 h
theorem blkH_of {X : Cx} {s s' : Shared} {H H' : Hp} {scope : Scope} {cenv : PySem.Env} {fp : List Addr} {σ : L2.St} (I : Inv (X.blk s H scope cenv fp) [] σ H' s')
    (h : ∀ p ∈ X.pn, s'.heap.get? p.1 = some p.2 ∧ H' p.1 = none ∧ p.1 ≠ cenv.locals ∧ p.1 ∉ frs X.stack ∧ ∀ v, p.2.data ≠ .cell v) : Inv (blkH X s H scope cenv fp) [] σ H' s' := by
  obtain ⟨⟨a1, a2, a3, a4, a5, a6, a7, a8, a9, a10, a11, a12, a13, a14, a15, a16, a17, a18⟩, b2, b3, b4, b5, b6, b7, b8, b9, b10, b11⟩ := I
  exact ⟨⟨a1, a2, a3, a4, a5, a6, a7, a8, a9, a10, a11, a12, a13, a14, a15, a16, a17, a18⟩, b2, b3, b4, b5, b6, b7, b8, fun p hp => h p (by rw [← List.append_nil X.pn]; exact hp), b10, b11⟩
section
variable {X : Cx}
theorem lc_coreH {pins : List (Addr × Obj)} {s : Shared} {σ : L2.St} {H : Hp} {Q : VK} {elt tg iter : Expr} {ifs : List Expr} {scope : Scope} {own : List (Str × Nat)} {pos pos' : Pos} {wi : TI} {g : TG} {tt : TT} {te : TE} {use : Option (Value → Sem Unit)} {Qf : Value → Shared → Prop}
    (hc : HotC X) (hN : X.N.Nodup) (I : L2.Inv X pins σ H s) (hi : PIH X tg iter wi) (ok : BlkOk X.N X.env.scope scope own)
    (hg : ∀ (s : Shared) (H : Hp) (C : Addr) (cl : List (Str × Addr)) (fp : List Addr), PG (blkH X s H scope (compEnvC scope cl C X.env) fp) tg g) (ht : ∀ (s : Shared) (H : Hp) (C : Addr) (cl : List (Str × Addr)) (fp : List Addr), PTs (blkH X s H scope (compEnvC scope cl C X.env) fp) ifs tt)
    (he : ∀ (s : Shared) (H : Hp) (C : Addr) (cl : List (Str × Addr)) (fp : List Addr), PE (blkH X s H scope (compEnvC scope cl C X.env) fp) elt te) (hs : ∀ x, foldedSetIterable iter X.env x = pure x)
    (h : tLc wi g tt te (own.map (·.2)) σ H Q)
    (hRR : ∀ D C s' m H', L2.Inv X pins σ H' s' → Q (.ref D) H' → s'.heap.Ns C m → FpOk X pins H' C → compPost (model X.prog X.w) X.A X.xe use Qf (.ref D) C (.ok .next) s') :
    wpAny (model X.prog X.w) X.A (comprehension (.ListComp elt [⟨tg, iter, ifs, 0⟩] scope pos) scope X.env pos' (newList []) false (eval iter X.env) use) Qf X.xe s := by
  have hfree : ∀ y ∈ scope.names, y.2 = .free → ∃ c, X.env.cells.lookup y.1 = some c := fun y hy e => by
    rcases ok.free y hy e with k | k
    · exact I.ok.has _ (.inl k)
    · exact I.ok.has _ (.inr k)
  refine wpAny_comprehension_free (use := use) rfl hs (closure_ok hfree) ok.kind (fun y hy e => by rw [ok.uniq y hy, e])
    (thn (hi.run pins s σ H _ I h) fun xv s1 hx => thn hx fun itv s2 h2 => ?_)
  obtain ⟨it, fp, tn, J, H2, e, I2, T, st2, f2, q⟩ := h2
  subst e
  refine wpAny_newObj_type (newEnv_comp ?_) (by show 0 ≤ sizeLine; decide)
  generalize hD : s2.heap.objs.size = D
  have hDn : H2 D = none := I2.hok.fresh (Nat.le_of_eq hD)
  obtain ⟨W, ⟨m0, w0⟩, turn⟩ := q D hDn
  -- the new list
  generalize hs3 : ({ s2 with heap := s2.heap.push { cls := .type "list", data := .seq ([] : List Value).toArray } } : Shared) = s3
  have I3 : L2.Inv X pins σ (upd H2 D (.lst [])) s3 := by
    rw [← hs3]
    refine I2.laid (t' := s2.toks) (fun b o e => Heap.get?_push_of_some _ e) (Nat.le_of_eq hD) ⟨Nat.zero_le _, [], 0, .nil, ?_⟩
    rw [← hD]
    exact Heap.get?_push_size _ rfl
  have h3 : s3.heap = s2.heap.push { cls := .type "list", data := .seq ([] : List Value).toArray } := by rw [← hs3]
  have sz : ∀ b ∈ fp, b < s2.heap.objs.size := fun b hb => by
    obtain ⟨o, e, _⟩ := T.obj _ _ st2 b hb
    exact Heap.lt_size e
  have f3 : ∀ b ∈ fp, FpOk X pins (upd H2 D (.lst [])) b ∧ b < s3.heap.objs.size := fun b hb => by
    have hlt := sz b hb
    refine ⟨⟨?_, (f2 b hb).2⟩, by rw [h3, Heap.size_push]; exact Nat.lt_succ_of_lt hlt⟩
    rw [upd_ne (by rw [← hD]; exact Nat.ne_of_lt hlt)]
    exact (f2 b hb).1
  have st3 : tn 0 s3.heap := T.keep _ _ _ st2 fun b _ o e => by rw [h3]; exact Heap.get?_push_of_some _ e
  have I4 := blkH_of (block_start I3 ok hN f3) (fun p hp => by
    obtain ⟨q1, q2, q3, q4, q5⟩ := I3.pin p (List.mem_append_left _ hp)
    exact ⟨pushCells_keeps _ _ _ _ (Heap.get?_push_of_some _ q1), q2, Nat.ne_of_lt (Heap.lt_size q1), notFrs I3.ok q3 q4, q5⟩)
  have pg := hg s3 (upd H2 D (.lst [])) s3.heap.objs.size (cellsFrom (s3.heap.objs.size + 1) scope.names (cloFrom X.env.cells scope.names [])) fp
  have pt := ht s3 (upd H2 D (.lst [])) s3.heap.objs.size (cellsFrom (s3.heap.objs.size + 1) scope.names (cloFrom X.env.cells scope.names [])) fp
  have pe := he s3 (upd H2 D (.lst [])) s3.heap.objs.size (cellsFrom (s3.heap.objs.size + 1) scope.names (cloFrom X.env.cells scope.names [])) fp
  show codeAny _ _ (.compStart (.ListComp elt [⟨tg, iter, ifs, 0⟩] scope pos) 0 (.ref it) (.ref D) (compEnvC scope (cellsFrom (s3.heap.objs.size + 1) scope.names (cloFrom X.env.cells scope.names [])) s3.heap.objs.size X.env)) (compPost (model X.prog X.w) X.A X.xe use Qf (.ref D) s3.heap.objs.size) { s3 with heap := pushCells (s3.heap.push { cls := .type "dict", data := .dict #[] }) scope.names }
  have nfp : ∀ b ∈ fp, (upd H2 D (.lst [])) b = none := fun b hb => (f3 b hb).1.1
  generalize hce : compEnvC scope (cellsFrom (s3.heap.objs.size + 1) scope.names (cloFrom X.env.cells scope.names [])) s3.heap.objs.size X.env = ce at I4 pg pt pe ⊢
  have cL : ce.locals = s3.heap.objs.size := by subst hce; rfl
  generalize hH3 : upd H2 D (.lst []) = H3 at I3 I4 pg pt pe w0 nfp f3
  generalize hs4 : ({ s3 with heap := pushCells (s3.heap.push { cls := .type "dict", data := .dict #[] }) scope.names } : Shared) = s4 at I4 ⊢
  have st4 : tn 0 s4.heap := T.keep _ _ _ st3 fun b _ o e => by rw [← hs4]; exact pushCells_keeps _ _ _ _ (Heap.get?_push_of_some _ e)
  have stat : ∀ {σ' : L2.St} {H' : Hp} {s' : Shared}, L2.Inv (blkH X s3 H3 scope ce fp) [] σ' H' s' → (∀ b ∈ fp, H' b = none) → ∀ b ∈ fp, FpOk (blkH X s3 H3 scope ce fp) [] H' b := fun {σ' H' s'} I' hn b hb =>
    ⟨hn b hb, (I'.ok.exf b hb).1, I'.ok.exfs b hb, .inl hb, fun x c e => (I'.ok.exf b hb).2 x c e, fun p hp => (f2 b hb).2.2.2.2.2 p (List.mem_append_left _ (by simpa using hp))⟩
  have loop : codeAny (model X.prog X.w) X.A (.compLoop (.ListComp elt [⟨tg, iter, ifs, 0⟩] scope pos) 0 (.ref it) (.ref D) ce) (compPost (model X.prog X.w) X.A X.xe use Qf (.ref D) s3.heap.objs.size) s4 := by
    refine compLoop_any (fun n s' => ∃ i H', L2.Inv (blkH X s3 H3 scope ce fp) [] (wipe σ (own.map (·.2))) H' s' ∧ tn i s'.heap ∧ (∀ b ∈ fp, H' b = none) ∧ W i n H') ?_ m0 ⟨0, H3, I4, st4, nfp, w0⟩
    rintro n s5 ⟨i, H5, I5, st5, n5, w5⟩
    rcases turn i n H5 w5 with ⟨stop, qq⟩ | ⟨go, Nx, hNx, step⟩
    · have td := T.done (blkH X s3 H3 scope ce fp) rfl rfl rfl (hotB hc) i [] s5 _ H5 (fun _ _ => False) I5 (stat I5 n5) st5 stop
      refine thnF td fun r s6 ⟨hr, I6⟩ => ?_
      subst hr
      -- back in the def's context
      have I7 : L2.Inv X pins σ H5 s6 := I3.call' (ch := fp) I6.os I6.base I6.hok I6.bare fun b hb => ⟨(f3 b hb).1.2.2.2.1, (f3 b hb).1.2.1, (f3 b hb).1.2.2.2.2.1, (f3 b hb).1.2.2.2.2.2⟩
      have nC : H5 s3.heap.objs.size = none := by
        have z : H5 ce.locals = none := I6.free
        rw [cL] at z
        exact z
      obtain ⟨m, hn, _⟩ := I6.loc
      have hn : s6.heap.Ns ce.locals m := hn
      rw [cL] at hn
      exact hRR D s3.heap.objs.size s6 m H5 I7 qq hn (I3.fpOk (Nat.le_refl _) nC)
    · have ti := T.item (blkH X s3 H3 scope ce fp) rfl rfl rfl (hotB hc) i [] s5 _ H5 (fun _ _ => False) I5 (stat I5 n5) st5 go
      refine thnF ti fun r s6 ⟨u, hr, h6⟩ => ?_
      subst hr
      refine thnF h6 fun _ s7 ⟨x, H7, I7, r7, y7, st7, n7⟩ => ?_
      have I7' := I7.pinned (stat I7 n7) (T.obj _ _ st7)
      refine thnF (pg.run _ s7 _ H7 x u _ I7' r7 (step x H7 y7)) fun _ s8 ⟨σ8, H8, I8, hw8, q8⟩ => ?_
      refine thnF (pt.run _ s8 σ8 H8 _ I8 q8) fun b s9 ⟨H9, I9, q9⟩ => ?_
      -- the turn's end
      have fin : ∀ {s' : Shared} {H' : Hp}, L2.Inv (blkH X s3 H3 scope ce fp) ([] ++ pinsAt fp s7.heap) σ8 H' s' → Nx H' → ∃ m, m < n ∧ ∃ i H', L2.Inv (blkH X s3 H3 scope ce fp) [] (wipe σ (own.map (·.2))) H' s' ∧ tn i s'.heap ∧ (∀ b ∈ fp, H' b = none) ∧ W i m H' := fun {s' H'} I' nx => by
        obtain ⟨m', hm, w'⟩ := hNx H' nx
        have pin' : ∀ b ∈ fp, ∀ o, s7.heap.get? b = some o → s'.heap.get? b = some o ∧ H' b = none := fun b hb o e =>
          let z := I'.pin (b, o) (List.mem_append_right _ (List.mem_append_right _ (mem_pinsAt hb e)))
          ⟨z.1, z.2.1⟩
        have hl : (wipe σ (own.map (·.2))).length = σ8.length := by rw [← hw8, wipe_length]
        refine ⟨m', hm, i + 1, H', (I'.unpinned (pins := [])).weak hl (fun j v e => ?_), T.keep _ _ _ st7 fun b hb o e => (pin' b hb o e).1, fun b hb => ?_, w'⟩
        · rw [← hw8] at e
          exact (wipe_some e).1
        · obtain ⟨o, e, _⟩ := T.obj _ _ st7 b hb
          exact (pin' b hb o e).2
      cases b with
      | false =>
        simp only [Bool.false_eq_true, if_false] at q9 ⊢
        exact fin I9 q9
      | true =>
        simp only [if_true] at q9 ⊢
        refine thnF (pe.run _ s9 σ8 H9 _ I9 q9) fun z s10 ⟨yv, H10, I10, r10, acc, hD10, hz10, nx⟩ => ?_
        exact app_ok (X := blkH X s3 H3 scope ce fp) I10 hD10 hz10 r10 fun s11 I11 => fin I11 nx
  exact codeAny_compStart_list loop (T.self X.A 0 _ _ _ st4 loop)
theorem pe_lcH {elt tg iter : Expr} {ifs : List Expr} {scope : Scope} {own : List (Str × Nat)} {pos : Pos} {wi : TI} {g : TG} {tt : TT} {te : TE} (hc : HotC X) (hN : X.N.Nodup) (hi : PIH X tg iter wi) (ok : BlkOk X.N X.env.scope scope own)
    (hg : ∀ (s : Shared) (H : Hp) (C : Addr) (cl : List (Str × Addr)) (fp : List Addr), PG (blkH X s H scope (compEnvC scope cl C X.env) fp) tg g) (ht : ∀ (s : Shared) (H : Hp) (C : Addr) (cl : List (Str × Addr)) (fp : List Addr), PTs (blkH X s H scope (compEnvC scope cl C X.env) fp) ifs tt)
    (he : ∀ (s : Shared) (H : Hp) (C : Addr) (cl : List (Str × Addr)) (fp : List Addr), PE (blkH X s H scope (compEnvC scope cl C X.env) fp) elt te) (hs : ∀ x, foldedSetIterable iter X.env x = pure x := by intro _; rfl) :
    PE X (.ListComp elt [⟨tg, iter, ifs, 0⟩] scope pos) (tLc wi g tt te (own.map (·.2))) := by
  refine ⟨fun pins s σ H Q I h => ?_⟩
  rw [eval_ListComp]
  refine lc_coreH hc hN I hi ok hg ht he hs h fun D C s' m H' I' q hn f => ⟨m, hn, fun h'' sb => ?_⟩
  obtain ⟨f0, f1, f2, f3, f4, f5⟩ := f
  exact ⟨.ref D, H', I'.turned (t' := s'.toks) (fun b o hb e => (sb.2 b hb).trans e) f0 f1 f3 f4 f5, rfl, q⟩
end
section
variable {X : Cx} {G : Gam} {n0 : Nat}
theorem se_lcH {elt tg iter : Expr} {ifs : List Expr} {scope : Scope} {own : List (Str × Nat)} {pos : Pos} {fi : SI} {t : Tg} {gg : TG} {c : ST} {fe : SE} (hc : HotC X) (hN : X.N.Nodup) (hi : PIH X tg iter (rdI G n0 fi)) (ok : BlkOk X.N X.env.scope scope own) (ht : TgB G (own.map (·.2)) t gg)
    (hg : ∀ (s : Shared) (H : Hp) (C : Addr) (cl : List (Str × Addr)) (fp : List Addr), PG (blkH X s H scope (compEnvC scope cl C X.env) fp) tg gg)
    (hts : ∀ (s : Shared) (H : Hp) (C : Addr) (cl : List (Str × Addr)) (fp : List Addr), PTs (blkH X s H scope (compEnvC scope cl C X.env) fp) ifs (rdT G n0 c))
    (he : ∀ (s : Shared) (H : Hp) (C : Addr) (cl : List (Str × Addr)) (fp : List Addr), PE (blkH X s H scope (compEnvC scope cl C X.env) fp) elt (rdE G n0 fe)) (hs : ∀ x, foldedSetIterable iter X.env x = pure x := by intro _; rfl) :
    PE X (.ListComp elt [⟨tg, iter, ifs, 0⟩] scope pos) (rdE G n0 (eLc fi t (own.map (·.2)) c fe)) :=
  se_of (pe_lcH hc hN hi ok hg hts (fun s H C cl fp => toV (he s H C cl fp)) hs) (lc_core' ht)
end
end PX
set_option Elab.async false
set_option linter.all false
set_option maxRecDepth 100000
set_option maxHeartbeats 2000000
namespace PX
open PySem PySem.Spec PyProof.Rows L2 ZG RZ HotX L2H
section
variable {prog : Program} {w : World} {A : Around} {E : Value → Shared → Prop} {s : Shared}
theorem unpackItems_tupleH {t : Addr} {items : Array Value} {Q : List Value → Shared → Prop} {x1 : Addr} (hot : HotAt A x1 s.heap) (ht : IsTup s.heap t items)
    (hQ : ∀ h', Heap.ExtBut s.heap.objs.size s.heap h' → Q items.toList { s with heap := h' }) : wpAny (model prog w) A (unpackItems (.ref t) items.size none) Q E s := by
  have hx1 : x1 ≠ s.heap.objs.size := by obtain ⟨_, o, vs, e, _⟩ := id hot; exact Nat.ne_of_lt (Heap.lt_size e)
  have hlt : t ≠ s.heap.objs.size := by obtain ⟨o, ho, _⟩ := ht; exact Nat.ne_of_lt (Heap.lt_size ho)
  unfold unpackItems
  refine wpAny_bind ?_
  · unfold notIterableAtAll
    refine wpAny_bind (wpAny_specialOf ht.typeIs slot_tuple_iter.lookup ?_)
    refine wpAny_pure ?_
    simp only [Bool.false_eq_true, if_false]
    refine wpAny_bind (wpAny_holding (iter_tuple ht ?_))
    refine wpAny_bind (wpAny_holding (draw_tuple hlt items.size 0 _ _ ⟨_, Heap.get?_push_size _ rfl, rfl, rfl⟩ (ht.push _) (by omega) fun h₁ hit₁ hs₁ => ?_))
    have hall : List.take items.size (List.drop 0 items.toList) = items.toList := by
      rw [List.drop_zero]; exact List.take_of_length_le (by simp)
    rw [hall]
    rw [if_neg (by simp)]
    have ht₁ : IsTup h₁ t items := (ht.push _).extBut hs₁.extBut hlt
    refine wpAny_bind (wpAny_holding (pyNext_sq_end_hot (b := true) (l := t) (i := 0 + items.size) (items := items) (hotAt_keep hot fun o e => hs₁.extBut _ _ hx1 (Heap.get?_push_of_some _ e)) hx1 hit₁ ht₁ (by simp) fun h₂ he₂ => ?_))
    simp only [Option.isSome_none, Bool.false_eq_true, if_false]
    refine wpAny_pure (hQ h₂ fun b o hb e => he₂ b o hb (hs₁.extBut b o hb (Heap.get?_push_of_some _ e)))
theorem unpack_tupleH {t : Addr} {items : Array Value} {targets : List (Bool × (Value → Sem Unit))} {Q : Unit → Shared → Prop} {x1 : Addr} (hot : HotAt A x1 s.heap) (ht : IsTup s.heap t items)
    (hn : targets.length = items.size) (hstar : targets.findIdx? (·.1) = none)
    (h : ∀ h', Heap.ExtBut s.heap.objs.size s.heap h' → wpAny (model prog w) A (assignInOrder (targets.map (·.2)) items.toList) Q E { s with heap := h' }) :
    wpAny (model prog w) A (unpack (.ref t) targets) Q E s := by
  unfold unpack
  rw [hn, hstar]
  exact wpAny_bind (wpAny_holding (unpackItems_tupleH hot ht h))
theorem assign_Tuple_tupleH {env : PySem.Env} {elts : List Expr} {kk} {pos : Pos} {t : Addr} {items : Array Value} {Q : Unit → Shared → Prop} {x1 : Addr} (hot : HotAt A x1 s.heap) (ht : IsTup s.heap t items)
    (hn : (assignEach elts env).length = items.size) (hstar : (assignEach elts env).findIdx? (·.1) = none)
    (h : ∀ h', Heap.ExtBut s.heap.objs.size s.heap h' → wpAny (model prog w) A (assignInOrder ((assignEach elts env).map (·.2)) items.toList) Q E { s with heap := h' }) :
    wpAny (model prog w) A (assign (.Tuple elts kk pos) env (.ref t)) Q E s := by
  rw [assign_Tuple]
  exact wpAny_bind (wpAny_standAt (unpack_tupleH hot ht hn hstar h))
theorem walks_listH {x1 : Addr} {o1 : Obj} {vs1 : Array Value} (hh : A.handled = some (.ref x1)) (d1 : o1.data = .fields vs1) (c1 : vs1[2]? = some .none) (I ax : Addr) (hne : ax ≠ I) (hx : x1 ≠ I) (items : Array Value) :
    Walks prog w A I [I, ax, x1] [I] items.size (fun i v => items[i]? = some v) (fun i h => (h.IsListIter I ax i ∧ h.IsList ax items) ∧ h.get? x1 = some o1) where
  sub := fun b hb => by simp at hb; simp [hb]
  frame := fun _ _ _ st hk => ⟨⟨st.1.1.at fun o e => hk I (by simp) o e, st.1.2.at fun o e => hk ax (by simp) o e⟩, hk x1 (by simp) _ st.2⟩
  item := fun i s Q E hi st hQ => by
    refine wpAny_pyNext_list_item st.1.1 st.1.2 (x := items[i]) (by simp [hi]) fun h' hit' hs' => ?_
    exact hQ _ h' s.toks (by simp [hi]) ⟨⟨hit', st.1.2.extBut hs'.extBut hne⟩, hs'.extBut _ _ hx st.2⟩ fun b o hb e => hs'.extBut b o (fun h => hb (by simp [h])) e
  done := fun s Q E st hQ => pyNext_sq_end_hot (b := false) (it := I) (l := ax) (x1 := x1) (i := items.size) (items := items) ⟨hh, o1, vs1, st.2, d1, c1⟩ hx (show SqIt false s.heap I ax items.size from st.1.1) (show SqOb false s.heap ax items from st.1.2) (by simp) fun h' he' => hQ h' s.toks fun b o hb e => he' b o (fun h => hb (by simp [h])) e
  self := fun _ _ _ _ st hQ => wpAny_pyIter_listiter st.1.1 hQ
end
section
variable {X : Cx} {pos : Pos}
theorem pg_tupH {es : List Expr} {k : Nat} {t : TGs} {n : Nat} (hc : HotC X) (h : PGs X es t)
    (hn : (assignEach es X.env).length = n := by rfl) (hst : (assignEach es X.env).findIdx? (·.1) = none := by rfl) : PG X (.Tuple es k pos) (gTup X.K n t) := by
  refine ⟨fun pins s σ H v u Q I r hw => ?_⟩
  obtain ⟨a, xs, e1, hq, hl, hw⟩ := hw
  subst e1
  cases r
  obtain ⟨its, rv, ht, hz⟩ := I.tuple hq
  obtain ⟨x1, hot⟩ := hc.at I
  refine assign_Tuple_tupleH hot ht (by simp [hn, ← hl, rv.length]) hst fun h' hx => ?_
  have I1 : L2.Inv X pins σ H { s with heap := h' } := I.kept (t' := s.toks) fun b o e => hx b o (Nat.ne_of_lt (Heap.lt_size e)) e
  exact h.run pins _ σ H xs _ Q I1 (by simpa using rv) hw
end
section
variable {X : Cx} {pins : List (Addr × Obj)} {σ : L2.St}
theorem drainZH {A : Around} {R : Result → Shared → Prop} {b1 b2 : Bool} {a b z TI TO i1 i2 S : Addr} {xs ys : List V} {res : Value} {H0 : Hp} (hA : A.handled = X.A.handled) (hc : HotC X) (D : ZipApart z TI TO i1 i2 a b) (hS : S ∉ [z, TI, TO, i1, i2]) (hn : xs.length ≤ 1000000) (h0 : H0 S = none) (hqx0 : SqG b1 X.K H0 a xs) (hqy0 : SqG b2 X.K H0 b ys)
    (hR : ∀ s' H' ts, L2.Inv X pins σ H' s' → ZDone H0 H' S xs ys ts → R (.ok (.ret res)) s') :
    ∀ (m : Nat) (s : Shared) (H : Hp) (ts : List Addr), min xs.length ys.length - ts.length = m → ts.length ≤ min xs.length ys.length → L2.Inv X pins σ H s → (∀ c ∈ [z, TI, TO, i1, i2], FpOk X pins H c) → ZSt H s.heap z TI TO → IsPair s.heap TI (.ref i1) (.ref i2) →
      SqIt b1 s.heap i1 a ts.length → SqIt b2 s.heap i2 b ts.length → H S = some (.lst (ts.map V.ref)) → (∀ c o, H0 c = some o → H c = some o) →
      (∀ (k : Nat) t, ts[k]? = some t → ∃ x y, xs[k]? = some x ∧ ys[k]? = some y ∧ H t = some (.tup [x, y]) ∧ H0 t = none) →
      codeAny (model X.prog X.w) A (.builtin "list.extend.loop" ⟨[.ref S, .ref z, res], []⟩) R s := by
  intro m
  induction m with
  | zero =>
    intro s H ts hm hl I hf hz hTI h1 h2 hS' hk ht
    have hqx := hqx0.le hk
    have hqy := hqy0.le hk
    refine codeAny_builtin F.entry_extend_loop ?_
    rw [Around.under_plainId F.plain_extend_loop _]
    show wpAny _ A.in1 (pyNext (.ref z) >>= _) _ _ s
    obtain ⟨its, rv, p, _⟩ := Inv.sqG I hqx
    obtain ⟨its2, rv2, p2, _⟩ := Inv.sqG I hqy
    have l1 := rv.length
    have l2 := rv2.length
    have he : its.toArray[ts.length]? = none ∨ its2.toArray[ts.length]? = none := by
      simp only [List.getElem?_toArray, List.getElem?_eq_none_iff]
      omega
    have fin : ∀ h', (∀ c o, c ∉ [z, TI, TO, i1, i2] → s.heap.get? c = some o → h'.get? c = some o) → R (.ok (.ret res)) { s with heap := h' } := fun h' hk' =>
      hR _ H ts (I.turnedL (t' := s.toks) (ch := [z, TI, TO, i1, i2]) hk' hf) ⟨hk, h0, hS', by omega, ht⟩
    obtain ⟨p0, ⟨hh, v1, e1, c1⟩, hp⟩ := hc
    have hot : HotAt A.in1 p0.1 s.heap := ⟨hA.trans hh, p0.2, v1, (I.pin p0 (List.mem_append_left _ hp)).1, e1, c1⟩
    have nb : ∀ b, b ∈ [z, TI, TO, i1, i2] → p0.1 ≠ b := fun b hb => (hf b hb).2.2.2.2.2 p0 (List.mem_append_left _ hp)
    obtain ⟨⟨x0, y0, hTO⟩, hz | ⟨T, f, us, hz, hT⟩⟩ := hz
    · exact wpAny_bind (pyNext_zipG_endH hot (nb z (by simp)) (nb TO (by simp)) (nb i1 (by simp)) (nb i2 (by simp)) D hz hTI hTO h1 h2 p p2 he fun h' hk' => wpAny_pure (fin h' fun c o hb q => hk' c o (fun q' => hb (by simp [q'])) (fun q' => hb (by simp [q'])) (fun q' => hb (by simp [q'])) (fun q' => hb (by simp [q'])) q))
    · obtain ⟨_, oT⟩ := (I.hok T _ hT)
      obtain ⟨itsT, _, ⟨oo, hoo, _⟩⟩ := oT
      exact wpAny_bind (pyNext_zipG_end_heldH hot (nb z (by simp)) (nb TO (by simp)) (nb i1 (by simp)) (nb i2 (by simp)) D hz hoo hTI h1 h2 p p2 he fun h' hk' => wpAny_pure (fin h' fun c o hb q => hk' c o (fun q' => hb (by simp [q'])) (fun q' => hb (by simp [q'])) (fun q' => hb (by simp [q'])) q))
  | succ m ih =>
    intro s H ts hm hl I hf hz hTI h1 h2 hS' hk ht
    have hqx := hqx0.le hk
    have hqy := hqy0.le hk
    refine codeAny_builtin F.entry_extend_loop ?_
    rw [Around.under_plainId F.plain_extend_loop _]
    show wpAny _ A.in1 (pyNext (.ref z) >>= _) _ _ s
    obtain ⟨its, rv, p, _⟩ := Inv.sqG I hqx
    obtain ⟨its2, rv2, p2, _⟩ := Inv.sqG I hqy
    have l1 := rv.length
    have l2 := rv2.length
    have hx0 : ts.length < xs.length := by omega
    have hy0 : ts.length < ys.length := by omega
    have hx : xs[ts.length]? = some xs[ts.length] := List.getElem?_eq_getElem hx0
    have hy : ys[ts.length]? = some ys[ts.length] := List.getElem?_eq_getElem hy0
    obtain ⟨u, hu, ru⟩ := rv.get hx
    obtain ⟨u2, hu2, ru2⟩ := rv2.get hy
    have fpl : ∀ c ∈ [z, TI, TO, i1, i2], H c = none := fun c hc => (hf c hc).1
    obtain ⟨⟨x0, y0, hTO⟩, hz⟩ := hz
    have hzl : z < s.heap.objs.size := by
      rcases hz with hz | ⟨T, f, us, hz, _⟩
      · exact Heap.lt_size hz
      · exact Heap.lt_size hz
    -- behind the pair
    have step : ∀ h', (∃ x y, IsPair h' TO x y) → (IsZipHeld h' z TI TO s.heap.objs.size false ∨ (∃ T f us, IsZipHeld h' z TI TO T f ∧ H T = some (.tup us))) → SqIt b1 h' i1 a (ts.length + 1) → SqIt b2 h' i2 b (ts.length + 1) → IsPair h' s.heap.objs.size u u2 → h'.objs.size = s.heap.objs.size + 1 →
        (∀ c o, c ∉ [z, TO, i1, i2] → s.heap.get? c = some o → h'.get? c = some o) → wpAny (model X.prog X.w) A.in1 (updateSeq S (·.push (.ref s.heap.objs.size)) >>= fun _ => again (.builtin "list.extend.loop" ⟨[.ref S, .ref z, res], []⟩))
          (fun fin s' => match fin with | .done f => R (.ok f) s' | .again c' => c'.quiet = true ∧ codeAny (model X.prog X.w) A c' R s') (fun e s' => R (.error e) s') { s with heap := h' } := by
      intro h' hTO' hz' h1' h2' hT hsz hk'
      have hTn : H s.heap.objs.size = none := I.hok.fresh (Nat.le_refl _)
      have new : ObjOk X.prog X.w (upd H s.heap.objs.size (.tup [xs[ts.length], ys[ts.length]])) h' s.heap.objs.size (.tup [xs[ts.length], ys[ts.length]]) :=
        ⟨by show 2 ≤ sizeLine; decide, [u, u2], .cons ru (.cons ru2 .nil), ⟨_, hT, rfl, _, rfl⟩⟩
      have I1 : L2.Inv X pins σ (upd H s.heap.objs.size (.tup [xs[ts.length], ys[ts.length]])) { s with heap := h' } :=
        I.turnedNew (t' := s.toks) (ch := [z, TI, TO, i1, i2]) (fun c o hb q => hk' c o (fun z => hb (by simp only [List.mem_cons, List.not_mem_nil, or_false] at z ⊢; rcases z with z | z | z | z <;> simp [z])) q) hf (Nat.le_refl _) new
      have hST : S ≠ s.heap.objs.size := fun e => by rw [e, hTn] at hS'; cases hS'
      have hS1 : (upd H s.heap.objs.size (.tup [xs[ts.length], ys[ts.length]])) S = some (.lst (ts.map V.ref)) := by rw [upd_ne hST]; exact hS'
      obtain ⟨z1, itsS, n, rS, hlS, eS⟩ := I1.lstM hS1
      have hits : itsS.length ≤ 1000000 := by
        rw [← rS.length, List.length_map]; omega
      refine wpAny_bind (wpAny_updateSeq eS rfl (wpAny_pure ⟨plainId_quiet F.plain_extend_loop _, ?_⟩) (by rw [List.size_toArray, sizeLine_eq]; omega) (by show (itsS.toArray.push _).size ≤ sizeLine + 1; rw [Array.size_push, List.size_toArray, sizeLine_eq]; omega))
      have I2 := I1.lset (its' := itsS ++ [.ref s.heap.objs.size]) (ys := (ts ++ [s.heap.objs.size]).map V.ref) (f := (·.push (.ref s.heap.objs.size))) (t' := s.toks) hS1 eS (by simp) (by rw [List.map_append]; exact rS.append (.cons rfl .nil)) (by rw [List.length_map, List.length_append, List.length_singleton, sizeLine_eq]; omega)
      have hne : ∀ {c : Addr}, c ∈ [z, TI, TO, i1, i2] → c ≠ s.heap.objs.size ∧ c ≠ S := fun {c} hc => ⟨fun e => by
        have hlt : c < s.heap.objs.size := by
          simp only [List.mem_cons, List.not_mem_nil, or_false] at hc
          rcases hc with q | q | q | q | q
          · rw [q]; exact hzl
          · rw [q]; exact Heap.lt_size hTI
          · rw [q]
            exact Heap.lt_size hTO
          · rw [q]; exact h1.lt
          · rw [q]; exact h2.lt
        exact absurd hlt (by rw [e]; exact Nat.lt_irrefl _), fun e => hS (e ▸ hc)⟩
      have ot : ∀ c o, c ≠ S → h'.get? c = some o → (h'.update S (Obj.mapSeq (·.push (.ref s.heap.objs.size)))).get? c = some o := fun c o hc e => (Heap.get?_update_other _ _ (Ne.symm hc)).trans e
      have oc : ∀ {c : Addr} {o : HO}, H c = some o → c ≠ S → (upd (upd H s.heap.objs.size (.tup [xs[ts.length], ys[ts.length]])) S (.lst ((ts ++ [s.heap.objs.size]).map V.ref))) c = some o := fun {c o} e hc => by
        rw [upd_ne hc, upd_ne (fun q => by rw [q, hTn] at e; cases e)]
        exact e
      refine ih _ _ (ts ++ [s.heap.objs.size]) (by rw [List.length_append, List.length_singleton]; omega) (by rw [List.length_append, List.length_singleton]; omega) I2 (fun c hc => ⟨?_, (hf c hc).2⟩) ⟨?_, ?_⟩ ?_ ?_ ?_ upd_same (fun c o e => ?_) (fun k t e => ?_)
      · rw [upd_ne (hne hc).2, upd_ne (hne hc).1]
        exact (hf c hc).1
      · obtain ⟨x1, y1, e⟩ := hTO'
        exact ⟨x1, y1, ot _ _ (hne (c := TO) (by simp)).2 e⟩
      · rcases hz' with e | ⟨T, f, us, e, eT⟩
        · exact .inr ⟨_, false, _, ot _ _ (hne (c := z) (by simp)).2 e, by rw [upd_ne (Ne.symm hST)]; exact upd_same⟩
        · exact .inr ⟨T, f, us, ot _ _ (hne (c := z) (by simp)).2 e, oc eT fun q => by rw [q, hS'] at eT; cases eT⟩
      · exact ot _ _ (hne (c := TI) (by simp)).2 (hk' _ _ (fun q => by simp only [List.mem_cons, List.not_mem_nil, or_false] at q; rcases q with q | q | q | q <;> first | exact D.TIz q | exact D.TITO q | exact D.TIi1 q | exact D.TIi2 q) hTI)
      · rw [List.length_append, List.length_singleton]
        exact h1'.at_ fun o e => ot _ _ (hne (c := i1) (by simp)).2 e
      · rw [List.length_append, List.length_singleton]
        exact h2'.at_ fun o e => ot _ _ (hne (c := i2) (by simp)).2 e
      · exact oc (hk c o e) fun q => by rw [q, h0] at e; cases e
      · by_cases hkl : k < ts.length
        · rw [List.getElem?_append_left hkl] at e
          obtain ⟨x1, y1, e1, e2, e3, e4⟩ := ht k t e
          exact ⟨x1, y1, e1, e2, oc e3 (fun q => by rw [q, hS'] at e3; cases e3), e4⟩
        · have hlt := (List.getElem?_eq_some_iff.mp e).1
          rw [List.length_append, List.length_singleton] at hlt
          have hkk : k = ts.length := by omega
          subst hkk
          rw [List.getElem?_append_right (Nat.le_refl _), Nat.sub_self] at e
          cases e
          refine ⟨_, _, hx, hy, by rw [upd_ne (Ne.symm hST)]; exact upd_same, ?_⟩
          cases e0 : H0 s.heap.objs.size with
          | none => rfl
          | some o => rw [hk _ _ e0] at hTn; cases hTn
    have hux : its.toArray[ts.length]? = some u := by simpa using hu
    have huy : its2.toArray[ts.length]? = some u2 := by simpa using hu2
    rcases hz with hz | ⟨T, f, us, hz, hT⟩
    · refine wpAny_bind (pyNext_zipG_item D hz hTI hTO h1 h2 p p2 hux huy fun h' a1 a2 a3 a4 a5 a6 a7 => ?_)
      exact step h' ⟨_, _, a2⟩ (.inl a1) a3 a4 a5 a6 fun c o hc e => a7 c o (fun q => hc (by simp [q])) (fun q => hc (by simp [q])) (fun q => hc (by simp [q])) (fun q => hc (by simp [q])) e
    · obtain ⟨_, oT⟩ := (I.hok T _ hT)
      obtain ⟨itsT, _, ⟨oo, hoo, _⟩⟩ := oT
      refine wpAny_bind (pyNext_zipG_item_held D hz hoo hTI h1 h2 p p2 hux huy fun h' a1 a3 a4 a5 a6 a7 => ?_)
      exact step h' ⟨x0, y0, a7 TO _ D.TOz D.TOi1 D.TOi2 hTO⟩ (.inr ⟨T, true, us, a1, hT⟩) a3 a4 a5 a6 fun c o hc e => a7 c o (fun q => hc (by simp [q])) (fun q => hc (by simp [q])) (fun q => hc (by simp [q])) e
theorem call_list_zipH {A : Around} {Q : Value → Shared → Prop} {E : Value → Shared → Prop} {b1 b2 : Bool} {a b z TI TO i1 i2 : Addr} {xs ys : List V} {s : Shared} {H : Hp} (hA : A.handled = X.A.handled) (hc : HotC X) (D : ZipApart z TI TO i1 i2 a b) (hn : xs.length ≤ 1000000)
    (I : L2.Inv X pins σ H s) (hf : ∀ c ∈ [z, TI, TO, i1, i2], FpOk X pins H c) (hz : IsZip s.heap z TI TO .none) (hTI : IsPair s.heap TI (.ref i1) (.ref i2)) (hTO : ∃ x y, IsPair s.heap TO x y) (h1 : SqIt b1 s.heap i1 a 0) (h2 : SqIt b2 s.heap i2 b 0) (hqx : SqG b1 X.K H a xs) (hqy : SqG b2 X.K H b ys)
    (hQ : ∀ S s' H' ts, L2.Inv X pins σ H' s' → ZDone H H' S xs ys ts → Q (.ref S) s') : wpAny (model X.prog X.w) A (call (.type "list") [.ref z]) Q E s := by
  have hSf : ∀ {c : Addr}, c ∈ [z, TI, TO, i1, i2] → c < s.heap.objs.size := fun {c} hc => by
    simp only [List.mem_cons, List.not_mem_nil, or_false] at hc
    obtain ⟨x0, y0, hTO⟩ := hTO
    rcases hc with q | q | q | q | q
    · rw [q]; exact Heap.lt_size hz
    · rw [q]; exact Heap.lt_size hTI
    · rw [q]; exact Heap.lt_size hTO
    · rw [q]; exact h1.lt
    · rw [q]; exact h2.lt
  have hSn : s.heap.objs.size ∉ [z, TI, TO, i1, i2] := fun hm => Nat.lt_irrefl _ (hSf hm)
  have hSz : s.heap.objs.size ≠ z := fun e => hSn (by simp [e])
  have hS0 : H s.heap.objs.size = none := I.hok.fresh (Nat.le_refl _)
  refine callType_codes (Q₁ := fun obj s₁ => obj = .ref s.heap.objs.size ∧ s₁ = { s with heap := s.heap.push { cls := .type "list", data := .seq #[] } }) F.called_list (F.typeCall_list_1 _) F.entry_list_init
    (code_list_new _ ⟨rfl, rfl⟩) fun obj s₁ h₁ => ?_
  obtain ⟨rfl, rfl⟩ := h₁
  have hS : (s.heap.push { cls := .type "list", data := .seq #[] }).get? s.heap.objs.size = some { cls := .type "list", data := .seq #[] } := Heap.get?_push_size _ rfl
  have I0 : L2.Inv X pins σ (upd H s.heap.objs.size (.lst [])) { s with heap := s.heap.push { cls := .type "list", data := .seq #[] } } := I.lnew (its := []) (t' := s.toks) .nil (Nat.zero_le _)
  refine ⟨⟨_, hS, rfl⟩, F.args_list_init_2 _ _, ?_⟩
  show wpAny _ A.in1.in1 (do let old ← Builtin.List.listItems (.ref s.heap.objs.size); Builtin.List.listUpdate (.ref s.heap.objs.size) (fun _ => #[]); letGo old.toList.reverse; Builtin.List.listExtendWith (.ref s.heap.objs.size) (.ref z) .none) _ _ _
  refine wpAny_bind ?_
  unfold Builtin.List.listItems
  refine wpAny_bind (wpAny_seqItems hS rfl (wpAny_pure ?_))
  show wpAny _ A.in1.in1 (updateSeq s.heap.objs.size (fun _ => #[]) >>= fun _ => letGo (#[] : Array Value).toList.reverse >>= fun _ => Builtin.List.listExtendWith (.ref s.heap.objs.size) (.ref z) .none) _ _ _
  have I1 := I0.lset (its := []) (its' := []) (ys := []) (f := fun _ => (#[] : Array Value)) (t' := s.toks) upd_same hS rfl .nil (Nat.zero_le _)
  refine wpAny_bind (wpAny_updateSeq hS rfl ?_)
  have hS2 := Heap.get?_update_self (Obj.mapSeq (fun _ => (#[] : Array Value))) hS rfl
  refine wpAny_bind (wpAny_letGo ?_)
  unfold Builtin.List.listExtendWith
  have up : ∀ (h : Heap) (f : Obj → Obj), (∀ b o, s.heap.get? b = some o → h.get? b = some o) → ∀ b o, s.heap.get? b = some o → (h.update s.heap.objs.size f).get? b = some o := fun h f q b o e =>
    (Heap.get?_update_other _ _ (Ne.symm (Nat.ne_of_lt (Heap.lt_size e)))).trans (q b o e)
  have k1 : ∀ b o, s.heap.get? b = some o → (s.heap.push { cls := .type "list", data := .seq #[] }).get? b = some o := fun b o e => Heap.get?_push_of_some _ e
  have k2 := up _ (Obj.mapSeq (fun _ => (#[] : Array Value))) k1
  have zty : ∀ {h : Heap}, (∀ b o, s.heap.get? b = some o → h.get? b = some o) → ∀ g d t os, Shared.TypeIs ⟨h, g, d, t, os⟩ (.ref z) "zip" := fun {h} q g d t os => ⟨_, q _ _ hz, rfl⟩
  refine wpAny_bind (wpAny_typeOf (zty k2 _ _ _ _) ?_)
  have e1 : Builtin.List.listSameRef (.ref s.heap.objs.size) (.ref z) = false := by simp [Builtin.List.listSameRef, hSz]
  have e2 : (Value.type "zip" == Value.type "list") = false := by decide
  have e3 : (Value.type "zip" == Value.type "tuple") = false := by decide
  simp only [e1, e2, e3, Bool.or_false, Bool.false_eq_true, if_false]
  refine wpAny_bind (wpAny_pyIter_zip (s := { s with heap := _ }) (k2 _ _ hz) ?_)
  refine wpAny_bind (wpAny_holding ?_)
  unfold Builtin.List.listLengthHint
  refine wpAny_bind (wpAny_specialOf (zty k2 _ _ _ _) zip_no_len ?_)
  show wpAny _ A.in1.in1 (specialOf (Value.ref z) (Str.ofString "__length_hint__") >>= _) _ _ _
  refine wpAny_bind (wpAny_specialOf (zty k2 _ _ _ _) zip_no_hint ?_)
  refine wpAny_pure ?_
  show wpAny _ A.in1.in1 (rule "list.extend.makes-room" >>= fun _ => Builtin.List.listTouch (.ref s.heap.objs.size) >>= fun _ =>
    again (.builtin "list.extend.loop" ⟨[.ref s.heap.objs.size, .ref z, .none], []⟩)) _ _ _
  refine wpAny_bind (wpAny_rule ?_)
  refine wpAny_bind ?_
  show wpAny _ A.in1.in1 (updateSeq s.heap.objs.size (·.push .none) >>= fun _ => updateSeq s.heap.objs.size (·.pop)) _ _ _
  have I2 := I1.lset (its := []) (its' := [.none]) (ys := [.non]) (f := (·.push Value.none)) (t' := s.toks) upd_same hS2 rfl (.cons rfl .nil) (by decide)
  refine wpAny_bind (wpAny_updateSeq hS2 rfl ?_)
  have hS3 := Heap.get?_update_self (Obj.mapSeq (·.push Value.none)) hS2 rfl
  have I3 := I2.lset (its := [.none]) (its' := []) (ys := []) (f := (·.pop)) (t' := s.toks) upd_same hS3 rfl .nil (Nat.zero_le _)
  refine wpAny_updateSeq (hz := by seq_fits) hS3 rfl ?_
  have k4 := up _ (Obj.mapSeq (·.pop)) (up _ (Obj.mapSeq (·.push Value.none)) k2)
  refine wpAny_pure ⟨plainId_quiet F.plain_extend_loop _, ?_⟩
  rw [upd_upd, upd_upd, upd_upd] at I3
  obtain ⟨x0, y0, hTO⟩ := hTO
  refine drainZH (A := A.in1) (b1 := b1) (b2 := b2) (xs := xs) (ys := ys) (H0 := H) hA hc D hSn hn hS0 hqx hqy (fun s' H' ts I' dn => ⟨rfl, hQ _ s' H' ts I' dn⟩) _ _ (upd H s.heap.objs.size (.lst [])) [] rfl (Nat.zero_le _) I3 (fun c hc => ⟨?_, (hf c hc).2⟩) ⟨⟨x0, y0, k4 _ _ hTO⟩, .inl (k4 _ _ hz)⟩ (k4 _ _ hTI) (h1.at_ fun o e => k4 _ _ e) (h2.at_ fun o e => k4 _ _ e) upd_same (fun c o e => ?_) (fun k t e => by simp at e)
  · have hcs : c ≠ s.heap.objs.size := fun e => by have q := hSf hc; rw [e] at q; exact Nat.lt_irrefl _ q
    rw [upd_ne hcs]
    exact (hf c hc).1
  · rw [upd_ne (fun q => by rw [q, hS0] at e; cases e)]
    exact e
end
theorem pe_lzH {X : Cx} {e e2 : Expr} {ta : TA} {p p2 pos pos2 : Pos} (hc : HotC X) (hl : Gl X "list") (hml : X.mg "list" = none) (hg : Gl X "zip") (hm : X.mg "zip" = none) (ha : PA X [e, e2] ta)
    (hs : starEach [e, e2] X.env = (false, eval e X.env) :: starEach [e2] X.env := by rfl) (hpl : (backTo pos2 (starEach [e2] X.env)).any (·.1) = false := by rfl)
    (na : starEach [.Call (.Name "zip" p2) [e, e2] [] pos2] X.env = (false, eval (.Call (.Name "zip" p2) [e, e2] [] pos2) X.env) :: starEach [] X.env := by rfl) :
    PE X (.Call (.Name "list" p) [.Call (.Name "zip" p2) [e, e2] [] pos2] [] pos) (tLz X.K ta) := by
  refine ⟨fun pins s σ H Q I h => ?_⟩
  refine Call_ (ld_blt I hl hml boot_list (PyProof.Rows.callWith_type1 (PyProof.Rows.args_cons ?_ na) na rfl))
  refine Call_ (ld_blt I hg hm PyProof.Rows.boot_zip (PyProof.Rows.callWith_type1 (thn (ha.run pos2 pins s σ H _ I h) fun us s1 ⟨vs, H1, I1, r1, q1⟩ => ?_) hs hpl))
  obtain ⟨a, b, b1, b2, xs, ys, ex, hqx, hqy, hn, q⟩ := q1
  subst ex
  obtain ⟨u1, u2, rfl, ra, rb⟩ := r1.two
  cases (show u1 = Value.ref a from ra)
  cases (show u2 = Value.ref b from rb)
  have fresh5 : ∀ c, c ∈ [s1.heap.objs.size + 4, s1.heap.objs.size + 2, s1.heap.objs.size + 3, s1.heap.objs.size, s1.heap.objs.size + 1] → FpOk X pins H1 c := fun c hcm => by
    have hle : s1.heap.objs.size ≤ c := by
      simp only [List.mem_cons, List.mem_singleton, List.not_mem_nil, or_false] at hcm
      omega
    exact I1.fpOk hle (I1.hok.fresh hle)
  obtain ⟨its, rv, p1, l1⟩ := Inv.sqG I1 hqx
  obtain ⟨its2, rv2, p2', l2⟩ := Inv.sqG I1 hqy
  refine call_zipG p1 p2' fun h' hz hTI hTO h1 h2 hsz hk => PyProof.Rows.args_nil ?_
  have I2 : L2.Inv X pins σ H1 { s1 with heap := h' } := I1.kept (t' := s1.toks) hk
  exact call_list_zipH (xs := xs) (ys := ys) rfl hc (PySem.W.ktu_apart s1.heap.objs.size a b l1 l2) hn I2 fresh5 hz hTI ⟨_, _, hTO⟩ h1 h2 hqx hqy fun S s' H' ts I' dn => ⟨.ref S, H', I', rfl, q S H' ts dn⟩
section
variable {X : Cx} {G : Gam} {n0 : Nat}
theorem se_lzH {e e2 : Expr} {fe fe2 : SE} {p p2 pos pos2 : Pos} (hK : G.K = X.K) (hc : HotC X) (hl : Gl X "list") (hml : X.mg "list" = none) (hg : Gl X "zip") (hm : X.mg "zip" = none) (he : PE X e (rdE G n0 fe)) (he2 : PE X e2 (rdE G n0 fe2))
    (hs : starEach [e, e2] X.env = (false, eval e X.env) :: starEach [e2] X.env := by rfl) (hs2 : starEach [e2] X.env = (false, eval e2 X.env) :: starEach [] X.env := by rfl) (hpl : (backTo pos2 (starEach [e2] X.env)).any (·.1) = false := by rfl)
    (na : starEach [.Call (.Name "zip" p2) [e, e2] [] pos2] X.env = (false, eval (.Call (.Name "zip" p2) [e, e2] [] pos2) X.env) :: starEach [] X.env := by rfl) :
    PE X (.Call (.Name "list" p) [.Call (.Name "zip" p2) [e, e2] [] pos2] [] pos) (rdE G n0 (eLz fe fe2)) := by
  refine peI (pe_lzH hc hl hml hg hm (pa_cons (toV he) (pa_cons (toV he2) pa_nil hs2) hs) hs hpl na) fun σ H Q ⟨F, r, env, S, g, s, h⟩ => ?_
  refine stV s cnE h fun p S1 F1 r1 H1 u x1 s1 q1 h1 => ?_
  refine stV s1 cnE h1 fun q S2 F2 r2 H2 v x2 s2 q2 h2 => ?_
  cases ea : itemsOf S2 p.2 with
  | none => simp only [bLz, ea] at h2; exact h2.elim
  | some xs =>
    cases eb : itemsOf S2 q.2 with
    | none => simp only [bLz, ea, eb] at h2; exact h2.elim
    | some ys =>
      simp only [bLz, ea, eb] at h2
      split at h2
      · rename_i hz
        obtain ⟨a, us, rfl, hs1, rv1⟩ := view_seq s2.hr (q1.ext x2) ea
        obtain ⟨b, vs, rfl, hs2', rv2⟩ := view_seq s2.hr q2 eb
        obtain ⟨b1, k1⟩ := sqG_of hs1
        obtain ⟨b2, k2⟩ := sqG_of hs2'
        have hle : us.length ≤ 1000000 := by rw [← RVs.length rv1]; exact Nat.le_of_ble_eq_true hz
        refine ⟨a, b, b1, b2, us, vs, rfl, hK ▸ k1, hK ▸ k2, hle, fun L H' ts dn => ?_⟩
        have hr' := s2.hr.heap dn.keep
        obtain ⟨F3, x3, h3, rv3, ch⟩ := grow_pairs hr' ts xs ys us vs rv1 rv2 dn.len fun k t e => by
          obtain ⟨x, y, e1, e2, e3, e4⟩ := dn.tup k t e
          exact ⟨x, y, e1, e2, e3, s2.hr.noF e4, s2.hr.nor e4, s2.hr.nop e4⟩
        have hFL : F3 L = none := by
          by_cases hL : F3 L = F2 L
          · rw [hL]; exact s2.hr.noF dn.new
          · obtain ⟨k, hk, e⟩ := List.getElem_of_mem (ch L hL)
            obtain ⟨x, y, _, _, e3, _⟩ := dn.tup k L (by rw [List.getElem?_eq_getElem hk, e])
            rw [dn.lst] at e3
            cases e3
        refine h2 F3 r2 H' _ ((x1.trans x2).trans x3) (s2.ext x3 h3) ⟨L, _, rfl, dn.lst, hFL, s2.hr.nor dn.new, s2.hr.nop dn.new, ⟨_, rfl, rv3⟩, rfl⟩
      · exact h2.elim
end
section
variable {X : Cx}
theorem cr_allH (hc : HotC X) : CallR X (.builtin "all") (rAll X.K) := by
  intro pins s σ H vs us Q I r h
  obtain ⟨a, bs, rfl, hs, q⟩ := h
  obtain ⟨its, rv, hl, _⟩ := I.list hs
  rw [Vals.ref1 r]
  have hb := rv.bls
  refine call_all_walk (iter_any hl.isList fun s₂ e2 st hne => ?_)
  subst e2
  obtain ⟨p0, ⟨hh, v1, e1, c1⟩, hp⟩ := hc
  have P1 := (I.pin p0 (List.mem_append_left _ hp)).1
  refine ⟨_, _, _, _, _, _, _, rfl, walks_listH (A := X.A.in1) hh e1 c1 _ a hne (Nat.ne_of_lt (Heap.lt_size P1)) its.toArray, ⟨st, Heap.get?_push_of_some _ P1⟩, truth_bools hb, fun h' tk hk => ?_⟩
  refine ⟨.bl _, H, I.kept fun b o eo => hk b o (fun hmem => ?_) (Heap.get?_push_of_some _ eo), ?_, q⟩
  · rcases List.mem_cons.mp hmem with e1 | hmem
    · exact absurd (e1 ▸ Heap.lt_size eo) (Nat.lt_irrefl _)
    · cases hmem
  · show Value.bool _ = Value.bool _
    rw [← L2.all_range, hb, List.size_toArray, List.length_map]
end
end PX
set_option Elab.async false
set_option linter.all false
set_option maxRecDepth 100000
set_option maxHeartbeats 1000000
namespace PX
open PySem PySem.Spec PyProof.Rows L2 L2H
structure TbQ (X : Cx) (G : Gam) (cf : CF) (k : Nat) (hs : List Nat) : Prop where
  hK : G.K = X.K
  call : ∀ f np, f ∈ hs → ∃ fd ps, FnH X.prog X.w X.K X.mg X.base (L2.CX X.prog X.w) k (G.fa f) fd ps (spF G cf f np) ∧ Binds X.K fd ps []
  room : RoomH (k + 1) X.A
  hot : HotC X
section
variable {X : Cx} {k : Nat} {fd : FuncData} {ps : List Str} {E : XK} {e : Expr} {es : List Expr} {pos : Pos}
theorem run_makeQ {C f : Addr} {sp : Sp} {pins : List (Addr × Obj)} {σ : L2.St} {H : Hp} {s : Shared} {Q : VK} {us : List Value} {vs : List V} (M : Mk X.K C f) (F : FnH X.prog X.w X.K X.mg X.base (L2.CX X.prog X.w) k f fd ps sp) (hr : RoomH (k + 1) X.A) (hc : HotC X) (hb : Binds X.K fd ps []) (hx : PassesAt (L2.CX X.prog X.w) X σ E)
    (I : Inv X pins σ H s) (r : Vals vs us)
    (h : ∀ x dx, H x = none → H dx = none → dx ≠ x → sp (.ref x :: vs) (upd (upd H dx (.own x)) x (.ins C dx [])) (fun v H2 => v = .non ∧ Q (.ref x) H2) E) :
    wpAny (model X.prog X.w) X.A (call (.ref C) us) (EP X pins σ Q) X.xe s := by
  obtain ⟨pn, hot, hpn⟩ := hc
  have hq := h (s.heap.objs.size + 1) s.heap.objs.size (I.hok.fresh (Nat.le_succ _)) (I.hok.fresh (Nat.le_refl _)) (Nat.ne_of_lt (Nat.lt_succ_self _))
  have I2 := Inv.made (C := C) I
  have r2 : Vals (V.ref (s.heap.objs.size + 1) :: vs) (Value.ref (s.heap.objs.size + 1) :: us) := .cons rfl r
  have hl : (Value.ref (s.heap.objs.size + 1) :: us).length = ps.length := by rw [← r2.length]; exact F.len _ _ _ _ hq
  have b := hb _ (Value.ref (s.heap.objs.size + 1) :: us) I2.kIn (by rw [List.append_nil]; exact hl)
  rw [List.append_nil] at b
  have P1 := I2.pin pn (List.mem_append_left _ hpn)
  refine wpAny_call (make_map (f := f) I.kIn M.makes M.init (beq_iff_eq.mp M.fn) (codeAny_mono (F.run _ X.stack _ _ ⟨Value.ref (s.heap.objs.size + 1) :: us, []⟩ (Value.ref (s.heap.objs.size + 1) :: us) _ _ E pn (hr.make C us []) hot
    ⟨P1.1, P1.2.1, fun hmm => (List.mem_cons.mp (I2.stkSub pn.1 hmm)).elim P1.2.2.1 P1.2.2.2.1, P1.2.2.2.2⟩ (I2.env0.make C us []) b r2 hq) fun r s' hq' => ?_))
  cases r with
  | error e => exact hx pins _ _ e s' I2 hq'
  | ok fl =>
    cases fl with
    | ret u =>
      obtain ⟨v, H', I3, rv, ev, q3⟩ := I2.after hq'
      subst ev
      exact ⟨rv, ⟨V.ref (s.heap.objs.size + 1), H', I3, rfl, q3⟩⟩
    | next => exact False.elim hq'
    | brk => exact False.elim hq'
    | cont => exact False.elim hq'
theorem pe_makeQ {E : L2.St → XK} {C f : Addr} {sp : Sp} {x : Str} {p : Pos} {t : TA} (M : Mk X.K C f) (F : FnH X.prog X.w X.K X.mg X.base (L2.CX X.prog X.w) k f fd ps sp) (hr : RoomH (k + 1) X.A) (hc : HotC X) (hb : Binds X.K fd ps []) (hx : ∀ σ, PassesAt (L2.CX X.prog X.w) X σ (E σ)) (hg : Gl X x) (hm : X.mg x = some (.ref C))
    (ha : PA X (e :: es) t) (hdb : (x == ("__debug__" : Str)) = false := by decide) (he : starEach (e :: es) X.env = (false, eval e X.env) :: starEach es X.env := by rfl) (hpl : (backTo pos (starEach es X.env)).any (·.1) = false := by rfl) :
    PE X (.Call (.Name x p) (e :: es) [] pos) (tMakeX C sp E t) := by
  refine ⟨fun pins s σ H Q I h => ?_⟩
  refine wpAny_Call_Name_kw (ld_glob I hg hm ?_ hdb)
  refine PySem.W.callWith_K (h₀ := X.base) I.ok.mod.kin M.kp (thn (ha.run pos pins s σ H _ I h) fun us s1 ⟨vs, H1, I1, r, q⟩ => ⟨I1.kIn, ?_⟩) he hpl
  exact run_makeQ M F hr hc hb (hx σ) I1 r fun x dx h1 h2 h3 => q x dx h1 h2 h3
end
section
variable {X : Cx} {G : Gam} {n0 : Nat} {cf : CF} {k : Nat} {hs : List Nat}
theorem TbQ.blk (T : TbQ X G cf k hs) (s : Shared) (H : Hp) (scope : Scope) (cenv : PySem.Env) (fp : List Addr) : TbQ (blkH X s H scope cenv fp) G cf k hs := ⟨T.hK, T.call, T.room, T.hot⟩
theorem un65Q (T : TbQ X G cf k hs) : X.A.units + 65 < cLine := by have := T.room.un; omega
theorem se_callQ {f np : Nat} {x : Str} {p pos : Pos} {e : Expr} {es : List Expr} {fs : SA} (T : TbQ X G cf k hs) (hf : f ∈ hs) (hg : Gl X x) (hm : X.mg x = some (.ref (G.fa f))) (hk : PySem.W.keepIn G.K (.ref (G.fa f)) = true) (ha : PA X (e :: es) (rdA G n0 fs))
    (hdb : (x == ("__debug__" : Str)) = false := by decide) (he : starEach (e :: es) X.env = (false, eval e X.env) :: starEach es X.env := by rfl) (hpl : (backTo pos (starEach es X.env)).any (·.1) = false := by rfl) :
    PE X (.Call (.Name x p) (e :: es) [] pos) (rdE G n0 (eCall cf np f fs)) := by
  obtain ⟨fd, ps, F1, B⟩ := T.call f np hf
  refine se_call (peI (pe_callH (E := fun _ => E0) F1 (T.room.mono (Nat.le_succ k)) T.hot hg hm (T.hK ▸ hk) B (fun σ pins H s e s' => passE0 pins σ H s e s') ha hdb he hpl) fun σ H Q h => ?_)
  have h : rdA G n0 fs σ H fun vs H1 => spF G cf f np (vs ++ []) H1 Q E0 := h
  simp only [List.append_nil] at h
  exact h
theorem se_makeQ {np c f : Nat} {x : Str} {p pos : Pos} {e : Expr} {es : List Expr} {fs : SA} (T : TbQ X G cf k hs) (hf : f ∈ hs) (M : Mk G.K (G.ca c) (G.fa f)) (hg : Gl X x) (hm : X.mg x = some (.ref (G.ca c))) (ha : PA X (e :: es) (rdA G n0 fs))
    (hdb : (x == ("__debug__" : Str)) = false := by decide) (he : starEach (e :: es) X.env = (false, eval e X.env) :: starEach es X.env := by rfl) (hpl : (backTo pos (starEach es X.env)).any (·.1) = false := by rfl) :
    PE X (.Call (.Name x p) (e :: es) [] pos) (rdE G n0 (eMake cf np c f fs)) := by
  obtain ⟨fd, ps, F1', B⟩ := T.call f np hf
  refine peI (pe_makeQ (E := fun _ => E0) (T.hK ▸ M) F1' T.room T.hot B (fun σ pins H s e s' => passE0 pins σ H s e s') hg hm ha hdb he hpl) fun σ H Q ⟨F, r, env, S, g, s, h⟩ => ?_
  refine stA s cnE h fun q S1 F1 r1 H1 us x1 s1 q1 h1 => ?_
  split at h1
  · rename_i hl
    intro x dx hx hd hne
    have hc := (s1.hr.call).heap (H' := upd H1 dx (.own x)) fun a o e => by rw [upd_ne (ne_of_none e hd)]; exact e
    obtain ⟨h2, rf⟩ := new_obj (v := .ins c [] []) (ho := .ins (G.ca c) dx []) hc (by rw [upd_ne hne.symm]; exact hx) ⟨dx, [], rfl, rfl, rfl⟩ rfl
    obtain ⟨r2, x2, h3, q3⟩ := store_new h2 rf
    refine ⟨F1, r2, S1 ++ [.ins c [] []], subG n0 g S1.length, S1.length, .ref S1.length :: q, h3, ⟨_, us, rfl, q3, q1.ext x2⟩, hl, ?_⟩
    cases ec : cf f (.ref S1.length :: q) S1.length (S1 ++ [.ins c [] []]) with
    | no => rw [ec] at h1; exact h1
    | ex => rw [ec] at h1; exact False.elim h1
    | ok v S2 =>
      rw [ec] at h1
      intro F3 r3 H3 u x3 h4 q4
      cases v with
      | non =>
        refine ⟨q4, ?_⟩
        have h1 : PoE G n0 g F r env σ (norm S1.length (.ref S1.length) S2) Q := h1
        cases en : norm S1.length (.ref S1.length) S2 with
        | no => rw [en] at h1; exact h1.elim
        | ex => rw [en] at h1; exact h1.elim
        | ok p S3 =>
          rw [en] at h1
          obtain ⟨b, w⟩ := p
          obtain ⟨F4, x4, h5, q5⟩ := norm_ok h4 (RV.ext x3 q3) en
          rw [take_ext s1.hr (x2.trans x3)] at h5 q5
          have x5 : Ext F1 F4 r1 r1 := ⟨(x2.trans x3).1.trans x4, List.prefix_refl r1⟩
          exact h1 F4 r1 H3 _ (x1.trans x5) (s1.ext x5 (s1.hr.back h5)) q5
      | _ => exact h1.elim
  · exact h1.elim
theorem se_ixQ {a b : Expr} {fa fb : SE} {pos : Pos} (hK : G.K = X.K) (ha : PE X a (rdE G n0 fa)) (hb : PE X b (rdE G n0 fb)) (hs : PlainIx b) : PE X (.Subscript a b pos) (rdE G n0 (eBin oIx fa fb)) :=
  se_ix (t := rIx X.K) (fun a b => ix_seq a b) (hK ▸ ok_ix) ha hb hs
theorem cr_lenQ : CallR X (.builtin "len") (fun xs H Q => ∃ p ys, xs = [V.ref p] ∧ (SqL X.K H p ys ∨ SqT X.K H p ys) ∧ Q (.int ys.length) H) := by
  intro pins s σ H vs us Q I r h
  obtain ⟨p, ys, e, h, q⟩ := h
  refine call_len pins s σ H vs us Q I r ⟨.ref p, ys.length, e, ?_, q⟩
  rcases h with h | h
  · exact .inl ⟨ys, h, rfl⟩
  · exact .inr ⟨ys, h, rfl⟩
end
end PX
set_option Elab.async false
set_option linter.all false
set_option maxRecDepth 100000
set_option maxHeartbeats 1000000
namespace PX
open PySem PySem.Spec PyProof.Rows L2 L2H
section
variable {X : Cx} {G : Gam} {n0 : Nat} {cf : CF} {k np c f : Nat} {E : XK} {e : Expr} {es : List Expr} {pos : Pos} {fa : SA}
theorem run_makeN {C f : Addr} {sp : Sp} {pins : List (Addr × Obj)} {σ : L2.St} {H : Hp} {s : Shared} {Q : VK} {us : List Value} {vs : List V} (M : Mk X.K C f) (F : FnR X.prog X.w X.K X.mg X.base (L2N.CX X.prog X.w) k f sp) (hr : Room (k + 1) X.A) (hx : PassesAt (L2N.CX X.prog X.w) X σ E)
    (I : Inv X pins σ H s) (r : Vals vs us)
    (h : ∀ x dx, H x = none → H dx = none → dx ≠ x → sp (.ref x :: vs) (upd (upd H dx (.own x)) x (.ins C dx [])) (fun v H2 => v = .non ∧ Q (.ref x) H2) E) :
    wpAny (model X.prog X.w) X.A (call (.ref C) us) (EP X pins σ Q) X.xe s := by
  have hq := h (s.heap.objs.size + 1) s.heap.objs.size (I.hok.fresh (Nat.le_succ _)) (I.hok.fresh (Nat.le_refl _)) (Nat.ne_of_lt (Nat.lt_succ_self _))
  have I2 := Inv.made (C := C) I
  have r2 : Vals (V.ref (s.heap.objs.size + 1) :: vs) (Value.ref (s.heap.objs.size + 1) :: us) := .cons rfl r
  refine wpAny_call (make_map (f := f) I.kIn M.makes M.init (beq_iff_eq.mp M.fn) (codeAny_mono (F _ X.stack _ _ (Value.ref (s.heap.objs.size + 1) :: us) _ _ E (hr.make C us [])
    (I2.env0.make C us []) r2 hq) fun r s' hq' => ?_))
  cases r with
  | error e => exact hx pins _ _ e s' I2 hq'
  | ok fl =>
    cases fl with
    | ret u =>
      obtain ⟨v, H', I3, rv, ev, q3⟩ := I2.after hq'
      subst ev
      exact ⟨rv, ⟨V.ref (s.heap.objs.size + 1), H', I3, rfl, q3⟩⟩
    | next => exact False.elim hq'
    | brk => exact False.elim hq'
    | cont => exact False.elim hq'
theorem pe_makeN {E : L2.St → XK} {C f : Addr} {sp : Sp} {x : Str} {p : Pos} {t : TA} (M : Mk X.K C f) (F : FnR X.prog X.w X.K X.mg X.base (L2N.CX X.prog X.w) k f sp) (hr : Room (k + 1) X.A) (hx : ∀ σ, PassesAt (L2N.CX X.prog X.w) X σ (E σ)) (hg : Gl X x) (hm : X.mg x = some (.ref C))
    (ha : PA X (e :: es) t) (hdb : (x == ("__debug__" : Str)) = false := by decide) (he : starEach (e :: es) X.env = (false, eval e X.env) :: starEach es X.env := by rfl) (hpl : (backTo pos (starEach es X.env)).any (·.1) = false := by rfl) :
    PE X (.Call (.Name x p) (e :: es) [] pos) (tMakeX C sp E t) := by
  refine ⟨fun pins s σ H Q I h => ?_⟩
  refine wpAny_Call_Name_kw (ld_glob I hg hm ?_ hdb)
  refine PySem.W.callWith_K (h₀ := X.base) I.ok.mod.kin M.kp (thn (ha.run pos pins s σ H _ I h) fun us s1 ⟨vs, H1, I1, r, q⟩ => ⟨I1.kIn, ?_⟩) he hpl
  exact run_makeN M F hr (hx σ) I1 r fun x dx h1 h2 h3 => by
    exact q x dx h1 h2 h3
theorem se_makeN {E : L2.St → XK} {x : Str} {p : Pos} (T : Tb X G cf k) (F1 : FnR X.prog X.w X.K X.mg X.base (L2N.CX X.prog X.w) k (G.fa f) (spF G cf f np)) (hx : ∀ σ, PassesAt (L2N.CX X.prog X.w) X σ (E σ)) (M : Mk G.K (G.ca c) (G.fa f)) (hg : Gl X x) (hm : X.mg x = some (.ref (G.ca c))) (ha : PA X (e :: es) (rdA G n0 fa))
    (hdb : (x == ("__debug__" : Str)) = false := by decide) (he : starEach (e :: es) X.env = (false, eval e X.env) :: starEach es X.env := by rfl) (hpl : (backTo pos (starEach es X.env)).any (·.1) = false := by rfl) :
    PE X (.Call (.Name x p) (e :: es) [] pos) (rdEX G n0 E (eMake cf np c f (nxA fa))) := by
  refine peI (pe_makeN (E := E) (T.hK ▸ M) F1 T.room hx hg hm ha hdb he hpl) fun σ H Q ⟨F, r, env, S, g, s, h⟩ => ?_
  refine stAX s h fun q S1 F1 r1 H1 us x1 s1 q1 h1 => ?_
  split at h1
  · rename_i hl
    intro x dx hx hd hne
    have hc := (s1.hr.call).heap (H' := upd H1 dx (.own x)) fun a o e => by rw [upd_ne (ne_of_none e hd)]; exact e
    obtain ⟨h2, rf⟩ := new_obj (v := .ins c [] []) (ho := .ins (G.ca c) dx []) hc (by rw [upd_ne hne.symm]; exact hx) ⟨dx, [], rfl, rfl, rfl⟩ rfl
    obtain ⟨r2, x2, h3, q3⟩ := store_new h2 rf
    refine ⟨F1, r2, S1 ++ [.ins c [] []], subG n0 g S1.length, S1.length, .ref S1.length :: q, h3, ⟨_, us, rfl, q3, q1.ext x2⟩, hl, ?_⟩
    cases ec : cf f (.ref S1.length :: q) S1.length (S1 ++ [.ins c [] []]) with
    | no => rw [ec] at h1; exact h1
    | ex k p S2 =>
      rw [ec] at h1
      have h1 : ∀ F' r' H', Ext F F' r r' → HR G n0 g F' r' (S2.take S1.length) H' → XE (E σ) (.ref (G.ca k)) p H' := h1
      intro F3 r3 H3 x3 h4
      have h5 := frz_hr h4 S2.length
      have le := frF_le h4 S2.length
      rw [take_ext s1.hr (x2.trans x3)] at h5
      exact h1 _ r1 H3 (x1.trans ⟨(x2.trans x3).1.trans le, List.prefix_refl r1⟩) (s1.hr.back h5)
    | ok v S2 =>
      rw [ec] at h1
      intro F3 r3 H3 u x3 h4 q4
      cases v with
      | non =>
        refine ⟨q4, ?_⟩
        have h1 : PoEX G n0 (E σ) g F r env σ (norm S1.length (.ref S1.length) S2) Q := h1
        cases en : norm S1.length (.ref S1.length) S2 with
        | no => rw [en] at h1; exact h1.elim
        | ex => exact (norm_ex en).elim
        | ok p S3 =>
          rw [en] at h1
          obtain ⟨b, w⟩ := p
          obtain ⟨F4, x4, h5, q5⟩ := norm_ok h4 (RV.ext x3 q3) en
          rw [take_ext s1.hr (x2.trans x3)] at h5 q5
          have x5 : Ext F1 F4 r1 r1 := ⟨(x2.trans x3).1.trans x4, List.prefix_refl r1⟩
          exact h1 F4 r1 H3 _ (x1.trans x5) (s1.ext x5 (s1.hr.back h5)) q5
      | _ => exact h1.elim
  · exact h1.elim
end
section
variable {X : Cx} {G : Gam} {n0 : Nat} {E : XK}
theorem ss_rseN {c : Nat} {x m : Str} {j : Nat} {p p2 pos pos2 : Pos} (hG : G.K = X.K) (hc : X.calm = true) (tk : L2N.Takes X fun cls d _ H => E cls d H) (hk : excB G.K (G.ca c) = true) (hm : X.mg x = some (.ref (G.ca c))) (hg : Gl X x) (hx : (x == PySem.Str.ofString "__debug__") = false := by rfl) :
    PS X (.Raise (some (.Call (.Name x p) [.Constant (.str m) j p2] [] pos)) none pos2) (rdS G n0 E (sRse c)) := by
  rw [hG] at hk
  unfold excB at hk
  simp only [Bool.and_eq_true, decide_eq_true_eq] at hk
  obtain ⟨h1, h2, h3, h4, h5⟩ := hk
  exact psI (L2N.ps_raise hc tk (L2N.pmk_own PySem.F.excBase_ValueError h1 hm h2 (raises_own h3 h4) hg hx)) fun D σ H ⟨F, r, env, S, g, s, h⟩ => h F r H (.refl F r) s.hr none rfl
end
section
variable {X : Cx} {G : Gam} {n0 : Nat} {cf : CF} {k : Nat} {hs : List Nat}
theorem ss_tryN {C : Str} {b₀ : Stmt} {e : Expr} {c : Nat} {E : XK} {rest suite : List Stmt} {fb : SE} {fr fs : SS} {mt : Nat → Bool} {pe hp pn_ pt : Pos} (hK : G.K = X.K)
    (hs : X.stack = X.env :: X.outer) (hf : X.env.frame = some X.env.locals) (hC : Names X C (xVal G c)) (hmt : ∀ k, mt k = true → PySem.W.exmOne G.K (xVal G k) (xVal G c) = some true)
    (he : ∀ pn xe (W : WX), L2N.Takes (X.tr pn xe) W → PE (X.tr pn xe) e (rdEX G n0 (WE W) fb))
    (hr : ∀ pn xe, PSs (X.tr pn xe) rest (rdS G n0 (fun _ _ _ => False) fr)) (hsu : ∀ a oe pn, HotC (X.suite a ((a, oe) :: pn)) → PSs (X.suite a ((a, oe) :: pn)) (b₀ :: suite) (rdS G n0 (fun _ _ _ => False) fs))
    (hsw : PySem.swapsWith e none pe.line X.env = pure false := by rfl) :
    PS X (.Try (.Expr e pe :: rest) [.ExceptHandler (some (.Name C pn_)) none (b₀ :: suite) hp] [] [] pt) (rdS G n0 E (sTryE fb fr mt fs)) := by
  refine psI (L2N.ps_try_many hs hf (Wout := fun _ _ _ _ => False) (fun u s' ⟨a, B, sI, pins, σ, H, cls, d, e, I, nb, up, sky, na, os, ag, w⟩ => w.elim) (l := [(xVal G c, fun _ _ _ => rdS G n0 (fun _ _ _ => False) fs)]) (tb := fun W => tSeq (tDrop (rdVX G n0 (WE W) fb)) (rdS G n0 (fun _ _ _ => False) fr))
    (fun W pn xe tk _ => pss_cons (ps_expr (toVX (he pn xe W tk)) hsw) (hr pn xe))
    (.cons hC (fun a oe cls d pn hz ⟨vs, hv⟩ => hsu a oe pn ⟨(a, oe), ⟨rfl, vs, hv, hz.2.2 vs hv⟩, List.mem_cons_self⟩) .nil)) fun D σ H ⟨F, r, env, S, g, s, h⟩ => ?_
  refine ⟨F, r, env, S, g, s, ?_⟩
  unfold sTryE at h
  cases ea : fb env S with
  | no => rw [ea] at h; exact h.elim
  | ok p S1 =>
    rw [ea] at h
    intro F1 r1 H1 u x1 s1 q1
    exact goS s1 x1 h.nox
  | ex k p S1 =>
    rw [ea] at h
    intro F1 r1 H1 x1 h1
    have h : PoS G n0 E g F r (if mt k = true then (fs env S1).nox else .no) D := h
    cases em : mt k with
    | false => rw [em] at h; exact h.elim
    | true =>
      rw [em, if_pos rfl] at h
      exact fun d _ => ⟨true, hK ▸ hmt k em, fun _ a _ => goS (s.ext x1 h1) x1 h.nox, fun e => absurd e (by simp)⟩
end
section
variable {P : Program} {w : World} {K : PySem.W.Frag} {mg : Str → Option Value} {base : Heap} {G : Gam}
theorem def_fnN {T : Nat → Option FnB} {n f : Nat} {b : FnB} {x qual : Str} {params : Arguments} {body : List Stmt} {scope : Scope} {fd : FuncData} {N ps : List Str} (hT : T f = some b) (F : FunD K x qual params body scope [] [] (G.fa f) fd) (S : FnScope N ps scope) (hn : b.nl = N.length) (hp : ps.length = b.np)
    (hbody : ∀ (cdv : Value) (A : Around) (outer : List PySem.Env) (s : Shared) (H : Hp) (E : XK) (n0 : Nat), Room (4 * n + 3) (A.deeper (envOfC qual scope s.heap.objs.size (G.fa f) cdv)) → L2N.Takes (cxOf (L2N.CX P w) P w K mg base N qual scope (G.fa f) cdv A outer s H E) (fun cls d _ H => E cls d H) →
      PSs (cxOf (L2N.CX P w) P w K mg base N qual scope (G.fa f) cdv A outer s H E) body (rdS G n0 E (b.body (callF T n) n0))) : FnOk P w K mg base (L2N.CX P w) (4 * (n + 1)) (G.fa f) fd ps (spF G (callF T (n + 1)) f b.np) :=
  F.ok S (fun vs H Q E h => by rw [spF_len vs H Q E h, hp]) fun cdv A outer s H vs Q E hr h => by
    obtain ⟨n0, hb⟩ := body_ok hT hn h
    exact ⟨_, hbody cdv A outer s H E n0 hr (L2N.takes_of rfl rfl rfl rfl), hb⟩
theorem def_okN {T : Nat → Option FnB} {n f : Nat} {b : FnB} {x qual : Str} {params : Arguments} {body : List Stmt} {scope : Scope} {fd : FuncData} {N ps : List Str} (hT : T f = some b) (F : FunD K x qual params body scope [] [] (G.fa f) fd) (S : FnScope N ps scope) (hn : b.nl = N.length) (hp : ps.length = b.np)
    (hb : Binds K fd ps []) (hbody : ∀ (cdv : Value) (A : Around) (outer : List PySem.Env) (s : Shared) (H : Hp) (E : XK) (n0 : Nat), Room (4 * n + 3) (A.deeper (envOfC qual scope s.heap.objs.size (G.fa f) cdv)) → L2N.Takes (cxOf (L2N.CX P w) P w K mg base N qual scope (G.fa f) cdv A outer s H E) (fun cls d _ H => E cls d H) →
      PSs (cxOf (L2N.CX P w) P w K mg base N qual scope (G.fa f) cdv A outer s H E) body (rdS G n0 E (b.body (callF T n) n0))) : ∀ np, FnR P w K mg base (L2N.CX P w) (4 * (n + 1)) (G.fa f) (spF G (callF T (n + 1)) f np) := by
  have ok := def_fnN hT F S hn hp hbody
  intro np A outer s H us vs Q E hr he hv hs
  have e := spF_np hT hs
  subst e
  exact (ok.raw hb .nil) A outer s H us vs Q E hr he hv (by show spF G (callF T (n + 1)) f b.np (vs ++ []) H Q E; rw [List.append_nil]; exact hs)
theorem tbQ_suite {X : Cx} {cf : CF} {k : Nat} {hs : List Nat} {a : Addr} {oe : Obj} {pn : List (Addr × Obj)} (hK : G.K = X.K) (hr : Room (k + 1) X.A) (hot : HotC (X.suite a ((a, oe) :: pn))) (hc : ∀ f np, f ∈ hs → ∃ fd ps, FnH X.prog X.w X.K X.mg X.base (L2.CX X.prog X.w) k (G.fa f) fd ps (spF G cf f np) ∧ Binds X.K fd ps []) : TbQ (X.suite a ((a, oe) :: pn)) G cf k hs :=
  ⟨hK, hc, ⟨hr.dp, hr.un⟩, hot⟩
end
end PX
set_option Elab.async false
set_option linter.all false
set_option maxRecDepth 100000
set_option maxHeartbeats 1000000
namespace PX
open PySem PySem.Spec PyProof.Rows L2 L2H
def eLenQ (a : SE) : SE := eArg bLen (aCons a aNil)
section
variable {X : Cx} {G : Gam} {n0 : Nat} {cf : CF} {k : Nat} {hs : List Nat} {fa fb : SE} {a b : Expr} {pos : Pos} {E : XK}
theorem se_eqQQ (T : TbQ X G cf k hs) (ha : PE X a (rdE G n0 fa)) (hb : PE X b (rdE G n0 fb)) (hm : behindInMarks .Eq b = false) : PE X (.Compare a [.Eq] [b] pos) (rdE G n0 (eBin oEqQ fa fb)) :=
  se_cmp (op_eqQ (un65Q T)) (T.hK ▸ ok_eqQ) ha hb hm
theorem st_eqQQ (T : TbQ X G cf k hs) (ha : PE X a (rdE G n0 fa)) (hb : PE X b (rdE G n0 fb)) (hm : behindInMarks .Eq b = false) : PT X (.Compare a [.Eq] [b] pos) (rdT G n0 (tBl (eBin oEqQ fa fb))) := st_cmp (op_eqQ (un65Q T)) (T.hK ▸ ok_eqQ) ha hb hm
theorem st_neQQ (T : TbQ X G cf k hs) (ha : PE X a (rdE G n0 fa)) (hb : PE X b (rdE G n0 fb)) (hm : behindInMarks .NotEq b = false) : PT X (.Compare a [.NotEq] [b] pos) (rdT G n0 (tBl (eBin oNeQ fa fb))) := st_cmp (op_neQ (un65Q T)) (T.hK ▸ ok_neQ) ha hb hm
theorem se_ixQQ (T : TbQ X G cf k hs) (ha : PE X a (rdE G n0 fa)) (hb : PE X b (rdE G n0 fb)) (hs : PlainIx b) (hsl : ∀ x i, subscripted b true (.ref x) i = runValue (.builtin "lifetime.subscript" ⟨[.ref x, i], []⟩)) : PE X (.Subscript a b pos) (rdE G n0 (eBin oIx fa fb)) := se_ixQ T.hK ha hb hs
theorem se_lenQQ {e : Expr} {fe : SE} {p : Pos} (T : TbQ X G cf k hs) (hg : Gl X "len") (hm : X.mg "len" = none) (he : PE X e (rdE G n0 fe))
    (hb : bootBuiltins "len" = some (.builtin "len") := by rfl) (hs : starEach [e] X.env = (false, eval e X.env) :: starEach [] X.env := by rfl) (hpl : (backTo pos (starEach [] X.env)).any (·.1) = false := by rfl) :
    PE X (.Call (.Name "len" p) [e] [] pos) (rdE G n0 (eLenQ fe)) := se_argB (pe_callB cr_lenQ hg hm hb (sa_cons he sa_nil hs) (by decide) (by decide) hs hpl) (T.hK ▸ ok_len)
theorem Tb.trX (T : Tb X G cf k) (pn : List (Addr × Obj)) (xe : Value → Shared → Prop) : Tb (X.tr pn xe) G cf k := ⟨T.hK, T.call, T.room, T.calm⟩
theorem exc_mt {c : Nat} (h : excB G.K (G.ca c) = true) : ∀ k, decide (k = c) = true → PySem.W.exmOne G.K (xVal G k) (xVal G c) = some true := fun k e => by
  have e := of_decide_eq_true e
  subst e
  unfold excB at h
  simp only [Bool.and_eq_true, decide_eq_true_eq] at h
  exact h.2.2.2.2
theorem ss_nev {st : Stmt} {ev : SS} (h : ∀ env S, ev env S = .no) : PS X st (rdS G n0 E ev) := psI ps_never fun D σ H ⟨F, r, env, S, g, s, q⟩ => by rw [h] at q; exact q
end
theorem make_0 {T : Nat → Option FnB} {np c f : Nat} {fa : SA} (env : Env) (S : Store) : eMake (callF T 0) np c f (nxA fa) env S = .no := by
  unfold eMake nxA
  cases fa env S with
  | ok q S1 =>
    show (if _ then _ else _) = _
    split <;> rfl
  | ex => rfl
  | no => rfl
theorem tryE_0 {T : Nat → Option FnB} {np c f : Nat} {fa : SA} {r fs : SS} {mt : Nat → Bool} (env : Env) (S : Store) : sTryE (eMake (callF T 0) np c f (nxA fa)) r mt fs env S = .no := by
  unfold sTryE
  rw [make_0]
section
variable {P : Program} {w : World} {K : PySem.W.Frag} {mg : Str → Option Value} {base : Heap} {G : Gam}
abbrev FnQ (P : Program) (w : World) (K : PySem.W.Frag) (mg : Str → Option Value) (base : Heap) (G : Gam) (k : Nat) (cf : CF) (f np : Nat) : Prop := ∃ fd ps, FnH P w K mg base (L2.CX P w) k (G.fa f) fd ps (spF G cf f np) ∧ Binds K fd ps []
theorem FnQ.mono {k k' : Nat} {cf : CF} {f np : Nat} (h : FnQ P w K mg base G k cf f np) (hk : k ≤ k') : FnQ P w K mg base G k' cf f np := by
  obtain ⟨fd, ps, F, b⟩ := h
  exact ⟨fd, ps, ⟨F.len, fun A outer s H args us vs Q E p hr => F.run A outer s H args us vs Q E p (hr.mono hk)⟩, b⟩
abbrev DQ (P : Program) (w : World) (K : PySem.W.Frag) (mg : Str → Option Value) (base : Heap) (G : Gam) (N : List Str) (qual : Str) (pl : Stmt) (f : Addr) (k : Nat) (ev : Nat → SS) : Prop :=
  ∀ (cdv : Value) (A : Around) (outer : List PySem.Env) (s : Shared) (H : Hp) (E : XK) (n0 : Nat) (p : Addr × Obj), Hot1 A p → RoomH k (A.deeper (envOfC qual (defScope pl) s.heap.objs.size f cdv)) →
    PSs (cxH (L2.CX P w) P w K mg base N qual (defScope pl) f cdv A outer s H E p) (defBody pl) (rdS G n0 E (ev n0))
theorem def_okQk {T : Nat → Option FnB} {n f k : Nat} {b : FnB} {x qual : Str} {params : Arguments} {body : List Stmt} {scope : Scope} {fd : FuncData} {N ps : List Str} (hT : T f = some b) (F : FunD K x qual params body scope [] [] (G.fa f) fd) (S : FnScope N ps scope) (hn : b.nl = N.length) (hp : ps.length = b.np) (hb : Binds K fd ps [])
    (hbody : ∀ (cdv : Value) (A : Around) (outer : List PySem.Env) (s : Shared) (H : Hp) (E : XK) (n0 : Nat) (p : Addr × Obj), Hot1 A p → RoomH k (A.deeper (envOfC qual scope s.heap.objs.size (G.fa f) cdv)) →
      PSs (cxH (L2.CX P w) P w K mg base N qual scope (G.fa f) cdv A outer s H E p) body (rdS G n0 E (b.body (callF T n) n0))) (np : Nat) : FnQ P w K mg base G (k + 1) (callF T (n + 1)) f np := by
  have ok : FnH P w K mg base (L2.CX P w) (k + 1) (G.fa f) fd ps (spF G (callF T (n + 1)) f b.np) := by
    obtain ⟨oc, od, dV, kV, doc, pm, an, cdv, ct, osl, rfl, lk, hcd, _, _⟩ := F.ex
    exact fn_ofH (k := k) lk hcd S (fun vs H Q E h => by rw [spF_len vs H Q E h, hp]) fun A outer s H vs Q E p hot hr h => by
      obtain ⟨n0, hb⟩ := body_ok hT hn h
      exact ⟨_, hbody cdv A outer s H E n0 p hot hr, hb⟩
  refine ⟨fd, ps, ⟨fun vs H Q E h => ?_, fun A outer s H args us vs Q E p hr hot hpin e0 b r hsp => ?_⟩, hb⟩
  · have e := spF_np hT h
    subst e
    exact ok.len vs H Q E h
  · have e := spF_np hT hsp
    subst e
    exact ok.run A outer s H args us vs Q E p hr hot hpin e0 b r hsp
theorem zero_N {T : Nat → Option FnB} {f : Nat} (np : Nat) : FnR P w K mg base (L2N.CX P w) (4 * 0) (G.fa f) (spF G (callF T 0) f np) := fun A outer s H us vs Q E hr he hv hs => by
  obtain ⟨F, r, S, g, n0, args, hr, q, l, h⟩ := hs
  exact h.elim
end
end PX
set_option Elab.async false
set_option linter.all false
set_option maxRecDepth 100000
namespace PX.K69
open PySem PX
noncomputable def b0 : FnB := ⟨3, 3, fun cf n0 => (sRet (eAn (eIsi [(.non, false), (.bl, true), (.int, true), (.str, false), (.tup, false), (.lst, false), (.dct, false), (.own 0, false), (.own 1, false), (.own 2, false), (.own 3, false), (.own 4, false)] (eVar 0)) (eAn (eNot (eIsi [(.non, false), (.bl, true), (.int, false), (.str, false), (.tup, false), (.lst, false), (.dct, false), (.own 0, false), (.own 1, false), (.own 2, false), (.own 3, false), (.own 4, false)] (eVar 0))) (eCh oLe oLe (eVar 1) (eVar 0) (eVar 2)))))⟩
noncomputable def b1 : FnB := ⟨2, 3, fun cf n0 => (sCons (sIf (tOr (tNo (tTru (eIsi [(.non, false), (.bl, false), (.int, false), (.str, false), (.tup, true), (.lst, true), (.dct, false), (.own 0, false), (.own 1, false), (.own 2, false), (.own 3, false), (.own 4, false)] (eVar 1)))) (tNo (tBl (eCh oLe oLe (eLit (.int 1)) (eLenG cf [(0, 3), (4, 33)] (eVar 1)) (eLit (.int (12))))))) (sRse 6) sNil) (sCons (sIf (tNo (tTru (eArg bAll (aCons (eLc (iSeqH (eVar 1)) (gNm 2) [2] tYesP (eCall cf 3 0 (aCons (eVar 2) (aCons (eLit (.int 0)) (aCons (eLit (.int (9))) aNil))))) aNil)))) (sRse 6) sNil) (sFld n0 [0] 0 (eVar 0) (eArg bTuple (aCons (eVar 1) aNil)))))⟩
noncomputable def b2 : FnB := ⟨2, 2, fun cf n0 => (sRet (eAn (eIsi [(.non, false), (.bl, false), (.int, false), (.str, false), (.tup, false), (.lst, false), (.dct, false), (.own 0, true), (.own 1, false), (.own 2, false), (.own 3, false), (.own 4, false)] (eVar 1)) (eEqQ cf [(0, 2), (1, 11), (2, 20), (3, 23), (4, 32)] [.non, .bl, .int, .str, .tup, .lst, .dct, .own 0, .own 1, .own 2, .own 3, .own 4] (eFld [0] 0 (eVar 0)) (eFld [0] 0 (eVar 1)))))⟩
noncomputable def b3 : FnB := ⟨1, 1, fun cf n0 => (sRet (eLenG cf [(0, 3), (4, 33)] (eFld [0] 0 (eVar 0))))⟩
noncomputable def b4 : FnB := ⟨2, 2, fun cf n0 => (sCons (sIf (tNo (tTru (eCall cf 3 0 (aCons (eVar 1) (aCons (eLit (.int 0)) (aCons (eBin oSub (eLenG cf [(0, 3), (4, 33)] (eFld [0] 0 (eVar 0))) (eLit (.int 1))) aNil)))))) (sRse 8) sNil) (sRet (eIx cf [(0, 4)] (eFld [0] 0 (eVar 0)) (eVar 1))))⟩
noncomputable def b5 : FnB := ⟨1, 1, fun cf n0 => sNo⟩
noncomputable def b6 : FnB := ⟨1, 1, fun cf n0 => (sRet (eArg bSum (aCons (eFld [0] 0 (eVar 0)) aNil)))⟩
noncomputable def b7 : FnB := ⟨1, 1, fun cf n0 => (sIf (tNo (tTru (eIsi [(.non, false), (.bl, false), (.int, false), (.str, false), (.tup, false), (.lst, false), (.dct, false), (.own 0, true), (.own 1, false), (.own 2, false), (.own 3, false), (.own 4, false)] (eVar 0)))) (sRse 7) sNil)⟩
noncomputable def b8 : FnB := ⟨3, 3, fun cf n0 => (sIf (tNo (tTru (eCall cf 3 0 (aCons (eVar 0) (aCons (eVar 1) (aCons (eVar 2) aNil)))))) (sRse 10) sNil)⟩
noncomputable def b9 : FnB := ⟨2, 4, fun cf n0 => (sCons (sIf (tOr (tNo (tTru (eIsi [(.non, false), (.bl, false), (.int, false), (.str, false), (.tup, true), (.lst, true), (.dct, false), (.own 0, false), (.own 1, false), (.own 2, false), (.own 3, false), (.own 4, false)] (eVar 0)))) (tBl (eBin oGt (eLenG cf [(0, 3), (4, 33)] (eVar 0)) (eLit (.int (30)))))) sNo sNil) (sCons (sFor (iEnu (eVar 0)) (gTp [(gNm 2), (gNm 3)]) (sIf (tNo (tTru (eCall cf 3 0 (aCons (eVar 3) (aCons (eLit (.int 0)) (aCons (eBin oSub (eLit (.int (12))) (eLit (.int 1))) aNil)))))) sNo sNil)) (sExp (eCall cf 3 8 (aCons (eVar 1) (aCons (eLit (.int 1)) (aCons (eLit (.int (6))) aNil)))))))⟩
noncomputable def b10 : FnB := ⟨3, 4, fun cf n0 => (sCons (sFld n0 [1] 1 (eVar 0) (eArg bDictG (aCons (eVar 1) aNil))) (sFld n0 [1] 2 (eVar 0) (eLc (iSeqH (eVar 2)) (gNm 3) [3] tYesP (eArg bTuple (aCons (eVar 3) aNil)))))⟩
noncomputable def b11 : FnB := ⟨2, 2, fun cf n0 => (sRet (eAn (eIsi [(.non, false), (.bl, false), (.int, false), (.str, false), (.tup, false), (.lst, false), (.dct, false), (.own 0, false), (.own 1, true), (.own 2, false), (.own 3, false), (.own 4, false)] (eVar 1)) (eEqQ cf [(0, 2), (1, 11), (2, 20), (3, 23), (4, 32)] [.non, .bl, .int, .str, .tup, .lst, .dct, .own 0, .own 1, .own 2, .own 3, .own 4] (eTup (aCons (eFld [1] 1 (eVar 0)) (aCons (eFld [1] 2 (eVar 0)) aNil))) (eTup (aCons (eFld [1] 1 (eVar 1)) (aCons (eFld [1] 2 (eVar 1)) aNil))))))⟩
noncomputable def b12 : FnB := ⟨3, 7, fun cf n0 => (sCons (sExp (eCall cf 2 9 (aCons (eVar 1) (aCons (eVar 2) aNil)))) (sCons (sAsg (gNm 3) (eLc2 (iSeqH (eFld [1] 2 (eVar 0))) (gNm 4) [4, 5] tYesP (iSeqH (eVar 4)) (gNm 5) [5] tYesP (eVar 5))) (sCons (sIf (tOr (tNo (tTru (eArg bAll (aCons (eLc (iSeqH (eVar 3)) (gNm 5) [5] tYesP (eCall cf 3 0 (aCons (eVar 5) (aCons (eLit (.int 0)) (aCons (eBin oSub (eLenG cf [(0, 3), (4, 33)] (eVar 1)) (eLit (.int 1))) aNil))))) aNil)))) (tBl (eNeQ cf [(0, 2), (1, 11), (2, 20), (3, 23), (4, 32)] [.non, .bl, .int, .str, .tup, .lst, .dct, .own 0, .own 1, .own 2, .own 3, .own 4] (eArg bLset (aCons (eVar 3) aNil)) (eLenG cf [(0, 3), (4, 33)] (eVar 3))))) (sRet (eLit (.bl false))) sNil) (sCons (sIf (tOr (tNo (tTru (eArg bAll (aCons (eLc (iSeqH (eFld [1] 2 (eVar 0))) (gNm 4) [4] tYesP (eCall cf 3 13 (aCons (eVar 1) (aCons (eVar 2) (aCons (eVar 4) aNil))))) aNil)))) (tBl (eBin oGt (eLenG cf [(0, 3), (4, 33)] (eFld [1] 1 (eVar 0))) (eVar 2)))) (sRet (eLit (.bl false))) sNil) (sRet (eEqQ cf [(0, 2), (1, 11), (2, 20), (3, 23), (4, 32)] [.non, .bl, .int, .str, .tup, .lst, .dct, .own 0, .own 1, .own 2, .own 3, .own 4] (eFld [1] 1 (eVar 0)) (eCall cf 1 14 (aCons (eLc (iEnu (eVar 1)) (gTp [(gNm 5), (gNm 6)]) [5, 6] (tBl (eBin oNotIn (eVar 5) (eVar 3))) (eVar 6)) aNil))))))))⟩
noncomputable def b13 : FnB := ⟨3, 4, fun cf n0 => (sCons (sIf (tOr (tBl (eNeQ cf [(0, 2), (1, 11), (2, 20), (3, 23), (4, 32)] [.non, .bl, .int, .str, .tup, .lst, .dct, .own 0, .own 1, .own 2, .own 3, .own 4] (eLenG cf [(0, 3), (4, 33)] (eVar 2)) (eBin oCat (eVar 1) (eLit (.int 1))))) (tBl (eNeQ cf [(0, 2), (1, 11), (2, 20), (3, 23), (4, 32)] [.non, .bl, .int, .str, .tup, .lst, .dct, .own 0, .own 1, .own 2, .own 3, .own 4] (eArg bListK (aCons (eVar 2) aNil)) (eArg bSortH (aCons (eVar 2) aNil))))) (sRet (eLit (.bl false))) sNil) (sRet (eEqQ cf [(0, 2), (1, 11), (2, 20), (3, 23), (4, 32)] [.non, .bl, .int, .str, .tup, .lst, .dct, .own 0, .own 1, .own 2, .own 3, .own 4] (eArg bLset (aCons (eLc (iSeqH (eVar 2)) (gNm 3) [3] tYesP (eIx cf [(0, 4)] (eVar 0) (eVar 3))) aNil)) (eLenG cf [(0, 3), (4, 33)] (eVar 2)))))⟩
noncomputable def b14 : FnB := ⟨1, 3, fun cf n0 => (sCons (sAsg (gNm 1) (eNew eDnK)) (sCons (sFor (iSeqH (eVar 0)) (gNm 2) (sSetI (setG n0) (eVar 1) (eVar 2) (eBin oCat (eGet2 (eVar 1) (eVar 2) (eLit (.int 0))) (eLit (.int 1))))) (sRet (eVar 1))))⟩
noncomputable def b15 : FnB := ⟨2, 4, fun cf n0 => (sCons (sIf (tOr (tNo (tTru (eIsi [(.non, false), (.bl, false), (.int, false), (.str, false), (.tup, false), (.lst, false), (.dct, true), (.own 0, false), (.own 1, false), (.own 2, false), (.own 3, false), (.own 4, false)] (eVar 0)))) (tBl (eBin oGt (eLenG cf [(0, 3), (4, 33)] (eVar 0)) (eVar 1)))) (sRet (eLit (.bl false))) sNil) (sCons (sIf (tNo (tTru (eArg bAll (aCons (eLc (iSeqH (eVar 0)) (gNm 3) [3] tYesP (eCall cf 3 0 (aCons (eVar 3) (aCons (eLit (.int 0)) (aCons (eBin oSub (eLit (.int (12))) (eLit (.int 1))) aNil))))) aNil)))) (sRet (eLit (.bl false))) sNil) (sRet (eArg bAll (aCons (eLc (iVls (eVar 0)) (gNm 2) [2] tYesP (eCall cf 3 0 (aCons (eVar 2) (aCons (eLit (.int 1)) (aCons (eLit (.int (30))) aNil))))) aNil)))))⟩
noncomputable def b16 : FnB := ⟨3, 7, fun cf n0 => (sCons (sExp (eCall cf 3 8 (aCons (eVar 2) (aCons (eLit (.int 1)) (aCons (eLit (.int (6))) aNil))))) (sCons (sIf (tOr (tNo (tTru (eCall cf 2 15 (aCons (eVar 0) (aCons (eVar 2) aNil))))) (tNo (tTru (eCall cf 2 15 (aCons (eVar 1) (aCons (eVar 2) aNil)))))) (sRse 12) sNil) (sCons (sAsg (gNm 3) (eArg bDictG (aCons (eLc (iRg1 (eLit (.int (12)))) (gNm 5) [5] tYesP (eTup (aCons (eVar 5) (aCons (eBin oCat (eGet2 (eVar 0) (eVar 5) (eLit (.int 0))) (eGet2 (eVar 1) (eVar 5) (eLit (.int 0)))) aNil)))) aNil))) (sCons (sAsg (gNm 4) (eSrtV true (eVar 3))) (sRet (eArg bDictG (aCons (eLc (iItm (eVar 3)) (gTp [(gNm 5), (gNm 6)]) [5, 6] (tBl (eBin oGt (eVar 6) (eIx cf [(0, 4)] (eVar 4) (eVar 2)))) (eTup (aCons (eVar 5) (aCons (eBin oSub (eVar 6) (eIx cf [(0, 4)] (eVar 4) (eVar 2))) aNil)))) aNil)))))))⟩
noncomputable def b17 : FnB := ⟨2, 2, fun cf n0 => (sCons (sExp (eCall cf 1 7 (aCons (eVar 0) aNil))) (sCons (sExp (eCall cf 1 7 (aCons (eVar 1) aNil))) (sIf (tOr (tBl (eNeQ cf [(0, 2), (1, 11), (2, 20), (3, 23), (4, 32)] [.non, .bl, .int, .str, .tup, .lst, .dct, .own 0, .own 1, .own 2, .own 3, .own 4] (eLenG cf [(0, 3), (4, 33)] (eVar 0)) (eLenG cf [(0, 3), (4, 33)] (eVar 1)))) (tBl (eNeQ cf [(0, 2), (1, 11), (2, 20), (3, 23), (4, 32)] [.non, .bl, .int, .str, .tup, .lst, .dct, .own 0, .own 1, .own 2, .own 3, .own 4] (eMeth cf 1 6 [(0, 6)] (eVar 0) aNil) (eMeth cf 1 6 [(0, 6)] (eVar 1) aNil)))) (sRse 13) sNil)))⟩
noncomputable def b18 : FnB := ⟨1, 1, fun cf n0 => (sRet (eNew (eSrt true (eFld [0] 0 (eVar 0)))))⟩
noncomputable def b19 : FnB := ⟨2, 3, fun cf n0 => (sFld n0 [2] 7 (eVar 0) (eLc (iSeqH (eVar 1)) (gNm 2) [2] tYesP (eArg bTuple (aCons (eVar 2) aNil))))⟩
noncomputable def b20 : FnB := ⟨2, 2, fun cf n0 => (sRet (eAn (eIsi [(.non, false), (.bl, false), (.int, false), (.str, false), (.tup, false), (.lst, false), (.dct, false), (.own 0, false), (.own 1, false), (.own 2, true), (.own 3, false), (.own 4, false)] (eVar 1)) (eEqQ cf [(0, 2), (1, 11), (2, 20), (3, 23), (4, 32)] [.non, .bl, .int, .str, .tup, .lst, .dct, .own 0, .own 1, .own 2, .own 3, .own 4] (eFld [2] 7 (eVar 0)) (eFld [2] 7 (eVar 1)))))⟩
noncomputable def b21 : FnB := ⟨3, 7, fun cf n0 => (sCons (sExp (eCall cf 2 17 (aCons (eVar 1) (aCons (eVar 2) aNil)))) (sCons (sAsg (gNm 3) (eNew (eCall cf 1 18 (aCons (eVar 1) aNil)))) (sCons (sFor (iSeqH (eFld [2] 7 (eVar 0))) (gTp [(gNm 4), (gNm 5)]) (sCons (sIf (tNo (tTru (eArg bAll (aCons (eLc (iSeqH (eTup (aCons (eVar 4) (aCons (eVar 5) aNil)))) (gNm 6) [6] tYesP (eCall cf 3 0 (aCons (eVar 6) (aCons (eLit (.int 0)) (aCons (eBin oSub (eLenG cf [(0, 3), (4, 33)] (eVar 3)) (eLit (.int 1))) aNil))))) aNil)))) (sRet (eLit (.bl false))) sNil) (sCons (sIf (tBl (eBin oLt (eIx cf [(0, 4)] (eVar 3) (eVar 4)) (eBin oCat (eIx cf [(0, 4)] (eVar 3) (eVar 5)) (eLit (.int 2))))) (sRet (eLit (.bl false))) sNil) (sCons (sAugI oSub oGet (setG n0) (eVar 3) (eVar 4) (eLit (.int 1))) (sAugI oAdd oGet (setG n0) (eVar 3) (eVar 5) (eLit (.int 1))))))) (sRet (eAn (eEqQ cf [(0, 2), (1, 11), (2, 20), (3, 23), (4, 32)] [.non, .bl, .int, .str, .tup, .lst, .dct, .own 0, .own 1, .own 2, .own 3, .own 4] (eSrt true (eVar 3)) (eCall cf 1 18 (aCons (eVar 2) aNil))) (eEqQ cf [(0, 2), (1, 11), (2, 20), (3, 23), (4, 32)] [.non, .bl, .int, .str, .tup, .lst, .dct, .own 0, .own 1, .own 2, .own 3, .own 4] (eLenG cf [(0, 3), (4, 33)] (eFld [2] 7 (eVar 0))) (eCall cf 2 25 (aCons (eVar 1) (aCons (eVar 2) aNil)))))))))⟩
noncomputable def b22 : FnB := ⟨2, 2, fun cf n0 => (sFld n0 [3] 8 (eVar 0) (eVar 1))⟩
noncomputable def b23 : FnB := ⟨2, 2, fun cf n0 => (sRet (eAn (eIsi [(.non, false), (.bl, false), (.int, false), (.str, false), (.tup, false), (.lst, false), (.dct, false), (.own 0, false), (.own 1, false), (.own 2, false), (.own 3, true), (.own 4, false)] (eVar 1)) (eEqQ cf [(0, 2), (1, 11), (2, 20), (3, 23), (4, 32)] [.non, .bl, .int, .str, .tup, .lst, .dct, .own 0, .own 1, .own 2, .own 3, .own 4] (eFld [3] 8 (eVar 0)) (eFld [3] 8 (eVar 1)))))⟩
noncomputable def b24 : FnB := ⟨3, 3, fun cf n0 => (sCons (sExp (eCall cf 2 17 (aCons (eVar 1) (aCons (eVar 2) aNil)))) (sCons (sIf (tNo (tTru (eCall cf 3 0 (aCons (eFld [3] 8 (eVar 0)) (aCons (eLit (.int 1)) (aCons (eLenG cf [(0, 3), (4, 33)] (eVar 1)) aNil)))))) (sRet (eLit (.bl false))) sNil) (sRet (eBin oLt (eArg bSum (aCons (eSl (eCall cf 1 18 (aCons (eVar 1) aNil)) pNo (pSo (eFld [3] 8 (eVar 0)))) aNil)) (eArg bSum (aCons (eSl (eCall cf 1 18 (aCons (eVar 2) aNil)) pNo (pSo (eFld [3] 8 (eVar 0)))) aNil))))))⟩
noncomputable def b25 : FnB := ⟨2, 4, fun cf n0 => (sRet (eArg bSum (aCons (eLc (iZip (eCall cf 1 18 (aCons (eVar 0) aNil)) (eCall cf 1 18 (aCons (eVar 1) aNil))) (gTp [(gNm 2), (gNm 3)]) [2, 3] tYesP (eArg bMax2 (aCons (eLit (.int 0)) (aCons (eBin oSub (eVar 2) (eVar 3)) aNil)))) aNil)))⟩
noncomputable def b26 : FnB := ⟨2, 10, fun cf n0 => (sCons (sExp (eCall cf 2 17 (aCons (eVar 0) (aCons (eVar 1) aNil)))) (sCons (sFor (iRg2 (eLit (.int 1)) (eBin oCat (eLenG cf [(0, 3), (4, 33)] (eVar 0)) (eLit (.int 1)))) (gNm 2) (sIf (tBl (eBin oLt (eArg bSum (aCons (eSl (eCall cf 1 18 (aCons (eVar 0) aNil)) pNo (pSo (eVar 2))) aNil)) (eArg bSum (aCons (eSl (eCall cf 1 18 (aCons (eVar 1) aNil)) pNo (pSo (eVar 2))) aNil)))) (sRet (eMake cf 2 3 22 (aCons (eVar 2) aNil))) sNil)) (sCons (sAsg (gTp [(gNm 3), (gNm 4), (gNm 5)]) (eTup (aCons (eNew (eCall cf 1 18 (aCons (eVar 0) aNil))) (aCons (eCall cf 1 18 (aCons (eVar 1) aNil)) (aCons (eNew (eLst aNil)) aNil))))) (sCons (sWhl 100 (tBl (eNeQ cf [(0, 2), (1, 11), (2, 20), (3, 23), (4, 32)] [.non, .bl, .int, .str, .tup, .lst, .dct, .own 0, .own 1, .own 2, .own 3, .own 4] (eVar 3) (eVar 4))) (sCons (sAsg (gNm 6) (eIx cf [(0, 4)] (eLc (iEnu (eVar 3)) (gTp [(gNm 8), (gNm 9)]) [8, 9] (tBl (eBin oLt (eVar 9) (eIx cf [(0, 4)] (eVar 4) (eVar 8)))) (eVar 8)) (eLit (.int 0)))) (sCons (sAsg (gNm 7) (eIx cf [(0, 4)] (eLc (iRg1 (eVar 6)) (gNm 8) [8] (tBl (eBin oGt (eIx cf [(0, 4)] (eVar 3) (eVar 8)) (eIx cf [(0, 4)] (eVar 4) (eVar 8)))) (eVar 8)) (eUn oNeg (eLit (.int 1))))) (sCons (sAugI oSub oGet (setG n0) (eVar 3) (eVar 7) (eLit (.int 1))) (sCons (sAugI oAdd oGet (setG n0) (eVar 3) (eVar 6) (eLit (.int 1))) (sExp (eLm (appL n0) (eVar 5) (eTup (aCons (eVar 7) (aCons (eVar 6) aNil)))))))))) (sRet (eMake cf 2 2 19 (aCons (eVar 5) aNil)))))))⟩
noncomputable def b27 : FnB := ⟨2, 2, fun cf n0 => (sRet (eIsi [(.non, false), (.bl, false), (.int, false), (.str, false), (.tup, false), (.lst, false), (.dct, false), (.own 0, false), (.own 1, false), (.own 2, true), (.own 3, false), (.own 4, false)] (eCall cf 2 26 (aCons (eVar 0) (aCons (eVar 1) aNil)))))⟩
noncomputable def b28 : FnB := ⟨2, 2, fun cf n0 => (sRet (eIf (tTru (eCall cf 2 27 (aCons (eVar 0) (aCons (eVar 1) aNil)))) (eCall cf 2 25 (aCons (eVar 0) (aCons (eVar 1) aNil))) (eLit .non)))⟩
noncomputable def b29 : FnB := ⟨2, 5, fun cf n0 => (sCons (sIf (tOr (tNo (tTru (eIsi [(.non, false), (.bl, false), (.int, false), (.str, false), (.tup, true), (.lst, false), (.dct, false), (.own 0, false), (.own 1, false), (.own 2, false), (.own 3, false), (.own 4, false)] (eVar 0)))) (tOr (tBl (eEqQ cf [(0, 2), (1, 11), (2, 20), (3, 23), (4, 32)] [.non, .bl, .int, .str, .tup, .lst, .dct, .own 0, .own 1, .own 2, .own 3, .own 4] (eVar 0) (eTup aNil))) (tBl (eNeQ cf [(0, 2), (1, 11), (2, 20), (3, 23), (4, 32)] [.non, .bl, .int, .str, .tup, .lst, .dct, .own 0, .own 1, .own 2, .own 3, .own 4] (eIx cf [(0, 4)] (eVar 0) (eLit (.int 0))) (eLit (.int 0)))))) (sRet (eLit (.bl false))) sNil) (sCons (sIf (tNo (tTru (eArg bAll (aCons (eLc (iSeqH (eVar 0)) (gNm 4) [4] tYesP (eCall cf 3 0 (aCons (eVar 4) (aCons (eLit (.int 0)) (aCons (eBin oSub (eVar 1) (eLit (.int 1))) aNil))))) aNil)))) (sRet (eLit (.bl false))) sNil) (sRet (eArg bAll (aCons (eLc (iZip (eVar 0) (eSl (eVar 0) (pSo (eLit (.int 1))) pNo)) (gTp [(gNm 2), (gNm 3)]) [2, 3] tYesP (eBin oLt (eVar 2) (eVar 3))) aNil)))))⟩
noncomputable def b30 : FnB := ⟨2, 2, fun cf n0 => (sRet (eLz (eVar 1) (eLst (aStar (eSl (eVar 1) (pSo (eLit (.int 1))) pNo) (aCons (eVar 0) aNil)))))⟩
noncomputable def b31 : FnB := ⟨4, 6, fun cf n0 => (sCons (sIf (tOr (tNo (tTru (eCall cf 3 0 (aCons (eVar 1) (aCons (eLit (.int 1)) (aCons (eLit (.int (12))) aNil)))))) (tNo (tTru (eCall cf 2 29 (aCons (eVar 2) (aCons (eVar 1) aNil)))))) (sRse 9) sNil) (sCons (sIf (tOr (tNo (tTru (eIsi [(.non, false), (.bl, false), (.int, false), (.str, false), (.tup, true), (.lst, false), (.dct, false), (.own 0, false), (.own 1, false), (.own 2, false), (.own 3, false), (.own 4, false)] (eVar 3)))) (tBl (eNeQ cf [(0, 2), (1, 11), (2, 20), (3, 23), (4, 32)] [.non, .bl, .int, .str, .tup, .lst, .dct, .own 0, .own 1, .own 2, .own 3, .own 4] (eLenG cf [(0, 3), (4, 33)] (eVar 3)) (eLenG cf [(0, 3), (4, 33)] (eVar 2))))) (sRse 9) sNil) (sCons (sFor (iZip (eVar 3) (eCall cf 2 30 (aCons (eVar 1) (aCons (eVar 2) aNil)))) (gTp [(gNm 4), (gNm 5)]) (sIf (tNo (tTru (eCall cf 3 0 (aCons (eVar 4) (aCons (eLit (.int 0)) (aCons (eBin oRep (eLit (.int (9))) (eBin oSub (eIx cf [(0, 4)] (eVar 5) (eLit (.int 1))) (eIx cf [(0, 4)] (eVar 5) (eLit (.int 0))))) aNil)))))) (sRse 9) sNil)) (sCons (sFld n0 [4] 10 (eVar 0) (eVar 1)) (sCons (sFld n0 [4] 11 (eVar 0) (eVar 2)) (sFld n0 [4] 12 (eVar 0) (eVar 3)))))))⟩
noncomputable def b32 : FnB := ⟨2, 2, fun cf n0 => (sRet (eAn (eIsi [(.non, false), (.bl, false), (.int, false), (.str, false), (.tup, false), (.lst, false), (.dct, false), (.own 0, false), (.own 1, false), (.own 2, false), (.own 3, false), (.own 4, true)] (eVar 1)) (eEqQ cf [(0, 2), (1, 11), (2, 20), (3, 23), (4, 32)] [.non, .bl, .int, .str, .tup, .lst, .dct, .own 0, .own 1, .own 2, .own 3, .own 4] (eMeth cf 1 13 [(4, 34)] (eVar 0) aNil) (eMeth cf 1 13 [(4, 34)] (eVar 1) aNil))))⟩
noncomputable def b33 : FnB := ⟨1, 1, fun cf n0 => (sRet (eLenG cf [(0, 3), (4, 33)] (eFld [4] 11 (eVar 0))))⟩
noncomputable def b34 : FnB := ⟨1, 1, fun cf n0 => (sRet (eTup (aCons (eFld [4] 10 (eVar 0)) (aCons (eFld [4] 11 (eVar 0)) (aCons (eFld [4] 12 (eVar 0)) aNil)))))⟩
noncomputable def b35 : FnB := ⟨1, 1, fun cf n0 => (sRet (eCall cf 2 30 (aCons (eFld [4] 10 (eVar 0)) (aCons (eFld [4] 11 (eVar 0)) aNil))))⟩
noncomputable def b36 : FnB := ⟨3, 3, fun cf n0 => (sTryC cf 3 16 (aCons (eVar 0) (aCons (eVar 1) (aCons (eVar 2) aNil))) (eLit (.bl false)) 12 (eLit (.bl true)))⟩
noncomputable def b37 : FnB := ⟨1, 5, fun cf n0 => (sCons (sAsg (gNm 1) (eArg bTuple (aCons (eLc (iRg1 (eBin oCat (eVar 0) (eLit (.int 1)))) (gNm 3) [3] tYesP (eVar 3)) aNil))) (sCons (sAsg (gNm 2) (eArg bDictG (aCons (eLc (iSeqH (eVar 1)) (gNm 4) [4] tYesP (eTup (aCons (eVar 4) (aCons (eLit (.int 1)) aNil)))) aNil))) (sCons (sIf (tOr (tTru (eMeth cf 3 14 [(1, 12), (2, 21), (3, 24)] (eMake cf 3 1 10 (aCons (eVar 2) (aCons (eLst aNil) aNil))) (aCons (eVar 1) (aCons (eVar 0) aNil)))) (tNo (tTru (eMeth cf 3 14 [(1, 12), (2, 21), (3, 24)] (eMake cf 3 1 10 (aCons (eVar 2) (aCons (eLst aNil) aNil))) (aCons (eVar 1) (aCons (eBin oCat (eVar 0) (eLit (.int 1))) aNil)))))) (sRet (eLit (.bl false))) sNil) (sCons (sIf (tOr (tNo (tTru (eCall cf 3 36 (aCons (eVar 2) (aCons eDnK (aCons (eVar 0) aNil)))))) (tNo (tTru (eCall cf 3 36 (aCons eDnK (aCons (eVar 2) (aCons (eVar 0) aNil))))))) (sRet (eLit (.bl false))) sNil) (sRet (eAn (eEqQ cf [(0, 2), (1, 11), (2, 20), (3, 23), (4, 32)] [.non, .bl, .int, .str, .tup, .lst, .dct, .own 0, .own 1, .own 2, .own 3, .own 4] (eCall cf 3 16 (aCons (eVar 2) (aCons eDnK (aCons (eBin oCat (eVar 0) (eLit (.int 1))) aNil)))) (eVar 2)) (eEqQ cf [(0, 2), (1, 11), (2, 20), (3, 23), (4, 32)] [.non, .bl, .int, .str, .tup, .lst, .dct, .own 0, .own 1, .own 2, .own 3, .own 4] (eCall cf 3 16 (aCons eDnK (aCons (eVar 2) (aCons (eBin oCat (eVar 0) (eLit (.int 1))) aNil)))) (eVar 2))))))))⟩
noncomputable def b38 : FnB := ⟨1, 3, fun cf n0 => (sCons (sPar [1, 2] (aCons (eMake cf 2 0 1 (aCons (eLst (aCons (eBin oCat (eLit (.int 6)) (eVar 0)) (aCons (eLit (.int 2)) (aCons (eLit (.int 1)) aNil)))) aNil)) (aCons (eMake cf 2 0 1 (aCons (eLst (aCons (eBin oCat (eLit (.int 5)) (eVar 0)) (aCons (eLit (.int 2)) (aCons (eLit (.int 2)) aNil)))) aNil)) aNil))) (sCons (sIf (tOr (tBl (eNeQ cf [(0, 2), (1, 11), (2, 20), (3, 23), (4, 32)] [.non, .bl, .int, .str, .tup, .lst, .dct, .own 0, .own 1, .own 2, .own 3, .own 4] (eCall cf 2 28 (aCons (eVar 1) (aCons (eVar 2) aNil))) (eLit (.int 1)))) (tNo (tTru (eMeth cf 3 14 [(1, 12), (2, 21), (3, 24)] (eMake cf 2 2 19 (aCons (eLst (aCons (eTup (aCons (eLit (.int 0)) (aCons (eLit (.int 2)) aNil))) aNil)) aNil)) (aCons (eVar 1) (aCons (eVar 2) aNil)))))) (sRet (eLit (.bl false))) sNil) (sRet (eAn (eNot (eMeth cf 3 14 [(1, 12), (2, 21), (3, 24)] (eMake cf 2 2 19 (aCons (eLst (aCons (eTup (aCons (eLit (.int 0)) (aCons (eLit (.int 1)) aNil))) (aCons (eTup (aCons (eLit (.int 1)) (aCons (eLit (.int 2)) aNil))) aNil))) aNil)) (aCons (eVar 1) (aCons (eVar 2) aNil)))) (eNot (eMeth cf 3 14 [(1, 12), (2, 21), (3, 24)] (eMake cf 2 2 19 (aCons (eLst (aCons (eTup (aCons (eLit (.int 0)) (aCons (eLit (.int 2)) aNil))) (aCons (eTup (aCons (eLit (.int 0)) (aCons (eLit (.int 2)) aNil))) aNil))) aNil)) (aCons (eVar 1) (aCons (eVar 2) aNil))))))))⟩
noncomputable def bQ0 : FnB := ⟨3, 3, fun cf n0 => (sRet (eAn (eIsi [(.non, false), (.bl, true), (.int, true), (.str, false), (.tup, false), (.lst, false), (.dct, false), (.own 0, false), (.own 1, false), (.own 2, false), (.own 3, false), (.own 4, false)] (eVar 0)) (eAn (eNot (eIsi [(.non, false), (.bl, true), (.int, false), (.str, false), (.tup, false), (.lst, false), (.dct, false), (.own 0, false), (.own 1, false), (.own 2, false), (.own 3, false), (.own 4, false)] (eVar 0))) (eCh oLe oLe (eVar 1) (eVar 0) (eVar 2)))))⟩
noncomputable def bQ29 : FnB := ⟨2, 5, fun cf n0 => (sCons (sIf (tOr (tNo (tTru (eIsi [(.non, false), (.bl, false), (.int, false), (.str, false), (.tup, true), (.lst, false), (.dct, false), (.own 0, false), (.own 1, false), (.own 2, false), (.own 3, false), (.own 4, false)] (eVar 0)))) (tOr (tBl (eBin oEqQ (eVar 0) (eTup aNil))) (tBl (eBin oNeQ (eBin oIx (eVar 0) (eLit (.int 0))) (eLit (.int 0)))))) (sRet (eLit (.bl false))) sNil) (sCons (sIf (tNo (tTru (eArg bAll (aCons (eLc (iSeq (eVar 0)) (gNm 4) [4] tYesP (eCall cf 3 0 (aCons (eVar 4) (aCons (eLit (.int 0)) (aCons (eBin oSub (eVar 1) (eLit (.int 1))) aNil))))) aNil)))) (sRet (eLit (.bl false))) sNil) (sRet (eArg bAll (aCons (eLc (iZip (eVar 0) (eSl (eVar 0) (pSo (eLit (.int 1))) pNo)) (gTp [(gNm 2), (gNm 3)]) [2, 3] tYesP (eBin oLt (eVar 2) (eVar 3))) aNil)))))⟩
noncomputable def bQ30 : FnB := ⟨2, 2, fun cf n0 => (sRet (eLz (eVar 1) (eLst (aStar (eSl (eVar 1) (pSo (eLit (.int 1))) pNo) (aCons (eVar 0) aNil)))))⟩
noncomputable def bQ31 : FnB := ⟨4, 6, fun cf n0 => (sCons (sIf (tOr (tNo (tTru (eCall cf 3 0 (aCons (eVar 1) (aCons (eLit (.int 1)) (aCons (eLit (.int (12))) aNil)))))) (tNo (tTru (eCall cf 2 29 (aCons (eVar 2) (aCons (eVar 1) aNil)))))) sNo sNil) (sCons (sIf (tOr (tNo (tTru (eIsi [(.non, false), (.bl, false), (.int, false), (.str, false), (.tup, true), (.lst, false), (.dct, false), (.own 0, false), (.own 1, false), (.own 2, false), (.own 3, false), (.own 4, false)] (eVar 3)))) (tBl (eBin oNeQ (eLenQ (eVar 3)) (eLenQ (eVar 2))))) sNo sNil) (sCons (sFor (iZip (eVar 3) (eCall cf 2 30 (aCons (eVar 1) (aCons (eVar 2) aNil)))) (gTp [(gNm 4), (gNm 5)]) (sIf (tNo (tTru (eCall cf 3 0 (aCons (eVar 4) (aCons (eLit (.int 0)) (aCons (eBin oRep (eLit (.int (9))) (eBin oSub (eBin oIx (eVar 5) (eLit (.int 1))) (eBin oIx (eVar 5) (eLit (.int 0))))) aNil)))))) sNo sNil)) (sCons (sFld n0 [4] 10 (eVar 0) (eVar 1)) (sCons (sFld n0 [4] 11 (eVar 0) (eVar 2)) (sFld n0 [4] 12 (eVar 0) (eVar 3)))))))⟩
noncomputable def TH : Nat → Option FnB
  | 0 => some bQ0
  | 29 => some bQ29
  | 30 => some bQ30
  | 31 => some bQ31
  | _ => none
noncomputable def b39 : FnB := ⟨1, 1, fun cf n0 => (sTryE (eMake cf 4 4 31 (nxA (aCons (eLit (.int 3)) (aCons (eTup (aCons (eLit (.int 0)) (aCons (eLit (.int 1)) aNil))) (aCons (eTup (aCons (eBin oCat (eLit (.int 10)) (eVar 0)) (aCons (eLit (.int 0)) aNil))) aNil))))) (sRet (eLit (.bl false))) (fun k => decide (k = 9)) (sRet (eBin oEqQ (eFld [4] 12 (eMake (callF TH 3) 4 4 31 (aCons (eLit (.int 3)) (aCons (eTup (aCons (eLit (.int 0)) (aCons (eLit (.int 1)) aNil))) (aCons (eTup (aCons (eLit (.int 9)) (aCons (eLit (.int 18)) aNil))) aNil))))) (eTup (aCons (eLit (.int 9)) (aCons (eLit (.int 18)) aNil))))))⟩
noncomputable def b40 : FnB := ⟨1, 3, fun cf n0 => (sCons (sAsg (gNm 1) (eArg bInt (aCons (eArg bSum (aCons (eLc (iSeqH (eSl (eVar 0) pNo (pSo (eLit (.int 9))))) (gNm 2) [2] tYesP (eArg bAbs (aCons (eVar 2) aNil))) aNil)) aNil))) (sRet (eAn (eCall cf 1 37 (aCons (eBin oCat (eLit (.int 1)) (eBin oMod (eVar 1) (eLit (.int 5)))) aNil)) (eAn (eCall cf 1 38 (aCons (eBin oMod (eVar 1) (eLit (.int 4))) aNil)) (eCall cf 1 39 (aCons (eBin oMod (eVar 1) (eLit (.int 9))) aNil))))))⟩
noncomputable def TT : Nat → Option FnB
  | 0 => some b0
  | 1 => some b1
  | 2 => some b2
  | 3 => some b3
  | 4 => some b4
  | 5 => some b5
  | 6 => some b6
  | 7 => some b7
  | 8 => some b8
  | 9 => some b9
  | 10 => some b10
  | 11 => some b11
  | 12 => some b12
  | 13 => some b13
  | 14 => some b14
  | 15 => some b15
  | 16 => some b16
  | 17 => some b17
  | 18 => some b18
  | 19 => some b19
  | 20 => some b20
  | 21 => some b21
  | 22 => some b22
  | 23 => some b23
  | 24 => some b24
  | 25 => some b25
  | 26 => some b26
  | 27 => some b27
  | 28 => some b28
  | 29 => some b29
  | 30 => some b30
  | 31 => some b31
  | 32 => some b32
  | 33 => some b33
  | 34 => some b34
  | 35 => some b35
  | 36 => some b36
  | 37 => some b37
  | 38 => some b38
  | 39 => some b39
  | 40 => some b40
  | _ => none
end PX.K69
set_option Elab.async false
set_option linter.all false
set_option maxRecDepth 100000
set_option maxHeartbeats 4000000
namespace PX.K69
open PySem PySem.Spec PyProof.Rows L2 He PX
def top (i : Nat) : Stmt := PySem.Challenge.pw_bucketsums_k69_edges_hunt.main.body.getD i (.Pass ⟨0, 0, 0, 0⟩)
def fs : List (Str × Option Str) := ("is_number", none) :: ("Column", some "__init__") :: ("Column", some "__eq__") :: ("Column", some "__len__") :: ("Column", some "__getitem__") :: ("Column", some "__iter__") :: ("Column", some "rows") :: ("check_column", none) :: ("check_number", none) :: ("check_stream", none) :: ("Crossed", some "__init__") :: ("Crossed", some "__eq__") :: ("Crossed", some "shows") :: ("is_group", none) :: ("counts_of", none) :: ("are_counters", none) :: ("merge", none) :: ("check_like", none) :: ("falling", none) :: ("Evener", some "__init__") :: ("Evener", some "__eq__") :: ("Evener", some "shows") :: ("Uneven", some "__init__") :: ("Uneven", some "__eq__") :: ("Uneven", some "shows") :: ("gap_of", none) :: ("judge_evener", none) :: ("is_evener", none) :: ("fewest_transfers", none) :: ("are_cuts", none) :: ("buckets_of", none) :: ("Histogram", some "__init__") :: ("Histogram", some "__eq__") :: ("Histogram", some "__len__") :: ("Histogram", some "all_three") :: ("Histogram", some "buckets") :: ("_law_is_refused", none) :: ("_law_counters_right", none) :: ("_law_transfers_right", none) :: ("_law_totals_right", none) :: ("law", none) :: []
def cs : List Str := ["Column", "Crossed", "Evener", "Uneven", "Histogram", "SumError", "BadCounts", "BadColumn", "BadValue", "BadHistogram", "BadNumber", "BadStream", "BadCounters", "Unlike"]
def nms : List Str := ["counts", "counters", "groups", "get", "values", "items", "rows", "transfers", "many", "append", "width", "cuts", "totals", "all_three", "shows", "__init__", "__eq__", "__len__", "__getitem__", "__iter__", "buckets"]
abbrev GG : PySem.W.Frag → Gam := gam fs cs nms
def fb : List Ck := [cCls GG [0, 1, 2, 3, 4],
  cFree "isinstance",
  cFree "int",
  cKit GG [(.non, false), (.bl, true), (.int, true), (.str, false), (.tup, false), (.lst, false), (.dct, false), (.own 0, false), (.own 1, false), (.own 2, false), (.own 3, false), (.own 4, false)] (fun K => (.type "int")),
  cFree "bool",
  cKit GG [(.non, false), (.bl, true), (.int, false), (.str, false), (.tup, false), (.lst, false), (.dct, false), (.own 0, false), (.own 1, false), (.own 2, false), (.own 3, false), (.own 4, false)] (fun K => (.type "bool")),
  cFree "list",
  cFree "tuple",
  cKitT GG [(.non, false), (.bl, false), (.int, false), (.str, false), (.tup, true), (.lst, true), (.dct, false), (.own 0, false), (.own 1, false), (.own 2, false), (.own 3, false), (.own 4, false)] (fun K => [(.type "list"), (.type "tuple")]),
  cSpc GG [(0, 3), (4, 33)] "__len__",
  cFree "len",
  cInt "MOST_VALUES" (12),
  cGlo "BadCounts",
  (fun K => excB K ((GG K).ca 6)),
  cGlo "is_number",
  cKeep GG 0,
  cInt "MOST_COUNT" (9),
  cFree "all",
  cFld GG 0 [0],
  cGlo "Column",
  cKit GG [(.non, false), (.bl, false), (.int, false), (.str, false), (.tup, false), (.lst, false), (.dct, false), (.own 0, true), (.own 1, false), (.own 2, false), (.own 3, false), (.own 4, false)] (fun K => (.ref ((GG K).ca 0))),
  cSpc GG [(0, 2), (1, 11), (2, 20), (3, 23), (4, 32)] "__eq__",
  cNe GG [(0, 2), (1, 11), (2, 20), (3, 23), (4, 32)],
  cNf GG [(0, 2), (1, 11), (2, 20), (3, 23), (4, 32)] [.non, .bl, .int, .str, .tup, .lst, .dct, .own 0, .own 1, .own 2, .own 3, .own 4],
  cGlo "BadValue",
  (fun K => excB K ((GG K).ca 8)),
  cSpc GG [(0, 4)] "__getitem__",
  cFree "sum",
  cGlo "BadColumn",
  (fun K => excB K ((GG K).ca 7)),
  cGlo "BadNumber",
  (fun K => excB K ((GG K).ca 10)),
  cInt "MOST_LENGTH" (30),
  cFree "enumerate",
  cGlo "check_number",
  cKeep GG 8,
  cInt "MOST_COUNTERS" (6),
  cFree "dict",
  cFld GG 1 [1],
  cFld GG 2 [1],
  cGlo "Crossed",
  cKit GG [(.non, false), (.bl, false), (.int, false), (.str, false), (.tup, false), (.lst, false), (.dct, false), (.own 0, false), (.own 1, true), (.own 2, false), (.own 3, false), (.own 4, false)] (fun K => (.ref ((GG K).ca 1))),
  cGlo "check_stream",
  cKeep GG 9,
  cFree "set",
  cGlo "is_group",
  cKeep GG 13,
  cGlo "counts_of",
  cKeep GG 14,
  cFree "sorted",
  cKit GG [(.non, false), (.bl, false), (.int, false), (.str, false), (.tup, false), (.lst, false), (.dct, true), (.own 0, false), (.own 1, false), (.own 2, false), (.own 3, false), (.own 4, false)] (fun K => (.type "dict")),
  cGlo "are_counters",
  cKeep GG 15,
  cGlo "BadCounters",
  (fun K => excB K ((GG K).ca 12)),
  cFree "range",
  cGlo "check_column",
  cKeep GG 7,
  cMet GG 6 [(0, 6)],
  cGlo "Unlike",
  (fun K => excB K ((GG K).ca 13)),
  cFld GG 7 [2],
  cGlo "Evener",
  cKit GG [(.non, false), (.bl, false), (.int, false), (.str, false), (.tup, false), (.lst, false), (.dct, false), (.own 0, false), (.own 1, false), (.own 2, true), (.own 3, false), (.own 4, false)] (fun K => (.ref ((GG K).ca 2))),
  cGlo "check_like",
  cKeep GG 17,
  cGlo "falling",
  cKeep GG 18,
  cGlo "gap_of",
  cKeep GG 25,
  cFld GG 8 [3],
  cGlo "Uneven",
  cKit GG [(.non, false), (.bl, false), (.int, false), (.str, false), (.tup, false), (.lst, false), (.dct, false), (.own 0, false), (.own 1, false), (.own 2, false), (.own 3, true), (.own 4, false)] (fun K => (.ref ((GG K).ca 3))),
  cFree "zip",
  cFree "max",
  cMk GG 3 22,
  cMk GG 2 19,
  cGlo "judge_evener",
  cKeep GG 26,
  cGlo "is_evener",
  cKeep GG 27,
  cKit GG [(.non, false), (.bl, false), (.int, false), (.str, false), (.tup, true), (.lst, false), (.dct, false), (.own 0, false), (.own 1, false), (.own 2, false), (.own 3, false), (.own 4, false)] (fun K => (.type "tuple")),
  cGlo "are_cuts",
  cKeep GG 29,
  cGlo "BadHistogram",
  (fun K => excB K ((GG K).ca 9)),
  cGlo "buckets_of",
  cKeep GG 30,
  cFld GG 10 [4],
  cFld GG 11 [4],
  cFld GG 12 [4],
  cGlo "Histogram",
  cKit GG [(.non, false), (.bl, false), (.int, false), (.str, false), (.tup, false), (.lst, false), (.dct, false), (.own 0, false), (.own 1, false), (.own 2, false), (.own 3, false), (.own 4, true)] (fun K => (.ref ((GG K).ca 4))),
  cMet GG 13 [(4, 34)],
  cGlo "merge",
  cKeep GG 16,
  cMk GG 1 10,
  cMet GG 14 [(1, 12), (2, 21), (3, 24)],
  cGlo "_law_is_refused",
  cKeep GG 36,
  cMk GG 0 1,
  cGlo "fewest_transfers",
  cKeep GG 28,
  cMk GG 4 31,
  cFree "abs",
  cGlo "_law_counters_right",
  cKeep GG 37,
  cGlo "_law_transfers_right",
  cKeep GG 38,
  cGlo "_law_totals_right",
  cKeep GG 39,
  cGlo "law",
  cKeep GG 40]
def d0 : DefD := ⟨("is_number", none), "is_number", "is_number", defArgs (top 14), defBody (top 14), defScope (top 14), [], []⟩
def d1 : DefD := ⟨("Column", some "__init__"), "__init__", "Column.__init__", defArgs (inClass (top 15) 0), defBody (inClass (top 15) 0), defScope (inClass (top 15) 0), [], []⟩
def d2 : DefD := ⟨("Column", some "__eq__"), "__eq__", "Column.__eq__", defArgs (inClass (top 15) 1), defBody (inClass (top 15) 1), defScope (inClass (top 15) 1), [], []⟩
def d3 : DefD := ⟨("Column", some "__len__"), "__len__", "Column.__len__", defArgs (inClass (top 15) 2), defBody (inClass (top 15) 2), defScope (inClass (top 15) 2), [], []⟩
def d4 : DefD := ⟨("Column", some "__getitem__"), "__getitem__", "Column.__getitem__", defArgs (inClass (top 15) 3), defBody (inClass (top 15) 3), defScope (inClass (top 15) 3), [], []⟩
def d5 : DefD := ⟨("Column", some "__iter__"), "__iter__", "Column.__iter__", defArgs (inClass (top 15) 4), defBody (inClass (top 15) 4), defScope (inClass (top 15) 4), [], []⟩
def d6 : DefD := ⟨("Column", some "rows"), "rows", "Column.rows", defArgs (inClass (top 15) 5), defBody (inClass (top 15) 5), defScope (inClass (top 15) 5), [], []⟩
def d7 : DefD := ⟨("check_column", none), "check_column", "check_column", defArgs (top 16), defBody (top 16), defScope (top 16), [], []⟩
def d8 : DefD := ⟨("check_number", none), "check_number", "check_number", defArgs (top 17), defBody (top 17), defScope (top 17), [], []⟩
def d9 : DefD := ⟨("check_stream", none), "check_stream", "check_stream", defArgs (top 21), defBody (top 21), defScope (top 21), [], []⟩
def d10 : DefD := ⟨("Crossed", some "__init__"), "__init__", "Crossed.__init__", defArgs (inClass (top 22) 0), defBody (inClass (top 22) 0), defScope (inClass (top 22) 0), [], []⟩
def d11 : DefD := ⟨("Crossed", some "__eq__"), "__eq__", "Crossed.__eq__", defArgs (inClass (top 22) 1), defBody (inClass (top 22) 1), defScope (inClass (top 22) 1), [], []⟩
def d12 : DefD := ⟨("Crossed", some "shows"), "shows", "Crossed.shows", defArgs (inClass (top 22) 2), defBody (inClass (top 22) 2), defScope (inClass (top 22) 2), [], []⟩
def d13 : DefD := ⟨("is_group", none), "is_group", "is_group", defArgs (top 23), defBody (top 23), defScope (top 23), [], []⟩
def d14 : DefD := ⟨("counts_of", none), "counts_of", "counts_of", defArgs (top 24), defBody (top 24), defScope (top 24), [], []⟩
def d15 : DefD := ⟨("are_counters", none), "are_counters", "are_counters", defArgs (top 25), defBody (top 25), defScope (top 25), [], []⟩
def d16 : DefD := ⟨("merge", none), "merge", "merge", defArgs (top 26), defBody (top 26), defScope (top 26), [], []⟩
def d17 : DefD := ⟨("check_like", none), "check_like", "check_like", defArgs (top 28), defBody (top 28), defScope (top 28), [], []⟩
def d18 : DefD := ⟨("falling", none), "falling", "falling", defArgs (top 29), defBody (top 29), defScope (top 29), [], []⟩
def d19 : DefD := ⟨("Evener", some "__init__"), "__init__", "Evener.__init__", defArgs (inClass (top 30) 0), defBody (inClass (top 30) 0), defScope (inClass (top 30) 0), [], []⟩
def d20 : DefD := ⟨("Evener", some "__eq__"), "__eq__", "Evener.__eq__", defArgs (inClass (top 30) 1), defBody (inClass (top 30) 1), defScope (inClass (top 30) 1), [], []⟩
def d21 : DefD := ⟨("Evener", some "shows"), "shows", "Evener.shows", defArgs (inClass (top 30) 2), defBody (inClass (top 30) 2), defScope (inClass (top 30) 2), [], []⟩
def d22 : DefD := ⟨("Uneven", some "__init__"), "__init__", "Uneven.__init__", defArgs (inClass (top 31) 0), defBody (inClass (top 31) 0), defScope (inClass (top 31) 0), [], []⟩
def d23 : DefD := ⟨("Uneven", some "__eq__"), "__eq__", "Uneven.__eq__", defArgs (inClass (top 31) 1), defBody (inClass (top 31) 1), defScope (inClass (top 31) 1), [], []⟩
def d24 : DefD := ⟨("Uneven", some "shows"), "shows", "Uneven.shows", defArgs (inClass (top 31) 2), defBody (inClass (top 31) 2), defScope (inClass (top 31) 2), [], []⟩
def d25 : DefD := ⟨("gap_of", none), "gap_of", "gap_of", defArgs (top 32), defBody (top 32), defScope (top 32), [], []⟩
def d26 : DefD := ⟨("judge_evener", none), "judge_evener", "judge_evener", defArgs (top 33), defBody (top 33), defScope (top 33), [], []⟩
def d27 : DefD := ⟨("is_evener", none), "is_evener", "is_evener", defArgs (top 34), defBody (top 34), defScope (top 34), [], []⟩
def d28 : DefD := ⟨("fewest_transfers", none), "fewest_transfers", "fewest_transfers", defArgs (top 35), defBody (top 35), defScope (top 35), [], []⟩
def d29 : DefD := ⟨("are_cuts", none), "are_cuts", "are_cuts", defArgs (top 37), defBody (top 37), defScope (top 37), [], []⟩
def d30 : DefD := ⟨("buckets_of", none), "buckets_of", "buckets_of", defArgs (top 38), defBody (top 38), defScope (top 38), [], []⟩
def d31 : DefD := ⟨("Histogram", some "__init__"), "__init__", "Histogram.__init__", defArgs (inClass (top 39) 0), defBody (inClass (top 39) 0), defScope (inClass (top 39) 0), [], []⟩
def d32 : DefD := ⟨("Histogram", some "__eq__"), "__eq__", "Histogram.__eq__", defArgs (inClass (top 39) 1), defBody (inClass (top 39) 1), defScope (inClass (top 39) 1), [], []⟩
def d33 : DefD := ⟨("Histogram", some "__len__"), "__len__", "Histogram.__len__", defArgs (inClass (top 39) 2), defBody (inClass (top 39) 2), defScope (inClass (top 39) 2), [], []⟩
def d34 : DefD := ⟨("Histogram", some "all_three"), "all_three", "Histogram.all_three", defArgs (inClass (top 39) 3), defBody (inClass (top 39) 3), defScope (inClass (top 39) 3), [], []⟩
def d35 : DefD := ⟨("Histogram", some "buckets"), "buckets", "Histogram.buckets", defArgs (inClass (top 39) 4), defBody (inClass (top 39) 4), defScope (inClass (top 39) 4), [], []⟩
def d36 : DefD := ⟨("_law_is_refused", none), "_law_is_refused", "_law_is_refused", defArgs (top 41), defBody (top 41), defScope (top 41), [], []⟩
def d37 : DefD := ⟨("_law_counters_right", none), "_law_counters_right", "_law_counters_right", defArgs (top 42), defBody (top 42), defScope (top 42), [], []⟩
def d38 : DefD := ⟨("_law_transfers_right", none), "_law_transfers_right", "_law_transfers_right", defArgs (top 43), defBody (top 43), defScope (top 43), [], []⟩
def d39 : DefD := ⟨("_law_totals_right", none), "_law_totals_right", "_law_totals_right", defArgs (top 44), defBody (top 44), defScope (top 44), [], []⟩
def d40 : DefD := ⟨("law", none), "law", "law", defArgs (top 45), defBody (top 45), defScope (top 45), [], []⟩
def fn : List DefD := [d0, d1, d2, d3, d4, d5, d6, d7, d8, d9, d10, d11, d12, d13, d14, d15, d16, d17, d18, d19, d20, d21, d22, d23, d24, d25, d26, d27, d28, d29, d30, d31, d32, d33, d34, d35, d36, d37, d38, d39, d40]
structure Ctx (K : PySem.W.Frag) (base : Heap) (mg : Str → Option Value) : Prop where
  inn : K.In base
  ns : base.Ns mainGlobals mg
  says : SaysP fb fn K
abbrev OkF (P : Program) (w : World) (K : PySem.W.Frag) (mg : Str → Option Value) (base : Heap) (n i : Nat) : Prop := ∀ np, FnR P w K mg base (L2.CX P w) (4 * (n + 1)) ((GG K).fa i) (spF (GG K) (callF TT (n + 1)) i np)
theorem inj {K : PySem.W.Frag} (i : Nat) (hi : i < nms.length) : Inj (GG K) i := inj_nm (fs := fs) (cs := cs) (K := K) i hi (by decide +kernel) (by decide +kernel)
section
variable {P : Program} {w : World} {K : PySem.W.Frag} {mg : Str → Option Value} {base : Heap}
theorem m_clsall (C : Ctx K base mg) : cCls GG [0, 1, 2, 3, 4] K = true := C.says.fact 0 rfl
theorem m_b_isinstance (C : Ctx K base mg) : mg "isinstance" = none := cFree_ok C.inn C.ns (C.says.fact 1 rfl)
theorem m_b_int (C : Ctx K base mg) : mg "int" = none := cFree_ok C.inn C.ns (C.says.fact 2 rfl)
theorem m_kit_intty (C : Ctx K base mg) : ∀ t b, (t, b) ∈ ([(.non, false), (.bl, true), (.int, true), (.str, false), (.tup, false), (.lst, false), (.dct, false), (.own 0, false), (.own 1, false), (.own 2, false), (.own 3, false), (.own 4, false)] : List (TyN × Bool)) → PySem.W.kitOne (GG K).K (t.val (GG K)) (.type "int") = some b ∧ ∀ c, t = .own c → ClsI (GG K) c := cKit_ok (G := GG) (cu := fun K => (.type "int")) rfl (C.says.fact 3 rfl) (m_clsall C) (by decide)
theorem m_b_bool (C : Ctx K base mg) : mg "bool" = none := cFree_ok C.inn C.ns (C.says.fact 4 rfl)
theorem m_kit_boolty (C : Ctx K base mg) : ∀ t b, (t, b) ∈ ([(.non, false), (.bl, true), (.int, false), (.str, false), (.tup, false), (.lst, false), (.dct, false), (.own 0, false), (.own 1, false), (.own 2, false), (.own 3, false), (.own 4, false)] : List (TyN × Bool)) → PySem.W.kitOne (GG K).K (t.val (GG K)) (.type "bool") = some b ∧ ∀ c, t = .own c → ClsI (GG K) c := cKit_ok (G := GG) (cu := fun K => (.type "bool")) rfl (C.says.fact 5 rfl) (m_clsall C) (by decide)
theorem m_b_list (C : Ctx K base mg) : mg "list" = none := cFree_ok C.inn C.ns (C.says.fact 6 rfl)
theorem m_b_tuple (C : Ctx K base mg) : mg "tuple" = none := cFree_ok C.inn C.ns (C.says.fact 7 rfl)
theorem m_kitT_list_tuple (C : Ctx K base mg) : ∀ t b, (t, b) ∈ ([(.non, false), (.bl, false), (.int, false), (.str, false), (.tup, true), (.lst, true), (.dct, false), (.own 0, false), (.own 1, false), (.own 2, false), (.own 3, false), (.own 4, false)] : List (TyN × Bool)) → PySem.W.kitAny (GG K).K (t.val (GG K)) [(.type "list"), (.type "tuple")] = some b ∧ ∀ c, t = .own c → ClsI (GG K) c := cKitT_ok (G := GG) (cus := fun K => [(.type "list"), (.type "tuple")]) rfl (C.says.fact 8 rfl) (m_clsall C) (by decide)
theorem m_spc___len__ (C : Ctx K base mg) : ∀ p ∈ ([(0, 3), (4, 33)] : List (Nat × Nat)), Spc (GG K).K ((GG K).ca p.1) ((GG K).fa p.2) "__len__" ∧ PySem.W.fnIn (GG K).K ((GG K).fa p.2) = true := cSpc_ok rfl (C.says.fact 9 rfl)
theorem m_b_len (C : Ctx K base mg) : mg "len" = none := cFree_ok C.inn C.ns (C.says.fact 10 rfl)
theorem m_i_MOST_VALUES (C : Ctx K base mg) : ∃ u, mg "MOST_VALUES" = some u ∧ RelV (.int (12)) u := cInt_ok C.inn C.ns (C.says.fact 11 rfl)
theorem m_c_BadCounts (C : Ctx K base mg) : mg "BadCounts" = some (.ref ((GG K).ca 6)) := cGlo_ok C.inn C.ns (C.says.fact 12 rfl)
theorem m_x_BadCounts (C : Ctx K base mg) : excB (GG K).K ((GG K).ca 6) = true := C.says.fact 13 rfl
theorem m_f_is_number (C : Ctx K base mg) : mg "is_number" = some (.ref ((GG K).fa 0)) := cGlo_ok C.inn C.ns (C.says.fact 14 rfl)
theorem m_k_is_number (C : Ctx K base mg) : PySem.W.keepIn K (.ref ((GG K).fa 0)) = true := C.says.fact 15 rfl
theorem m_i_MOST_COUNT (C : Ctx K base mg) : ∃ u, mg "MOST_COUNT" = some u ∧ RelV (.int (9)) u := cInt_ok C.inn C.ns (C.says.fact 16 rfl)
theorem m_b_all (C : Ctx K base mg) : mg "all" = none := cFree_ok C.inn C.ns (C.says.fact 17 rfl)
theorem m_fld_counts (C : Ctx K base mg) : ∀ c ∈ ([0] : List Nat), Cls (GG K).K ((GG K).ca c) ∧ NoAttr (GG K).K ((GG K).ca c) ((GG K).nm 0) := cFld_ok rfl (C.says.fact 18 rfl)
theorem m_c_Column (C : Ctx K base mg) : mg "Column" = some (.ref ((GG K).ca 0)) := cGlo_ok C.inn C.ns (C.says.fact 19 rfl)
theorem m_kit_0own (C : Ctx K base mg) : ∀ t b, (t, b) ∈ ([(.non, false), (.bl, false), (.int, false), (.str, false), (.tup, false), (.lst, false), (.dct, false), (.own 0, true), (.own 1, false), (.own 2, false), (.own 3, false), (.own 4, false)] : List (TyN × Bool)) → PySem.W.kitOne (GG K).K (t.val (GG K)) (.ref ((GG K).ca 0)) = some b ∧ ∀ c, t = .own c → ClsI (GG K) c := cKit_ok (G := GG) (cu := fun K => (.ref ((GG K).ca 0))) rfl (C.says.fact 20 rfl) (m_clsall C) (by decide)
theorem m_eq_spc (C : Ctx K base mg) : cSpc GG [(0, 2), (1, 11), (2, 20), (3, 23), (4, 32)] "__eq__" K = true := C.says.fact 21 rfl
theorem m_eq_ne (C : Ctx K base mg) : cNe GG [(0, 2), (1, 11), (2, 20), (3, 23), (4, 32)] K = true := C.says.fact 22 rfl
theorem m_eq_nf (C : Ctx K base mg) : cNf GG [(0, 2), (1, 11), (2, 20), (3, 23), (4, 32)] [.non, .bl, .int, .str, .tup, .lst, .dct, .own 0, .own 1, .own 2, .own 3, .own 4] K = true := C.says.fact 23 rfl
theorem m_c_BadValue (C : Ctx K base mg) : mg "BadValue" = some (.ref ((GG K).ca 8)) := cGlo_ok C.inn C.ns (C.says.fact 24 rfl)
theorem m_x_BadValue (C : Ctx K base mg) : excB (GG K).K ((GG K).ca 8) = true := C.says.fact 25 rfl
theorem m_spc___getitem__ (C : Ctx K base mg) : ∀ p ∈ ([(0, 4)] : List (Nat × Nat)), Spc (GG K).K ((GG K).ca p.1) ((GG K).fa p.2) "__getitem__" ∧ PySem.W.fnIn (GG K).K ((GG K).fa p.2) = true := cSpc_ok rfl (C.says.fact 26 rfl)
theorem m_b_sum (C : Ctx K base mg) : mg "sum" = none := cFree_ok C.inn C.ns (C.says.fact 27 rfl)
theorem m_c_BadColumn (C : Ctx K base mg) : mg "BadColumn" = some (.ref ((GG K).ca 7)) := cGlo_ok C.inn C.ns (C.says.fact 28 rfl)
theorem m_x_BadColumn (C : Ctx K base mg) : excB (GG K).K ((GG K).ca 7) = true := C.says.fact 29 rfl
theorem m_c_BadNumber (C : Ctx K base mg) : mg "BadNumber" = some (.ref ((GG K).ca 10)) := cGlo_ok C.inn C.ns (C.says.fact 30 rfl)
theorem m_x_BadNumber (C : Ctx K base mg) : excB (GG K).K ((GG K).ca 10) = true := C.says.fact 31 rfl
theorem m_i_MOST_LENGTH (C : Ctx K base mg) : ∃ u, mg "MOST_LENGTH" = some u ∧ RelV (.int (30)) u := cInt_ok C.inn C.ns (C.says.fact 32 rfl)
theorem m_b_enumerate (C : Ctx K base mg) : mg "enumerate" = none := cFree_ok C.inn C.ns (C.says.fact 33 rfl)
theorem m_f_check_number (C : Ctx K base mg) : mg "check_number" = some (.ref ((GG K).fa 8)) := cGlo_ok C.inn C.ns (C.says.fact 34 rfl)
theorem m_k_check_number (C : Ctx K base mg) : PySem.W.keepIn K (.ref ((GG K).fa 8)) = true := C.says.fact 35 rfl
theorem m_i_MOST_COUNTERS (C : Ctx K base mg) : ∃ u, mg "MOST_COUNTERS" = some u ∧ RelV (.int (6)) u := cInt_ok C.inn C.ns (C.says.fact 36 rfl)
theorem m_b_dict (C : Ctx K base mg) : mg "dict" = none := cFree_ok C.inn C.ns (C.says.fact 37 rfl)
theorem m_fld_counters (C : Ctx K base mg) : ∀ c ∈ ([1] : List Nat), Cls (GG K).K ((GG K).ca c) ∧ NoAttr (GG K).K ((GG K).ca c) ((GG K).nm 1) := cFld_ok rfl (C.says.fact 38 rfl)
theorem m_fld_groups (C : Ctx K base mg) : ∀ c ∈ ([1] : List Nat), Cls (GG K).K ((GG K).ca c) ∧ NoAttr (GG K).K ((GG K).ca c) ((GG K).nm 2) := cFld_ok rfl (C.says.fact 39 rfl)
theorem m_c_Crossed (C : Ctx K base mg) : mg "Crossed" = some (.ref ((GG K).ca 1)) := cGlo_ok C.inn C.ns (C.says.fact 40 rfl)
theorem m_kit_1own (C : Ctx K base mg) : ∀ t b, (t, b) ∈ ([(.non, false), (.bl, false), (.int, false), (.str, false), (.tup, false), (.lst, false), (.dct, false), (.own 0, false), (.own 1, true), (.own 2, false), (.own 3, false), (.own 4, false)] : List (TyN × Bool)) → PySem.W.kitOne (GG K).K (t.val (GG K)) (.ref ((GG K).ca 1)) = some b ∧ ∀ c, t = .own c → ClsI (GG K) c := cKit_ok (G := GG) (cu := fun K => (.ref ((GG K).ca 1))) rfl (C.says.fact 41 rfl) (m_clsall C) (by decide)
theorem m_f_check_stream (C : Ctx K base mg) : mg "check_stream" = some (.ref ((GG K).fa 9)) := cGlo_ok C.inn C.ns (C.says.fact 42 rfl)
theorem m_k_check_stream (C : Ctx K base mg) : PySem.W.keepIn K (.ref ((GG K).fa 9)) = true := C.says.fact 43 rfl
theorem m_b_set (C : Ctx K base mg) : mg "set" = none := cFree_ok C.inn C.ns (C.says.fact 44 rfl)
theorem m_f_is_group (C : Ctx K base mg) : mg "is_group" = some (.ref ((GG K).fa 13)) := cGlo_ok C.inn C.ns (C.says.fact 45 rfl)
theorem m_k_is_group (C : Ctx K base mg) : PySem.W.keepIn K (.ref ((GG K).fa 13)) = true := C.says.fact 46 rfl
theorem m_f_counts_of (C : Ctx K base mg) : mg "counts_of" = some (.ref ((GG K).fa 14)) := cGlo_ok C.inn C.ns (C.says.fact 47 rfl)
theorem m_k_counts_of (C : Ctx K base mg) : PySem.W.keepIn K (.ref ((GG K).fa 14)) = true := C.says.fact 48 rfl
theorem m_b_sorted (C : Ctx K base mg) : mg "sorted" = none := cFree_ok C.inn C.ns (C.says.fact 49 rfl)
theorem m_kit_dictty (C : Ctx K base mg) : ∀ t b, (t, b) ∈ ([(.non, false), (.bl, false), (.int, false), (.str, false), (.tup, false), (.lst, false), (.dct, true), (.own 0, false), (.own 1, false), (.own 2, false), (.own 3, false), (.own 4, false)] : List (TyN × Bool)) → PySem.W.kitOne (GG K).K (t.val (GG K)) (.type "dict") = some b ∧ ∀ c, t = .own c → ClsI (GG K) c := cKit_ok (G := GG) (cu := fun K => (.type "dict")) rfl (C.says.fact 50 rfl) (m_clsall C) (by decide)
theorem m_f_are_counters (C : Ctx K base mg) : mg "are_counters" = some (.ref ((GG K).fa 15)) := cGlo_ok C.inn C.ns (C.says.fact 51 rfl)
theorem m_k_are_counters (C : Ctx K base mg) : PySem.W.keepIn K (.ref ((GG K).fa 15)) = true := C.says.fact 52 rfl
theorem m_c_BadCounters (C : Ctx K base mg) : mg "BadCounters" = some (.ref ((GG K).ca 12)) := cGlo_ok C.inn C.ns (C.says.fact 53 rfl)
theorem m_x_BadCounters (C : Ctx K base mg) : excB (GG K).K ((GG K).ca 12) = true := C.says.fact 54 rfl
theorem m_b_range (C : Ctx K base mg) : mg "range" = none := cFree_ok C.inn C.ns (C.says.fact 55 rfl)
theorem m_f_check_column (C : Ctx K base mg) : mg "check_column" = some (.ref ((GG K).fa 7)) := cGlo_ok C.inn C.ns (C.says.fact 56 rfl)
theorem m_k_check_column (C : Ctx K base mg) : PySem.W.keepIn K (.ref ((GG K).fa 7)) = true := C.says.fact 57 rfl
theorem m_met_rows (C : Ctx K base mg) : ∀ p ∈ ([(0, 6)] : List (Nat × Nat)), Cls (GG K).K ((GG K).ca p.1) ∧ Meth (GG K).K ((GG K).ca p.1) ((GG K).nm 6) ((GG K).fa p.2) := cMet_ok rfl (C.says.fact 58 rfl)
theorem m_c_Unlike (C : Ctx K base mg) : mg "Unlike" = some (.ref ((GG K).ca 13)) := cGlo_ok C.inn C.ns (C.says.fact 59 rfl)
theorem m_x_Unlike (C : Ctx K base mg) : excB (GG K).K ((GG K).ca 13) = true := C.says.fact 60 rfl
theorem m_fld_transfers (C : Ctx K base mg) : ∀ c ∈ ([2] : List Nat), Cls (GG K).K ((GG K).ca c) ∧ NoAttr (GG K).K ((GG K).ca c) ((GG K).nm 7) := cFld_ok rfl (C.says.fact 61 rfl)
theorem m_c_Evener (C : Ctx K base mg) : mg "Evener" = some (.ref ((GG K).ca 2)) := cGlo_ok C.inn C.ns (C.says.fact 62 rfl)
theorem m_kit_2own (C : Ctx K base mg) : ∀ t b, (t, b) ∈ ([(.non, false), (.bl, false), (.int, false), (.str, false), (.tup, false), (.lst, false), (.dct, false), (.own 0, false), (.own 1, false), (.own 2, true), (.own 3, false), (.own 4, false)] : List (TyN × Bool)) → PySem.W.kitOne (GG K).K (t.val (GG K)) (.ref ((GG K).ca 2)) = some b ∧ ∀ c, t = .own c → ClsI (GG K) c := cKit_ok (G := GG) (cu := fun K => (.ref ((GG K).ca 2))) rfl (C.says.fact 63 rfl) (m_clsall C) (by decide)
theorem m_f_check_like (C : Ctx K base mg) : mg "check_like" = some (.ref ((GG K).fa 17)) := cGlo_ok C.inn C.ns (C.says.fact 64 rfl)
theorem m_k_check_like (C : Ctx K base mg) : PySem.W.keepIn K (.ref ((GG K).fa 17)) = true := C.says.fact 65 rfl
theorem m_f_falling (C : Ctx K base mg) : mg "falling" = some (.ref ((GG K).fa 18)) := cGlo_ok C.inn C.ns (C.says.fact 66 rfl)
theorem m_k_falling (C : Ctx K base mg) : PySem.W.keepIn K (.ref ((GG K).fa 18)) = true := C.says.fact 67 rfl
theorem m_f_gap_of (C : Ctx K base mg) : mg "gap_of" = some (.ref ((GG K).fa 25)) := cGlo_ok C.inn C.ns (C.says.fact 68 rfl)
theorem m_k_gap_of (C : Ctx K base mg) : PySem.W.keepIn K (.ref ((GG K).fa 25)) = true := C.says.fact 69 rfl
theorem m_fld_many (C : Ctx K base mg) : ∀ c ∈ ([3] : List Nat), Cls (GG K).K ((GG K).ca c) ∧ NoAttr (GG K).K ((GG K).ca c) ((GG K).nm 8) := cFld_ok rfl (C.says.fact 70 rfl)
theorem m_c_Uneven (C : Ctx K base mg) : mg "Uneven" = some (.ref ((GG K).ca 3)) := cGlo_ok C.inn C.ns (C.says.fact 71 rfl)
theorem m_kit_3own (C : Ctx K base mg) : ∀ t b, (t, b) ∈ ([(.non, false), (.bl, false), (.int, false), (.str, false), (.tup, false), (.lst, false), (.dct, false), (.own 0, false), (.own 1, false), (.own 2, false), (.own 3, true), (.own 4, false)] : List (TyN × Bool)) → PySem.W.kitOne (GG K).K (t.val (GG K)) (.ref ((GG K).ca 3)) = some b ∧ ∀ c, t = .own c → ClsI (GG K) c := cKit_ok (G := GG) (cu := fun K => (.ref ((GG K).ca 3))) rfl (C.says.fact 72 rfl) (m_clsall C) (by decide)
theorem m_b_zip (C : Ctx K base mg) : mg "zip" = none := cFree_ok C.inn C.ns (C.says.fact 73 rfl)
theorem m_b_max (C : Ctx K base mg) : mg "max" = none := cFree_ok C.inn C.ns (C.says.fact 74 rfl)
theorem m_mk_Uneven (C : Ctx K base mg) : Mk (GG K).K ((GG K).ca 3) ((GG K).fa 22) := cMk_ok rfl (C.says.fact 75 rfl)
theorem m_mk_Evener (C : Ctx K base mg) : Mk (GG K).K ((GG K).ca 2) ((GG K).fa 19) := cMk_ok rfl (C.says.fact 76 rfl)
theorem m_f_judge_evener (C : Ctx K base mg) : mg "judge_evener" = some (.ref ((GG K).fa 26)) := cGlo_ok C.inn C.ns (C.says.fact 77 rfl)
theorem m_k_judge_evener (C : Ctx K base mg) : PySem.W.keepIn K (.ref ((GG K).fa 26)) = true := C.says.fact 78 rfl
theorem m_f_is_evener (C : Ctx K base mg) : mg "is_evener" = some (.ref ((GG K).fa 27)) := cGlo_ok C.inn C.ns (C.says.fact 79 rfl)
theorem m_k_is_evener (C : Ctx K base mg) : PySem.W.keepIn K (.ref ((GG K).fa 27)) = true := C.says.fact 80 rfl
theorem m_kit_tuplety (C : Ctx K base mg) : ∀ t b, (t, b) ∈ ([(.non, false), (.bl, false), (.int, false), (.str, false), (.tup, true), (.lst, false), (.dct, false), (.own 0, false), (.own 1, false), (.own 2, false), (.own 3, false), (.own 4, false)] : List (TyN × Bool)) → PySem.W.kitOne (GG K).K (t.val (GG K)) (.type "tuple") = some b ∧ ∀ c, t = .own c → ClsI (GG K) c := cKit_ok (G := GG) (cu := fun K => (.type "tuple")) rfl (C.says.fact 81 rfl) (m_clsall C) (by decide)
theorem m_f_are_cuts (C : Ctx K base mg) : mg "are_cuts" = some (.ref ((GG K).fa 29)) := cGlo_ok C.inn C.ns (C.says.fact 82 rfl)
theorem m_k_are_cuts (C : Ctx K base mg) : PySem.W.keepIn K (.ref ((GG K).fa 29)) = true := C.says.fact 83 rfl
theorem m_c_BadHistogram (C : Ctx K base mg) : mg "BadHistogram" = some (.ref ((GG K).ca 9)) := cGlo_ok C.inn C.ns (C.says.fact 84 rfl)
theorem m_x_BadHistogram (C : Ctx K base mg) : excB (GG K).K ((GG K).ca 9) = true := C.says.fact 85 rfl
theorem m_f_buckets_of (C : Ctx K base mg) : mg "buckets_of" = some (.ref ((GG K).fa 30)) := cGlo_ok C.inn C.ns (C.says.fact 86 rfl)
theorem m_k_buckets_of (C : Ctx K base mg) : PySem.W.keepIn K (.ref ((GG K).fa 30)) = true := C.says.fact 87 rfl
theorem m_fld_width (C : Ctx K base mg) : ∀ c ∈ ([4] : List Nat), Cls (GG K).K ((GG K).ca c) ∧ NoAttr (GG K).K ((GG K).ca c) ((GG K).nm 10) := cFld_ok rfl (C.says.fact 88 rfl)
theorem m_fld_cuts (C : Ctx K base mg) : ∀ c ∈ ([4] : List Nat), Cls (GG K).K ((GG K).ca c) ∧ NoAttr (GG K).K ((GG K).ca c) ((GG K).nm 11) := cFld_ok rfl (C.says.fact 89 rfl)
theorem m_fld_totals (C : Ctx K base mg) : ∀ c ∈ ([4] : List Nat), Cls (GG K).K ((GG K).ca c) ∧ NoAttr (GG K).K ((GG K).ca c) ((GG K).nm 12) := cFld_ok rfl (C.says.fact 90 rfl)
theorem m_c_Histogram (C : Ctx K base mg) : mg "Histogram" = some (.ref ((GG K).ca 4)) := cGlo_ok C.inn C.ns (C.says.fact 91 rfl)
theorem m_kit_4own (C : Ctx K base mg) : ∀ t b, (t, b) ∈ ([(.non, false), (.bl, false), (.int, false), (.str, false), (.tup, false), (.lst, false), (.dct, false), (.own 0, false), (.own 1, false), (.own 2, false), (.own 3, false), (.own 4, true)] : List (TyN × Bool)) → PySem.W.kitOne (GG K).K (t.val (GG K)) (.ref ((GG K).ca 4)) = some b ∧ ∀ c, t = .own c → ClsI (GG K) c := cKit_ok (G := GG) (cu := fun K => (.ref ((GG K).ca 4))) rfl (C.says.fact 92 rfl) (m_clsall C) (by decide)
theorem m_met_all_three (C : Ctx K base mg) : ∀ p ∈ ([(4, 34)] : List (Nat × Nat)), Cls (GG K).K ((GG K).ca p.1) ∧ Meth (GG K).K ((GG K).ca p.1) ((GG K).nm 13) ((GG K).fa p.2) := cMet_ok rfl (C.says.fact 93 rfl)
theorem m_f_merge (C : Ctx K base mg) : mg "merge" = some (.ref ((GG K).fa 16)) := cGlo_ok C.inn C.ns (C.says.fact 94 rfl)
theorem m_k_merge (C : Ctx K base mg) : PySem.W.keepIn K (.ref ((GG K).fa 16)) = true := C.says.fact 95 rfl
theorem m_mk_Crossed (C : Ctx K base mg) : Mk (GG K).K ((GG K).ca 1) ((GG K).fa 10) := cMk_ok rfl (C.says.fact 96 rfl)
theorem m_met_shows (C : Ctx K base mg) : ∀ p ∈ ([(1, 12), (2, 21), (3, 24)] : List (Nat × Nat)), Cls (GG K).K ((GG K).ca p.1) ∧ Meth (GG K).K ((GG K).ca p.1) ((GG K).nm 14) ((GG K).fa p.2) := cMet_ok rfl (C.says.fact 97 rfl)
theorem m_f__law_is_refused (C : Ctx K base mg) : mg "_law_is_refused" = some (.ref ((GG K).fa 36)) := cGlo_ok C.inn C.ns (C.says.fact 98 rfl)
theorem m_k__law_is_refused (C : Ctx K base mg) : PySem.W.keepIn K (.ref ((GG K).fa 36)) = true := C.says.fact 99 rfl
theorem m_mk_Column (C : Ctx K base mg) : Mk (GG K).K ((GG K).ca 0) ((GG K).fa 1) := cMk_ok rfl (C.says.fact 100 rfl)
theorem m_f_fewest_transfers (C : Ctx K base mg) : mg "fewest_transfers" = some (.ref ((GG K).fa 28)) := cGlo_ok C.inn C.ns (C.says.fact 101 rfl)
theorem m_k_fewest_transfers (C : Ctx K base mg) : PySem.W.keepIn K (.ref ((GG K).fa 28)) = true := C.says.fact 102 rfl
theorem m_mk_Histogram (C : Ctx K base mg) : Mk (GG K).K ((GG K).ca 4) ((GG K).fa 31) := cMk_ok rfl (C.says.fact 103 rfl)
theorem m_b_abs (C : Ctx K base mg) : mg "abs" = none := cFree_ok C.inn C.ns (C.says.fact 104 rfl)
theorem m_f__law_counters_right (C : Ctx K base mg) : mg "_law_counters_right" = some (.ref ((GG K).fa 37)) := cGlo_ok C.inn C.ns (C.says.fact 105 rfl)
theorem m_k__law_counters_right (C : Ctx K base mg) : PySem.W.keepIn K (.ref ((GG K).fa 37)) = true := C.says.fact 106 rfl
theorem m_f__law_transfers_right (C : Ctx K base mg) : mg "_law_transfers_right" = some (.ref ((GG K).fa 38)) := cGlo_ok C.inn C.ns (C.says.fact 107 rfl)
theorem m_k__law_transfers_right (C : Ctx K base mg) : PySem.W.keepIn K (.ref ((GG K).fa 38)) = true := C.says.fact 108 rfl
theorem m_f__law_totals_right (C : Ctx K base mg) : mg "_law_totals_right" = some (.ref ((GG K).fa 39)) := cGlo_ok C.inn C.ns (C.says.fact 109 rfl)
theorem m_k__law_totals_right (C : Ctx K base mg) : PySem.W.keepIn K (.ref ((GG K).fa 39)) = true := C.says.fact 110 rfl
theorem m_f_law (C : Ctx K base mg) : mg "law" = some (.ref ((GG K).fa 40)) := cGlo_ok C.inn C.ns (C.says.fact 111 rfl)
theorem m_eqt (C : Ctx K base mg) : EqT (GG K) [(0, 2), (1, 11), (2, 20), (3, 23), (4, 32)] [.non, .bl, .int, .str, .tup, .lst, .dct, .own 0, .own 1, .own 2, .own 3, .own 4] := cEq_ok rfl (m_eq_spc C) (m_eq_ne C) (m_eq_nf C) (m_clsall C) (by decide)
theorem scQ0 : FnScope ["thing", "least", "most"] ["thing", "least", "most"] (defScope (top 14)) := mkSc (by decide +kernel)
theorem dvQ0 {n : Nat} (C : Ctx K base mg) (hQ : ∀ f np, f ∈ ([] : List Nat) → FnQ P w K mg base (GG K) 0 (callF TH n) f np) : DQ P w K mg base (GG K) ["thing", "least", "most"] "is_number" (top 14) ((GG K).fa 0) 1 fun n0 => (sRet (eAn (eIsi [(.non, false), (.bl, true), (.int, true), (.str, false), (.tup, false), (.lst, false), (.dct, false), (.own 0, false), (.own 1, false), (.own 2, false), (.own 3, false), (.own 4, false)] (eVar 0)) (eAn (eNot (eIsi [(.non, false), (.bl, true), (.int, false), (.str, false), (.tup, false), (.lst, false), (.dct, false), (.own 0, false), (.own 1, false), (.own 2, false), (.own 3, false), (.own 4, false)] (eVar 0))) (eCh oLe oLe (eVar 1) (eVar 0) (eVar 2))))) := by
  intro cdv A outer s H E n0 p hot hr
  have T : TbQ (L2H.cxH (L2.CX P w) P w K mg base ["thing", "least", "most"] "is_number" (defScope (top 14)) ((GG K).fa 0) cdv A outer s H E p) (GG K) (callF TH n) 0 [] := ⟨rfl, hQ, hr, ⟨p, hot, List.mem_cons_self⟩⟩
  have nd := scQ0.nd
  exact (ss_one (ss_ret (se_and rfl (se_isi1 (cv := (.ty "int")) (cu := (.type "int")) rfl rfl (m_b_isinstance C) (by rfl) (.ty _) (m_kit_intty C) (se_var (pv 0)) (pe_bltn (v := .ty "int") (u := .type "int") rfl (m_b_int C) (by rfl) rfl (by decide))) (se_and rfl (se_not rfl (se_isi1 (cv := (.ty "bool")) (cu := (.type "bool")) rfl rfl (m_b_isinstance C) (by rfl) (.ty _) (m_kit_boolty C) (se_var (pv 0)) (pe_bltn (v := .ty "bool") (u := .type "bool") rfl (m_b_bool C) (by rfl) rfl (by decide)))) (se_one (se_ch op_le ok_le op_le ok_le (se_var (pv 1)) (se_var (pv 0)) (se_var (pv 2)) (pe_chain op_le op_le (toV (se_var (pv 1))) (toV (se_var (pv 0))) (toV (se_var (pv 2))))))))))
theorem okQ0 (C : Ctx K base mg) (n np : Nat) : FnQ P w K mg base (GG K) 2 (callF TH (n + 1)) 0 np := by
  obtain ⟨fd, F⟩ := C.says.def_ 0 (d := d0) rfl
  refine def_okQk (b := bQ0) (n := n + 0) (k := 1) rfl F scQ0 rfl rfl (FunD_binds F fun _ _ _ _ _ _ us hl => match us, hl with | [_, _, _], _ => rfl) (dvQ0 (n := n) C fun f np hf => ?_) np
  cases hf
theorem scQ29 : FnScope ["cuts", "values", "one", "other", "cut"] ["cuts", "values"] (defScope (top 37)) := mkSc (by decide +kernel)
theorem dvQ29 {n : Nat} (C : Ctx K base mg) (hQ : ∀ f np, f ∈ ([0] : List Nat) → FnQ P w K mg base (GG K) 2 (callF TH (n + 1)) f np) : DQ P w K mg base (GG K) ["cuts", "values", "one", "other", "cut"] "are_cuts" (top 37) ((GG K).fa 29) 3 fun n0 => (sCons (sIf (tOr (tNo (tTru (eIsi [(.non, false), (.bl, false), (.int, false), (.str, false), (.tup, true), (.lst, false), (.dct, false), (.own 0, false), (.own 1, false), (.own 2, false), (.own 3, false), (.own 4, false)] (eVar 0)))) (tOr (tBl (eBin oEqQ (eVar 0) (eTup aNil))) (tBl (eBin oNeQ (eBin oIx (eVar 0) (eLit (.int 0))) (eLit (.int 0)))))) (sRet (eLit (.bl false))) sNil) (sCons (sIf (tNo (tTru (eArg bAll (aCons (eLc (iSeq (eVar 0)) (gNm 4) [4] tYesP (eCall (callF TH (n + 1)) 3 0 (aCons (eVar 4) (aCons (eLit (.int 0)) (aCons (eBin oSub (eVar 1) (eLit (.int 1))) aNil))))) aNil)))) (sRet (eLit (.bl false))) sNil) (sRet (eArg bAll (aCons (eLc (iZip (eVar 0) (eSl (eVar 0) (pSo (eLit (.int 1))) pNo)) (gTp [(gNm 2), (gNm 3)]) [2, 3] tYesP (eBin oLt (eVar 2) (eVar 3))) aNil))))) := by
  intro cdv A outer s H E n0 p hot hr
  have T : TbQ (L2H.cxH (L2.CX P w) P w K mg base ["cuts", "values", "one", "other", "cut"] "are_cuts" (defScope (top 37)) ((GG K).fa 29) cdv A outer s H E p) (GG K) (callF TH (n + 1)) 2 [0] := ⟨rfl, hQ, hr, ⟨p, hot, List.mem_cons_self⟩⟩
  have nd := scQ29.nd
  exact (ss_cons (ss_if (PW.pt (sw_or (st_no (st_tru rfl (se_isi1 (cv := (.ty "tuple")) (cu := (.type "tuple")) rfl rfl (m_b_isinstance C) (by rfl) (.ty _) (m_kit_tuplety C) (se_var (pv 0)) (pe_bltn (v := .ty "tuple") (u := .type "tuple") rfl (m_b_tuple C) (by rfl) rfl (by decide))))) (sw_or (st_eqQQ T (se_var (pv 0)) (se_tup sa_nil) (nomark _)) (sw_one (st_neQQ T (se_ixQQ T (se_var (pv 0)) (se_lit pe_int fun _ _ => rfl) (fun _ _ => rfl) (fun _ _ => by with_unfolding_all rfl)) (se_lit pe_int fun _ _ => rfl) (nomark _)))))) (ss_one (ss_ret (se_lit pe_bl fun _ _ => rfl))) ss_nil)
 (ss_cons (ss_if (st_no (st_tru rfl (se_argB (pe_callB (cr_allH T.hot) rfl (m_b_all C) (by rfl) (sa_cons (se_lcH (own := [("cut", 4)]) T.hot nd (si_seqHH rfl (se_var (pv 0))) (blk_ok (own := [("cut", 4)]) (by kernel_rfl)) (tb_nm 4 (by decide)) (fun _ _ _ _ _ => (pg_name (i := 4) nd rfl (by first | exact Or.inl rfl | exact Or.inr rfl))) (fun _ _ _ _ _ => sts_nil) (fun _ _ _ _ _ => (se_callQ (T.blk _ _ _ _ _) (by decide) rfl (m_f_is_number C) (m_k_is_number C) (sa_cons (se_var (pv 4)) (sa_cons (se_lit pe_int fun _ _ => rfl) (sa_cons (se_bin op_sub ok_sub (se_var (pv 1)) (se_lit pe_int fun _ _ => rfl)) sa_nil)))))) sa_nil)) ok_all))) (ss_one (ss_ret (se_lit pe_bl fun _ _ => rfl))) ss_nil)
 (ss_one (ss_ret (se_argB (pe_callB (cr_allH T.hot) rfl (m_b_all C) (by rfl) (sa_cons (se_lcH (own := [("one", 2), ("other", 3)]) T.hot nd (si_zipHH rfl rfl (m_b_zip C) (se_var (pv 0)) (se_sl rfl (se_var (pv 0)) (so_some (se_lit pe_int fun _ _ => rfl)) so_none)) (blk_ok (own := [("one", 2), ("other", 3)]) (by kernel_rfl)) (tb_tp (tbs_cons (tb_nm 2 (by decide)) (tbs_cons (tb_nm 3 (by decide)) tbs_nil)) rfl) (fun _ _ _ _ _ => (pg_tupH T.hot (pgs_cons (pg_name (i := 2) nd rfl (by first | exact Or.inl rfl | exact Or.inr rfl)) (pgs_cons (pg_name (i := 3) nd rfl (by first | exact Or.inl rfl | exact Or.inr rfl)) pgs_nil)))) (fun _ _ _ _ _ => sts_nil) (fun _ _ _ _ _ => (se_cmp op_lt ok_lt (se_var (pv 2)) (se_var (pv 3)) (nomark _)))) sa_nil)) ok_all)))))
theorem okQ29 (C : Ctx K base mg) (n np : Nat) : FnQ P w K mg base (GG K) 4 (callF TH (n + 2)) 29 np := by
  obtain ⟨fd, F⟩ := C.says.def_ 29 (d := d29) rfl
  refine def_okQk (b := bQ29) (n := n + 1) (k := 3) rfl F scQ29 rfl rfl (FunD_binds F fun _ _ _ _ _ _ us hl => match us, hl with | [_, _], _ => rfl) (dvQ29 (n := n) C fun f np hf => ?_) np
  rcases List.mem_cons.mp hf with rfl | hf
  · exact (okQ0 C (n + 0) np).mono (by decide)
  cases hf
theorem scQ30 : FnScope ["values", "cuts"] ["values", "cuts"] (defScope (top 38)) := mkSc (by decide +kernel)
theorem dvQ30 {n : Nat} (C : Ctx K base mg) (hQ : ∀ f np, f ∈ ([] : List Nat) → FnQ P w K mg base (GG K) 0 (callF TH n) f np) : DQ P w K mg base (GG K) ["values", "cuts"] "buckets_of" (top 38) ((GG K).fa 30) 1 fun n0 => (sRet (eLz (eVar 1) (eLst (aStar (eSl (eVar 1) (pSo (eLit (.int 1))) pNo) (aCons (eVar 0) aNil))))) := by
  intro cdv A outer s H E n0 p hot hr
  have T : TbQ (L2H.cxH (L2.CX P w) P w K mg base ["values", "cuts"] "buckets_of" (defScope (top 38)) ((GG K).fa 30) cdv A outer s H E p) (GG K) (callF TH n) 0 [] := ⟨rfl, hQ, hr, ⟨p, hot, List.mem_cons_self⟩⟩
  have nd := scQ30.nd
  exact (ss_one (ss_ret (se_lzH rfl T.hot rfl (m_b_list C) rfl (m_b_zip C) (se_var (pv 1)) (se_lst (sa_star rfl (se_sl rfl (se_var (pv 1)) (so_some (se_lit pe_int fun _ _ => rfl)) so_none) (sa_cons (se_var (pv 0)) sa_nil))))))
theorem okQ30 (C : Ctx K base mg) (n np : Nat) : FnQ P w K mg base (GG K) 2 (callF TH (n + 1)) 30 np := by
  obtain ⟨fd, F⟩ := C.says.def_ 30 (d := d30) rfl
  refine def_okQk (b := bQ30) (n := n + 0) (k := 1) rfl F scQ30 rfl rfl (FunD_binds F fun _ _ _ _ _ _ us hl => match us, hl with | [_, _], _ => rfl) (dvQ30 (n := n) C fun f np hf => ?_) np
  cases hf
theorem scQ31 : FnScope ["self", "width", "cuts", "totals", "total", "bucket"] ["self", "width", "cuts", "totals"] (defScope (inClass (top 39) 0)) := mkSc (by decide +kernel)
theorem dvQ31 {n : Nat} (C : Ctx K base mg) (hQ : ∀ f np, f ∈ ([0, 29, 30] : List Nat) → FnQ P w K mg base (GG K) 4 (callF TH (n + 2)) f np) : DQ P w K mg base (GG K) ["self", "width", "cuts", "totals", "total", "bucket"] "Histogram.__init__" (inClass (top 39) 0) ((GG K).fa 31) 5 fun n0 => (sCons (sIf (tOr (tNo (tTru (eCall (callF TH (n + 2)) 3 0 (aCons (eVar 1) (aCons (eLit (.int 1)) (aCons (eLit (.int (12))) aNil)))))) (tNo (tTru (eCall (callF TH (n + 2)) 2 29 (aCons (eVar 2) (aCons (eVar 1) aNil)))))) sNo sNil) (sCons (sIf (tOr (tNo (tTru (eIsi [(.non, false), (.bl, false), (.int, false), (.str, false), (.tup, true), (.lst, false), (.dct, false), (.own 0, false), (.own 1, false), (.own 2, false), (.own 3, false), (.own 4, false)] (eVar 3)))) (tBl (eBin oNeQ (eLenQ (eVar 3)) (eLenQ (eVar 2))))) sNo sNil) (sCons (sFor (iZip (eVar 3) (eCall (callF TH (n + 2)) 2 30 (aCons (eVar 1) (aCons (eVar 2) aNil)))) (gTp [(gNm 4), (gNm 5)]) (sIf (tNo (tTru (eCall (callF TH (n + 2)) 3 0 (aCons (eVar 4) (aCons (eLit (.int 0)) (aCons (eBin oRep (eLit (.int (9))) (eBin oSub (eBin oIx (eVar 5) (eLit (.int 1))) (eBin oIx (eVar 5) (eLit (.int 0))))) aNil)))))) sNo sNil)) (sCons (sFld n0 [4] 10 (eVar 0) (eVar 1)) (sCons (sFld n0 [4] 11 (eVar 0) (eVar 2)) (sFld n0 [4] 12 (eVar 0) (eVar 3))))))) := by
  intro cdv A outer s H E n0 p hot hr
  have T : TbQ (L2H.cxH (L2.CX P w) P w K mg base ["self", "width", "cuts", "totals", "total", "bucket"] "Histogram.__init__" (defScope (inClass (top 39) 0)) ((GG K).fa 31) cdv A outer s H E p) (GG K) (callF TH (n + 2)) 4 [0, 29, 30] := ⟨rfl, hQ, hr, ⟨p, hot, List.mem_cons_self⟩⟩
  have nd := scQ31.nd
  have po : PassesOwn (model P w) (L2H.cxH (L2.CX P w) P w K mg base ["self", "width", "cuts", "totals", "total", "bucket"] "Histogram.__init__" (defScope (inClass (top 39) 0)) ((GG K).fa 31) cdv A outer s H E p).A (L2H.cxH (L2.CX P w) P w K mg base ["self", "width", "cuts", "totals", "total", "bucket"] "Histogram.__init__" (defScope (inClass (top 39) 0)) ((GG K).fa 31) cdv A outer s H E p).env (L2H.cxH (L2.CX P w) P w K mg base ["self", "width", "cuts", "totals", "total", "bucket"] "Histogram.__init__" (defScope (inClass (top 39) 0)) ((GG K).fa 31) cdv A outer s H E p).xe := passes_of rfl
  exact (ss_cons (ss_if (PW.pt (sw_or (st_no (st_tru rfl (se_callQ T (by decide) rfl (m_f_is_number C) (m_k_is_number C) (sa_cons (se_var (pv 1)) (sa_cons (se_lit pe_int fun _ _ => rfl) (sa_cons (se_lit (C8.pe_gc rfl (m_i_MOST_VALUES C)) fun _ _ => rfl) sa_nil)))))) (sw_one (st_no (st_tru rfl (se_callQ T (by decide) rfl (m_f_are_cuts C) (m_k_are_cuts C) (sa_cons (se_var (pv 2)) (sa_cons (se_var (pv 1)) sa_nil)))))))) (ss_one ss_no) ss_nil)
 (ss_cons (ss_if (PW.pt (sw_or (st_no (st_tru rfl (se_isi1 (cv := (.ty "tuple")) (cu := (.type "tuple")) rfl rfl (m_b_isinstance C) (by rfl) (.ty _) (m_kit_tuplety C) (se_var (pv 3)) (pe_bltn (v := .ty "tuple") (u := .type "tuple") rfl (m_b_tuple C) (by rfl) rfl (by decide))))) (sw_one (st_neQQ T (se_lenQQ T rfl (m_b_len C) (se_var (pv 3))) (se_lenQQ T rfl (m_b_len C) (se_var (pv 2))) (nomark _))))) (ss_one ss_no) ss_nil)
 (ss_cons (ss_for (L2H.ps_forH po T.hot (si_zipHH rfl rfl (m_b_zip C) (se_var (pv 3)) (se_callQ T (by decide) rfl (m_f_buckets_of C) (m_k_buckets_of C) (sa_cons (se_var (pv 1)) (sa_cons (se_var (pv 2)) sa_nil)))) (pg_tupH T.hot (pgs_cons (pg_name (i := 4) nd rfl (by first | exact Or.inl rfl | exact Or.inr rfl)) (pgs_cons (pg_name (i := 5) nd rfl (by first | exact Or.inl rfl | exact Or.inr rfl)) pgs_nil))) (ss_one (ss_if (st_no (st_tru rfl (se_callQ T (by decide) rfl (m_f_is_number C) (m_k_is_number C) (sa_cons (se_var (pv 4)) (sa_cons (se_lit pe_int fun _ _ => rfl) (sa_cons (se_bin op_repR ok_rep (se_lit (C8.pe_gc rfl (m_i_MOST_COUNT C)) fun _ _ => rfl) (se_bin op_sub ok_sub (se_ixQQ T (se_var (pv 5)) (se_lit pe_int fun _ _ => rfl) (fun _ _ => rfl) (fun _ _ => by with_unfolding_all rfl)) (se_ixQQ T (se_var (pv 5)) (se_lit pe_int fun _ _ => rfl) (fun _ _ => rfl) (fun _ _ => by with_unfolding_all rfl)))) sa_nil)))))) (ss_one ss_no) ss_nil))) (tg_tp (tgs_cons (tg_nm 4) (tgs_cons (tg_nm 5) tgs_nil)) rfl))
 (ss_cons (ss_fld (f := 10) rfl (inj 10 (by decide)) (m_fld_width C) (se_var (pv 0)) (se_var (pv 1)))
 (ss_cons (ss_fld (f := 11) rfl (inj 11 (by decide)) (m_fld_cuts C) (se_var (pv 0)) (se_var (pv 2)))
 (ss_one (ss_fld (f := 12) rfl (inj 12 (by decide)) (m_fld_totals C) (se_var (pv 0)) (se_var (pv 3)))))))))
theorem okQ31 (C : Ctx K base mg) (n np : Nat) : FnQ P w K mg base (GG K) 6 (callF TH (n + 3)) 31 np := by
  obtain ⟨fd, F⟩ := C.says.def_ 31 (d := d31) rfl
  refine def_okQk (b := bQ31) (n := n + 2) (k := 5) rfl F scQ31 rfl rfl (FunD_binds F fun _ _ _ _ _ _ us hl => match us, hl with | [_, _, _, _], _ => rfl) (dvQ31 (n := n) C fun f np hf => ?_) np
  rcases List.mem_cons.mp hf with rfl | hf
  · exact (okQ0 C (n + 1) np).mono (by decide)
  rcases List.mem_cons.mp hf with rfl | hf
  · exact (okQ29 C (n + 0) np).mono (by decide)
  rcases List.mem_cons.mp hf with rfl | hf
  · exact (okQ30 C (n + 1) np).mono (by decide)
  cases hf
theorem dvN31 {n : Nat} {cf : CF} (C : Ctx K base mg) (ih : Ih P w K mg base (GG K) n cf) (cdv : Value) (A : Around) (outer : List PySem.Env) (s : Shared) (H : Hp) (E : XK) (n0 : Nat) (hr : Room (4 * n + 3) (A.deeper (envOfC "Histogram.__init__" (defScope (inClass (top 39) 0)) s.heap.objs.size ((GG K).fa 31) cdv))) (tk : L2N.Takes (cxOf (L2N.CX P w) P w K mg base ["self", "width", "cuts", "totals", "total", "bucket"] "Histogram.__init__" (defScope (inClass (top 39) 0)) ((GG K).fa 31) cdv A outer s H E) (fun cls d _ H => E cls d H)) : PSs (cxOf (L2N.CX P w) P w K mg base ["self", "width", "cuts", "totals", "total", "bucket"] "Histogram.__init__" (defScope (inClass (top 39) 0)) ((GG K).fa 31) cdv A outer s H E) (defBody (inClass (top 39) 0)) (rdS (GG K) n0 E (sCons (sIf (tOr (tNo (tTru (eCall cf 3 0 (aCons (eVar 1) (aCons (eLit (.int 1)) (aCons (eLit (.int (12))) aNil)))))) (tNo (tTru (eCall cf 2 29 (aCons (eVar 2) (aCons (eVar 1) aNil)))))) (sRse 9) sNil) (sCons (sIf (tOr (tNo (tTru (eIsi [(.non, false), (.bl, false), (.int, false), (.str, false), (.tup, true), (.lst, false), (.dct, false), (.own 0, false), (.own 1, false), (.own 2, false), (.own 3, false), (.own 4, false)] (eVar 3)))) (tBl (eNeQ cf [(0, 2), (1, 11), (2, 20), (3, 23), (4, 32)] [.non, .bl, .int, .str, .tup, .lst, .dct, .own 0, .own 1, .own 2, .own 3, .own 4] (eLenG cf [(0, 3), (4, 33)] (eVar 3)) (eLenG cf [(0, 3), (4, 33)] (eVar 2))))) (sRse 9) sNil) (sCons (sFor (iZip (eVar 3) (eCall cf 2 30 (aCons (eVar 1) (aCons (eVar 2) aNil)))) (gTp [(gNm 4), (gNm 5)]) (sIf (tNo (tTru (eCall cf 3 0 (aCons (eVar 4) (aCons (eLit (.int 0)) (aCons (eBin oRep (eLit (.int (9))) (eBin oSub (eIx cf [(0, 4)] (eVar 5) (eLit (.int 1))) (eIx cf [(0, 4)] (eVar 5) (eLit (.int 0))))) aNil)))))) (sRse 9) sNil)) (sCons (sFld n0 [4] 10 (eVar 0) (eVar 1)) (sCons (sFld n0 [4] 11 (eVar 0) (eVar 2)) (sFld n0 [4] 12 (eVar 0) (eVar 3)))))))) := by
  have T : Tb (cxOf (L2N.CX P w) P w K mg base ["self", "width", "cuts", "totals", "total", "bucket"] "Histogram.__init__" (defScope (inClass (top 39) 0)) ((GG K).fa 31) cdv A outer s H E) (GG K) cf (4 * n) := ⟨rfl, ih, hr.mono (by omega), rfl⟩
  have nd := scQ31.nd
  have po : PassesOwn (model P w) (cxOf (L2N.CX P w) P w K mg base ["self", "width", "cuts", "totals", "total", "bucket"] "Histogram.__init__" (defScope (inClass (top 39) 0)) ((GG K).fa 31) cdv A outer s H E).A (cxOf (L2N.CX P w) P w K mg base ["self", "width", "cuts", "totals", "total", "bucket"] "Histogram.__init__" (defScope (inClass (top 39) 0)) ((GG K).fa 31) cdv A outer s H E).env (cxOf (L2N.CX P w) P w K mg base ["self", "width", "cuts", "totals", "total", "bucket"] "Histogram.__init__" (defScope (inClass (top 39) 0)) ((GG K).fa 31) cdv A outer s H E).xe := passes_of rfl
  exact (ss_cons (ss_if (PW.pt (sw_or (st_no (st_tru rfl (sx_call T rfl (m_f_is_number C) (m_k_is_number C) (sa_cons (se_var (pv 1)) (sa_cons (se_lit pe_int fun _ _ => rfl) (sa_cons (se_lit (C8.pe_gc rfl (m_i_MOST_VALUES C)) fun _ _ => rfl) sa_nil)))))) (sw_one (st_no (st_tru rfl (sx_call T rfl (m_f_are_cuts C) (m_k_are_cuts C) (sa_cons (se_var (pv 2)) (sa_cons (se_var (pv 1)) sa_nil)))))))) (ss_one (ss_rseN rfl rfl tk (m_x_BadHistogram C) (m_c_BadHistogram C) rfl)) ss_nil)
 (ss_cons (ss_if (PW.pt (sw_or (st_no (st_tru rfl (se_isi1 (cv := (.ty "tuple")) (cu := (.type "tuple")) rfl rfl (m_b_isinstance C) (by rfl) (.ty _) (m_kit_tuplety C) (se_var (pv 3)) (pe_bltn (v := .ty "tuple") (u := .type "tuple") rfl (m_b_tuple C) (by rfl) rfl (by decide))))) (sw_one (st_neQ T (m_eqt C) (se_lenG T rfl (m_b_len C) (fun p hp => ((m_spc___len__ C) p hp).1) (se_var (pv 3))) (se_lenG T rfl (m_b_len C) (fun p hp => ((m_spc___len__ C) p hp).1) (se_var (pv 2))) (nomark _))))) (ss_one (ss_rseN rfl rfl tk (m_x_BadHistogram C) (m_c_BadHistogram C) rfl)) ss_nil)
 (ss_cons (ss_for (ps_for po rfl (si_zip rfl rfl (m_b_zip C) (se_var (pv 3)) (sx_call T rfl (m_f_buckets_of C) (m_k_buckets_of C) (sa_cons (se_var (pv 1)) (sa_cons (se_var (pv 2)) sa_nil)))) (pg_tup rfl (pgs_cons (pg_name (i := 4) nd rfl (by first | exact Or.inl rfl | exact Or.inr rfl)) (pgs_cons (pg_name (i := 5) nd rfl (by first | exact Or.inl rfl | exact Or.inr rfl)) pgs_nil))) (ss_one (ss_if (st_no (st_tru rfl (sx_call T rfl (m_f_is_number C) (m_k_is_number C) (sa_cons (se_var (pv 4)) (sa_cons (se_lit pe_int fun _ _ => rfl) (sa_cons (se_bin op_repR ok_rep (se_lit (C8.pe_gc rfl (m_i_MOST_COUNT C)) fun _ _ => rfl) (se_bin op_sub ok_sub (se_ixG T (m_spc___getitem__ C) (se_var (pv 5)) (se_lit pe_int fun _ _ => rfl) (fun _ _ => rfl) (fun _ _ => by with_unfolding_all rfl)) (se_ixG T (m_spc___getitem__ C) (se_var (pv 5)) (se_lit pe_int fun _ _ => rfl) (fun _ _ => rfl) (fun _ _ => by with_unfolding_all rfl)))) sa_nil)))))) (ss_one (ss_rseN rfl rfl tk (m_x_BadHistogram C) (m_c_BadHistogram C) rfl)) ss_nil))) (tg_tp (tgs_cons (tg_nm 4) (tgs_cons (tg_nm 5) tgs_nil)) rfl))
 (ss_cons (ss_fld (f := 10) rfl (inj 10 (by decide)) (m_fld_width C) (se_var (pv 0)) (se_var (pv 1)))
 (ss_cons (ss_fld (f := 11) rfl (inj 11 (by decide)) (m_fld_cuts C) (se_var (pv 0)) (se_var (pv 2)))
 (ss_one (ss_fld (f := 12) rfl (inj 12 (by decide)) (m_fld_totals C) (se_var (pv 0)) (se_var (pv 3)))))))))
theorem okN31 (C : Ctx K base mg) : ∀ n, All P w K mg base (GG K) TT n → ∀ np, FnR P w K mg base (L2N.CX P w) (4 * (n + 1)) ((GG K).fa 31) (spF (GG K) (callF TT (n + 1)) 31 np) := fun n ih => by
  obtain ⟨fd, F⟩ := C.says.def_ 31 (d := d31) rfl
  exact def_okN (b := b31) rfl F scQ31 rfl rfl (FunD_binds F fun _ _ _ _ _ _ us hl => match us, hl with | [_, _, _, _], _ => rfl) (dvN31 C ih)
abbrev N0 : List Str := ["thing", "least", "most"]
theorem sc0 : FnScope N0 ["thing", "least", "most"] (defScope (top 14)) := mkSc (by decide +kernel)
theorem dv0 {n : Nat} {cf : CF} (C : Ctx K base mg) (ih : Ih P w K mg base (GG K) n cf) : Dv P w K mg base (GG K) N0 "is_number" (top 14) ((GG K).fa 0) n fun n0 => (sRet (eAn (eIsi [(.non, false), (.bl, true), (.int, true), (.str, false), (.tup, false), (.lst, false), (.dct, false), (.own 0, false), (.own 1, false), (.own 2, false), (.own 3, false), (.own 4, false)] (eVar 0)) (eAn (eNot (eIsi [(.non, false), (.bl, true), (.int, false), (.str, false), (.tup, false), (.lst, false), (.dct, false), (.own 0, false), (.own 1, false), (.own 2, false), (.own 3, false), (.own 4, false)] (eVar 0))) (eCh oLe oLe (eVar 1) (eVar 0) (eVar 2))))) := by
  intro cdv A outer s H E n0 hr tk
  have T := dvT tk rfl ih hr rfl
  have nd := sc0.nd
  exact (ss_one (ss_ret (se_and rfl (se_isi1 (cv := (.ty "int")) (cu := (.type "int")) rfl rfl (m_b_isinstance C) (by rfl) (.ty _) (m_kit_intty C) (se_var (pv 0)) (pe_bltn (v := .ty "int") (u := .type "int") rfl (m_b_int C) (by rfl) rfl (by decide))) (se_and rfl (se_not rfl (se_isi1 (cv := (.ty "bool")) (cu := (.type "bool")) rfl rfl (m_b_isinstance C) (by rfl) (.ty _) (m_kit_boolty C) (se_var (pv 0)) (pe_bltn (v := .ty "bool") (u := .type "bool") rfl (m_b_bool C) (by rfl) rfl (by decide)))) (se_one (se_ch op_le ok_le op_le ok_le (se_var (pv 1)) (se_var (pv 0)) (se_var (pv 2)) (pe_chain op_le op_le (toV (se_var (pv 1))) (toV (se_var (pv 0))) (toV (se_var (pv 2))))))))))
theorem ok0 {n : Nat} (C : Ctx K base mg) (ih : All P w K mg base (GG K) TT n) : OkF P w K mg base n 0 := by
  obtain ⟨fd, F⟩ := C.says.def_ 0 (d := d0) rfl
  exact def_ok (b := b0) rfl F sc0 rfl rfl (FunD_binds F fun _ _ _ _ _ _ us hl => match us, hl with | [_, _, _], _ => rfl) (dv0 C ih)
abbrev N1 : List Str := ["self", "counts", "count"]
theorem sc1 : FnScope N1 ["self", "counts"] (defScope (inClass (top 15) 0)) := mkSc (by decide +kernel)
theorem dv1 {n : Nat} {cf : CF} (C : Ctx K base mg) (ih : Ih P w K mg base (GG K) n cf) : Dv P w K mg base (GG K) N1 "Column.__init__" (inClass (top 15) 0) ((GG K).fa 1) n fun n0 => (sCons (sIf (tOr (tNo (tTru (eIsi [(.non, false), (.bl, false), (.int, false), (.str, false), (.tup, true), (.lst, true), (.dct, false), (.own 0, false), (.own 1, false), (.own 2, false), (.own 3, false), (.own 4, false)] (eVar 1)))) (tNo (tBl (eCh oLe oLe (eLit (.int 1)) (eLenG cf [(0, 3), (4, 33)] (eVar 1)) (eLit (.int (12))))))) (sRse 6) sNil) (sCons (sIf (tNo (tTru (eArg bAll (aCons (eLc (iSeqH (eVar 1)) (gNm 2) [2] tYesP (eCall cf 3 0 (aCons (eVar 2) (aCons (eLit (.int 0)) (aCons (eLit (.int (9))) aNil))))) aNil)))) (sRse 6) sNil) (sFld n0 [0] 0 (eVar 0) (eArg bTuple (aCons (eVar 1) aNil))))) := by
  intro cdv A outer s H E n0 hr tk
  have T := dvT tk rfl ih hr rfl
  have nd := sc1.nd
  exact (ss_cons (ss_if (PW.pt (sw_or (st_no (st_tru rfl (se_isiT (cvs := [(.ty "list"), (.ty "tuple")]) (cus := [(.type "list"), (.type "tuple")]) rfl rfl (m_b_isinstance C) (by rfl) (.cons (.ty _) (.cons (.ty _) .nil)) (m_kitT_list_tuple C) (se_var (pv 1)) (pa_cons (pe_bltn (v := .ty "list") (u := .type "list") rfl (m_b_list C) (by rfl) rfl (by decide)) (pa_cons (pe_bltn (v := .ty "tuple") (u := .type "tuple") rfl (m_b_tuple C) (by rfl) rfl (by decide)) pa_nil)) (fun _ _ _ h => h) (by decide)))) (sw_one (st_no (st_ch op_le ok_le op_le ok_le (se_lit pe_int fun _ _ => rfl) (se_lenG T rfl (m_b_len C) (fun p hp => ((m_spc___len__ C) p hp).1) (se_var (pv 1))) (se_lit (C8.pe_gc rfl (m_i_MOST_VALUES C)) fun _ _ => rfl)))))) (ss_one (ss_rse rfl rfl tk (m_x_BadCounts C) (m_c_BadCounts C) rfl)) ss_nil)
 (ss_cons (ss_if (st_no (st_tru rfl (se_argB (pe_callB (cr_all rfl) rfl (m_b_all C) (by rfl) (sa_cons (se_lc (own := [("count", 2)]) rfl nd (si_seqH rfl (se_var (pv 1))) (blk_ok (own := [("count", 2)]) (by kernel_rfl)) (tb_nm 2 (by decide)) (fun _ _ _ _ _ => (pg_name (i := 2) nd rfl (by first | exact Or.inl rfl | exact Or.inr rfl))) (fun _ _ _ _ _ => sts_nil) (fun _ _ _ _ _ => (sx_call (T.blk _ _ _ _ _) rfl (m_f_is_number C) (m_k_is_number C) (sa_cons (se_var (pv 2)) (sa_cons (se_lit pe_int fun _ _ => rfl) (sa_cons (se_lit (C8.pe_gc rfl (m_i_MOST_COUNT C)) fun _ _ => rfl) sa_nil)))))) sa_nil)) ok_all))) (ss_one (ss_rse rfl rfl tk (m_x_BadCounts C) (m_c_BadCounts C) rfl)) ss_nil)
 (ss_one (ss_fld (f := 0) rfl (inj 0 (by decide)) (m_fld_counts C) (se_var (pv 0)) (se_argB (pe_callTy call_tuple_of rfl (m_b_tuple C) (by rfl) (sa_cons (se_var (pv 1)) sa_nil)) ok_tuple)))))
theorem ok1 {n : Nat} (C : Ctx K base mg) (ih : All P w K mg base (GG K) TT n) : OkF P w K mg base n 1 := by
  obtain ⟨fd, F⟩ := C.says.def_ 1 (d := d1) rfl
  exact def_ok (b := b1) rfl F sc1 rfl rfl (FunD_binds F fun _ _ _ _ _ _ us hl => match us, hl with | [_, _], _ => rfl) (dv1 C ih)
abbrev N2 : List Str := ["self", "other"]
theorem sc2 : FnScope N2 ["self", "other"] (defScope (inClass (top 15) 1)) := mkSc (by decide +kernel)
theorem dv2 {n : Nat} {cf : CF} (C : Ctx K base mg) (ih : Ih P w K mg base (GG K) n cf) : Dv P w K mg base (GG K) N2 "Column.__eq__" (inClass (top 15) 1) ((GG K).fa 2) n fun n0 => (sRet (eAn (eIsi [(.non, false), (.bl, false), (.int, false), (.str, false), (.tup, false), (.lst, false), (.dct, false), (.own 0, true), (.own 1, false), (.own 2, false), (.own 3, false), (.own 4, false)] (eVar 1)) (eEqQ cf [(0, 2), (1, 11), (2, 20), (3, 23), (4, 32)] [.non, .bl, .int, .str, .tup, .lst, .dct, .own 0, .own 1, .own 2, .own 3, .own 4] (eFld [0] 0 (eVar 0)) (eFld [0] 0 (eVar 1))))) := by
  intro cdv A outer s H E n0 hr tk
  have T := dvT tk rfl ih hr rfl
  have nd := sc2.nd
  exact (ss_one (ss_ret (se_and rfl (se_isi1 (cv := (.ref ((GG K).ca 0))) (cu := (.ref ((GG K).ca 0))) rfl rfl (m_b_isinstance C) (by rfl) (.own _) (m_kit_0own C) (se_var (pv 1)) (pe_glob (v := .ref ((GG K).ca 0)) rfl (m_c_Column C) rfl)) (se_one (se_eqQ T (m_eqt C) (se_fld (f := 0) rfl (inj 0 (by decide)) (m_fld_counts C) (se_var (pv 0))) (se_fld (f := 0) rfl (inj 0 (by decide)) (m_fld_counts C) (se_var (pv 1))) (nomark _))))))
theorem ok2 {n : Nat} (C : Ctx K base mg) (ih : All P w K mg base (GG K) TT n) : OkF P w K mg base n 2 := by
  obtain ⟨fd, F⟩ := C.says.def_ 2 (d := d2) rfl
  exact def_ok (b := b2) rfl F sc2 rfl rfl (FunD_binds F fun _ _ _ _ _ _ us hl => match us, hl with | [_, _], _ => rfl) (dv2 C ih)
abbrev N3 : List Str := ["self"]
theorem sc3 : FnScope N3 ["self"] (defScope (inClass (top 15) 2)) := mkSc (by decide +kernel)
theorem dv3 {n : Nat} {cf : CF} (C : Ctx K base mg) (ih : Ih P w K mg base (GG K) n cf) : Dv P w K mg base (GG K) N3 "Column.__len__" (inClass (top 15) 2) ((GG K).fa 3) n fun n0 => (sRet (eLenG cf [(0, 3), (4, 33)] (eFld [0] 0 (eVar 0)))) := by
  intro cdv A outer s H E n0 hr tk
  have T := dvT tk rfl ih hr rfl
  have nd := sc3.nd
  exact (ss_one (ss_ret (se_lenG T rfl (m_b_len C) (fun p hp => ((m_spc___len__ C) p hp).1) (se_fld (f := 0) rfl (inj 0 (by decide)) (m_fld_counts C) (se_var (pv 0))))))
theorem ok3 {n : Nat} (C : Ctx K base mg) (ih : All P w K mg base (GG K) TT n) : OkF P w K mg base n 3 := by
  obtain ⟨fd, F⟩ := C.says.def_ 3 (d := d3) rfl
  exact def_ok (b := b3) rfl F sc3 rfl rfl (FunD_binds F fun _ _ _ _ _ _ us hl => match us, hl with | [_], _ => rfl) (dv3 C ih)
abbrev N4 : List Str := ["self", "value"]
theorem sc4 : FnScope N4 ["self", "value"] (defScope (inClass (top 15) 3)) := mkSc (by decide +kernel)
theorem dv4 {n : Nat} {cf : CF} (C : Ctx K base mg) (ih : Ih P w K mg base (GG K) n cf) : Dv P w K mg base (GG K) N4 "Column.__getitem__" (inClass (top 15) 3) ((GG K).fa 4) n fun n0 => (sCons (sIf (tNo (tTru (eCall cf 3 0 (aCons (eVar 1) (aCons (eLit (.int 0)) (aCons (eBin oSub (eLenG cf [(0, 3), (4, 33)] (eFld [0] 0 (eVar 0))) (eLit (.int 1))) aNil)))))) (sRse 8) sNil) (sRet (eIx cf [(0, 4)] (eFld [0] 0 (eVar 0)) (eVar 1)))) := by
  intro cdv A outer s H E n0 hr tk
  have T := dvT tk rfl ih hr rfl
  have nd := sc4.nd
  exact (ss_cons (ss_if (st_no (st_tru rfl (sx_call T rfl (m_f_is_number C) (m_k_is_number C) (sa_cons (se_var (pv 1)) (sa_cons (se_lit pe_int fun _ _ => rfl) (sa_cons (se_bin op_sub ok_sub (se_lenG T rfl (m_b_len C) (fun p hp => ((m_spc___len__ C) p hp).1) (se_fld (f := 0) rfl (inj 0 (by decide)) (m_fld_counts C) (se_var (pv 0)))) (se_lit pe_int fun _ _ => rfl)) sa_nil)))))) (ss_one (ss_rse rfl rfl tk (m_x_BadValue C) (m_c_BadValue C) rfl)) ss_nil)
 (ss_one (ss_ret (se_ixG T (m_spc___getitem__ C) (se_fld (f := 0) rfl (inj 0 (by decide)) (m_fld_counts C) (se_var (pv 0))) (se_var (pv 1)) (fun _ _ => rfl) (fun _ _ => by with_unfolding_all rfl)))))
theorem ok4 {n : Nat} (C : Ctx K base mg) (ih : All P w K mg base (GG K) TT n) : OkF P w K mg base n 4 := by
  obtain ⟨fd, F⟩ := C.says.def_ 4 (d := d4) rfl
  exact def_ok (b := b4) rfl F sc4 rfl rfl (FunD_binds F fun _ _ _ _ _ _ us hl => match us, hl with | [_, _], _ => rfl) (dv4 C ih)
abbrev N5 : List Str := ["self"]
theorem sc5 : FnScope N5 ["self"] (defScope (inClass (top 15) 4)) := mkSc (by decide +kernel)
theorem dv5 {n : Nat} {cf : CF} (C : Ctx K base mg) (ih : Ih P w K mg base (GG K) n cf) : Dv P w K mg base (GG K) N5 "Column.__iter__" (inClass (top 15) 4) ((GG K).fa 5) n fun n0 => sNo := by
  intro cdv A outer s H E n0 hr tk
  have T := dvT tk rfl ih hr rfl
  have nd := sc5.nd
  exact (ss_one ss_no)
theorem ok5 {n : Nat} (C : Ctx K base mg) (ih : All P w K mg base (GG K) TT n) : OkF P w K mg base n 5 := by
  obtain ⟨fd, F⟩ := C.says.def_ 5 (d := d5) rfl
  exact def_ok (b := b5) rfl F sc5 rfl rfl (FunD_binds F fun _ _ _ _ _ _ us hl => match us, hl with | [_], _ => rfl) (dv5 C ih)
abbrev N6 : List Str := ["self"]
theorem sc6 : FnScope N6 ["self"] (defScope (inClass (top 15) 5)) := mkSc (by decide +kernel)
theorem dv6 {n : Nat} {cf : CF} (C : Ctx K base mg) (ih : Ih P w K mg base (GG K) n cf) : Dv P w K mg base (GG K) N6 "Column.rows" (inClass (top 15) 5) ((GG K).fa 6) n fun n0 => (sRet (eArg bSum (aCons (eFld [0] 0 (eVar 0)) aNil))) := by
  intro cdv A outer s H E n0 hr tk
  have T := dvT tk rfl ih hr rfl
  have nd := sc6.nd
  exact (ss_one (ss_ret (se_argB (pe_callB (cr_sumA rfl) rfl (m_b_sum C) (by rfl) (sa_cons (se_fld (f := 0) rfl (inj 0 (by decide)) (m_fld_counts C) (se_var (pv 0))) sa_nil)) ok_sum)))
theorem ok6 {n : Nat} (C : Ctx K base mg) (ih : All P w K mg base (GG K) TT n) : OkF P w K mg base n 6 := by
  obtain ⟨fd, F⟩ := C.says.def_ 6 (d := d6) rfl
  exact def_ok (b := b6) rfl F sc6 rfl rfl (FunD_binds F fun _ _ _ _ _ _ us hl => match us, hl with | [_], _ => rfl) (dv6 C ih)
abbrev N7 : List Str := ["column"]
theorem sc7 : FnScope N7 ["column"] (defScope (top 16)) := mkSc (by decide +kernel)
theorem dv7 {n : Nat} {cf : CF} (C : Ctx K base mg) (ih : Ih P w K mg base (GG K) n cf) : Dv P w K mg base (GG K) N7 "check_column" (top 16) ((GG K).fa 7) n fun n0 => (sIf (tNo (tTru (eIsi [(.non, false), (.bl, false), (.int, false), (.str, false), (.tup, false), (.lst, false), (.dct, false), (.own 0, true), (.own 1, false), (.own 2, false), (.own 3, false), (.own 4, false)] (eVar 0)))) (sRse 7) sNil) := by
  intro cdv A outer s H E n0 hr tk
  have T := dvT tk rfl ih hr rfl
  have nd := sc7.nd
  exact (ss_one (ss_if (st_no (st_tru rfl (se_isi1 (cv := (.ref ((GG K).ca 0))) (cu := (.ref ((GG K).ca 0))) rfl rfl (m_b_isinstance C) (by rfl) (.own _) (m_kit_0own C) (se_var (pv 0)) (pe_glob (v := .ref ((GG K).ca 0)) rfl (m_c_Column C) rfl)))) (ss_one (ss_rse rfl rfl tk (m_x_BadColumn C) (m_c_BadColumn C) rfl)) ss_nil))
theorem ok7 {n : Nat} (C : Ctx K base mg) (ih : All P w K mg base (GG K) TT n) : OkF P w K mg base n 7 := by
  obtain ⟨fd, F⟩ := C.says.def_ 7 (d := d7) rfl
  exact def_ok (b := b7) rfl F sc7 rfl rfl (FunD_binds F fun _ _ _ _ _ _ us hl => match us, hl with | [_], _ => rfl) (dv7 C ih)
abbrev N8 : List Str := ["thing", "least", "most"]
theorem sc8 : FnScope N8 ["thing", "least", "most"] (defScope (top 17)) := mkSc (by decide +kernel)
theorem dv8 {n : Nat} {cf : CF} (C : Ctx K base mg) (ih : Ih P w K mg base (GG K) n cf) : Dv P w K mg base (GG K) N8 "check_number" (top 17) ((GG K).fa 8) n fun n0 => (sIf (tNo (tTru (eCall cf 3 0 (aCons (eVar 0) (aCons (eVar 1) (aCons (eVar 2) aNil)))))) (sRse 10) sNil) := by
  intro cdv A outer s H E n0 hr tk
  have T := dvT tk rfl ih hr rfl
  have nd := sc8.nd
  exact (ss_one (ss_if (st_no (st_tru rfl (sx_call T rfl (m_f_is_number C) (m_k_is_number C) (sa_cons (se_var (pv 0)) (sa_cons (se_var (pv 1)) (sa_cons (se_var (pv 2)) sa_nil)))))) (ss_one (ss_rse rfl rfl tk (m_x_BadNumber C) (m_c_BadNumber C) rfl)) ss_nil))
theorem ok8 {n : Nat} (C : Ctx K base mg) (ih : All P w K mg base (GG K) TT n) : OkF P w K mg base n 8 := by
  obtain ⟨fd, F⟩ := C.says.def_ 8 (d := d8) rfl
  exact def_ok (b := b8) rfl F sc8 rfl rfl (FunD_binds F fun _ _ _ _ _ _ us hl => match us, hl with | [_, _, _], _ => rfl) (dv8 C ih)
abbrev N9 : List Str := ["stream", "counters", "index", "value"]
theorem sc9 : FnScope N9 ["stream", "counters"] (defScope (top 21)) := mkSc (by decide +kernel)
theorem dv9 {n : Nat} {cf : CF} (C : Ctx K base mg) (ih : Ih P w K mg base (GG K) n cf) : Dv P w K mg base (GG K) N9 "check_stream" (top 21) ((GG K).fa 9) n fun n0 => (sCons (sIf (tOr (tNo (tTru (eIsi [(.non, false), (.bl, false), (.int, false), (.str, false), (.tup, true), (.lst, true), (.dct, false), (.own 0, false), (.own 1, false), (.own 2, false), (.own 3, false), (.own 4, false)] (eVar 0)))) (tBl (eBin oGt (eLenG cf [(0, 3), (4, 33)] (eVar 0)) (eLit (.int (30)))))) sNo sNil) (sCons (sFor (iEnu (eVar 0)) (gTp [(gNm 2), (gNm 3)]) (sIf (tNo (tTru (eCall cf 3 0 (aCons (eVar 3) (aCons (eLit (.int 0)) (aCons (eBin oSub (eLit (.int (12))) (eLit (.int 1))) aNil)))))) sNo sNil)) (sExp (eCall cf 3 8 (aCons (eVar 1) (aCons (eLit (.int 1)) (aCons (eLit (.int (6))) aNil))))))) := by
  intro cdv A outer s H E n0 hr tk
  have T := dvT tk rfl ih hr rfl
  have nd := sc9.nd
  have po := dvP tk rfl
  exact (ss_cons (ss_if (PW.pt (sw_or (st_no (st_tru rfl (se_isiT (cvs := [(.ty "list"), (.ty "tuple")]) (cus := [(.type "list"), (.type "tuple")]) rfl rfl (m_b_isinstance C) (by rfl) (.cons (.ty _) (.cons (.ty _) .nil)) (m_kitT_list_tuple C) (se_var (pv 0)) (pa_cons (pe_bltn (v := .ty "list") (u := .type "list") rfl (m_b_list C) (by rfl) rfl (by decide)) (pa_cons (pe_bltn (v := .ty "tuple") (u := .type "tuple") rfl (m_b_tuple C) (by rfl) rfl (by decide)) pa_nil)) (fun _ _ _ h => h) (by decide)))) (sw_one (st_cmp op_gt ok_gt (se_lenG T rfl (m_b_len C) (fun p hp => ((m_spc___len__ C) p hp).1) (se_var (pv 0))) (se_lit (C8.pe_gc rfl (m_i_MOST_LENGTH C)) fun _ _ => rfl) (nomark _))))) (ss_one ss_no) ss_nil)
 (ss_cons (ss_for (ps_for po rfl (si_enum rfl rfl (m_b_enumerate C) (se_var (pv 0))) (pg_tup rfl (pgs_cons (pg_name (i := 2) nd rfl (by first | exact Or.inl rfl | exact Or.inr rfl)) (pgs_cons (pg_name (i := 3) nd rfl (by first | exact Or.inl rfl | exact Or.inr rfl)) pgs_nil))) (ss_one (ss_if (st_no (st_tru rfl (sx_call T rfl (m_f_is_number C) (m_k_is_number C) (sa_cons (se_var (pv 3)) (sa_cons (se_lit pe_int fun _ _ => rfl) (sa_cons (se_bin op_sub ok_sub (se_lit (C8.pe_gc rfl (m_i_MOST_VALUES C)) fun _ _ => rfl) (se_lit pe_int fun _ _ => rfl)) sa_nil)))))) (ss_one ss_no) ss_nil))) (tg_tp (tgs_cons (tg_nm 2) (tgs_cons (tg_nm 3) tgs_nil)) rfl))
 (ss_one (ss_expr (sx_call T rfl (m_f_check_number C) (m_k_check_number C) (sa_cons (se_var (pv 1)) (sa_cons (se_lit pe_int fun _ _ => rfl) (sa_cons (se_lit (C8.pe_gc rfl (m_i_MOST_COUNTERS C)) fun _ _ => rfl) sa_nil))))))))
theorem ok9 {n : Nat} (C : Ctx K base mg) (ih : All P w K mg base (GG K) TT n) : OkF P w K mg base n 9 := by
  obtain ⟨fd, F⟩ := C.says.def_ 9 (d := d9) rfl
  exact def_ok (b := b9) rfl F sc9 rfl rfl (FunD_binds F fun _ _ _ _ _ _ us hl => match us, hl with | [_, _], _ => rfl) (dv9 C ih)
abbrev N10 : List Str := ["self", "counters", "groups", "group"]
theorem sc10 : FnScope N10 ["self", "counters", "groups"] (defScope (inClass (top 22) 0)) := mkSc (by decide +kernel)
theorem dv10 {n : Nat} {cf : CF} (C : Ctx K base mg) (ih : Ih P w K mg base (GG K) n cf) : Dv P w K mg base (GG K) N10 "Crossed.__init__" (inClass (top 22) 0) ((GG K).fa 10) n fun n0 => (sCons (sFld n0 [1] 1 (eVar 0) (eArg bDictG (aCons (eVar 1) aNil))) (sFld n0 [1] 2 (eVar 0) (eLc (iSeqH (eVar 2)) (gNm 3) [3] tYesP (eArg bTuple (aCons (eVar 3) aNil))))) := by
  intro cdv A outer s H E n0 hr tk
  have T := dvT tk rfl ih hr rfl
  have nd := sc10.nd
  exact (ss_cons (ss_fld (f := 1) rfl (inj 1 (by decide)) (m_fld_counters C) (se_var (pv 0)) (se_argB (pe_callTy (cr_dictG rfl (units65 T)) rfl (m_b_dict C) (by rfl) (sa_cons (se_var (pv 1)) sa_nil)) ok_dictG))
 (ss_one (ss_fld (f := 2) rfl (inj 2 (by decide)) (m_fld_groups C) (se_var (pv 0)) (se_lc (own := [("group", 3)]) rfl nd (si_seqH rfl (se_var (pv 2))) (blk_ok (own := [("group", 3)]) (by kernel_rfl)) (tb_nm 3 (by decide)) (fun _ _ _ _ _ => (pg_name (i := 3) nd rfl (by first | exact Or.inl rfl | exact Or.inr rfl))) (fun _ _ _ _ _ => sts_nil) (fun _ _ _ _ _ => (se_argB (pe_callTy call_tuple_of rfl (m_b_tuple C) (by rfl) (sa_cons (se_var (pv 3)) sa_nil)) ok_tuple))))))
theorem ok10 {n : Nat} (C : Ctx K base mg) (ih : All P w K mg base (GG K) TT n) : OkF P w K mg base n 10 := by
  obtain ⟨fd, F⟩ := C.says.def_ 10 (d := d10) rfl
  exact def_ok (b := b10) rfl F sc10 rfl rfl (FunD_binds F fun _ _ _ _ _ _ us hl => match us, hl with | [_, _, _], _ => rfl) (dv10 C ih)
abbrev N11 : List Str := ["self", "other"]
theorem sc11 : FnScope N11 ["self", "other"] (defScope (inClass (top 22) 1)) := mkSc (by decide +kernel)
theorem dv11 {n : Nat} {cf : CF} (C : Ctx K base mg) (ih : Ih P w K mg base (GG K) n cf) : Dv P w K mg base (GG K) N11 "Crossed.__eq__" (inClass (top 22) 1) ((GG K).fa 11) n fun n0 => (sRet (eAn (eIsi [(.non, false), (.bl, false), (.int, false), (.str, false), (.tup, false), (.lst, false), (.dct, false), (.own 0, false), (.own 1, true), (.own 2, false), (.own 3, false), (.own 4, false)] (eVar 1)) (eEqQ cf [(0, 2), (1, 11), (2, 20), (3, 23), (4, 32)] [.non, .bl, .int, .str, .tup, .lst, .dct, .own 0, .own 1, .own 2, .own 3, .own 4] (eTup (aCons (eFld [1] 1 (eVar 0)) (aCons (eFld [1] 2 (eVar 0)) aNil))) (eTup (aCons (eFld [1] 1 (eVar 1)) (aCons (eFld [1] 2 (eVar 1)) aNil)))))) := by
  intro cdv A outer s H E n0 hr tk
  have T := dvT tk rfl ih hr rfl
  have nd := sc11.nd
  exact (ss_one (ss_ret (se_and rfl (se_isi1 (cv := (.ref ((GG K).ca 1))) (cu := (.ref ((GG K).ca 1))) rfl rfl (m_b_isinstance C) (by rfl) (.own _) (m_kit_1own C) (se_var (pv 1)) (pe_glob (v := .ref ((GG K).ca 1)) rfl (m_c_Crossed C) rfl)) (se_one (se_eqQ T (m_eqt C) (se_tup (sa_cons (se_fld (f := 1) rfl (inj 1 (by decide)) (m_fld_counters C) (se_var (pv 0))) (sa_cons (se_fld (f := 2) rfl (inj 2 (by decide)) (m_fld_groups C) (se_var (pv 0))) sa_nil))) (se_tup (sa_cons (se_fld (f := 1) rfl (inj 1 (by decide)) (m_fld_counters C) (se_var (pv 1))) (sa_cons (se_fld (f := 2) rfl (inj 2 (by decide)) (m_fld_groups C) (se_var (pv 1))) sa_nil))) (nomark _))))))
theorem ok11 {n : Nat} (C : Ctx K base mg) (ih : All P w K mg base (GG K) TT n) : OkF P w K mg base n 11 := by
  obtain ⟨fd, F⟩ := C.says.def_ 11 (d := d11) rfl
  exact def_ok (b := b11) rfl F sc11 rfl rfl (FunD_binds F fun _ _ _ _ _ _ us hl => match us, hl with | [_, _], _ => rfl) (dv11 C ih)
abbrev N12 : List Str := ["self", "stream", "counters", "every", "group", "index", "value"]
theorem sc12 : FnScope N12 ["self", "stream", "counters"] (defScope (inClass (top 22) 2)) := mkSc (by decide +kernel)
theorem dv12 {n : Nat} {cf : CF} (C : Ctx K base mg) (ih : Ih P w K mg base (GG K) n cf) : Dv P w K mg base (GG K) N12 "Crossed.shows" (inClass (top 22) 2) ((GG K).fa 12) n fun n0 => (sCons (sExp (eCall cf 2 9 (aCons (eVar 1) (aCons (eVar 2) aNil)))) (sCons (sAsg (gNm 3) (eLc2 (iSeqH (eFld [1] 2 (eVar 0))) (gNm 4) [4, 5] tYesP (iSeqH (eVar 4)) (gNm 5) [5] tYesP (eVar 5))) (sCons (sIf (tOr (tNo (tTru (eArg bAll (aCons (eLc (iSeqH (eVar 3)) (gNm 5) [5] tYesP (eCall cf 3 0 (aCons (eVar 5) (aCons (eLit (.int 0)) (aCons (eBin oSub (eLenG cf [(0, 3), (4, 33)] (eVar 1)) (eLit (.int 1))) aNil))))) aNil)))) (tBl (eNeQ cf [(0, 2), (1, 11), (2, 20), (3, 23), (4, 32)] [.non, .bl, .int, .str, .tup, .lst, .dct, .own 0, .own 1, .own 2, .own 3, .own 4] (eArg bLset (aCons (eVar 3) aNil)) (eLenG cf [(0, 3), (4, 33)] (eVar 3))))) (sRet (eLit (.bl false))) sNil) (sCons (sIf (tOr (tNo (tTru (eArg bAll (aCons (eLc (iSeqH (eFld [1] 2 (eVar 0))) (gNm 4) [4] tYesP (eCall cf 3 13 (aCons (eVar 1) (aCons (eVar 2) (aCons (eVar 4) aNil))))) aNil)))) (tBl (eBin oGt (eLenG cf [(0, 3), (4, 33)] (eFld [1] 1 (eVar 0))) (eVar 2)))) (sRet (eLit (.bl false))) sNil) (sRet (eEqQ cf [(0, 2), (1, 11), (2, 20), (3, 23), (4, 32)] [.non, .bl, .int, .str, .tup, .lst, .dct, .own 0, .own 1, .own 2, .own 3, .own 4] (eFld [1] 1 (eVar 0)) (eCall cf 1 14 (aCons (eLc (iEnu (eVar 1)) (gTp [(gNm 5), (gNm 6)]) [5, 6] (tBl (eBin oNotIn (eVar 5) (eVar 3))) (eVar 6)) aNil)))))))) := by
  intro cdv A outer s H E n0 hr tk
  have T := dvT tk rfl ih hr rfl
  have nd := sc12.nd
  exact (ss_cons (ss_expr (sx_call T rfl (m_f_check_stream C) (m_k_check_stream C) (sa_cons (se_var (pv 1)) (sa_cons (se_var (pv 2)) sa_nil))))
 (ss_cons (ss_asg (ps_asg (toV (se_lc2 (own := [("group", 4), ("index", 5)]) rfl nd  (si_seqH rfl (se_fld (f := 2) rfl (inj 2 (by decide)) (m_fld_groups C) (se_var (pv 0)))) (blk_ok (own := [("group", 4), ("index", 5)]) (by kernel_rfl)) (by decide) (tb_nm 4 (by decide)) (tb_nm 5 (by decide)) (fun _ _ _ _ _ => (pg_name (i := 4) nd rfl (by first | exact Or.inl rfl | exact Or.inr rfl))) (fun _ _ _ _ _ => sts_nil) (fun _ _ _ _ _ => (si_seqH rfl (se_var (pv 4)))) (fun _ _ _ _ _ => (pg_name (i := 5) nd rfl (by first | exact Or.inl rfl | exact Or.inr rfl))) (fun _ _ _ _ _ => sts_nil) (fun _ _ _ _ _ => (se_var (pv 5))))) (pg_name (i := 3) nd rfl (by first | exact Or.inl rfl | exact Or.inr rfl))) (tg_nm 3))
 (ss_cons (ss_if (PW.pt (sw_or (st_no (st_tru rfl (se_argB (pe_callB (cr_all rfl) rfl (m_b_all C) (by rfl) (sa_cons (se_lc (own := [("index", 5)]) rfl nd (si_seqH rfl (se_var (pv 3))) (blk_ok (own := [("index", 5)]) (by kernel_rfl)) (tb_nm 5 (by decide)) (fun _ _ _ _ _ => (pg_name (i := 5) nd rfl (by first | exact Or.inl rfl | exact Or.inr rfl))) (fun _ _ _ _ _ => sts_nil) (fun _ _ _ _ _ => (sx_call (T.blk _ _ _ _ _) rfl (m_f_is_number C) (m_k_is_number C) (sa_cons (se_var (pv 5)) (sa_cons (se_lit pe_int fun _ _ => rfl) (sa_cons (se_bin op_sub ok_sub (se_lenG (T.blk _ _ _ _ _) rfl (m_b_len C) (fun p hp => ((m_spc___len__ C) p hp).1) (se_var (pv 1))) (se_lit pe_int fun _ _ => rfl)) sa_nil)))))) sa_nil)) ok_all))) (sw_one (st_neQ T (m_eqt C) (se_lset T rfl (m_b_len C) rfl (m_b_set C) (se_var (pv 3))) (se_lenG T rfl (m_b_len C) (fun p hp => ((m_spc___len__ C) p hp).1) (se_var (pv 3))) (nomark _))))) (ss_one (ss_ret (se_lit pe_bl fun _ _ => rfl))) ss_nil)
 (ss_cons (ss_if (PW.pt (sw_or (st_no (st_tru rfl (se_argB (pe_callB (cr_all rfl) rfl (m_b_all C) (by rfl) (sa_cons (se_lc (own := [("group", 4)]) rfl nd (si_seqH rfl (se_fld (f := 2) rfl (inj 2 (by decide)) (m_fld_groups C) (se_var (pv 0)))) (blk_ok (own := [("group", 4)]) (by kernel_rfl)) (tb_nm 4 (by decide)) (fun _ _ _ _ _ => (pg_name (i := 4) nd rfl (by first | exact Or.inl rfl | exact Or.inr rfl))) (fun _ _ _ _ _ => sts_nil) (fun _ _ _ _ _ => (sx_call (T.blk _ _ _ _ _) rfl (m_f_is_group C) (m_k_is_group C) (sa_cons (se_var (pv 1)) (sa_cons (se_var (pv 2)) (sa_cons (se_var (pv 4)) sa_nil)))))) sa_nil)) ok_all))) (sw_one (st_cmp op_gt ok_gt (se_lenG T rfl (m_b_len C) (fun p hp => ((m_spc___len__ C) p hp).1) (se_fld (f := 1) rfl (inj 1 (by decide)) (m_fld_counters C) (se_var (pv 0)))) (se_var (pv 2)) (nomark _))))) (ss_one (ss_ret (se_lit pe_bl fun _ _ => rfl))) ss_nil)
 (ss_one (ss_ret (se_eqQ T (m_eqt C) (se_fld (f := 1) rfl (inj 1 (by decide)) (m_fld_counters C) (se_var (pv 0))) (sx_call T rfl (m_f_counts_of C) (m_k_counts_of C) (sa_cons (se_lc (own := [("index", 5), ("value", 6)]) rfl nd (si_enum rfl rfl (m_b_enumerate C) (se_var (pv 1))) (blk_ok (own := [("index", 5), ("value", 6)]) (by kernel_rfl)) (tb_tp (tbs_cons (tb_nm 5 (by decide)) (tbs_cons (tb_nm 6 (by decide)) tbs_nil)) rfl) (fun _ _ _ _ _ => (pg_tup rfl (pgs_cons (pg_name (i := 5) nd rfl (by first | exact Or.inl rfl | exact Or.inr rfl)) (pgs_cons (pg_name (i := 6) nd rfl (by first | exact Or.inl rfl | exact Or.inr rfl)) pgs_nil)))) (fun _ _ _ _ _ => (sts_one (st_cmp (op_notInG (units65 (T.blk _ _ _ _ _))) ok_notIn (se_var (pv 5)) (se_var (pv 3)) (by rfl)))) (fun _ _ _ _ _ => (se_var (pv 6)))) sa_nil)) (nomark _))))))))
theorem ok12 {n : Nat} (C : Ctx K base mg) (ih : All P w K mg base (GG K) TT n) : OkF P w K mg base n 12 := by
  obtain ⟨fd, F⟩ := C.says.def_ 12 (d := d12) rfl
  exact def_ok (b := b12) rfl F sc12 rfl rfl (FunD_binds F fun _ _ _ _ _ _ us hl => match us, hl with | [_, _, _], _ => rfl) (dv12 C ih)
abbrev N13 : List Str := ["stream", "counters", "group", "index"]
theorem sc13 : FnScope N13 ["stream", "counters", "group"] (defScope (top 23)) := mkSc (by decide +kernel)
theorem dv13 {n : Nat} {cf : CF} (C : Ctx K base mg) (ih : Ih P w K mg base (GG K) n cf) : Dv P w K mg base (GG K) N13 "is_group" (top 23) ((GG K).fa 13) n fun n0 => (sCons (sIf (tOr (tBl (eNeQ cf [(0, 2), (1, 11), (2, 20), (3, 23), (4, 32)] [.non, .bl, .int, .str, .tup, .lst, .dct, .own 0, .own 1, .own 2, .own 3, .own 4] (eLenG cf [(0, 3), (4, 33)] (eVar 2)) (eBin oCat (eVar 1) (eLit (.int 1))))) (tBl (eNeQ cf [(0, 2), (1, 11), (2, 20), (3, 23), (4, 32)] [.non, .bl, .int, .str, .tup, .lst, .dct, .own 0, .own 1, .own 2, .own 3, .own 4] (eArg bListK (aCons (eVar 2) aNil)) (eArg bSortH (aCons (eVar 2) aNil))))) (sRet (eLit (.bl false))) sNil) (sRet (eEqQ cf [(0, 2), (1, 11), (2, 20), (3, 23), (4, 32)] [.non, .bl, .int, .str, .tup, .lst, .dct, .own 0, .own 1, .own 2, .own 3, .own 4] (eArg bLset (aCons (eLc (iSeqH (eVar 2)) (gNm 3) [3] tYesP (eIx cf [(0, 4)] (eVar 0) (eVar 3))) aNil)) (eLenG cf [(0, 3), (4, 33)] (eVar 2))))) := by
  intro cdv A outer s H E n0 hr tk
  have T := dvT tk rfl ih hr rfl
  have nd := sc13.nd
  exact (ss_cons (ss_if (PW.pt (sw_or (st_neQ T (m_eqt C) (se_lenG T rfl (m_b_len C) (fun p hp => ((m_spc___len__ C) p hp).1) (se_var (pv 2))) (se_bin op_catR ok_cat (se_var (pv 1)) (se_lit pe_int fun _ _ => rfl)) (nomark _)) (sw_one (st_neQ T (m_eqt C) (se_argB (pe_callTy (cr_listK rfl) rfl (m_b_list C) (by rfl) (sa_cons (se_var (pv 2)) sa_nil)) ok_listK) (se_argB (pe_callB (cr_sortH rfl) rfl (m_b_sorted C) (by rfl) (sa_cons (se_var (pv 2)) sa_nil)) ok_sortH) (nomark _))))) (ss_one (ss_ret (se_lit pe_bl fun _ _ => rfl))) ss_nil)
 (ss_one (ss_ret (se_eqQ T (m_eqt C) (se_lset T rfl (m_b_len C) rfl (m_b_set C) (se_lc (own := [("index", 3)]) rfl nd (si_seqH rfl (se_var (pv 2))) (blk_ok (own := [("index", 3)]) (by kernel_rfl)) (tb_nm 3 (by decide)) (fun _ _ _ _ _ => (pg_name (i := 3) nd rfl (by first | exact Or.inl rfl | exact Or.inr rfl))) (fun _ _ _ _ _ => sts_nil) (fun _ _ _ _ _ => (se_ixG (T.blk _ _ _ _ _) (m_spc___getitem__ C) (se_var (pv 0)) (se_var (pv 3)) (fun _ _ => rfl) (fun _ _ => by with_unfolding_all rfl))))) (se_lenG T rfl (m_b_len C) (fun p hp => ((m_spc___len__ C) p hp).1) (se_var (pv 2))) (nomark _)))))
theorem ok13 {n : Nat} (C : Ctx K base mg) (ih : All P w K mg base (GG K) TT n) : OkF P w K mg base n 13 := by
  obtain ⟨fd, F⟩ := C.says.def_ 13 (d := d13) rfl
  exact def_ok (b := b13) rfl F sc13 rfl rfl (FunD_binds F fun _ _ _ _ _ _ us hl => match us, hl with | [_, _, _], _ => rfl) (dv13 C ih)
abbrev N14 : List Str := ["rows", "found", "value"]
theorem sc14 : FnScope N14 ["rows"] (defScope (top 24)) := mkSc (by decide +kernel)
theorem dv14 {n : Nat} {cf : CF} (C : Ctx K base mg) (ih : Ih P w K mg base (GG K) n cf) : Dv P w K mg base (GG K) N14 "counts_of" (top 24) ((GG K).fa 14) n fun n0 => (sCons (sAsg (gNm 1) (eNew eDnK)) (sCons (sFor (iSeqH (eVar 0)) (gNm 2) (sSetI (setG n0) (eVar 1) (eVar 2) (eBin oCat (eGet2 (eVar 1) (eVar 2) (eLit (.int 0))) (eLit (.int 1))))) (sRet (eVar 1)))) := by
  intro cdv A outer s H E n0 hr tk
  have T := dvT tk rfl ih hr rfl
  have nd := sc14.nd
  have po := dvP tk rfl
  exact (ss_cons (ss_asg (ps_asg (toV (se_new se_dnK)) (pg_name (i := 1) nd rfl (by first | exact Or.inl rfl | exact Or.inr rfl))) (tg_nm 1))
 (ss_cons (ss_for (ps_for po rfl (si_seqH rfl (se_var (pv 0))) (pg_name (i := 2) nd rfl (by first | exact Or.inl rfl | exact Or.inr rfl)) (ss_one (ss_setI chg_setG (ps_asg (toV (se_bin op_catR ok_cat (se_get2 T (se_var (pv 1)) (se_var (pv 2)) (se_lit pe_int fun _ _ => rfl) ⟨rfl, rfl, rfl, rfl⟩) (se_lit pe_int fun _ _ => rfl))) (pg_sub (toV (se_var (pv 1))) (toV (se_var (pv 2))) (set_G (units2 T))))))) (tg_nm 2))
 (ss_one (ss_ret (se_var (pv 1))))))
theorem ok14 {n : Nat} (C : Ctx K base mg) (ih : All P w K mg base (GG K) TT n) : OkF P w K mg base n 14 := by
  obtain ⟨fd, F⟩ := C.says.def_ 14 (d := d14) rfl
  exact def_ok (b := b14) rfl F sc14 rfl rfl (FunD_binds F fun _ _ _ _ _ _ us hl => match us, hl with | [_], _ => rfl) (dv14 C ih)
abbrev N15 : List Str := ["thing", "counters", "number", "value"]
theorem sc15 : FnScope N15 ["thing", "counters"] (defScope (top 25)) := mkSc (by decide +kernel)
theorem dv15 {n : Nat} {cf : CF} (C : Ctx K base mg) (ih : Ih P w K mg base (GG K) n cf) : Dv P w K mg base (GG K) N15 "are_counters" (top 25) ((GG K).fa 15) n fun n0 => (sCons (sIf (tOr (tNo (tTru (eIsi [(.non, false), (.bl, false), (.int, false), (.str, false), (.tup, false), (.lst, false), (.dct, true), (.own 0, false), (.own 1, false), (.own 2, false), (.own 3, false), (.own 4, false)] (eVar 0)))) (tBl (eBin oGt (eLenG cf [(0, 3), (4, 33)] (eVar 0)) (eVar 1)))) (sRet (eLit (.bl false))) sNil) (sCons (sIf (tNo (tTru (eArg bAll (aCons (eLc (iSeqH (eVar 0)) (gNm 3) [3] tYesP (eCall cf 3 0 (aCons (eVar 3) (aCons (eLit (.int 0)) (aCons (eBin oSub (eLit (.int (12))) (eLit (.int 1))) aNil))))) aNil)))) (sRet (eLit (.bl false))) sNil) (sRet (eArg bAll (aCons (eLc (iVls (eVar 0)) (gNm 2) [2] tYesP (eCall cf 3 0 (aCons (eVar 2) (aCons (eLit (.int 1)) (aCons (eLit (.int (30))) aNil))))) aNil))))) := by
  intro cdv A outer s H E n0 hr tk
  have T := dvT tk rfl ih hr rfl
  have nd := sc15.nd
  exact (ss_cons (ss_if (PW.pt (sw_or (st_no (st_tru rfl (se_isi1 (cv := (.ty "dict")) (cu := (.type "dict")) rfl rfl (m_b_isinstance C) (by rfl) (.ty _) (m_kit_dictty C) (se_var (pv 0)) (pe_bltn (v := .ty "dict") (u := .type "dict") rfl (m_b_dict C) (by rfl) rfl (by decide))))) (sw_one (st_cmp op_gt ok_gt (se_lenG T rfl (m_b_len C) (fun p hp => ((m_spc___len__ C) p hp).1) (se_var (pv 0))) (se_var (pv 1)) (nomark _))))) (ss_one (ss_ret (se_lit pe_bl fun _ _ => rfl))) ss_nil)
 (ss_cons (ss_if (st_no (st_tru rfl (se_argB (pe_callB (cr_all rfl) rfl (m_b_all C) (by rfl) (sa_cons (se_lc (own := [("value", 3)]) rfl nd (si_seqH rfl (se_var (pv 0))) (blk_ok (own := [("value", 3)]) (by kernel_rfl)) (tb_nm 3 (by decide)) (fun _ _ _ _ _ => (pg_name (i := 3) nd rfl (by first | exact Or.inl rfl | exact Or.inr rfl))) (fun _ _ _ _ _ => sts_nil) (fun _ _ _ _ _ => (sx_call (T.blk _ _ _ _ _) rfl (m_f_is_number C) (m_k_is_number C) (sa_cons (se_var (pv 3)) (sa_cons (se_lit pe_int fun _ _ => rfl) (sa_cons (se_bin op_sub ok_sub (se_lit (C8.pe_gc rfl (m_i_MOST_VALUES C)) fun _ _ => rfl) (se_lit pe_int fun _ _ => rfl)) sa_nil)))))) sa_nil)) ok_all))) (ss_one (ss_ret (se_lit pe_bl fun _ _ => rfl))) ss_nil)
 (ss_one (ss_ret (se_argB (pe_callB (cr_all rfl) rfl (m_b_all C) (by rfl) (sa_cons (se_lc (own := [("number", 2)]) rfl nd (si_values (se_var (pv 0))) (blk_ok (own := [("number", 2)]) (by kernel_rfl)) (tb_nm 2 (by decide)) (fun _ _ _ _ _ => (pg_name (i := 2) nd rfl (by first | exact Or.inl rfl | exact Or.inr rfl))) (fun _ _ _ _ _ => sts_nil) (fun _ _ _ _ _ => (sx_call (T.blk _ _ _ _ _) rfl (m_f_is_number C) (m_k_is_number C) (sa_cons (se_var (pv 2)) (sa_cons (se_lit pe_int fun _ _ => rfl) (sa_cons (se_lit (C8.pe_gc rfl (m_i_MOST_LENGTH C)) fun _ _ => rfl) sa_nil)))))) sa_nil)) ok_all)))))
theorem ok15 {n : Nat} (C : Ctx K base mg) (ih : All P w K mg base (GG K) TT n) : OkF P w K mg base n 15 := by
  obtain ⟨fd, F⟩ := C.says.def_ 15 (d := d15) rfl
  exact def_ok (b := b15) rfl F sc15 rfl rfl (FunD_binds F fun _ _ _ _ _ _ us hl => match us, hl with | [_, _], _ => rfl) (dv15 C ih)
abbrev N16 : List Str := ["one", "other", "counters", "sums", "line", "value", "number"]
theorem sc16 : FnScope N16 ["one", "other", "counters"] (defScope (top 26)) := mkSc (by decide +kernel)
theorem dv16 {n : Nat} {cf : CF} (C : Ctx K base mg) (ih : Ih P w K mg base (GG K) n cf) : Dv P w K mg base (GG K) N16 "merge" (top 26) ((GG K).fa 16) n fun n0 => (sCons (sExp (eCall cf 3 8 (aCons (eVar 2) (aCons (eLit (.int 1)) (aCons (eLit (.int (6))) aNil))))) (sCons (sIf (tOr (tNo (tTru (eCall cf 2 15 (aCons (eVar 0) (aCons (eVar 2) aNil))))) (tNo (tTru (eCall cf 2 15 (aCons (eVar 1) (aCons (eVar 2) aNil)))))) (sRse 12) sNil) (sCons (sAsg (gNm 3) (eArg bDictG (aCons (eLc (iRg1 (eLit (.int (12)))) (gNm 5) [5] tYesP (eTup (aCons (eVar 5) (aCons (eBin oCat (eGet2 (eVar 0) (eVar 5) (eLit (.int 0))) (eGet2 (eVar 1) (eVar 5) (eLit (.int 0)))) aNil)))) aNil))) (sCons (sAsg (gNm 4) (eSrtV true (eVar 3))) (sRet (eArg bDictG (aCons (eLc (iItm (eVar 3)) (gTp [(gNm 5), (gNm 6)]) [5, 6] (tBl (eBin oGt (eVar 6) (eIx cf [(0, 4)] (eVar 4) (eVar 2)))) (eTup (aCons (eVar 5) (aCons (eBin oSub (eVar 6) (eIx cf [(0, 4)] (eVar 4) (eVar 2))) aNil)))) aNil))))))) := by
  intro cdv A outer s H E n0 hr tk
  have T := dvT tk rfl ih hr rfl
  have nd := sc16.nd
  exact (ss_cons (ss_expr (sx_call T rfl (m_f_check_number C) (m_k_check_number C) (sa_cons (se_var (pv 2)) (sa_cons (se_lit pe_int fun _ _ => rfl) (sa_cons (se_lit (C8.pe_gc rfl (m_i_MOST_COUNTERS C)) fun _ _ => rfl) sa_nil)))))
 (ss_cons (ss_if (PW.pt (sw_or (st_no (st_tru rfl (sx_call T rfl (m_f_are_counters C) (m_k_are_counters C) (sa_cons (se_var (pv 0)) (sa_cons (se_var (pv 2)) sa_nil))))) (sw_one (st_no (st_tru rfl (sx_call T rfl (m_f_are_counters C) (m_k_are_counters C) (sa_cons (se_var (pv 1)) (sa_cons (se_var (pv 2)) sa_nil)))))))) (ss_one (ss_rse rfl rfl tk (m_x_BadCounters C) (m_c_BadCounters C) rfl)) ss_nil)
 (ss_cons (ss_asg (ps_asg (toV (se_argB (pe_callTy (cr_dictG rfl (units65 T)) rfl (m_b_dict C) (by rfl) (sa_cons (se_lc (own := [("value", 5)]) rfl nd (si_rng1 rfl (m_b_range C) (se_lit (C8.pe_gc rfl (m_i_MOST_VALUES C)) fun _ _ => rfl)) (blk_ok (own := [("value", 5)]) (by kernel_rfl)) (tb_nm 5 (by decide)) (fun _ _ _ _ _ => (pg_name (i := 5) nd rfl (by first | exact Or.inl rfl | exact Or.inr rfl))) (fun _ _ _ _ _ => sts_nil) (fun _ _ _ _ _ => (se_tup (sa_cons (se_var (pv 5)) (sa_cons (se_bin op_catR ok_cat (se_get2 (T.blk _ _ _ _ _) (se_var (pv 0)) (se_var (pv 5)) (se_lit pe_int fun _ _ => rfl) ⟨rfl, rfl, rfl, rfl⟩) (se_get2 (T.blk _ _ _ _ _) (se_var (pv 1)) (se_var (pv 5)) (se_lit pe_int fun _ _ => rfl) ⟨rfl, rfl, rfl, rfl⟩)) sa_nil))))) sa_nil)) ok_dictG)) (pg_name (i := 3) nd rfl (by first | exact Or.inl rfl | exact Or.inr rfl))) (tg_nm 3))
 (ss_cons (ss_asg (ps_asg (toV (se_srtV (T_calm T) rfl (m_b_sorted C) (se_var (pv 3)))) (pg_name (i := 4) nd rfl (by first | exact Or.inl rfl | exact Or.inr rfl))) (tg_nm 4))
 (ss_one (ss_ret (se_argB (pe_callTy (cr_dictG rfl (units65 T)) rfl (m_b_dict C) (by rfl) (sa_cons (se_lc (own := [("value", 5), ("number", 6)]) rfl nd (si_items (se_var (pv 3))) (blk_ok (own := [("value", 5), ("number", 6)]) (by kernel_rfl)) (tb_tp (tbs_cons (tb_nm 5 (by decide)) (tbs_cons (tb_nm 6 (by decide)) tbs_nil)) rfl) (fun _ _ _ _ _ => (pg_tup rfl (pgs_cons (pg_name (i := 5) nd rfl (by first | exact Or.inl rfl | exact Or.inr rfl)) (pgs_cons (pg_name (i := 6) nd rfl (by first | exact Or.inl rfl | exact Or.inr rfl)) pgs_nil)))) (fun _ _ _ _ _ => (sts_one (st_cmp op_gt ok_gt (se_var (pv 6)) (se_ixG (T.blk _ _ _ _ _) (m_spc___getitem__ C) (se_var (pv 4)) (se_var (pv 2)) (fun _ _ => rfl) (fun _ _ => by with_unfolding_all rfl)) (nomark _)))) (fun _ _ _ _ _ => (se_tup (sa_cons (se_var (pv 5)) (sa_cons (se_bin op_sub ok_sub (se_var (pv 6)) (se_ixG (T.blk _ _ _ _ _) (m_spc___getitem__ C) (se_var (pv 4)) (se_var (pv 2)) (fun _ _ => rfl) (fun _ _ => by with_unfolding_all rfl))) sa_nil))))) sa_nil)) ok_dictG)))))))
theorem ok16 {n : Nat} (C : Ctx K base mg) (ih : All P w K mg base (GG K) TT n) : OkF P w K mg base n 16 := by
  obtain ⟨fd, F⟩ := C.says.def_ 16 (d := d16) rfl
  exact def_ok (b := b16) rfl F sc16 rfl rfl (FunD_binds F fun _ _ _ _ _ _ us hl => match us, hl with | [_, _, _], _ => rfl) (dv16 C ih)
abbrev N17 : List Str := ["one", "other"]
theorem sc17 : FnScope N17 ["one", "other"] (defScope (top 28)) := mkSc (by decide +kernel)
theorem dv17 {n : Nat} {cf : CF} (C : Ctx K base mg) (ih : Ih P w K mg base (GG K) n cf) : Dv P w K mg base (GG K) N17 "check_like" (top 28) ((GG K).fa 17) n fun n0 => (sCons (sExp (eCall cf 1 7 (aCons (eVar 0) aNil))) (sCons (sExp (eCall cf 1 7 (aCons (eVar 1) aNil))) (sIf (tOr (tBl (eNeQ cf [(0, 2), (1, 11), (2, 20), (3, 23), (4, 32)] [.non, .bl, .int, .str, .tup, .lst, .dct, .own 0, .own 1, .own 2, .own 3, .own 4] (eLenG cf [(0, 3), (4, 33)] (eVar 0)) (eLenG cf [(0, 3), (4, 33)] (eVar 1)))) (tBl (eNeQ cf [(0, 2), (1, 11), (2, 20), (3, 23), (4, 32)] [.non, .bl, .int, .str, .tup, .lst, .dct, .own 0, .own 1, .own 2, .own 3, .own 4] (eMeth cf 1 6 [(0, 6)] (eVar 0) aNil) (eMeth cf 1 6 [(0, 6)] (eVar 1) aNil)))) (sRse 13) sNil))) := by
  intro cdv A outer s H E n0 hr tk
  have T := dvT tk rfl ih hr rfl
  have nd := sc17.nd
  exact (ss_cons (ss_expr (sx_call T rfl (m_f_check_column C) (m_k_check_column C) (sa_cons (se_var (pv 0)) sa_nil)))
 (ss_cons (ss_expr (sx_call T rfl (m_f_check_column C) (m_k_check_column C) (sa_cons (se_var (pv 1)) sa_nil)))
 (ss_one (ss_if (PW.pt (sw_or (st_neQ T (m_eqt C) (se_lenG T rfl (m_b_len C) (fun p hp => ((m_spc___len__ C) p hp).1) (se_var (pv 0))) (se_lenG T rfl (m_b_len C) (fun p hp => ((m_spc___len__ C) p hp).1) (se_var (pv 1))) (nomark _)) (sw_one (st_neQ T (m_eqt C) (se_meth0 (m := 6) T (inj 6 (by decide)) (m_met_rows C) (se_var (pv 0))) (se_meth0 (m := 6) T (inj 6 (by decide)) (m_met_rows C) (se_var (pv 1))) (nomark _))))) (ss_one (ss_rse rfl rfl tk (m_x_Unlike C) (m_c_Unlike C) rfl)) ss_nil))))
theorem ok17 {n : Nat} (C : Ctx K base mg) (ih : All P w K mg base (GG K) TT n) : OkF P w K mg base n 17 := by
  obtain ⟨fd, F⟩ := C.says.def_ 17 (d := d17) rfl
  exact def_ok (b := b17) rfl F sc17 rfl rfl (FunD_binds F fun _ _ _ _ _ _ us hl => match us, hl with | [_, _], _ => rfl) (dv17 C ih)
abbrev N18 : List Str := ["column"]
theorem sc18 : FnScope N18 ["column"] (defScope (top 29)) := mkSc (by decide +kernel)
theorem dv18 {n : Nat} {cf : CF} (C : Ctx K base mg) (ih : Ih P w K mg base (GG K) n cf) : Dv P w K mg base (GG K) N18 "falling" (top 29) ((GG K).fa 18) n fun n0 => (sRet (eNew (eSrt true (eFld [0] 0 (eVar 0))))) := by
  intro cdv A outer s H E n0 hr tk
  have T := dvT tk rfl ih hr rfl
  have nd := sc18.nd
  exact (ss_one (ss_ret (se_new (se_srt rfl rfl (m_b_sorted C) (se_fld (f := 0) rfl (inj 0 (by decide)) (m_fld_counts C) (se_var (pv 0)))))))
theorem ok18 {n : Nat} (C : Ctx K base mg) (ih : All P w K mg base (GG K) TT n) : OkF P w K mg base n 18 := by
  obtain ⟨fd, F⟩ := C.says.def_ 18 (d := d18) rfl
  exact def_ok (b := b18) rfl F sc18 rfl rfl (FunD_binds F fun _ _ _ _ _ _ us hl => match us, hl with | [_], _ => rfl) (dv18 C ih)
abbrev N19 : List Str := ["self", "transfers", "pair"]
theorem sc19 : FnScope N19 ["self", "transfers"] (defScope (inClass (top 30) 0)) := mkSc (by decide +kernel)
theorem dv19 {n : Nat} {cf : CF} (C : Ctx K base mg) (ih : Ih P w K mg base (GG K) n cf) : Dv P w K mg base (GG K) N19 "Evener.__init__" (inClass (top 30) 0) ((GG K).fa 19) n fun n0 => (sFld n0 [2] 7 (eVar 0) (eLc (iSeqH (eVar 1)) (gNm 2) [2] tYesP (eArg bTuple (aCons (eVar 2) aNil)))) := by
  intro cdv A outer s H E n0 hr tk
  have T := dvT tk rfl ih hr rfl
  have nd := sc19.nd
  exact (ss_one (ss_fld (f := 7) rfl (inj 7 (by decide)) (m_fld_transfers C) (se_var (pv 0)) (se_lc (own := [("pair", 2)]) rfl nd (si_seqH rfl (se_var (pv 1))) (blk_ok (own := [("pair", 2)]) (by kernel_rfl)) (tb_nm 2 (by decide)) (fun _ _ _ _ _ => (pg_name (i := 2) nd rfl (by first | exact Or.inl rfl | exact Or.inr rfl))) (fun _ _ _ _ _ => sts_nil) (fun _ _ _ _ _ => (se_argB (pe_callTy call_tuple_of rfl (m_b_tuple C) (by rfl) (sa_cons (se_var (pv 2)) sa_nil)) ok_tuple)))))
theorem ok19 {n : Nat} (C : Ctx K base mg) (ih : All P w K mg base (GG K) TT n) : OkF P w K mg base n 19 := by
  obtain ⟨fd, F⟩ := C.says.def_ 19 (d := d19) rfl
  exact def_ok (b := b19) rfl F sc19 rfl rfl (FunD_binds F fun _ _ _ _ _ _ us hl => match us, hl with | [_, _], _ => rfl) (dv19 C ih)
abbrev N20 : List Str := ["self", "other"]
theorem sc20 : FnScope N20 ["self", "other"] (defScope (inClass (top 30) 1)) := mkSc (by decide +kernel)
theorem dv20 {n : Nat} {cf : CF} (C : Ctx K base mg) (ih : Ih P w K mg base (GG K) n cf) : Dv P w K mg base (GG K) N20 "Evener.__eq__" (inClass (top 30) 1) ((GG K).fa 20) n fun n0 => (sRet (eAn (eIsi [(.non, false), (.bl, false), (.int, false), (.str, false), (.tup, false), (.lst, false), (.dct, false), (.own 0, false), (.own 1, false), (.own 2, true), (.own 3, false), (.own 4, false)] (eVar 1)) (eEqQ cf [(0, 2), (1, 11), (2, 20), (3, 23), (4, 32)] [.non, .bl, .int, .str, .tup, .lst, .dct, .own 0, .own 1, .own 2, .own 3, .own 4] (eFld [2] 7 (eVar 0)) (eFld [2] 7 (eVar 1))))) := by
  intro cdv A outer s H E n0 hr tk
  have T := dvT tk rfl ih hr rfl
  have nd := sc20.nd
  exact (ss_one (ss_ret (se_and rfl (se_isi1 (cv := (.ref ((GG K).ca 2))) (cu := (.ref ((GG K).ca 2))) rfl rfl (m_b_isinstance C) (by rfl) (.own _) (m_kit_2own C) (se_var (pv 1)) (pe_glob (v := .ref ((GG K).ca 2)) rfl (m_c_Evener C) rfl)) (se_one (se_eqQ T (m_eqt C) (se_fld (f := 7) rfl (inj 7 (by decide)) (m_fld_transfers C) (se_var (pv 0))) (se_fld (f := 7) rfl (inj 7 (by decide)) (m_fld_transfers C) (se_var (pv 1))) (nomark _))))))
theorem ok20 {n : Nat} (C : Ctx K base mg) (ih : All P w K mg base (GG K) TT n) : OkF P w K mg base n 20 := by
  obtain ⟨fd, F⟩ := C.says.def_ 20 (d := d20) rfl
  exact def_ok (b := b20) rfl F sc20 rfl rfl (FunD_binds F fun _ _ _ _ _ _ us hl => match us, hl with | [_, _], _ => rfl) (dv20 C ih)
abbrev N21 : List Str := ["self", "one", "other", "counts", "giver", "taker", "place"]
theorem sc21 : FnScope N21 ["self", "one", "other"] (defScope (inClass (top 30) 2)) := mkSc (by decide +kernel)
theorem dv21 {n : Nat} {cf : CF} (C : Ctx K base mg) (ih : Ih P w K mg base (GG K) n cf) : Dv P w K mg base (GG K) N21 "Evener.shows" (inClass (top 30) 2) ((GG K).fa 21) n fun n0 => (sCons (sExp (eCall cf 2 17 (aCons (eVar 1) (aCons (eVar 2) aNil)))) (sCons (sAsg (gNm 3) (eNew (eCall cf 1 18 (aCons (eVar 1) aNil)))) (sCons (sFor (iSeqH (eFld [2] 7 (eVar 0))) (gTp [(gNm 4), (gNm 5)]) (sCons (sIf (tNo (tTru (eArg bAll (aCons (eLc (iSeqH (eTup (aCons (eVar 4) (aCons (eVar 5) aNil)))) (gNm 6) [6] tYesP (eCall cf 3 0 (aCons (eVar 6) (aCons (eLit (.int 0)) (aCons (eBin oSub (eLenG cf [(0, 3), (4, 33)] (eVar 3)) (eLit (.int 1))) aNil))))) aNil)))) (sRet (eLit (.bl false))) sNil) (sCons (sIf (tBl (eBin oLt (eIx cf [(0, 4)] (eVar 3) (eVar 4)) (eBin oCat (eIx cf [(0, 4)] (eVar 3) (eVar 5)) (eLit (.int 2))))) (sRet (eLit (.bl false))) sNil) (sCons (sAugI oSub oGet (setG n0) (eVar 3) (eVar 4) (eLit (.int 1))) (sAugI oAdd oGet (setG n0) (eVar 3) (eVar 5) (eLit (.int 1))))))) (sRet (eAn (eEqQ cf [(0, 2), (1, 11), (2, 20), (3, 23), (4, 32)] [.non, .bl, .int, .str, .tup, .lst, .dct, .own 0, .own 1, .own 2, .own 3, .own 4] (eSrt true (eVar 3)) (eCall cf 1 18 (aCons (eVar 2) aNil))) (eEqQ cf [(0, 2), (1, 11), (2, 20), (3, 23), (4, 32)] [.non, .bl, .int, .str, .tup, .lst, .dct, .own 0, .own 1, .own 2, .own 3, .own 4] (eLenG cf [(0, 3), (4, 33)] (eFld [2] 7 (eVar 0))) (eCall cf 2 25 (aCons (eVar 1) (aCons (eVar 2) aNil))))))))) := by
  intro cdv A outer s H E n0 hr tk
  have T := dvT tk rfl ih hr rfl
  have nd := sc21.nd
  have po := dvP tk rfl
  exact (ss_cons (ss_expr (sx_call T rfl (m_f_check_like C) (m_k_check_like C) (sa_cons (se_var (pv 1)) (sa_cons (se_var (pv 2)) sa_nil))))
 (ss_cons (ss_asg (ps_asg (toV (se_new (sx_call T rfl (m_f_falling C) (m_k_falling C) (sa_cons (se_var (pv 1)) sa_nil)))) (pg_name (i := 3) nd rfl (by first | exact Or.inl rfl | exact Or.inr rfl))) (tg_nm 3))
 (ss_cons (ss_for (ps_for po rfl (si_seqH rfl (se_fld (f := 7) rfl (inj 7 (by decide)) (m_fld_transfers C) (se_var (pv 0)))) (pg_tup rfl (pgs_cons (pg_name (i := 4) nd rfl (by first | exact Or.inl rfl | exact Or.inr rfl)) (pgs_cons (pg_name (i := 5) nd rfl (by first | exact Or.inl rfl | exact Or.inr rfl)) pgs_nil))) (ss_cons (ss_if (st_no (st_tru rfl (se_argB (pe_callB (cr_all rfl) rfl (m_b_all C) (by rfl) (sa_cons (se_lc (own := [("place", 6)]) rfl nd (si_seqH rfl (se_tup (sa_cons (se_var (pv 4)) (sa_cons (se_var (pv 5)) sa_nil)))) (blk_ok (own := [("place", 6)]) (by kernel_rfl)) (tb_nm 6 (by decide)) (fun _ _ _ _ _ => (pg_name (i := 6) nd rfl (by first | exact Or.inl rfl | exact Or.inr rfl))) (fun _ _ _ _ _ => sts_nil) (fun _ _ _ _ _ => (sx_call (T.blk _ _ _ _ _) rfl (m_f_is_number C) (m_k_is_number C) (sa_cons (se_var (pv 6)) (sa_cons (se_lit pe_int fun _ _ => rfl) (sa_cons (se_bin op_sub ok_sub (se_lenG (T.blk _ _ _ _ _) rfl (m_b_len C) (fun p hp => ((m_spc___len__ C) p hp).1) (se_var (pv 3))) (se_lit pe_int fun _ _ => rfl)) sa_nil)))))) sa_nil)) ok_all))) (ss_one (ss_ret (se_lit pe_bl fun _ _ => rfl))) ss_nil)
 (ss_cons (ss_if (st_cmp op_lt ok_lt (se_ixG T (m_spc___getitem__ C) (se_var (pv 3)) (se_var (pv 4)) (fun _ _ => rfl) (fun _ _ => by with_unfolding_all rfl)) (se_bin op_catR ok_cat (se_ixG T (m_spc___getitem__ C) (se_var (pv 3)) (se_var (pv 5)) (fun _ _ => rfl) (fun _ _ => by with_unfolding_all rfl)) (se_lit pe_int fun _ _ => rfl)) (nomark _)) (ss_one (ss_ret (se_lit pe_bl fun _ _ => rfl))) ss_nil)
 (ss_cons (ss_augI ok_get ok_sub chg_setG (ps_augS (toV (se_var (pv 3))) (toV (se_var (pv 4))) (get_G (units2 T)) (toV (se_lit pe_int fun _ _ => rfl)) iop_sub (set_G (units2 T))))
 (ss_one (ss_augI ok_get ok_add chg_setG (ps_augS (toV (se_var (pv 3))) (toV (se_var (pv 5))) (get_G (units2 T)) (toV (se_lit pe_int fun _ _ => rfl)) iop_add (set_G (units2 T))))))))) (tg_tp (tgs_cons (tg_nm 4) (tgs_cons (tg_nm 5) tgs_nil)) rfl))
 (ss_one (ss_ret (se_and rfl (se_eqQ T (m_eqt C) (se_srt rfl rfl (m_b_sorted C) (se_var (pv 3))) (sx_call T rfl (m_f_falling C) (m_k_falling C) (sa_cons (se_var (pv 2)) sa_nil)) (nomark _)) (se_one (se_eqQ T (m_eqt C) (se_lenG T rfl (m_b_len C) (fun p hp => ((m_spc___len__ C) p hp).1) (se_fld (f := 7) rfl (inj 7 (by decide)) (m_fld_transfers C) (se_var (pv 0)))) (sx_call T rfl (m_f_gap_of C) (m_k_gap_of C) (sa_cons (se_var (pv 1)) (sa_cons (se_var (pv 2)) sa_nil))) (nomark _)))))))))
theorem ok21 {n : Nat} (C : Ctx K base mg) (ih : All P w K mg base (GG K) TT n) : OkF P w K mg base n 21 := by
  obtain ⟨fd, F⟩ := C.says.def_ 21 (d := d21) rfl
  exact def_ok (b := b21) rfl F sc21 rfl rfl (FunD_binds F fun _ _ _ _ _ _ us hl => match us, hl with | [_, _, _], _ => rfl) (dv21 C ih)
abbrev N22 : List Str := ["self", "many"]
theorem sc22 : FnScope N22 ["self", "many"] (defScope (inClass (top 31) 0)) := mkSc (by decide +kernel)
theorem dv22 {n : Nat} {cf : CF} (C : Ctx K base mg) (ih : Ih P w K mg base (GG K) n cf) : Dv P w K mg base (GG K) N22 "Uneven.__init__" (inClass (top 31) 0) ((GG K).fa 22) n fun n0 => (sFld n0 [3] 8 (eVar 0) (eVar 1)) := by
  intro cdv A outer s H E n0 hr tk
  have T := dvT tk rfl ih hr rfl
  have nd := sc22.nd
  exact (ss_one (ss_fld (f := 8) rfl (inj 8 (by decide)) (m_fld_many C) (se_var (pv 0)) (se_var (pv 1))))
theorem ok22 {n : Nat} (C : Ctx K base mg) (ih : All P w K mg base (GG K) TT n) : OkF P w K mg base n 22 := by
  obtain ⟨fd, F⟩ := C.says.def_ 22 (d := d22) rfl
  exact def_ok (b := b22) rfl F sc22 rfl rfl (FunD_binds F fun _ _ _ _ _ _ us hl => match us, hl with | [_, _], _ => rfl) (dv22 C ih)
abbrev N23 : List Str := ["self", "other"]
theorem sc23 : FnScope N23 ["self", "other"] (defScope (inClass (top 31) 1)) := mkSc (by decide +kernel)
theorem dv23 {n : Nat} {cf : CF} (C : Ctx K base mg) (ih : Ih P w K mg base (GG K) n cf) : Dv P w K mg base (GG K) N23 "Uneven.__eq__" (inClass (top 31) 1) ((GG K).fa 23) n fun n0 => (sRet (eAn (eIsi [(.non, false), (.bl, false), (.int, false), (.str, false), (.tup, false), (.lst, false), (.dct, false), (.own 0, false), (.own 1, false), (.own 2, false), (.own 3, true), (.own 4, false)] (eVar 1)) (eEqQ cf [(0, 2), (1, 11), (2, 20), (3, 23), (4, 32)] [.non, .bl, .int, .str, .tup, .lst, .dct, .own 0, .own 1, .own 2, .own 3, .own 4] (eFld [3] 8 (eVar 0)) (eFld [3] 8 (eVar 1))))) := by
  intro cdv A outer s H E n0 hr tk
  have T := dvT tk rfl ih hr rfl
  have nd := sc23.nd
  exact (ss_one (ss_ret (se_and rfl (se_isi1 (cv := (.ref ((GG K).ca 3))) (cu := (.ref ((GG K).ca 3))) rfl rfl (m_b_isinstance C) (by rfl) (.own _) (m_kit_3own C) (se_var (pv 1)) (pe_glob (v := .ref ((GG K).ca 3)) rfl (m_c_Uneven C) rfl)) (se_one (se_eqQ T (m_eqt C) (se_fld (f := 8) rfl (inj 8 (by decide)) (m_fld_many C) (se_var (pv 0))) (se_fld (f := 8) rfl (inj 8 (by decide)) (m_fld_many C) (se_var (pv 1))) (nomark _))))))
theorem ok23 {n : Nat} (C : Ctx K base mg) (ih : All P w K mg base (GG K) TT n) : OkF P w K mg base n 23 := by
  obtain ⟨fd, F⟩ := C.says.def_ 23 (d := d23) rfl
  exact def_ok (b := b23) rfl F sc23 rfl rfl (FunD_binds F fun _ _ _ _ _ _ us hl => match us, hl with | [_, _], _ => rfl) (dv23 C ih)
abbrev N24 : List Str := ["self", "one", "other"]
theorem sc24 : FnScope N24 ["self", "one", "other"] (defScope (inClass (top 31) 2)) := mkSc (by decide +kernel)
theorem dv24 {n : Nat} {cf : CF} (C : Ctx K base mg) (ih : Ih P w K mg base (GG K) n cf) : Dv P w K mg base (GG K) N24 "Uneven.shows" (inClass (top 31) 2) ((GG K).fa 24) n fun n0 => (sCons (sExp (eCall cf 2 17 (aCons (eVar 1) (aCons (eVar 2) aNil)))) (sCons (sIf (tNo (tTru (eCall cf 3 0 (aCons (eFld [3] 8 (eVar 0)) (aCons (eLit (.int 1)) (aCons (eLenG cf [(0, 3), (4, 33)] (eVar 1)) aNil)))))) (sRet (eLit (.bl false))) sNil) (sRet (eBin oLt (eArg bSum (aCons (eSl (eCall cf 1 18 (aCons (eVar 1) aNil)) pNo (pSo (eFld [3] 8 (eVar 0)))) aNil)) (eArg bSum (aCons (eSl (eCall cf 1 18 (aCons (eVar 2) aNil)) pNo (pSo (eFld [3] 8 (eVar 0)))) aNil)))))) := by
  intro cdv A outer s H E n0 hr tk
  have T := dvT tk rfl ih hr rfl
  have nd := sc24.nd
  exact (ss_cons (ss_expr (sx_call T rfl (m_f_check_like C) (m_k_check_like C) (sa_cons (se_var (pv 1)) (sa_cons (se_var (pv 2)) sa_nil))))
 (ss_cons (ss_if (st_no (st_tru rfl (sx_call T rfl (m_f_is_number C) (m_k_is_number C) (sa_cons (se_fld (f := 8) rfl (inj 8 (by decide)) (m_fld_many C) (se_var (pv 0))) (sa_cons (se_lit pe_int fun _ _ => rfl) (sa_cons (se_lenG T rfl (m_b_len C) (fun p hp => ((m_spc___len__ C) p hp).1) (se_var (pv 1))) sa_nil)))))) (ss_one (ss_ret (se_lit pe_bl fun _ _ => rfl))) ss_nil)
 (ss_one (ss_ret (se_cmp op_lt ok_lt (se_argB (pe_callB (cr_sumA rfl) rfl (m_b_sum C) (by rfl) (sa_cons (se_sl rfl (sx_call T rfl (m_f_falling C) (m_k_falling C) (sa_cons (se_var (pv 1)) sa_nil)) so_none (so_some (se_fld (f := 8) rfl (inj 8 (by decide)) (m_fld_many C) (se_var (pv 0))))) sa_nil)) ok_sum) (se_argB (pe_callB (cr_sumA rfl) rfl (m_b_sum C) (by rfl) (sa_cons (se_sl rfl (sx_call T rfl (m_f_falling C) (m_k_falling C) (sa_cons (se_var (pv 2)) sa_nil)) so_none (so_some (se_fld (f := 8) rfl (inj 8 (by decide)) (m_fld_many C) (se_var (pv 0))))) sa_nil)) ok_sum) (nomark _))))))
theorem ok24 {n : Nat} (C : Ctx K base mg) (ih : All P w K mg base (GG K) TT n) : OkF P w K mg base n 24 := by
  obtain ⟨fd, F⟩ := C.says.def_ 24 (d := d24) rfl
  exact def_ok (b := b24) rfl F sc24 rfl rfl (FunD_binds F fun _ _ _ _ _ _ us hl => match us, hl with | [_, _, _], _ => rfl) (dv24 C ih)
abbrev N25 : List Str := ["one", "other", "count", "late"]
theorem sc25 : FnScope N25 ["one", "other"] (defScope (top 32)) := mkSc (by decide +kernel)
theorem dv25 {n : Nat} {cf : CF} (C : Ctx K base mg) (ih : Ih P w K mg base (GG K) n cf) : Dv P w K mg base (GG K) N25 "gap_of" (top 32) ((GG K).fa 25) n fun n0 => (sRet (eArg bSum (aCons (eLc (iZip (eCall cf 1 18 (aCons (eVar 0) aNil)) (eCall cf 1 18 (aCons (eVar 1) aNil))) (gTp [(gNm 2), (gNm 3)]) [2, 3] tYesP (eArg bMax2 (aCons (eLit (.int 0)) (aCons (eBin oSub (eVar 2) (eVar 3)) aNil)))) aNil))) := by
  intro cdv A outer s H E n0 hr tk
  have T := dvT tk rfl ih hr rfl
  have nd := sc25.nd
  exact (ss_one (ss_ret (se_argB (pe_callB (cr_sumA rfl) rfl (m_b_sum C) (by rfl) (sa_cons (se_lc (own := [("count", 2), ("late", 3)]) rfl nd (si_zip rfl rfl (m_b_zip C) (sx_call T rfl (m_f_falling C) (m_k_falling C) (sa_cons (se_var (pv 0)) sa_nil)) (sx_call T rfl (m_f_falling C) (m_k_falling C) (sa_cons (se_var (pv 1)) sa_nil))) (blk_ok (own := [("count", 2), ("late", 3)]) (by kernel_rfl)) (tb_tp (tbs_cons (tb_nm 2 (by decide)) (tbs_cons (tb_nm 3 (by decide)) tbs_nil)) rfl) (fun _ _ _ _ _ => (pg_tup rfl (pgs_cons (pg_name (i := 2) nd rfl (by first | exact Or.inl rfl | exact Or.inr rfl)) (pgs_cons (pg_name (i := 3) nd rfl (by first | exact Or.inl rfl | exact Or.inr rfl)) pgs_nil)))) (fun _ _ _ _ _ => sts_nil) (fun _ _ _ _ _ => (se_argB (pe_callB (call_max2 rfl) rfl (m_b_max C) (by rfl) (sa_cons (se_lit pe_int fun _ _ => rfl) (sa_cons (se_bin op_sub ok_sub (se_var (pv 2)) (se_var (pv 3))) sa_nil))) ok_max2))) sa_nil)) ok_sum)))
theorem ok25 {n : Nat} (C : Ctx K base mg) (ih : All P w K mg base (GG K) TT n) : OkF P w K mg base n 25 := by
  obtain ⟨fd, F⟩ := C.says.def_ 25 (d := d25) rfl
  exact def_ok (b := b25) rfl F sc25 rfl rfl (FunD_binds F fun _ _ _ _ _ _ us hl => match us, hl with | [_, _], _ => rfl) (dv25 C ih)
abbrev N26 : List Str := ["one", "other", "many", "counts", "due", "found", "taker", "giver", "place", "count"]
theorem sc26 : FnScope N26 ["one", "other"] (defScope (top 33)) := mkSc (by decide +kernel)
theorem dv26 {n : Nat} {cf : CF} (C : Ctx K base mg) (ih : Ih P w K mg base (GG K) n cf) : Dv P w K mg base (GG K) N26 "judge_evener" (top 33) ((GG K).fa 26) n fun n0 => (sCons (sExp (eCall cf 2 17 (aCons (eVar 0) (aCons (eVar 1) aNil)))) (sCons (sFor (iRg2 (eLit (.int 1)) (eBin oCat (eLenG cf [(0, 3), (4, 33)] (eVar 0)) (eLit (.int 1)))) (gNm 2) (sIf (tBl (eBin oLt (eArg bSum (aCons (eSl (eCall cf 1 18 (aCons (eVar 0) aNil)) pNo (pSo (eVar 2))) aNil)) (eArg bSum (aCons (eSl (eCall cf 1 18 (aCons (eVar 1) aNil)) pNo (pSo (eVar 2))) aNil)))) (sRet (eMake cf 2 3 22 (aCons (eVar 2) aNil))) sNil)) (sCons (sAsg (gTp [(gNm 3), (gNm 4), (gNm 5)]) (eTup (aCons (eNew (eCall cf 1 18 (aCons (eVar 0) aNil))) (aCons (eCall cf 1 18 (aCons (eVar 1) aNil)) (aCons (eNew (eLst aNil)) aNil))))) (sCons (sWhl 100 (tBl (eNeQ cf [(0, 2), (1, 11), (2, 20), (3, 23), (4, 32)] [.non, .bl, .int, .str, .tup, .lst, .dct, .own 0, .own 1, .own 2, .own 3, .own 4] (eVar 3) (eVar 4))) (sCons (sAsg (gNm 6) (eIx cf [(0, 4)] (eLc (iEnu (eVar 3)) (gTp [(gNm 8), (gNm 9)]) [8, 9] (tBl (eBin oLt (eVar 9) (eIx cf [(0, 4)] (eVar 4) (eVar 8)))) (eVar 8)) (eLit (.int 0)))) (sCons (sAsg (gNm 7) (eIx cf [(0, 4)] (eLc (iRg1 (eVar 6)) (gNm 8) [8] (tBl (eBin oGt (eIx cf [(0, 4)] (eVar 3) (eVar 8)) (eIx cf [(0, 4)] (eVar 4) (eVar 8)))) (eVar 8)) (eUn oNeg (eLit (.int 1))))) (sCons (sAugI oSub oGet (setG n0) (eVar 3) (eVar 7) (eLit (.int 1))) (sCons (sAugI oAdd oGet (setG n0) (eVar 3) (eVar 6) (eLit (.int 1))) (sExp (eLm (appL n0) (eVar 5) (eTup (aCons (eVar 7) (aCons (eVar 6) aNil)))))))))) (sRet (eMake cf 2 2 19 (aCons (eVar 5) aNil))))))) := by
  intro cdv A outer s H E n0 hr tk
  have T := dvT tk rfl ih hr rfl
  have nd := sc26.nd
  have po := dvP tk rfl
  exact (ss_cons (ss_expr (sx_call T rfl (m_f_check_like C) (m_k_check_like C) (sa_cons (se_var (pv 0)) (sa_cons (se_var (pv 1)) sa_nil))))
 (ss_cons (ss_for (ps_for po rfl (si_rng2 rfl (m_b_range C) (se_lit pe_int fun _ _ => rfl) (se_bin op_catR ok_cat (se_lenG T rfl (m_b_len C) (fun p hp => ((m_spc___len__ C) p hp).1) (se_var (pv 0))) (se_lit pe_int fun _ _ => rfl))) (pg_name (i := 2) nd rfl (by first | exact Or.inl rfl | exact Or.inr rfl)) (ss_one (ss_if (st_cmp op_lt ok_lt (se_argB (pe_callB (cr_sumA rfl) rfl (m_b_sum C) (by rfl) (sa_cons (se_sl rfl (sx_call T rfl (m_f_falling C) (m_k_falling C) (sa_cons (se_var (pv 0)) sa_nil)) so_none (so_some (se_var (pv 2)))) sa_nil)) ok_sum) (se_argB (pe_callB (cr_sumA rfl) rfl (m_b_sum C) (by rfl) (sa_cons (se_sl rfl (sx_call T rfl (m_f_falling C) (m_k_falling C) (sa_cons (se_var (pv 1)) sa_nil)) so_none (so_some (se_var (pv 2)))) sa_nil)) ok_sum) (nomark _)) (ss_one (ss_ret (se_make T (m_mk_Uneven C) rfl (m_c_Uneven C) (sa_cons (se_var (pv 2)) sa_nil)))) ss_nil))) (tg_nm 2))
 (ss_cons (ss_asg (ps_asg (toV (se_tup (sa_cons (se_new (sx_call T rfl (m_f_falling C) (m_k_falling C) (sa_cons (se_var (pv 0)) sa_nil))) (sa_cons (sx_call T rfl (m_f_falling C) (m_k_falling C) (sa_cons (se_var (pv 1)) sa_nil)) (sa_cons (se_new (se_lst sa_nil)) sa_nil))))) (pg_tup rfl (pgs_cons (pg_name (i := 3) nd rfl (by first | exact Or.inl rfl | exact Or.inr rfl)) (pgs_cons (pg_name (i := 4) nd rfl (by first | exact Or.inl rfl | exact Or.inr rfl)) (pgs_cons (pg_name (i := 5) nd rfl (by first | exact Or.inl rfl | exact Or.inr rfl)) pgs_nil))))) (tg_tp (tgs_cons (tg_nm 3) (tgs_cons (tg_nm 4) (tgs_cons (tg_nm 5) tgs_nil))) rfl))
 (ss_cons (ss_whl (ps_while po (st_neQ T (m_eqt C) (se_var (pv 3)) (se_var (pv 4)) (nomark _)) (ss_cons (ss_asg (ps_asg (toV (se_ixG T (m_spc___getitem__ C) (se_lc (own := [("place", 8), ("count", 9)]) rfl nd (si_enum rfl rfl (m_b_enumerate C) (se_var (pv 3))) (blk_ok (own := [("place", 8), ("count", 9)]) (by kernel_rfl)) (tb_tp (tbs_cons (tb_nm 8 (by decide)) (tbs_cons (tb_nm 9 (by decide)) tbs_nil)) rfl) (fun _ _ _ _ _ => (pg_tup rfl (pgs_cons (pg_name (i := 8) nd rfl (by first | exact Or.inl rfl | exact Or.inr rfl)) (pgs_cons (pg_name (i := 9) nd rfl (by first | exact Or.inl rfl | exact Or.inr rfl)) pgs_nil)))) (fun _ _ _ _ _ => (sts_one (st_cmp op_lt ok_lt (se_var (pv 9)) (se_ixG (T.blk _ _ _ _ _) (m_spc___getitem__ C) (se_var (pv 4)) (se_var (pv 8)) (fun _ _ => rfl) (fun _ _ => by with_unfolding_all rfl)) (nomark _)))) (fun _ _ _ _ _ => (se_var (pv 8)))) (se_lit pe_int fun _ _ => rfl) (fun _ _ => rfl) (fun _ _ => by with_unfolding_all rfl))) (pg_name (i := 6) nd rfl (by first | exact Or.inl rfl | exact Or.inr rfl))) (tg_nm 6))
 (ss_cons (ss_asg (ps_asg (toV (se_ixG T (m_spc___getitem__ C) (se_lc (own := [("place", 8)]) rfl nd (si_rng1 rfl (m_b_range C) (se_var (pv 6))) (blk_ok (own := [("place", 8)]) (by kernel_rfl)) (tb_nm 8 (by decide)) (fun _ _ _ _ _ => (pg_name (i := 8) nd rfl (by first | exact Or.inl rfl | exact Or.inr rfl))) (fun _ _ _ _ _ => (sts_one (st_cmp op_gt ok_gt (se_ixG (T.blk _ _ _ _ _) (m_spc___getitem__ C) (se_var (pv 3)) (se_var (pv 8)) (fun _ _ => rfl) (fun _ _ => by with_unfolding_all rfl)) (se_ixG (T.blk _ _ _ _ _) (m_spc___getitem__ C) (se_var (pv 4)) (se_var (pv 8)) (fun _ _ => rfl) (fun _ _ => by with_unfolding_all rfl)) (nomark _)))) (fun _ _ _ _ _ => (se_var (pv 8)))) (se_un un_neg ok_neg (se_lit pe_int fun _ _ => rfl)) (fun _ _ => rfl) (fun _ _ => by with_unfolding_all rfl))) (pg_name (i := 7) nd rfl (by first | exact Or.inl rfl | exact Or.inr rfl))) (tg_nm 7))
 (ss_cons (ss_augI ok_get ok_sub chg_setG (ps_augS (toV (se_var (pv 3))) (toV (se_var (pv 7))) (get_G (units2 T)) (toV (se_lit pe_int fun _ _ => rfl)) iop_sub (set_G (units2 T))))
 (ss_cons (ss_augI ok_get ok_add chg_setG (ps_augS (toV (se_var (pv 3))) (toV (se_var (pv 6))) (get_G (units2 T)) (toV (se_lit pe_int fun _ _ => rfl)) iop_add (set_G (units2 T))))
 (ss_one (ss_expr (se_lm rfl chg_app (pe_bm PySem.F.plainAttrs_list PySem.F.slot_list_append PySem.F.type_list_append mt_append (toV (se_var (pv 5))) (pa_cons (toV (se_tup (sa_cons (se_var (pv 7)) (sa_cons (se_var (pv 6)) sa_nil)))) pa_nil)))))))))))
 (ss_one (ss_ret (se_make T (m_mk_Evener C) rfl (m_c_Evener C) (sa_cons (se_var (pv 5)) sa_nil))))))))
theorem ok26 {n : Nat} (C : Ctx K base mg) (ih : All P w K mg base (GG K) TT n) : OkF P w K mg base n 26 := by
  obtain ⟨fd, F⟩ := C.says.def_ 26 (d := d26) rfl
  exact def_ok (b := b26) rfl F sc26 rfl rfl (FunD_binds F fun _ _ _ _ _ _ us hl => match us, hl with | [_, _], _ => rfl) (dv26 C ih)
abbrev N27 : List Str := ["one", "other"]
theorem sc27 : FnScope N27 ["one", "other"] (defScope (top 34)) := mkSc (by decide +kernel)
theorem dv27 {n : Nat} {cf : CF} (C : Ctx K base mg) (ih : Ih P w K mg base (GG K) n cf) : Dv P w K mg base (GG K) N27 "is_evener" (top 34) ((GG K).fa 27) n fun n0 => (sRet (eIsi [(.non, false), (.bl, false), (.int, false), (.str, false), (.tup, false), (.lst, false), (.dct, false), (.own 0, false), (.own 1, false), (.own 2, true), (.own 3, false), (.own 4, false)] (eCall cf 2 26 (aCons (eVar 0) (aCons (eVar 1) aNil))))) := by
  intro cdv A outer s H E n0 hr tk
  have T := dvT tk rfl ih hr rfl
  have nd := sc27.nd
  exact (ss_one (ss_ret (se_isi1 (cv := (.ref ((GG K).ca 2))) (cu := (.ref ((GG K).ca 2))) rfl rfl (m_b_isinstance C) (by rfl) (.own _) (m_kit_2own C) (sx_call T rfl (m_f_judge_evener C) (m_k_judge_evener C) (sa_cons (se_var (pv 0)) (sa_cons (se_var (pv 1)) sa_nil))) (pe_glob (v := .ref ((GG K).ca 2)) rfl (m_c_Evener C) rfl))))
theorem ok27 {n : Nat} (C : Ctx K base mg) (ih : All P w K mg base (GG K) TT n) : OkF P w K mg base n 27 := by
  obtain ⟨fd, F⟩ := C.says.def_ 27 (d := d27) rfl
  exact def_ok (b := b27) rfl F sc27 rfl rfl (FunD_binds F fun _ _ _ _ _ _ us hl => match us, hl with | [_, _], _ => rfl) (dv27 C ih)
abbrev N28 : List Str := ["one", "other"]
theorem sc28 : FnScope N28 ["one", "other"] (defScope (top 35)) := mkSc (by decide +kernel)
theorem dv28 {n : Nat} {cf : CF} (C : Ctx K base mg) (ih : Ih P w K mg base (GG K) n cf) : Dv P w K mg base (GG K) N28 "fewest_transfers" (top 35) ((GG K).fa 28) n fun n0 => (sRet (eIf (tTru (eCall cf 2 27 (aCons (eVar 0) (aCons (eVar 1) aNil)))) (eCall cf 2 25 (aCons (eVar 0) (aCons (eVar 1) aNil))) (eLit .non))) := by
  intro cdv A outer s H E n0 hr tk
  have T := dvT tk rfl ih hr rfl
  have nd := sc28.nd
  exact (ss_one (ss_ret (se_if (st_tru rfl (sx_call T rfl (m_f_is_evener C) (m_k_is_evener C) (sa_cons (se_var (pv 0)) (sa_cons (se_var (pv 1)) sa_nil)))) (sx_call T rfl (m_f_gap_of C) (m_k_gap_of C) (sa_cons (se_var (pv 0)) (sa_cons (se_var (pv 1)) sa_nil))) (se_lit pe_non fun _ _ => rfl))))
theorem ok28 {n : Nat} (C : Ctx K base mg) (ih : All P w K mg base (GG K) TT n) : OkF P w K mg base n 28 := by
  obtain ⟨fd, F⟩ := C.says.def_ 28 (d := d28) rfl
  exact def_ok (b := b28) rfl F sc28 rfl rfl (FunD_binds F fun _ _ _ _ _ _ us hl => match us, hl with | [_, _], _ => rfl) (dv28 C ih)
abbrev N29 : List Str := ["cuts", "values", "one", "other", "cut"]
theorem sc29 : FnScope N29 ["cuts", "values"] (defScope (top 37)) := mkSc (by decide +kernel)
theorem dv29 {n : Nat} {cf : CF} (C : Ctx K base mg) (ih : Ih P w K mg base (GG K) n cf) : Dv P w K mg base (GG K) N29 "are_cuts" (top 37) ((GG K).fa 29) n fun n0 => (sCons (sIf (tOr (tNo (tTru (eIsi [(.non, false), (.bl, false), (.int, false), (.str, false), (.tup, true), (.lst, false), (.dct, false), (.own 0, false), (.own 1, false), (.own 2, false), (.own 3, false), (.own 4, false)] (eVar 0)))) (tOr (tBl (eEqQ cf [(0, 2), (1, 11), (2, 20), (3, 23), (4, 32)] [.non, .bl, .int, .str, .tup, .lst, .dct, .own 0, .own 1, .own 2, .own 3, .own 4] (eVar 0) (eTup aNil))) (tBl (eNeQ cf [(0, 2), (1, 11), (2, 20), (3, 23), (4, 32)] [.non, .bl, .int, .str, .tup, .lst, .dct, .own 0, .own 1, .own 2, .own 3, .own 4] (eIx cf [(0, 4)] (eVar 0) (eLit (.int 0))) (eLit (.int 0)))))) (sRet (eLit (.bl false))) sNil) (sCons (sIf (tNo (tTru (eArg bAll (aCons (eLc (iSeqH (eVar 0)) (gNm 4) [4] tYesP (eCall cf 3 0 (aCons (eVar 4) (aCons (eLit (.int 0)) (aCons (eBin oSub (eVar 1) (eLit (.int 1))) aNil))))) aNil)))) (sRet (eLit (.bl false))) sNil) (sRet (eArg bAll (aCons (eLc (iZip (eVar 0) (eSl (eVar 0) (pSo (eLit (.int 1))) pNo)) (gTp [(gNm 2), (gNm 3)]) [2, 3] tYesP (eBin oLt (eVar 2) (eVar 3))) aNil))))) := by
  intro cdv A outer s H E n0 hr tk
  have T := dvT tk rfl ih hr rfl
  have nd := sc29.nd
  exact (ss_cons (ss_if (PW.pt (sw_or (st_no (st_tru rfl (se_isi1 (cv := (.ty "tuple")) (cu := (.type "tuple")) rfl rfl (m_b_isinstance C) (by rfl) (.ty _) (m_kit_tuplety C) (se_var (pv 0)) (pe_bltn (v := .ty "tuple") (u := .type "tuple") rfl (m_b_tuple C) (by rfl) rfl (by decide))))) (sw_or (st_eqQ T (m_eqt C) (se_var (pv 0)) (se_tup sa_nil) (nomark _)) (sw_one (st_neQ T (m_eqt C) (se_ixG T (m_spc___getitem__ C) (se_var (pv 0)) (se_lit pe_int fun _ _ => rfl) (fun _ _ => rfl) (fun _ _ => by with_unfolding_all rfl)) (se_lit pe_int fun _ _ => rfl) (nomark _)))))) (ss_one (ss_ret (se_lit pe_bl fun _ _ => rfl))) ss_nil)
 (ss_cons (ss_if (st_no (st_tru rfl (se_argB (pe_callB (cr_all rfl) rfl (m_b_all C) (by rfl) (sa_cons (se_lc (own := [("cut", 4)]) rfl nd (si_seqH rfl (se_var (pv 0))) (blk_ok (own := [("cut", 4)]) (by kernel_rfl)) (tb_nm 4 (by decide)) (fun _ _ _ _ _ => (pg_name (i := 4) nd rfl (by first | exact Or.inl rfl | exact Or.inr rfl))) (fun _ _ _ _ _ => sts_nil) (fun _ _ _ _ _ => (sx_call (T.blk _ _ _ _ _) rfl (m_f_is_number C) (m_k_is_number C) (sa_cons (se_var (pv 4)) (sa_cons (se_lit pe_int fun _ _ => rfl) (sa_cons (se_bin op_sub ok_sub (se_var (pv 1)) (se_lit pe_int fun _ _ => rfl)) sa_nil)))))) sa_nil)) ok_all))) (ss_one (ss_ret (se_lit pe_bl fun _ _ => rfl))) ss_nil)
 (ss_one (ss_ret (se_argB (pe_callB (cr_all rfl) rfl (m_b_all C) (by rfl) (sa_cons (se_lc (own := [("one", 2), ("other", 3)]) rfl nd (si_zip rfl rfl (m_b_zip C) (se_var (pv 0)) (se_sl rfl (se_var (pv 0)) (so_some (se_lit pe_int fun _ _ => rfl)) so_none)) (blk_ok (own := [("one", 2), ("other", 3)]) (by kernel_rfl)) (tb_tp (tbs_cons (tb_nm 2 (by decide)) (tbs_cons (tb_nm 3 (by decide)) tbs_nil)) rfl) (fun _ _ _ _ _ => (pg_tup rfl (pgs_cons (pg_name (i := 2) nd rfl (by first | exact Or.inl rfl | exact Or.inr rfl)) (pgs_cons (pg_name (i := 3) nd rfl (by first | exact Or.inl rfl | exact Or.inr rfl)) pgs_nil)))) (fun _ _ _ _ _ => sts_nil) (fun _ _ _ _ _ => (se_cmp op_lt ok_lt (se_var (pv 2)) (se_var (pv 3)) (nomark _)))) sa_nil)) ok_all)))))
theorem ok29 {n : Nat} (C : Ctx K base mg) (ih : All P w K mg base (GG K) TT n) : OkF P w K mg base n 29 := by
  obtain ⟨fd, F⟩ := C.says.def_ 29 (d := d29) rfl
  exact def_ok (b := b29) rfl F sc29 rfl rfl (FunD_binds F fun _ _ _ _ _ _ us hl => match us, hl with | [_, _], _ => rfl) (dv29 C ih)
abbrev N30 : List Str := ["values", "cuts"]
theorem sc30 : FnScope N30 ["values", "cuts"] (defScope (top 38)) := mkSc (by decide +kernel)
theorem dv30 {n : Nat} {cf : CF} (C : Ctx K base mg) (ih : Ih P w K mg base (GG K) n cf) : Dv P w K mg base (GG K) N30 "buckets_of" (top 38) ((GG K).fa 30) n fun n0 => (sRet (eLz (eVar 1) (eLst (aStar (eSl (eVar 1) (pSo (eLit (.int 1))) pNo) (aCons (eVar 0) aNil))))) := by
  intro cdv A outer s H E n0 hr tk
  have T := dvT tk rfl ih hr rfl
  have nd := sc30.nd
  exact (ss_one (ss_ret (se_lz rfl rfl rfl (m_b_list C) rfl (m_b_zip C) (se_var (pv 1)) (se_lst (sa_star rfl (se_sl rfl (se_var (pv 1)) (so_some (se_lit pe_int fun _ _ => rfl)) so_none) (sa_cons (se_var (pv 0)) sa_nil))))))
theorem ok30 {n : Nat} (C : Ctx K base mg) (ih : All P w K mg base (GG K) TT n) : OkF P w K mg base n 30 := by
  obtain ⟨fd, F⟩ := C.says.def_ 30 (d := d30) rfl
  exact def_ok (b := b30) rfl F sc30 rfl rfl (FunD_binds F fun _ _ _ _ _ _ us hl => match us, hl with | [_, _], _ => rfl) (dv30 C ih)
abbrev N31 : List Str := ["self", "width", "cuts", "totals", "total", "bucket"]
theorem sc31 : FnScope N31 ["self", "width", "cuts", "totals"] (defScope (inClass (top 39) 0)) := mkSc (by decide +kernel)
theorem dv31 {n : Nat} {cf : CF} (C : Ctx K base mg) (ih : Ih P w K mg base (GG K) n cf) : Dv P w K mg base (GG K) N31 "Histogram.__init__" (inClass (top 39) 0) ((GG K).fa 31) n fun n0 => (sCons (sIf (tOr (tNo (tTru (eCall cf 3 0 (aCons (eVar 1) (aCons (eLit (.int 1)) (aCons (eLit (.int (12))) aNil)))))) (tNo (tTru (eCall cf 2 29 (aCons (eVar 2) (aCons (eVar 1) aNil)))))) (sRse 9) sNil) (sCons (sIf (tOr (tNo (tTru (eIsi [(.non, false), (.bl, false), (.int, false), (.str, false), (.tup, true), (.lst, false), (.dct, false), (.own 0, false), (.own 1, false), (.own 2, false), (.own 3, false), (.own 4, false)] (eVar 3)))) (tBl (eNeQ cf [(0, 2), (1, 11), (2, 20), (3, 23), (4, 32)] [.non, .bl, .int, .str, .tup, .lst, .dct, .own 0, .own 1, .own 2, .own 3, .own 4] (eLenG cf [(0, 3), (4, 33)] (eVar 3)) (eLenG cf [(0, 3), (4, 33)] (eVar 2))))) (sRse 9) sNil) (sCons (sFor (iZip (eVar 3) (eCall cf 2 30 (aCons (eVar 1) (aCons (eVar 2) aNil)))) (gTp [(gNm 4), (gNm 5)]) (sIf (tNo (tTru (eCall cf 3 0 (aCons (eVar 4) (aCons (eLit (.int 0)) (aCons (eBin oRep (eLit (.int (9))) (eBin oSub (eIx cf [(0, 4)] (eVar 5) (eLit (.int 1))) (eIx cf [(0, 4)] (eVar 5) (eLit (.int 0))))) aNil)))))) (sRse 9) sNil)) (sCons (sFld n0 [4] 10 (eVar 0) (eVar 1)) (sCons (sFld n0 [4] 11 (eVar 0) (eVar 2)) (sFld n0 [4] 12 (eVar 0) (eVar 3))))))) := by
  intro cdv A outer s H E n0 hr tk
  have T := dvT tk rfl ih hr rfl
  have nd := sc31.nd
  have po := dvP tk rfl
  exact (ss_cons (ss_if (PW.pt (sw_or (st_no (st_tru rfl (sx_call T rfl (m_f_is_number C) (m_k_is_number C) (sa_cons (se_var (pv 1)) (sa_cons (se_lit pe_int fun _ _ => rfl) (sa_cons (se_lit (C8.pe_gc rfl (m_i_MOST_VALUES C)) fun _ _ => rfl) sa_nil)))))) (sw_one (st_no (st_tru rfl (sx_call T rfl (m_f_are_cuts C) (m_k_are_cuts C) (sa_cons (se_var (pv 2)) (sa_cons (se_var (pv 1)) sa_nil)))))))) (ss_one (ss_rse rfl rfl tk (m_x_BadHistogram C) (m_c_BadHistogram C) rfl)) ss_nil)
 (ss_cons (ss_if (PW.pt (sw_or (st_no (st_tru rfl (se_isi1 (cv := (.ty "tuple")) (cu := (.type "tuple")) rfl rfl (m_b_isinstance C) (by rfl) (.ty _) (m_kit_tuplety C) (se_var (pv 3)) (pe_bltn (v := .ty "tuple") (u := .type "tuple") rfl (m_b_tuple C) (by rfl) rfl (by decide))))) (sw_one (st_neQ T (m_eqt C) (se_lenG T rfl (m_b_len C) (fun p hp => ((m_spc___len__ C) p hp).1) (se_var (pv 3))) (se_lenG T rfl (m_b_len C) (fun p hp => ((m_spc___len__ C) p hp).1) (se_var (pv 2))) (nomark _))))) (ss_one (ss_rse rfl rfl tk (m_x_BadHistogram C) (m_c_BadHistogram C) rfl)) ss_nil)
 (ss_cons (ss_for (ps_for po rfl (si_zip rfl rfl (m_b_zip C) (se_var (pv 3)) (sx_call T rfl (m_f_buckets_of C) (m_k_buckets_of C) (sa_cons (se_var (pv 1)) (sa_cons (se_var (pv 2)) sa_nil)))) (pg_tup rfl (pgs_cons (pg_name (i := 4) nd rfl (by first | exact Or.inl rfl | exact Or.inr rfl)) (pgs_cons (pg_name (i := 5) nd rfl (by first | exact Or.inl rfl | exact Or.inr rfl)) pgs_nil))) (ss_one (ss_if (st_no (st_tru rfl (sx_call T rfl (m_f_is_number C) (m_k_is_number C) (sa_cons (se_var (pv 4)) (sa_cons (se_lit pe_int fun _ _ => rfl) (sa_cons (se_bin op_repR ok_rep (se_lit (C8.pe_gc rfl (m_i_MOST_COUNT C)) fun _ _ => rfl) (se_bin op_sub ok_sub (se_ixG T (m_spc___getitem__ C) (se_var (pv 5)) (se_lit pe_int fun _ _ => rfl) (fun _ _ => rfl) (fun _ _ => by with_unfolding_all rfl)) (se_ixG T (m_spc___getitem__ C) (se_var (pv 5)) (se_lit pe_int fun _ _ => rfl) (fun _ _ => rfl) (fun _ _ => by with_unfolding_all rfl)))) sa_nil)))))) (ss_one (ss_rse rfl rfl tk (m_x_BadHistogram C) (m_c_BadHistogram C) rfl)) ss_nil))) (tg_tp (tgs_cons (tg_nm 4) (tgs_cons (tg_nm 5) tgs_nil)) rfl))
 (ss_cons (ss_fld (f := 10) rfl (inj 10 (by decide)) (m_fld_width C) (se_var (pv 0)) (se_var (pv 1)))
 (ss_cons (ss_fld (f := 11) rfl (inj 11 (by decide)) (m_fld_cuts C) (se_var (pv 0)) (se_var (pv 2)))
 (ss_one (ss_fld (f := 12) rfl (inj 12 (by decide)) (m_fld_totals C) (se_var (pv 0)) (se_var (pv 3)))))))))
theorem ok31 {n : Nat} (C : Ctx K base mg) (ih : All P w K mg base (GG K) TT n) : OkF P w K mg base n 31 := by
  obtain ⟨fd, F⟩ := C.says.def_ 31 (d := d31) rfl
  exact def_ok (b := b31) rfl F sc31 rfl rfl (FunD_binds F fun _ _ _ _ _ _ us hl => match us, hl with | [_, _, _, _], _ => rfl) (dv31 C ih)
abbrev N32 : List Str := ["self", "other"]
theorem sc32 : FnScope N32 ["self", "other"] (defScope (inClass (top 39) 1)) := mkSc (by decide +kernel)
theorem dv32 {n : Nat} {cf : CF} (C : Ctx K base mg) (ih : Ih P w K mg base (GG K) n cf) : Dv P w K mg base (GG K) N32 "Histogram.__eq__" (inClass (top 39) 1) ((GG K).fa 32) n fun n0 => (sRet (eAn (eIsi [(.non, false), (.bl, false), (.int, false), (.str, false), (.tup, false), (.lst, false), (.dct, false), (.own 0, false), (.own 1, false), (.own 2, false), (.own 3, false), (.own 4, true)] (eVar 1)) (eEqQ cf [(0, 2), (1, 11), (2, 20), (3, 23), (4, 32)] [.non, .bl, .int, .str, .tup, .lst, .dct, .own 0, .own 1, .own 2, .own 3, .own 4] (eMeth cf 1 13 [(4, 34)] (eVar 0) aNil) (eMeth cf 1 13 [(4, 34)] (eVar 1) aNil)))) := by
  intro cdv A outer s H E n0 hr tk
  have T := dvT tk rfl ih hr rfl
  have nd := sc32.nd
  exact (ss_one (ss_ret (se_and rfl (se_isi1 (cv := (.ref ((GG K).ca 4))) (cu := (.ref ((GG K).ca 4))) rfl rfl (m_b_isinstance C) (by rfl) (.own _) (m_kit_4own C) (se_var (pv 1)) (pe_glob (v := .ref ((GG K).ca 4)) rfl (m_c_Histogram C) rfl)) (se_one (se_eqQ T (m_eqt C) (se_meth0 (m := 13) T (inj 13 (by decide)) (m_met_all_three C) (se_var (pv 0))) (se_meth0 (m := 13) T (inj 13 (by decide)) (m_met_all_three C) (se_var (pv 1))) (nomark _))))))
theorem ok32 {n : Nat} (C : Ctx K base mg) (ih : All P w K mg base (GG K) TT n) : OkF P w K mg base n 32 := by
  obtain ⟨fd, F⟩ := C.says.def_ 32 (d := d32) rfl
  exact def_ok (b := b32) rfl F sc32 rfl rfl (FunD_binds F fun _ _ _ _ _ _ us hl => match us, hl with | [_, _], _ => rfl) (dv32 C ih)
abbrev N33 : List Str := ["self"]
theorem sc33 : FnScope N33 ["self"] (defScope (inClass (top 39) 2)) := mkSc (by decide +kernel)
theorem dv33 {n : Nat} {cf : CF} (C : Ctx K base mg) (ih : Ih P w K mg base (GG K) n cf) : Dv P w K mg base (GG K) N33 "Histogram.__len__" (inClass (top 39) 2) ((GG K).fa 33) n fun n0 => (sRet (eLenG cf [(0, 3), (4, 33)] (eFld [4] 11 (eVar 0)))) := by
  intro cdv A outer s H E n0 hr tk
  have T := dvT tk rfl ih hr rfl
  have nd := sc33.nd
  exact (ss_one (ss_ret (se_lenG T rfl (m_b_len C) (fun p hp => ((m_spc___len__ C) p hp).1) (se_fld (f := 11) rfl (inj 11 (by decide)) (m_fld_cuts C) (se_var (pv 0))))))
theorem ok33 {n : Nat} (C : Ctx K base mg) (ih : All P w K mg base (GG K) TT n) : OkF P w K mg base n 33 := by
  obtain ⟨fd, F⟩ := C.says.def_ 33 (d := d33) rfl
  exact def_ok (b := b33) rfl F sc33 rfl rfl (FunD_binds F fun _ _ _ _ _ _ us hl => match us, hl with | [_], _ => rfl) (dv33 C ih)
abbrev N34 : List Str := ["self"]
theorem sc34 : FnScope N34 ["self"] (defScope (inClass (top 39) 3)) := mkSc (by decide +kernel)
theorem dv34 {n : Nat} {cf : CF} (C : Ctx K base mg) (ih : Ih P w K mg base (GG K) n cf) : Dv P w K mg base (GG K) N34 "Histogram.all_three" (inClass (top 39) 3) ((GG K).fa 34) n fun n0 => (sRet (eTup (aCons (eFld [4] 10 (eVar 0)) (aCons (eFld [4] 11 (eVar 0)) (aCons (eFld [4] 12 (eVar 0)) aNil))))) := by
  intro cdv A outer s H E n0 hr tk
  have T := dvT tk rfl ih hr rfl
  have nd := sc34.nd
  exact (ss_one (ss_ret (se_tup (sa_cons (se_fld (f := 10) rfl (inj 10 (by decide)) (m_fld_width C) (se_var (pv 0))) (sa_cons (se_fld (f := 11) rfl (inj 11 (by decide)) (m_fld_cuts C) (se_var (pv 0))) (sa_cons (se_fld (f := 12) rfl (inj 12 (by decide)) (m_fld_totals C) (se_var (pv 0))) sa_nil))))))
theorem ok34 {n : Nat} (C : Ctx K base mg) (ih : All P w K mg base (GG K) TT n) : OkF P w K mg base n 34 := by
  obtain ⟨fd, F⟩ := C.says.def_ 34 (d := d34) rfl
  exact def_ok (b := b34) rfl F sc34 rfl rfl (FunD_binds F fun _ _ _ _ _ _ us hl => match us, hl with | [_], _ => rfl) (dv34 C ih)
abbrev N35 : List Str := ["self"]
theorem sc35 : FnScope N35 ["self"] (defScope (inClass (top 39) 4)) := mkSc (by decide +kernel)
theorem dv35 {n : Nat} {cf : CF} (C : Ctx K base mg) (ih : Ih P w K mg base (GG K) n cf) : Dv P w K mg base (GG K) N35 "Histogram.buckets" (inClass (top 39) 4) ((GG K).fa 35) n fun n0 => (sRet (eCall cf 2 30 (aCons (eFld [4] 10 (eVar 0)) (aCons (eFld [4] 11 (eVar 0)) aNil)))) := by
  intro cdv A outer s H E n0 hr tk
  have T := dvT tk rfl ih hr rfl
  have nd := sc35.nd
  exact (ss_one (ss_ret (sx_call T rfl (m_f_buckets_of C) (m_k_buckets_of C) (sa_cons (se_fld (f := 10) rfl (inj 10 (by decide)) (m_fld_width C) (se_var (pv 0))) (sa_cons (se_fld (f := 11) rfl (inj 11 (by decide)) (m_fld_cuts C) (se_var (pv 0))) sa_nil)))))
theorem ok35 {n : Nat} (C : Ctx K base mg) (ih : All P w K mg base (GG K) TT n) : OkF P w K mg base n 35 := by
  obtain ⟨fd, F⟩ := C.says.def_ 35 (d := d35) rfl
  exact def_ok (b := b35) rfl F sc35 rfl rfl (FunD_binds F fun _ _ _ _ _ _ us hl => match us, hl with | [_], _ => rfl) (dv35 C ih)
abbrev N36 : List Str := ["_law_one", "_law_other", "_law_counters"]
theorem sc36 : FnScope N36 ["_law_one", "_law_other", "_law_counters"] (defScope (top 41)) := mkSc (by decide +kernel)
theorem dv36 {n : Nat} {cf : CF} (C : Ctx K base mg) (ih : Ih P w K mg base (GG K) n cf) : Dv P w K mg base (GG K) N36 "_law_is_refused" (top 41) ((GG K).fa 36) n fun n0 => (sTryC cf 3 16 (aCons (eVar 0) (aCons (eVar 1) (aCons (eVar 2) aNil))) (eLit (.bl false)) 12 (eLit (.bl true))) := by
  intro cdv A outer s H E n0 hr tk
  have T := dvT tk rfl ih hr rfl
  have nd := sc36.nd
  exact (ss_one (ss_try T rfl rfl ⟨rfl, by rfl, .inl (m_c_BadCounters C)⟩ (m_x_BadCounters C) rfl (m_f_merge C) (m_k_merge C) (fun _ _ => (sa_cons (se_var (pv 0)) (sa_cons (se_var (pv 1)) (sa_cons (se_var (pv 2)) sa_nil)))) (fun _ _ => (se_lit pe_bl fun _ _ => rfl)) (fun _ _ => (se_lit pe_bl fun _ _ => rfl))))
theorem ok36 {n : Nat} (C : Ctx K base mg) (ih : All P w K mg base (GG K) TT n) : OkF P w K mg base n 36 := by
  obtain ⟨fd, F⟩ := C.says.def_ 36 (d := d36) rfl
  exact def_ok (b := b36) rfl F sc36 rfl rfl (FunD_binds F fun _ _ _ _ _ _ us hl => match us, hl with | [_, _, _], _ => rfl) (dv36 C ih)
abbrev N37 : List Str := ["_law_many", "_law_stream", "_law_more", "_law_late", "_law_value"]
theorem sc37 : FnScope N37 ["_law_many"] (defScope (top 42)) := mkSc (by decide +kernel)
theorem dv37 {n : Nat} {cf : CF} (C : Ctx K base mg) (ih : Ih P w K mg base (GG K) n cf) : Dv P w K mg base (GG K) N37 "_law_counters_right" (top 42) ((GG K).fa 37) n fun n0 => (sCons (sAsg (gNm 1) (eArg bTuple (aCons (eLc (iRg1 (eBin oCat (eVar 0) (eLit (.int 1)))) (gNm 3) [3] tYesP (eVar 3)) aNil))) (sCons (sAsg (gNm 2) (eArg bDictG (aCons (eLc (iSeqH (eVar 1)) (gNm 4) [4] tYesP (eTup (aCons (eVar 4) (aCons (eLit (.int 1)) aNil)))) aNil))) (sCons (sIf (tOr (tTru (eMeth cf 3 14 [(1, 12), (2, 21), (3, 24)] (eMake cf 3 1 10 (aCons (eVar 2) (aCons (eLst aNil) aNil))) (aCons (eVar 1) (aCons (eVar 0) aNil)))) (tNo (tTru (eMeth cf 3 14 [(1, 12), (2, 21), (3, 24)] (eMake cf 3 1 10 (aCons (eVar 2) (aCons (eLst aNil) aNil))) (aCons (eVar 1) (aCons (eBin oCat (eVar 0) (eLit (.int 1))) aNil)))))) (sRet (eLit (.bl false))) sNil) (sCons (sIf (tOr (tNo (tTru (eCall cf 3 36 (aCons (eVar 2) (aCons eDnK (aCons (eVar 0) aNil)))))) (tNo (tTru (eCall cf 3 36 (aCons eDnK (aCons (eVar 2) (aCons (eVar 0) aNil))))))) (sRet (eLit (.bl false))) sNil) (sRet (eAn (eEqQ cf [(0, 2), (1, 11), (2, 20), (3, 23), (4, 32)] [.non, .bl, .int, .str, .tup, .lst, .dct, .own 0, .own 1, .own 2, .own 3, .own 4] (eCall cf 3 16 (aCons (eVar 2) (aCons eDnK (aCons (eBin oCat (eVar 0) (eLit (.int 1))) aNil)))) (eVar 2)) (eEqQ cf [(0, 2), (1, 11), (2, 20), (3, 23), (4, 32)] [.non, .bl, .int, .str, .tup, .lst, .dct, .own 0, .own 1, .own 2, .own 3, .own 4] (eCall cf 3 16 (aCons eDnK (aCons (eVar 2) (aCons (eBin oCat (eVar 0) (eLit (.int 1))) aNil)))) (eVar 2)))))))) := by
  intro cdv A outer s H E n0 hr tk
  have T := dvT tk rfl ih hr rfl
  have nd := sc37.nd
  exact (ss_cons (ss_asg (ps_asg (toV (se_argB (pe_callTy call_tuple_of rfl (m_b_tuple C) (by rfl) (sa_cons (se_lc (own := [("_law_late", 3)]) rfl nd (si_rng1 rfl (m_b_range C) (se_bin op_catR ok_cat (se_var (pv 0)) (se_lit pe_int fun _ _ => rfl))) (blk_ok (own := [("_law_late", 3)]) (by kernel_rfl)) (tb_nm 3 (by decide)) (fun _ _ _ _ _ => (pg_name (i := 3) nd rfl (by first | exact Or.inl rfl | exact Or.inr rfl))) (fun _ _ _ _ _ => sts_nil) (fun _ _ _ _ _ => (se_var (pv 3)))) sa_nil)) ok_tuple)) (pg_name (i := 1) nd rfl (by first | exact Or.inl rfl | exact Or.inr rfl))) (tg_nm 1))
 (ss_cons (ss_asg (ps_asg (toV (se_argB (pe_callTy (cr_dictG rfl (units65 T)) rfl (m_b_dict C) (by rfl) (sa_cons (se_lc (own := [("_law_value", 4)]) rfl nd (si_seqH rfl (se_var (pv 1))) (blk_ok (own := [("_law_value", 4)]) (by kernel_rfl)) (tb_nm 4 (by decide)) (fun _ _ _ _ _ => (pg_name (i := 4) nd rfl (by first | exact Or.inl rfl | exact Or.inr rfl))) (fun _ _ _ _ _ => sts_nil) (fun _ _ _ _ _ => (se_tup (sa_cons (se_var (pv 4)) (sa_cons (se_lit pe_int fun _ _ => rfl) sa_nil))))) sa_nil)) ok_dictG)) (pg_name (i := 2) nd rfl (by first | exact Or.inl rfl | exact Or.inr rfl))) (tg_nm 2))
 (ss_cons (ss_if (PW.pt (sw_or (st_tru rfl (se_meth (m := 14) T (inj 14 (by decide)) (m_met_shows C) (se_make T (m_mk_Crossed C) rfl (m_c_Crossed C) (sa_cons (se_var (pv 2)) (sa_cons (se_lst sa_nil) sa_nil))) (sa_cons (se_var (pv 1)) (sa_cons (se_var (pv 0)) sa_nil)))) (sw_one (st_no (st_tru rfl (se_meth (m := 14) T (inj 14 (by decide)) (m_met_shows C) (se_make T (m_mk_Crossed C) rfl (m_c_Crossed C) (sa_cons (se_var (pv 2)) (sa_cons (se_lst sa_nil) sa_nil))) (sa_cons (se_var (pv 1)) (sa_cons (se_bin op_catR ok_cat (se_var (pv 0)) (se_lit pe_int fun _ _ => rfl)) sa_nil)))))))) (ss_one (ss_ret (se_lit pe_bl fun _ _ => rfl))) ss_nil)
 (ss_cons (ss_if (PW.pt (sw_or (st_no (st_tru rfl (sx_call T rfl (m_f__law_is_refused C) (m_k__law_is_refused C) (sa_cons (se_var (pv 2)) (sa_cons se_dnK (sa_cons (se_var (pv 0)) sa_nil)))))) (sw_one (st_no (st_tru rfl (sx_call T rfl (m_f__law_is_refused C) (m_k__law_is_refused C) (sa_cons se_dnK (sa_cons (se_var (pv 2)) (sa_cons (se_var (pv 0)) sa_nil))))))))) (ss_one (ss_ret (se_lit pe_bl fun _ _ => rfl))) ss_nil)
 (ss_one (ss_ret (se_and rfl (se_eqQ T (m_eqt C) (sx_call T rfl (m_f_merge C) (m_k_merge C) (sa_cons (se_var (pv 2)) (sa_cons se_dnK (sa_cons (se_bin op_catR ok_cat (se_var (pv 0)) (se_lit pe_int fun _ _ => rfl)) sa_nil)))) (se_var (pv 2)) (nomark _)) (se_one (se_eqQ T (m_eqt C) (sx_call T rfl (m_f_merge C) (m_k_merge C) (sa_cons se_dnK (sa_cons (se_var (pv 2)) (sa_cons (se_bin op_catR ok_cat (se_var (pv 0)) (se_lit pe_int fun _ _ => rfl)) sa_nil)))) (se_var (pv 2)) (nomark _))))))))))
theorem ok37 {n : Nat} (C : Ctx K base mg) (ih : All P w K mg base (GG K) TT n) : OkF P w K mg base n 37 := by
  obtain ⟨fd, F⟩ := C.says.def_ 37 (d := d37) rfl
  exact def_ok (b := b37) rfl F sc37 rfl rfl (FunD_binds F fun _ _ _ _ _ _ us hl => match us, hl with | [_], _ => rfl) (dv37 C ih)
abbrev N38 : List Str := ["_law_more", "_law_one", "_law_other"]
theorem sc38 : FnScope N38 ["_law_more"] (defScope (top 43)) := mkSc (by decide +kernel)
theorem dv38 {n : Nat} {cf : CF} (C : Ctx K base mg) (ih : Ih P w K mg base (GG K) n cf) : Dv P w K mg base (GG K) N38 "_law_transfers_right" (top 43) ((GG K).fa 38) n fun n0 => (sCons (sPar [1, 2] (aCons (eMake cf 2 0 1 (aCons (eLst (aCons (eBin oCat (eLit (.int 6)) (eVar 0)) (aCons (eLit (.int 2)) (aCons (eLit (.int 1)) aNil)))) aNil)) (aCons (eMake cf 2 0 1 (aCons (eLst (aCons (eBin oCat (eLit (.int 5)) (eVar 0)) (aCons (eLit (.int 2)) (aCons (eLit (.int 2)) aNil)))) aNil)) aNil))) (sCons (sIf (tOr (tBl (eNeQ cf [(0, 2), (1, 11), (2, 20), (3, 23), (4, 32)] [.non, .bl, .int, .str, .tup, .lst, .dct, .own 0, .own 1, .own 2, .own 3, .own 4] (eCall cf 2 28 (aCons (eVar 1) (aCons (eVar 2) aNil))) (eLit (.int 1)))) (tNo (tTru (eMeth cf 3 14 [(1, 12), (2, 21), (3, 24)] (eMake cf 2 2 19 (aCons (eLst (aCons (eTup (aCons (eLit (.int 0)) (aCons (eLit (.int 2)) aNil))) aNil)) aNil)) (aCons (eVar 1) (aCons (eVar 2) aNil)))))) (sRet (eLit (.bl false))) sNil) (sRet (eAn (eNot (eMeth cf 3 14 [(1, 12), (2, 21), (3, 24)] (eMake cf 2 2 19 (aCons (eLst (aCons (eTup (aCons (eLit (.int 0)) (aCons (eLit (.int 1)) aNil))) (aCons (eTup (aCons (eLit (.int 1)) (aCons (eLit (.int 2)) aNil))) aNil))) aNil)) (aCons (eVar 1) (aCons (eVar 2) aNil)))) (eNot (eMeth cf 3 14 [(1, 12), (2, 21), (3, 24)] (eMake cf 2 2 19 (aCons (eLst (aCons (eTup (aCons (eLit (.int 0)) (aCons (eLit (.int 2)) aNil))) (aCons (eTup (aCons (eLit (.int 0)) (aCons (eLit (.int 2)) aNil))) aNil))) aNil)) (aCons (eVar 1) (aCons (eVar 2) aNil)))))))) := by
  intro cdv A outer s H E n0 hr tk
  have T := dvT tk rfl ih hr rfl
  have nd := sc38.nd
  exact (ss_cons (ss_par (ps_par (i := 1) (j := 2) rfl nd rfl rfl (by decide) rfl rfl (sa_cons (se_make T (m_mk_Column C) rfl (m_c_Column C) (sa_cons (se_lst (sa_cons (se_bin op_catR ok_cat (se_lit pe_int fun _ _ => rfl) (se_var (pv 0))) (sa_cons (se_lit pe_int fun _ _ => rfl) (sa_cons (se_lit pe_int fun _ _ => rfl) sa_nil)))) sa_nil)) (sa_cons (se_make T (m_mk_Column C) rfl (m_c_Column C) (sa_cons (se_lst (sa_cons (se_bin op_catR ok_cat (se_lit pe_int fun _ _ => rfl) (se_var (pv 0))) (sa_cons (se_lit pe_int fun _ _ => rfl) (sa_cons (se_lit pe_int fun _ _ => rfl) sa_nil)))) sa_nil)) sa_nil)) (by rfl)))
 (ss_cons (ss_if (PW.pt (sw_or (st_neQ T (m_eqt C) (sx_call T rfl (m_f_fewest_transfers C) (m_k_fewest_transfers C) (sa_cons (se_var (pv 1)) (sa_cons (se_var (pv 2)) sa_nil))) (se_lit pe_int fun _ _ => rfl) (nomark _)) (sw_one (st_no (st_tru rfl (se_meth (m := 14) T (inj 14 (by decide)) (m_met_shows C) (se_make T (m_mk_Evener C) rfl (m_c_Evener C) (sa_cons (se_lst (sa_cons (se_tup (sa_cons (se_lit pe_int fun _ _ => rfl) (sa_cons (se_lit pe_int fun _ _ => rfl) sa_nil))) sa_nil)) sa_nil)) (sa_cons (se_var (pv 1)) (sa_cons (se_var (pv 2)) sa_nil)))))))) (ss_one (ss_ret (se_lit pe_bl fun _ _ => rfl))) ss_nil)
 (ss_one (ss_ret (se_and rfl (se_not rfl (se_meth (m := 14) T (inj 14 (by decide)) (m_met_shows C) (se_make T (m_mk_Evener C) rfl (m_c_Evener C) (sa_cons (se_lst (sa_cons (se_tup (sa_cons (se_lit pe_int fun _ _ => rfl) (sa_cons (se_lit pe_int fun _ _ => rfl) sa_nil))) (sa_cons (se_tup (sa_cons (se_lit pe_int fun _ _ => rfl) (sa_cons (se_lit pe_int fun _ _ => rfl) sa_nil))) sa_nil))) sa_nil)) (sa_cons (se_var (pv 1)) (sa_cons (se_var (pv 2)) sa_nil)))) (se_one (se_not rfl (se_meth (m := 14) T (inj 14 (by decide)) (m_met_shows C) (se_make T (m_mk_Evener C) rfl (m_c_Evener C) (sa_cons (se_lst (sa_cons (se_tup (sa_cons (se_lit pe_int fun _ _ => rfl) (sa_cons (se_lit pe_int fun _ _ => rfl) sa_nil))) (sa_cons (se_tup (sa_cons (se_lit pe_int fun _ _ => rfl) (sa_cons (se_lit pe_int fun _ _ => rfl) sa_nil))) sa_nil))) sa_nil)) (sa_cons (se_var (pv 1)) (sa_cons (se_var (pv 2)) sa_nil))))))))))
theorem ok38 {n : Nat} (C : Ctx K base mg) (ih : All P w K mg base (GG K) TT n) : OkF P w K mg base n 38 := by
  obtain ⟨fd, F⟩ := C.says.def_ 38 (d := d38) rfl
  exact def_ok (b := b38) rfl F sc38 rfl rfl (FunD_binds F fun _ _ _ _ _ _ us hl => match us, hl with | [_], _ => rfl) (dv38 C ih)
abbrev N39 : List Str := ["_law_first"]
theorem sc39 : FnScope N39 ["_law_first"] (defScope (top 44)) := mkSc (by decide +kernel)
theorem dv39 {n : Nat} {cf : CF} (C : Ctx K base mg) (ih : Ih P w K mg base (GG K) (n + 1) cf) (hN : ∀ np, FnR P w K mg base (L2N.CX P w) (4 * (n + 1)) ((GG K).fa 31) (spF (GG K) cf 31 np)) : Dv P w K mg base (GG K) N39 "_law_totals_right" (top 44) ((GG K).fa 39) (n + 1) fun n0 => (sTryE (eMake cf 4 4 31 (nxA (aCons (eLit (.int 3)) (aCons (eTup (aCons (eLit (.int 0)) (aCons (eLit (.int 1)) aNil))) (aCons (eTup (aCons (eBin oCat (eLit (.int 10)) (eVar 0)) (aCons (eLit (.int 0)) aNil))) aNil))))) (sRet (eLit (.bl false))) (fun k => decide (k = 9)) (sRet (eBin oEqQ (eFld [4] 12 (eMake (callF TH 3) 4 4 31 (aCons (eLit (.int 3)) (aCons (eTup (aCons (eLit (.int 0)) (aCons (eLit (.int 1)) aNil))) (aCons (eTup (aCons (eLit (.int 9)) (aCons (eLit (.int 18)) aNil))) aNil))))) (eTup (aCons (eLit (.int 9)) (aCons (eLit (.int 18)) aNil)))))) := by
  intro cdv A outer s H E n0 hr tk
  have T := dvT tk rfl ih hr rfl
  have nd := sc39.nd
  have hQ : ∀ f np, f ∈ [31] → FnQ P w K mg base (GG K) 6 (callF TH 3) f np := fun f np hf => by
    rcases List.mem_cons.mp hf with rfl | hf
    · exact okQ31 C 0 np
    cases hf
  exact (ss_one (ss_tryN rfl rfl rfl ⟨rfl, by rfl, .inl (m_c_BadHistogram C)⟩ (exc_mt (m_x_BadHistogram C)) (fun pn xe W tk => se_makeN (E := fun σ => WE W σ) (T.trX pn xe) (hN 4) (L2N.passAt tk) (m_mk_Histogram C) rfl (m_c_Histogram C) (sa_cons (se_lit pe_int fun _ _ => rfl) (sa_cons (se_tup (sa_cons (se_lit pe_int fun _ _ => rfl) (sa_cons (se_lit pe_int fun _ _ => rfl) sa_nil))) (sa_cons (se_tup (sa_cons (se_bin op_catR ok_cat (se_lit pe_int fun _ _ => rfl) (se_var (pv 0))) (sa_cons (se_lit pe_int fun _ _ => rfl) sa_nil))) sa_nil)))) (fun _ _ => (ss_one (ss_ret (se_lit pe_bl fun _ _ => rfl)))) (fun _ _ _ hot => ss_one (ss_ret (se_eqQQ (tbQ_suite (k := 6) (hs := [31]) rfl (hr.mono (by omega)) hot hQ) (se_fld (f := 12) rfl (inj 12 (by decide)) (m_fld_totals C) (se_makeQ (tbQ_suite (k := 6) (hs := [31]) rfl (hr.mono (by omega)) hot hQ) (by decide) (m_mk_Histogram C) rfl (m_c_Histogram C) (sa_cons (se_lit pe_int fun _ _ => rfl) (sa_cons (se_tup (sa_cons (se_lit pe_int fun _ _ => rfl) (sa_cons (se_lit pe_int fun _ _ => rfl) sa_nil))) (sa_cons (se_tup (sa_cons (se_lit pe_int fun _ _ => rfl) (sa_cons (se_lit pe_int fun _ _ => rfl) sa_nil))) sa_nil))))) (se_tup (sa_cons (se_lit pe_int fun _ _ => rfl) (sa_cons (se_lit pe_int fun _ _ => rfl) sa_nil))) (nomark _))))))
theorem ok39 {n : Nat} (C : Ctx K base mg) (ih : All P w K mg base (GG K) TT n) (hN : ∀ np, FnR P w K mg base (L2N.CX P w) (4 * n) ((GG K).fa 31) (spF (GG K) (callF TT n) 31 np)) : OkF P w K mg base n 39 := by
  obtain ⟨fd, F⟩ := C.says.def_ 39 (d := d39) rfl
  cases n with
  | zero => exact def_ok (b := b39) rfl F sc39 rfl rfl (FunD_binds F fun _ _ _ _ _ _ us hl => match us, hl with | [_], _ => rfl) fun _ _ _ _ _ _ _ _ _ => ss_one (ss_nev fun env S => tryE_0 env S)
  | succ n => exact def_ok (b := b39) rfl F sc39 rfl rfl (FunD_binds F fun _ _ _ _ _ _ us hl => match us, hl with | [_], _ => rfl) (dv39 C ih hN)
abbrev N40 : List Str := ["_law_script", "_law_draw", "_law_one"]
theorem sc40 : FnScope N40 ["_law_script"] (defScope (top 45)) := mkSc (by decide +kernel)
theorem dv40 {n : Nat} {cf : CF} (C : Ctx K base mg) (ih : Ih P w K mg base (GG K) n cf) : Dv P w K mg base (GG K) N40 "law" (top 45) ((GG K).fa 40) n fun n0 => (sCons (sAsg (gNm 1) (eArg bInt (aCons (eArg bSum (aCons (eLc (iSeqH (eSl (eVar 0) pNo (pSo (eLit (.int 9))))) (gNm 2) [2] tYesP (eArg bAbs (aCons (eVar 2) aNil))) aNil)) aNil))) (sRet (eAn (eCall cf 1 37 (aCons (eBin oCat (eLit (.int 1)) (eBin oMod (eVar 1) (eLit (.int 5)))) aNil)) (eAn (eCall cf 1 38 (aCons (eBin oMod (eVar 1) (eLit (.int 4))) aNil)) (eCall cf 1 39 (aCons (eBin oMod (eVar 1) (eLit (.int 9))) aNil)))))) := by
  intro cdv A outer s H E n0 hr tk
  have T := dvT tk rfl ih hr rfl
  have nd := sc40.nd
  exact (ss_cons (ss_asg (ps_asg (toV (se_argB (pe_callTy call_int1 rfl (m_b_int C) (by rfl) (sa_cons (se_argB (pe_callB (cr_sumA rfl) rfl (m_b_sum C) (by rfl) (sa_cons (se_lc (own := [("_law_one", 2)]) rfl nd (si_seqH rfl (se_sl rfl (se_var (pv 0)) so_none (so_some (se_lit pe_int fun _ _ => rfl)))) (blk_ok (own := [("_law_one", 2)]) (by kernel_rfl)) (tb_nm 2 (by decide)) (fun _ _ _ _ _ => (pg_name (i := 2) nd rfl (by first | exact Or.inl rfl | exact Or.inr rfl))) (fun _ _ _ _ _ => sts_nil) (fun _ _ _ _ _ => (se_argB (pe_callB call_abs rfl (m_b_abs C) (by rfl) (sa_cons (se_var (pv 2)) sa_nil)) ok_abs))) sa_nil)) ok_sum) sa_nil)) ok_int)) (pg_name (i := 1) nd rfl (by first | exact Or.inl rfl | exact Or.inr rfl))) (tg_nm 1))
 (ss_one (ss_ret (se_and rfl (sx_call T rfl (m_f__law_counters_right C) (m_k__law_counters_right C) (sa_cons (se_bin op_catR ok_cat (se_lit pe_int fun _ _ => rfl) (se_bin op_mod ok_mod (se_var (pv 1)) (se_lit pe_int fun _ _ => rfl))) sa_nil)) (se_and rfl (sx_call T rfl (m_f__law_transfers_right C) (m_k__law_transfers_right C) (sa_cons (se_bin op_mod ok_mod (se_var (pv 1)) (se_lit pe_int fun _ _ => rfl)) sa_nil)) (se_one (sx_call T rfl (m_f__law_totals_right C) (m_k__law_totals_right C) (sa_cons (se_bin op_mod ok_mod (se_var (pv 1)) (se_lit pe_int fun _ _ => rfl)) sa_nil))))))))
theorem ok40 {n : Nat} (C : Ctx K base mg) (ih : All P w K mg base (GG K) TT n) : OkF P w K mg base n 40 := by
  obtain ⟨fd, F⟩ := C.says.def_ 40 (d := d40) rfl
  exact def_ok (b := b40) rfl F sc40 rfl rfl (FunD_binds F fun _ _ _ _ _ _ us hl => match us, hl with | [_], _ => rfl) (dv40 C ih)
theorem all_okQ (C : Ctx K base mg) (n : Nat) : All P w K mg base (GG K) TT n ∧ ∀ np, FnR P w K mg base (L2N.CX P w) (4 * n) ((GG K).fa 31) (spF (GG K) (callF TT n) 31 np) := by
  induction n with
  | zero => exact ⟨all_zero, zero_N⟩
  | succ n ihn =>
    obtain ⟨ih, hN⟩ := ihn
    refine ⟨?_, okN31 C n ih⟩
    intro f np
    match f with
    | 0 => exact ok0 C ih np
    | 1 => exact ok1 C ih np
    | 2 => exact ok2 C ih np
    | 3 => exact ok3 C ih np
    | 4 => exact ok4 C ih np
    | 5 => exact ok5 C ih np
    | 6 => exact ok6 C ih np
    | 7 => exact ok7 C ih np
    | 8 => exact ok8 C ih np
    | 9 => exact ok9 C ih np
    | 10 => exact ok10 C ih np
    | 11 => exact ok11 C ih np
    | 12 => exact ok12 C ih np
    | 13 => exact ok13 C ih np
    | 14 => exact ok14 C ih np
    | 15 => exact ok15 C ih np
    | 16 => exact ok16 C ih np
    | 17 => exact ok17 C ih np
    | 18 => exact ok18 C ih np
    | 19 => exact ok19 C ih np
    | 20 => exact ok20 C ih np
    | 21 => exact ok21 C ih np
    | 22 => exact ok22 C ih np
    | 23 => exact ok23 C ih np
    | 24 => exact ok24 C ih np
    | 25 => exact ok25 C ih np
    | 26 => exact ok26 C ih np
    | 27 => exact ok27 C ih np
    | 28 => exact ok28 C ih np
    | 29 => exact ok29 C ih np
    | 30 => exact ok30 C ih np
    | 31 => exact ok31 C ih np
    | 32 => exact ok32 C ih np
    | 33 => exact ok33 C ih np
    | 34 => exact ok34 C ih np
    | 35 => exact ok35 C ih np
    | 36 => exact ok36 C ih np
    | 37 => exact ok37 C ih np
    | 38 => exact ok38 C ih np
    | 39 => exact ok39 C ih hN np
    | 40 => exact ok40 C ih np
    | k + 41 => exact fun A outer s H us vs Q E hr he hv hs => (spF_none (by rfl) hs).elim
theorem all_ok (C : Ctx K base mg) (n : Nat) : All P w K mg base (GG K) TT n := (all_okQ C n).1
theorem lawOk {n : Nat} {fd : FuncData} (C : Ctx K base mg) (F : FunD K d40.name d40.qual d40.params d40.body d40.scope [] [] ((GG K).fa 40) fd) : FnOk P w K mg base L2.CX0 (4 * (n + 1)) ((GG K).fa 40) fd ["_law_script"] (spF0 (GG K) (callF TT (n + 1)) 40 1) :=
  to0 (def_fn (b := b40) rfl F sc40 rfl rfl (dv40 C (all_ok C n)))
end
end PX.K69
set_option Elab.async false
set_option linter.all false
set_option maxRecDepth 100000
set_option maxHeartbeats 1000000
namespace PX
open PySem
section
variable (env : Env) (S : Store)
@[simp] theorem q_lit (v : PV) : eLit v env S = .ok (false, v) S := (rfl)
theorem q_var (i : Nat) : eVar i env S = match env[i]? with
  | some (some v) => .ok (false, v) S
  | _ => .no := (rfl)
@[simp] theorem q_un (o : Op1) (a : SE) : eUn o a env S = (a env S).bind fun p S1 => ofO (o p.2 S1) S1 := (rfl)
@[simp] theorem q_bin (o : Op2) (a b : SE) : eBin o a b env S = (a env S).bind fun p S1 => (b env S1).bind fun q S2 => ofO (o p.2 q.2 S2) S2 := (rfl)
@[simp] theorem q_nil : aNil env S = .ok [] S := (rfl)
@[simp] theorem q_cons (a : SE) (r : SA) : aCons a r env S = (a env S).bind fun p S1 => (r env S1).bind fun q S2 => .ok (p.2 :: q) S2 := (rfl)
@[simp] theorem q_arg (o : OpN) (a : SA) : eArg o a env S = (a env S).bind fun p S1 => ofO (o p S1) S1 := (rfl)
@[simp] theorem q_tup (a : SA) : eTup a env S = (a env S).bind fun p S1 => if small p.length then .ok (false, .tup p) S1 else .no := (rfl)
@[simp] theorem q_lst (a : SA) : eLst a env S = (a env S).bind fun p S1 => if small p.length then .ok (true, .lst p) S1 else .no := (rfl)
@[simp] theorem q_tru (a : SE) : tTru a env S = (a env S).bind fun p S1 => match truth S1 p.2 with
  | some b => .ok b S1
  | none => .no := (rfl)
@[simp] theorem q_tbl (a : SE) : tBl a env S = (a env S).bind fun p S1 => match p.2 with
  | .bl b => .ok b S1
  | _ => .no := (rfl)
@[simp] theorem q_tno (a : ST) : tNo a env S = (a env S).bind fun b S1 => .ok (!b) S1 := (rfl)
@[simp] theorem q_tan (a b : ST) : tAn a b env S = (a env S).bind fun c S1 => if c = true then b env S1 else .ok false S1 := (rfl)
@[simp] theorem q_tor (a b : ST) : tOr a b env S = (a env S).bind fun c S1 => if c = true then .ok true S1 else b env S1 := (rfl)
@[simp] theorem q_ean (a b : SE) : eAn a b env S = (a env S).bind fun p S1 => match truth S1 p.2 with
  | some true => b env S1
  | some false => .ok (false, p.2) S1
  | none => .no := (rfl)
@[simp] theorem q_eor (a b : SE) : eOr a b env S = (a env S).bind fun p S1 => match truth S1 p.2 with
  | some true => .ok (false, p.2) S1
  | some false => b env S1
  | none => .no := (rfl)
@[simp] theorem q_not (a : SE) : eNot a env S = (a env S).bind fun p S1 => match truth S1 p.2 with
  | some b => .ok (false, .bl (!b)) S1
  | none => .no := (rfl)
@[simp] theorem q_if (c : ST) (a b : SE) : eIf c a b env S = (c env S).bind fun t S1 => if t = true then a env S1 else b env S1 := (rfl)
@[simp] theorem q_ch (o o' : Op2) (a b c : SE) : eCh o o' a b c env S = (a env S).bind fun p S1 => (b env S1).bind fun q S2 => match o p.2 q.2 S2 with
  | some (false, .bl true) => (c env S2).bind fun z S3 => ofO (o' q.2 z.2 S3) S3
  | some (false, .bl false) => .ok (false, .bl false) S2
  | _ => .no := (rfl)
@[simp] theorem q_new (a : SE) : eNew a env S = (a env S).bind fun p S1 => match p.1 with
  | true => .ok (false, .ref S1.length) (S1 ++ [p.2])
  | false => .ok p S1 := (rfl)
@[simp] theorem q_scons (a b : SS) : sCons a b env S = (a env S).then b := (rfl)
@[simp] theorem q_snil : sNil env S = .nx env S := (rfl)
@[simp] theorem q_sexp (a : SE) : sExp a env S = (a env S).go fun _ S1 => .nx env S1 := (rfl)
@[simp] theorem q_sret (a : SE) : sRet a env S = (a env S).go fun p S1 => .rt p.2 S1 := (rfl)
@[simp] theorem q_sif (c : ST) (a b : SS) : sIf c a b env S = (c env S).go fun t S1 => if t = true then a env S1 else b env S1 := (rfl)
@[simp] theorem q_sasg (t : Tg) (a : SE) : sAsg t a env S = (a env S).go fun p S1 => match t p.2 env S1 with
  | some env' => .nx env' S1
  | none => .no := (rfl)
@[simp] theorem q_gnm (i : Nat) (v : PV) : gNm i v env S = some (env.set i (some v)) := (rfl)
@[simp] theorem q_spar (is : List Nat) (a : SA) : sPar is a env S = (a env S).go fun vs S1 => match gTps (is.map gNm) vs env S1 with
  | some env' => .nx env' S1
  | none => .no := (rfl)
@[simp] theorem q_len (cf : CF) (tb : List (Nat × Nat)) (a : SE) : eLen cf tb a env S = (a env S).bind fun p S1 => match ownOf tb S1 p.2 with
  | some f => (callV cf f [p.2] S1).bind lenI
  | none => ofO (bLen [p.2] S1) S1 := (rfl)
@[simp] theorem q_eq (cf : CF) (tb : List (Nat × Nat)) (tys : List TyN) (a b : SE) : eEq cf tb tys a b env S = (a env S).bind fun p S1 => (b env S1).bind fun q S2 => match ownOf tb S2 p.2 with
  | some f => if okTy tys S2 q.2 then callV cf f [p.2, q.2] S2 else .no
  | none => ofO (oEq p.2 q.2 S2) S2 := (rfl)
@[simp] theorem q_ne (cf : CF) (tb : List (Nat × Nat)) (tys : List TyN) (a b : SE) : eNe cf tb tys a b env S = (a env S).bind fun p S1 => (b env S1).bind fun q S2 => match ownOf tb S2 p.2 with
  | some f => if okTy tys S2 q.2 then (callV cf f [p.2, q.2] S2).bind notI else .no
  | none => ofO (oNe p.2 q.2 S2) S2 := (rfl)
@[simp] theorem q_ix (cf : CF) (tb : List (Nat × Nat)) (a b : SE) : eIx cf tb a b env S = (a env S).bind fun p S1 => (b env S1).bind fun q S2 => match ownOf tb S2 p.2 with
  | some f => callV cf f [p.2, q.2] S2
  | none => match dIx p.2 q.2 S2 with
    | some z => .ok z S2
    | none => ofO (oIx p.2 q.2 S2) S2 := (rfl)
@[simp] theorem q_call (cf : CF) (np f : Nat) (a : SA) : eCall cf np f a env S = (a env S).bind fun args S1 => if args.length = np then callV cf f args S1 else .no := (rfl)
@[simp] theorem q_sl (a : SE) (lo hi : SO) : eSl a lo hi env S = (a env S).bind fun p S1 => (lo env S1).bind fun l S2 => (hi env S2).bind fun u S3 => ofO (slP l u p.2 S3) S3 := (rfl)
@[simp] theorem q_pno : pNo env S = .ok none S := (rfl)
@[simp] theorem q_pso (a : SE) : pSo a env S = (a env S).bind fun p S1 => match p.2 with
  | .int i => .ok (some i) S1
  | _ => .no := (rfl)
@[simp] theorem q_rev (a : SE) : eRev a env S = (a env S).bind fun p S1 => match lstOf S1 p.2 with
  | some xs => .ok (true, .lst xs.reverse) S1
  | none => .no := (rfl)
@[simp] theorem q_fld (cs : List Nat) (f : Nat) (a : SE) : eFld cs f a env S = (a env S).bind fun p S1 => ofO ((fldOf cs f S1 p.2).map fun w => (false, w)) S1 := (rfl)
@[simp] theorem q_isi (tb : List (TyN × Bool)) (a : SE) : eIsi tb a env S = (a env S).bind fun p S1 => ofO (match tyN S1 p.2 with
  | some t => (tb.lookup t).map fun b => (false, .bl b)
  | none => none) S1 := (rfl)
end
@[simp] theorem q_ofO_some (z : Bool × PV) (S : Store) : ofO (some z) S = .ok z S := (rfl)
@[simp] theorem q_ofO_none (S : Store) : ofO none S = .no := (rfl)
@[simp] theorem d_int (S : Store) (i : Int) : deref S (.int i) = some (.int i) := (rfl)
@[simp] theorem d_bl (S : Store) (i : Bool) : deref S (.bl i) = some (.bl i) := (rfl)
@[simp] theorem d_lst (S : Store) (xs : List PV) : deref S (.lst xs) = some (.lst xs) := (rfl)
@[simp] theorem d_tup (S : Store) (xs : List PV) : deref S (.tup xs) = some (.tup xs) := (rfl)
@[simp] theorem d_ins (S : Store) (c : Nat) (ns : List Nat) (xs : List PV) : deref S (.ins c ns xs) = some (.ins c ns xs) := (rfl)
@[simp] theorem d_dct (S : Store) (ks : DKs) (xs : List PV) : deref S (.dct ks xs) = some (.dct ks xs) := (rfl)
@[simp] theorem d_ref (S : Store) (i : Nat) : deref S (.ref i) = match S[i]? with
  | some o => unlD o
  | none => none := rfl
def fin : RS → R PV
  | .rt v S => .ok v S
  | .nx _ S => .ok .non S
  | .ex c p S => .ex c p S
  | _ => .no
@[simp] theorem fin_rt (v : PV) (S : Store) : fin (.rt v S) = .ok v S := (rfl)
@[simp] theorem fin_nx (e : Env) (S : Store) : fin (.nx e S) = .ok .non S := (rfl)
@[simp] theorem fin_no : fin .no = .no := (rfl)
theorem call_succ {T : Nat → Option FnB} {n f : Nat} {b : FnB} {args : List PV} {n0 : Nat} {S : Store} (h : T f = some b) (hl : args.length = b.np) : callF T (n + 1) f args n0 S = fin (b.body (callF T n) n0 (args.map some ++ List.replicate (b.nl - b.np) none) S) := by
  show (match T f with
    | some b => runB b (callF T n) args n0 S
    | none => R.no) = _
  rw [h]
  show runB b (callF T n) args n0 S = _
  unfold runB
  rw [if_pos hl]
  cases b.body (callF T n) n0 (args.map some ++ List.replicate (b.nl - b.np) none) S <;> rfl
end PX
namespace PX
open PySem
theorem intsOf_map (ns : List Int) : intsOf (ns.map .int) = some ns := by
  induction ns with
  | nil => rfl
  | cons c cs ih =>
    show (intsOf (cs.map .int)).map (c :: ·) = _
    rw [ih]
    rfl
theorem cat_int (i j : Int) (S : Store) : oCat (.int i) (.int j) S = some (false, .int (i + j)) := (rfl)
theorem mod_int (i j : Int) (S : Store) (h : 0 < j) : oMod (.int i) (.int j) S = some (false, .int (i % j)) := by
  show (if 0 < j then some (false, PV.int (i % j)) else none) = _
  rw [if_pos h]
theorem bInt_int (i : Int) (S : Store) : bInt [.int i] S = some (false, .int i) := (rfl)
theorem bSum_lst (ns : List Int) (S : Store) : bSum [.lst (ns.map .int)] S = some (false, .int ns.sum) := by
  show (intsOf (ns.map .int)).map _ = _
  rw [intsOf_map]
  rfl
end PX
namespace PX
open PySem
section
variable (env : Env) (S : Store)
@[simp] theorem q_sfor (i : SI) (t : Tg) (b : SS) : sFor i t b env S = (i env S).go fun p S1 => (forR t b p.1 env S1).unl p.2 := (rfl)
@[simp] theorem q_rg1 (a : SE) : iRg1 a env S = (a env S).bind fun p S1 => match p.2 with
  | .int j => if okRg j then .ok (rngL 0 j.toNat, []) S1 else .no
  | _ => .no := (rfl)
@[simp] theorem q_lm (f : PV → PV → Store → Option Store) (o a : SE) : eLm f o a env S = (o env S).bind fun p S1 => if isL S1 p.2 then (a env S1).bind fun q S2 => match f p.2 q.2 S2 with
    | some S3 => .ok (false, .non) S3
    | none => .no
  else .no := (rfl)
@[simp] theorem q_forN (t : Tg) (b : SS) : forR t b [] env S = .nx env S := (rfl)
@[simp] theorem q_unl0 (z : RS) : z.unl [] = z := by cases z <;> rfl
end
end PX
namespace PX
open PySem
theorem compR_map {α : Type} {t : Tg} {c : ST} {e : SE} {env : Env} {S : Store} (g f : α → PV) (p : α → Bool) (en : α → Env) : ∀ (l : List α), (∀ x ∈ l, t (g x) env S = some (en x)) → (∀ x ∈ l, c (en x) S = .ok (p x) S) → (∀ x ∈ l, p x = true → ∃ b, e (en x) S = .ok (b, f x) S) →
    ∀ acc : List PV, acc.length + l.length ≤ 100000 → compR t c e (l.map g) env acc S = .ok (acc ++ (l.filter p).map f) S
  | [], _, _, _, acc, _ => by simp [compR]
  | x :: l, ht, hc, he, acc, hl => by
    have ih := compR_map g f p en l (fun y hy => ht y (List.mem_cons_of_mem _ hy)) (fun y hy => hc y (List.mem_cons_of_mem _ hy)) (fun y hy => he y (List.mem_cons_of_mem _ hy))
    simp only [List.length_cons] at hl
    show (match t (g x) env S with
      | none => R.no
      | some env' => (c env' S).bind fun b S1 => if b = true then (e env' S1).bind fun q S2 => if small acc.length then compR t c e (l.map g) env (acc ++ [q.2]) S2 else .no
        else compR t c e (l.map g) env acc S1) = _
    rw [ht x List.mem_cons_self]
    simp only [hc x List.mem_cons_self, R.bind_ok]
    cases hp : p x with
    | false =>
      rw [if_neg (by simp), ih acc (by omega), List.filter_cons_of_neg (by simp [hp])]
    | true =>
      obtain ⟨b, hb⟩ := he x List.mem_cons_self hp
      have hs : small acc.length = true := by
        unfold small
        exact Nat.ble_eq_true_of_le (by omega)
      rw [if_pos rfl, hb]
      simp only [R.bind_ok, hs, if_true]
      rw [ih (acc ++ [f x]) (by simp; omega), List.filter_cons_of_pos hp]
      simp
@[simp] theorem q_lc (i : SI) (t : Tg) (vs : List Nat) (c : ST) (e : SE) (env : Env) (S : Store) : eLc i t vs c e env S = (i env S).bind fun p S1 => (compR t c e p.1 (wipeE env vs) [] S1).bind fun acc S2 => .ok (true, .lst acc) (unlock p.2 S2) := (rfl)
@[simp] theorem q_seq (a : SE) (env : Env) (S : Store) : iSeq a env S = (a env S).bind fun p S1 => match lockS p.2 S1 with
  | some z => .ok (z.1, z.2.1) z.2.2
  | none => .no := (rfl)
def sq (b : Bool) (ns : List Int) : PV := bif b then .tup (ns.map .int) else .lst (ns.map .int)
end PX
namespace PX
open PySem
theorem cutP_map (ns : List Int) (lo hi : Option Int) : cutP (ns.map .int) lo hi = ((ns.drop (sIxP ns.length 0 lo)).take (sIxP ns.length ns.length hi - sIxP ns.length 0 lo)).map .int := by
  unfold cutP
  rw [List.length_map, List.map_take, List.map_drop]
end PX
namespace PX
open PySem
@[simp] theorem q_enu (a : SE) (env : Env) (S : Store) : iEnu a env S = (a env S).bind fun p S1 => match lockS p.2 S1 with
  | some z => .ok (enumL 0 z.1, z.2.1) z.2.2
  | none => .no := (rfl)
@[simp] theorem q_zip (a b : SE) (env : Env) (S : Store) : iZip a b env S = (a env S).bind fun p S1 => (b env S1).bind fun q S2 => match lockS p.2 S2 with
  | some z => match lockS q.2 z.2.2 with
    | some y => .ok (zipL z.1 y.1, y.2.1 ++ z.2.1) y.2.2
    | none => .no
  | none => .no := (rfl)
theorem lc_val {α : Type} {i : SI} {t : Tg} {vs : List Nat} {c : ST} {e : SE} {env : Env} {S : Store} (l : List α) (g f : α → PV) (p : α → Bool) (en : α → Env) (hi : i env S = .ok (l.map g, []) S) (hl : l.length ≤ 100000)
    (ht : ∀ x ∈ l, t (g x) (wipeE env vs) S = some (en x)) (hc : ∀ x ∈ l, c (en x) S = .ok (p x) S) (he : ∀ x ∈ l, p x = true → ∃ b, e (en x) S = .ok (b, f x) S) : eLc i t vs c e env S = .ok (true, .lst ((l.filter p).map f)) S := by
  rw [q_lc, hi, R.bind_ok]
  simp only [compR_map g f p en l ht hc he [] (by rw [List.length_nil]; omega), R.bind_ok, List.nil_append]
  rfl
end PX
set_option linter.all false
namespace K22M
def mx : List Int → Int
  | [] => 0
  | x :: xs => xs.foldl max x
def mn : List Int → Int
  | [] => 0
  | x :: xs => xs.foldl min x
def sp (l : List Int) : Int := mx l - mn l
def isC (c : List Nat) (n : Nat) : Prop := c.head? = some 0 ∧ (∀ x ∈ c, x < n) ∧ c.Pairwise (· < ·)
instance (c : List Nat) (n : Nat) : Decidable (isC c n) := by unfold isC; infer_instance
end K22M
set_option Elab.async false
set_option linter.all false
set_option maxRecDepth 100000
set_option maxHeartbeats 1000000
namespace PX
open PySem
def iN (l : List Nat) : List Int := l.map fun (k : Nat) => (k : Int)
@[simp] theorem iN_len (l : List Nat) : (iN l).length = l.length := List.length_map _
theorem seq_valL (a : SE) (env : Env) (S : Store) (b : Bool) (xs : List PV) (ha : a env S = .ok (b, .lst xs) S) : iSeq a env S = .ok (xs, []) S := by
  rw [q_seq, ha, R.bind_ok]
  rfl
theorem call1 {cf : CF} {f : Nat} {a : SE} {env : Env} {S : Store} {b : Bool} {v w : PV} (ha : a env S = .ok (b, v) S) (h : callV cf f [v] S = .ok (false, w) S) : eCall cf 1 f (aCons a aNil) env S = .ok (false, w) S := by
  rw [q_call, q_cons, ha, R.bind_ok, q_nil, R.bind_ok, R.bind_ok, if_pos (by rfl), h]
theorem bin_val {o : Op2} {a b : SE} {env : Env} {S : Store} {k k' : Bool} {v w : PV} {z : Bool × PV} (ha : a env S = .ok (k, v) S) (hb : b env S = .ok (k', w) S) (h : o v w S = some z) : eBin o a b env S = .ok z S := by
  rw [q_bin, ha, R.bind_ok, hb, R.bind_ok, h]
  rfl
theorem sl_val {a : SE} {lo hi : SO} {env : Env} {S : Store} {k : Bool} {v : PV} {l u : Option Int} {z : Bool × PV} (ha : a env S = .ok (k, v) S) (h1 : lo env S = .ok l S) (h2 : hi env S = .ok u S) (h : slP l u v S = some z) : eSl a lo hi env S = .ok z S := by
  rw [q_sl, ha, R.bind_ok, h1, R.bind_ok, h2, R.bind_ok, h]
  rfl
theorem arg1_val {o : OpN} {a : SE} {env : Env} {S : Store} {k : Bool} {v : PV} {z : Bool × PV} (ha : a env S = .ok (k, v) S) (h : o [v] S = some z) : eArg o (aCons a aNil) env S = .ok z S := by
  rw [q_arg, q_cons, ha, R.bind_ok, q_nil, R.bind_ok, R.bind_ok, h]
  rfl
theorem sret_val {a : SE} {env : Env} {S : Store} {k : Bool} {v : PV} (ha : a env S = .ok (k, v) S) : sRet a env S = .rt v S := by
  rw [q_sret, ha, R.go_ok]
theorem sasg_val {i : Nat} {a : SE} {env : Env} {S : Store} {k : Bool} {v : PV} (ha : a env S = .ok (k, v) S) : sAsg (gNm i) a env S = .nx (env.set i (some v)) S := by
  rw [q_sasg, ha, R.go_ok, q_gnm]
end PX
namespace PX
open PySem K22M
theorem lc_int {α : Type} {i : SI} {t : Tg} {vs : List Nat} {c : ST} {e : SE} {env : Env} {S : Store} (l : List α) (g : α → PV) (f : α → Int) (p : α → Bool) (en : α → Env) (hi : i env S = .ok (l.map g, []) S) (hl : l.length ≤ 100000)
    (ht : ∀ x ∈ l, t (g x) (wipeE env vs) S = some (en x)) (hc : ∀ x ∈ l, c (en x) S = .ok (p x) S) (he : ∀ x ∈ l, p x = true → ∃ b, e (en x) S = .ok (b, .int (f x)) S) : eLc i t vs c e env S = .ok (true, .lst (((l.filter p).map f).map .int)) S := by
  rw [lc_val l g (fun x => .int (f x)) p en hi hl ht hc he, List.map_map]
  rfl
end PX
namespace PX
open PySem
@[simp] theorem q_meth (cf : CF) (np m : Nat) (T : List (Nat × Nat)) (o : SE) (a : SA) (env : Env) (S : Store) : eMeth cf np m T o a env S = (o env S).bind fun p S0 => match methOf m T S0 p.2 with
  | some f => (a env S0).bind fun args S1 => if args.length + 1 = np then callV cf f (p.2 :: args) S1 else .no
  | none => .no := (rfl)
end PX
set_option Elab.async false
set_option linter.all false
set_option maxRecDepth 100000
set_option maxHeartbeats 1000000
namespace PX
open PySem
def isT : R PV → Bool
  | .ok (.bl true) _ => true
  | _ => false
theorem isT_ok : ∀ {z : R PV}, isT z = true → ∃ S', z = .ok (.bl true) S'
  | .ok (.bl true) S, _ => ⟨S, rfl⟩
theorem q_seqH (a : SE) : iSeqH a env S = (a env S).bind fun p S1 => match lockS p.2 S1 with
  | some z => .ok (z.1, z.2.1) z.2.2
  | none => match dctOf S1 p.2 with
    | some z => .ok (z.1.map kPV, []) S1
    | none => .no := (rfl)
theorem seqH_valL (a : SE) (env : Env) (S : Store) (b : Bool) (xs : List PV) (ha : a env S = .ok (b, .lst xs) S) : iSeqH a env S = .ok (xs, []) S := by
  rw [q_seqH, ha, R.bind_ok]
  rfl
theorem sum_abs (b : Bool) (ns : List Int) (h : ns.length ≤ 63) (w : Nat) (vs : List Nat) (lo hi : SO) (l u : Option Int) (a : SE) (env : Env) (S : Store) (kk : Bool) (ha : a env S = .ok (kk, .lst (ns.map .int)) S) (h1 : lo env S = .ok l S) (h2 : hi env S = .ok u S)
    (hw : ∀ x, ∃ en, gNm w x (wipeE env vs) S = some en ∧ en[w]? = some (some x)) (it : SE → SI) (hit : it = iSeq ∨ it = iSeqH) :
    ∃ m : Int, eArg bSum (aCons (eLc (it (eSl a lo hi)) (gNm w) vs tYesP (eArg bAbs (aCons (eVar w) aNil))) aNil) env S = .ok (false, .int m) S := by
  have e1 : eSl a lo hi env S = .ok (true, .lst (((ns.drop (sIxP ns.length 0 l)).take (sIxP ns.length ns.length u - sIxP ns.length 0 l)).map .int)) S := by
    refine sl_val ha h1 h2 ?_
    have e := cutP_map ns l u
    show some (true, PV.lst (cutP (ns.map .int) l u)) = _
    rw [e]
  generalize hc : (ns.drop (sIxP ns.length 0 l)).take (sIxP ns.length ns.length u - sIxP ns.length 0 l) = cs at e1
  have hl : cs.length ≤ 100000 := by
    rw [← hc, List.length_take, List.length_drop]
    omega
  have e2 : it (eSl a lo hi) env S = .ok (cs.map .int, []) S := by
    rcases hit with r | r <;> subst r
    · exact seq_valL _ _ _ _ _ e1
    · exact seqH_valL _ _ _ _ _ e1
  have hw' : ∀ x : Int, ∃ en, gNm w (.int x) (wipeE env vs) S = some en ∧ en[w]? = some (some (.int x)) := fun x => hw _
  have e3 := lc_int (c := tYesP) (e := eArg bAbs (aCons (eVar w) aNil)) cs PV.int (fun x => if x < 0 then -x else x) (fun _ => true) (fun x => (hw' x).choose) e2 hl (fun x _ => (hw' x).choose_spec.1) (fun _ _ => rfl) (fun x _ _ => ⟨false, by
    refine arg1_val (k := false) (v := .int x) ?_ rfl
    rw [q_var, (hw' x).choose_spec.2]⟩)
  exact ⟨_, arg1_val e3 (bSum_lst _ S)⟩
end PX
set_option Elab.async false
set_option linter.all false
set_option maxRecDepth 100000
set_option maxHeartbeats 1000000
namespace PX
open PySem K22M
theorem call_at {T : Nat → Option FnB} {n f : Nat} {b : FnB} {args : List PV} {n0 : Nat} {S : Store} (env : Env) (h : T f = some b) (hl : args.length = b.np) (he : args.map some ++ List.replicate (b.nl - b.np) none = env) : callF T (n + 1) f args n0 S = fin (b.body (callF T n) n0 env S) := by
  rw [call_succ h hl, he]
end PX
set_option Elab.async false
set_option linter.all false
set_option maxRecDepth 100000
set_option maxHeartbeats 2000000
namespace PX.K69
open PySem PX
theorem t37 : ∀ i < 5, isT (callF TT 44 37 [.int ((i + 1 : Nat) : Int)] 0 []) = true := by decide +kernel
theorem t38 : ∀ i < 4, isT (callF TT 44 38 [.int ((i : Nat) : Int)] 0 []) = true := by decide +kernel
theorem t39 : ∀ i < 9, isT (callF TT 44 39 [.int ((i : Nat) : Int)] 0 []) = true := by decide +kernel
theorem callV_T {cf : CF} {f : Nat} {v : PV} (h : isT (cf f [v] 0 []) = true) : callV cf f [v] [] = .ok (false, .bl true) [] := by
  obtain ⟨S', e⟩ := isT_ok h
  have e1 : callV cf f [v] [] = (cutX 0 (cf f [v] 0 [])).bind fun v S2 => norm 0 v S2 := rfl
  rw [e1, e]
  show norm 0 (.bl true) S' = _
  cases S' with
  | nil => rfl
  | cons a l => rfl
theorem law_eval (ns : List Int) (h : ns.length ≤ 63) : ∃ S', callF TT 45 40 [.lst (ns.map .int)] 0 [] = .ok (.bl true) S' := by
  refine ⟨[], ?_⟩
  rw [call_at (b := b40) [some (.lst (ns.map .int)), none, none] rfl rfl rfl]
  unfold b40
  dsimp only
  obtain ⟨m, em⟩ := sum_abs true ns h 2 [2] pNo (pSo (eLit (.int 9))) none (some 9) (eVar 0) [some (.lst (ns.map .int)), none, none] [] false rfl rfl rfl (fun x => ⟨_, rfl, rfl⟩) iSeqH (.inr rfl)
  rw [q_scons, sasg_val (arg1_val em (bInt_int m [])), RS.then_nx]
  rw [show ([some (.lst (ns.map .int)), none, none] : Env).set 1 (some (.int m)) = [some (.lst (ns.map .int)), some (.int m), none] from rfl]
  generalize hen : ([some (.lst (ns.map .int)), some (.int m), none] : Env) = en
  have hv : eVar 1 en [] = .ok (false, .int m) [] := by subst hen; rfl
  have hm : ∀ j : Int, 0 < j → eBin oMod (eVar 1) (eLit (.int j)) en [] = .ok (false, .int (m % j)) [] := fun j hj => bin_val hv rfl (mod_int m j [] hj)
  have nat : ∀ j : Int, 0 < j → ∃ i : Nat, m % j = (i : Int) ∧ (i : Int) < j := fun j hj => ⟨(m % j).toNat, by have := Int.emod_nonneg m (show j ≠ 0 by omega); omega, by have := Int.emod_nonneg m (show j ≠ 0 by omega); have := Int.emod_lt_of_pos m hj; omega⟩
  obtain ⟨a, ea, ha⟩ := nat 5 (by decide)
  obtain ⟨b, eb, hb⟩ := nat 4 (by decide)
  obtain ⟨c, ec, hc⟩ := nat 9 (by decide)
  have c1 : eCall (callF TT 44) 1 37 (aCons (eBin oCat (eLit (.int 1)) (eBin oMod (eVar 1) (eLit (.int 5)))) aNil) en [] = .ok (false, .bl true) [] := by
    refine call1 (v := .int ((a + 1 : Nat) : Int)) (b := false) ?_ (callV_T (t37 a (by omega)))
    refine bin_val (k := false) (v := .int 1) (w := .int (m % 5)) rfl (hm 5 (by decide)) ?_
    rw [cat_int, show (1 : Int) + m % 5 = ((a + 1 : Nat) : Int) by omega]
  have c2 : eCall (callF TT 44) 1 38 (aCons (eBin oMod (eVar 1) (eLit (.int 4))) aNil) en [] = .ok (false, .bl true) [] := call1 (v := .int (b : Int)) (by rw [hm 4 (by decide), eb]) (callV_T (t38 b (by omega)))
  have c3 : eCall (callF TT 44) 1 39 (aCons (eBin oMod (eVar 1) (eLit (.int 9))) aNil) en [] = .ok (false, .bl true) [] := call1 (v := .int (c : Int)) (by rw [hm 9 (by decide), ec]) (callV_T (t39 c (by omega)))
  have an : ∀ {x y : SE}, x en [] = .ok (false, .bl true) [] → y en [] = .ok (false, .bl true) [] → eAn x y en [] = .ok (false, .bl true) [] := fun {x y} h1 h2 => by
    unfold eAn
    rw [h1, R.bind_ok]
    exact h2
  rw [sret_val (an c1 (an c2 c3)), fin_rt]
end PX.K69
set_option Elab.async false
set_option linter.all false
set_option maxRecDepth 100000
namespace HandSHeadRun
open PySem PySem.W PySem.Calls PyProof.Rows
section
variable (st : SharedT → Thread → Option (SharedT × Thread)) (n0 : Nat) (ann : Option Value)
def segF : Nat → SharedT → Thread → Option (Flow × SharedT × Code × Pos)
  | 0, _, _ => none
  | m + 1, s, t => match endAt 1 t with
    | some f => some (f, s, t.code, t.pos)
    | none => match stepOk n0 ann t with
      | false => none
      | true => match st s t with
        | some (s', t') => frS s' fun s' => segF m s' t'
        | none => none
def topF : Nat → SharedT → Thread → Option (SharedT × Thread)
  | 0, s, t => some (s, t)
  | m + 1, s, t => match through t with
    | true => none
    | false => match stepOk n0 ann t with
      | false => none
      | true => match st s t with
        | some (s', t') => frS s' fun s' => topF m s' t'
        | none => none
end
section
variable {p : Program} {w : World} {n0 : Nat} {ann : Option Value}
theorem segF_ok {tb : String → Option Builtin} : ∀ {m : Nat} {s s' : SharedT} {t : Thread} {f : Flow} {c : Code} {q : Pos}, segF (stepT (denote tb) p w) n0 ann m s t = some (f, s', c, q) → segRun tb p w n0 ann 1 m s.abs t = some (f, s'.abs, c, q)
  | 0, _, _, _, _, _, _, h => by cases h
  | m + 1, s, s', t, f, c, q, h => by
    have h1 : (match endAt 1 t with
      | some f => some (f, s, t.code, t.pos)
      | none => match stepOk n0 ann t with
        | false => none
        | true => match stepT (denote tb) p w s t with
          | some (s', t') => frS s' fun s' => segF (stepT (denote tb) p w) n0 ann m s' t'
          | none => none) = some (f, s', c, q) := h
    unfold segRun
    cases he : endAt 1 t with
    | some x =>
      rw [he] at h1
      cases h1
      rfl
    | none =>
      rw [he] at h1
      cases hk : stepOk n0 ann t with
      | false =>
        rw [hk] at h1
        cases h1
      | true =>
        rw [hk] at h1
        cases hs : stepT (denote tb) p w s t with
        | none =>
          rw [hs] at h1
          cases h1
        | some r =>
          obtain ⟨s2, t2⟩ := r
          rw [hs] at h1
          have h3 : (frS s2 fun s' => segF (stepT (denote tb) p w) n0 ann m s' t2) = some (f, s', c, q) := h1
          rw [frS_eq] at h3
          have z := segF_ok h3
          rw [stepT_spec hs]
          exact z
theorem topF_ok {tb : String → Option Builtin} : ∀ {m : Nat} {s s' : SharedT} {t t' : Thread}, topF (stepT (denote tb) p w) n0 ann m s t = some (s', t') → topGo tb p w n0 ann m s.abs t = some (s'.abs, t')
  | 0, _, _, _, _, h => by cases h; rfl
  | m + 1, s, s', t, t', h => by
    have h1 : (match through t with
      | true => none
      | false => match stepOk n0 ann t with
        | false => none
        | true => match stepT (denote tb) p w s t with
          | some (s', t') => frS s' fun s' => topF (stepT (denote tb) p w) n0 ann m s' t'
          | none => none) = some (s', t') := h
    unfold topGo
    cases ht : through t with
    | true =>
      rw [ht] at h1
      cases h1
    | false =>
      rw [ht] at h1
      cases hk : stepOk n0 ann t with
      | false =>
        rw [hk] at h1
        cases h1
      | true =>
        rw [hk] at h1
        cases hs : stepT (denote tb) p w s t with
        | none =>
          rw [hs] at h1
          cases h1
        | some r =>
          obtain ⟨s2, t2⟩ := r
          rw [hs] at h1
          have h3 : (frS s2 fun s' => topF (stepT (denote tb) p w) n0 ann m s' t2) = some (s', t') := h1
          rw [frS_eq] at h3
          have z := topF_ok h3
          rw [stepT_spec hs]
          exact z
theorem qk_eq : @stepT (denote treeTable) p w = stepQ (denQ tabQ) p w := by rw [stepQ_eq, denQ_eq, tabQ_eq]
theorem segQ_ok {m : Nat} {s s' : SharedT} {t : Thread} {f : Flow} {c : Code} {q : Pos} (h : segF (stepQ (denQ tabQ) p w) n0 ann m s t = some (f, s', c, q)) : segRun treeTable p w n0 ann 1 m s.abs t = some (f, s'.abs, c, q) := by
  rw [← qk_eq] at h
  exact segF_ok h
theorem topQ_ok {m : Nat} {s s' : SharedT} {t t' : Thread} (h : topF (stepQ (denQ tabQ) p w) n0 ann m s t = some (s', t')) : topGo treeTable p w n0 ann m s.abs t = some (s'.abs, t') := by
  rw [← qk_eq] at h
  exact topF_ok h
theorem goQ_ok {m : Nat} {s s' : SharedT} {t : Thread} (h : goF (stepQ (denQ tabQ) p w) n0 ann m s t = some s') : topRun treeTable p w n0 ann m s.abs t = some s'.abs := by
  rw [← qk_eq] at h
  exact goF_ok h
end
theorem boot_abs {w : World} {os : OsState} {t : PySem.W.BT} {n : Nat} (e : putAll (boot_heap w.params).objs.toList .nil 0 = some (t, n)) : (bootT w os (t, n)).abs = ⟨boot_heap w.params, #[], boot_drawn, boot_toks, os⟩ := by
  have eh := putAll_heap e
  show (⟨absHeap t n (boot_heap w.params).life, #[], boot_drawn, boot_toks, os⟩ : Shared) = _
  rw [eh]
theorem left_pcs {p q : Program} {loose : List PySem.Str} {Xt : Shared → Bool} {α : Type} {Yf : Shared → α} {Ya : World → α} {N M : Nat}
    (e : opening p = plainProg p.main.scope.names) (hN : Nat.ble 600 N = true) (f : ∀ s, fenceModules? p s = some s) (le : Nat.ble M N = true)
    (run : ∀ (w : World) (os : OsState), ∃ s, topRun treeTable p w (boot_heap w.params).objs.size (bootAnn w) M ⟨boot_heap w.params, #[], boot_drawn, boot_toks, os⟩ (topStub p) = some s ∧ (looksF p (boot_heap w.params) s, openSeen q loose (importedModules p.main.body) Xt true s, Yf s) = (true, openGood q loose, Ya w)) :
    LeftO p q loose Xt Yf Ya N true := fun w => by
  obtain ⟨⟨h, gs, d, k, os⟩, a, a'⟩ := Option.map_eq_some_iff.mp (boot_open e hN f w)
  obtain ⟨rfl, rfl, rfl, rfl⟩ : h = boot_heap w.params ∧ gs = Array.mk [] ∧ d = boot_drawn ∧ k = boot_toks := by simpa using a'
  obtain ⟨s, hs, hv⟩ := run w os
  obtain ⟨l1, l2, l3⟩ : _ ∧ _ ∧ _ := by simpa only [Prod.mk.injEq] using hv
  have r := topRun_mono (N - M) _ _ _ _ hs
  rw [show M + (N - M) = N by have := Nat.le_of_ble_eq_true le; omega] at r
  have l1' : (staticsOk (importedModules p.main.body) (boot_heap w.params) s.heap && namesBound p s.heap && gensDone s && laidKept (boot_heap w.params) s.heap) = true := l1
  have t : topFrom treeTable p w N ⟨boot_heap w.params, Array.mk [], boot_drawn, boot_toks, os⟩ = some s := by
    unfold topFrom
    dsimp only
    rw [boot_ns]
    show (topRun treeTable p w (boot_heap w.params).objs.size (bootAnn w) N ⟨boot_heap w.params, #[], boot_drawn, boot_toks, os⟩ (topStub p)).bind _ = _
    rw [r]
    show (match staticsOk (importedModules p.main.body) (boot_heap w.params) s.heap && namesBound p s.heap && gensDone s && laidKept (boot_heap w.params) s.heap with | true => some s | false => none) = _
    rw [l1']
  unfold openEnds
  rw [a]
  show (topFrom treeTable p w N _).map _ = _
  rw [t]
  exact congrArg some (Prod.ext l2 l3)
noncomputable abbrev lookQ (r : OpenRow) (q : Program) (H : Hook) (ob : SharedT → H.α) (loose : List PySem.Str) (w : World) (s : SharedT) :=
  (looksF r.prog (boot_heap w.params) s.abs, seenQ q loose (importedModules r.prog.main.body) (fun s => xlAt q [] s && recOk r.toRowW.records s) s.abs, ob s)
theorem head_pcs {r : OpenRow} {q : Program} {H : Hook} {ob : SharedT → H.α} {N M : Nat} {loose : List PySem.Str} {d : DefRec} {kwd : List (PySem.Str × PySem.Expr)} (ho : ∀ s : SharedT, ob s = H.obs s.abs)
    (e : opening r.prog = plainProg r.prog.main.scope.names) (f : ∀ s, fenceModules? r.prog s = some s) (hN : Nat.ble 600 N = true) (le : Nat.ble M N = true)
    (run : ∀ (w : World) (os : OsState), ∃ s : SharedT, topRun treeTable r.prog w (boot_heap w.params).objs.size (bootAnn w) M ⟨boot_heap w.params, #[], boot_drawn, boot_toks, os⟩ (topStub r.prog) = some s.abs ∧ lookQ r q H ob loose w s = (true, openGood q loose, H.val w))
    (hdef : defOf q r.name = some (d, kwd)) (hp : r.prog.theDef r.name = some (d.params, d.body, d.scope)) (hk : kwWritten? d.params.kwonlyargs d.params.kw_defaults = some kwd)
    (hwr : (!r.writes || r.records.isEmpty) = true) (k1 : r.wellSaid = true) (ok : (chainsOk q && opensWell r.prog && (frees r.toRowW && r.within.isEmpty)) = true) (hb : r.prog.bare) (hw : r.toRowW.promised)
    (call : WalkO q loose (XL q []) H.says r.toRowW d kwd fun f vs => PySem.call f vs) : r.Holds := by
  have left : LeftO r.prog q loose (fun s => xlAt q [] s && recOk r.toRowW.records s) H.obs H.val N true :=
    left_pcs e hN f le fun w os => by
      obtain ⟨s, h1, h2⟩ := run w os
      have eo : ob = fun s => H.obs s.abs := funext ho
      refine ⟨s.abs, h1, ?_⟩
      rw [eo] at h2
      simp only [seenQ_eq]
      exact h2
  exact holds_open (r := r) (q := q) (loose := loose) (XP := XL q []) (YP := H.says) (d := d) (kwd := kwd) left H.of H.keeps (fun s z => xl_of s (Bool.and_eq_true_iff.mp z).1) XL.keeps hdef hp hk (fun s z => recFacts_of (Bool.and_eq_true_iff.mp z).2) hwr k1 ok hb hw call
theorem all_cut {α : Type} {f : α → Bool} {l : List α} (n : Nat) (h1 : (l.take n).all f = true) (h2 : (l.drop n).all f = true) : l.all f = true := by
  rw [← List.take_append_drop n l, List.all_append, h1, h2]
  rfl
end HandSHeadRun
set_option Elab.async false
set_option linter.all false
set_option maxRecDepth 100000
set_option maxHeartbeats 0
namespace PX.K69
open PySem PySem.W
abbrev RR : PySem.W.OpenRow := PySem.W.OpenLaw.row PySem.Challenge.rw_bucketsums_k69_edges_hunt
abbrev τ (x : String) (n : Nat) : Value := .str (Str.ofString x) n
abbrev σ (x : String) : Str := Str.ofString x
abbrev ι (n : Int) : Value := .int n 0
abbrev ρ (n : Nat) : Value := .ref n
abbrev tu0 : Obj := ⟨.type "tuple", none, .seq #[] 0, #[]⟩
abbrev fi0 : Obj := ⟨.none, none, .fields #[], #[]⟩
abbrev tu (l : List Value) : Obj := ⟨.type "tuple", none, .seq l.toArray 0, #[]⟩
abbrev fi (t : String) (l : List Value) : Obj := ⟨.type t, none, .fields l.toArray, #[]⟩
abbrev fn0 (l : List Value) : Obj := ⟨.none, none, .fields l.toArray, #[]⟩
abbrev fu (a b : String) (pl : Stmt) (m c : Value) : Obj := ⟨.type "function", none, .func ⟨Str.ofString a, Str.ofString b, L2.defArgs pl, .stmts (L2.defBody pl), L2.defScope pl, 3, [], .none, .none, .none, m, none, c, .none, 0⟩, #[]⟩
abbrev fv (a b : String) (pl : Stmt) : Obj := ⟨.none, none, .func ⟨Str.ofString a, Str.ofString b, L2.defArgs pl, .stmts (L2.defBody pl), L2.defScope pl, 0, [], .none, .none, .none, .none, none, .none, .none, 0⟩, #[]⟩
abbrev dE (P : Params) (k : String) (n : Nat) (v : Value) : DictEntry := ⟨PyData.keyHash P (Str.ofString k), .str (Str.ofString k) n, v⟩
abbrev lf (o : Obj) : PySem.W.BT := .node o .nil .nil
abbrev nd (o : Obj) (a b : PySem.W.BT) : PySem.W.BT := .node o a b
noncomputable section
def trBoot (P : Params) : PySem.W.BT := (nd (PySem.W.boot_o_0 P) (nd (PySem.W.boot_o_1 P) (nd (PySem.W.boot_o_3 P) (nd (PySem.W.boot_o_7 P) .nil .nil) .nil) (nd (PySem.W.boot_o_5 P) (nd (PySem.W.boot_o_9 P) .nil .nil) .nil)) (nd (PySem.W.boot_o_2 P) (nd (PySem.W.boot_o_4 P) (nd (PySem.W.boot_o_8 P) .nil .nil) .nil) (nd (PySem.W.boot_o_6 P) (nd (PySem.W.boot_o_10 P) .nil .nil) .nil)))
def oa_11 : Obj := tu0
def oa_12 : Obj := fi0
def oa_13 : Obj := fi "code" [(τ "<module>" 182), (τ "<module>" 183), (τ "/claim/cut.py" 184), (ι 1), (ι 0), (ι 0), (ι 0), (ι 0), (ρ 11), (.bool false), (ι 181), (ρ 12), .none, .none, .none, .none, (ι 185), (ι 1), (τ "/claim/cut.py" 186)]
def oa_14 : Obj := ⟨(.type "frame"), none, .plain, (([(some (ρ 13)), (some (ρ 3)), (some (ρ 3)), none, (some (τ "__main__" 164)), none, (some (ρ 0))] : List (Option Value)).toArray)⟩
def tra (P : Params) : PySem.W.BT := (nd (PySem.W.boot_o_0 P) (nd (PySem.W.boot_o_1 P) (nd (PySem.W.boot_o_3 P) (nd (PySem.W.boot_o_7 P) .nil .nil) (lf oa_11)) (nd (PySem.W.boot_o_5 P) (nd (PySem.W.boot_o_9 P) .nil .nil) (lf oa_13))) (nd (PySem.W.boot_o_2 P) (nd (PySem.W.boot_o_4 P) (nd (PySem.W.boot_o_8 P) .nil .nil) (lf oa_12)) (nd (PySem.W.boot_o_6 P) (nd (PySem.W.boot_o_10 P) .nil .nil) (lf oa_14))))
def Sa (w : World) (os : OsState) : SharedT := ⟨tra w.params, 15, ⟨[], [], [], 0, [], [], false, #[], [], 0, false, false, false, 0, [2000, 10, 10], false, 0, true, [], [], 0, false⟩, #[], ⟨0, 0, 0, 0⟩, 187, os⟩
def posa : Pos := ⟨0, 0, 0, 0⟩
def trb (P : Params) : PySem.W.BT := (nd (PySem.W.boot_o_0 P) (nd (PySem.W.boot_o_1 P) (nd (PySem.W.boot_o_3 P) (nd (PySem.W.boot_o_7 P) .nil .nil) (lf oa_11)) (nd (PySem.W.boot_o_5 P) (nd (PySem.W.boot_o_9 P) .nil .nil) (lf oa_13))) (nd (PySem.W.boot_o_2 P) (nd (PySem.W.boot_o_4 P) (nd (PySem.W.boot_o_8 P) .nil .nil) (lf oa_12)) (nd (PySem.W.boot_o_6 P) (nd (PySem.W.boot_o_10 P) .nil .nil) (lf oa_14))))
def Sb (w : World) (os : OsState) : SharedT := ⟨trb w.params, 15, ⟨[], [], [], 0, [], [], false, #[], [], 0, false, false, false, 0, [2000, 10, 10], false, 0, true, [], [], 0, false⟩, #[], ⟨0, 0, 0, 0⟩, 187, os⟩
def posb : Pos := ⟨0, 0, 0, 0⟩
def o16_3 (P : Params) : Obj := ⟨(.type "dict"), none, (.dict (((dE P "__name__" 165 (τ "bucketsums.columns" 353) :: dE P "__doc__" 166 .none :: dE P "__package__" 167 .none :: dE P "__loader__" 168 (.builtin "__main__.__loader__#opaque") :: dE P "__spec__" 169 .none :: dE P "__annotations__" 170 (ρ 6) :: dE P "__builtins__" 171 (ρ 4) :: dE P "__file__" 173 (τ "/claim/cut.py" 172) :: dE P "__cached__" 174 .none :: dE P "_wall" 193 (ρ 21) :: dE P "SumError" 213 (ρ 31) :: dE P "BadCounts" 229 (ρ 44) :: dE P "BadColumn" 245 (ρ 56) :: dE P "BadValue" 261 (ρ 68) :: dE P "BadHistogram" 277 (ρ 80) :: dE P "BadNumber" 293 (ρ 92) :: dE P "BadStream" 320 (ρ 113) :: dE P "BadCounters" 336 (ρ 125) :: dE P "Unlike" 352 (ρ 137) :: dE P "MOST_VALUES" 356 (.int 12 355) :: dE P "MOST_COUNT" 358 (.int 9 357) :: dE P "is_number" 367 (ρ 146) :: dE P "Column" 469 (ρ 231) :: []) : List DictEntry).toArray) 23), #[]⟩
def o16_12 : Obj := fn0 ((ι 1) :: (ι 0) :: (ρ 20) :: (ι 5) :: (ι 0) :: (ρ 27) :: (ι 7) :: (ι 0) :: (ρ 40) :: (ι 9) :: (ι 0) :: (ρ 52) :: (ι 11) :: (ι 0) :: (ρ 64) :: (ι 13) :: (ι 0) :: (ρ 76) :: (ι 15) :: (ι 0) :: (ρ 88) :: (ι 17) :: (ι 0) :: (ρ 101) :: (ι 22) :: (ι 0) :: (ρ 121) :: (ι 24) :: (ι 0) :: (ρ 133) :: (ι 29) :: (ι 0) :: (ρ 145) :: (ι 31) :: (ι 0) :: (ρ 152) :: [])
def o16_15 : Obj := tu0
def o16_16 : Obj := fi0
def o16_17 : Obj := tu [(τ "k" 190)]
def o16_18 : Obj := tu0
def o16_19 : Obj := fv "_wall" "_wall" (top 0)
def o16_20 : Obj := fi "code" [(τ "_wall" 187), (τ "_wall" 188), (τ "/claim/cut.py" 189), (ι 1), (ι 1), (ι 0), (ι 0), (ι 3), (ρ 15), (.bool true), (ι 181), (ρ 16), .none, (ρ 17), (ρ 18), (ρ 19), (ι 191), (ι 1), (τ "/claim/cut.py" 192)]
def o16_21 : Obj := fu "_wall" "_wall" (top 0) (τ "__main__" 164) (ρ 20)
def o16_22 : Obj := tu [(.type "ValueError")]
def o16_23 : Obj := fi "builtin_function_or_method" [(.builtin "type.__prepare__"), (.type "type")]
def o16_24 (P : Params) : Obj := ⟨(.type "dict"), none, (.dict (([dE P "__module__" 203 (τ "bucketsums.errors" 194), dE P "__qualname__" 205 (τ "SumError" 204), dE P "__firstlineno__" 207 (.int 5 206), dE P "__static_attributes__" 208 (ρ 29)] : List DictEntry).toArray) 4), #[]⟩
def o16_25 : Obj := tu0
def o16_26 : Obj := fi0
def o16_27 : Obj := fi "code" [(τ "SumError" 198), (τ "SumError" 199), (τ "/claim/cut.py" 200), (ι 5), (ι 0), (ι 0), (ι 0), (ι 0), (ρ 25), (.bool false), (ι 181), (ρ 26), .none, .none, .none, .none, (ι 201), (ι 5), (τ "/claim/cut.py" 202)]
def o16_28 : Obj := ⟨(.type "frame"), none, .plain, (([(some (ρ 27)), (some (ρ 3)), (some (ρ 24)), none, (some (τ "bucketsums.errors" 194)), none, (some (ρ 0))] : List (Option Value)).toArray)⟩
def o16_29 : Obj := tu0
def o16_30 (P : Params) : Obj := ⟨(.type "dict"), none, (.dict (([dE P "__module__" 203 (τ "bucketsums.errors" 194), dE P "__firstlineno__" 207 (.int 5 206), dE P "__static_attributes__" 208 (ρ 29), dE P "__weakref__" 210 (ρ 32), dE P "__doc__" 211 .none] : List DictEntry).toArray) 3), #[]⟩
def o16_31 : Obj := ⟨(.type "type"), none, (.cls ⟨(σ "SumError"), [(.type "ValueError")], [(ρ 31), (.type "ValueError"), (.type "Exception"), (.type "BaseException"), (.type "object")], 30, (σ "SumError"), true, [], [(ρ 44), (ρ 56), (ρ 68), (ρ 80), (ρ 92), (ρ 113), (ρ 125), (ρ 137)], false, none, false⟩), (([(some (ρ 22)), none, (some (τ "SumError" 196)), (some (τ "SumError" 204)), (some (.builtin "ValueError.__new__")), (some (.bool true))] : List (Option Value)).toArray)⟩
def o16_32 : Obj := fi "getset_descriptor" [(τ "__weakref__" 209), (ρ 31), (.builtin "ExceptionGroup.__weakref__"), .none]
def o16_33 : Obj := fi "super" [(ρ 31), (ρ 31), (ρ 31)]
def o16_34 : Obj := fi "builtin_function_or_method" [(.builtin "object.__init_subclass__"), (ρ 31)]
def o16_35 : Obj := tu [(ρ 31)]
def o16_36 : Obj := fi "builtin_function_or_method" [(.builtin "type.__prepare__"), (.type "type")]
def o16_37 (P : Params) : Obj := ⟨(.type "dict"), none, (.dict (([dE P "__module__" 221 (τ "bucketsums.errors" 194), dE P "__qualname__" 223 (τ "BadCounts" 222), dE P "__firstlineno__" 225 (.int 7 224), dE P "__static_attributes__" 226 (ρ 42)] : List DictEntry).toArray) 4), #[]⟩
def o16_38 : Obj := tu0
def o16_39 : Obj := fi0
def o16_40 : Obj := fi "code" [(τ "BadCounts" 216), (τ "BadCounts" 217), (τ "/claim/cut.py" 218), (ι 7), (ι 0), (ι 0), (ι 0), (ι 0), (ρ 38), (.bool false), (ι 181), (ρ 39), .none, .none, .none, .none, (ι 219), (ι 7), (τ "/claim/cut.py" 220)]
def o16_41 : Obj := ⟨(.type "frame"), none, .plain, (([(some (ρ 40)), (some (ρ 3)), (some (ρ 37)), none, (some (τ "bucketsums.errors" 194)), none, (some (ρ 0))] : List (Option Value)).toArray)⟩
def o16_42 : Obj := tu0
def o16_43 (P : Params) : Obj := ⟨(.type "dict"), none, (.dict (([dE P "__module__" 221 (τ "bucketsums.errors" 194), dE P "__firstlineno__" 225 (.int 7 224), dE P "__static_attributes__" 226 (ρ 42), dE P "__doc__" 227 .none] : List DictEntry).toArray) 2), #[]⟩
def o16_44 : Obj := ⟨(.type "type"), none, (.cls ⟨(σ "BadCounts"), [(ρ 31)], [(ρ 44), (ρ 31), (.type "ValueError"), (.type "Exception"), (.type "BaseException"), (.type "object")], 43, (σ "BadCounts"), true, [], [], false, none, false⟩), (([(some (ρ 35)), none, (some (τ "BadCounts" 214)), (some (τ "BadCounts" 222)), (some (.builtin "ValueError.__new__")), (some (.bool true))] : List (Option Value)).toArray)⟩
def o16_45 : Obj := fi "super" [(ρ 44), (ρ 44), (ρ 44)]
def o16_46 : Obj := fi "builtin_function_or_method" [(.builtin "object.__init_subclass__"), (ρ 44)]
def o16_47 : Obj := tu [(ρ 31)]
def o16_48 : Obj := fi "builtin_function_or_method" [(.builtin "type.__prepare__"), (.type "type")]
def o16_49 (P : Params) : Obj := ⟨(.type "dict"), none, (.dict (([dE P "__module__" 237 (τ "bucketsums.errors" 194), dE P "__qualname__" 239 (τ "BadColumn" 238), dE P "__firstlineno__" 241 (.int 9 240), dE P "__static_attributes__" 242 (ρ 54)] : List DictEntry).toArray) 4), #[]⟩
def o16_50 : Obj := tu0
def o16_51 : Obj := fi0
def o16_52 : Obj := fi "code" [(τ "BadColumn" 232), (τ "BadColumn" 233), (τ "/claim/cut.py" 234), (ι 9), (ι 0), (ι 0), (ι 0), (ι 0), (ρ 50), (.bool false), (ι 181), (ρ 51), .none, .none, .none, .none, (ι 235), (ι 9), (τ "/claim/cut.py" 236)]
def o16_53 : Obj := ⟨(.type "frame"), none, .plain, (([(some (ρ 52)), (some (ρ 3)), (some (ρ 49)), none, (some (τ "bucketsums.errors" 194)), none, (some (ρ 0))] : List (Option Value)).toArray)⟩
def o16_54 : Obj := tu0
def o16_55 (P : Params) : Obj := ⟨(.type "dict"), none, (.dict (([dE P "__module__" 237 (τ "bucketsums.errors" 194), dE P "__firstlineno__" 241 (.int 9 240), dE P "__static_attributes__" 242 (ρ 54), dE P "__doc__" 243 .none] : List DictEntry).toArray) 2), #[]⟩
def o16_56 : Obj := ⟨(.type "type"), none, (.cls ⟨(σ "BadColumn"), [(ρ 31)], [(ρ 56), (ρ 31), (.type "ValueError"), (.type "Exception"), (.type "BaseException"), (.type "object")], 55, (σ "BadColumn"), true, [], [], false, none, false⟩), (([(some (ρ 47)), none, (some (τ "BadColumn" 230)), (some (τ "BadColumn" 238)), (some (.builtin "ValueError.__new__")), (some (.bool true))] : List (Option Value)).toArray)⟩
def o16_57 : Obj := fi "super" [(ρ 56), (ρ 56), (ρ 56)]
def o16_58 : Obj := fi "builtin_function_or_method" [(.builtin "object.__init_subclass__"), (ρ 56)]
def o16_59 : Obj := tu [(ρ 31)]
def o16_60 : Obj := fi "builtin_function_or_method" [(.builtin "type.__prepare__"), (.type "type")]
def o16_61 (P : Params) : Obj := ⟨(.type "dict"), none, (.dict (([dE P "__module__" 253 (τ "bucketsums.errors" 194), dE P "__qualname__" 255 (τ "BadValue" 254), dE P "__firstlineno__" 257 (.int 11 256), dE P "__static_attributes__" 258 (ρ 66)] : List DictEntry).toArray) 4), #[]⟩
def o16_62 : Obj := tu0
def o16_63 : Obj := fi0
def o16_64 : Obj := fi "code" [(τ "BadValue" 248), (τ "BadValue" 249), (τ "/claim/cut.py" 250), (ι 11), (ι 0), (ι 0), (ι 0), (ι 0), (ρ 62), (.bool false), (ι 181), (ρ 63), .none, .none, .none, .none, (ι 251), (ι 11), (τ "/claim/cut.py" 252)]
def o16_65 : Obj := ⟨(.type "frame"), none, .plain, (([(some (ρ 64)), (some (ρ 3)), (some (ρ 61)), none, (some (τ "bucketsums.errors" 194)), none, (some (ρ 0))] : List (Option Value)).toArray)⟩
def o16_66 : Obj := tu0
def o16_67 (P : Params) : Obj := ⟨(.type "dict"), none, (.dict (([dE P "__module__" 253 (τ "bucketsums.errors" 194), dE P "__firstlineno__" 257 (.int 11 256), dE P "__static_attributes__" 258 (ρ 66), dE P "__doc__" 259 .none] : List DictEntry).toArray) 2), #[]⟩
def o16_68 : Obj := ⟨(.type "type"), none, (.cls ⟨(σ "BadValue"), [(ρ 31)], [(ρ 68), (ρ 31), (.type "ValueError"), (.type "Exception"), (.type "BaseException"), (.type "object")], 67, (σ "BadValue"), true, [], [], false, none, false⟩), (([(some (ρ 59)), none, (some (τ "BadValue" 246)), (some (τ "BadValue" 254)), (some (.builtin "ValueError.__new__")), (some (.bool true))] : List (Option Value)).toArray)⟩
def o16_69 : Obj := fi "super" [(ρ 68), (ρ 68), (ρ 68)]
def o16_70 : Obj := fi "builtin_function_or_method" [(.builtin "object.__init_subclass__"), (ρ 68)]
def o16_71 : Obj := tu [(ρ 31)]
def o16_72 : Obj := fi "builtin_function_or_method" [(.builtin "type.__prepare__"), (.type "type")]
def o16_73 (P : Params) : Obj := ⟨(.type "dict"), none, (.dict (([dE P "__module__" 269 (τ "bucketsums.errors" 194), dE P "__qualname__" 271 (τ "BadHistogram" 270), dE P "__firstlineno__" 273 (.int 13 272), dE P "__static_attributes__" 274 (ρ 78)] : List DictEntry).toArray) 4), #[]⟩
def o16_74 : Obj := tu0
def o16_75 : Obj := fi0
def o16_76 : Obj := fi "code" [(τ "BadHistogram" 264), (τ "BadHistogram" 265), (τ "/claim/cut.py" 266), (ι 13), (ι 0), (ι 0), (ι 0), (ι 0), (ρ 74), (.bool false), (ι 181), (ρ 75), .none, .none, .none, .none, (ι 267), (ι 13), (τ "/claim/cut.py" 268)]
def o16_77 : Obj := ⟨(.type "frame"), none, .plain, (([(some (ρ 76)), (some (ρ 3)), (some (ρ 73)), none, (some (τ "bucketsums.errors" 194)), none, (some (ρ 0))] : List (Option Value)).toArray)⟩
def o16_78 : Obj := tu0
def o16_79 (P : Params) : Obj := ⟨(.type "dict"), none, (.dict (([dE P "__module__" 269 (τ "bucketsums.errors" 194), dE P "__firstlineno__" 273 (.int 13 272), dE P "__static_attributes__" 274 (ρ 78), dE P "__doc__" 275 .none] : List DictEntry).toArray) 2), #[]⟩
def o16_80 : Obj := ⟨(.type "type"), none, (.cls ⟨(σ "BadHistogram"), [(ρ 31)], [(ρ 80), (ρ 31), (.type "ValueError"), (.type "Exception"), (.type "BaseException"), (.type "object")], 79, (σ "BadHistogram"), true, [], [], false, none, false⟩), (([(some (ρ 71)), none, (some (τ "BadHistogram" 262)), (some (τ "BadHistogram" 270)), (some (.builtin "ValueError.__new__")), (some (.bool true))] : List (Option Value)).toArray)⟩
def o16_81 : Obj := fi "super" [(ρ 80), (ρ 80), (ρ 80)]
def o16_82 : Obj := fi "builtin_function_or_method" [(.builtin "object.__init_subclass__"), (ρ 80)]
def o16_83 : Obj := tu [(ρ 31)]
def o16_84 : Obj := fi "builtin_function_or_method" [(.builtin "type.__prepare__"), (.type "type")]
def o16_85 (P : Params) : Obj := ⟨(.type "dict"), none, (.dict (([dE P "__module__" 285 (τ "bucketsums.errors" 194), dE P "__qualname__" 287 (τ "BadNumber" 286), dE P "__firstlineno__" 289 (.int 15 288), dE P "__static_attributes__" 290 (ρ 90)] : List DictEntry).toArray) 4), #[]⟩
def o16_86 : Obj := tu0
def o16_87 : Obj := fi0
def o16_88 : Obj := fi "code" [(τ "BadNumber" 280), (τ "BadNumber" 281), (τ "/claim/cut.py" 282), (ι 15), (ι 0), (ι 0), (ι 0), (ι 0), (ρ 86), (.bool false), (ι 181), (ρ 87), .none, .none, .none, .none, (ι 283), (ι 15), (τ "/claim/cut.py" 284)]
def o16_89 : Obj := ⟨(.type "frame"), none, .plain, (([(some (ρ 88)), (some (ρ 3)), (some (ρ 85)), none, (some (τ "bucketsums.errors" 194)), none, (some (ρ 0))] : List (Option Value)).toArray)⟩
def o16_90 : Obj := tu0
def o16_91 (P : Params) : Obj := ⟨(.type "dict"), none, (.dict (([dE P "__module__" 285 (τ "bucketsums.errors" 194), dE P "__firstlineno__" 289 (.int 15 288), dE P "__static_attributes__" 290 (ρ 90), dE P "__doc__" 291 .none] : List DictEntry).toArray) 2), #[]⟩
def o16_92 : Obj := ⟨(.type "type"), none, (.cls ⟨(σ "BadNumber"), [(ρ 31)], [(ρ 92), (ρ 31), (.type "ValueError"), (.type "Exception"), (.type "BaseException"), (.type "object")], 91, (σ "BadNumber"), true, [], [], false, none, false⟩), (([(some (ρ 83)), none, (some (τ "BadNumber" 278)), (some (τ "BadNumber" 286)), (some (.builtin "ValueError.__new__")), (some (.bool true))] : List (Option Value)).toArray)⟩
def o16_93 : Obj := fi "super" [(ρ 92), (ρ 92), (ρ 92)]
def o16_94 : Obj := fi "builtin_function_or_method" [(.builtin "object.__init_subclass__"), (ρ 92)]
def o16_95 : Obj := tu [(ρ 31)]
def o16_96 : Obj := fi "builtin_function_or_method" [(.builtin "type.__prepare__"), (.type "type")]
def o16_97 (P : Params) : Obj := ⟨(.type "dict"), none, (.dict (([dE P "__module__" 301 (τ "bucketsums.errors" 194), dE P "__qualname__" 303 (τ "BadStream" 302), dE P "__firstlineno__" 305 (.int 17 304), dE P "__init__" 314 (ρ 110), dE P "__static_attributes__" 316 (ρ 111), dE P "__classcell__" 317 (ρ 98)] : List DictEntry).toArray) 6), #[]⟩
def o16_98 : Obj := ⟨(.type "cell"), none, (.cell (some (ρ 113))), #[]⟩
def o16_99 : Obj := tu0
def o16_100 : Obj := fn0 [(ι 19), (ι 4), (ρ 109)]
def o16_101 : Obj := fi "code" [(τ "BadStream" 296), (τ "BadStream" 297), (τ "/claim/cut.py" 298), (ι 17), (ι 0), (ι 0), (ι 0), (ι 0), (ρ 99), (.bool false), (ι 181), (ρ 100), .none, .none, .none, .none, (ι 299), (ι 17), (τ "/claim/cut.py" 300)]
def o16_102 : Obj := ⟨(.type "frame"), none, .plain, (([(some (ρ 101)), (some (ρ 3)), (some (ρ 97)), none, (some (τ "bucketsums.errors" 194)), none, (some (ρ 0))] : List (Option Value)).toArray)⟩
def o16_103 : Obj := tu [(ρ 98)]
def o16_104 : Obj := tu [(τ "__class__" 309)]
def o16_105 : Obj := fi0
def o16_106 : Obj := tu [(τ "self" 310), (τ "index" 311)]
def o16_107 : Obj := tu0
def o16_108 : Obj := fv "__init__" "BadStream.__init__" (L2.inClass (top 8) 0)
def o16_109 : Obj := fi "code" [(τ "__init__" 306), (τ "BadStream.__init__" 307), (τ "/claim/cut.py" 308), (ι 19), (ι 2), (ι 0), (ι 0), (ι 3), (ρ 104), (.bool true), (ι 181), (ρ 105), .none, (ρ 106), (ρ 107), (ρ 108), (ι 312), (ι 19), (τ "/claim/cut.py" 313)]
def o16_110 : Obj := ⟨(.type "function"), none, (.func ⟨(σ "__init__"), (σ "BadStream.__init__"), L2.defArgs (L2.inClass (top 8) 0), .stmts (L2.defBody (L2.inClass (top 8) 0)), L2.defScope (L2.inClass (top 8) 0), 3, [((σ "__class__"), 98)], .none, .none, .none, (τ "bucketsums.errors" 194), none, (ρ 109), (ρ 103), 0⟩), #[]⟩
def o16_111 : Obj := tu [(τ "index" 315)]
def o16_112 (P : Params) : Obj := ⟨(.type "dict"), none, (.dict (([dE P "__module__" 301 (τ "bucketsums.errors" 194), dE P "__firstlineno__" 305 (.int 17 304), dE P "__init__" 314 (ρ 110), dE P "__static_attributes__" 316 (ρ 111), dE P "__doc__" 318 .none] : List DictEntry).toArray) 3), #[]⟩
def o16_113 : Obj := ⟨(.type "type"), none, (.cls ⟨(σ "BadStream"), [(ρ 31)], [(ρ 113), (ρ 31), (.type "ValueError"), (.type "Exception"), (.type "BaseException"), (.type "object")], 112, (σ "BadStream"), true, [], [], false, none, false⟩), (([(some (ρ 95)), none, (some (τ "BadStream" 294)), (some (τ "BadStream" 302)), (some (.builtin "ValueError.__new__")), (some (.bool true))] : List (Option Value)).toArray)⟩
def o16_114 : Obj := fi "super" [(ρ 113), (ρ 113), (ρ 113)]
def o16_115 : Obj := fi "builtin_function_or_method" [(.builtin "object.__init_subclass__"), (ρ 113)]
def o16_116 : Obj := tu [(ρ 31)]
def o16_117 : Obj := fi "builtin_function_or_method" [(.builtin "type.__prepare__"), (.type "type")]
def o16_118 (P : Params) : Obj := ⟨(.type "dict"), none, (.dict (([dE P "__module__" 328 (τ "bucketsums.errors" 194), dE P "__qualname__" 330 (τ "BadCounters" 329), dE P "__firstlineno__" 332 (.int 22 331), dE P "__static_attributes__" 333 (ρ 123)] : List DictEntry).toArray) 4), #[]⟩
def o16_119 : Obj := tu0
def o16_120 : Obj := fi0
def o16_121 : Obj := fi "code" [(τ "BadCounters" 323), (τ "BadCounters" 324), (τ "/claim/cut.py" 325), (ι 22), (ι 0), (ι 0), (ι 0), (ι 0), (ρ 119), (.bool false), (ι 181), (ρ 120), .none, .none, .none, .none, (ι 326), (ι 22), (τ "/claim/cut.py" 327)]
def o16_122 : Obj := ⟨(.type "frame"), none, .plain, (([(some (ρ 121)), (some (ρ 3)), (some (ρ 118)), none, (some (τ "bucketsums.errors" 194)), none, (some (ρ 0))] : List (Option Value)).toArray)⟩
def o16_123 : Obj := tu0
def o16_124 (P : Params) : Obj := ⟨(.type "dict"), none, (.dict (([dE P "__module__" 328 (τ "bucketsums.errors" 194), dE P "__firstlineno__" 332 (.int 22 331), dE P "__static_attributes__" 333 (ρ 123), dE P "__doc__" 334 .none] : List DictEntry).toArray) 2), #[]⟩
def o16_125 : Obj := ⟨(.type "type"), none, (.cls ⟨(σ "BadCounters"), [(ρ 31)], [(ρ 125), (ρ 31), (.type "ValueError"), (.type "Exception"), (.type "BaseException"), (.type "object")], 124, (σ "BadCounters"), true, [], [], false, none, false⟩), (([(some (ρ 116)), none, (some (τ "BadCounters" 321)), (some (τ "BadCounters" 329)), (some (.builtin "ValueError.__new__")), (some (.bool true))] : List (Option Value)).toArray)⟩
def o16_126 : Obj := fi "super" [(ρ 125), (ρ 125), (ρ 125)]
def o16_127 : Obj := fi "builtin_function_or_method" [(.builtin "object.__init_subclass__"), (ρ 125)]
def o16_128 : Obj := tu [(ρ 31)]
def o16_129 : Obj := fi "builtin_function_or_method" [(.builtin "type.__prepare__"), (.type "type")]
def o16_130 (P : Params) : Obj := ⟨(.type "dict"), none, (.dict (([dE P "__module__" 344 (τ "bucketsums.errors" 194), dE P "__qualname__" 346 (τ "Unlike" 345), dE P "__firstlineno__" 348 (.int 24 347), dE P "__static_attributes__" 349 (ρ 135)] : List DictEntry).toArray) 4), #[]⟩
def o16_131 : Obj := tu0
def o16_132 : Obj := fi0
def o16_133 : Obj := fi "code" [(τ "Unlike" 339), (τ "Unlike" 340), (τ "/claim/cut.py" 341), (ι 24), (ι 0), (ι 0), (ι 0), (ι 0), (ρ 131), (.bool false), (ι 181), (ρ 132), .none, .none, .none, .none, (ι 342), (ι 24), (τ "/claim/cut.py" 343)]
def o16_134 : Obj := ⟨(.type "frame"), none, .plain, (([(some (ρ 133)), (some (ρ 3)), (some (ρ 130)), none, (some (τ "bucketsums.errors" 194)), none, (some (ρ 0))] : List (Option Value)).toArray)⟩
def o16_135 : Obj := tu0
def o16_136 (P : Params) : Obj := ⟨(.type "dict"), none, (.dict (([dE P "__module__" 344 (τ "bucketsums.errors" 194), dE P "__firstlineno__" 348 (.int 24 347), dE P "__static_attributes__" 349 (ρ 135), dE P "__doc__" 350 .none] : List DictEntry).toArray) 2), #[]⟩
def o16_137 : Obj := ⟨(.type "type"), none, (.cls ⟨(σ "Unlike"), [(ρ 31)], [(ρ 137), (ρ 31), (.type "ValueError"), (.type "Exception"), (.type "BaseException"), (.type "object")], 136, (σ "Unlike"), true, [], [], false, none, false⟩), (([(some (ρ 128)), none, (some (τ "Unlike" 337)), (some (τ "Unlike" 345)), (some (.builtin "ValueError.__new__")), (some (.bool true))] : List (Option Value)).toArray)⟩
def o16_138 : Obj := fi "super" [(ρ 137), (ρ 137), (ρ 137)]
def o16_139 : Obj := fi "builtin_function_or_method" [(.builtin "object.__init_subclass__"), (ρ 137)]
def o16_140 : Obj := tu0
def o16_141 : Obj := fi0
def o16_142 : Obj := tu [(τ "thing" 362), (τ "least" 363), (τ "most" 364)]
def o16_143 : Obj := tu0
def o16_144 : Obj := fv "is_number" "is_number" (top 14)
def o16_145 : Obj := fi "code" [(τ "is_number" 359), (τ "is_number" 360), (τ "/claim/cut.py" 361), (ι 29), (ι 3), (ι 0), (ι 0), (ι 3), (ρ 140), (.bool true), (ι 181), (ρ 141), .none, (ρ 142), (ρ 143), (ρ 144), (ι 365), (ι 29), (τ "/claim/cut.py" 366)]
def o16_146 : Obj := fu "is_number" "is_number" (top 14) (τ "bucketsums.columns" 353) (ρ 145)
def o16_147 : Obj := tu0
def o16_148 : Obj := fi "builtin_function_or_method" [(.builtin "type.__prepare__"), (.type "type")]
def o16_149 (P : Params) : Obj := ⟨(.type "dict"), none, (.dict (([dE P "__module__" 375 (τ "bucketsums.columns" 353), dE P "__qualname__" 377 (τ "Column" 376), dE P "__firstlineno__" 379 (.int 31 378), dE P "__init__" 385 (ρ 158), dE P "__eq__" 393 (ρ 165), dE P "__len__" 400 (ρ 172), dE P "__getitem__" 408 (ρ 179), dE P "__iter__" 415 (ρ 186), dE P "rows" 422 (ρ 193), dE P "prefixes" 429 (ρ 200), dE P "between" 438 (ρ 207), dE P "filled" 445 (ρ 214), dE P "steps" 452 (ρ 221), dE P "sorted_rows" 459 (ρ 228), dE P "__static_attributes__" 461 (ρ 229)] : List DictEntry).toArray) 15), #[]⟩
def o16_150 : Obj := tu0
def o16_151 : Obj := fn0 ((ι 33) :: (ι 4) :: (ρ 157) :: (ι 40) :: (ι 4) :: (ρ 164) :: (ι 43) :: (ι 4) :: (ρ 171) :: (ι 46) :: (ι 4) :: (ρ 178) :: (ι 51) :: (ι 4) :: (ρ 185) :: (ι 54) :: (ι 4) :: (ρ 192) :: (ι 57) :: (ι 4) :: (ρ 199) :: (ι 60) :: (ι 4) :: (ρ 206) :: (ι 63) :: (ι 4) :: (ρ 213) :: (ι 66) :: (ι 4) :: (ρ 220) :: (ι 69) :: (ι 4) :: (ρ 227) :: [])
def o16_152 : Obj := fi "code" [(τ "Column" 370), (τ "Column" 371), (τ "/claim/cut.py" 372), (ι 31), (ι 0), (ι 0), (ι 0), (ι 0), (ρ 150), (.bool false), (ι 181), (ρ 151), .none, .none, .none, .none, (ι 373), (ι 31), (τ "/claim/cut.py" 374)]
def o16_153 : Obj := ⟨(.type "frame"), none, .plain, (([(some (ρ 152)), (some (ρ 3)), (some (ρ 149)), none, (some (τ "bucketsums.columns" 353)), none, (some (ρ 0))] : List (Option Value)).toArray)⟩
def o16_154 : Obj := tu0
def o16_155 : Obj := fi0
def o16_156 : Obj := fv "__init__" "Column.__init__" (L2.inClass (top 15) 0)
def o16_157 : Obj := fi "code" [(τ "__init__" 380), (τ "Column.__init__" 381), (τ "/claim/cut.py" 382), (ι 33), (ι 2), (ι 0), (ι 0), (ι 3), (ρ 154), (.bool true), (ι 181), (ρ 155), .none, .none, .none, (ρ 156), (ι 383), (ι 33), (τ "/claim/cut.py" 384)]
def o16_158 : Obj := fu "__init__" "Column.__init__" (L2.inClass (top 15) 0) (τ "bucketsums.columns" 353) (ρ 157)
def o16_159 : Obj := tu0
def o16_160 : Obj := fi0
def o16_161 : Obj := tu [(τ "self" 389), (τ "other" 390)]
def o16_162 : Obj := tu0
def o16_163 : Obj := fv "__eq__" "Column.__eq__" (L2.inClass (top 15) 1)
def o16_164 : Obj := fi "code" [(τ "__eq__" 386), (τ "Column.__eq__" 387), (τ "/claim/cut.py" 388), (ι 40), (ι 2), (ι 0), (ι 0), (ι 3), (ρ 159), (.bool true), (ι 181), (ρ 160), .none, (ρ 161), (ρ 162), (ρ 163), (ι 391), (ι 40), (τ "/claim/cut.py" 392)]
def o16_165 : Obj := fu "__eq__" "Column.__eq__" (L2.inClass (top 15) 1) (τ "bucketsums.columns" 353) (ρ 164)
def o16_166 : Obj := tu0
def o16_167 : Obj := fi0
def o16_168 : Obj := tu [(τ "self" 397)]
def o16_169 : Obj := tu0
def o16_170 : Obj := fv "__len__" "Column.__len__" (L2.inClass (top 15) 2)
def o16_171 : Obj := fi "code" [(τ "__len__" 394), (τ "Column.__len__" 395), (τ "/claim/cut.py" 396), (ι 43), (ι 1), (ι 0), (ι 0), (ι 3), (ρ 166), (.bool true), (ι 181), (ρ 167), .none, (ρ 168), (ρ 169), (ρ 170), (ι 398), (ι 43), (τ "/claim/cut.py" 399)]
def o16_172 : Obj := fu "__len__" "Column.__len__" (L2.inClass (top 15) 2) (τ "bucketsums.columns" 353) (ρ 171)
def o16_173 : Obj := tu0
def o16_174 : Obj := fi0
def o16_175 : Obj := tu [(τ "self" 404), (τ "value" 405)]
def o16_176 : Obj := tu0
def o16_177 : Obj := fv "__getitem__" "Column.__getitem__" (L2.inClass (top 15) 3)
def o16_178 : Obj := fi "code" [(τ "__getitem__" 401), (τ "Column.__getitem__" 402), (τ "/claim/cut.py" 403), (ι 46), (ι 2), (ι 0), (ι 0), (ι 3), (ρ 173), (.bool true), (ι 181), (ρ 174), .none, (ρ 175), (ρ 176), (ρ 177), (ι 406), (ι 46), (τ "/claim/cut.py" 407)]
def o16_179 : Obj := fu "__getitem__" "Column.__getitem__" (L2.inClass (top 15) 3) (τ "bucketsums.columns" 353) (ρ 178)
def o16_180 : Obj := tu0
def o16_181 : Obj := fi0
def o16_182 : Obj := tu [(τ "self" 412)]
def o16_183 : Obj := tu0
def o16_184 : Obj := fv "__iter__" "Column.__iter__" (L2.inClass (top 15) 4)
def o16_185 : Obj := fi "code" [(τ "__iter__" 409), (τ "Column.__iter__" 410), (τ "/claim/cut.py" 411), (ι 51), (ι 1), (ι 0), (ι 0), (ι 3), (ρ 180), (.bool true), (ι 181), (ρ 181), .none, (ρ 182), (ρ 183), (ρ 184), (ι 413), (ι 51), (τ "/claim/cut.py" 414)]
def o16_186 : Obj := fu "__iter__" "Column.__iter__" (L2.inClass (top 15) 4) (τ "bucketsums.columns" 353) (ρ 185)
def o16_187 : Obj := tu0
def o16_188 : Obj := fi0
def o16_189 : Obj := tu [(τ "self" 419)]
def o16_190 : Obj := tu0
def o16_191 : Obj := fv "rows" "Column.rows" (L2.inClass (top 15) 5)
def o16_192 : Obj := fi "code" [(τ "rows" 416), (τ "Column.rows" 417), (τ "/claim/cut.py" 418), (ι 54), (ι 1), (ι 0), (ι 0), (ι 3), (ρ 187), (.bool true), (ι 181), (ρ 188), .none, (ρ 189), (ρ 190), (ρ 191), (ι 420), (ι 54), (τ "/claim/cut.py" 421)]
def o16_193 : Obj := fu "rows" "Column.rows" (L2.inClass (top 15) 5) (τ "bucketsums.columns" 353) (ρ 192)
def o16_194 : Obj := tu0
def o16_195 : Obj := fi0
def o16_196 : Obj := tu [(τ "self" 426)]
def o16_197 : Obj := tu0
def o16_198 : Obj := fv "prefixes" "Column.prefixes" (L2.inClass (top 15) 6)
def o16_199 : Obj := fi "code" [(τ "prefixes" 423), (τ "Column.prefixes" 424), (τ "/claim/cut.py" 425), (ι 57), (ι 1), (ι 0), (ι 0), (ι 3), (ρ 194), (.bool true), (ι 181), (ρ 195), .none, (ρ 196), (ρ 197), (ρ 198), (ι 427), (ι 57), (τ "/claim/cut.py" 428)]
def o16_200 : Obj := fu "prefixes" "Column.prefixes" (L2.inClass (top 15) 6) (τ "bucketsums.columns" 353) (ρ 199)
def o16_201 : Obj := tu0
def o16_202 : Obj := fi0
def o16_203 : Obj := tu [(τ "self" 433), (τ "first" 434), (τ "past" 435)]
def o16_204 : Obj := tu0
def o16_205 : Obj := fv "between" "Column.between" (L2.inClass (top 15) 7)
def o16_206 : Obj := fi "code" [(τ "between" 430), (τ "Column.between" 431), (τ "/claim/cut.py" 432), (ι 60), (ι 3), (ι 0), (ι 0), (ι 3), (ρ 201), (.bool true), (ι 181), (ρ 202), .none, (ρ 203), (ρ 204), (ρ 205), (ι 436), (ι 60), (τ "/claim/cut.py" 437)]
def o16_207 : Obj := fu "between" "Column.between" (L2.inClass (top 15) 7) (τ "bucketsums.columns" 353) (ρ 206)
def o16_208 : Obj := tu0
def o16_209 : Obj := fi0
def o16_210 : Obj := tu [(τ "self" 442)]
def o16_211 : Obj := tu0
def o16_212 : Obj := fv "filled" "Column.filled" (L2.inClass (top 15) 8)
def o16_213 : Obj := fi "code" [(τ "filled" 439), (τ "Column.filled" 440), (τ "/claim/cut.py" 441), (ι 63), (ι 1), (ι 0), (ι 0), (ι 3), (ρ 208), (.bool true), (ι 181), (ρ 209), .none, (ρ 210), (ρ 211), (ρ 212), (ι 443), (ι 63), (τ "/claim/cut.py" 444)]
def o16_214 : Obj := fu "filled" "Column.filled" (L2.inClass (top 15) 8) (τ "bucketsums.columns" 353) (ρ 213)
def o16_215 : Obj := tu0
def o16_216 : Obj := fi0
def o16_217 : Obj := tu [(τ "self" 449)]
def o16_218 : Obj := tu0
def o16_219 : Obj := fv "steps" "Column.steps" (L2.inClass (top 15) 9)
def o16_220 : Obj := fi "code" [(τ "steps" 446), (τ "Column.steps" 447), (τ "/claim/cut.py" 448), (ι 66), (ι 1), (ι 0), (ι 0), (ι 3), (ρ 215), (.bool true), (ι 181), (ρ 216), .none, (ρ 217), (ρ 218), (ρ 219), (ι 450), (ι 66), (τ "/claim/cut.py" 451)]
def o16_221 : Obj := fu "steps" "Column.steps" (L2.inClass (top 15) 9) (τ "bucketsums.columns" 353) (ρ 220)
def o16_222 : Obj := tu0
def o16_223 : Obj := fi0
def o16_224 : Obj := tu [(τ "self" 456)]
def o16_225 : Obj := tu0
def o16_226 : Obj := fv "sorted_rows" "Column.sorted_rows" (L2.inClass (top 15) 10)
def o16_227 : Obj := fi "code" [(τ "sorted_rows" 453), (τ "Column.sorted_rows" 454), (τ "/claim/cut.py" 455), (ι 69), (ι 1), (ι 0), (ι 0), (ι 3), (ρ 222), (.bool true), (ι 181), (ρ 223), .none, (ρ 224), (ρ 225), (ρ 226), (ι 457), (ι 69), (τ "/claim/cut.py" 458)]
def o16_228 : Obj := fu "sorted_rows" "Column.sorted_rows" (L2.inClass (top 15) 10) (τ "bucketsums.columns" 353) (ρ 227)
def o16_229 : Obj := tu [(τ "counts" 460)]
def o16_230 (P : Params) : Obj := ⟨(.type "dict"), none, (.dict (([dE P "__module__" 375 (τ "bucketsums.columns" 353), dE P "__firstlineno__" 379 (.int 31 378), dE P "__init__" 385 (ρ 158), dE P "__eq__" 393 (ρ 165), dE P "__len__" 400 (ρ 172), dE P "__getitem__" 408 (ρ 179), dE P "__iter__" 415 (ρ 186), dE P "rows" 422 (ρ 193), dE P "prefixes" 429 (ρ 200), dE P "between" 438 (ρ 207), dE P "filled" 445 (ρ 214), dE P "steps" 452 (ρ 221), dE P "sorted_rows" 459 (ρ 228), dE P "__static_attributes__" 461 (ρ 229), dE P "__dict__" 463 (ρ 232), dE P "__weakref__" 465 (ρ 233), dE P "__doc__" 466 .none, dE P "__hash__" 467 .none] : List DictEntry).toArray) 5), #[]⟩
def o16_231 : Obj := ⟨(.type "type"), none, (.cls ⟨(σ "Column"), [(.type "object")], [(ρ 231), (.type "object")], 230, (σ "Column"), true, [], [], false, none, false⟩), (([none, none, (some (τ "Column" 368)), (some (τ "Column" 376)), (some (.builtin "object.__new__")), (some (.bool true))] : List (Option Value)).toArray)⟩
def o16_232 : Obj := fi "getset_descriptor" [(τ "__dict__" 462), (ρ 231), (.builtin "function.__dict__"), (.builtin "function.__dict__#set")]
def o16_233 : Obj := fi "getset_descriptor" [(τ "__weakref__" 464), (ρ 231), (.builtin "ExceptionGroup.__weakref__"), .none]
def o16_234 : Obj := fi "super" [(ρ 231), (ρ 231), (ρ 231)]
def o16_235 : Obj := fi "builtin_function_or_method" [(.builtin "object.__init_subclass__"), (ρ 231)]
def tr16 (P : Params) : PySem.W.BT := (nd (PySem.W.boot_o_0 P) (nd (PySem.W.boot_o_1 P) (nd (o16_3 P) (nd (PySem.W.boot_o_7 P) (nd o16_15 (nd o16_31 (nd o16_63 (lf o16_127) (lf o16_191)) (nd o16_95 (lf o16_159) (lf o16_223))) (nd o16_47 (nd (o16_79 P) (lf o16_143) (lf o16_207)) (nd o16_111 (lf o16_175) .nil))) (nd o16_23 (nd o16_39 (nd o16_71 (lf o16_135) (lf o16_199)) (nd o16_103 (lf o16_167) (lf o16_231))) (nd (o16_55 P) (nd o16_87 (lf o16_151) (lf o16_215)) (nd o16_119 (lf o16_183) .nil)))) (nd oa_11 (nd o16_19 (nd o16_35 (nd (o16_67 P) (lf o16_131) (lf o16_195)) (nd o16_99 (lf o16_163) (lf o16_227))) (nd o16_51 (nd o16_83 (lf o16_147) (lf o16_211)) (nd o16_115 (lf o16_179) .nil))) (nd o16_27 (nd (o16_43 P) (nd o16_75 (lf o16_139) (lf o16_203)) (nd o16_107 (lf o16_171) (lf o16_235))) (nd o16_59 (nd (o16_91 P) (lf o16_155) (lf o16_219)) (nd o16_123 (lf o16_187) .nil))))) (nd (PySem.W.boot_o_5 P) (nd (PySem.W.boot_o_9 P) (nd o16_17 (nd o16_33 (nd o16_65 (lf o16_129) (lf o16_193)) (nd (o16_97 P) (lf o16_161) (lf o16_225))) (nd (o16_49 P) (nd o16_81 (lf o16_145) (lf o16_209)) (nd o16_113 (lf o16_177) .nil))) (nd o16_25 (nd o16_41 (nd (o16_73 P) (lf o16_137) (lf o16_201)) (nd o16_105 (lf o16_169) (lf o16_233))) (nd o16_57 (nd o16_89 (lf o16_153) (lf o16_217)) (nd o16_121 (lf o16_185) .nil)))) (nd oa_13 (nd o16_21 (nd (o16_37 P) (nd o16_69 (lf o16_133) (lf o16_197)) (nd o16_101 (lf o16_165) (lf o16_229))) (nd o16_53 (nd (o16_85 P) (lf (o16_149 P)) (lf o16_213)) (nd o16_117 (lf o16_181) .nil))) (nd o16_29 (nd o16_45 (nd o16_77 (lf o16_141) (lf o16_205)) (nd o16_109 (lf o16_173) .nil)) (nd (o16_61 P) (nd o16_93 (lf o16_157) (lf o16_221)) (nd o16_125 (lf o16_189) .nil)))))) (nd (PySem.W.boot_o_2 P) (nd (PySem.W.boot_o_4 P) (nd (PySem.W.boot_o_8 P) (nd o16_16 (nd o16_32 (nd o16_64 (lf o16_128) (lf o16_192)) (nd o16_96 (lf o16_160) (lf o16_224))) (nd o16_48 (nd o16_80 (lf o16_144) (lf o16_208)) (nd (o16_112 P) (lf o16_176) .nil))) (nd (o16_24 P) (nd o16_40 (nd o16_72 (lf (o16_136 P)) (lf o16_200)) (nd o16_104 (lf o16_168) (lf o16_232))) (nd o16_56 (nd o16_88 (lf o16_152) (lf o16_216)) (nd o16_120 (lf o16_184) .nil)))) (nd o16_12 (nd o16_20 (nd o16_36 (nd o16_68 (lf o16_132) (lf o16_196)) (nd o16_100 (lf o16_164) (lf o16_228))) (nd o16_52 (nd o16_84 (lf o16_148) (lf o16_212)) (nd o16_116 (lf o16_180) .nil))) (nd o16_28 (nd o16_44 (nd o16_76 (lf o16_140) (lf o16_204)) (nd o16_108 (lf o16_172) .nil)) (nd o16_60 (nd o16_92 (lf o16_156) (lf o16_220)) (nd (o16_124 P) (lf o16_188) .nil))))) (nd (PySem.W.boot_o_6 P) (nd (PySem.W.boot_o_10 P) (nd o16_18 (nd o16_34 (nd o16_66 (lf (o16_130 P)) (lf o16_194)) (nd o16_98 (lf o16_162) (lf o16_226))) (nd o16_50 (nd o16_82 (lf o16_146) (lf o16_210)) (nd o16_114 (lf o16_178) .nil))) (nd o16_26 (nd o16_42 (nd o16_74 (lf o16_138) (lf o16_202)) (nd o16_106 (lf o16_170) (lf o16_234))) (nd o16_58 (nd o16_90 (lf o16_154) (lf o16_218)) (nd o16_122 (lf o16_186) .nil)))) (nd oa_14 (nd o16_22 (nd o16_38 (nd o16_70 (lf o16_134) (lf o16_198)) (nd o16_102 (lf o16_166) (lf (o16_230 P)))) (nd o16_54 (nd o16_86 (lf o16_150) (lf o16_214)) (nd (o16_118 P) (lf o16_182) .nil))) (nd (o16_30 P) (nd o16_46 (nd o16_78 (lf o16_142) (lf o16_206)) (nd o16_110 (lf o16_174) .nil)) (nd o16_62 (nd o16_94 (lf o16_158) (lf o16_222)) (nd o16_126 (lf o16_190) .nil)))))))
def S16 (w : World) (os : OsState) : SharedT := ⟨tr16 w.params, 236, ⟨[], [], [], 0, [], [], false, #[], [], 0, false, false, false, 0, [2000, 10, 10], false, 0, true, [], [], 0, false⟩, #[], ⟨0, 0, 0, 0⟩, 470, os⟩
def pos16 : Pos := ⟨31, 0, 70, 16⟩
def o46_3 (P : Params) : Obj := ⟨(.type "dict"), none, (.dict (((dE P "__name__" 165 (τ "law_bucketsums_k69_edges_hunt" 787) :: dE P "__doc__" 166 .none :: dE P "__package__" 167 .none :: dE P "__loader__" 168 (.builtin "__main__.__loader__#opaque") :: dE P "__spec__" 169 .none :: dE P "__annotations__" 170 (ρ 6) :: dE P "__builtins__" 171 (ρ 4) :: dE P "__file__" 173 (τ "/claim/cut.py" 172) :: dE P "__cached__" 174 .none :: dE P "_wall" 193 (ρ 21) :: dE P "SumError" 213 (ρ 31) :: dE P "BadCounts" 229 (ρ 44) :: dE P "BadColumn" 245 (ρ 56) :: dE P "BadValue" 261 (ρ 68) :: dE P "BadHistogram" 277 (ρ 80) :: dE P "BadNumber" 293 (ρ 92) :: dE P "BadStream" 320 (ρ 113) :: dE P "BadCounters" 336 (ρ 125) :: dE P "Unlike" 352 (ρ 137) :: dE P "MOST_VALUES" 356 (.int 12 355) :: dE P "MOST_COUNT" 358 (.int 9 357) :: dE P "is_number" 367 (ρ 146) :: dE P "Column" 469 (ρ 231) :: dE P "check_column" 476 (ρ 242) :: dE P "check_number" 485 (ρ 249) :: dE P "MOST_LENGTH" 489 (.int 30 488) :: dE P "MOST_COUNTERS" 491 (.int 6 490) :: dE P "check_stream" 501 (ρ 256) :: dE P "Crossed" 544 (ρ 283) :: dE P "is_group" 550 (ρ 292) :: dE P "counts_of" 559 (ρ 299) :: dE P "are_counters" 565 (ρ 304) :: dE P "merge" 571 (ρ 309) :: dE P "check_like" 581 (ρ 316) :: dE P "falling" 588 (ρ 323) :: dE P "Evener" 630 (ρ 350) :: dE P "Uneven" 677 (ρ 385) :: dE P "gap_of" 683 (ρ 394) :: dE P "judge_evener" 689 (ρ 399) :: dE P "is_evener" 697 (ρ 406) :: dE P "fewest_transfers" 705 (ρ 413) :: dE P "are_cuts" 713 (ρ 418) :: dE P "buckets_of" 721 (ρ 425) :: dE P "Histogram" 786 (ρ 470) :: dE P "_law_is_refused" 797 (ρ 481) :: dE P "_law_counters_right" 803 (ρ 486) :: dE P "_law_transfers_right" 812 (ρ 493) :: dE P "_law_totals_right" 819 (ρ 500) :: dE P "law" 825 (ρ 505) :: []) : List DictEntry).toArray) 49), #[]⟩
def o46_12 : Obj := fn0 ((ι 1) :: (ι 0) :: (ρ 20) :: (ι 5) :: (ι 0) :: (ρ 27) :: (ι 7) :: (ι 0) :: (ρ 40) :: (ι 9) :: (ι 0) :: (ρ 52) :: (ι 11) :: (ι 0) :: (ρ 64) :: (ι 13) :: (ι 0) :: (ρ 76) :: (ι 15) :: (ι 0) :: (ρ 88) :: (ι 17) :: (ι 0) :: (ρ 101) :: (ι 22) :: (ι 0) :: (ρ 121) :: (ι 24) :: (ι 0) :: (ρ 133) :: (ι 29) :: (ι 0) :: (ρ 145) :: (ι 31) :: (ι 0) :: (ρ 152) :: (ι 71) :: (ι 0) :: (ρ 241) :: (ι 74) :: (ι 0) :: (ρ 248) :: (ι 80) :: (ι 0) :: (ρ 255) :: (ι 87) :: (ι 0) :: (ρ 262) :: (ι 104) :: (ι 0) :: (ρ 291) :: (ι 108) :: (ι 0) :: (ρ 298) :: (ι 113) :: (ι 0) :: (ρ 303) :: (ι 119) :: (ι 0) :: (ρ 308) :: (ι 127) :: (ι 0) :: (ρ 315) :: (ι 132) :: (ι 0) :: (ρ 322) :: (ι 134) :: (ι 0) :: (ρ 329) :: (ι 153) :: (ι 0) :: (ρ 360) :: (ι 166) :: (ι 0) :: (ρ 393) :: (ι 168) :: (ι 0) :: (ρ 398) :: (ι 181) :: (ι 0) :: (ρ 405) :: (ι 183) :: (ι 0) :: (ρ 412) :: (ι 186) :: (ι 0) :: (ρ 417) :: (ι 192) :: (ι 0) :: (ρ 424) :: (ι 194) :: (ι 0) :: (ρ 431) :: (ι 220) :: (ι 0) :: (ρ 480) :: (ι 226) :: (ι 0) :: (ρ 485) :: (ι 234) :: (ι 0) :: (ρ 492) :: (ι 239) :: (ι 0) :: (ρ 499) :: (ι 245) :: (ι 0) :: (ρ 504) :: [])
def o46_236 : Obj := tu0
def o46_237 : Obj := fi0
def o46_238 : Obj := tu [(τ "column" 473)]
def o46_239 : Obj := tu0
def o46_240 : Obj := fv "check_column" "check_column" (top 16)
def o46_241 : Obj := fi "code" [(τ "check_column" 470), (τ "check_column" 471), (τ "/claim/cut.py" 472), (ι 71), (ι 1), (ι 0), (ι 0), (ι 3), (ρ 236), (.bool true), (ι 181), (ρ 237), .none, (ρ 238), (ρ 239), (ρ 240), (ι 474), (ι 71), (τ "/claim/cut.py" 475)]
def o46_242 : Obj := fu "check_column" "check_column" (top 16) (τ "bucketsums.columns" 353) (ρ 241)
def o46_243 : Obj := tu0
def o46_244 : Obj := fi0
def o46_245 : Obj := tu [(τ "thing" 480), (τ "least" 481), (τ "most" 482)]
def o46_246 : Obj := tu0
def o46_247 : Obj := fv "check_number" "check_number" (top 17)
def o46_248 : Obj := fi "code" [(τ "check_number" 477), (τ "check_number" 478), (τ "/claim/cut.py" 479), (ι 74), (ι 3), (ι 0), (ι 0), (ι 3), (ρ 243), (.bool true), (ι 181), (ρ 244), .none, (ρ 245), (ρ 246), (ρ 247), (ι 483), (ι 74), (τ "/claim/cut.py" 484)]
def o46_249 : Obj := fu "check_number" "check_number" (top 17) (τ "bucketsums.columns" 353) (ρ 248)
def o46_250 : Obj := tu0
def o46_251 : Obj := fi0
def o46_252 : Obj := tu [(τ "stream" 495), (τ "counters" 496), (τ "index" 497), (τ "value" 498)]
def o46_253 : Obj := tu0
def o46_254 : Obj := fv "check_stream" "check_stream" (top 21)
def o46_255 : Obj := fi "code" [(τ "check_stream" 492), (τ "check_stream" 493), (τ "/claim/cut.py" 494), (ι 80), (ι 2), (ι 0), (ι 0), (ι 3), (ρ 250), (.bool true), (ι 181), (ρ 251), .none, (ρ 252), (ρ 253), (ρ 254), (ι 499), (ι 80), (τ "/claim/cut.py" 500)]
def o46_256 : Obj := fu "check_stream" "check_stream" (top 21) (τ "bucketsums.crossing" 486) (ρ 255)
def o46_257 : Obj := tu0
def o46_258 : Obj := fi "builtin_function_or_method" [(.builtin "type.__prepare__"), (.type "type")]
def o46_259 (P : Params) : Obj := ⟨(.type "dict"), none, (.dict (([dE P "__module__" 509 (τ "bucketsums.crossing" 486), dE P "__qualname__" 511 (τ "Crossed" 510), dE P "__firstlineno__" 513 (.int 87 512), dE P "__init__" 519 (ρ 268), dE P "__eq__" 527 (ρ 275), dE P "shows" 533 (ρ 280), dE P "__static_attributes__" 536 (ρ 281)] : List DictEntry).toArray) 7), #[]⟩
def o46_260 : Obj := tu0
def o46_261 : Obj := fn0 [(ι 89), (ι 4), (ρ 267), (ι 93), (ι 4), (ρ 274), (ι 96), (ι 4), (ρ 279)]
def o46_262 : Obj := fi "code" [(τ "Crossed" 504), (τ "Crossed" 505), (τ "/claim/cut.py" 506), (ι 87), (ι 0), (ι 0), (ι 0), (ι 0), (ρ 260), (.bool false), (ι 181), (ρ 261), .none, .none, .none, .none, (ι 507), (ι 87), (τ "/claim/cut.py" 508)]
def o46_263 : Obj := ⟨(.type "frame"), none, .plain, (([(some (ρ 262)), (some (ρ 3)), (some (ρ 259)), none, (some (τ "bucketsums.crossing" 486)), none, (some (ρ 0))] : List (Option Value)).toArray)⟩
def o46_264 : Obj := tu0
def o46_265 : Obj := fi0
def o46_266 : Obj := fv "__init__" "Crossed.__init__" (L2.inClass (top 22) 0)
def o46_267 : Obj := fi "code" [(τ "__init__" 514), (τ "Crossed.__init__" 515), (τ "/claim/cut.py" 516), (ι 89), (ι 3), (ι 0), (ι 0), (ι 3), (ρ 264), (.bool true), (ι 181), (ρ 265), .none, .none, .none, (ρ 266), (ι 517), (ι 89), (τ "/claim/cut.py" 518)]
def o46_268 : Obj := fu "__init__" "Crossed.__init__" (L2.inClass (top 22) 0) (τ "bucketsums.crossing" 486) (ρ 267)
def o46_269 : Obj := tu0
def o46_270 : Obj := fi0
def o46_271 : Obj := tu [(τ "self" 523), (τ "other" 524)]
def o46_272 : Obj := tu0
def o46_273 : Obj := fv "__eq__" "Crossed.__eq__" (L2.inClass (top 22) 1)
def o46_274 : Obj := fi "code" [(τ "__eq__" 520), (τ "Crossed.__eq__" 521), (τ "/claim/cut.py" 522), (ι 93), (ι 2), (ι 0), (ι 0), (ι 3), (ρ 269), (.bool true), (ι 181), (ρ 270), .none, (ρ 271), (ρ 272), (ρ 273), (ι 525), (ι 93), (τ "/claim/cut.py" 526)]
def o46_275 : Obj := fu "__eq__" "Crossed.__eq__" (L2.inClass (top 22) 1) (τ "bucketsums.crossing" 486) (ρ 274)
def o46_276 : Obj := tu0
def o46_277 : Obj := fi0
def o46_278 : Obj := fv "shows" "Crossed.shows" (L2.inClass (top 22) 2)
def o46_279 : Obj := fi "code" [(τ "shows" 528), (τ "Crossed.shows" 529), (τ "/claim/cut.py" 530), (ι 96), (ι 3), (ι 0), (ι 0), (ι 3), (ρ 276), (.bool true), (ι 181), (ρ 277), .none, .none, .none, (ρ 278), (ι 531), (ι 96), (τ "/claim/cut.py" 532)]
def o46_280 : Obj := fu "shows" "Crossed.shows" (L2.inClass (top 22) 2) (τ "bucketsums.crossing" 486) (ρ 279)
def o46_281 : Obj := tu [(τ "counters" 534), (τ "groups" 535)]
def o46_282 (P : Params) : Obj := ⟨(.type "dict"), none, (.dict (([dE P "__module__" 509 (τ "bucketsums.crossing" 486), dE P "__firstlineno__" 513 (.int 87 512), dE P "__init__" 519 (ρ 268), dE P "__eq__" 527 (ρ 275), dE P "shows" 533 (ρ 280), dE P "__static_attributes__" 536 (ρ 281), dE P "__dict__" 538 (ρ 284), dE P "__weakref__" 540 (ρ 285), dE P "__doc__" 541 .none, dE P "__hash__" 542 .none] : List DictEntry).toArray) 5), #[]⟩
def o46_283 : Obj := ⟨(.type "type"), none, (.cls ⟨(σ "Crossed"), [(.type "object")], [(ρ 283), (.type "object")], 282, (σ "Crossed"), true, [], [], false, none, false⟩), (([none, none, (some (τ "Crossed" 502)), (some (τ "Crossed" 510)), (some (.builtin "object.__new__")), (some (.bool true))] : List (Option Value)).toArray)⟩
def o46_284 : Obj := fi "getset_descriptor" [(τ "__dict__" 537), (ρ 283), (.builtin "function.__dict__"), (.builtin "function.__dict__#set")]
def o46_285 : Obj := fi "getset_descriptor" [(τ "__weakref__" 539), (ρ 283), (.builtin "ExceptionGroup.__weakref__"), .none]
def o46_286 : Obj := fi "super" [(ρ 283), (ρ 283), (ρ 283)]
def o46_287 : Obj := fi "builtin_function_or_method" [(.builtin "object.__init_subclass__"), (ρ 283)]
def o46_288 : Obj := tu0
def o46_289 : Obj := fi0
def o46_290 : Obj := fv "is_group" "is_group" (top 23)
def o46_291 : Obj := fi "code" [(τ "is_group" 545), (τ "is_group" 546), (τ "/claim/cut.py" 547), (ι 104), (ι 3), (ι 0), (ι 0), (ι 3), (ρ 288), (.bool true), (ι 181), (ρ 289), .none, .none, .none, (ρ 290), (ι 548), (ι 104), (τ "/claim/cut.py" 549)]
def o46_292 : Obj := fu "is_group" "is_group" (top 23) (τ "bucketsums.crossing" 486) (ρ 291)
def o46_293 : Obj := tu0
def o46_294 : Obj := fi0
def o46_295 : Obj := tu [(τ "rows" 554), (τ "found" 555), (τ "value" 556)]
def o46_296 : Obj := tu0
def o46_297 : Obj := fv "counts_of" "counts_of" (top 24)
def o46_298 : Obj := fi "code" [(τ "counts_of" 551), (τ "counts_of" 552), (τ "/claim/cut.py" 553), (ι 108), (ι 1), (ι 0), (ι 0), (ι 3), (ρ 293), (.bool true), (ι 181), (ρ 294), .none, (ρ 295), (ρ 296), (ρ 297), (ι 557), (ι 108), (τ "/claim/cut.py" 558)]
def o46_299 : Obj := fu "counts_of" "counts_of" (top 24) (τ "bucketsums.crossing" 486) (ρ 298)
def o46_300 : Obj := tu0
def o46_301 : Obj := fi0
def o46_302 : Obj := fv "are_counters" "are_counters" (top 25)
def o46_303 : Obj := fi "code" [(τ "are_counters" 560), (τ "are_counters" 561), (τ "/claim/cut.py" 562), (ι 113), (ι 2), (ι 0), (ι 0), (ι 3), (ρ 300), (.bool true), (ι 181), (ρ 301), .none, .none, .none, (ρ 302), (ι 563), (ι 113), (τ "/claim/cut.py" 564)]
def o46_304 : Obj := fu "are_counters" "are_counters" (top 25) (τ "bucketsums.crossing" 486) (ρ 303)
def o46_305 : Obj := tu0
def o46_306 : Obj := fi0
def o46_307 : Obj := fv "merge" "merge" (top 26)
def o46_308 : Obj := fi "code" [(τ "merge" 566), (τ "merge" 567), (τ "/claim/cut.py" 568), (ι 119), (ι 3), (ι 0), (ι 0), (ι 3), (ρ 305), (.bool true), (ι 181), (ρ 306), .none, .none, .none, (ρ 307), (ι 569), (ι 119), (τ "/claim/cut.py" 570)]
def o46_309 : Obj := fu "merge" "merge" (top 26) (τ "bucketsums.crossing" 486) (ρ 308)
def o46_310 : Obj := tu0
def o46_311 : Obj := fi0
def o46_312 : Obj := tu [(τ "one" 577), (τ "other" 578)]
def o46_313 : Obj := tu0
def o46_314 : Obj := fv "check_like" "check_like" (top 28)
def o46_315 : Obj := fi "code" [(τ "check_like" 574), (τ "check_like" 575), (τ "/claim/cut.py" 576), (ι 127), (ι 2), (ι 0), (ι 0), (ι 3), (ρ 310), (.bool true), (ι 181), (ρ 311), .none, (ρ 312), (ρ 313), (ρ 314), (ι 579), (ι 127), (τ "/claim/cut.py" 580)]
def o46_316 : Obj := fu "check_like" "check_like" (top 28) (τ "bucketsums.evener" 572) (ρ 315)
def o46_317 : Obj := tu0
def o46_318 : Obj := fi0
def o46_319 : Obj := tu [(τ "column" 585)]
def o46_320 : Obj := tu0
def o46_321 : Obj := fv "falling" "falling" (top 29)
def o46_322 : Obj := fi "code" [(τ "falling" 582), (τ "falling" 583), (τ "/claim/cut.py" 584), (ι 132), (ι 1), (ι 0), (ι 0), (ι 3), (ρ 317), (.bool true), (ι 181), (ρ 318), .none, (ρ 319), (ρ 320), (ρ 321), (ι 586), (ι 132), (τ "/claim/cut.py" 587)]
def o46_323 : Obj := fu "falling" "falling" (top 29) (τ "bucketsums.evener" 572) (ρ 322)
def o46_324 : Obj := tu0
def o46_325 : Obj := fi "builtin_function_or_method" [(.builtin "type.__prepare__"), (.type "type")]
def o46_326 (P : Params) : Obj := ⟨(.type "dict"), none, (.dict (([dE P "__module__" 596 (τ "bucketsums.evener" 572), dE P "__qualname__" 598 (τ "Evener" 597), dE P "__firstlineno__" 600 (.int 134 599), dE P "__init__" 606 (ρ 335), dE P "__eq__" 614 (ρ 342), dE P "shows" 620 (ρ 347), dE P "__static_attributes__" 622 (ρ 348)] : List DictEntry).toArray) 7), #[]⟩
def o46_327 : Obj := tu0
def o46_328 : Obj := fn0 [(ι 136), (ι 4), (ρ 334), (ι 139), (ι 4), (ρ 341), (ι 142), (ι 4), (ρ 346)]
def o46_329 : Obj := fi "code" [(τ "Evener" 591), (τ "Evener" 592), (τ "/claim/cut.py" 593), (ι 134), (ι 0), (ι 0), (ι 0), (ι 0), (ρ 327), (.bool false), (ι 181), (ρ 328), .none, .none, .none, .none, (ι 594), (ι 134), (τ "/claim/cut.py" 595)]
def o46_330 : Obj := ⟨(.type "frame"), none, .plain, (([(some (ρ 329)), (some (ρ 3)), (some (ρ 326)), none, (some (τ "bucketsums.evener" 572)), none, (some (ρ 0))] : List (Option Value)).toArray)⟩
def o46_331 : Obj := tu0
def o46_332 : Obj := fi0
def o46_333 : Obj := fv "__init__" "Evener.__init__" (L2.inClass (top 30) 0)
def o46_334 : Obj := fi "code" [(τ "__init__" 601), (τ "Evener.__init__" 602), (τ "/claim/cut.py" 603), (ι 136), (ι 2), (ι 0), (ι 0), (ι 3), (ρ 331), (.bool true), (ι 181), (ρ 332), .none, .none, .none, (ρ 333), (ι 604), (ι 136), (τ "/claim/cut.py" 605)]
def o46_335 : Obj := fu "__init__" "Evener.__init__" (L2.inClass (top 30) 0) (τ "bucketsums.evener" 572) (ρ 334)
def o46_336 : Obj := tu0
def o46_337 : Obj := fi0
def o46_338 : Obj := tu [(τ "self" 610), (τ "other" 611)]
def o46_339 : Obj := tu0
def o46_340 : Obj := fv "__eq__" "Evener.__eq__" (L2.inClass (top 30) 1)
def o46_341 : Obj := fi "code" [(τ "__eq__" 607), (τ "Evener.__eq__" 608), (τ "/claim/cut.py" 609), (ι 139), (ι 2), (ι 0), (ι 0), (ι 3), (ρ 336), (.bool true), (ι 181), (ρ 337), .none, (ρ 338), (ρ 339), (ρ 340), (ι 612), (ι 139), (τ "/claim/cut.py" 613)]
def o46_342 : Obj := fu "__eq__" "Evener.__eq__" (L2.inClass (top 30) 1) (τ "bucketsums.evener" 572) (ρ 341)
def o46_343 : Obj := tu0
def o46_344 : Obj := fi0
def o46_345 : Obj := fv "shows" "Evener.shows" (L2.inClass (top 30) 2)
def o46_346 : Obj := fi "code" [(τ "shows" 615), (τ "Evener.shows" 616), (τ "/claim/cut.py" 617), (ι 142), (ι 3), (ι 0), (ι 0), (ι 3), (ρ 343), (.bool true), (ι 181), (ρ 344), .none, .none, .none, (ρ 345), (ι 618), (ι 142), (τ "/claim/cut.py" 619)]
def o46_347 : Obj := fu "shows" "Evener.shows" (L2.inClass (top 30) 2) (τ "bucketsums.evener" 572) (ρ 346)
def o46_348 : Obj := tu [(τ "transfers" 621)]
def o46_349 (P : Params) : Obj := ⟨(.type "dict"), none, (.dict (([dE P "__module__" 596 (τ "bucketsums.evener" 572), dE P "__firstlineno__" 600 (.int 134 599), dE P "__init__" 606 (ρ 335), dE P "__eq__" 614 (ρ 342), dE P "shows" 620 (ρ 347), dE P "__static_attributes__" 622 (ρ 348), dE P "__dict__" 624 (ρ 351), dE P "__weakref__" 626 (ρ 352), dE P "__doc__" 627 .none, dE P "__hash__" 628 .none] : List DictEntry).toArray) 5), #[]⟩
def o46_350 : Obj := ⟨(.type "type"), none, (.cls ⟨(σ "Evener"), [(.type "object")], [(ρ 350), (.type "object")], 349, (σ "Evener"), true, [], [], false, none, false⟩), (([none, none, (some (τ "Evener" 589)), (some (τ "Evener" 597)), (some (.builtin "object.__new__")), (some (.bool true))] : List (Option Value)).toArray)⟩
def o46_351 : Obj := fi "getset_descriptor" [(τ "__dict__" 623), (ρ 350), (.builtin "function.__dict__"), (.builtin "function.__dict__#set")]
def o46_352 : Obj := fi "getset_descriptor" [(τ "__weakref__" 625), (ρ 350), (.builtin "ExceptionGroup.__weakref__"), .none]
def o46_353 : Obj := fi "super" [(ρ 350), (ρ 350), (ρ 350)]
def o46_354 : Obj := fi "builtin_function_or_method" [(.builtin "object.__init_subclass__"), (ρ 350)]
def o46_355 : Obj := tu0
def o46_356 : Obj := fi "builtin_function_or_method" [(.builtin "type.__prepare__"), (.type "type")]
def o46_357 (P : Params) : Obj := ⟨(.type "dict"), none, (.dict (([dE P "__module__" 638 (τ "bucketsums.evener" 572), dE P "__qualname__" 640 (τ "Uneven" 639), dE P "__firstlineno__" 642 (.int 153 641), dE P "__init__" 650 (ρ 368), dE P "__eq__" 658 (ρ 375), dE P "shows" 667 (ρ 382), dE P "__static_attributes__" 669 (ρ 383)] : List DictEntry).toArray) 7), #[]⟩
def o46_358 : Obj := tu0
def o46_359 : Obj := fn0 [(ι 155), (ι 4), (ρ 367), (ι 158), (ι 4), (ρ 374), (ι 161), (ι 4), (ρ 381)]
def o46_360 : Obj := fi "code" [(τ "Uneven" 633), (τ "Uneven" 634), (τ "/claim/cut.py" 635), (ι 153), (ι 0), (ι 0), (ι 0), (ι 0), (ρ 358), (.bool false), (ι 181), (ρ 359), .none, .none, .none, .none, (ι 636), (ι 153), (τ "/claim/cut.py" 637)]
def o46_361 : Obj := ⟨(.type "frame"), none, .plain, (([(some (ρ 360)), (some (ρ 3)), (some (ρ 357)), none, (some (τ "bucketsums.evener" 572)), none, (some (ρ 0))] : List (Option Value)).toArray)⟩
def o46_362 : Obj := tu0
def o46_363 : Obj := fi0
def o46_364 : Obj := tu [(τ "self" 646), (τ "many" 647)]
def o46_365 : Obj := tu0
def o46_366 : Obj := fv "__init__" "Uneven.__init__" (L2.inClass (top 31) 0)
def o46_367 : Obj := fi "code" [(τ "__init__" 643), (τ "Uneven.__init__" 644), (τ "/claim/cut.py" 645), (ι 155), (ι 2), (ι 0), (ι 0), (ι 3), (ρ 362), (.bool true), (ι 181), (ρ 363), .none, (ρ 364), (ρ 365), (ρ 366), (ι 648), (ι 155), (τ "/claim/cut.py" 649)]
def o46_368 : Obj := fu "__init__" "Uneven.__init__" (L2.inClass (top 31) 0) (τ "bucketsums.evener" 572) (ρ 367)
def o46_369 : Obj := tu0
def o46_370 : Obj := fi0
def o46_371 : Obj := tu [(τ "self" 654), (τ "other" 655)]
def o46_372 : Obj := tu0
def o46_373 : Obj := fv "__eq__" "Uneven.__eq__" (L2.inClass (top 31) 1)
def o46_374 : Obj := fi "code" [(τ "__eq__" 651), (τ "Uneven.__eq__" 652), (τ "/claim/cut.py" 653), (ι 158), (ι 2), (ι 0), (ι 0), (ι 3), (ρ 369), (.bool true), (ι 181), (ρ 370), .none, (ρ 371), (ρ 372), (ρ 373), (ι 656), (ι 158), (τ "/claim/cut.py" 657)]
def o46_375 : Obj := fu "__eq__" "Uneven.__eq__" (L2.inClass (top 31) 1) (τ "bucketsums.evener" 572) (ρ 374)
def o46_376 : Obj := tu0
def o46_377 : Obj := fi0
def o46_378 : Obj := tu [(τ "self" 662), (τ "one" 663), (τ "other" 664)]
def o46_379 : Obj := tu0
def o46_380 : Obj := fv "shows" "Uneven.shows" (L2.inClass (top 31) 2)
def o46_381 : Obj := fi "code" [(τ "shows" 659), (τ "Uneven.shows" 660), (τ "/claim/cut.py" 661), (ι 161), (ι 3), (ι 0), (ι 0), (ι 3), (ρ 376), (.bool true), (ι 181), (ρ 377), .none, (ρ 378), (ρ 379), (ρ 380), (ι 665), (ι 161), (τ "/claim/cut.py" 666)]
def o46_382 : Obj := fu "shows" "Uneven.shows" (L2.inClass (top 31) 2) (τ "bucketsums.evener" 572) (ρ 381)
def o46_383 : Obj := tu [(τ "many" 668)]
def o46_384 (P : Params) : Obj := ⟨(.type "dict"), none, (.dict (([dE P "__module__" 638 (τ "bucketsums.evener" 572), dE P "__firstlineno__" 642 (.int 153 641), dE P "__init__" 650 (ρ 368), dE P "__eq__" 658 (ρ 375), dE P "shows" 667 (ρ 382), dE P "__static_attributes__" 669 (ρ 383), dE P "__dict__" 671 (ρ 386), dE P "__weakref__" 673 (ρ 387), dE P "__doc__" 674 .none, dE P "__hash__" 675 .none] : List DictEntry).toArray) 5), #[]⟩
def o46_385 : Obj := ⟨(.type "type"), none, (.cls ⟨(σ "Uneven"), [(.type "object")], [(ρ 385), (.type "object")], 384, (σ "Uneven"), true, [], [], false, none, false⟩), (([none, none, (some (τ "Uneven" 631)), (some (τ "Uneven" 639)), (some (.builtin "object.__new__")), (some (.bool true))] : List (Option Value)).toArray)⟩
def o46_386 : Obj := fi "getset_descriptor" [(τ "__dict__" 670), (ρ 385), (.builtin "function.__dict__"), (.builtin "function.__dict__#set")]
def o46_387 : Obj := fi "getset_descriptor" [(τ "__weakref__" 672), (ρ 385), (.builtin "ExceptionGroup.__weakref__"), .none]
def o46_388 : Obj := fi "super" [(ρ 385), (ρ 385), (ρ 385)]
def o46_389 : Obj := fi "builtin_function_or_method" [(.builtin "object.__init_subclass__"), (ρ 385)]
def o46_390 : Obj := tu0
def o46_391 : Obj := fi0
def o46_392 : Obj := fv "gap_of" "gap_of" (top 32)
def o46_393 : Obj := fi "code" [(τ "gap_of" 678), (τ "gap_of" 679), (τ "/claim/cut.py" 680), (ι 166), (ι 2), (ι 0), (ι 0), (ι 3), (ρ 390), (.bool true), (ι 181), (ρ 391), .none, .none, .none, (ρ 392), (ι 681), (ι 166), (τ "/claim/cut.py" 682)]
def o46_394 : Obj := fu "gap_of" "gap_of" (top 32) (τ "bucketsums.evener" 572) (ρ 393)
def o46_395 : Obj := tu0
def o46_396 : Obj := fi0
def o46_397 : Obj := fv "judge_evener" "judge_evener" (top 33)
def o46_398 : Obj := fi "code" [(τ "judge_evener" 684), (τ "judge_evener" 685), (τ "/claim/cut.py" 686), (ι 168), (ι 2), (ι 0), (ι 0), (ι 3), (ρ 395), (.bool true), (ι 181), (ρ 396), .none, .none, .none, (ρ 397), (ι 687), (ι 168), (τ "/claim/cut.py" 688)]
def o46_399 : Obj := fu "judge_evener" "judge_evener" (top 33) (τ "bucketsums.evener" 572) (ρ 398)
def o46_400 : Obj := tu0
def o46_401 : Obj := fi0
def o46_402 : Obj := tu [(τ "one" 693), (τ "other" 694)]
def o46_403 : Obj := tu0
def o46_404 : Obj := fv "is_evener" "is_evener" (top 34)
def o46_405 : Obj := fi "code" [(τ "is_evener" 690), (τ "is_evener" 691), (τ "/claim/cut.py" 692), (ι 181), (ι 2), (ι 0), (ι 0), (ι 3), (ρ 400), (.bool true), (ι 181), (ρ 401), .none, (ρ 402), (ρ 403), (ρ 404), (ι 695), (ι 181), (τ "/claim/cut.py" 696)]
def o46_406 : Obj := fu "is_evener" "is_evener" (top 34) (τ "bucketsums.evener" 572) (ρ 405)
def o46_407 : Obj := tu0
def o46_408 : Obj := fi0
def o46_409 : Obj := tu [(τ "one" 701), (τ "other" 702)]
def o46_410 : Obj := tu0
def o46_411 : Obj := fv "fewest_transfers" "fewest_transfers" (top 35)
def o46_412 : Obj := fi "code" [(τ "fewest_transfers" 698), (τ "fewest_transfers" 699), (τ "/claim/cut.py" 700), (ι 183), (ι 2), (ι 0), (ι 0), (ι 3), (ρ 407), (.bool true), (ι 181), (ρ 408), .none, (ρ 409), (ρ 410), (ρ 411), (ι 703), (ι 183), (τ "/claim/cut.py" 704)]
def o46_413 : Obj := fu "fewest_transfers" "fewest_transfers" (top 35) (τ "bucketsums.evener" 572) (ρ 412)
def o46_414 : Obj := tu0
def o46_415 : Obj := fi0
def o46_416 : Obj := fv "are_cuts" "are_cuts" (top 37)
def o46_417 : Obj := fi "code" [(τ "are_cuts" 708), (τ "are_cuts" 709), (τ "/claim/cut.py" 710), (ι 186), (ι 2), (ι 0), (ι 0), (ι 3), (ρ 414), (.bool true), (ι 181), (ρ 415), .none, .none, .none, (ρ 416), (ι 711), (ι 186), (τ "/claim/cut.py" 712)]
def o46_418 : Obj := fu "are_cuts" "are_cuts" (top 37) (τ "bucketsums.histograms" 706) (ρ 417)
def o46_419 : Obj := tu0
def o46_420 : Obj := fi0
def o46_421 : Obj := tu [(τ "values" 717), (τ "cuts" 718)]
def o46_422 : Obj := tu0
def o46_423 : Obj := fv "buckets_of" "buckets_of" (top 38)
def o46_424 : Obj := fi "code" [(τ "buckets_of" 714), (τ "buckets_of" 715), (τ "/claim/cut.py" 716), (ι 192), (ι 2), (ι 0), (ι 0), (ι 3), (ρ 419), (.bool true), (ι 181), (ρ 420), .none, (ρ 421), (ρ 422), (ρ 423), (ι 719), (ι 192), (τ "/claim/cut.py" 720)]
def o46_425 : Obj := fu "buckets_of" "buckets_of" (top 38) (τ "bucketsums.histograms" 706) (ρ 424)
def o46_426 : Obj := tu0
def o46_427 : Obj := fi "builtin_function_or_method" [(.builtin "type.__prepare__"), (.type "type")]
def o46_428 (P : Params) : Obj := ⟨(.type "dict"), none, (.dict (([dE P "__module__" 729 (τ "bucketsums.histograms" 706), dE P "__qualname__" 731 (τ "Histogram" 730), dE P "__firstlineno__" 733 (.int 194 732), dE P "__init__" 745 (ρ 439), dE P "__eq__" 753 (ρ 446), dE P "__len__" 760 (ρ 453), dE P "all_three" 767 (ρ 460), dE P "buckets" 774 (ρ 467), dE P "__static_attributes__" 778 (ρ 468)] : List DictEntry).toArray) 9), #[]⟩
def o46_429 : Obj := tu0
def o46_430 : Obj := fn0 [(ι 196), (ι 4), (ρ 438), (ι 208), (ι 4), (ρ 445), (ι 211), (ι 4), (ρ 452), (ι 214), (ι 4), (ρ 459), (ι 217), (ι 4), (ρ 466)]
def o46_431 : Obj := fi "code" [(τ "Histogram" 724), (τ "Histogram" 725), (τ "/claim/cut.py" 726), (ι 194), (ι 0), (ι 0), (ι 0), (ι 0), (ρ 429), (.bool false), (ι 181), (ρ 430), .none, .none, .none, .none, (ι 727), (ι 194), (τ "/claim/cut.py" 728)]
def o46_432 : Obj := ⟨(.type "frame"), none, .plain, (([(some (ρ 431)), (some (ρ 3)), (some (ρ 428)), none, (some (τ "bucketsums.histograms" 706)), none, (some (ρ 0))] : List (Option Value)).toArray)⟩
def o46_433 : Obj := tu0
def o46_434 : Obj := fi0
def o46_435 : Obj := tu [(τ "self" 737), (τ "width" 738), (τ "cuts" 739), (τ "totals" 740), (τ "total" 741), (τ "bucket" 742)]
def o46_436 : Obj := tu0
def o46_437 : Obj := fv "__init__" "Histogram.__init__" (L2.inClass (top 39) 0)
def o46_438 : Obj := fi "code" [(τ "__init__" 734), (τ "Histogram.__init__" 735), (τ "/claim/cut.py" 736), (ι 196), (ι 4), (ι 0), (ι 0), (ι 3), (ρ 433), (.bool true), (ι 181), (ρ 434), .none, (ρ 435), (ρ 436), (ρ 437), (ι 743), (ι 196), (τ "/claim/cut.py" 744)]
def o46_439 : Obj := fu "__init__" "Histogram.__init__" (L2.inClass (top 39) 0) (τ "bucketsums.histograms" 706) (ρ 438)
def o46_440 : Obj := tu0
def o46_441 : Obj := fi0
def o46_442 : Obj := tu [(τ "self" 749), (τ "other" 750)]
def o46_443 : Obj := tu0
def o46_444 : Obj := fv "__eq__" "Histogram.__eq__" (L2.inClass (top 39) 1)
def o46_445 : Obj := fi "code" [(τ "__eq__" 746), (τ "Histogram.__eq__" 747), (τ "/claim/cut.py" 748), (ι 208), (ι 2), (ι 0), (ι 0), (ι 3), (ρ 440), (.bool true), (ι 181), (ρ 441), .none, (ρ 442), (ρ 443), (ρ 444), (ι 751), (ι 208), (τ "/claim/cut.py" 752)]
def o46_446 : Obj := fu "__eq__" "Histogram.__eq__" (L2.inClass (top 39) 1) (τ "bucketsums.histograms" 706) (ρ 445)
def o46_447 : Obj := tu0
def o46_448 : Obj := fi0
def o46_449 : Obj := tu [(τ "self" 757)]
def o46_450 : Obj := tu0
def o46_451 : Obj := fv "__len__" "Histogram.__len__" (L2.inClass (top 39) 2)
def o46_452 : Obj := fi "code" [(τ "__len__" 754), (τ "Histogram.__len__" 755), (τ "/claim/cut.py" 756), (ι 211), (ι 1), (ι 0), (ι 0), (ι 3), (ρ 447), (.bool true), (ι 181), (ρ 448), .none, (ρ 449), (ρ 450), (ρ 451), (ι 758), (ι 211), (τ "/claim/cut.py" 759)]
def o46_453 : Obj := fu "__len__" "Histogram.__len__" (L2.inClass (top 39) 2) (τ "bucketsums.histograms" 706) (ρ 452)
def o46_454 : Obj := tu0
def o46_455 : Obj := fi0
def o46_456 : Obj := tu [(τ "self" 764)]
def o46_457 : Obj := tu0
def o46_458 : Obj := fv "all_three" "Histogram.all_three" (L2.inClass (top 39) 3)
def o46_459 : Obj := fi "code" [(τ "all_three" 761), (τ "Histogram.all_three" 762), (τ "/claim/cut.py" 763), (ι 214), (ι 1), (ι 0), (ι 0), (ι 3), (ρ 454), (.bool true), (ι 181), (ρ 455), .none, (ρ 456), (ρ 457), (ρ 458), (ι 765), (ι 214), (τ "/claim/cut.py" 766)]
def o46_460 : Obj := fu "all_three" "Histogram.all_three" (L2.inClass (top 39) 3) (τ "bucketsums.histograms" 706) (ρ 459)
def o46_461 : Obj := tu0
def o46_462 : Obj := fi0
def o46_463 : Obj := tu [(τ "self" 771)]
def o46_464 : Obj := tu0
def o46_465 : Obj := fv "buckets" "Histogram.buckets" (L2.inClass (top 39) 4)
def o46_466 : Obj := fi "code" [(τ "buckets" 768), (τ "Histogram.buckets" 769), (τ "/claim/cut.py" 770), (ι 217), (ι 1), (ι 0), (ι 0), (ι 3), (ρ 461), (.bool true), (ι 181), (ρ 462), .none, (ρ 463), (ρ 464), (ρ 465), (ι 772), (ι 217), (τ "/claim/cut.py" 773)]
def o46_467 : Obj := fu "buckets" "Histogram.buckets" (L2.inClass (top 39) 4) (τ "bucketsums.histograms" 706) (ρ 466)
def o46_468 : Obj := tu [(τ "cuts" 775), (τ "totals" 776), (τ "width" 777)]
def o46_469 (P : Params) : Obj := ⟨(.type "dict"), none, (.dict (([dE P "__module__" 729 (τ "bucketsums.histograms" 706), dE P "__firstlineno__" 733 (.int 194 732), dE P "__init__" 745 (ρ 439), dE P "__eq__" 753 (ρ 446), dE P "__len__" 760 (ρ 453), dE P "all_three" 767 (ρ 460), dE P "buckets" 774 (ρ 467), dE P "__static_attributes__" 778 (ρ 468), dE P "__dict__" 780 (ρ 471), dE P "__weakref__" 782 (ρ 472), dE P "__doc__" 783 .none, dE P "__hash__" 784 .none] : List DictEntry).toArray) 5), #[]⟩
def o46_470 : Obj := ⟨(.type "type"), none, (.cls ⟨(σ "Histogram"), [(.type "object")], [(ρ 470), (.type "object")], 469, (σ "Histogram"), true, [], [], false, none, false⟩), (([none, none, (some (τ "Histogram" 722)), (some (τ "Histogram" 730)), (some (.builtin "object.__new__")), (some (.bool true))] : List (Option Value)).toArray)⟩
def o46_471 : Obj := fi "getset_descriptor" [(τ "__dict__" 779), (ρ 470), (.builtin "function.__dict__"), (.builtin "function.__dict__#set")]
def o46_472 : Obj := fi "getset_descriptor" [(τ "__weakref__" 781), (ρ 470), (.builtin "ExceptionGroup.__weakref__"), .none]
def o46_473 : Obj := fi "super" [(ρ 470), (ρ 470), (ρ 470)]
def o46_474 : Obj := fi "builtin_function_or_method" [(.builtin "object.__init_subclass__"), (ρ 470)]
def o46_475 : Obj := tu0
def o46_476 : Obj := fi0
def o46_477 : Obj := tu [(τ "_law_one" 792), (τ "_law_other" 793), (τ "_law_counters" 794)]
def o46_478 : Obj := tu0
def o46_479 : Obj := fv "_law_is_refused" "_law_is_refused" (top 41)
def o46_480 : Obj := fi "code" [(τ "_law_is_refused" 789), (τ "_law_is_refused" 790), (τ "/claim/cut.py" 791), (ι 220), (ι 3), (ι 0), (ι 0), (ι 3), (ρ 475), (.bool true), (ι 181), (ρ 476), .none, (ρ 477), (ρ 478), (ρ 479), (ι 795), (ι 220), (τ "/claim/cut.py" 796)]
def o46_481 : Obj := fu "_law_is_refused" "_law_is_refused" (top 41) (τ "law_bucketsums_k69_edges_hunt" 787) (ρ 480)
def o46_482 : Obj := tu0
def o46_483 : Obj := fi0
def o46_484 : Obj := fv "_law_counters_right" "_law_counters_right" (top 42)
def o46_485 : Obj := fi "code" [(τ "_law_counters_right" 798), (τ "_law_counters_right" 799), (τ "/claim/cut.py" 800), (ι 226), (ι 1), (ι 0), (ι 0), (ι 3), (ρ 482), (.bool true), (ι 181), (ρ 483), .none, .none, .none, (ρ 484), (ι 801), (ι 226), (τ "/claim/cut.py" 802)]
def o46_486 : Obj := fu "_law_counters_right" "_law_counters_right" (top 42) (τ "law_bucketsums_k69_edges_hunt" 787) (ρ 485)
def o46_487 : Obj := tu0
def o46_488 : Obj := fi0
def o46_489 : Obj := tu [(τ "_law_more" 807), (τ "_law_one" 808), (τ "_law_other" 809)]
def o46_490 : Obj := tu0
def o46_491 : Obj := fv "_law_transfers_right" "_law_transfers_right" (top 43)
def o46_492 : Obj := fi "code" [(τ "_law_transfers_right" 804), (τ "_law_transfers_right" 805), (τ "/claim/cut.py" 806), (ι 234), (ι 1), (ι 0), (ι 0), (ι 3), (ρ 487), (.bool true), (ι 181), (ρ 488), .none, (ρ 489), (ρ 490), (ρ 491), (ι 810), (ι 234), (τ "/claim/cut.py" 811)]
def o46_493 : Obj := fu "_law_transfers_right" "_law_transfers_right" (top 43) (τ "law_bucketsums_k69_edges_hunt" 787) (ρ 492)
def o46_494 : Obj := tu0
def o46_495 : Obj := fi0
def o46_496 : Obj := tu [(τ "_law_first" 816)]
def o46_497 : Obj := tu0
def o46_498 : Obj := fv "_law_totals_right" "_law_totals_right" (top 44)
def o46_499 : Obj := fi "code" [(τ "_law_totals_right" 813), (τ "_law_totals_right" 814), (τ "/claim/cut.py" 815), (ι 239), (ι 1), (ι 0), (ι 0), (ι 3), (ρ 494), (.bool true), (ι 181), (ρ 495), .none, (ρ 496), (ρ 497), (ρ 498), (ι 817), (ι 239), (τ "/claim/cut.py" 818)]
def o46_500 : Obj := fu "_law_totals_right" "_law_totals_right" (top 44) (τ "law_bucketsums_k69_edges_hunt" 787) (ρ 499)
def o46_501 : Obj := tu0
def o46_502 : Obj := fi0
def o46_503 : Obj := fv "law" "law" (top 45)
def o46_504 : Obj := fi "code" [(τ "law" 820), (τ "law" 821), (τ "/claim/cut.py" 822), (ι 245), (ι 1), (ι 0), (ι 0), (ι 3), (ρ 501), (.bool true), (ι 181), (ρ 502), .none, .none, .none, (ρ 503), (ι 823), (ι 245), (τ "/claim/cut.py" 824)]
def o46_505 : Obj := fu "law" "law" (top 45) (τ "law_bucketsums_k69_edges_hunt" 787) (ρ 504)
def tr46 (P : Params) : PySem.W.BT := (nd (PySem.W.boot_o_0 P) (nd (PySem.W.boot_o_1 P) (nd (o46_3 P) (nd (PySem.W.boot_o_7 P) (nd o16_15 (nd o16_31 (nd o16_63 (nd o16_127 (lf o46_255) (lf o46_383)) (nd o16_191 (lf o46_319) (lf o46_447))) (nd o16_95 (nd o16_159 (lf o46_287) (lf o46_415)) (nd o16_223 (lf o46_351) (lf o46_479)))) (nd o16_47 (nd (o16_79 P) (nd o16_143 (lf o46_271) (lf o46_399)) (nd o16_207 (lf o46_335) (lf o46_463))) (nd o16_111 (nd o16_175 (lf o46_303) (lf o46_431)) (nd o46_239 (lf o46_367) (lf o46_495))))) (nd o16_23 (nd o16_39 (nd o16_71 (nd o16_135 (lf o46_263) (lf o46_391)) (nd o16_199 (lf o46_327) (lf o46_455))) (nd o16_103 (nd o16_167 (lf o46_295) (lf o46_423)) (nd o16_231 (lf o46_359) (lf o46_487)))) (nd (o16_55 P) (nd o16_87 (nd o16_151 (lf o46_279) (lf o46_407)) (nd o16_215 (lf o46_343) (lf o46_471))) (nd o16_119 (nd o16_183 (lf o46_311) (lf o46_439)) (nd o46_247 (lf o46_375) (lf o46_503)))))) (nd oa_11 (nd o16_19 (nd o16_35 (nd (o16_67 P) (nd o16_131 (lf (o46_259 P)) (lf o46_387)) (nd o16_195 (lf o46_323) (lf o46_451))) (nd o16_99 (nd o16_163 (lf o46_291) (lf o46_419)) (nd o16_227 (lf o46_355) (lf o46_483)))) (nd o16_51 (nd o16_83 (nd o16_147 (lf o46_275) (lf o46_403)) (nd o16_211 (lf o46_339) (lf o46_467))) (nd o16_115 (nd o16_179 (lf o46_307) (lf o46_435)) (nd o46_243 (lf o46_371) (lf o46_499))))) (nd o16_27 (nd (o16_43 P) (nd o16_75 (nd o16_139 (lf o46_267) (lf o46_395)) (nd o16_203 (lf o46_331) (lf o46_459))) (nd o16_107 (nd o16_171 (lf o46_299) (lf o46_427)) (nd o16_235 (lf o46_363) (lf o46_491)))) (nd o16_59 (nd (o16_91 P) (nd o16_155 (lf o46_283) (lf o46_411)) (nd o16_219 (lf o46_347) (lf o46_475))) (nd o16_123 (nd o16_187 (lf o46_315) (lf o46_443)) (nd o46_251 (lf o46_379) .nil)))))) (nd (PySem.W.boot_o_5 P) (nd (PySem.W.boot_o_9 P) (nd o16_17 (nd o16_33 (nd o16_65 (nd o16_129 (lf o46_257) (lf o46_385)) (nd o16_193 (lf o46_321) (lf o46_449))) (nd (o16_97 P) (nd o16_161 (lf o46_289) (lf o46_417)) (nd o16_225 (lf o46_353) (lf o46_481)))) (nd (o16_49 P) (nd o16_81 (nd o16_145 (lf o46_273) (lf o46_401)) (nd o16_209 (lf o46_337) (lf o46_465))) (nd o16_113 (nd o16_177 (lf o46_305) (lf o46_433)) (nd o46_241 (lf o46_369) (lf o46_497))))) (nd o16_25 (nd o16_41 (nd (o16_73 P) (nd o16_137 (lf o46_265) (lf o46_393)) (nd o16_201 (lf o46_329) (lf o46_457))) (nd o16_105 (nd o16_169 (lf o46_297) (lf o46_425)) (nd o16_233 (lf o46_361) (lf o46_489)))) (nd o16_57 (nd o16_89 (nd o16_153 (lf o46_281) (lf o46_409)) (nd o16_217 (lf o46_345) (lf o46_473))) (nd o16_121 (nd o16_185 (lf o46_313) (lf o46_441)) (nd o46_249 (lf o46_377) (lf o46_505)))))) (nd oa_13 (nd o16_21 (nd (o16_37 P) (nd o16_69 (nd o16_133 (lf o46_261) (lf o46_389)) (nd o16_197 (lf o46_325) (lf o46_453))) (nd o16_101 (nd o16_165 (lf o46_293) (lf o46_421)) (nd o16_229 (lf (o46_357 P)) (lf o46_485)))) (nd o16_53 (nd (o16_85 P) (nd (o16_149 P) (lf o46_277) (lf o46_405)) (nd o16_213 (lf o46_341) (lf (o46_469 P)))) (nd o16_117 (nd o16_181 (lf o46_309) (lf o46_437)) (nd o46_245 (lf o46_373) (lf o46_501))))) (nd o16_29 (nd o16_45 (nd o16_77 (nd o16_141 (lf o46_269) (lf o46_397)) (nd o16_205 (lf o46_333) (lf o46_461))) (nd o16_109 (nd o16_173 (lf o46_301) (lf o46_429)) (nd o46_237 (lf o46_365) (lf o46_493)))) (nd (o16_61 P) (nd o16_93 (nd o16_157 (lf o46_285) (lf o46_413)) (nd o16_221 (lf (o46_349 P)) (lf o46_477))) (nd o16_125 (nd o16_189 (lf o46_317) (lf o46_445)) (nd o46_253 (lf o46_381) .nil))))))) (nd (PySem.W.boot_o_2 P) (nd (PySem.W.boot_o_4 P) (nd (PySem.W.boot_o_8 P) (nd o16_16 (nd o16_32 (nd o16_64 (nd o16_128 (lf o46_256) (lf (o46_384 P))) (nd o16_192 (lf o46_320) (lf o46_448))) (nd o16_96 (nd o16_160 (lf o46_288) (lf o46_416)) (nd o16_224 (lf o46_352) (lf o46_480)))) (nd o16_48 (nd o16_80 (nd o16_144 (lf o46_272) (lf o46_400)) (nd o16_208 (lf o46_336) (lf o46_464))) (nd (o16_112 P) (nd o16_176 (lf o46_304) (lf o46_432)) (nd o46_240 (lf o46_368) (lf o46_496))))) (nd (o16_24 P) (nd o16_40 (nd o16_72 (nd (o16_136 P) (lf o46_264) (lf o46_392)) (nd o16_200 (lf o46_328) (lf o46_456))) (nd o16_104 (nd o16_168 (lf o46_296) (lf o46_424)) (nd o16_232 (lf o46_360) (lf o46_488)))) (nd o16_56 (nd o16_88 (nd o16_152 (lf o46_280) (lf o46_408)) (nd o16_216 (lf o46_344) (lf o46_472))) (nd o16_120 (nd o16_184 (lf o46_312) (lf o46_440)) (nd o46_248 (lf o46_376) (lf o46_504)))))) (nd o46_12 (nd o16_20 (nd o16_36 (nd o16_68 (nd o16_132 (lf o46_260) (lf o46_388)) (nd o16_196 (lf o46_324) (lf o46_452))) (nd o16_100 (nd o16_164 (lf o46_292) (lf o46_420)) (nd o16_228 (lf o46_356) (lf o46_484)))) (nd o16_52 (nd o16_84 (nd o16_148 (lf o46_276) (lf o46_404)) (nd o16_212 (lf o46_340) (lf o46_468))) (nd o16_116 (nd o16_180 (lf o46_308) (lf o46_436)) (nd o46_244 (lf o46_372) (lf o46_500))))) (nd o16_28 (nd o16_44 (nd o16_76 (nd o16_140 (lf o46_268) (lf o46_396)) (nd o16_204 (lf o46_332) (lf o46_460))) (nd o16_108 (nd o16_172 (lf o46_300) (lf (o46_428 P))) (nd o46_236 (lf o46_364) (lf o46_492)))) (nd o16_60 (nd o16_92 (nd o16_156 (lf o46_284) (lf o46_412)) (nd o16_220 (lf o46_348) (lf o46_476))) (nd (o16_124 P) (nd o16_188 (lf o46_316) (lf o46_444)) (nd o46_252 (lf o46_380) .nil)))))) (nd (PySem.W.boot_o_6 P) (nd (PySem.W.boot_o_10 P) (nd o16_18 (nd o16_34 (nd o16_66 (nd (o16_130 P) (lf o46_258) (lf o46_386)) (nd o16_194 (lf o46_322) (lf o46_450))) (nd o16_98 (nd o16_162 (lf o46_290) (lf o46_418)) (nd o16_226 (lf o46_354) (lf o46_482)))) (nd o16_50 (nd o16_82 (nd o16_146 (lf o46_274) (lf o46_402)) (nd o16_210 (lf o46_338) (lf o46_466))) (nd o16_114 (nd o16_178 (lf o46_306) (lf o46_434)) (nd o46_242 (lf o46_370) (lf o46_498))))) (nd o16_26 (nd o16_42 (nd o16_74 (nd o16_138 (lf o46_266) (lf o46_394)) (nd o16_202 (lf o46_330) (lf o46_458))) (nd o16_106 (nd o16_170 (lf o46_298) (lf o46_426)) (nd o16_234 (lf o46_362) (lf o46_490)))) (nd o16_58 (nd o16_90 (nd o16_154 (lf (o46_282 P)) (lf o46_410)) (nd o16_218 (lf o46_346) (lf o46_474))) (nd o16_122 (nd o16_186 (lf o46_314) (lf o46_442)) (nd o46_250 (lf o46_378) .nil))))) (nd oa_14 (nd o16_22 (nd o16_38 (nd o16_70 (nd o16_134 (lf o46_262) (lf o46_390)) (nd o16_198 (lf (o46_326 P)) (lf o46_454))) (nd o16_102 (nd o16_166 (lf o46_294) (lf o46_422)) (nd (o16_230 P) (lf o46_358) (lf o46_486)))) (nd o16_54 (nd o16_86 (nd o16_150 (lf o46_278) (lf o46_406)) (nd o16_214 (lf o46_342) (lf o46_470))) (nd (o16_118 P) (nd o16_182 (lf o46_310) (lf o46_438)) (nd o46_246 (lf o46_374) (lf o46_502))))) (nd (o16_30 P) (nd o16_46 (nd o16_78 (nd o16_142 (lf o46_270) (lf o46_398)) (nd o16_206 (lf o46_334) (lf o46_462))) (nd o16_110 (nd o16_174 (lf o46_302) (lf o46_430)) (nd o46_238 (lf o46_366) (lf o46_494)))) (nd o16_62 (nd o16_94 (nd o16_158 (lf o46_286) (lf o46_414)) (nd o16_222 (lf o46_350) (lf o46_478))) (nd o16_126 (nd o16_190 (lf o46_318) (lf o46_446)) (nd o46_254 (lf o46_382) .nil))))))))
def S46 (w : World) (os : OsState) : SharedT := ⟨tr46 w.params, 506, ⟨[], [], [], 0, [], [], false, #[], [], 0, false, false, false, 0, [2000, 10, 10], false, 0, true, [], [], 0, false⟩, #[], ⟨0, 0, 0, 0⟩, 826, os⟩
def pos46 : Pos := ⟨245, 0, 247, 126⟩
def trz (P : Params) : PySem.W.BT := (nd (PySem.W.boot_o_0 P) (nd (PySem.W.boot_o_1 P) (nd (o46_3 P) (nd (PySem.W.boot_o_7 P) (nd o16_15 (nd o16_31 (nd o16_63 (nd o16_127 (lf o46_255) (lf o46_383)) (nd o16_191 (lf o46_319) (lf o46_447))) (nd o16_95 (nd o16_159 (lf o46_287) (lf o46_415)) (nd o16_223 (lf o46_351) (lf o46_479)))) (nd o16_47 (nd (o16_79 P) (nd o16_143 (lf o46_271) (lf o46_399)) (nd o16_207 (lf o46_335) (lf o46_463))) (nd o16_111 (nd o16_175 (lf o46_303) (lf o46_431)) (nd o46_239 (lf o46_367) (lf o46_495))))) (nd o16_23 (nd o16_39 (nd o16_71 (nd o16_135 (lf o46_263) (lf o46_391)) (nd o16_199 (lf o46_327) (lf o46_455))) (nd o16_103 (nd o16_167 (lf o46_295) (lf o46_423)) (nd o16_231 (lf o46_359) (lf o46_487)))) (nd (o16_55 P) (nd o16_87 (nd o16_151 (lf o46_279) (lf o46_407)) (nd o16_215 (lf o46_343) (lf o46_471))) (nd o16_119 (nd o16_183 (lf o46_311) (lf o46_439)) (nd o46_247 (lf o46_375) (lf o46_503)))))) (nd oa_11 (nd o16_19 (nd o16_35 (nd (o16_67 P) (nd o16_131 (lf (o46_259 P)) (lf o46_387)) (nd o16_195 (lf o46_323) (lf o46_451))) (nd o16_99 (nd o16_163 (lf o46_291) (lf o46_419)) (nd o16_227 (lf o46_355) (lf o46_483)))) (nd o16_51 (nd o16_83 (nd o16_147 (lf o46_275) (lf o46_403)) (nd o16_211 (lf o46_339) (lf o46_467))) (nd o16_115 (nd o16_179 (lf o46_307) (lf o46_435)) (nd o46_243 (lf o46_371) (lf o46_499))))) (nd o16_27 (nd (o16_43 P) (nd o16_75 (nd o16_139 (lf o46_267) (lf o46_395)) (nd o16_203 (lf o46_331) (lf o46_459))) (nd o16_107 (nd o16_171 (lf o46_299) (lf o46_427)) (nd o16_235 (lf o46_363) (lf o46_491)))) (nd o16_59 (nd (o16_91 P) (nd o16_155 (lf o46_283) (lf o46_411)) (nd o16_219 (lf o46_347) (lf o46_475))) (nd o16_123 (nd o16_187 (lf o46_315) (lf o46_443)) (nd o46_251 (lf o46_379) .nil)))))) (nd (PySem.W.boot_o_5 P) (nd (PySem.W.boot_o_9 P) (nd o16_17 (nd o16_33 (nd o16_65 (nd o16_129 (lf o46_257) (lf o46_385)) (nd o16_193 (lf o46_321) (lf o46_449))) (nd (o16_97 P) (nd o16_161 (lf o46_289) (lf o46_417)) (nd o16_225 (lf o46_353) (lf o46_481)))) (nd (o16_49 P) (nd o16_81 (nd o16_145 (lf o46_273) (lf o46_401)) (nd o16_209 (lf o46_337) (lf o46_465))) (nd o16_113 (nd o16_177 (lf o46_305) (lf o46_433)) (nd o46_241 (lf o46_369) (lf o46_497))))) (nd o16_25 (nd o16_41 (nd (o16_73 P) (nd o16_137 (lf o46_265) (lf o46_393)) (nd o16_201 (lf o46_329) (lf o46_457))) (nd o16_105 (nd o16_169 (lf o46_297) (lf o46_425)) (nd o16_233 (lf o46_361) (lf o46_489)))) (nd o16_57 (nd o16_89 (nd o16_153 (lf o46_281) (lf o46_409)) (nd o16_217 (lf o46_345) (lf o46_473))) (nd o16_121 (nd o16_185 (lf o46_313) (lf o46_441)) (nd o46_249 (lf o46_377) (lf o46_505)))))) (nd oa_13 (nd o16_21 (nd (o16_37 P) (nd o16_69 (nd o16_133 (lf o46_261) (lf o46_389)) (nd o16_197 (lf o46_325) (lf o46_453))) (nd o16_101 (nd o16_165 (lf o46_293) (lf o46_421)) (nd o16_229 (lf (o46_357 P)) (lf o46_485)))) (nd o16_53 (nd (o16_85 P) (nd (o16_149 P) (lf o46_277) (lf o46_405)) (nd o16_213 (lf o46_341) (lf (o46_469 P)))) (nd o16_117 (nd o16_181 (lf o46_309) (lf o46_437)) (nd o46_245 (lf o46_373) (lf o46_501))))) (nd o16_29 (nd o16_45 (nd o16_77 (nd o16_141 (lf o46_269) (lf o46_397)) (nd o16_205 (lf o46_333) (lf o46_461))) (nd o16_109 (nd o16_173 (lf o46_301) (lf o46_429)) (nd o46_237 (lf o46_365) (lf o46_493)))) (nd (o16_61 P) (nd o16_93 (nd o16_157 (lf o46_285) (lf o46_413)) (nd o16_221 (lf (o46_349 P)) (lf o46_477))) (nd o16_125 (nd o16_189 (lf o46_317) (lf o46_445)) (nd o46_253 (lf o46_381) .nil))))))) (nd (PySem.W.boot_o_2 P) (nd (PySem.W.boot_o_4 P) (nd (PySem.W.boot_o_8 P) (nd o16_16 (nd o16_32 (nd o16_64 (nd o16_128 (lf o46_256) (lf (o46_384 P))) (nd o16_192 (lf o46_320) (lf o46_448))) (nd o16_96 (nd o16_160 (lf o46_288) (lf o46_416)) (nd o16_224 (lf o46_352) (lf o46_480)))) (nd o16_48 (nd o16_80 (nd o16_144 (lf o46_272) (lf o46_400)) (nd o16_208 (lf o46_336) (lf o46_464))) (nd (o16_112 P) (nd o16_176 (lf o46_304) (lf o46_432)) (nd o46_240 (lf o46_368) (lf o46_496))))) (nd (o16_24 P) (nd o16_40 (nd o16_72 (nd (o16_136 P) (lf o46_264) (lf o46_392)) (nd o16_200 (lf o46_328) (lf o46_456))) (nd o16_104 (nd o16_168 (lf o46_296) (lf o46_424)) (nd o16_232 (lf o46_360) (lf o46_488)))) (nd o16_56 (nd o16_88 (nd o16_152 (lf o46_280) (lf o46_408)) (nd o16_216 (lf o46_344) (lf o46_472))) (nd o16_120 (nd o16_184 (lf o46_312) (lf o46_440)) (nd o46_248 (lf o46_376) (lf o46_504)))))) (nd o46_12 (nd o16_20 (nd o16_36 (nd o16_68 (nd o16_132 (lf o46_260) (lf o46_388)) (nd o16_196 (lf o46_324) (lf o46_452))) (nd o16_100 (nd o16_164 (lf o46_292) (lf o46_420)) (nd o16_228 (lf o46_356) (lf o46_484)))) (nd o16_52 (nd o16_84 (nd o16_148 (lf o46_276) (lf o46_404)) (nd o16_212 (lf o46_340) (lf o46_468))) (nd o16_116 (nd o16_180 (lf o46_308) (lf o46_436)) (nd o46_244 (lf o46_372) (lf o46_500))))) (nd o16_28 (nd o16_44 (nd o16_76 (nd o16_140 (lf o46_268) (lf o46_396)) (nd o16_204 (lf o46_332) (lf o46_460))) (nd o16_108 (nd o16_172 (lf o46_300) (lf (o46_428 P))) (nd o46_236 (lf o46_364) (lf o46_492)))) (nd o16_60 (nd o16_92 (nd o16_156 (lf o46_284) (lf o46_412)) (nd o16_220 (lf o46_348) (lf o46_476))) (nd (o16_124 P) (nd o16_188 (lf o46_316) (lf o46_444)) (nd o46_252 (lf o46_380) .nil)))))) (nd (PySem.W.boot_o_6 P) (nd (PySem.W.boot_o_10 P) (nd o16_18 (nd o16_34 (nd o16_66 (nd (o16_130 P) (lf o46_258) (lf o46_386)) (nd o16_194 (lf o46_322) (lf o46_450))) (nd o16_98 (nd o16_162 (lf o46_290) (lf o46_418)) (nd o16_226 (lf o46_354) (lf o46_482)))) (nd o16_50 (nd o16_82 (nd o16_146 (lf o46_274) (lf o46_402)) (nd o16_210 (lf o46_338) (lf o46_466))) (nd o16_114 (nd o16_178 (lf o46_306) (lf o46_434)) (nd o46_242 (lf o46_370) (lf o46_498))))) (nd o16_26 (nd o16_42 (nd o16_74 (nd o16_138 (lf o46_266) (lf o46_394)) (nd o16_202 (lf o46_330) (lf o46_458))) (nd o16_106 (nd o16_170 (lf o46_298) (lf o46_426)) (nd o16_234 (lf o46_362) (lf o46_490)))) (nd o16_58 (nd o16_90 (nd o16_154 (lf (o46_282 P)) (lf o46_410)) (nd o16_218 (lf o46_346) (lf o46_474))) (nd o16_122 (nd o16_186 (lf o46_314) (lf o46_442)) (nd o46_250 (lf o46_378) .nil))))) (nd oa_14 (nd o16_22 (nd o16_38 (nd o16_70 (nd o16_134 (lf o46_262) (lf o46_390)) (nd o16_198 (lf (o46_326 P)) (lf o46_454))) (nd o16_102 (nd o16_166 (lf o46_294) (lf o46_422)) (nd (o16_230 P) (lf o46_358) (lf o46_486)))) (nd o16_54 (nd o16_86 (nd o16_150 (lf o46_278) (lf o46_406)) (nd o16_214 (lf o46_342) (lf o46_470))) (nd (o16_118 P) (nd o16_182 (lf o46_310) (lf o46_438)) (nd o46_246 (lf o46_374) (lf o46_502))))) (nd (o16_30 P) (nd o16_46 (nd o16_78 (nd o16_142 (lf o46_270) (lf o46_398)) (nd o16_206 (lf o46_334) (lf o46_462))) (nd o16_110 (nd o16_174 (lf o46_302) (lf o46_430)) (nd o46_238 (lf o46_366) (lf o46_494)))) (nd o16_62 (nd o16_94 (nd o16_158 (lf o46_286) (lf o46_414)) (nd o16_222 (lf o46_350) (lf o46_478))) (nd o16_126 (nd o16_190 (lf o46_318) (lf o46_446)) (nd o46_254 (lf o46_382) .nil))))))))
def Sz (w : World) (os : OsState) : SharedT := ⟨trz w.params, 506, ⟨[], [], [], 0, [], [], false, #[], [], 0, false, false, false, 0, [2000, 10, 10], false, 0, true, [], [], 0, false⟩, #[], ⟨0, 0, 0, 0⟩, 826, os⟩
def theEnv : PySem.Env := { scope := RR.prog.main.scope, locals := mainNs, globals := mainNs, cells := [], code := (ρ 13), frame := some 14 }
def framePos : Pos := ⟨0, 0, 0, 0⟩
def asL : List Addr := (3 :: 6 :: 4 :: 21 :: 31 :: 44 :: 56 :: 68 :: 80 :: 92 :: 113 :: 125 :: 137 :: 146 :: 231 :: 242 :: 249 :: 256 :: 283 :: 292 :: 299 :: 304 :: 309 :: 316 :: 323 :: 350 :: 385 :: 394 :: 399 :: 406 :: 413 :: 418 :: 425 :: 470 :: 481 :: 486 :: 493 :: 500 :: 505 :: 0 :: 20 :: 30 :: 43 :: 55 :: 67 :: 79 :: 91 :: 112 :: 124 :: 136 :: 145 :: 230 :: 241 :: 248 :: 255 :: 282 :: 291 :: 298 :: 303 :: 308 :: 315 :: 322 :: 349 :: 384 :: 393 :: 398 :: 405 :: 412 :: 417 :: 424 :: 469 :: 480 :: 485 :: 492 :: 499 :: 504 :: 15 :: 16 :: 17 :: 18 :: 19 :: 29 :: 32 :: 42 :: 54 :: 66 :: 78 :: 90 :: 110 :: 111 :: 123 :: 135 :: 140 :: 141 :: 142 :: 143 :: 144 :: 158 :: 165 :: 172 :: 179 :: 186 :: 193 :: 200 :: 207 :: 214 :: 221 :: 228 :: 229 :: 232 :: 233 :: 236 :: 237 :: 238 :: 239 :: 240 :: 243 :: 244 :: 245 :: 246 :: 247 :: 250 :: 251 :: 252 :: 253 :: 254 :: 268 :: 275 :: 280 :: 281 :: 284 :: 285 :: 288 :: 289 :: 290 :: 293 :: 294 :: 295 :: 296 :: 297 :: 300 :: 301 :: 302 :: 305 :: 306 :: 307 :: 310 :: 311 :: 312 :: 313 :: 314 :: 317 :: 318 :: 319 :: 320 :: 321 :: 335 :: 342 :: 347 :: 348 :: 351 :: 352 :: 368 :: 375 :: 382 :: 383 :: 386 :: 387 :: 390 :: 391 :: 392 :: 395 :: 396 :: 397 :: 400 :: 401 :: 402 :: 403 :: 404 :: 407 :: 408 :: 409 :: 410 :: 411 :: 414 :: 415 :: 416 :: 419 :: 420 :: 421 :: 422 :: 423 :: 439 :: 446 :: 453 :: 460 :: 467 :: 468 :: 471 :: 472 :: 475 :: 476 :: 477 :: 478 :: 479 :: 482 :: 483 :: 484 :: 487 :: 488 :: 489 :: 490 :: 491 :: 494 :: 495 :: 496 :: 497 :: 498 :: 501 :: 502 :: 503 :: 109 :: 98 :: 157 :: 164 :: 171 :: 178 :: 185 :: 192 :: 199 :: 206 :: 213 :: 220 :: 227 :: 267 :: 274 :: 279 :: 334 :: 341 :: 346 :: 367 :: 374 :: 381 :: 438 :: 445 :: 452 :: 459 :: 466 :: 104 :: 105 :: 106 :: 107 :: 108 :: 154 :: 155 :: 156 :: 159 :: 160 :: 161 :: 162 :: 163 :: 166 :: 167 :: 168 :: 169 :: 170 :: 173 :: 174 :: 175 :: 176 :: 177 :: 180 :: 181 :: 182 :: 183 :: 184 :: 187 :: 188 :: 189 :: 190 :: 191 :: 194 :: 195 :: 196 :: 197 :: 198 :: 201 :: 202 :: 203 :: 204 :: 205 :: 208 :: 209 :: 210 :: 211 :: 212 :: 215 :: 216 :: 217 :: 218 :: 219 :: 222 :: 223 :: 224 :: 225 :: 226 :: 264 :: 265 :: 266 :: 269 :: 270 :: 271 :: 272 :: 273 :: 276 :: 277 :: 278 :: 331 :: 332 :: 333 :: 336 :: 337 :: 338 :: 339 :: 340 :: 343 :: 344 :: 345 :: 362 :: 363 :: 364 :: 365 :: 366 :: 369 :: 370 :: 371 :: 372 :: 373 :: 376 :: 377 :: 378 :: 379 :: 380 :: 433 :: 434 :: 435 :: 436 :: 437 :: 440 :: 441 :: 442 :: 443 :: 444 :: 447 :: 448 :: 449 :: 450 :: 451 :: 454 :: 455 :: 456 :: 457 :: 458 :: 461 :: 462 :: 463 :: 464 :: 465 :: [])
def asL1 : List Addr := (3 :: 6 :: 4 :: 21 :: 31 :: 44 :: 56 :: 68 :: 80 :: 92 :: 113 :: 125 :: 137 :: 146 :: 231 :: 242 :: 249 :: 256 :: 283 :: 292 :: 299 :: 304 :: 309 :: 316 :: 323 :: 350 :: 385 :: 394 :: 399 :: 406 :: 413 :: 418 :: 425 :: 470 :: 481 :: 486 :: 493 :: 500 :: 505 :: [])
def asL2 : List Addr := (3 :: 6 :: 4 :: 21 :: 31 :: 44 :: 56 :: 68 :: 80 :: 92 :: 113 :: 125 :: 137 :: 146 :: 231 :: 242 :: 249 :: 256 :: 283 :: 292 :: 299 :: 304 :: 309 :: 316 :: 323 :: 350 :: 385 :: 394 :: 399 :: 406 :: 413 :: 418 :: 425 :: 470 :: 481 :: 486 :: 493 :: 500 :: 505 :: 0 :: 20 :: 30 :: 43 :: 55 :: 67 :: 79 :: 91 :: 112 :: 124 :: 136 :: 145 :: 230 :: 241 :: 248 :: 255 :: 282 :: 291 :: 298 :: 303 :: 308 :: 315 :: 322 :: 349 :: 384 :: 393 :: 398 :: 405 :: 412 :: 417 :: 424 :: 469 :: 480 :: 485 :: 492 :: 499 :: 504 :: [])
def asL3 : List Addr := (3 :: 6 :: 4 :: 21 :: 31 :: 44 :: 56 :: 68 :: 80 :: 92 :: 113 :: 125 :: 137 :: 146 :: 231 :: 242 :: 249 :: 256 :: 283 :: 292 :: 299 :: 304 :: 309 :: 316 :: 323 :: 350 :: 385 :: 394 :: 399 :: 406 :: 413 :: 418 :: 425 :: 470 :: 481 :: 486 :: 493 :: 500 :: 505 :: 0 :: 20 :: 30 :: 43 :: 55 :: 67 :: 79 :: 91 :: 112 :: 124 :: 136 :: 145 :: 230 :: 241 :: 248 :: 255 :: 282 :: 291 :: 298 :: 303 :: 308 :: 315 :: 322 :: 349 :: 384 :: 393 :: 398 :: 405 :: 412 :: 417 :: 424 :: 469 :: 480 :: 485 :: 492 :: 499 :: 504 :: 15 :: 16 :: 17 :: 18 :: 19 :: 29 :: 32 :: 42 :: 54 :: 66 :: 78 :: 90 :: 110 :: 111 :: 123 :: 135 :: 140 :: 141 :: 142 :: 143 :: 144 :: 158 :: 165 :: 172 :: 179 :: 186 :: 193 :: 200 :: 207 :: 214 :: 221 :: 228 :: 229 :: 232 :: 233 :: 236 :: 237 :: 238 :: 239 :: 240 :: 243 :: 244 :: 245 :: 246 :: 247 :: 250 :: 251 :: 252 :: 253 :: 254 :: 268 :: 275 :: 280 :: 281 :: 284 :: 285 :: 288 :: 289 :: 290 :: 293 :: 294 :: 295 :: 296 :: 297 :: 300 :: 301 :: 302 :: 305 :: 306 :: 307 :: 310 :: 311 :: 312 :: 313 :: 314 :: 317 :: 318 :: 319 :: 320 :: 321 :: 335 :: 342 :: 347 :: 348 :: 351 :: 352 :: 368 :: 375 :: 382 :: 383 :: 386 :: 387 :: 390 :: 391 :: 392 :: 395 :: 396 :: 397 :: 400 :: 401 :: 402 :: 403 :: 404 :: 407 :: 408 :: 409 :: 410 :: 411 :: 414 :: 415 :: 416 :: 419 :: 420 :: 421 :: 422 :: 423 :: 439 :: 446 :: 453 :: 460 :: 467 :: 468 :: 471 :: 472 :: 475 :: 476 :: 477 :: 478 :: 479 :: 482 :: 483 :: 484 :: 487 :: 488 :: 489 :: 490 :: 491 :: 494 :: 495 :: 496 :: 497 :: 498 :: 501 :: 502 :: 503 :: [])
def asL4 : List Addr := (3 :: 6 :: 4 :: 21 :: 31 :: 44 :: 56 :: 68 :: 80 :: 92 :: 113 :: 125 :: 137 :: 146 :: 231 :: 242 :: 249 :: 256 :: 283 :: 292 :: 299 :: 304 :: 309 :: 316 :: 323 :: 350 :: 385 :: 394 :: 399 :: 406 :: 413 :: 418 :: 425 :: 470 :: 481 :: 486 :: 493 :: 500 :: 505 :: 0 :: 20 :: 30 :: 43 :: 55 :: 67 :: 79 :: 91 :: 112 :: 124 :: 136 :: 145 :: 230 :: 241 :: 248 :: 255 :: 282 :: 291 :: 298 :: 303 :: 308 :: 315 :: 322 :: 349 :: 384 :: 393 :: 398 :: 405 :: 412 :: 417 :: 424 :: 469 :: 480 :: 485 :: 492 :: 499 :: 504 :: 15 :: 16 :: 17 :: 18 :: 19 :: 29 :: 32 :: 42 :: 54 :: 66 :: 78 :: 90 :: 110 :: 111 :: 123 :: 135 :: 140 :: 141 :: 142 :: 143 :: 144 :: 158 :: 165 :: 172 :: 179 :: 186 :: 193 :: 200 :: 207 :: 214 :: 221 :: 228 :: 229 :: 232 :: 233 :: 236 :: 237 :: 238 :: 239 :: 240 :: 243 :: 244 :: 245 :: 246 :: 247 :: 250 :: 251 :: 252 :: 253 :: 254 :: 268 :: 275 :: 280 :: 281 :: 284 :: 285 :: 288 :: 289 :: 290 :: 293 :: 294 :: 295 :: 296 :: 297 :: 300 :: 301 :: 302 :: 305 :: 306 :: 307 :: 310 :: 311 :: 312 :: 313 :: 314 :: 317 :: 318 :: 319 :: 320 :: 321 :: 335 :: 342 :: 347 :: 348 :: 351 :: 352 :: 368 :: 375 :: 382 :: 383 :: 386 :: 387 :: 390 :: 391 :: 392 :: 395 :: 396 :: 397 :: 400 :: 401 :: 402 :: 403 :: 404 :: 407 :: 408 :: 409 :: 410 :: 411 :: 414 :: 415 :: 416 :: 419 :: 420 :: 421 :: 422 :: 423 :: 439 :: 446 :: 453 :: 460 :: 467 :: 468 :: 471 :: 472 :: 475 :: 476 :: 477 :: 478 :: 479 :: 482 :: 483 :: 484 :: 487 :: 488 :: 489 :: 490 :: 491 :: 494 :: 495 :: 496 :: 497 :: 498 :: 501 :: 502 :: 503 :: 109 :: 98 :: 157 :: 164 :: 171 :: 178 :: 185 :: 192 :: 199 :: 206 :: 213 :: 220 :: 227 :: 267 :: 274 :: 279 :: 334 :: 341 :: 346 :: 367 :: 374 :: 381 :: 438 :: 445 :: 452 :: 459 :: 466 :: [])
def asL5 : List Addr := (3 :: 6 :: 4 :: 21 :: 31 :: 44 :: 56 :: 68 :: 80 :: 92 :: 113 :: 125 :: 137 :: 146 :: 231 :: 242 :: 249 :: 256 :: 283 :: 292 :: 299 :: 304 :: 309 :: 316 :: 323 :: 350 :: 385 :: 394 :: 399 :: 406 :: 413 :: 418 :: 425 :: 470 :: 481 :: 486 :: 493 :: 500 :: 505 :: 0 :: 20 :: 30 :: 43 :: 55 :: 67 :: 79 :: 91 :: 112 :: 124 :: 136 :: 145 :: 230 :: 241 :: 248 :: 255 :: 282 :: 291 :: 298 :: 303 :: 308 :: 315 :: 322 :: 349 :: 384 :: 393 :: 398 :: 405 :: 412 :: 417 :: 424 :: 469 :: 480 :: 485 :: 492 :: 499 :: 504 :: 15 :: 16 :: 17 :: 18 :: 19 :: 29 :: 32 :: 42 :: 54 :: 66 :: 78 :: 90 :: 110 :: 111 :: 123 :: 135 :: 140 :: 141 :: 142 :: 143 :: 144 :: 158 :: 165 :: 172 :: 179 :: 186 :: 193 :: 200 :: 207 :: 214 :: 221 :: 228 :: 229 :: 232 :: 233 :: 236 :: 237 :: 238 :: 239 :: 240 :: 243 :: 244 :: 245 :: 246 :: 247 :: 250 :: 251 :: 252 :: 253 :: 254 :: 268 :: 275 :: 280 :: 281 :: 284 :: 285 :: 288 :: 289 :: 290 :: 293 :: 294 :: 295 :: 296 :: 297 :: 300 :: 301 :: 302 :: 305 :: 306 :: 307 :: 310 :: 311 :: 312 :: 313 :: 314 :: 317 :: 318 :: 319 :: 320 :: 321 :: 335 :: 342 :: 347 :: 348 :: 351 :: 352 :: 368 :: 375 :: 382 :: 383 :: 386 :: 387 :: 390 :: 391 :: 392 :: 395 :: 396 :: 397 :: 400 :: 401 :: 402 :: 403 :: 404 :: 407 :: 408 :: 409 :: 410 :: 411 :: 414 :: 415 :: 416 :: 419 :: 420 :: 421 :: 422 :: 423 :: 439 :: 446 :: 453 :: 460 :: 467 :: 468 :: 471 :: 472 :: 475 :: 476 :: 477 :: 478 :: 479 :: 482 :: 483 :: 484 :: 487 :: 488 :: 489 :: 490 :: 491 :: 494 :: 495 :: 496 :: 497 :: 498 :: 501 :: 502 :: 503 :: 109 :: 98 :: 157 :: 164 :: 171 :: 178 :: 185 :: 192 :: 199 :: 206 :: 213 :: 220 :: 227 :: 267 :: 274 :: 279 :: 334 :: 341 :: 346 :: 367 :: 374 :: 381 :: 438 :: 445 :: 452 :: 459 :: 466 :: 104 :: 105 :: 106 :: 107 :: 108 :: 154 :: 155 :: 156 :: 159 :: 160 :: 161 :: 162 :: 163 :: 166 :: 167 :: 168 :: 169 :: 170 :: 173 :: 174 :: 175 :: 176 :: 177 :: 180 :: 181 :: 182 :: 183 :: 184 :: 187 :: 188 :: 189 :: 190 :: 191 :: 194 :: 195 :: 196 :: 197 :: 198 :: 201 :: 202 :: 203 :: 204 :: 205 :: 208 :: 209 :: 210 :: 211 :: 212 :: 215 :: 216 :: 217 :: 218 :: 219 :: 222 :: 223 :: 224 :: 225 :: 226 :: 264 :: 265 :: 266 :: 269 :: 270 :: 271 :: 272 :: 273 :: 276 :: 277 :: 278 :: 331 :: 332 :: 333 :: 336 :: 337 :: 338 :: 339 :: 340 :: 343 :: 344 :: 345 :: 362 :: 363 :: 364 :: 365 :: 366 :: 369 :: 370 :: 371 :: 372 :: 373 :: 376 :: 377 :: 378 :: 379 :: 380 :: 433 :: 434 :: 435 :: 436 :: 437 :: 440 :: 441 :: 442 :: 443 :: 444 :: 447 :: 448 :: 449 :: 450 :: 451 :: 454 :: 455 :: 456 :: 457 :: 458 :: 461 :: 462 :: 463 :: 464 :: 465 :: [])
def KL (P : Params) : PySem.W.Frag := ((3, o46_3 P) :: (6, PySem.W.boot_o_6 P) :: (4, PySem.W.boot_o_4 P) :: (21, o16_21) :: (31, o16_31) :: (44, o16_44) :: (56, o16_56) :: (68, o16_68) :: (80, o16_80) :: (92, o16_92) :: (113, o16_113) :: (125, o16_125) :: (137, o16_137) :: (146, o16_146) :: (231, o16_231) :: (242, o46_242) :: (249, o46_249) :: (256, o46_256) :: (283, o46_283) :: (292, o46_292) :: (299, o46_299) :: (304, o46_304) :: (309, o46_309) :: (316, o46_316) :: (323, o46_323) :: (350, o46_350) :: (385, o46_385) :: (394, o46_394) :: (399, o46_399) :: (406, o46_406) :: (413, o46_413) :: (418, o46_418) :: (425, o46_425) :: (470, o46_470) :: (481, o46_481) :: (486, o46_486) :: (493, o46_493) :: (500, o46_500) :: (505, o46_505) :: (0, PySem.W.boot_o_0 P) :: (20, o16_20) :: (30, o16_30 P) :: (43, o16_43 P) :: (55, o16_55 P) :: (67, o16_67 P) :: (79, o16_79 P) :: (91, o16_91 P) :: (112, o16_112 P) :: (124, o16_124 P) :: (136, o16_136 P) :: (145, o16_145) :: (230, o16_230 P) :: (241, o46_241) :: (248, o46_248) :: (255, o46_255) :: (282, o46_282 P) :: (291, o46_291) :: (298, o46_298) :: (303, o46_303) :: (308, o46_308) :: (315, o46_315) :: (322, o46_322) :: (349, o46_349 P) :: (384, o46_384 P) :: (393, o46_393) :: (398, o46_398) :: (405, o46_405) :: (412, o46_412) :: (417, o46_417) :: (424, o46_424) :: (469, o46_469 P) :: (480, o46_480) :: (485, o46_485) :: (492, o46_492) :: (499, o46_499) :: (504, o46_504) :: (15, o16_15) :: (16, o16_16) :: (17, o16_17) :: (18, o16_18) :: (19, o16_19) :: (29, o16_29) :: (32, o16_32) :: (42, o16_42) :: (54, o16_54) :: (66, o16_66) :: (78, o16_78) :: (90, o16_90) :: (110, o16_110) :: (111, o16_111) :: (123, o16_123) :: (135, o16_135) :: (140, o16_140) :: (141, o16_141) :: (142, o16_142) :: (143, o16_143) :: (144, o16_144) :: (158, o16_158) :: (165, o16_165) :: (172, o16_172) :: (179, o16_179) :: (186, o16_186) :: (193, o16_193) :: (200, o16_200) :: (207, o16_207) :: (214, o16_214) :: (221, o16_221) :: (228, o16_228) :: (229, o16_229) :: (232, o16_232) :: (233, o16_233) :: (236, o46_236) :: (237, o46_237) :: (238, o46_238) :: (239, o46_239) :: (240, o46_240) :: (243, o46_243) :: (244, o46_244) :: (245, o46_245) :: (246, o46_246) :: (247, o46_247) :: (250, o46_250) :: (251, o46_251) :: (252, o46_252) :: (253, o46_253) :: (254, o46_254) :: (268, o46_268) :: (275, o46_275) :: (280, o46_280) :: (281, o46_281) :: (284, o46_284) :: (285, o46_285) :: (288, o46_288) :: (289, o46_289) :: (290, o46_290) :: (293, o46_293) :: (294, o46_294) :: (295, o46_295) :: (296, o46_296) :: (297, o46_297) :: (300, o46_300) :: (301, o46_301) :: (302, o46_302) :: (305, o46_305) :: (306, o46_306) :: (307, o46_307) :: (310, o46_310) :: (311, o46_311) :: (312, o46_312) :: (313, o46_313) :: (314, o46_314) :: (317, o46_317) :: (318, o46_318) :: (319, o46_319) :: (320, o46_320) :: (321, o46_321) :: (335, o46_335) :: (342, o46_342) :: (347, o46_347) :: (348, o46_348) :: (351, o46_351) :: (352, o46_352) :: (368, o46_368) :: (375, o46_375) :: (382, o46_382) :: (383, o46_383) :: (386, o46_386) :: (387, o46_387) :: (390, o46_390) :: (391, o46_391) :: (392, o46_392) :: (395, o46_395) :: (396, o46_396) :: (397, o46_397) :: (400, o46_400) :: (401, o46_401) :: (402, o46_402) :: (403, o46_403) :: (404, o46_404) :: (407, o46_407) :: (408, o46_408) :: (409, o46_409) :: (410, o46_410) :: (411, o46_411) :: (414, o46_414) :: (415, o46_415) :: (416, o46_416) :: (419, o46_419) :: (420, o46_420) :: (421, o46_421) :: (422, o46_422) :: (423, o46_423) :: (439, o46_439) :: (446, o46_446) :: (453, o46_453) :: (460, o46_460) :: (467, o46_467) :: (468, o46_468) :: (471, o46_471) :: (472, o46_472) :: (475, o46_475) :: (476, o46_476) :: (477, o46_477) :: (478, o46_478) :: (479, o46_479) :: (482, o46_482) :: (483, o46_483) :: (484, o46_484) :: (487, o46_487) :: (488, o46_488) :: (489, o46_489) :: (490, o46_490) :: (491, o46_491) :: (494, o46_494) :: (495, o46_495) :: (496, o46_496) :: (497, o46_497) :: (498, o46_498) :: (501, o46_501) :: (502, o46_502) :: (503, o46_503) :: (109, o16_109) :: (98, o16_98) :: (157, o16_157) :: (164, o16_164) :: (171, o16_171) :: (178, o16_178) :: (185, o16_185) :: (192, o16_192) :: (199, o16_199) :: (206, o16_206) :: (213, o16_213) :: (220, o16_220) :: (227, o16_227) :: (267, o46_267) :: (274, o46_274) :: (279, o46_279) :: (334, o46_334) :: (341, o46_341) :: (346, o46_346) :: (367, o46_367) :: (374, o46_374) :: (381, o46_381) :: (438, o46_438) :: (445, o46_445) :: (452, o46_452) :: (459, o46_459) :: (466, o46_466) :: (104, o16_104) :: (105, o16_105) :: (106, o16_106) :: (107, o16_107) :: (108, o16_108) :: (154, o16_154) :: (155, o16_155) :: (156, o16_156) :: (159, o16_159) :: (160, o16_160) :: (161, o16_161) :: (162, o16_162) :: (163, o16_163) :: (166, o16_166) :: (167, o16_167) :: (168, o16_168) :: (169, o16_169) :: (170, o16_170) :: (173, o16_173) :: (174, o16_174) :: (175, o16_175) :: (176, o16_176) :: (177, o16_177) :: (180, o16_180) :: (181, o16_181) :: (182, o16_182) :: (183, o16_183) :: (184, o16_184) :: (187, o16_187) :: (188, o16_188) :: (189, o16_189) :: (190, o16_190) :: (191, o16_191) :: (194, o16_194) :: (195, o16_195) :: (196, o16_196) :: (197, o16_197) :: (198, o16_198) :: (201, o16_201) :: (202, o16_202) :: (203, o16_203) :: (204, o16_204) :: (205, o16_205) :: (208, o16_208) :: (209, o16_209) :: (210, o16_210) :: (211, o16_211) :: (212, o16_212) :: (215, o16_215) :: (216, o16_216) :: (217, o16_217) :: (218, o16_218) :: (219, o16_219) :: (222, o16_222) :: (223, o16_223) :: (224, o16_224) :: (225, o16_225) :: (226, o16_226) :: (264, o46_264) :: (265, o46_265) :: (266, o46_266) :: (269, o46_269) :: (270, o46_270) :: (271, o46_271) :: (272, o46_272) :: (273, o46_273) :: (276, o46_276) :: (277, o46_277) :: (278, o46_278) :: (331, o46_331) :: (332, o46_332) :: (333, o46_333) :: (336, o46_336) :: (337, o46_337) :: (338, o46_338) :: (339, o46_339) :: (340, o46_340) :: (343, o46_343) :: (344, o46_344) :: (345, o46_345) :: (362, o46_362) :: (363, o46_363) :: (364, o46_364) :: (365, o46_365) :: (366, o46_366) :: (369, o46_369) :: (370, o46_370) :: (371, o46_371) :: (372, o46_372) :: (373, o46_373) :: (376, o46_376) :: (377, o46_377) :: (378, o46_378) :: (379, o46_379) :: (380, o46_380) :: (433, o46_433) :: (434, o46_434) :: (435, o46_435) :: (436, o46_436) :: (437, o46_437) :: (440, o46_440) :: (441, o46_441) :: (442, o46_442) :: (443, o46_443) :: (444, o46_444) :: (447, o46_447) :: (448, o46_448) :: (449, o46_449) :: (450, o46_450) :: (451, o46_451) :: (454, o46_454) :: (455, o46_455) :: (456, o46_456) :: (457, o46_457) :: (458, o46_458) :: (461, o46_461) :: (462, o46_462) :: (463, o46_463) :: (464, o46_464) :: (465, o46_465) :: [])
end
end PX.K69
set_option Elab.async false
set_option linter.all false
set_option maxRecDepth 100000
namespace PX
open PySem He
def era : List Addr → Nat → List Addr
  | [], _ => []
  | x :: xs, m => bif Nat.beq (Nat.land (Nat.shiftRight m x) 1) 1 then era xs m else x :: era xs (Nat.lor m (Nat.shiftLeft 1 x))
theorem bit_eq (m x : Nat) : Nat.beq (Nat.land (Nat.shiftRight m x) 1) 1 = m.testBit x := by
  show Nat.beq ((m >>> x) &&& 1) 1 = _
  unfold Nat.testBit
  rw [Nat.and_comm]
  have : 1 &&& (m >>> x) = 0 ∨ 1 &&& (m >>> x) = 1 := by
    rw [Nat.one_and_eq_mod_two]
    omega
  rcases this with e | e <;> rw [e] <;> rfl
theorem era_eq : ∀ (xs : List Addr) (m : Nat), era xs m = (xs.filter fun x => !m.testBit x).eraseDups
  | [], m => by simp [era]
  | x :: xs, m => by
    unfold era
    rw [bit_eq]
    cases h : m.testBit x with
    | true =>
      rw [List.filter_cons_of_neg (by simp [h])]
      exact era_eq xs m
    | false =>
      rw [List.filter_cons_of_pos (by simp [h]), List.eraseDups_cons]
      show x :: era xs (m ||| 1 <<< x) = _
      rw [era_eq xs _, List.filter_filter]
      congr 2
      refine List.filter_congr fun y _ => ?_
      rw [Nat.testBit_or, Nat.one_shiftLeft, Nat.testBit_two_pow]
      by_cases e : y = x
      · subst e; simp
      · have e2 : ¬ x = y := fun z => e z.symm
        simp [e, e2]
def growE (g : Addr → Option Obj) (as : List Addr) : List Addr := era (as ++ as.flatMap fun a => match g a with
  | some o => refsD o
  | none => []) 0
theorem growE_eq (g : Addr → Option Obj) (as : List Addr) : growD g as = growE g as := by
  unfold growD growE
  rw [era_eq]
  congr 1
  refine (List.filter_eq_self.mpr fun x _ => ?_).symm
  simp
end PX
set_option Elab.async false
set_option linter.all false
set_option maxRecDepth 100000
set_option maxHeartbeats 0
namespace PX.K69
open PySem PySem.Spec PyProof.Rows L2 He PX
abbrev hk : PySem.W.Hook := hookP 6 fb fn
def ob (s : PySem.W.SharedT) : He.AlD := obsPG 6 fb fn (HandSHeadRun.getT s)
theorem ob_eq (s : PySem.W.SharedT) : ob s = hk.obs s.abs := obsPG_eq (HandSHeadRun.getT_eq s)
end PX.K69
namespace PX.K69
open PySem PySem.W PySem.Calls PyProof.Rows HandSHeadRun
noncomputable abbrev bE : List Stmt := behindTheImports RR.prog
noncomputable abbrev cE : Code := .body bE theEnv
noncomputable abbrev BB : List Frame := [topFrame framePos]
noncomputable abbrev stq (w : World) : SharedT → Thread → Option (SharedT × Thread) := stepQ (denQ tabQ) RR.prog w
abbrev annV : Option Value := some (.ref 6)
def looseN : List PySem.Str := ("_wall" :: "SumError" :: "BadCounts" :: "BadColumn" :: "BadValue" :: "BadHistogram" :: "BadNumber" :: "BadStream" :: "BadCounters" :: "Unlike" :: "MOST_VALUES" :: "MOST_COUNT" :: "is_number" :: "Column" :: "check_column" :: "check_number" :: "MOST_LENGTH" :: "MOST_COUNTERS" :: "check_stream" :: "Crossed" :: "is_group" :: "counts_of" :: "are_counters" :: "merge" :: "check_like" :: "falling" :: "Evener" :: "Uneven" :: "gap_of" :: "judge_evener" :: "is_evener" :: "fewest_transfers" :: "are_cuts" :: "buckets_of" :: "Histogram" :: "_law_is_refused" :: "_law_counters_right" :: "_law_transfers_right" :: "_law_totals_right" :: ([] : List PySem.Str))
noncomputable abbrev qv : Program := PySem.W.view RR.prog [45]
theorem boot_put (w : World) : putAll (boot_heap w.params).objs.toList .nil 0 = some (trBoot w.params, 11) := by kernel_rfl
theorem boot_n (w : World) : (boot_heap w.params).objs.size = 11 := by kernel_rfl
theorem boot_annE (w : World) : bootAnn w = annV := by kernel_rfl
theorem r_pre (w : World) (os : OsState) : topF (stq w) 11 annV 12 (bootT w os (trBoot w.params, 11)) (topStub RR.prog) = some (Sa w os, ⟨denQ tabQ cE, cE, posa, BB⟩) := by kernel_rfl
theorem r_pre2 (w : World) (os : OsState) : topF (stq w) 11 annV 12 (bootT w os (trBoot w.params, 11)) (topStub RR.prog) = some (Sa w os, ⟨denote treeTable cE, cE, posa, BB⟩) := by rw [denQ_eq, tabQ_eq]; exact r_pre w os
theorem r_block (w : World) (os : OsState) : segF (stq w) 11 annV 1 (Sa w os) (blockOf bE theEnv cE posa BB) = some (.next, Sb w os, cE, posb) := by kernel_rfl
theorem r_16 (w : World) (os : OsState) : segF (stq w) 11 annV 2573 (Sb w os) (piecesOf (bE.take 16) theEnv cE posb BB) = some (.next, S16 w os, cE, pos16) := by kernel_rfl
theorem r_last (w : World) (os : OsState) : segF (stq w) 11 annV 1847 (S16 w os) (piecesOf (bE.drop 16) theEnv cE pos16 BB) = some (.next, S46 w os, cE, pos46) := by kernel_rfl
theorem r_fin (w : World) (os : OsState) : goF (stq w) 11 annV 2 (S46 w os) ⟨doneF .next, cE, pos46, BB⟩ = some (Sz w os) := by kernel_rfl
theorem k_looks (w : World) (os : OsState) : looksF RR.prog (boot_heap w.params) (Sz w os).abs = true := by kernel_rfl
theorem k_seen (w : World) (os : OsState) : seenQ qv looseN (importedModules RR.prog.main.body) (fun s => xlAt qv [] s && recOk RR.toRowW.records s) (Sz w os).abs = openGood qv looseN := by kernel_rfl
theorem k_as1 (w : World) (os : OsState) : He.asD (getT (Sz w os)) 1 = asL1 := by kernel_rfl
theorem k_gr2 (w : World) (os : OsState) : He.growD (getT (Sz w os)) asL1 = asL2 := by
  rw [PX.growE_eq]
  kernel_rfl
theorem k_as2 (w : World) (os : OsState) : He.asD (getT (Sz w os)) 2 = asL2 := by
  show He.growD (getT (Sz w os)) (He.asD (getT (Sz w os)) 1) = _
  rw [k_as1]
  exact k_gr2 w os
theorem k_gr3 (w : World) (os : OsState) : He.growD (getT (Sz w os)) asL2 = asL3 := by
  rw [PX.growE_eq]
  kernel_rfl
theorem k_as3 (w : World) (os : OsState) : He.asD (getT (Sz w os)) 3 = asL3 := by
  show He.growD (getT (Sz w os)) (He.asD (getT (Sz w os)) 2) = _
  rw [k_as2]
  exact k_gr3 w os
theorem k_gr4 (w : World) (os : OsState) : He.growD (getT (Sz w os)) asL3 = asL4 := by
  rw [PX.growE_eq]
  kernel_rfl
theorem k_as4 (w : World) (os : OsState) : He.asD (getT (Sz w os)) 4 = asL4 := by
  show He.growD (getT (Sz w os)) (He.asD (getT (Sz w os)) 3) = _
  rw [k_as3]
  exact k_gr4 w os
theorem k_gr5 (w : World) (os : OsState) : He.growD (getT (Sz w os)) asL4 = asL5 := by
  rw [PX.growE_eq]
  kernel_rfl
theorem k_as5 (w : World) (os : OsState) : He.asD (getT (Sz w os)) 5 = asL5 := by
  show He.growD (getT (Sz w os)) (He.asD (getT (Sz w os)) 4) = _
  rw [k_as4]
  exact k_gr5 w os
theorem k_gr6 (w : World) (os : OsState) : He.growD (getT (Sz w os)) asL5 = asL := by
  rw [PX.growE_eq]
  kernel_rfl
theorem k_as (w : World) (os : OsState) : He.asD (getT (Sz w os)) 6 = asL := by
  show He.growD (getT (Sz w os)) (He.asD (getT (Sz w os)) 5) = _
  rw [k_as5]
  exact k_gr6 w os
theorem k_fr (w : World) (os : OsState) : He.frG (PX.noLst (getT (Sz w os))) asL = KL w.params := by kernel_rfl
theorem k_K (w : World) (os : OsState) : He.frG (PX.noLst (getT (Sz w os))) (He.asD (getT (Sz w os)) 6) = KL w.params := by rw [k_as, k_fr]
theorem c_fb_0 (w : World) (os : OsState) : ((fb.take 60).all fun f => f (KL w.params)) = true := by kernel_rfl
theorem c_fb_60 (w : World) (os : OsState) : ((fb.drop 60).all fun f => f (KL w.params)) = true := by kernel_rfl
theorem c_fb (w : World) (os : OsState) : (fb.all fun f => f (KL w.params)) = true := (all_cut 60 (c_fb_0 w os) (c_fb_60 w os))
theorem c_fn_0 (w : World) (os : OsState) : ((fn.take 30).all fun f => f.ok (KL w.params)) = true := by kernel_rfl
theorem c_fn_30 (w : World) (os : OsState) : ((fn.drop 30).all fun f => f.ok (KL w.params)) = true := by kernel_rfl
theorem c_fn (w : World) (os : OsState) : (fn.all fun f => f.ok (KL w.params)) = true := (all_cut 30 (c_fn_0 w os) (c_fn_30 w os))
theorem c_map (w : World) (os : OsState) : (fn.map fun d => He.fnW (KL w.params) d.at_) = fn.map He.DefD.val := by kernel_rfl
theorem k_ob (w : World) (os : OsState) : ob (Sz w os) = hk.val w := by
  show PX.obsP fb fn (He.frG (PX.noLst (getT (Sz w os))) (He.asD (getT (Sz w os)) 6)) = He.valD fn
  rw [k_K]
  show (((fb.all fun f => f (KL w.params)) && fn.all fun d => d.ok (KL w.params)), fn.map fun d => He.fnW (KL w.params) d.at_) = (true, fn.map He.DefD.val)
  rw [c_fb w os, c_fn w os, c_map w os]
  rfl
theorem splitE : bE = ((bE.take 16) ++ (bE.drop 16 ++ [])) := by kernel_rfl
theorem restEq {l l' : List Stmt} (h : l = l') (env : PySem.Env) (c : Code) (p : Pos) (B : List Frame) : restOf l env c p B = restOf l' env c p B := by rw [h]
theorem runP (w : World) (os : OsState) : ∃ s : SharedT, topRun treeTable RR.prog w (boot_heap w.params).objs.size (bootAnn w) (12 + (1 + (2573 + (1847 + 2)))) ⟨boot_heap w.params, #[], boot_drawn, boot_toks, os⟩ (topStub RR.prog) = some s.abs ∧ lookQ RR qv hk ob looseN w s = (true, openGood qv looseN, hk.val w) := by
  refine ⟨Sz w os, ?_, by show (_, _, _) = _; rw [k_looks, k_seen, k_ob]⟩
  rw [boot_n, boot_annE, ← boot_abs (boot_put w)]
  have k0 := piece_app (q := framePos) (rest := []) (segQ_ok (r_last w os)) (piece_nil (goQ_ok (r_fin w os)))
  have k1 := piece_app (q := framePos) (segQ_ok (r_16 w os)) k0
  rw [← restEq splitE] at k1
  exact go_top (topQ_ok (r_pre2 w os)) (piece_block (q := framePos) (segQ_ok (r_block w os)) k1)
end PX.K69
set_option Elab.async false
set_option linter.all false
set_option maxRecDepth 100000
set_option maxHeartbeats 0
open PySem PySem.W PySem.Calls PyProof.Rows PX PX.K69
theorem PySem.Challenge.cw_bucketsums_k69_edges_hunt_holds : PySem.Challenge.rw_bucketsums_k69_edges_hunt.Holds := by
  w_on; o_law
  refine HandSHeadRun.head_pcs (r := OpenLaw.row PySem.Challenge.rw_bucketsums_k69_edges_hunt) (q := PX.K69.qv) (H := PX.K69.hk) (ob := PX.K69.ob) (N := 60000) (loose := PX.K69.looseN) (d := HandSHeadRun.topDef (OpenLaw.row PySem.Challenge.rw_bucketsums_k69_edges_hunt).prog 45) (kwd := []) PX.K69.ob_eq
    (by kernel_rfl) (fun s => by kernel_rfl) (by decide +kernel) (by decide +kernel) PX.K69.runP (by kernel_rfl) (by kernel_rfl) (by kernel_rfl) (by rfl) (by first | assumption | decide +kernel) (by decide +kernel) ⟨rfl, rfl, rfl, rfl, rfl, by decide +kernel⟩ ?hw ?hc
  case hw => w_witness2
  case hc =>
    refine L2.walk_ofE (l := PySem.Challenge.rw_bucketsums_k69_edges_hunt) (n := 63) (k := 4 * 45) (x := "_law_script") (CX := L2.CX0) rfl (by decide) (by kernel_rfl) ⟨rfl, by decide, by decide⟩ ?F (fun _ _ _ _ z => z)
    intro w mg fa h Y G hmg0
    obtain ⟨K, KX, c⟩ := Y
    have C : PX.K69.Ctx K h mg := ⟨KX, G, c⟩
    have hmg : mg ("law" : PySem.Str) = some (.ref fa) := by
      have e : (HandSHeadRun.topDef (OpenLaw.row PySem.Challenge.rw_bucketsums_k69_edges_hunt).prog 45).name = ("law" : PySem.Str) := by kernel_rfl
      rw [← e]
      exact hmg0
    have e := hmg.symm.trans (PX.K69.m_f_law C)
    cases e
    obtain ⟨fd, F⟩ := c.def_ 40 (d := PX.K69.d40) rfl
    have hb := L2.FunD.bindsA (ps := ["_law_script"]) F fun _ _ _ _ _ _ us hl => match us, hl with | [_], _ => rfl
    refine ⟨K, fd, PX.spF0 (PX.K69.GG K) (PX.callF PX.K69.TT 45) 40 1, KX, fun s u => hb s [u] rfl, fun H a ns hl _ hS => ?_, fun base kb nb => ?_⟩
    · obtain ⟨S', e⟩ := PX.K69.law_eval ns hl
      exact PX.law_sp c.nol hS e
    · exact PX.K69.lawOk ⟨kb, nb, c⟩ F
