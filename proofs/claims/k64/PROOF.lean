import PyProof.Rows.All
import Wide.All
import OpenK.AllK
import Wide.FinOn
import HandS.ForMost
import KE.KDictKeyed
import HandS.Lambda
import HandS.Dict
import HandS.Flow
import HandS.Star
import HandS.Style
import HandS.Defaults
import KE.KTupSum
import KE.DataAny
import HandS.TupAny
import HandS.TupMul
import KE.DataMinMax
import PyProof.InstEq
import HandS.IsInst
import HandS.OwnEq
import HandS.SlotsOwn
import HandS.Words
import HandS.Exc
import PyProof.InstNe
import HandS.Finally
import HandS.More
import HandS.RaiseOp
import PyProof.ZipIter
import PyProof.Draws
import HandS.Zip0
import HandS.Zip
import HandS.Iter
import HandS.Comp
import HandS.SortInts
import KE.KStateDown
import HandS.Base
import HandS.Call
import HandS.Ends
import HandS.HeadEnd
import HandS.HeadHook1
import HandS.HeadHook2
import HandS.Codes
import HandS.Deep
import PyProof.ListNew
import KE.KDictZip
import HandS.Conv
import HandS.Small
import KE.GoesZip
import KE.GoesMore
import PyProof.EqAt
import PyProof.EqKinds
import PyProof.TupleCall
import PyProof.Rows.SortShell
import PyProof.Rows.SortRev
import PyProof.Rows.CallKwBuiltin
import PyProof.Rows.CallKw2
import KE.KSortTup
import KE.KSortKey
import HandS.List
import HandS.Sort
import HandS.SortOrd
import HandS.SortRule
import HandS.SortKw
import KE.KDictList
import HandS.DictSubView
import KE.KEqNest
import PyProof.NeKinds
import HandS.DeepEq
import HandS.NamedTupSort
import HandS.TupLen
import KE.KDictPairs
import KE.KDictCopyH
import HandS.ForExc
import HandS.TryOnly
import HandS.ExcOwn
import HandS.WordsExc
import KE.KIsAll
import KE.KTryMore
import HandS.ExcIs
import KE.SortKeyHeap
import HandS.HeadHook4
import HandS.HeadWalk
import HandS.HotCalls
import HandS.ListItems
import KE.KDictSum
import KE.KItemsList
import HandS.DictTup
import PyProof.SumWalkG
import HandS.SetFor
import HandS.TryMany
import HandS.Set
import HandS.Strs
import HandS.TupLe
import HandS.Head0
import HandS.Head1
import HandS.Head2
import PySem.Challenge.RW_bucketsums_k64_whole_refused_more
set_option Elab.async false
set_option linter.all false
set_option maxRecDepth 100000
namespace PX
open PySem
inductive DK where
  | k (x : Sum Int Str)
  | t (xs : List (Sum Int Str))
  deriving DecidableEq
inductive DKs where
  | k (l : List (Sum Int Str))
  | t (l : List (List (Sum Int Str)))
  | n (l : List NestedKey)
  deriving DecidableEq
inductive PV where
  | non
  | bl (b : Bool)
  | int (i : Int)
  | str (s : Str)
  | tup (xs : List PV)
  | lst (xs : List PV)
  | dct (ks : DKs) (vs : List PV)
  | ins (c : Nat) (ns : List Nat) (vs : List PV)
  | ref (i : Nat)
  | lck (v : PV)
abbrev Store := List PV
abbrev Env := List (Option PV)
inductive R (α : Type) where
  | ok (a : α) (S : Store)
  | ex (c : Nat) (pl : List PV) (S : Store)
  | no
def R.bind {α β : Type} : R α → (α → Store → R β) → R β
  | .ok a S, k => k a S
  | .ex c p S, _ => .ex c p S
  | .no, _ => .no
@[simp] theorem R.bind_ok {α β : Type} (a : α) (S : Store) (k : α → Store → R β) : (R.ok a S).bind k = k a S := (rfl)
@[simp] theorem R.bind_ex {α β : Type} (c : Nat) (p : List PV) (S : Store) (k : α → Store → R β) : (R.ex c p S : R α).bind k = .ex c p S := (rfl)
@[simp] theorem R.bind_no {α β : Type} (k : α → Store → R β) : (R.no : R α).bind k = .no := (rfl)
def unl : PV → PV
  | .lck o => o
  | v => v
def unlD : PV → Option PV
  | .lck (.dct (.t _) _) => none
  | .lck (.dct (.n _) _) => none
  | o => some (unl o)
def deref (S : Store) : PV → Option PV
  | .ref i => match S[i]? with
    | some o => unlD o
    | none => none
  | v => some v
theorem unlD_some {o w : PV} (h : unlD o = some w) : unl o = w := by
  unfold unlD at h
  split at h
  · cases h
  · cases h
  · exact Option.some.inj h
abbrev SE := Env → Store → R (Bool × PV)
abbrev SA := Env → Store → R (List PV)
abbrev ST := Env → Store → R Bool
end PX
namespace PX
open PySem
def eLit (v : PV) : SE := fun _ S => .ok (false, v) S
def eVar (i : Nat) : SE := fun env S => match env[i]? with
  | some (some v) => .ok (false, v) S
  | _ => .no
abbrev Op1 := PV → Store → Option (Bool × PV)
abbrev Op2 := PV → PV → Store → Option (Bool × PV)
abbrev OpN := List PV → Store → Option (Bool × PV)
def ofO (o : Option (Bool × PV)) (S : Store) : R (Bool × PV) := match o with
  | some z => .ok z S
  | none => .no
def eUn (o : Op1) (a : SE) : SE := fun env S => (a env S).bind fun p S1 => ofO (o p.2 S1) S1
def eBin (o : Op2) (a b : SE) : SE := fun env S => (a env S).bind fun p S1 => (b env S1).bind fun q S2 => ofO (o p.2 q.2 S2) S2
def aNil : SA := fun _ S => .ok [] S
def aCons (a : SE) (r : SA) : SA := fun env S => (a env S).bind fun p S1 => (r env S1).bind fun q S2 => .ok (p.2 :: q) S2
def itemsOf (S : Store) (v : PV) : Option (List PV) := match deref S v with
  | some (.lst xs) => some xs
  | some (.tup xs) => some xs
  | _ => none
def aStar (a : SE) (r : SA) : SA := fun env S => (a env S).bind fun p S1 => match itemsOf S1 p.2 with
  | some xs => (r env S1).bind fun q S2 => .ok (xs ++ q) S2
  | none => .no
def eArg (o : OpN) (a : SA) : SE := fun env S => (a env S).bind fun p S1 => ofO (o p S1) S1
def small (n : Nat) : Bool := Nat.ble n 1000000
def eTup (a : SA) : SE := fun env S => (a env S).bind fun p S1 => if small p.length then .ok (false, .tup p) S1 else .no
def eLst (a : SA) : SE := fun env S => (a env S).bind fun p S1 => if small p.length then .ok (true, .lst p) S1 else .no
def truth (S : Store) (v : PV) : Option Bool := match deref S v with
  | some (.bl b) => some b
  | some (.int i) => some (i != 0)
  | some .non => some false
  | some (.lst xs) => some (!xs.isEmpty)
  | some (.tup xs) => some (!xs.isEmpty)
  | _ => none
def tTru (a : SE) : ST := fun env S => (a env S).bind fun p S1 => match truth S1 p.2 with
  | some b => .ok b S1
  | none => .no
def tBl (a : SE) : ST := fun env S => (a env S).bind fun p S1 => match p.2 with
  | .bl b => .ok b S1
  | _ => .no
def tNo (a : ST) : ST := fun env S => (a env S).bind fun b S1 => .ok (!b) S1
def tAn (a b : ST) : ST := fun env S => (a env S).bind fun c S1 => if c = true then b env S1 else .ok false S1
def tOr (a b : ST) : ST := fun env S => (a env S).bind fun c S1 => if c = true then .ok true S1 else b env S1
def eAn (a b : SE) : SE := fun env S => (a env S).bind fun p S1 => match truth S1 p.2 with
  | some true => b env S1
  | some false => .ok (false, p.2) S1
  | none => .no
def eOr (a b : SE) : SE := fun env S => (a env S).bind fun p S1 => match truth S1 p.2 with
  | some true => .ok (false, p.2) S1
  | some false => b env S1
  | none => .no
def eNot (a : SE) : SE := fun env S => (a env S).bind fun p S1 => match truth S1 p.2 with
  | some b => .ok (false, .bl (!b)) S1
  | none => .no
def eIf (c : ST) (a b : SE) : SE := fun env S => (c env S).bind fun t S1 => if t = true then a env S1 else b env S1
def eCh (o o' : Op2) (a b c : SE) : SE := fun env S => (a env S).bind fun p S1 => (b env S1).bind fun q S2 => match o p.2 q.2 S2 with
  | some (false, .bl true) => (c env S2).bind fun z S3 => ofO (o' q.2 z.2 S3) S3
  | some (false, .bl false) => .ok (false, .bl false) S2
  | _ => .no
def eNew (a : SE) : SE := fun env S => (a env S).bind fun p S1 => match p.1 with
  | true => .ok (false, .ref S1.length) (S1 ++ [p.2])
  | false => .ok p S1
def oAdd : Op2 := fun x y S => match x, y with
  | .int i, .int j => some (false, .int (i + j))
  | _, _ => none
def oSub : Op2 := fun x y _ => match x, y with
  | .int i, .int j => some (false, .int (i - j))
  | _, _ => none
def mulOk (i j : Int) : Bool := (decide (-18446744073709551616 < i) && decide (i < 18446744073709551616)) || (decide (-18446744073709551616 < j) && decide (j < 18446744073709551616))
def oDiv : Op2 := fun x y _ => match x, y with
  | .int i, .int j => if 0 < j ∧ j < 1073741824 then some (false, .int (i / j)) else none
  | _, _ => none
def oMod : Op2 := fun x y _ => match x, y with
  | .int i, .int j => if 0 < j then some (false, .int (i % j)) else none
  | _, _ => none
def oNeg : Op1 := fun x _ => match x with
  | .int i => some (false, .int (-i))
  | _ => none
def oLt : Op2 := fun x y _ => match x, y with
  | .int i, .int j => some (false, .bl (decide (i < j)))
  | _, _ => none
def oLe : Op2 := fun x y _ => match x, y with
  | .int i, .int j => some (false, .bl (decide (i ≤ j)))
  | _, _ => none
def oGt : Op2 := fun x y _ => match x, y with
  | .int i, .int j => some (false, .bl (decide (j < i)))
  | _, _ => none
def oGe : Op2 := fun x y _ => match x, y with
  | .int i, .int j => some (false, .bl (decide (j ≤ i)))
  | _, _ => none
end PX
namespace PX
open PySem
inductive RS where
  | nx (env : Env) (S : Store)
  | rt (v : PV) (S : Store)
  | bk (env : Env) (S : Store)
  | ct (env : Env) (S : Store)
  | ex (c : Nat) (pl : List PV) (S : Store)
  | no
abbrev SS := Env → Store → RS
def R.go {α : Type} : R α → (α → Store → RS) → RS
  | .ok a S, k => k a S
  | .ex _ _ _, _ => .no
  | .no, _ => .no
@[simp] theorem R.go_ok {α : Type} (a : α) (S : Store) (k : α → Store → RS) : (R.ok a S).go k = k a S := (rfl)
@[simp] theorem R.go_ex {α : Type} (c : Nat) (p : List PV) (S : Store) (k : α → Store → RS) : (R.ex c p S : R α).go k = .no := (rfl)
@[simp] theorem R.go_no {α : Type} (k : α → Store → RS) : (R.no : R α).go k = .no := (rfl)
def RS.then : RS → (Env → Store → RS) → RS
  | .nx e S, k => k e S
  | z, _ => z
@[simp] theorem RS.then_nx (e : Env) (S : Store) (k : Env → Store → RS) : (RS.nx e S).then k = k e S := (rfl)
@[simp] theorem RS.then_rt (v : PV) (S : Store) (k : Env → Store → RS) : (RS.rt v S).then k = .rt v S := (rfl)
@[simp] theorem RS.then_bk (e : Env) (S : Store) (k : Env → Store → RS) : (RS.bk e S).then k = .bk e S := (rfl)
@[simp] theorem RS.then_ct (e : Env) (S : Store) (k : Env → Store → RS) : (RS.ct e S).then k = .ct e S := (rfl)
@[simp] theorem RS.then_ex (c : Nat) (p : List PV) (S : Store) (k : Env → Store → RS) : (RS.ex c p S).then k = .ex c p S := (rfl)
@[simp] theorem RS.then_no (k : Env → Store → RS) : RS.no.then k = .no := (rfl)
def sNil : SS := fun env S => .nx env S
def sCons (a b : SS) : SS := fun env S => (a env S).then b
def sExp (a : SE) : SS := fun env S => (a env S).go fun _ S1 => .nx env S1
def sRet (a : SE) : SS := fun env S => (a env S).go fun p S1 => .rt p.2 S1
def sNo : SS := fun _ _ => .no
def R.goX {α : Type} : R α → (α → Store → RS) → RS
  | .ok a S, k => k a S
  | .ex c p S, _ => .ex c p S
  | .no, _ => .no
def sRse (c : Nat) : SS := fun _ S => .ex c [] S
def sExpX (a : SE) : SS := fun env S => (a env S).goX fun _ S1 => .nx env S1
def sIf (c : ST) (a b : SS) : SS := fun env S => (c env S).go fun t S1 => if t = true then a env S1 else b env S1
abbrev Tg := PV → Env → Store → Option Env
def gNm (i : Nat) : Tg := fun v env _ => some (env.set i (some v))
def gTps (ts : List Tg) : List PV → Env → Store → Option Env := fun vs env S => match ts, vs with
  | [], [] => some env
  | t :: ts, v :: vs => match t v env S with
    | some env' => gTps ts vs env' S
    | none => none
  | _, _ => none
def gTp (ts : List Tg) : Tg := fun v env S => match deref S v with
  | some (.tup xs) => gTps ts xs env S
  | _ => none
def sAsg (t : Tg) (a : SE) : SS := fun env S => (a env S).go fun p S1 => match t p.2 env S1 with
  | some env' => .nx env' S1
  | none => .no
def sPar (is : List Nat) (a : SA) : SS := fun env S => (a env S).go fun vs S1 => match gTps (is.map gNm) vs env S1 with
  | some env' => .nx env' S1
  | none => .no
def sAug (i : Nat) (o : Op2) (a : SE) : SS := fun env S => match env[i]? with
  | some (some x) => (a env S).go fun p S1 => match o x p.2 S1 with
    | some z => .nx (env.set i (some z.2)) S1
    | none => .no
  | _ => .no
abbrev SI := Env → Store → R (List PV × List (Nat × PV))
def unlock : List (Nat × PV) → Store → Store
  | [], S => S
  | p :: r, S => unlock r (S.set p.1 p.2)
def RS.unl (ls : List (Nat × PV)) : RS → RS
  | .nx e S => .nx e (unlock ls S)
  | .rt v S => .rt v (unlock ls S)
  | .bk e S => .bk e (unlock ls S)
  | .ct e S => .ct e (unlock ls S)
  | .ex c p S => .ex c p (unlock ls S)
  | .no => .no
def forR (t : Tg) (b : SS) : List PV → Env → Store → RS
  | [], env, S => .nx env S
  | x :: xs, env, S => match t x env S with
    | none => .no
    | some env' => match b env' S with
      | .nx e S' => forR t b xs e S'
      | .ct e S' => forR t b xs e S'
      | .bk e S' => .nx e S'
      | z => z
def sFor (i : SI) (t : Tg) (b : SS) : SS := fun env S => (i env S).go fun p S1 => (forR t b p.1 env S1).unl p.2
end PX
namespace PX
open PySem
abbrev CF := Nat → List PV → Nat → Store → R PV
structure FnB where
  np : Nat
  nl : Nat
  body : CF → Nat → SS
def runB (b : FnB) (cf : CF) (args : List PV) (n0 : Nat) (S : Store) : R PV := if args.length = b.np then
    match b.body cf n0 (args.map some ++ List.replicate (b.nl - b.np) none) S with
    | .rt v S' => .ok v S'
    | .nx _ S' => .ok .non S'
    | .ex c p S' => .ex c p S'
    | _ => .no
  else .no
def callF (T : Nat → Option FnB) : Nat → CF
  | 0 => fun _ _ _ _ => .no
  | n + 1 => fun f args n0 S => match T f with
    | some b => runB b (callF T n) args n0 S
    | none => .no
def frzL (f : PV → Option PV) : List PV → Option (List PV)
  | [] => some []
  | v :: vs => match f v with
    | some w => match frzL f vs with
      | some ws => some (w :: ws)
      | none => none
    | none => none
def frzO (f : PV → Option PV) : PV → Option PV
  | .lst xs => (frzL f xs).map .lst
  | .dct ks vs => (frzL f vs).map (.dct ks)
  | .ins c ns vs => (frzL f vs).map (.ins c ns)
  | _ => none
def frz (n0 t : Nat) (S : Store) : Nat → PV → Option PV
  | 0, _ => none
  | k + 1, v => match v with
    | .ref i => if i < n0 then some (.ref i) else if i = t then none else match S[i]? with
      | some o => frzO (frz n0 t S k) o
      | none => none
    | .tup xs => (frzL (frz n0 t S k) xs).map .tup
    | .lst xs => (frzL (frz n0 t S k) xs).map .lst
    | .dct ks vs => (frzL (frz n0 t S k) vs).map (.dct ks)
    | .ins c ns vs => (frzL (frz n0 t S k) vs).map (.ins c ns)
    | .lck _ => none
    | w => some w
def norm (n0 : Nat) (v : PV) (S : Store) : R (Bool × PV) := if S.length = n0 then .ok (false, v) S else match v with
  | .ref i => if i < n0 then .ok (false, .ref i) (S.take n0) else match S[i]? with
    | some o => match frzO (frz n0 i S 8) o with
      | some w => .ok (true, w) (S.take n0)
      | none => .no
    | none => .no
  | v => match frz n0 S.length S 8 v with
    | some w => .ok (false, w) (S.take n0)
    | none => .no
def cutX {α : Type} (n0 : Nat) : R α → R α
  | .ex c p S => .ex c p (S.take n0)
  | z => z
def eCall (cf : CF) (np f : Nat) (a : SA) : SE := fun env S => (a env S).bind fun args S1 => if args.length = np then (cutX S1.length (cf f args S1.length S1)).bind fun v S2 => norm S1.length v S2 else .no
def eMake (cf : CF) (np c f : Nat) (a : SA) : SE := fun env S => (a env S).bind fun args S1 => if args.length + 1 = np then
    (cutX S1.length (cf f (.ref S1.length :: args) S1.length (S1 ++ [.ins c [] []]))).bind fun v S2 => match v with
      | .non => norm S1.length (.ref S1.length) S2
      | _ => .no
  else .no
def methOf (m : Nat) (T : List (Nat × Nat)) (S : Store) (v : PV) : Option Nat := match deref S v with
  | some (.ins c ns _) => if ns.contains m then none else T.lookup c
  | _ => none
def eMeth (cf : CF) (np m : Nat) (T : List (Nat × Nat)) (o : SE) (a : SA) : SE := fun env S => (o env S).bind fun p S0 => match methOf m T S0 p.2 with
  | some f => (a env S0).bind fun args S1 => if args.length + 1 = np then (cutX S1.length (cf f (p.2 :: args) S1.length S1)).bind fun v S2 => norm S1.length v S2 else .no
  | none => .no
def fldOf (cs : List Nat) (f : Nat) (S : Store) (v : PV) : Option PV := match deref S v with
  | some (.ins c ns vs) => if cs.contains c then (ns.zip vs).lookup f else none
  | _ => none
def eFld (cs : List Nat) (f : Nat) (a : SE) : SE := eUn (fun v S => (fldOf cs f S v).map fun w => (false, w)) a
def noref : PV → Bool
  | .non => true
  | .bl _ => true
  | .int _ => true
  | .str _ => true
  | .tup xs => norefL xs
  | .lst xs => norefL xs
  | .dct _ vs => norefL vs
  | .ins _ _ vs => norefL vs
  | .ref _ => false
  | .lck _ => false
where norefL : List PV → Bool
  | [] => true
  | v :: vs => noref v && norefL vs
def mayPut (n0 i : Nat) (v : PV) : Bool := Nat.ble n0 i || noref v
def putFld (f : Nat) (v : PV) : List Nat → List PV → List Nat × List PV
  | n :: ns, w :: ws => if n = f then (n :: ns, v :: ws) else let z := putFld f v ns ws; (n :: z.1, w :: z.2)
  | _, _ => ([f], [v])
def sFld (n0 : Nat) (cs : List Nat) (f : Nat) (o e : SE) : SS := fun env S => (e env S).go fun p S1 => (o env S1).go fun q S2 => match q.2 with
  | .ref i => match S2[i]? with
    | some (.ins c ns vs) => if cs.contains c && mayPut n0 i p.2 && Nat.ble ns.length 100 then .nx env (S2.set i (.ins c (putFld f p.2 ns vs).1 (putFld f p.2 ns vs).2)) else .no
    | _ => .no
  | _ => .no
end PX
set_option Elab.async false
set_option linter.all false
set_option maxRecDepth 100000
namespace PX
open PySem PySem.Spec PyProof.Rows L2
mutual
def nhash : NestedKey → Int
  | .num i => hashInt i
  | .tup ks => reduceHash (Builtin.Tuple.tupleHashOf (nhashes ks))
  | .none => 0
  | .text _ => 0
def nhashes : List NestedKey → List Int
  | [] => []
  | k :: ks => nhash k :: nhashes ks
end
mutual
def NkV (F : Hp) : NestedKey → V → Prop
  | .num i, u => u = .int i
  | .tup ks, u => ∃ a us, u = .ref a ∧ F a = some (.tup us) ∧ NkVs F ks us
  | .none, _ => False
  | .text _, _ => False
def NkVs (F : Hp) : List NestedKey → List V → Prop
  | [], us => us = []
  | k :: ks, us => ∃ u ur, us = u :: ur ∧ NkV F k u ∧ NkVs F ks ur
end
mutual
theorem NkV.mono {F F' : Hp} (h : ∀ a us, F a = some (.tup us) → F' a = some (.tup us)) : ∀ (k : NestedKey) (u : V), NkV F k u → NkV F' k u
  | .num i, u, q => by unfold NkV at q ⊢; exact q
  | .tup ks, u, q => by
    unfold NkV at q ⊢
    obtain ⟨a, us, e, e1, e2⟩ := q
    exact ⟨a, us, e, h _ _ e1, NkVs.mono h ks us e2⟩
  | .none, u, q => by unfold NkV at q; exact q.elim
  | .text _, u, q => by unfold NkV at q; exact q.elim
theorem NkVs.mono {F F' : Hp} (h : ∀ a us, F a = some (.tup us) → F' a = some (.tup us)) : ∀ (ks : List NestedKey) (us : List V), NkVs F ks us → NkVs F' ks us
  | [], us, q => by unfold NkVs at q ⊢; exact q
  | k :: ks, us, q => by
    unfold NkVs at q ⊢
    obtain ⟨u, ur, e, e1, e2⟩ := q
    exact ⟨u, ur, e, NkV.mono h k u e1, NkVs.mono h ks ur e2⟩
end
section
variable {P : Program} {w : World} {H : Hp} {h : Heap}
mutual
theorem NkV.is (ok : HOk P w H h) : ∀ (k : NestedKey) (u : V) (z : Value), NkV H k u → RelV u z → NestedIs h k z
  | .num i, u, z, q, r => by
    unfold NkV at q
    subst q
    obtain ⟨t, rfl⟩ := (show ∃ t, z = Value.int i t from r)
    exact .int i t
  | .tup ks, u, z, q, r => by
    unfold NkV at q
    obtain ⟨a, us, rfl, e1, e2⟩ := q
    obtain rfl : z = Value.ref a := r
    obtain ⟨_, its, rl, o, h1, h2, n, h3⟩ := (show ObjOk P w H h a (.tup us) from ok a _ e1)
    exact .tup h1 h2 h3 (NkVs.is ok ks us its e2 rl)
  | .none, u, z, q, r => by unfold NkV at q; exact q.elim
  | .text _, u, z, q, r => by unfold NkV at q; exact q.elim
theorem NkVs.is (ok : HOk P w H h) : ∀ (ks : List NestedKey) (us : List V) (zs : List Value), NkVs H ks us → Vals us zs → NestedAll h ks zs
  | [], us, zs, q, r => by
    unfold NkVs at q
    subst q
    cases r
    exact .nil
  | k :: ks, us, zs, q, r => by
    unfold NkVs at q
    obtain ⟨u, ur, rfl, e1, e2⟩ := q
    cases r with
    | cons r1 r2 => exact .cons (NkV.is ok k u _ e1 r1) (NkVs.is ok ks ur _ e2 r2)
end
end
abbrev NKX := List (NestedKey × Addr × Value)
def nent (x : NestedKey × Addr × Value) : DictEntry := ⟨nhash x.1, .ref x.2.1, x.2.2⟩
def nPhi (d : Addr) (xs : NKX) : Heap → Prop := fun h => xs.length ≤ sizeLine ∧ (d == sysModules) = false ∧ (xs.map (·.1)).Nodup ∧ ∃ (o : Obj) (es : Array DictEntry) (ep : Nat), h.get? d = some o ∧ o.ExactDict ∧ o.data = .dict es ep ∧ es.toList = xs.map nent
abbrev NT (H : Hp) : List (NestedKey × V) → NKX → Prop := Paired fun p q => p.1 = q.1 ∧ NkV H p.1 (.ref q.2.1) ∧ p.1.depth ≤ 8 ∧ RelV p.2 q.2.2
theorem NT.keeps {H H' : Hp} {kvs : List (NestedKey × V)} {xs : NKX} (r : NT H kvs xs) (ht : ∀ b ys, H b = some (.tup ys) → H' b = some (.tup ys)) : NT H' kvs xs :=
  Paired.mapP r fun _ _ z => ⟨z.1, NkV.mono ht _ _ z.2.1, z.2.2⟩
theorem NT.val {H : Hp} {kvs : List (NestedKey × V)} {xs : NKX} (r : NT H kvs xs) (k : NestedKey) : RelO (valV kvs k) ((atKey xs k).map (·.2)) := by
  induction r with
  | nil => exact True.intro
  | @cons p q ps qs h t ih =>
    obtain ⟨h1, _, _, h2⟩ := h
    by_cases e : p.1 = k
    · have e' : q.1 = k := h1.symm.trans e
      have b : atKey (q :: qs) k = some q.2 := by simp [atKey, List.find?_cons, e']
      rw [valV_pos e, b]; exact h2
    · have e' : ¬ q.1 = k := fun z => e (h1.trans z)
      have b : atKey (q :: qs) k = atKey qs k := by simp [atKey, List.find?_cons, e']
      rw [valV_neg e, b]; exact ih
theorem NT.put {H : Hp} {kvs : List (NestedKey × V)} {xs : NKX} (r : NT H kvs xs) (k : NestedKey) {b : Addr} {y : V} {u : Value} (hb : NkV H k (.ref b)) (hd : k.depth ≤ 8) (ry : RelV y u) :
    NT H (putK kvs k y) (storedH xs k b u) := by
  have e : (kvs.any fun kv => decide (kv.1 = k)) = (atKey xs k).isSome := by
    rw [valV_any, (r.val k).isSome_eq, Option.isSome_map]
  unfold putK storedH
  rw [e]
  by_cases q : (atKey xs k).isSome = true
  · rw [if_pos q, if_pos q]
    clear e q
    induction r with
    | nil => exact .nil
    | @cons p q ps qs h t ih =>
      rw [List.map_cons, List.map_cons]
      refine .cons ?_ ih
      obtain ⟨h1, h2, h3, h4⟩ := h
      unfold putAt
      by_cases e : p.1 = k
      · rw [if_pos e, if_pos (h1.symm.trans e)]; exact ⟨h1, h2, h3, ry⟩
      · rw [if_neg e, if_neg (fun z => e (h1.trans z))]; exact ⟨h1, h2, h3, h4⟩
  · rw [if_neg q, if_neg q]; exact Paired.snoc r ⟨rfl, hb, hd, ry⟩
end PX
set_option Elab.async false
set_option linter.all false
set_option maxRecDepth 100000
namespace PX
open PySem PySem.Spec PyProof.Rows L2
structure Gam where
  K : PySem.W.Frag
  fa : Nat → Addr
  ca : Nat → Addr
  nm : Nat → Str
  tb : List (Addr × Str)
def DR (F : Hp) (ho : HO) (ks : DKs) (us : List V) : Prop := match ks with
  | .k kk => ho = .dK (kk.zip us) ∧ kk.length = us.length
  | .t kt => ho = .dT (kt.zip us) ∧ kt.length = us.length
  | .n kn => (∃ d xs, ho = .ext (nPhi d xs) ∧ NT F (kn.zip us) xs) ∧ kn.length = us.length
mutual
def RV (G : Gam) (F : Hp) (r : List Addr) : PV → V → Prop
  | .non, u => u = .non
  | .bl b, u => u = .bl b
  | .int i, u => u = .int i
  | .str x, u => u = .str x
  | .tup xs, u => ∃ a us, u = .ref a ∧ F a = some (.tup us) ∧ RVs G F r xs us
  | .lst xs, u => ∃ a us, u = .ref a ∧ Rd F a (.lst us) ∧ RVs G F r xs us
  | .dct ks vs, u => ∃ a us ho, u = .ref a ∧ F a = some ho ∧ DR F ho ks us ∧ RVs G F r vs us
  | .ins c ns vs, u => ∃ a dx us, u = .ref a ∧ F a = some (.ins (G.ca c) dx ((ns.map G.nm).zip us)) ∧ ns.length = us.length ∧ RVs G F r vs us
  | .ref i, u => ∃ a, r[i]? = some a ∧ u = .ref a
  | .lck _, _ => False
def RVs (G : Gam) (F : Hp) (r : List Addr) : List PV → List V → Prop
  | [], us => us = []
  | v :: vs, us => ∃ u ur, us = u :: ur ∧ RV G F r v u ∧ RVs G F r vs ur
end
def RO (G : Gam) (F : Hp) (r : List Addr) (v : PV) (ho : HO) : Prop := match unl v with
  | .lst xs => ∃ us, ho = .lst us ∧ RVs G F r xs us
  | .dct ks vs => ∃ us, DR F ho ks us ∧ RVs G F r vs us
  | .ins c ns vs => ∃ dx us, ho = .ins (G.ca c) dx ((ns.map G.nm).zip us) ∧ ns.length = us.length ∧ RVs G F r vs us
  | _ => False
def Le (F F' : Hp) : Prop := ∀ a o, F a = some o → F' a = some o
theorem Le.refl (F : Hp) : Le F F := fun _ _ e => e
theorem Le.trans {F F' F2 : Hp} (h : Le F F') (k : Le F' F2) : Le F F2 := fun a o e => k a o (h a o e)
theorem Le.sqT {K : PySem.W.Frag} {F F' : Hp} (h : Le F F') {a : Addr} {us : List V} (q : SqT K F a us) : SqT K F' a us := by
  rcases q with (q | ⟨o, q⟩) | q
  · exact .inl (.inl (h _ _ q))
  · exact .inl (.inr ⟨o, h _ _ q⟩)
  · exact .inr q
theorem Le.tp {K : PySem.W.Frag} {F F' : Hp} (h : Le F F') {a : Addr} {us : List V} (q : F a = some (.tup us)) : SqT K F' a us := .inl (.inl (h _ _ q))
theorem Le.sqL {K : PySem.W.Frag} {F F' : Hp} (h : Le F F') {a : Addr} {us : List V} (q : SqL K F a us) : SqL K F' a us := by
  rcases q with (q | ⟨o, q⟩) | q
  · exact .inl (.inl (h _ _ q))
  · exact .inl (.inr ⟨o, h _ _ q⟩)
  · exact .inr q
theorem Le.rd {F F' : Hp} (h : Le F F') {a : Addr} {o : HO} (q : Rd F a o) : Rd F' a o := by
  rcases q with q | ⟨z, q⟩
  · exact .inl (h _ _ q)
  · exact .inr ⟨z, h _ _ q⟩
def isDk : HO → Bool
  | .dK _ => true
  | .dT _ => true
  | _ => false
def LeD (F H : Hp) : Prop := ∀ a o, F a = some o → H a = some o ∨ (isDk o = true ∧ ∃ od, H a = some (.frz od o))
theorem LeD.of {F H : Hp} (h : Le F H) : LeD F H := fun a o e => .inl (h a o e)
theorem LeD.refl (F : Hp) : LeD F F := fun _ _ e => .inl e
theorem LeD.trans {F F' H : Hp} (h : Le F F') (k : LeD F' H) : LeD F H := fun a o e => k a o (h a o e)
theorem LeD.eq {F H : Hp} (h : LeD F H) {a : Addr} {o : HO} (e : F a = some o) (hd : isDk o = false) : H a = some o := by
  rcases h a o e with q | ⟨q, _⟩
  · exact q
  · rw [hd] at q; cases q
theorem LeD.ne {F H : Hp} (h : LeD F H) {a : Addr} {o : HO} (e : F a = some o) : H a ≠ none := by
  rcases h a o e with q | ⟨_, _, q⟩ <;> rw [q] <;> intro z <;> cases z
theorem LeD.any {F H : Hp} (h : LeD F H) {a : Addr} {o : HO} (e : F a = some o) : Rd H a o := by
  rcases h a o e with q | ⟨_, od, q⟩
  · exact .inl q
  · exact .inr ⟨od, q⟩
theorem LeD.rd {F H : Hp} (h : LeD F H) {a : Addr} {us : List V} (q : Rd F a (.lst us)) : Rd H a (.lst us) := by
  rcases q with q | ⟨z, q⟩
  · exact .inl (h.eq q rfl)
  · exact .inr ⟨z, h.eq q rfl⟩
theorem LeD.tpH {F H : Hp} (h : LeD F H) {a : Addr} {us : List V} (q : F a = some (.tup us)) : H a = some (.tup us) := h.eq q rfl
theorem LeD.tp {K : PySem.W.Frag} {F H : Hp} (h : LeD F H) {a : Addr} {us : List V} (q : F a = some (.tup us)) : SqT K H a us := .inl (.inl (h.eq q rfl))
theorem LeD.heap {F H H' : Hp} (h : LeD F H) (k : ∀ a o, H a = some o → H' a = some o) : LeD F H' := fun a o e => by
  rcases h a o e with q | ⟨q, od, z⟩
  · exact .inl (k _ _ q)
  · exact .inr ⟨q, od, k _ _ z⟩
def isFz : HO → Bool
  | .frz _ (.dK _) => true
  | .frz _ (.dT _) => true
  | _ => false
theorem noFz {P Q : Prop} {o : HO} (q : P ∨ (isFz o = true ∧ Q)) (h : isFz o = false) : P := by
  rcases q with q | ⟨q, _⟩
  · exact q
  · rw [h] at q; cases q
def isDkA : HO → Bool
  | .dK _ => true
  | .dT _ => true
  | _ => false
def isLk : PV → Bool
  | .lck (.dct _ _) => true
  | _ => false
def AtL (H : Hp) (a : Addr) (ob : PV) (ho : HO) : Prop := match isLk ob with
  | false => H a = some ho
  | true => isDkA ho = true ∧ ∃ od, H a = some (.frz od ho)
theorem AtL.nl {H : Hp} {a : Addr} {ob : PV} {ho : HO} (q : AtL H a ob ho) (h : isLk ob = false) : H a = some ho := by
  unfold AtL at q
  rw [h] at q
  exact q
theorem AtL.mk {H : Hp} {a : Addr} {ob : PV} {ho : HO} (q : H a = some ho) (h : isLk ob = false) : AtL H a ob ho := by
  unfold AtL
  rw [h]
  exact q
theorem AtL.lk {H : Hp} {a : Addr} {ob : PV} {ho : HO} (q : AtL H a ob ho) (h : isLk ob = true) : isDkA ho = true ∧ ∃ od, H a = some (.frz od ho) := by
  unfold AtL at q
  rw [h] at q
  exact q
theorem AtL.or {H : Hp} {a : Addr} {ob : PV} {ho : HO} (q : AtL H a ob ho) : H a = some ho ∨ (isDkA ho = true ∧ ∃ od, H a = some (.frz od ho)) := by
  cases h : isLk ob with
  | false => exact .inl (q.nl h)
  | true => exact .inr (q.lk h)
theorem AtL.nd {H : Hp} {a : Addr} {ob : PV} {ho : HO} (q : AtL H a ob ho) (h : isDkA ho = false) : H a = some ho := by
  rcases q.or with q | ⟨q, _⟩
  · exact q
  · rw [h] at q; cases q
theorem isLk_unl {ob : PV} (h : unl ob = ob) : isLk ob = false := by
  cases ob with
  | lck o =>
    have e : o = .lck o := h
    exact absurd e (by intro z; have := congrArg sizeOf z; simp at this)
  | _ => rfl
theorem AtL.un {H : Hp} {a : Addr} {ob : PV} {ho : HO} (q : AtL H a ob ho) (h : unl ob = ob) : H a = some ho := q.nl (isLk_unl h)
theorem AtL.heap {H H' : Hp} {a : Addr} {ob : PV} {ho : HO} (q : AtL H a ob ho) (k : ∀ o, H a = some o → H' a = some o) : AtL H' a ob ho := by
  unfold AtL at q ⊢
  cases h : isLk ob with
  | false =>
    rw [h] at q
    exact k _ q
  | true =>
    rw [h] at q
    obtain ⟨q2, od, q3⟩ := q
    exact ⟨q2, od, k _ q3⟩
theorem AtL.upd {H : Hp} {a b : Addr} {ob : PV} {ho o : HO} (q : AtL H b ob ho) (hb : b ≠ a) : AtL (L2.upd H a o) b ob ho := q.heap fun o e => by
  rw [upd_ne hb]
  exact e
theorem AtL.there {H : Hp} {a : Addr} {ob : PV} {ho : HO} (q : AtL H a ob ho) : ∃ o, H a = some o := by
  rcases q.or with q | ⟨_, _, q⟩ <;> exact ⟨_, q⟩
theorem DR.mono {F F' : Hp} (h : Le F F') {ho : HO} {ks : DKs} {us : List V} (q : DR F ho ks us) : DR F' ho ks us := by
  cases ks with
  | k l => exact q
  | t l => exact q
  | n l =>
    obtain ⟨⟨d, xs, e, k⟩, hl⟩ := q
    exact ⟨⟨d, xs, e, k.keeps fun b ys z => h _ _ z⟩, hl⟩
mutual
theorem RV.mono {G : Gam} {F F' : Hp} {r r' : List Addr} (h : Le F F') (p : ∀ (i : Nat) a, r[i]? = some a → r'[i]? = some a) : ∀ (v : PV) (u : V), RV G F r v u → RV G F' r' v u
  | .non, _, q => q
  | .bl _, _, q => q
  | .int _, _, q => q
  | .str _, _, q => q
  | .tup xs, _, q => by
    obtain ⟨a, us, e, s, k⟩ := q
    exact ⟨a, us, e, h _ _ s, RVs.mono h p xs us k⟩
  | .lst xs, _, q => by
    obtain ⟨a, us, e, s, k⟩ := q
    exact ⟨a, us, e, h.rd s, RVs.mono h p xs us k⟩
  | .dct ks vs, _, q => by
    obtain ⟨a, us, ho, e, s, d, k⟩ := q
    exact ⟨a, us, ho, e, h _ _ s, d.mono h, RVs.mono h p vs us k⟩
  | .ins c ns vs, _, q => by
    obtain ⟨a, dx, us, e, s, d, k⟩ := q
    exact ⟨a, dx, us, e, h _ _ s, d, RVs.mono h p vs us k⟩
  | .ref i, _, q => by
    obtain ⟨a, e, k⟩ := q
    exact ⟨a, p i a e, k⟩
  | .lck _, _, q => q.elim
theorem RVs.mono {G : Gam} {F F' : Hp} {r r' : List Addr} (h : Le F F') (p : ∀ (i : Nat) a, r[i]? = some a → r'[i]? = some a) : ∀ (vs : List PV) (us : List V), RVs G F r vs us → RVs G F' r' vs us
  | [], _, q => q
  | v :: vs, _, q => by
    obtain ⟨u, ur, e, k, l⟩ := q
    exact ⟨u, ur, e, RV.mono h p v u k, RVs.mono h p vs ur l⟩
end
theorem RO.mono {G : Gam} {F F' : Hp} {r r' : List Addr} (h : Le F F') (p : ∀ (i : Nat) a, r[i]? = some a → r'[i]? = some a) {v : PV} {ho : HO} (q : RO G F r v ho) : RO G F' r' v ho := by
  unfold RO at q ⊢
  split at q
  · obtain ⟨us, e, k⟩ := q
    exact ⟨us, e, RVs.mono h p _ us k⟩
  · obtain ⟨us, e, k⟩ := q
    exact ⟨us, e.mono h, RVs.mono h p _ us k⟩
  · obtain ⟨dx, us, e, l, k⟩ := q
    exact ⟨dx, us, e, l, RVs.mono h p _ us k⟩
  · exact q.elim
theorem RVs.length {G : Gam} {F : Hp} {r : List Addr} : ∀ {vs : List PV} {us : List V}, RVs G F r vs us → vs.length = us.length
  | [], _, q => by
    have e := (show _ = [] from q)
    rw [e]; rfl
  | v :: vs, _, q => by
    obtain ⟨u, ur, e, k, l⟩ := q
    rw [e, List.length_cons, List.length_cons, RVs.length l]
theorem RVs.get {G : Gam} {F : Hp} {r : List Addr} : ∀ {vs : List PV} {us : List V} {i : Nat} {v : PV}, RVs G F r vs us → vs[i]? = some v → ∃ u, us[i]? = some u ∧ RV G F r v u
  | [], _, i, v, q, e => by simp at e
  | w :: vs, _, 0, v, q, e => by
    obtain ⟨u, ur, rfl, k, l⟩ := q
    simp at e; subst e
    exact ⟨u, by simp, k⟩
  | w :: vs, _, i + 1, v, q, e => by
    obtain ⟨u, ur, rfl, k, l⟩ := q
    obtain ⟨u', h1, h2⟩ := RVs.get (i := i) (v := v) l (by simpa using e)
    exact ⟨u', by simpa using h1, h2⟩
theorem RVs.append {G : Gam} {F : Hp} {r : List Addr} : ∀ {vs : List PV} {us : List V} {ws : List PV} {zs : List V}, RVs G F r vs us → RVs G F r ws zs → RVs G F r (vs ++ ws) (us ++ zs)
  | [], _, ws, zs, q, k => by
    have e := (show _ = [] from q)
    subst e
    exact k
  | v :: vs, _, ws, zs, q, k => by
    obtain ⟨u, ur, rfl, h, l⟩ := q
    exact ⟨u, ur ++ zs, rfl, h, RVs.append l k⟩
theorem RVs.set {G : Gam} {F : Hp} {r : List Addr} {x : PV} {y : V} (h : RV G F r x y) : ∀ {vs : List PV} {us : List V} (i : Nat), RVs G F r vs us → RVs G F r (vs.set i x) (us.set i y)
  | [], _, i, q => by
    have e := (show _ = [] from q)
    subst e
    exact rfl
  | v :: vs, _, 0, q => by
    obtain ⟨u, ur, rfl, k, l⟩ := q
    exact ⟨y, ur, rfl, h, l⟩
  | v :: vs, _, i + 1, q => by
    obtain ⟨u, ur, rfl, k, l⟩ := q
    exact ⟨u, ur.set i y, rfl, k, RVs.set h i l⟩
theorem RVs.ints {G : Gam} {F : Hp} {r : List Addr} : ∀ {ns : List Int} {us : List V}, RVs G F r (ns.map PV.int) us → us = ns.map V.int
  | [], _, q => q
  | n :: ns, _, q => by
    obtain ⟨u, ur, rfl, k, l⟩ := q
    have e : u = V.int n := k
    rw [e, RVs.ints l]
    rfl
theorem RVs.of_ints {G : Gam} {F : Hp} {r : List Addr} : ∀ (ns : List Int), RVs G F r (ns.map PV.int) (ns.map V.int)
  | [] => rfl
  | n :: ns => ⟨_, _, rfl, rfl, RVs.of_ints ns⟩
def lim (n0 : Nat) (L : Nat → Nat) (r : List Addr) (i : Nat) : List Addr := if i < n0 then r.take (L i) else r
structure Gh where
  L : Nat → Nat
  pn : Hp
  lk : Addr → Bool
noncomputable def isTb : HO → Bool
  | .tbl _ => true
  | .ext φ => @decide (¬ ∃ d xs, φ = nPhi d xs) (Classical.propDecidable _)
  | _ => false
theorem isTb_n (d : Addr) (xs : NKX) : isTb (.ext (nPhi d xs)) = false :=
  @decide_eq_false (¬ ∃ d' xs', nPhi d xs = nPhi d' xs') (Classical.propDecidable _) fun h => h ⟨d, xs, rfl⟩
def wit (c : Addr) (q : Str) : Heap := ⟨(Array.replicate c default).push ⟨.none, none, .fields #[.none, .str q default], #[]⟩, default⟩
theorem wit_at (c : Addr) (q : Str) : (wit c q).get? c = some ⟨.none, none, .fields #[.none, .str q default], #[]⟩ := by
  show (match ((Array.replicate c (default : Obj)).push ⟨.none, none, .fields #[.none, .str q default], #[]⟩)[c]? with | some ⟨_, _, .freed, _⟩ => none | o => o) = _
  rw [Array.getElem?_push, if_pos (by rw [Array.size_replicate])]
theorem wit_ne {c d : Addr} (q : Str) (h : d ≠ c) {o : Obj} (e : (wit c q).get? d = some o) : o = default := by
  have e : (match ((Array.replicate c (default : Obj)).push ⟨.none, none, .fields #[.none, .str q default], #[]⟩)[d]? with | some ⟨_, _, .freed, _⟩ => none | o => o) = some o := e
  rw [Array.getElem?_push, if_neg (by rw [Array.size_replicate]; exact h), Array.getElem?_replicate] at e
  by_cases k : d < c
  · rw [if_pos k] at e
    exact (Option.some.inj e).symm
  · rw [if_neg k] at e
    cases e
theorem isTb_code (c : Addr) (q : Str) : isTb (LamX.CodeO c q) = true := by
  unfold LamX.CodeO isTb
  refine @decide_eq_true _ (Classical.propDecidable _) fun hh => ?_
  obtain ⟨d, xs, e⟩ := hh
  have k := congrFun e (wit c q)
  have g : (∃ (oc : Obj) (vs : Array Value) (t : Tok), (wit c q).get? c = some oc ∧ oc.data = .fields vs ∧ vs[1]? = some (.str q t)) := ⟨_, _, default, wit_at c q, rfl, rfl⟩
  have k2 : nPhi d xs (wit c q) := k ▸ g
  obtain ⟨_, _, _, o, es, ep, g1, hx, hd, _⟩ := k2
  by_cases z : d = c
  · subst z
    rw [wit_at] at g1
    cases g1
    cases hd
  · have := wit_ne q z g1
    subst this
    cases hd
theorem DR.tb {F : Hp} {ho : HO} {ks : DKs} {us : List V} (q : DR F ho ks us) : isTb ho = false := by
  cases ks with
  | k l => obtain ⟨rfl, _⟩ := q; rfl
  | t l => obtain ⟨rfl, _⟩ := q; rfl
  | n l => obtain ⟨⟨d, xs, rfl, _⟩, _⟩ := q; exact isTb_n d xs
def isTl : HO → Bool
  | .tbl _ => true
  | _ => false
def isTk : HO → Bool
  | .tbl _ => true
  | .tup _ => true
  | _ => false
theorem tk_tl {o : HO} (h : isTk o = false) : isTl o = false := by
  cases o <;> first | rfl | cases h
theorem tl_of {o : HO} (h : isTb o = false) : isTl o = false := by
  cases o <;> first | rfl | cases h
theorem tabS_upd {H : Hp} {P d : Addr} {q : Str} {o x : HO} (t : LamX.TabS H P q) (hd : H d = some o) (ho : isTb o = false) : LamX.TabS (L2.upd H d x) P q := by
  obtain ⟨ps, h1, h2, h3⟩ := t
  refine ⟨ps, ?_, h2, fun pos cv hc => ?_⟩
  · rw [upd_ne (fun z => by rw [z, hd] at h1; cases h1; cases ho)]
    exact h1
  · obtain ⟨c, e1, e2⟩ := h3 pos cv hc
    refine ⟨c, e1, ?_⟩
    rw [upd_ne (fun z => by
      rw [z, hd] at e2
      have e2 := Option.some.inj e2
      rw [e2, isTb_code] at ho
      cases ho)]
    exact e2
structure TabP (G : Gam) (g : Gh) (F : Hp) (r : List Addr) (H : Hp) (p : Addr × Str) : Prop where
  t : LamX.TabS H p.1 p.2
  f : F p.1 = none
  nr : p.1 ∉ r
  np : g.pn p.1 = none
theorem TabP.ne {G : Gam} {g : Gh} {F : Hp} {r : List Addr} {H : Hp} {p : Addr × Str} (t : TabP G g F r H p) {a : Addr} {o : HO} (h : H a = some o) (ho : isTb o = false) : p.1 ≠ a := fun z => by
  obtain ⟨ps, h1, _⟩ := t.t
  rw [z, h] at h1
  cases h1
  cases ho
theorem tb_upd {t : HO → Bool} {f : Hp} {a : Addr} {x : HO} (h : ∀ b o, f b = some o → t o = false) (hx : t x = false) : ∀ b o, L2.upd f a x b = some o → t o = false := fun b o e => by
  by_cases hb : b = a
  · subst hb
    rw [upd_same] at e
    cases e
    exact hx
  · rw [upd_ne hb] at e
    exact h b o e
structure TabA (G : Gam) (g : Gh) (F : Hp) (r : List Addr) (H : Hp) : Prop where
  t : ∀ p ∈ G.tb, TabP G g F r H p
  nf : ∀ a o, F a = some o → isTb o = false
  np : ∀ a o, g.pn a = some o → isTk o = false
structure HR (G : Gam) (n0 : Nat) (g : Gh) (F : Hp) (r : List Addr) (S : Store) (H : Hp) : Prop where
  sub : LeD F H
  nd : r.Nodup
  off : ∀ a ∈ r, F a = none
  len : r.length = S.length
  nle : n0 ≤ S.length
  lle : ∀ i : Nat, i < n0 → g.L i ≤ n0
  obj : ∀ (i : Nat) ob a, S[i]? = some ob → r[i]? = some a → ∃ ho, AtL H a ob ho ∧ RO G F (lim n0 g.L r i) ob ho
  pin : ∀ a o, g.pn a = some o → H a = some o ∧ (F a = none ∨ (isFz o = true ∧ g.lk a = true)) ∧ ∀ i : Nat, r[i]? = some a → ∃ ob, S[i]? = some (.lck ob)
  lckd : ∀ (i : Nat) ob a, S[i]? = some (.lck ob) → r[i]? = some a → ∃ o, g.pn a = some o
  out : ∀ a o, g.pn a = some o → g.lk a = false → a ∉ r
  tab : TabA G g F r H
structure Sg (G : Gam) (n0 : Nat) (g : Gh) (F : Hp) (r : List Addr) (env : Env) (σ : L2.St) (S : Store) (H : Hp) : Prop where
  hr : HR G n0 g F r S H
  sl : env.length = σ.length
  vr : ∀ (i : Nat) v, env[i]? = some (some v) → ∃ u, σ[i]? = some (some u) ∧ RV G F r v u
def Ext (F F' : Hp) (r r' : List Addr) : Prop := Le F F' ∧ r <+: r'
theorem Ext.refl (F : Hp) (r : List Addr) : Ext F F r r := ⟨Le.refl F, List.prefix_refl r⟩
theorem Ext.trans {F F' F2 : Hp} {r r' r2 : List Addr} (h : Ext F F' r r') (k : Ext F' F2 r' r2) : Ext F F2 r r2 := ⟨h.1.trans k.1, h.2.trans k.2⟩
theorem at_of {r r' : List Addr} (h : r <+: r') : ∀ (i : Nat) a, r[i]? = some a → r'[i]? = some a := fun i a e => by
  obtain ⟨t, rfl⟩ := h
  have hi := (List.getElem?_eq_some_iff.mp e).1
  rw [List.getElem?_append_left hi]
  exact e
theorem Ext.at_ {F F' : Hp} {r r' : List Addr} (h : Ext F F' r r') : ∀ (i : Nat) a, r[i]? = some a → r'[i]? = some a := at_of h.2
theorem lim_le (n0 : Nat) (L : Nat → Nat) (r : List Addr) (i : Nat) : lim n0 L r i <+: r := by
  unfold lim
  split
  · exact List.take_prefix _ _
  · exact List.prefix_refl r
theorem lim_mono {n0 : Nat} {L : Nat → Nat} {r r' : List Addr} (h : r <+: r') (i : Nat) : ∀ (j : Nat) a, (lim n0 L r i)[j]? = some a → (lim n0 L r' i)[j]? = some a := fun j b e => by
  unfold lim at e ⊢
  split at e
  · rename_i hn
    rw [if_pos hn]
    rw [List.getElem?_take] at e ⊢
    split at e
    · rename_i hj
      rw [if_pos hj]
      exact at_of h j b e
    · cases e
  · rename_i hn
    rw [if_neg hn]
    exact at_of h j b e
theorem RV.ext {G : Gam} {F F' : Hp} {r r' : List Addr} (h : Ext F F' r r') {v : PV} {u : V} (q : RV G F r v u) : RV G F' r' v u := RV.mono h.1 h.at_ v u q
theorem RVs.ext {G : Gam} {F F' : Hp} {r r' : List Addr} (h : Ext F F' r r') {v : List PV} {u : List V} (q : RVs G F r v u) : RVs G F' r' v u := RVs.mono h.1 h.at_ v u q
theorem Sg.ext {G : Gam} {n0 : Nat} {g : Gh} {F F' : Hp} {r r' : List Addr} {env : Env} {σ : L2.St} {S S' : Store} {H H' : Hp} (s : Sg G n0 g F r env σ S H) (h : Ext F F' r r') (k : HR G n0 g F' r' S' H') : Sg G n0 g F' r' env σ S' H' :=
  ⟨k, s.sl, fun i v e => let ⟨u, h1, h2⟩ := s.vr i v e; ⟨u, h1, h2.ext h⟩⟩
def RF (G : Gam) (g : Gh) (F : Hp) (r : List Addr) (H : Hp) (b : Bool) (v : PV) (u : V) : Prop := match b with
  | true => ∃ a ho, u = .ref a ∧ H a = some ho ∧ F a = none ∧ a ∉ r ∧ g.pn a = none ∧ RO G F r v ho ∧ unl v = v
  | false => RV G F r v u
section
variable {G : Gam} {n0 : Nat} {g : Gh} {F : Hp} {r : List Addr} {S : Store} {H : Hp}
theorem Le.upd {a : Addr} {ho : HO} (hF : F a = none) : Le F (L2.upd F a ho) := fun b o e => by
  rw [upd_ne (fun z => by rw [z, hF] at e; cases e)]
  exact e
theorem HR.nopin (h : HR G n0 g F r S H) {i : Nat} {a : Addr} {ob : PV} (e1 : r[i]? = some a) (e2 : S[i]? = some ob) (hu : unl ob = ob) : g.pn a = none := by
  cases e : g.pn a with
  | none => rfl
  | some o =>
    obtain ⟨ob', q⟩ := (h.pin a o e).2.2 i e1
    rw [e2] at q
    cases q
    have e4 : ob' = .lck ob' := hu
    exact absurd e4 (by intro z; have := congrArg sizeOf z; simp at this)
theorem HR.mem (h : HR G n0 g F r S H) {a : Addr} (ha : a ∈ r) : ∃ ho, H a = some ho := by
  obtain ⟨i, hi, e⟩ := List.getElem_of_mem ha
  have hs : i < S.length := by rw [← h.len]; exact hi
  obtain ⟨ho, q, _⟩ := h.obj i S[i] a (List.getElem?_eq_getElem hs) (by rw [List.getElem?_eq_getElem hi, e])
  exact q.there
theorem HR.noF (h : HR G n0 g F r S H) {a : Addr} (ha : H a = none) : F a = none := by
  cases e : F a with
  | none => rfl
  | some o =>
    exact absurd ha (h.sub.ne e)
theorem HR.nor (h : HR G n0 g F r S H) {a : Addr} (ha : H a = none) : a ∉ r := fun hm => by
  obtain ⟨ho, e⟩ := h.mem hm
  rw [e] at ha
  cases ha
theorem HR.nop (h : HR G n0 g F r S H) {a : Addr} (ha : H a = none) : g.pn a = none := by
  cases e : g.pn a with
  | none => rfl
  | some o =>
    rw [(h.pin a o e).1] at ha
    cases ha
theorem ro_tb {v : PV} {ho : HO} (q : RO G F r v ho) : isTb ho = false := by
  unfold RO at q
  split at q
  · obtain ⟨us, rfl, _⟩ := q; rfl
  · rename_i ks vs _
    obtain ⟨us, d, _⟩ := q
    exact d.tb
  · obtain ⟨dx, us, rfl, _⟩ := q; rfl
  · exact q.elim
theorem HR.tb_of (h : HR G n0 g F r S H) {a : Addr} {o : HO} (ha : a ∈ r) (e : H a = some o) : isTb o = false := by
  obtain ⟨i, hi, e1⟩ := List.getElem_of_mem ha
  have hs : i < S.length := by rw [← h.len]; exact hi
  obtain ⟨ho, q, ro⟩ := h.obj i S[i] a (List.getElem?_eq_getElem hs) (by rw [List.getElem?_eq_getElem hi, e1])
  rcases q.or with q | ⟨_, od, q⟩
  · rw [e] at q; cases q; exact ro_tb ro
  · rw [e] at q; cases q; rfl
theorem HR.heap {H' : Hp} (h : HR G n0 g F r S H) (k : ∀ a o, H a = some o → H' a = some o) : HR G n0 g F r S H' :=
  ⟨h.sub.heap k, h.nd, h.off, h.len, h.nle, h.lle, fun i ob a e1 e2 => let ⟨ho, q, z⟩ := h.obj i ob a e1 e2; ⟨ho, q.heap (k a), z⟩, fun a o e => let ⟨q, z⟩ := h.pin a o e; ⟨k _ _ q, z⟩, h.lckd, h.out, ⟨fun p hp => let t := h.tab.t p hp; ⟨t.t.ext k, t.f, t.nr, t.np⟩, h.tab.nf, h.tab.np⟩⟩
theorem HR.grow {a : Addr} {ho : HO} (h : HR G n0 g F r S H) (hH : H a = some ho) (hF : F a = none) (hr : a ∉ r) (hp : g.pn a = none) (hb : isTb ho = false) : HR G n0 g (L2.upd F a ho) r S H := by
  refine ⟨fun b o e => ?_, h.nd, fun b hb => ?_, h.len, h.nle, h.lle, fun i ob c e1 e2 => ?_, fun b o e => ?_, h.lckd, h.out, ⟨fun p hp' => let t := h.tab.t p hp'; ⟨t.t, by rw [upd_ne (t.ne hH hb)]; exact t.f, t.nr, t.np⟩, tb_upd h.tab.nf hb, h.tab.np⟩⟩
  · by_cases hb : b = a
    · subst hb
      rw [upd_same] at e
      rw [hH]; exact .inl e
    · rw [upd_ne hb] at e
      exact h.sub b o e
  · rw [upd_ne (fun z => hr (by rw [← z]; exact hb))]
    exact h.off b hb
  · obtain ⟨o, h1, h2⟩ := h.obj i ob c e1 e2
    exact ⟨o, h1, RO.mono (Le.upd hF) (fun _ _ e => e) h2⟩
  · obtain ⟨q1, q2, q3⟩ := h.pin b o e
    refine ⟨q1, ?_, q3⟩
    rw [upd_ne (fun z => by rw [z, hp] at e; cases e)]
    exact q2
theorem freeze {b : Bool} {v : PV} {u : V} (h : HR G n0 g F r S H) (q : RF G g F r H b v u) : ∃ F', Ext F F' r r ∧ HR G n0 g F' r S H ∧ RV G F' r v u := by
  cases b with
  | false => exact ⟨F, .refl F r, h, q⟩
  | true =>
    obtain ⟨a, ho, rfl, hH, hF, hr, hp, ro, hu⟩ := q
    refine ⟨L2.upd F a ho, ⟨Le.upd hF, List.prefix_refl r⟩, h.grow hH hF hr hp (ro_tb ro), ?_⟩
    have ro' : RO G (L2.upd F a ho) r v ho := RO.mono (Le.upd hF) (fun _ _ e => e) ro
    unfold RO at ro'
    rw [hu] at ro'
    split at ro'
    · obtain ⟨us, rfl, k⟩ := ro'
      exact ⟨a, us, rfl, .inl upd_same, k⟩
    · obtain ⟨us, d, k⟩ := ro'
      exact ⟨a, us, ho, rfl, upd_same, d, k⟩
    · obtain ⟨dx, us, rfl, l, k⟩ := ro'
      exact ⟨a, dx, us, rfl, upd_same, l, k⟩
    · exact ro'.elim
theorem store_new {v : PV} {u : V} (h : HR G n0 g F r S H) (q : RF G g F r H true v u) : ∃ r', Ext F F r r' ∧ HR G n0 g F r' (S ++ [v]) H ∧ RV G F r' (.ref S.length) u := by
  obtain ⟨a, ho, rfl, hH, hF, hr, hp, ro, hu⟩ := q
  have ex : Ext F F r (r ++ [a]) := ⟨.refl F, List.prefix_append r [a]⟩
  refine ⟨r ++ [a], ex, ⟨h.sub, ?_, fun b hb => ?_, by simp [h.len], by rw [List.length_append]; exact Nat.le_trans h.nle (Nat.le_add_right _ _), h.lle, fun i ob c e1 e2 => ?_, fun b o e => ?_, fun i ob c e1 e2 => ?_, fun b o e el hb => ?_, ⟨fun p hp' => let t := h.tab.t p hp'; ⟨t.t, t.f, fun hm => (List.mem_append.mp hm).elim t.nr fun z => t.ne hH (ro_tb ro) (by simpa using z), t.np⟩, h.tab.nf, h.tab.np⟩⟩, ⟨a, ?_, rfl⟩⟩
  · rw [List.nodup_append]
    refine ⟨h.nd, by simp, fun x hx y hy e => ?_⟩
    have : y = a := by simpa using hy
    exact hr (by rw [← this, ← e]; exact hx)
  · rcases List.mem_append.mp hb with hb | hb
    · exact h.off b hb
    · have : b = a := by simpa using hb
      rw [this]; exact hF
  · by_cases hi : i < S.length
    · rw [List.getElem?_append_left hi] at e1
      rw [List.getElem?_append_left (by rw [h.len]; exact hi)] at e2
      obtain ⟨o, h1, h2⟩ := h.obj i ob c e1 e2
      exact ⟨o, h1, RO.mono (.refl F) (lim_mono ex.2 i) h2⟩
    · have hi' : i = S.length := by
        have := (List.getElem?_eq_some_iff.mp e1).1
        rw [List.length_append, List.length_singleton] at this
        omega
      subst hi'
      rw [List.getElem?_append_right (Nat.le_refl _)] at e1
      rw [← h.len, List.getElem?_append_right (Nat.le_refl _)] at e2
      simp at e1 e2
      subst e1 e2
      refine ⟨ho, .mk hH (isLk_unl hu), ?_⟩
      unfold lim
      rw [if_neg (by have := h.nle; omega)]
      exact RO.mono (.refl F) ex.at_ ro
  · obtain ⟨q1, q2, q3⟩ := h.pin b o e
    refine ⟨q1, q2, fun i hm => ?_⟩
    by_cases hi : i < r.length
    · rw [List.getElem?_append_left hi] at hm
      obtain ⟨ob, hb⟩ := q3 i hm
      exact ⟨ob, by rw [List.getElem?_append_left (by rw [← h.len]; exact hi)]; exact hb⟩
    · have : b = a := by
        rw [List.getElem?_append_right (by omega)] at hm
        have := List.mem_of_getElem? hm
        simpa using this
      rw [this, hp] at e
      cases e
  · by_cases hi : i < S.length
    · rw [List.getElem?_append_left hi] at e1
      rw [List.getElem?_append_left (by rw [h.len]; exact hi)] at e2
      exact h.lckd i ob c e1 e2
    · rw [List.getElem?_append_right (by omega)] at e1
      have := List.mem_of_getElem? e1
      have e3 : PV.lck ob = v := by simpa using this
      rw [← e3] at hu ro
      have e4 : ob = .lck ob := hu
      exact absurd e4 (by intro z; have := congrArg sizeOf z; simp at this)
  · rcases List.mem_append.mp hb with hb | hb
    · exact h.out b o e el hb
    · have : b = a := by simpa using hb
      rw [this, hp] at e
      cases e
  · rw [← h.len, List.getElem?_append_right (Nat.le_refl _)]
    simp
theorem new_obj {p : Addr} {ho : HO} {v : PV} (h : HR G n0 g F r S H) (hp : H p = none) (ro : RO G F r v ho) (hu : unl v = v) : HR G n0 g F r S (L2.upd H p ho) ∧ RF G g F r (L2.upd H p ho) true v (.ref p) :=
  ⟨h.heap fun a o e => by rw [upd_ne (ne_of_none e hp)]; exact e, ⟨p, ho, rfl, upd_same, h.noF hp, h.nor hp, h.nop hp, ro, hu⟩⟩
theorem new_tup {p : Addr} {xs : List PV} {us : List V} (h : HR G n0 g F r S H) (hp : H p = none) (q : RVs G F r xs us) : ∃ F', Ext F F' r r ∧ HR G n0 g F' r S (L2.upd H p (.tup us)) ∧ RV G F' r (.tup xs) (.ref p) := by
  have h1 : HR G n0 g F r S (L2.upd H p (.tup us)) := h.heap fun a o e => by rw [upd_ne (ne_of_none e hp)]; exact e
  have x : Ext F (L2.upd F p (.tup us)) r r := ⟨Le.upd (h.noF hp), List.prefix_refl r⟩
  exact ⟨_, x, h1.grow upd_same (h.noF hp) (h.nor hp) (h.nop hp) rfl, ⟨p, us, rfl, upd_same, q.ext x⟩⟩
theorem HR.ref (h : HR G n0 g F r S H) {i : Nat} {u : V} {ob : PV} (q : RV G F r (.ref i) u) (e : S[i]? = some ob) : ∃ a ho, u = .ref a ∧ r[i]? = some a ∧ AtL H a ob ho ∧ RO G F r ob ho := by
  obtain ⟨a, e1, rfl⟩ := q
  obtain ⟨ho, h1, h2⟩ := h.obj i ob a e e1
  exact ⟨a, ho, rfl, e1, h1, RO.mono (.refl F) (at_of (lim_le n0 g.L r i)) h2⟩
theorem RO.unl_ {v : PV} {ho : HO} (q : RO G F r v ho) : RO G F r (unl v) ho := by
  unfold RO at q ⊢
  cases v with
  | lck w =>
    cases w <;> first | exact q.elim | exact q
  | _ => exact q
theorem AtL.orK {a : Addr} {ob w : PV} {ho : HO} (q : AtL H a ob ho) (ro : RO G F r ob ho) (e : unlD ob = some w) : H a = some ho ∨ (isDk ho = true ∧ ∃ od, H a = some (.frz od ho)) := by
  cases hl : isLk ob with
  | false => exact .inl (q.nl hl)
  | true =>
    refine .inr ⟨?_, (q.lk hl).2⟩
    cases ob with
    | lck o =>
      cases o with
      | dct ks vs =>
        cases ks with
        | k l =>
          obtain ⟨us, ⟨rfl, _⟩, _⟩ := ro
          rfl
        | t l => cases e
        | n l => cases e
      | _ => cases hl
    | _ => cases hl
theorem view (h : HR G n0 g F r S H) {v w : PV} {u : V} (q : RV G F r v u) (e : deref S v = some w) : RV G F r w u ∧ (∀ i, w ≠ .ref i) ∨ ∃ a ho, u = .ref a ∧ (H a = some ho ∨ (isDk ho = true ∧ ∃ od, H a = some (.frz od ho))) ∧ RO G F r w ho := by
  cases v with
  | ref i =>
    unfold deref at e
    cases es : S[i]? with
    | none =>
      simp only [es] at e
      cases e
    | some ob =>
      simp only [es] at e
      obtain ⟨a, ho, e1, _, e3, e4⟩ := h.ref q es
      have ew := unlD_some e
      subst ew
      exact .inr ⟨a, ho, e1, e3.orK e4 e, e4.unl_⟩
  | lck v => exact False.elim q
  | non => cases e; exact .inl ⟨q, fun i z => nomatch z⟩
  | bl b => cases e; exact .inl ⟨q, fun i z => nomatch z⟩
  | int b => cases e; exact .inl ⟨q, fun i z => nomatch z⟩
  | str b => cases e; exact .inl ⟨q, fun i z => nomatch z⟩
  | tup b => cases e; exact .inl ⟨q, fun i z => nomatch z⟩
  | lst b => cases e; exact .inl ⟨q, fun i z => nomatch z⟩
  | dct b c => cases e; exact .inl ⟨q, fun i z => nomatch z⟩
  | ins b c d => cases e; exact .inl ⟨q, fun i z => nomatch z⟩
theorem nodk {a : Addr} {ho : HO} (q : H a = some ho ∨ (isDk ho = true ∧ ∃ od, H a = some (.frz od ho))) (h : isDk ho = false) : H a = some ho := by
  rcases q with q | ⟨q, _⟩
  · exact q
  · rw [h] at q; cases q
theorem view_lst (h : HR G n0 g F r S H) {v : PV} {u : V} {xs : List PV} (q : RV G F r v u) (e : deref S v = some (.lst xs)) : ∃ a us, u = .ref a ∧ Rd H a (.lst us) ∧ RVs G F r xs us := by
  rcases view h q e with ⟨k, _⟩ | ⟨a, ho, e1, e2, k⟩
  · obtain ⟨a, us, e1, e2, e3⟩ := k
    exact ⟨a, us, e1, h.sub.rd e2, e3⟩
  · obtain ⟨us, rfl, k⟩ := k
    exact ⟨a, us, e1, .inl (nodk e2 rfl), k⟩
theorem view_tup (h : HR G n0 g F r S H) {v : PV} {u : V} {xs : List PV} (q : RV G F r v u) (e : deref S v = some (.tup xs)) : ∃ a us, u = .ref a ∧ SqT G.K H a us ∧ RVs G F r xs us := by
  rcases view h q e with ⟨k, _⟩ | ⟨a, ho, e1, e2, k⟩
  · obtain ⟨a, us, e1, e2, e3⟩ := k
    exact ⟨a, us, e1, h.sub.tp e2, e3⟩
  · exact k.elim
theorem view_ins (h : HR G n0 g F r S H) {v : PV} {u : V} {c : Nat} {ns : List Nat} {vs : List PV} (q : RV G F r v u) (e : deref S v = some (.ins c ns vs)) :
    ∃ a dx us, u = .ref a ∧ H a = some (.ins (G.ca c) dx ((ns.map G.nm).zip us)) ∧ ns.length = us.length ∧ RVs G F r vs us := by
  rcases view h q e with ⟨k, _⟩ | ⟨a, ho, e1, e2, k⟩
  · obtain ⟨a, dx, us, e1, e2, e3, e4⟩ := k
    exact ⟨a, dx, us, e1, h.sub.eq e2 rfl, e3, e4⟩
  · obtain ⟨dx, us, rfl, l, k⟩ := k
    exact ⟨a, dx, us, e1, nodk e2 rfl, l, k⟩
theorem view_dct (h : HR G n0 g F r S H) {v : PV} {u : V} {ks : DKs} {vs : List PV} (q : RV G F r v u) (e : deref S v = some (.dct ks vs)) : ∃ a ho us, u = .ref a ∧ Rd H a ho ∧ DR F ho ks us ∧ RVs G F r vs us := by
  rcases view h q e with ⟨k, _⟩ | ⟨a, ho, e1, e2, k⟩
  · obtain ⟨a, us, ho, e1, e2, e3, e4⟩ := k
    exact ⟨a, ho, us, e1, h.sub.any e2, e3, e4⟩
  · obtain ⟨us, d, k⟩ := k
    exact ⟨a, ho, us, e1, e2.imp (fun q => q) (fun ⟨_, od, q⟩ => ⟨od, q⟩), d, k⟩
def derf (S : Store) (v : PV) : Option PV := match v with
  | .dct (.t _) _ => none
  | _ => deref S v
theorem derf_d {v w : PV} (e : derf S v = some w) : deref S v = some w := by
  unfold derf at e
  split at e
  · cases e
  · exact e
theorem view_dctT (h : HR G n0 g F r S H) {v : PV} {u : V} {kt : List (List (Sum Int Str))} {vs : List PV} (q : RV G F r v u) (e : derf S v = some (.dct (.t kt) vs)) : ∃ a us, u = .ref a ∧ H a = some (.dT (kt.zip us)) ∧ kt.length = us.length ∧ RVs G F r vs us := by
  cases v with
  | ref i =>
    have e : deref S (.ref i) = some (.dct (.t kt) vs) := e
    unfold deref at e
    cases es : S[i]? with
    | none => simp only [es] at e; cases e
    | some ob =>
      simp only [es] at e
      obtain ⟨a, ho, e1, _, e3, e4⟩ := h.ref q es
      have ew := unlD_some e
      have hl : isLk ob = false := by
        cases ob with
        | lck o =>
          cases o with
          | dct ks vs => cases ks <;> first | rfl | cases e
          | _ => first | rfl | cases e
        | _ => rfl
      have e5 : RO G F r (unl ob) ho := e4.unl_
      rw [ew] at e5
      obtain ⟨us, ⟨rfl, hz⟩, k⟩ := e5
      exact ⟨a, us, e1, e3.nl hl, hz, k⟩
  | dct ks vs' => cases ks <;> cases e
  | _ => cases e
theorem view_int (h : HR G n0 g F r S H) {v : PV} {u : V} {i : Int} (q : RV G F r v u) (e : deref S v = some (.int i)) : u = .int i := by
  rcases view h q e with ⟨k, _⟩ | ⟨a, ho, e1, e2, k⟩
  · exact k
  · exact k.elim
theorem view_bl (h : HR G n0 g F r S H) {v : PV} {u : V} {i : Bool} (q : RV G F r v u) (e : deref S v = some (.bl i)) : u = .bl i := by
  rcases view h q e with ⟨k, _⟩ | ⟨a, ho, e1, e2, k⟩
  · exact k
  · exact k.elim
theorem view_non (h : HR G n0 g F r S H) {v : PV} {u : V} (q : RV G F r v u) (e : deref S v = some .non) : u = .non := by
  rcases view h q e with ⟨k, _⟩ | ⟨a, ho, e1, e2, k⟩
  · exact k
  · exact k.elim
theorem view_str (h : HR G n0 g F r S H) {v : PV} {u : V} {x : Str} (q : RV G F r v u) (e : deref S v = some (.str x)) : u = .str x := by
  rcases view h q e with ⟨k, _⟩ | ⟨a, ho, e1, e2, k⟩
  · exact k
  · exact k.elim
theorem view_seq (h : HR G n0 g F r S H) {v : PV} {u : V} {xs : List PV} (q : RV G F r v u) (e : itemsOf S v = some xs) : ∃ a us, u = .ref a ∧ (SqL G.K H a us ∨ SqT G.K H a us) ∧ RVs G F r xs us := by
  unfold itemsOf at e
  split at e
  · rename_i xs' e'
    cases e
    obtain ⟨a, us, e1, e2, e3⟩ := view_lst h q e'
    exact ⟨a, us, e1, .inl (.inl e2), e3⟩
  · rename_i xs' e'
    cases e
    obtain ⟨a, us, e1, e2, e3⟩ := view_tup h q e'
    exact ⟨a, us, e1, .inr e2, e3⟩
  · cases e
end
def atV : PV → Option V
  | .non => some .non
  | .bl b => some (.bl b)
  | .int i => some (.int i)
  | .str x => some (.str x)
  | _ => none
def XD (pl : List PV) (d : Option Addr) (H : Hp) : Prop := match pl with
  | [] => d = none
  | [.str f, v] => ∃ dx y, d = some dx ∧ H dx = some (.xd [(f, y)]) ∧ atV v = some y
  | _ => False
def XE (E : XK) (cls : Value) (pl : List PV) (H : Hp) : Prop := ∀ d, XD pl d H → E cls d H
end PX
set_option Elab.async false
set_option linter.all false
set_option maxRecDepth 100000
namespace PX
open PySem PySem.Spec PyProof.Rows L2
def PoE (G : Gam) (n0 : Nat) (g : Gh) (F : Hp) (r : List Addr) (env : Env) (σ : L2.St) (z : R (Bool × PV)) (Q : VK) : Prop := match z with
  | .ok p S' => ∀ F' r' H' u, Ext F F' r r' → Sg G n0 g F' r' env σ S' H' → RF G g F' r' H' p.1 p.2 u → Q u H'
  | _ => False
def PoV (G : Gam) (n0 : Nat) (g : Gh) (F : Hp) (r : List Addr) (env : Env) (σ : L2.St) (z : R (Bool × PV)) (Q : VK) : Prop := match z with
  | .ok p S' => ∀ F' r' H' u, Ext F F' r r' → Sg G n0 g F' r' env σ S' H' → RV G F' r' p.2 u → Q u H'
  | _ => False
def PoT (G : Gam) (n0 : Nat) (g : Gh) (F : Hp) (r : List Addr) (env : Env) (σ : L2.St) (z : R Bool) (Q : Bool → Hp → Prop) : Prop := match z with
  | .ok b S' => ∀ F' r' H', Ext F F' r r' → Sg G n0 g F' r' env σ S' H' → Q b H'
  | _ => False
def PoA (G : Gam) (n0 : Nat) (g : Gh) (F : Hp) (r : List Addr) (env : Env) (σ : L2.St) (z : R (List PV)) (Q : List V → Hp → Prop) : Prop := match z with
  | .ok vs S' => ∀ F' r' H' us, Ext F F' r r' → Sg G n0 g F' r' env σ S' H' → RVs G F' r' vs us → Q us H'
  | _ => False
def rdE (G : Gam) (n0 : Nat) (f : SE) : TE := fun σ H Q => ∃ F r env S g, Sg G n0 g F r env σ S H ∧ PoE G n0 g F r env σ (f env S) Q
def rdV (G : Gam) (n0 : Nat) (f : SE) : TE := fun σ H Q => ∃ F r env S g, Sg G n0 g F r env σ S H ∧ PoV G n0 g F r env σ (f env S) Q
def rdT (G : Gam) (n0 : Nat) (f : ST) : TT := fun σ H Q => ∃ F r env S g, Sg G n0 g F r env σ S H ∧ PoT G n0 g F r env σ (f env S) Q
def rdA (G : Gam) (n0 : Nat) (f : SA) : TA := fun σ H Q => ∃ F r env S g, Sg G n0 g F r env σ S H ∧ PoA G n0 g F r env σ (f env S) Q
theorem peI {X : Cx} {e : Expr} {t t' : TE} (h : PE X e t) (w : ∀ σ H Q, t' σ H Q → t σ H Q) : PE X e t' := ⟨fun pins s σ H Q I q => h.run pins s σ H Q I (w σ H Q q)⟩
theorem ptI {X : Cx} {e : Expr} {t t' : TT} (h : PT X e t) (w : ∀ σ H Q, t' σ H Q → t σ H Q) : PT X e t' := ⟨fun pins s σ H Q I q => h.run pins s σ H Q I (w σ H Q q)⟩
theorem pwI {X : Cx} {e : Expr} {t t' : TT} (h : PW X e t) (w : ∀ σ H Q, t' σ H Q → t σ H Q) : PW X e t' := ⟨fun wh pins s σ H Q I q => h.run wh pins s σ H Q I (w σ H Q q)⟩
theorem paI {X : Cx} {e : List Expr} {t t' : TA} (h : PA X e t) (w : ∀ σ H Q, t' σ H Q → t σ H Q) : PA X e t' := ⟨fun pos pins s σ H Q I q => h.run pos pins s σ H Q I (w σ H Q q)⟩
structure Cn {α : Type} (C : R α → Prop) : Prop where
  no : ¬ C .no
  ex : ∀ c p S', ¬ C (.ex c p S')
section
variable {G : Gam} {n0 : Nat} {g : Gh} {F F1 : Hp} {r r1 : List Addr} {env : Env} {σ : L2.St} {S S1 : Store} {H H1 : Hp} {Q : VK} {QT : Bool → Hp → Prop} {QA : List V → Hp → Prop}
theorem cnE : Cn fun z => PoE G n0 g F r env σ z Q := ⟨fun h => h, fun _ _ _ h => h⟩
theorem cnT : Cn fun z => PoT G n0 g F r env σ z QT := ⟨fun h => h, fun _ _ _ h => h⟩
theorem cnA : Cn fun z => PoA G n0 g F r env σ z QA := ⟨fun h => h, fun _ _ _ h => h⟩
theorem stE {f : SE} {T : V → Hp → Prop} {α : Type} {kk : Bool × PV → Store → R α} {C : R α → Prop} (s : Sg G n0 g F r env σ S H) (cn : Cn C) (h : C ((f env S).bind kk))
    (step : ∀ p S' F' r' H' u, Ext F F' r r' → Sg G n0 g F' r' env σ S' H' → RF G g F' r' H' p.1 p.2 u → C (kk p S') → T u H') : rdE G n0 f σ H T := by
  refine ⟨F, r, env, S, g, s, ?_⟩
  cases e : f env S with
  | ok p S' =>
    rw [e] at h
    exact fun F' r' H' u ex s' q => step p S' F' r' H' u ex s' q h
  | ex c p S' =>
    rw [e] at h
    exact (cn.ex c p S' h).elim
  | no =>
    rw [e] at h
    exact (cn.no h).elim
theorem stV {f : SE} {T : V → Hp → Prop} {α : Type} {kk : Bool × PV → Store → R α} {C : R α → Prop} (s : Sg G n0 g F r env σ S H) (cn : Cn C) (h : C ((f env S).bind kk))
    (step : ∀ p S' F' r' H' u, Ext F F' r r' → Sg G n0 g F' r' env σ S' H' → RV G F' r' p.2 u → C (kk p S') → T u H') : rdV G n0 f σ H T := by
  refine ⟨F, r, env, S, g, s, ?_⟩
  cases e : f env S with
  | ok p S' =>
    rw [e] at h
    exact fun F' r' H' u ex s' q => step p S' F' r' H' u ex s' q h
  | ex c p S' =>
    rw [e] at h
    exact (cn.ex c p S' h).elim
  | no =>
    rw [e] at h
    exact (cn.no h).elim
theorem stT {f : ST} {T : Bool → Hp → Prop} {α : Type} {kk : Bool → Store → R α} {C : R α → Prop} (s : Sg G n0 g F r env σ S H) (cn : Cn C) (h : C ((f env S).bind kk))
    (step : ∀ p S' F' r' H', Ext F F' r r' → Sg G n0 g F' r' env σ S' H' → C (kk p S') → T p H') : rdT G n0 f σ H T := by
  refine ⟨F, r, env, S, g, s, ?_⟩
  cases e : f env S with
  | ok p S' =>
    rw [e] at h
    exact fun F' r' H' ex s' => step p S' F' r' H' ex s' h
  | ex c p S' =>
    rw [e] at h
    exact (cn.ex c p S' h).elim
  | no =>
    rw [e] at h
    exact (cn.no h).elim
theorem stA {f : SA} {T : List V → Hp → Prop} {α : Type} {kk : List PV → Store → R α} {C : R α → Prop} (s : Sg G n0 g F r env σ S H) (cn : Cn C) (h : C ((f env S).bind kk))
    (step : ∀ p S' F' r' H' us, Ext F F' r r' → Sg G n0 g F' r' env σ S' H' → RVs G F' r' p us → C (kk p S') → T us H') : rdA G n0 f σ H T := by
  refine ⟨F, r, env, S, g, s, ?_⟩
  cases e : f env S with
  | ok p S' =>
    rw [e] at h
    exact fun F' r' H' us ex s' q => step p S' F' r' H' us ex s' q h
  | ex c p S' =>
    rw [e] at h
    exact (cn.ex c p S' h).elim
  | no =>
    rw [e] at h
    exact (cn.no h).elim
theorem goE {f : SE} (s : Sg G n0 g F1 r1 env σ S1 H1) (x : Ext F F1 r r1) (h : PoE G n0 g F r env σ (f env S1) Q) : rdE G n0 f σ H1 Q := by
  refine ⟨F1, r1, env, S1, g, s, ?_⟩
  cases e : f env S1 with
  | ok p S' => rw [e] at h; exact fun F' r' H' u ex s' q => h F' r' H' u (x.trans ex) s' q
  | ex => rw [e] at h; exact h
  | no => rw [e] at h; exact h
theorem goT {f : ST} (s : Sg G n0 g F1 r1 env σ S1 H1) (x : Ext F F1 r r1) (h : PoT G n0 g F r env σ (f env S1) QT) : rdT G n0 f σ H1 QT := by
  refine ⟨F1, r1, env, S1, g, s, ?_⟩
  cases e : f env S1 with
  | ok p S' => rw [e] at h; exact fun F' r' H' ex s' => h F' r' H' (x.trans ex) s'
  | ex => rw [e] at h; exact h
  | no => rw [e] at h; exact h
theorem endO {o : Option (Bool × PV)} {T : VK → Prop} (s : Sg G n0 g F1 r1 env σ S1 H1) (x : Ext F F1 r r1) (h : PoE G n0 g F r env σ (ofO o S1) Q)
    (ok : ∀ z, o = some z → (∀ F' r' H' w, Ext F1 F' r1 r' → HR G n0 g F' r' S1 H' → RF G g F' r' H' z.1 z.2 w → Q w H') → T Q) : T Q := by
  unfold ofO at h
  cases o with
  | none => exact h.elim
  | some z => exact ok z rfl fun F' r' H' w x' hr rf => h F' r' H' w (x.trans x') (s.ext x' hr) rf
end
section
variable {X : Cx} {G : Gam} {n0 : Nat} {e : Expr} {f : SE}
theorem toV (h : PE X e (rdE G n0 f)) : PE X e (rdV G n0 f) := by
  refine peI h fun σ H Q ⟨F, r, env, S, g, s, p⟩ => ⟨F, r, env, S, g, s, ?_⟩
  cases e : f env S with
  | ok p' S' =>
    rw [e] at p
    intro F' r' H' u x s' q
    obtain ⟨F2, x2, h2, q2⟩ := freeze s'.hr q
    exact p F2 r' H' u (x.trans x2) (s'.ext x2 h2) q2
  | ex => rw [e] at p; exact p
  | no => rw [e] at p; exact p
def Ok1 (G : Gam) (o : Op1) (t : V → Hp → VK → Prop) : Prop := ∀ n0 g F r S H x u z Q, HR G n0 g F r S H → RV G F r x u → o x S = some z →
  (∀ F' r' H' w, Ext F F' r r' → HR G n0 g F' r' S H' → RF G g F' r' H' z.1 z.2 w → Q w H') → t u H Q
def Ok2 (G : Gam) (o : Op2) (t : R2) : Prop := ∀ n0 g F r S H x y u v z Q, HR G n0 g F r S H → RV G F r x u → RV G F r y v → o x y S = some z →
  (∀ F' r' H' w, Ext F F' r r' → HR G n0 g F' r' S H' → RF G g F' r' H' z.1 z.2 w → Q w H') → t u v H Q
def OkN (G : Gam) (o : OpN) (t : List V → Hp → VK → Prop) : Prop := ∀ n0 g F r S H xs us z Q, HR G n0 g F r S H → RVs G F r xs us → o xs S = some z →
  (∀ F' r' H' w, Ext F F' r r' → HR G n0 g F' r' S H' → RF G g F' r' H' z.1 z.2 w → Q w H') → t us H Q
variable {a b c : Expr} {fa fb fc : SE} {pos : Pos} {es : List Expr} {fs : SA} {rest : List Expr}
theorem se_var {i : Nat} (hp : PE X e (tVar i)) : PE X e (rdE G n0 (eVar i)) := by
  refine peI hp fun σ H Q ⟨F, r, env, S, g, s, h⟩ => ?_
  unfold eVar at h
  split at h
  · rename_i v ev
    obtain ⟨u, h1, h2⟩ := s.vr i v ev
    exact ⟨u, h1, h F r H u (.refl F r) s h2⟩
  · exact h.elim
theorem se_lit {u : V} {v : PV} (hp : PE X e (tC u)) (hv : ∀ F r, RV G F r v u) : PE X e (rdE G n0 (eLit v)) :=
  peI hp fun σ H Q ⟨F, r, env, S, g, s, h⟩ => h F r H u (.refl F r) s (hv F r)
theorem se_un {op : UnaryOp} {o : Op1} {t : V → Hp → VK → Prop} (hop : UnR X (unaryOp op) t) (ho : Ok1 G o t) (ha : PE X a (rdE G n0 fa)) : PE X (.UnaryOp op a pos) (rdE G n0 (eUn o fa)) := by
  refine peI (pe_un hop (toV ha)) fun σ H Q ⟨F, r, env, S, g, s, h⟩ => ?_
  refine stV s cnE h fun p S1 F1 r1 H1 u x1 s1 q1 h1 => ?_
  exact endO (T := fun Q => t u H1 Q) s1 x1 h1 fun z ez k => ho n0 g F1 r1 S1 H1 p.2 u z Q s1.hr q1 ez k
theorem se_bin {op : Operator} {o : Op2} {t : R2} (hop : OpR X (binaryOp op) t) (ho : Ok2 G o t) (ha : PE X a (rdE G n0 fa)) (hb : PE X b (rdE G n0 fb)) : PE X (.BinOp a op b pos) (rdE G n0 (eBin o fa fb)) := by
  refine peI (pe_op hop (toV ha) (toV hb)) fun σ H Q ⟨F, r, env, S, g, s, h⟩ => ?_
  refine stV s cnE h fun p S1 F1 r1 H1 u x1 s1 q1 h1 => ?_
  refine stV s1 cnE h1 fun q S2 F2 r2 H2 v x2 s2 q2 h2 => ?_
  exact endO (T := fun Q => t u v H2 Q) s2 (x1.trans x2) h2 fun z ez k => ho n0 g F2 r2 S2 H2 p.2 q.2 u v z Q s2.hr (q1.ext x2) q2 ez k
theorem se_cmp {op : CmpOp} {o : Op2} {t : R2} (hop : OpR X (compareOp op) t) (ho : Ok2 G o t) (ha : PE X a (rdE G n0 fa)) (hb : PE X b (rdE G n0 fb)) (hm : behindInMarks op b = false) : PE X (.Compare a [op] [b] pos) (rdE G n0 (eBin o fa fb)) := by
  refine peI (pe_cmpR hop (toV ha) (toV hb) hm) fun σ H Q ⟨F, r, env, S, g, s, h⟩ => ?_
  refine stV s cnE h fun p S1 F1 r1 H1 u x1 s1 q1 h1 => ?_
  refine stV s1 cnE h1 fun q S2 F2 r2 H2 v x2 s2 q2 h2 => ?_
  exact endO (T := fun Q => t u v H2 Q) s2 (x1.trans x2) h2 fun z ez k => ho n0 g F2 r2 S2 H2 p.2 q.2 u v z Q s2.hr (q1.ext x2) q2 ez k
theorem bl_of {g : Gh} {F : Hp} {r : List Addr} {H : Hp} {b : Bool} {k : Bool} {w : V} (q : RF G g F r H b (.bl k) w) : w = .bl k := by
  cases b with
  | false => exact q
  | true =>
    obtain ⟨_, _, _, _, _, _, _, ro, _⟩ := q
    exact ro.elim
theorem st_cmp {op : CmpOp} {o : Op2} {t : R2} (hop : OpR X (compareOp op) t) (ho : Ok2 G o t) (ha : PE X a (rdE G n0 fa)) (hb : PE X b (rdE G n0 fb)) (hm : behindInMarks op b = false) : PT X (.Compare a [op] [b] pos) (rdT G n0 (tBl (eBin o fa fb))) := by
  refine ptI (pt_cmpR hop (toV ha) (toV hb) hm) fun σ H Q ⟨F, r, env, S, g, s, h⟩ => ?_
  have h : PoT G n0 g F r env σ (((fa env S).bind fun p S1 => (fb env S1).bind fun q S2 => ofO (o p.2 q.2 S2) S2).bind fun p S1 => match p.2 with
    | .bl b => .ok b S1
    | _ => .no) Q := h
  have assoc : ∀ {α β γ : Type} (m : R α) (k : α → Store → R β) (l : β → Store → R γ), (m.bind k).bind l = m.bind fun x S => (k x S).bind l := fun m k l => by cases m <;> rfl
  rw [assoc] at h
  refine stV s cnT h fun p S1 F1 r1 H1 u x1 s1 q1 h1 => ?_
  rw [assoc] at h1
  refine stV s1 cnT h1 fun q S2 F2 r2 H2 v x2 s2 q2 h2 => ?_
  cases eo : o p.2 q.2 S2 with
  | none => rw [eo] at h2; exact h2.elim
  | some z =>
    rw [eo] at h2
    refine ho n0 g F2 r2 S2 H2 p.2 q.2 u v z _ s2.hr (q1.ext x2) q2 eo fun F' r' H' w x hr rf => ?_
    have h3 : PoT G n0 g F r env σ (match z.2 with
      | .bl b => .ok b S2
      | _ => .no) Q := h2
    split at h3
    · rename_i k ek
      rw [ek] at rf
      exact ⟨k, bl_of rf, h3 F' r' H' ((x1.trans x2).trans x) (s2.ext x hr)⟩
    · exact h3.elim
theorem truth_ok {g : Gh} {F : Hp} {r : List Addr} {S : Store} {H : Hp} {v : PV} {u : V} {k : Bool} (h : HR G n0 g F r S H) (q : RV G F r v u) (e : truth S v = some k) : TruV G.K u H k := by
  unfold truth at e
  split at e
  · rename_i b e'
    cases e
    rw [view_bl h q e']
    exact rfl
  · rename_i i e'
    cases e
    rw [view_int h q e']
    exact rfl
  · rename_i e'
    cases e
    rw [view_non h q e']
    exact rfl
  · rename_i xs e'
    cases e
    obtain ⟨a, us, rfl, h1, h2⟩ := view_lst h q e'
    refine .inl ⟨us, .inl h1, ?_⟩
    cases xs with
    | nil => have e3 : us = [] := h2; rw [e3]; rfl
    | cons x xs => obtain ⟨_, _, rfl, _, _⟩ := h2; rfl
  · rename_i xs e'
    cases e
    obtain ⟨a, us, rfl, h1, h2⟩ := view_tup h q e'
    refine .inr (.inl ⟨us, h1, ?_⟩)
    cases xs with
    | nil => have e3 : us = [] := h2; rw [e3]; rfl
    | cons x xs => obtain ⟨_, _, rfl, _, _⟩ := h2; rfl
  · cases e
theorem st_tru (hK : G.K = X.K) (ha : PE X a (rdE G n0 fa)) (he : ∀ whole, isTrue a X.env whole = (do let v ← whole; standAt a.pos; holding [v] (truthy v)) := by intro _; rfl) : PT X a (rdT G n0 (tTru fa)) := by
  refine ptI (pt_truth (toV ha) he) fun σ H Q ⟨F, r, env, S, g, s, h⟩ => ?_
  refine stV s cnT h fun p S1 F1 r1 H1 u x1 s1 q1 h1 => ?_
  cases et : truth S1 p.2 with
  | none => rw [et] at h1; exact h1.elim
  | some k =>
    rw [et] at h1
    exact ⟨k, hK ▸ truth_ok s1.hr q1 et, h1 F1 r1 H1 x1 s1⟩
theorem st_no {ta : ST} (ha : PT X a (rdT G n0 ta)) : PT X (.UnaryOp .Not a pos) (rdT G n0 (tNo ta)) := by
  refine ptI (pt_not ha) fun σ H Q ⟨F, r, env, S, g, s, h⟩ => ?_
  exact stT s cnT h fun p S1 F1 r1 H1 x1 s1 h1 => h1 F1 r1 H1 x1 s1
theorem sw_one {op : BoolOp} {ta : ST} (ha : PT X a (rdT G n0 ta)) : PW X (.BoolOp op [a] pos) (rdT G n0 ta) := by
  cases op with
  | And => exact pw_and1 ha
  | Or => exact pw_or1 ha
theorem sw_or {ta tb : ST} (ha : PT X a (rdT G n0 ta)) (hb : PW X (.BoolOp .Or (b :: rest) pos) (rdT G n0 tb)) : PW X (.BoolOp .Or (a :: b :: rest) pos) (rdT G n0 (tOr ta tb)) := by
  refine pwI (pw_or ha hb) fun σ H Q ⟨F, r, env, S, g, s, h⟩ => ?_
  refine stT s cnT h fun p S1 F1 r1 H1 x1 s1 h1 => ?_
  cases p with
  | true => exact h1 F1 r1 H1 x1 s1
  | false => exact goT s1 x1 h1
theorem se_one {op : BoolOp} (ha : PE X a (rdE G n0 fa)) : PE X (.BoolOp op [a] pos) (rdE G n0 fa) := pe_one ha
theorem se_and (hK : G.K = X.K) (ha : PE X a (rdE G n0 fa)) (hb : PE X (.BoolOp .And (b :: rest) pos) (rdE G n0 fb)) : PE X (.BoolOp .And (a :: b :: rest) pos) (rdE G n0 (eAn fa fb)) := by
  refine peI (pe_andT (toV ha) hb) fun σ H Q ⟨F, r, env, S, g, s, h⟩ => ?_
  refine stV s cnE h fun p S1 F1 r1 H1 u x1 s1 q1 h1 => ?_
  cases et : truth S1 p.2 with
  | none => rw [et] at h1; exact h1.elim
  | some k =>
    rw [et] at h1
    refine ⟨k, hK ▸ truth_ok s1.hr q1 et, ?_⟩
    cases k with
    | true => exact goE s1 x1 h1
    | false => exact h1 F1 r1 H1 u x1 s1 q1
theorem se_or (hK : G.K = X.K) (ha : PE X a (rdE G n0 fa)) (hb : PE X (.BoolOp .Or (b :: rest) pos) (rdE G n0 fb)) : PE X (.BoolOp .Or (a :: b :: rest) pos) (rdE G n0 (eOr fa fb)) := by
  refine peI (pe_orT (toV ha) hb) fun σ H Q ⟨F, r, env, S, g, s, h⟩ => ?_
  refine stV s cnE h fun p S1 F1 r1 H1 u x1 s1 q1 h1 => ?_
  cases et : truth S1 p.2 with
  | none => rw [et] at h1; exact h1.elim
  | some k =>
    rw [et] at h1
    refine ⟨k, hK ▸ truth_ok s1.hr q1 et, ?_⟩
    cases k with
    | true => exact h1 F1 r1 H1 u x1 s1 q1
    | false => exact goE s1 x1 h1
theorem se_not (hK : G.K = X.K) (ha : PE X a (rdE G n0 fa)) : PE X (.UnaryOp .Not a pos) (rdE G n0 (eNot fa)) := by
  refine peI (pe_notT (toV ha)) fun σ H Q ⟨F, r, env, S, g, s, h⟩ => ?_
  refine stV s cnE h fun p S1 F1 r1 H1 u x1 s1 q1 h1 => ?_
  cases et : truth S1 p.2 with
  | none => rw [et] at h1; exact h1.elim
  | some k =>
    rw [et] at h1
    exact ⟨k, hK ▸ truth_ok s1.hr q1 et, h1 F1 r1 H1 _ x1 s1 rfl⟩
theorem se_if {tc : ST} (hc : PT X c (rdT G n0 tc)) (ha : PE X a (rdE G n0 fa)) (hb : PE X b (rdE G n0 fb)) : PE X (.IfExp c a b pos) (rdE G n0 (eIf tc fa fb)) := by
  refine peI (pe_ifExp hc ha hb) fun σ H Q ⟨F, r, env, S, g, s, h⟩ => ?_
  refine stT s cnE h fun p S1 F1 r1 H1 x1 s1 h1 => ?_
  cases p with
  | true => exact goE s1 x1 h1
  | false => exact goE s1 x1 h1
theorem se_ch {o1 o2 : CmpOp} {o o' : Op2} {t t' : R2} (hop : OpR X (compareOp o1) t) (ho : Ok2 G o t) (hop' : OpR X (compareOp o2) t') (ho' : Ok2 G o' t') (ha : PE X a (rdE G n0 fa)) (hb : PE X b (rdE G n0 fb)) (hc : PE X c (rdE G n0 fc))
    (hp : PE X (.Compare a [o1, o2] [b, c] pos) (tChain t t' (rdV G n0 fa) (rdV G n0 fb) (rdV G n0 fc))) : PE X (.Compare a [o1, o2] [b, c] pos) (rdE G n0 (eCh o o' fa fb fc)) := by
  refine peI hp fun σ H Q ⟨F, r, env, S, g, s, h⟩ => ?_
  refine stV s cnE h fun p S1 F1 r1 H1 u x1 s1 q1 h1 => ?_
  refine stV s1 cnE h1 fun q S2 F2 r2 H2 v x2 s2 q2 h2 => ?_
  split at h2
  · rename_i eo
    refine ho n0 g F2 r2 S2 H2 p.2 q.2 u v _ _ s2.hr (q1.ext x2) q2 eo fun F3 r3 H3 w x3 hr3 rf => ⟨true, rf, ?_⟩
    refine stV (s2.ext x3 hr3) cnE h2 fun z S4 F4 r4 H4 w' x4 s4 q4 h4 => ?_
    exact endO (T := fun Q => t' v w' H4 Q) s4 (((x1.trans x2).trans x3).trans x4) h4 fun z' ez k => ho' n0 g F4 r4 S4 H4 q.2 z.2 v w' z' Q s4.hr (q2.ext (x3.trans x4)) q4 ez k
  · rename_i eo
    refine ho n0 g F2 r2 S2 H2 p.2 q.2 u v _ _ s2.hr (q1.ext x2) q2 eo fun F3 r3 H3 w x3 hr3 rf => ⟨false, rf, ?_⟩
    exact h2 F3 r3 H3 _ ((x1.trans x2).trans x3) (s2.ext x3 hr3) rfl
  · exact h2.elim
theorem sa_nil : PA X [] (rdA G n0 aNil) := paI pa_nil fun σ H Q ⟨F, r, env, S, g, s, h⟩ => h F r H [] (.refl F r) s rfl
theorem sa_cons (ha : PE X a (rdE G n0 fa)) (hr : PA X es (rdA G n0 fs)) (hs : starEach (a :: es) X.env = (false, eval a X.env) :: starEach es X.env := by rfl) : PA X (a :: es) (rdA G n0 (aCons fa fs)) := by
  refine paI (pa_cons (toV ha) hr hs) fun σ H Q ⟨F, r, env, S, g, s, h⟩ => ?_
  refine stV s cnA h fun p S1 F1 r1 H1 u x1 s1 q1 h1 => ?_
  refine stA s1 cnA h1 fun q S2 F2 r2 H2 us x2 s2 q2 h2 => ?_
  exact h2 F2 r2 H2 _ (x1.trans x2) s2 ⟨u, us, rfl, q1.ext x2, q2⟩
theorem sa_star {sp_ : Pos} (hK : G.K = X.K) (ha : PE X a (rdE G n0 fa)) (hr : PA X es (rdA G n0 fs)) (hs : starEach (.Starred a sp_ :: es) X.env = (true, eval a X.env) :: starEach es X.env := by rfl) : PA X (.Starred a sp_ :: es) (rdA G n0 (aStar fa fs)) := by
  refine paI (StX.pa_star (toV ha) hr hs) fun σ H Q ⟨F, r, env, S, g, s, h⟩ => ?_
  refine stV s cnA h fun p S1 F1 r1 H1 u x1 s1 q1 h1 => ?_
  cases ei : itemsOf S1 p.2 with
  | none => simp only [ei] at h1; exact h1.elim
  | some xs =>
    simp only [ei] at h1
    obtain ⟨a', us, rfl, hs', rv⟩ := view_seq s1.hr q1 ei
    refine ⟨a', us, rfl, hK ▸ hs'.symm, ?_⟩
    refine stA s1 cnA h1 fun q S2 F2 r2 H2 ws x2 s2 q2 h2 => ?_
    exact h2 F2 r2 H2 _ (x1.trans x2) s2 ((rv.ext x2).append q2)
theorem small_le {n : Nat} (h : small n = true) : n ≤ sizeLine := by
  have : n ≤ 1000000 := Nat.le_of_ble_eq_true h
  exact Nat.le_trans this (by rw [sizeLine_eq]; decide)
theorem se_tup {x1} (h : PA X es (rdA G n0 fs)) : PE X (.Tuple es x1 pos) (rdE G n0 (eTup fs)) := by
  refine peI (pe_tup h) fun σ H Q ⟨F, r, env, S, g, s, h⟩ => ?_
  refine stA s cnE h fun p S1 F1 r1 H1 us x1 s1 q1 h1 => ?_
  split at h1
  · rename_i hz
    refine ⟨by rw [← RVs.length q1]; exact small_le hz, fun p' hp => ?_⟩
    obtain ⟨F2, x2, h2, k⟩ := new_tup s1.hr hp q1
    exact h1 F2 r1 _ _ (x1.trans x2) (s1.ext x2 h2) k
  · exact h1.elim
theorem se_lst (h : PA X es (rdA G n0 fs)) : PE X (.List es pos) (rdE G n0 (eLst fs)) := by
  refine peI (pe_lst h) fun σ H Q ⟨F, r, env, S, g, s, h⟩ => ?_
  refine stA s cnE h fun p S1 F1 r1 H1 us x1 s1 q1 h1 => ?_
  split at h1
  · rename_i hz
    refine ⟨by rw [← RVs.length q1]; exact small_le hz, fun p' hp => ?_⟩
    obtain ⟨h2, k⟩ := new_obj s1.hr hp (v := .lst p) ⟨us, rfl, q1⟩ rfl
    exact h1 F1 r1 _ _ x1 (s1.ext (.refl _ _) h2) k
  · exact h1.elim
theorem se_new (ha : PE X a (rdE G n0 fa)) : PE X a (rdE G n0 (eNew fa)) := by
  refine peI ha fun σ H Q ⟨F, r, env, S, g, s, h⟩ => ?_
  refine stE s cnE h fun p S1 F1 r1 H1 u x1 s1 q1 h1 => ?_
  obtain ⟨b, v⟩ := p
  cases b with
  | false => exact h1 F1 r1 H1 u x1 s1 q1
  | true =>
    obtain ⟨r2, x2, h2, k⟩ := store_new s1.hr q1
    exact h1 F1 r2 H1 u (x1.trans x2) (s1.ext x2 h2) k
end
end PX
set_option Elab.async false
set_option linter.all false
set_option maxRecDepth 100000
namespace PX
open PySem PySem.Spec PyProof.Rows L2
def PoS (G : Gam) (n0 : Nat) (E : XK) (g : Gh) (F : Hp) (r : List Addr) (z : RS) (D : Ends) : Prop := match z with
  | .nx e S' => ∀ F' r' H' σ', Ext F F' r r' → Sg G n0 g F' r' e σ' S' H' → D.nx σ' H'
  | .bk e S' => ∀ F' r' H' σ', Ext F F' r r' → Sg G n0 g F' r' e σ' S' H' → D.bk σ' H'
  | .ct e S' => ∀ F' r' H' σ', Ext F F' r r' → Sg G n0 g F' r' e σ' S' H' → D.ct σ' H'
  | .rt v S' => ∀ F' r' H' u, Ext F F' r r' → HR G n0 g F' r' S' H' → RV G F' r' v u → D.rt u H'
  | .ex c pl S' => ∀ F' r' H', Ext F F' r r' → HR G n0 g F' r' S' H' → XE E (.ref (G.ca c)) pl H'
  | .no => False
def rdS (G : Gam) (n0 : Nat) (E : XK) (f : SS) : TS := fun D σ H => ∃ F r env S g, Sg G n0 g F r env σ S H ∧ PoS G n0 E g F r (f env S) D
def GhLe (g g2 : Gh) : Prop := ∀ a o, g.pn a = some o → g.lk a = true → g2.pn a = some o ∧ g2.lk a = true
theorem GhLe.refl (g : Gh) : GhLe g g := fun _ _ e l => ⟨e, l⟩
theorem GhLe.trans {g g2 g3 : Gh} (h : GhLe g g2) (k : GhLe g2 g3) : GhLe g g3 := fun a o e l => k a o (h a o e l).1 (h a o e l).2
def Gh.rep (g : Gh) (rp : Option (Addr × HO)) : Gh := match rp with
  | none => g
  | some p => ⟨g.L, L2.upd g.pn p.1 p.2, g.lk⟩
def Gh.has (g : Gh) (rp : Option (Addr × HO)) : Prop := ∀ p, rp = some p → (∃ o, g.pn p.1 = some o) ∧ g.lk p.1 = false
def GhPin (g g' : Gh) : Prop := ∀ a o, g.pn a = some o → g.lk a = false → g'.pn a = some o ∧ g'.lk a = false
theorem GhPin.refl (g : Gh) : GhPin g g := fun _ _ e l => ⟨e, l⟩
theorem GhPin.has {g g' : Gh} (h : GhPin g g') {rp : Option (Addr × HO)} (k : g.has rp) : g'.has rp := fun p e => by
  obtain ⟨⟨o, q⟩, l⟩ := k p e
  exact ⟨⟨o, (h _ o q l).1⟩, (h _ o q l).2⟩
def Its (G : Gam) (n0 : Nat) (g : Gh) (F : Hp) (r : List Addr) (J : It) (xs : List PV) : Prop := ∀ g2, GhLe g g2 → ∀ F2 r2 S2 H2, HR G n0 g2 F2 r2 S2 H2 → Ext F F2 r r2 →
  (∀ (i : Nat) x, xs[i]? = some x → J.go i H2 ∧ ∀ v H3, J.yld i H2 v H3 → ∃ F3, Ext F2 F3 r2 r2 ∧ HR G n0 g2 F3 r2 S2 H3 ∧ RV G F3 r2 x v) ∧ (∀ i, xs.length ≤ i → J.stop i H2)
def PoI (G : Gam) (n0 : Nat) (g : Gh) (F : Hp) (r : List Addr) (env : Env) (σ : L2.St) (z : R (List PV × List (Nat × PV))) (T : It → Hp → Prop) : Prop := match z with
  | .ok p S' => ∀ F' r' H' J g', Ext F F' r r' → Sg G n0 g' F' r' env σ S' H' → Its G n0 g' F' r' J p.1 →
      GhPin g g' → (∀ rp, g.has rp → ∀ F2 r2 S2 H2, HR G n0 (g'.rep rp) F2 r2 S2 H2 → Ext F' F2 r' r2 → HR G n0 (g.rep rp) F2 r2 (unlock p.2 S2) H2) → T J H'
  | _ => False
def rdI (G : Gam) (n0 : Nat) (f : SI) : TI := fun σ H T => ∃ F r env S g, Sg G n0 g F r env σ S H ∧ PoI G n0 g F r env σ (f env S) T
theorem psI {X : Cx} {st : Stmt} {t t' : TS} (h : PS X st t) (w : ∀ D σ H, t' D σ H → t D σ H) : PS X st t' := ⟨fun pins s σ H D I q => h.run pins s σ H D I (w D σ H q)⟩
theorem pssI {X : Cx} {st : List Stmt} {t t' : TS} (h : PSs X st t) (w : ∀ D σ H, t' D σ H → t D σ H) : PSs X st t' := ⟨fun pins s σ H D I q => h.run pins s σ H D I (w D σ H q)⟩
theorem piI {X : Cx} {tg e : Expr} {t t' : TI} (h : PI X tg e t) (w : ∀ σ H R, t' σ H R → t σ H R) : PI X tg e t' := ⟨fun pins s σ H R I q => h.run pins s σ H R I (w σ H R q)⟩
def TgOk (G : Gam) (t : Tg) (gg : TG) : Prop := ∀ n0 g F r env σ S H v u env' (Q : L2.St → Hp → Prop), Sg G n0 g F r env σ S H → RV G F r v u → t v env S = some env' → (∀ σ', Sg G n0 g F r env' σ' S H → Q σ' H) → gg u σ H Q
section
variable {X : Cx} {G : Gam} {n0 : Nat} {g : Gh} {F F1 : Hp} {r r1 : List Addr} {env : Env} {σ : L2.St} {S S1 : Store} {H H1 : Hp} {D : Ends} {E : XK}
theorem PoS.ext {z : RS} (h : PoS G n0 E g F r z D) (x : Ext F F1 r r1) : PoS G n0 E g F1 r1 z D := by
  cases z with
  | nx e S' => exact fun F' r' H' σ' e s => h F' r' H' σ' (x.trans e) s
  | bk e S' => exact fun F' r' H' σ' e s => h F' r' H' σ' (x.trans e) s
  | ct e S' => exact fun F' r' H' σ' e s => h F' r' H' σ' (x.trans e) s
  | rt v S' => exact fun F' r' H' u e s => h F' r' H' u (x.trans e) s
  | ex c p S' => exact fun F' r' H' e q => h F' r' H' (x.trans e) q
  | no => exact h
theorem goS {f : SS} (s : Sg G n0 g F1 r1 env σ S1 H1) (x : Ext F F1 r r1) (h : PoS G n0 E g F r (f env S1) D) : rdS G n0 E f D σ H1 := ⟨F1, r1, env, S1, g, s, h.ext x⟩
theorem sgV {f : SE} {T : V → Hp → Prop} {kk : Bool × PV → Store → RS} (s : Sg G n0 g F r env σ S H) (h : PoS G n0 E g F r ((f env S).go kk) D)
    (step : ∀ p S' F' r' H' u, Ext F F' r r' → Sg G n0 g F' r' env σ S' H' → RV G F' r' p.2 u → PoS G n0 E g F r (kk p S') D → T u H') : rdV G n0 f σ H T := by
  refine ⟨F, r, env, S, g, s, ?_⟩
  cases e : f env S with
  | ok p S' => rw [e] at h; exact fun F' r' H' u ex s' q => step p S' F' r' H' u ex s' q h
  | ex c p S' => rw [e] at h; exact False.elim h
  | no => rw [e] at h; exact False.elim h
theorem sgT {f : ST} {T : Bool → Hp → Prop} {kk : Bool → Store → RS} (s : Sg G n0 g F r env σ S H) (h : PoS G n0 E g F r ((f env S).go kk) D)
    (step : ∀ p S' F' r' H', Ext F F' r r' → Sg G n0 g F' r' env σ S' H' → PoS G n0 E g F r (kk p S') D → T p H') : rdT G n0 f σ H T := by
  refine ⟨F, r, env, S, g, s, ?_⟩
  cases e : f env S with
  | ok p S' => rw [e] at h; exact fun F' r' H' ex s' => step p S' F' r' H' ex s' h
  | ex c p S' => rw [e] at h; exact False.elim h
  | no => rw [e] at h; exact False.elim h
theorem sgA {f : SA} {T : List V → Hp → Prop} {kk : List PV → Store → RS} (s : Sg G n0 g F r env σ S H) (h : PoS G n0 E g F r ((f env S).go kk) D)
    (step : ∀ p S' F' r' H' us, Ext F F' r r' → Sg G n0 g F' r' env σ S' H' → RVs G F' r' p us → PoS G n0 E g F r (kk p S') D → T us H') : rdA G n0 f σ H T := by
  refine ⟨F, r, env, S, g, s, ?_⟩
  cases e : f env S with
  | ok p S' => rw [e] at h; exact fun F' r' H' us ex s' q => step p S' F' r' H' us ex s' q h
  | ex c p S' => rw [e] at h; exact False.elim h
  | no => rw [e] at h; exact False.elim h
variable {st : Stmt} {rest : List Stmt} {fa fb : SS} {e : Expr} {fe : SE} {pos : Pos}
theorem ss_nil : PSs X [] (rdS G n0 E sNil) := pssI pss_nil fun D σ H ⟨F, r, env, S, g, s, h⟩ => h F r H σ (.refl F r) s
theorem ss_cons (h1 : PS X st (rdS G n0 E fa)) (h2 : PSs X rest (rdS G n0 E fb)) : PSs X (st :: rest) (rdS G n0 E (sCons fa fb)) := by
  refine pssI (pss_cons h1 h2) fun D σ H ⟨F, r, env, S, g, s, h⟩ => ?_
  refine ⟨F, r, env, S, g, s, ?_⟩
  have h : PoS G n0 E g F r ((fa env S).then fb) D := h
  cases e : fa env S with
  | nx env' S' => rw [e] at h; exact fun F' r' H' σ' x s' => goS s' x h
  | bk => rw [e] at h; exact h
  | ct => rw [e] at h; exact h
  | rt => rw [e] at h; exact h
  | ex => rw [e] at h; exact h
  | no => rw [e] at h; exact h
theorem ss_one (h1 : PS X st (rdS G n0 E fa)) : PSs X [st] (rdS G n0 E fa) := pss_one h1
theorem ss_expr (he : PE X e (rdE G n0 fe)) (hs : swapsWith e none pos.line X.env = pure false := by rfl) : PS X (.Expr e pos) (rdS G n0 E (sExp fe)) := by
  refine psI (ps_expr (toV he) hs) fun D σ H ⟨F, r, env, S, g, s, h⟩ => ?_
  exact sgV s h fun p S1 F1 r1 H1 u x1 s1 q1 h1 => h1 F1 r1 H1 σ x1 s1
theorem ss_ret (he : PE X e (rdE G n0 fe)) : PS X (.Return (some e) pos) (rdS G n0 E (sRet fe)) := by
  refine psI (ps_ret (toV he)) fun D σ H ⟨F, r, env, S, g, s, h⟩ => ?_
  exact sgV s h fun p S1 F1 r1 H1 u x1 s1 q1 h1 => h1 F1 r1 H1 u x1 s1.hr q1
theorem ss_no : PS X st (rdS G n0 E sNo) := psI ps_never fun D σ H ⟨F, r, env, S, g, s, h⟩ => h
theorem ss_if {c : Expr} {a b : List Stmt} {tc : ST} (hc : PT X c (rdT G n0 tc)) (ha : PSs X a (rdS G n0 E fa)) (hb : PSs X b (rdS G n0 E fb)) : PS X (.If c a b pos) (rdS G n0 E (sIf tc fa fb)) := by
  refine psI (ps_if hc ha hb) fun D σ H ⟨F, r, env, S, g, s, h⟩ => ?_
  refine sgT s h fun p S1 F1 r1 H1 x1 s1 h1 => ?_
  cases p with
  | true => exact goS s1 x1 h1
  | false => exact goS s1 x1 h1
theorem Sg.set {i : Nat} {v : PV} {u : V} (s : Sg G n0 g F r env σ S H) (q : RV G F r v u) : Sg G n0 g F r (env.set i (some v)) (σ.set i (some u)) S H := by
  refine ⟨s.hr, by rw [List.length_set, List.length_set, s.sl], fun j w e => ?_⟩
  by_cases hj : i = j
  · subst hj
    have hi : i < env.length := by
      have := (List.getElem?_eq_some_iff.mp e).1
      rwa [List.length_set] at this
    rw [List.getElem?_set_self hi] at e
    cases e
    exact ⟨u, by rw [List.getElem?_set_self (by rw [← s.sl]; exact hi)], q⟩
  · rw [List.getElem?_set_ne hj] at e
    obtain ⟨u', h1, h2⟩ := s.vr j w e
    exact ⟨u', by rw [List.getElem?_set_ne hj]; exact h1, h2⟩
theorem tg_nm (i : Nat) : TgOk G (gNm i) (gName i) := fun n0 g F r env σ S H v u env' Q s q e h => by
  cases e
  exact h _ (s.set q)
def TgsOk (G : Gam) (ts : List Tg) (gs : TGs) : Prop := ∀ n0 g F r env σ S H vs us env' (Q : L2.St → Hp → Prop), Sg G n0 g F r env σ S H → RVs G F r vs us → gTps ts vs env S = some env' → (∀ σ', Sg G n0 g F r env' σ' S H → Q σ' H) → gs us σ H Q
theorem tgs_nil : TgsOk G [] gNil := fun n0 g F r env σ S H vs us env' Q s q e h => by
  cases vs with
  | nil =>
    cases e
    exact ⟨q, h σ s⟩
  | cons v vs => cases e
theorem tgs_cons {t : Tg} {ts : List Tg} {gg : TG} {gs : TGs} (h1 : TgOk G t gg) (h2 : TgsOk G ts gs) : TgsOk G (t :: ts) (gCons gg gs) := fun n0 g F r env σ S H vs us env' Q s q e h => by
  cases vs with
  | nil => cases e
  | cons v vs =>
    obtain ⟨u, ur, rfl, q1, q2⟩ := q
    have e : (match t v env S with
      | some env' => gTps ts vs env' S
      | none => none) = some env' := e
    cases e1 : t v env S with
    | none => rw [e1] at e; cases e
    | some env1 =>
      rw [e1] at e
      exact ⟨u, ur, rfl, h1 n0 g F r env σ S H v u env1 _ s q1 e1 fun σ' s' => h2 n0 g F r env1 σ' S H vs ur env' Q s' q2 e h⟩
theorem gTps_len {ts : List Tg} : ∀ {vs : List PV} {env env' : Env}, gTps ts vs env S = some env' → vs.length = ts.length := by
  induction ts with
  | nil =>
    intro vs env env' e
    cases vs with
    | nil => rfl
    | cons => cases e
  | cons t ts ih =>
    intro vs env env' e
    cases vs with
    | nil => cases e
    | cons v vs =>
      have e : (match t v env S with
        | some env' => gTps ts vs env' S
        | none => none) = some env' := e
      cases e1 : t v env S with
      | none => rw [e1] at e; cases e
      | some env1 =>
        rw [e1] at e
        rw [List.length_cons, List.length_cons, ih e]
theorem tg_tp {ts : List Tg} {gs : TGs} {n : Nat} (h : TgsOk G ts gs) (hn : ts.length = n) : TgOk G (gTp ts) (gTup G.K n gs) := fun n0 g F r env σ S H v u env' Q s q e k => by
  unfold gTp at e
  split at e
  · rename_i xs e'
    obtain ⟨a, us, rfl, h1, h2⟩ := view_tup s.hr q e'
    exact ⟨a, us, rfl, h1, by rw [← RVs.length h2, gTps_len e, hn], h n0 g F r env σ S H xs us env' Q s h2 e k⟩
  · cases e
theorem ss_asg {gg : TG} {t : Tg} (hp : PS X st (tAsg (rdV G n0 fe) gg)) (ht : TgOk G t gg) : PS X st (rdS G n0 E (sAsg t fe)) := by
  refine psI hp fun D σ H ⟨F, r, env, S, g, s, h⟩ => ?_
  refine sgV s h fun p S1 F1 r1 H1 u x1 s1 q1 h1 => ?_
  cases e : t p.2 env S1 with
  | none => rw [e] at h1; exact False.elim h1
  | some env' =>
    rw [e] at h1
    exact ht n0 g F1 r1 env σ S1 H1 p.2 u env' D.nx s1 q1 e fun σ' s' => h1 F1 r1 H1 σ' x1 s'
theorem ss_par {i j : Nat} {ft : SA} (hp : PS X st (tPar i j (rdA G n0 ft))) : PS X st (rdS G n0 E (sPar [i, j] ft)) := by
  refine psI hp fun D σ H ⟨F, r, env, S, g, s, h⟩ => ?_
  refine sgA s h fun p S1 F1 r1 H1 us x1 s1 q1 h1 => ?_
  match p, q1, h1 with
  | [], _, h1 => exact False.elim h1
  | [a], _, h1 => exact False.elim h1
  | a :: b :: c :: d, _, h1 => exact False.elim h1
  | [a, b], q1, h1 =>
    obtain ⟨u, ur, rfl, k1, q2⟩ := q1
    obtain ⟨v, vr, rfl, k2, q3⟩ := q2
    have e : vr = [] := q3
    subst e
    exact ⟨u, v, rfl, h1 F1 r1 H1 _ x1 ((s1.set k1).set k2)⟩
theorem ss_aug {i : Nat} {o : Op2} {t : TIp} (hp : PS X st (tAug i (rdV G n0 fe) t)) (ho : Ok2 G o t) : PS X st (rdS G n0 E (sAug i o fe)) := by
  refine psI hp fun D σ H ⟨F, r, env, S, g, s, h⟩ => ?_
  unfold sAug at h
  split at h
  · rename_i x ex
    obtain ⟨u, e1, q⟩ := s.vr i x ex
    refine ⟨u, e1, sgV s h fun p S1 F1 r1 H1 w x1 s1 q1 h1 => ?_⟩
    cases eo : o x p.2 S1 with
    | none => rw [eo] at h1; exact False.elim h1
    | some z =>
      rw [eo] at h1
      refine ho n0 g F1 r1 S1 H1 x p.2 u w z _ s1.hr (q.ext x1) q1 eo fun F2 r2 H2 y x2 hr2 rf => ?_
      obtain ⟨F3, x3, hr3, q3⟩ := freeze hr2 rf
      exact h1 F3 r2 H2 _ ((x1.trans x2).trans x3) ((s1.ext (x2.trans x3) hr3).set q3)
  · exact False.elim h
theorem ss_for {fi : SI} {t : Tg} {gg : TG} (hf : PS X st (tFor (rdI G n0 fi) gg (rdS G n0 E fb))) (ht : TgOk G t gg) : PS X st (rdS G n0 E (sFor fi t fb)) := by
  refine psI hf fun D σ H ⟨F, r, env, S, g, s, h⟩ => ?_
  refine ⟨F, r, env, S, g, s, ?_⟩
  have h : PoS G n0 E g F r ((fi env S).go fun p S1 => (forR t fb p.1 env S1).unl p.2) D := h
  cases ei : fi env S with
  | no => rw [ei] at h; exact False.elim h
  | ex => rw [ei] at h; exact False.elim h
  | ok p S1 =>
    rw [ei] at h
    obtain ⟨xs, ls⟩ := p
    have h : PoS G n0 E g F r ((forR t fb xs env S1).unl ls) D := h
    intro F1 r1 H1 J g' x1 s1 its _ ul
    have ul : ∀ F2 r2 S2 H2, HR G n0 g' F2 r2 S2 H2 → Ext F1 F2 r1 r2 → HR G n0 g F2 r2 (unlock ls S2) H2 := ul none (fun p e => nomatch e)
    have its : Its G n0 g' F1 r1 J xs := its
    refine ⟨fun i m σ' H' => m = xs.length - i ∧ i ≤ xs.length ∧ ∃ F2 r2 env2 S2, Ext F1 F2 r1 r2 ∧ Sg G n0 g' F2 r2 env2 σ' S2 H' ∧ PoS G n0 E g F r ((forR t fb (xs.drop i) env2 S2).unl ls) D,
      ⟨xs.length, rfl, Nat.zero_le _, F1, r1, env, S1, .refl _ _, s1, h⟩, ?_⟩
    rintro i m σ2 H2 ⟨rfl, hi, F2, r2, env2, S2, x2, s2, h2⟩
    obtain ⟨ig, ie⟩ := its g' (.refl g') F2 r2 S2 H2 s2.hr x2
    by_cases hlt : i < xs.length
    · have hx : xs[i]? = some xs[i] := List.getElem?_eq_getElem hlt
      have hd : xs.drop i = xs[i] :: xs.drop (i + 1) := List.drop_eq_getElem_cons hlt
      rw [hd] at h2
      obtain ⟨go, yl⟩ := ig i xs[i] hx
      refine .inr ⟨go, fun σ' H' => (xs.length - (i + 1)) < xs.length - i ∧ ∃ F2 r2 env2 S2, Ext F1 F2 r1 r2 ∧ Sg G n0 g' F2 r2 env2 σ' S2 H' ∧ PoS G n0 E g F r ((forR t fb (xs.drop (i + 1)) env2 S2).unl ls) D,
        fun σ' H' ⟨q0, q⟩ => ⟨_, q0, rfl, hlt, q⟩, fun v H3 hy => ?_⟩
      obtain ⟨F3, x3, hr3, q3⟩ := yl v H3 hy
      have h3 : PoS G n0 E g F r ((match t xs[i] env2 S2 with
        | none => RS.no
        | some env' => match fb env' S2 with
          | .nx e S' => forR t fb (xs.drop (i + 1)) e S'
          | .ct e S' => forR t fb (xs.drop (i + 1)) e S'
          | .bk e S' => .nx e S'
          | z => z).unl ls) D := h2
      cases et : t xs[i] env2 S2 with
      | none => rw [et] at h3; exact False.elim h3
      | some env3 =>
        simp only [et] at h3
        refine ht n0 g' F3 r2 env2 σ2 S2 H3 xs[i] v env3 _ (s2.ext x3 hr3) q3 et fun σ3 s3 => ?_
        refine ⟨F3, r2, env3, S2, g', s3, ?_⟩
        have xx : Ext F1 F3 r1 r2 := x2.trans x3
        cases eb : fb env3 S2 with
        | nx e S' =>
          rw [eb] at h3
          exact fun F4 r4 H4 σ4 x4 s4 => ⟨by omega, F4, r4, e, S', xx.trans x4, s4, h3⟩
        | ct e S' =>
          rw [eb] at h3
          exact fun F4 r4 H4 σ4 x4 s4 => ⟨by omega, F4, r4, e, S', xx.trans x4, s4, h3⟩
        | bk e S' =>
          rw [eb] at h3
          exact fun F4 r4 H4 σ4 x4 s4 => h3 F4 r4 H4 σ4 ((x1.trans xx).trans x4) ⟨ul F4 r4 S' H4 s4.hr (xx.trans x4), s4.sl, s4.vr⟩
        | rt w S' =>
          rw [eb] at h3
          exact fun F4 r4 H4 u4 x4 s4 q4 => h3 F4 r4 H4 u4 ((x1.trans xx).trans x4) (ul F4 r4 S' H4 s4 (xx.trans x4)) q4
        | ex c p S' => rw [eb] at h3; exact fun F4 r4 H4 x4 s4 => h3 F4 r4 H4 ((x1.trans xx).trans x4) (ul F4 r4 S' H4 s4 (xx.trans x4))
        | no => rw [eb] at h3; exact False.elim h3
    · have e : i = xs.length := by omega
      subst e
      rw [List.drop_length] at h2
      exact .inl ⟨ie _ (Nat.le_refl _), h2 F2 r2 H2 σ2 (x1.trans x2) ⟨ul F2 r2 S2 H2 s2.hr x2, s2.sl, s2.vr⟩⟩
end
end PX
set_option Elab.async false
set_option linter.all false
set_option maxRecDepth 100000
namespace PX
open PySem PySem.Spec PyProof.Rows L2
section
variable {G : Gam} {n0 : Nat} {g : Gh} {F : Hp} {r : List Addr} {S : Store} {H : Hp}
theorem rv_of_ro {a : Addr} {ho : HO} {v : PV} (hF : F a = some ho) (ro : RO G F r v ho) (hu : unl v = v) : RV G F r v (.ref a) := by
  unfold RO at ro
  rw [hu] at ro
  split at ro
  · obtain ⟨us, rfl, k⟩ := ro
    exact ⟨a, us, rfl, .inl hF, k⟩
  · obtain ⟨us, d, k⟩ := ro
    exact ⟨a, us, ho, rfl, hF, d, k⟩
  · obtain ⟨dx, us, rfl, l, k⟩ := ro
    exact ⟨a, dx, us, rfl, hF, l, k⟩
  · exact ro.elim
def frF (n0 t : Nat) (g : Gh) (F : Hp) (r : List Addr) (H : Hp) : Hp := fun a => open Classical in if a ∈ r.drop n0 ∧ g.pn a = none ∧ r[t]? ≠ some a then H a else F a
theorem frF_le (h : HR G n0 g F r S H) (t : Nat) : Le F (frF n0 t g F r H) := fun a o e => by
  unfold frF
  rw [if_neg (fun z => by rw [h.off a (List.mem_of_mem_drop z.1)] at e; cases e)]
  exact e
theorem frF_sub (h : HR G n0 g F r S H) (t : Nat) : LeD (frF n0 t g F r H) H := fun a o e => by
  unfold frF at e
  split at e
  · exact .inl e
  · exact h.sub a o e
theorem take_at (h : HR G n0 g F r S H) {i : Nat} {a : Addr} (hi : i < n0) (e : r[i]? = some a) : (r.take n0)[i]? = some a := by
  rw [List.getElem?_take, if_pos hi]
  exact e
theorem frF_at (h : HR G n0 g F r S H) {t i : Nat} {a : Addr} {ob : PV} (hi : ¬ i < n0) (ht : i ≠ t) (e : r[i]? = some a) (eo : S[i]? = some ob) (hu : unl ob = ob) : frF n0 t g F r H a = H a := by
  unfold frF
  refine if_pos ⟨?_, h.nopin e eo hu, fun e2 => ?_⟩
  · have : (r.drop n0)[i - n0]? = some a := by
      rw [List.getElem?_drop]
      rw [show n0 + (i - n0) = i by omega]
      exact e
    exact List.mem_of_getElem? this
  · obtain ⟨h1, e1⟩ := List.getElem?_eq_some_iff.mp e
    obtain ⟨h2, e2⟩ := List.getElem?_eq_some_iff.mp e2
    exact ht ((List.getElem_inj h.nd).mp (e1.trans e2.symm))
section
variable {t : Nat} (h : HR G n0 g F r S H)
include h
theorem frzL_ok {f : PV → Option PV} (hf : ∀ v u w, RV G F r v u → f v = some w → RV G (frF n0 t g F r H) (r.take n0) w u) : ∀ {vs : List PV} {us : List V} {ws : List PV}, RVs G F r vs us → frzL f vs = some ws → RVs G (frF n0 t g F r H) (r.take n0) ws us
  | [], us, ws, q, e => by cases e; exact q
  | v :: vs, us, ws, q, e => by
    obtain ⟨u, ur, rfl, k, l⟩ := q
    unfold frzL at e
    cases e1 : f v with
    | none => rw [e1] at e; cases e
    | some w =>
      simp only [e1] at e
      cases e2 : frzL f vs with
      | none => rw [e2] at e; cases e
      | some ws' =>
        rw [e2] at e
        cases e
        exact ⟨u, ur, rfl, hf v u w k e1, frzL_ok hf l e2⟩
theorem frzO_ok {f : PV → Option PV} (hf : ∀ v u w, RV G F r v u → f v = some w → RV G (frF n0 t g F r H) (r.take n0) w u) {o w : PV} {ho : HO} (q : RO G F r o ho) (e : frzO f o = some w) : RO G (frF n0 t g F r H) (r.take n0) w ho ∧ unl w = w ∧ unl o = o := by
  unfold frzO at e
  split at e
  · cases e1 : frzL f ‹_› with
    | none => rw [e1] at e; cases e
    | some ws =>
      rw [e1] at e
      cases e
      obtain ⟨us, rfl, k⟩ := q
      exact ⟨⟨us, rfl, frzL_ok h hf k e1⟩, rfl, rfl⟩
  · cases e1 : frzL f ‹List PV› with
    | none => rw [e1] at e; cases e
    | some ws =>
      rw [e1] at e
      cases e
      obtain ⟨us, d, k⟩ := q
      exact ⟨⟨us, d.mono (frF_le h t), frzL_ok h hf k e1⟩, rfl, rfl⟩
  · cases e1 : frzL f ‹List PV› with
    | none => rw [e1] at e; cases e
    | some ws =>
      rw [e1] at e
      cases e
      obtain ⟨dx, us, rfl, l, k⟩ := q
      exact ⟨⟨dx, us, rfl, l, frzL_ok h hf k e1⟩, rfl, rfl⟩
  · cases e
theorem frz_ok : ∀ (k : Nat) (v : PV) (u : V) (w : PV), RV G F r v u → frz n0 t S k v = some w → RV G (frF n0 t g F r H) (r.take n0) w u
  | 0, _, _, _, _, e => by cases e
  | k + 1, v, u, w, q, e => by
    have ih := frz_ok k
    have le := frF_le h t
    cases v with
    | non => cases e; exact q
    | bl => cases e; exact q
    | int => cases e; exact q
    | str => cases e; exact q
    | lck => cases e
    | ref i =>
      have e : (if i < n0 then some (.ref i) else if i = t then none else match S[i]? with
        | some o => frzO (frz n0 t S k) o
        | none => none) = some w := e
      split at e
      · rename_i hi
        cases e
        obtain ⟨a, e1, rfl⟩ := q
        exact ⟨a, take_at h hi e1, rfl⟩
      · rename_i hi
        split at e
        · cases e
        · rename_i ht
          cases eo : S[i]? with
          | none => rw [eo] at e; cases e
          | some o =>
            simp only [eo] at e
            obtain ⟨a, ho, rfl, e1, e2, e3⟩ := h.ref q eo
            obtain ⟨z1, z2, z3⟩ := frzO_ok h ih e3 e
            exact rv_of_ro (by rw [frF_at h hi ht e1 eo z3]; exact e2.un z3) z1 z2
    | tup xs =>
      have e : (frzL (frz n0 t S k) xs).map .tup = some w := e
      cases e1 : frzL (frz n0 t S k) xs with
      | none => rw [e1] at e; cases e
      | some ws =>
        rw [e1] at e; cases e
        obtain ⟨a, us, rfl, k1, k2⟩ := q
        exact ⟨a, us, rfl, le _ _ k1, frzL_ok h ih k2 e1⟩
    | lst xs =>
      have e : (frzL (frz n0 t S k) xs).map .lst = some w := e
      cases e1 : frzL (frz n0 t S k) xs with
      | none => rw [e1] at e; cases e
      | some ws =>
        rw [e1] at e; cases e
        obtain ⟨a, us, rfl, k1, k2⟩ := q
        exact ⟨a, us, rfl, le.rd k1, frzL_ok h ih k2 e1⟩
    | dct ks vs =>
      have e : (frzL (frz n0 t S k) vs).map (.dct ks) = some w := e
      cases e1 : frzL (frz n0 t S k) vs with
      | none => rw [e1] at e; cases e
      | some ws =>
        rw [e1] at e; cases e
        obtain ⟨a, us, ho, rfl, k1, d, k2⟩ := q
        exact ⟨a, us, ho, rfl, le _ _ k1, d.mono le, frzL_ok h ih k2 e1⟩
    | ins c ns vs =>
      have e : (frzL (frz n0 t S k) vs).map (.ins c ns) = some w := e
      cases e1 : frzL (frz n0 t S k) vs with
      | none => rw [e1] at e; cases e
      | some ws =>
        rw [e1] at e; cases e
        obtain ⟨a, dx, us, rfl, k1, d, k2⟩ := q
        exact ⟨a, dx, us, rfl, le _ _ k1, d, frzL_ok h ih k2 e1⟩
theorem frz_hr (t : Nat) : HR G n0 g (frF n0 t g F r H) (r.take n0) (S.take n0) H := by
  have hnd : r.Nodup := h.nd
  have apart : ∀ a, a ∈ r.take n0 → a ∈ r.drop n0 → False := fun a h1 h2 => by
    have e : r = r.take n0 ++ r.drop n0 := (List.take_append_drop n0 r).symm
    rw [e] at hnd
    exact (List.nodup_append.mp hnd).2.2 a h1 a h2 rfl
  refine ⟨frF_sub h t, (List.take_sublist n0 r).nodup hnd, fun a ha => ?_, by rw [List.length_take, List.length_take, h.len], by rw [List.length_take]; have := h.nle; omega, h.lle, fun i ob a e1 e2 => ?_, fun a o e => ?_, fun i ob a e1 e2 => ?_, fun a o e el ha => h.out a o e el (List.mem_of_mem_take ha), ⟨fun p hp => let t := h.tab.t p hp; ⟨t.t, by unfold frF; rw [if_neg (fun z => t.nr (List.mem_of_mem_drop z.1))]; exact t.f, fun z => t.nr (List.mem_of_mem_take z), t.np⟩, fun a o e => (by
    unfold frF at e
    split at e
    · rename_i hc
      exact h.tb_of (List.mem_of_mem_drop hc.1) e
    · exact h.tab.nf a o e), h.tab.np⟩⟩
  · unfold frF
    rw [if_neg (fun z => apart a ha z.1)]
    exact h.off a (List.mem_of_mem_take ha)
  · rw [List.getElem?_take] at e1 e2
    split at e1
    · rename_i hi
      rw [if_pos hi] at e2
      obtain ⟨ho, q1, q2⟩ := h.obj i ob a e1 e2
      refine ⟨ho, q1, RO.mono (frF_le h t) (fun j b e => ?_) q2⟩
      unfold lim at e ⊢
      rw [if_pos hi] at e ⊢
      have hl := h.lle i hi
      rw [List.getElem?_take] at e ⊢
      split at e
      · rename_i hj
        rw [if_pos hj, List.getElem?_take, if_pos (by omega)]
        exact e
      · cases e
    · cases e1
  · obtain ⟨q1, q2, q3⟩ := h.pin a o e
    refine ⟨q1, ?_, fun i hi => ?_⟩
    · unfold frF
      rw [if_neg (fun z => by rw [z.2.1] at e; cases e)]
      exact q2
    · rw [List.getElem?_take] at hi
      split at hi
      · rename_i hi'
        obtain ⟨ob, hb⟩ := q3 i hi
        exact ⟨ob, by rw [List.getElem?_take, if_pos hi']; exact hb⟩
      · cases hi
  · rw [List.getElem?_take] at e1 e2
    split at e1
    · rename_i hi
      rw [if_pos hi] at e2
      exact h.lckd i ob a e1 e2
    · cases e1
end
theorem norm_ok {v v' : PV} {u : V} {b : Bool} {S' : Store} (h : HR G n0 g F r S H) (q : RV G F r v u) (e : norm n0 v S = .ok (b, v') S') :
    ∃ F', Le F F' ∧ HR G n0 g F' (r.take n0) S' H ∧ RF G g F' (r.take n0) H b v' u := by
  have hl := h.nle
  unfold norm at e
  split at e
  · rename_i hs
    cases e
    have e2 : r.take n0 = r := List.take_of_length_le (by rw [h.len, hs]; exact Nat.le_refl _)
    rw [e2]
    exact ⟨F, .refl F, h, q⟩
  · have any : ∀ w, frz n0 S.length S 8 v = some w → ∃ F', Le F F' ∧ HR G n0 g F' (r.take n0) (S.take n0) H ∧ RF G g F' (r.take n0) H false w u := fun w e =>
      ⟨_, frF_le h S.length, frz_hr h S.length, frz_ok h 8 v u w q e⟩
    split at e
    · rename_i i
      split at e
      · rename_i hi
        cases e
        obtain ⟨a, e1, rfl⟩ := q
        exact ⟨_, frF_le h i, frz_hr h i, ⟨a, take_at h hi e1, rfl⟩⟩
      · rename_i hi
        cases eo : S[i]? with
        | none => simp only [eo] at e; cases e
        | some o =>
          simp only [eo] at e
          cases ew : frzO (frz n0 i S 8) o with
          | none => simp only [ew] at e; cases e
          | some w =>
            simp only [ew] at e
            cases e
            obtain ⟨a, ho, rfl, e1, e2, e3⟩ := h.ref q eo
            obtain ⟨z1, z2, z3⟩ := frzO_ok h (frz_ok h 8) e3 ew
            refine ⟨_, frF_le h i, frz_hr h i, ⟨a, ho, rfl, e2.un z3, ?_, fun hm => ?_, h.nopin e1 eo z3, z1, z2⟩⟩
            · unfold frF
              rw [if_neg (fun z => z.2.2 e1)]
              exact h.off a (List.mem_of_getElem? e1)
            · obtain ⟨j, hj, ej⟩ := List.getElem_of_mem hm
              have hj2 : j < n0 := by rw [List.length_take] at hj; omega
              rw [List.getElem_take] at ej
              obtain ⟨h2, e2⟩ := List.getElem?_eq_some_iff.mp e1
              have := (List.getElem_inj h.nd).mp (ej.trans e2.symm)
              omega
    · cases ew : frz n0 S.length S 8 v with
      | none => rw [ew] at e; cases e
      | some w =>
        rw [ew] at e
        cases e
        exact any _ ew
def spF (G : Gam) (cf : CF) (f np : Nat) : Sp := fun vs H Q E => ∃ F r S g n0 args, HR G n0 g F r S H ∧ RVs G F r args vs ∧ args.length = np ∧ match cf f args n0 S with
  | .ok v S' => ∀ F' r' H' u, Ext F F' r r' → HR G n0 g F' r' S' H' → RV G F' r' v u → Q u H'
  | .ex c pl S' => ∀ F' r' H', Ext F F' r r' → HR G n0 g F' r' S' H' → XE E (.ref (G.ca c)) pl H'
  | .no => False
theorem spF_len {cf : CF} {f np : Nat} : ∀ vs H Q E, spF G cf f np vs H Q E → vs.length = np := fun vs H Q E ⟨F, r, S, g, n0, args, _, q, l, _⟩ => by rw [← RVs.length q, l]
def subG (n0 : Nat) (g : Gh) (n : Nat) : Gh := ⟨fun i => if i < n0 then g.L i else n, g.pn, g.lk⟩
theorem HR.call (h : HR G n0 g F r S H) : HR G S.length (subG n0 g S.length) F r S H := by
  refine ⟨h.sub, h.nd, h.off, h.len, Nat.le_refl _, fun i hi => ?_, fun i ob a e1 e2 => ?_, h.pin, h.lckd, h.out, ⟨fun p hp => let t := h.tab.t p hp; ⟨t.t, t.f, t.nr, t.np⟩, h.tab.nf, h.tab.np⟩⟩
  · unfold subG
    show (if i < n0 then g.L i else S.length) ≤ S.length
    split
    · rename_i h1
      exact Nat.le_trans (h.lle i h1) h.nle
    · exact Nat.le_refl _
  · obtain ⟨ho, q1, q2⟩ := h.obj i ob a e1 e2
    refine ⟨ho, q1, RO.mono (.refl F) (fun j b e => ?_) q2⟩
    have hi : i < S.length := (List.getElem?_eq_some_iff.mp e1).1
    unfold lim at e ⊢
    rw [if_pos hi]
    unfold subG
    show (r.take (if i < n0 then g.L i else S.length))[j]? = some b
    split at e
    · rename_i h1
      rw [if_pos h1]
      exact e
    · rename_i h1
      rw [if_neg h1, ← h.len, List.take_length]
      exact e
theorem HR.back {F2 : Hp} {S2 : Store} {H2 : Hp} (h : HR G n0 g F r S H) (k : HR G S.length (subG n0 g S.length) F2 r S2 H2) : HR G n0 g F2 r S2 H2 := by
  refine ⟨k.sub, k.nd, k.off, k.len, Nat.le_trans h.nle k.nle, h.lle, fun i ob a e1 e2 => ?_, k.pin, k.lckd, k.out, ⟨fun p hp => let t := k.tab.t p hp; ⟨t.t, t.f, t.nr, t.np⟩, k.tab.nf, k.tab.np⟩⟩
  obtain ⟨ho, q1, q2⟩ := k.obj i ob a e1 e2
  refine ⟨ho, q1, RO.mono (.refl F2) (fun j b e => ?_) q2⟩
  have hi : i < S.length := by
    rw [← h.len, k.len]
    exact (List.getElem?_eq_some_iff.mp e1).1
  unfold lim at e ⊢
  rw [if_pos hi] at e
  unfold subG at e
  have e : (r.take (if i < n0 then g.L i else S.length))[j]? = some b := e
  split
  · rename_i h1
    rw [if_pos h1] at e
    exact e
  · rename_i h1
    rw [if_neg h1, ← h.len, List.take_length] at e
    exact e
theorem take_ext {F2 : Hp} {r2 : List Addr} (h : HR G n0 g F r S H) (x : Ext F F2 r r2) : r2.take S.length = r := by
  obtain ⟨t, ht⟩ := x.2
  rw [← ht, ← h.len, List.take_left']
  rfl
end
section
variable {X : Cx} {G : Gam} {n0 : Nat} {a : Expr} {es : List Expr} {fs : SA} {e : Expr} {cf : CF} {np f : Nat}
theorem run_call {g : Gh} {F0 F : Hp} {r0 r : List Addr} {env : Env} {σ : L2.St} {S : Store} {H : Hp} {Q : VK} {E : XK} {args : List PV} {us : List V} (s : Sg G n0 g F r env σ S H) (x0 : Ext F0 F r0 r) (q : RVs G F r args us) (hl : args.length = np)
    (h : PoE G n0 g F0 r0 env σ ((cutX S.length (cf f args S.length S)).bind fun v S2 => norm S.length v S2) Q) : spF G cf f np us H Q E := by
  refine ⟨F, r, S, subG n0 g S.length, S.length, args, s.hr.call, q, hl, ?_⟩
  cases ec : cf f args S.length S with
  | no => rw [ec] at h; exact h
  | ex => rw [ec] at h; exact False.elim h
  | ok v S2 =>
    rw [ec] at h
    intro F2 r2 H2 u x2 h2 q2
    have h : PoE G n0 g F0 r0 env σ (norm S.length v S2) Q := h
    cases en : norm S.length v S2 with
    | no => rw [en] at h; exact h.elim
    | ex => rw [en] at h; exact h.elim
    | ok p S3 =>
      rw [en] at h
      obtain ⟨b, w⟩ := p
      obtain ⟨F3, x3, h3, q3⟩ := norm_ok h2 q2 en
      rw [take_ext s.hr x2] at h3 q3
      have x4 : Ext F F3 r r := ⟨x2.1.trans x3, List.prefix_refl r⟩
      exact h F3 r H2 u (x0.trans x4) (s.ext x4 (s.hr.back h3)) q3
theorem se_call (hp : PE X e (tCall (spF G cf f np) [] E0 (rdA G n0 fs))) : PE X e (rdE G n0 (eCall cf np f fs)) := by
  refine peI hp fun σ H Q ⟨F, r, env, S, g, s, h⟩ => ?_
  refine stA s cnE h fun p S1 F1 r1 H1 us x1 s1 q1 h1 => ?_
  split at h1
  · rename_i hl
    rw [List.append_nil]
    exact run_call s1 x1 q1 hl h1
  · exact h1.elim
theorem sg_start {g : Gh} {F : Hp} {r : List Addr} {S : Store} {H : Hp} {N : List Str} {nl : Nat} {args : List PV} {vs : List V} (h : HR G n0 g F r S H) (q : RVs G F r args vs) (hl : args.length = np) (hn : nl - np = N.length - np) :
    Sg G n0 g F r (args.map some ++ List.replicate (nl - np) none) (L2.start N vs) S H := by
  have l := RVs.length q
  refine ⟨h, ?_, fun i v e => ?_⟩
  · unfold L2.start
    rw [List.length_append, List.length_append, List.length_map, List.length_map, List.length_replicate, List.length_replicate, ← l, hl, hn]
  · by_cases hi : i < args.length
    · rw [List.getElem?_append_left (by rw [List.length_map]; exact hi), List.getElem?_map] at e
      cases ea : args[i]? with
      | none => rw [ea] at e; cases e
      | some w =>
        rw [ea] at e
        cases e
        obtain ⟨u, e1, q1⟩ := RVs.get q ea
        refine ⟨u, ?_, q1⟩
        unfold L2.start
        rw [List.getElem?_append_left (by rw [List.length_map, ← l]; exact hi), List.getElem?_map, e1]
        rfl
    · rw [List.getElem?_append_right (by rw [List.length_map]; omega), List.getElem?_replicate] at e
      split at e <;> cases e
theorem body_ok {T : Nat → Option FnB} {n : Nat} {b : FnB} {N : List Str} {vs : List V} {H : Hp} {Q : VK} {E : XK} (hT : T f = some b) (hn : b.nl = N.length) (h : spF G (callF T (n + 1)) f b.np vs H Q E) :
    ∃ n0, rdS G n0 E (b.body (callF T n) n0) { nx := fun _ H' => Q .non H', rt := Q } (L2.start N vs) H := by
  obtain ⟨F, r, S, g, n0, args, hr, q, l, h⟩ := h
  refine ⟨n0, F, r, _, S, g, sg_start (nl := b.nl) hr q l (by rw [hn]), ?_⟩
  have h : (match (match T f with
    | some b => runB b (callF T n) args n0 S
    | none => R.no) with
    | .ok v S' => ∀ F' r' H' u, Ext F F' r r' → HR G n0 g F' r' S' H' → RV G F' r' v u → Q u H'
    | .ex c pl S' => ∀ F' r' H', Ext F F' r r' → HR G n0 g F' r' S' H' → XE E (.ref (G.ca c)) pl H'
    | .no => False) := h
  rw [hT] at h
  simp only [runB] at h
  rw [if_pos l] at h
  cases eb : b.body (callF T n) n0 (args.map some ++ List.replicate (b.nl - b.np) none) S with
  | nx env' S' => rw [eb] at h; exact fun F' r' H' σ' x s' => h F' r' H' .non x s'.hr rfl
  | rt v S' => rw [eb] at h; exact h
  | bk => rw [eb] at h; exact h.elim
  | ct => rw [eb] at h; exact h.elim
  | ex => rw [eb] at h; exact h
  | no => rw [eb] at h; exact h.elim
end
end PX
set_option Elab.async false
set_option linter.all false
set_option maxRecDepth 100000
namespace PX
open PySem
def toDL (f : PV → Option PyData) : List PV → Option (List PyData)
  | [] => some []
  | v :: vs => match f v with
    | some d => match toDL f vs with
      | some ds => some (d :: ds)
      | none => none
    | none => none
def toD (S : Store) : Nat → PV → Option PyData
  | 0, v => match v with
    | .non => some .none
    | .bl b => some (.bool b)
    | .int i => some (.int i)
    | .str x => if PyData.strOk x then some (.str x) else none
    | _ => none
  | k + 1, v => match deref S v with
    | some .non => some .none
    | some (.bl b) => some (.bool b)
    | some (.int i) => some (.int i)
    | some (.str x) => if PyData.strOk x then some (.str x) else none
    | some (.lst xs) => (toDL (toD S k) xs).map .list
    | some (.tup xs) => (toDL (toD S k) xs).map .tuple
    | _ => none
def eqD (S : Store) (v w : PV) : Option Bool := match toD S 6 v with
  | some d => match toD S 6 w with
    | some e => some (PyData.eqv d e)
    | none => none
  | none => none
def oEq : Op2 := fun x y S => (eqD S x y).map fun b => (false, .bl b)
def oNe : Op2 := fun x y S => (eqD S x y).map fun b => (false, .bl (!b))
def intsOf : List PV → Option (List Int)
  | [] => some []
  | .int i :: r => (intsOf r).map (i :: ·)
  | _ :: _ => none
def blsOf : List PV → Option (List Bool)
  | [] => some []
  | .bl i :: r => (blsOf r).map (i :: ·)
  | _ :: _ => none
def bLen : OpN := fun xs S => match xs with
  | [v] => match deref S v with
    | some (.lst xs) => some (false, .int xs.length)
    | some (.tup xs) => some (false, .int xs.length)
    | _ => none
  | _ => none
def bSum : OpN := fun xs S => match xs with
  | [v] => match itemsOf S v with
    | some ws => (intsOf ws).map fun ns => (false, .int ns.sum)
    | none => none
  | _ => none
def bTuple : OpN := fun xs S => match xs with
  | [v] => match itemsOf S v with
    | some ws => some (false, .tup ws)
    | none => none
  | _ => none
def bList : OpN := fun xs S => match xs with
  | [v] => match itemsOf S v with
    | some ws => some (true, .lst ws)
    | none => none
  | _ => none
def bInt : OpN := fun xs _ => match xs with
  | [.int i] => some (false, .int i)
  | [.bl b] => some (false, .int (if b then 1 else 0))
  | _ => none
def bAbs : OpN := fun xs _ => match xs with
  | [.int i] => some (false, .int (if i < 0 then -i else i))
  | _ => none
def bMax2 : OpN := fun xs _ => match xs with
  | [.int i, .int j] => some (false, .int (if j > i then j else i))
  | _ => none
def bMin2 : OpN := fun xs _ => match xs with
  | [.int i, .int j] => some (false, .int (if j < i then j else i))
  | _ => none
end PX
namespace PX
open PySem PySem.Spec PyProof.Rows L2
section
variable {X : Cx} {G : Gam}
theorem ok_add : Ok2 G oAdd (rI0 fun i j => .int (i + j)) := fun n0 g F r S H x y u v z Q h q1 q2 e k => by
  unfold oAdd at e
  split at e
  · cases e
    exact ⟨_, _, q1, q2, k F r H _ (.refl F r) h rfl⟩
  · cases e
theorem ok_sub : Ok2 G oSub (rI0 fun i j => .int (i - j)) := fun n0 g F r S H x y u v z Q h q1 q2 e k => by
  unfold oSub at e
  split at e
  · cases e
    exact ⟨_, _, q1, q2, k F r H _ (.refl F r) h rfl⟩
  · cases e
theorem ok_div : Ok2 G oDiv (rI CDiv fun i j => .int (i / j)) := fun n0 g F r S H x y u v z Q h q1 q2 e k => by
  unfold oDiv at e
  split at e
  · split at e
    · rename_i hm
      cases e
      exact ⟨_, _, q1, q2, hm, k F r H _ (.refl F r) h rfl⟩
    · cases e
  · cases e
theorem ok_mod : Ok2 G oMod (rI (fun _ j => 0 < j) fun i j => .int (i % j)) := fun n0 g F r S H x y u v z Q h q1 q2 e k => by
  unfold oMod at e
  split at e
  · split at e
    · rename_i hm
      cases e
      exact ⟨_, _, q1, q2, hm, k F r H _ (.refl F r) h rfl⟩
    · cases e
  · cases e
theorem ok_neg : Ok1 G oNeg (rU fun i => .int (-i)) := fun n0 g F r S H x u z Q h q1 e k => by
  unfold oNeg at e
  split at e
  · cases e
    exact ⟨_, q1, k F r H _ (.refl F r) h rfl⟩
  · cases e
theorem ok_lt : Ok2 G oLt (rI0 fun i j => .bl (decide (i < j))) := fun n0 g F r S H x y u v z Q h q1 q2 e k => by
  unfold oLt at e
  split at e
  · cases e
    exact ⟨_, _, q1, q2, k F r H _ (.refl F r) h rfl⟩
  · cases e
theorem ok_le : Ok2 G oLe (rI0 fun i j => .bl (decide (i ≤ j))) := fun n0 g F r S H x y u v z Q h q1 q2 e k => by
  unfold oLe at e
  split at e
  · cases e
    exact ⟨_, _, q1, q2, k F r H _ (.refl F r) h rfl⟩
  · cases e
theorem ok_gt : Ok2 G oGt (rI0 fun i j => .bl (decide (j < i))) := fun n0 g F r S H x y u v z Q h q1 q2 e k => by
  unfold oGt at e
  split at e
  · cases e
    exact ⟨_, _, q1, q2, k F r H _ (.refl F r) h rfl⟩
  · cases e
theorem ok_ge : Ok2 G oGe (rI0 fun i j => .bl (decide (j ≤ i))) := fun n0 g F r S H x y u v z Q h q1 q2 e k => by
  unfold oGe at e
  split at e
  · cases e
    exact ⟨_, _, q1, q2, k F r H _ (.refl F r) h rfl⟩
  · cases e
theorem toDL_ok {n0 : Nat} {g : Gh} {F : Hp} {r : List Addr} {S : Store} {H : Hp} {f : PV → Option PyData} {k : Nat} (h : HR G n0 g F r S H)
    (hf : ∀ v u d, RV G F r v u → f v = some d → Dp G.K H u d ∧ d.canLay0 = true ∧ d.depth ≤ k) : ∀ {vs : List PV} {us : List V} {ds : List PyData}, RVs G F r vs us → toDL f vs = some ds → DpAll G.K H us ds ∧ PyData.canLayAll0 ds = true ∧ PyData.depthAll ds ≤ k
  | [], us, ds, q, e => by
    cases e
    have e1 : us = [] := q
    subst e1
    exact ⟨.nil, rfl, Nat.zero_le _⟩
  | v :: vs, us, ds, q, e => by
    obtain ⟨u, ur, rfl, q1, q2⟩ := q
    unfold toDL at e
    cases e1 : f v with
    | none => rw [e1] at e; cases e
    | some d =>
      simp only [e1] at e
      cases e2 : toDL f vs with
      | none => rw [e2] at e; cases e
      | some ds' =>
        rw [e2] at e
        cases e
        obtain ⟨a1, a2, a3⟩ := hf v u d q1 e1
        obtain ⟨b1, b2, b3⟩ := toDL_ok h hf q2 e2
        refine ⟨.cons a1 b1, ?_, ?_⟩
        · simp only [PyData.canLayAll0, a2, b2, Bool.and_self]
        · simp only [PyData.depthAll]
          exact Nat.max_le.mpr ⟨a3, b3⟩
theorem toD_ok {n0 : Nat} {g : Gh} {F : Hp} {r : List Addr} {S : Store} {H : Hp} (h : HR G n0 g F r S H) : ∀ (k : Nat) (v : PV) (u : V) (d : PyData), RV G F r v u → toD S k v = some d → Dp G.K H u d ∧ d.canLay0 = true ∧ d.depth ≤ k
  | 0, v, u, d, q, e => by
    unfold toD at e
    split at e
    · cases e; cases (show u = .non from q); exact ⟨.non, rfl, Nat.le_refl _⟩
    · cases e; cases (show u = .bl _ from q); exact ⟨.bl _, rfl, Nat.le_refl _⟩
    · cases e; cases (show u = .int _ from q); exact ⟨.int _, rfl, Nat.le_refl _⟩
    · split at e
      · rename_i hs
        cases e; cases (show u = .str _ from q); exact ⟨.str _, hs, Nat.le_refl _⟩
      · cases e
    · cases e
  | k + 1, v, u, d, q, e => by
    unfold toD at e
    split at e
    · rename_i ed
      cases e; cases view_non h q ed; exact ⟨.non, rfl, Nat.zero_le _⟩
    · rename_i ed
      cases e; cases view_bl h q ed; exact ⟨.bl _, rfl, Nat.zero_le _⟩
    · rename_i ed
      cases e; cases view_int h q ed; exact ⟨.int _, rfl, Nat.zero_le _⟩
    · rename_i ed
      split at e
      · rename_i hs
        cases e; cases view_str h q ed; exact ⟨.str _, hs, Nat.zero_le _⟩
      · cases e
    · rename_i xs ed
      cases e1 : toDL (toD S k) xs with
      | none => rw [e1] at e; cases e
      | some ds =>
        rw [e1] at e
        cases e
        obtain ⟨a, us, rfl, k1, k2⟩ := view_lst h q ed
        obtain ⟨b1, b2, b3⟩ := toDL_ok h (toD_ok h k) k2 e1
        exact ⟨.lst (.inl k1) b1, by simp only [PyData.canLay0]; exact b2, by simp only [PyData.depth]; omega⟩
    · rename_i xs ed
      cases e1 : toDL (toD S k) xs with
      | none => rw [e1] at e; cases e
      | some ds =>
        rw [e1] at e
        cases e
        obtain ⟨a, us, rfl, k1, k2⟩ := view_tup h q ed
        obtain ⟨b1, b2, b3⟩ := toDL_ok h (toD_ok h k) k2 e1
        exact ⟨.tup k1 b1, by simp only [PyData.canLay0]; exact b2, by simp only [PyData.depth]; omega⟩
    · cases e
theorem toD_shaped {d : PyData} {k : Nat} (h1 : d.canLay0 = true) (h2 : d.depth ≤ k) (hk : k ≤ 64) : SeqAt.shaped d = true := by
  unfold SeqAt.shaped
  rw [h1, Bool.true_and]
  exact decide_eq_true (Nat.le_trans h2 hk)
theorem se_argB {o : OpN} {t : List V → Hp → VK → Prop} {fs : SA} {n0 : Nat} {ex : Expr} (hp : PE X ex (tCB t (rdA G n0 fs))) (ho : OkN G o t) : PE X ex (rdE G n0 (eArg o fs)) := by
  refine peI hp fun σ H Q ⟨F, r, env, S, g, s, h⟩ => ?_
  refine stA s cnE h fun p S1 F1 r1 H1 us x1 s1 q1 h1 => ?_
  exact endO (T := fun Q => t us H1 Q) s1 x1 h1 fun z ez k => ho n0 g F1 r1 S1 H1 p us z Q s1.hr q1 ez k
theorem intsOf_eq : ∀ {ws : List PV} {ns : List Int}, intsOf ws = some ns → ws = ns.map PV.int
  | [], _, e => by cases e; rfl
  | w :: ws, ns, e => by
    cases w <;> try cases e
    rename_i i
    have e : (intsOf ws).map (i :: ·) = some ns := e
    cases e1 : intsOf ws with
    | none => rw [e1] at e; cases e
    | some ms =>
      rw [e1] at e
      cases e
      rw [intsOf_eq e1]
      rfl
theorem blsOf_eq : ∀ {ws : List PV} {ns : List Bool}, blsOf ws = some ns → ws = ns.map PV.bl
  | [], _, e => by cases e; rfl
  | w :: ws, ns, e => by
    cases w <;> try cases e
    rename_i i
    have e : (blsOf ws).map (i :: ·) = some ns := e
    cases e1 : blsOf ws with
    | none => rw [e1] at e; cases e
    | some ms =>
      rw [e1] at e
      cases e
      rw [blsOf_eq e1]
      rfl
theorem RVs.bls {F : Hp} {r : List Addr} : ∀ {ns : List Bool} {us : List V}, RVs G F r (ns.map PV.bl) us → us = ns.map V.bl
  | [], _, q => q
  | n :: ns, _, q => by
    obtain ⟨u, ur, rfl, k, l⟩ := q
    have e : u = V.bl n := k
    rw [e, RVs.bls l]
    rfl
theorem one_of {F : Hp} {r : List Addr} {v : PV} {us : List V} (q : RVs G F r [v] us) : ∃ u, us = [u] ∧ RV G F r v u := by
  obtain ⟨u, ur, rfl, k, l⟩ := q
  have e : ur = [] := l
  exact ⟨u, by rw [e], k⟩
theorem two_of {F : Hp} {r : List Addr} {v w : PV} {us : List V} (q : RVs G F r [v, w] us) : ∃ u y, us = [u, y] ∧ RV G F r v u ∧ RV G F r w y := by
  obtain ⟨u, ur, rfl, k, l⟩ := q
  obtain ⟨y, rfl, m⟩ := one_of l
  exact ⟨u, y, rfl, k, m⟩
def rSumA (K : PySem.W.Frag) : List V → Hp → VK → Prop := fun vs H Q => ∃ (a : Addr) (ns : List Int), vs = [V.ref a] ∧ (SqL K H a (ns.map V.int) ∨ SqT K H a (ns.map V.int)) ∧ Q (.int ns.sum) H
theorem cr_sumA (hc : X.calm = true) : CallR X (.builtin "sum") (rSumA X.K) := by
  intro pins s σ H vs us Q I r h
  obtain ⟨a, ns, rfl, hs | hs, q⟩ := h
  · exact cr_sum hc pins s σ H _ us Q I r ⟨a, ns, rfl, hs, q⟩
  · obtain ⟨its, rv, hl, _⟩ := I.tuple hs
    rw [Vals.ref1 r]
    have hi := rv.ints
    obtain ⟨xs, e⟩ := hi.allInts.items
    have hn : numsOf (intItems xs).toList = ns := by rw [← e]; exact hi.numsOf
    rw [nums_intItems] at hn
    rw [e] at hl
    refine PySem.W.ktm_sumG (I.ok.hd hc) (show s.heap.IsTuple a _ from hl) fun h' tk t' hk => ?_
    refine ⟨.int _, H, I.kept hk, ⟨_, rfl⟩, ?_⟩
    rw [preSum_eq, List.take_of_length_le (by simp), hn]
    exact q
theorem ok_sum : OkN G bSum (rSumA G.K) := fun n0 g F r S H xs us z Q h q e k => by
  unfold bSum at e
  split at e
  · obtain ⟨u, rfl, q1⟩ := one_of q
    cases ei : itemsOf S ‹PV› with
    | none => simp only [ei] at e; cases e
    | some ws =>
      simp only [ei] at e
      cases en : intsOf ws with
      | none => rw [en] at e; cases e
      | some ns =>
        rw [en] at e
        cases e
        obtain ⟨a, us, rfl, k1, k2⟩ := view_seq h q1 ei
        rw [intsOf_eq en] at k2
        rw [RVs.ints k2] at k1
        exact ⟨a, ns, rfl, k1, k F r H _ (.refl F r) h rfl⟩
  · cases e
end
end PX
set_option Elab.async false
set_option linter.all false
set_option maxRecDepth 100000
namespace PX
open PySem PySem.Spec PyProof.Rows L2
def bMaxL : OpN := fun xs S => match xs with
  | [v] => match itemsOf S v with
    | some ws => match intsOf ws with
      | some (n :: ns) => some (false, .int (ns.foldl max n))
      | _ => none
    | none => none
  | _ => none
def ixP (n : Nat) (i : Int) : Option Nat := if 0 ≤ i then (if i < n then some i.toNat else none) else if -(n : Int) ≤ i then some (i + n).toNat else none
def oIx : Op2 := fun x y S => match y with
  | .int i => match itemsOf S x with
    | some xs => match ixP xs.length i with
      | some j => match xs[j]? with
        | some v => some (false, v)
        | none => none
      | none => none
    | none => none
  | _ => none
abbrev SO := Env → Store → R (Option Int)
def pNo : SO := fun _ S => .ok none S
def pSo (a : SE) : SO := fun env S => (a env S).bind fun p S1 => match p.2 with
  | .int i => .ok (some i) S1
  | _ => .no
def sIxP (n d : Nat) : Option Int → Nat
  | none => d
  | some v => if v < 0 then (v + (n : Int)).toNat else min v.toNat n
def cutP (xs : List PV) (lo hi : Option Int) : List PV := (xs.drop (sIxP xs.length 0 lo)).take (sIxP xs.length xs.length hi - sIxP xs.length 0 lo)
def slP (lo hi : Option Int) : Op1 := fun x S => match deref S x with
  | some (.lst xs) => some (true, .lst (cutP xs lo hi))
  | some (.tup xs) => some (false, .tup (cutP xs lo hi))
  | _ => none
def eSl (a : SE) (lo hi : SO) : SE := fun env S => (a env S).bind fun p S1 => (lo env S1).bind fun l S2 => (hi env S2).bind fun u S3 => ofO (slP l u p.2 S3) S3
def oCat : Op2 := fun x y S => match deref S x with
  | some (.lst xs) => match deref S y with
    | some (.lst ys) => if small (xs.length + ys.length) then some (true, .lst (xs ++ ys)) else none
    | _ => none
  | some (.tup xs) => match deref S y with
    | some (.tup ys) => if small (xs.length + ys.length) then some (false, .tup (xs ++ ys)) else none
    | _ => none
  | some (.int i) => match y with
    | .int j => some (false, .int (i + j))
    | _ => none
  | _ => none
def oRep : Op2 := fun x y S => match y with
  | .int k => match deref S x with
    | some (.lst xs) => if decide (-1000 ≤ k ∧ k ≤ 1000) && Nat.ble xs.length 1000 then some (true, .lst (List.replicate k.toNat xs).flatten) else none
    | some (.int i) => if mulOk i k then some (false, .int (i * k)) else none
    | _ => none
  | _ => none
def lstOf (S : Store) (v : PV) : Option (List PV) := match deref S v with
  | some (.lst xs) => some xs
  | _ => none
def bAll : OpN := fun xs S => match xs with
  | [v] => match lstOf S v with
    | some ws => match blsOf ws with
      | some ns => some (false, .bl (ns.all id))
      | none => none
    | none => none
  | _ => none
def bAny : OpN := fun xs S => match xs with
  | [v] => match lstOf S v with
    | some ws => match blsOf ws with
      | some ns => some (false, .bl (ns.any id))
      | none => none
    | none => none
  | _ => none
section
variable {X : Cx} {G : Gam}
theorem view_lstOf {n0 : Nat} {g : Gh} {F : Hp} {r : List Addr} {S : Store} {H : Hp} (h : HR G n0 g F r S H) {v : PV} {u : V} {xs : List PV} (q : RV G F r v u) (e : lstOf S v = some xs) : ∃ a us, u = .ref a ∧ Rd H a (.lst us) ∧ RVs G F r xs us := by
  unfold lstOf at e
  split at e
  · rename_i ed
    cases e
    exact view_lst h q ed
  · cases e
theorem ok_all : OkN G bAll (rAll G.K) := fun n0 g F r S H xs us z Q h q e k => by
  unfold bAll at e
  split at e
  · obtain ⟨u, rfl, q1⟩ := one_of q
    split at e
    · rename_i ws ei
      split at e
      · rename_i ns en
        cases e
        obtain ⟨a, us, rfl, k1, k2⟩ := view_lstOf h q1 ei
        rw [blsOf_eq en] at k2
        rw [RVs.bls k2] at k1
        exact ⟨a, ns, rfl, .inl k1, k F r H _ (.refl F r) h rfl⟩
      · cases e
    · cases e
  · cases e
theorem ok_any : OkN G bAny (rAny G.K) := fun n0 g F r S H xs us z Q h q e k => by
  unfold bAny at e
  split at e
  · obtain ⟨u, rfl, q1⟩ := one_of q
    split at e
    · rename_i ws ei
      split at e
      · rename_i ns en
        cases e
        obtain ⟨a, us, rfl, k1, k2⟩ := view_lstOf h q1 ei
        rw [blsOf_eq en] at k2
        rw [RVs.bls k2] at k1
        exact ⟨a, ns, rfl, .inl k1, k F r H _ (.refl F r) h rfl⟩
      · cases e
    · cases e
  · cases e
theorem ok_tuple : OkN G bTuple (fun xs H Q => ∃ p ys, xs = [.ref p] ∧ ((SqL G.K H p ys ∧ ∀ l, H l = none → Q (.ref l) (upd H l (.tup ys))) ∨ (SqT G.K H p ys ∧ Q (.ref p) H))) := fun n0 g F r S H xs us z Q h q e k => by
  unfold bTuple at e
  split at e
  · obtain ⟨u, rfl, q1⟩ := one_of q
    split at e
    · rename_i ws ei
      cases e
      unfold itemsOf at ei
      split at ei
      · rename_i ws' ed
        cases ei
        obtain ⟨a, us, rfl, k1, k2⟩ := view_lst h q1 ed
        refine ⟨a, us, rfl, .inl ⟨.inl k1, fun l hl => ?_⟩⟩
        obtain ⟨F2, x2, h2, k3⟩ := new_tup h hl k2
        exact k F2 r _ _ x2 h2 k3
      · rename_i ws' ed
        cases ei
        rcases view h q1 ed with ⟨k1, _⟩ | ⟨a, ho, e1, e2, k1⟩
        · obtain ⟨a, us, rfl, k2, k3⟩ := id k1
          exact ⟨a, us, rfl, .inr ⟨h.sub.tp k2, k F r H _ (.refl F r) h k1⟩⟩
        · exact k1.elim
      · cases ei
    · cases e
  · cases e
theorem ok_list : OkN G bList (fun xs H Q => ∃ p ys, xs = [.ref p] ∧ (SqL G.K H p ys ∨ SqT G.K H p ys) ∧ ∀ l, H l = none → Q (.ref l) (upd H l (.lst ys))) := fun n0 g F r S H xs us z Q h q e k => by
  unfold bList at e
  split at e
  · obtain ⟨u, rfl, q1⟩ := one_of q
    split at e
    · rename_i ws ei
      cases e
      obtain ⟨a, us, rfl, k1, k2⟩ := view_seq h q1 ei
      refine ⟨a, us, rfl, k1, fun l hl => ?_⟩
      obtain ⟨h2, k3⟩ := new_obj h hl (v := .lst ws) ⟨us, rfl, k2⟩ rfl
      exact k F r _ _ (.refl F r) h2 k3
    · cases e
  · cases e
theorem ok_int : OkN G bInt (fun xs H Q => (∃ i, xs = [.int i] ∧ Q (.int i) H) ∨ ∃ k, xs = [.bl k] ∧ Q (.int (if k then 1 else 0)) H) := fun n0 g F r S H xs us z Q h q e k => by
  unfold bInt at e
  split at e
  · cases e
    obtain ⟨u, rfl, q1⟩ := one_of q
    cases (show u = V.int _ from q1)
    exact .inl ⟨_, rfl, k F r H _ (.refl F r) h rfl⟩
  · cases e
    obtain ⟨u, rfl, q1⟩ := one_of q
    cases (show u = V.bl _ from q1)
    exact .inr ⟨_, rfl, k F r H _ (.refl F r) h rfl⟩
  · cases e
theorem ok_abs : OkN G bAbs (fun xs H Q => ∃ i, xs = [.int i] ∧ Q (.int (if i < 0 then -i else i)) H) := fun n0 g F r S H xs us z Q h q e k => by
  unfold bAbs at e
  split at e
  · cases e
    obtain ⟨u, rfl, q1⟩ := one_of q
    cases (show u = V.int _ from q1)
    exact ⟨_, rfl, k F r H _ (.refl F r) h rfl⟩
  · cases e
theorem ok_max2 : OkN G bMax2 (fun xs H Q => ∃ i j, xs = [.int i, .int j] ∧ Q (.int (if j > i then j else i)) H) := fun n0 g F r S H xs us z Q h q e k => by
  unfold bMax2 at e
  split at e
  · cases e
    obtain ⟨u, y, rfl, q1, q2⟩ := two_of q
    cases (show u = V.int _ from q1)
    cases (show y = V.int _ from q2)
    exact ⟨_, _, rfl, k F r H _ (.refl F r) h rfl⟩
  · cases e
theorem ok_min2 : OkN G bMin2 (fun xs H Q => ∃ i j, xs = [.int i, .int j] ∧ Q (.int (if j < i then j else i)) H) := fun n0 g F r S H xs us z Q h q e k => by
  unfold bMin2 at e
  split at e
  · cases e
    obtain ⟨u, y, rfl, q1, q2⟩ := two_of q
    cases (show u = V.int _ from q1)
    cases (show y = V.int _ from q2)
    exact ⟨_, _, rfl, k F r H _ (.refl F r) h rfl⟩
  · cases e
theorem dpAll_ints {K : PySem.W.Frag} {H : Hp} : ∀ ns : List Int, DpAll K H (ns.map V.int) (ns.map PyData.int)
  | [] => .nil
  | n :: ns => .cons (.int n) (dpAll_ints ns)
theorem alike_ints (ns : List Int) : PySem.W.AlikeAll (ns.map PyData.int) := by
  refine ⟨fun x hx y hy => ?_, fun x hx => ?_⟩
  · obtain ⟨i, _, rfl⟩ := List.mem_map.mp hx
    obtain ⟨j, _, rfl⟩ := List.mem_map.mp hy
    rfl
  · obtain ⟨i, _, rfl⟩ := List.mem_map.mp hx
    intro z
    cases z
theorem depth_ints : ∀ ns : List Int, PyData.depthAll (ns.map PyData.int) = 0
  | [] => rfl
  | n :: ns => by
    show max 0 (PyData.depthAll (ns.map PyData.int)) = 0
    rw [depth_ints ns]
    rfl
def rMaxA (K : PySem.W.Frag) : List V → Hp → VK → Prop := fun vs H Q => ∃ (a : Addr) (n : Int) (ns : List Int), vs = [V.ref a] ∧ (SqL K H a ((n :: ns).map V.int) ∨ SqT K H a ((n :: ns).map V.int)) ∧ Q (.int (ns.foldl max n)) H
theorem int_reads {h : Heap} {v : Value} {i : Int} {bs : List Addr} (r : Reads h v (.int i) bs) : ∃ t, v = .int i t := by
  cases r
  exact ⟨_, rfl⟩
theorem cr_maxA (hc : X.calm = true) (hu : X.A.units + 64 < cLine) : CallR X (.builtin "max") (rMaxA X.K) := by
  intro pins s σ H vs us Q I r h
  obtain ⟨a, n, ns, rfl, hs, q⟩ := h
  rw [Vals.ref1 r]
  have hd : X.A.units + 1 + PyData.depthAll (PyData.int n :: ns.map PyData.int) < cLine := by
    have e := depth_ints (n :: ns)
    rw [List.map_cons] at e
    rw [e]
    omega
  rcases hs with hs | hs
  · obtain ⟨its, rv, hl, _⟩ := I.list hs
    obtain ⟨as, hr⟩ := Dp.readsAll I _ _ its (dpAll_ints (K := X.K) (H := H) (n :: ns)) rv
    refine PySem.W.max_list_data (I.ok.hd hc) hl.isList (x := .int n) (xs := ns.map .int) (as := as) (by simpa using hr) (alike_ints (n :: ns)) hd fun i v h' tk bs _ rd hk => ?_
    rw [PySem.W.maxD_ints] at rd
    obtain ⟨t, rfl⟩ := int_reads rd
    exact ⟨.int _, H, I.kept hk, ⟨_, rfl⟩, q⟩
  · obtain ⟨its, rv, hl, _⟩ := I.tuple hs
    obtain ⟨as, hr⟩ := Dp.readsAll I _ _ its (dpAll_ints (K := X.K) (H := H) (n :: ns)) rv
    refine PySem.W.max_tuple_data (I.ok.hd hc) (show s.heap.IsTuple a _ from hl) (x := .int n) (xs := ns.map .int) (as := as) (by simpa using hr) (alike_ints (n :: ns)) hd fun i v h' tk bs _ rd hk => ?_
    rw [PySem.W.maxD_ints] at rd
    obtain ⟨t, rfl⟩ := int_reads rd
    exact ⟨.int _, H, I.kept hk, ⟨_, rfl⟩, q⟩
theorem view_ints {n0 : Nat} {g : Gh} {F : Hp} {r : List Addr} {S : Store} {H : Hp} (h : HR G n0 g F r S H) {v : PV} {u : V} {ws : List PV} {ns : List Int} (q : RV G F r v u) (ei : itemsOf S v = some ws) (en : intsOf ws = some ns) :
    ∃ a, u = .ref a ∧ (SqL G.K H a (ns.map V.int) ∨ SqT G.K H a (ns.map V.int)) := by
  obtain ⟨a, us, rfl, k1, k2⟩ := view_seq h q ei
  rw [intsOf_eq en] at k2
  rw [RVs.ints k2] at k1
  exact ⟨a, rfl, k1⟩
theorem ok_maxL : OkN G bMaxL (rMaxA G.K) := fun n0 g F r S H xs us z Q h q e k => by
  unfold bMaxL at e
  split at e
  · obtain ⟨u, rfl, q1⟩ := one_of q
    split at e
    · rename_i ws ei
      split at e
      · rename_i n ns en
        cases e
        obtain ⟨a, rfl, k1⟩ := view_ints h q1 ei en
        exact ⟨a, n, ns, rfl, k1, k F r H _ (.refl F r) h rfl⟩
      · cases e
    · cases e
  · cases e
theorem ixP_eq (n : Nat) (i : Int) : ixP n i = ixN n i := rfl
theorem sIxP_eq (n d : Nat) : ∀ o : Option Int, sIxP n d o = HT.sIx n d o
  | none => rfl
  | some _ => rfl
theorem ok_ix : Ok2 G oIx (rIx G.K) := fun n0 g F r S H x y u v z Q h q1 q2 e k => by
  unfold oIx at e
  split at e
  · rename_i i
    split at e
    · rename_i xs ei
      split at e
      · rename_i j ej
        split at e
        · rename_i w ew
          cases e
          obtain ⟨a, us, rfl, k1, k2⟩ := view_seq h q1 ei
          obtain ⟨w', e1, q3⟩ := RVs.get k2 ew
          have ea : atI us i = some w' := by
            unfold atI
            rw [← RVs.length k2, ← ixP_eq, ej]
            exact e1
          have fin := k F r H w' (.refl F r) h q3
          cases (show v = V.int i from q2)
          rcases k1 with k1 | k1
          · exact .inl ⟨a, us, i, w', rfl, rfl, k1, ea, fin⟩
          · exact .inr (.inl ⟨a, us, i, w', rfl, rfl, k1, ea, fin⟩)
        · cases e
      · cases e
    · cases e
  · cases e
def PoO (G : Gam) (n0 : Nat) (g : Gh) (F : Hp) (r : List Addr) (env : Env) (σ : L2.St) (z : R (Option Int)) (T : Option Int → Hp → Prop) : Prop := match z with
  | .ok b S' => ∀ F' r' H', Ext F F' r r' → Sg G n0 g F' r' env σ S' H' → T b H'
  | _ => False
def rdO (G : Gam) (n0 : Nat) (f : SO) : TO := fun σ H T => ∃ F r env S g, Sg G n0 g F r env σ S H ∧ PoO G n0 g F r env σ (f env S) T
theorem poI {e : Option Expr} {t t' : TO} (h : PO X e t) (w : ∀ σ H Q, t' σ H Q → t σ H Q) : PO X e t' := ⟨fun pins s σ H Q I q => h.run pins s σ H Q I (w σ H Q q)⟩
theorem so_none {n0 : Nat} : PO X none (rdO G n0 pNo) := poI po_none fun σ H Q ⟨F, r, env, S, g, s, h⟩ => h F r H (.refl F r) s
theorem cnO {n0 : Nat} {g : Gh} {F : Hp} {r : List Addr} {env : Env} {σ : L2.St} {T : Option Int → Hp → Prop} : Cn fun z => PoO G n0 g F r env σ z T := ⟨fun h => h, fun _ _ _ h => h⟩
theorem so_some {n0 : Nat} {e : Expr} {fe : SE} (he : PE X e (rdE G n0 fe)) : PO X (some e) (rdO G n0 (pSo fe)) := by
  refine poI (po_some (toV he)) fun σ H T ⟨F, r, env, S, g, s, h⟩ => ?_
  refine stV s cnO h fun p S1 F1 r1 H1 u x1 s1 q1 h1 => ?_
  obtain ⟨b, v⟩ := p
  cases v with
  | int i => exact ⟨i, q1, h1 F1 r1 H1 x1 s1⟩
  | _ => exact False.elim h1
theorem stO {n0 : Nat} {g : Gh} {F : Hp} {r : List Addr} {env : Env} {σ : L2.St} {S : Store} {H : Hp} {f : SO} {T : Option Int → Hp → Prop} {α : Type} {kk : Option Int → Store → R α} {C : R α → Prop} (s : Sg G n0 g F r env σ S H) (cn : Cn C) (h : C ((f env S).bind kk))
    (step : ∀ p S' F' r' H', Ext F F' r r' → Sg G n0 g F' r' env σ S' H' → C (kk p S') → T p H') : rdO G n0 f σ H T := by
  refine ⟨F, r, env, S, g, s, ?_⟩
  cases e : f env S with
  | ok p S' => rw [e] at h; exact fun F' r' H' ex s' => step p S' F' r' H' ex s' h
  | ex c p S' => rw [e] at h; exact (cn.ex c p S' h).elim
  | no => rw [e] at h; exact (cn.no h).elim
theorem RVs.drop {F : Hp} {r : List Addr} : ∀ {vs : List PV} {us : List V} (n : Nat), RVs G F r vs us → RVs G F r (vs.drop n) (us.drop n)
  | _, _, 0, q => q
  | [], us, n + 1, q => by
    have e : us = [] := q
    subst e
    exact rfl
  | v :: vs, us, n + 1, q => by
    obtain ⟨u, ur, rfl, k, l⟩ := q
    exact RVs.drop n l
theorem RVs.take {F : Hp} {r : List Addr} : ∀ {vs : List PV} {us : List V} (n : Nat), RVs G F r vs us → RVs G F r (vs.take n) (us.take n)
  | _, _, 0, q => rfl
  | [], us, n + 1, q => by
    have e : us = [] := q
    subst e
    exact rfl
  | v :: vs, us, n + 1, q => by
    obtain ⟨u, ur, rfl, k, l⟩ := q
    exact ⟨u, ur.take n, rfl, k, RVs.take n l⟩
theorem RVs.cut {F : Hp} {r : List Addr} {vs : List PV} {us : List V} (lo hi : Option Int) (q : RVs G F r vs us) : RVs G F r (cutP vs lo hi) (cutV us lo hi) := by
  unfold cutP cutV
  rw [sIxP_eq, sIxP_eq, RVs.length q]
  exact (q.drop _).take _
def rSlG (K : PySem.W.Frag) : V → Option Int → Option Int → Hp → VK → Prop := fun x lo hi H Q => rSlL K x lo hi H Q ∨ rSlA K x lo hi H Q
theorem sl_any : SlR X (rSlG X.K) := sl_list.or sl_tupA
theorem se_sl {n0 : Nat} {a : Expr} {lo hi : Option Expr} {fa : SE} {fl fh : SO} {p2 pos : Pos} (hK : G.K = X.K) (ha : PE X a (rdE G n0 fa)) (hl : PO X lo (rdO G n0 fl)) (hh : PO X hi (rdO G n0 fh)) : PE X (.Subscript a (.Slice lo hi none p2) pos) (rdE G n0 (eSl fa fl fh)) := by
  refine peI (pe_slice sl_any (toV ha) hl hh) fun σ H Q ⟨F, r, env, S, g, s, h⟩ => ?_
  refine stV s cnE h fun p S1 F1 r1 H1 u x1 s1 q1 h1 => ?_
  refine stO s1 cnE h1 fun l S2 F2 r2 H2 x2 s2 h2 => ?_
  refine stO s2 cnE h2 fun m S3 F3 r3 H3 x3 s3 h3 => ?_
  have q3 := q1.ext (x2.trans x3)
  have xx := (x1.trans x2).trans x3
  rw [← hK]
  unfold slP at h3
  split at h3
  · rename_i xs ed
    obtain ⟨a', us, rfl, k1, k2⟩ := view_lst s3.hr q3 ed
    refine .inl ⟨a', us, rfl, .inl k1, fun p' hp => ?_⟩
    obtain ⟨h4, k4⟩ := new_obj s3.hr hp (v := .lst (cutP xs l m)) ⟨_, rfl, k2.cut l m⟩ rfl
    exact h3 F3 r3 _ _ xx (s3.ext (.refl _ _) h4) k4
  · rename_i xs ed
    rcases view s3.hr q3 ed with ⟨k1, _⟩ | ⟨a, ho, e1, e2, k1⟩
    · obtain ⟨a', us, rfl, k2, k3⟩ := id k1
      refine .inr ⟨a', us, rfl, s3.hr.sub.tp k2, fun hw => ?_, fun hw p' hp => ?_⟩
      · have e : cutP xs l m = xs := by
          unfold cutP
          rw [sIxP_eq, sIxP_eq, RVs.length k3, hw.1, hw.2, List.drop_zero, ← RVs.length k3]
          simp
        rw [e] at h3
        exact h3 F3 r3 H3 _ xx s3 k1
      · obtain ⟨F4, x4, h4, k4⟩ := new_tup s3.hr hp (k3.cut l m)
        exact h3 F4 r3 _ _ (xx.trans x4) (s3.ext x4 h4) k4
    · exact k1.elim
  · exact False.elim h3
end
end PX
set_option Elab.async false
set_option linter.all false
set_option maxRecDepth 100000
namespace PX
open PySem PySem.Spec PyProof.Rows L2
def mayPutL (n0 i : Nat) : List PV → Bool
  | [] => true
  | v :: vs => mayPut n0 i v && mayPutL n0 i vs
def isL (S : Store) (v : PV) : Bool := match deref S v with
  | some (.lst _) => true
  | _ => false
def appL (n0 : Nat) (o v : PV) (S : Store) : Option Store := match o with
  | .ref i => match S[i]? with
    | some (.lst xs) => if mayPut n0 i v && small xs.length then some (S.set i (.lst (xs ++ [v]))) else none
    | _ => none
  | _ => none
def extL (n0 : Nat) (o v : PV) (S : Store) : Option Store := match o with
  | .ref i => match S[i]? with
    | some (.lst xs) => match lstOf S v with
      | some ys => if mayPutL n0 i ys && small (xs.length + ys.length) then some (S.set i (.lst (xs ++ ys))) else none
      | none => none
    | _ => none
  | _ => none
def eLm (f : PV → PV → Store → Option Store) (o a : SE) : SE := fun env S => (o env S).bind fun p S1 => if isL S1 p.2 then (a env S1).bind fun q S2 => match f p.2 q.2 S2 with
    | some S3 => .ok (false, .non) S3
    | none => .no
  else .no
def setL (n0 : Nat) (o k v : PV) (S : Store) : Option Store := match o with
  | .ref i => match S[i]? with
    | some (.lst xs) => match k with
      | .int j => match ixP xs.length j with
        | some m => if mayPut n0 i v then some (S.set i (.lst (xs.set m v))) else none
        | none => none
      | _ => none
    | _ => none
  | _ => none
def sSetI (f : PV → PV → PV → Store → Option Store) (o k e : SE) : SS := fun env S => (e env S).go fun p S1 => (o env S1).go fun q S2 => (k env S2).go fun z S3 => match f q.2 z.2 p.2 S3 with
  | some S4 => .nx env S4
  | none => .no
def sAugI (op : Op2) (gt : Op2) (f : PV → PV → PV → Store → Option Store) (o k e : SE) : SS := fun env S => (o env S).go fun p S1 => (k env S1).go fun q S2 => match gt p.2 q.2 S2 with
  | some x => (e env S2).go fun z S3 => match op x.2 z.2 S3 with
    | some y => match f p.2 q.2 y.2 S3 with
      | some S4 => .nx env S4
      | none => .no
    | none => .no
  | none => .no
section
variable {X : Cx} {G : Gam}
def rCatR (K : PySem.W.Frag) : R2 := fun x y H Q => (∃ l b xs zs, x = .ref l ∧ y = .ref b ∧ Rd H l (.lst xs) ∧ Rd H b (.lst zs) ∧ xs.length + zs.length ≤ sizeLine ∧ ∀ p, H p = none → Q (.ref p) (upd H p (.lst (xs ++ zs)))) ∨ rCatA K x y H Q ∨ rI0 (fun i j => .int (i + j)) x y H Q
theorem op_catR : OpR X (binaryOp .Add) (rCatR X.K) := by
  intro pins s σ H x y v u Q I rx ry h
  rcases h with h | h | h
  · obtain ⟨l, b, xs, zs, rfl, rfl, hH, hB, hz, q⟩ := h
    cases rx
    cases ry
    obtain ⟨z, its, n, r, e⟩ := hH.ok I.hok
    obtain ⟨z2, its2, n2, r2, e2⟩ := hB.ok I.hok
    have hl := r.length
    have hl2 := r2.length
    refine PySem.P.add_list e e2 ?_ (by rw [List.size_toArray, List.size_toArray]; omega)
    have ea : its.toArray ++ its2.toArray = (its ++ its2).toArray := by simp
    rw [ea]
    exact ⟨.ref _, _, I.lnew (t' := s.toks) (r.append r2) (by rw [List.length_append]; omega), rfl, q _ I.fresh⟩
  · exact op_catA pins s σ H x y v u Q I rx ry h
  · exact op_add pins s σ H x y v u Q I rx ry h
theorem ok_cat : Ok2 G oCat (rCatR G.K) := fun n0 g F r S H x y u v z Q h q1 q2 e k => by
  unfold oCat at e
  split at e
  · rename_i xs ex
    split at e
    · rename_i ys ey
      split at e
      · rename_i hz
        cases e
        obtain ⟨a, us, rfl, k1, k2⟩ := view_lst h q1 ex
        obtain ⟨b, vs, rfl, l1, l2⟩ := view_lst h q2 ey
        refine .inl ⟨a, b, us, vs, rfl, rfl, k1, l1, by rw [← RVs.length k2, ← RVs.length l2]; exact small_le hz, fun p hp => ?_⟩
        obtain ⟨h2, k3⟩ := new_obj h hp (v := .lst (xs ++ ys)) ⟨_, rfl, k2.append l2⟩ rfl
        exact k F r _ _ (.refl F r) h2 k3
      · cases e
    · cases e
  · rename_i xs ex
    split at e
    · rename_i ys ey
      split at e
      · rename_i hz
        cases e
        rcases view h q1 ex with ⟨k0, _⟩ | ⟨_, _, _, _, k0⟩
        · rcases view h q2 ey with ⟨l0, _⟩ | ⟨_, _, _, _, l0⟩
          · obtain ⟨a, us, rfl, k1, k2⟩ := id k0
            obtain ⟨b, vs, rfl, l1, l2⟩ := id l0
            refine .inr (.inl ⟨a, b, us, vs, rfl, rfl, h.sub.tp k1, h.sub.tp l1, by rw [← RVs.length k2, ← RVs.length l2]; exact small_le hz, fun hx => ?_, fun hx hy => ?_, fun hx hy p hp => ?_⟩)
            · have e1 : xs = [] := List.eq_nil_of_length_eq_zero (by rw [RVs.length k2, hx]; rfl)
              refine k F r H _ (.refl F r) h ?_
              show RV G F r (.tup (xs ++ ys)) _
              rw [e1]
              exact l0
            · have e1 : ys = [] := List.eq_nil_of_length_eq_zero (by rw [RVs.length l2, hy]; rfl)
              refine k F r H _ (.refl F r) h ?_
              show RV G F r (.tup (xs ++ ys)) _
              rw [e1, List.append_nil]
              exact k0
            · obtain ⟨F4, x4, h4, k4⟩ := new_tup h hp (k2.append l2)
              exact k F4 r _ _ x4 h4 k4
          · exact l0.elim
        · exact k0.elim
      · cases e
    · cases e
  · rename_i i ex
    split at e
    · cases e
      exact .inr (.inr ⟨_, _, view_int h q1 ex, q2, k F r H _ (.refl F r) h rfl⟩)
    · cases e
  · cases e
def rRepR : R2 := fun x y H Q => (∃ l k xs, x = .ref l ∧ y = .int k ∧ Rd H l (.lst xs) ∧ -1000 ≤ k ∧ k ≤ 1000 ∧ xs.length ≤ 1000 ∧ ∀ p, H p = none → Q (.ref p) (upd H p (.lst (List.replicate k.toNat xs).flatten))) ∨ rI CMul (fun i j => .int (i * j)) x y H Q
theorem op_repR : OpR X (binaryOp .Mult) rRepR := by
  intro pins s σ H x y v u Q I rx ry h
  rcases h with h | h
  · obtain ⟨l, k, xs, rfl, rfl, hH, h1, h2, hx, q⟩ := h
    cases rx
    obtain ⟨t, rfl⟩ := ry
    obtain ⟨z, its, n, r, e⟩ := hH.ok I.hok
    have hl := r.length
    have hm : its.length * k.toNat ≤ 1000 * 1000 := Nat.mul_le_mul (by omega) (by omega)
    have hs : (1000 * 1000 : Nat) ≤ sizeLine := by rw [sizeLine_eq]; decide
    have hlen : its.toArray.size * k.toNat ≤ sizeLine := by rw [List.size_toArray]; exact Nat.le_trans hm hs
    have hcap : ¬ its.toArray.size * k.toNat > (2 ^ 63 - 1) / 8 := by
      have : (sizeLine : Nat) ≤ (2 ^ 63 - 1) / 8 := by decide
      omega
    have hfit : ¬ (!Builtin.List.listFitsIndex k) = true := by
      rw [fitsIndex_both (by omega) (by omega)]
      exact Bool.false_ne_true
    have hlong : ¬ Builtin.List.listTooLong (its.toArray.size * k.toNat) = true := by
      rw [notLongL hlen]
      exact Bool.false_ne_true
    have hnew : List.foldl (fun x1 x2 => x1 ++ x2) #[] (List.replicate (if its.toArray.isEmpty = true then 0 else k.toNat) its.toArray) = (List.replicate k.toNat its).flatten.toArray := by
      have f0 : ∀ m : Nat, List.foldl (fun x1 x2 => x1 ++ x2) #[] (List.replicate m its.toArray) = (List.replicate m its).flatten.toArray := fun m => by
        have := foldl_rep its m []
        rw [List.nil_append] at this
        exact this
      rw [f0]
      cases its with
      | nil => simp
      | cons a r' => rw [if_neg (by simp)]
    refine wpAny_binaryOp_repeat_ref (T := "list") (U := "int") (by decide) ⟨_, e, rfl⟩ (fun s' => typeIs_int s' k t) noFill_list_mul F.fills_int_mul F.slot_int_rmul repeat_list F.slot_int_index.lookup
      (call_meets F.slot_int_rmul (typeIs_int s k t) F.entry_int_rmul (F.args_int_rmul_2 _ _) (int___rmul___int_list k t l its.toArray n)
        ⟨e, rfl, ⟨_, e, rfl⟩, call_meets F.slot_list_mul ⟨_, e, rfl⟩ F.entry_list_mul (F.args_list_mul_2 _ _) (AutoListH.list___mul___list_int_3 l its.toArray n k t hfit hcap hlong) ⟨e, ?_⟩⟩)
    rw [hnew]
    exact ⟨.ref _, _, I.lnew (t' := s.toks) (r.rep k.toNat) (by rw [PyProof.Rows.lm_len_rep_flat, Nat.mul_comm, hl]; omega), rfl, q _ I.fresh⟩
  · exact op_mul pins s σ H x y v u Q I rx ry h
theorem RVs.rep {F : Hp} {r : List Addr} {vs : List PV} {us : List V} (q : RVs G F r vs us) : ∀ n : Nat, RVs G F r (List.replicate n vs).flatten (List.replicate n us).flatten
  | 0 => rfl
  | n + 1 => by
    rw [List.replicate_succ, List.replicate_succ, List.flatten_cons, List.flatten_cons]
    exact q.append (RVs.rep q n)
theorem ok_rep : Ok2 G oRep rRepR := fun n0 g F r S H x y u v z Q h q1 q2 e k => by
  unfold oRep at e
  split at e
  · rename_i m
    split at e
    · rename_i xs ex
      split at e
      · rename_i hz
        cases e
        simp only [Bool.and_eq_true, decide_eq_true_eq] at hz
        obtain ⟨a, us, rfl, k1, k2⟩ := view_lst h q1 ex
        refine .inl ⟨a, m, us, rfl, q2, k1, hz.1.1, hz.1.2, by rw [← RVs.length k2]; exact Nat.le_of_ble_eq_true hz.2, fun p hp => ?_⟩
        obtain ⟨h2, k3⟩ := new_obj h hp (v := .lst (List.replicate m.toNat xs).flatten) ⟨_, rfl, k2.rep _⟩ rfl
        exact k F r _ _ (.refl F r) h2 k3
      · cases e
    · rename_i i ex
      split at e
      · rename_i hm
        cases e
        refine .inr ⟨_, _, view_int h q1 ex, q2, ?_, k F r H _ (.refl F r) h rfl⟩
        unfold mulOk at hm
        simp only [Bool.or_eq_true, Bool.and_eq_true, decide_eq_true_eq] at hm
        unfold CMul
        omega
      · cases e
    · cases e
  · cases e
theorem noref_rv {F : Hp} {r r' : List Addr} : (∀ (v : PV) (u : V), noref v = true → RV G F r v u → RV G F r' v u) := by
  have key : ∀ (n : Nat) (v : PV), sizeOf v ≤ n → ∀ u, noref v = true → RV G F r v u → RV G F r' v u := by
    intro n
    induction n with
    | zero =>
      intro v hv
      cases v <;> simp at hv
    | succ n ih =>
      intro v hv u hn q
      have all : ∀ (vs : List PV), sizeOf vs ≤ n → ∀ us, noref.norefL vs = true → RVs G F r vs us → RVs G F r' vs us := by
        intro vs
        induction vs with
        | nil => intro _ us _ q; exact q
        | cons w ws ihw =>
          intro hs us hn q
          obtain ⟨u, ur, rfl, k, l⟩ := q
          simp only [noref.norefL, Bool.and_eq_true] at hn
          simp only [List.cons.sizeOf_spec] at hs
          exact ⟨u, ur, rfl, ih w (by omega) u hn.1 k, ihw (by omega) ur hn.2 l⟩
      cases v with
      | non => exact q
      | bl => exact q
      | int => exact q
      | str => exact q
      | ref i => exact absurd hn (by simp [noref])
      | lck => exact q.elim
      | tup xs =>
        obtain ⟨a, us, e, k1, k2⟩ := q
        simp only [PV.tup.sizeOf_spec] at hv
        exact ⟨a, us, e, k1, all xs (by omega) us hn k2⟩
      | lst xs =>
        obtain ⟨a, us, e, k1, k2⟩ := q
        simp only [PV.lst.sizeOf_spec] at hv
        exact ⟨a, us, e, k1, all xs (by omega) us hn k2⟩
      | dct ks vs =>
        obtain ⟨a, us, ho, e, k1, d, k2⟩ := q
        simp only [PV.dct.sizeOf_spec] at hv
        exact ⟨a, us, ho, e, k1, d, all vs (by omega) us hn k2⟩
      | ins c ns vs =>
        obtain ⟨a, dx, us, e, k1, d, k2⟩ := q
        simp only [PV.ins.sizeOf_spec] at hv
        exact ⟨a, dx, us, e, k1, d, all vs (by omega) us hn k2⟩
  exact fun v u => key (sizeOf v) v (Nat.le_refl _) u
theorem put_rv {n0 i : Nat} {L : Nat → Nat} {F : Hp} {r : List Addr} {v : PV} {u : V} (h : mayPut n0 i v = true) (q : RV G F r v u) : RV G F (lim n0 L r i) v u := by
  unfold mayPut at h
  rw [Bool.or_eq_true] at h
  rcases h with h | h
  · unfold lim
    rw [if_neg (by have := Nat.le_of_ble_eq_true h; omega)]
    exact q
  · exact noref_rv v u h q
theorem put_rvs {n0 i : Nat} {L : Nat → Nat} {F : Hp} {r : List Addr} : ∀ {vs : List PV} {us : List V}, mayPutL n0 i vs = true → RVs G F r vs us → RVs G F (lim n0 L r i) vs us
  | [], _, _, q => q
  | v :: vs, us, h, q => by
    obtain ⟨u, ur, rfl, k, l⟩ := q
    simp only [mayPutL, Bool.and_eq_true] at h
    exact ⟨u, ur, rfl, put_rv h.1 k, put_rvs h.2 l⟩
theorem HR.put {n0 : Nat} {g : Gh} {F : Hp} {r : List Addr} {S : Store} {H : Hp} {i : Nat} {a : Addr} {ob ob' : PV} {ho' : HO} (h : HR G n0 g F r S H) (e1 : r[i]? = some a) (e2 : S[i]? = some ob) (hu : unl ob = ob) (hu' : unl ob' = ob')
    (ro : RO G F (lim n0 g.L r i) ob' ho') : HR G n0 g F r (S.set i ob') (upd H a ho') := by
  have hp := h.nopin e1 e2 hu
  have hi : i < S.length := (List.getElem?_eq_some_iff.mp e2).1
  have hF := h.off a (List.mem_of_getElem? e1)
  have ne_of_pin : ∀ b o, g.pn b = some o → b ≠ a := fun b o e z => by rw [z, hp] at e; cases e
  have lck_ne : ∀ w : PV, PV.lck w ≠ ob' := fun w z => by
    rw [← z] at hu'
    have e4 : w = .lck w := hu'
    exact absurd e4 (by intro z; have := congrArg sizeOf z; simp at this)
  refine ⟨fun b o e => ?_, h.nd, h.off, by rw [List.length_set]; exact h.len, by rw [List.length_set]; exact h.nle, h.lle, fun j oj b e3 e4 => ?_, fun b o e => ?_, fun j oj b e3 e4 => ?_, h.out, ⟨fun p hp => by
    let t := h.tab.t p hp
    obtain ⟨ho0, q0, ro0⟩ := h.obj i ob a e2 e1
    exact ⟨tabS_upd t.t (q0.un hu) (ro_tb ro0), t.f, t.nr, t.np⟩, h.tab.nf, h.tab.np⟩⟩
  · rw [upd_ne (fun z => by rw [z, hF] at e; cases e)]
    exact h.sub b o e
  · by_cases hj : j = i
    · subst hj
      rw [List.getElem?_set_self hi] at e3
      cases e3
      rw [e1] at e4
      cases e4
      exact ⟨ho', .mk upd_same (isLk_unl hu'), ro⟩
    · rw [List.getElem?_set_ne (Ne.symm hj)] at e3
      obtain ⟨ho, q1, q2⟩ := h.obj j oj b e3 e4
      refine ⟨ho, q1.upd (fun z => ?_), q2⟩
      · rw [z] at e4
        obtain ⟨h2, e2'⟩ := List.getElem?_eq_some_iff.mp e1
        obtain ⟨h3, e3'⟩ := List.getElem?_eq_some_iff.mp e4
        exact hj ((List.getElem_inj h.nd).mp (e3'.trans e2'.symm))
  · obtain ⟨q1, q2, q3⟩ := h.pin b o e
    refine ⟨by rw [upd_ne (ne_of_pin b o e)]; exact q1, q2, fun j hj => ?_⟩
    obtain ⟨w, hw⟩ := q3 j hj
    refine ⟨w, ?_⟩
    rw [List.getElem?_set_ne (fun z => ?_)]
    · exact hw
    · subst z
      rw [e1] at hj
      cases hj
      exact ne_of_pin _ o e rfl
  · by_cases hj : j = i
    · subst hj
      rw [List.getElem?_set_self hi] at e3
      exact absurd (Option.some.inj e3).symm (lck_ne oj)
    · rw [List.getElem?_set_ne (Ne.symm hj)] at e3
      exact h.lckd j oj b e3 e4
theorem store_lst {n0 : Nat} {g : Gh} {F : Hp} {r : List Addr} {S : Store} {H : Hp} {i : Nat} {u : V} {xs : List PV} (h : HR G n0 g F r S H) (q : RV G F r (.ref i) u) (e : S[i]? = some (.lst xs)) :
    ∃ a us, u = .ref a ∧ r[i]? = some a ∧ H a = some (.lst us) ∧ RVs G F (lim n0 g.L r i) xs us := by
  obtain ⟨a, e1, rfl⟩ := q
  obtain ⟨ho, h1, h2⟩ := h.obj i _ a e e1
  obtain ⟨us, rfl, k⟩ := h2
  exact ⟨a, us, rfl, e1, h1.nl rfl, k⟩
theorem small_lt {n : Nat} (h : small n = true) : n < sizeLine := by
  have : n ≤ 1000000 := Nat.le_of_ble_eq_true h
  exact Nat.lt_of_le_of_lt this (by rw [sizeLine_eq]; decide)
def Chg (G : Gam) (n0 : Nat) (f : PV → PV → Store → Option Store) (t : V → List V → Hp → VK → Prop) : Prop := ∀ g F r S H o v u w S' Q, HR G n0 g F r S H → RV G F r o u → RV G F r v w → f o v S = some S' →
  (∀ H', HR G n0 g F r S' H' → Q .non H') → t u [w] H Q
theorem chg_app {n0 : Nat} : Chg G n0 (appL n0) rAppend := fun g F r S H o v u w S' Q h q1 q2 e k => by
  unfold appL at e
  split at e
  · split at e
    · rename_i i xs es
      split at e
      · rename_i hm
        cases e
        rw [Bool.and_eq_true] at hm
        obtain ⟨a, us, rfl, e1, e2, k2⟩ := store_lst h q1 es
        refine ⟨a, us, w, rfl, rfl, e2, by rw [← RVs.length k2]; exact small_lt hm.2, k _ (h.put e1 es rfl rfl ⟨_, rfl, k2.append ⟨w, [], rfl, put_rv hm.1 q2, rfl⟩⟩)⟩
      · cases e
    · cases e
  · cases e
def rExtR : V → List V → Hp → VK → Prop := fun x vs H Q => ∃ l b xs zs, x = .ref l ∧ vs = [.ref b] ∧ H l = some (.lst xs) ∧ Rd H b (.lst zs) ∧ xs.length + zs.length ≤ sizeLine ∧ Q .non (upd H l (.lst (xs ++ zs)))
theorem mt_extR : MtM X "list.extend" rExtR := by
  intro pins s σ H x vs v us Q I rx rv h
  obtain ⟨l, b, xs, zs, rfl, rfl, hH, hB, hz, q⟩ := h
  cases rx
  obtain ⟨u, rfl, ru⟩ := rv.one
  cases ru
  obtain ⟨z, its, n, r, hl, e⟩ := I.lstM hH
  obtain ⟨z2, its2, n2, r2, e2⟩ := hB.ok I.hok
  have hl2 := r2.length
  have hsz : its.toArray.size + its2.toArray.size ≤ sizeLine := by rw [List.size_toArray, List.size_toArray]; omega
  have hlong : ¬ (!its.toArray.isEmpty && Builtin.List.listTooLong (its.toArray.size + its2.toArray.size)) = true := by
    rw [notLongL hsz, Bool.and_false]
    exact Bool.false_ne_true
  refine call_meets F.slot_list_extend ⟨_, e, rfl⟩ F.entry_list_extend (F.args_list_extend_2 _ _)
    (AutoSeq1.list_extend_list_list_0 l its.toArray n b its2.toArray n2 hlong (by rw [List.size_toArray]; omega) (by omega)) ⟨e, e2, ?_⟩
  refine ⟨.non, _, I.lset (its' := its ++ its2) hH e (by simp) (r.append r2) ?_, rfl, q⟩
  rw [List.length_append]
  omega
theorem chg_ext {n0 : Nat} : Chg G n0 (extL n0) rExtR := fun g F r S H o v u w S' Q h q1 q2 e k => by
  unfold extL at e
  split at e
  · split at e
    · rename_i i xs es
      split at e
      · rename_i ys ey
        split at e
        · rename_i hm
          cases e
          rw [Bool.and_eq_true] at hm
          obtain ⟨a, us, rfl, e1, e2, k2⟩ := store_lst h q1 es
          obtain ⟨b, zs, rfl, l1, l2⟩ := view_lstOf h q2 ey
          exact ⟨a, b, us, zs, rfl, rfl, e2, l1, by rw [← RVs.length k2, ← RVs.length l2]; exact small_le hm.2, k _ (h.put e1 es rfl rfl ⟨_, rfl, k2.append (put_rvs hm.1 l2)⟩)⟩
        · cases e
      · cases e
    · cases e
  · cases e
theorem se_lm {n0 : Nat} {ex : Expr} {fo fa : SE} {f : PV → PV → Store → Option Store} {t : V → List V → Hp → VK → Prop} (hK : G.K = X.K) (ho : Chg G n0 f t) (hp : PE X ex (tBM X.K "list" t (rdV G n0 fo) (tCons (rdV G n0 fa) tNil))) : PE X ex (rdE G n0 (eLm f fo fa)) := by
  refine peI hp fun σ H Q ⟨F, r, env, S, g, s, h⟩ => ?_
  refine stV s cnE h fun p S1 F1 r1 H1 u x1 s1 q1 h1 => ?_
  split at h1
  · rename_i hl
    unfold isL at hl
    split at hl
    · rename_i xs ed
      obtain ⟨a, us, rfl, k1, k2⟩ := view_lst s1.hr q1 ed
      refine ⟨.inl ⟨rfl, us, .inl k1⟩, ?_⟩
      refine stV s1 cnE h1 fun q S2 F2 r2 H2 w x2 s2 q2 h2 => ?_
      cases ef : f p.2 q.2 S2 with
      | none => rw [ef] at h2; exact h2.elim
      | some S3 =>
        rw [ef] at h2
        exact ho g F2 r2 S2 H2 p.2 q.2 _ w S3 Q s2.hr (q1.ext x2) q2 ef fun H' hr => h2 F2 r2 H' .non (x1.trans x2) (s2.ext (.refl _ _) hr) rfl
    · cases hl
  · exact h1.elim
def ChgI (G : Gam) (n0 : Nat) (f : PV → PV → PV → Store → Option Store) (t : TSet) : Prop := ∀ g F r S H o k v u y w S' Q, HR G n0 g F r S H → RV G F r o u → RV G F r k y → RV G F r v w → f o k v S = some S' →
  (∀ H', HR G n0 g F r S' H' → Q H') → t u y w H Q
theorem chg_setL {n0 : Nat} : ChgI G n0 (setL n0) rSetL := fun g F r S H o k v u y w S' Q h q1 q2 q3 e kk => by
  unfold setL at e
  split at e
  · rename_i i
    split at e
    · rename_i xs es
      split at e
      · rename_i j
        split at e
        · rename_i m em
          split at e
          · rename_i hm
            cases e
            obtain ⟨a, us, rfl, e1, e2, k2⟩ := store_lst h q1 es
            refine ⟨a, us, j, m, rfl, q2, e2, by rw [← RVs.length k2, ← ixP_eq]; exact em, kk _ (h.put e1 es rfl rfl ⟨_, rfl, RVs.set (put_rv hm q3) m k2⟩)⟩
          · cases e
        · cases e
      · cases e
    · cases e
  · cases e
theorem ss_setI {n0 : Nat} {E : XK} {st : Stmt} {fo fk fe : SE} {f : PV → PV → PV → Store → Option Store} {t : TSet} (ho : ChgI G n0 f t) (hp : PS X st (tAsg (rdV G n0 fe) (gSub (rdV G n0 fo) (rdV G n0 fk) t))) : PS X st (rdS G n0 E (sSetI f fo fk fe)) := by
  refine psI hp fun D σ H ⟨F, r, env, S, g, s, h⟩ => ?_
  refine sgV s h fun p S1 F1 r1 H1 w x1 s1 q1 h1 => ?_
  have h1 := PoS.ext h1 x1
  refine sgV s1 h1 fun q S2 F2 r2 H2 u x2 s2 q2 h2 => ?_
  have h2 := PoS.ext h2 x2
  refine sgV s2 h2 fun z S3 F3 r3 H3 y x3 s3 q3 h3 => ?_
  cases ef : f q.2 z.2 p.2 S3 with
  | none => rw [ef] at h3; exact False.elim h3
  | some S4 =>
    rw [ef] at h3
    exact ho g F3 r3 S3 H3 q.2 z.2 p.2 u y w S4 _ s3.hr (q2.ext x3) q3 (q1.ext (x2.trans x3)) ef fun H' hr => h3 F3 r3 H' σ x3 (s3.ext (.refl _ _) hr)
theorem ss_augI {n0 : Nat} {E : XK} {st : Stmt} {fo fk fe : SE} {f : PV → PV → PV → Store → Option Store} {op gt : Op2} {t : TSet} {tg tp : R2} (hg : Ok2 G gt tg) (hop : Ok2 G op tp) (ho : ChgI G n0 f t) (hp : PS X st (tAugS (rdV G n0 fo) (rdV G n0 fk) (rdV G n0 fe) tg tp t)) : PS X st (rdS G n0 E (sAugI op gt f fo fk fe)) := by
  refine psI hp fun D σ H ⟨F, r, env, S, g, s, h⟩ => ?_
  refine sgV s h fun p S1 F1 r1 H1 u x1 s1 q1 h1 => ?_
  have h1 := PoS.ext h1 x1
  refine sgV s1 h1 fun q S2 F2 r2 H2 y x2 s2 q2 h2 => ?_
  have h2 := PoS.ext h2 x2
  cases eg : gt p.2 q.2 S2 with
  | none => rw [eg] at h2; exact False.elim h2
  | some x =>
    rw [eg] at h2
    refine hg n0 g F2 r2 S2 H2 p.2 q.2 u y x _ s2.hr (q1.ext x2) q2 eg fun F3 r3 H3 w x3 hr3 rf => ?_
    obtain ⟨F4, x4, hr4, q4⟩ := freeze hr3 rf
    have s4 := s2.ext (x3.trans x4) hr4
    have x34 := x3.trans x4
    have h3 := PoS.ext h2 x34
    refine sgV s4 h3 fun z S5 F5 r5 H5 w5 x5 s5 q5 h5 => ?_
    have h5 := PoS.ext h5 x5
    cases eo : op x.2 z.2 S5 with
    | none => rw [eo] at h5; exact False.elim h5
    | some v6 =>
      simp only [eo] at h5
      refine hop n0 g F5 r5 S5 H5 x.2 z.2 w w5 v6 _ s5.hr (q4.ext x5) q5 eo fun F6 r6 H6 w6 x6 hr6 rf6 => ?_
      obtain ⟨F7, x7, hr7, q7⟩ := freeze hr6 rf6
      have x67 := x6.trans x7
      cases ef : f p.2 q.2 v6.2 S5 with
      | none => rw [ef] at h5; exact False.elim h5
      | some S7 =>
        rw [ef] at h5
        have xa : Ext F2 F7 r2 r6 := (x34.trans x5).trans x67
        exact ho g F7 r6 S5 H6 p.2 q.2 v6.2 u y w6 S7 _ hr7 ((q1.ext x2).ext xa) (q2.ext xa) q7 ef fun H' hr => h5 F7 r6 H' σ x67 ((s5.ext x67 hr7).ext (.refl _ _) hr)
end
end PX
set_option Elab.async false
set_option linter.all false
set_option maxRecDepth 100000
namespace PX
open PySem PySem.Spec PyProof.Rows L2
theorem cx_none {P : Program} {w : World} {outer : List PySem.Env} {H : Hp} {s s' : Shared} {u : Value} (h : L2.CX P w outer H s E0 u s') : False := by
  obtain ⟨_, _, _, _, _, _, _, _, _, _, _, _, h⟩ := h
  exact h
theorem passE0 {X : Cx} : Passes (L2.CX X.prog X.w) X E0 := fun _ _ _ _ _ _ _ h => (cx_none h).elim
structure Tb (X : Cx) (G : Gam) (cf : CF) (k : Nat) : Prop where
  hK : G.K = X.K
  call : ∀ f np, FnR X.prog X.w X.K X.mg X.base (L2.CX X.prog X.w) k (G.fa f) (spF G cf f np)
  room : Room (k + 1) X.A
  calm : X.calm = true
def Inj (G : Gam) (f : Nat) : Prop := ∀ j, G.nm j = G.nm f → j = f
structure ClsI (G : Gam) (c : Nat) : Prop where
  cls : Cls G.K (G.ca c)
  isi : SlX.SIsi G.K (G.ca c)
section
variable {G : Gam} {F : Hp} {r : List Addr}
theorem fld_look {f : Nat} (hi : Inj G f) : ∀ {ns : List Nat} {vs : List PV} {us : List V} {w : PV}, ns.length = us.length → RVs G F r vs us → (ns.zip vs).lookup f = some w → ∃ y, ((ns.map G.nm).zip us).lookup (G.nm f) = some y ∧ RV G F r w y
  | [], _, _, _, _, _, e => by cases e
  | n :: ns, [], us, w, _, _, e => by cases e
  | n :: ns, v :: vs, us, w, hl, q, e => by
    obtain ⟨u, ur, rfl, k, l⟩ := q
    rw [List.zip_cons_cons, List.lookup_cons] at e
    rw [List.map_cons, List.zip_cons_cons, List.lookup_cons]
    cases hb : f == n with
    | true =>
      rw [hb] at e
      cases e
      rw [beq_iff_eq.mp hb, beq_self_eq_true]
      exact ⟨u, rfl, k⟩
    | false =>
      rw [hb] at e
      have : (G.nm f == G.nm n) = false := by
        rw [beq_eq_false_iff_ne]
        intro z
        have := hi n z.symm
        rw [this, beq_self_eq_true] at hb
        cases hb
      rw [this]
      exact fld_look hi (by simpa using hl) l e
theorem fld_none {m : Nat} (hi : Inj G m) : ∀ {ns : List Nat} {us : List V}, ns.contains m = false → ((ns.map G.nm).zip us).lookup (G.nm m) = none
  | [], _, _ => rfl
  | n :: ns, [], _ => rfl
  | n :: ns, u :: us, h => by
    rw [List.contains_cons, Bool.or_eq_false_iff] at h
    rw [List.map_cons, List.zip_cons_cons, List.lookup_cons]
    have : (G.nm m == G.nm n) = false := by
      rw [beq_eq_false_iff_ne]
      intro z
      have := hi n z.symm
      rw [this, beq_self_eq_true] at h
      cases h.1
    rw [this]
    exact fld_none hi h.2
theorem fld_put {f : Nat} (hi : Inj G f) {v : PV} {y : V} (q : RV G F r v y) : ∀ {ns : List Nat} {vs : List PV} {us : List V}, ns.length = us.length → RVs G F r vs us →
    ∃ us', putF (G.nm f) y ((ns.map G.nm).zip us) = (((putFld f v ns vs).1).map G.nm).zip us' ∧ (putFld f v ns vs).1.length = us'.length ∧ RVs G F r (putFld f v ns vs).2 us' ∧ (putFld f v ns vs).1.length ≤ ns.length + 1
  | [], vs, us, hl, k => by
    cases us with
    | cons => cases hl
    | nil =>
      cases vs with
      | cons => obtain ⟨_, _, z, _⟩ := k; cases z
      | nil => exact ⟨[y], rfl, rfl, ⟨y, [], rfl, q, rfl⟩, Nat.le_refl _⟩
  | n :: ns, vs, us, hl, k => by
    cases us with
    | nil => cases hl
    | cons u us =>
      cases vs with
      | nil => cases (show (u :: us) = [] from k)
      | cons w ws =>
        obtain ⟨u', ur, e, k1, l⟩ := k
        cases e
        unfold putFld
        rw [List.map_cons, List.zip_cons_cons]
        unfold putF
        by_cases hn : n = f
        · subst hn
          rw [if_pos rfl, if_pos rfl]
          exact ⟨y :: us, rfl, by simpa using hl, ⟨y, us, rfl, q, l⟩, Nat.le_succ _⟩
        · rw [if_neg hn, if_neg (fun z => hn (hi n z))]
          obtain ⟨us', e1, e2, e3, e4⟩ := fld_put hi q (by simpa using hl) l
          refine ⟨u :: us', ?_, ?_, ⟨u, us', rfl, k1, e3⟩, ?_⟩
          · rw [e1]; rfl
          · show _ + 1 = _ + 1
            rw [e2]
          · show _ + 1 ≤ _ + 1
            exact Nat.succ_le_succ e4
end
section
variable {X : Cx} {G : Gam} {n0 : Nat} {cf : CF} {k : Nat} {E : XK}
theorem se_fld {cs : List Nat} {f : Nat} {e : Expr} {fe : SE} {pos : Pos} (hK : G.K = X.K) (hi : Inj G f) (hc : ∀ c ∈ cs, Cls G.K (G.ca c) ∧ NoAttr G.K (G.ca c) (G.nm f)) (he : PE X e (rdE G n0 fe)) (hb : attributeBase e (G.nm f) X.env (eval e X.env) = eval e X.env := by rfl) :
    PE X (.Attribute e (G.nm f) pos) (rdE G n0 (eFld cs f fe)) := by
  refine peI (pe_fld (toV he) hb) fun σ H Q ⟨F, r, env, S, g, s, h⟩ => ?_
  refine stV s cnE h fun p S1 F1 r1 H1 u x1 s1 q1 h1 => ?_
  unfold fldOf at h1
  simp only at h1
  cases ed : deref S1 p.2 with
  | none => rw [ed] at h1; exact h1.elim
  | some o =>
    rw [ed] at h1
    cases o with
    | ins c ns vs =>
      simp only at h1
      cases hcs : cs.contains c with
      | false => rw [hcs] at h1; exact h1.elim
      | true =>
        rw [hcs, if_pos rfl] at h1
        cases el : (ns.zip vs).lookup f with
        | none => rw [el] at h1; exact h1.elim
        | some w =>
          rw [el] at h1
          obtain ⟨a, dx, us, rfl, k1, k2, k3⟩ := view_ins s1.hr q1 ed
          obtain ⟨y, e1, q2⟩ := fld_look hi k2 k3 el
          obtain ⟨h2, h3⟩ := hc c (by simpa using hcs)
          rw [← hK]
          exact ⟨a, G.ca c, dx, _, y, rfl, k1, h2, h3, e1, h1 F1 r1 H1 y x1 s1 q2⟩
    | _ => exact h1.elim
theorem ss_fld {cs : List Nat} {f : Nat} {o e : Expr} {fo fe : SE} {pos pos' : Pos} (hK : G.K = X.K) (hi : Inj G f) (hc : ∀ c ∈ cs, Cls G.K (G.ca c) ∧ NoAttr G.K (G.ca c) (G.nm f)) (ho : PE X o (rdE G n0 fo)) (he : PE X e (rdE G n0 fe))
    (hs : swapsWith e (some (.Attribute o (G.nm f) pos')) pos.line X.env = pure false := by rfl) : PS X (.Assign [.Attribute o (G.nm f) pos'] e pos) (rdS G n0 E (sFld n0 cs f fo fe)) := by
  refine psI (ps_fld (toV ho) (toV he) hs) fun D σ H ⟨F, r, env, S, g, s, h⟩ => ?_
  refine sgV s h fun p S1 F1 r1 H1 y x1 s1 q1 h1 => ?_
  have h1 := PoS.ext h1 x1
  refine sgV s1 h1 fun q S2 F2 r2 H2 u x2 s2 q2 h2 => ?_
  obtain ⟨b, v⟩ := q
  cases v with
  | ref i =>
    simp only at h2
    cases es : S2[i]? with
    | none => rw [es] at h2; exact False.elim h2
    | some ob =>
      rw [es] at h2
      cases ob with
      | ins c ns vs =>
        simp only at h2
        cases hcond : (cs.contains c && mayPut n0 i p.2 && Nat.ble ns.length 100) with
        | false => rw [hcond] at h2; exact False.elim h2
        | true =>
          rw [hcond, if_pos rfl] at h2
          rw [Bool.and_eq_true, Bool.and_eq_true] at hcond
          obtain ⟨⟨c1, c2⟩, c3⟩ := hcond
          obtain ⟨a, e1, rfl⟩ := q2
          obtain ⟨ho, k1, k2⟩ := s2.hr.obj i _ a es e1
          have k1 := k1.nl rfl
          obtain ⟨dx, us, rfl, k3, k4⟩ := k2
          obtain ⟨hc1, hc2⟩ := hc c (by simpa using c1)
          obtain ⟨us', e2, e3, e4, e5⟩ := fld_put hi (put_rv c2 (q1.ext x2)) k3 k4
          have hl : ns.length ≤ 100 := Nat.le_of_ble_eq_true c3
          rw [← hK]
          refine ⟨a, G.ca c, dx, _, rfl, k1, hc1, hc2, ?_, ?_⟩
          · rw [List.length_zip, List.length_map]
            omega
          · rw [e2]
            have hr := s2.hr.put (ob' := .ins c (putFld f p.2 ns vs).1 (putFld f p.2 ns vs).2) e1 es rfl rfl ⟨dx, us', rfl, e3, e4⟩
            exact h2 F2 r2 _ σ x2 ⟨hr, s2.sl, s2.vr⟩
      | _ => exact False.elim h2
  | _ => exact False.elim h2
theorem pe_callR {f : Addr} {sp : Sp} {x : Str} {p pos : Pos} {e : Expr} {es : List Expr} {t : TA} (F : FnR X.prog X.w X.K X.mg X.base (L2.CX X.prog X.w) k f sp) (hr : Room k X.A) (hg : Gl X x) (hm : X.mg x = some (.ref f)) (hk : PySem.W.keepIn X.K (.ref f) = true)
    (ha : PA X (e :: es) t) (hdb : (x == ("__debug__" : Str)) = false := by decide) (he : starEach (e :: es) X.env = (false, eval e X.env) :: starEach es X.env := by rfl) (hpl : (backTo pos (starEach es X.env)).any (·.1) = false := by rfl) :
    PE X (.Call (.Name x p) (e :: es) [] pos) (tCall sp [] E0 t) := by
  refine ⟨fun pins s σ H Q I h => ?_⟩
  refine wpAny_Call_Name_kw (ld_glob I hg hm ?_ hdb)
  refine PySem.W.callWith_K (h₀ := X.base) I.ok.mod.kin hk (thn (ha.run pos pins s σ H _ I h) fun us s1 ⟨vs, H1, I1, r, q⟩ => ⟨I1.kIn, ?_⟩) he hpl
  have q : sp (vs ++ []) H1 Q E0 := q
  rw [List.append_nil] at q
  exact wpAny_call (run_fnR F hr passE0 I1 r q)
theorem pe_callR0 {f : Addr} {sp : Sp} {x : Str} {p pos : Pos} (F : FnR X.prog X.w X.K X.mg X.base (L2.CX X.prog X.w) k f sp) (hr : Room k X.A) (hg : Gl X x) (hm : X.mg x = some (.ref f)) (hk : PySem.W.keepIn X.K (.ref f) = true)
    (hdb : (x == ("__debug__" : Str)) = false := by decide) : PE X (.Call (.Name x p) [] [] pos) (tCall sp [] E0 tNil) := by
  refine ⟨fun pins s σ H Q I h => ?_⟩
  refine wpAny_Call_Name_kw (ld_glob I hg hm ?_ hdb)
  exact PySem.W.callWith_K0 I.kIn hk (wpAny_call (run_fnR (us := []) F hr passE0 I .nil h))
theorem sx_call {f np : Nat} {x : Str} {p pos : Pos} {e : Expr} {es : List Expr} {fs : SA} (T : Tb X G cf k) (hg : Gl X x) (hm : X.mg x = some (.ref (G.fa f))) (hk : PySem.W.keepIn G.K (.ref (G.fa f)) = true) (ha : PA X (e :: es) (rdA G n0 fs))
    (hdb : (x == ("__debug__" : Str)) = false := by decide) (he : starEach (e :: es) X.env = (false, eval e X.env) :: starEach es X.env := by rfl) (hpl : (backTo pos (starEach es X.env)).any (·.1) = false := by rfl) :
    PE X (.Call (.Name x p) (e :: es) [] pos) (rdE G n0 (eCall cf np f fs)) := se_call (pe_callR (T.call f np) (T.room.mono (Nat.le_succ k)) hg hm (T.hK ▸ hk) ha hdb he hpl)
theorem sx_call0 {f : Nat} {x : Str} {p pos : Pos} (T : Tb X G cf k) (hg : Gl X x) (hm : X.mg x = some (.ref (G.fa f))) (hk : PySem.W.keepIn G.K (.ref (G.fa f)) = true)
    (hdb : (x == ("__debug__" : Str)) = false := by decide) : PE X (.Call (.Name x p) [] [] pos) (rdE G n0 (eCall cf 0 f aNil)) := by
  refine peI (pe_callR0 (T.call f 0) (T.room.mono (Nat.le_succ k)) hg hm (T.hK ▸ hk) hdb) fun σ H Q ⟨F, r, env, S, g, s, h⟩ => ?_
  exact run_call (E := E0) s (.refl F r) (show RVs G F r [] [] from rfl) rfl h
def tMethD (X : Cx) (k : Nat) (m : Str) (ta : TE) (t : TA) : TE := fun σ H Q => ta σ H fun x H1 => ∃ a C dx fs g sp, x = .ref a ∧ H1 a = some (.ins C dx fs) ∧ Cls X.K C ∧ Meth X.K C m g ∧ fs.lookup m = none ∧ FnR X.prog X.w X.K X.mg X.base (L2.CX X.prog X.w) k g sp ∧ t σ H1 fun vs H2 => sp (x :: vs) H2 Q E0
theorem pe_methD {m : Str} {pos apos : Pos} {o e : Expr} {es : List Expr} {ta : TE} {t : TA} {pl : Sem Bool} (he : PE X o ta) (hr : Room k X.A) (ha : PA X (e :: es) t)
    (hst : starEach (e :: es) X.env = (false, eval e X.env) :: starEach es X.env := by rfl) (hpl : (backTo pos (starEach es X.env)).any (·.1) = false := by rfl)
    (ht : eval (.Call (.Attribute o m apos) (e :: es) [] pos) X.env = (do
      let ov ← eval o X.env
      standAt apos.atName
      let (f, first) ← holding [ov] (getMethod ov m pl)
      callWith pos f first (backTo pos (starEach (e :: es) X.env)) (backToKw pos (keywordEach [] X.env))) := by rfl) :
    PE X (.Call (.Attribute o m apos) (e :: es) [] pos) (tMethD X k m ta t) := by
  refine ⟨fun pins s σ H Q I h => ?_⟩
  refine PySem.W.methodCall_KW (pl := pl) (thn (he.run pins s σ H _ I h) fun u s1 ⟨x, H1, I1, rx, a, C, dx, fs, g, sp, ex, ea, c, hm, l, F, q⟩ => ?_) ht
  subst ex
  obtain rfl : u = Value.ref a := rx
  refine getmeth_ok I1 ea c hm l ?_
  refine PySem.W.callWith_K (first := [.ref a]) (h₀ := X.base) I.ok.mod.kin hm.kp (thn (ha.run pos pins s1 σ H1 _ I1 q) fun us s2 ⟨ws, H2, I2, r, q2⟩ => ⟨I2.kIn, ?_⟩) hst hpl
  exact wpAny_call (run_fnR (us := .ref a :: us) (vs := .ref a :: ws) F hr passE0 I2 (.cons rfl r) q2)
theorem pe_methD0 {m : Str} {pos apos : Pos} {o : Expr} {ta : TE} {pl : Sem Bool} (he : PE X o ta) (hr : Room k X.A)
    (ht : eval (.Call (.Attribute o m apos) [] [] pos) X.env = (do
      let ov ← eval o X.env
      standAt apos.atName
      let (f, first) ← holding [ov] (getMethod ov m pl)
      callWith pos f first (backTo pos (starEach [] X.env)) (backToKw pos (keywordEach [] X.env))) := by rfl) :
    PE X (.Call (.Attribute o m apos) [] [] pos) (tMethD X k m ta tNil) := by
  refine ⟨fun pins s σ H Q I h => ?_⟩
  refine PySem.W.methodCall_KW (pl := pl) (thn (he.run pins s σ H _ I h) fun u s1 ⟨x, H1, I1, rx, a, C, dx, fs, g, sp, ex, ea, c, hm, l, F, q⟩ => ?_) ht
  subst ex
  obtain rfl : u = Value.ref a := rx
  refine getmeth_ok I1 ea c hm l ?_
  exact PySem.W.callWith_K0 (first := [.ref a]) I1.kIn hm.kp (wpAny_call (run_fnR (us := [.ref a]) (vs := [.ref a]) F hr passE0 I1 (.cons rfl .nil) q))
theorem look_mem {α : Type} : ∀ {l : List (Nat × α)} {c : Nat} {f : α}, l.lookup c = some f → (c, f) ∈ l
  | [], _, _, e => by cases e
  | (a, b) :: l, c, f, e => by
    rw [List.lookup_cons] at e
    cases hb : c == a with
    | true =>
      rw [hb] at e
      cases e
      rw [beq_iff_eq.mp hb]
      exact List.mem_cons_self
    | false =>
      rw [hb] at e
      exact List.mem_cons_of_mem _ (look_mem e)
theorem sa_nilT {σ : L2.St} {H : Hp} {Q : List V → Hp → Prop} (h : rdA G n0 aNil σ H Q) : tNil σ H Q := by
  obtain ⟨F, r, env, S, g, s, h⟩ := h
  exact h F r H [] (.refl F r) s rfl
theorem meth_core {np m : Nat} {tb : List (Nat × Nat)} {fo : SE} {fs : SA} {t : TA} {ex : Expr} (T : Tb X G cf k) (ht : ∀ σ H Q, rdA G n0 fs σ H Q → t σ H Q) (hi : Inj G m) (hc : ∀ p ∈ tb, Cls G.K (G.ca p.1) ∧ Meth G.K (G.ca p.1) (G.nm m) (G.fa p.2))
    (hp : PE X ex (tMethD X k (G.nm m) (rdV G n0 fo) t)) : PE X ex (rdE G n0 (eMeth cf np m tb fo fs)) := by
  refine peI hp fun σ H Q ⟨F, r, env, S, g, s, h⟩ => ?_
  refine stV s cnE h fun p S1 F1 r1 H1 u x1 s1 q1 h1 => ?_
  unfold methOf at h1
  cases ed : deref S1 p.2 with
  | none => rw [ed] at h1; exact h1.elim
  | some o =>
    rw [ed] at h1
    cases o with
    | ins c ns vs =>
      simp only at h1
      cases hn : ns.contains m with
      | true => rw [hn] at h1; exact h1.elim
      | false =>
        rw [hn] at h1
        simp only [Bool.false_eq_true, if_false] at h1
        cases el : tb.lookup c with
        | none => rw [el] at h1; exact h1.elim
        | some f =>
          rw [el] at h1
          obtain ⟨a, dx, us, rfl, k1, k2, k3⟩ := view_ins s1.hr q1 ed
          obtain ⟨h2, h3⟩ := hc (c, f) (look_mem el)
          refine ⟨a, G.ca c, dx, _, G.fa f, _, rfl, k1, T.hK ▸ h2, T.hK ▸ h3, fld_none hi hn, T.call f np, ?_⟩
          refine ht _ _ _ (stA s1 cnE h1 fun q S2 F2 r2 H2 ws x2 s2 q2 h4 => ?_)
          split at h4
          · rename_i hl
            exact run_call (E := E0) s2 (x1.trans x2) (show RVs G F2 r2 (p.2 :: q) _ from ⟨_, ws, rfl, q1.ext x2, q2⟩) hl h4
          · exact h4.elim
    | _ => exact h1.elim
theorem se_meth {np m : Nat} {tb : List (Nat × Nat)} {o e : Expr} {es : List Expr} {fo : SE} {fs : SA} {pos apos : Pos} {pl : Sem Bool} (T : Tb X G cf k) (hi : Inj G m) (hc : ∀ p ∈ tb, Cls G.K (G.ca p.1) ∧ Meth G.K (G.ca p.1) (G.nm m) (G.fa p.2)) (ho : PE X o (rdE G n0 fo)) (ha : PA X (e :: es) (rdA G n0 fs))
    (hst : starEach (e :: es) X.env = (false, eval e X.env) :: starEach es X.env := by rfl) (hpl : (backTo pos (starEach es X.env)).any (·.1) = false := by rfl)
    (ht : eval (.Call (.Attribute o (G.nm m) apos) (e :: es) [] pos) X.env = (do
      let ov ← eval o X.env
      standAt apos.atName
      let (f, first) ← holding [ov] (getMethod ov (G.nm m) pl)
      callWith pos f first (backTo pos (starEach (e :: es) X.env)) (backToKw pos (keywordEach [] X.env))) := by rfl) :
    PE X (.Call (.Attribute o (G.nm m) apos) (e :: es) [] pos) (rdE G n0 (eMeth cf np m tb fo fs)) :=
  meth_core T (fun _ _ _ h => h) hi hc (pe_methD (pl := pl) (toV ho) (T.room.mono (Nat.le_succ k)) ha hst hpl ht)
theorem se_meth0 {m : Nat} {tb : List (Nat × Nat)} {o : Expr} {fo : SE} {pos apos : Pos} {pl : Sem Bool} (T : Tb X G cf k) (hi : Inj G m) (hc : ∀ p ∈ tb, Cls G.K (G.ca p.1) ∧ Meth G.K (G.ca p.1) (G.nm m) (G.fa p.2)) (ho : PE X o (rdE G n0 fo))
    (ht : eval (.Call (.Attribute o (G.nm m) apos) [] [] pos) X.env = (do
      let ov ← eval o X.env
      standAt apos.atName
      let (f, first) ← holding [ov] (getMethod ov (G.nm m) pl)
      callWith pos f first (backTo pos (starEach [] X.env)) (backToKw pos (keywordEach [] X.env))) := by rfl) :
    PE X (.Call (.Attribute o (G.nm m) apos) [] [] pos) (rdE G n0 (eMeth cf 1 m tb fo aNil)) :=
  meth_core T (fun _ _ _ h => sa_nilT h) hi hc (pe_methD0 (pl := pl) (toV ho) (T.room.mono (Nat.le_succ k)) ht)
theorem run_makeR {C f : Addr} {sp : Sp} {pins : List (Addr × Obj)} {σ : L2.St} {H : Hp} {s : Shared} {Q : VK} {us : List Value} {vs : List V} (M : Mk X.K C f) (F : FnR X.prog X.w X.K X.mg X.base (L2.CX X.prog X.w) k f sp) (hr : Room (k + 1) X.A)
    (I : Inv X pins σ H s) (r : Vals vs us)
    (h : ∀ x dx, H x = none → H dx = none → dx ≠ x → sp (.ref x :: vs) (upd (upd H dx (.own x)) x (.ins C dx [])) (fun v H2 => v = .non ∧ Q (.ref x) H2) E0) :
    wpAny (model X.prog X.w) X.A (call (.ref C) us) (EP X pins σ Q) X.xe s := by
  have hq := h (s.heap.objs.size + 1) s.heap.objs.size (I.hok.fresh (Nat.le_succ _)) (I.hok.fresh (Nat.le_refl _)) (Nat.ne_of_lt (Nat.lt_succ_self _))
  have I2 := Inv.made (C := C) I
  have r2 : Vals (V.ref (s.heap.objs.size + 1) :: vs) (Value.ref (s.heap.objs.size + 1) :: us) := .cons rfl r
  refine wpAny_call (make_map (f := f) I.kIn M.makes M.init (beq_iff_eq.mp M.fn) (codeAny_mono (F _ X.stack _ _ (Value.ref (s.heap.objs.size + 1) :: us) _ _ E0 (hr.make C us [])
    (I2.env0.make C us []) r2 hq) fun r s' hq' => ?_))
  cases r with
  | error e => exact (cx_none hq').elim
  | ok fl =>
    cases fl with
    | ret u =>
      obtain ⟨v, H', I3, rv, ev, q3⟩ := I2.after hq'
      subst ev
      exact ⟨rv, ⟨V.ref (s.heap.objs.size + 1), H', I3, rfl, q3⟩⟩
    | next => exact False.elim hq'
    | brk => exact False.elim hq'
    | cont => exact False.elim hq'
theorem pe_makeR {C f : Addr} {sp : Sp} {x : Str} {p pos : Pos} {e : Expr} {es : List Expr} {t : TA} (M : Mk X.K C f) (F : FnR X.prog X.w X.K X.mg X.base (L2.CX X.prog X.w) k f sp) (hr : Room (k + 1) X.A) (hg : Gl X x) (hm : X.mg x = some (.ref C))
    (ha : PA X (e :: es) t) (hdb : (x == ("__debug__" : Str)) = false := by decide) (he : starEach (e :: es) X.env = (false, eval e X.env) :: starEach es X.env := by rfl) (hpl : (backTo pos (starEach es X.env)).any (·.1) = false := by rfl) :
    PE X (.Call (.Name x p) (e :: es) [] pos) (tMake C sp [] E0 t) := by
  refine ⟨fun pins s σ H Q I h => ?_⟩
  refine wpAny_Call_Name_kw (ld_glob I hg hm ?_ hdb)
  refine PySem.W.callWith_K (h₀ := X.base) I.ok.mod.kin M.kp (thn (ha.run pos pins s σ H _ I h) fun us s1 ⟨vs, H1, I1, r, q⟩ => ⟨I1.kIn, ?_⟩) he hpl
  exact run_makeR M F hr I1 r fun x dx h1 h2 h3 => by
    have z := q x dx h1 h2 h3
    rw [List.append_nil] at z
    exact z
theorem se_make {np c f : Nat} {x : Str} {p pos : Pos} {e : Expr} {es : List Expr} {fs : SA} (T : Tb X G cf k) (M : Mk G.K (G.ca c) (G.fa f)) (hg : Gl X x) (hm : X.mg x = some (.ref (G.ca c))) (ha : PA X (e :: es) (rdA G n0 fs))
    (hdb : (x == ("__debug__" : Str)) = false := by decide) (he : starEach (e :: es) X.env = (false, eval e X.env) :: starEach es X.env := by rfl) (hpl : (backTo pos (starEach es X.env)).any (·.1) = false := by rfl) :
    PE X (.Call (.Name x p) (e :: es) [] pos) (rdE G n0 (eMake cf np c f fs)) := by
  refine peI (pe_makeR (T.hK ▸ M) (T.call f np) T.room hg hm ha hdb he hpl) fun σ H Q ⟨F, r, env, S, g, s, h⟩ => ?_
  refine stA s cnE h fun q S1 F1 r1 H1 us x1 s1 q1 h1 => ?_
  split at h1
  · rename_i hl
    intro x dx hx hd hne
    rw [List.append_nil]
    have hc := (s1.hr.call).heap (H' := upd H1 dx (.own x)) fun a o e => by rw [upd_ne (ne_of_none e hd)]; exact e
    obtain ⟨h2, rf⟩ := new_obj (v := .ins c [] []) (ho := .ins (G.ca c) dx []) hc (by rw [upd_ne hne.symm]; exact hx) ⟨dx, [], rfl, rfl, rfl⟩ rfl
    obtain ⟨r2, x2, h3, q3⟩ := store_new h2 rf
    refine ⟨F1, r2, S1 ++ [.ins c [] []], subG n0 g S1.length, S1.length, .ref S1.length :: q, h3, ⟨_, us, rfl, q3, q1.ext x2⟩, hl, ?_⟩
    cases ec : cf f (.ref S1.length :: q) S1.length (S1 ++ [.ins c [] []]) with
    | no => rw [ec] at h1; exact h1
    | ex => rw [ec] at h1; exact False.elim h1
    | ok v S2 =>
      rw [ec] at h1
      intro F3 r3 H3 u x3 h4 q4
      cases v with
      | non =>
        refine ⟨q4, ?_⟩
        have h1 : PoE G n0 g F r env σ (norm S1.length (.ref S1.length) S2) Q := h1
        cases en : norm S1.length (.ref S1.length) S2 with
        | no => rw [en] at h1; exact h1.elim
        | ex => rw [en] at h1; exact h1.elim
        | ok p S3 =>
          rw [en] at h1
          obtain ⟨b, w⟩ := p
          obtain ⟨F4, x4, h5, q5⟩ := norm_ok h4 (RV.ext x3 q3) en
          rw [take_ext s1.hr (x2.trans x3)] at h5 q5
          have x5 : Ext F1 F4 r1 r1 := ⟨(x2.trans x3).1.trans x4, List.prefix_refl r1⟩
          exact h1 F4 r1 H3 _ (x1.trans x5) (s1.ext x5 (s1.hr.back h5)) q5
      | _ => exact h1.elim
  · exact h1.elim
inductive TyN where
  | non | bl | int | str | tup | lst | dct
  | own (c : Nat)
  deriving DecidableEq
def tyN (S : Store) (v : PV) : Option TyN := match deref S v with
  | some .non => some .non
  | some (.bl _) => some .bl
  | some (.int _) => some .int
  | some (.str _) => some .str
  | some (.tup _) => some .tup
  | some (.lst _) => some .lst
  | some (.dct (.n _) _) => none
  | some (.dct (.t _) _) => match derf S v with
    | some (.dct (.t _) _) => some .dct
    | _ => none
  | some (.dct _ _) => some .dct
  | some (.ins c _ _) => some (.own c)
  | _ => none
def TyN.val (G : Gam) : TyN → Value
  | .non => .type "NoneType"
  | .bl => .type "bool"
  | .int => .type "int"
  | .str => .type "str"
  | .tup => .type "tuple"
  | .lst => .type "list"
  | .dct => .type "dict"
  | .own c => .ref (G.ca c)
def eIsi (tb : List (TyN × Bool)) : SE → SE := eUn fun v S => match tyN S v with
  | some t => (tb.lookup t).map fun b => (false, .bl b)
  | none => none
theorem tyN_ok {g : Gh} {F : Hp} {r : List Addr} {S : Store} {H : Hp} {v : PV} {u : V} {t : TyN} (h : HR G n0 g F r S H) (q : RV G F r v u) (hc : ∀ c, t = .own c → ClsI G c) (e : tyN S v = some t) : TyX G.K H u (t.val G) := by
  unfold tyN at e
  split at e
  · rename_i ed; cases e; rw [view_non h q ed]; exact .base .non
  · rename_i ed; cases e; rw [view_bl h q ed]; exact .base (.bl _)
  · rename_i ed; cases e; rw [view_int h q ed]; exact .base (.int _)
  · rename_i ed; cases e; rw [view_str h q ed]; exact .base (.str _)
  · rename_i ed
    cases e
    obtain ⟨a, us, rfl, k1, _⟩ := view_tup h q ed
    rcases k1 with (k1 | ⟨o, k1⟩) | ⟨o, its, n, k1, k2, _⟩
    · exact .base (.tup k1)
    · exact .fTuple k1
    · exact .kTuple k1 k2
  · rename_i ed
    cases e
    obtain ⟨a, us, rfl, k1, _⟩ := view_lst h q ed
    rcases k1 with k1 | ⟨o, k1⟩
    · exact .base (.lst k1)
    · exact .base (.frz k1)
  · cases e
  · rename_i kt vs ed
    split at e
    · rename_i kt2 vs2 ed2
      cases e
      obtain ⟨a, us, rfl, k1, _⟩ := view_dctT h q ed2
      exact .base (.dT k1)
    · cases e
  · rename_i ks vs nk nt ed
    cases e
    cases ks with
    | n l => exact absurd rfl (nk l)
    | k kk =>
      obtain ⟨a, ho, us, rfl, k1, k2, _⟩ := view_dct h q ed
      obtain ⟨rfl, _⟩ := k2
      rcases k1 with k1 | ⟨o, k1⟩
      · exact .base (.dK k1)
      · exact .fDict k1
    | t kk => exact absurd rfl (nt kk)
  · rename_i ed
    cases e
    obtain ⟨a, dx, us, rfl, k1, _⟩ := view_ins h q ed
    obtain ⟨c1, c2⟩ := hc _ rfl
    exact .base (.ins k1 c1 c2.ca c2.cn c2.ct c2.cm)
  · cases e
theorem tb_mem {tb : List (TyN × Bool)} {t : TyN} {b : Bool} : tb.lookup t = some b → (t, b) ∈ tb := by
  induction tb with
  | nil => intro e; cases e
  | cons p l ih =>
    obtain ⟨a, c⟩ := p
    intro e
    rw [List.lookup_cons] at e
    cases hb : t == a with
    | true =>
      rw [hb] at e
      cases e
      rw [beq_iff_eq.mp hb]
      exact List.mem_cons_self
    | false =>
      rw [hb] at e
      exact List.mem_cons_of_mem _ (ih e)
theorem se_isi1 {tb : List (TyN × Bool)} {e ce : Expr} {fe : SE} {p pos : Pos} {cv : V} {cu : Value} (hK : G.K = X.K) (hg : Gl X "isinstance") (hm : X.mg "isinstance" = none) (hb : bootBuiltins "isinstance" = some (.builtin "isinstance")) (hcv : ClsV cv cu)
    (hcl : ∀ t b, (t, b) ∈ tb → PySem.W.kitOne G.K (t.val G) cu = some b ∧ ∀ c, t = .own c → ClsI G c) (he : PE X e (rdE G n0 fe)) (hc : PE X ce (tC cv))
    (hs : starEach [e, ce] X.env = (false, eval e X.env) :: starEach [ce] X.env := by rfl) (hs2 : starEach [ce] X.env = (false, eval ce X.env) :: starEach [] X.env := by rfl) (hpl : (backTo pos (starEach [ce] X.env)).any (·.1) = false := by rfl) :
    PE X (.Call (.Name "isinstance" p) [e, ce] [] pos) (rdE G n0 (eIsi tb fe)) := by
  refine peI (pe_callB call_isi hg hm hb (pa_cons (toV he) (pa_cons hc pa_nil hs2) hs) (by decide) (by decide) hs hpl) fun σ H Q ⟨F, r, env, S, g, s, h⟩ => ?_
  refine stV s cnE h fun p S1 F1 r1 H1 u x1 s1 q1 h1 => ?_
  simp only at h1
  cases et : tyN S1 p.2 with
  | none => rw [et] at h1; exact h1.elim
  | some t =>
    rw [et] at h1
    cases el : tb.lookup t with
    | none => simp only [el] at h1; exact h1.elim
    | some b =>
      simp only [el] at h1
      obtain ⟨k1, k2⟩ := hcl t b (tb_mem el)
      exact ⟨u, cv, t.val G, cu, b, rfl, hcv, hK ▸ tyN_ok s1.hr q1 k2 et, hK ▸ k1, h1 F1 r1 H1 _ x1 s1 rfl⟩
end
end PX
set_option Elab.async false
set_option linter.all false
set_option maxRecDepth 100000
namespace PX
open PySem PySem.Spec PyProof.Rows L2
section
open Builtin
variable {prog : Program} {w : World} {A : Around} {E : Value → Shared → Prop} {s : Shared} {K : PySem.W.Frag} {x C L f : Addr} {h₀ : Heap} {m : Str → Option Value} {ox : Obj} {od : Option Obj} {b tb : Value}
theorem ne_entry {Q : Fin → Shared → Prop} {h : Heap} {g : Array GenState} {d : Drawn} {t : Nat} {os : OsState} (hu : A.units < cLine) (X : K.In h) (I : PySem.W.InstAt h x ox C od)
    (hs : PySem.W.findIn K (.ref C) "__eq__" = some (some (.ref f))) (hf : PySem.W.isFn K (.ref f) = true)
    (hcall : wpAny (model prog w) A (call (.ref f) [.ref x, b]) (fun v s' => ∃ b, v = .bool b ∧ Q (.done (.ret (.bool (!b)))) s') E ⟨h, g, d, t, os⟩) :
    wpAny (model prog w) A (Builtin.«object.__ne__» ⟨[.ref x, b], []⟩) Q E ⟨h, g, d, t, os⟩ := by
  unfold Builtin.«object.__ne__»
  repeat (first
    | with_reducible refine wpAny_cRoomFor hu ?_
    | (refine wpAny_bind (m := callSpecialIfBound? (.ref x) (Str.ofString "__eq__") [b])
        (PySem.W.ifBound_K X I hs hf (wpAny_mono hcall (fun r s' hr => by
          obtain ⟨b, rfl, hq⟩ := hr
          repeat (first | exact hq | exact wpAny_pure hq | exact wpAny_truthy_bool hq | (refine wpAny_bind (m := truthy (.bool _)) (wpAny_truthy_bool ?_)) | wp_step)) fun _ _ e => e)))
    | wp_step)
theorem ne_try {Q : Option Value → Shared → Prop} (hu : A.units + 1 < cLine) (X : K.In s.heap) (I : PySem.W.InstAt s.heap x ox C od)
    (hne : PySem.W.findIn K (.ref C) "__ne__" = some (some (.builtin "object.__ne__"))) (hm : PySem.W.mroIn K C (.type "object") = some true) (hs : PySem.W.findIn K (.ref C) "__eq__" = some (some (.ref f))) (hf : PySem.W.isFn K (.ref f) = true)
    (h : wpAny (model prog w) A.in1 (call (.ref f) [.ref x, b]) (fun v s' => ∃ k, v = .bool k ∧ Q (some (.bool (!k))) s') E s) : wpAny (model prog w) A (tryCompare (.ref x) "__ne__" b) Q E s := by
  have S := PySem.F.cmp_object.ne
  simp only [tryCompare]
  refine wpAny_bind (m := callSpecialIfBound? (.ref x) "__ne__" [b]) ?_
  simp only [callSpecialIfBound?, bindSpecialIfBound?]
  have body : wpAny (model prog w) A (call (.builtin "object.__ne__") [.ref x, b]) (fun v s' => ∃ k, v = .bool (!k) ∧ Q (some (.bool (!k))) s') E s := by
    refine wpAny_call (codeAny_call_builtin S.plain F.cmpEntry_ne (PySem.W.check_slot F.cmpKind_ne F.cmpSplit_ne (I.type.andThen (PySem.W.looks_mroIn X hm)) (F.cmpArgs_ne _ _) ?_))
    obtain ⟨hp, g, d, t, os⟩ := s
    refine ne_entry (A := A.in1) hu X I hs hf (wpAny_mono h (fun v s' hv => ?_) fun _ _ e => e)
    obtain ⟨k, rfl, hq⟩ := hv
    exact ⟨k, rfl, k, rfl, hq⟩
  have fin : wpAny (model prog w) A (call (.builtin "object.__ne__") ([.ref x] ++ [b]) >>= fun v => pure (some v)) (fun r s' => wpAny (model prog w) A (match r with
      | some .notImplemented => pure none
      | none => pure none
      | some v => pure (some v)) Q E s') E s := by
    refine wpAny_bind (wpAny_mono body (fun v s' hv => ?_) fun _ _ e => e)
    obtain ⟨k, rfl, hq⟩ := hv
    exact wpAny_pure (wpAny_pure hq)
  refine wpAny_holding (wpAny_bind (wpAny_bind (wpAny_bind (I.type.here ((PySem.W.looks_findIn X hne).here ?_)))))
  simp only [S.bind]
  refine wpAny_bind (wpAny_askSetting (wpAny_ite ?_))
  split
  · exact wpAny_bind (wpAny_pure (wpAny_pure fin))
  · exact wpAny_tryCatch (wpAny_bind (wpAny_pure (wpAny_pure fin)))
theorem ne_K {Q : Value → Shared → Prop} (hu : A.units + 1 < cLine) (X : K.In s.heap) (I : PySem.W.InstAt s.heap x ox C od) (hb : PySem.W.Looks (model prog w) s.heap (typeOf b) tb) (hn : PySem.W.notFirst K C tb = true)
    (hne : PySem.W.findIn K (.ref C) "__ne__" = some (some (.builtin "object.__ne__"))) (hm : PySem.W.mroIn K C (.type "object") = some true) (hs : PySem.W.findIn K (.ref C) "__eq__" = some (some (.ref f))) (hf : PySem.W.isFn K (.ref f) = true)
    (h : wpAny (model prog w) A.in1 (call (.ref f) [.ref x, b]) (fun v s' => ∃ k, v = .bool k ∧ Q (.bool (!k)) s') E s) : wpAny (model prog w) A (richCompare .NotEq (.ref x) b) Q E s := by
  have one : wpAny (model prog w) A (tryCompare (.ref x) (cmpInfo .NotEq).2.1 b) (fun r s' => ∃ v, r = some v ∧ Q v s') E s :=
    ne_try hu X I hne hm hs hf (wpAny_mono h (fun v s' hv => by
      obtain ⟨k, e, q⟩ := hv
      exact ⟨k, e, _, rfl, q⟩) fun _ _ e => e)
  unfold richCompare
  simp only [oneThing_ref]
  refine wpAny_holding (wpAny_bind (wpAny_cRoomFor (Nat.lt_of_succ_lt hu) ?_))
  refine wpAny_bind (I.type.here (wpAny_bind (hb.here ?_)))
  split
  · rename_i q
    have e : PySem.W.subIn K tb (.ref C) = some false := by
      rcases Bool.or_eq_true_iff.mp hn with e | e
      · rw [beq_iff_eq.mp e] at q; simp at q
      · exact beq_iff_eq.mp e
    refine wpAny_bind ((PySem.W.looks_subIn X e).here ?_)
    simp only [Bool.false_eq_true, if_false]
    refine wpAny_bind (wpAny_mono one (fun r s' z => ?_) fun _ _ e => e)
    obtain ⟨v, rfl, hq⟩ := z
    exact wpAny_pure hq
  · refine wpAny_bind (wpAny_pure ?_)
    simp only [Bool.false_eq_true, if_false]
    refine wpAny_bind (wpAny_mono one (fun r s' z => ?_) fun _ _ e => e)
    obtain ⟨v, rfl, hq⟩ := z
    exact wpAny_pure hq
end
structure Spc (K : PySem.W.Frag) (C f : Addr) (name : Str) : Prop where
  at_ : PySem.W.findIn K (.ref C) name = some (some (.ref f))
  fn : PySem.W.isFn K (.ref f) = true
def callV (cf : CF) (f : Nat) (args : List PV) (S : Store) : R (Bool × PV) := (cutX S.length (cf f args S.length S)).bind fun v S2 => norm S.length v S2
def ownOf (tb : List (Nat × Nat)) (S : Store) (v : PV) : Option Nat := match deref S v with
  | some (.ins c _ _) => tb.lookup c
  | _ => none
def lenI (z : Bool × PV) (S : Store) : R (Bool × PV) := match z.2 with
  | .int n => if decide (0 ≤ n) && decide (n < 4611686018427387904) then .ok (false, .int n) S else .no
  | _ => .no
def eLen (cf : CF) (tb : List (Nat × Nat)) (a : SE) : SE := fun env S => (a env S).bind fun p S1 => match ownOf tb S1 p.2 with
  | some f => (callV cf f [p.2] S1).bind lenI
  | none => ofO (bLen [p.2] S1) S1
def notI (z : Bool × PV) (S : Store) : R (Bool × PV) := match z.2 with
  | .bl b => .ok (false, .bl (!b)) S
  | _ => .no
def okTy (tys : List TyN) (S : Store) (v : PV) : Bool := match tyN S v with
  | some t => tys.contains t
  | none => false
def eEq (cf : CF) (tb : List (Nat × Nat)) (tys : List TyN) (a b : SE) : SE := fun env S => (a env S).bind fun p S1 => (b env S1).bind fun q S2 => match ownOf tb S2 p.2 with
  | some f => if okTy tys S2 q.2 then callV cf f [p.2, q.2] S2 else .no
  | none => ofO (oEq p.2 q.2 S2) S2
def eNe (cf : CF) (tb : List (Nat × Nat)) (tys : List TyN) (a b : SE) : SE := fun env S => (a env S).bind fun p S1 => (b env S1).bind fun q S2 => match ownOf tb S2 p.2 with
  | some f => if okTy tys S2 q.2 then (callV cf f [p.2, q.2] S2).bind notI else .no
  | none => ofO (oNe p.2 q.2 S2) S2
section
variable {X : Cx} {k : Nat}
def rLenOwn (X : Cx) (k : Nat) : List V → Hp → VK → Prop := fun xs H Q => ∃ a C dx fs g sp, xs = [V.ref a] ∧ H a = some (.ins C dx fs) ∧ Spc X.K C g "__len__" ∧ FnR X.prog X.w X.K X.mg X.base (L2.CX X.prog X.w) k g sp ∧
  sp [.ref a] H (fun v H' => ∃ n : Int, v = .int n ∧ 0 ≤ n ∧ n < 2 ^ 63 ∧ Q (.int n) H') E0
theorem inst_at {pins : List (Addr × Obj)} {σ : L2.St} {H : Hp} {s : Shared} {a C dx : Addr} {fs : List (Str × V)} (I : Inv X pins σ H s) (ea : H a = some (.ins C dx fs)) : ∃ od, PySem.W.InstAt s.heap a (PySem.W.instObj C dx) C (some od) := by
  obtain ⟨mA, O, _⟩ := ins_get I.hok ea
  obtain ⟨od, J, _⟩ := O.look
  exact ⟨od, J⟩
theorem cr_lenOwn (hr : Room (k + 1) X.A) : CallR X (.builtin "len") (rLenOwn X k) := by
  intro pins s σ H xs us Q I r h
  obtain ⟨a, C, dx, fs, g, sp, rfl, ea, hs, F, q⟩ := h
  rw [Vals.ref1 r]
  obtain ⟨od, J⟩ := inst_at I ea
  obtain ⟨m, hF⟩ := I.fr
  refine PySem.W.len_K hF I.ok.mod.kin J hs.at_ hs.fn (wpAny_mono (wpAny_call (SlX.run_at (us := [.ref a]) (ws := [.ref a]) F hr.in1 I.env0.in1 passE0 I (.cons rfl .nil) q)) (fun w s' z => ?_) fun _ _ x => x)
  obtain ⟨z', H', I', rz, n, ez, h1, h2, qz⟩ := z
  subst ez
  obtain ⟨t, e⟩ := (show ∃ t, w = Value.int n t from rz)
  cases e
  exact ⟨⟨h1, h2⟩, .int n, H', I'.tok _, ⟨_, rfl⟩, qz⟩
def rEqOwn (X : Cx) (k : Nat) : R2 := fun x y H Q => ∃ a C dx fs g sp t, x = .ref a ∧ H a = some (.ins C dx fs) ∧ TyX X.K H y t ∧ PySem.W.notFirst X.K C t = true ∧ Spc X.K C g "__eq__" ∧ FnR X.prog X.w X.K X.mg X.base (L2.CX X.prog X.w) k g sp ∧ sp [x, y] H Q E0
theorem op_eqOwn (hr : Room (k + 1) X.A) : OpR X (compareOp .Eq) (rEqOwn X k) := by
  intro pins s σ H x y v u Q I rx ry h
  obtain ⟨a, C, dx, fs, g, sp, t, rfl, ea, ty, hn, hs, F, q⟩ := h
  cases (show v = Value.ref a from rx)
  obtain ⟨od, J⟩ := inst_at I ea
  obtain ⟨m, hF⟩ := I.fr
  obtain ⟨P, Z, p, _⟩ := kit_of I ry ty
  show wpAny (model X.prog X.w) X.A (richCompare .Eq (.ref a) u) (EP X pins σ Q) X.xe s
  refine PySem.W.cmp_K (op := .Eq) (tb := t) hr.units0 hF I.ok.mod.kin J (Z.ty _ _ I.kIn p) hn hs.at_ hs.fn ?_
  refine wpAny_mono (wpAny_call (run_fnR (us := [.ref a, u]) (vs := [.ref a, y]) F (hr.mono (Nat.le_succ k)) passE0 I (.cons rfl (.cons ry .nil)) q)) (fun w s' z => ?_) fun _ _ x => x
  obtain ⟨z', H', I', rz, qz⟩ := z
  exact SlX.cmpback rz ⟨z', H', I', rz, qz⟩
def rNeOwn (X : Cx) (k : Nat) : R2 := fun x y H Q => ∃ a C dx fs g sp t, x = .ref a ∧ H a = some (.ins C dx fs) ∧ TyX X.K H y t ∧ PySem.W.notFirst X.K C t = true ∧ Spc X.K C g "__eq__" ∧
  PySem.W.findIn X.K (.ref C) "__ne__" = some (some (.builtin "object.__ne__")) ∧ PySem.W.mroIn X.K C (.type "object") = some true ∧ FnR X.prog X.w X.K X.mg X.base (L2.CX X.prog X.w) k g sp ∧ sp [x, y] H (fun v H' => ∃ b, v = .bl b ∧ Q (.bl (!b)) H') E0
theorem op_neOwn (hr : Room (k + 1) X.A) : OpR X (compareOp .NotEq) (rNeOwn X k) := by
  intro pins s σ H x y v u Q I rx ry h
  obtain ⟨a, C, dx, fs, g, sp, t, rfl, ea, ty, hn, hs, hne, hm, F, q⟩ := h
  cases (show v = Value.ref a from rx)
  obtain ⟨od, J⟩ := inst_at I ea
  obtain ⟨P, Z, p, _⟩ := kit_of I ry ty
  show wpAny (model X.prog X.w) X.A (richCompare .NotEq (.ref a) u) (EP X pins σ Q) X.xe s
  refine ne_K (tb := t) (by have := hr.units; omega) I.kIn J (Z.ty _ _ I.kIn p) hn hne hm hs.at_ hs.fn ?_
  refine wpAny_mono (wpAny_call (SlX.run_at (us := [.ref a, u]) (ws := [.ref a, y]) F hr.in1 I.env0.in1 passE0 I (.cons rfl (.cons ry .nil)) q)) (fun w s' z => ?_) fun _ _ x => x
  obtain ⟨z', H', I', rz, b, ez, qz⟩ := z
  subst ez
  cases (show w = Value.bool b from rz)
  exact ⟨b, rfl, .bl (!b), H', I', rfl, qz⟩
end
section
variable {X : Cx} {G : Gam} {n0 : Nat} {cf : CF} {k : Nat}
theorem poB {g : Gh} {F0 : Hp} {r0 : List Addr} {env : Env} {σ : L2.St} {m : R (Bool × PV)} {kk : Bool × PV → Store → R (Bool × PV)} {Q Q' : VK} (h : PoE G n0 g F0 r0 env σ (m.bind kk) Q)
    (step : ∀ p S' F' r' H' u, Ext F0 F' r0 r' → Sg G n0 g F' r' env σ S' H' → RF G g F' r' H' p.1 p.2 u → PoE G n0 g F0 r0 env σ (kk p S') Q → Q' u H') : PoE G n0 g F0 r0 env σ m Q' := by
  cases m with
  | ok p S' => exact fun F' r' H' u x s q => step p S' F' r' H' u x s q h
  | ex => exact h
  | no => exact h
theorem se_of {ex : Expr} {t : TE} {f : SE} (hp : PE X ex t) (h : ∀ σ H Q, rdE G n0 f σ H Q → t σ H Q) : PE X ex (rdE G n0 f) := peI hp h
theorem st_of {ex : Expr} {t : TE} {f : SE} (hp : PT X ex (tTest t)) (h : ∀ σ H Q, rdE G n0 f σ H Q → t σ H Q) : PT X ex (rdT G n0 (tBl f)) := by
  refine ptI hp fun σ H Q ⟨F, r, env, S, g, s, p⟩ => h σ H _ ⟨F, r, env, S, g, s, ?_⟩
  have p : PoT G n0 g F r env σ ((f env S).bind fun p S1 => match p.2 with
    | .bl b => .ok b S1
    | _ => .no) Q := p
  cases e : f env S with
  | no => rw [e] at p; exact p
  | ex => rw [e] at p; exact p
  | ok q S' =>
    rw [e] at p
    obtain ⟨b, v⟩ := q
    cases v with
    | bl k =>
      intro F' r' H' u x s' rf
      exact ⟨k, bl_of rf, p F' r' H' x s'⟩
    | _ => exact p.elim
structure EqT (G : Gam) (tb : List (Nat × Nat)) (tys : List TyN) : Prop where
  spc : ∀ p ∈ tb, Spc G.K (G.ca p.1) (G.fa p.2) "__eq__"
  ne : ∀ p ∈ tb, PySem.W.findIn G.K (.ref (G.ca p.1)) "__ne__" = some (some (.builtin "object.__ne__")) ∧ PySem.W.mroIn G.K (G.ca p.1) (.type "object") = some true
  nf : ∀ p ∈ tb, ∀ t ∈ tys, PySem.W.notFirst G.K (G.ca p.1) (t.val G) = true
  cl : ∀ c, TyN.own c ∈ tys → ClsI G c
theorem own_at {tb : List (Nat × Nat)} {g : Gh} {F : Hp} {r : List Addr} {S : Store} {H : Hp} {v : PV} {u : V} {f : Nat} (h : HR G n0 g F r S H) (q : RV G F r v u) (e : ownOf tb S v = some f) : ∃ a c dx fs, u = .ref a ∧ H a = some (.ins (G.ca c) dx fs) ∧ (c, f) ∈ tb := by
  unfold ownOf at e
  split at e
  · rename_i c ns ws ed
    obtain ⟨a, dx, us, rfl, k1, k2, k3⟩ := view_ins h q ed
    exact ⟨a, c, dx, _, rfl, k1, look_mem e⟩
  · cases e
theorem okTy_at {tys : List TyN} {g : Gh} {F : Hp} {r : List Addr} {S : Store} {H : Hp} {v : PV} {u : V} (hc : ∀ c, TyN.own c ∈ tys → ClsI G c) (h : HR G n0 g F r S H) (q : RV G F r v u) (e : okTy tys S v = true) : ∃ t ∈ tys, TyX G.K H u (t.val G) := by
  unfold okTy at e
  cases et : tyN S v with
  | none => rw [et] at e; cases e
  | some t =>
    rw [et] at e
    have hm : t ∈ tys := by simpa using e
    exact ⟨t, hm, tyN_ok h q (fun c ec => hc c (ec ▸ hm)) et⟩
variable {tb : List (Nat × Nat)} {tys : List TyN} {fa fb : SE} {a b : Expr} {pos : Pos}
end
end PX
set_option Elab.async false
set_option linter.all false
set_option maxRecDepth 100000
namespace PX
open PySem PySem.Spec PyProof.Rows L2
def eqK : Key → Key → Bool
  | .inl i, .inl j => decide (i = j)
  | .inr x, .inr y => decide (x = y)
  | _, _ => false
theorem eqK_ok : ∀ a b : Key, eqK a b = decide (a = b)
  | .inl i, .inl j => by
    show decide (i = j) = _
    exact decide_eq_decide.mpr ⟨fun h => by rw [h], fun h => Sum.inl.inj h⟩
  | .inr i, .inr j => by
    show decide (i = j) = _
    exact decide_eq_decide.mpr ⟨fun h => by rw [h], fun h => Sum.inr.inj h⟩
  | .inl i, .inr j => by rw [decide_eq_false (fun z => nomatch z)]; rfl
  | .inr i, .inl j => by rw [decide_eq_false (fun z => nomatch z)]; rfl
def eqKs : List Key → List Key → Bool
  | [], [] => true
  | a :: as, b :: bs => eqK a b && eqKs as bs
  | _, _ => false
theorem eqKs_ok : ∀ a b : List Key, eqKs a b = decide (a = b)
  | [], [] => by rw [decide_eq_true rfl]; rfl
  | [], b :: bs => by rw [decide_eq_false (fun z => nomatch z)]; rfl
  | a :: as, [] => by rw [decide_eq_false (fun z => nomatch z)]; rfl
  | a :: as, b :: bs => by
    unfold eqKs
    rw [eqK_ok, eqKs_ok]
    by_cases h1 : a = b
    · by_cases h2 : as = bs
      · rw [decide_eq_true h1, decide_eq_true h2, decide_eq_true (by rw [h1, h2])]; rfl
      · rw [decide_eq_true h1, decide_eq_false h2, decide_eq_false (fun z => h2 (List.cons.inj z).2)]; rfl
    · rw [decide_eq_false h1, decide_eq_false (fun z => h1 (List.cons.inj z).1)]; rfl
section
variable {κ : Type}
def lookB (eq : κ → κ → Bool) : List κ → List PV → κ → Option PV
  | k :: ks, v :: vs, q => bif eq k q then some v else lookB eq ks vs q
  | _, _, _ => none
def anyB (eq : κ → κ → Bool) : List κ → κ → Bool
  | k :: ks, q => bif eq k q then true else anyB eq ks q
  | _, _ => false
def replB (eq : κ → κ → Bool) : List κ → List PV → κ → PV → List PV
  | k :: ks, v :: vs, q, w => (bif eq k q then w else v) :: replB eq ks vs q w
  | _, _, _, _ => []
def putB (eq : κ → κ → Bool) (ks : List κ) (vs : List PV) (q : κ) (w : PV) : List κ × List PV := bif anyB eq ks q then (ks, replB eq ks vs q w) else (ks ++ [q], vs ++ [w])
end
def keysOf : List PV → Option (List Key)
  | [] => some []
  | .int i :: r => (keysOf r).map (.inl i :: ·)
  | .str i :: r => (keysOf r).map (.inr i :: ·)
  | _ :: _ => none
def keyOf : PV → Option DK
  | .int i => some (.k (.inl i))
  | .str x => some (.k (.inr x))
  | .tup xs => (keysOf xs).map .t
  | _ => none
def dGet (ks : DKs) (vs : List PV) (q : DK) : Option (Option PV) := match ks, q with
  | .k l, .k q => some (lookB eqK l vs q)
  | .t l, .t q => some (lookB eqKs l vs q)
  | _, _ => none
def dPut (ks : DKs) (vs : List PV) (q : DK) (w : PV) : Option (DKs × List PV) := match ks, q with
  | .k l, .k q => let z := putB eqK l vs q w; some (.k z.1, z.2)
  | .t l, .t q => let z := putB eqKs l vs q w; some (.t z.1, z.2)
  | _, _ => none
def OptR (G : Gam) (F : Hp) (r : List Addr) (o : Option PV) (o' : Option V) : Prop := match o with
  | some w => ∃ y, o' = some y ∧ RV G F r w y
  | none => o' = none
section
variable {G : Gam} {F : Hp} {r : List Addr} {κ : Type} [DecidableEq κ] {eq : κ → κ → Bool}
theorem lookB_ok (he : ∀ a b, eq a b = decide (a = b)) (q : κ) : ∀ {ks : List κ} {us : List V} {vs : List PV}, ks.length = us.length → RVs G F r vs us → OptR G F r (lookB eq ks vs q) (valV (ks.zip us) q)
  | [], us, vs, _, _ => by
    cases vs <;> exact valV_nil
  | k :: ks, [], vs, h, _ => by cases h
  | k :: ks, u :: us, [], _, k' => by cases (show (u :: us) = [] from k')
  | k :: ks, u :: us, v :: vs, h, k' => by
    obtain ⟨u', ur, e, k1, k2⟩ := k'
    cases e
    unfold lookB
    rw [he]
    by_cases hq : k = q
    · rw [decide_eq_true hq]
      exact ⟨u, by rw [List.zip_cons_cons, valV_pos hq], k1⟩
    · rw [decide_eq_false hq]
      have ih := lookB_ok he q (by simpa using h) k2
      rw [List.zip_cons_cons, valV_neg hq]
      exact ih
theorem anyB_ok (he : ∀ a b, eq a b = decide (a = b)) (q : κ) : ∀ {ks : List κ} {us : List V}, ks.length = us.length → anyB eq ks q = (ks.zip us).any fun kv => decide (kv.1 = q)
  | [], us, _ => rfl
  | k :: ks, [], h => by cases h
  | k :: ks, u :: us, h => by
    unfold anyB
    rw [he, List.zip_cons_cons, List.any_cons, anyB_ok he q (us := us) (by simpa using h)]
    cases decide (k = q) <;> rfl
theorem replB_ok (he : ∀ a b, eq a b = decide (a = b)) {q : κ} {w : PV} {y : V} (hw : RV G F r w y) : ∀ {ks : List κ} {us : List V} {vs : List PV}, ks.length = us.length → RVs G F r vs us →
    ∃ us', (ks.zip us).map (fun kv => if kv.1 = q then (kv.1, y) else kv) = ks.zip us' ∧ ks.length = us'.length ∧ RVs G F r (replB eq ks vs q w) us'
  | [], us, vs, _, _ => ⟨[], rfl, rfl, by cases vs <;> exact rfl⟩
  | k :: ks, [], vs, h, _ => by cases h
  | k :: ks, u :: us, [], _, k' => by cases (show (u :: us) = [] from k')
  | k :: ks, u :: us, v :: vs, h, k' => by
    obtain ⟨u', ur, e, k1, k2⟩ := k'
    cases e
    obtain ⟨us', e1, e2, e3⟩ := replB_ok he hw (by simpa using h) k2
    unfold replB
    rw [List.zip_cons_cons, List.map_cons, e1, he]
    by_cases hq : k = q
    · rw [decide_eq_true hq, if_pos hq]
      exact ⟨y :: us', rfl, by simpa using e2, y, us', rfl, hw, e3⟩
    · rw [decide_eq_false hq, if_neg hq]
      exact ⟨u :: us', rfl, by simpa using e2, u, us', rfl, k1, e3⟩
theorem putB_ok (he : ∀ a b, eq a b = decide (a = b)) {q : κ} {w : PV} {y : V} (hw : RV G F r w y) {ks : List κ} {us : List V} {vs : List PV} (hl : ks.length = us.length) (k : RVs G F r vs us) :
    ∃ us', putK (ks.zip us) q y = (putB eq ks vs q w).1.zip us' ∧ (putB eq ks vs q w).1.length = us'.length ∧ RVs G F r (putB eq ks vs q w).2 us' := by
  unfold putB putK
  rw [anyB_ok he q hl]
  cases hb : (ks.zip us).any fun kv => decide (kv.1 = q) with
  | true =>
    rw [if_pos rfl]
    exact replB_ok he hw hl k
  | false =>
    rw [if_neg Bool.false_ne_true]
    refine ⟨us ++ [y], ?_, ?_, k.append ⟨y, [], rfl, hw, rfl⟩⟩
    · show ks.zip us ++ [(q, y)] = (ks ++ [q]).zip (us ++ [y])
      rw [List.zip_append hl]
      rfl
    · show (ks ++ [q]).length = (us ++ [y]).length
      rw [List.length_append, List.length_append, hl]
      rfl
end
section
variable {G : Gam} {n0 : Nat} {g : Gh} {F : Hp} {r : List Addr} {S : Store} {H : Hp}
theorem keysOf_ok : ∀ {xs : List PV} {us : List V} {ks : List Key}, RVs G F r xs us → keysOf xs = some ks → us = ks.map kV
  | [], us, ks, q, e => by cases e; exact q
  | v :: vs, us, ks, q, e => by
    obtain ⟨u, ur, rfl, k, l⟩ := q
    cases v <;> try cases e
    · rename_i i
      have e : (keysOf vs).map (.inl i :: ·) = some ks := e
      cases e1 : keysOf vs with
      | none => rw [e1] at e; cases e
      | some ks' =>
        rw [e1] at e
        cases e
        rw [keysOf_ok l e1, show u = V.int i from k]
        rfl
    · rename_i i
      have e : (keysOf vs).map (.inr i :: ·) = some ks := e
      cases e1 : keysOf vs with
      | none => rw [e1] at e; cases e
      | some ks' =>
        rw [e1] at e
        cases e
        rw [keysOf_ok l e1, show u = V.str i from k]
        rfl
theorem keyOf_k {v : PV} {u : V} {k : Key} (q : RV G F r v u) (e : keyOf v = some (.k k)) : u = kV k := by
  cases v <;> try cases e
  · exact q
  · exact q
  · rename_i xs
    have e : (keysOf xs).map .t = some (DK.k k) := e
    cases e1 : keysOf xs with
    | none => rw [e1] at e; cases e
    | some => rw [e1] at e; cases e
theorem keyOf_t {v : PV} {u : V} {k : List Key} (q : RV G F r v u) (e : keyOf v = some (.t k)) : ∃ b, u = .ref b ∧ F b = some (.tup (k.map kV)) := by
  cases v <;> try cases e
  rename_i xs
  have e : (keysOf xs).map .t = some (DK.t k) := e
  cases e1 : keysOf xs with
  | none => rw [e1] at e; cases e
  | some ks =>
    rw [e1] at e
    cases e
    obtain ⟨a, us, rfl, k1, k2⟩ := q
    rw [keysOf_ok k2 e1] at k1
    exact ⟨a, rfl, k1⟩
theorem dGet_ok (h : HR G n0 g F r S H) {v w : PV} {u y : V} {ks : DKs} {vs : List PV} {q : DK} {o : Option PV} (qd : RV G F r v u) (ed : deref S v = some (.dct ks vs)) (qk : RV G F r w y) (ek : keyOf w = some q) (e : dGet ks vs q = some o) :
    ∃ a o', u = .ref a ∧ DGet H a y o' ∧ OptR G F r o o' := by
  obtain ⟨a, ho, us, rfl, k1, k2, k3⟩ := view_dct h qd ed
  cases ks with
  | k l =>
    obtain ⟨rfl, hl⟩ := k2
    cases q with
    | t q => cases e
    | k q =>
      have e : some (lookB eqK l vs q) = some o := e
      have e := Option.some.inj e
      refine ⟨a, valV (l.zip us) q, rfl, .inl ⟨_, q, k1, keyOf_k qk ek, rfl⟩, ?_⟩
      have := lookB_ok eqK_ok q hl k3
      rw [e] at this
      exact this
  | t l =>
    obtain ⟨rfl, hl⟩ := k2
    cases q with
    | k q => cases e
    | t q =>
      have e : some (lookB eqKs l vs q) = some o := e
      have e := Option.some.inj e
      obtain ⟨b, rfl, eb⟩ := keyOf_t qk ek
      refine ⟨a, valV (l.zip us) q, rfl, .inr ⟨_, q, b, k1, rfl, h.sub.tpH eb, rfl⟩, ?_⟩
      have := lookB_ok eqKs_ok q hl k3
      rw [e] at this
      exact this
  | n l => cases q <;> cases e
end
end PX
set_option Elab.async false
set_option linter.all false
set_option maxRecDepth 100000
set_option maxHeartbeats 2000000
namespace ZG
open PySem RZ
def SqIt (b : Bool) (h : Heap) (it l : Addr) (i : Nat) : Prop := match b with
  | true => h.IsTupleIter it l i
  | false => h.IsListIter it l i
def SqOb (b : Bool) (h : Heap) (l : Addr) (items : Array Value) : Prop := match b with
  | true => h.IsTuple l items
  | false => h.IsList l items
section
variable {b : Bool} {h h' : Heap} {it l : Addr} {i : Nat} {items : Array Value}
theorem SqIt.at_ (q : SqIt b h it l i) (k : ∀ o, h.get? it = some o → h'.get? it = some o) : SqIt b h' it l i := by
  cases b with
  | true => exact Heap.IsTupleIter.at q k
  | false => exact Heap.IsListIter.at q k
theorem SqIt.obj (q : SqIt b h it l i) : ∃ o vs, h.get? it = some o ∧ o.data = .fields vs := by
  cases b with
  | true =>
    obtain ⟨o, e, _, d⟩ := q
    exact ⟨o, _, e, d⟩
  | false =>
    obtain ⟨o, e, _, d⟩ := q
    exact ⟨o, _, e, d⟩
theorem SqIt.lt (q : SqIt b h it l i) : it < h.objs.size := by
  obtain ⟨o, _, e, _⟩ := q.obj
  exact Heap.lt_size e
theorem SqIt.extBut {z : Addr} (q : SqIt b h it l i) (k : Heap.ExtBut z h h') (hz : it ≠ z) : SqIt b h' it l i := q.at_ fun o e => k _ _ hz e
theorem SqOb.extBut {z : Addr} (q : SqOb b h l items) (k : Heap.ExtBut z h h') (hz : l ≠ z) : SqOb b h' l items := by
  cases b with
  | true =>
    obtain ⟨o, e, r⟩ := (show h.IsTuple l items from q)
    exact (show h'.IsTuple l items from ⟨o, k _ _ hz e, r⟩)
  | false =>
    obtain ⟨o, e, r⟩ := (show h.IsList l items from q)
    exact (show h'.IsList l items from ⟨o, k _ _ hz e, r⟩)
theorem SqOb.push (q : SqOb b h l items) (o : Obj) : SqOb b (h.push o) l items := by
  cases b with
  | true =>
    obtain ⟨o', e, r⟩ := (show h.IsTuple l items from q)
    exact (show (h.push o).IsTuple l items from ⟨o', Heap.get?_push_of_some _ e, r⟩)
  | false =>
    obtain ⟨o', e, r⟩ := (show h.IsList l items from q)
    exact (show (h.push o).IsList l items from ⟨o', Heap.get?_push_of_some _ e, r⟩)
end
section
variable {prog : Program} {w : World} {A : Around} {E : Value → Shared → Prop} {s : Shared}
theorem nextOf_item {b : Bool} {it l : Addr} {i : Nat} {items : Array Value} {x : Value} {Q : Value → Shared → Prop} (hit : SqIt b s.heap it l i)
    (hl : SqOb b s.heap l items) (hx : items[i]? = some x)
    (hQ : ∀ h', SqIt b h' it l (i + 1) → Heap.SameBut it s.heap h' → Q x { s with heap := h' }) :
    wpAny (model prog w) A (Builtin.SmallTypes.nextOf (.ref it)) Q E s := by
  cases b with
  | true => exact nextOf_tuple_item hit hl hx hQ
  | false => exact wpAny_nextOf_list_item hit hl hx hQ
theorem nextOf_end {b : Bool} {it l : Addr} {i : Nat} {items : Array Value} {Q : Value → Shared → Prop} (hh : A.handled = none)
    (hit : SqIt b s.heap it l i) (hl : SqOb b s.heap l items) (hx : items[i]? = none)
    (hE : ∀ h' e, Heap.ExtBut it s.heap h' → (∃ o, h'.get? e = some o ∧ o.cls = .type "StopIteration") → E (.ref e) { s with heap := h' }) :
    wpAny (model prog w) A (Builtin.SmallTypes.nextOf (.ref it)) Q E s := by
  cases b with
  | true => exact nextOf_tuple_end hh hit hl hx hE
  | false => exact wpAny_nextOf_list_end hh hit hl hx hE
theorem zipG_next_item {b1 b2 : Bool} {z TI TO i1 i2 l1 l2 : Addr} {k1 k2 : Nat} {xs ys : Array Value} {x y a b : Value} {Q : Value → Shared → Prop} (D : ZipApart z TI TO i1 i2 l1 l2)
    (hz : IsZip s.heap z TI TO .none) (hTI : IsPair s.heap TI (.ref i1) (.ref i2)) (hTO : IsPair s.heap TO a b)
    (h1 : SqIt b1 s.heap i1 l1 k1) (h2 : SqIt b2 s.heap i2 l2 k2) (hl1 : SqOb b1 s.heap l1 xs) (hl2 : SqOb b2 s.heap l2 ys) (hx : xs[k1]? = some x) (hy : ys[k2]? = some y)
    (hQ : ∀ h', IsZip h' z TI TO (rawInt s.heap.objs.size) → IsPair h' TO x y → SqIt b1 h' i1 l1 (k1 + 1) → SqIt b2 h' i2 l2 (k2 + 1) → IsPair h' s.heap.objs.size x y → h'.objs.size = s.heap.objs.size + 1 →
      (∀ c o, c ≠ z → c ≠ TO → c ≠ i1 → c ≠ i2 → s.heap.get? c = some o → h'.get? c = some o) → Q (.ref s.heap.objs.size) { s with heap := h' }) :
    wpAny (model prog w) A (Builtin.«zip.__next__» ⟨[.ref z], []⟩) (fun fin s' => ∃ v, fin = .done (.ret v) ∧ Q v s') E s := by
  show wpAny _ _ (field (.ref z) 2 >>= _) _ _ _
  refine wpAny_bind (wpAny_field hz rfl (x := .bool false) rfl ?_)
  show wpAny _ _ (field (.ref z) 3 >>= _) _ _ _
  refine wpAny_bind (wpAny_field hz rfl (x := .ref TI) rfl ?_)
  refine wpAny_bind (wpAny_seqItems hTI rfl ?_)
  show wpAny _ _ (Builtin.SmallTypes.ownedTupleIsFree (.ref z) >>= _) _ _ _
  refine wpAny_bind ?_
  unfold Builtin.SmallTypes.ownedTupleIsFree
  refine wpAny_bind (wpAny_field hz rfl (x := .none) rfl (wpAny_pure ?_))
  simp only [if_true]
  refine wpAny_bind (wpAny_rule ?_)
  refine wpAny_bind (wpAny_field hz rfl (x := .ref TO) rfl ?_)
  refine wpAny_bind (wpAny_setField_rec hz (by simp) fun h₁ hz₁ hs₁ => ?_)
  replace hz₁ : IsZip h₁ z TI TO .ellipsis := hz₁
  refine wpAny_bind ?_
  simp only [List.zipIdx_cons, List.zipIdx_nil, List.forIn_cons, List.forIn_nil]

  refine wpAny_bind (wpAny_bind (wpAny_onRaise ?_))
  show wpAny _ _ (Builtin.SmallTypes.nextOf (.ref i1) >>= _) _ _ _
  refine wpAny_bind (nextOf_item (h1.extBut hs₁.extBut D.i1z) (hl1.extBut hs₁.extBut D.l1z) hx fun h₂ h1₂ hs₂ => wpAny_pure ?_)
  have hTO₂ : IsPair h₂ TO a b := hs₂.extBut _ _ D.TOi1 (hs₁.extBut _ _ D.TOz hTO)
  refine wpAny_bind (wpAny_seqItems hTO₂ rfl ?_)
  refine wpAny_bind (wpAny_updateSeq_pair hTO₂ fun h₃ hTO₃ hs₃ => ?_)
  replace hTO₃ : IsPair h₃ TO x b := hTO₃
  refine wpAny_bind (wpAny_letGo (wpAny_pure ?_))

  refine wpAny_bind (wpAny_bind (wpAny_onRaise ?_))
  show wpAny _ _ (Builtin.SmallTypes.nextOf (.ref i2) >>= _) _ _ _
  refine wpAny_bind (nextOf_item (((h2.extBut hs₁.extBut D.i2z).extBut hs₂.extBut D.i12.symm).extBut hs₃.extBut D.TOi2.symm)
    (((hl2.extBut hs₁.extBut D.l2z).extBut hs₂.extBut D.l2i1).extBut hs₃.extBut D.l2TO) hy fun h₄ h2₄ hs₄ => wpAny_pure ?_)
  have hTO₄ : IsPair h₄ TO x b := hs₄.extBut _ _ D.TOi2 hTO₃
  refine wpAny_bind (wpAny_seqItems hTO₄ rfl ?_)
  refine wpAny_bind (wpAny_updateSeq_pair hTO₄ fun h₅ hTO₅ hs₅ => ?_)
  replace hTO₅ : IsPair h₅ TO x y := hTO₅
  refine wpAny_bind (wpAny_letGo (wpAny_pure (wpAny_pure ?_)))

  refine wpAny_bind (wpAny_seqItems hTO₅ rfl ?_)
  refine wpAny_bind (wpAny_newTuple ?_)
  have hsz : h₅.objs.size = s.heap.objs.size := by rw [hs₅.1, hs₄.1, hs₃.1, hs₂.1, hs₁.1]
  have hz₅ : IsZip h₅ z TI TO .ellipsis := hs₅.extBut _ _ D.TOz.symm (hs₄.extBut _ _ D.i2z.symm (hs₃.extBut _ _ D.TOz.symm (hs₂.extBut _ _ D.i1z.symm hz₁)))
  have hk₅ : ∀ c o, c ≠ z → c ≠ TO → c ≠ i1 → c ≠ i2 → s.heap.get? c = some o → h₅.get? c = some o := fun c o c1 c2 c3 c4 e =>
    hs₅.extBut _ _ c2 (hs₄.extBut _ _ c4 (hs₃.extBut _ _ c2 (hs₂.extBut _ _ c3 (hs₁.extBut _ _ c1 e))))
  have h1₅ : SqIt b1 h₅ i1 l1 (k1 + 1) := ((h1₂.extBut hs₃.extBut D.TOi1.symm).extBut hs₄.extBut D.i12).extBut hs₅.extBut D.TOi1.symm
  have h2₅ : SqIt b2 h₅ i2 l2 (k2 + 1) := h2₄.extBut hs₅.extBut D.TOi2.symm
  have hzlt : z < h₅.objs.size := Heap.lt_size hz₅
  have hTOlt : TO < h₅.objs.size := Heap.lt_size hTO₅
  have hi1lt : i1 < h₅.objs.size := h1₅.lt
  have hi2lt : i2 < h₅.objs.size := h2₅.lt
  show wpAny _ _ (Builtin.SmallTypes.ownedTupleHandOut (.ref z) (.ref h₅.objs.size) >>= _) _ _ _
  refine wpAny_bind ?_
  unfold Builtin.SmallTypes.ownedTupleHandOut
  have hz₆ : IsZip (h₅.push { cls := .type "tuple", data := .seq #[x, y] }) z TI TO .ellipsis := Heap.get?_push_of_some _ hz₅
  refine wpAny_bind (wpAny_setField_rec hz₆ (by simp) fun h₇ hz₇ hs₇ => ?_)
  replace hz₇ : IsZip h₇ z TI TO (rawInt h₅.objs.size) := hz₇
  refine wpAny_setField_rec hz₇ (by simp) fun h₈ hz₈ hs₈ => ?_
  replace hz₈ : IsZip h₈ z TI TO (rawInt h₅.objs.size) := hz₈
  have up : ∀ c o, c ≠ z → h₅.get? c = some o → h₈.get? c = some o := fun c o c1 e => hs₈.extBut _ _ c1 (hs₇.extBut _ _ c1 (Heap.get?_push_of_some _ e))
  have hT₈ : IsPair h₈ h₅.objs.size x y := hs₈.extBut _ _ (Nat.ne_of_gt hzlt) (hs₇.extBut _ _ (Nat.ne_of_gt hzlt) (Heap.get?_push_size _ rfl))
  have hz8 : h₈.objs.size = h₅.objs.size + 1 := by rw [hs₈.1, hs₇.1, Heap.size_push]
  rw [hsz] at hz₈ hT₈ hz8
  refine wpAny_pure ⟨_, rfl, ?_⟩
  show Q (.ref h₅.objs.size) _
  rw [hsz]
  exact hQ h₈ hz₈ (up _ _ D.TOz hTO₅) (h1₅.at_ fun o e => up _ o D.i1z e) (h2₅.at_ fun o e => up _ o D.i2z e) hT₈ hz8 fun c o c1 c2 c3 c4 e => up c o c1 (hk₅ c o c1 c2 c3 c4 e)
theorem zipG_next_end {b1 b2 : Bool} {z TI TO i1 i2 l1 l2 : Addr} {k1 k2 : Nat} {xs ys : Array Value} {a b : Value} {Q : Fin → Shared → Prop} (hh : A.handled = none) (D : ZipApart z TI TO i1 i2 l1 l2)
    (hz : IsZip s.heap z TI TO .none) (hTI : IsPair s.heap TI (.ref i1) (.ref i2)) (hTO : IsPair s.heap TO a b)
    (h1 : SqIt b1 s.heap i1 l1 k1) (h2 : SqIt b2 s.heap i2 l2 k2) (hl1 : SqOb b1 s.heap l1 xs) (hl2 : SqOb b2 s.heap l2 ys) (hend : xs[k1]? = none ∨ ys[k2]? = none)
    (hE : ∀ h' e, (∀ c o, c ≠ z → c ≠ TO → c ≠ i1 → c ≠ i2 → s.heap.get? c = some o → h'.get? c = some o) → (∃ o, h'.get? e = some o ∧ o.cls = .type "StopIteration") → E (.ref e) { s with heap := h' }) :
    wpAny (model prog w) A (Builtin.«zip.__next__» ⟨[.ref z], []⟩) Q E s := by
  show wpAny _ _ (field (.ref z) 2 >>= _) _ _ _
  refine wpAny_bind (wpAny_field hz rfl (x := .bool false) rfl ?_)
  show wpAny _ _ (field (.ref z) 3 >>= _) _ _ _
  refine wpAny_bind (wpAny_field hz rfl (x := .ref TI) rfl ?_)
  refine wpAny_bind (wpAny_seqItems hTI rfl ?_)
  show wpAny _ _ (Builtin.SmallTypes.ownedTupleIsFree (.ref z) >>= _) _ _ _
  refine wpAny_bind ?_
  unfold Builtin.SmallTypes.ownedTupleIsFree
  refine wpAny_bind (wpAny_field hz rfl (x := .none) rfl (wpAny_pure ?_))
  simp only [if_true]
  refine wpAny_bind (wpAny_rule ?_)
  refine wpAny_bind (wpAny_field hz rfl (x := .ref TO) rfl ?_)
  refine wpAny_bind (wpAny_setField_rec hz (by simp) fun h₁ hz₁ hs₁ => ?_)
  replace hz₁ : IsZip h₁ z TI TO .ellipsis := hz₁
  refine wpAny_bind ?_
  simp only [List.zipIdx_cons, List.zipIdx_nil, List.forIn_cons, List.forIn_nil]
  refine wpAny_bind (wpAny_bind (wpAny_onRaise ?_))
  show wpAny _ _ (Builtin.SmallTypes.nextOf (.ref i1) >>= _) _ _ _
  cases hx : xs[k1]? with
  | none =>
    refine wpAny_bind (nextOf_end hh (h1.extBut hs₁.extBut D.i1z) (hl1.extBut hs₁.extBut D.l1z) hx fun h₂ e hs₂ he => ?_)
    obtain ⟨oe, hoe, hce⟩ := he
    have hz₂ : IsZip h₂ z TI TO .ellipsis := hs₂ _ _ D.i1z.symm hz₁
    have hez : e ≠ z := fun x => by subst x; rw [hz₂] at hoe; cases hoe; simp at hce
    refine wpAny_setField_rec hz₂ (by simp) fun h₃ _ hs₃ => hE h₃ e (fun c o c1 _ c3 _ x => hs₃.extBut _ _ c1 (hs₂ _ _ c3 (hs₁.extBut _ _ c1 x))) ⟨oe, hs₃.extBut _ _ hez hoe, hce⟩
  | some x =>
    have hy : ys[k2]? = none := by rcases hend with h | h; rw [hx] at h; cases h; exact h
    refine wpAny_bind (nextOf_item (h1.extBut hs₁.extBut D.i1z) (hl1.extBut hs₁.extBut D.l1z) hx fun h₂ h1₂ hs₂ => wpAny_pure ?_)
    have hTO₂ : IsPair h₂ TO a b := hs₂.extBut _ _ D.TOi1 (hs₁.extBut _ _ D.TOz hTO)
    refine wpAny_bind (wpAny_seqItems hTO₂ rfl ?_)
    refine wpAny_bind (wpAny_updateSeq_pair hTO₂ fun h₃ hTO₃ hs₃ => ?_)
    refine wpAny_bind (wpAny_letGo (wpAny_pure ?_))
    refine wpAny_bind (wpAny_bind (wpAny_onRaise ?_))
    show wpAny _ _ (Builtin.SmallTypes.nextOf (.ref i2) >>= _) _ _ _
    refine wpAny_bind (nextOf_end hh (((h2.extBut hs₁.extBut D.i2z).extBut hs₂.extBut D.i12.symm).extBut hs₃.extBut D.TOi2.symm)
      (((hl2.extBut hs₁.extBut D.l2z).extBut hs₂.extBut D.l2i1).extBut hs₃.extBut D.l2TO) hy fun h₄ e hs₄ he => ?_)
    obtain ⟨oe, hoe, hce⟩ := he
    have hz₄ : IsZip h₄ z TI TO .ellipsis := hs₄ _ _ D.i2z.symm (hs₃.extBut _ _ D.TOz.symm (hs₂.extBut _ _ D.i1z.symm hz₁))
    have hez : e ≠ z := fun x => by subst x; rw [hz₄] at hoe; cases hoe; simp at hce
    refine wpAny_setField_rec hz₄ (by simp) fun h₅ _ hs₅ => hE h₅ e (fun c o c1 c2 c3 c4 x => hs₅.extBut _ _ c1 (hs₄ _ _ c4 (hs₃.extBut _ _ c2 (hs₂.extBut _ _ c3 (hs₁.extBut _ _ c1 x))))) ⟨oe, hs₅.extBut _ _ hez hoe, hce⟩
theorem pyNext_zipG_item {b1 b2 : Bool} {z TI TO i1 i2 l1 l2 : Addr} {k1 k2 : Nat} {xs ys : Array Value} {x y a b : Value} {Q : Option Value → Shared → Prop} (D : ZipApart z TI TO i1 i2 l1 l2)
    (hz : IsZip s.heap z TI TO .none) (hTI : IsPair s.heap TI (.ref i1) (.ref i2)) (hTO : IsPair s.heap TO a b)
    (h1 : SqIt b1 s.heap i1 l1 k1) (h2 : SqIt b2 s.heap i2 l2 k2) (hl1 : SqOb b1 s.heap l1 xs) (hl2 : SqOb b2 s.heap l2 ys) (hx : xs[k1]? = some x) (hy : ys[k2]? = some y)
    (hQ : ∀ h', IsZip h' z TI TO (rawInt s.heap.objs.size) → IsPair h' TO x y → SqIt b1 h' i1 l1 (k1 + 1) → SqIt b2 h' i2 l2 (k2 + 1) → IsPair h' s.heap.objs.size x y → h'.objs.size = s.heap.objs.size + 1 →
      (∀ c o, c ≠ z → c ≠ TO → c ≠ i1 → c ≠ i2 → s.heap.get? c = some o → h'.get? c = some o) → Q (some (.ref s.heap.objs.size)) { s with heap := h' }) :
    wpAny (model prog w) A (pyNext (.ref z)) Q E s := by
  have hT : s.TypeIs (.ref z) "zip" := ⟨_, hz, rfl⟩
  unfold pyNext
  exact wpAny_bind (wpAny_attempt (wpAny_callSpecial?_slot (name := Str.ofString "__next__") hT F.slot_zip_next
    (wpAny_call_entry F.slot_zip_next hT F.entry_zip_next
      (zipG_next_item D hz hTI hTO h1 h2 hl1 hl2 hx hy fun h' a1 a2 a3 a4 a5 a6 a7 => wpAny_pure (hQ h' a1 a2 a3 a4 a5 a6 a7)) (F.args_zip_next_1 _))))
theorem pyNext_zipG_end {b1 b2 : Bool} {z TI TO i1 i2 l1 l2 : Addr} {k1 k2 : Nat} {xs ys : Array Value} {a b : Value} {Q : Option Value → Shared → Prop} (hh : A.handled = none) (D : ZipApart z TI TO i1 i2 l1 l2)
    (hz : IsZip s.heap z TI TO .none) (hTI : IsPair s.heap TI (.ref i1) (.ref i2)) (hTO : IsPair s.heap TO a b)
    (h1 : SqIt b1 s.heap i1 l1 k1) (h2 : SqIt b2 s.heap i2 l2 k2) (hl1 : SqOb b1 s.heap l1 xs) (hl2 : SqOb b2 s.heap l2 ys) (hend : xs[k1]? = none ∨ ys[k2]? = none)
    (hQ : ∀ h', (∀ c o, c ≠ z → c ≠ TO → c ≠ i1 → c ≠ i2 → s.heap.get? c = some o → h'.get? c = some o) → Q none { s with heap := h' }) : wpAny (model prog w) A (pyNext (.ref z)) Q E s := by
  have hT : s.TypeIs (.ref z) "zip" := ⟨_, hz, rfl⟩
  unfold pyNext
  refine wpAny_bind (wpAny_attempt (wpAny_callSpecial?_slot (name := Str.ofString "__next__") hT F.slot_zip_next
    (wpAny_call_entry F.slot_zip_next hT F.entry_zip_next (zipG_next_end hh D hz hTI hTO h1 h2 hl1 hl2 hend fun h' e hk he => ?_) (F.args_zip_next_1 _))))
  obtain ⟨o, ho, hc⟩ := he
  refine wpAny_bind (wpAny_isInstance (T := "StopIteration") (b := true) ⟨o, ho, hc⟩ isSubtype_stop ?_)
  exact wpAny_pure (hQ _ hk)
end
def itObj (b : Bool) (l : Addr) : Obj := { cls := .type (bif b then "tuple_iterator" else "list_iterator"), data := .fields #[.ref l, .int 0 0] }
theorem SqIt.new {b : Bool} {h : Heap} {it l : Addr} (e : h.get? it = some (itObj b l)) : SqIt b h it l 0 := by
  cases b with
  | true => exact ⟨_, e, rfl, rfl⟩
  | false => exact ⟨_, e, rfl, rfl⟩
theorem pyIter_sq {prog : Program} {w : World} {A : Around} {E : Value → Shared → Prop} {s : Shared} {b : Bool} {l : Addr} {items : Array Value} {Q : Value → Shared → Prop} (hl : SqOb b s.heap l items)
    (h : Q (.ref s.heap.objs.size) { s with heap := s.heap.push (itObj b l) }) : wpAny (model prog w) A (pyIter (.ref l)) Q E s := by
  cases b with
  | true => exact wpAny_pyIter_tuple hl h
  | false => exact wpAny_pyIter_list hl h
abbrev zH1 (b1 : Bool) (h : Heap) (l1 : Addr) : Heap := h.push (itObj b1 l1)
abbrev zH2 (b1 b2 : Bool) (h : Heap) (l1 l2 : Addr) : Heap := (zH1 b1 h l1).push (itObj b2 l2)
abbrev zH3 (b1 b2 : Bool) (h : Heap) (l1 l2 : Addr) : Heap := (zH2 b1 b2 h l1 l2).push { cls := .type "tuple", data := .seq #[.ref h.objs.size, .ref (zH1 b1 h l1).objs.size] }
abbrev zH4 (b1 b2 : Bool) (h : Heap) (l1 l2 : Addr) : Heap := (zH3 b1 b2 h l1 l2).push { cls := .type "tuple", data := .seq #[.none, .none] }
abbrev zH5 (b1 b2 : Bool) (h : Heap) (l1 l2 : Addr) : Heap := (zH4 b1 b2 h l1 l2).push { cls := .type "zip", data := .fields #[.none, .bool false, .bool false, .ref (zH2 b1 b2 h l1 l2).objs.size, .ref (zH3 b1 b2 h l1 l2).objs.size] }
theorem meets_zipG_new (b1 b2 : Bool) (l1 l2 : Addr) (xs ys : Array Value) :
    Meets (Builtin.«zip.__new__» ⟨[.type "zip", .ref l1, .ref l2], []⟩) (fun _ R s => SqOb b1 s.heap l1 xs ∧ SqOb b2 s.heap l2 ys ∧
      R (.ok (.ret (.ref (zH4 b1 b2 s.heap l1 l2).objs.size))) { s with heap := zH5 b1 b2 s.heap l1 l2 }) :=
  .of_wp fun prog w A R s h => by
    obtain ⟨hp, g, d, tk, os⟩ := s; obtain ⟨hl1, hl2, h⟩ := h
    have hsub := sub_zip
    have hL1 : SqOb b1 (Shared.heap ⟨hp, g, d, tk, os⟩) l1 xs := hl1
    have hL2 : SqOb b2 (Shared.heap ⟨hp.push (itObj b1 l1), g, d, tk, os⟩) l2 ys := SqOb.push hl2 _
    wp_walk using pyIter_sq hL1, pyIter_sq hL2
    exact ⟨_, rfl, h⟩
theorem call_zipG {prog : Program} {w : World} {A : Around} {E : Value → Shared → Prop} {s : Shared} {b1 b2 : Bool} {l1 l2 : Addr} {xs ys : Array Value} {Q : Value → Shared → Prop} (hl1 : SqOb b1 s.heap l1 xs) (hl2 : SqOb b2 s.heap l2 ys)
    (h : ∀ h', IsZip h' (s.heap.objs.size + 4) (s.heap.objs.size + 2) (s.heap.objs.size + 3) .none → IsPair h' (s.heap.objs.size + 2) (.ref s.heap.objs.size) (.ref (s.heap.objs.size + 1)) →
      IsPair h' (s.heap.objs.size + 3) .none .none → SqIt b1 h' s.heap.objs.size l1 0 → SqIt b2 h' (s.heap.objs.size + 1) l2 0 → h'.objs.size = s.heap.objs.size + 5 →
      (∀ c o, s.heap.get? c = some o → h'.get? c = some o) → Q (.ref (s.heap.objs.size + 4)) { s with heap := h' }) :
    wpAny (model prog w) A (call (.type "zip") [.ref l1, .ref l2]) Q E s := by
  refine callType_new F.called_zip (by decide) (F.typeCall_zip_2 _ _) (F.newCall_zip_2 _ _) (fun obj => F.args_object_init_3 obj _ _) F.entry_zip_new
    (meets_zipG_new b1 b2 l1 l2 xs ys) ⟨hl1, hl2, ?_⟩
  have fr1 : (itObj b1 l1).isFreed = false := by cases b1 <;> rfl
  have fr2 : (itObj b2 l2).isFreed = false := by cases b2 <;> rfl
  have z1 : (zH1 b1 s.heap l1).objs.size = s.heap.objs.size + 1 := Heap.size_push ..
  have z2 : (zH2 b1 b2 s.heap l1 l2).objs.size = s.heap.objs.size + 2 := by rw [Heap.size_push, z1]
  have z3 : (zH3 b1 b2 s.heap l1 l2).objs.size = s.heap.objs.size + 3 := by rw [Heap.size_push, z2]
  have z4 : (zH4 b1 b2 s.heap l1 l2).objs.size = s.heap.objs.size + 4 := by rw [Heap.size_push, z3]
  have z5 : (zH5 b1 b2 s.heap l1 l2).objs.size = s.heap.objs.size + 5 := by rw [Heap.size_push, z4]
  have g5 : (zH5 b1 b2 s.heap l1 l2).get? (zH4 b1 b2 s.heap l1 l2).objs.size = some _ := Heap.get?_push_size _ rfl
  have g4 : (zH5 b1 b2 s.heap l1 l2).get? (zH3 b1 b2 s.heap l1 l2).objs.size = some _ := Heap.get?_push_of_some _ (Heap.get?_push_size _ rfl)
  have g3 : (zH5 b1 b2 s.heap l1 l2).get? (zH2 b1 b2 s.heap l1 l2).objs.size = some _ := Heap.get?_push_of_some _ (Heap.get?_push_of_some _ (Heap.get?_push_size _ rfl))
  have g2 : (zH5 b1 b2 s.heap l1 l2).get? (zH1 b1 s.heap l1).objs.size = some (itObj b2 l2) := Heap.get?_push_of_some _ (Heap.get?_push_of_some _ (Heap.get?_push_of_some _ (Heap.get?_push_size _ fr2)))
  have g1 : (zH5 b1 b2 s.heap l1 l2).get? s.heap.objs.size = some (itObj b1 l1) := Heap.get?_push_of_some _ (Heap.get?_push_of_some _ (Heap.get?_push_of_some _ (Heap.get?_push_of_some _ (Heap.get?_push_size _ fr1))))
  show _ ∧ _
  rw [z2, z3, z4] at g5
  rw [z1, z2] at g3
  rw [z3] at g4
  rw [z1] at g2
  rw [z4]
  exact ⟨⟨_, g5, rfl⟩, h _ g5 g3 g4 (SqIt.new g1) (SqIt.new g2) z5 fun c o x =>
    Heap.get?_push_of_some _ (Heap.get?_push_of_some _ (Heap.get?_push_of_some _ (Heap.get?_push_of_some _ (Heap.get?_push_of_some _ x))))⟩
open AutoSeq1 (wpAny_loadPart')
abbrev sqTy (b : Bool) : String := match b with
  | true => "tuple"
  | false => "list"
theorem SqOb.get {b : Bool} {h : Heap} {l : Addr} {items : Array Value} (q : SqOb b h l items) : ∃ dct n sl, h.get? l = some { cls := .type (sqTy b), dict := dct, data := .seq items n, slots := sl } := by
  cases b with
  | true =>
    obtain ⟨⟨c, dct, dt, sl⟩, hl, hc, n, hd⟩ := (show h.IsTuple l items from q)
    replace hc : c = .type "tuple" := hc
    replace hd : dt = .seq items n := hd
    subst hc hd
    exact ⟨dct, n, sl, hl⟩
  | false =>
    obtain ⟨⟨c, dct, dt, sl⟩, hl, hc, n, hd⟩ := (show h.IsList l items from q)
    replace hc : c = .type "list" := hc
    replace hd : dt = .seq items n := hd
    subst hc hd
    exact ⟨dct, n, sl, hl⟩
theorem meets_enumG_new (b : Bool) (l : Addr) (items : Array Value) :
    Meets (Builtin.«enumerate.__new__» ⟨[.type "enumerate", .ref l], []⟩) (fun _ R s => SqOb b s.heap l items ∧
      R (.ok (.ret (.ref (s.heap.push (itObj b l)).objs.size)))
        { s with heap := (s.heap.push (itObj b l)).push { cls := .type "enumerate", data := .fields #[.none, .bool false, .ref s.heap.objs.size, rawInt 0, .none, .none] } }) :=
  .of_wp fun prog w A R s h => by
    obtain ⟨hp, g, d, tk, os⟩ := s; obtain ⟨hl0, h⟩ := h
    obtain ⟨dct, n, sl, hl⟩ := hl0.get
    have hsub := sub_enumerate
    have hL : SqOb b (Shared.heap ⟨hp, g, d, tk, os⟩) l items := hl0
    cases b with
    | true =>
      wp_walk using wpAny_loadPart' hl
      refine wpAny_stack_any fun st => wpAny_pure ?_
      split
      · rename_i c _ _ _ _ _
        cases (c == Value.type "enumerate")
        · wp_walk using wpAny_loadPart' hl, pyIter_sq hL
          exact ⟨_, rfl, h⟩
        · wp_walk using wpAny_loadPart' hl, pyIter_sq hL
          exact ⟨_, rfl, h⟩
      · wp_walk using wpAny_loadPart' hl, pyIter_sq hL
        exact ⟨_, rfl, h⟩
    | false =>
      wp_walk using wpAny_loadPart' hl
      refine wpAny_stack_any fun st => wpAny_pure ?_
      split
      · rename_i c _ _ _ _ _
        cases (c == Value.type "enumerate")
        · wp_walk using wpAny_loadPart' hl, pyIter_sq hL
          exact ⟨_, rfl, h⟩
        · wp_walk using wpAny_loadPart' hl, pyIter_sq hL
          exact ⟨_, rfl, h⟩
      · wp_walk using wpAny_loadPart' hl, pyIter_sq hL
        exact ⟨_, rfl, h⟩
section
variable {prog : Program} {w : World} {A : Around} {E : Value → Shared → Prop} {s : Shared}
theorem call_enumG {b : Bool} {l : Addr} {items : Array Value} {Q : Value → Shared → Prop} (hL : SqOb b s.heap l items)
    (h : ∀ h', IsEnum h' (s.heap.objs.size + 1) s.heap.objs.size 0 .none → SqIt b h' s.heap.objs.size l 0 → h'.objs.size = s.heap.objs.size + 2 →
      (∀ b o, s.heap.get? b = some o → h'.get? b = some o) → Q (.ref (s.heap.objs.size + 1)) { s with heap := h' }) :
    wpAny (model prog w) A (call (.type "enumerate") [.ref l]) Q E s := by
  refine callType_new F.called_enumerate (by decide) (F.typeCall_enumerate_1 _) (F.newCall_enumerate_1 _) (fun obj => F.args_object_init_2 obj _) F.entry_enumerate_new
    (meets_enumG_new b l items) ⟨hL, ?_⟩
  have fr : (itObj b l).isFreed = false := by cases b <;> rfl
  have hz : (s.heap.push (itObj b l)).objs.size = s.heap.objs.size + 1 := Heap.size_push ..
  show _ ∧ _
  rw [hz]
  have he : IsEnum ((s.heap.push (itObj b l)).push
      { cls := .type "enumerate", data := .fields #[.none, .bool false, .ref s.heap.objs.size, rawInt 0, .none, .none] }) (s.heap.objs.size + 1) s.heap.objs.size 0 .none := by
    have := Heap.get?_push_size (s.heap.push (itObj b l))
      (o := { cls := .type "enumerate", data := .fields #[.none, .bool false, .ref s.heap.objs.size, rawInt 0, .none, .none] }) rfl
    rw [hz] at this; exact this
  exact ⟨⟨_, he, rfl⟩, h _ he (SqIt.new (Heap.get?_push_of_some _ (Heap.get?_push_size _ fr))) (by rw [Heap.size_push, hz]) fun b o x => Heap.get?_push_of_some _ (Heap.get?_push_of_some _ x)⟩
theorem drawsG (hh : A.handled = none) (b : Bool) (it l : Addr) (hne : l ≠ it) (items : Array Value) :
    Draws prog w A it [it, l] items.size (fun i v => items[i]? = some v) (fun i h => SqIt b h it l i ∧ SqOb b h l items) where
  live := fun _ _ st => by
    obtain ⟨o, _, e, _⟩ := st.1.obj
    exact ⟨o, e⟩
  frame := fun _ _ _ st hk => ⟨st.1.at_ fun o e => hk it (by simp) o e, by
    have q := st.2
    cases b with
    | true => exact Heap.IsTuple.at q fun o e => hk l (by simp) o e
    | false => exact Heap.IsList.at q fun o e => hk l (by simp) o e⟩
  item := fun i s Q E hi st hQ => by
    refine nextOf_item st.1 st.2 (x := items[i]) (by simp [hi]) fun h' hit' hs' => ?_
    exact hQ _ h' s.toks (by simp [hi]) ⟨hit', st.2.extBut hs'.extBut hne⟩ hs'
  done := fun s Q E st hE => nextOf_end hh st.1 st.2 (by simp) hE
theorem wpAny_pyNext_enum_endG {b : Bool} {e it l : Addr} {i : Nat} {items : Array Value} {old : Value} {Q : Option Value → Shared → Prop} (hh : A.handled = none)
    (he : IsEnum s.heap e it i old) (hit : SqIt b s.heap it l i) (hl : SqOb b s.heap l items) (hx : items[i]? = none)
    (hQ : ∀ h', Heap.ExtBut it s.heap h' → Q none { s with heap := h' }) : wpAny (model prog w) A (pyNext (.ref e)) Q E s := by
  have hT : s.TypeIs (.ref e) "enumerate" := ⟨_, he, rfl⟩
  unfold pyNext
  refine wpAny_bind (wpAny_attempt (wpAny_callSpecial?_slot (name := Str.ofString "__next__") hT F.slot_enumerate_next
    (wpAny_call_entry F.slot_enumerate_next hT F.entry_enumerate_next ?_ (F.args_enumerate_next_1 _))))
  show wpAny _ _ (field (.ref e) 2 >>= _) _ _ _
  refine wpAny_bind (wpAny_field he rfl (x := .ref it) rfl ?_)
  refine wpAny_bind (nextOf_end hh hit hl hx fun h' x he' hx' => ?_)
  obtain ⟨o, ho, hc⟩ := hx'
  refine wpAny_bind (wpAny_isInstance (T := "StopIteration") (b := true) ⟨o, ho, hc⟩ isSubtype_stop ?_)
  exact wpAny_pure (hQ _ he')
end
end ZG
set_option Elab.async false
set_option linter.all false
set_option maxRecDepth 100000
set_option maxHeartbeats 1000000
namespace PX
open PySem PySem.Spec PyProof.Rows L2 ZG
def SqG (b : Bool) (K : PySem.W.Frag) (H : Hp) (a : Addr) (xs : List V) : Prop := match b with
  | true => SqT K H a xs
  | false => SqL K H a xs
theorem Inv.sqG {X : Cx} {pins : List (Addr × Obj)} {σ : L2.St} {H : Hp} {s : Shared} {b : Bool} {a : Addr} {xs : List V} (I : L2.Inv X pins σ H s) (q : SqG b X.K H a xs) : ∃ its, Vals xs its ∧ SqOb b s.heap a its.toArray ∧ a < s.heap.objs.size := by
  cases b with
  | true =>
    obtain ⟨its, rv, p, _⟩ := I.tuple q
    obtain ⟨o, ho, _⟩ := id p
    exact ⟨its, rv, p, Heap.lt_size ho⟩
  | false =>
    obtain ⟨its, rv, p, _⟩ := I.list q
    exact ⟨its, rv, p.isList, p.lt⟩
theorem Inv.sqG_inj {X : Cx} {pins : List (Addr × Obj)} {σ : L2.St} {H : Hp} {s : Shared} {b : Bool} {a : Addr} {xs ys : List V} (I : L2.Inv X pins σ H s) (q : SqG b X.K H a xs) (q' : SqG b X.K H a ys) : xs = ys := by
  cases b with
  | true => exact I.tuple_inj q q'
  | false => exact I.list_inj q q'
def Iteg (K : PySem.W.Frag) (b : Bool) (a : Addr) : It :=
  ⟨fun i H => ∃ (xs : List V) (x : V), SqG b K H a xs ∧ xs[i]? = some x, fun i H v H' => ∃ T x, v = .ref T ∧ H T = none ∧ H' = upd H T (.tup [.int (i : Nat), x]) ∧ ∀ xs, SqG b K H a xs → xs[i]? = some x, fun i H => ∃ xs : List V, SqG b K H a xs ∧ xs.length ≤ i⟩
theorem turn_enumG {P : Program} {w : World} {K : PySem.W.Frag} {elts : List Expr} {kk : Nat} {tpos : Pos} (b : Bool) (a e it : Addr) :
    Turn P w K (.Tuple elts kk tpos) (Iteg K b a) [e, it] e (fun i h => (∃ old, IsEnum h e it ((i : Nat) : Int) old) ∧ SqIt b h it a i ∧ e ≠ it ∧ a ≠ it ∧ e ≠ a) where
  mem := by simp
  obj := fun i h st c hc => by
    obtain ⟨⟨old, he⟩, hit, _⟩ := st
    have e' : c = e ∨ c = it := by simpa using hc
    rcases e' with z | z
    · rw [z]; exact ⟨_, he, fun v q => nomatch q⟩
    · rw [z]
      obtain ⟨o, vs, ho, hd⟩ := hit.obj
      exact ⟨o, ho, fun v q => by rw [hd] at q; cases q⟩
  keep := fun i h h' st k => let ⟨⟨old, he⟩, hi, hne⟩ := st; ⟨⟨old, k e (by simp) _ he⟩, hi.at_ fun o q => k it (by simp) o q, hne⟩
  item := by
    intro X hP hw hK hc i pins s σ H E I hf st hg
    subst hP hw hK
    obtain ⟨⟨old, he⟩, hit, hne, hai, hea⟩ := st
    obtain ⟨xs, x, hq, hx⟩ := hg
    obtain ⟨its, rv, p, hz⟩ := Inv.sqG I hq
    obtain ⟨u, hu, ru⟩ := rv.get hx
    have hel : e < s.heap.objs.size := Heap.lt_size he
    have hil : it < s.heap.objs.size := hit.lt
    have hlt : i < its.toArray.size := by
      have := (List.getElem?_eq_some_iff.mp hu).1
      simpa using this
    refine wpAny_pyNext_enum_itemD (drawsG (A := X.A.in1) (I.ok.hd hc) b it a hai its.toArray) he ⟨hit, p⟩ hlt hne (by simp [hne, hea]) fun u' h' tk hP ho st' hT hsz hk => ?_
    have eu : u' = u := by
      have hP : its.toArray[i]? = some u' := hP
      rw [List.getElem?_toArray, hu] at hP
      exact (Option.some.inj hP).symm
    subst eu
    refine ⟨_, rfl, wpAny_letOwnedTupleGo_enum (s := { s with heap := h', toks := tk + 1 }) ho fun h'' he' sb => ?_⟩
    have hT2 : h''.get? s.heap.objs.size = some { cls := .type "tuple", data := .seq #[.int i tk, u'] } := (sb.2 _ (Nat.ne_of_gt hel)).trans hT
    have new : ObjOk X.prog X.w (upd H s.heap.objs.size (.tup [.int (i : Nat), x])) h'' s.heap.objs.size (.tup [.int (i : Nat), x]) :=
      ⟨by show 2 ≤ sizeLine; decide, [.int i tk, u'], .cons ⟨_, rfl⟩ (.cons ru .nil), ⟨_, hT2, rfl, _, rfl⟩⟩
    have I1 : L2.Inv X pins σ (upd H s.heap.objs.size (.tup [.int (i : Nat), x])) { s with heap := h'', toks := tk + 1 } :=
      I.turnedNew (t' := tk + 1) (ch := [e, it]) (fun c o hb q => (sb.2 c (fun q' => hb (by simp [q']))).trans (hk c o (fun q' => hb (by simp [q'])) (fun q' => hb (by simp [q'])) q)) hf (Nat.le_refl _) new
    refine ⟨.ref s.heap.objs.size, _, I1, rfl, ⟨_, x, rfl, I.hok.fresh (Nat.le_refl _), rfl, fun l hl => by rw [Inv.sqG_inj I hl hq]; exact hx⟩, ⟨⟨_, he'⟩, ?_, hne, hai, hea⟩, fun c hcm => ?_⟩
    · exact st'.1.at_ fun o q => (sb.2 _ hne.symm).trans q
    · have hlt : c < s.heap.objs.size := by
        have e' : c = e ∨ c = it := by simpa using hcm
        rcases e' with z | z
        · rw [z]; exact hel
        · rw [z]; exact hil
      rw [upd_ne (Nat.ne_of_lt hlt)]
      exact (hf c hcm).1
  done := by
    intro X hP hw hK hc i pins s σ H E I hf st hg
    subst hP hw hK
    obtain ⟨⟨old, he⟩, hit, hne, hai, hea⟩ := st
    obtain ⟨xs, hq, hx⟩ := hg
    obtain ⟨its, rv, p, hz⟩ := Inv.sqG I hq
    obtain ⟨f0, f1, f2, f3, f4, f5⟩ := hf it (by simp)
    have hl := rv.length
    have hn : its.toArray[i]? = none := by simp; omega
    refine wpAny_pyNext_enum_endG (I.ok.hd hc) he hit p hn fun h' eb => ⟨rfl, I.turned (t' := s.toks) (fun b o hb q => eb b o hb q) f0 f1 f3 f4 f5⟩
  self := fun A i s Q E st h => let ⟨⟨_, he⟩, _⟩ := st; wpAny_pyIter_enum he h
def Itzg (K : PySem.W.Frag) (b1 b2 : Bool) (a b : Addr) : It :=
  ⟨fun i H => ∃ (xs ys : List V) (x y : V), SqG b1 K H a xs ∧ SqG b2 K H b ys ∧ xs[i]? = some x ∧ ys[i]? = some y,
    fun i H v H' => ∃ T x y, v = .ref T ∧ H T = none ∧ H' = upd H T (.tup [x, y]) ∧ (∀ xs, SqG b1 K H a xs → xs[i]? = some x) ∧ ∀ ys, SqG b2 K H b ys → ys[i]? = some y,
    fun i H => ∃ xs ys : List V, SqG b1 K H a xs ∧ SqG b2 K H b ys ∧ (xs.length ≤ i ∨ ys.length ≤ i)⟩
theorem turn_zipG {P : Program} {w : World} {K : PySem.W.Frag} {elts : List Expr} {kk : Nat} {tpos : Pos} (b1 b2 : Bool) {a b z TI TO i1 i2 : Addr} (D : ZipApart z TI TO i1 i2 a b) :
    Turn P w K (.Tuple elts kk tpos) (Itzg K b1 b2 a b) [z, TI, TO, i1, i2] z (fun i h => IsZip h z TI TO .none ∧ IsPair h TI (.ref i1) (.ref i2) ∧ (∃ x y, IsPair h TO x y) ∧ SqIt b1 h i1 a i ∧ SqIt b2 h i2 b i) where
  mem := by simp
  obj := fun i h st c hc => by
    obtain ⟨hz, hTI, ⟨x, y, hTO⟩, h1, h2⟩ := st
    have e' : c = z ∨ c = TI ∨ c = TO ∨ c = i1 ∨ c = i2 := by simpa using hc
    rcases e' with q | q | q | q | q
    · rw [q]; exact ⟨_, hz, fun v q => nomatch q⟩
    · rw [q]; exact ⟨_, hTI, fun v q => nomatch q⟩
    · rw [q]; exact ⟨_, hTO, fun v q => nomatch q⟩
    · rw [q]
      obtain ⟨o1, _, e1, d1⟩ := h1.obj
      exact ⟨o1, e1, fun v q => by rw [d1] at q; cases q⟩
    · rw [q]
      obtain ⟨o1, _, e1, d1⟩ := h2.obj
      exact ⟨o1, e1, fun v q => by rw [d1] at q; cases q⟩
  keep := fun i h h' st k => by
    obtain ⟨hz, hTI, ⟨x, y, hTO⟩, h1, h2⟩ := st
    exact ⟨k z (by simp) _ hz, k TI (by simp) _ hTI, ⟨x, y, k TO (by simp) _ hTO⟩, h1.at_ fun o q => k i1 (by simp) o q, h2.at_ fun o q => k i2 (by simp) o q⟩
  item := by
    intro X hP hw hK hc i pins s σ H E I hf st hg
    subst hP hw hK
    obtain ⟨hz, hTI, ⟨x0, y0, hTO⟩, h1, h2⟩ := st
    obtain ⟨xs, ys, x, y, hqx, hqy, hx, hy⟩ := hg
    obtain ⟨its, rv, p, _⟩ := Inv.sqG I hqx
    obtain ⟨its2, rv2, p2, _⟩ := Inv.sqG I hqy
    obtain ⟨u, hu, ru⟩ := rv.get hx
    obtain ⟨u2, hu2, ru2⟩ := rv2.get hy
    have hzl : z < s.heap.objs.size := Heap.lt_size hz
    refine pyNext_zipG_item D hz hTI hTO h1 h2 p p2 (x := u) (y := u2) (by simpa using hu) (by simpa using hu2) fun h' z' TO' h1' h2' hT hsz hk => ?_
    refine ⟨_, rfl, wpAny_letOwnedTupleGo_zip (s := { s with heap := h' }) z' fun h'' z'' sb => ?_⟩
    have hT2 : h''.get? s.heap.objs.size = some { cls := .type "tuple", data := .seq #[u, u2] } := (sb.2 _ (Nat.ne_of_gt hzl)).trans hT
    have new : ObjOk X.prog X.w (upd H s.heap.objs.size (.tup [x, y])) h'' s.heap.objs.size (.tup [x, y]) :=
      ⟨by show 2 ≤ sizeLine; decide, [u, u2], .cons ru (.cons ru2 .nil), ⟨_, hT2, rfl, _, rfl⟩⟩
    have I1 : L2.Inv X pins σ (upd H s.heap.objs.size (.tup [x, y])) { s with heap := h'' } :=
      I.turnedNew (t' := s.toks) (ch := [z, TI, TO, i1, i2]) (fun c o hb q => (sb.2 c (fun q' => hb (by simp [q']))).trans (hk c o (fun q' => hb (by simp [q'])) (fun q' => hb (by simp [q'])) (fun q' => hb (by simp [q'])) (fun q' => hb (by simp [q'])) q)) hf (Nat.le_refl _) new
    refine ⟨.ref s.heap.objs.size, _, I1, rfl, ⟨_, x, y, rfl, I.hok.fresh (Nat.le_refl _), rfl, fun l hl => by rw [Inv.sqG_inj I hl hqx]; exact hx, fun l hl => by rw [Inv.sqG_inj I hl hqy]; exact hy⟩, ⟨z'', ?_, ⟨u, u2, ?_⟩, ?_, ?_⟩, fun c hcm => ?_⟩
    · exact (sb.2 _ D.TIz).trans (hk _ _ D.TIz D.TITO D.TIi1 D.TIi2 hTI)
    · exact (sb.2 _ D.TOz).trans TO'
    · exact h1'.at_ fun o q => (sb.2 _ D.i1z).trans q
    · exact h2'.at_ fun o q => (sb.2 _ D.i2z).trans q
    · have hlt : c < s.heap.objs.size := by
        have e' : c = z ∨ c = TI ∨ c = TO ∨ c = i1 ∨ c = i2 := by simpa using hcm
        rcases e' with q | q | q | q | q
        · rw [q]; exact hzl
        · rw [q]; exact Heap.lt_size hTI
        · rw [q]; exact Heap.lt_size hTO
        · rw [q]; exact h1.lt
        · rw [q]; exact h2.lt
      rw [upd_ne (Nat.ne_of_lt hlt)]
      exact (hf c hcm).1
  done := by
    intro X hP hw hK hc i pins s σ H E I hf st hg
    subst hP hw hK
    obtain ⟨hz, hTI, ⟨x0, y0, hTO⟩, h1, h2⟩ := st
    obtain ⟨xs, ys, hqx, hqy, hend⟩ := hg
    obtain ⟨its, rv, p, _⟩ := Inv.sqG I hqx
    obtain ⟨its2, rv2, p2, _⟩ := Inv.sqG I hqy
    have l1 := rv.length
    have l2 := rv2.length
    have he : its.toArray[i]? = none ∨ its2.toArray[i]? = none := by
      rcases hend with q | q
      · exact .inl (by simp; omega)
      · exact .inr (by simp; omega)
    exact pyNext_zipG_end (I.ok.hd hc) D hz hTI hTO h1 h2 p p2 he fun h' hk => ⟨rfl, I.turnedL (t' := s.toks) (ch := [z, TI, TO, i1, i2]) (fun c o hb q =>
      hk c o (fun q' => hb (by simp [q'])) (fun q' => hb (by simp [q'])) (fun q' => hb (by simp [q'])) (fun q' => hb (by simp [q'])) q) hf⟩
  self := fun A i s Q E st h => wpAny_pyIter_zip st.1 h
def iSeqG (K : PySem.W.Frag) (tl : TE) : TI := fun σ H R => tl σ H fun x H1 => ∃ a b xs, x = .ref a ∧ SqG b K H1 a xs ∧ R (match b with
  | true => Itt K a
  | false => Itl K a) H1
theorem pi_seqG {X : Cx} {tg l : Expr} {tl : TE} (hl : PE X l tl) : PI X tg l (iSeqG X.K tl) := by
  refine ⟨fun pins s σ H R I h => ?_⟩
  refine thn (hl.run pins s σ H _ I h) fun v s1 ⟨x, H1, I1, r1, q1⟩ => ?_
  obtain ⟨a, b, xs, e, hq, q⟩ := q1
  subst e
  cases r1
  have fp : ∀ c ∈ [s1.heap.objs.size], FpOk X pins H1 c := fun c hc => by
    have e : c = s1.heap.objs.size := by simpa using hc
    subst e
    exact I1.fpOk (Nat.le_refl _) (I1.hok.fresh (Nat.le_refl _))
  cases b with
  | true =>
    obtain ⟨its, rv, p, hz⟩ := I1.tuple hq
    refine wpAny_pyIter_tuple (show s1.heap.IsTuple a its.toArray from p) ?_
    exact ⟨s1.heap.objs.size, [s1.heap.objs.size], _, _, H1, rfl, I1.kept (t' := s1.toks) fun b o e => Heap.get?_push_of_some _ e, turn_tuple a _, ⟨_, Heap.get?_push_size _ rfl, rfl, rfl⟩, fp, q⟩
  | false =>
    obtain ⟨its, rv, p, hz⟩ := I1.list hq
    refine wpAny_pyIter_list p.isList ?_
    exact ⟨s1.heap.objs.size, [s1.heap.objs.size], _, _, H1, rfl, I1.kept (t' := s1.toks) fun b o e => Heap.get?_push_of_some _ e, turn_list a _, ⟨_, Heap.get?_push_size _ rfl, rfl, rfl⟩, fp, q⟩
def iEnumG (K : PySem.W.Frag) (ta : TA) : TI := fun σ H R => ta σ H fun vs H1 => ∃ a b xs, vs = [.ref a] ∧ SqG b K H1 a xs ∧ R (Iteg K b a) H1
theorem pi_enumG {X : Cx} {e : Expr} {ta : TA} {p pos tpos : Pos} {elts : List Expr} {kk : Nat} (hg : Gl X "enumerate") (hm : X.mg "enumerate" = none) (ha : PA X [e] ta) (hs : starEach [e] X.env = [(false, eval e X.env)] := by rfl) :
    PI X (.Tuple elts kk tpos) (.Call (.Name "enumerate" p) [e] [] pos) (iEnumG X.K ta) := by
  refine ⟨fun pins s σ H R I h => ?_⟩
  refine Call_ (ld_blt I hg hm boot_enumerate (PyProof.Rows.callWith_type1 (thn (ha.run pos pins s σ H _ I h) fun us s1 ⟨vs, H1, I1, r1, q1⟩ => ?_) hs rfl))
  obtain ⟨a, b, xs, ex, hq, q⟩ := q1
  subst ex
  rw [Vals.ref1 r1]
  obtain ⟨its, rv, p', hz⟩ := Inv.sqG I1 hq
  refine call_enumG p' fun h' he hit hsz hk => wpAny_pyIter_enum he ?_
  have I2 : L2.Inv X pins σ H1 { s1 with heap := h' } := I1.kept (t' := s1.toks) hk
  refine ⟨s1.heap.objs.size + 1, [s1.heap.objs.size + 1, s1.heap.objs.size], _, _, H1, rfl, I2, turn_enumG b a (s1.heap.objs.size + 1) s1.heap.objs.size, ⟨⟨.none, he⟩, hit, Nat.succ_ne_self _, Nat.ne_of_lt hz, Nat.ne_of_gt (Nat.lt_succ_of_lt hz)⟩, fun c hc => ?_, q⟩
  have e' : c = s1.heap.objs.size + 1 ∨ c = s1.heap.objs.size := by simpa using hc
  have hle : s1.heap.objs.size ≤ c := by
    rcases e' with z | z
    · rw [z]; exact Nat.le_add_right _ _
    · rw [z]; exact Nat.le_refl _
  exact I1.fpOk hle (I1.hok.fresh hle)
def iZipG (K : PySem.W.Frag) (ta : TA) : TI := fun σ H R => ta σ H fun vs H1 => ∃ a b b1 b2 xs ys, vs = [.ref a, .ref b] ∧ SqG b1 K H1 a xs ∧ SqG b2 K H1 b ys ∧ R (Itzg K b1 b2 a b) H1
theorem pi_zipG {X : Cx} {e e2 : Expr} {ta : TA} {p pos tpos : Pos} {elts : List Expr} {kk : Nat} (hg : Gl X "zip") (hm : X.mg "zip" = none) (ha : PA X [e, e2] ta)
    (hs : starEach [e, e2] X.env = (false, eval e X.env) :: starEach [e2] X.env := by rfl) (hpl : (backTo pos (starEach [e2] X.env)).any (·.1) = false := by rfl) :
    PI X (.Tuple elts kk tpos) (.Call (.Name "zip" p) [e, e2] [] pos) (iZipG X.K ta) := by
  refine ⟨fun pins s σ H R I h => ?_⟩
  refine Call_ (ld_blt I hg hm PyProof.Rows.boot_zip (PyProof.Rows.callWith_type1 (thn (ha.run pos pins s σ H _ I h) fun us s1 ⟨vs, H1, I1, r1, q1⟩ => ?_) hs hpl))
  obtain ⟨a, b, b1, b2, xs, ys, ex, hqx, hqy, q⟩ := q1
  subst ex
  obtain ⟨u1, u2, rfl, ra, rb⟩ := r1.two
  cases (show u1 = Value.ref a from ra)
  cases (show u2 = Value.ref b from rb)
  have fresh5 : ∀ c, c ∈ [s1.heap.objs.size + 4, s1.heap.objs.size + 2, s1.heap.objs.size + 3, s1.heap.objs.size, s1.heap.objs.size + 1] → FpOk X pins H1 c := fun c hcm => by
    have hle : s1.heap.objs.size ≤ c := by
      simp only [List.mem_cons, List.mem_singleton, List.not_mem_nil, or_false] at hcm
      omega
    exact I1.fpOk hle (I1.hok.fresh hle)
  obtain ⟨its, rv, p1, l1⟩ := Inv.sqG I1 hqx
  obtain ⟨its2, rv2, p2, l2⟩ := Inv.sqG I1 hqy
  refine call_zipG p1 p2 fun h' hz hTI hTO h1 h2 hsz hk => wpAny_pyIter_zip hz ?_
  have I2 : L2.Inv X pins σ H1 { s1 with heap := h' } := I1.kept (t' := s1.toks) hk
  exact ⟨s1.heap.objs.size + 4, [s1.heap.objs.size + 4, s1.heap.objs.size + 2, s1.heap.objs.size + 3, s1.heap.objs.size, s1.heap.objs.size + 1], _, _, H1, rfl, I2, turn_zipG b1 b2 (PySem.W.ktu_apart s1.heap.objs.size a b l1 l2), ⟨hz, hTI, ⟨_, _, hTO⟩, h1, h2⟩, fresh5, q⟩
end PX
set_option Elab.async false
set_option linter.all false
set_option maxRecDepth 100000
set_option maxHeartbeats 1000000
namespace PX
open PySem PySem.Spec PyProof.Rows L2 ZG
def lockS (v : PV) (S : Store) : Option (List PV × List (Nat × PV) × Store) := match v with
  | .ref i => match S[i]? with
    | some (.lst xs) => some (xs, [(i, .lst xs)], S.set i (.lck (.lst xs)))
    | some (.lck (.lst xs)) => some (xs, [], S)
    | _ => none
  | .lst xs => some (xs, [], S)
  | .tup xs => some (xs, [], S)
  | _ => none
def enumL : Int → List PV → List PV
  | _, [] => []
  | k, x :: xs => .tup [.int k, x] :: enumL (k + 1) xs
def zipL : List PV → List PV → List PV
  | x :: xs, y :: ys => .tup [x, y] :: zipL xs ys
  | _, _ => []
def rngL : Int → Nat → List PV
  | _, 0 => []
  | lo, n + 1 => .int lo :: rngL (lo + 1) n
def iSeq (a : SE) : SI := fun env S => (a env S).bind fun p S1 => match lockS p.2 S1 with
  | some z => .ok (z.1, z.2.1) z.2.2
  | none => .no
def iEnu (a : SE) : SI := fun env S => (a env S).bind fun p S1 => match lockS p.2 S1 with
  | some z => .ok (enumL 0 z.1, z.2.1) z.2.2
  | none => .no
def iZip (a b : SE) : SI := fun env S => (a env S).bind fun p S1 => (b env S1).bind fun q S2 => match lockS p.2 S2 with
  | some z => match lockS q.2 z.2.2 with
    | some y => .ok (zipL z.1 y.1, y.2.1 ++ z.2.1) y.2.2
    | none => .no
  | none => .no
def okRg (j : Int) : Bool := decide (-4611686018427387904 ≤ j) && decide (j < 4611686018427387904)
def iRg1 (a : SE) : SI := fun env S => (a env S).bind fun p S1 => match p.2 with
  | .int j => if okRg j then .ok (rngL 0 j.toNat, []) S1 else .no
  | _ => .no
def Gh.lock (g : Gh) (a : Addr) (ho : HO) : Gh := ⟨g.L, upd g.pn a ho, fun b => if b = a then true else g.lk b⟩
section
variable {G : Gam} {n0 : Nat} {g : Gh} {F : Hp} {r : List Addr} {S : Store} {H : Hp}
theorem nd_inj {r : List Addr} (h : r.Nodup) {i j : Nat} {a : Addr} (e1 : r[i]? = some a) (e2 : r[j]? = some a) : i = j := by
  obtain ⟨h1, e1'⟩ := List.getElem?_eq_some_iff.mp e1
  obtain ⟨h2, e2'⟩ := List.getElem?_eq_some_iff.mp e2
  exact (List.getElem_inj h).mp (e1'.trans e2'.symm)
theorem HR.lock {i : Nat} {a : Addr} {xs : List PV} {us : List V} (h : HR G n0 g F r S H) (e1 : r[i]? = some a) (e2 : S[i]? = some (.lst xs)) (e3 : H a = some (.lst us)) : HR G n0 (g.lock a (.lst us)) F r (S.set i (.lck (.lst xs))) H := by
  have hi : i < S.length := (List.getElem?_eq_some_iff.mp e2).1
  have hF := h.off a (List.mem_of_getElem? e1)
  refine ⟨h.sub, h.nd, h.off, by rw [List.length_set]; exact h.len, by rw [List.length_set]; exact h.nle, h.lle, fun j oj b e4 e5 => ?_, fun b o e => ?_, fun j oj b e4 e5 => ?_, fun b o e el => ?_, ⟨fun p hp => let t := h.tab.t p hp; ⟨t.t, t.f, t.nr, by show upd g.pn _ _ p.1 = none; rw [upd_ne (t.ne e3 rfl)]; exact t.np⟩, h.tab.nf, tb_upd h.tab.np rfl⟩⟩
  · by_cases hj : i = j
    · subst hj
      rw [List.getElem?_set_self hi] at e4
      cases e4
      obtain ⟨ho, q1, q2⟩ := h.obj i _ b e2 e5
      exact ⟨ho, .mk (q1.nl rfl) rfl, q2⟩
    · rw [List.getElem?_set_ne hj] at e4
      exact h.obj j oj b e4 e5
  · by_cases hb : b = a
    · subst hb
      have e : upd g.pn b (.lst us) b = some o := e
      rw [upd_same] at e
      cases e
      refine ⟨e3, .inl hF, fun j hj => ?_⟩
      have := nd_inj h.nd e1 hj
      subst this
      exact ⟨_, List.getElem?_set_self hi⟩
    · have e : upd g.pn a (.lst us) b = some o := e
      rw [upd_ne hb] at e
      obtain ⟨q1, q2, q3⟩ := h.pin b o e
      refine ⟨q1, q2.imp (fun q => q) (fun q => ⟨q.1, by show (if b = a then true else g.lk b) = true; rw [if_neg hb]; exact q.2⟩), fun j hj => ?_⟩
      obtain ⟨ob, q⟩ := q3 j hj
      refine ⟨ob, ?_⟩
      rw [List.getElem?_set_ne (fun z => by subst z; rw [e1] at hj; cases hj; exact hb rfl)]
      exact q
  · show ∃ o, upd g.pn a (.lst us) b = some o
    by_cases hb : b = a
    · rw [hb, upd_same]; exact ⟨_, rfl⟩
    · rw [upd_ne hb]
      rw [List.getElem?_set_ne (fun z => by subst z; rw [e1] at e5; cases e5; exact hb rfl)] at e4
      exact h.lckd j oj b e4 e5
  · have e : upd g.pn a (.lst us) b = some o := e
    have el : (if b = a then true else g.lk b) = false := el
    by_cases hb : b = a
    · rw [if_pos hb] at el; cases el
    · rw [upd_ne hb] at e
      rw [if_neg hb] at el
      exact h.out b o e el
theorem HR.unlock {i : Nat} {a : Addr} {xs : List PV} {us : List V} (h : HR G n0 (g.lock a (.lst us)) F r S H) (hp : g.pn a = none) (e1 : r[i]? = some a) (k : RVs G F (lim n0 g.L r i) xs us) : HR G n0 g F r (S.set i (.lst xs)) H := by
  have hi : i < S.length := by rw [← h.len]; exact (List.getElem?_eq_some_iff.mp e1).1
  have ea : (g.lock a (.lst us)).pn a = some (.lst us) := by
    show upd g.pn a (.lst us) a = _
    rw [upd_same]
  have ne_of : ∀ b o, g.pn b = some o → b ≠ a := fun b o e z => by rw [z, hp] at e; cases e
  have pn_ne : ∀ b, b ≠ a → (g.lock a (.lst us)).pn b = g.pn b := fun b hb => by
    show upd g.pn a (.lst us) b = _
    rw [upd_ne hb]
  refine ⟨h.sub, h.nd, h.off, by rw [List.length_set]; exact h.len, by rw [List.length_set]; exact h.nle, h.lle, fun j oj b e4 e5 => ?_, fun b o e => ?_, fun j oj b e4 e5 => ?_, fun b o e el => ?_, ⟨fun p hp => let t := h.tab.t p hp; ⟨t.t, t.f, t.nr, by rw [← pn_ne p.1 (fun z => by have z2 := t.np; rw [z, ea] at z2; cases z2)]; exact t.np⟩, h.tab.nf, fun b o e => h.tab.np b o (Le.upd hp b o e)⟩⟩
  · by_cases hj : i = j
    · subst hj
      rw [List.getElem?_set_self hi] at e4
      cases e4
      rw [e1] at e5
      cases e5
      exact ⟨_, .mk (h.pin a _ ea).1 rfl, ⟨us, rfl, k⟩⟩
    · rw [List.getElem?_set_ne hj] at e4
      exact h.obj j oj b e4 e5
  · have hb := ne_of b o e
    obtain ⟨q1, q2, q3⟩ := h.pin b o (by rw [pn_ne b hb]; exact e)
    refine ⟨q1, q2.imp (fun q => q) (fun q => ⟨q.1, by have z : (if b = a then true else g.lk b) = true := q.2; rw [if_neg hb] at z; exact z⟩), fun j hj => ?_⟩
    obtain ⟨ob, q⟩ := q3 j hj
    refine ⟨ob, ?_⟩
    rw [List.getElem?_set_ne (fun z => by subst z; rw [e1] at hj; cases hj; exact hb rfl)]
    exact q
  · by_cases hj : i = j
    · subst hj
      rw [List.getElem?_set_self hi] at e4
      cases e4
    · rw [List.getElem?_set_ne hj] at e4
      have hb : b ≠ a := fun z => by subst z; exact hj (nd_inj h.nd e1 e5)
      obtain ⟨o, q⟩ := h.lckd j oj b e4 e5
      exact ⟨o, by rw [← pn_ne b hb]; exact q⟩
  · have hb := ne_of b o e
    refine h.out b o (by rw [pn_ne b hb]; exact e) ?_
    show (if b = a then true else g.lk b) = false
    rw [if_neg hb]
    exact el
structure Held (G : Gam) (n0 : Nat) (g g' : Gh) (F : Hp) (r : List Addr) (S' : Store) (H : Hp) (xs : List PV) (ls : List (Nat × PV)) (b : Bool) (a : Addr) (us : List V) : Prop where
  hr : HR G n0 g' F r S' H
  rv : RVs G F r xs us
  sq : ∀ g2, GhLe g' g2 → ∀ F2 r2 S2 H2, HR G n0 g2 F2 r2 S2 H2 → Ext F F2 r r2 → SqG b G.K H2 a us
  le : GhLe g g'
  pn : GhPin g g'
  un : ∀ rp, g.has rp → ∀ F2 r2 S2 H2, HR G n0 (g'.rep rp) F2 r2 S2 H2 → Ext F F2 r r2 → HR G n0 (g.rep rp) F2 r2 (unlock ls S2) H2
theorem lock_ok {v : PV} {u : V} {xs : List PV} {ls : List (Nat × PV)} {S' : Store} (h : HR G n0 g F r S H) (q : RV G F r v u) (e : lockS v S = some (xs, ls, S')) : ∃ g' b a us, u = .ref a ∧ Held G n0 g g' F r S' H xs ls b a us := by
  unfold lockS at e
  split at e
  · rename_i i
    obtain ⟨a, e1, rfl⟩ := q
    split at e
    · rename_i ys es
      cases e
      obtain ⟨ho, q1, q2⟩ := h.obj i _ a es e1
      obtain ⟨us, rfl, k⟩ := q2
      have q1 := q1.nd rfl
      refine ⟨g.lock a (.lst us), false, a, us, rfl, h.lock e1 es q1, RVs.mono (.refl F) (at_of (lim_le n0 g.L r i)) _ _ k, fun g2 hg F2 r2 S2 H2 h2 x => ?_, fun b o eb el => ?_, fun b o eb el => ?_, fun rp hrp F2 r2 S2 H2 h2 x => ?_⟩
      · have ea : (g.lock a (.lst us)).pn a = some (.lst us) := by
          show upd g.pn a (.lst us) a = _
          rw [upd_same]
        exact (show SqL G.K H2 a us from .inl (.inl (h2.pin a _ (hg a _ ea (by show (if a = a then true else g.lk a) = true; rw [if_pos rfl])).1).1))
      · have hb : b ≠ a := fun z => by rw [z, h.nopin e1 es rfl] at eb; cases eb
        refine ⟨?_, ?_⟩
        · show upd g.pn a (.lst us) b = _
          rw [upd_ne hb]
          exact eb
        · show (if b = a then true else g.lk b) = true
          rw [if_neg hb]
          exact el
      · have hb : b ≠ a := fun z => by rw [z, h.nopin e1 es rfl] at eb; cases eb
        refine ⟨?_, ?_⟩
        · show upd g.pn a (.lst us) b = _
          rw [upd_ne hb]
          exact eb
        · show (if b = a then true else g.lk b) = false
          rw [if_neg hb]
          exact el
      · have hpa : (g.rep rp).pn a = none := by
          cases rp with
          | none => exact h.nopin e1 es rfl
          | some p =>
            obtain ⟨⟨o, ep⟩, el⟩ := hrp p rfl
            have hne : a ≠ p.1 := fun z => h.out p.1 o ep el (z ▸ List.mem_of_getElem? e1)
            show upd g.pn p.1 p.2 a = none
            rw [upd_ne hne]
            exact h.nopin e1 es rfl
        have eg : (g.lock a (.lst us)).rep rp = (g.rep rp).lock a (.lst us) := by
          cases rp with
          | none => rfl
          | some p =>
            obtain ⟨⟨o, ep⟩, el⟩ := hrp p rfl
            have hne : a ≠ p.1 := fun z => h.out p.1 o ep el (z ▸ List.mem_of_getElem? e1)
            show (⟨g.L, upd (upd g.pn a (.lst us)) p.1 p.2, fun b => if b = a then true else g.lk b⟩ : Gh) = ⟨g.L, upd (upd g.pn p.1 p.2) a (.lst us), fun b => if b = a then true else g.lk b⟩
            congr 1
            funext b
            by_cases hb : b = a
            · rw [hb, upd_ne hne, upd_same, upd_same]
            · by_cases hb2 : b = p.1
              · rw [hb2, upd_same, upd_ne (Ne.symm hne), upd_same]
              · rw [upd_ne hb2, upd_ne hb, upd_ne hb, upd_ne hb2]
        rw [eg] at h2
        have eL : (g.rep rp).L = g.L := by cases rp <;> rfl
        exact h2.unlock hpa (x.at_ i a e1) (by rw [eL]; exact RVs.mono x.1 (lim_mono x.2 i) _ _ k)
    · rename_i ys es
      cases e
      obtain ⟨ho, q1, q2⟩ := h.obj i _ a es e1
      obtain ⟨us, rfl, k⟩ := q2
      have q1 := q1.nd rfl
      obtain ⟨o, ep⟩ := h.lckd i _ a es e1
      have eo : o = .lst us := by
        have := (h.pin a o ep).1
        rw [q1] at this
        exact (Option.some.inj this).symm
      subst eo
      have elk : g.lk a = true := by
        cases z : g.lk a with
        | true => rfl
        | false => exact absurd (List.mem_of_getElem? e1) (h.out a _ ep z)
      exact ⟨g, false, a, us, rfl, h, RVs.mono (.refl F) (at_of (lim_le n0 g.L r i)) _ _ k, fun g2 hg F2 r2 S2 H2 h2 x => (show SqL G.K H2 a us from .inl (.inl (h2.pin a _ (hg a _ ep elk).1).1)), .refl g, .refl g, fun _ _ F2 r2 S2 H2 h2 x => h2⟩
    · cases e
  · cases e
    obtain ⟨a, us, rfl, k1, k2⟩ := q
    exact ⟨g, false, a, us, rfl, h, k2, fun g2 hg F2 r2 S2 H2 h2 x => (show SqL G.K H2 a us from .inl (h2.sub.rd (x.1.rd k1))), .refl g, .refl g, fun _ _ F2 r2 S2 H2 h2 x => h2⟩
  · cases e
    obtain ⟨a, us, rfl, k1, k2⟩ := q
    exact ⟨g, true, a, us, rfl, h, k2, fun g2 hg F2 r2 S2 H2 h2 x => (show SqT G.K H2 a us from h2.sub.tp (x.1 _ _ k1)), .refl g, .refl g, fun _ _ F2 r2 S2 H2 h2 x => h2⟩
  · cases e
theorem enumL_get : ∀ {xs : List PV} {k : Int} {i : Nat} {t : PV}, (enumL k xs)[i]? = some t → ∃ x, xs[i]? = some x ∧ t = .tup [.int (k + i), x]
  | [], k, i, t, e => by simp [enumL] at e
  | x :: xs, k, 0, t, e => by
    simp [enumL] at e
    exact ⟨x, by simp, by rw [← e]; simp⟩
  | x :: xs, k, i + 1, t, e => by
    have e : (enumL (k + 1) xs)[i]? = some t := by simpa [enumL] using e
    obtain ⟨y, h1, h2⟩ := enumL_get e
    exact ⟨y, by simpa using h1, by rw [h2]; congr 3; omega⟩
theorem enumL_len : ∀ (xs : List PV) (k : Int), (enumL k xs).length = xs.length
  | [], _ => rfl
  | x :: xs, k => by
    show (enumL (k + 1) xs).length + 1 = xs.length + 1
    rw [enumL_len xs]
theorem zipL_get : ∀ {xs ys : List PV} {i : Nat} {t : PV}, (zipL xs ys)[i]? = some t → ∃ x y, xs[i]? = some x ∧ ys[i]? = some y ∧ t = .tup [x, y]
  | [], ys, i, t, e => by simp [zipL] at e
  | x :: xs, [], i, t, e => by simp [zipL] at e
  | x :: xs, y :: ys, 0, t, e => by
    simp [zipL] at e
    exact ⟨x, y, by simp, by simp, e.symm⟩
  | x :: xs, y :: ys, i + 1, t, e => by
    have e : (zipL xs ys)[i]? = some t := by simpa [zipL] using e
    obtain ⟨x', y', h1, h2, h3⟩ := zipL_get e
    exact ⟨x', y', by simpa using h1, by simpa using h2, h3⟩
theorem zipL_len : ∀ (xs ys : List PV) (i : Nat), (zipL xs ys).length ≤ i → xs.length ≤ i ∨ ys.length ≤ i
  | [], ys, i, h => .inl (Nat.zero_le _)
  | x :: xs, [], i, h => .inr (Nat.zero_le _)
  | x :: xs, y :: ys, 0, h => absurd h (by simp [zipL])
  | x :: xs, y :: ys, i + 1, h => by
    have h : (zipL xs ys).length + 1 ≤ i + 1 := h
    rcases zipL_len xs ys i (by omega) with q | q
    · exact .inl (Nat.succ_le_succ q)
    · exact .inr (Nat.succ_le_succ q)
theorem rngL_get : ∀ {n : Nat} {lo : Int} {i : Nat} {t : PV}, (rngL lo n)[i]? = some t → i < n ∧ t = .int (lo + i)
  | 0, lo, i, t, e => by simp [rngL] at e
  | n + 1, lo, 0, t, e => by
    simp [rngL] at e
    exact ⟨Nat.succ_pos n, by rw [← e]; simp⟩
  | n + 1, lo, i + 1, t, e => by
    have e : (rngL (lo + 1) n)[i]? = some t := by simpa [rngL] using e
    obtain ⟨h1, h2⟩ := rngL_get e
    exact ⟨Nat.succ_lt_succ h1, by rw [h2]; congr 1; omega⟩
theorem rngL_len : ∀ (n : Nat) (lo : Int), (rngL lo n).length = n
  | 0, _ => rfl
  | n + 1, lo => by
    show (rngL (lo + 1) n).length + 1 = n + 1
    rw [rngL_len n]
variable {X : Cx}
theorem cnI {env : Env} {σ : L2.St} {T : It → Hp → Prop} : Cn fun z => PoI G n0 g F r env σ z T := ⟨fun h => h, fun _ _ _ h => h⟩
variable {tg e e2 : Expr} {fe fe2 : SE} {p pos tpos : Pos} {elts : List Expr} {kk : Nat}
theorem si_seq (hK : G.K = X.K) (he : PE X e (rdE G n0 fe)) : PI X tg e (rdI G n0 (iSeq fe)) := by
  refine piI (pi_seqG (toV he)) fun σ H T ⟨F, r, env, S, g, s, h⟩ => ?_
  refine stV s cnI h fun p S1 F1 r1 H1 u x1 s1 q1 h1 => ?_
  cases el : lockS p.2 S1 with
  | none => rw [el] at h1; exact h1.elim
  | some z =>
    obtain ⟨xs, ls, S2⟩ := z
    rw [el] at h1
    obtain ⟨g', b, a, us, rfl, hd⟩ := lock_ok s1.hr q1 el
    refine ⟨a, b, us, rfl, hK ▸ hd.sq g' (.refl g') F1 r1 S2 H1 hd.hr (.refl _ _), h1 F1 r1 H1 _ g' x1 ⟨hd.hr, s1.sl, s1.vr⟩ (fun g2 hg2 F2 r2 S3 H2 h2 x2 => ?_) hd.pn hd.un⟩
    have sq := hd.sq g2 hg2 F2 r2 S3 H2 h2 x2
    rw [← hK]
    cases b with
    | true =>
      refine ⟨fun i x ex => ?_, fun i hi => ⟨us, sq, by rw [← RVs.length hd.rv]; exact hi⟩⟩
      obtain ⟨y, e1, q2⟩ := RVs.get hd.rv ex
      refine ⟨⟨us, y, sq, e1⟩, fun v H3 hy => ?_⟩
      obtain ⟨rfl, hv⟩ := hy
      have := hv us sq
      rw [e1] at this
      cases this
      exact ⟨F2, .refl _ _, h2, q2.ext x2⟩
    | false =>
      refine ⟨fun i x ex => ?_, fun i hi => ⟨us, sq, by rw [← RVs.length hd.rv]; exact hi⟩⟩
      obtain ⟨y, e1, q2⟩ := RVs.get hd.rv ex
      refine ⟨⟨us, y, sq, e1⟩, fun v H3 hy => ?_⟩
      obtain ⟨rfl, hv⟩ := hy
      have := hv us sq
      rw [e1] at this
      cases this
      exact ⟨F2, .refl _ _, h2, q2.ext x2⟩
theorem si_enum (hK : G.K = X.K) (hg : Gl X "enumerate") (hm : X.mg "enumerate" = none) (he : PE X e (rdE G n0 fe)) (hs : starEach [e] X.env = [(false, eval e X.env)] := by rfl) :
    PI X (.Tuple elts kk tpos) (.Call (.Name "enumerate" p) [e] [] pos) (rdI G n0 (iEnu fe)) := by
  refine piI (pi_enumG hg hm (pa_cons (toV he) pa_nil hs) hs) fun σ H T ⟨F, r, env, S, g, s, h⟩ => ?_
  refine stV s cnI h fun p S1 F1 r1 H1 u x1 s1 q1 h1 => ?_
  cases el : lockS p.2 S1 with
  | none => rw [el] at h1; exact h1.elim
  | some z =>
    obtain ⟨xs, ls, S2⟩ := z
    rw [el] at h1
    obtain ⟨g', b, a, us, rfl, hd⟩ := lock_ok s1.hr q1 el
    refine ⟨a, b, us, rfl, hK ▸ hd.sq g' (.refl g') F1 r1 S2 H1 hd.hr (.refl _ _), h1 F1 r1 H1 _ g' x1 ⟨hd.hr, s1.sl, s1.vr⟩ (fun g2 hg2 F2 r2 S3 H2 h2 x2 => ?_) hd.pn hd.un⟩
    have sq := hd.sq g2 hg2 F2 r2 S3 H2 h2 x2
    rw [← hK]
    refine ⟨fun i x ex => ?_, fun i hi => ⟨us, sq, by rw [← RVs.length hd.rv, ← enumL_len xs 0]; exact hi⟩⟩
    obtain ⟨x', ex', rfl⟩ := enumL_get ex
    obtain ⟨y, e1, q2⟩ := RVs.get hd.rv ex'
    refine ⟨⟨us, y, sq, e1⟩, fun v H3 hy => ?_⟩
    obtain ⟨T', y', rfl, hT, rfl, hv⟩ := hy
    have := hv us sq
    rw [e1] at this
    cases this
    obtain ⟨F4, x4, h4, k4⟩ := new_tup (xs := [.int (0 + i), x']) (us := [.int (i : Nat), y]) h2 hT ⟨_, _, rfl, by rw [Int.zero_add]; exact rfl, _, [], rfl, q2.ext x2, rfl⟩
    exact ⟨F4, x4, h4, k4⟩
theorem si_zip (hK : G.K = X.K) (hg : Gl X "zip") (hm : X.mg "zip" = none) (he : PE X e (rdE G n0 fe)) (he2 : PE X e2 (rdE G n0 fe2)) (hs : starEach [e, e2] X.env = (false, eval e X.env) :: starEach [e2] X.env := by rfl) (hs2 : starEach [e2] X.env = (false, eval e2 X.env) :: starEach [] X.env := by rfl)
    (hpl : (backTo pos (starEach [e2] X.env)).any (·.1) = false := by rfl) :
    PI X (.Tuple elts kk tpos) (.Call (.Name "zip" p) [e, e2] [] pos) (rdI G n0 (iZip fe fe2)) := by
  refine piI (pi_zipG hg hm (pa_cons (toV he) (pa_cons (toV he2) pa_nil hs2) hs) hs hpl) fun σ H T ⟨F, r, env, S, g, s, h⟩ => ?_
  refine stV s cnI h fun p S1 F1 r1 H1 u x1 s1 q1 h1 => ?_
  refine stV s1 cnI h1 fun q S2 F2 r2 H2 w x2 s2 q2 h2 => ?_
  cases el : lockS p.2 S2 with
  | none => rw [el] at h2; exact h2.elim
  | some z =>
    obtain ⟨xs, ls, S3⟩ := z
    simp only [el] at h2
    cases el2 : lockS q.2 S3 with
    | none => rw [el2] at h2; exact h2.elim
    | some z2 =>
      obtain ⟨ys, ls2, S4⟩ := z2
      simp only [el2] at h2
      obtain ⟨g1, b1, a1, us1, rfl, hd1⟩ := lock_ok s2.hr (q1.ext x2) el
      obtain ⟨g2, b2, a2, us2, rfl, hd2⟩ := lock_ok hd1.hr q2 el2
      have hpn : GhPin g g2 := fun a o e l => hd2.pn a o (hd1.pn a o e l).1 (hd1.pn a o e l).2
      have hun : ∀ rp, g.has rp → ∀ F5 r5 S5 H5, HR G n0 (g2.rep rp) F5 r5 S5 H5 → Ext F2 F5 r2 r5 → HR G n0 (g.rep rp) F5 r5 (unlock (ls2 ++ ls) S5) H5 := fun rp hrp F5 r5 S5 H5 h5 x5 => by
        have e : ∀ (l1 l2 : List (Nat × PV)) (S : Store), unlock (l1 ++ l2) S = unlock l2 (unlock l1 S) := by
          intro l1
          induction l1 with
          | nil => intro l2 S; rfl
          | cons c l1 ih => intro l2 S; exact ih l2 _
        rw [e]
        exact hd1.un rp hrp F5 r5 _ H5 (hd2.un rp (hd1.pn.has hrp) F5 r5 S5 H5 h5 x5) x5
      refine ⟨a1, a2, b1, b2, us1, us2, rfl, hK ▸ hd1.sq g2 hd2.le F2 r2 S4 H2 hd2.hr (.refl _ _), hK ▸ hd2.sq g2 (.refl g2) F2 r2 S4 H2 hd2.hr (.refl _ _), h2 F2 r2 H2 _ g2 (x1.trans x2) ⟨hd2.hr, s2.sl, s2.vr⟩ (fun g5 hg5 F5 r5 S5 H5 h5 x5 => ?_) hpn hun⟩
      have s1' := hd1.sq g5 (hd2.le.trans hg5) F5 r5 S5 H5 h5 x5
      have s2' := hd2.sq g5 hg5 F5 r5 S5 H5 h5 x5
      rw [← hK]
      refine ⟨fun i x ex => ?_, fun i hi => ⟨us1, us2, s1', s2', by rw [← RVs.length hd1.rv, ← RVs.length hd2.rv]; exact zipL_len xs ys i hi⟩⟩
      obtain ⟨x', y', ex', ey', rfl⟩ := zipL_get ex
      obtain ⟨u1, e1, k1⟩ := RVs.get hd1.rv ex'
      obtain ⟨u2, e2, k2⟩ := RVs.get hd2.rv ey'
      refine ⟨⟨us1, us2, u1, u2, s1', s2', e1, e2⟩, fun v H3 hy => ?_⟩
      obtain ⟨T', y1, y2, rfl, hT, rfl, hv1, hv2⟩ := hy
      have := hv1 us1 s1'
      rw [e1] at this
      cases this
      have := hv2 us2 s2'
      rw [e2] at this
      cases this
      exact new_tup (xs := [x', y']) (us := [u1, u2]) h5 hT ⟨_, _, rfl, k1.ext x5, _, [], rfl, k2.ext x5, rfl⟩
theorem its_rng {g' : Gh} {lo : Int} {n : Nat} : Its G n0 g' F r (Itr lo n) (rngL lo n) := fun g2 hg2 F2 r2 S2 H2 h2 x2 => by
  refine ⟨fun i x ex => ?_, fun i hi => by rw [rngL_len] at hi; exact hi⟩
  obtain ⟨h1, rfl⟩ := rngL_get ex
  refine ⟨h1, fun v H3 hy => ?_⟩
  obtain ⟨rfl, rfl⟩ := hy
  exact ⟨F2, .refl _ _, h2, rfl⟩
theorem okRg_ok {j : Int} (h : okRg j = true) : -(2 ^ 62) ≤ j ∧ j < 2 ^ 62 := by
  unfold okRg at h
  rw [Bool.and_eq_true, decide_eq_true_eq, decide_eq_true_eq] at h
  omega
theorem si_rng1 (hg : Gl X "range") (hm : X.mg "range" = none) (he : PE X e (rdE G n0 fe)) (hs : starEach [e] X.env = [(false, eval e X.env)] := by rfl) : PI X tg (.Call (.Name "range" p) [e] [] pos) (rdI G n0 (iRg1 fe)) := by
  refine piI (pi_range1 hg hm (pa_cons (toV he) pa_nil hs) hs) fun σ H T ⟨F, r, env, S, g, s, h⟩ => ?_
  refine stV s cnI h fun p S1 F1 r1 H1 u x1 s1 q1 h1 => ?_
  obtain ⟨b, v⟩ := p
  cases v with
  | int j =>
    simp only at h1
    split at h1
    · rename_i hj
      obtain ⟨k1, k2⟩ := okRg_ok hj
      exact ⟨j, by rw [show u = V.int j from q1], k1, k2, h1 F1 r1 H1 _ g x1 s1 its_rng (.refl g) (fun _ _ _ _ _ _ h _ => h)⟩
    · exact h1.elim
  | _ => exact h1.elim
end
end PX
set_option Elab.async false
set_option linter.all false
set_option maxRecDepth 100000
set_option maxHeartbeats 1000000
namespace PX
open PySem PySem.Spec PyProof.Rows L2 ZG
def wipeE (env : Env) : List Nat → Env
  | [] => env
  | v :: vs => (wipeE env vs).set v none
def compR (t : Tg) (c : ST) (e : SE) : List PV → Env → List PV → Store → R (List PV)
  | [], _, acc, S => .ok acc S
  | x :: xs, env, acc, S => match t x env S with
    | none => .no
    | some env' => (c env' S).bind fun b S1 => if b = true then (e env' S1).bind fun q S2 => if small acc.length then compR t c e xs env (acc ++ [q.2]) S2 else .no
      else compR t c e xs env acc S1
def eLc (i : SI) (t : Tg) (vs : List Nat) (c : ST) (e : SE) : SE := fun env S => (i env S).bind fun p S1 => (compR t c e p.1 (wipeE env vs) [] S1).bind fun acc S2 => .ok (true, .lst acc) (unlock p.2 S2)
def tYesP : ST := fun _ S => .ok true S
theorem wipe_get (σ : L2.St) (i : Nat) : ∀ vs : List Nat, (L2.wipe σ vs)[i]? = if i ∈ vs ∧ i < σ.length then some none else σ[i]?
  | [] => by simp [L2.wipe]
  | v :: vs => by
    unfold L2.wipe
    by_cases hv : v = i
    · subst hv
      by_cases hl : v < σ.length
      · rw [List.getElem?_set_self (by rw [wipe_length]; exact hl), if_pos ⟨by simp, hl⟩]
      · rw [if_neg (fun z => hl z.2), List.getElem?_eq_none (by rw [List.length_set, wipe_length]; omega), List.getElem?_eq_none (by omega)]
    · rw [List.getElem?_set_ne hv, wipe_get σ i vs]
      have : (i ∈ v :: vs) ↔ i ∈ vs := by
        rw [List.mem_cons]
        exact ⟨fun h => h.resolve_left (fun z => hv z.symm), .inr⟩
      simp only [this]
theorem wipe_idem (σ : L2.St) (vs : List Nat) : L2.wipe (L2.wipe σ vs) vs = L2.wipe σ vs := by
  refine List.ext_getElem? fun i => ?_
  rw [wipe_get, wipe_length, wipe_get]
  split <;> rfl
theorem wipe_set {σ : L2.St} {vs : List Nat} {i : Nat} {x : Option V} (h : i ∈ vs) : L2.wipe (σ.set i x) vs = L2.wipe σ vs := by
  refine List.ext_getElem? fun j => ?_
  rw [wipe_get, wipe_get, List.length_set]
  by_cases hj : i = j
  · subst hj
    by_cases hl : i < σ.length
    · rw [if_pos ⟨h, hl⟩, if_pos ⟨h, hl⟩]
    · rw [if_neg (fun z => hl z.2), if_neg (fun z => hl z.2), List.getElem?_eq_none (by rw [List.length_set]; omega), List.getElem?_eq_none (by omega)]
  · rw [List.getElem?_set_ne hj]
theorem wipeE_some {env : Env} {i : Nat} {v : PV} : ∀ {vs : List Nat}, (wipeE env vs)[i]? = some (some v) → env[i]? = some (some v) ∧ i ∉ vs
  | [], e => ⟨e, by simp⟩
  | w :: vs, e => by
    unfold wipeE at e
    by_cases hw : w = i
    · subst hw
      rw [List.getElem?_set] at e
      rw [if_pos rfl] at e
      split at e <;> cases e
    · rw [List.getElem?_set_ne hw] at e
      obtain ⟨h1, h2⟩ := wipeE_some e
      exact ⟨h1, by rw [List.mem_cons]; rintro (z | z); exact hw z.symm; exact h2 z⟩
theorem wipeE_len (env : Env) : ∀ vs : List Nat, (wipeE env vs).length = env.length
  | [] => rfl
  | v :: vs => by
    unfold wipeE
    rw [List.length_set, wipeE_len env vs]
section
variable {G : Gam} {n0 : Nat} {g : Gh} {F : Hp} {r : List Addr} {S : Store} {H : Hp}
theorem Sg.wipe {env : Env} {σ : L2.St} (s : Sg G n0 g F r env σ S H) (vs : List Nat) : Sg G n0 g F r (wipeE env vs) (L2.wipe σ vs) S H := by
  refine ⟨s.hr, by rw [wipeE_len, wipe_length, s.sl], fun i v e => ?_⟩
  obtain ⟨h1, h2⟩ := wipeE_some e
  obtain ⟨u, e1, q⟩ := s.vr i v h1
  exact ⟨u, by rw [wipe_get, if_neg (fun z => h2 z.1)]; exact e1, q⟩
def TgB (G : Gam) (vs : List Nat) (t : Tg) (gg : TG) : Prop := ∀ n0 g F r env σ S H v u env' w0 (Q : L2.St → Hp → Prop), L2.wipe σ vs = w0 → Sg G n0 g F r env σ S H → RV G F r v u → t v env S = some env' → (∀ σ', L2.wipe σ' vs = w0 → Sg G n0 g F r env' σ' S H → Q σ' H) → gg u σ H Q
def TgsB (G : Gam) (vs : List Nat) (ts : List Tg) (gs : TGs) : Prop := ∀ n0 g F r env σ S H xs us env' w0 (Q : L2.St → Hp → Prop), L2.wipe σ vs = w0 → Sg G n0 g F r env σ S H → RVs G F r xs us → gTps ts xs env S = some env' → (∀ σ', L2.wipe σ' vs = w0 → Sg G n0 g F r env' σ' S H → Q σ' H) → gs us σ H Q
theorem tb_nm {vs : List Nat} (i : Nat) (h : i ∈ vs) : TgB G vs (gNm i) (gName i) := fun n0 g F r env σ S H v u env' w0 Q hw s q e k => by
  cases e
  exact k _ (by rw [wipe_set h]; exact hw) (s.set q)
theorem tbs_nil {vs : List Nat} : TgsB G vs [] gNil := fun n0 g F r env σ S H xs us env' w0 Q hw s q e k => by
  cases xs with
  | nil =>
    cases e
    exact ⟨q, k σ hw s⟩
  | cons v xs => cases e
theorem tbs_cons {vs : List Nat} {t : Tg} {ts : List Tg} {gg : TG} {gs : TGs} (h1 : TgB G vs t gg) (h2 : TgsB G vs ts gs) : TgsB G vs (t :: ts) (gCons gg gs) := fun n0 g F r env σ S H xs us env' w0 Q hw s q e k => by
  cases xs with
  | nil => cases e
  | cons v xs =>
    obtain ⟨u, ur, rfl, q1, q2⟩ := q
    have e : (match t v env S with
      | some env' => gTps ts xs env' S
      | none => none) = some env' := e
    cases e1 : t v env S with
    | none => rw [e1] at e; cases e
    | some env1 =>
      rw [e1] at e
      exact ⟨u, ur, rfl, h1 n0 g F r env σ S H v u env1 w0 _ hw s q1 e1 fun σ' hw' s' => h2 n0 g F r env1 σ' S H xs ur env' w0 Q hw' s' q2 e k⟩
theorem tb_tp {vs : List Nat} {ts : List Tg} {gs : TGs} {n : Nat} (h : TgsB G vs ts gs) (hn : ts.length = n) : TgB G vs (gTp ts) (gTup G.K n gs) := fun n0 g F r env σ S H v u env' w0 Q hw s q e k => by
  unfold gTp at e
  split at e
  · rename_i xs e'
    obtain ⟨a, us, rfl, h1, h2⟩ := view_tup s.hr q e'
    exact ⟨a, us, rfl, h1, by rw [← RVs.length h2, gTps_len e, hn], h n0 g F r env σ S H xs us env' w0 Q hw s h2 e k⟩
  · cases e
def Gh.pin (g : Gh) (a : Addr) (ho : HO) : Gh := ⟨g.L, upd g.pn a ho, fun b => if b = a then false else g.lk b⟩
theorem HR.pinNew {a : Addr} {ho : HO} (h : HR G n0 g F r S H) (ha : H a = none) (hb : isTk ho = false := by rfl) : HR G n0 (g.pin a ho) F r S (upd H a ho) := by
  have hF := h.noF ha
  have hr := h.nor ha
  have h1 := h.heap (H' := upd H a ho) fun b o e => by rw [upd_ne (ne_of_none e ha)]; exact e
  refine ⟨h1.sub, h.nd, h.off, h.len, h.nle, h.lle, h1.obj, fun b o e => ?_, fun i ob b e1 e2 => ?_, fun b o e el hb => ?_, ⟨fun p hp => let t := h1.tab.t p hp; ⟨t.t, t.f, t.nr, by show upd g.pn a ho p.1 = none; rw [upd_ne (fun z => by obtain ⟨ps, q1, _⟩ := (h.tab.t p hp).t; rw [z, ha] at q1; cases q1)]; exact t.np⟩, h.tab.nf, tb_upd h.tab.np hb⟩⟩
  · by_cases hb : b = a
    · subst hb
      have e : upd g.pn b ho b = some o := e
      rw [upd_same] at e
      cases e
      exact ⟨upd_same, .inl hF, fun i hi => absurd (List.mem_of_getElem? hi) hr⟩
    · have e : upd g.pn a ho b = some o := e
      rw [upd_ne hb] at e
      obtain ⟨q1, q2, q3⟩ := h1.pin b o e
      exact ⟨q1, q2.imp (fun q => q) (fun q => ⟨q.1, by show (if b = a then false else g.lk b) = true; rw [if_neg hb]; exact q.2⟩), q3⟩
  · show ∃ o, upd g.pn a ho b = some o
    by_cases hb : b = a
    · rw [hb, upd_same]; exact ⟨_, rfl⟩
    · rw [upd_ne hb]; exact h.lckd i ob b e1 e2
  · by_cases hb' : b = a
    · subst hb'; exact hr hb
    · have e : upd g.pn a ho b = some o := e
      rw [upd_ne hb'] at e
      have el : (if b = a then false else g.lk b) = false := el
      rw [if_neg hb'] at el
      exact h.out b o e el hb
theorem pin_at {a : Addr} {ho : HO} : (g.pin a ho).pn a = some ho := by
  show upd g.pn a ho a = _
  rw [upd_same]
theorem pin_ne {a b : Addr} {ho : HO} (hb : b ≠ a) : (g.pin a ho).pn b = g.pn b := by
  show upd g.pn a ho b = _
  rw [upd_ne hb]
theorem pin_le {a : Addr} {ho : HO} (hp : g.pn a = none) : GhLe g (g.pin a ho) := fun b o e l => by
  have hb : b ≠ a := fun z => by rw [z, hp] at e; cases e
  refine ⟨by rw [pin_ne hb]; exact e, ?_⟩
  show (if b = a then false else g.lk b) = true
  rw [if_neg hb]
  exact l
theorem pin_out {a : Addr} {ho : HO} (h : HR G n0 (g.pin a ho) F r S H) : a ∉ r := h.out a ho pin_at (by show (if a = a then false else g.lk a) = false; rw [if_pos rfl])
theorem HR.pinSet {a : Addr} {ho ho' : HO} (h : HR G n0 (g.pin a ho) F r S H) (hz : isFz ho = false := by rfl) (hb : isTb ho = false := by rfl) (hb' : isTk ho' = false := by rfl) : HR G n0 (g.pin a ho') F r S (upd H a ho') := by
  have hF : F a = none := noFz (h.pin a ho pin_at).2.1 hz
  have hr := pin_out h
  refine ⟨fun b o e => ?_, h.nd, h.off, h.len, h.nle, h.lle, fun i ob b e1 e2 => ?_, fun b o e => ?_, fun i ob b e1 e2 => ?_, fun b o e el hb => ?_, ⟨fun p hp => let t := h.tab.t p hp; ⟨tabS_upd t.t (h.pin a _ pin_at).1 hb, t.f, t.nr, by have z2 := t.np; have hn : p.1 ≠ a := fun z => (by rw [z, pin_at] at z2; cases z2); rw [pin_ne hn] at z2 ⊢; exact z2⟩, h.tab.nf, fun b o e => (by
    by_cases q : b = a
    · subst q
      rw [pin_at] at e
      cases e
      exact hb'
    · rw [pin_ne q] at e
      exact h.tab.np b o (by rw [pin_ne q]; exact e))⟩⟩
  · rw [upd_ne (fun z => by rw [z, hF] at e; cases e)]
    exact h.sub b o e
  · obtain ⟨ho2, q1, q2⟩ := h.obj i ob b e1 e2
    exact ⟨ho2, q1.upd (fun z => hr (by rw [← z]; exact List.mem_of_getElem? e2)), q2⟩
  · by_cases hb : b = a
    · subst hb
      rw [pin_at] at e
      cases e
      exact ⟨upd_same, .inl hF, fun i hi => absurd (List.mem_of_getElem? hi) hr⟩
    · rw [pin_ne hb] at e
      obtain ⟨q1, q2, q3⟩ := h.pin b o (by rw [pin_ne hb]; exact e)
      exact ⟨by rw [upd_ne hb]; exact q1, q2, q3⟩
  · obtain ⟨o, q⟩ := h.lckd i ob b e1 e2
    by_cases hb : b = a
    · rw [hb, pin_at]; exact ⟨_, rfl⟩
    · rw [pin_ne hb] at q ⊢; exact ⟨o, q⟩
  · by_cases hb' : b = a
    · subst hb'; exact hr hb
    · rw [pin_ne hb'] at e
      exact h.out b o (by rw [pin_ne hb']; exact e) el hb
theorem HR.unpin {a : Addr} {ho : HO} (h : HR G n0 (g.pin a ho) F r S H) (hp : g.pn a = none) : HR G n0 g F r S H := by
  have hr := pin_out h
  have ne_of : ∀ b o, g.pn b = some o → b ≠ a := fun b o e z => by rw [z, hp] at e; cases e
  refine ⟨h.sub, h.nd, h.off, h.len, h.nle, h.lle, h.obj, fun b o e => (let hb := ne_of b o e; let ⟨q1, q2, q3⟩ := h.pin b o (by rw [pin_ne hb]; exact e); ⟨q1, q2.imp (fun q => q) (fun q => ⟨q.1, by have z : (if b = a then false else g.lk b) = true := q.2; rw [if_neg hb] at z; exact z⟩), q3⟩), fun i ob b e1 e2 => ?_, fun b o e el => ?_, ⟨fun p hp => let t := h.tab.t p hp; ⟨t.t, t.f, t.nr, by have z2 := t.np; have hn : p.1 ≠ a := fun z => (by rw [z, pin_at] at z2; cases z2); rw [pin_ne hn] at z2; exact z2⟩, h.tab.nf, fun b o e => h.tab.np b o (Le.upd hp b o e)⟩⟩
  · obtain ⟨o, q⟩ := h.lckd i ob b e1 e2
    have hb : b ≠ a := fun z => hr (by rw [← z]; exact List.mem_of_getElem? e2)
    rw [pin_ne hb] at q
    exact ⟨o, q⟩
  · have hb := ne_of b o e
    refine h.out b o (by rw [pin_ne hb]; exact e) ?_
    show (if b = a then false else g.lk b) = false
    rw [if_neg hb]
    exact el
variable {X : Cx}
theorem lc_core' {fi : SI} {t : Tg} {gg : TG} {vs : List Nat} {c : ST} {fe : SE} (ht : TgB G vs t gg) (σ : L2.St) (H : Hp) (Q : VK) (hh : rdE G n0 (eLc fi t vs c fe) σ H Q) : tLc (rdI G n0 fi) gg (rdT G n0 c) (rdV G n0 fe) vs σ H Q := by
  obtain ⟨F, r, env, S, g, s, h⟩ := hh
  refine ⟨F, r, env, S, g, s, ?_⟩
  have h : PoE G n0 g F r env σ ((fi env S).bind fun p S1 => (compR t c fe p.1 (wipeE env vs) [] S1).bind fun acc S2 => .ok (true, .lst acc) (unlock p.2 S2)) Q := h
  cases ei : fi env S with
  | no => rw [ei] at h; exact h
  | ex => rw [ei] at h; exact h
  | ok p S1 =>
    rw [ei] at h
    obtain ⟨xs, ls⟩ := p
    have h : PoE G n0 g F r env σ ((compR t c fe xs (wipeE env vs) [] S1).bind fun acc S2 => .ok (true, .lst acc) (unlock ls S2)) Q := h
    intro F1 r1 H1 J g' x1 s1 its _ ul D hD
    have ul : ∀ F2 r2 S2 H2, HR G n0 g' F2 r2 S2 H2 → Ext F1 F2 r1 r2 → HR G n0 g F2 r2 (unlock ls S2) H2 := ul none (fun p e => nomatch e)
    have its : Its G n0 g' F1 r1 J xs := its
    have hp : g'.pn D = none := s1.hr.nop hD
    have hgp : g.pn D = none := (ul F1 r1 S1 H1 s1.hr (.refl _ _)).nop hD
    -- what holds ahead of turn i
    refine ⟨fun i m H' => m = xs.length - i ∧ i ≤ xs.length ∧ ∃ F2 r2 S2 acc us, Ext F1 F2 r1 r2 ∧ Sg G n0 (g'.pin D (.lst us)) F2 r2 (wipeE env vs) (L2.wipe σ vs) S2 H' ∧ RVs G F2 r2 acc us ∧
      PoE G n0 g F r env σ ((compR t c fe (xs.drop i) (wipeE env vs) acc S2).bind fun acc S2 => .ok (true, .lst acc) (unlock ls S2)) Q,
      ⟨xs.length, rfl, Nat.zero_le _, F1, r1, S1, [], [], .refl _ _, ⟨s1.hr.pinNew hD, (s1.wipe vs).sl, (s1.wipe vs).vr⟩, rfl, h⟩, ?_⟩
    rintro i m H2 ⟨rfl, hi, F2, r2, S2, acc, us, x2, s2, racc, h2⟩
    have hDr := pin_out s2.hr
    have hDH := (s2.hr.pin D _ pin_at).1
    have hDF := noFz (s2.hr.pin D _ pin_at).2.1 rfl
    have hr2 := s2.hr.unpin hp
    obtain ⟨ig, ie⟩ := its (g'.pin D (.lst us)) (fun a o e l => pin_le hp a o e l) F2 r2 S2 H2 s2.hr x2
    by_cases hlt : i < xs.length
    · have hx : xs[i]? = some xs[i] := List.getElem?_eq_getElem hlt
      have hd : xs.drop i = xs[i] :: xs.drop (i + 1) := List.drop_eq_getElem_cons hlt
      rw [hd] at h2
      obtain ⟨go, yl⟩ := ig i xs[i] hx
      refine .inr ⟨go, fun H' => ∃ F2 r2 S2 acc us, Ext F1 F2 r1 r2 ∧ Sg G n0 (g'.pin D (.lst us)) F2 r2 (wipeE env vs) (L2.wipe σ vs) S2 H' ∧ RVs G F2 r2 acc us ∧
        PoE G n0 g F r env σ ((compR t c fe (xs.drop (i + 1)) (wipeE env vs) acc S2).bind fun acc S2 => .ok (true, .lst acc) (unlock ls S2)) Q,
        fun H' q => ⟨xs.length - (i + 1), by omega, rfl, hlt, q⟩, fun v H3 hy => ?_⟩
      obtain ⟨F3, x3, hr3, q3⟩ := yl v H3 hy
      have h3 : PoE G n0 g F r env σ ((match t xs[i] (wipeE env vs) S2 with
        | none => R.no
        | some env' => (c env' S2).bind fun b S1 => if b = true then (fe env' S1).bind fun q S2 => if small acc.length then compR t c fe (xs.drop (i + 1)) (wipeE env vs) (acc ++ [q.2]) S2 else .no
          else compR t c fe (xs.drop (i + 1)) (wipeE env vs) acc S1).bind fun acc S2 => .ok (true, .lst acc) (unlock ls S2)) Q := h2
      cases et : t xs[i] (wipeE env vs) S2 with
      | none => rw [et] at h3; exact h3.elim
      | some env3 =>
        simp only [et] at h3
        refine ht n0 _ F3 r2 (wipeE env vs) (L2.wipe σ vs) S2 H3 xs[i] v env3 (L2.wipe σ vs) _ (wipe_idem σ vs) (s2.ext x3 hr3) q3 et fun σ3 hw3 s3 => ⟨hw3, ?_⟩
        refine ⟨F3, r2, env3, S2, _, s3, ?_⟩
        cases ec : c env3 S2 with
        | no => rw [ec] at h3; exact h3
        | ex => rw [ec] at h3; exact h3
        | ok b S4 =>
          rw [ec] at h3
          intro F4 r4 H4 x4 s4
          have xx : Ext F1 F4 r1 r4 := (x2.trans x3).trans x4
          have back : ∀ {us' F' r' S' H'}, Ext F4 F' r4 r' → Sg G n0 (g'.pin D (.lst us')) F' r' env3 σ3 S' H' → Sg G n0 (g'.pin D (.lst us')) F' r' (wipeE env vs) (L2.wipe σ vs) S' H' := fun {us' F' r' S' H'} x' s' =>
            ⟨s'.hr, s2.sl, fun j w e => by
              obtain ⟨u, e1, q1⟩ := s2.vr j w e
              exact ⟨u, e1, q1.ext ((x3.trans x4).trans x')⟩⟩
          cases b with
          | false => exact ⟨F4, r4, S4, acc, us, xx, back (.refl _ _) s4, racc.ext (x3.trans x4), h3⟩
          | true =>
            have h4 : PoE G n0 g F r env σ (((fe env3 S4).bind fun q S2 => if small acc.length then compR t c fe (xs.drop (i + 1)) (wipeE env vs) (acc ++ [q.2]) S2 else .no).bind fun acc S2 => .ok (true, .lst acc) (unlock ls S2)) Q := h3
            refine ⟨F4, r4, env3, S4, _, s4, ?_⟩
            cases ee : fe env3 S4 with
            | no => rw [ee] at h4; exact h4
            | ex => rw [ee] at h4; exact h4
            | ok q S5 =>
              rw [ee] at h4
              intro F5 r5 H5 y x5 s5 q5
              have h5 : PoE G n0 g F r env σ ((if small acc.length then compR t c fe (xs.drop (i + 1)) (wipeE env vs) (acc ++ [q.2]) S5 else .no).bind fun acc S2 => .ok (true, .lst acc) (unlock ls S2)) Q := h4
              cases hsm : small acc.length with
              | false => rw [hsm] at h5; exact h5.elim
              | true =>
                rw [hsm, if_pos rfl] at h5
                have hr5 := s5.hr
                refine ⟨us, (hr5.pin D _ pin_at).1, by rw [← RVs.length racc]; exact small_lt hsm, F5, r5, S5, acc ++ [q.2], us ++ [y], xx.trans x5, back x5 ⟨hr5.pinSet, s5.sl, s5.vr⟩, (racc.ext ((x3.trans x4).trans x5)).append ⟨y, [], rfl, q5, rfl⟩, h5⟩
    · have e : i = xs.length := by omega
      subst e
      rw [List.drop_length] at h2
      refine .inl ⟨ie _ (Nat.le_refl _), ?_⟩
      have h6 := ul F2 r2 S2 H2 hr2 x2
      have s6 : Sg G n0 g F2 r2 env σ (unlock ls S2) H2 := ⟨h6, s1.sl, fun j w e => by
        obtain ⟨u, e1, q1⟩ := s1.vr j w e
        exact ⟨u, e1, q1.ext x2⟩⟩
      exact h2 F2 r2 H2 (.ref D) (x1.trans x2) s6 ⟨D, .lst us, rfl, hDH, hDF, hDr, hgp, ⟨us, rfl, racc⟩, rfl⟩
theorem sts_nil : PTs X [] (rdT G n0 tYesP) := ⟨fun pins s σ H Q I h => pts_nil.run pins s σ H Q I (by
  obtain ⟨F, r, env, S, g, s, h⟩ := h
  exact h F r H (.refl F r) s)⟩
theorem sts_one {c : Expr} {tc : ST} (h : PT X c (rdT G n0 tc)) : PTs X [c] (rdT G n0 tc) := pts_one h
theorem Tb.blk {cf : CF} {k : Nat} (T : Tb X G cf k) (s : Shared) (H : Hp) (scope : Scope) (cenv : PySem.Env) (fp : List Addr) : Tb (X.blk s H scope cenv fp) G cf k := ⟨T.hK, T.call, T.room, T.calm⟩
theorem se_lc {elt tg iter : Expr} {ifs : List Expr} {scope : Scope} {own : List (Str × Nat)} {pos : Pos} {fi : SI} {t : Tg} {gg : TG} {c : ST} {fe : SE} (hc : X.calm = true) (hN : X.N.Nodup) (hi : PI X tg iter (rdI G n0 fi)) (ok : BlkOk X.N X.env.scope scope own) (ht : TgB G (own.map (·.2)) t gg)
    (hg : ∀ (s : Shared) (H : Hp) (C : Addr) (cl : List (Str × Addr)) (fp : List Addr), PG (X.blk s H scope (compEnvC scope cl C X.env) fp) tg gg)
    (hts : ∀ (s : Shared) (H : Hp) (C : Addr) (cl : List (Str × Addr)) (fp : List Addr), PTs (X.blk s H scope (compEnvC scope cl C X.env) fp) ifs (rdT G n0 c))
    (he : ∀ (s : Shared) (H : Hp) (C : Addr) (cl : List (Str × Addr)) (fp : List Addr), PE (X.blk s H scope (compEnvC scope cl C X.env) fp) elt (rdE G n0 fe)) (hs : ∀ x, foldedSetIterable iter X.env x = pure x := by intro _; rfl) :
    PE X (.ListComp elt [⟨tg, iter, ifs, 0⟩] scope pos) (rdE G n0 (eLc fi t (own.map (·.2)) c fe)) :=
  se_of (pe_lc hc hN hi ok hg hts (fun s H C cl fp => toV (he s H C cl fp)) hs) (lc_core' ht)
end
end PX
set_option Elab.async false
set_option linter.all false
set_option maxRecDepth 100000
set_option maxHeartbeats 1000000
namespace PX
open PySem PySem.Spec PyProof.Rows L2
def dIx (x y : PV) (S : Store) : Option (Bool × PV) := match deref S x with
  | some (.dct ks vs) => match keyOf y with
    | some q => match dGet ks vs q with
      | some (some v) => some (false, v)
      | _ => none
    | none => none
  | _ => none
def eIx (cf : CF) (tb : List (Nat × Nat)) (a b : SE) : SE := fun env S => (a env S).bind fun p S1 => (b env S1).bind fun q S2 => match ownOf tb S2 p.2 with
  | some f => callV cf f [p.2, q.2] S2
  | none => match dIx p.2 q.2 S2 with
    | some z => .ok z S2
    | none => ofO (oIx p.2 q.2 S2) S2
section
variable {X : Cx} {k : Nat}
def rIxOwn (X : Cx) (k : Nat) : R2 := fun x y H Q => ∃ a C dx fs g sp, x = .ref a ∧ H a = some (.ins C dx fs) ∧ Spc X.K C g "__getitem__" ∧ PySem.W.fnIn X.K g = true ∧ FnR X.prog X.w X.K X.mg X.base (L2.CX X.prog X.w) k g sp ∧ sp [x, y] H Q E0
def rIxDct : R2 := fun x y H Q => ∃ a v, x = .ref a ∧ DGet H a y (some v) ∧ Q v H
theorem pe_ixG {a b : Expr} {ta tb : TE} {pos : Pos} (hr : Room (k + 1) X.A) (ha : PE X a ta) (hb : PE X b tb) (hs : PlainIx b) (hsl : ∀ x i, subscripted b true (.ref x) i = runValue (.builtin "lifetime.subscript" ⟨[.ref x, i], []⟩)) :
    PE X (.Subscript a b pos) (tOp (fun x y H Q => rIxOwn X k x y H Q ∨ rIxDct x y H Q ∨ rIx X.K x y H Q) ta tb) := by
  refine ⟨fun pins s σ H Q I h => ?_⟩
  refine Subscript_ (binT ha hb I h fun v u s2 x y H2 I2 rx ry q => ?_)
  rcases q with q | q | q
  · obtain ⟨a', C, dx, fs, g, sp, rfl, ea, hs', hf, F, q⟩ := q
    cases (show v = Value.ref a' from rx)
    obtain ⟨od, J⟩ := inst_at I2 ea
    obtain ⟨m, hF⟩ := I2.fr
    refine PySem.W.sub_K hF I2.ok.mod.kin J hs'.at_ hf hs'.fn ?_ (hsl a' u)
    exact wpAny_call (SlX.run_at (us := [.ref a', u]) (ws := [.ref a', y]) F hr.in1 I2.env0.in1 passE0 I2 (.cons rfl (.cons ry .nil)) q)
  · obtain ⟨a', z, rfl, gd, q⟩ := q
    cases (show v = Value.ref a' from rx)
    exact tail_any (dict_typeIs I2 gd) PySem.F.slot_dict_getitem.lookup (d_getItem (by have := hr.units; omega) I2 gd ry fun w' s3 I3 rw' => ⟨z, H2, I3, rw', q⟩) (hs _ _)
  · exact ix_seq a b pins s2 σ H2 x y v u Q I2 rx ry q (hs _ _)
end
section
variable {X : Cx} {G : Gam} {n0 : Nat} {cf : CF} {k : Nat}
theorem se_ixG {tb : List (Nat × Nat)} {a b : Expr} {fa fb : SE} {pos : Pos} (T : Tb X G cf k) (hc : ∀ p ∈ tb, Spc G.K (G.ca p.1) (G.fa p.2) "__getitem__" ∧ PySem.W.fnIn G.K (G.fa p.2) = true) (ha : PE X a (rdE G n0 fa)) (hb : PE X b (rdE G n0 fb))
    (hs : PlainIx b) (hsl : ∀ x i, subscripted b true (.ref x) i = runValue (.builtin "lifetime.subscript" ⟨[.ref x, i], []⟩)) : PE X (.Subscript a b pos) (rdE G n0 (eIx cf tb fa fb)) := by
  refine se_of (pe_ixG T.room (toV ha) (toV hb) hs hsl) fun σ H Q ⟨F, r, env, S, g, s, h⟩ => ?_
  refine stV s cnE h fun p S1 F1 r1 H1 u x1 s1 q1 h1 => ?_
  refine stV s1 cnE h1 fun q S2 F2 r2 H2 v x2 s2 q2 h2 => ?_
  have q1' := q1.ext x2
  cases eo : ownOf tb S2 p.2 with
  | some f =>
    simp only [eo] at h2
    obtain ⟨a', c, dx, fs, rfl, k1, k2⟩ := own_at s2.hr q1' eo
    obtain ⟨c1, c2⟩ := hc _ k2
    refine .inl ⟨a', G.ca c, dx, fs, G.fa f, _, rfl, k1, T.hK ▸ c1, T.hK ▸ c2, T.call f 2, ?_⟩
    exact run_call (np := 2) s2 (x1.trans x2) (show RVs G F2 r2 [p.2, q.2] _ from ⟨_, _, rfl, q1', _, [], rfl, q2, rfl⟩) rfl h2
  | none =>
    simp only [eo] at h2
    cases ed : dIx p.2 q.2 S2 with
    | some z =>
      simp only [ed] at h2
      unfold dIx at ed
      split at ed
      · rename_i ks vs edr
        cases ek : keyOf q.2 with
        | none => simp only [ek] at ed; cases ed
        | some kk =>
          simp only [ek] at ed
          cases eg : dGet ks vs kk with
          | none => simp only [eg] at ed; cases ed
          | some o =>
            cases o with
            | none => simp only [eg] at ed; cases ed
            | some w =>
              simp only [eg] at ed
              cases ed
              obtain ⟨a', o', rfl, gd, y, rfl, rv⟩ := dGet_ok s2.hr q1' edr q2 ek eg
              exact .inr (.inl ⟨a', y, rfl, gd, h2 F2 r2 H2 y (x1.trans x2) s2 rv⟩)
      · cases ed
    | none =>
      simp only [ed] at h2
      exact .inr (.inr (T.hK ▸ endO (T := fun Q => rIx G.K u v H2 Q) s2 (x1.trans x2) h2 fun z ez k => ok_ix n0 g F2 r2 S2 H2 p.2 q.2 u v z Q s2.hr q1' q2 ez k))
theorem se_isiT {tb : List (TyN × Bool)} {e : Expr} {fe : SE} {p pos : Pos} {cvs : List V} {cus : List Value} {ht : TA} {es : List Expr} {x1 : _} {tpos : Pos} (hK : G.K = X.K) (hg : Gl X "isinstance") (hm : X.mg "isinstance" = none) (hb : bootBuiltins "isinstance" = some (.builtin "isinstance")) (hcv : Paired ClsV cvs cus)
    (hcl : ∀ t b, (t, b) ∈ tb → PySem.W.kitAny G.K (t.val G) cus = some b ∧ ∀ c, t = .own c → ClsI G c) (he : PE X e (rdE G n0 fe)) (hc : PA X es ht) (hht : ∀ σ H Q, Q cvs H → ht σ H Q) (hlen : cvs.length ≤ sizeLine)
    (hs : starEach [e, .Tuple es x1 tpos] X.env = (false, eval e X.env) :: starEach [.Tuple es x1 tpos] X.env := by rfl) (hs2 : starEach [.Tuple es x1 tpos] X.env = (false, eval (.Tuple es x1 tpos) X.env) :: starEach [] X.env := by rfl) (hpl : (backTo pos (starEach [.Tuple es x1 tpos] X.env)).any (·.1) = false := by rfl) :
    PE X (.Call (.Name "isinstance" p) [e, .Tuple es x1 tpos] [] pos) (rdE G n0 (eIsi tb fe)) := by
  refine peI (pe_callB call_isiT hg hm hb (pa_cons (toV he) (pa_cons (pe_tup hc) pa_nil hs2) hs) (by decide) (by decide) hs hpl) fun σ H Q ⟨F, r, env, S, g, s, h⟩ => ?_
  refine stV s cnE h fun p S1 F1 r1 H1 u x1 s1 q1 h1 => ?_
  simp only at h1
  cases et : tyN S1 p.2 with
  | none => rw [et] at h1; exact h1.elim
  | some t =>
    rw [et] at h1
    cases el : tb.lookup t with
    | none => simp only [el] at h1; exact h1.elim
    | some b =>
      simp only [el] at h1
      obtain ⟨k1, k2⟩ := hcl t b (tb_mem el)
      refine hht _ _ _ ⟨hlen, fun tp htp => ?_⟩
      have h2 := s1.hr.heap (H' := upd H1 tp (.tup cvs)) fun a o e => by rw [upd_ne (ne_of_none e htp)]; exact e
      refine ⟨u, tp, cvs, t.val G, cus, b, rfl, upd_same, hcv, hK ▸ tyN_ok h2 q1 k2 et, hK ▸ k1, ?_⟩
      exact h1 F1 r1 _ _ x1 (s1.ext (.refl _ _) h2) rfl
def eRev (a : SE) : SE := fun env S => (a env S).bind fun p S1 => match lstOf S1 p.2 with
  | some xs => .ok (true, .lst xs.reverse) S1
  | none => .no
end
end PX
set_option Elab.async false
set_option linter.all false
set_option maxRecDepth 100000
namespace PX
open PySem PySem.Spec PyProof.Rows L2 He
def noLst (g : Addr → Option Obj) : Addr → Option Obj := fun a => match g a with
  | some o => (match o.cls with
    | .type n => if n = "list" then none else some o
    | _ => some o)
  | none => none
theorem noLst_at {g : Addr → Option Obj} {a : Addr} {o : Obj} (h : noLst g a = some o) : g a = some o ∧ o.cls ≠ .type "list" := by
  unfold noLst at h
  cases e : g a with
  | none => rw [e] at h; cases h
  | some ob =>
    rw [e] at h
    simp only at h
    cases ec : ob.cls with
    | type n =>
      rw [ec] at h
      simp only at h
      split at h
      · cases h
      · rename_i hn
        cases h
        rw [ec]
        exact ⟨rfl, fun z => hn (Value.type.inj z)⟩
    | _ =>
      rw [ec] at h
      cases h
      rw [ec]
      exact ⟨rfl, fun z => nomatch z⟩
abbrev Ck : Type := PySem.W.Frag → Bool
def obsP (fb : List Ck) (fn : List DefD) (K : PySem.W.Frag) : AlD := ((fb.all fun f => f K) && fn.all fun d => d.ok K, fn.map fun d => fnW K d.at_)
structure SaysP (fb : List Ck) (fn : List DefD) (K : PySem.W.Frag) : Prop where
  eq : obsP fb fn K = valD fn
  nol : ∀ a o, K.lookup a = some o → o.cls ≠ .type "list"
section
variable {fb : List Ck} {fn : List DefD} {K : PySem.W.Frag}
theorem SaysP.fact (c : SaysP fb fn K) (i : Nat) {f : Ck} (h : fb[i]? = some f := by rfl) : f K = true := by
  have c1 := (He.ba (show ((fb.all fun f => f K) && fn.all fun d => d.ok K) = true from congrArg (fun z : AlD => z.1) c.eq)).1
  exact List.all_eq_true.mp c1 f (List.mem_of_getElem? h)
theorem SaysP.def_ (c : SaysP fb fn K) (i : Nat) {d : DefD} (h : fn[i]? = some d := by rfl) : ∃ fd, FunD K d.name d.qual d.params d.body d.scope (d.dvs K) (d.kws K) (fAd K d.at_) fd := by
  have c2 := (He.ba (show ((fb.all fun f => f K) && fn.all fun d => d.ok K) = true from congrArg (fun z : AlD => z.1) c.eq)).2
  have e : fn.map (fun d => fnW K d.at_) = fn.map DefD.val := congrArg (fun z : AlD => z.2) c.eq
  have e2 : (fn.map fun d => fnW K d.at_)[i]? = (fn.map DefD.val)[i]? := by rw [e]
  rw [List.getElem?_map, List.getElem?_map, h] at e2
  exact DefD.funD (Option.some.inj e2) (List.all_eq_true.mp c2 d (List.mem_of_getElem? h))
end
def gam (fs : List (Str × Option Str)) (cs ns : List Str) (K : PySem.W.Frag) : Gam := ⟨K, fun i => fAd K (fs.getD i ("", none)), fun c => ga K (cs.getD c ""), fun n => ns.getD n "", []⟩
def Gam.ofTb (G : Gam) (tb : List (Addr × Str)) : Gam := ⟨G.K, G.fa, G.ca, G.nm, tb⟩
theorem inj_nm {fs : List (Str × Option Str)} {cs ns : List Str} {K : PySem.W.Frag} (i : Nat) (hi : i < ns.length) (hn : ns.Nodup) (he : ("" : Str) ∉ ns) : Inj (gam fs cs ns K) i := fun j e => by
  have e : ns.getD j "" = ns.getD i "" := e
  have hi' : ns.getD i "" = ns[i] := by simp [List.getD_eq_getElem?_getD, hi]
  by_cases hj : j < ns.length
  · have hj' : ns.getD j "" = ns[j] := by simp [List.getD_eq_getElem?_getD, hj]
    rw [hi', hj'] at e
    exact (List.getElem_inj hn).mp e
  · have hj' : ns.getD j "" = "" := by simp [List.getD_eq_getElem?_getD, hj]
    rw [hi', hj'] at e
    exact absurd (e ▸ List.getElem_mem hi) he
def cGlo (x : Str) : Ck := fun K => eqO (PySem.W.nsIn K mainGlobals x) (some (some (.ref (ga K x))))
def cFree (x : Str) : Ck := fun K => eqO (PySem.W.nsIn K mainGlobals x) (some none)
def cInt (x : Str) (i : Int) : Ck := fun K => Fa.ok K (.int x i)
def cKeep (G : PySem.W.Frag → Gam) (f : Nat) : Ck := fun K => PySem.W.keepIn K (.ref ((G K).fa f))
def clsB (K : PySem.W.Frag) (C : Addr) : Bool := PySem.W.plainGet K C Str.empty && (PySem.W.hasDictIn K C && (PySem.W.plainOver K C && eqO (PySem.W.findIn K (.ref C) "__setattr__") (some (some (.builtin "object.__setattr__")))))
def isiB (K : PySem.W.Frag) (C : Addr) : Bool := eqO (PySem.W.findIn K (.ref C) "__class__") (some (some (.builtin "object.__class__"))) && (eqO (PySem.W.specialIn K (.builtin "object.__class__") "__get__") (some (some (.builtin "getset_descriptor.__get__"))) &&
  (decide (PySem.W.takesIn K (.builtin "object.__class__") = some true) && decide (PySem.W.mroIn K C (.type "object") = some true)))
def methB (K : PySem.W.Frag) (C f : Addr) (m : Str) : Bool := eqO (PySem.W.findIn K (.ref C) m) (some (some (.ref f))) && (PySem.W.isFn K (.ref f) && PySem.W.keepIn K (.ref f))
def cCls (G : PySem.W.Frag → Gam) (cs : List Nat) : Ck := fun K => cs.all fun c => clsB K ((G K).ca c) && isiB K ((G K).ca c)
def cFld (G : PySem.W.Frag → Gam) (f : Nat) (cs : List Nat) : Ck := fun K => cs.all fun c => clsB K ((G K).ca c) && eqO (PySem.W.findIn K (.ref ((G K).ca c)) ((G K).nm f)) (some none)
def cMet (G : PySem.W.Frag → Gam) (m : Nat) (tb : List (Nat × Nat)) : Ck := fun K => tb.all fun p => clsB K ((G K).ca p.1) && methB K ((G K).ca p.1) ((G K).fa p.2) ((G K).nm m)
def cMk (G : PySem.W.Frag → Gam) (c f : Nat) : Ck := fun K => PySem.W.makesIn K ((G K).ca c) && (eqO (PySem.W.findIn K (.ref ((G K).ca c)) "__init__") (some (some (.ref ((G K).fa f)))) && (PySem.W.isFn K (.ref ((G K).fa f)) && PySem.W.keepIn K (.ref ((G K).ca c))))
def cSpc (G : PySem.W.Frag → Gam) (tb : List (Nat × Nat)) (m : Str) : Ck := fun K => tb.all fun p => eqO (PySem.W.findIn K (.ref ((G K).ca p.1)) m) (some (some (.ref ((G K).fa p.2)))) && (PySem.W.isFn K (.ref ((G K).fa p.2)) && PySem.W.fnIn K ((G K).fa p.2))
def cNe (G : PySem.W.Frag → Gam) (tb : List (Nat × Nat)) : Ck := fun K => tb.all fun p => eqO (PySem.W.findIn K (.ref ((G K).ca p.1)) "__ne__") (some (some (.builtin "object.__ne__"))) && decide (PySem.W.mroIn K ((G K).ca p.1) (.type "object") = some true)
def cNf (G : PySem.W.Frag → Gam) (tb : List (Nat × Nat)) (tys : List TyN) : Ck := fun K => tb.all fun p => tys.all fun t => PySem.W.notFirst K ((G K).ca p.1) (t.val (G K))
def cKit (G : PySem.W.Frag → Gam) (tb : List (TyN × Bool)) (cu : PySem.W.Frag → Value) : Ck := fun K => tb.all fun p => decide (PySem.W.kitOne K (p.1.val (G K)) (cu K) = some p.2)
def cKitT (G : PySem.W.Frag → Gam) (tb : List (TyN × Bool)) (cus : PySem.W.Frag → List Value) : Ck := fun K => tb.all fun p => decide (PySem.W.kitAny K (p.1.val (G K)) (cus K) = some p.2)
section
variable {K : PySem.W.Frag} {h : Heap} {mg : Str → Option Value}
theorem cGlo_ok (X : K.In h) (G : h.Ns mainGlobals mg) {x : Str} (c : cGlo x K = true) : mg x = some (.ref (ga K x)) := PySem.W.mg_of X G (eqO_ok c)
theorem cFree_ok (X : K.In h) (G : h.Ns mainGlobals mg) {x : Str} (c : cFree x K = true) : mg x = none := PySem.W.mg_none_of X G (eqO_ok c)
theorem cInt_ok (X : K.In h) (G : h.Ns mainGlobals mg) {x : Str} {i : Int} (c : cInt x i K = true) : ∃ u, mg x = some u ∧ RelV (.int i) u := by
  obtain ⟨t, e⟩ := int_ok X G c
  exact ⟨_, e, ⟨t, rfl⟩⟩
variable {G : PySem.W.Frag → Gam}
theorem clsB_ok {C : Addr} (c : clsB K C = true) : Cls K C := by
  obtain ⟨c1, c⟩ := He.ba c
  obtain ⟨c2, c⟩ := He.ba c
  obtain ⟨c3, c4⟩ := He.ba c
  exact ⟨c1, c2, c3, eqO_ok c4⟩
theorem isiB_ok {C : Addr} (c : isiB K C = true) : SlX.SIsi K C := by
  obtain ⟨c1, c⟩ := He.ba c
  obtain ⟨c2, c⟩ := He.ba c
  obtain ⟨c3, c4⟩ := He.ba c
  exact ⟨eqO_ok c1, eqO_ok c2, of_decide_eq_true c3, of_decide_eq_true c4⟩
theorem methB_ok {C f : Addr} {m : Str} (c : methB K C f m = true) : Meth K C m f := by
  obtain ⟨c1, c⟩ := He.ba c
  obtain ⟨c2, c3⟩ := He.ba c
  exact ⟨eqO_ok c1, c2, c3⟩
theorem cCls_ok (hG : (G K).K = K) {cs : List Nat} (h : cCls G cs K = true) : ∀ c ∈ cs, ClsI (G K) c := fun c hc => by
  obtain ⟨h1, h2⟩ := He.ba (List.all_eq_true.mp h c hc)
  exact ⟨hG.symm ▸ clsB_ok h1, hG.symm ▸ isiB_ok h2⟩
theorem cFld_ok (hG : (G K).K = K) {f : Nat} {cs : List Nat} (h : cFld G f cs K = true) : ∀ c ∈ cs, Cls (G K).K ((G K).ca c) ∧ NoAttr (G K).K ((G K).ca c) ((G K).nm f) := fun c hc => by
  obtain ⟨h1, h2⟩ := He.ba (List.all_eq_true.mp h c hc)
  rw [hG]
  exact ⟨clsB_ok h1, eqO_ok h2⟩
theorem cMet_ok (hG : (G K).K = K) {m : Nat} {tb : List (Nat × Nat)} (h : cMet G m tb K = true) : ∀ p ∈ tb, Cls (G K).K ((G K).ca p.1) ∧ Meth (G K).K ((G K).ca p.1) ((G K).nm m) ((G K).fa p.2) := fun p hp => by
  obtain ⟨h1, h2⟩ := He.ba (List.all_eq_true.mp h p hp)
  rw [hG]
  exact ⟨clsB_ok h1, methB_ok h2⟩
theorem cMk_ok (hG : (G K).K = K) {c f : Nat} (h : cMk G c f K = true) : Mk (G K).K ((G K).ca c) ((G K).fa f) := by
  obtain ⟨h1, h⟩ := He.ba h
  obtain ⟨h2, h⟩ := He.ba h
  obtain ⟨h3, h4⟩ := He.ba h
  rw [hG]
  exact ⟨h1, eqO_ok h2, h3, h4⟩
theorem cSpc_ok (hG : (G K).K = K) {tb : List (Nat × Nat)} {m : Str} (h : cSpc G tb m K = true) : ∀ p ∈ tb, Spc (G K).K ((G K).ca p.1) ((G K).fa p.2) m ∧ PySem.W.fnIn (G K).K ((G K).fa p.2) = true := fun p hp => by
  obtain ⟨h1, h2⟩ := He.ba (List.all_eq_true.mp h p hp)
  obtain ⟨h2, h3⟩ := He.ba h2
  rw [hG]
  exact ⟨⟨eqO_ok h1, h2⟩, h3⟩
def ownIn (cs : List Nat) : TyN → Bool
  | .own c => cs.contains c
  | _ => true
theorem ownIn_ok {cs : List Nat} {c : Nat} (h : ownIn cs (.own c) = true) : c ∈ cs := by
  have h : cs.contains c = true := h
  simpa using h
theorem cEq_ok (hG : (G K).K = K) {tb : List (Nat × Nat)} {tys : List TyN} {cs : List Nat} (h1 : cSpc G tb "__eq__" K = true) (h2 : cNe G tb K = true) (h3 : cNf G tb tys K = true) (h4 : cCls G cs K = true) (h5 : (tys.all fun t => ownIn cs t) = true) : EqT (G K) tb tys := by
  refine ⟨fun p hp => (cSpc_ok hG h1 p hp).1, fun p hp => ?_, fun p hp t ht => ?_, fun c hc => cCls_ok hG h4 c (ownIn_ok (List.all_eq_true.mp h5 _ hc))⟩
  · obtain ⟨a, b⟩ := He.ba (List.all_eq_true.mp h2 p hp)
    rw [hG]
    exact ⟨eqO_ok a, of_decide_eq_true b⟩
  · rw [hG]
    exact List.all_eq_true.mp (List.all_eq_true.mp h3 p hp) t ht
theorem cKit_ok (hG : (G K).K = K) {tb : List (TyN × Bool)} {cu : PySem.W.Frag → Value} {cs : List Nat} (h1 : cKit G tb cu K = true) (h4 : cCls G cs K = true) (h5 : (tb.all fun p => ownIn cs p.1) = true) : ∀ t b, (t, b) ∈ tb → PySem.W.kitOne (G K).K (t.val (G K)) (cu K) = some b ∧ ∀ c, t = .own c → ClsI (G K) c := fun t b hm => by
  refine ⟨?_, fun c hc => ?_⟩
  · rw [hG]
    exact of_decide_eq_true (List.all_eq_true.mp h1 (t, b) hm)
  · subst hc
    exact cCls_ok hG h4 c (ownIn_ok (List.all_eq_true.mp h5 _ hm))
theorem cKitT_ok (hG : (G K).K = K) {tb : List (TyN × Bool)} {cus : PySem.W.Frag → List Value} {cs : List Nat} (h1 : cKitT G tb cus K = true) (h4 : cCls G cs K = true) (h5 : (tb.all fun p => ownIn cs p.1) = true) : ∀ t b, (t, b) ∈ tb → PySem.W.kitAny (G K).K (t.val (G K)) (cus K) = some b ∧ ∀ c, t = .own c → ClsI (G K) c := fun t b hm => by
  refine ⟨?_, fun c hc => ?_⟩
  · rw [hG]
    exact of_decide_eq_true (List.all_eq_true.mp h1 (t, b) hm)
  · subst hc
    exact cCls_ok hG h4 c (ownIn_ok (List.all_eq_true.mp h5 _ hm))
end
section
variable {P : Program} {w : World} {K : PySem.W.Frag} {mg : Str → Option Value} {base : Heap} {G : Gam}
theorem spF_np {T : Nat → Option FnB} {n f np : Nat} {b : FnB} {vs : List V} {H : Hp} {Q : VK} {E : XK} (hT : T f = some b) (h : spF G (callF T (n + 1)) f np vs H Q E) : np = b.np := by
  obtain ⟨F, r, S, g, n0, args, hr, q, l, h⟩ := h
  have h : (match (match T f with
    | some b => runB b (callF T n) args n0 S
    | none => R.no) with
    | .ok v S' => ∀ F' r' H' u, Ext F F' r r' → HR G n0 g F' r' S' H' → RV G F' r' v u → Q u H'
    | .ex c pl S' => ∀ F' r' H', Ext F F' r r' → HR G n0 g F' r' S' H' → XE E (.ref (G.ca c)) pl H'
    | .no => False) := h
  rw [hT] at h
  simp only [runB] at h
  by_cases hl : args.length = b.np
  · rw [← l, hl]
  · rw [if_neg hl] at h
    exact h.elim
theorem spF_none {T : Nat → Option FnB} {n f np : Nat} {vs : List V} {H : Hp} {Q : VK} {E : XK} (hT : T f = none) (h : spF G (callF T n) f np vs H Q E) : False := by
  obtain ⟨F, r, S, g, n0, args, hr, q, l, h⟩ := h
  cases n with
  | zero => exact h
  | succ n =>
    have h : (match (match T f with
      | some b => runB b (callF T n) args n0 S
      | none => R.no) with
      | .ok v S' => ∀ F' r' H' u, Ext F F' r r' → HR G n0 g F' r' S' H' → RV G F' r' v u → Q u H'
      | .ex c pl S' => ∀ F' r' H', Ext F F' r r' → HR G n0 g F' r' S' H' → XE E (.ref (G.ca c)) pl H'
      | .no => False) := h
    rw [hT] at h
    exact h
abbrev All (P : Program) (w : World) (K : PySem.W.Frag) (mg : Str → Option Value) (base : Heap) (G : Gam) (T : Nat → Option FnB) (n : Nat) : Prop := ∀ f np, FnR P w K mg base (L2.CX P w) (4 * n) (G.fa f) (spF G (callF T n) f np)
theorem all_zero {T : Nat → Option FnB} : All P w K mg base G T 0 := fun f np A outer s H us vs Q E hr he hv hs => by
  obtain ⟨F, r, S, g, n0, args, hr, q, l, h⟩ := hs
  exact h.elim
theorem def_fn {T : Nat → Option FnB} {n f : Nat} {b : FnB} {x qual : Str} {params : Arguments} {body : List Stmt} {scope : Scope} {fd : FuncData} {N ps : List Str} (hT : T f = some b) (F : FunD K x qual params body scope [] [] (G.fa f) fd) (S : FnScope N ps scope) (hn : b.nl = N.length) (hp : ps.length = b.np)
    (hbody : ∀ (cdv : Value) (A : Around) (outer : List PySem.Env) (s : Shared) (H : Hp) (E : XK) (n0 : Nat), Room (4 * n + 3) (A.deeper (envOfC qual scope s.heap.objs.size (G.fa f) cdv)) → Takes (cxOf (L2.CX P w) P w K mg base N qual scope (G.fa f) cdv A outer s H E) (fun cls d _ H => E cls d H) →
      PSs (cxOf (L2.CX P w) P w K mg base N qual scope (G.fa f) cdv A outer s H E) body (rdS G n0 E (b.body (callF T n) n0))) : FnOk P w K mg base (L2.CX P w) (4 * (n + 1)) (G.fa f) fd ps (spF G (callF T (n + 1)) f b.np) :=
  F.ok S (fun vs H Q E h => by rw [spF_len vs H Q E h, hp]) fun cdv A outer s H vs Q E hr h => by
    obtain ⟨n0, hb⟩ := body_ok hT hn h
    exact ⟨_, hbody cdv A outer s H E n0 hr (takes_of rfl rfl rfl rfl), hb⟩
theorem def_ok {T : Nat → Option FnB} {n f : Nat} {b : FnB} {x qual : Str} {params : Arguments} {body : List Stmt} {scope : Scope} {fd : FuncData} {N ps : List Str} (hT : T f = some b) (F : FunD K x qual params body scope [] [] (G.fa f) fd) (S : FnScope N ps scope) (hn : b.nl = N.length) (hp : ps.length = b.np)
    (hb : Binds K fd ps []) (hbody : ∀ (cdv : Value) (A : Around) (outer : List PySem.Env) (s : Shared) (H : Hp) (E : XK) (n0 : Nat), Room (4 * n + 3) (A.deeper (envOfC qual scope s.heap.objs.size (G.fa f) cdv)) → Takes (cxOf (L2.CX P w) P w K mg base N qual scope (G.fa f) cdv A outer s H E) (fun cls d _ H => E cls d H) →
      PSs (cxOf (L2.CX P w) P w K mg base N qual scope (G.fa f) cdv A outer s H E) body (rdS G n0 E (b.body (callF T n) n0))) : ∀ np, FnR P w K mg base (L2.CX P w) (4 * (n + 1)) (G.fa f) (spF G (callF T (n + 1)) f np) := by
  have ok := def_fn hT F S hn hp hbody
  intro np A outer s H us vs Q E hr he hv hs
  have e := spF_np hT hs
  subst e
  exact (ok.raw hb .nil) A outer s H us vs Q E hr he hv (by show spF G (callF T (n + 1)) f b.np (vs ++ []) H Q E; rw [List.append_nil]; exact hs)
end
section
variable {P : Program} {w : World} {K : PySem.W.Frag} {mg : Str → Option Value} {base : Heap} {G : Gam}
def spF0 (G : Gam) (cf : CF) (f np : Nat) : Sp := fun vs H Q _ => spF G cf f np vs H Q E0
theorem to0 {k : Nat} {f : Addr} {fd : FuncData} {ps : List Str} {sp : Sp} (F : FnOk P w K mg base (L2.CX P w) k f fd ps sp) : FnOk P w K mg base L2.CX0 k f fd ps (fun vs H Q _ => sp vs H Q E0) :=
  ⟨fun vs H Q E h => F.len vs H Q E0 h, fun A outer s H args us vs Q E hr he hb hv hs => codeAny_mono (F.run A outer s H args us vs Q E0 hr he hb hv hs) fun r s' hq => by
    cases r with
    | error e => exact (cx_none hq).elim
    | ok fl => cases fl <;> exact hq⟩
theorem law_sp {T : Nat → Option FnB} {n f : Nat} {H : Hp} {a : Addr} {ns : List Int} {S' : Store} (nol : ∀ a o, K.lookup a = some o → o.cls ≠ .type "list") (hS : SqL K H a (ns.map V.int)) (h : callF T n f [.lst (ns.map .int)] 0 [] = .ok (.bl true) S') (ht : ∀ p ∈ G.tb, LamX.TabS H p.1 p.2 := by intro p hp; cases hp) :
    spF G (callF T n) f 1 [.ref a] H (fun v _ => v = .bl true) fun _ _ _ => False := by
  have hR : Rd H a (.lst (ns.map V.int)) := by
    rcases hS with h | ⟨o, its, k, h1, h2, _⟩
    · exact h
    · exact absurd h2 (nol a o h1)
  have hF : Le (fun b => if b = a then H a else none) H := fun b o e => by
    have e : (if b = a then H a else none) = some o := e
    split at e
    · rename_i hb
      rw [hb]
      exact e
    · cases e
  refine ⟨fun b => if b = a then H a else none, [], [], ⟨fun _ => 0, fun _ => none, fun _ => false⟩, 0, [.lst (ns.map .int)], ⟨LeD.of hF, .nil, fun b hb => absurd hb (by simp), rfl, Nat.le_refl _, fun i hi => absurd hi (Nat.not_lt_zero i), fun i ob b e => absurd e (by simp), fun b o e => (by cases e), fun i ob b e => absurd e (by simp), fun b o e => (by cases e), ⟨fun p hp => ⟨ht p hp, if_neg (fun z => ?_), by simp, rfl⟩, fun b o e => ?_, fun b o e => (by cases e)⟩⟩, ⟨.ref a, [], rfl, ⟨a, ns.map V.int, rfl, ?_, RVs.of_ints ns⟩, rfl⟩, rfl, ?_⟩
  · obtain ⟨ps, h1, _⟩ := ht p hp
    rw [z] at h1
    rcases hR with h | ⟨o, h⟩ <;> rw [h1] at h <;> cases h
  · have e : (if b = a then H a else none) = some o := e
    split at e
    · rcases hR with h | ⟨o2, h⟩ <;> rw [h] at e <;> cases e <;> rfl
    · cases e
  · rcases hR with h | ⟨o, h⟩
    · exact .inl (by show (if a = a then H a else none) = _; rw [if_pos rfl]; exact h)
    · exact .inr ⟨o, by show (if a = a then H a else none) = _; rw [if_pos rfl]; exact h⟩
  · rw [h]
    exact fun F' r' H' u _ _ q => q
end
end PX
set_option Elab.async false
set_option linter.all false
set_option maxRecDepth 100000
namespace PX
open PySem PySem.Spec PyProof.Rows L2
def isFnK : ScopeKind → Bool
  | .function => true
  | _ => false
def blkB (N : List Str) (sc scope : Scope) (own : List (Str × Nat)) : Bool := isFnK scope.kind && (scope.names.all (fun y => decide (scope.names.lookup y.1 = some y.2)) && (own.all (fun p => decide (N[p.2]? = some p.1)) &&
  (scope.names.all (fun y => !decide (y.2 = .free) || (decide (sc.names.lookup y.1 = some .cell) || decide (sc.names.lookup y.1 = some .free))) &&
  scope.names.all (fun y => !(decide (y.2 = .local) || decide (y.2 = .cell)) || (decide (y.1 ∈ own.map (·.1)) || !decide (y.1 ∈ N))))))
theorem blk_ok {N : List Str} {sc scope : Scope} {own : List (Str × Nat)} (h : blkB N sc scope own = true) : BlkOk N sc scope own := by
  unfold blkB at h
  simp only [Bool.and_eq_true, List.all_eq_true, Bool.or_eq_true, Bool.not_eq_true', decide_eq_true_eq, decide_eq_false_iff_not, Bool.or_eq_false_iff] at h
  obtain ⟨h1, h2, h3, h4, h5⟩ := h
  refine ⟨?_, fun y hy => h2 y hy, fun p hp => h3 p hp, fun y hy e => (h4 y hy).resolve_left (fun z => z e), fun y hy e => (h5 y hy).resolve_left (fun z => ?_)⟩
  · cases hk : scope.kind with
    | function => rfl
    | _ => rw [hk] at h1; cases h1
  · rcases e with e | e
    · exact z.1 e
    · exact z.2 e
section
variable {X : Cx} {G : Gam} {n0 : Nat}
theorem ss_setLc {i : Nat} {y : Str} {py : Pos} {elt tg iter : Expr} {ifs : List Expr} {scope : Scope} {own : List (Str × Nat)} {pos spos : Pos} {fi : SI} {t : Tg} {gg : TG} {c : ST} {fe : SE} (hc : X.calm = true) (hN : X.N.Nodup) (hy : X.N[i]? = some y) (hyl : X.env.scope.names.lookup y = some .local)
    (hsw : swapsWith (.ListComp elt [⟨tg, iter, ifs, 0⟩] scope pos) (some (.Name y py)) spos.line X.env = pure true) (hi : PI X tg iter (rdI G n0 fi)) (ok : BlkOk X.N X.env.scope scope own) (ht : TgB G (own.map (·.2)) t gg)
    (hg : ∀ (s : Shared) (H : Hp) (C : Addr) (cl : List (Str × Addr)) (fp : List Addr), PG (X.blk s H scope (compEnvC scope cl C X.env) fp) tg gg)
    (hts : ∀ (s : Shared) (H : Hp) (C : Addr) (cl : List (Str × Addr)) (fp : List Addr), PTs (X.blk s H scope (compEnvC scope cl C X.env) fp) ifs (rdT G n0 c))
    (he : ∀ (s : Shared) (H : Hp) (C : Addr) (cl : List (Str × Addr)) (fp : List Addr), PE (X.blk s H scope (compEnvC scope cl C X.env) fp) elt (rdE G n0 fe)) (hs : ∀ x, foldedSetIterable iter X.env x = pure x := by intro _; rfl) :
    PS X (.Assign [.Name y py] (.ListComp elt [⟨tg, iter, ifs, 0⟩] scope pos) spos) (tAsg (rdE G n0 (eLc fi t (own.map (·.2)) c fe)) (gName i)) :=
  psI (ps_setLc hc hN hy hyl hsw hi ok hg hts (fun s H C cl fp => toV (he s H C cl fp)) hs) fun D σ H h => lc_core' ht σ H _ h
theorem asgV {f : SE} {gg : TG} {st : Stmt} (hp : PS X st (tAsg (rdE G n0 f) gg)) : PS X st (tAsg (rdV G n0 f) gg) := by
  refine psI hp fun D σ H ⟨F, r, env, S, g, s, h⟩ => ⟨F, r, env, S, g, s, ?_⟩
  cases e : f env S with
  | ok p S' =>
    rw [e] at h
    intro F' r' H' u x s' q
    obtain ⟨F2, x2, h2, q2⟩ := freeze s'.hr q
    exact h F2 r' H' u (x.trans x2) (s'.ext x2 h2) q2
  | ex => rw [e] at h; exact h
  | no => rw [e] at h; exact h
theorem ch_core {o o' : Op2} {t t' : R2} {fa fb fc : SE} (ho : Ok2 G o t) (ho' : Ok2 G o' t') (σ : L2.St) (H : Hp) (Q : VK) (hh : rdE G n0 (eCh o o' fa fb fc) σ H Q) : tChain t t' (rdV G n0 fa) (rdV G n0 fb) (rdV G n0 fc) σ H Q := by
  obtain ⟨F, r, env, S, g, s, h⟩ := hh
  refine stV s cnE h fun p S1 F1 r1 H1 u x1 s1 q1 h1 => ?_
  refine stV s1 cnE h1 fun q S2 F2 r2 H2 v x2 s2 q2 h2 => ?_
  split at h2
  · rename_i eo
    refine ho n0 g F2 r2 S2 H2 p.2 q.2 u v _ _ s2.hr (q1.ext x2) q2 eo fun F3 r3 H3 w x3 hr3 rf => ⟨true, rf, ?_⟩
    refine stV (s2.ext x3 hr3) cnE h2 fun z S4 F4 r4 H4 w' x4 s4 q4 h4 => ?_
    exact endO (T := fun Q => t' v w' H4 Q) s4 (((x1.trans x2).trans x3).trans x4) h4 fun z' ez k => ho' n0 g F4 r4 S4 H4 q.2 z.2 v w' z' Q s4.hr (q2.ext (x3.trans x4)) q4 ez k
  · rename_i eo
    refine ho n0 g F2 r2 S2 H2 p.2 q.2 u v _ _ s2.hr (q1.ext x2) q2 eo fun F3 r3 H3 w x3 hr3 rf => ⟨false, rf, ?_⟩
    exact h2 F3 r3 H3 _ ((x1.trans x2).trans x3) (s2.ext x3 hr3) rfl
  · exact h2.elim
theorem st_ch {o1 o2 : CmpOp} {o o' : Op2} {t t' : R2} {a b c : Expr} {fa fb fc : SE} {pos : Pos} (hop : OpR X (compareOp o1) t) (ho : Ok2 G o t) (hop' : OpR X (compareOp o2) t') (ho' : Ok2 G o' t') (ha : PE X a (rdE G n0 fa)) (hb : PE X b (rdE G n0 fb)) (hc : PE X c (rdE G n0 fc))
    (hm : lastMarks [o1, o2] [b, c] = false := by with_unfolding_all rfl) : PT X (.Compare a [o1, o2] [b, c] pos) (rdT G n0 (tBl (eCh o o' fa fb fc))) :=
  st_of (pt_chain hop hop' (toV ha) (toV hb) (toV hc) hm) (ch_core ho ho')
end
theorem FunD_binds {K : PySem.W.Frag} {x qual : Str} {params : Arguments} {body : List Stmt} {scope : Scope} {f : Addr} {fd : FuncData} {ps : List Str} (F : FunD K x qual params body scope [] [] f fd)
    (h : ∀ (kV doc pm : Value) (an : Option Addr) (cdv ct : Value) (us : List Value), us.length = ps.length → bindArgs (PySem.W.fnOf x qual params body scope .none kV doc pm an cdv ct) ⟨us, []⟩ = pure (ps.zip us)) : Binds K fd ps [] := fun s us _ hl => by
  rw [List.append_nil] at hl ⊢
  exact F.bindsA h s us hl
end PX
set_option Elab.async false
set_option linter.all false
set_option maxRecDepth 100000
set_option maxHeartbeats 1000000
namespace PX
open PySem PySem.Spec PyProof.Rows L2
def flatP : PV → Bool
  | .non => true
  | .bl _ => true
  | .int _ => true
  | .str _ => true
  | _ => false
def eqP : PV → PV → Bool
  | .non, .non => true
  | .bl a, .bl b => a == b
  | .bl a, .int b => (if a then 1 else 0) == b
  | .int a, .bl b => a == (if b then 1 else 0)
  | .int a, .int b => a == b
  | .str a, .str b => a == b
  | _, _ => false
def flatsP : List PV → Bool
  | [] => true
  | v :: vs => flatP v && flatsP vs
section
variable {X : Cx} {G : Gam} {n0 : Nat} {g : Gh} {F : Hp} {r : List Addr} {S : Store} {H : Hp}
theorem flat_ok {v : PV} {u : V} (q : RV G F r v u) (h : flatP v = true) : flatV u = true := by
  cases v <;> first | (cases q; rfl) | cases h
theorem flats_ok : ∀ {vs : List PV} {us : List V}, RVs G F r vs us → flatsP vs = true → us.all flatV = true
  | [], us, q, _ => by
    cases (show us = [] from q)
    rfl
  | v :: vs, us, q, h => by
    obtain ⟨u, ur, rfl, k, l⟩ := q
    simp only [flatsP, Bool.and_eq_true] at h
    rw [List.all_cons, flat_ok k h.1, flats_ok l h.2]
    rfl
theorem eqP_ok {v w : PV} {u y : V} (q : RV G F r v u) (k : RV G F r w y) (h : flatP v = true) (h2 : flatP w = true) : eqP v w = eqV u y := by
  cases v <;> cases w <;> first | (cases q; cases k; rfl) | (simp [flatP] at h; done) | (simp [flatP] at h2; done)
theorem units65 {cf : CF} {k : Nat} (T : Tb X G cf k) : X.A.units + 65 < cLine := by
  have := T.room.un
  omega
end
end PX
set_option Elab.async false
set_option linter.all false
set_option maxRecDepth 100000
set_option maxHeartbeats 2000000
namespace PX
open PySem PySem.Spec PyProof.Rows L2 ZG
theorem SqG.le {K : PySem.W.Frag} {b : Bool} {H H' : Hp} {a : Addr} {xs : List V} (q : SqG b K H a xs) (k : Le H H') : SqG b K H' a xs := by
  cases b with
  | true => exact k.sqT q
  | false => exact k.sqL q
structure ZDone (H0 H' : Hp) (S : Addr) (xs ys : List V) (ts : List Addr) : Prop where
  keep : ∀ c o, H0 c = some o → H' c = some o
  new : H0 S = none
  lst : H' S = some (.lst (ts.map V.ref))
  len : ts.length = min xs.length ys.length
  tup : ∀ (k : Nat) t, ts[k]? = some t → ∃ x y, xs[k]? = some x ∧ ys[k]? = some y ∧ H' t = some (.tup [x, y]) ∧ H0 t = none
end PX
set_option Elab.async false
set_option linter.all false
set_option maxRecDepth 100000
set_option maxHeartbeats 1000000
namespace PX
open PySem PySem.Spec PyProof.Rows L2 ZG
def rngC : Int → Int → Nat → List PV
  | _, _, 0 => []
  | lo, c, n + 1 => .int lo :: rngC (lo + c) c n
def sizeC (i j c : Int) : Nat := (Builtin.Range.rangeSize i j c).toNat
def okC (i j c : Int) : Bool := decide (c ≠ 0) && decide (c.natAbs < 1073741824) && Builtin.Range.small i j c && decide (Builtin.Range.rangeSize i j c = (sizeC i j c : Int))
def iRg3 (a b c : SE) : SI := fun env S => (a env S).bind fun p S1 => (b env S1).bind fun q S2 => (c env S2).bind fun z S3 => match p.2, q.2, z.2 with
  | .int i, .int j, .int k => if okC i j k then .ok (rngC i k (sizeC i j k), []) S3 else .no
  | _, _, _ => .no
def okL (i j : Int) : Bool := decide (-1000000 ≤ i) && decide (i ≤ 1000000) && decide (-1000000 ≤ j) && decide (j ≤ 1000000)
def eLr1 (a : SE) : SE := fun env S => (a env S).bind fun p S1 => match p.2 with
  | .int j => if okL 0 j then .ok (true, .lst (rngL 0 j.toNat)) S1 else .no
  | _ => .no
section
variable {G : Gam} {n0 : Nat} {g : Gh} {F : Hp} {r : List Addr} {S : Store} {H : Hp}
theorem rngC_get : ∀ {n : Nat} {lo c : Int} {i : Nat} {t : PV}, (rngC lo c n)[i]? = some t → i < n ∧ t = .int (lo + (i : Nat) * c)
  | 0, lo, c, i, t, e => by simp [rngC] at e
  | n + 1, lo, c, 0, t, e => by
    simp [rngC] at e
    exact ⟨by omega, by rw [← e]; simp⟩
  | n + 1, lo, c, i + 1, t, e => by
    have e : (rngC (lo + c) c n)[i]? = some t := by simpa [rngC] using e
    obtain ⟨h1, h2⟩ := rngC_get e
    refine ⟨by omega, ?_⟩
    rw [h2]
    congr 1
    rw [Int.natCast_succ, Int.add_mul]
    omega
theorem rngC_len : ∀ (n : Nat) (lo c : Int), (rngC lo c n).length = n
  | 0, lo, c => rfl
  | n + 1, lo, c => by
    show (rngC (lo + c) c n).length + 1 = n + 1
    rw [rngC_len n]
theorem its_rngC {g' : Gh} {lo c : Int} {n : Nat} : Its G n0 g' F r (Itc lo c n) (rngC lo c n) := fun g2 hg2 F2 r2 S2 H2 h2 x2 => by
  refine ⟨fun i x ex => ?_, fun i hi => by rw [rngC_len] at hi; exact hi⟩
  obtain ⟨h1, rfl⟩ := rngC_get ex
  refine ⟨h1, fun v H3 hy => ?_⟩
  obtain ⟨rfl, rfl⟩ := hy
  exact ⟨F2, .refl _ _, h2, rfl⟩
variable {X : Cx} {tg e e2 e3 : Expr} {fe fe2 fe3 : SE} {p pos p2 pos2 : Pos}
theorem si_rng3 (hg : Gl X "range") (hm : X.mg "range" = none) (he : PE X e (rdE G n0 fe)) (he2 : PE X e2 (rdE G n0 fe2)) (he3 : PE X e3 (rdE G n0 fe3)) (hs : starEach [e, e2, e3] X.env = (false, eval e X.env) :: starEach [e2, e3] X.env := by rfl)
    (hs2 : starEach [e2, e3] X.env = (false, eval e2 X.env) :: starEach [e3] X.env := by rfl) (hs3 : starEach [e3] X.env = (false, eval e3 X.env) :: starEach [] X.env := by rfl) (hpl : (backTo pos (starEach [e2, e3] X.env)).any (·.1) = false := by rfl) :
    PI X tg (.Call (.Name "range" p) [e, e2, e3] [] pos) (rdI G n0 (iRg3 fe fe2 fe3)) := by
  refine piI (pi_range3 hg hm (pa_cons (toV he) (pa_cons (toV he2) (pa_cons (toV he3) pa_nil hs3) hs2) hs) hs hpl) fun σ H T ⟨F, r, env, S, g, s, h⟩ => ?_
  refine stV s cnI h fun p S1 F1 r1 H1 u x1 s1 q1 h1 => ?_
  refine stV s1 cnI h1 fun q S2 F2 r2 H2 w x2 s2 q2 h2 => ?_
  refine stV s2 cnI h2 fun z S3 F3 r3 H3 y x3 s3 q3 h3 => ?_
  obtain ⟨b, v⟩ := p
  obtain ⟨b', v'⟩ := q
  obtain ⟨b2, v2⟩ := z
  split at h3
  · rename_i i j k ei ej ek
    simp only at ei ej ek
    subst ei ej ek
    split at h3
    · rename_i hj
      unfold okC at hj
      simp only [Bool.and_eq_true, decide_eq_true_eq] at hj
      obtain ⟨⟨⟨k1, k2⟩, k3⟩, k4⟩ := hj
      exact ⟨i, j, k, sizeC i j k, by rw [show u = V.int i from q1, show w = V.int j from q2, show y = V.int k from q3], ⟨k1, k2, k3, k4⟩, h3 F3 r3 H3 _ g ((x1.trans x2).trans x3) s3 its_rngC (.refl g) (fun _ _ _ _ _ _ h _ => h)⟩
    · exact h3.elim
  · exact h3.elim
theorem okL_ok {i j : Int} (h : okL i j = true) : RgOk i j := by
  unfold okL at h
  simp only [Bool.and_eq_true, decide_eq_true_eq] at h
  exact ⟨by omega, by omega, by omega, by omega, by omega⟩
theorem rng_rv : ∀ (n : Nat) (lo : Int), RVs G F r (rngL lo n) ((List.range n).map fun i => V.int (lo + (i : Nat)))
  | 0, lo => rfl
  | n + 1, lo => by
    rw [List.range_succ_eq_map, List.map_cons, List.map_map]
    refine ⟨_, _, rfl, ?_, ?_⟩
    · show V.int (lo + ((0 : Nat) : Int)) = V.int lo
      congr 1
      omega
    · have := rng_rv n (lo + 1)
      have e : ((List.range n).map fun i => V.int (lo + 1 + (i : Nat))) = (List.range n).map ((fun i => V.int (lo + (i : Nat))) ∘ Nat.succ) := by
        apply List.map_congr_left
        intro i _
        show V.int (lo + 1 + (i : Nat)) = V.int (lo + ((i + 1 : Nat) : Int))
        congr 1
        omega
      rw [← e]
      exact this
theorem rg_rv (i j : Int) : RVs G F r (rngL i (j - i).toNat) (rgV i j) := rng_rv _ _
theorem se_lr1 (hc : X.calm = true) (hl : Gl X "list") (hml : X.mg "list" = none) (hg : Gl X "range") (hm : X.mg "range" = none) (he : PE X e (rdE G n0 fe)) (hs : starEach [e] X.env = (false, eval e X.env) :: starEach [] X.env := by rfl)
    (na : starEach [.Call (.Name "range" p2) [e] [] pos2] X.env = (false, eval (.Call (.Name "range" p2) [e] [] pos2) X.env) :: starEach [] X.env := by rfl) : PE X (.Call (.Name "list" p) [.Call (.Name "range" p2) [e] [] pos2] [] pos) (rdE G n0 (eLr1 fe)) := by
  refine peI (pe_listRg hc hl hml (prg_1 hg hm (toV he) hs) na) fun σ H Q ⟨F, r, env, S, g, s, h⟩ => ?_
  refine stV s cnE h fun p S1 F1 r1 H1 u x1 s1 q1 h1 => ?_
  obtain ⟨b, v⟩ := p
  cases v with
  | int j =>
    simp only at h1
    split at h1
    · rename_i hj
      refine ⟨j, q1, okL_ok hj, fun q hq => ?_⟩
      obtain ⟨h3, k3⟩ := new_obj s1.hr hq (v := .lst (rngL 0 j.toNat)) ⟨_, rfl, by have := rg_rv (G := G) (F := F1) (r := r1) 0 j; rw [Int.sub_zero] at this; exact this⟩ rfl
      exact h1 F1 r1 _ _ x1 (s1.ext (.refl _ _) h3) k3
    · exact h1.elim
  | _ => exact h1.elim
end
end PX
set_option Elab.async false
set_option linter.all false
set_option maxRecDepth 100000
set_option maxHeartbeats 2000000
set_option Elab.async false
set_option linter.all false
set_option maxRecDepth 100000
set_option maxHeartbeats 1000000
namespace PX
open PySem PySem.Spec PyProof.Rows L2
def setG (n0 : Nat) (o k v : PV) (S : Store) : Option Store := match o with
  | .ref i => match S[i]? with
    | some (.lst xs) => setL n0 o k v S
    | some (.dct ks vs) => match keyOf k with
      | some q => match dPut ks vs q v with
        | some z => if mayPut n0 i v && small vs.length then some (S.set i (.dct z.1 z.2)) else none
        | none => none
      | none => none
    | _ => none
  | _ => none
def oGet : Op2 := fun x y S => match dIx x y S with
  | some z => some z
  | none => match deref S x with
    | some (.lst xs) => match y with
      | .int i => match ixP xs.length i with
        | some j => (xs[j]?).map fun v => (false, v)
        | none => none
      | _ => none
    | _ => none
section
variable {X : Cx} {G : Gam} {n0 : Nat} {g : Gh} {F : Hp} {r : List Addr} {S : Store} {H : Hp}
def rSetG : TSet := fun o i v H Q => rSetL o i v H Q ∨ rSetD o i v H Q
theorem set_G (hu : X.A.units + 1 < cLine) : PSet X rSetG := by
  intro pins s σ H o i v ov iv u Q I ro ri rv h
  rcases h with h | h
  · exact set_list pins s σ H o i v ov iv u Q I ro ri rv h
  · exact set_dict hu pins s σ H o i v ov iv u Q I ro ri rv h
theorem store_dct {i : Nat} {u : V} {ks : DKs} {vs : List PV} (h : HR G n0 g F r S H) (q : RV G F r (.ref i) u) (e : S[i]? = some (.dct ks vs)) : ∃ a ho us, u = .ref a ∧ r[i]? = some a ∧ H a = some ho ∧ DR F ho ks us ∧ RVs G F (lim n0 g.L r i) vs us := by
  obtain ⟨a, e1, rfl⟩ := q
  obtain ⟨ho, h1, us, d, k⟩ := h.obj i _ a e e1
  exact ⟨a, ho, us, rfl, e1, h1.nl rfl, d, k⟩
theorem chg_setG : ChgI G n0 (setG n0) rSetG := fun g F r S H o k v u y w S' Q h q1 q2 q3 e kk => by
  unfold setG at e
  split at e
  · rename_i i
    split at e
    · exact .inl (chg_setL g F r S H _ k v u y w S' Q h q1 q2 q3 e kk)
    · rename_i ks vs es
      cases ek : keyOf k with
      | none => simp only [ek] at e; cases e
      | some q =>
        simp only [ek] at e
        cases ep : dPut ks vs q v with
        | none => simp only [ep] at e; cases e
        | some z =>
          simp only [ep] at e
          split at e
          · rename_i hm
            cases e
            rw [Bool.and_eq_true] at hm
            obtain ⟨a, ho, us, rfl, e1, e2, d, k2⟩ := store_dct h q1 es
            have hw := put_rv hm.1 (L := g.L) q3
            have hl : us.length < sizeLine := by rw [← RVs.length k2]; exact small_lt hm.2
            cases ks with
            | k l =>
              obtain ⟨rfl, hll⟩ := d
              cases q with
              | t q => cases ep
              | k q =>
                have ep : some (DKs.k (putB eqK l vs q v).1, (putB eqK l vs q v).2) = some z := ep
                cases ep
                obtain ⟨us', p1, p2, p3⟩ := putB_ok eqK_ok (q := q) hw hll k2
                refine .inr ⟨a, _, rfl, .inl ⟨_, q, e2, keyOf_k q2 ek, by rw [List.length_zip, hll, Nat.min_self]; exact hl, rfl⟩, kk _ ?_⟩
                rw [p1]
                exact h.put e1 es rfl rfl ⟨us', ⟨rfl, p2⟩, p3⟩
            | t l =>
              obtain ⟨rfl, hll⟩ := d
              cases q with
              | k q => cases ep
              | t q =>
                have ep : some (DKs.t (putB eqKs l vs q v).1, (putB eqKs l vs q v).2) = some z := ep
                cases ep
                obtain ⟨b, rfl, eb⟩ := keyOf_t q2 ek
                obtain ⟨us', p1, p2, p3⟩ := putB_ok eqKs_ok (q := q) hw hll k2
                refine .inr ⟨a, _, rfl, .inr ⟨_, q, b, e2, rfl, h.sub.tpH eb, by rw [List.length_zip, hll, Nat.min_self]; exact hl, rfl⟩, kk _ ?_⟩
                rw [p1]
                exact h.put e1 es rfl rfl ⟨us', ⟨rfl, p2⟩, p3⟩
            | n l => cases q <;> cases ep
          · cases e
    · cases e
  · cases e
def rGetG (K : PySem.W.Frag) : R2 := fun x y H Q => rIxDct x y H Q ∨ rIxL K x y H Q
theorem get_G (hu : X.A.units + 1 < cLine) : PGet X (rGetG X.K) := by
  intro pins s σ H x y v u Q I rx ry h
  rcases h with h | h
  · obtain ⟨a, z, rfl, gd, q⟩ := h
    cases (show v = Value.ref a from rx)
    exact d_getItem hu I gd ry fun w' s3 I3 rw' => ⟨z, H, I3, rw', q⟩
  · obtain ⟨p, xs, i, z, rfl, rfl, hq, he, q⟩ := h
    cases rx
    obtain ⟨t, rfl⟩ := ry
    obtain ⟨its, r, pl, hz⟩ := I.list hq
    obtain ⟨j, h1, h2, h3, h4, h5⟩ := atI_get he
    obtain ⟨w, ew, rw'⟩ := r.get h2
    have hl := r.length
    have hn := line63
    have fin : EP X pins σ Q w s := ⟨z, H, I, rw', q⟩
    by_cases h0 : 0 ≤ i
    · have hj : i.toNat = j := by
        rw [seqIndex_of h0 h5] at h1
        exact Option.some.inj h1
      exact wpAny_getItem_list pl.isList h0 (by omega) (by rw [hj]; simpa using ew) fin
    · have hj : (i + (its.toArray.size : Int)).toNat = j := by
        rw [seqIndex_neg (by omega) h4] at h1
        rw [List.size_toArray, ← hl]
        exact Option.some.inj h1
      exact wpAny_getItem_list_neg pl.isList (by omega) (by rw [List.size_toArray] <;> omega) (by omega) (by rw [hj]; simpa using ew) fin
theorem dIx_ok (h : HR G n0 g F r S H) {x y : PV} {u v : V} {z : Bool × PV} {Q : VK} (q1 : RV G F r x u) (q2 : RV G F r y v) (e : dIx x y S = some z) (k : ∀ F' r' H' w, Ext F F' r r' → HR G n0 g F' r' S H' → RF G g F' r' H' z.1 z.2 w → Q w H') : rIxDct u v H Q := by
  unfold dIx at e
  split at e
  · rename_i ks vs edr
    cases ek : keyOf y with
    | none => simp only [ek] at e; cases e
    | some kk =>
      simp only [ek] at e
      cases eg : dGet ks vs kk with
      | none => simp only [eg] at e; cases e
      | some o =>
        cases o with
        | none => simp only [eg] at e; cases e
        | some w =>
          simp only [eg] at e
          cases e
          obtain ⟨a', o', rfl, gd, y', rfl, rv⟩ := dGet_ok h q1 edr q2 ek eg
          exact ⟨a', y', rfl, gd, k F r H y' (.refl _ _) h rv⟩
  · cases e
theorem ok_get : Ok2 G oGet (rGetG G.K) := fun n0 g F r S H x y u v z Q h q1 q2 e k => by
  unfold oGet at e
  cases ed : dIx x y S with
  | some w =>
    simp only [ed] at e
    cases e
    exact .inl (dIx_ok h q1 q2 ed k)
  | none =>
    simp only [ed] at e
    split at e
    · rename_i xs edr
      split at e
      · rename_i i
        split at e
        · rename_i j ej
          cases ew : xs[j]? with
          | none => rw [ew] at e; cases e
          | some w =>
            rw [ew] at e
            cases e
            obtain ⟨a, us, rfl, k1, k2⟩ := view_lst h q1 edr
            obtain ⟨w', e1, q3⟩ := RVs.get k2 ew
            have ea : atI us i = some w' := by
              unfold atI
              rw [← RVs.length k2, ← ixP_eq, ej]
              exact e1
            cases (show v = V.int i from q2)
            exact .inr ⟨a, us, i, w', rfl, rfl, .inl k1, ea, k F r H w' (.refl F r) h q3⟩
        · cases e
      · cases e
    · cases e
theorem units2 {cf : CF} {k : Nat} (T : Tb X G cf k) : X.A.units + 1 < cLine := by
  have := T.room.un
  omega
end
end PX
set_option Elab.async false
set_option linter.all false
set_option maxRecDepth 100000
set_option maxHeartbeats 2000000
namespace ZG
open PySem RZ
section
variable {prog : Program} {w : World} {A : Around} {E : Value → Shared → Prop} {s : Shared}
theorem begins_sq (b : Bool) (l : Addr) (items : Array Value) : Begins (.ref l) (itObj b l) fun h => SqOb b h l items := by
  cases b with
  | true => exact begins_tuple l items
  | false => exact begins_list l items
theorem z3_end {b1 b2 b3 : Bool} {z TI TO i1 i2 i3 l1 l2 l3 : Addr} {k : Nat} {xs ys zs : Array Value} {a1 a2 a3 : Value} {Q : Fin → Shared → Prop} (hh : A.handled = none) (S : ZipSep3 z TI TO i1 i2 i3 [i1, l1] [i2, l2] [i3, l3])
    (hz : IsZip s.heap z TI TO .none) (hTI : IsTupOf3 s.heap TI (.ref i1) (.ref i2) (.ref i3)) (hTO : IsTupOf3 s.heap TO a1 a2 a3)
    (h1 : SqIt b1 s.heap i1 l1 k) (h2 : SqIt b2 s.heap i2 l2 k) (h3 : SqIt b3 s.heap i3 l3 k) (hl1 : SqOb b1 s.heap l1 xs) (hl2 : SqOb b2 s.heap l2 ys) (hl3 : SqOb b3 s.heap l3 zs) (hend : xs[k]? = none ∨ ys[k]? = none ∨ zs[k]? = none)
    (hE : ∀ h' e, (∀ c o, c ≠ z → c ≠ TO → c ≠ i1 → c ≠ i2 → c ≠ i3 → s.heap.get? c = some o → h'.get? c = some o) → (∃ o, h'.get? e = some o ∧ o.cls = .type "StopIteration") → E (.ref e) { s with heap := h' }) :
    wpAny (model prog w) A (Builtin.«zip.__next__» ⟨[.ref z], []⟩) Q E s := by
  have l1z : l1 ≠ z := fun e => S.zf1 (by simp [e])
  have l2z : l2 ≠ z := fun e => S.zf2 (by simp [e])
  have l3z : l3 ≠ z := fun e => S.zf3 (by simp [e])
  have l1T : l1 ≠ TO := fun e => S.Tf1 (by simp [e])
  have l2T : l2 ≠ TO := fun e => S.Tf2 (by simp [e])
  have l3T : l3 ≠ TO := fun e => S.Tf3 (by simp [e])
  have i1z := S.zi1.symm
  have i2z := S.zi2.symm
  have i3z := S.zi3.symm
  have i12 : i1 ≠ i2 := fun e => S.sep1_2 (by simp [e])
  have i13 : i1 ≠ i3 := fun e => S.sep1_3 (by simp [e])
  have i23 : i2 ≠ i3 := fun e => S.sep2_3 (by simp [e])
  have l2i1 : l2 ≠ i1 := fun e => S.sep1_2 (by simp [e])
  have l3i1 : l3 ≠ i1 := fun e => S.sep1_3 (by simp [e])
  have l3i2 : l3 ≠ i2 := fun e => S.sep2_3 (by simp [e])
  show wpAny _ _ (field (.ref z) 2 >>= _) _ _ _
  refine wpAny_bind (wpAny_field hz rfl (x := .bool false) rfl ?_)
  show wpAny _ _ (field (.ref z) 3 >>= _) _ _ _
  refine wpAny_bind (wpAny_field hz rfl (x := .ref TI) rfl ?_)
  refine wpAny_bind (wpAny_seqItems hTI rfl ?_)
  show wpAny _ _ (Builtin.SmallTypes.ownedTupleIsFree (.ref z) >>= _) _ _ _
  refine wpAny_bind ?_
  unfold Builtin.SmallTypes.ownedTupleIsFree
  refine wpAny_bind (wpAny_field hz rfl (x := .none) rfl (wpAny_pure ?_))
  simp only [if_true]
  refine wpAny_bind (wpAny_rule ?_)
  refine wpAny_bind (wpAny_field hz rfl (x := .ref TO) rfl ?_)
  refine wpAny_bind (wpAny_setField_rec hz (by simp) fun h₁ hz₁ hs₁ => ?_)
  replace hz₁ : IsZip h₁ z TI TO .ellipsis := hz₁
  refine wpAny_bind ?_
  simp only [List.zipIdx_cons, List.zipIdx_nil, List.forIn_cons, List.forIn_nil]
  refine wpAny_bind (wpAny_bind (wpAny_onRaise ?_))
  show wpAny _ _ (Builtin.SmallTypes.nextOf (.ref i1) >>= _) _ _ _
  cases hx : xs[k]? with
  | none =>
    refine wpAny_bind (nextOf_end hh (h1.extBut hs₁.extBut i1z) (hl1.extBut hs₁.extBut l1z) hx fun h₂ e hs₂ he => ?_)
    obtain ⟨oe, hoe, hce⟩ := he
    have hz₂ : IsZip h₂ z TI TO .ellipsis := hs₂ _ _ i1z.symm hz₁
    have hez : e ≠ z := fun x => by subst x; rw [hz₂] at hoe; cases hoe; simp at hce
    refine wpAny_setField_rec hz₂ (by simp) fun h₃ _ hs₃ => hE h₃ e (fun c o c1 _ c3 _ _ x => hs₃.extBut _ _ c1 (hs₂ _ _ c3 (hs₁.extBut _ _ c1 x))) ⟨oe, hs₃.extBut _ _ hez hoe, hce⟩
  | some x =>
    have hend : ys[k]? = none ∨ zs[k]? = none := by rcases hend with h | h; rw [hx] at h; cases h; exact h
    refine wpAny_bind (nextOf_item (h1.extBut hs₁.extBut i1z) (hl1.extBut hs₁.extBut l1z) hx fun h₂ h1₂ hs₂ => wpAny_pure ?_)
    have hTO₂ : IsTupOf3 h₂ TO a1 a2 a3 := hs₂.extBut _ _ S.Ti1 (hs₁.extBut _ _ S.TOz hTO)
    refine wpAny_bind (wpAny_seqItems hTO₂ rfl ?_)
    refine wpAny_bind (updateSeq_IsTupOf3 hTO₂ fun h₃ hTO₃ hs₃ => ?_)
    replace hTO₃ : IsTupOf3 h₃ TO x a2 a3 := hTO₃
    refine wpAny_bind (wpAny_letGo (wpAny_pure ?_))
    refine wpAny_bind (wpAny_bind (wpAny_onRaise ?_))
    show wpAny _ _ (Builtin.SmallTypes.nextOf (.ref i2) >>= _) _ _ _
    have h2₃ : SqIt b2 h₃ i2 l2 k := ((h2.extBut hs₁.extBut i2z).extBut hs₂.extBut i12.symm).extBut hs₃.extBut S.Ti2.symm
    have hl2₃ : SqOb b2 h₃ l2 ys := ((hl2.extBut hs₁.extBut l2z).extBut hs₂.extBut l2i1).extBut hs₃.extBut l2T
    have hz₃ : IsZip h₃ z TI TO .ellipsis := hs₃.extBut _ _ S.TOz.symm (hs₂.extBut _ _ i1z.symm hz₁)
    have hk₃ : ∀ c o, c ≠ z → c ≠ TO → c ≠ i1 → s.heap.get? c = some o → h₃.get? c = some o := fun c o c1 c2 c3 q => hs₃.extBut _ _ c2 (hs₂.extBut _ _ c3 (hs₁.extBut _ _ c1 q))
    cases hy : ys[k]? with
    | none =>
      refine wpAny_bind (nextOf_end hh h2₃ hl2₃ hy fun h₄ e hs₄ he => ?_)
      obtain ⟨oe, hoe, hce⟩ := he
      have hz₄ : IsZip h₄ z TI TO .ellipsis := hs₄ _ _ i2z.symm hz₃
      have hez : e ≠ z := fun x => by subst x; rw [hz₄] at hoe; cases hoe; simp at hce
      refine wpAny_setField_rec hz₄ (by simp) fun h₅ _ hs₅ => hE h₅ e (fun c o c1 c2 c3 c4 _ x => hs₅.extBut _ _ c1 (hs₄ _ _ c4 (hk₃ c o c1 c2 c3 x))) ⟨oe, hs₅.extBut _ _ hez hoe, hce⟩
    | some y =>
      have hzz : zs[k]? = none := by rcases hend with h | h; rw [hy] at h; cases h; exact h
      refine wpAny_bind (nextOf_item h2₃ hl2₃ hy fun h₄ h2₄ hs₄ => wpAny_pure ?_)
      have hTO₄ : IsTupOf3 h₄ TO x a2 a3 := hs₄.extBut _ _ S.Ti2 hTO₃
      refine wpAny_bind (wpAny_seqItems hTO₄ rfl ?_)
      refine wpAny_bind (updateSeq_IsTupOf3 hTO₄ fun h₅ hTO₅ hs₅ => ?_)
      refine wpAny_bind (wpAny_letGo (wpAny_pure ?_))
      refine wpAny_bind (wpAny_bind (wpAny_onRaise ?_))
      show wpAny _ _ (Builtin.SmallTypes.nextOf (.ref i3) >>= _) _ _ _
      have hk₅ : ∀ c o, c ≠ z → c ≠ TO → c ≠ i1 → c ≠ i2 → s.heap.get? c = some o → h₅.get? c = some o := fun c o c1 c2 c3 c4 q => hs₅.extBut _ _ c2 (hs₄.extBut _ _ c4 (hk₃ c o c1 c2 c3 q))
      have hz₅ : IsZip h₅ z TI TO .ellipsis := hs₅.extBut _ _ S.TOz.symm (hs₄.extBut _ _ i2z.symm hz₃)
      refine wpAny_bind (nextOf_end hh (h3.at_ fun o q => hk₅ _ o i3z S.Ti3.symm i13.symm i23.symm q) (l := l3) (items := zs) (by
        cases b3 with
        | true => exact Heap.IsTuple.at hl3 fun o q => hk₅ l3 o l3z l3T l3i1 l3i2 q
        | false => exact Heap.IsList.at hl3 fun o q => hk₅ l3 o l3z l3T l3i1 l3i2 q) hzz fun h₆ e hs₆ he => ?_)
      obtain ⟨oe, hoe, hce⟩ := he
      have hz₆ : IsZip h₆ z TI TO .ellipsis := hs₆ _ _ i3z.symm hz₅
      have hez : e ≠ z := fun x => by subst x; rw [hz₆] at hoe; cases hoe; simp at hce
      refine wpAny_setField_rec hz₆ (by simp) fun h₇ _ hs₇ => hE h₇ e (fun c o c1 c2 c3 c4 c5 x => hs₇.extBut _ _ c1 (hs₆ _ _ c5 (hk₅ c o c1 c2 c3 c4 x))) ⟨oe, hs₇.extBut _ _ hez hoe, hce⟩
theorem pyNext_z3_end {b1 b2 b3 : Bool} {z TI TO i1 i2 i3 l1 l2 l3 : Addr} {k : Nat} {xs ys zs : Array Value} {a1 a2 a3 : Value} {Q : Option Value → Shared → Prop} (hh : A.handled = none) (S : ZipSep3 z TI TO i1 i2 i3 [i1, l1] [i2, l2] [i3, l3])
    (hz : IsZip s.heap z TI TO .none) (hTI : IsTupOf3 s.heap TI (.ref i1) (.ref i2) (.ref i3)) (hTO : IsTupOf3 s.heap TO a1 a2 a3)
    (h1 : SqIt b1 s.heap i1 l1 k) (h2 : SqIt b2 s.heap i2 l2 k) (h3 : SqIt b3 s.heap i3 l3 k) (hl1 : SqOb b1 s.heap l1 xs) (hl2 : SqOb b2 s.heap l2 ys) (hl3 : SqOb b3 s.heap l3 zs) (hend : xs[k]? = none ∨ ys[k]? = none ∨ zs[k]? = none)
    (hQ : ∀ h', (∀ c o, c ≠ z → c ≠ TO → c ≠ i1 → c ≠ i2 → c ≠ i3 → s.heap.get? c = some o → h'.get? c = some o) → Q none { s with heap := h' }) : wpAny (model prog w) A (pyNext (.ref z)) Q E s := by
  have hT : s.TypeIs (.ref z) "zip" := ⟨_, hz, rfl⟩
  unfold pyNext
  refine wpAny_bind (wpAny_attempt (wpAny_callSpecial?_slot (name := Str.ofString "__next__") hT F.slot_zip_next
    (wpAny_call_entry F.slot_zip_next hT F.entry_zip_next (z3_end hh S hz hTI hTO h1 h2 h3 hl1 hl2 hl3 hend fun h' e hk he => ?_) (F.args_zip_next_1 _))))
  obtain ⟨o, ho, hc⟩ := he
  refine wpAny_bind (wpAny_isInstance (T := "StopIteration") (b := true) ⟨o, ho, hc⟩ isSubtype_stop ?_)
  exact wpAny_pure (hQ _ hk)
theorem neA {a b : Nat} (h : a < b ∨ b < a) : (a : Addr) ≠ b := fun e => by
  have e : (a : Nat) = b := e
  omega
theorem nm2 {a b c : Nat} (h : a < b ∨ b < a) (h2 : a < c ∨ c < a) : (a : Addr) ∉ ([b, c] : List Addr) := fun e => by
  rcases List.mem_cons.mp e with e | e
  · exact neA h e
  · exact neA h2 (List.mem_singleton.mp e)
theorem sep3 {n l1 l2 l3 : Nat} (h1 : l1 < n) (h2 : l2 < n) (h3 : l3 < n) : ZipSep3 (n + 5) (n + 3) (n + 4) n (n + 1) (n + 2) [n, l1] [n + 1, l2] [n + 2, l3] := by
  constructor <;> first | exact List.mem_cons_self | (refine neA ?_; omega) | (refine nm2 ?_ ?_ <;> omega)
end
end ZG
namespace PX
open PySem PySem.Spec PyProof.Rows L2 ZG
def Itz3 (K : PySem.W.Frag) (b1 b2 b3 : Bool) (a b c : Addr) : It :=
  ⟨fun i H => ∃ (xs ys zs : List V) (x y z : V), SqG b1 K H a xs ∧ SqG b2 K H b ys ∧ SqG b3 K H c zs ∧ xs[i]? = some x ∧ ys[i]? = some y ∧ zs[i]? = some z,
    fun i H v H' => ∃ T x y z, v = .ref T ∧ H T = none ∧ H' = upd H T (.tup [x, y, z]) ∧ (∀ xs, SqG b1 K H a xs → xs[i]? = some x) ∧ (∀ ys, SqG b2 K H b ys → ys[i]? = some y) ∧ ∀ zs, SqG b3 K H c zs → zs[i]? = some z,
    fun i H => ∃ xs ys zs : List V, SqG b1 K H a xs ∧ SqG b2 K H b ys ∧ SqG b3 K H c zs ∧ (xs.length ≤ i ∨ ys.length ≤ i ∨ zs.length ≤ i)⟩
theorem turn_z3 {P : Program} {w : World} {K : PySem.W.Frag} {elts : List Expr} {kk : Nat} {tpos : Pos} (b1 b2 b3 : Bool) {a b c z TI TO i1 i2 i3 : Addr} (D : ZipSep3 z TI TO i1 i2 i3 [i1, a] [i2, b] [i3, c]) (ha : a ≠ i1) (hb : b ≠ i2) (hcc : c ≠ i3) :
    Turn P w K (.Tuple elts kk tpos) (Itz3 K b1 b2 b3 a b c) [z, TI, TO, i1, i2, i3] z (fun i h => IsZip h z TI TO .none ∧ IsTupOf3 h TI (.ref i1) (.ref i2) (.ref i3) ∧ (∃ x y u, IsTupOf3 h TO x y u) ∧ SqIt b1 h i1 a i ∧ SqIt b2 h i2 b i ∧ SqIt b3 h i3 c i) where
  mem := by simp
  obj := fun i h st d hc => by
    obtain ⟨hz, hTI, ⟨x, y, u, hTO⟩, h1, h2, h3⟩ := st
    have e' : d = z ∨ d = TI ∨ d = TO ∨ d = i1 ∨ d = i2 ∨ d = i3 := by simpa using hc
    rcases e' with q | q | q | q | q | q
    · rw [q]; exact ⟨_, hz, fun v q => nomatch q⟩
    · rw [q]; exact ⟨_, hTI, fun v q => nomatch q⟩
    · rw [q]; exact ⟨_, hTO, fun v q => nomatch q⟩
    · rw [q]
      obtain ⟨o1, _, e1, d1⟩ := h1.obj
      exact ⟨o1, e1, fun v q => by rw [d1] at q; cases q⟩
    · rw [q]
      obtain ⟨o1, _, e1, d1⟩ := h2.obj
      exact ⟨o1, e1, fun v q => by rw [d1] at q; cases q⟩
    · rw [q]
      obtain ⟨o1, _, e1, d1⟩ := h3.obj
      exact ⟨o1, e1, fun v q => by rw [d1] at q; cases q⟩
  keep := fun i h h' st k => by
    obtain ⟨hz, hTI, ⟨x, y, u, hTO⟩, h1, h2, h3⟩ := st
    exact ⟨k z (by simp) _ hz, k TI (by simp) _ hTI, ⟨x, y, u, k TO (by simp) _ hTO⟩, h1.at_ fun o q => k i1 (by simp) o q, h2.at_ fun o q => k i2 (by simp) o q, h3.at_ fun o q => k i3 (by simp) o q⟩
  item := by
    intro X hP hw hK hc i pins s σ H E I hf st hg
    subst hP hw hK
    obtain ⟨hz, hTI, ⟨x0, y0, u0, hTO⟩, h1, h2, h3⟩ := st
    obtain ⟨xs, ys, zs, x, y, u, hqx, hqy, hqz, hx, hy, hu⟩ := hg
    obtain ⟨its, rv, p, _⟩ := Inv.sqG I hqx
    obtain ⟨its2, rv2, p2, _⟩ := Inv.sqG I hqy
    obtain ⟨its3, rv3, p3, _⟩ := Inv.sqG I hqz
    obtain ⟨v1, hv1, rv1⟩ := rv.get hx
    obtain ⟨v2, hv2, rv2'⟩ := rv2.get hy
    obtain ⟨v3, hv3, rv3'⟩ := rv3.get hu
    have hzl : z < s.heap.objs.size := Heap.lt_size hz
    have n1 : i < its.toArray.size := by have := (List.getElem?_eq_some_iff.mp hv1).1; simpa using this
    have n2 : i < its2.toArray.size := by have := (List.getElem?_eq_some_iff.mp hv2).1; simpa using this
    have n3 : i < its3.toArray.size := by have := (List.getElem?_eq_some_iff.mp hv3).1; simpa using this
    refine wpAny_pyNext_zipD3_item D (drawsG (A := X.A.in1) (I.ok.hd hc) b1 i1 a ha its.toArray) (drawsG (A := X.A.in1) (I.ok.hd hc) b2 i2 b hb its2.toArray) (drawsG (A := X.A.in1) (I.ok.hd hc) b3 i3 c hcc its3.toArray) hz hTI hTO ⟨h1, p⟩ ⟨h2, p2⟩ ⟨h3, p3⟩ n1 n2 n3 fun u1 u2 u3 h' tk y1 y2 y3 z' TO' h1' h2' h3' hT hsz hk => ?_
    have e1 : u1 = v1 := by
      have y1 : its.toArray[i]? = some u1 := y1
      rw [List.getElem?_toArray, hv1] at y1
      exact (Option.some.inj y1).symm
    have e2 : u2 = v2 := by
      have y2 : its2.toArray[i]? = some u2 := y2
      rw [List.getElem?_toArray, hv2] at y2
      exact (Option.some.inj y2).symm
    have e3 : u3 = v3 := by
      have y3 : its3.toArray[i]? = some u3 := y3
      rw [List.getElem?_toArray, hv3] at y3
      exact (Option.some.inj y3).symm
    subst e1 e2 e3
    refine ⟨_, rfl, wpAny_letOwnedTupleGo_zip (s := { s with heap := h', toks := tk }) z' fun h'' z'' sb => ?_⟩
    have hT2 : h''.get? s.heap.objs.size = some { cls := .type "tuple", data := .seq #[u1, u2, u3] } := (sb.2 _ (Nat.ne_of_gt hzl)).trans hT
    have new : ObjOk X.prog X.w (upd H s.heap.objs.size (.tup [x, y, u])) h'' s.heap.objs.size (.tup [x, y, u]) :=
      ⟨by show 3 ≤ sizeLine; decide, [u1, u2, u3], .cons rv1 (.cons rv2' (.cons rv3' .nil)), ⟨_, hT2, rfl, _, rfl⟩⟩
    have I1 : L2.Inv X pins σ (upd H s.heap.objs.size (.tup [x, y, u])) { s with heap := h'', toks := tk } :=
      I.turnedNew (t' := tk) (ch := [z, TI, TO, i1, i2, i3]) (fun d o hb q => (sb.2 d (fun q' => hb (by simp [q']))).trans (hk d o (fun q' => hb (by simp [q'])) (fun q' => hb (by simp [q'])) (fun q' => hb (by simp [q'])) (fun q' => hb (by simp [q'])) (fun q' => hb (by simp [q'])) q)) hf (Nat.le_refl _) new
    refine ⟨.ref s.heap.objs.size, _, I1, rfl, ⟨_, x, y, u, rfl, I.hok.fresh (Nat.le_refl _), rfl, fun l hl => by rw [Inv.sqG_inj I hl hqx]; exact hx, fun l hl => by rw [Inv.sqG_inj I hl hqy]; exact hy, fun l hl => by rw [Inv.sqG_inj I hl hqz]; exact hu⟩, ⟨z'', ?_, ⟨u1, u2, u3, ?_⟩, ?_, ?_, ?_⟩, fun d hcm => ?_⟩
    · exact (sb.2 _ D.TIz).trans (hk _ _ D.TIz D.TITO D.TIi1 D.TIi2 D.TIi3 hTI)
    · exact (sb.2 _ D.TOz).trans TO'
    · exact h1'.1.at_ fun o q => (sb.2 _ D.zi1.symm).trans q
    · exact h2'.1.at_ fun o q => (sb.2 _ D.zi2.symm).trans q
    · exact h3'.1.at_ fun o q => (sb.2 _ D.zi3.symm).trans q
    · have hlt : d < s.heap.objs.size := by
        have e' : d = z ∨ d = TI ∨ d = TO ∨ d = i1 ∨ d = i2 ∨ d = i3 := by simpa using hcm
        rcases e' with q | q | q | q | q | q
        · rw [q]; exact hzl
        · rw [q]; exact Heap.lt_size hTI
        · rw [q]; exact Heap.lt_size hTO
        · rw [q]; exact h1.lt
        · rw [q]; exact h2.lt
        · rw [q]; exact h3.lt
      rw [upd_ne (Nat.ne_of_lt hlt)]
      exact (hf d hcm).1
  done := by
    intro X hP hw hK hc i pins s σ H E I hf st hg
    subst hP hw hK
    obtain ⟨hz, hTI, ⟨x0, y0, u0, hTO⟩, h1, h2, h3⟩ := st
    obtain ⟨xs, ys, zs, hqx, hqy, hqz, hend⟩ := hg
    obtain ⟨its, rv, p, _⟩ := Inv.sqG I hqx
    obtain ⟨its2, rv2, p2, _⟩ := Inv.sqG I hqy
    obtain ⟨its3, rv3, p3, _⟩ := Inv.sqG I hqz
    have l1 := rv.length
    have l2 := rv2.length
    have l3 := rv3.length
    have he : its.toArray[i]? = none ∨ its2.toArray[i]? = none ∨ its3.toArray[i]? = none := by
      rcases hend with q | q | q
      · exact .inl (by simp; omega)
      · exact .inr (.inl (by simp; omega))
      · exact .inr (.inr (by simp; omega))
    exact pyNext_z3_end (I.ok.hd hc) D hz hTI hTO h1 h2 h3 p p2 p3 he fun h' hk => ⟨rfl, I.turnedL (t' := s.toks) (ch := [z, TI, TO, i1, i2, i3]) (fun d o hb q =>
      hk d o (fun q' => hb (by simp [q'])) (fun q' => hb (by simp [q'])) (fun q' => hb (by simp [q'])) (fun q' => hb (by simp [q'])) (fun q' => hb (by simp [q'])) q) hf⟩
  self := fun A i s Q E st h => wpAny_pyIter_zip st.1 h
def iZip3G (K : PySem.W.Frag) (ta : TA) : TI := fun σ H R => ta σ H fun vs H1 => ∃ a b c b1 b2 b3 xs ys zs, vs = [.ref a, .ref b, .ref c] ∧ SqG b1 K H1 a xs ∧ SqG b2 K H1 b ys ∧ SqG b3 K H1 c zs ∧ R (Itz3 K b1 b2 b3 a b c) H1
theorem pi_zip3G {X : Cx} {e e2 e3 : Expr} {ta : TA} {p pos tpos : Pos} {elts : List Expr} {kk : Nat} (hg : Gl X "zip") (hm : X.mg "zip" = none) (ha : PA X [e, e2, e3] ta)
    (hs : starEach [e, e2, e3] X.env = (false, eval e X.env) :: starEach [e2, e3] X.env := by rfl) (hpl : (backTo pos (starEach [e2, e3] X.env)).any (·.1) = false := by rfl) :
    PI X (.Tuple elts kk tpos) (.Call (.Name "zip" p) [e, e2, e3] [] pos) (iZip3G X.K ta) := by
  refine ⟨fun pins s σ H R I h => ?_⟩
  refine Call_ (ld_blt I hg hm PyProof.Rows.boot_zip (PyProof.Rows.callWith_type1 (thn (ha.run pos pins s σ H _ I h) fun us s1 ⟨vs, H1, I1, r1, q1⟩ => ?_) hs hpl))
  obtain ⟨a, b, c, b1, b2, b3, xs, ys, zs, ex, hqx, hqy, hqz, q⟩ := q1
  subst ex
  obtain ⟨u1, us1, rfl, ra, r2⟩ : ∃ u us', us = u :: us' ∧ RelV (.ref a) u ∧ Vals [.ref b, .ref c] us' := by
    cases r1 with
    | cons h t => exact ⟨_, _, rfl, h, t⟩
  obtain ⟨u2, u3, rfl, rb, rc⟩ := r2.two
  cases (show u1 = Value.ref a from ra)
  cases (show u2 = Value.ref b from rb)
  cases (show u3 = Value.ref c from rc)
  have fresh6 : ∀ d, d ∈ [s1.heap.objs.size + 5, s1.heap.objs.size + 3, s1.heap.objs.size + 4, s1.heap.objs.size, s1.heap.objs.size + 1, s1.heap.objs.size + 2] → FpOk X pins H1 d := fun d hcm => by
    have hle : s1.heap.objs.size ≤ d := by
      simp only [List.mem_cons, List.mem_singleton, List.not_mem_nil, or_false] at hcm
      omega
    exact I1.fpOk hle (I1.hok.fresh hle)
  obtain ⟨its, rv, p1, l1⟩ := Inv.sqG I1 hqx
  obtain ⟨its2, rv2, p2, l2⟩ := Inv.sqG I1 hqy
  obtain ⟨its3, rv3, p3, l3⟩ := Inv.sqG I1 hqz
  refine zip_begins3 (begins_sq b1 a its.toArray) (begins_sq b2 b its2.toArray) (begins_sq b3 c its3.toArray) p1 p2 p3 fun h' hz hTI hTO g1 g2 g3 hsz hk => wpAny_pyIter_zip hz ?_
  have I2 : L2.Inv X pins σ H1 { s1 with heap := h' } := I1.kept (t' := s1.toks) hk
  exact ⟨s1.heap.objs.size + 5, [s1.heap.objs.size + 5, s1.heap.objs.size + 3, s1.heap.objs.size + 4, s1.heap.objs.size, s1.heap.objs.size + 1, s1.heap.objs.size + 2], _, _, H1, rfl, I2, turn_z3 b1 b2 b3 (sep3 l1 l2 l3) (Nat.ne_of_lt l1) (Nat.ne_of_lt (Nat.lt_succ_of_lt l2)) (Nat.ne_of_lt (Nat.lt_succ_of_lt (Nat.lt_succ_of_lt l3))), ⟨hz, hTI, ⟨_, _, _, hTO⟩, SqIt.new g1, SqIt.new g2, SqIt.new g3⟩, fresh6, q⟩
def zip3L : List PV → List PV → List PV → List PV
  | x :: xs, y :: ys, z :: zs => .tup [x, y, z] :: zip3L xs ys zs
  | _, _, _ => []
theorem zip3L_get : ∀ {xs ys zs : List PV} {i : Nat} {t : PV}, (zip3L xs ys zs)[i]? = some t → ∃ x y z, xs[i]? = some x ∧ ys[i]? = some y ∧ zs[i]? = some z ∧ t = .tup [x, y, z]
  | [], ys, zs, i, t, e => by simp [zip3L] at e
  | x :: xs, [], zs, i, t, e => by simp [zip3L] at e
  | x :: xs, y :: ys, [], i, t, e => by simp [zip3L] at e
  | x :: xs, y :: ys, z :: zs, 0, t, e => by
    simp [zip3L] at e
    exact ⟨x, y, z, by simp, by simp, by simp, e.symm⟩
  | x :: xs, y :: ys, z :: zs, i + 1, t, e => by
    have e : (zip3L xs ys zs)[i]? = some t := by simpa [zip3L] using e
    obtain ⟨x', y', z', h1, h2, h3, h4⟩ := zip3L_get e
    exact ⟨x', y', z', by simpa using h1, by simpa using h2, by simpa using h3, h4⟩
theorem zip3L_len : ∀ (xs ys zs : List PV) (i : Nat), (zip3L xs ys zs).length ≤ i → xs.length ≤ i ∨ ys.length ≤ i ∨ zs.length ≤ i
  | [], ys, zs, i, h => .inl (Nat.zero_le _)
  | x :: xs, [], zs, i, h => .inr (.inl (Nat.zero_le _))
  | x :: xs, y :: ys, [], i, h => .inr (.inr (Nat.zero_le _))
  | x :: xs, y :: ys, z :: zs, 0, h => absurd h (by simp [zip3L])
  | x :: xs, y :: ys, z :: zs, i + 1, h => by
    have h : (zip3L xs ys zs).length + 1 ≤ i + 1 := h
    rcases zip3L_len xs ys zs i (by omega) with q | q | q
    · exact .inl (Nat.succ_le_succ q)
    · exact .inr (.inl (Nat.succ_le_succ q))
    · exact .inr (.inr (Nat.succ_le_succ q))
def iZip3 (a b c : SE) : SI := fun env S => (a env S).bind fun p S1 => (b env S1).bind fun q S2 => (c env S2).bind fun w S3 => match lockS p.2 S3 with
  | some z => match lockS q.2 z.2.2 with
    | some y => match lockS w.2 y.2.2 with
      | some x => .ok (zip3L z.1 y.1 x.1, x.2.1 ++ (y.2.1 ++ z.2.1)) x.2.2
      | none => .no
    | none => .no
  | none => .no
section
variable {G : Gam} {n0 : Nat} {g : Gh} {F : Hp} {r : List Addr} {S : Store} {H : Hp} {X : Cx} {e e2 e3 : Expr} {fe fe2 fe3 : SE} {p pos tpos : Pos} {elts : List Expr} {kk : Nat}
theorem unlock_app : ∀ (l1 l2 : List (Nat × PV)) (S : Store), unlock (l1 ++ l2) S = unlock l2 (unlock l1 S)
  | [], l2, S => rfl
  | c :: l1, l2, S => unlock_app l1 l2 _
theorem si_zip3 (hK : G.K = X.K) (hg : Gl X "zip") (hm : X.mg "zip" = none) (he : PE X e (rdE G n0 fe)) (he2 : PE X e2 (rdE G n0 fe2)) (he3 : PE X e3 (rdE G n0 fe3)) (hs : starEach [e, e2, e3] X.env = (false, eval e X.env) :: starEach [e2, e3] X.env := by rfl) (hs2 : starEach [e2, e3] X.env = (false, eval e2 X.env) :: starEach [e3] X.env := by rfl)
    (hs3 : starEach [e3] X.env = (false, eval e3 X.env) :: starEach [] X.env := by rfl) (hpl : (backTo pos (starEach [e2, e3] X.env)).any (·.1) = false := by rfl) :
    PI X (.Tuple elts kk tpos) (.Call (.Name "zip" p) [e, e2, e3] [] pos) (rdI G n0 (iZip3 fe fe2 fe3)) := by
  refine piI (pi_zip3G hg hm (pa_cons (toV he) (pa_cons (toV he2) (pa_cons (toV he3) pa_nil hs3) hs2) hs) hs hpl) fun σ H T ⟨F, r, env, S, g, s, h⟩ => ?_
  refine stV s cnI h fun p S1 F1 r1 H1 u x1 s1 q1 h1 => ?_
  refine stV s1 cnI h1 fun q S2 F2 r2 H2 w x2 s2 q2 h2 => ?_
  refine stV s2 cnI h2 fun o S3 F3 r3 H3 w3 x3 s3 q3 h3 => ?_
  cases el : lockS p.2 S3 with
  | none => rw [el] at h3; exact h3.elim
  | some z =>
    obtain ⟨xs, ls, S4⟩ := z
    simp only [el] at h3
    cases el2 : lockS q.2 S4 with
    | none => rw [el2] at h3; exact h3.elim
    | some z2 =>
      obtain ⟨ys, ls2, S5⟩ := z2
      simp only [el2] at h3
      cases el3 : lockS o.2 S5 with
      | none => rw [el3] at h3; exact h3.elim
      | some z3 =>
        obtain ⟨zs, ls3, S6⟩ := z3
        simp only [el3] at h3
        obtain ⟨g1, b1, a1, us1, rfl, hd1⟩ := lock_ok s3.hr ((q1.ext x2).ext x3) el
        obtain ⟨g2, b2, a2, us2, rfl, hd2⟩ := lock_ok hd1.hr (q2.ext x3) el2
        obtain ⟨g3, b3, a3, us3, rfl, hd3⟩ := lock_ok hd2.hr q3 el3
        have hpn : GhPin g g3 := fun a o e l => by
          have k1 := hd1.pn a o e l
          have k2 := hd2.pn a o k1.1 k1.2
          exact hd3.pn a o k2.1 k2.2
        have hun : ∀ rp, g.has rp → ∀ F5 r5 S5 H5, HR G n0 (g3.rep rp) F5 r5 S5 H5 → Ext F3 F5 r3 r5 → HR G n0 (g.rep rp) F5 r5 (unlock (ls3 ++ (ls2 ++ ls)) S5) H5 := fun rp hrp F5 r5 S5 H5 h5 x5 => by
          rw [unlock_app, unlock_app]
          exact hd1.un rp hrp F5 r5 _ H5 (hd2.un rp (hd1.pn.has hrp) F5 r5 _ H5 (hd3.un rp (hd2.pn.has (hd1.pn.has hrp)) F5 r5 S5 H5 h5 x5) x5) x5
        refine ⟨a1, a2, a3, b1, b2, b3, us1, us2, us3, rfl, hK ▸ hd1.sq g3 (hd2.le.trans hd3.le) F3 r3 S6 H3 hd3.hr (.refl _ _), hK ▸ hd2.sq g3 hd3.le F3 r3 S6 H3 hd3.hr (.refl _ _), hK ▸ hd3.sq g3 (.refl g3) F3 r3 S6 H3 hd3.hr (.refl _ _), h3 F3 r3 H3 _ g3 ((x1.trans x2).trans x3) ⟨hd3.hr, s3.sl, s3.vr⟩ (fun g5 hg5 F5 r5 S5 H5 h5 x5 => ?_) hpn hun⟩
        have s1' := hd1.sq g5 ((hd2.le.trans hd3.le).trans hg5) F5 r5 S5 H5 h5 x5
        have s2' := hd2.sq g5 (hd3.le.trans hg5) F5 r5 S5 H5 h5 x5
        have s3' := hd3.sq g5 hg5 F5 r5 S5 H5 h5 x5
        rw [← hK]
        refine ⟨fun i x ex => ?_, fun i hi => ⟨us1, us2, us3, s1', s2', s3', by rw [← RVs.length hd1.rv, ← RVs.length hd2.rv, ← RVs.length hd3.rv]; exact zip3L_len xs ys zs i hi⟩⟩
        obtain ⟨x', y', z', ex', ey', ez', rfl⟩ := zip3L_get ex
        obtain ⟨u1, e1, k1⟩ := RVs.get hd1.rv ex'
        obtain ⟨u2, e2, k2⟩ := RVs.get hd2.rv ey'
        obtain ⟨u3, e3, k3⟩ := RVs.get hd3.rv ez'
        refine ⟨⟨us1, us2, us3, u1, u2, u3, s1', s2', s3', e1, e2, e3⟩, fun v H4 hy => ?_⟩
        obtain ⟨T', y1, y2, y3, rfl, hT, rfl, hv1, hv2, hv3⟩ := hy
        have := hv1 us1 s1'
        rw [e1] at this
        cases this
        have := hv2 us2 s2'
        rw [e2] at this
        cases this
        have := hv3 us3 s3'
        rw [e3] at this
        cases this
        exact new_tup (xs := [x', y', z']) (us := [u1, u2, u3]) h5 hT ⟨_, _, rfl, k1.ext x5, _, _, rfl, k2.ext x5, _, [], rfl, k3.ext x5, rfl⟩
end
end PX
set_option Elab.async false
set_option linter.all false
set_option maxRecDepth 100000
set_option maxHeartbeats 1000000
namespace PX
open PySem PySem.Spec PyProof.Rows L2 ZG
def tGhost (t : TE) : TE := fun σ H Q => t σ H fun x H1 => Q x H1 ∨ ∃ d u, H1 d = some u ∧ Mut (some u) ∧ ∀ od, Q x (upd H1 d (.frz od u))
theorem pe_ghost {X : Cx} {e : Expr} {t : TE} (h : PE X e t) : PE X e (tGhost t) := by
  refine ⟨fun pins s σ H Q I hw => ?_⟩
  refine thn (h.run pins s σ H _ I hw) fun v s1 ⟨x, H1, I1, r, q⟩ => ?_
  rcases q with q | ⟨d, u, hd, mu, q⟩
  · exact ⟨x, H1, I1, r, q⟩
  · obtain ⟨od, I2⟩ := I1.lock hd mu
    exact ⟨x, _, I2, r, q od⟩
def kPV : Key → PV
  | .inl i => .int i
  | .inr s => .str s
def dctOf (S : Store) (v : PV) : Option (List Key × List PV) := match v with
  | .dct (.k ks) vs => some (ks, vs)
  | .ref i => match S[i]? with
    | some (.lck (.dct (.k ks) vs)) => some (ks, vs)
    | _ => none
  | _ => none
def iKys (a : SE) : SI := fun env S => (a env S).bind fun p S1 => match dctOf S1 p.2 with
  | some z => .ok (z.1.map kPV, []) S1
  | none => .no
section
variable {G : Gam} {n0 : Nat} {g : Gh} {F : Hp} {r : List Addr} {S : Store} {H : Hp}
theorem kPV_rv (k : Key) : RV G F r (kPV k) (kV k) := by
  cases k with
  | inl i => exact (show kV (.inl i) = V.int i from rfl)
  | inr s => exact (show kV (.inr s) = V.str s from rfl)
theorem HR.pinD {d : Addr} {od : Obj} {kvs : List (Key × V)} (h : HR G n0 g F r S H) (hd : H d = some (.frz od (.dK kvs))) (hr : d ∉ r) : HR G n0 (g.lock d (.frz od (.dK kvs))) F r S H := by
  refine ⟨h.sub, h.nd, h.off, h.len, h.nle, h.lle, h.obj, fun b o e => ?_, fun i ob b e1 e2 => ?_, fun b o e el => ?_, ⟨fun p hp => let t := h.tab.t p hp; ⟨t.t, t.f, t.nr, by show upd g.pn _ _ p.1 = none; rw [upd_ne (t.ne hd rfl)]; exact t.np⟩, h.tab.nf, tb_upd h.tab.np rfl⟩⟩
  · by_cases hb : b = d
    · subst hb
      have e : upd g.pn b (.frz od (.dK kvs)) b = some o := e
      rw [upd_same] at e
      cases e
      exact ⟨hd, .inr ⟨rfl, by show (if b = b then true else g.lk b) = true; rw [if_pos rfl]⟩, fun j hj => absurd (List.mem_of_getElem? hj) hr⟩
    · have e : upd g.pn d (.frz od (.dK kvs)) b = some o := e
      rw [upd_ne hb] at e
      obtain ⟨q1, q2, q3⟩ := h.pin b o e
      exact ⟨q1, q2.imp (fun q => q) (fun q => ⟨q.1, by show (if b = d then true else g.lk b) = true; rw [if_neg hb]; exact q.2⟩), q3⟩
  · show ∃ o, upd g.pn d (.frz od (.dK kvs)) b = some o
    have hb : b ≠ d := fun z => hr (by rw [← z]; exact List.mem_of_getElem? e2)
    rw [upd_ne hb]
    exact h.lckd i ob b e1 e2
  · have e : upd g.pn d (.frz od (.dK kvs)) b = some o := e
    have el : (if b = d then true else g.lk b) = false := el
    by_cases hb : b = d
    · rw [if_pos hb] at el; cases el
    · rw [upd_ne hb] at e
      rw [if_neg hb] at el
      exact h.out b o e el
theorem HR.lockF {d : Addr} {od : Obj} {kvs : List (Key × V)} (h : HR G n0 g F r S H) (hF : F d = some (.dK kvs)) (hd : H d = some (.dK kvs)) : HR G n0 g F r S (upd H d (.frz od (.dK kvs))) := by
  have hr : d ∉ r := fun hm => by rw [h.off d hm] at hF; cases hF
  refine ⟨fun a o e => ?_, h.nd, h.off, h.len, h.nle, h.lle, fun i ob a e1 e2 => ?_, fun a o e => ?_, h.lckd, h.out, ⟨fun p hp => let t := h.tab.t p hp; ⟨tabS_upd t.t hd rfl, t.f, t.nr, t.np⟩, h.tab.nf, h.tab.np⟩⟩
  · by_cases ha : a = d
    · subst ha
      rw [hF] at e
      cases e
      exact .inr ⟨rfl, od, upd_same⟩
    · rw [upd_ne ha]
      exact h.sub a o e
  · obtain ⟨ho, q1, q2⟩ := h.obj i ob a e1 e2
    exact ⟨ho, q1.upd (fun z => hr (by rw [← z]; exact List.mem_of_getElem? e2)), q2⟩
  · obtain ⟨q1, q2, q3⟩ := h.pin a o e
    have ha : a ≠ d := fun z => by
      subst z
      rw [hd] at q1
      cases q1
      rcases q2 with q2 | q2
      · rw [hF] at q2; cases q2
      · cases q2.1
    exact ⟨by rw [upd_ne ha]; exact q1, q2, q3⟩
theorem HR.unpinD {d : Addr} {ho : HO} (h : HR G n0 (g.lock d ho) F r S H) (hp : g.pn d = none) (hr : d ∉ r) : HR G n0 g F r S H := by
  have ne_of : ∀ b o, g.pn b = some o → b ≠ d := fun b o e z => by rw [z, hp] at e; cases e
  have pn_ne : ∀ b, b ≠ d → (g.lock d ho).pn b = g.pn b := fun b hb => by
    show upd g.pn d ho b = _
    rw [upd_ne hb]
  refine ⟨h.sub, h.nd, h.off, h.len, h.nle, h.lle, h.obj, fun b o e => ?_, fun i ob b e1 e2 => ?_, fun b o e el => ?_, ⟨fun p hp => let t := h.tab.t p hp; ⟨t.t, t.f, t.nr, by rw [← pn_ne p.1 (fun z => by have z2 := t.np; rw [z] at z2; have z3 : upd g.pn d ho d = none := z2; rw [upd_same] at z3; cases z3)]; exact t.np⟩, h.tab.nf, fun b o e => h.tab.np b o (Le.upd hp b o e)⟩⟩
  · have hb := ne_of b o e
    obtain ⟨q1, q2, q3⟩ := h.pin b o (by rw [pn_ne b hb]; exact e)
    exact ⟨q1, q2.imp (fun q => q) (fun q => ⟨q.1, by have z : (if b = d then true else g.lk b) = true := q.2; rw [if_neg hb] at z; exact z⟩), q3⟩
  · have hb : b ≠ d := fun z => hr (by rw [← z]; exact List.mem_of_getElem? e2)
    obtain ⟨o, q⟩ := h.lckd i ob b e1 e2
    rw [pn_ne b hb] at q
    exact ⟨o, q⟩
  · have hb := ne_of b o e
    refine h.out b o (by rw [pn_ne b hb]; exact e) ?_
    show (if b = d then true else g.lk b) = false
    rw [if_neg hb]
    exact el
theorem lock_rep {d : Addr} {ho : HO} {rp : Option (Addr × HO)} (h : ∀ p, rp = some p → p.1 ≠ d) : (g.lock d ho).rep rp = (g.rep rp).lock d ho := by
  cases rp with
  | none => rfl
  | some p =>
    have hne := h p rfl
    show (⟨g.L, upd (upd g.pn d ho) p.1 p.2, fun b => if b = d then true else g.lk b⟩ : Gh) = ⟨g.L, upd (upd g.pn p.1 p.2) d ho, fun b => if b = d then true else g.lk b⟩
    congr 1
    funext b
    by_cases hb : b = d
    · rw [hb, upd_ne hne.symm, upd_same, upd_same]
    · by_cases hb2 : b = p.1
      · rw [hb2, upd_same, upd_ne hne, upd_same]
      · rw [upd_ne hb2, upd_ne hb, upd_ne hb, upd_ne hb2]
structure HeldD (G : Gam) (n0 : Nat) (g g' : Gh) (F : Hp) (r : List Addr) (S : Store) (H : Hp) (d : Addr) (od : Obj) (kvs : List (Key × V)) : Prop where
  hr : HR G n0 g' F r S H
  at_ : H d = some (.frz od (.dK kvs))
  sq : ∀ g2, GhLe g' g2 → ∀ F2 r2 S2 H2, HR G n0 g2 F2 r2 S2 H2 → H2 d = some (.frz od (.dK kvs))
  pn : GhPin g g'
  un : ∀ rp, g.has rp → ∀ F2 r2 S2 H2, HR G n0 (g'.rep rp) F2 r2 S2 H2 → Ext F F2 r r2 → HR G n0 (g.rep rp) F2 r2 S2 H2
theorem heldF {d : Addr} {od : Obj} {kvs : List (Key × V)} (h : HR G n0 g F r S H) (hF : F d = some (.dK kvs)) (hd : H d = some (.frz od (.dK kvs))) : ∃ g', HeldD G n0 g g' F r S H d od kvs := by
  have hr : d ∉ r := fun hm => by rw [h.off d hm] at hF; cases hF
  cases hp : g.pn d with
  | some o =>
    obtain ⟨q1, q2, _⟩ := h.pin d o hp
    rw [hd] at q1
    cases q1
    have hl : g.lk d = true := by
      rcases q2 with q2 | q2
      · rw [hF] at q2; cases q2
      · exact q2.2
    exact ⟨g, h, hd, fun g2 hg F2 r2 S2 H2 h2 => (h2.pin d _ (hg d _ hp hl).1).1, .refl g, fun _ _ F2 r2 S2 H2 h2 _ => h2⟩
  | none =>
    refine ⟨g.lock d (.frz od (.dK kvs)), h.pinD hd hr, hd, fun g2 hg F2 r2 S2 H2 h2 => (h2.pin d _ (hg d _ (by show upd g.pn d _ d = _; rw [upd_same]) (by show (if d = d then true else g.lk d) = true; rw [if_pos rfl])).1).1, fun b o eb el => ?_, fun rp hrp F2 r2 S2 H2 h2 x => ?_⟩
    · have hb : b ≠ d := fun z => by rw [z, hp] at eb; cases eb
      refine ⟨?_, ?_⟩
      · show upd g.pn d _ b = _
        rw [upd_ne hb]
        exact eb
      · show (if b = d then true else g.lk b) = false
        rw [if_neg hb]
        exact el
    · have hne : ∀ p, rp = some p → p.1 ≠ d := fun p e z => by
        obtain ⟨⟨o, ep⟩, _⟩ := hrp p e
        rw [z, hp] at ep
        cases ep
      rw [lock_rep hne] at h2
      have hF2 : F2 d = some (.dK kvs) := x.1 _ _ hF
      refine h2.unpinD ?_ (fun hm => by rw [h2.off d hm] at hF2; cases hF2)
      cases rp with
      | none => exact hp
      | some p =>
        show upd g.pn p.1 p.2 d = none
        rw [upd_ne (hne p rfl).symm]
        exact hp
theorem dct_ok {v : PV} {u : V} {ks : List Key} {vs : List PV} (h : HR G n0 g F r S H) (q : RV G F r v u) (e : dctOf S v = some (ks, vs)) : ∃ d us, u = .ref d ∧ ks.length = us.length ∧ RVs G F r vs us ∧
    ((H d = some (.dK (ks.zip us)) ∧ F d = some (.dK (ks.zip us))) ∨ ∃ od g', HeldD G n0 g g' F r S H d od (ks.zip us)) := by
  unfold dctOf at e
  split at e
  · cases e
    obtain ⟨a, us, ho, rfl, k1, k2, k3⟩ := q
    obtain ⟨rfl, hl⟩ := k2
    refine ⟨a, us, rfl, hl, k3, ?_⟩
    rcases h.sub a _ k1 with z | ⟨_, od, z⟩
    · exact .inl ⟨z, k1⟩
    · exact .inr ⟨od, heldF h k1 z⟩
  · rename_i i
    split at e
    · rename_i ks' vs' es
      cases e
      obtain ⟨a, e1, rfl⟩ := q
      obtain ⟨ho, q1, q2⟩ := h.obj i _ a es e1
      obtain ⟨us, k2, k3⟩ := q2
      obtain ⟨rfl, hl⟩ := k2
      obtain ⟨_, od, hd⟩ := q1.lk rfl
      obtain ⟨o, ep⟩ := h.lckd i _ a es e1
      have eo := (h.pin a o ep).1
      rw [hd] at eo
      cases eo
      have elk : g.lk a = true := by
        cases z : g.lk a with
        | true => rfl
        | false => exact absurd (List.mem_of_getElem? e1) (h.out a _ ep z)
      exact ⟨a, us, rfl, hl, RVs.mono (.refl F) (at_of (lim_le n0 g.L r i)) _ _ k3, .inr ⟨od, g, h, hd, fun g2 hg F2 r2 S2 H2 h2 => (h2.pin a _ (hg a _ ep elk).1).1, .refl g, fun _ _ F2 r2 S2 H2 h2 _ => h2⟩⟩
    · cases e
  · cases e
variable {X : Cx} {tg e : Expr} {fe : SE} {apos cpos tpos : Pos} {elts : List Expr} {kk : Nat}
theorem src_core {t : TI} {fs : SI} {xsf : List Key → List PV → List PV} {J : Addr → Obj → List (Key × V) → It} (hf : ∀ env S, fs env S = (fe env S).bind fun p S1 => match dctOf S1 p.2 with
    | some z => .ok (xsf z.1 z.2, []) S1
    | none => .no) (ht : ∀ σ H R, tGhost (rdV G n0 fe) σ H (fun x H1 => ∃ d o kvs, x = .ref d ∧ H1 d = some (.frz o (.dK kvs)) ∧ R (J d o kvs) H1) → t σ H R)
    (its : ∀ g' F r S H d od ks us vs, ks.length = us.length → RVs G F r vs us → HR G n0 g' F r S H → (∀ g2, GhLe g' g2 → ∀ F2 r2 S2 H2, HR G n0 g2 F2 r2 S2 H2 → H2 d = some (.frz od (.dK (ks.zip us)))) → Its G n0 g' F r (J d od (ks.zip us)) (xsf ks vs))
    (σ : L2.St) (H : Hp) (R : It → Hp → Prop) (hh : rdI G n0 fs σ H R) : t σ H R := by
  obtain ⟨F, r, env, S, g, s, h⟩ := hh
  refine ht σ H R ?_
  rw [hf] at h
  refine stV s cnI h fun p S1 F1 r1 H1 u x1 s1 q1 h1 => ?_
  cases ed : dctOf S1 p.2 with
  | none => rw [ed] at h1; exact h1.elim
  | some z =>
    obtain ⟨ks, vs⟩ := z
    rw [ed] at h1
    obtain ⟨d, us, rfl, hl, rv, q⟩ := dct_ok s1.hr q1 ed
    have fin : ∀ {H2 : Hp} {od : Obj} {g' : Gh}, HeldD G n0 g g' F1 r1 S1 H2 d od (ks.zip us) → ∃ d' o kvs, V.ref d = .ref d' ∧ H2 d' = some (.frz o (.dK kvs)) ∧ R (J d' o kvs) H2 := fun {H2 od g'} hd =>
      ⟨d, od, ks.zip us, rfl, hd.at_, h1 F1 r1 H2 _ g' x1 ⟨hd.hr, s1.sl, s1.vr⟩ (its g' F1 r1 S1 H2 d od ks us vs hl rv hd.hr hd.sq) hd.pn (fun rp hrp F2 r2 S2 H3 h3 x3 => hd.un rp hrp F2 r2 S2 H3 h3 x3)⟩
    rcases q with ⟨k1, k2⟩ | ⟨od, g', hd⟩
    · refine .inr ⟨d, _, k1, trivial, fun od => ?_⟩
      obtain ⟨g', hd⟩ := heldF (s1.hr.lockF (od := od) k2 k1) k2 upd_same
      exact fin hd
    · exact .inl (fin hd)
theorem zip_at {ks : List Key} {us : List V} (hl : ks.length = us.length) {i : Nat} {k : Key} {u : V} (e1 : ks[i]? = some k) (e2 : us[i]? = some u) : (ks.zip us)[i]? = some (k, u) := by
  rw [List.getElem?_zip_eq_some]
  exact ⟨e1, e2⟩
theorem zip_len {ks : List Key} {us : List V} (hl : ks.length = us.length) : (ks.zip us).length = ks.length := by
  rw [List.length_zip, hl, Nat.min_self]
theorem si_keys (he : PE X e (rdE G n0 fe)) : PI X tg e (rdI G n0 (iKys fe)) := by
  refine piI (pi_keys (pe_ghost (toV he))) fun σ H R hh => ?_
  refine src_core (J := Itk) (xsf := fun ks _ => ks.map kPV) (fun _ _ => rfl) (fun σ H R q => ?_) (fun g' F r S H d od ks us vs hl rv hr sq g2 hg F2 r2 S2 H2 h2 x2 => ?_) σ H R hh
  · obtain ⟨F, r, env, S, g, s, h⟩ := q
    refine ⟨F, r, env, S, g, s, ?_⟩
    cases ez : fe env S with
    | no => rw [ez] at h; exact h
    | ex => rw [ez] at h; exact h
    | ok p S' =>
      rw [ez] at h
      exact fun F' r' H' u x s' q => (h F' r' H' u x s' q).imp (fun ⟨d, o, kvs, e1, e2, e3⟩ => ⟨d, o, e1, .inl ⟨kvs, e2, e3⟩⟩) fun ⟨d, w, e1, e2, e3⟩ => ⟨d, w, e1, e2, fun od => let ⟨d', o, kvs, f1, f2, f3⟩ := e3 od; ⟨d', o, f1, .inl ⟨kvs, f2, f3⟩⟩⟩
  have hd := sq g2 hg F2 r2 S2 H2 h2
  refine ⟨fun i x ex => ?_, fun i hi => ⟨hd, by rw [zip_len hl]; rw [List.length_map] at hi; exact hi⟩⟩
  rw [List.getElem?_map] at ex
  cases ek : ks[i]? with
  | none => rw [ek] at ex; cases ex
  | some k =>
    rw [ek] at ex
    cases ex
    have hlt : i < us.length := by rw [← hl]; exact (List.getElem?_eq_some_iff.mp ek).1
    have ez := zip_at hl ek (List.getElem?_eq_getElem hlt)
    refine ⟨⟨hd, (List.getElem?_eq_some_iff.mp ez).1⟩, fun v' H3 hy => ?_⟩
    obtain ⟨rfl, k', w', ew, rfl⟩ := hy
    rw [ez] at ew
    cases ew
    exact ⟨F2, .refl _ _, h2, kPV_rv k⟩
end
end PX
set_option Elab.async false
set_option linter.all false
set_option maxRecDepth 100000
set_option maxHeartbeats 1000000
set_option Elab.async false
set_option linter.all false
set_option maxRecDepth 100000
set_option maxHeartbeats 1000000
set_option Elab.async false
set_option linter.all false
set_option maxRecDepth 100000
set_option maxHeartbeats 4000000
set_option Elab.async false
set_option linter.all false
set_option maxRecDepth 100000
set_option maxHeartbeats 4000000
set_option Elab.async false
set_option linter.all false
set_option maxRecDepth 100000
set_option maxHeartbeats 1000000
namespace PX
open PySem PySem.Spec PyProof.Rows L2
structure TupG (K : PySem.W.Frag) (mg : Str → Option Value) (x : Str) (ns : List Int) (a : Addr) : Prop where
  at_ : mg x = some (.ref a)
  sq : ∀ H, SqT K H a (ns.map V.int)
end PX
set_option Elab.async false
set_option linter.all false
set_option maxRecDepth 100000
set_option maxHeartbeats 2000000
namespace PySem.SeqAt
open AutoSeq1 (wpAny_loadPart')
open MeetsSeq MeetsSeq2 MeetsSeq3 SeqRoads2
section
variable {prog : Program} {w : World}
theorem qne_loop (l b : Addr) (items items2 : Array Value) (n n2 : Nat) (dd dd2 : Option Addr) (sl sl2 : Array (Option Value)) (hsz : items.size = items2.size) (e : Nat → Bool) (k : Nat) :
    ∀ i : Nat, items.size - i = k → MeetsIn prog w (Builtin.«list.__eq__.loop» ⟨[.ref l, .ref b, rawInt i, rawInt 3], []⟩)
      (fun A R s => s.heap.get? l = some { cls := .type "list", dict := dd, data := .seq items n, slots := sl } ∧ s.heap.get? b = some { cls := .type "list", dict := dd2, data := .seq items2 n2, slots := sl2 } ∧
        (∀ j (h1 : j < items.size) (h2 : j < items2.size), EqIn prog w A.in1 s items[j] items2[j] (e j)) ∧
        R (.ok (.ret (.bool (!((List.range items.size).drop i).all e)))) s) := by
  induction k with
  | zero =>
    intro i hk A R s h
    obtain ⟨hp, g, d, tk, os⟩ := s
    obtain ⟨hl, hb, he, h⟩ := h
    wp_walk using wpAny_loadPart' hl, wpAny_loadPart' hb
    have z1 : items[((i : Nat) : Int).toNat]? = none := by simp; omega
    have z2 : items2[((i : Nat) : Int).toNat]? = none := by simp; omega
    have zd : (List.range items.size).drop i = [] := by simp; omega
    rw [zd] at h
    rw [z1, z2]
    wp_walk using wpAny_loadPart' hl, wpAny_loadPart' hb
    show R (.ok (.ret (.bool (items.size != items2.size)))) _
    rw [hsz]
    simpa using h
  | succ k ih =>
    intro i hk A R s h
    obtain ⟨hp, g, d, tk, os⟩ := s
    obtain ⟨hl, hb, he, h⟩ := h
    wp_walk using wpAny_loadPart' hl, wpAny_loadPart' hb
    have lt1 : i < items.size := by omega
    have lt2 : i < items2.size := by omega
    have z1 : items[((i : Nat) : Int).toNat]? = some items[i] := by simp [lt1]
    have z2 : items2[((i : Nat) : Int).toNat]? = some items2[i] := by simp [lt2]
    have zd : (List.range items.size).drop i = i :: (List.range items.size).drop (i + 1) := by simp [List.drop_eq_getElem_cons, lt1]
    have zc : ((i : Int) + 1) = ((i + 1 : Nat) : Int) := by push_cast; rfl
    rw [zd, List.all_cons] at h
    rw [z1, z2]
    refine wpAny_bind (he i lt1 lt2 _ _ ?_)
    cases q : e i with
    | true =>
      rw [q] at h
      wp_walk
      rw [zc]
      refine ⟨plainId_quiet plain_eq_loop _, codeAny_builtin entry_eq_loop ?_⟩
      rw [Around.under_plainId plain_eq_loop _]
      exact ih (i + 1) (by omega) A R _ ⟨hl, hb, he, by simpa using h⟩
    | false =>
      rw [q] at h
      wp_walk using wpAny_loadPart' hl, wpAny_loadPart' hb
      rw [z1, z2]
      wp_walk
      simpa using h
theorem qne_list (l b : Addr) (items items2 : Array Value) (n n2 : Nat) (dd dd2 : Option Addr) (sl sl2 : Array (Option Value)) (hsz : items.size = items2.size) (e : Nat → Bool) :
    MeetsIn prog w (Builtin.«list.__ne__» ⟨[.ref l, .ref b], []⟩)
      (fun A R s => s.heap.get? l = some { cls := .type "list", dict := dd, data := .seq items n, slots := sl } ∧ s.heap.get? b = some { cls := .type "list", dict := dd2, data := .seq items2 n2, slots := sl2 } ∧
        (∀ j (h1 : j < items.size) (h2 : j < items2.size), EqIn prog w A.in1 s items[j] items2[j] (e j)) ∧
        R (.ok (.ret (.bool (!(List.range items.size).all e)))) s) := by
  intro A R s h
  obtain ⟨hp, g, d, tk, os⟩ := s
  obtain ⟨hl, hb, he, h⟩ := h
  have f3 := AutoSeq1.sub_list_list
  have hne : ¬ (items.size != items2.size) = true := by simp [hsz]
  wp_walk using wpAny_loadPart' hl, wpAny_loadPart' hb
  refine ⟨plainId_quiet plain_eq_loop _, codeAny_builtin entry_eq_loop ?_⟩
  rw [Around.under_plainId plain_eq_loop _]
  exact qne_loop l b items items2 n n2 dd dd2 sl sl2 hsz e _ 0 rfl A R _ ⟨hl, hb, he, by simpa using h⟩
variable {A : Around} {s : Shared}
theorem qne_lists {E : Value → Shared → Prop} {l b : Addr} {items items2 : Array Value} {e : Nat → Bool} {Q : Value → Shared → Prop} (hl : s.heap.IsList l items) (hb : s.heap.IsList b items2) (hsz : items.size = items2.size) (hu : A.units < cLine)
    (he : ∀ j (h1 : j < items.size) (h2 : j < items2.size), EqIn prog w A.in1 s items[j] items2[j] (e j)) (h : Q (.bool (!(List.range items.size).all e)) s) : wpAny (model prog w) A (richCompare .NotEq (.ref l) (.ref b)) Q E s := by
  obtain ⟨⟨cls, dd, data, sl⟩, ho, hc, n, hd⟩ := id hl
  obtain ⟨⟨cls2, dd2, data2, sl2⟩, ho2, hc2, n2, hd2⟩ := id hb
  simp only at hc hd hc2 hd2
  subst hc hd hc2 hd2
  exact wpAny_richCompare_same_room (T := "list") (op := .NotEq) ⟨_, ho, rfl⟩ ⟨_, ho2, rfl⟩ F.slot_list_ne (call_meetsIn F.slot_list_ne ⟨_, ho, rfl⟩ F.entry_list_ne (F.args_list_ne_2 _ _) (qne_list l b items items2 n n2 dd dd2 sl sl2 hsz e)
    ⟨ho, ho2, he, show Value.bool (!(List.range items.size).all e) ≠ Value.notImplemented ∧ Q (.bool (!(List.range items.size).all e)) s from ⟨(fun x => nomatch x), h⟩⟩) hu
end
end PySem.SeqAt
namespace PySem.W
open PySem PySem.Calls PyProof.Rows PyProof.V PySem.Spec PySem.SeqAt
section
variable {prog : Program} {w : World} {K : Type} [DecidableEq K] {knd : KeyKind prog w K} {A : Around} {E : Value → Shared → Prop} {s : Shared}
theorem qne_dicts {a b : Addr} {ka kb : List (K × Value)} {r : Bool} {Q : Value → Shared → Prop} (ha : (a == sysModules) = false) (hb : (b == sysModules) = false)
    (da : s.heap.DictOf knd a ka) (db : s.heap.DictOf knd b kb) (hu : A.units < cLine) (hits : ka.length = kb.length → KeqHitsIn prog w A.in1 s kb ka r) (h : Q (.bool (!(ka.length == kb.length && r))) s) :
    wpAny (model prog w) A (compareOp .NotEq (.ref a) (.ref b)) Q E s := by
  refine wpAny_richCompare_same_room (op := .NotEq) da.typeIs db.typeIs PySem.F.slot_dict_ne (wpAny_call_entry PySem.F.slot_dict_ne da.typeIs PySem.F.entry_dict_ne ?_ (PySem.F.args_dict_ne_2 _ _)) hu
  show wpAny _ _ (Builtin.Dict.dictSlotArgs "__ne__" ⟨[.ref a, .ref b], []⟩ >>= _) _ _ s
  refine wpAny_bind ?_
  unfold Builtin.Dict.dictSlotArgs
  refine wpAny_bind (wpAny_notOrdered_dict da.typeIs ?_)
  show wpAny _ _ (pure (Value.ref a, Value.ref b)) _ _ s
  refine wpAny_pure ?_
  refine wpAny_bind (wpAny_isInstance (T := "dict") db.typeIs PySem.F.sub_dict_dict ?_)
  simp only [Bool.not_true, Bool.false_eq_true, if_false]
  refine wpAny_bind (wpAny_pure (wpAny_bind (wpAny_pure ?_)))
  refine wpAny_bind (keq_samePairsIn ha hb da db hits ?_)
  exact wpAny_pure ⟨_, rfl, (fun x => nomatch x), by simpa using h⟩
end
end PySem.W
namespace L2
open PySem PySem.Spec PyProof.Rows PySem.SeqAt
def beqD (ka kb : List (Key × V)) : Bool := ka.length == kb.length && ka.all fun p => match valV kb p.1 with
  | some u => eqV p.2 u
  | none => false
def flatD (ka : List (Key × V)) : Bool := ka.all fun p => flatV p.2
theorem eqV_refl {x : V} (h : flatV x = true) : eqV x x = true := by
  cases x with
  | non => rfl
  | bl b => exact beq_self_eq_true b
  | int i => exact beq_self_eq_true i
  | str s => exact beq_self_eq_true s
  | _ => cases h
theorem valV_self : ∀ {ka : List (Key × V)}, (ka.map (·.1)).Nodup → ∀ p ∈ ka, valV ka p.1 = some p.2
  | q :: ka, nd, p, hp => by
    rw [List.map_cons, List.nodup_cons] at nd
    unfold valV
    rw [List.find?_cons]
    rcases List.mem_cons.mp hp with e | hp
    · rw [e]; simp
    · have hne : ¬ q.1 = p.1 := fun z => nd.1 (List.mem_map.mpr ⟨p, hp, z.symm⟩)
      have ih := valV_self nd.2 p hp
      unfold valV at ih
      simp only [hne, decide_false]
      exact ih
theorem beqD_self {ka : List (Key × V)} (nd : (ka.map (·.1)).Nodup) (f : flatD ka = true) : beqD ka ka = true := by
  unfold beqD
  rw [beq_self_eq_true, Bool.true_and, List.all_eq_true]
  intro p hp
  rw [valV_self nd p hp]
  exact eqV_refl (List.all_eq_true.mp f p hp)
section
variable {X : Cx} {pins : List (Addr × Obj)} {σ : St} {H : Hp} {s : Shared}
theorem hitsD {P : Program} {w : World} {A : Around} {ls : List (Key × V)} {vb : List (Key × Value)} (rb : KV ls vb) (fb : flatD ls = true) {ks : List (Key × V)} {va : List (Key × Value)} (ra : KV ks va) : flatD ks = true →
    PySem.W.KeqHitsIn P w A s vb va (ks.all fun p => match valV ls p.1 with
      | some u => eqV p.2 u
      | none => false) := by
  unfold KV at ra
  induction ra with
  | nil => intro _; exact .nil
  | @cons p q ps qs h t ih =>
    intro fk
    have fk : (flatV p.2 && flatD ps) = true := fk
    rw [Bool.and_eq_true] at fk
    obtain ⟨key, v⟩ := q
    obtain ⟨h1, h2⟩ := h
    have h1 : p.1 = key := h1
    have rr := rb.val p.1
    rw [List.all_cons]
    cases ev : valV ls p.1 with
    | none =>
      rw [ev] at rr
      rw [h1] at rr
      have hn : valueAt vb key = none := by
        cases z : valueAt vb key with
        | none => rfl
        | some y => rw [z] at rr; exact rr.elim
      exact .miss hn
    | some u =>
      rw [ev] at rr
      obtain ⟨y, hy, ry⟩ := rr.some_of
      rw [h1] at hy
      have fu : flatV u = true := by
        have hm : ∃ q ∈ ls, q.2 = u := by
          unfold valV at ev
          cases ef : ls.find? fun kv => decide (kv.1 = p.1) with
          | none => rw [ef] at ev; cases ev
          | some q => rw [ef] at ev; cases ev; exact ⟨q, List.mem_of_find?_eq_some ef, rfl⟩
        obtain ⟨q, hq, rfl⟩ := hm
        exact List.all_eq_true.mp fb q hq
      exact .hit hy ((eqAt_V h2 ry fk.1 fu).inModel P w) (ih fk.2)
theorem dict_two (I : Inv X pins σ H s) {a b : Addr} {ka kb : List (Key × V)} (ha : Rd H a (.dK ka)) (hb : Rd H b (.dK kb)) (fa : flatD ka = true) (fb : flatD kb = true) {A : Around} (hu : A.units < cLine) :
    (∀ (E Q : Value → Shared → Prop), Q (.bool (beqD ka kb)) s → wpAny (model X.prog X.w) A (compareOp .Eq (.ref a) (.ref b)) Q E s) ∧ (∀ (E Q : Value → Shared → Prop), Q (.bool (!beqD ka kb)) s → wpAny (model X.prog X.w) A (compareOp .NotEq (.ref a) (.ref b)) Q E s) := by
  obtain ⟨_, ya, va, ra, da⟩ := dk_rd I.hok ha
  obtain ⟨_, yb, vb, rb, db⟩ := dk_rd I.hok hb
  have el : (va.length == vb.length) = (ka.length == kb.length) := by rw [← ra.length, ← rb.length]
  refine ⟨fun E Q q => PySem.W.keq_eqIn (knd := mixKind X.prog X.w) ya yb da db hu (fun _ => hitsD rb fb ra fa) ?_, fun E Q q => PySem.W.qne_dicts (knd := mixKind X.prog X.w) ya yb da db hu (fun _ => hitsD rb fb ra fa) ?_⟩
  · rw [el]; exact q
  · rw [el]; exact q
def EqE (K : PySem.W.Frag) (H : Hp) (x y : V) (b : Bool) : Prop := (∃ d e, Dp K H x d ∧ Dp K H y e ∧ SeqAt.shaped d = true ∧ SeqAt.shaped e = true ∧ b = PyData.eqv d e) ∨
  ∃ a c ka kb, x = .ref a ∧ y = .ref c ∧ Rd H a (.dK ka) ∧ Rd H c (.dK kb) ∧ flatD ka = true ∧ flatD kb = true ∧ b = beqD ka kb
theorem eqE_run (I : Inv X pins σ H s) {x y : V} {b : Bool} (h : EqE X.K H x y b) {u v : Value} (rx : RelV x u) (ry : RelV y v) {A : Around} (hu : A.units + 64 < cLine) : SeqAt.EqIn X.prog X.w A s u v b := by
  rcases h with ⟨d, e, hd, he, sd, se, rfl⟩ | ⟨a, c, ka, kb, rfl, rfl, ha, hb, fa, fb, rfl⟩
  · obtain ⟨as, r1⟩ := Dp.reads I d x u hd rx
    obtain ⟨bs, r2⟩ := Dp.reads I e y v he ry
    exact (SeqAt.eqAt_reads d e A s u v as bs r1 r2 (SeqAt.canLay_of_shaped sd) (SeqAt.canLay_of_shaped se) (SeqAt.room_of_shaped sd hu)).inModel X.prog X.w
  · cases (show u = Value.ref a from rx)
    cases (show v = Value.ref c from ry)
    by_cases hac : a = c
    · subst hac
      have hk : ka = kb := by
        rcases ha with ha | ⟨o, ha⟩ <;> rcases hb with hb | ⟨o', hb⟩ <;> rw [ha] at hb <;> cases hb <;> rfl
      subst hk
      obtain ⟨_, _, va, ra, da⟩ := dk_rd I.hok ha
      obtain ⟨_, _, _, _, _, _, _, _, nd⟩ := da
      rw [beqD_self (by rw [ra.keys]; exact nd) fa]
      exact (SeqAt.EqAt.same _).inModel X.prog X.w
    · exact SeqAt.EqIn.of_refs hac fun E Q q => (dict_two I ha hb fa fb (by omega)).1 E Q q
def EqQ (K : PySem.W.Frag) (H : Hp) (x y : V) (b : Bool) : Prop := EqE K H x y b ∨
  (∃ a c xs ys, ∃ e : Nat → Bool, x = .ref a ∧ y = .ref c ∧ SqL K H a xs ∧ SqL K H c ys ∧ xs.length = ys.length ∧ (∀ (j : Nat) x y, xs[j]? = some x → ys[j]? = some y → EqE K H x y (e j)) ∧ b = (List.range xs.length).all e) ∨
  (∃ a c xs ys, x = .ref a ∧ y = .ref c ∧ SqL K H a xs ∧ SqL K H c ys ∧ (xs.length == ys.length) = false ∧ b = false)
def rEqQ (K : PySem.W.Frag) (f : Bool → Bool) : R2 := fun x y H Q => ∃ b, EqQ K H x y b ∧ Q (.bl (f b)) H
theorem eqQ_items (I : Inv X pins σ H s) {xs ys : List V} {e : Nat → Bool} (h : ∀ (j : Nat) x y, xs[j]? = some x → ys[j]? = some y → EqE X.K H x y (e j)) {us vs : List Value} (rx : Vals xs us) (ry : Vals ys vs) {A : Around} (hu : A.units + 64 < cLine) :
    ∀ j (h1 : j < us.toArray.size) (h2 : j < vs.toArray.size), SeqAt.EqIn X.prog X.w A s us.toArray[j] vs.toArray[j] (e j) := fun j h1 h2 => by
  have l1 : j < us.length := by simpa using h1
  have l2 : j < vs.length := by simpa using h2
  have k1 : j < xs.length := by rw [rx.length]; exact l1
  have k2 : j < ys.length := by rw [ry.length]; exact l2
  obtain ⟨u, e1, r1⟩ := rx.get (List.getElem?_eq_getElem k1)
  obtain ⟨v, e2, r2⟩ := ry.get (List.getElem?_eq_getElem k2)
  have q := eqE_run I (h j _ _ (List.getElem?_eq_getElem k1) (List.getElem?_eq_getElem k2)) r1 r2 (A := A) hu
  have z1 : us.toArray[j] = u := by
    have : us[j]? = some us[j] := List.getElem?_eq_getElem l1
    rw [e1] at this
    simpa using (Option.some.inj this).symm
  have z2 : vs.toArray[j] = v := by
    have : vs[j]? = some vs[j] := List.getElem?_eq_getElem l2
    rw [e2] at this
    simpa using (Option.some.inj this).symm
  rw [z1, z2]
  exact q
theorem op_eqQ (hu : X.A.units + 65 < cLine) : OpR X (compareOp .Eq) (rEqQ X.K fun b => b) := by
  intro pins s σ H x y u v Q I rx ry h
  obtain ⟨b, h, q⟩ := h
  have fin : (EP X pins σ Q) (.bool b) s := ⟨.bl b, H, I, rfl, q⟩
  rcases h with (⟨d, e, hd, he, sd, se, rfl⟩ | ⟨a, c, ka, kb, rfl, rfl, ha, hb, fa, fb, rfl⟩) | ⟨a, c, xs, ys, e, rfl, rfl, ha, hb, hl, hi, rfl⟩ | ⟨a, c, xs, ys, rfl, rfl, ha, hb, hl, rfl⟩
  · exact op_eqD (by omega) pins s σ H x y u v Q I rx ry ⟨d, e, hd, he, sd, se, q⟩
  · cases (show u = Value.ref a from rx)
    cases (show v = Value.ref c from ry)
    exact (dict_two I ha hb fa fb (by omega)).1 _ _ fin
  · cases (show u = Value.ref a from rx)
    cases (show v = Value.ref c from ry)
    obtain ⟨us, r1, p1, _⟩ := I.list ha
    obtain ⟨vs, r2, p2, _⟩ := I.list hb
    have hsz : us.toArray.size = vs.toArray.size := by rw [List.size_toArray, List.size_toArray, ← r1.length, ← r2.length, hl]
    refine SeqAt.rcIn_lists p1.isList p2.isList hsz (by omega) (eqQ_items I hi r1 r2 (A := X.A.in1) (by show X.A.units + 1 + 64 < cLine; omega)) ?_
    rw [show us.toArray.size = xs.length by rw [List.size_toArray, ← r1.length]]
    exact fin
  · cases (show u = Value.ref a from rx)
    cases (show v = Value.ref c from ry)
    obtain ⟨us, r1, p1, _⟩ := I.list ha
    obtain ⟨vs, r2, p2, _⟩ := I.list hb
    exact SeqAt.eq_list_lengthsAt p1.isList p2.isList (by rw [List.size_toArray, List.size_toArray, ← r1.length, ← r2.length]; simpa using hl) (by omega) fin
theorem op_neQ (hu : X.A.units + 65 < cLine) : OpR X (compareOp .NotEq) (rEqQ X.K fun b => !b) := by
  intro pins s σ H x y u v Q I rx ry h
  obtain ⟨b, h, q⟩ := h
  have fin : (EP X pins σ Q) (.bool (!b)) s := ⟨.bl (!b), H, I, rfl, q⟩
  rcases h with (⟨d, e, hd, he, sd, se, rfl⟩ | ⟨a, c, ka, kb, rfl, rfl, ha, hb, fa, fb, rfl⟩) | ⟨a, c, xs, ys, e, rfl, rfl, ha, hb, hl, hi, rfl⟩ | ⟨a, c, xs, ys, rfl, rfl, ha, hb, hl, rfl⟩
  · exact op_neD (by omega) pins s σ H x y u v Q I rx ry ⟨d, e, hd, he, sd, se, q⟩
  · cases (show u = Value.ref a from rx)
    cases (show v = Value.ref c from ry)
    exact (dict_two I ha hb fa fb (by omega)).2 _ _ fin
  · cases (show u = Value.ref a from rx)
    cases (show v = Value.ref c from ry)
    obtain ⟨us, r1, p1, _⟩ := I.list ha
    obtain ⟨vs, r2, p2, _⟩ := I.list hb
    have hsz : us.toArray.size = vs.toArray.size := by rw [List.size_toArray, List.size_toArray, ← r1.length, ← r2.length, hl]
    refine SeqAt.qne_lists p1.isList p2.isList hsz (by omega) (eqQ_items I hi r1 r2 (A := X.A.in1) (by show X.A.units + 1 + 64 < cLine; omega)) ?_
    rw [show us.toArray.size = xs.length by rw [List.size_toArray, ← r1.length]]
    exact fin
  · cases (show u = Value.ref a from rx)
    cases (show v = Value.ref c from ry)
    obtain ⟨us, r1, p1, _⟩ := I.list ha
    obtain ⟨vs, r2, p2, _⟩ := I.list hb
    exact SeqAt.RcNeAt.lists_lengths p1.isList p2.isList (by rw [List.size_toArray, List.size_toArray, ← r1.length, ← r2.length]; simpa using hl) (by omega) X.prog X.w X.xe _ fin
end
end L2
set_option Elab.async false
set_option linter.all false
set_option maxRecDepth 100000
set_option maxHeartbeats 2000000
namespace PX
open PySem PySem.Spec PyProof.Rows L2
def allP (kb : List Key) (vb : List PV) : List Key → List PV → Bool
  | k :: ks, v :: vs => (match lookB eqK kb vb k with
    | some w => eqP v w
    | none => false) && allP kb vb ks vs
  | _, _ => true
def dctEq (S : Store) (x y : PV) : Option Bool := match deref S x with
  | some (.dct (.k ka) va) => match deref S y with
    | some (.dct (.k kb) vb) => if flatsP va && flatsP vb then some (ka.length == kb.length && allP kb vb ka va) else none
    | _ => none
  | _ => none
def eqEl (S : Store) (x y : PV) : Option Bool := match eqD S x y with
  | some b => some b
  | none => dctEq S x y
def eqEls (S : Store) : List PV → List PV → Option (List Bool)
  | [], [] => some []
  | x :: xs, y :: ys => match eqEl S x y with
    | some b => match eqEls S xs ys with
      | some bs => some (b :: bs)
      | none => none
    | none => none
  | _, _ => none
def eqQ (S : Store) (x y : PV) : Option Bool := match eqEl S x y with
  | some b => some b
  | none => match deref S x with
    | some (.lst xs) => match deref S y with
      | some (.lst ys) => if xs.length == ys.length then (eqEls S xs ys).map fun l => l.all fun b => b else some false
      | _ => none
    | _ => none
def oEqQ : Op2 := fun x y S => (eqQ S x y).map fun b => (false, .bl b)
def oNeQ : Op2 := fun x y S => (eqQ S x y).map fun b => (false, .bl (!b))
def eEqQ (cf : CF) (tb : List (Nat × Nat)) (tys : List TyN) (a b : SE) : SE := fun env S => (a env S).bind fun p S1 => (b env S1).bind fun q S2 => match ownOf tb S2 p.2 with
  | some f => if okTy tys S2 q.2 then callV cf f [p.2, q.2] S2 else .no
  | none => ofO (oEqQ p.2 q.2 S2) S2
def eNeQ (cf : CF) (tb : List (Nat × Nat)) (tys : List TyN) (a b : SE) : SE := fun env S => (a env S).bind fun p S1 => (b env S1).bind fun q S2 => match ownOf tb S2 p.2 with
  | some f => if okTy tys S2 q.2 then (callV cf f [p.2, q.2] S2).bind notI else .no
  | none => ofO (oNeQ p.2 q.2 S2) S2
section
variable {G : Gam} {n0 : Nat} {g : Gh} {F : Hp} {r : List Addr} {S : Store} {H : Hp} {X : Cx}
theorem flatD_zip {ks : List Key} : ∀ {us : List V} {ks : List Key}, us.all flatV = true → flatD (ks.zip us) = true
  | [], ks, _ => by rw [List.zip_nil_right]; rfl
  | u :: us, [], _ => rfl
  | u :: us, k :: ks, h => by
    rw [List.all_cons, Bool.and_eq_true] at h
    show (flatV u && flatD (ks.zip us)) = true
    rw [h.1, flatD_zip (ks := ks) h.2]
    rfl
theorem allP_ok {kb : List Key} {vb : List PV} {ub : List V} (hlb : kb.length = ub.length) (kb' : RVs G F r vb ub) (fb : flatsP vb = true) : ∀ {ka : List Key} {va : List PV} {ua : List V}, ka.length = ua.length → RVs G F r va ua → flatsP va = true →
    allP kb vb ka va = (ka.zip ua).all fun p => match valV (kb.zip ub) p.1 with
      | some u => eqV p.2 u
      | none => false
  | [], va, ua, h, _, _ => by
    cases ua with
    | nil => cases va <;> rfl
    | cons => cases h
  | k :: ka, va, [], h, _, _ => by cases h
  | k :: ka, [], u :: ua, h, q, _ => by cases (show (u :: ua) = [] from q)
  | k :: ka, v :: va, u :: ua, h, q, f => by
    obtain ⟨u', ur, e, q1, q2⟩ := q
    cases e
    simp only [flatsP, Bool.and_eq_true] at f
    have ih := allP_ok hlb kb' fb (ka := ka) (by simpa using h) q2 f.2
    show ((match lookB eqK kb vb k with
      | some w => eqP v w
      | none => false) && allP kb vb ka va) = ((match valV (kb.zip ub) k with
      | some u' => eqV u u'
      | none => false) && ((ka.zip ua).all fun p => match valV (kb.zip ub) p.1 with
      | some u => eqV p.2 u
      | none => false))
    rw [ih]
    congr 1
    have hl := lookB_ok (G := G) (F := F) (r := r) eqK_ok k hlb kb'
    cases el : lookB eqK kb vb k with
    | none =>
      rw [el] at hl
      cases ev : valV (kb.zip ub) k with
      | none => rfl
      | some u' => rw [ev] at hl; cases hl
    | some w =>
      rw [el] at hl
      cases ev : valV (kb.zip ub) k with
      | none => rw [ev] at hl; obtain ⟨_, z, _⟩ := hl; cases z
      | some u' =>
        rw [ev] at hl
        have fw : flatP w = true := by
          have hm : ∀ {kb : List Key} {vb : List PV}, lookB eqK kb vb k = some w → flatsP vb = true → flatP w = true := by
            intro kb
            induction kb with
            | nil => intro vb e _; cases vb <;> cases e
            | cons c kb ihk =>
              intro vb e fv
              cases vb with
              | nil => cases e
              | cons z vb =>
                simp only [flatsP, Bool.and_eq_true] at fv
                simp only [lookB] at e
                cases hb : eqK c k with
                | true => simp only [hb, cond_true] at e; cases e; exact fv.1
                | false => simp only [hb, cond_false] at e; exact ihk e fv.2
          exact hm el fb
        obtain ⟨y', ey, hl⟩ := hl
        cases ey
        exact eqP_ok q1 hl f.1 fw
theorem eqEl_ok (h : HR G n0 g F r S H) {x y : PV} {u v : V} {b : Bool} (q1 : RV G F r x u) (q2 : RV G F r y v) (e : eqEl S x y = some b) : EqE G.K H u v b := by
  unfold eqEl at e
  cases ed : eqD S x y with
  | some b' =>
    rw [ed] at e
    cases e
    unfold eqD at ed
    cases e1 : toD S 6 x with
    | none => rw [e1] at ed; cases ed
    | some d =>
      simp only [e1] at ed
      cases e2 : toD S 6 y with
      | none => rw [e2] at ed; cases ed
      | some d' =>
        rw [e2] at ed
        cases ed
        obtain ⟨a1, a2, a3⟩ := toD_ok h 6 x u d q1 e1
        obtain ⟨b1, b2, b3⟩ := toD_ok h 6 y v d' q2 e2
        exact .inl ⟨d, d', a1, b1, toD_shaped a2 a3 (by decide), toD_shaped b2 b3 (by decide), rfl⟩
  | none =>
    rw [ed] at e
    have e : dctEq S x y = some b := e
    unfold dctEq at e
    split at e
    · rename_i ka va e1
      split at e
      · rename_i kb vb e2
        split at e
        · rename_i hf
          cases e
          rw [Bool.and_eq_true] at hf
          obtain ⟨a, ho, ua, rfl, k1, ⟨rfl, hla⟩, k3⟩ := view_dct h q1 e1
          obtain ⟨c, ho', ub, rfl, l1, ⟨rfl, hlb⟩, l3⟩ := view_dct h q2 e2
          refine .inr ⟨a, c, ka.zip ua, kb.zip ub, rfl, rfl, k1, l1, flatD_zip (ks := ka) (flats_ok k3 hf.1), flatD_zip (ks := kb) (flats_ok l3 hf.2), ?_⟩
          unfold beqD
          rw [allP_ok hlb l3 hf.2 hla k3 hf.1, List.length_zip, List.length_zip, ← hla, ← hlb, Nat.min_self, Nat.min_self]
          all_goals rfl
        · cases e
      · cases e
    · cases e
theorem eqEls_len : ∀ {xs ys : List PV} {bs : List Bool}, eqEls S xs ys = some bs → bs.length = xs.length
  | [], [], bs, e => by cases e; rfl
  | x :: xs, [], bs, e => by cases e
  | [], y :: ys, bs, e => by cases e
  | x :: xs, y :: ys, bs, e => by
    unfold eqEls at e
    cases e1 : eqEl S x y with
    | none => rw [e1] at e; cases e
    | some b =>
      simp only [e1] at e
      cases e2 : eqEls S xs ys with
      | none => rw [e2] at e; cases e
      | some bs' =>
        rw [e2] at e
        cases e
        rw [List.length_cons, List.length_cons, eqEls_len e2]
theorem eqEls_ok (h : HR G n0 g F r S H) : ∀ {xs ys : List PV} {us vs : List V} {bs : List Bool}, RVs G F r xs us → RVs G F r ys vs → eqEls S xs ys = some bs → ∀ (j : Nat) u v, us[j]? = some u → vs[j]? = some v → EqE G.K H u v (bs.getD j false)
  | [], [], us, vs, bs, q1, q2, e, j, u, v, e1, e2 => by
    have z : us = [] := q1
    rw [z] at e1
    simp at e1
  | x :: xs, [], us, vs, bs, q1, q2, e, j, u, v, e1, e2 => by cases e
  | [], y :: ys, us, vs, bs, q1, q2, e, j, u, v, e1, e2 => by cases e
  | x :: xs, y :: ys, us, vs, bs, q1, q2, e, j, u, v, e1, e2 => by
    obtain ⟨u0, us0, rfl, k1, k2⟩ := q1
    obtain ⟨v0, vs0, rfl, l1, l2⟩ := q2
    unfold eqEls at e
    cases z1 : eqEl S x y with
    | none => rw [z1] at e; cases e
    | some b =>
      simp only [z1] at e
      cases z2 : eqEls S xs ys with
      | none => rw [z2] at e; cases e
      | some bs' =>
        rw [z2] at e
        cases e
        cases j with
        | zero =>
          simp at e1 e2
          subst e1 e2
          exact eqEl_ok h k1 l1 z1
        | succ j =>
          have := eqEls_ok h k2 l2 z2 j u v (by simpa using e1) (by simpa using e2)
          simpa using this
theorem all_getD : ∀ (bs : List Bool), (List.range bs.length).all (fun j => bs.getD j false) = bs.all fun b => b
  | [] => rfl
  | b :: bs => by
    rw [List.length_cons, List.range_succ_eq_map, List.all_cons, List.all_map, List.all_cons, ← all_getD bs]
    rfl
theorem eqQ_ok (h : HR G n0 g F r S H) {x y : PV} {u v : V} {b : Bool} (q1 : RV G F r x u) (q2 : RV G F r y v) (e : eqQ S x y = some b) : EqQ G.K H u v b := by
  unfold eqQ at e
  cases ee : eqEl S x y with
  | some b' => rw [ee] at e; cases e; exact .inl (eqEl_ok h q1 q2 ee)
  | none =>
    simp only [ee] at e
    split at e
    · rename_i xs e1
      split at e
      · rename_i ys e2
        obtain ⟨a, us, rfl, k1, k2⟩ := view_lst h q1 e1
        obtain ⟨c, vs, rfl, l1, l2⟩ := view_lst h q2 e2
        split at e
        · rename_i hl
          cases eb : eqEls S xs ys with
          | none => rw [eb] at e; cases e
          | some bs =>
            rw [eb] at e
            cases e
            have hb := eqEls_len eb
            refine .inr (.inl ⟨a, c, us, vs, fun j => bs.getD j false, rfl, rfl, .inl k1, .inl l1, by rw [← RVs.length k2, ← RVs.length l2]; simpa using hl, eqEls_ok h k2 l2 eb, ?_⟩)
            rw [← RVs.length k2, ← hb, all_getD]
        · rename_i hl
          cases e
          exact .inr (.inr ⟨a, c, us, vs, rfl, rfl, .inl k1, .inl l1, by rw [← RVs.length k2, ← RVs.length l2]; simpa using hl, rfl⟩)
      · cases e
    · cases e
theorem ok_eqQ : Ok2 G oEqQ (rEqQ G.K fun b => b) := fun n0 g F r S H x y u v z Q h q1 q2 e k => by
  unfold oEqQ at e
  cases eq : eqQ S x y with
  | none => rw [eq] at e; cases e
  | some b => rw [eq] at e; cases e; exact ⟨b, eqQ_ok h q1 q2 eq, k F r H _ (.refl F r) h rfl⟩
theorem ok_neQ : Ok2 G oNeQ (rEqQ G.K fun b => !b) := fun n0 g F r S H x y u v z Q h q1 q2 e k => by
  unfold oNeQ at e
  cases eq : eqQ S x y with
  | none => rw [eq] at e; cases e
  | some b => rw [eq] at e; cases e; exact ⟨b, eqQ_ok h q1 q2 eq, k F r H _ (.refl F r) h rfl⟩
variable {cf : CF} {k : Nat}
theorem eqQ_core {tb : List (Nat × Nat)} {tys : List TyN} {fa fb : SE} (T : Tb X G cf k) (E : EqT G tb tys) (σ : L2.St) (H : Hp) (Q : VK) (hh : rdE G n0 (eEqQ cf tb tys fa fb) σ H Q) : tOp (fun x y H Q => rEqOwn X k x y H Q ∨ rEqQ G.K (fun b => b) x y H Q) (rdV G n0 fa) (rdV G n0 fb) σ H Q := by
  obtain ⟨F, r, env, S, g, s, h⟩ := hh
  refine stV s cnE h fun p S1 F1 r1 H1 u x1 s1 q1 h1 => ?_
  refine stV s1 cnE h1 fun q S2 F2 r2 H2 v x2 s2 q2 h2 => ?_
  have q1' := q1.ext x2
  cases eo : ownOf tb S2 p.2 with
  | none =>
    simp only [eo] at h2
    exact .inr (endO (T := fun Q => rEqQ G.K (fun b => b) u v H2 Q) s2 (x1.trans x2) h2 fun z ez k => ok_eqQ n0 g F2 r2 S2 H2 p.2 q.2 u v z Q s2.hr q1' q2 ez k)
  | some f =>
    simp only [eo] at h2
    split at h2
    · rename_i ot
      obtain ⟨a, c, dx, fs, rfl, k1, k2⟩ := own_at s2.hr q1' eo
      obtain ⟨t, ht, ty⟩ := okTy_at E.cl s2.hr q2 ot
      refine .inl ⟨a, G.ca c, dx, fs, G.fa f, _, t.val G, rfl, k1, T.hK ▸ ty, T.hK ▸ E.nf _ k2 t ht, T.hK ▸ E.spc _ k2, T.call f 2, ?_⟩
      exact run_call (np := 2) s2 (x1.trans x2) (show RVs G F2 r2 [p.2, q.2] _ from ⟨_, _, rfl, q1', _, [], rfl, q2, rfl⟩) rfl h2
    · exact h2.elim
theorem neQ_core {tb : List (Nat × Nat)} {tys : List TyN} {fa fb : SE} (T : Tb X G cf k) (E : EqT G tb tys) (σ : L2.St) (H : Hp) (Q : VK) (hh : rdE G n0 (eNeQ cf tb tys fa fb) σ H Q) : tOp (fun x y H Q => rNeOwn X k x y H Q ∨ rEqQ G.K (fun b => !b) x y H Q) (rdV G n0 fa) (rdV G n0 fb) σ H Q := by
  obtain ⟨F, r, env, S, g, s, h⟩ := hh
  refine stV s cnE h fun p S1 F1 r1 H1 u x1 s1 q1 h1 => ?_
  refine stV s1 cnE h1 fun q S2 F2 r2 H2 v x2 s2 q2 h2 => ?_
  have q1' := q1.ext x2
  cases eo : ownOf tb S2 p.2 with
  | none =>
    simp only [eo] at h2
    exact .inr (endO (T := fun Q => rEqQ G.K (fun b => !b) u v H2 Q) s2 (x1.trans x2) h2 fun z ez k => ok_neQ n0 g F2 r2 S2 H2 p.2 q.2 u v z Q s2.hr q1' q2 ez k)
  | some f =>
    simp only [eo] at h2
    split at h2
    · rename_i ot
      obtain ⟨a, c, dx, fs, rfl, k1, k2⟩ := own_at s2.hr q1' eo
      obtain ⟨t, ht, ty⟩ := okTy_at E.cl s2.hr q2 ot
      refine .inl ⟨a, G.ca c, dx, fs, G.fa f, _, t.val G, rfl, k1, T.hK ▸ ty, T.hK ▸ E.nf _ k2 t ht, T.hK ▸ E.spc _ k2, T.hK ▸ (E.ne _ k2).1, T.hK ▸ (E.ne _ k2).2, T.call f 2, ?_⟩
      refine run_call (np := 2) s2 (x1.trans x2) (show RVs G F2 r2 [p.2, q.2] _ from ⟨_, _, rfl, q1', _, [], rfl, q2, rfl⟩) rfl (poB h2 fun z S3 F3 r3 H3 w x3 s3 q3 h3 => ?_)
      obtain ⟨b, v⟩ := z
      cases v with
      | bl b' => exact ⟨b', bl_of q3, h3 F3 r3 H3 _ x3 s3 rfl⟩
      | _ => exact h3.elim
    · exact h2.elim
variable {tb : List (Nat × Nat)} {tys : List TyN} {fa fb : SE} {a b : Expr} {pos : Pos}
theorem un65 (T : Tb X G cf k) : X.A.units + 65 < cLine := units65 T
theorem op_eqAllQ (T : Tb X G cf k) : OpR X (compareOp .Eq) (fun x y H Q => rEqOwn X k x y H Q ∨ rEqQ G.K (fun b => b) x y H Q) := (op_eqOwn T.room).or (T.hK ▸ op_eqQ (un65 T))
theorem op_neAllQ (T : Tb X G cf k) : OpR X (compareOp .NotEq) (fun x y H Q => rNeOwn X k x y H Q ∨ rEqQ G.K (fun b => !b) x y H Q) := (op_neOwn T.room).or (T.hK ▸ op_neQ (un65 T))
theorem se_eqQ (T : Tb X G cf k) (E : EqT G tb tys) (ha : PE X a (rdE G n0 fa)) (hb : PE X b (rdE G n0 fb)) (hm : behindInMarks .Eq b = false) : PE X (.Compare a [.Eq] [b] pos) (rdE G n0 (eEqQ cf tb tys fa fb)) :=
  se_of (pe_cmpR (op_eqAllQ T) (toV ha) (toV hb) hm) (eqQ_core T E)
theorem st_eqQ (T : Tb X G cf k) (E : EqT G tb tys) (ha : PE X a (rdE G n0 fa)) (hb : PE X b (rdE G n0 fb)) (hm : behindInMarks .Eq b = false) : PT X (.Compare a [.Eq] [b] pos) (rdT G n0 (tBl (eEqQ cf tb tys fa fb))) :=
  st_of (pt_cmpR (op_eqAllQ T) (toV ha) (toV hb) hm) (eqQ_core T E)
theorem se_neQ (T : Tb X G cf k) (E : EqT G tb tys) (ha : PE X a (rdE G n0 fa)) (hb : PE X b (rdE G n0 fb)) (hm : behindInMarks .NotEq b = false) : PE X (.Compare a [.NotEq] [b] pos) (rdE G n0 (eNeQ cf tb tys fa fb)) :=
  se_of (pe_cmpR (op_neAllQ T) (toV ha) (toV hb) hm) (neQ_core T E)
theorem st_neQ (T : Tb X G cf k) (E : EqT G tb tys) (ha : PE X a (rdE G n0 fa)) (hb : PE X b (rdE G n0 fb)) (hm : behindInMarks .NotEq b = false) : PT X (.Compare a [.NotEq] [b] pos) (rdT G n0 (tBl (eNeQ cf tb tys fa fb))) :=
  st_of (pt_cmpR (op_neAllQ T) (toV ha) (toV hb) hm) (neQ_core T E)
end
end PX
set_option Elab.async false
set_option linter.all false
set_option maxRecDepth 100000
set_option maxHeartbeats 4000000
set_option Elab.async false
set_option linter.all false
set_option maxRecDepth 100000
set_option maxHeartbeats 2000000
namespace PX
open PySem PySem.Spec PyProof.Rows L2
section
variable {G : Gam} {n0 : Nat} {g : Gh} {F : Hp} {r : List Addr} {S : Store} {H : Hp} {X : Cx}
def rLenD : List V → Hp → VK → Prop := fun xs H Q => (∃ (p : Addr) (kvs : List (Key × V)), xs = [.ref p] ∧ Rd H p (.dK kvs) ∧ Q (.int ((kvs.length : Nat) : Int)) H) ∨ rLenT xs H Q
theorem call_lenD : CallR X (.builtin "len") rLenD := by
  intro pins s σ H xs us Q I r h
  rcases h with ⟨p, kvs, rfl, hp, q⟩ | h
  · obtain ⟨u, rfl, rx⟩ := vals1 r
    obtain rfl : u = .ref p := rx
    exact d_len I hp fun t s' I' => ⟨.int ((kvs.length : Nat) : Int), H, I', ⟨_, rfl⟩, q⟩
  · exact call_len_dT pins s σ H xs us Q I r h
def bLenG : OpN := fun xs S => match bLen xs S with
  | some z => some z
  | none => match xs with
    | [v] => match derf S v with
      | some (.dct (.n _) _) => none
      | some (.dct _ vs) => some (false, .int vs.length)
      | _ => none
    | _ => none
theorem ok_lenD {S : Store} {v : PV} {u : V} {ks : DKs} {vs : List PV} {Q : VK} (h : HR G n0 g F r S H) (q1 : RV G F r v u) (ed : derf S v = some (.dct ks vs)) (nk : ∀ l, ks = .n l → False) (k : Q (.int ((vs.length : Nat) : Int)) H) : rLenD [u] H Q := by
  cases ks with
  | n l => exact (nk l rfl).elim
  | k kk =>
    obtain ⟨a, ho, us, rfl, k1, ⟨rfl, hl⟩, k3⟩ := view_dct h q1 (derf_d ed)
    refine .inl ⟨a, kk.zip us, rfl, k1, ?_⟩
    rw [List.length_zip, hl, Nat.min_self, ← RVs.length k3]
    exact k
  | t kk =>
    obtain ⟨a, us, rfl, k1, hl, k3⟩ := view_dctT h q1 ed
    refine .inr ⟨a, kk.zip us, rfl, k1, ?_⟩
    rw [List.length_zip, hl, Nat.min_self, ← RVs.length k3]
    exact k
def eLenG (cf : CF) (tb : List (Nat × Nat)) (a : SE) : SE := fun env S => (a env S).bind fun p S1 => match ownOf tb S1 p.2 with
  | some f => (callV cf f [p.2] S1).bind lenI
  | none => ofO (bLenG [p.2] S1) S1
variable {cf : CF} {k : Nat}
theorem se_lenG {tb : List (Nat × Nat)} {e : Expr} {fe : SE} {p pos : Pos} (T : Tb X G cf k) (hg : Gl X "len") (hm : X.mg "len" = none) (hc : ∀ p ∈ tb, Spc G.K (G.ca p.1) (G.fa p.2) "__len__") (he : PE X e (rdE G n0 fe))
    (hb : bootBuiltins "len" = some (.builtin "len") := by rfl) (hs : starEach [e] X.env = (false, eval e X.env) :: starEach [] X.env := by rfl) (hpl : (backTo pos (starEach [] X.env)).any (·.1) = false := by rfl) :
    PE X (.Call (.Name "len" p) [e] [] pos) (rdE G n0 (eLenG cf tb fe)) := by
  have cr : CallR X (.builtin "len") (fun xs H Q => rLenOwn X k xs H Q ∨ (∃ x n, xs = [x] ∧ LenV X.K x H n ∧ Q (.int n) H) ∨ rLenD xs H Q) := by
    intro pins s σ H vs us Q I r h
    rcases h with h | h | h
    · exact cr_lenOwn T.room pins s σ H vs us Q I r h
    · exact call_len pins s σ H vs us Q I r h
    · exact call_lenD pins s σ H vs us Q I r h
  refine peI (pe_callB cr hg hm hb (pa_cons (toV he) pa_nil hs) (by decide) (by decide) hs hpl) fun σ H Q ⟨F, r, env, S, g, s, h⟩ => ?_
  refine stV s cnE h fun p S1 F1 r1 H1 u x1 s1 q1 h1 => ?_
  cases eo : ownOf tb S1 p.2 with
  | none =>
    simp only [eo] at h1
    refine .inr ?_
    unfold bLenG at h1
    cases e0 : bLen [p.2] S1 with
    | some z =>
      simp only [e0] at h1
      unfold bLen at e0
      simp only at e0
      split at e0
      · rename_i ws ed
        cases e0
        obtain ⟨a, us, rfl, k1, k2⟩ := view_lst s1.hr q1 ed
        refine .inl ⟨.ref a, us.length, rfl, .inl ⟨us, .inl k1, rfl⟩, ?_⟩
        rw [← RVs.length k2]
        exact h1 F1 r1 H1 _ x1 s1 rfl
      · rename_i ws ed
        cases e0
        obtain ⟨a, us, rfl, k1, k2⟩ := view_tup s1.hr q1 ed
        refine .inl ⟨.ref a, us.length, rfl, .inr ⟨us, T.hK ▸ k1, rfl⟩, ?_⟩
        rw [← RVs.length k2]
        exact h1 F1 r1 H1 _ x1 s1 rfl
      · cases e0
    | none =>
      simp only [e0] at h1
      split at h1
      · exact h1.elim
      · rename_i ks vs nk ed
        exact .inr (ok_lenD s1.hr q1 ed nk (h1 F1 r1 H1 _ x1 s1 rfl))
      · exact h1.elim
  | some f =>
    simp only [eo] at h1
    refine .inl ?_
    unfold ownOf at eo
    split at eo
    · rename_i c ns ws ed
      obtain ⟨a, dx, us, rfl, k1, k2, k3⟩ := view_ins s1.hr q1 ed
      refine ⟨a, G.ca c, dx, _, G.fa f, _, rfl, k1, T.hK ▸ hc (c, f) (look_mem eo), T.call f 1, ?_⟩
      refine run_call (np := 1) s1 x1 (show RVs G F1 r1 [p.2] _ from ⟨_, [], rfl, q1, rfl⟩) rfl (poB h1 fun z S2 F2 r2 H2 w x2 s2 q2 h2 => ?_)
      obtain ⟨b, v⟩ := z
      cases v with
      | int n =>
        unfold lenI at h2
        simp only at h2
        split at h2
        · rename_i hn
          rw [Bool.and_eq_true, decide_eq_true_eq, decide_eq_true_eq] at hn
          have ew : w = .int n := by
            cases b with
            | false => exact q2
            | true =>
              obtain ⟨_, _, _, _, _, _, _, ro, _⟩ := q2
              exact ro.elim
          exact ⟨n, ew, hn.1, by omega, h2 F2 r2 H2 _ x2 s2 rfl⟩
        · exact h2.elim
      | _ => exact h2.elim
    · cases eo
end
end PX
set_option Elab.async false
set_option linter.all false
set_option maxRecDepth 100000
set_option maxHeartbeats 2000000
set_option Elab.async false
set_option linter.all false
set_option maxRecDepth 100000
set_option maxHeartbeats 1000000
namespace PX
open PySem PySem.Spec PyProof.Rows L2 ZG
def iSeqH (a : SE) : SI := fun env S => (a env S).bind fun p S1 => match lockS p.2 S1 with
  | some z => .ok (z.1, z.2.1) z.2.2
  | none => match dctOf S1 p.2 with
    | some z => .ok (z.1.map kPV, []) S1
    | none => .no
theorem PI.or {X : Cx} {tg e : Expr} {t1 t2 : TI} (h1 : PI X tg e t1) (h2 : PI X tg e t2) : PI X tg e fun σ H R => t1 σ H R ∨ t2 σ H R :=
  ⟨fun pins s σ H R I q => q.elim (h1.run pins s σ H R I) (h2.run pins s σ H R I)⟩
theorem si_seqH {X : Cx} {G : Gam} {n0 : Nat} {tg e : Expr} {fe : SE} (hK : G.K = X.K) (he : PE X e (rdE G n0 fe)) : PI X tg e (rdI G n0 (iSeqH fe)) := by
  refine piI (PI.or (si_seq hK he) (si_keys he)) fun σ H R ⟨F, r, env, S, g, s, h⟩ => ?_
  unfold iSeqH at h
  cases e0 : fe env S with
  | no => rw [e0] at h; exact h.elim
  | ex => rw [e0] at h; exact h.elim
  | ok p S1 =>
    rw [e0] at h
    have h : PoI G n0 g F r env σ (match lockS p.2 S1 with
      | some z => .ok (z.1, z.2.1) z.2.2
      | none => match dctOf S1 p.2 with
        | some z => .ok (z.1.map kPV, []) S1
        | none => .no) R := h
    cases el : lockS p.2 S1 with
    | some z =>
      rw [el] at h
      refine .inl ⟨F, r, env, S, g, s, ?_⟩
      unfold iSeq
      rw [e0]
      show PoI G n0 g F r env σ (match lockS p.2 S1 with
        | some z => _
        | none => .no) R
      rw [el]
      exact h
    | none =>
      rw [el] at h
      refine .inr ⟨F, r, env, S, g, s, ?_⟩
      unfold iKys
      rw [e0]
      exact h
end PX
set_option Elab.async false
set_option linter.all false
set_option maxRecDepth 100000
set_option maxHeartbeats 4000000
namespace PX
open PySem PySem.Spec PyProof.Rows L2
theorem tuple_mul1 (l : Addr) (items : Array Value) (n : Nat) (dd : Option Addr) (sl : Array (Option Value)) (u : Tok) :
    Meets (Builtin.«tuple.__mul__» ⟨[.ref l, .int 1 u], []⟩) (fun _ R s => s.heap.get? l = some { cls := .type "tuple", dict := dd, data := .seq items n, slots := sl } ∧ R (.ok (.ret (Value.ref l))) s) :=
  .of_wp fun prog w A R s h => by
    obtain ⟨hp, g, d, tk, os⟩ := s
    obtain ⟨hl, h⟩ := h
    have f1 := AutoSeq1.idx_int
    have c1 : (items.isEmpty || (1 : Int) == 1) = true := by simp
    wp_walk using wpAny_loadPart' hl
    repeat (first
      | (refine wpAny_ite_false (decide_eq_false (by decide)) ?_; wp_walk using wpAny_loadPart' hl)
      | (refine wpAny_ite_true (decide_eq_true (by rw [c1])) ?_; wp_walk using wpAny_loadPart' hl))
    exact ⟨_, rfl, h⟩
def rRepTT (K : PySem.W.Frag) : R2 := fun x y H Q => rRepT K x y H Q ∨ ∃ l xs, x = .ref l ∧ y = .int 1 ∧ SqT K H l xs ∧ Q (.ref l) H
section
variable {X : Cx} {G : Gam}
theorem op_repTT : OpR X (binaryOp .Mult) (rRepTT X.K) := by
  intro pins s σ H x y v u Q I rx ry h
  rcases h with h | h
  · exact op_repT pins s σ H x y v u Q I rx ry h
  · obtain ⟨l, xs, rfl, rfl, hT, q⟩ := h
    cases rx
    obtain ⟨t, rfl⟩ := ry
    obtain ⟨its, r, ⟨⟨cls, dd, data, sl⟩, ho, hc, n, hd⟩, hs⟩ := I.tuple hT
    simp only at hc hd
    subst hc hd
    refine wpAny_binaryOp_repeat_ref (T := "tuple") (U := "int") (by decide) ⟨_, ho, rfl⟩ (fun s' => typeIs_int s' 1 t) noFill_tuple_mul F.fills_int_mul F.slot_int_rmul repeat_tuple F.slot_int_index.lookup
      (call_meets F.slot_int_rmul (typeIs_int s 1 t) F.entry_int_rmul (F.args_int_rmul_2 _ _) (int_rmul_tuple 1 t l its.toArray n dd sl)
        ⟨ho, rfl, ⟨_, ho, rfl⟩, call_meets F.slot_tuple_mul ⟨_, ho, rfl⟩ F.entry_tuple_mul (F.args_tuple_mul_2 _ _) (tuple_mul1 l its.toArray n dd sl t) ⟨ho, ?_⟩⟩)
    exact ⟨.ref l, H, I, rfl, q⟩
def oRepT : Op2 := fun x y _ => match y with
  | .int k => match x with
    | .tup (v :: vs) => if decide (1 ≤ k ∧ k ≤ 1000) && Nat.ble vs.length 900 then some (false, .tup (List.replicate k.toNat (v :: vs)).flatten) else none
    | _ => none
  | _ => none
theorem ok_repT : Ok2 G oRepT (rRepTT G.K) := fun n0 g F r S H x y u v z Q h q1 q2 e k => by
  unfold oRepT at e
  split at e
  · rename_i m
    split at e
    · rename_i w ws
      split at e
      · rename_i hz
        cases e
        simp only [Bool.and_eq_true, decide_eq_true_eq] at hz
        obtain ⟨a, us, rfl, k1, k2⟩ := view_tup h q1 (xs := w :: ws) rfl
        have hlen : us.length ≤ 901 := by
          rw [← RVs.length k2, List.length_cons]
          have := Nat.le_of_ble_eq_true hz.2
          omega
        by_cases h1 : m = 1
        · subst h1
          refine .inr ⟨a, us, rfl, q2, k1, ?_⟩
          refine k F r H _ (.refl F r) h ?_
          have e1 : (List.replicate (1 : Int).toNat (w :: ws)).flatten = w :: ws := by
            show ([w :: ws]).flatten = _
            simp
          rw [e1]
          exact q1
        · refine .inl ⟨a, m, us, rfl, q2, k1, fun e0 => ?_, by omega, by omega, by omega, fun p hp => ?_⟩
          · have := RVs.length k2
            rw [e0] at this
            simp at this
          · obtain ⟨F4, x4, h4, k4⟩ := new_tup h hp (k2.rep m.toNat)
            exact k F4 r _ _ x4 h4 k4
      · cases e
    · cases e
  · cases e
end
end PX
set_option Elab.async false
set_option linter.all false
set_option maxRecDepth 100000
set_option maxHeartbeats 1000000
namespace PX
open PySem PySem.Spec PyProof.Rows L2
abbrev xVal (G : Gam) (c : Nat) : Value := .ref (G.ca c)
abbrev bmVE : List Value := [.type "ValueError", .type "Exception", .type "BaseException", .type "object"]
def excB (K : PySem.W.Frag) (C : Addr) : Bool := PySem.W.excIn K C bmVE "ValueError.__new__" && (PySem.W.keepIn K (.ref C) && (decide (PySem.W.subIn K (.ref C) (.type "BaseException") = some true) && (decide (PySem.W.typeIn K (.ref C) = some (.type "type")) && decide (PySem.W.exmOne K (.ref C) (.ref C) = some true))))
section
variable {X : Cx} {G : Gam} {n0 : Nat} {E : XK}
theorem ss_rse {c : Nat} {x m : Str} {j : Nat} {p p2 pos pos2 : Pos} (hG : G.K = X.K) (hc : X.calm = true) (tk : Takes X fun cls d _ H => E cls d H) (hk : excB G.K (G.ca c) = true) (hm : X.mg x = some (.ref (G.ca c))) (hg : Gl X x) (hx : (x == PySem.Str.ofString "__debug__") = false := by rfl) :
    PS X (.Raise (some (.Call (.Name x p) [.Constant (.str m) j p2] [] pos)) none pos2) (rdS G n0 E (sRse c)) := by
  rw [hG] at hk
  unfold excB at hk
  simp only [Bool.and_eq_true, decide_eq_true_eq] at hk
  obtain ⟨h1, h2, h3, h4, h5⟩ := hk
  exact psI (ps_raise hc tk (pmk_own PySem.F.excBase_ValueError h1 hm h2 (raises_own h3 h4) hg hx)) fun D σ H ⟨F, r, env, S, g, s, h⟩ => h F r H (.refl F r) s.hr none rfl
end
section
variable {X : Cx} {CX : CXT} {k : Nat} {f : Addr} {sp : Sp} {E : L2.St → XK} {x : Str} {p pos : Pos} {e : Expr} {es : List Expr} {t : TA}
theorem run_fnRS {pins : List (Addr × Obj)} {σ : L2.St} {H : Hp} {s : Shared} {Q : VK} {us : List Value} {vs : List V} (F : FnR X.prog X.w X.K X.mg X.base CX k f sp) (hr : Room k X.A) (hx : PassesAt CX X σ (E σ)) (I : Inv X pins σ H s) (r : Vals vs us) (h : sp vs H Q (E σ)) :
    codeAny (model X.prog X.w) X.A (.call (.ref f) ⟨us, []⟩) (fun r s' => match r with | .ok (.ret v) => EP X pins σ Q v s' | .ok _ => False | .error e => X.xe e s') s := by
  refine codeAny_mono (F X.A X.stack s H us vs Q (E σ) hr I.env0 r h) fun r s' hq => ?_
  cases r with
  | error e => exact hx pins H s e s' I hq
  | ok fl =>
    cases fl with
    | ret u => exact I.after hq
    | next => exact False.elim hq
    | brk => exact False.elim hq
    | cont => exact False.elim hq
theorem pe_callRS (F : FnR X.prog X.w X.K X.mg X.base CX k f sp) (hr : Room k X.A) (hg : Gl X x) (hm : X.mg x = some (.ref f)) (hk : PySem.W.keepIn X.K (.ref f) = true) (hx : ∀ σ, PassesAt CX X σ (E σ))
    (ha : PA X (e :: es) t) (hdb : (x == ("__debug__" : Str)) = false := by decide) (he : starEach (e :: es) X.env = (false, eval e X.env) :: starEach es X.env := by rfl) (hpl : (backTo pos (starEach es X.env)).any (·.1) = false := by rfl) :
    PE X (.Call (.Name x p) (e :: es) [] pos) (tCallS sp E t) := by
  refine ⟨fun pins s σ H Q I h => ?_⟩
  refine wpAny_Call_Name_kw (ld_glob I hg hm ?_ hdb)
  refine PySem.W.callWith_K (h₀ := X.base) I.ok.mod.kin hk (thn (ha.run pos pins s σ H _ I h) fun us s1 ⟨vs, H1, I1, r, q⟩ => ⟨I1.kIn, ?_⟩) he hpl
  exact wpAny_call (run_fnRS F hr (hx σ) I1 r q)
end
end PX
set_option Elab.async false
set_option linter.all false
set_option maxRecDepth 100000
set_option maxHeartbeats 1000000
namespace PX
open PySem PySem.Spec PyProof.Rows L2
def PoEX (G : Gam) (n0 : Nat) (E : XK) (g : Gh) (F : Hp) (r : List Addr) (env : Env) (σ : L2.St) (z : R (Bool × PV)) (Q : VK) : Prop := match z with
  | .ok p S' => ∀ F' r' H' u, Ext F F' r r' → Sg G n0 g F' r' env σ S' H' → RF G g F' r' H' p.1 p.2 u → Q u H'
  | .ex c pl S' => ∀ F' r' H', Ext F F' r r' → HR G n0 g F' r' S' H' → XE E (.ref (G.ca c)) pl H'
  | .no => False
def PoVX (G : Gam) (n0 : Nat) (E : XK) (g : Gh) (F : Hp) (r : List Addr) (env : Env) (σ : L2.St) (z : R (Bool × PV)) (Q : VK) : Prop := match z with
  | .ok p S' => ∀ F' r' H' u, Ext F F' r r' → Sg G n0 g F' r' env σ S' H' → RV G F' r' p.2 u → Q u H'
  | .ex c pl S' => ∀ F' r' H', Ext F F' r r' → HR G n0 g F' r' S' H' → XE E (.ref (G.ca c)) pl H'
  | .no => False
def rdEX (G : Gam) (n0 : Nat) (E : L2.St → XK) (f : SE) : TE := fun σ H Q => ∃ F r env S g, Sg G n0 g F r env σ S H ∧ PoEX G n0 (E σ) g F r env σ (f env S) Q
def rdVX (G : Gam) (n0 : Nat) (E : L2.St → XK) (f : SE) : TE := fun σ H Q => ∃ F r env S g, Sg G n0 g F r env σ S H ∧ PoVX G n0 (E σ) g F r env σ (f env S) Q
def nxA (a : SA) : SA := fun env S => match a env S with
  | .ok v S1 => .ok v S1
  | _ => .no
def nxE (a : SE) : SE := fun env S => match a env S with
  | .ok v S1 => .ok v S1
  | _ => .no
theorem norm_ex {n0 : Nat} {v : PV} {S : Store} {c : Nat} {p : List PV} {S' : Store} (h : norm n0 v S = .ex c p S') : False := by
  unfold norm at h
  split at h
  · cases h
  · split at h
    · split at h
      · cases h
      · split at h
        · split at h <;> cases h
        · cases h
    · split at h <;> cases h
section
variable {X : Cx} {G : Gam} {n0 : Nat} {E : XK} {g : Gh} {F F1 : Hp} {r r1 : List Addr} {env : Env} {σ : L2.St} {S S1 : Store} {H H1 : Hp} {Q : VK} {D : Ends}
theorem stAX {f : SA} {T : List V → Hp → Prop} {kk : List PV → Store → R (Bool × PV)} (s : Sg G n0 g F r env σ S H) (h : PoEX G n0 E g F r env σ ((nxA f env S).bind kk) Q)
    (step : ∀ p S' F' r' H' us, Ext F F' r r' → Sg G n0 g F' r' env σ S' H' → RVs G F' r' p us → PoEX G n0 E g F r env σ (kk p S') Q → T us H') : rdA G n0 f σ H T := by
  refine ⟨F, r, env, S, g, s, ?_⟩
  unfold nxA at h
  cases e : f env S with
  | ok p S' => rw [e] at h; exact fun F' r' H' us ex s' q => step p S' F' r' H' us ex s' q h
  | ex c p S' => rw [e] at h; exact h.elim
  | no => rw [e] at h; exact h.elim
theorem stVX {f : SE} {T : V → Hp → Prop} {kk : Bool × PV → Store → R (Bool × PV)} (s : Sg G n0 g F r env σ S H) (h : PoEX G n0 E g F r env σ ((nxE f env S).bind kk) Q)
    (step : ∀ p S' F' r' H' u, Ext F F' r r' → Sg G n0 g F' r' env σ S' H' → RV G F' r' p.2 u → PoEX G n0 E g F r env σ (kk p S') Q → T u H') : rdV G n0 f σ H T := by
  refine ⟨F, r, env, S, g, s, ?_⟩
  unfold nxE at h
  cases e : f env S with
  | ok p S' => rw [e] at h; exact fun F' r' H' u ex s' q => step p S' F' r' H' u ex s' q h
  | ex c p S' => rw [e] at h; exact h.elim
  | no => rw [e] at h; exact h.elim
theorem PoEX.ext {z : R (Bool × PV)} (h : PoEX G n0 E g F r env σ z Q) (x : Ext F F1 r r1) : PoEX G n0 E g F1 r1 env σ z Q := by
  cases z with
  | ok p S' => exact fun F' r' H' u ex s' q => h F' r' H' u (x.trans ex) s' q
  | ex c p S' => exact fun F' r' H' ex hr => h F' r' H' (x.trans ex) hr
  | no => exact h
theorem toVX {e : Expr} {f : SE} {E : L2.St → XK} (h : PE X e (rdEX G n0 E f)) : PE X e (rdVX G n0 E f) := by
  refine peI h fun σ H Q ⟨F, r, env, S, g, s, p⟩ => ⟨F, r, env, S, g, s, ?_⟩
  cases e : f env S with
  | ok p' S' =>
    rw [e] at p
    intro F' r' H' u x s' q
    obtain ⟨F2, x2, h2, q2⟩ := freeze s'.hr q
    exact p F2 r' H' u (x.trans x2) (s'.ext x2 h2) q2
  | ex => rw [e] at p; exact p
  | no => rw [e] at p; exact p
theorem sgVX {f : SE} {T : V → Hp → Prop} {kk : Bool × PV → Store → RS} (s : Sg G n0 g F r env σ S H) (h : PoS G n0 E g F r ((f env S).goX kk) D)
    (step : ∀ p S' F' r' H' u, Ext F F' r r' → Sg G n0 g F' r' env σ S' H' → RV G F' r' p.2 u → PoS G n0 E g F r (kk p S') D → T u H') : rdVX G n0 (fun _ => E) f σ H T := by
  refine ⟨F, r, env, S, g, s, ?_⟩
  cases e : f env S with
  | ok p S' => rw [e] at h; exact fun F' r' H' u ex s' q => step p S' F' r' H' u ex s' q h
  | ex c p S' => rw [e] at h; exact h
  | no => rw [e] at h; exact h
end
section
variable {X : Cx} {G : Gam} {n0 : Nat} {E : XK} {cf : CF} {np f c k : Nat} {fa : SA} {fe : SE} {st : Stmt} {e : Expr} {es : List Expr} {pos : Pos}
theorem ss_exprX (he : PE X e (rdEX G n0 (fun _ => E) fe)) (hs : swapsWith e none pos.line X.env = pure false := by rfl) : PS X (.Expr e pos) (rdS G n0 E (sExpX fe)) := by
  refine psI (ps_expr (toVX he) hs) fun D σ H ⟨F, r, env, S, g, s, h⟩ => ?_
  exact sgVX s h fun p S1 F1 r1 H1 u x1 s1 q1 h1 => h1 F1 r1 H1 σ x1 s1
theorem run_callX {g : Gh} {F0 F : Hp} {r0 r : List Addr} {env : Env} {σ : L2.St} {S : Store} {H : Hp} {Q : VK} {args : List PV} {us : List V} (s : Sg G n0 g F r env σ S H) (x0 : Ext F0 F r0 r) (q : RVs G F r args us) (hl : args.length = np)
    (h : PoEX G n0 E g F0 r0 env σ ((cutX S.length (cf f args S.length S)).bind fun v S2 => norm S.length v S2) Q) : spF G cf f np us H Q E := by
  refine ⟨F, r, S, subG n0 g S.length, S.length, args, s.hr.call, q, hl, ?_⟩
  cases ec : cf f args S.length S with
  | no => rw [ec] at h; exact h
  | ex k p S2 =>
    rw [ec] at h
    have h : ∀ F' r' H', Ext F0 F' r0 r' → HR G n0 g F' r' (S2.take S.length) H' → XE E (.ref (G.ca k)) p H' := h
    intro F2 r2 H2 x2 h2
    have h3 := frz_hr h2 S2.length
    have le := frF_le h2 S2.length
    rw [take_ext s.hr x2] at h3
    have x4 : Ext F (frF S.length S2.length (subG n0 g S.length) F2 r2 H2) r r := ⟨x2.1.trans le, List.prefix_refl r⟩
    exact h _ r H2 (x0.trans x4) (s.hr.back h3)
  | ok v S2 =>
    rw [ec] at h
    intro F2 r2 H2 u x2 h2 q2
    have h : PoEX G n0 E g F0 r0 env σ (norm S.length v S2) Q := h
    cases en : norm S.length v S2 with
    | no => rw [en] at h; exact h.elim
    | ex => exact (norm_ex en).elim
    | ok p S3 =>
      rw [en] at h
      obtain ⟨b, w⟩ := p
      obtain ⟨F3, x3, h3, q3⟩ := norm_ok h2 q2 en
      rw [take_ext s.hr x2] at h3 q3
      have x4 : Ext F F3 r r := ⟨x2.1.trans x3, List.prefix_refl r⟩
      exact h F3 r H2 u (x0.trans x4) (s.ext x4 (s.hr.back h3)) q3
theorem sx_callX {E : L2.St → XK} {x : Str} {p : Pos} (T : Tb X G cf k) (hx : ∀ σ, PassesAt (L2.CX X.prog X.w) X σ (E σ)) (hg : Gl X x) (hm : X.mg x = some (.ref (G.fa f))) (hk : PySem.W.keepIn G.K (.ref (G.fa f)) = true) (ha : PA X (e :: es) (rdA G n0 fa))
    (hd : (x == ("__debug__" : Str)) = false := by decide) (hst : starEach (e :: es) X.env = (false, eval e X.env) :: starEach es X.env := by rfl) (hsb : (backTo pos (starEach es X.env)).any (·.1) = false := by rfl) :
    PE X (.Call (.Name x p) (e :: es) [] pos) (rdEX G n0 E (eCall cf np f (nxA fa))) := by
  refine peI (pe_callRS (E := E) (T.call f np) (T.room.mono (Nat.le_succ k)) hg hm (T.hK ▸ hk) hx ha hd hst hsb) fun σ H Q ⟨F, r, env, S, g, s, h⟩ => ?_
  refine stAX s h fun p S1 F1 r1 H1 us x1 s1 q1 h1 => ?_
  split at h1
  · rename_i hl
    exact run_callX s1 x1 q1 hl h1
  · exact h1.elim
def tMethX (X : Cx) (k : Nat) (m : Str) (E : L2.St → XK) (ta : TE) (t : TA) : TE := fun σ H Q => ta σ H fun x H1 => ∃ a C dx fs g sp, x = .ref a ∧ H1 a = some (.ins C dx fs) ∧ Cls X.K C ∧ Meth X.K C m g ∧ fs.lookup m = none ∧ FnR X.prog X.w X.K X.mg X.base (L2.CX X.prog X.w) k g sp ∧ t σ H1 fun vs H2 => sp (x :: vs) H2 Q (E σ)
theorem pe_methX {E : L2.St → XK} {m : Str} {apos : Pos} {o : Expr} {ta : TE} {t : TA} {pl : Sem Bool} (he : PE X o ta) (hr : Room k X.A) (hx : ∀ σ, PassesAt (L2.CX X.prog X.w) X σ (E σ)) (ha : PA X (e :: es) t)
    (hst : starEach (e :: es) X.env = (false, eval e X.env) :: starEach es X.env := by rfl) (hpl : (backTo pos (starEach es X.env)).any (·.1) = false := by rfl)
    (ht : eval (.Call (.Attribute o m apos) (e :: es) [] pos) X.env = (do
      let ov ← eval o X.env
      standAt apos.atName
      let (f, first) ← holding [ov] (getMethod ov m pl)
      callWith pos f first (backTo pos (starEach (e :: es) X.env)) (backToKw pos (keywordEach [] X.env))) := by rfl) :
    PE X (.Call (.Attribute o m apos) (e :: es) [] pos) (tMethX X k m E ta t) := by
  refine ⟨fun pins s σ H Q I h => ?_⟩
  refine PySem.W.methodCall_KW (pl := pl) (thn (he.run pins s σ H _ I h) fun u s1 ⟨x, H1, I1, rx, a, C, dx, fs, g, sp, ex, ea, c, hm, l, F, q⟩ => ?_) ht
  subst ex
  obtain rfl : u = Value.ref a := rx
  refine getmeth_ok I1 ea c hm l ?_
  refine PySem.W.callWith_K (first := [.ref a]) (h₀ := X.base) I.ok.mod.kin hm.kp (thn (ha.run pos pins s1 σ H1 _ I1 q) fun us s2 ⟨ws, H2, I2, r, q2⟩ => ⟨I2.kIn, ?_⟩) hst hpl
  exact wpAny_call (run_fnRS (us := .ref a :: us) (vs := .ref a :: ws) (E := E) F hr (hx σ) I2 (.cons rfl r) q2)
theorem se_methX {E : L2.St → XK} {m : Nat} {tb : List (Nat × Nat)} {o : Expr} {fo : SE} {apos : Pos} {pl : Sem Bool} (T : Tb X G cf k) (hx : ∀ σ, PassesAt (L2.CX X.prog X.w) X σ (E σ)) (hi : Inj G m) (hc : ∀ p ∈ tb, Cls G.K (G.ca p.1) ∧ Meth G.K (G.ca p.1) (G.nm m) (G.fa p.2)) (ho : PE X o (rdE G n0 fo)) (ha : PA X (e :: es) (rdA G n0 fa))
    (hst : starEach (e :: es) X.env = (false, eval e X.env) :: starEach es X.env := by rfl) (hpl : (backTo pos (starEach es X.env)).any (·.1) = false := by rfl)
    (ht : eval (.Call (.Attribute o (G.nm m) apos) (e :: es) [] pos) X.env = (do
      let ov ← eval o X.env
      standAt apos.atName
      let (f, first) ← holding [ov] (getMethod ov (G.nm m) pl)
      callWith pos f first (backTo pos (starEach (e :: es) X.env)) (backToKw pos (keywordEach [] X.env))) := by rfl) :
    PE X (.Call (.Attribute o (G.nm m) apos) (e :: es) [] pos) (rdEX G n0 E (eMeth cf np m tb (nxE fo) (nxA fa))) := by
  refine peI (pe_methX (pl := pl) (E := E) (toV ho) (T.room.mono (Nat.le_succ k)) hx ha hst hpl ht) fun σ H Q ⟨F, r, env, S, g, s, h⟩ => ?_
  refine stVX s h fun p S1 F1 r1 H1 u x1 s1 q1 h1 => ?_
  unfold methOf at h1
  cases ed : deref S1 p.2 with
  | none => rw [ed] at h1; exact h1.elim
  | some o =>
    rw [ed] at h1
    cases o with
    | ins c ns vs =>
      simp only at h1
      cases hn : ns.contains m with
      | true => rw [hn] at h1; exact h1.elim
      | false =>
        rw [hn] at h1
        simp only [Bool.false_eq_true, if_false] at h1
        cases el : tb.lookup c with
        | none => rw [el] at h1; exact h1.elim
        | some f =>
          rw [el] at h1
          obtain ⟨a, dx, us, rfl, k1, k2, k3⟩ := view_ins s1.hr q1 ed
          obtain ⟨h2, h3⟩ := hc (c, f) (look_mem el)
          refine ⟨a, G.ca c, dx, _, G.fa f, _, rfl, k1, T.hK ▸ h2, T.hK ▸ h3, fld_none hi hn, T.call f np, ?_⟩
          have h1 : PoEX G n0 (E σ) g F r env σ ((nxA fa env S1).bind fun args S1 => if args.length + 1 = np then (cutX S1.length (cf f (p.2 :: args) S1.length S1)).bind fun v S2 => norm S1.length v S2 else .no) Q := h1
          have h1 := h1.ext x1
          refine stAX s1 h1 fun q S2 F2 r2 H2 ws x2 s2 q2 h4 => ?_
          split at h4
          · rename_i hl
            exact run_callX s2 x2 (show RVs G F2 r2 (p.2 :: q) _ from ⟨_, ws, rfl, q1.ext x2, q2⟩) hl h4
          · exact h4.elim
    | _ => exact h1.elim
def RS.nox : RS → RS
  | .ex _ _ _ => .no
  | z => z
theorem PoS.nox {E' : XK} {g : Gh} {F : Hp} {r : List Addr} {D : Ends} {z : RS} (h : PoS G n0 E g F r z.nox D) : PoS G n0 E' g F r z D := by
  cases z with
  | ex => exact h.elim
  | nx => exact h
  | bk => exact h
  | ct => exact h
  | rt => exact h
  | no => exact h
end
end PX
set_option Elab.async false
set_option linter.all false
set_option maxRecDepth 100000
set_option maxHeartbeats 4000000
namespace XN
open PySem PySem.Spec PySem.Calls PyProof.Rows PySem.W Builtin Builtin.ObjectAttr Builtin.Getset_descriptor
structure InstN (h : Heap) (x : Addr) (ox : Obj) (C : Addr) : Prop where
  at_ : h.get? x = some ox
  cls : ox.cls = .ref C
theorem InstN.type {M : Model} {h : Heap} {x C : Addr} {ox : Obj} (I : InstN h x ox C) : Looks M h (typeOf (.ref x)) (.ref C) := I.cls ▸ (Looks.ld I.at_).andThen .now
end XN
set_option Elab.async false
set_option linter.all false
set_option maxRecDepth 100000
namespace PX
open PySem
def atomD : PV → Option PyData
  | .int i => some (.int i)
  | .bl b => some (.bool b)
  | _ => none
def atomsD : List PV → Option (List PyData)
  | [] => some []
  | x :: xs => match atomD x, atomsD xs with
    | some d, some ds => some (d :: ds)
    | _, _ => none
def elemD : PV → Option PyData
  | .tup xs => (atomsD xs).map .tuple
  | v => atomD v
def elemsD : List PV → Option (List PyData)
  | [] => some []
  | x :: xs => match elemD x, elemsD xs with
    | some d, some ds => some (d :: ds)
    | _, _ => none
def keyD : PV → Option PyData
  | .tup xs => match elemsD xs with
    | some (d :: ds) => some (.tuple (d :: ds))
    | _ => none
  | v => atomD v
def isTupD : PyData → Bool
  | .tuple _ => true
  | _ => false
def okK (ks : List PyData) : Bool := (ks.all fun a => ks.all fun b => PySem.W.alike a b) && ((ks.all isTupD) || ks.all fun d => !isTupD d)
end PX
set_option Elab.async false
set_option linter.all false
set_option maxRecDepth 100000
set_option maxHeartbeats 1000000
namespace PX
open PySem PySem.Spec PyProof.Rows L2
structure LamP (sc scope : Scope) (x : Str) : Prop where
  fun_ : scope.kind = .function ∧ scope.isCoroutine = false ∧ scope.isGenerator = false
  par : scope.names.lookup x = some .local
  names : ∀ y ∈ scope.names, y.2 ≠ .cell ∧ (y.2 = .local → y.1 = x) ∧ (y.2 = .free → sc.names.lookup y.1 = some .cell ∨ sc.names.lookup y.1 = some .free)
section
variable {X : Cx} {pins : List (Addr × Obj)} {σ : L2.St} {H : Hp} {s : Shared} {scope : Scope} {x : Str}
theorem LamP.has (L : LamP X.env.scope scope x) (ok : X.Ok) : ∀ y ∈ scope.names, y.2 = .free → ∃ c, X.env.cells.lookup y.1 = some c := fun y hy e =>
  ok.has _ ((L.names y hy).2.2 e)
end
end PX
set_option Elab.async false
set_option linter.all false
set_option maxRecDepth 100000
set_option maxHeartbeats 1000000
set_option Elab.async false
set_option linter.all false
set_option maxRecDepth 100000
set_option maxHeartbeats 2000000
namespace PX
open PySem PySem.Spec PyProof.Rows L2
section
variable {G : Gam} {n0 : Nat} {g : Gh} {F : Hp} {r : List Addr} {S : Store} {H H1 : Hp} {env : Env} {σ : L2.St}
theorem not_tbl {o : HO} (h : isTl o = false) : ∀ ps, o ≠ .tbl ps := fun ps z => by
  rw [z] at h
  cases h
theorem HR.extN (h : HR G n0 g F r S H) (e : LamX.ExtN H H1) (ht : ∀ p ∈ G.tb, LamX.TabS H1 p.1 p.2) : HR G n0 g F r S H1 := by
  refine ⟨fun a o q => ?_, h.nd, h.off, h.len, h.nle, h.lle, fun i ob a q1 q2 => ?_, fun a o q => ?_, h.lckd, h.out, ⟨fun p hp => let t := h.tab.t p hp; ⟨ht p hp, t.f, t.nr, t.np⟩, h.tab.nf, h.tab.np⟩⟩
  · rcases h.sub a o q with z | ⟨z1, od, z2⟩
    · exact .inl (e _ _ z (not_tbl (tl_of (h.tab.nf a o q))))
    · exact .inr ⟨z1, od, e _ _ z2 nofun⟩
  · obtain ⟨ho, z1, z2⟩ := h.obj i ob a q1 q2
    refine ⟨ho, z1.heap fun o z => e _ _ z (not_tbl (tl_of (h.tb_of (List.mem_of_getElem? q2) z))), z2⟩
  · obtain ⟨z1, z2⟩ := h.pin a o q
    exact ⟨e _ _ z1 (not_tbl (tk_tl (h.tab.np a o q))), z2⟩
end
end PX
set_option Elab.async false
set_option linter.all false
set_option maxRecDepth 100000
namespace PX
open PySem PySem.Spec PyProof.Rows L2 He
section
variable {P : Program} {w : World} {K : PySem.W.Frag} {mg : Str → Option Value} {base : Heap} {G : Gam}
theorem def_okK (p0 : Defn) {T : Nat → Option FnB} {n f : Nat} {b : FnB} {x qual : Str} {params : Arguments} {body : List Stmt} {scope : Scope} {fd : FuncData} {N ps : List Str} (hT : T f = some b) (ha : G.fa f = fAd K p0) (F : FunD K x qual params body scope [] [] (G.fa f) fd) (S : FnScope N ps scope)
    (hn : b.nl = N.length) (hp : ps.length = b.np)
    (hb : Binds K fd ps []) (hbody : ∀ (cdv : Value) (A : Around) (outer : List PySem.Env) (s : Shared) (H : Hp) (E : XK) (n0 : Nat), cdv = .ref (cT K p0).1 → Room (4 * n + 3) (A.deeper (envOfC qual scope s.heap.objs.size (G.fa f) cdv)) → Takes (cxOf (L2.CX P w) P w K mg base N qual scope (G.fa f) cdv A outer s H E) (fun cls d _ H => E cls d H) →
      PSs (cxOf (L2.CX P w) P w K mg base N qual scope (G.fa f) cdv A outer s H E) body (rdS G n0 E (b.body (callF T n) n0))) : ∀ np, FnR P w K mg base (L2.CX P w) (4 * (n + 1)) (G.fa f) (spF G (callF T (n + 1)) f np) := by
  have ok : FnOk P w K mg base (L2.CX P w) (4 * (n + 1)) (G.fa f) fd ps (spF G (callF T (n + 1)) f b.np) := by
    obtain ⟨oc, od, dV, kV, doc, pm, an, cdv, ct, osl, rfl, lk, hcd, _, _⟩ := F.ex
    obtain ⟨c, hc⟩ := codeIn_ref hcd
    have e : cdv = .ref (cT K p0).1 := by
      rw [hc]
      have := codeOf_eq (p := p0) (c := c) (ha ▸ lk) hc
      show Value.ref c = .ref (codeOf K p0)
      rw [this]
    exact fn_of (k := 4 * n + 3) lk hcd S (fun vs H Q E h => by rw [spF_len vs H Q E h, hp]) fun A outer s H vs Q E hr h => by
      obtain ⟨n0, hb⟩ := body_ok hT hn h
      exact ⟨_, hbody cdv A outer s H E n0 e hr (takes_of rfl rfl rfl rfl), hb⟩
  intro np A outer s H us vs Q E hr he hv hs
  have e := spF_np hT hs
  subst e
  exact (ok.raw hb .nil) A outer s H us vs Q E hr he hv (by show spF G (callF T (n + 1)) f b.np (vs ++ []) H Q E; rw [List.append_nil]; exact hs)
end
abbrev AlQ : Type := AlD × Bool
def asS (g : Addr → Option Obj) (n : Nat) : List Addr := asD g n ++ [cStatics]
def obsQ (n : Nat) (fb : List Ck) (fn : List DefD) (tf : List Defn) (g : Addr → Option Obj) : AlQ :=
  (obsP fb fn (frT (noLst g) (asS g n)), tabsB g tf (frT (noLst g) (asS g n)) && decide ((tf.map fun p => (cT (frT (noLst g) (asS g n)) p).2).Nodup))
structure SaysQ (fb : List Ck) (fn : List DefD) (tf : List Defn) (h : Heap) (K : PySem.W.Frag) : Prop where
  p : SaysP fb fn K
  hd : ∀ p ∈ tf, PySem.W.codeHdIn K (cT K p).1 (cT K p).2 = true
  out : ∀ p ∈ tf, K.lookup (cT K p).2 = none
  empty : ∀ p ∈ tf, h.get? (cT K p).2 = some { cls := .none, data := .fields #[] }
  nd : (tf.map fun p => (cT K p).2).Nodup
theorem noLst_tab {g : Addr → Option Obj} {a : Addr} {o : Obj} (h : g a = some o) (ht : emptyTab o = true) : noLst g a = some o := by
  unfold noLst
  rw [h, emptyTab_eq ht]
theorem saysQ_of {n : Nat} {fb : List Ck} {fn : List DefD} {tf : List Defn} {h : Heap} (e : obsQ n fb fn tf h.get? = (valD fn, true)) : SaysQ fb fn tf h (frT (noLst h.get?) (asS h.get? n)) := by
  have e1 : obsP fb fn (frT (noLst h.get?) (asS h.get? n)) = valD fn := congrArg (fun z : AlQ => z.1) e
  have e2 : (tabsB h.get? tf (frT (noLst h.get?) (asS h.get? n)) && decide ((tf.map fun p => (cT (frT (noLst h.get?) (asS h.get? n)) p).2).Nodup)) = true := congrArg (fun z : AlQ => z.2) e
  obtain ⟨h2, h3⟩ := He.ba e2
  have key : ∀ p ∈ tf, PySem.W.codeHdIn (frT (noLst h.get?) (asS h.get? n)) (cT (frT (noLst h.get?) (asS h.get? n)) p).1 (cT (frT (noLst h.get?) (asS h.get? n)) p).2 = true ∧ ∃ o, h.get? (cT (frT (noLst h.get?) (asS h.get? n)) p).2 = some o ∧ emptyTab o = true := fun p hp => by
    obtain ⟨z1, z2⟩ := He.ba (List.all_eq_true.mp h2 p hp)
    refine ⟨z1, ?_⟩
    cases q : h.get? (cT (frT (noLst h.get?) (asS h.get? n)) p).2 with
    | none => rw [q] at z2; cases z2
    | some o => rw [q] at z2; exact ⟨o, rfl, z2⟩
  refine ⟨⟨e1, fun a o q => (noLst_at (frT_mem q).1).2⟩, fun p hp => (key p hp).1, fun p hp => ?_, fun p hp => ?_, of_decide_eq_true h3⟩
  · obtain ⟨_, o, q, z⟩ := key p hp
    exact frT_none (g := noLst h.get?) (o := o) (noLst_tab q z) z
  · obtain ⟨_, o, q, z⟩ := key p hp
    rw [q, emptyTab_eq z]
def hookQ (n : Nat) (fb : List Ck) (fn : List DefD) (tf : List Defn) : PySem.W.Hook where
  α := AlQ
  obs := fun s => obsQ n fb fn tf s.heap.get?
  val := fun _ => (valD fn, true)
  says := fun _ h => ∃ K : PySem.W.Frag, K.In h ∧ SaysQ fb fn tf h K
  of := fun _ _ e => ⟨_, fun _ _ q => (noLst_at (frT_mem q).1).1, saysQ_of e⟩
  keeps := fun _ _ _ ⟨K, hK, c⟩ k => ⟨K, PySem.W.Frag.In.keeps hK k, ⟨c.p, c.hd, c.out, fun p hp => k _ _ (c.empty p hp), c.nd⟩⟩
theorem obsQ_eq {n : Nat} {fb : List Ck} {fn : List DefD} {tf : List Defn} {g : Addr → Option Obj} {s : Shared} (h : ∀ a, g a = s.heap.get? a) : obsQ n fb fn tf g = (hookQ n fb fn tf).obs s := by
  have e : g = s.heap.get? := funext h
  rw [e] <;> rfl
def lamQ (qual : Str) : Str := (qual ++ ".<locals>.") ++ "<lambda>"
def tbs (tf : List (Defn × Str)) (K : PySem.W.Frag) : List (Addr × Str) := tf.map fun p => ((cT K p.1).2, lamQ p.2)
theorem tbs_uniq {tf : List (Defn × Str)} {K : PySem.W.Frag} (nd : ((tf.map Prod.fst).map fun p => (cT K p).2).Nodup) {P : Addr} {q : Str} (h : (P, q) ∈ tbs tf K) : ∀ p ∈ tbs tf K, p.1 = P → p.2 = q := by
  induction tf with
  | nil => cases h
  | cons x tf ih =>
    rw [List.map_cons, List.map_cons, List.nodup_cons] at nd
    intro p hp e
    have nope : ∀ {z : Addr × Str}, z ∈ tbs tf K → z.1 ≠ (cT K x.1).2 := fun {z} hz q => nd.1 (by
      obtain ⟨y, hy, rfl⟩ := List.mem_map.mp hz
      rw [← q]
      exact List.mem_map.mpr ⟨y.1, List.mem_map.mpr ⟨y, hy, rfl⟩, rfl⟩)
    rcases List.mem_cons.mp h with h | h
    · injection h with h1 h2
      rcases List.mem_cons.mp hp with hp | hp
      · rw [hp, h2]
      · exact absurd (e.trans h1) (nope hp)
    · rcases List.mem_cons.mp hp with hp | hp
      · exact absurd (by rw [← e, hp]) (nope h)
      · exact ih nd.2 h p hp e
end PX
set_option Elab.async false
set_option linter.all false
set_option maxRecDepth 100000
set_option maxHeartbeats 1000000
namespace PX
open PySem PySem.Spec PyProof.Rows L2
def Kp (H H' : Hp) : Prop := ∀ a o, H a = some o → H' a = some o
theorem Kp.refl (H : Hp) : Kp H H := fun _ _ e => e
theorem Kp.trans {H H1 H2 : Hp} (h : Kp H H1) (k : Kp H1 H2) : Kp H H2 := fun a o e => k a o (h a o e)
theorem Kp.upd {H : Hp} {p : Addr} {o : HO} (h : H p = none) : Kp H (L2.upd H p o) := fun a x e => by rw [upd_ne (ne_of_none e h)]; exact e
def eWord (b : SE) (wt : Nat → Option Str) (fine : Str) : SE := fun env S => match b env S with
  | .ok _ S1 => .ok (false, .str fine) S1
  | .ex c _ S1 => match wt c with
    | some w => .ok (false, .str w) S1
    | none => .no
  | .no => .no
def TTw (G : Gam) (wt : Nat → Option Str) (fine : Str) : (XK → Hp → VK → Prop) → Hp → VK → Prop := fun tl H Q =>
  tl (fun cls d H' => ∃ c w, cls = .ref (G.ca c) ∧ wt c = some w ∧ ∀ H'', Kp H' H'' → Q (.str w) H'') H (fun _ H' => Q (.str fine) H')
section
variable {X : Cx} {G : Gam} {n0 : Nat}
theorem lam_tb {cf : CF} {k : Nat} {A : Around} {outer : List PySem.Env} {s : Shared} {H : Hp} {E : XK} {scope : Scope} {f c' : Addr} (T : Tb X G cf k) (hr : Room (k + 1) (A.deeper (LamX.lamEnv X scope s.heap.objs.size f c'))) : Tb (LamX.lamCx X A outer s H E scope f c') G cf k :=
  ⟨T.hK, T.call, hr, rfl⟩
theorem lam_px {A : Around} {outer : List PySem.Env} {s : Shared} {H : Hp} {E : XK} {scope : Scope} {f c' : Addr} : ∀ σ, PassesAt (L2.CX (LamX.lamCx X A outer s H E scope f c').prog (LamX.lamCx X A outer s H E scope f c').w) (LamX.lamCx X A outer s H E scope f c') σ E := fun σ =>
  passAt (takes_of (X := LamX.lamCx X A outer s H E scope f c') rfl rfl rfl rfl) σ
end
open He
structure WdOk (G : Gam) (b c : Nat) (ks : List (Nat × Bool)) : Prop where
  exc : ExcC G.K (G.ca c)
  exm : PySem.W.exmOne G.K (.ref (G.ca c)) (.ref (G.ca b)) = some true
  kit : ∀ q ∈ ks, PySem.W.kitOne G.K (.ref (G.ca c)) (.ref (G.ca q.1)) = some q.2
end PX
set_option Elab.async false
set_option linter.all false
set_option maxRecDepth 100000
set_option maxHeartbeats 1000000
namespace PX
open PySem PySem.Spec PyProof.Rows L2 He
abbrev Ih (P : Program) (w : World) (K : PySem.W.Frag) (mg : Str → Option Value) (base : Heap) (G : Gam) (n : Nat) (cf : CF) : Prop := ∀ f np, FnR P w K mg base (L2.CX P w) (4 * n) (G.fa f) (spF G cf f np)
abbrev Dv (P : Program) (w : World) (K : PySem.W.Frag) (mg : Str → Option Value) (base : Heap) (G : Gam) (N : List Str) (qual : Str) (pl : Stmt) (f : Addr) (n : Nat) (ev : Nat → SS) : Prop :=
  ∀ (cdv : Value) (A : Around) (outer : List PySem.Env) (s : Shared) (H : Hp) (E : XK) (n0 : Nat), Room (4 * n + 3) (A.deeper (envOfC qual (defScope pl) s.heap.objs.size f cdv)) → Takes (cxOf (L2.CX P w) P w K mg base N qual (defScope pl) f cdv A outer s H E) (fun cls d _ H => E cls d H) →
    PSs (cxOf (L2.CX P w) P w K mg base N qual (defScope pl) f cdv A outer s H E) (defBody pl) (rdS G n0 E (ev n0))
abbrev DvK (cv : Value) (P : Program) (w : World) (K : PySem.W.Frag) (mg : Str → Option Value) (base : Heap) (G : Gam) (N : List Str) (qual : Str) (pl : Stmt) (f : Addr) (n : Nat) (ev : Nat → SS) : Prop :=
  ∀ (cdv : Value) (A : Around) (outer : List PySem.Env) (s : Shared) (H : Hp) (E : XK) (n0 : Nat), cdv = cv → Room (4 * n + 3) (A.deeper (envOfC qual (defScope pl) s.heap.objs.size f cdv)) → Takes (cxOf (L2.CX P w) P w K mg base N qual (defScope pl) f cdv A outer s H E) (fun cls d _ H => E cls d H) →
    PSs (cxOf (L2.CX P w) P w K mg base N qual (defScope pl) f cdv A outer s H E) (defBody pl) (rdS G n0 E (ev n0))
theorem dvT {X : Cx} {W : WX} {G : Gam} {cf : CF} {n : Nat} (tk : Takes X W) (hK : G.K = X.K) (ih : ∀ f np, FnR X.prog X.w X.K X.mg X.base (L2.CX X.prog X.w) (4 * n) (G.fa f) (spF G cf f np)) (hr : Room (4 * n + 3) X.A) (hc : X.calm = true) : Tb X G cf (4 * n) := ⟨hK, ih, hr.mono (by omega), hc⟩
theorem dvP {X : Cx} {W : WX} {Kx E₁ : Value → Shared → Prop} (tk : Takes X W) (hx : X.xe = fun e s' => wpAny (model X.prog X.w) X.A (leaving X.env e) (fun _ s'' => Kx e s'') E₁ s') : PassesOwn (model X.prog X.w) X.A X.env X.xe := passes_of hx
theorem mkSc {N P : List Str} {sc : Scope} (h : (decide (sc.kind = .function) && (!sc.isCoroutine && (!sc.isGenerator && (decide N.Nodup && (decide (N.take P.length = P) && ((P.all fun x => decide (sc.names.lookup x = some .local ∨ sc.names.lookup x = some .cell)) && sc.names.all fun y => decide (y.2 ≠ .free))))))) = true) : FnScope N P sc := by
  simp only [Bool.and_eq_true, decide_eq_true_eq, Bool.not_eq_true', List.all_eq_true] at h
  obtain ⟨h1, h2, h3, h4, h5, h6, h7⟩ := h
  exact ⟨h1, h2, h3, h4, h5, h6, h7⟩
end PX
set_option Elab.async false
set_option linter.all false
set_option maxRecDepth 100000
set_option maxHeartbeats 1000000
set_option Elab.async false
set_option linter.all false
set_option maxRecDepth 100000
set_option maxHeartbeats 4000000
set_option Elab.async false
set_option linter.all false
set_option maxRecDepth 100000
set_option maxHeartbeats 4000000
set_option Elab.async false
set_option linter.all false
set_option maxRecDepth 100000
set_option maxHeartbeats 4000000
set_option Elab.async false
set_option linter.all false
set_option maxRecDepth 100000
set_option maxHeartbeats 4000000
namespace PX
open PySem PySem.Spec PyProof.Rows L2
def kP : Key → PV
  | .inl i => .int i
  | .inr x => .str x
def bListK : OpN := fun xs S => match bList xs S with
  | some z => some z
  | none => match xs with
    | [v] => match deref S v with
      | some (.dct (.k ks) _) => some (true, .lst (ks.map kP))
      | _ => none
    | _ => none
def rListK (K : PySem.W.Frag) : List V → Hp → VK → Prop := fun xs H Q => (∃ p ys, xs = [.ref p] ∧ (SqL K H p ys ∨ SqT K H p ys) ∧ ∀ l, H l = none → Q (.ref l) (upd H l (.lst ys))) ∨
  ∃ (a : Addr) (kvs : List (Key × V)), xs = [.ref a] ∧ Rd H a (.dK kvs) ∧ ∀ p, H p = none → Q (.ref p) (upd H p (.lst (kvs.map fun kv => kV kv.1)))
section
variable {G : Gam} {X : Cx}
theorem cr_listK (hc : X.calm = true) : CallR X (.type "list") (rListK X.K) := by
  intro pins s σ H xs us Q I r h
  rcases h with h | h
  · exact call_list_of pins s σ H xs us Q I r h
  · exact call_listD hc pins s σ H xs us Q I r h
theorem rvs_keys {F : Hp} {r : List Addr} : ∀ ks : List Key, RVs G F r (ks.map kP) (ks.map kV)
  | [] => rfl
  | .inl i :: ks => ⟨_, _, rfl, rfl, rvs_keys ks⟩
  | .inr x :: ks => ⟨_, _, rfl, rfl, rvs_keys ks⟩
theorem ok_listK : OkN G bListK (rListK G.K) := fun n0 g F r S H xs us z Q h q e k => by
  unfold bListK at e
  cases e0 : bList xs S with
  | some z' => rw [e0] at e; cases e; exact .inl (ok_list n0 g F r S H xs us z Q h q e0 k)
  | none =>
    simp only [e0] at e
    split at e
    · rename_i v
      obtain ⟨u, ur, rfl, q1, q2⟩ := q
      have q2 : ur = [] := q2
      subst q2
      split at e
      · rename_i ks ws ed
        cases e
        obtain ⟨a, ho, us, rfl, k1, k2, k3⟩ := view_dct h q1 ed
        obtain ⟨rfl, hl⟩ := k2
        refine .inr ⟨a, _, rfl, k1, fun p hp => ?_⟩
        have em : (ks.zip us).map (fun kv => kV kv.1) = ks.map kV := by
          rw [show (fun kv : Key × V => kV kv.1) = kV ∘ Prod.fst from rfl, ← List.map_map, List.map_fst_zip (Nat.le_of_eq hl)]
        rw [em]
        obtain ⟨h2, k4⟩ := new_obj h hp (v := .lst (ks.map kP)) ⟨ks.map kV, rfl, rvs_keys ks⟩ rfl
        exact k F r _ _ (.refl _ _) h2 k4
      · cases e
    · cases e
end
end PX
set_option Elab.async false
set_option linter.all false
set_option maxRecDepth 100000
set_option maxHeartbeats 1000000
namespace PX
open PySem PySem.Spec PyProof.Rows L2 LamX
structure LamQ (N : List Str) (sc scope : Scope) (x : Str) : Prop where
  kind : scope.kind = .function
  co : scope.isCoroutine = false
  gen : scope.isGenerator = false
  own : ∀ y ∈ scope.names, (y.2 = .local → y.1 = x) ∧ y.2 ≠ .cell
  free : ∀ y ∈ scope.names, y.2 = .free → sc.names.lookup y.1 = some .cell ∨ sc.names.lookup y.1 = some .free
  new : x ∉ N
  par : scope.names.lookup x = some .local
theorem LamQ.has {X : Cx} {N : List Str} {scope : Scope} {x : Str} (L : LamQ N X.env.scope scope x) (ok : X.Ok) : ∀ y ∈ scope.names, y.2 = .free → ∃ c, X.env.cells.lookup y.1 = some c := fun y hy e => by
  rcases L.free y hy e with k | k
  · exact ok.has _ (.inl k)
  · exact ok.has _ (.inr k)
section
variable {X : Cx} {pins : List (Addr × Obj)} {σ : L2.St} {H HZ : Hp} {s s1 : Shared} {x : Str}
theorem lam_startQ {A : Around} {outer : List PySem.Env} {E : XK} {scope : Scope} {f c' : Addr} {h₁ : Heap} {tk : Nat} {m0 : Str → Option Value} (I : L2.Inv X pins σ H s) (L : LamQ X.N X.env.scope scope x) (e0 : Env0 X.prog X.w X.K X.mg X.base A outer s1 HZ) (hd : A.handled = none)
    (un : Un (frs X.stack) [] H HZ s.heap s1.heap) (hns : h₁.Ns s1.heap.objs.size m0) (kp : ∀ b o, s1.heap.get? b = some o → h₁.get? b = some o) :
    L2.Inv (LamX.lamCx X A outer s1 HZ E scope f c') [] σ HZ { s1 with heap := h₁, toks := tk } := by
  have hfree := L.has I.ok
  have cm : ∀ {y c}, (cloFrom X.env.cells scope.names []).lookup y = some c → X.env.cells.lookup y = some c := fun {y c} e => by
    rcases cloFrom_mem (PySem.mem_of_lookup e) with hm | ⟨h1, h2⟩
    · cases hm
    · obtain ⟨c1, hc⟩ := hfree _ h1 rfl
      have hc : X.env.cells.lookup y = some c1 := hc
      have e2 : c = c1 := by
        rw [h2, hc] <;> rfl
      rw [e2]
      exact hc
  have look : ∀ {y}, scope.names.lookup y = some .free → ∃ c, (cloFrom X.env.cells scope.names []).lookup y = some c := fun {y} hl => by
    have hy : (y, NameKind.free) ∈ scope.names := PySem.mem_of_lookup hl
    exact mem_lookup (cloFrom_has (cells := X.env.cells) (acc := []) hy)
  have cellK : ∀ {c : Addr} {v : Option Value}, H c = none → s.heap.IsCell c v → h₁.IsCell c v := fun {c v} n ⟨o, ho, hd⟩ => by
    obtain ⟨sl, q⟩ := un.any ho n (by simp)
    exact ⟨_, kp _ _ q, hd⟩
  have noA : ∀ b : Addr, b ∉ (LamX.lamCx X A outer s1 HZ E scope f c').ex := fun b z => absurd (show b ∈ ([] : List Addr) from z) (by simp)
  refine ⟨⟨e0.mod, L.kind, rfl, rfl, Nat.le_refl _, fun y z c e1 e2 => I.ok.inj y z c (cm e1) (cm e2), fun y hy => ?_, fun y c z _ => ?_, fun _ => hd, Around.frames_deeper e0.frames, .inr ⟨rfl, rfl⟩, fun b z => absurd z (noA b), e0.bs, e0.bsz, fun b _ _ => noA b,
      fun b z => absurd z (noA b), e0.funs, e0.frf⟩,
    rfl, e0.bare, Un.kept kp, ⟨_, hns, fun i y v e1 e2 e3 => ?_⟩, fun y c e => ?_, e0.hok.fresh (Nat.le_refl _), fun y c e => ?_, fun q hq => absurd (show q ∈ ([] : List (Addr × Obj)) ++ [] from hq) (by simp), e0.hok.kept kp, I.len⟩
  · have hy : scope.names.lookup y = some .cell ∨ scope.names.lookup y = some .free := hy
    rcases hy with hy | hy
    · exact absurd rfl (L.own _ (PySem.mem_of_lookup hy)).2
    · exact look hy
  · have z : false = true := z
    cases z
  · have e3 : Vis scope y := e3
    rcases e3 with k | k | k
    · have e1 : X.N[i]? = some y := e1
      have e4 : y = x := (L.own _ (PySem.mem_of_lookup k)).1 rfl
      rw [e4] at e1
      exact absurd (List.mem_of_getElem? e1) L.new
    · exact absurd rfl (L.own _ (PySem.mem_of_lookup k)).2
    · obtain ⟨m, hn, hl⟩ := I.loc
      have hvis : Vis X.env.scope y := (L.free _ (PySem.mem_of_lookup k) rfl).elim (fun k => .inr (.inl k)) (fun k => .inr (.inr k))
      obtain ⟨w', r, q⟩ := hl i y v e1 e2 hvis
      obtain ⟨c2, h2⟩ := look k
      refine ⟨w', r, .inr ⟨.inr k, c2, h2, ?_⟩⟩
      have c1 := cm h2
      rcases q with ⟨k', _⟩ | ⟨_, c3, e', z⟩
      · have k' : X.env.scope.names.lookup y = some .local := k'
        rcases L.free _ (PySem.mem_of_lookup k) rfl with k2 | k2 <;> rw [show X.env.scope.names.lookup y = _ from k2] at k' <;> cases k'
      · rw [c1] at e'
        cases e'
        exact cellK (I.freeC y _ c1) z
  · obtain ⟨w', z⟩ := I.cell y c (cm e)
    exact ⟨w', cellK (I.freeC y c (cm e)) z⟩
  · obtain ⟨v, o, ho, hd⟩ := I.cell y c (cm e)
    exact un.free c o ho (I.freeC y c (cm e)) (by simp)
theorem pe_actQ {CXg : CXT} {Eg : XK} {Ng : List Str} {qg : Str} {sg : Scope} {g f c' : Addr} {cdg pm ctv : Value} {params : Arguments} {body : Expr} {scope : Scope} {k i : Nat} {a : Str} {pn : List (Addr × Obj)} {xe : Value → Shared → Prop} {W : WX} {E : XK} {tb : TE} {p1 p2 p3 : Pos} {j : Int} {kk : Nat}
    (I : L2.Inv X pins σ H s) (L : LamQ X.N X.env.scope scope x) (hf : s.heap.get? f = some (PySem.W.kla_obj "<lambda>" (X.env.qual ++ "<lambda>") params body scope (cloFrom X.env.cells scope.names []) pm c' ctv)) (hfn : H f = none) (hfr : f ∉ frs X.stack)
    (hbind : ∀ u : Value, bindArgs (PySem.W.kla_fn "<lambda>" (X.env.qual ++ "<lambda>") params body scope (cloFrom X.env.cells scope.names []) pm (.ref c') ctv) ⟨[u], []⟩ = pure [(x, u)])
    (tk : Takes ((cxOf CXg X.prog X.w X.K X.mg X.base Ng qg sg g cdg X.A X.stack s H Eg).tr pn xe) W) (hW : ∀ cls d σ' H', E cls d H' → W cls d σ' H') (hr : Room (k + 1) (X.A.deeper (envOfC qg sg s.heap.objs.size g cdg)))
    (hbody : ∀ (A : Around) (outer : List PySem.Env) (s : Shared) (H : Hp), Room k (A.deeper (LamX.lamEnv X scope s.heap.objs.size f c')) → PE (LamX.lamCx X A outer s H E scope f c') body tb)
    (hN : Ng[i]? = some a) (hv : Vis sg a) (hd : (a == ("__debug__" : Str)) = false := by decide) (hcd : (a == ("__classdict__" : Str)) = false := by decide) :
    PE ((cxOf CXg X.prog X.w X.K X.mg X.base Ng qg sg g cdg X.A X.stack s H Eg).tr pn xe) (.Call (.Name a p1) [.Constant (.int j) kk p3] [] p2)
      (fun σZ HZ Q => σZ[i]? = some (some (.ref f)) ∧ HZ c' = some (CodeO c' (X.env.qual ++ "<lambda>")) ∧ tb σ HZ Q) := by
  refine ⟨fun pinsZ sZ σZ HZ Q IZ h => ?_⟩
  obtain ⟨hs, hc, ht⟩ := h
  refine wpAny_Call_Name_kw (thn ((pe_var (pos := p1) (i := i) hN hv hd hcd).run pinsZ sZ σZ HZ (fun v H1 => v = .ref f ∧ H1 = HZ) IZ ⟨.ref f, hs, rfl, rfl⟩) fun u s1 ⟨v, H1, I1, r1, q1⟩ => ?_)
  obtain ⟨ev, eH⟩ := q1
  subst ev
  rw [eH] at I1
  obtain rfl : u = Value.ref f := r1
  have of1 : s1.heap.get? f = some (PySem.W.kla_obj "<lambda>" (X.env.qual ++ "<lambda>") params body scope (cloFrom X.env.cells scope.names []) pm c' ctv) := I1.base.keep f _ hf hfn hfr (fun z => nomatch (show f ∈ ([] : List Addr) from z))
  have ha : PA ((cxOf CXg X.prog X.w X.K X.mg X.base Ng qg sg g cdg X.A X.stack s H Eg).tr pn xe) [.Constant (.int j) kk p3] (tCons (tC (.int j)) tNil) := pa_cons pe_int pa_nil
  refine PySem.W.callWith_F (first := []) ⟨_, _, _, _, of1⟩ (thn (ha.run p2 pinsZ s1 σZ HZ (fun vs H2 => vs = [V.int j] ∧ HZ = H2) I1 ⟨rfl, rfl⟩) fun us s2 ⟨vs, H2, I2, r2, ev2, eH2⟩ => ?_) rfl rfl
  subst ev2
  rw [← eH2] at I2
  have of2 : s2.heap.get? f = some (PySem.W.kla_obj "<lambda>" (X.env.qual ++ "<lambda>") params body scope (cloFrom X.env.cells scope.names []) pm c' ctv) := I2.base.keep f _ hf hfn hfr (fun z => nomatch (show f ∈ ([] : List Addr) from z))
  refine ⟨⟨_, _, _, _, of2⟩, ?_⟩
  obtain ⟨uj, rfl⟩ : ∃ uj, us = [uj] := by
    cases r2 with
    | cons ru rn =>
      cases rn
      exact ⟨_, rfl⟩
  have un : Un (frs X.stack) [] H HZ s.heap s2.heap := I2.base
  obtain ⟨⟨oc, vs, t, hoc, hdc, hvc⟩, _, _⟩ := I2.hok c' _ hc
  have rc : codeAny (model X.prog X.w) (X.A.deeper (envOfC qg sg s.heap.objs.size g cdg)) (.call (.ref f) ⟨[uj], []⟩) (CR (L2.CX X.prog X.w) (envOfC qg sg s.heap.objs.size g cdg :: X.stack) X.prog X.w HZ s2 Q E) s2 := by
    refine PySem.W.kla_callFunE hr.depth of2 rfl L.co L.gen rfl ⟨c', oc, vs, t, rfl, hoc, hdc, hvc⟩ ?_
    rw [hbind]
    refine wpAny_pure (wpAny_newFunctionEnv (fun y hy => (L.own y hy).2) (fun y hy => by rw [List.mem_singleton.mp hy]; exact L.par) (fun h₁ hns hsb => ⟨I2.nolimit.fresh _ hsb, ?_⟩) L.kind)
    show codeAny _ _ (.expr body (LamX.lamEnv X scope s2.heap.objs.size f c')) _ _
    have kp : ∀ b o, s2.heap.get? b = some o → h₁.get? b = some o := fun b o e => hsb.extBut b o (Nat.ne_of_lt (Heap.lt_size e)) (Heap.get?_push_of_some _ e)
    have J : L2.Inv (LamX.lamCx X (X.A.deeper (envOfC qg sg s.heap.objs.size g cdg)) (envOfC qg sg s.heap.objs.size g cdg :: X.stack) s2 HZ E scope f c') [] σ HZ { s2 with heap := h₁, toks := s2.toks + ([(x, uj)] : List (Str × Value)).length } :=
      lam_startQ I L I2.env0 hr.hd un hns kp
    refine PySem.W.kla_codeExpr (wpAny_mono ((hbody _ _ s2 HZ (hr.deeper _)).run [] _ _ HZ Q J ht) (fun v s' hq => ?_) fun e s' hq => hq)
    obtain ⟨w', H', J', rv, q⟩ := hq
    exact ⟨w', H', J'.os, J'.bare, J'.base, J'.hok, rv, q⟩
  have hx : Passes (L2.CX X.prog X.w) ((cxOf CXg X.prog X.w X.K X.mg X.base Ng qg sg g cdg X.A X.stack s H Eg).tr pn xe) E := passes_call tk hW
  refine wpAny_call (codeAny_mono rc fun r s' hq => ?_)
  cases r with
  | error e => exact hx pinsZ σZ HZ s2 e s' I2 hq
  | ok fl =>
    cases fl with
    | ret u => exact I2.after hq
    | next => exact False.elim hq
    | brk => exact False.elim hq
    | cont => exact False.elim hq
end
end PX
set_option Elab.async false
set_option linter.all false
set_option maxRecDepth 100000
set_option maxHeartbeats 1000000
namespace PX
open PySem PySem.Spec PyProof.Rows L2 LamX
def wordL (K : PySem.W.Frag) (cls : Value) : List (Value × Str) → Option Str
  | [] => none
  | (c, w) :: l => match PySem.W.exmOne K cls c with
    | some true => some w
    | some false => wordL K cls l
    | none => none
inductive HdsW (X : Cx) : List ExceptHandler → List (Value × Str) → Prop
  | nil : HdsW X [] []
  | cons {x : Str} {c : Value} {w : Str} {np p7 p8 pos' : Pos} {j : Nat} {hds : List ExceptHandler} {l : List (Value × Str)} (hc : Names X x c) (r : HdsW X hds l) :
      HdsW X (.ExceptHandler (some (.Name x np)) none [.Return (some (.Constant (.str w) j p7)) p8] pos' :: hds) ((c, w) :: l)
def tsW (l : List (Value × Str)) : List (Value × (Addr → Value → Option Addr → TS)) := l.map fun p => (p.1, fun _ _ _ D _ H => D.rt (.str p.2) H)
theorem hdsW_ok {X : Cx} : ∀ {hds : List ExceptHandler} {l : List (Value × Str)}, HdsW X hds l → HdsOk X hds (tsW l)
  | _, _, .nil => .nil
  | _, _, .cons hc r => .cons hc (fun a oe cls d pn _ _ => pss_one (ps_ret pe_str)) (hdsW_ok r)
theorem wMany_word {K : PySem.W.Frag} {Wout : WX} {D : Ends} {cls : Value} {d : Option Addr} {σ : L2.St} {H : Hp} {w : Str} (h : D.rt (.str w) H) : ∀ l : List (Value × Str), wordL K cls l = some w → wMany K Wout D (tsW l) cls d σ H
  | [], e => by cases e
  | (c, w') :: l, e => by
    unfold wordL at e
    split at e
    · rename_i e1
      cases e
      exact ⟨true, e1, fun _ a _ => h, fun z => by cases z⟩
    · rename_i e1
      exact ⟨false, e1, (fun z => by cases z), fun _ => wMany_word h l e⟩
    · cases e
def GivesQ (X : Cx) (Ng : List Str) (x : Str) (sg : Scope) (g : Addr) (cdg : Value) (bg : List Stmt) (a : Str) (j : Int) (q : Str) (TT : (XK → Hp → VK → Prop) → Hp → VK → Prop) : Prop :=
  ∀ (f c' : Addr) (s : Shared) (H : Hp) (Q : VK) (tl : XK → Hp → VK → Prop),
    (∀ (W : WX) (pn : List (Addr × Obj)) (xe : Value → Shared → Prop) (E : XK) (p1 p2 p3 : Pos) (kk : Nat), Takes ((cxOf C8.CX0 X.prog X.w X.K X.mg X.base Ng x sg g cdg X.A X.stack s H C8.E0).tr pn xe) W → (∀ cls d σ' H', E cls d H' → W cls d σ' H') →
      PE ((cxOf C8.CX0 X.prog X.w X.K X.mg X.base Ng x sg g cdg X.A X.stack s H C8.E0).tr pn xe) (.Call (.Name a p1) [.Constant (.int j) kk p3] [] p2) (fun σZ HZ Q => σZ[0]? = some (some (.ref f)) ∧ HZ c' = some (CodeO c' q) ∧ tl E HZ Q)) →
    H c' = some (CodeO c' q) → TT tl H Q →
    ∃ t, PSs (cxOf C8.CX0 X.prog X.w X.K X.mg X.base Ng x sg g cdg X.A X.stack s H C8.E0).nox bg t ∧ t { nx := fun _ H' => Q .non H', rt := Q } (L2.start Ng [.ref f]) H
section
variable {X : Cx} {G : Gam} {n0 : Nat}
theorem word_givesQ {Ng : List Str} {x a q fine : Str} {wt : Nat → Option Str} {sg : Scope} {g : Addr} {cdg : Value} {j : Int} {jf kk : Nat} {h₀ : ExceptHandler} {hds : List ExceptHandler} {l : List (Value × Str)} {p1 p2 p3 p4 p6 p7 p8 : Pos}
    (h0 : ∀ f : Addr, (L2.start Ng [V.ref f])[0]? = some (some (V.ref f))) (hex : ∀ c w, wt c = some w → wordL X.K (.ref (G.ca c)) l = some w)
    (hh : ∀ s H, HdsW (cxOf C8.CX0 X.prog X.w X.K X.mg X.base Ng x sg g cdg X.A X.stack s H C8.E0).nox (h₀ :: hds) l) :
    GivesQ X Ng x sg g cdg [.Try [.Expr (.Call (.Name a p1) [.Constant (.int j) kk p4] [] p2) p3, .Return (some (.Constant (.str fine) jf p7)) p8] (h₀ :: hds) [] [] p6] a j q (TTw G wt fine) := by
  intro f c' s H Q tl act hc h
  refine ⟨_, pss_one (ps_try_many (X := (cxOf C8.CX0 X.prog X.w X.K X.mg X.base Ng x sg g cdg X.A X.stack s H C8.E0).nox) (l := tsW l)
      (tb := fun W D σ H => ∃ Ech : XK, (∀ cls d σ' H', Ech cls d H' → W cls d σ' H') ∧ σ[0]? = some (some (.ref f)) ∧ H c' = some (LamX.CodeO c' q) ∧ tl Ech H fun _ H' => D.rt (.str fine) H')
      rfl rfl L2.takes0 (fun W pn xe tk _ => ?_) (hdsW_ok (hh s H))), ?_⟩
  · refine ⟨fun pins s' σ H' D I h' => ?_⟩
    obtain ⟨Ech, hW, h1, h2, h3⟩ := h'
    have hp := act W pn xe Ech p1 p2 p4 kk tk hW
    exact (pss_cons (ps_expr (pos := p3) hp) (pss_one (ps_ret (pos := p8) pe_str))).run pins s' σ H' D I ⟨h1, h2, h3⟩
  · refine ⟨_, fun cls d σ' H' hE => ?_, h0 f, hc, h⟩
    obtain ⟨c, w, rfl, hw, hq⟩ := hE
    exact wMany_word (hq H' (.refl H')) l (hex c w hw)
end
end PX
set_option Elab.async false
set_option linter.all false
set_option maxRecDepth 100000
set_option maxHeartbeats 1000000
namespace PX
open PySem PySem.Spec PyProof.Rows L2 LamX
section
variable {X : Cx}
theorem pe_lamcallQ {T : List (Addr × Str)} {TT : (XK → Hp → VK → Prop) → Hp → VK → Prop} {x a y : Str} {j : Int} {g c P : Addr} {k : Nat} {pg : Arguments} {bg : List Stmt} {sg : Scope} {dV kV doc pm cdv ct oc : Value} {an od : Option Addr} {osl : Array (Option Value)} {Ng : List Str}
    {params : Arguments} {body : Expr} {scope : Scope} {t : XK → TE} {p lpos pos : Pos} (hg : Gl X x) (hm : X.mg x = some (.ref g)) (hk : PySem.W.keepIn X.K (.ref g) = true)
    (lk : X.K.lookup g = some ⟨oc, od, .func (PySem.W.fnOf x x pg bg sg dV kV doc pm an cdv ct), osl⟩) (hcg : PySem.W.codeIn X.K cdv x = true) (hb : L2.Binds X.K (PySem.W.fnOf x x pg bg sg dV kV doc pm an cdv ct) [a] []) (Sg : FnScope Ng [a] sg) (hNg : Ng[0]? = some a) (hva : Vis sg a)
    (hG : GivesQ X Ng x sg g cdv bg a j (X.env.qual ++ "<lambda>") TT)
    (TB : TabB X.base X.mg c P) (hcode : X.env.code = .ref c) (hmT : (P, X.env.qual ++ "<lambda>") ∈ T) (hu : ∀ p ∈ T, p.1 = P → p.2 = X.env.qual ++ "<lambda>") (hr : Room (k + 2) X.A) (L : LamQ X.N X.env.scope scope y) (hdef : defaultsOf params X.env = ([], []))
    (hbind : ∀ (u : Value) (q : Str) (cl : List (Str × Addr)) (pm cv ctv : Value), bindArgs (PySem.W.kla_fn "<lambda>" q params body scope cl pm cv ctv) ⟨[u], []⟩ = pure [(y, u)])
    (hbody : ∀ (A : Around) (outer : List PySem.Env) (s : Shared) (H : Hp) (E : XK) (f c' : Addr), Room k (A.deeper (lamEnv X scope s.heap.objs.size f c')) → PE (lamCx X A outer s H E scope f c') body (t E))
    (hdb : (x == ("__debug__" : Str)) = false := by decide) (hd : (a == ("__debug__" : Str)) = false := by decide) (hcd : (a == ("__classdict__" : Str)) = false := by decide) :
    PE X (.Call (.Name x p) [.Lambda params body scope lpos] [] pos) (tLam T TT t) := by
  refine ⟨fun pins s σ H Q I h => ?_⟩
  obtain ⟨hT, h⟩ := h
  refine wpAny_Call_Name_kw (ld_glob I hg hm ?_ hdb)
  refine PySem.W.callWith_K (h₀ := X.base) I.ok.mod.kin hk ?_ (by rfl) (by rfl)
  show wpAny _ _ (spliced ((false, eval (.Lambda params body scope lpos) X.env) :: backTo pos (starEach [] X.env))) _ _ s
  refine Calls.spliced_cons (lam_make2 I TB hcode hmT hu hT hdef (L.has I.ok) fun f c' pm' ctv H1 s' I1 eN T1 hf hfn hfr hco => ?_)
  refine Calls.spliced_nil ⟨I1.kIn, ?_⟩
  have rc : codeAny (model X.prog X.w) X.A (.call (.ref g) ⟨[.ref f], []⟩) (CR C8.CX0 X.stack X.prog X.w H1 s' Q C8.E0) s' := by
    refine run_ofS (N := Ng) (ps := [a]) (us := [.ref f]) (vs := [.ref f]) lk hcg Sg hr I1.env0 (hb s' [.ref f] I1.kIn rfl) (.cons rfl .nil) rfl fun hr' => ?_
    obtain ⟨t', ht', hq'⟩ := hG f c' s' H1 Q (fun E H' Q' => t E σ H' Q') (fun W pn xe E p1 p2 p3 kk tk hW => pe_actQ (i := 0) I1 L hf hfn hfr (fun u => hbind u _ _ _ _ _) tk hW hr' (fun A outer s H hr2 => hbody A outer s H E f c' hr2) hNg hva hd hcd) hco (h H1 eN T1)
    exact ⟨t', ht'.nox, hq'⟩
  refine wpAny_call (codeAny_mono rc fun r s2 hq => ?_)
  cases r with
  | error e => exact (show False from hq).elim
  | ok fl =>
    cases fl with
    | ret u => exact I1.after hq
    | next => exact False.elim hq
    | brk => exact False.elim hq
    | cont => exact False.elim hq
end
section
variable {X : Cx} {G : Gam} {n0 : Nat}
theorem se_wordQ {b : SE} {wt : Nat → Option Str} {fine x a y : Str} {j : Int} {g c P : Addr} {k : Nat} {pg : Arguments} {bg : List Stmt} {sg : Scope} {dV kV doc pm cdv ct oc : Value} {an od : Option Addr} {osl : Array (Option Value)} {Ng : List Str}
    {params : Arguments} {body : Expr} {scope : Scope} {p lpos pos : Pos} (hg : Gl X x) (hm : X.mg x = some (.ref g)) (hk : PySem.W.keepIn X.K (.ref g) = true)
    (lk : X.K.lookup g = some ⟨oc, od, .func (PySem.W.fnOf x x pg bg sg dV kV doc pm an cdv ct), osl⟩) (hcg : PySem.W.codeIn X.K cdv x = true) (hb : L2.Binds X.K (PySem.W.fnOf x x pg bg sg dV kV doc pm an cdv ct) [a] []) (Sg : FnScope Ng [a] sg) (hNg : Ng[0]? = some a) (hva : Vis sg a)
    (hG : GivesQ X Ng x sg g cdv bg a j (X.env.qual ++ "<lambda>") (TTw G wt fine))
    (TB : LamX.TabB X.base X.mg c P) (hcode : X.env.code = .ref c) (hmT : (P, X.env.qual ++ "<lambda>") ∈ G.tb) (hu : ∀ p ∈ G.tb, p.1 = P → p.2 = X.env.qual ++ "<lambda>") (hr : Room (k + 1 + 2) X.A) (L : LamQ X.N X.env.scope scope y) (hdef : defaultsOf params X.env = ([], []))
    (hbind : ∀ (u : Value) (q : Str) (cl : List (Str × Addr)) (pm cv ctv : Value), bindArgs (PySem.W.kla_fn "<lambda>" q params body scope cl pm cv ctv) ⟨[u], []⟩ = pure [(y, u)])
    (hbody : ∀ (A : Around) (outer : List PySem.Env) (s : Shared) (H : Hp) (E : XK) (f c' : Addr), Room (k + 1) (A.deeper (LamX.lamEnv X scope s.heap.objs.size f c')) → PE (LamX.lamCx X A outer s H E scope f c') body (rdEX G n0 (fun _ => E) b))
    (hdb : (x == ("__debug__" : Str)) = false := by decide) (hd : (a == ("__debug__" : Str)) = false := by decide) (hcd : (a == ("__classdict__" : Str)) = false := by decide) :
    PE X (.Call (.Name x p) [.Lambda params body scope lpos] [] pos) (rdE G n0 (eWord b wt fine)) := by
  refine peI (pe_lamcallQ (T := G.tb) (TT := TTw G wt fine) (t := fun E => rdEX G n0 (fun _ => E) b) hg hm hk lk hcg hb Sg hNg hva hG TB hcode hmT hu hr L hdef hbind hbody hdb hd hcd) fun σ H Q ⟨F, r, env, S, g, s, h⟩ => ?_
  refine ⟨fun p hp => (s.hr.tab.t p hp).t, fun H1 eN T1 => ?_⟩
  have s1 : PX.Sg G n0 g F r env σ S H1 := ⟨s.hr.extN eN T1, s.sl, s.vr⟩
  refine ⟨F, r, env, S, g, s1, ?_⟩
  unfold eWord at h
  cases eb : b env S with
  | no => rw [eb] at h; exact h.elim
  | ok p S1 =>
    rw [eb] at h
    exact fun F' r' H' u x s' q => h F' r' H' _ x s' rfl
  | ex c p S1 =>
    rw [eb] at h
    intro F' r' H' x hr' d _
    have h : PoE G n0 g F r env σ (match wt c with
      | some w => .ok (false, .str w) S1
      | none => .no) Q := h
    cases ew : wt c with
    | none => rw [ew] at h; exact h.elim
    | some w =>
      rw [ew] at h
      exact ⟨c, w, rfl, ew, fun H2 k2 => h F' r' H2 _ x (s1.ext x (hr'.heap k2)) rfl⟩
end
end PX
set_option Elab.async false
set_option linter.all false
set_option maxRecDepth 100000
set_option maxHeartbeats 1000000
namespace PX
open PySem PySem.Spec PyProof.Rows L2 LamX
structure LRec where
  params : Arguments
  body : Expr
  scope : Scope
def LamO (f : Addr) (q : Str) (L : LRec) (cl : List (Str × Addr)) (c' : Addr) : HO := .ext fun h => ∃ pm ctv, h.get? f = some (PySem.W.kla_obj "<lambda>" q L.params L.body L.scope cl pm c' ctv)
theorem updN {H : Hp} {a b : Addr} {o : HO} (e : upd H a o b = none) : H b = none := by
  unfold upd at e
  split at e
  · cases e
  · exact e
theorem lamO_ne {f : Addr} {q : Str} {L : LRec} {cl : List (Str × Addr)} {c' : Addr} (ps : Array Value) : LamO f q L cl c' ≠ .tbl ps := fun z => by
  unfold LamO at z
  cases z
section
variable {X : Cx} {pins : List (Addr × Obj)} {σ : L2.St} {H : Hp} {s : Shared}
theorem inv_lam {q : Str} {L : LRec} {cl : List (Str × Addr)} {c' : Addr} {t' : Nat} {pm ctv : Value} (I : L2.Inv X pins σ H s) :
    L2.Inv X pins σ (upd H s.heap.objs.size (LamO s.heap.objs.size q L cl c')) { s with heap := s.heap.push (PySem.W.kla_obj "<lambda>" q L.params L.body L.scope cl pm c' ctv), toks := t' } := by
  refine I.laid (a := s.heap.objs.size) (fun b u e => Heap.get?_push_of_some _ e) (Nat.le_refl _) ?_
  have e : (s.heap.push (PySem.W.kla_obj "<lambda>" q L.params L.body L.scope cl pm c' ctv)).get? s.heap.objs.size = some (PySem.W.kla_obj "<lambda>" q L.params L.body L.scope cl pm c' ctv) := Heap.get?_push_size _ rfl
  exact ⟨⟨pm, ctv, e⟩, ⟨_, e⟩, fun h1 h2 ⟨p, t, z⟩ st => ⟨p, t, st _ z⟩⟩
theorem lam_make3 {T : List (Addr × Str)} {c P : Addr} {params : Arguments} {body : Expr} {scope : Scope} {pos : Pos} {E : Value → Shared → Prop} {Q : Value → Shared → Prop} (I : L2.Inv X pins σ H s) (TB : TabB X.base X.mg c P) (hcode : X.env.code = .ref c)
    (hm : (P, X.env.qual ++ "<lambda>") ∈ T) (hu : ∀ p ∈ T, p.1 = P → p.2 = X.env.qual ++ "<lambda>") (hT : Tabs T H) (hdef : defaultsOf params X.env = ([], [])) (hfree : ∀ y ∈ scope.names, y.2 = .free → ∃ c, X.env.cells.lookup y.1 = some c)
    (h : ∀ (f c' : Addr) (H1 : Hp) (s' : Shared), L2.Inv X pins σ H1 s' → ExtN H H1 → (∀ b, H1 b = none → H b = none) → Tabs T H1 → H f = none → H1 f = some (LamO f (X.env.qual ++ "<lambda>") ⟨params, body, scope⟩ (cloFrom X.env.cells scope.names []) c') → H1 c' = some (CodeO c' (X.env.qual ++ "<lambda>")) → Q (.ref f) s') :
    wpAny (model X.prog X.w) X.A (eval (.Lambda params body scope pos) X.env) Q E s := by
  obtain ⟨ps, hP, ht, ha⟩ := hT _ hm
  refine PySem.W.kla_eval hdef ?_
  have bP : s.heap.BuiltinsAt X.mg P := TB.bm.keeps I.bk
  have hP' : s.heap.get? P = some { cls := .none, data := .fields ps } := I.hok P _ hP
  have nofr : ∀ f, s.heap.objs.size ≤ f → f ∉ frs X.stack := fun f hf z => by
    rcases List.mem_cons.mp (I.stkSub _ z) with e | e
    · have h1 := I.lt
      rw [← e] at h1
      exact Nat.lt_irrefl _ (Nat.lt_of_lt_of_le h1 hf)
    · exact I.nofs hf e
  cases hc : codeAmong pos ps.toList with
  | none =>
    refine PySem.W.kla_makeFunction (mg := X.mg) (c := c) (P := P) (ps := ps) (closure_ok hfree) I.ok.glob (I.mod.glob.keeps I.bk) hcode (TB.code.keeps I.bk) hP' ht hc TB.gP bP fun c' ctv h' tk hx hge hlt hrec htb => ?_
    obtain ⟨c2, oc, vs, t, e2, hoc, hd, hv⟩ := hrec
    cases e2
    have hsz : s.heap.objs.size ≤ h'.objs.size := Nat.le_trans hge (Nat.le_of_lt hlt)
    have nC : H c' = none := I.hok.fresh hge
    have I1 := inv_table (t' := tk) (more := #[rawInt pos.line, rawInt pos.col, .ref c']) (h' := h') I hP (fun b o hb e => hx b o hb e) htb hge ⟨oc, vs, t, hoc, hd, hv⟩
    have hE : ExtN H (upd (upd H P (.tbl (ps ++ #[rawInt pos.line, rawInt pos.col, .ref c']))) c' (CodeO c' (X.env.qual ++ "<lambda>"))) := fun b o e n => by
      rw [upd_ne (ne_of_none e nC), upd_ne (fun z => n ps (Option.some.inj (e.symm.trans (by rw [z]; exact hP))))]
      exact e
    have eL : (ps ++ #[rawInt pos.line, rawInt pos.col, .ref c']).toList = ps.toList ++ [rawInt pos.line, rawInt pos.col, .ref c'] := by simp
    have T1 : Tabs T (upd (upd H P (.tbl (ps ++ #[rawInt pos.line, rawInt pos.col, .ref c']))) c' (CodeO c' (X.env.qual ++ "<lambda>"))) := fun p hp => by
      by_cases hb : p.1 = P
      · rw [hu p hp hb, hb]
        refine ⟨_, by rw [upd_ne (ne_of_none hP nC), upd_same], by rw [eL]; exact PySem.TriplesOk_snoc _ _ _ _ ht, fun p' cv hcv => ?_⟩
        rw [eL] at hcv
        rcases among_app _ ht hcv with z | z
        · obtain ⟨c0, e1, e2⟩ := ha p' cv z
          exact ⟨c0, e1, hE _ _ e2 codeO_ne⟩
        · exact ⟨c', z, upd_same⟩
      · obtain ⟨ps', a1, a2, a3⟩ := hT p hp
        refine ⟨ps', by rw [upd_ne (ne_of_none a1 nC), upd_ne hb]; exact a1, a2, fun p' cv hcv => ?_⟩
        obtain ⟨c0, e1, e2⟩ := a3 p' cv hcv
        exact ⟨c0, e1, hE _ _ e2 codeO_ne⟩
    have nF := I1.hok.fresh (Nat.le_refl _)
    have I2 := inv_lam (q := X.env.qual ++ "<lambda>") (L := ⟨params, body, scope⟩) (cl := cloFrom X.env.cells scope.names []) (c' := c') (t' := tk) (pm := (X.mg "__name__").getD .none) (ctv := ctv) I1
    refine h h'.objs.size c' _ _ I2 (fun b o e n => ?_) (fun b e => updN (updN (updN e))) (T1.ext fun b o e => ?_) (I.hok.fresh (Nat.le_trans hge (Nat.le_of_lt hlt))) upd_same ?_
    · have e1 := hE b o e n
      exact (upd_ne (ne_of_none e1 nF)).trans e1
    · exact (upd_ne (ne_of_none e nF)).trans e
    · exact (upd_ne (Nat.ne_of_lt hlt)).trans upd_same
  | some cv =>
    obtain ⟨c', e, hco⟩ := ha pos cv hc
    subst e
    refine PySem.W.kla_makeFunctionHit (mg := X.mg) (c := c) (P := P) (ps := ps) (closure_ok hfree) I.ok.glob (I.mod.glob.keeps I.bk) hcode (TB.code.keeps I.bk) hP' ht hc bP fun ctv h' tk hx hsz => ?_
    have I1 : L2.Inv X pins σ H { s with heap := h', toks := tk } := I.kept hx
    have nF : H h'.objs.size = none := I1.hok.fresh (Nat.le_refl _)
    have I2 := inv_lam (q := X.env.qual ++ "<lambda>") (L := ⟨params, body, scope⟩) (cl := cloFrom X.env.cells scope.names []) (c' := c') (t' := tk) (pm := (X.mg "__name__").getD .none) (ctv := ctv) I1
    refine h h'.objs.size c' _ _ I2 (fun b o e n => ?_) (fun b e => updN e) (hT.ext fun b o e => ?_) nF upd_same ?_
    · exact (upd_ne (ne_of_none e nF)).trans e
    · exact (upd_ne (ne_of_none e nF)).trans e
    · exact (upd_ne (ne_of_none hco nF)).trans hco
def tLamV (T : List (Addr × Str)) (q : Str) (L : LRec) (cl : List (Str × Addr)) : TE := fun σ H Q => Tabs T H ∧ ∀ (f c' : Addr) (H1 : Hp), ExtN H H1 → (∀ b, H1 b = none → H b = none) → Tabs T H1 → H f = none → H1 f = some (LamO f q L cl c') → H1 c' = some (CodeO c' q) → Q (.ref f) H1
theorem pe_lamV {T : List (Addr × Str)} {c P : Addr} {params : Arguments} {body : Expr} {scope : Scope} {pos : Pos} (TB : TabB X.base X.mg c P) (hcode : X.env.code = .ref c) (hm : (P, X.env.qual ++ "<lambda>") ∈ T) (hu : ∀ p ∈ T, p.1 = P → p.2 = X.env.qual ++ "<lambda>") (hdef : defaultsOf params X.env = ([], []))
    (hfree : X.Ok → ∀ y ∈ scope.names, y.2 = .free → ∃ c, X.env.cells.lookup y.1 = some c) : PE X (.Lambda params body scope pos) (tLamV T (X.env.qual ++ "<lambda>") ⟨params, body, scope⟩ (cloFrom X.env.cells scope.names [])) := by
  refine ⟨fun pins s σ H Q I ⟨hT, h⟩ => ?_⟩
  exact lam_make3 I TB hcode hm hu hT hdef (hfree I.ok) fun f c' H1 s' I1 e nn T1 n h1 h2 => ⟨.ref f, H1, I1, rfl, h f c' H1 e nn T1 n h1 h2⟩
end
end PX
set_option Elab.async false
set_option linter.all false
set_option maxRecDepth 100000
set_option maxHeartbeats 1000000
namespace PX
open PySem PySem.Spec PyProof.Rows L2 LamX
def Ths (q : Str) (cells : List (Str × Addr)) (H : Hp) : List Addr → List LRec → Prop
  | [], [] => True
  | f :: fs, L :: ls => (∃ c', H f = some (LamO f q L (cloFrom cells L.scope.names []) c') ∧ H c' = some (CodeO c' q)) ∧ Ths q cells H fs ls
  | _, _ => False
theorem Ths.ext {q : Str} {cells : List (Str × Addr)} {H H' : Hp} (e : ExtN H H') : ∀ {fs : List Addr} {ls : List LRec}, Ths q cells H fs ls → Ths q cells H' fs ls
  | [], [], _ => True.intro
  | _ :: _, _ :: _, ⟨⟨c', h1, h2⟩, r⟩ => ⟨⟨c', e _ _ h1 lamO_ne, e _ _ h2 codeO_ne⟩, r.ext e⟩
theorem Ths.len {q : Str} {cells : List (Str × Addr)} {H : Hp} : ∀ {fs : List Addr} {ls : List LRec}, Ths q cells H fs ls → fs.length = ls.length
  | [], [], _ => rfl
  | _ :: _, _ :: _, ⟨_, r⟩ => congrArg (· + 1) r.len
def tLams (T : List (Addr × Str)) (q : Str) (cells : List (Str × Addr)) (ls : List LRec) : TA := fun σ H Q => Tabs T H ∧ ∀ (fs : List Addr) (H1 : Hp), ExtN H H1 → (∀ b, H1 b = none → H b = none) → Tabs T H1 → Ths q cells H1 fs ls → (∀ f ∈ fs, H f = none) → Q (fs.map V.ref) H1
section
variable {X : Cx} {T : List (Addr × Str)} {q : Str}
theorem pl_nil : PA X [] (tLams T q X.env.cells []) := paI pa_nil fun σ H Q ⟨t, h⟩ => h [] H (.refl H) (fun _ e => e) t True.intro (fun f hf => by cases hf)
theorem pl_cons {e : Expr} {es : List Expr} {L : LRec} {ls : List LRec} (h1 : PE X e (tLamV T q L (cloFrom X.env.cells L.scope.names []))) (h2 : PA X es (tLams T q X.env.cells ls)) (hs : starEach (e :: es) X.env = (false, eval e X.env) :: starEach es X.env := by rfl) : PA X (e :: es) (tLams T q X.env.cells (L :: ls)) :=
  paI (pa_cons h1 h2 hs) fun σ H Q ⟨t, h⟩ => ⟨t, fun f c' H1 e1 n1 t1 n l1 l2 => ⟨t1, fun fs H2 e2 n2 t2 r nf => h (f :: fs) H2 (e1.trans e2) (fun b e => n1 b (n2 b e)) t2 ⟨⟨c', e2 _ _ l1 lamO_ne, e2 _ _ l2 codeO_ne⟩, r⟩ fun f' hf' => by
    rcases List.mem_cons.mp hf' with rfl | hf'
    · exact n
    · exact n1 _ (nf _ hf')⟩⟩
end
structure SgW (q : Str) (cells : List (Str × Addr)) (G : Gam) (n0 : Nat) (g : Gh) (F : Hp) (r : List Addr) (env : Env) (σ : L2.St) (S : Store) (H : Hp) (i : Nat) (ls : List LRec) : Prop where
  sg : Sg G n0 g F r env σ S H
  cal : ∃ D fs, σ[i]? = some (some (V.ref D)) ∧ H D = some (.lst (fs.map V.ref)) ∧ Ths q cells H fs ls ∧ ∀ a, a ∈ D :: fs → F a = none ∧ a ∉ r ∧ g.pn a = none
  emp : env[i]? = some none
def rdSW (q : Str) (cells : List (Str × Addr)) (G : Gam) (n0 : Nat) (E : XK) (i : Nat) (ls : List LRec) (k : SS) : TS := fun D σ H => ∃ F r env S g, SgW q cells G n0 g F r env σ S H i ls ∧ PoS G n0 E g F r (k env S) D
def sLams (i : Nat) (k : SS) : SS := fun env S => if i < env.length then k (env.set i none) S else .no
section
variable {X : Cx} {G : Gam} {n0 : Nat} {E : XK}
theorem Sg.clear {g : Gh} {F : Hp} {r : List Addr} {env : Env} {σ : L2.St} {S : Store} {H : Hp} {i : Nat} {v : V} (s : Sg G n0 g F r env σ S H) : Sg G n0 g F r (env.set i none) (σ.set i (some v)) S H := by
  refine ⟨s.hr, by rw [List.length_set, List.length_set]; exact s.sl, fun j w e => ?_⟩
  by_cases hij : j = i
  · subst hij
    by_cases hl : j < env.length
    · rw [List.getElem?_set_self hl] at e
      cases e
    · rw [List.getElem?_eq_none (by rw [List.length_set]; omega)] at e
      cases e
  · rw [List.getElem?_set_ne (Ne.symm hij)] at e
    rw [List.getElem?_set_ne (Ne.symm hij)]
    exact s.vr j w e
theorem ss_lams {i : Nat} {y q : Str} {py p pos : Pos} {es : List Expr} {rest : List Stmt} {ls : List LRec} {k : SS} (hg : PG X (.Name y py) (gName i)) (ha : PA X es (tLams G.tb q X.env.cells ls)) (hr : PSs X rest (rdSW q X.env.cells G n0 E i ls k)) (hl : ls.length ≤ sizeLine)
    (hs : swapsWithSole [.Name y py] (.List es p) pos.line X.env = pure false := by rfl) (hw : swappedStores [.Name y py] (.List es p) X.env = pure none := by rfl) (h1 : (assignEach [.Name y py] X.env).map (·.2) = [assign (.Name y py) X.env] := by rfl) :
    PSs X (.Assign [.Name y py] (.List es p) pos :: rest) (rdS G n0 E (sLams i k)) := by
  refine pssI (pss_cons (ps_asg (pe_lst ha) hg hs hw h1) hr) fun D σ H ⟨F, r, env, S, g, s, h⟩ => ?_
  unfold sLams at h
  by_cases hi : i < env.length
  · rw [if_pos hi] at h
    refine ⟨fun p hp => (s.hr.tab.t p hp).t, fun fs H1 eN nn T1 th nf => ⟨by rw [List.length_map, th.len]; exact hl, fun D hD => ?_⟩⟩
    have s1 : Sg G n0 g F r env σ S H1 := ⟨s.hr.extN eN T1, s.sl, s.vr⟩
    have k2 : ∀ a o, H1 a = some o → upd H1 D (.lst (fs.map V.ref)) a = some o := fun a o e => by rw [upd_ne (ne_of_none e hD)]; exact e
    have s2 : Sg G n0 g F r env σ S (upd H1 D (.lst (fs.map V.ref))) := ⟨s1.hr.heap k2, s1.sl, s1.vr⟩
    refine ⟨F, r, env.set i none, S, g, ⟨s2.clear, ⟨D, fs, List.getElem?_set_self (by rw [← s.sl]; exact hi), upd_same, th.ext (.of k2), fun a hm => ?_⟩, List.getElem?_set_self hi⟩, h⟩
    have ha : H a = none := by
      rcases List.mem_cons.mp hm with rfl | hm
      · exact nn _ hD
      · exact nf _ hm
    exact ⟨s.hr.noF ha, s.hr.nor ha, s.hr.nop ha⟩
  · rw [if_neg hi] at h
    exact h.elim
end
end PX
set_option Elab.async false
set_option linter.all false
set_option maxRecDepth 100000
set_option maxHeartbeats 1000000
namespace PX
open PySem PySem.Spec PyProof.Rows L2 LamX
section
variable {X : Cx} {pins : List (Addr × Obj)} {σ : L2.St} {H HZ : Hp} {s s1 : Shared} {x : Str}
theorem pe_actT {CXg : CXT} {Eg : XK} {Ng : List Str} {qg : Str} {sg : Scope} {g f c' : Addr} {cdg : Value} {L0 : LRec} {k i : Nat} {a : Str} {pn : List (Addr × Obj)} {xe : Value → Shared → Prop} {W : WX} {E : XK} {tb : TE} {p1 p2 p3 : Pos} {j : Int} {kk : Nat}
    (I : L2.Inv X pins σ H s) (L : LamQ X.N X.env.scope L0.scope x)
    (hbind : ∀ u pm ctv : Value, bindArgs (PySem.W.kla_fn "<lambda>" (X.env.qual ++ "<lambda>") L0.params L0.body L0.scope (cloFrom X.env.cells L0.scope.names []) pm (.ref c') ctv) ⟨[u], []⟩ = pure [(x, u)])
    (tk : Takes ((cxOf CXg X.prog X.w X.K X.mg X.base Ng qg sg g cdg X.A X.stack s H Eg).tr pn xe) W) (hW : ∀ cls d σ' H', E cls d H' → W cls d σ' H') (hr : Room (k + 1) (X.A.deeper (envOfC qg sg s.heap.objs.size g cdg)))
    (hbody : ∀ (A : Around) (outer : List PySem.Env) (s : Shared) (H : Hp), Room k (A.deeper (LamX.lamEnv X L0.scope s.heap.objs.size f c')) → PE (LamX.lamCx X A outer s H E L0.scope f c') L0.body tb)
    (hN : Ng[i]? = some a) (hv : Vis sg a) (hd : (a == ("__debug__" : Str)) = false := by decide) (hcd : (a == ("__classdict__" : Str)) = false := by decide) :
    PE ((cxOf CXg X.prog X.w X.K X.mg X.base Ng qg sg g cdg X.A X.stack s H Eg).tr pn xe) (.Call (.Name a p1) [.Constant (.int j) kk p3] [] p2)
      (fun σZ HZ Q => σZ[i]? = some (some (.ref f)) ∧ (HZ f = some (LamO f (X.env.qual ++ "<lambda>") L0 (cloFrom X.env.cells L0.scope.names []) c') ∧ HZ c' = some (CodeO c' (X.env.qual ++ "<lambda>"))) ∧ tb σ HZ Q) := by
  refine ⟨fun pinsZ sZ σZ HZ Q IZ h => ?_⟩
  obtain ⟨hs, ⟨hl, hc⟩, ht⟩ := h
  refine wpAny_Call_Name_kw (thn ((pe_var (pos := p1) (i := i) hN hv hd hcd).run pinsZ sZ σZ HZ (fun v H1 => v = .ref f ∧ H1 = HZ) IZ ⟨.ref f, hs, rfl, rfl⟩) fun u s1 ⟨v, H1, I1, r1, q1⟩ => ?_)
  obtain ⟨ev, eH⟩ := q1
  subst ev
  rw [eH] at I1
  obtain rfl : u = Value.ref f := r1
  obtain ⟨⟨pm1, ctv1, of1⟩, _, _⟩ := I1.hok f _ hl
  have ha : PA ((cxOf CXg X.prog X.w X.K X.mg X.base Ng qg sg g cdg X.A X.stack s H Eg).tr pn xe) [.Constant (.int j) kk p3] (tCons (tC (.int j)) tNil) := pa_cons pe_int pa_nil
  refine PySem.W.callWith_F (first := []) ⟨_, _, _, _, of1⟩ (thn (ha.run p2 pinsZ s1 σZ HZ (fun vs H2 => vs = [V.int j] ∧ HZ = H2) I1 ⟨rfl, rfl⟩) fun us s2 ⟨vs, H2, I2, r2, ev2, eH2⟩ => ?_) rfl rfl
  subst ev2
  rw [← eH2] at I2
  obtain ⟨⟨pm, ctv, of2⟩, _, _⟩ := I2.hok f _ hl
  refine ⟨⟨_, _, _, _, of2⟩, ?_⟩
  obtain ⟨uj, rfl⟩ : ∃ uj, us = [uj] := by
    cases r2 with
    | cons ru rn =>
      cases rn
      exact ⟨_, rfl⟩
  have un : Un (frs X.stack) [] H HZ s.heap s2.heap := I2.base
  obtain ⟨⟨oc, vs, t, hoc, hdc, hvc⟩, _, _⟩ := I2.hok c' _ hc
  have rc : codeAny (model X.prog X.w) (X.A.deeper (envOfC qg sg s.heap.objs.size g cdg)) (.call (.ref f) ⟨[uj], []⟩) (CR (L2.CX X.prog X.w) (envOfC qg sg s.heap.objs.size g cdg :: X.stack) X.prog X.w HZ s2 Q E) s2 := by
    refine PySem.W.kla_callFunE hr.depth of2 rfl L.co L.gen rfl ⟨c', oc, vs, t, rfl, hoc, hdc, hvc⟩ ?_
    rw [hbind]
    refine wpAny_pure (wpAny_newFunctionEnv (fun y hy => (L.own y hy).2) (fun y hy => by rw [List.mem_singleton.mp hy]; exact L.par) (fun h₁ hns hsb => ⟨I2.nolimit.fresh _ hsb, ?_⟩) L.kind)
    show codeAny _ _ (.expr L0.body (LamX.lamEnv X L0.scope s2.heap.objs.size f c')) _ _
    have kp : ∀ b o, s2.heap.get? b = some o → h₁.get? b = some o := fun b o e => hsb.extBut b o (Nat.ne_of_lt (Heap.lt_size e)) (Heap.get?_push_of_some _ e)
    have J : L2.Inv (LamX.lamCx X (X.A.deeper (envOfC qg sg s.heap.objs.size g cdg)) (envOfC qg sg s.heap.objs.size g cdg :: X.stack) s2 HZ E L0.scope f c') [] σ HZ { s2 with heap := h₁, toks := s2.toks + ([(x, uj)] : List (Str × Value)).length } :=
      lam_startQ I L I2.env0 hr.hd un hns kp
    refine PySem.W.kla_codeExpr (wpAny_mono ((hbody _ _ s2 HZ (hr.deeper _)).run [] _ _ HZ Q J ht) (fun v s' hq => ?_) fun e s' hq => hq)
    obtain ⟨w', H', J', rv, q⟩ := hq
    exact ⟨w', H', J'.os, J'.bare, J'.base, J'.hok, rv, q⟩
  have hx : Passes (L2.CX X.prog X.w) ((cxOf CXg X.prog X.w X.K X.mg X.base Ng qg sg g cdg X.A X.stack s H Eg).tr pn xe) E := passes_call tk hW
  refine wpAny_call (codeAny_mono rc fun r s' hq => ?_)
  cases r with
  | error e => exact hx pinsZ σZ HZ s2 e s' I2 hq
  | ok fl =>
    cases fl with
    | ret u => exact I2.after hq
    | next => exact False.elim hq
    | brk => exact False.elim hq
    | cont => exact False.elim hq
end
def GivesT (X : Cx) (Ng : List Str) (x : Str) (sg : Scope) (g : Addr) (cdg : Value) (bg : List Stmt) (a : Str) (j : Int) (TT : (XK → Hp → VK → Prop) → Hp → VK → Prop) : Prop :=
  ∀ (f : Addr) (Ko : Hp → Prop) (s : Shared) (H : Hp) (Q : VK) (tl : XK → Hp → VK → Prop),
    (∀ (W : WX) (pn : List (Addr × Obj)) (xe : Value → Shared → Prop) (E : XK) (p1 p2 p3 : Pos) (kk : Nat), Takes ((cxOf C8.CX0 X.prog X.w X.K X.mg X.base Ng x sg g cdg X.A X.stack s H C8.E0).tr pn xe) W → (∀ cls d σ' H', E cls d H' → W cls d σ' H') →
      PE ((cxOf C8.CX0 X.prog X.w X.K X.mg X.base Ng x sg g cdg X.A X.stack s H C8.E0).tr pn xe) (.Call (.Name a p1) [.Constant (.int j) kk p3] [] p2) (fun σZ HZ Q => σZ[0]? = some (some (.ref f)) ∧ Ko HZ ∧ tl E HZ Q)) →
    Ko H → TT tl H Q →
    ∃ t, PSs (cxOf C8.CX0 X.prog X.w X.K X.mg X.base Ng x sg g cdg X.A X.stack s H C8.E0).nox bg t ∧ t { nx := fun _ H' => Q .non H', rt := Q } (L2.start Ng [.ref f]) H
section
variable {X : Cx} {G : Gam} {n0 : Nat}
theorem word_givesT {Ng : List Str} {x a fine : Str} {wt : Nat → Option Str} {sg : Scope} {g : Addr} {cdg : Value} {j : Int} {jf kk : Nat} {h₀ : ExceptHandler} {hds : List ExceptHandler} {l : List (Value × Str)} {p1 p2 p3 p4 p6 p7 p8 : Pos}
    (h0 : ∀ f : Addr, (L2.start Ng [V.ref f])[0]? = some (some (V.ref f))) (hex : ∀ c w, wt c = some w → wordL X.K (.ref (G.ca c)) l = some w)
    (hh : ∀ s H, HdsW (cxOf C8.CX0 X.prog X.w X.K X.mg X.base Ng x sg g cdg X.A X.stack s H C8.E0).nox (h₀ :: hds) l) :
    GivesT X Ng x sg g cdg [.Try [.Expr (.Call (.Name a p1) [.Constant (.int j) kk p4] [] p2) p3, .Return (some (.Constant (.str fine) jf p7)) p8] (h₀ :: hds) [] [] p6] a j (TTw G wt fine) := by
  intro f Ko s H Q tl act hc h
  refine ⟨_, pss_one (ps_try_many (X := (cxOf C8.CX0 X.prog X.w X.K X.mg X.base Ng x sg g cdg X.A X.stack s H C8.E0).nox) (l := tsW l)
      (tb := fun W D σ H => ∃ Ech : XK, (∀ cls d σ' H', Ech cls d H' → W cls d σ' H') ∧ σ[0]? = some (some (.ref f)) ∧ Ko H ∧ tl Ech H fun _ H' => D.rt (.str fine) H')
      rfl rfl L2.takes0 (fun W pn xe tk _ => ?_) (hdsW_ok (hh s H))), ?_⟩
  · refine ⟨fun pins s' σ H' D I h' => ?_⟩
    obtain ⟨Ech, hW, h1, h2, h3⟩ := h'
    have hp := act W pn xe Ech p1 p2 p4 kk tk hW
    exact (pss_cons (ps_expr (pos := p3) hp) (pss_one (ps_ret (pos := p8) pe_str))).run pins s' σ H' D I ⟨h1, h2, h3⟩
  · refine ⟨_, fun cls d σ' H' hE => ?_, h0 f, hc, h⟩
    obtain ⟨c, w, rfl, hw, hq⟩ := hE
    exact wMany_word (hq H' (.refl H')) l (hex c w hw)
end
end PX
set_option Elab.async false
set_option linter.all false
set_option maxRecDepth 100000
set_option maxHeartbeats 1000000
namespace PX
open PySem PySem.Spec PyProof.Rows L2 LamX
section
variable {X : Cx}
theorem lc_coreW {pins : List (Addr × Obj)} {s : Shared} {σ : L2.St} {H : Hp} {Q : VK} {elt tg iter : Expr} {ifs : List Expr} {scope : Scope} {own : List (Str × Nat)} {pos pos' : Pos} {wi : TI} {g : TG} {tt : TT} {te : TE} {use : Option (Value → Sem Unit)} {Qf : Value → Shared → Prop}
    (hc : X.calm = true) (hN : X.N.Nodup) (I : L2.Inv X pins σ H s) (hi : PI X tg iter wi) (ok : BlkOk X.N X.env.scope scope own)
    (hg : ∀ (s : Shared) (H : Hp) (C : Addr) (cl : List (Str × Addr)) (fp : List Addr), PG (X.blk s H scope (compEnvC scope cl C X.env) fp) tg g) (ht : ∀ (s : Shared) (H : Hp) (C : Addr) (cl : List (Str × Addr)) (fp : List Addr), PTs (X.blk s H scope (compEnvC scope cl C X.env) fp) ifs tt)
    (he : ∀ (s : Shared) (H : Hp) (C : Addr) (cl : List (Str × Addr)) (fp : List Addr), L2.Inv X pins σ H s → (∀ b ∈ fp, FpOk X pins H b) → PE (X.blk s H scope (compEnvC scope cl C X.env) fp) elt te) (hs : ∀ x, foldedSetIterable iter X.env x = pure x)
    (h : tLc wi g tt te (own.map (·.2)) σ H Q)
    (hRR : ∀ D C s' m H', L2.Inv X pins σ H' s' → Q (.ref D) H' → s'.heap.Ns C m → FpOk X pins H' C → compPost (model X.prog X.w) X.A X.xe use Qf (.ref D) C (.ok .next) s') :
    wpAny (model X.prog X.w) X.A (comprehension (.ListComp elt [⟨tg, iter, ifs, 0⟩] scope pos) scope X.env pos' (newList []) false (eval iter X.env) use) Qf X.xe s := by
  have hfree : ∀ y ∈ scope.names, y.2 = .free → ∃ c, X.env.cells.lookup y.1 = some c := fun y hy e => by
    rcases ok.free y hy e with k | k
    · exact I.ok.has _ (.inl k)
    · exact I.ok.has _ (.inr k)
  refine wpAny_comprehension_free (use := use) rfl hs (closure_ok hfree) ok.kind (fun y hy e => by rw [ok.uniq y hy, e])
    (thn (hi.run pins s σ H _ I h) fun xv s1 hx => thn hx fun itv s2 h2 => ?_)
  obtain ⟨it, fp, tn, J, H2, e, I2, T, st2, f2, q⟩ := h2
  subst e
  refine wpAny_newObj_type (newEnv_comp ?_) (by show 0 ≤ sizeLine; decide)
  generalize hD : s2.heap.objs.size = D
  have hDn : H2 D = none := I2.hok.fresh (Nat.le_of_eq hD)
  obtain ⟨W, ⟨m0, w0⟩, turn⟩ := q D hDn
  -- the new list
  generalize hs3 : ({ s2 with heap := s2.heap.push { cls := .type "list", data := .seq ([] : List Value).toArray } } : Shared) = s3
  have I3 : L2.Inv X pins σ (upd H2 D (.lst [])) s3 := by
    rw [← hs3]
    refine I2.laid (t' := s2.toks) (fun b o e => Heap.get?_push_of_some _ e) (Nat.le_of_eq hD) ⟨Nat.zero_le _, [], 0, .nil, ?_⟩
    rw [← hD]
    exact Heap.get?_push_size _ rfl
  have h3 : s3.heap = s2.heap.push { cls := .type "list", data := .seq ([] : List Value).toArray } := by rw [← hs3]
  have sz : ∀ b ∈ fp, b < s2.heap.objs.size := fun b hb => by
    obtain ⟨o, e, _⟩ := T.obj _ _ st2 b hb
    exact Heap.lt_size e
  have f3 : ∀ b ∈ fp, FpOk X pins (upd H2 D (.lst [])) b ∧ b < s3.heap.objs.size := fun b hb => by
    have hlt := sz b hb
    refine ⟨⟨?_, (f2 b hb).2⟩, by rw [h3, Heap.size_push]; exact Nat.lt_succ_of_lt hlt⟩
    rw [upd_ne (by rw [← hD]; exact Nat.ne_of_lt hlt)]
    exact (f2 b hb).1
  have st3 : tn 0 s3.heap := T.keep _ _ _ st2 fun b _ o e => by rw [h3]; exact Heap.get?_push_of_some _ e
  have I4 := block_start I3 ok hN f3
  have pg := hg s3 (upd H2 D (.lst [])) s3.heap.objs.size (cellsFrom (s3.heap.objs.size + 1) scope.names (cloFrom X.env.cells scope.names [])) fp
  have pt := ht s3 (upd H2 D (.lst [])) s3.heap.objs.size (cellsFrom (s3.heap.objs.size + 1) scope.names (cloFrom X.env.cells scope.names [])) fp
  have pe := he s3 (upd H2 D (.lst [])) s3.heap.objs.size (cellsFrom (s3.heap.objs.size + 1) scope.names (cloFrom X.env.cells scope.names [])) fp I3 (fun b hb => (f3 b hb).1)
  show codeAny _ _ (.compStart (.ListComp elt [⟨tg, iter, ifs, 0⟩] scope pos) 0 (.ref it) (.ref D) (compEnvC scope (cellsFrom (s3.heap.objs.size + 1) scope.names (cloFrom X.env.cells scope.names [])) s3.heap.objs.size X.env)) (compPost (model X.prog X.w) X.A X.xe use Qf (.ref D) s3.heap.objs.size) { s3 with heap := pushCells (s3.heap.push { cls := .type "dict", data := .dict #[] }) scope.names }
  have nfp : ∀ b ∈ fp, (upd H2 D (.lst [])) b = none := fun b hb => (f3 b hb).1.1
  generalize hce : compEnvC scope (cellsFrom (s3.heap.objs.size + 1) scope.names (cloFrom X.env.cells scope.names [])) s3.heap.objs.size X.env = ce at I4 pg pt pe ⊢
  have cL : ce.locals = s3.heap.objs.size := by subst hce; rfl
  generalize hH3 : upd H2 D (.lst []) = H3 at I3 I4 pg pt pe w0 nfp f3
  generalize hs4 : ({ s3 with heap := pushCells (s3.heap.push { cls := .type "dict", data := .dict #[] }) scope.names } : Shared) = s4 at I4 ⊢
  have st4 : tn 0 s4.heap := T.keep _ _ _ st3 fun b _ o e => by rw [← hs4]; exact pushCells_keeps _ _ _ _ (Heap.get?_push_of_some _ e)
  have stat : ∀ {σ' : L2.St} {H' : Hp} {s' : Shared}, L2.Inv (X.blk s3 H3 scope ce fp) [] σ' H' s' → (∀ b ∈ fp, H' b = none) → ∀ b ∈ fp, FpOk (X.blk s3 H3 scope ce fp) [] H' b := fun {σ' H' s'} I' hn b hb =>
    ⟨hn b hb, (I'.ok.exf b hb).1, I'.ok.exfs b hb, .inl hb, fun x c e => (I'.ok.exf b hb).2 x c e, fun p hp => absurd (show p ∈ ([] : List (Addr × Obj)) ++ [] from hp) (by simp)⟩
  have loop : codeAny (model X.prog X.w) X.A (.compLoop (.ListComp elt [⟨tg, iter, ifs, 0⟩] scope pos) 0 (.ref it) (.ref D) ce) (compPost (model X.prog X.w) X.A X.xe use Qf (.ref D) s3.heap.objs.size) s4 := by
    refine compLoop_any (fun n s' => ∃ i H', L2.Inv (X.blk s3 H3 scope ce fp) [] (wipe σ (own.map (·.2))) H' s' ∧ tn i s'.heap ∧ (∀ b ∈ fp, H' b = none) ∧ W i n H') ?_ m0 ⟨0, H3, I4, st4, nfp, w0⟩
    rintro n s5 ⟨i, H5, I5, st5, n5, w5⟩
    rcases turn i n H5 w5 with ⟨stop, qq⟩ | ⟨go, Nx, hNx, step⟩
    · have td := T.done (X.blk s3 H3 scope ce fp) rfl rfl rfl hc i [] s5 _ H5 (fun _ _ => False) I5 (stat I5 n5) st5 stop
      refine thnF td fun r s6 ⟨hr, I6⟩ => ?_
      subst hr
      -- back in the def's context
      have I7 : L2.Inv X pins σ H5 s6 := I3.call' (ch := fp) I6.os I6.base I6.hok I6.bare fun b hb => ⟨(f3 b hb).1.2.2.2.1, (f3 b hb).1.2.1, (f3 b hb).1.2.2.2.2.1, (f3 b hb).1.2.2.2.2.2⟩
      have nC : H5 s3.heap.objs.size = none := by
        have z : H5 ce.locals = none := I6.free
        rw [cL] at z
        exact z
      obtain ⟨m, hn, _⟩ := I6.loc
      have hn : s6.heap.Ns ce.locals m := hn
      rw [cL] at hn
      exact hRR D s3.heap.objs.size s6 m H5 I7 qq hn (I3.fpOk (Nat.le_refl _) nC)
    · have ti := T.item (X.blk s3 H3 scope ce fp) rfl rfl rfl hc i [] s5 _ H5 (fun _ _ => False) I5 (stat I5 n5) st5 go
      refine thnF ti fun r s6 ⟨u, hr, h6⟩ => ?_
      subst hr
      refine thnF h6 fun _ s7 ⟨x, H7, I7, r7, y7, st7, n7⟩ => ?_
      have I7' := I7.pinned (stat I7 n7) (T.obj _ _ st7)
      refine thnF (pg.run _ s7 _ H7 x u _ I7' r7 (step x H7 y7)) fun _ s8 ⟨σ8, H8, I8, hw8, q8⟩ => ?_
      refine thnF (pt.run _ s8 σ8 H8 _ I8 q8) fun b s9 ⟨H9, I9, q9⟩ => ?_
      -- the turn's end
      have fin : ∀ {s' : Shared} {H' : Hp}, L2.Inv (X.blk s3 H3 scope ce fp) ([] ++ pinsAt fp s7.heap) σ8 H' s' → Nx H' → ∃ m, m < n ∧ ∃ i H', L2.Inv (X.blk s3 H3 scope ce fp) [] (wipe σ (own.map (·.2))) H' s' ∧ tn i s'.heap ∧ (∀ b ∈ fp, H' b = none) ∧ W i m H' := fun {s' H'} I' nx => by
        obtain ⟨m', hm, w'⟩ := hNx H' nx
        have pin' : ∀ b ∈ fp, ∀ o, s7.heap.get? b = some o → s'.heap.get? b = some o ∧ H' b = none := fun b hb o e =>
          let z := I'.pin (b, o) (List.mem_append_right _ (List.mem_append_right _ (mem_pinsAt hb e)))
          ⟨z.1, z.2.1⟩
        have hl : (wipe σ (own.map (·.2))).length = σ8.length := by rw [← hw8, wipe_length]
        refine ⟨m', hm, i + 1, H', (I'.unpinned (pins := [])).weak hl (fun j v e => ?_), T.keep _ _ _ st7 fun b hb o e => (pin' b hb o e).1, fun b hb => ?_, w'⟩
        · rw [← hw8] at e
          exact (wipe_some e).1
        · obtain ⟨o, e, _⟩ := T.obj _ _ st7 b hb
          exact (pin' b hb o e).2
      cases b with
      | false =>
        simp only [Bool.false_eq_true, if_false] at q9 ⊢
        exact fin I9 q9
      | true =>
        simp only [if_true] at q9 ⊢
        refine thnF (pe.run _ s9 σ8 H9 _ I9 q9) fun z s10 ⟨yv, H10, I10, r10, acc, hD10, hz10, nx⟩ => ?_
        exact app_ok (X := X.blk s3 H3 scope ce fp) I10 hD10 hz10 r10 fun s11 I11 => fin I11 nx
  exact codeAny_compStart_list loop (T.self X.A 0 _ _ _ st4 loop)
theorem pe_lcW {elt tg iter : Expr} {ifs : List Expr} {scope : Scope} {own : List (Str × Nat)} {pos : Pos} {wi : TI} {g : TG} {tt : TT} {te : L2.St → TE} (hc : X.calm = true) (hN : X.N.Nodup) (hi : PI X tg iter wi) (ok : BlkOk X.N X.env.scope scope own)
    (hg : ∀ (s : Shared) (H : Hp) (C : Addr) (cl : List (Str × Addr)) (fp : List Addr), PG (X.blk s H scope (compEnvC scope cl C X.env) fp) tg g) (ht : ∀ (s : Shared) (H : Hp) (C : Addr) (cl : List (Str × Addr)) (fp : List Addr), PTs (X.blk s H scope (compEnvC scope cl C X.env) fp) ifs tt)
    (he : ∀ (pins : List (Addr × Obj)) (σ : L2.St) (s : Shared) (H : Hp) (C : Addr) (cl : List (Str × Addr)) (fp : List Addr), L2.Inv X pins σ H s → (∀ b ∈ fp, FpOk X pins H b) → PE (X.blk s H scope (compEnvC scope cl C X.env) fp) elt (te σ)) (hs : ∀ x, foldedSetIterable iter X.env x = pure x := by intro _; rfl) :
    PE X (.ListComp elt [⟨tg, iter, ifs, 0⟩] scope pos) (fun σ H Q => tLc wi g tt (te σ) (own.map (·.2)) σ H Q) := by
  refine ⟨fun pins s σ H Q I h => ?_⟩
  rw [eval_ListComp]
  refine lc_coreW hc hN I hi ok hg ht (fun s H C cl fp I3 f3 => he pins σ s H C cl fp I3 f3) hs h fun D C s' m H' I' q hn f => ⟨m, hn, fun h'' sb => ?_⟩
  obtain ⟨f0, f1, f2, f3, f4, f5⟩ := f
  exact ⟨.ref D, H', I'.turned (t' := s'.toks) (fun b o hb e => (sb.2 b hb).trans e) f0 f1 f3 f4 f5, rfl, q⟩
end
structure LamSp (X : Cx) (L : LRec) (k : Nat) (y : Str) (t : XK → TE) : Prop where
  q : LamQ X.N X.env.scope L.scope y
  bind : ∀ (u : Value) (qn : Str) (cl : List (Str × Addr)) (pm cv ctv : Value), bindArgs (PySem.W.kla_fn "<lambda>" qn L.params L.body L.scope cl pm cv ctv) ⟨[u], []⟩ = pure [(y, u)]
  body : ∀ (A : Around) (outer : List PySem.Env) (s : Shared) (H : Hp) (E : XK) (f c' : Addr), Room k (A.deeper (LamX.lamEnv X L.scope s.heap.objs.size f c')) → PE (LamX.lamCx X A outer s H E L.scope f c') L.body (t E)
def tWordB (X : Cx) (q : Str) (k : Nat) (TT : (XK → Hp → VK → Prop) → Hp → VK → Prop) (ci : Nat) (σ : L2.St) : TE := fun σ' H Q => ∃ f L c' y t, σ'[ci]? = some (some (V.ref f)) ∧ H f = some (LamO f q L (cloFrom X.env.cells L.scope.names []) c') ∧ H c' = some (CodeO c' q) ∧ LamSp X L k y t ∧ TT (fun E H' Q' => t E σ H' Q') H Q
section
variable {X : Cx} {pins : List (Addr × Obj)} {σ : L2.St} {s3 : Shared} {H3 : Hp} {scope : Scope} {ce : PySem.Env} {fp : List Addr}
theorem pe_wordB {TT : (XK → Hp → VK → Prop) → Hp → VK → Prop} {x a c : Str} {g : Addr} {k ci : Nat} {j : Int} {pg : Arguments} {bg : List Stmt} {sg : Scope} {dV kV doc pm cdv ct oc : Value} {an od : Option Addr} {osl : Array (Option Value)} {Ng : List Str} {p pos p2 : Pos}
    (I3 : L2.Inv X pins σ H3 s3) (f3 : ∀ b ∈ fp, FpOk X pins H3 b) (hg : Gl (X.blk s3 H3 scope ce fp) x) (hm : X.mg x = some (.ref g)) (hk : PySem.W.keepIn X.K (.ref g) = true)
    (lk : X.K.lookup g = some ⟨oc, od, .func (PySem.W.fnOf x x pg bg sg dV kV doc pm an cdv ct), osl⟩) (hcg : PySem.W.codeIn X.K cdv x = true) (hb : L2.Binds X.K (PySem.W.fnOf x x pg bg sg dV kV doc pm an cdv ct) [a] []) (Sg : FnScope Ng [a] sg) (hNg : Ng[0]? = some a) (hva : Vis sg a)
    (hG : GivesT X Ng x sg g cdv bg a j TT) (hr : Room (k + 2) X.A) (hc : PE (X.blk s3 H3 scope ce fp) (.Name c p2) (tVar ci))
    (hs : starEach [.Name c p2] ce = (false, eval (.Name c p2) ce) :: starEach [] ce := by rfl)
    (hdb : (x == ("__debug__" : Str)) = false := by decide) (hd : (a == ("__debug__" : Str)) = false := by decide) (hcd : (a == ("__classdict__" : Str)) = false := by decide) :
    PE (X.blk s3 H3 scope ce fp) (.Call (.Name x p) [.Name c p2] [] pos) (tWordB X (X.env.qual ++ "<lambda>") k TT ci σ) := by
  refine ⟨fun pins' s σ' H Q I h => ?_⟩
  obtain ⟨f, L, c', y, t, hσ, hl, hco, sp, hT⟩ := h
  refine wpAny_Call_Name_kw (ld_glob I hg hm ?_ hdb)
  have ha : PA (X.blk s3 H3 scope ce fp) [.Name c p2] (tCons (tVar ci) tNil) := pa_cons hc pa_nil hs
  refine PySem.W.callWith_K (h₀ := X.base) I.ok.mod.kin hk (thn (ha.run pos pins' s σ' H (fun vs H2 => vs = [V.ref f] ∧ H = H2) I ⟨.ref f, hσ, rfl, rfl⟩) fun us s1 ⟨vs, H1, I1, r1, ev, eH⟩ => ?_) hs rfl
  subst ev
  rw [← eH] at I1
  refine ⟨I1.kIn, ?_⟩
  obtain rfl : us = [Value.ref f] := by
    cases r1 with
    | cons ru rn =>
      cases rn
      cases ru
      rfl
  have IX : L2.Inv X pins σ H s1 := I3.call' (ch := fp) I1.os I1.base I1.hok I1.bare fun b hb => ⟨(f3 b hb).2.2.2.1, (f3 b hb).2.1, (f3 b hb).2.2.2.2.1, (f3 b hb).2.2.2.2.2⟩
  have rc : codeAny (model X.prog X.w) X.A (.call (.ref g) ⟨[.ref f], []⟩) (CR C8.CX0 X.stack X.prog X.w H s1 Q C8.E0) s1 := by
    refine run_ofS (N := Ng) (ps := [a]) (us := [.ref f]) (vs := [.ref f]) lk hcg Sg hr IX.env0 (hb s1 [.ref f] IX.kIn rfl) (.cons rfl .nil) rfl fun hr' => ?_
    obtain ⟨t', ht', hq'⟩ := hG f (fun HZ => HZ f = some (LamO f (X.env.qual ++ "<lambda>") L (cloFrom X.env.cells L.scope.names []) c') ∧ HZ c' = some (CodeO c' (X.env.qual ++ "<lambda>"))) s1 H Q (fun E H' Q' => t E σ H' Q')
      (fun W pn xe E p1 p2 p3 kk tk hW => pe_actT (i := 0) (L0 := L) IX sp.q (fun u pm ctv => sp.bind u _ _ pm _ ctv) tk hW hr' (fun A outer s H hr2 => sp.body A outer s H E f c' hr2) hNg hva hd hcd) ⟨hl, hco⟩ hT
    exact ⟨t', ht'.nox, hq'⟩
  refine wpAny_call (codeAny_mono rc fun r s2 hq => ?_)
  cases r with
  | error e => exact (show False from hq).elim
  | ok fl =>
    cases fl with
    | ret u => exact I1.after hq
    | next => exact False.elim hq
    | brk => exact False.elim hq
    | cont => exact False.elim hq
end
end PX
set_option Elab.async false
set_option linter.all false
set_option maxRecDepth 100000
set_option maxHeartbeats 1000000
namespace PX
open PySem PySem.Spec PyProof.Rows L2 LamX
section
variable {G : Gam} {n0 : Nat} {g : Gh} {F : Hp} {r : List Addr} {S : Store} {H : Hp}
theorem not_r {a : Addr} {ho : HO} (h : HR G n0 g F r S H) (hH : H a = some ho) (hb : isTb ho = true) : a ∉ r := fun hm => by
  have := h.tb_of hm hH
  rw [hb] at this
  cases this
theorem HR.pinOld {a : Addr} {ho : HO} (h : HR G n0 g F r S H) (hH : H a = some ho) (hF : F a = none) (hr : a ∉ r) (hp : g.pn a = none) (hk : isTk ho = false) : HR G n0 (g.pin a ho) F r S H := by
  have hne : ∀ p ∈ G.tb, p.1 ≠ a := fun p hp z => by
    obtain ⟨ps, q1, _⟩ := (h.tab.t p hp).t
    rw [z, hH] at q1
    cases q1
    cases hk
  refine ⟨h.sub, h.nd, h.off, h.len, h.nle, h.lle, h.obj, fun b o e => ?_, fun i ob b e1 e2 => ?_, fun b o e el hb => ?_, ⟨fun p hp' => let t := h.tab.t p hp'; ⟨t.t, t.f, t.nr, by rw [pin_ne (hne p hp')]; exact t.np⟩, h.tab.nf, fun b o e => ?_⟩⟩
  · by_cases hb : b = a
    · subst hb
      rw [pin_at] at e
      cases e
      exact ⟨hH, .inl hF, fun i hi => absurd (List.mem_of_getElem? hi) hr⟩
    · rw [pin_ne hb] at e
      obtain ⟨q1, q2, q3⟩ := h.pin b o e
      exact ⟨q1, q2.imp (fun q => q) (fun q => ⟨q.1, by show (if b = a then false else g.lk b) = true; rw [if_neg hb]; exact q.2⟩), q3⟩
  · obtain ⟨o, q⟩ := h.lckd i ob b e1 e2
    have hb : b ≠ a := fun z => hr (by rw [← z]; exact List.mem_of_getElem? e2)
    exact ⟨o, by rw [pin_ne hb]; exact q⟩
  · by_cases q : b = a
    · exact hr (by rw [← q]; exact hb)
    · rw [pin_ne q] at e
      refine h.out b o e ?_ hb
      have el : (if b = a then false else g.lk b) = false := el
      rwa [if_neg q] at el
  · by_cases hb : b = a
    · subst hb
      rw [pin_at] at e
      cases e
      exact hk
    · rw [pin_ne hb] at e
      exact h.tab.np b o e
theorem pins_on : ∀ (l : List (Addr × HO)) {g : Gh}, HR G n0 g F r S H → (∀ p ∈ l, H p.1 = some p.2 ∧ F p.1 = none ∧ p.1 ∉ r ∧ isTk p.2 = false) →
    ∃ g', HR G n0 g' F r S H ∧ (∀ a o, g.pn a = some o → g'.pn a = some o) ∧ (∀ p ∈ l, g'.pn p.1 = some p.2) ∧ ∀ F2 r2 S2 H2, HR G n0 g' F2 r2 S2 H2 → HR G n0 g F2 r2 S2 H2
  | [], g, h, _ => ⟨g, h, fun _ _ e => e, (fun p hp => by cases hp), fun _ _ _ _ q => q⟩
  | p :: l, g, h, hl => by
    obtain ⟨h1, h2, h3, h4⟩ := hl p List.mem_cons_self
    cases e : g.pn p.1 with
    | some o =>
      have eo := (h.pin _ _ e).1
      rw [h1] at eo
      cases eo
      obtain ⟨g', a1, a2, a3, a4⟩ := pins_on l h fun q hq => hl q (List.mem_cons_of_mem _ hq)
      refine ⟨g', a1, a2, fun q hq => ?_, a4⟩
      rcases List.mem_cons.mp hq with rfl | hq
      · exact a2 _ _ e
      · exact a3 q hq
    | none =>
      obtain ⟨g', a1, a2, a3, a4⟩ := pins_on l (h.pinOld h1 h2 h3 e h4) fun q hq => hl q (List.mem_cons_of_mem _ hq)
      refine ⟨g', a1, fun a o ea => a2 a o (by rw [pin_ne (fun z => by rw [z, e] at ea; cases ea)]; exact ea), fun q hq => ?_, fun F2 r2 S2 H2 q => (a4 F2 r2 S2 H2 q).unpin e⟩
      rcases List.mem_cons.mp hq with rfl | hq
      · exact a2 _ _ pin_at
      · exact a3 q hq
end
end PX
set_option Elab.async false
set_option linter.all false
set_option maxRecDepth 100000
set_option maxHeartbeats 1000000
namespace PX
open PySem PySem.Spec PyProof.Rows L2 LamX
def wordsR (wt : Nat → Option Str) (fine : Str) (cmp : Str → Bool) : List SE → Env → Store → R (List Bool)
  | [], _, S => .ok [] S
  | b :: bs, env, S => match eWord b wt fine env S with
    | .ok (_, .str w) S1 => if PyData.strOk w = true then (wordsR wt fine cmp bs env S1).bind fun l S2 => .ok (cmp w :: l) S2 else .no
    | _ => .no
def LamSs (X : Cx) (G : Gam) (n0 : Nat) (k : Nat) : List LRec → List SE → Prop
  | [], [] => True
  | L :: ls, b :: bs => (∃ y, LamSp X L k y fun E => rdEX G n0 (fun _ => E) b) ∧ LamSs X G n0 k ls bs
  | _, _ => False
def thL (q : Str) (cells : List (Str × Addr)) : List Addr → List LRec → List Addr → List (Addr × HO)
  | f :: fs, L :: ls, c :: cs => (f, LamO f q L (cloFrom cells L.scope.names []) c) :: (c, CodeO c q) :: thL q cells fs ls cs
  | _, _, _ => []
theorem ths_cs {q : Str} {cells : List (Str × Addr)} {H : Hp} : ∀ {fs : List Addr} {ls : List LRec}, Ths q cells H fs ls → ∃ cs : List Addr, cs.length = fs.length ∧ ∀ p ∈ thL q cells fs ls cs, H p.1 = some p.2 ∧ (p.1 ∈ fs ∨ ∃ c, p = (c, CodeO c q)) ∧ isTk p.2 = false
  | [], [], _ => ⟨[], rfl, fun p hp => by cases hp⟩
  | f :: fs, L :: ls, ⟨⟨c, h1, h2⟩, r⟩ => by
    obtain ⟨cs, e, h⟩ := ths_cs r
    refine ⟨c :: cs, congrArg (· + 1) e, fun p hp => ?_⟩
    have hp : p ∈ (f, LamO f q L (cloFrom cells L.scope.names []) c) :: (c, CodeO c q) :: thL q cells fs ls cs := hp
    rcases List.mem_cons.mp hp with rfl | hp
    · exact ⟨h1, .inl List.mem_cons_self, rfl⟩
    · rcases List.mem_cons.mp hp with rfl | hp
      · exact ⟨h2, .inr ⟨c, rfl⟩, rfl⟩
      · obtain ⟨a1, a2, a3⟩ := h p hp
        exact ⟨a1, a2.imp (List.mem_cons_of_mem _) id, a3⟩
theorem thL_at {q : Str} {cells : List (Str × Addr)} {P : Addr × HO → Prop} : ∀ {fs : List Addr} {ls : List LRec} {cs : List Addr}, fs.length = ls.length → cs.length = fs.length → (∀ p ∈ thL q cells fs ls cs, P p) → ∀ (i : Nat) (f : Addr), fs[i]? = some f → ∃ L c, ls[i]? = some L ∧ P (f, LamO f q L (cloFrom cells L.scope.names []) c) ∧ P (c, CodeO c q)
  | [], _, _, _, _, _, i, f, e => by simp at e
  | f0 :: fs, L :: ls, c :: cs, h1, h2, h, 0, f, e => by
    simp at e
    subst e
    exact ⟨L, c, rfl, h _ List.mem_cons_self, h _ (List.mem_cons_of_mem _ List.mem_cons_self)⟩
  | f0 :: fs, L :: ls, c :: cs, h1, h2, h, i + 1, f, e => by
    obtain ⟨L', c', a1, a2, a3⟩ := thL_at (fs := fs) (ls := ls) (cs := cs) (by simpa using h1) (by simpa using h2) (fun p hp => h p (List.mem_cons_of_mem _ (List.mem_cons_of_mem _ hp))) i f (by simpa using e)
    exact ⟨L', c', by simpa using a1, a2, a3⟩
theorem lamSs_at {X : Cx} {G : Gam} {n0 k : Nat} : ∀ {ls : List LRec} {bs : List SE}, LamSs X G n0 k ls bs → ∀ (i : Nat) L, ls[i]? = some L → ∃ b y, bs[i]? = some b ∧ LamSp X L k y fun E => rdEX G n0 (fun _ => E) b
  | [], _, _, i, L, e => by simp at e
  | L0 :: ls, b :: bs, ⟨⟨y, h⟩, r⟩, 0, L, e => by
    simp at e
    subst e
    exact ⟨b, y, rfl, h⟩
  | L0 :: ls, b :: bs, ⟨_, r⟩, i + 1, L, e => by
    obtain ⟨b', y', a1, a2⟩ := lamSs_at r i L (by simpa using e)
    exact ⟨b', y', by simpa using a1, a2⟩
theorem LamSs.len {X : Cx} {G : Gam} {n0 k : Nat} : ∀ {ls : List LRec} {bs : List SE}, LamSs X G n0 k ls bs → ls.length = bs.length
  | [], [], _ => rfl
  | _ :: _, _ :: _, ⟨_, r⟩ => congrArg (· + 1) r.len
section
variable {X : Cx} {G : Gam} {n0 : Nat}
theorem word_step {g : Gh} {F : Hp} {r : List Addr} {env : Env} {σ : L2.St} {S S1 : Store} {H : Hp} {b : SE} {wt : Nat → Option Str} {fine w : Str} {kk : Bool} {Q : VK} (s : Sg G n0 g F r env σ S H) (e : eWord b wt fine env S = .ok (kk, .str w) S1)
    (h : ∀ F' r' H', Ext F F' r r' → Sg G n0 g F' r' env σ S1 H' → Q (.str w) H') : TTw G wt fine (fun E H' Q' => rdEX G n0 (fun _ => E) b σ H' Q') H Q := by
  refine ⟨F, r, env, S, g, s, ?_⟩
  unfold eWord at e
  cases eb : b env S with
  | no => rw [eb] at e; cases e
  | ok p S2 =>
    rw [eb] at e
    cases e
    exact fun F' r' H' u x s' q => h F' r' H' x s'
  | ex c p S2 =>
    rw [eb] at e
    intro F' r' H' x hr' d _
    cases ew : wt c with
    | none => simp only [ew] at e; cases e
    | some w' =>
      simp only [ew] at e
      cases e
      exact ⟨c, w, rfl, ew, fun H2 k2 => h F' r' H2 x (s.ext x (hr'.heap k2))⟩
theorem lcW_core {q : Str} {i di ci k : Nat} {g : Gh} {F : Hp} {r : List Addr} {env : Env} {σ : L2.St} {S S2 : Store} {H : Hp} {ls : List LRec} {bs : List SE} {wt : Nat → Option Str} {fine due : Str} {cmp : Str → Bool} {res : List Bool} {op : R2} {Q : VK}
    (s : SgW q X.env.cells G n0 g F r env σ S H i ls) (sp : LamSs X G n0 k ls bs) (hd : env[di]? = some (some (.str due))) (hdc : di ≠ ci) (hci : env[ci]? = some none) (he : wordsR wt fine cmp bs env S = .ok res S2)
    (hop : ∀ w H Q, PyData.strOk w = true → Q (.bl (cmp w)) H → op (.str w) (.str due) H Q) (hl : ls.length < sizeLine)
    (hQ : ∀ F' r' H' D, Ext F F' r r' → Sg G n0 g F' r' env σ S2 H' → H' D = some (.lst (res.map V.bl)) → Q (.ref D) H') :
    tLc (iSeqG X.K (tVar i)) (gName ci) tYes (tOp op (tWordB X q k (TTw G wt fine) ci σ) (tVar di)) [ci] σ H Q := by
  obtain ⟨s0, ⟨Dc, fs, hσ, hDc, th, nf⟩, _⟩ := s
  refine ⟨.ref Dc, hσ, Dc, false, fs.map V.ref, rfl, .inl (.inl hDc), fun D hD => ?_⟩
  obtain ⟨cs, ecs, hth⟩ := ths_cs th
  have hlen := th.len
  obtain ⟨g', hr', pk, pl, ul⟩ := pins_on ((Dc, .lst (fs.map V.ref)) :: thL q X.env.cells fs ls cs) s0.hr fun p hp => by
    rcases List.mem_cons.mp hp with rfl | hp
    · exact ⟨hDc, (nf Dc List.mem_cons_self).1, (nf Dc List.mem_cons_self).2.1, rfl⟩
    · obtain ⟨a1, a2, a3⟩ := hth p hp
      rcases a2 with a2 | ⟨c, rfl⟩
      · exact ⟨a1, (nf _ (List.mem_cons_of_mem _ a2)).1, (nf _ (List.mem_cons_of_mem _ a2)).2.1, a3⟩
      · refine ⟨a1, ?_, not_r s0.hr a1 (isTb_code c q), a3⟩
        cases e : F c with
        | none => rfl
        | some o =>
          have h1 := s0.hr.tab.nf c o e
          rcases s0.hr.sub c o e with z | ⟨_, od, z⟩
          · rw [a1] at z
            cases z
            rw [isTb_code] at h1
            cases h1
          · rw [a1] at z
            unfold CodeO at z
            cases z
  have hgD : g'.pn D = none := hr'.nop hD
  have hcl : ci < σ.length := by rw [← s0.sl]; exact (List.getElem?_eq_some_iff.mp hci).1
  refine ⟨fun j m H' => m = fs.length - j ∧ j ≤ fs.length ∧ ∃ F2 r2 S3 acc rest, Ext F F2 r r2 ∧ Sg G n0 (g'.pin D (.lst (acc.map V.bl))) F2 r2 env σ S3 H' ∧ acc.length = j ∧ wordsR wt fine cmp (bs.drop j) env S3 = .ok rest S2 ∧ res = acc ++ rest,
    ⟨fs.length, rfl, Nat.zero_le _, F, r, S, [], res, .refl _ _, ⟨hr'.pinNew hD, s0.sl, s0.vr⟩, rfl, he, rfl⟩, ?_⟩
  rintro j m H2 ⟨rfl, hj, F2, r2, S3, acc, rest, x2, s2, hacc, hw, hres⟩
  have pD := (s2.hr.pin D _ pin_at).1
  have pg : ∀ a o, g'.pn a = some o → H2 a = some o := fun a o e => (s2.hr.pin a o (by rw [pin_ne (fun z => by rw [z, hgD] at e; cases e)]; exact e)).1
  have hDc2 := pg Dc _ (pl _ List.mem_cons_self)
  by_cases hlt : j < fs.length
  · obtain ⟨L, c, eL, pL, pC⟩ := thL_at (P := fun p => H2 p.1 = some p.2) hlen ecs (fun p hp => pg _ _ (pl p (List.mem_cons_of_mem _ hp))) j fs[j] (List.getElem?_eq_getElem hlt)
    obtain ⟨b, y, eb, spL⟩ := lamSs_at sp j L eL
    have hjb := (List.getElem?_eq_some_iff.mp eb).1
    have hdrop : bs.drop j = b :: bs.drop (j + 1) := by
      rw [List.drop_eq_getElem_cons hjb]
      rw [List.getElem?_eq_getElem hjb] at eb
      rw [Option.some.inj eb]
    rw [hdrop] at hw
    unfold wordsR at hw
    split at hw
    · rename_i kk w S1 ew
      by_cases okw : PyData.strOk w = true
      rotate_left
      · rw [if_neg okw] at hw
        cases hw
      rw [if_pos okw] at hw
      cases ew2 : wordsR wt fine cmp (bs.drop (j + 1)) env S1 with
      | no => rw [ew2] at hw; cases hw
      | ex => rw [ew2] at hw; cases hw
      | ok l S4 =>
        rw [ew2] at hw
        have hw : R.ok (cmp w :: l) S4 = R.ok rest S2 := hw
        cases hw
        refine .inr ⟨⟨fs.map V.ref, .ref fs[j], .inl (.inl hDc2), by rw [List.getElem?_map, List.getElem?_eq_getElem hlt]; rfl⟩, fun H' => ∃ F2 r2 S3 acc rest, Ext F F2 r r2 ∧ Sg G n0 (g'.pin D (.lst (acc.map V.bl))) F2 r2 env σ S3 H' ∧ acc.length = j + 1 ∧ wordsR wt fine cmp (bs.drop (j + 1)) env S3 = .ok rest S2 ∧ res = acc ++ rest,
          fun H' q => ⟨fs.length - (j + 1), by omega, rfl, hlt, q⟩, fun v H3 hy => ?_⟩
        obtain ⟨rfl, hv⟩ := hy
        have hv := hv (fs.map V.ref) (.inl (.inl hDc2))
        rw [List.getElem?_map, List.getElem?_eq_getElem hlt] at hv
        have hv : V.ref fs[j] = v := Option.some.inj hv
        subst hv
        have ew3 : L2.wipe σ [ci] = σ.set ci none := rfl
        show L2.wipe ((L2.wipe σ [ci]).set ci (some (V.ref fs[j]))) [ci] = L2.wipe σ [ci] ∧ _
        refine ⟨by rw [ew3]; show (((σ.set ci none).set ci (some (V.ref fs[j]))).set ci none) = _; rw [List.set_set, List.set_set], ?_⟩
        show tOp op (tWordB X q k (TTw G wt fine) ci σ) (tVar di) ((L2.wipe σ [ci]).set ci (some (V.ref fs[j]))) H3 _
        rw [ew3, List.set_set]
        refine ⟨fs[j], L, c, y, _, List.getElem?_set_self hcl, pL, pC, spL, word_step s2 ew fun F' r' H' x' s' => ?_⟩
        obtain ⟨u, hu, ru⟩ := s'.vr di _ hd
        cases (show u = V.str due from ru)
        refine ⟨V.str due, by rw [List.getElem?_set_ne (Ne.symm hdc)]; exact hu, hop w H' _ okw ?_⟩
        have pD' := (s'.hr.pin D _ pin_at).1
        refine ⟨_, pD', by rw [List.length_map]; omega, F', r', S1, acc ++ [cmp w], l, x2.trans x', ⟨?_, s'.sl, s'.vr⟩, by rw [List.length_append, hacc]; rfl, ew2, by rw [hres, List.append_assoc]; rfl⟩
        have := s'.hr.pinSet (ho' := .lst (acc.map V.bl ++ [V.bl (cmp w)]))
        rw [List.map_append]
        exact this
    · cases hw
  · have ej : j = fs.length := by omega
    have hb : bs.drop j = [] := List.drop_eq_nil_of_le (by have := sp.len; omega)
    rw [hb] at hw
    unfold wordsR at hw
    cases hw
    rw [List.append_nil] at hres
    subst hres
    exact .inl ⟨⟨fs.map V.ref, .inl (.inl hDc2), by rw [List.length_map]; omega⟩, hQ F2 r2 H2 D x2 ⟨ul _ _ _ _ (s2.hr.unpin hgD), s2.sl, s2.vr⟩ pD⟩
end
end PX
set_option Elab.async false
set_option linter.all false
set_option maxRecDepth 100000
set_option maxHeartbeats 1000000
namespace PX
open PySem PySem.Spec PyProof.Rows L2 LamX
def tWords (wt : Nat → Option Str) (fine : Str) (cmp : Str → Str → Bool) (sel : List Bool → Bool) (bs : List SE) (di ci : Nat) : ST := fun env S => match env[di]? with
  | some (some (.str due)) => match env[ci]? with
    | some none => if PyData.strOk due = true then (wordsR wt fine (cmp due) bs env S).bind fun l S1 => .ok (sel l) S1 else .no
    | _ => .no
  | _ => .no
def rdTW (q : Str) (cells : List (Str × Addr)) (G : Gam) (n0 : Nat) (i : Nat) (ls : List LRec) (tc : ST) : TT := fun σ H Q => ∃ F r env S g, SgW q cells G n0 g F r env σ S H i ls ∧ PoT G n0 g F r env σ (tc env S) Q
section
variable {X : Cx} {G : Gam} {n0 : Nat} {E : XK} {q : Str} {i : Nat} {ls : List LRec}
theorem pe_words {di ci k : Nat} {bs : List SE} {wt : Nat → Option Str} {fine : Str} {cmp : Str → Str → Bool} {sel : List Bool → Bool} {op : R2} {cop : CmpOp} {rA : List V → Hp → VK → Prop}
    {fn c cl due x a : Str} {g : Addr} {j : Int} {pg : Arguments} {bg : List Stmt} {sg : Scope} {dV kV doc pm cdv ct oc : Value} {an od : Option Addr} {osl : Array (Option Value)} {Ng : List Str} {scope : Scope} {p1 p2 p3 p4 p5 p6 p7 p8 p9 p10 : Pos}
    (hc : X.calm = true) (hN : X.N.Nodup) {id : String} (cr : CallR X (.builtin id) rA) (hA : ∀ (D : Addr) (bl : List Bool) (H : Hp) (Q : VK), H D = some (.lst (bl.map V.bl)) → Q (.bl (sel bl)) H → rA [V.ref D] H Q) (hgf : Gl X fn) (hmf : X.mg fn = none) (hvf : bootBuiltins fn = some (.builtin id))
    (hcl : PE X (.Name cl p4) (tVar i)) (ok : BlkOk X.N X.env.scope scope [(c, ci)]) (hpc : ∀ (s : Shared) (H : Hp) (C : Addr) (cls : List (Str × Addr)) (fp : List Addr), PG (X.blk s H scope (compEnvC scope cls C X.env) fp) (.Name c p3) (gName ci))
    (hvc : ∀ (s : Shared) (H : Hp) (C : Addr) (cls : List (Str × Addr)) (fp : List Addr), PE (X.blk s H scope (compEnvC scope cls C X.env) fp) (.Name c p6) (tVar ci)) (hvd : ∀ (s : Shared) (H : Hp) (C : Addr) (cls : List (Str × Addr)) (fp : List Addr), PE (X.blk s H scope (compEnvC scope cls C X.env) fp) (.Name due p8) (tVar di))
    (hgx : ∀ (s : Shared) (H : Hp) (C : Addr) (cls : List (Str × Addr)) (fp : List Addr), Gl (X.blk s H scope (compEnvC scope cls C X.env) fp) x) (hm : X.mg x = some (.ref g)) (hk : PySem.W.keepIn X.K (.ref g) = true)
    (lk : X.K.lookup g = some ⟨oc, od, .func (PySem.W.fnOf x x pg bg sg dV kV doc pm an cdv ct), osl⟩) (hcg : PySem.W.codeIn X.K cdv x = true) (hb : L2.Binds X.K (PySem.W.fnOf x x pg bg sg dV kV doc pm an cdv ct) [a] []) (Sc : FnScope Ng [a] sg) (hNg : Ng[0]? = some a) (hva : Vis sg a)
    (hG : GivesT X Ng x sg g cdv bg a j (TTw G wt fine)) (hr : Room (k + 2) X.A) (hop : ∀ (s : Shared) (H : Hp) (C : Addr) (cls : List (Str × Addr)) (fp : List Addr), OpR (X.blk s H scope (compEnvC scope cls C X.env) fp) (compareOp cop) op)
    (hcmp : ∀ w du H Q, PyData.strOk w = true → PyData.strOk du = true → Q (.bl (cmp du w)) H → op (.str w) (.str du) H Q) (hq : q = X.env.qual ++ "<lambda>") (sp : LamSs X G n0 k ls bs) (hdc : di ≠ ci) (hl : ls.length < sizeLine)
    (hs : ∀ (cls : List (Str × Addr)) (C : Addr), starEach [.Name c p6] (compEnvC scope cls C X.env) = (false, eval (.Name c p6) (compEnvC scope cls C X.env)) :: starEach [] (compEnvC scope cls C X.env) := by intro _ _; rfl)
    (hbm : behindInMarks cop (.Name due p8) = false := by rfl) (hdb : (x == ("__debug__" : Str)) = false := by decide) (hd : (a == ("__debug__" : Str)) = false := by decide) (hcd : (a == ("__classdict__" : Str)) = false := by decide)
    (hn1 : fn ≠ "__name__" := by decide) (hn2 : (fn == ("__debug__" : Str)) = false := by decide) :
    PE X (.Call (.Name fn p1) [.ListComp (.Compare (.Call (.Name x p5) [.Name c p6] [] p7) [cop] [.Name due p8] p9) [⟨.Name c p3, .Name cl p4, [], 0⟩] scope p2] [] p10) (fun σ H Q => rdTW q X.env.cells G n0 i ls (tWords wt fine cmp sel bs di ci) σ H fun b H' => Q (.bl b) H') := by
  subst hq
  refine peI (pe_callB cr hgf hmf hvf (pa_cons (pe_lcW hc hN (pi_seqG hcl) ok hpc (fun _ _ _ _ _ => pts_nil) (te := fun σ => tOp op (tWordB X (X.env.qual ++ "<lambda>") k (TTw G wt fine) ci σ) (tVar di))
    (fun pins σ s H C cls fp I3 f3 => pe_cmpR (hop s H C cls fp) (pe_wordB I3 f3 (hgx s H C cls fp) hm hk lk hcg hb Sc hNg hva hG hr (hvc s H C cls fp) (hs cls C) hdb hd hcd) (hvd s H C cls fp) hbm)) pa_nil) hn1 hn2) fun σ H Q ⟨F, r, env, S, g', s, h⟩ => ?_
  unfold tWords at h
  cases e1 : env[di]? with
  | none => simp only [e1] at h; exact h.elim
  | some o =>
    cases o with
    | none => simp only [e1] at h; exact h.elim
    | some v =>
      cases v with
      | str du =>
        simp only [e1] at h
        cases e2 : env[ci]? with
        | none => simp only [e2] at h; exact h.elim
        | some o2 =>
          cases o2 with
          | some w => simp only [e2] at h; exact h.elim
          | none =>
            simp only [e2] at h
            by_cases okd : PyData.strOk du = true
            rotate_left
            · rw [if_neg okd] at h; exact h.elim
            rw [if_pos okd] at h
            cases e3 : wordsR wt fine (cmp du) bs env S with
            | no => rw [e3] at h; exact h.elim
            | ex => rw [e3] at h; exact h.elim
            | ok l S1 =>
              rw [e3] at h
              exact lcW_core (Q := fun v H1 => rA [v] H1 Q) s sp e1 hdc e2 e3 (fun w H Q okw hh => hcmp w du H Q okw okd hh) hl fun F' r' H' D x s' hD => hA D l H' Q hD (h F' r' H' x s')
      | _ => simp only [e1] at h; exact h.elim
theorem pt_words {e : Expr} {tc : ST} (h : PE X e (fun σ H Q => rdTW q X.env.cells G n0 i ls tc σ H fun b H' => Q (.bl b) H')) (he : ∀ whole, isTrue e X.env whole = (do let v ← whole; standAt e.pos; holding [v] (truthy v)) := by intro _; rfl) : PT X e (rdTW q X.env.cells G n0 i ls tc) := by
  refine ptI (pt_val h he) fun σ H Q ⟨F, r, env, S, g, s, h⟩ => ⟨F, r, env, S, g, s, ?_⟩
  cases e : tc env S with
  | no => rw [e] at h; exact h
  | ex => rw [e] at h; exact h
  | ok b S1 =>
    rw [e] at h
    exact fun F' r' H' x s' => ⟨b, rfl, h F' r' H' x s'⟩
theorem ss_ifW {c : Expr} {a b : List Stmt} {tc : ST} {fa fb : SS} {pos : Pos} (hc : PT X c (rdTW q X.env.cells G n0 i ls tc)) (ha : PSs X a (rdS G n0 E fa)) (hb : PSs X b (rdS G n0 E fb)) : PS X (.If c a b pos) (rdSW q X.env.cells G n0 E i ls (sIf tc fa fb)) := by
  refine psI (ps_if hc ha hb) fun D σ H ⟨F, r, env, S, g, s, h⟩ => ⟨F, r, env, S, g, s, ?_⟩
  have h : PoS G n0 E g F r ((tc env S).go fun t S1 => if t = true then fa env S1 else fb env S1) D := h
  cases e : tc env S with
  | no => rw [e] at h; exact h
  | ex => rw [e] at h; exact h
  | ok v S1 =>
    rw [e] at h
    intro F' r' H' x s'
    cases v with
    | true => exact goS s' x h
    | false => exact goS s' x h
theorem ss_consW {st : Stmt} {rest : List Stmt} {fa fb : SS} (h1 : PS X st (rdSW q X.env.cells G n0 E i ls fa)) (h2 : PSs X rest (rdS G n0 E fb)) : PSs X (st :: rest) (rdSW q X.env.cells G n0 E i ls (sCons fa fb)) := by
  refine pssI (pss_cons h1 h2) fun D σ H ⟨F, r, env, S, g, s, h⟩ => ⟨F, r, env, S, g, s, ?_⟩
  have h : PoS G n0 E g F r ((fa env S).then fb) D := h
  cases e : fa env S with
  | nx env' S' => rw [e] at h; exact fun F' r' H' σ' x s' => goS s' x h
  | bk => rw [e] at h; exact h
  | ct => rw [e] at h; exact h
  | rt => rw [e] at h; exact h
  | ex => rw [e] at h; exact h
  | no => rw [e] at h; exact h
theorem ss_oneW {st : Stmt} {fa : SS} (h1 : PS X st (rdSW q X.env.cells G n0 E i ls fa)) : PSs X [st] (rdSW q X.env.cells G n0 E i ls fa) := pss_one h1
def sRetT (tc : ST) : SS := fun env S => (tc env S).go fun b S1 => .rt (.bl b) S1
theorem ss_retW {e : Expr} {tc : ST} {pos : Pos} (h : PE X e (fun σ H Q => rdTW q X.env.cells G n0 i ls tc σ H fun b H' => Q (.bl b) H')) : PS X (.Return (some e) pos) (rdSW q X.env.cells G n0 E i ls (sRetT tc)) := by
  refine psI (ps_ret h) fun D σ H ⟨F, r, env, S, g, s, h⟩ => ⟨F, r, env, S, g, s, ?_⟩
  have h : PoS G n0 E g F r ((tc env S).go fun b S1 => .rt (.bl b) S1) D := h
  cases e : tc env S with
  | no => rw [e] at h; exact h
  | ex => rw [e] at h; exact h
  | ok v S1 =>
    rw [e] at h
    exact fun F' r' H' x s' => h F' r' H' _ x s'.hr rfl
end
end PX
set_option Elab.async false
set_option linter.all false
set_option maxRecDepth 100000
set_option maxHeartbeats 1000000
namespace PX
open PySem PySem.Spec PyProof.Rows L2 LamX
theorem Ths.app {q : Str} {cells : List (Str × Addr)} {H : Hp} : ∀ {fs : List Addr} {ls : List LRec} {fs2 : List Addr} {ls2 : List LRec}, Ths q cells H fs ls → Ths q cells H fs2 ls2 → Ths q cells H (fs ++ fs2) (ls ++ ls2)
  | [], [], _, _, _, h => h
  | _ :: _, _ :: _, _, _, ⟨h1, h2⟩, h => ⟨h1, h2.app h⟩
theorem Ths.lst {q : Str} {cells : List (Str × Addr)} {H : Hp} {D : Addr} {xs ys : List V} (hD : H D = some (.lst xs)) : ∀ {fs : List Addr} {ls : List LRec}, Ths q cells H fs ls → Ths q cells (upd H D (.lst ys)) fs ls
  | [], [], _ => True.intro
  | f :: fs, L :: ls, ⟨⟨c, h1, h2⟩, r⟩ => by
    refine ⟨⟨c, ?_, ?_⟩, r.lst hD⟩
    · rw [upd_ne (fun z => by rw [z, hD] at h1; unfold LamO at h1; cases h1)]
      exact h1
    · rw [upd_ne (fun z => by rw [z, hD] at h2; unfold CodeO at h2; cases h2)]
      exact h2
theorem HR.aside {G : Gam} {n0 : Nat} {g : Gh} {F : Hp} {r : List Addr} {S : Store} {H : Hp} {D : Addr} {xs ys : List V} (h : HR G n0 g F r S H) (hD : H D = some (.lst xs)) (hF : F D = none) (hr : D ∉ r) (hp : g.pn D = none) : HR G n0 g F r S (upd H D (.lst ys)) :=
  ((h.pinOld hD hF hr hp rfl).pinSet (ho' := .lst ys)).unpin hp
section
variable {X : Cx} {G : Gam} {n0 : Nat} {E : XK} {q : Str} {i : Nat} {ls : List LRec} {k : SS} {rest : List Stmt}
theorem ss_lamApp {L : LRec} {cl : Str} {p1 apos cpos lpos pos : Pos} (hcl : PE X (.Name cl p1) (tVar i)) (hlam : PE X (.Lambda L.params L.body L.scope lpos) (tLamV G.tb q L (cloFrom X.env.cells L.scope.names []))) (hr : PSs X rest (rdSW q X.env.cells G n0 E i (ls ++ [L]) k)) (hl : ls.length < sizeLine)
    (hline : (apos.endLine == cpos.line) = true := by rfl) (hsw : swapsWith (.Call (.Attribute (.Name cl p1) "append" apos) [.Lambda L.params L.body L.scope lpos] [] cpos) none pos.line X.env = pure false := by rfl) :
    PSs X (.Expr (.Call (.Attribute (.Name cl p1) "append" apos) [.Lambda L.params L.body L.scope lpos] [] cpos) pos :: rest) (rdSW q X.env.cells G n0 E i ls k) := by
  refine pssI (pss_cons (ps_expr (pe_bm (r := rAppend) PySem.F.plainAttrs_list PySem.F.slot_list_append PySem.F.type_list_append mt_append hcl (pa_cons hlam pa_nil) (hline := hline)) hsw) hr) fun D σ H ⟨F, r, env, S, g, ⟨s, ⟨Dc, fs, hσ, hDc, th, nf⟩, em⟩, h⟩ => ?_
  refine ⟨.ref Dc, hσ, ?_, fun p hp => (s.hr.tab.t p hp).t, fun f c' H1 eN nn T1 nF h1 h2 => ?_⟩
  · exact .inl ⟨rfl, fs.map V.ref, .inl (.inl hDc)⟩
  · have hD1 : H1 Dc = some (.lst (fs.map V.ref)) := eN _ _ hDc nofun
    have s1 : Sg G n0 g F r env σ S H1 := ⟨s.hr.extN eN T1, s.sl, s.vr⟩
    obtain ⟨a1, a2, a3⟩ := nf Dc List.mem_cons_self
    have t1 : Ths q X.env.cells H1 (fs ++ [f]) (ls ++ [L]) := (th.ext eN).app ⟨⟨c', h1, h2⟩, True.intro⟩
    refine ⟨Dc, fs.map V.ref, .ref f, rfl, rfl, hD1, by rw [List.length_map, th.len]; exact hl, F, r, env, S, g, ⟨⟨s1.hr.aside hD1 a1 a2 a3, s1.sl, s1.vr⟩, ⟨Dc, fs ++ [f], hσ, by rw [upd_same, List.map_append]; rfl, t1.lst hD1, fun a hm => ?_⟩, em⟩, h⟩
    rcases List.mem_cons.mp hm with rfl | hm
    · exact ⟨a1, a2, a3⟩
    · rcases List.mem_append.mp hm with hm | hm
      · exact nf a (List.mem_cons_of_mem _ hm)
      · rw [List.mem_singleton.mp hm]
        exact ⟨s.hr.noF nF, s.hr.nor nF, s.hr.nop nF⟩
theorem set_none {env : Env} {i : Nat} (h : env[i]? = some none) : env.set i none = env := by
  apply List.ext_getElem?
  intro j
  by_cases hj : j = i
  · subst hj
    rw [List.getElem?_set_self (List.getElem?_eq_some_iff.mp h).1, h]
  · rw [List.getElem?_set_ne (Ne.symm hj)]
theorem ss_lamCat {ls2 : List LRec} {cl : Str} {es : List Expr} {p0 p1 p2 p3 pos : Pos} (hg : PG X (.Name cl p0) (gName i)) (hcl : PE X (.Name cl p1) (tVar i)) (ha : PA X es (tLams G.tb q X.env.cells ls2)) (hr : PSs X rest (rdSW q X.env.cells G n0 E i (ls ++ ls2) k)) (hl : ls.length + ls2.length ≤ sizeLine)
    (hs : swapsWithSole [.Name cl p0] (.BinOp (.Name cl p1) .Add (.List es p2) p3) pos.line X.env = pure false := by rfl) (hw : swappedStores [.Name cl p0] (.BinOp (.Name cl p1) .Add (.List es p2) p3) X.env = pure none := by rfl)
    (h1 : (assignEach [.Name cl p0] X.env).map (·.2) = [assign (.Name cl p0) X.env] := by rfl) :
    PSs X (.Assign [.Name cl p0] (.BinOp (.Name cl p1) .Add (.List es p2) p3) pos :: rest) (rdSW q X.env.cells G n0 E i ls k) := by
  refine pssI (pss_cons (ps_asg (pe_op op_cat hcl (pe_lst ha)) hg hs hw h1) hr) fun D σ H ⟨F, r, env, S, g, ⟨s, ⟨Dc, fs, hσ, hDc, th, nf⟩, em⟩, h⟩ => ?_
  refine ⟨.ref Dc, hσ, fun p hp => (s.hr.tab.t p hp).t, fun fs2 H1 eN nn T1 th2 nf2 => ⟨by rw [List.length_map, th2.len]; omega, fun B hB => ?_⟩⟩
  have hD1 : H1 Dc = some (.lst (fs.map V.ref)) := eN _ _ hDc nofun
  have k2 : ∀ a o, H1 a = some o → upd H1 B (.lst (fs2.map V.ref)) a = some o := fun a o e => by rw [upd_ne (ne_of_none e hB)]; exact e
  refine ⟨Dc, B, fs.map V.ref, fs2.map V.ref, rfl, rfl, k2 _ _ hD1, upd_same, by rw [List.length_map, List.length_map, th.len, th2.len]; exact hl, fun P hP => ?_⟩
  have k3 : ∀ a o, H1 a = some o → upd (upd H1 B (.lst (fs2.map V.ref))) P (.lst (fs.map V.ref ++ fs2.map V.ref)) a = some o := fun a o e => by rw [upd_ne (ne_of_none (k2 a o e) hP)]; exact k2 a o e
  have hPn : H P = none := nn _ (updN hP)
  have s1 : Sg G n0 g F r env σ S H1 := ⟨s.hr.extN eN T1, s.sl, s.vr⟩
  have s2 : Sg G n0 g F r env σ S (upd (upd H1 B (.lst (fs2.map V.ref))) P (.lst (fs.map V.ref ++ fs2.map V.ref))) := ⟨s1.hr.heap k3, s1.sl, s1.vr⟩
  have hi := (List.getElem?_eq_some_iff.mp em).1
  refine ⟨F, r, env, S, g, ⟨by have := s2.clear (i := i) (v := V.ref P); rwa [set_none em] at this, ⟨P, fs ++ fs2, List.getElem?_set_self (by rw [← s.sl]; exact hi), by rw [upd_same, List.map_append], ((th.ext eN).app th2).ext (.of k3), fun a hm => ?_⟩, em⟩, h⟩
  rcases List.mem_cons.mp hm with rfl | hm
  · exact ⟨s.hr.noF hPn, s.hr.nor hPn, s.hr.nop hPn⟩
  · rcases List.mem_append.mp hm with hm | hm
    · exact nf a (List.mem_cons_of_mem _ hm)
    · have := nf2 _ hm
      exact ⟨s.hr.noF this, s.hr.nor this, s.hr.nop this⟩
end
end PX
set_option Elab.async false
set_option linter.all false
set_option maxRecDepth 100000
set_option maxHeartbeats 1000000
namespace PX
open PySem PySem.Spec PyProof.Rows L2 LamX
def cmpNe (du w : Str) : Bool := !PyData.eqv (.str w) (.str du)
def cmpEq (du w : Str) : Bool := PyData.eqv (.str w) (.str du)
def selAny (l : List Bool) : Bool := l.any id
def selAll (l : List Bool) : Bool := l.all id
theorem shStr {w : Str} (h : PyData.strOk w = true) : SeqAt.shaped (.str w) = true := by simp [SeqAt.shaped, PyData.canLay0, PyData.depth, h]
theorem cmpNe_ok {K : PySem.W.Frag} (w du : Str) (H : Hp) (Q : VK) (o1 : PyData.strOk w = true) (o2 : PyData.strOk du = true) (h : Q (.bl (cmpNe du w)) H) : rEqQ K (fun b => !b) (.str w) (.str du) H Q := ⟨_, .inl (.inl ⟨_, _, .str w, .str du, shStr o1, shStr o2, rfl⟩), h⟩
theorem cmpEq_ok {K : PySem.W.Frag} (w du : Str) (H : Hp) (Q : VK) (o1 : PyData.strOk w = true) (o2 : PyData.strOk du = true) (h : Q (.bl (cmpEq du w)) H) : rEqQ K (fun b => b) (.str w) (.str du) H Q := ⟨_, .inl (.inl ⟨_, _, .str w, .str du, shStr o1, shStr o2, rfl⟩), h⟩
theorem any_ok {K : PySem.W.Frag} (D : Addr) (bl : List Bool) (H : Hp) (Q : VK) (e : H D = some (.lst (bl.map V.bl))) (h : Q (.bl (selAny bl)) H) : rAny K [V.ref D] H Q := ⟨D, bl, rfl, .inl (.inl e), h⟩
theorem all_ok' {K : PySem.W.Frag} (D : Addr) (bl : List Bool) (H : Hp) (Q : VK) (e : H D = some (.lst (bl.map V.bl))) (h : Q (.bl (selAll bl)) H) : rAll K [V.ref D] H Q := ⟨D, bl, rfl, .inl (.inl e), h⟩
def lamQB (N : List Str) (sc scope : Scope) (x : Str) : Bool :=
  decide (scope.kind = .function) && (!scope.isCoroutine && (!scope.isGenerator && (decide (scope.names.lookup x = some .local) && (!N.contains x && scope.names.all fun y => (!decide (y.2 = .local) || decide (y.1 = x)) && (!decide (y.2 = .cell) && (!decide (y.2 = .free) || (decide (sc.names.lookup y.1 = some .cell) || decide (sc.names.lookup y.1 = some .free))))))))
theorem lamQ_by {N : List Str} {sc scope : Scope} {x : Str} (h : lamQB N sc scope x = true) : LamQ N sc scope x := by
  unfold lamQB at h
  simp only [Bool.and_eq_true, Bool.or_eq_true, Bool.not_eq_true', decide_eq_true_eq, decide_eq_false_iff_not, List.all_eq_true] at h
  obtain ⟨h1, h2, h3, h4, h5, h6⟩ := h
  refine ⟨h1, h2, h3, fun y hy => ⟨fun e => ?_, (h6 y hy).2.1⟩, fun y hy e => ?_, fun hm => ?_, h4⟩
  · rcases (h6 y hy).1 with z | z
    · exact absurd e z
    · exact z
  · rcases (h6 y hy).2.2 with z | z
    · exact absurd e z
    · exact z
  · rw [List.contains_iff_mem.mpr hm] at h5
    cases h5
theorem wordL_ok {K : PySem.W.Frag} {G : Gam} {wl : List (Nat × Str)} {hl : List (Value × Str)} (h : (wl.all fun p => decide (wordL K (xVal G p.1) hl = some p.2)) = true) (c : Nat) (w : Str) (e : wl.lookup c = some w) : wordL K (.ref (G.ca c)) hl = some w :=
  of_decide_eq_true (List.all_eq_true.mp h (c, w) (look_mem e))
end PX
namespace PX
open PySem PySem.Spec PyProof.Rows L2 LamX
section
variable {X : Cx} {G : Gam} {n0 : Nat} {E : XK} {q : Str} {i k : Nat} {ls : List LRec} {rest : List Stmt} {kk : SS}
theorem lss_nil : LamSs X G n0 k [] [] := True.intro
theorem lss_cons {L : LRec} {b : SE} {bs : List SE} (y : Str) (h : LamSp X L k y fun E => rdEX G n0 (fun _ => E) b) (r : LamSs X G n0 k ls bs) : LamSs X G n0 k (L :: ls) (b :: bs) := ⟨⟨y, h⟩, r⟩
theorem ss_lamApp2 {params : Arguments} {body : Expr} {scope : Scope} {cl : Str} {p1 apos cpos lpos pos : Pos} (hcl : PE X (.Name cl p1) (tVar i)) (hlam : PE X (.Lambda params body scope lpos) (tLamV G.tb q ⟨params, body, scope⟩ (cloFrom X.env.cells scope.names []))) (hr : PSs X rest (rdSW q X.env.cells G n0 E i (ls ++ [⟨params, body, scope⟩]) kk)) (hl : ls.length < sizeLine)
    (hline : (apos.endLine == cpos.line) = true := by rfl) (hsw : swapsWith (.Call (.Attribute (.Name cl p1) "append" apos) [.Lambda params body scope lpos] [] cpos) none pos.line X.env = pure false := by rfl) :
    PSs X (.Expr (.Call (.Attribute (.Name cl p1) "append" apos) [.Lambda params body scope lpos] [] cpos) pos :: rest) (rdSW q X.env.cells G n0 E i ls kk) :=
  ss_lamApp (L := ⟨params, body, scope⟩) hcl hlam hr hl hline hsw
end
end PX
set_option Elab.async false
set_option linter.all false
set_option maxRecDepth 100000
namespace PX.K64
open PySem PX
def wl38 : List (Nat × Str) := [(3, "other"), (4, "other"), (5, "column"), (6, "value"), (7, "number"), (8, "sum"), (9, "unlike")]
def wt38 : Nat → Option Str := fun c => wl38.lookup c
noncomputable def b0 : FnB := ⟨3, 3, fun cf n0 => (sRet (eAn (eIsi [(.non, false), (.bl, true), (.int, true), (.str, false), (.tup, false), (.lst, false), (.dct, false), (.own 0, false), (.own 1, false), (.own 2, false)] (eVar 0)) (eAn (eNot (eIsi [(.non, false), (.bl, true), (.int, false), (.str, false), (.tup, false), (.lst, false), (.dct, false), (.own 0, false), (.own 1, false), (.own 2, false)] (eVar 0))) (eCh oLe oLe (eVar 1) (eVar 0) (eVar 2)))))⟩
noncomputable def b1 : FnB := ⟨2, 3, fun cf n0 => (sCons (sIf (tOr (tNo (tTru (eIsi [(.non, false), (.bl, false), (.int, false), (.str, false), (.tup, true), (.lst, true), (.dct, false), (.own 0, false), (.own 1, false), (.own 2, false)] (eVar 1)))) (tNo (tBl (eCh oLe oLe (eLit (.int 1)) (eLenG cf [(0, 3)] (eVar 1)) (eLit (.int (12))))))) (sRse 4) sNil) (sCons (sIf (tNo (tTru (eArg bAll (aCons (eLc (iSeqH (eVar 1)) (gNm 2) [2] tYesP (eCall cf 3 0 (aCons (eVar 2) (aCons (eLit (.int 0)) (aCons (eLit (.int (9))) aNil))))) aNil)))) (sRse 4) sNil) (sFld n0 [0] 0 (eVar 0) (eArg bTuple (aCons (eVar 1) aNil)))))⟩
noncomputable def b2 : FnB := ⟨2, 2, fun cf n0 => (sRet (eAn (eIsi [(.non, false), (.bl, false), (.int, false), (.str, false), (.tup, false), (.lst, false), (.dct, false), (.own 0, true), (.own 1, false), (.own 2, false)] (eVar 1)) (eEqQ cf [(0, 2), (1, 18), (2, 28)] [.non, .bl, .int, .str, .tup, .lst, .dct, .own 0, .own 1, .own 2] (eFld [0] 0 (eVar 0)) (eFld [0] 0 (eVar 1)))))⟩
noncomputable def b3 : FnB := ⟨1, 1, fun cf n0 => (sRet (eLenG cf [(0, 3)] (eFld [0] 0 (eVar 0))))⟩
noncomputable def b4 : FnB := ⟨2, 2, fun cf n0 => (sCons (sIf (tNo (tTru (eCall cf 3 0 (aCons (eVar 1) (aCons (eLit (.int 0)) (aCons (eBin oSub (eLenG cf [(0, 3)] (eFld [0] 0 (eVar 0))) (eLit (.int 1))) aNil)))))) (sRse 6) sNil) (sRet (eIx cf [(0, 4)] (eFld [0] 0 (eVar 0)) (eVar 1))))⟩
noncomputable def b5 : FnB := ⟨1, 1, fun cf n0 => sNo⟩
noncomputable def b6 : FnB := ⟨1, 1, fun cf n0 => (sRet (eArg bSum (aCons (eFld [0] 0 (eVar 0)) aNil)))⟩
noncomputable def b7 : FnB := ⟨1, 2, fun cf n0 => (sRet (eLc (iRg1 (eBin oCat (eLenG cf [(0, 3)] (eFld [0] 0 (eVar 0))) (eLit (.int 1)))) (gNm 1) [1] tYesP (eArg bSum (aCons (eSl (eFld [0] 0 (eVar 0)) pNo (pSo (eVar 1))) aNil))))⟩
noncomputable def b8 : FnB := ⟨1, 3, fun cf n0 => (sRet (eBin oCat (eLit (.int 1)) (eLenG cf [(0, 3)] (eLc (iZip (eFld [0] 0 (eVar 0)) (eSl (eFld [0] 0 (eVar 0)) (pSo (eLit (.int 1))) pNo)) (gTp [(gNm 1), (gNm 2)]) [1, 2] (tBl (eNeQ cf [(0, 2), (1, 18), (2, 28)] [.non, .bl, .int, .str, .tup, .lst, .dct, .own 0, .own 1, .own 2] (eVar 1) (eVar 2))) (eVar 1)))))⟩
noncomputable def b9 : FnB := ⟨1, 4, fun cf n0 => (sCons (sAsg (gNm 1) (eNew (eLst aNil))) (sCons (sFor (iEnu (eFld [0] 0 (eVar 0))) (gTp [(gNm 2), (gNm 3)]) (sExp (eLm (extL n0) (eVar 1) (eBin oRep (eLst (aCons (eVar 2) aNil)) (eVar 3))))) (sRet (eVar 1))))⟩
noncomputable def b10 : FnB := ⟨1, 1, fun cf n0 => (sIf (tNo (tTru (eIsi [(.non, false), (.bl, false), (.int, false), (.str, false), (.tup, false), (.lst, false), (.dct, false), (.own 0, true), (.own 1, false), (.own 2, false)] (eVar 0)))) (sRse 5) sNil)⟩
noncomputable def b11 : FnB := ⟨3, 3, fun cf n0 => (sIf (tNo (tTru (eCall cf 3 0 (aCons (eVar 0) (aCons (eVar 1) (aCons (eVar 2) aNil)))))) (sRse 7) sNil)⟩
noncomputable def b12 : FnB := ⟨3, 3, fun cf n0 => (sCons (sExpX (eCall cf 3 11 (nxA (aCons (eVar 0) (aCons (eLit (.int 1)) (aCons (eLit (.int (20))) aNil)))))) (sCons (sExpX (eCall cf 3 11 (nxA (aCons (eVar 1) (aCons (eLit (.int 1)) (aCons (eLit (.int (12))) aNil)))))) (sIf (tNo (tTru (eCall cf 3 0 (aCons (eVar 2) (aCons (eLit (.int 0)) (aCons (eBin oRep (eVar 0) (eBin oSub (eVar 1) (eLit (.int 1)))) aNil)))))) (sRse 8) sNil)))⟩
noncomputable def b13 : FnB := ⟨3, 6, fun cf n0 => (sCons (sAsg (gNm 3) (eNew (eArg bListK (aCons (eVar 0) aNil)))) (sCons (sFor (iRg3 (eBin oSub (eLenG cf [(0, 3)] (eVar 3)) (eLit (.int 1))) (eUn oNeg (eLit (.int 1))) (eUn oNeg (eLit (.int 1)))) (gNm 4) (sCons (sAsg (gNm 5) (eArg bMin2 (aCons (eVar 2) (aCons (eBin oSub (eIx cf [(0, 4)] (eVar 1) (eVar 4)) (eIx cf [(0, 4)] (eVar 3) (eVar 4))) aNil)))) (sCons (sAugI oAdd oGet (setG n0) (eVar 3) (eVar 4) (eVar 5)) (sAug 2 oSub (eVar 5))))) (sRet (eArg bTuple (aCons (eVar 3) aNil)))))⟩
noncomputable def b14 : FnB := ⟨3, 3, fun cf n0 => (sRet (eBin oCat (eBin oRep (eLst (aCons (eLit (.int 0)) aNil)) (eBin oSub (eVar 0) (eVar 2))) (eBin oRep (eLst (aCons (eVar 1) aNil)) (eVar 2))))⟩
noncomputable def b15 : FnB := ⟨4, 4, fun cf n0 => (sRet (eBin oCat (eBin oRep (eLst (aCons (eBin oSub (eVar 2) (eLit (.int 1))) aNil)) (eBin oSub (eVar 0) (eVar 3))) (eBin oRep (eLst (aCons (eBin oSub (eVar 1) (eLit (.int 1))) aNil)) (eVar 3))))⟩
noncomputable def b16 : FnB := ⟨5, 7, fun cf n0 => (sCons (sPar [5, 6] (aCons (eCall cf 3 14 (aCons (eVar 0) (aCons (eVar 3) (aCons (eVar 4) aNil)))) (aCons (eCall cf 4 15 (aCons (eVar 0) (aCons (eVar 1) (aCons (eVar 3) (aCons (eVar 4) aNil))))) aNil))) (sCons (sIf (tNo (tBl (eCh oLe oLe (eArg bSum (aCons (eVar 5) aNil)) (eVar 2) (eArg bSum (aCons (eVar 6) aNil))))) (sRet (eLit .non)) sNil) (sRet (eCall cf 3 13 (aCons (eVar 5) (aCons (eVar 6) (aCons (eBin oSub (eVar 2) (eArg bSum (aCons (eVar 5) aNil))) aNil)))))))⟩
noncomputable def b17 : FnB := ⟨3, 3, fun cf n0 => (sCons (sFld n0 [1] 2 (eVar 0) (eArg bTuple (aCons (eVar 1) aNil))) (sFld n0 [1] 3 (eVar 0) (eArg bTuple (aCons (eVar 2) aNil))))⟩
noncomputable def b18 : FnB := ⟨2, 2, fun cf n0 => (sRet (eAn (eIsi [(.non, false), (.bl, false), (.int, false), (.str, false), (.tup, false), (.lst, false), (.dct, false), (.own 0, false), (.own 1, true), (.own 2, false)] (eVar 1)) (eEqQ cf [(0, 2), (1, 18), (2, 28)] [.non, .bl, .int, .str, .tup, .lst, .dct, .own 0, .own 1, .own 2] (eTup (aCons (eFld [1] 2 (eVar 0)) (aCons (eFld [1] 3 (eVar 0)) aNil))) (eTup (aCons (eFld [1] 2 (eVar 1)) (aCons (eFld [1] 3 (eVar 1)) aNil))))))⟩
noncomputable def b19 : FnB := ⟨5, 8, fun cf n0 => (sCons (sExpX (eCall cf 4 20 (nxA (aCons (eVar 1) (aCons (eVar 2) (aCons (eVar 3) (aCons (eVar 4) aNil))))))) (sCons (sFor (iSeqH (eTup (aCons (eFld [1] 2 (eVar 0)) (aCons (eFld [1] 3 (eVar 0)) aNil)))) (gNm 5) (sIf (tOr (tBl (eNeQ cf [(0, 2), (1, 18), (2, 28)] [.non, .bl, .int, .str, .tup, .lst, .dct, .own 0, .own 1, .own 2] (eLenG cf [(0, 3)] (eVar 5)) (eVar 1))) (tOr (tNo (tTru (eArg bAll (aCons (eLc (iSeqH (eVar 5)) (gNm 7) [7] tYesP (eCall cf 3 0 (aCons (eVar 7) (aCons (eLit (.int 0)) (aCons (eBin oSub (eVar 2) (eLit (.int 1))) aNil))))) aNil)))) (tBl (eNeQ cf [(0, 2), (1, 18), (2, 28)] [.non, .bl, .int, .str, .tup, .lst, .dct, .own 0, .own 1, .own 2] (eArg bSum (aCons (eVar 5) aNil)) (eVar 3))))) (sRet (eLit (.bl false))) sNil)) (sCons (sAsg (gNm 6) (eLc (iSeqH (eTup (aCons (eFld [1] 2 (eVar 0)) (aCons (eFld [1] 3 (eVar 0)) aNil)))) (gNm 5) [5] tYesP (eLenG cf [(0, 3)] (eLc (iSeqH (eVar 5)) (gNm 7) [7] (tBl (eBin oGe (eVar 7) (eVar 4))) (eVar 7))))) (sRet (eEqQ cf [(0, 2), (1, 18), (2, 28)] [.non, .bl, .int, .str, .tup, .lst, .dct, .own 0, .own 1, .own 2] (eArg bTuple (aCons (eVar 6) aNil)) (eCall cf 4 21 (aCons (eVar 1) (aCons (eVar 2) (aCons (eVar 3) (aCons (eVar 4) aNil))))))))))⟩
noncomputable def b20 : FnB := ⟨4, 4, fun cf n0 => (sCons (sExpX (eCall cf 3 12 (nxA (aCons (eVar 0) (aCons (eVar 1) (aCons (eVar 2) aNil)))))) (sIf (tNo (tTru (eCall cf 3 0 (aCons (eVar 3) (aCons (eLit (.int 1)) (aCons (eBin oSub (eVar 1) (eLit (.int 1))) aNil)))))) (sRse 6) sNil))⟩
noncomputable def b21 : FnB := ⟨4, 6, fun cf n0 => (sCons (sPar [4, 5] (aCons (eBin oSub (eVar 2) (eBin oRep (eVar 0) (eBin oSub (eVar 3) (eLit (.int 1))))) (aCons (eBin oSub (eVar 1) (eVar 3)) aNil))) (sRet (eTup (aCons (eArg bMax2 (aCons (eLit (.int 0)) (aCons (eBin oDiv (eBin oSub (eBin oCat (eVar 4) (eVar 5)) (eLit (.int 1))) (eVar 5)) aNil))) (aCons (eArg bMin2 (aCons (eVar 0) (aCons (eBin oDiv (eVar 2) (eVar 3)) aNil))) aNil)))))⟩
noncomputable def b22 : FnB := ⟨4, 4, fun cf n0 => (sCons (sExpX (eCall cf 4 20 (nxA (aCons (eVar 0) (aCons (eVar 1) (aCons (eVar 2) (aCons (eVar 3) aNil))))))) (sRet (eCall cf 4 21 (aCons (eVar 0) (aCons (eVar 1) (aCons (eVar 2) (aCons (eVar 3) aNil)))))))⟩
noncomputable def b23 : FnB := ⟨4, 6, fun cf n0 => (sCons (sExpX (eCall cf 4 20 (nxA (aCons (eVar 0) (aCons (eVar 1) (aCons (eVar 2) (aCons (eVar 3) aNil))))))) (sCons (sAsg (gTp [(gNm 4), (gNm 5)]) (eCall cf 4 21 (aCons (eVar 0) (aCons (eVar 1) (aCons (eVar 2) (aCons (eVar 3) aNil)))))) (sRet (eMake cf 3 1 17 (aCons (eCall cf 5 16 (aCons (eVar 0) (aCons (eVar 1) (aCons (eVar 2) (aCons (eVar 3) (aCons (eVar 4) aNil)))))) (aCons (eCall cf 5 16 (aCons (eVar 0) (aCons (eVar 1) (aCons (eVar 2) (aCons (eVar 3) (aCons (eVar 5) aNil)))))) aNil))))))⟩
noncomputable def b24 : FnB := ⟨4, 6, fun cf n0 => (sCons (sExpX (eCall cf 3 12 (nxA (aCons (eVar 0) (aCons (eVar 1) (aCons (eVar 2) aNil)))))) (sCons (sExpX (eCall cf 3 11 (nxA (aCons (eVar 3) (aCons (eLit (.int 0)) (aCons (eBin oSub (eVar 0) (eLit (.int 1))) aNil)))))) (sCons (sAsg (gNm 4) (eBin oSub (eVar 0) (eVar 3))) (sCons (sAsg (gNm 5) (eBin oSub (eVar 2) (eBin oRep (eBin oSub (eVar 4) (eLit (.int 1))) (eBin oSub (eVar 1) (eLit (.int 1)))))) (sRet (eTup (aCons (eArg bMax2 (aCons (eLit (.int 0)) (aCons (eBin oDiv (eBin oCat (eVar 5) (eVar 3)) (eBin oCat (eVar 3) (eLit (.int 1)))) aNil))) (aCons (eArg bMin2 (aCons (eBin oSub (eVar 1) (eLit (.int 1))) (aCons (eBin oDiv (eVar 2) (eVar 4)) aNil))) aNil))))))))⟩
noncomputable def b25 : FnB := ⟨2, 2, fun cf n0 => (sCons (sExpX (eCall cf 1 10 (nxA (aCons (eVar 0) aNil)))) (sCons (sExpX (eCall cf 1 10 (nxA (aCons (eVar 1) aNil)))) (sIf (tOr (tBl (eNeQ cf [(0, 2), (1, 18), (2, 28)] [.non, .bl, .int, .str, .tup, .lst, .dct, .own 0, .own 1, .own 2] (eLenG cf [(0, 3)] (eVar 0)) (eLenG cf [(0, 3)] (eVar 1)))) (tBl (eNeQ cf [(0, 2), (1, 18), (2, 28)] [.non, .bl, .int, .str, .tup, .lst, .dct, .own 0, .own 1, .own 2] (eMeth cf 1 4 [(0, 6)] (eVar 0) aNil) (eMeth cf 1 4 [(0, 6)] (eVar 1) aNil)))) (sRse 9) sNil)))⟩
noncomputable def b26 : FnB := ⟨2, 4, fun cf n0 => (sRet (eLc (iZip (eSl (eMeth cf 1 5 [(0, 7)] (eVar 0) aNil) (pSo (eLit (.int 1))) (pSo (eUn oNeg (eLit (.int 1))))) (eSl (eMeth cf 1 5 [(0, 7)] (eVar 1) aNil) (pSo (eLit (.int 1))) (pSo (eUn oNeg (eLit (.int 1)))))) (gTp [(gNm 2), (gNm 3)]) [2, 3] tYesP (eBin oSub (eVar 2) (eVar 3))))⟩
noncomputable def b27 : FnB := ⟨3, 3, fun cf n0 => (sCons (sFld n0 [2] 6 (eVar 0) (eArg bTuple (aCons (eVar 1) aNil))) (sFld n0 [2] 7 (eVar 0) (eArg bTuple (aCons (eVar 2) aNil))))⟩
noncomputable def b28 : FnB := ⟨2, 2, fun cf n0 => (sRet (eAn (eIsi [(.non, false), (.bl, false), (.int, false), (.str, false), (.tup, false), (.lst, false), (.dct, false), (.own 0, false), (.own 1, false), (.own 2, true)] (eVar 1)) (eEqQ cf [(0, 2), (1, 18), (2, 28)] [.non, .bl, .int, .str, .tup, .lst, .dct, .own 0, .own 1, .own 2] (eTup (aCons (eFld [2] 6 (eVar 0)) (aCons (eFld [2] 7 (eVar 0)) aNil))) (eTup (aCons (eFld [2] 6 (eVar 1)) (aCons (eFld [2] 7 (eVar 1)) aNil))))))⟩
noncomputable def b29 : FnB := ⟨3, 14, fun cf n0 => (sCons (sExpX (eCall cf 2 25 (nxA (aCons (eVar 1) (aCons (eVar 2) aNil))))) (sCons (sIf (tOr (tBl (eNeQ cf [(0, 2), (1, 18), (2, 28)] [.non, .bl, .int, .str, .tup, .lst, .dct, .own 0, .own 1, .own 2] (eLenG cf [(0, 3)] (eFld [2] 6 (eVar 0))) (eBin oSub (eLenG cf [(0, 3)] (eVar 1)) (eLit (.int 1))))) (tBl (eNeQ cf [(0, 2), (1, 18), (2, 28)] [.non, .bl, .int, .str, .tup, .lst, .dct, .own 0, .own 1, .own 2] (eLenG cf [(0, 3)] (eFld [2] 7 (eVar 0))) (eLenG cf [(0, 3)] (eVar 1))))) (sRet (eLit (.bl false))) sNil) (sCons (sAsg (gNm 3) (eLst (aCons (eLit (.int 0)) (aStar (eFld [2] 6 (eVar 0)) (aCons (eLit (.int 0)) aNil))))) (sCons (sAsg (gNm 4) (eLc (iZip3 (eFld [0] 0 (eVar 1)) (eVar 3) (eSl (eVar 3) (pSo (eLit (.int 1))) pNo)) (gTp [(gNm 6), (gNm 7), (gNm 8)]) [6, 7, 8] tYesP (eBin oSub (eBin oCat (eVar 6) (eVar 7)) (eVar 8)))) (sCons (sIf (tBl (eNeQ cf [(0, 2), (1, 18), (2, 28)] [.non, .bl, .int, .str, .tup, .lst, .dct, .own 0, .own 1, .own 2] (eArg bTuple (aCons (eVar 4) aNil)) (eFld [0] 0 (eVar 2)))) (sRet (eLit (.bl false))) sNil) (sCons (sIf (tTru (eArg bAny (aCons (eLc (iZip (eFld [2] 7 (eVar 0)) (eSl (eFld [2] 7 (eVar 0)) (pSo (eLit (.int 1))) pNo)) (gTp [(gNm 9), (gNm 10)]) [9, 10] tYesP (eBin oGt (eArg bAbs (aCons (eBin oSub (eVar 9) (eVar 10)) aNil)) (eLit (.int 1)))) aNil))) (sRet (eLit (.bl false))) sNil) (sCons (sAsg (gNm 5) (eArg bSum (aCons (eLc (iZip3 (eFld [2] 7 (eVar 0)) (eFld [0] 0 (eVar 2)) (eFld [0] 0 (eVar 1))) (gTp [(gNm 11), (gNm 8), (gNm 12)]) [11, 8, 12] tYesP (eBin oRep (eVar 11) (eBin oSub (eVar 8) (eVar 12)))) aNil))) (sRet (eEqQ cf [(0, 2), (1, 18), (2, 28)] [.non, .bl, .int, .str, .tup, .lst, .dct, .own 0, .own 1, .own 2] (eVar 5) (eArg bSum (aCons (eLc (iSeqH (eFld [2] 6 (eVar 0))) (gNm 13) [13] tYesP (eArg bAbs (aCons (eVar 13) aNil))) aNil)))))))))))⟩
noncomputable def b30 : FnB := ⟨2, 3, fun cf n0 => (sCons (sExpX (eCall cf 2 25 (nxA (aCons (eVar 0) (aCons (eVar 1) aNil))))) (sRet (eArg bSum (aCons (eLc (iSeqH (eCall cf 2 26 (aCons (eVar 0) (aCons (eVar 1) aNil)))) (gNm 2) [2] tYesP (eArg bAbs (aCons (eVar 2) aNil))) aNil))))⟩
noncomputable def b31 : FnB := ⟨2, 5, fun cf n0 => (sCons (sExpX (eCall cf 2 25 (nxA (aCons (eVar 0) (aCons (eVar 1) aNil))))) (sCons (sPar [2, 3] (aCons (eCall cf 2 26 (aCons (eVar 0) (aCons (eVar 1) aNil))) (aCons (eNew (eLst (aCons (eLit (.int 0)) aNil))) aNil))) (sCons (sFor (iSeqH (eVar 2)) (gNm 4) (sExp (eLm (appL n0) (eVar 3) (eBin oCat (eIx cf [(0, 4)] (eVar 3) (eUn oNeg (eLit (.int 1)))) (eIf (tBl (eBin oGt (eVar 4) (eLit (.int 0)))) (eLit (.int 1)) (eIf (tBl (eBin oLt (eVar 4) (eLit (.int 0)))) (eUn oNeg (eLit (.int 1))) (eLit (.int 0)))))))) (sRet (eMake cf 3 2 27 (aCons (eVar 2) (aCons (eVar 3) aNil)))))))⟩
noncomputable def b32 : FnB := ⟨2, 4, fun cf n0 => (sCons (sExpX (eCall cf 2 25 (nxA (aCons (eVar 0) (aCons (eVar 1) aNil))))) (sRet (eArg bSum (aCons (eLc (iZip (eFld [0] 0 (eVar 0)) (eFld [0] 0 (eVar 1))) (gTp [(gNm 2), (gNm 3)]) [2, 3] tYesP (eArg bMax2 (aCons (eLit (.int 0)) (aCons (eBin oSub (eVar 2) (eVar 3)) aNil)))) aNil))))⟩
noncomputable def b33 : FnB := ⟨2, 4, fun cf n0 => (sCons (sExpX (eCall cf 2 25 (nxA (aCons (eVar 0) (aCons (eVar 1) aNil))))) (sRet (eArg bMaxL (aCons (eLst (aCons (eLit (.int 0)) (aStar (eLc (iZip (eMeth cf 1 9 [(0, 9)] (eVar 0) aNil) (eMeth cf 1 9 [(0, 9)] (eVar 1) aNil)) (gTp [(gNm 2), (gNm 3)]) [2, 3] tYesP (eArg bAbs (aCons (eBin oSub (eVar 2) (eVar 3)) aNil))) aNil))) aNil))))⟩
noncomputable def b34 : FnB := ⟨2, 8, fun cf n0 => (sCons (sAsg (gNm 2) (eIf (tBl (eNeQ cf [(0, 2), (1, 18), (2, 28)] [.non, .bl, .int, .str, .tup, .lst, .dct, .own 0, .own 1, .own 2] (eVar 0) (eLst aNil))) (eSl (eVar 0) pNo (pSo (eLit (.int 63)))) (eLst (aCons (eLit (.int 5)) aNil)))) (sCons (sAsg (gNm 3) (eBin oCat (eIx cf [(0, 4)] (eVar 2) (eBin oMod (eArg bInt (aCons (eVar 1) aNil)) (eLenG cf [(0, 3)] (eVar 2)))) (eBin oRep (eLit (.int 13)) (eBin oDiv (eVar 1) (eLenG cf [(0, 3)] (eVar 2)))))) (sCons (sPar [4, 5] (aCons (eBin oMod (eArg bInt (aCons (eVar 3) aNil)) (eLit (.int 1000003))) (aCons (eBin oMod (eArg bInt (aCons (eBin oDiv (eVar 3) (eLit (.int 1000003))) aNil)) (eLit (.int 999983))) aNil))) (sCons (sAsg (gNm 6) (eBin oMod (eArg bInt (aCons (eArg bSum (aCons (eVar 2) aNil)) aNil)) (eLit (.int 65521)))) (sCons (sAsg (gNm 7) (eBin oMod (eArg bInt (aCons (eBin oCat (eBin oCat (eBin oRep (eBin oCat (eVar 4) (eBin oRep (eLit (.int 977)) (eVar 1))) (eLit (.int 48271))) (eBin oRep (eLit (.int 31)) (eVar 5))) (eVar 6)) aNil)) (eLit (.int 2147483647)))) (sRet (eBin oCat (eBin oRep (eBin oMod (eArg bInt (aCons (eBin oRep (eVar 7) (eBin oCat (eBin oCat (eVar 7) (eBin oRep (eLit (.int 31)) (eVar 1))) (eLit (.int 7)))) aNil)) (eLit (.int 2147483629))) (eLit (.int 65537))) (eVar 5))))))))⟩
noncomputable def b35 : FnB := ⟨2, 2, fun cf n0 => (sCons (sSetI (setG n0) (eVar 0) (eLit (.int 1)) (eBin oCat (eIx cf [(0, 4)] (eVar 0) (eLit (.int 1))) (eLit (.int 1)))) (sRet (eBin oMod (eArg bInt (aCons (eCall cf 2 34 (aCons (eIx cf [(0, 4)] (eVar 0) (eLit (.int 0))) (aCons (eArg bInt (aCons (eIx cf [(0, 4)] (eVar 0) (eLit (.int 1))) aNil)) aNil))) aNil)) (eVar 1))))⟩
noncomputable def b36 : FnB := ⟨2, 2, fun cf n0 => (sRet (eIx cf [(0, 4)] (eVar 1) (eCall cf 2 35 (aCons (eVar 0) (aCons (eLenG cf [(0, 3)] (eVar 1)) aNil)))))⟩
noncomputable def b37 : FnB := ⟨3, 3, fun cf n0 => (sRet (eAn (eIsi [(.non, false), (.bl, true), (.int, true), (.str, false), (.tup, false), (.lst, false), (.dct, false), (.own 0, false), (.own 1, false), (.own 2, false)] (eVar 0)) (eAn (eNot (eIsi [(.non, false), (.bl, true), (.int, false), (.str, false), (.tup, false), (.lst, false), (.dct, false), (.own 0, false), (.own 1, false), (.own 2, false)] (eVar 0))) (eCh oLe oLe (eVar 1) (eVar 0) (eVar 2)))))⟩
noncomputable def b38 : FnB := ⟨1, 1, fun cf n0 => sNo⟩
noncomputable def b39 : FnB := ⟨1, 3, fun cf n0 => (sCons (sAsg (gNm 1) (eLc (iSeqH (eVar 0)) (gNm 2) [2] (tBl (eNeQ cf [(0, 2), (1, 18), (2, 28)] [.non, .bl, .int, .str, .tup, .lst, .dct, .own 0, .own 1, .own 2] (eVar 2) (eLit (.str "none")))) (eVar 2))) (sRet (eIf (tBl (eNeQ cf [(0, 2), (1, 18), (2, 28)] [.non, .bl, .int, .str, .tup, .lst, .dct, .own 0, .own 1, .own 2] (eVar 1) (eLst aNil))) (eIx cf [(0, 4)] (eVar 1) (eLit (.int 0))) (eLit (.str "none")))))⟩
noncomputable def b40 : FnB := ⟨2, 2, fun cf n0 => (sRet (eIf (tTru (eVar 0)) (eLit (.str "none")) (eVar 1)))⟩
noncomputable def b41 : FnB := ⟨1, 12, fun cf n0 => (sCons (sAsg (gTp [(gNm 1), (gNm 2)]) (eTup (aCons (eCall cf 2 36 (aCons (eVar 0) (aCons (eLst (aCons (eLit (.int 1)) (aCons (eLit (.int 4)) (aCons (eLit (.int 20)) (aCons (eLit (.int 21)) (aCons (eLit (.int 0)) (aCons (eLit (.bl true)) (aCons (eLit .non) aNil)))))))) aNil))) (aCons (eCall cf 2 36 (aCons (eVar 0) (aCons (eLst (aCons (eLit (.int 1)) (aCons (eLit (.int 2)) (aCons (eLit (.int 5)) (aCons (eLit (.int 12)) (aCons (eLit (.int 13)) (aCons (eLit (.int 0)) (aCons (eLit (.bl true)) (aCons (eLit (.str "5")) aNil))))))))) aNil))) aNil)))) (sCons (sAsg (gNm 3) (eCall cf 1 39 (aCons (eLst (aCons (eCall cf 2 40 (aCons (eCall cf 3 37 (aCons (eVar 1) (aCons (eLit (.int 1)) (aCons (eLit (.int 20)) aNil)))) (aCons (eLit (.str "number")) aNil))) (aCons (eCall cf 2 40 (aCons (eCall cf 3 37 (aCons (eVar 2) (aCons (eLit (.int 1)) (aCons (eLit (.int 12)) aNil)))) (aCons (eLit (.str "number")) aNil))) aNil))) aNil))) (sCons (sAsg (gNm 4) (eIf (tBl (eEqQ cf [(0, 2), (1, 18), (2, 28)] [.non, .bl, .int, .str, .tup, .lst, .dct, .own 0, .own 1, .own 2] (eVar 3) (eLit (.str "none")))) (eBin oRep (eVar 1) (eBin oSub (eVar 2) (eLit (.int 1)))) (eLit (.int 0)))) (sCons (sAsg (gNm 5) (eCall cf 2 36 (aCons (eVar 0) (aCons (eLst (aCons (eLit (.int 0)) (aCons (eVar 4) (aCons (eBin oCat (eVar 4) (eLit (.int 1))) (aCons (eUn oNeg (eLit (.int 1))) (aCons (eLit (.bl true)) (aCons (eLit .non) (aCons (eBin oDiv (eVar 4) (eLit (.int 2))) aNil)))))))) aNil)))) (sCons (sAsg (gNm 6) (eCall cf 1 39 (aCons (eLst (aCons (eVar 3) (aCons (eCall cf 2 40 (aCons (eOr (eNeQ cf [(0, 2), (1, 18), (2, 28)] [.non, .bl, .int, .str, .tup, .lst, .dct, .own 0, .own 1, .own 2] (eVar 3) (eLit (.str "none"))) (eCall cf 3 37 (aCons (eVar 5) (aCons (eLit (.int 0)) (aCons (eVar 4) aNil))))) (aCons (eLit (.str "sum")) aNil))) aNil))) aNil))) (sCons (sAsg (gTp [(gNm 7), (gNm 8)]) (eTup (aCons (eCall cf 2 36 (aCons (eVar 0) (aCons (eLst (aCons (eLit (.int 0)) (aCons (eLit (.int 1)) (aCons (eLit (.int 2)) (aCons (eLit (.int 4)) (aCons (eLit (.int 11)) (aCons (eLit (.int 12)) (aCons (eLit .non) (aCons (eLit (.bl true)) aNil))))))))) aNil))) (aCons (eCall cf 2 36 (aCons (eVar 0) (aCons (eLst (aCons (eLit (.int 0)) (aCons (eLit (.int 1)) (aCons (eLit (.int 3)) (aCons (eLit (.int 19)) (aCons (eLit (.int 20)) (aCons (eUn oNeg (eLit (.int 1))) (aCons (eLit (.bl true)) (aCons (eLit .non) aNil))))))))) aNil))) aNil)))) (sCons (sAsg (gNm 9) (eCall cf 1 39 (aCons (eLst (aCons (eVar 6) (aCons (eCall cf 2 40 (aCons (eOr (eNeQ cf [(0, 2), (1, 18), (2, 28)] [.non, .bl, .int, .str, .tup, .lst, .dct, .own 0, .own 1, .own 2] (eVar 6) (eLit (.str "none"))) (eCall cf 3 37 (aCons (eVar 7) (aCons (eLit (.int 1)) (aCons (eBin oSub (eVar 2) (eLit (.int 1))) aNil))))) (aCons (eLit (.str "value")) aNil))) aNil))) aNil))) (sLams 10 (sCons (sIf (tWords wt38 "none" cmpNe selAny [(eCall cf 4 22 (nxA (aCons (eVar 1) (aCons (eVar 2) (aCons (eVar 5) (aCons (eVar 7) aNil)))))), (eCall cf 4 23 (nxA (aCons (eVar 1) (aCons (eVar 2) (aCons (eVar 5) (aCons (eVar 7) aNil)))))), (eMeth cf 5 10 [(1, 19), (2, 29)] (nxE (eMake cf 3 1 17 (aCons (eTup aNil) (aCons (eTup aNil) aNil)))) (nxA (aCons (eVar 1) (aCons (eVar 2) (aCons (eVar 5) (aCons (eVar 7) aNil))))))] 9 11) (sRet (eLit (.bl false))) sNil) (sCons (sAsg (gNm 9) (eCall cf 1 39 (aCons (eLst (aCons (eVar 6) (aCons (eCall cf 2 40 (aCons (eOr (eNeQ cf [(0, 2), (1, 18), (2, 28)] [.non, .bl, .int, .str, .tup, .lst, .dct, .own 0, .own 1, .own 2] (eVar 6) (eLit (.str "none"))) (eCall cf 3 37 (aCons (eVar 8) (aCons (eLit (.int 0)) (aCons (eBin oSub (eVar 1) (eLit (.int 1))) aNil))))) (aCons (eLit (.str "number")) aNil))) aNil))) aNil))) (sRet (eEqQ cf [(0, 2), (1, 18), (2, 28)] [.non, .bl, .int, .str, .tup, .lst, .dct, .own 0, .own 1, .own 2] (eWord (eCall cf 4 24 (nxA (aCons (eVar 1) (aCons (eVar 2) (aCons (eVar 5) (aCons (eVar 8) aNil)))))) wt38 "none") (eVar 9)))))))))))))⟩
noncomputable def b42 : FnB := ⟨1, 7, fun cf n0 => (sCons (sAsg (gNm 1) (eLst (aCons (eMake cf 2 0 1 (aCons (eLst (aCons (eLit (.int 1)) (aCons (eLit (.int 2)) aNil))) aNil)) (aCons (eMake cf 2 0 1 (aCons (eLst (aCons (eLit (.int 2)) (aCons (eLit (.int 1)) aNil))) aNil)) (aCons (eMake cf 2 0 1 (aCons (eLst (aCons (eLit (.int 3)) aNil)) aNil)) (aCons (eMake cf 2 0 1 (aCons (eLst (aCons (eLit (.int 0)) (aCons (eLit (.int 0)) aNil))) aNil)) (aCons (eMake cf 2 0 1 (aCons (eLst (aCons (eLit (.int 1)) (aCons (eLit (.int 2)) (aCons (eLit (.int 0)) aNil)))) aNil)) (aCons (eLit .non) (aCons (eLst (aCons (eLit (.int 1)) (aCons (eLit (.int 2)) aNil))) aNil))))))))) (sCons (sAsg (gTp [(gNm 2), (gNm 3)]) (eTup (aCons (eCall cf 2 36 (aCons (eVar 0) (aCons (eVar 1) aNil))) (aCons (eCall cf 2 36 (aCons (eVar 0) (aCons (eVar 1) aNil))) aNil)))) (sCons (sAsg (gNm 4) (eCall cf 1 39 (aCons (eLst (aCons (eCall cf 2 40 (aCons (eIsi [(.non, false), (.bl, false), (.int, false), (.str, false), (.tup, false), (.lst, false), (.dct, false), (.own 0, true), (.own 1, false), (.own 2, false)] (eVar 2)) (aCons (eLit (.str "column")) aNil))) (aCons (eCall cf 2 40 (aCons (eIsi [(.non, false), (.bl, false), (.int, false), (.str, false), (.tup, false), (.lst, false), (.dct, false), (.own 0, true), (.own 1, false), (.own 2, false)] (eVar 3)) (aCons (eLit (.str "column")) aNil))) aNil))) aNil))) (sCons (sIf (tBl (eEqQ cf [(0, 2), (1, 18), (2, 28)] [.non, .bl, .int, .str, .tup, .lst, .dct, .own 0, .own 1, .own 2] (eVar 4) (eLit (.str "none")))) (sAsg (gNm 4) (eCall cf 2 40 (aCons (eAn (eEqQ cf [(0, 2), (1, 18), (2, 28)] [.non, .bl, .int, .str, .tup, .lst, .dct, .own 0, .own 1, .own 2] (eLenG cf [(0, 3)] (eVar 2)) (eLenG cf [(0, 3)] (eVar 3))) (eEqQ cf [(0, 2), (1, 18), (2, 28)] [.non, .bl, .int, .str, .tup, .lst, .dct, .own 0, .own 1, .own 2] (eMeth cf 1 4 [(0, 6)] (eVar 2) aNil) (eMeth cf 1 4 [(0, 6)] (eVar 3) aNil))) (aCons (eLit (.str "unlike")) aNil)))) sNil) (sLams 5 (sRetT (tWords wt38 "none" cmpEq selAll [(eCall cf 2 30 (nxA (aCons (eVar 2) (aCons (eVar 3) aNil)))), (eCall cf 2 31 (nxA (aCons (eVar 2) (aCons (eVar 3) aNil)))), (eCall cf 2 32 (nxA (aCons (eVar 2) (aCons (eVar 3) aNil)))), (eCall cf 2 33 (nxA (aCons (eVar 2) (aCons (eVar 3) aNil)))), (eMeth cf 3 10 [(1, 19), (2, 29)] (nxE (eMake cf 3 2 27 (aCons (eTup aNil) (aCons (eTup aNil) aNil)))) (nxA (aCons (eVar 2) (aCons (eVar 3) aNil))))] 4 6)))))))⟩
noncomputable def b43 : FnB := ⟨0, 2, fun cf n0 => (sCons (sIf (tBl (eNeQ cf [(0, 2), (1, 18), (2, 28)] [.non, .bl, .int, .str, .tup, .lst, .dct, .own 0, .own 1, .own 2] (eLst (aCons (eCall cf 4 22 (aCons (eLit (.int 10)) (aCons (eLit (.int 2)) (aCons (eLit (.int 7)) (aCons (eLit (.int 1)) aNil))))) (aCons (eCall cf 4 22 (aCons (eLit (.int 20)) (aCons (eLit (.int 12)) (aCons (eLit (.int 0)) (aCons (eLit (.int 5)) aNil))))) (aCons (eCall cf 4 22 (aCons (eLit (.int 20)) (aCons (eLit (.int 12)) (aCons (eLit (.int 220)) (aCons (eLit (.int 11)) aNil))))) (aCons (eCall cf 4 22 (aCons (eLit (.int 5)) (aCons (eLit (.int 11)) (aCons (eLit (.int 30)) (aCons (eLit (.int 10)) aNil))))) aNil))))) (eLst (aCons (eTup (aCons (eLit (.int 7)) (aCons (eLit (.int 7)) aNil))) (aCons (eTup (aCons (eLit (.int 0)) (aCons (eLit (.int 0)) aNil))) (aCons (eTup (aCons (eLit (.int 20)) (aCons (eLit (.int 20)) aNil))) (aCons (eTup (aCons (eLit (.int 0)) (aCons (eLit (.int 3)) aNil))) aNil))))))) (sRet (eLit (.bl false))) sNil) (sCons (sIf (tBl (eNeQ cf [(0, 2), (1, 18), (2, 28)] [.non, .bl, .int, .str, .tup, .lst, .dct, .own 0, .own 1, .own 2] (eLst (aCons (eCall cf 4 22 (aCons (eLit (.int 3)) (aCons (eLit (.int 12)) (aCons (eLit (.int 32)) (aCons (eLit (.int 11)) aNil))))) (aCons (eCall cf 4 24 (aCons (eLit (.int 3)) (aCons (eLit (.int 12)) (aCons (eLit (.int 32)) (aCons (eLit (.int 0)) aNil))))) (aCons (eCall cf 4 24 (aCons (eLit (.int 10)) (aCons (eLit (.int 2)) (aCons (eLit (.int 7)) (aCons (eLit (.int 2)) aNil))))) (aCons (eCall cf 4 24 (aCons (eLit (.int 10)) (aCons (eLit (.int 2)) (aCons (eLit (.int 7)) (aCons (eLit (.int 3)) aNil))))) (aCons (eCall cf 4 24 (aCons (eLit (.int 1)) (aCons (eLit (.int 12)) (aCons (eLit (.int 6)) (aCons (eLit (.int 0)) aNil))))) aNil)))))) (eLst (aCons (eTup (aCons (eLit (.int 2)) (aCons (eLit (.int 2)) aNil))) (aCons (eTup (aCons (eLit (.int 10)) (aCons (eLit (.int 10)) aNil))) (aCons (eTup (aCons (eLit (.int 0)) (aCons (eLit (.int 0)) aNil))) (aCons (eTup (aCons (eLit (.int 1)) (aCons (eLit (.int 1)) aNil))) (aCons (eTup (aCons (eLit (.int 6)) (aCons (eLit (.int 6)) aNil))) aNil)))))))) (sRet (eLit (.bl false))) sNil) (sCons (sPar [0, 1] (aCons (eMake cf 2 0 1 (aCons (eLst (aCons (eLit (.int 9)) (aCons (eLit (.int 0)) (aCons (eLit (.int 0)) (aCons (eLit (.int 9)) aNil))))) aNil)) (aCons (eMake cf 2 0 1 (aCons (eLst (aCons (eLit (.int 0)) (aCons (eLit (.int 9)) (aCons (eLit (.int 9)) (aCons (eLit (.int 0)) aNil))))) aNil)) aNil))) (sCons (sIf (tBl (eNeQ cf [(0, 2), (1, 18), (2, 28)] [.non, .bl, .int, .str, .tup, .lst, .dct, .own 0, .own 1, .own 2] (eLst (aCons (eCall cf 2 30 (aCons (eVar 0) (aCons (eVar 1) aNil))) (aCons (eCall cf 2 32 (aCons (eVar 0) (aCons (eVar 1) aNil))) (aCons (eCall cf 2 33 (aCons (eVar 0) (aCons (eVar 1) aNil))) (aCons (eFld [2] 6 (eCall cf 2 31 (aCons (eVar 0) (aCons (eVar 1) aNil)))) aNil))))) (eLst (aCons (eLit (.int 18)) (aCons (eLit (.int 18)) (aCons (eLit (.int 1)) (aCons (eTup (aCons (eLit (.int 9)) (aCons (eLit (.int 0)) (aCons (eUn oNeg (eLit (.int 9))) aNil)))) aNil))))))) (sRet (eLit (.bl false))) sNil) (sCons (sIf (tBl (eNeQ cf [(0, 2), (1, 18), (2, 28)] [.non, .bl, .int, .str, .tup, .lst, .dct, .own 0, .own 1, .own 2] (eLst (aCons (eCall cf 2 30 (aCons (eMake cf 2 0 1 (aCons (eLst (aCons (eLit (.int 0)) aNil)) aNil)) (aCons (eMake cf 2 0 1 (aCons (eLst (aCons (eLit (.int 0)) aNil)) aNil)) aNil))) (aCons (eCall cf 2 33 (aCons (eMake cf 2 0 1 (aCons (eLst (aCons (eLit (.int 0)) (aCons (eLit (.int 0)) aNil))) aNil)) (aCons (eMake cf 2 0 1 (aCons (eLst (aCons (eLit (.int 0)) (aCons (eLit (.int 0)) aNil))) aNil)) aNil))) (aCons (eFld [2] 6 (eCall cf 2 31 (aCons (eMake cf 2 0 1 (aCons (eLst (aCons (eLit (.int 4)) aNil)) aNil)) (aCons (eMake cf 2 0 1 (aCons (eLst (aCons (eLit (.int 4)) aNil)) aNil)) aNil)))) aNil)))) (eLst (aCons (eLit (.int 0)) (aCons (eLit (.int 0)) (aCons (eTup aNil) aNil)))))) (sRet (eLit (.bl false))) sNil) (sCons (sIf (tOr (tBl (eNeQ cf [(0, 2), (1, 18), (2, 28)] [.non, .bl, .int, .str, .tup, .lst, .dct, .own 0, .own 1, .own 2] (eCall cf 2 30 (aCons (eMake cf 2 0 1 (aCons (eBin oCat (eLst (aCons (eLit (.int 1)) aNil)) (eBin oRep (eLst (aCons (eLit (.int 0)) aNil)) (eLit (.int 11)))) aNil)) (aCons (eMake cf 2 0 1 (aCons (eBin oCat (eBin oRep (eLst (aCons (eLit (.int 0)) aNil)) (eLit (.int 11))) (eLst (aCons (eLit (.int 1)) aNil))) aNil)) aNil))) (eLit (.int 11)))) (tNo (tTru (eMeth cf 3 10 [(1, 19), (2, 29)] (eMake cf 3 2 27 (aCons (eBin oRepT (eTup (aCons (eLit (.int 1)) aNil)) (eLit (.int 11))) (aCons (eLr1 (eLit (.int 12))) aNil))) (aCons (eMake cf 2 0 1 (aCons (eBin oCat (eLst (aCons (eLit (.int 1)) aNil)) (eBin oRep (eLst (aCons (eLit (.int 0)) aNil)) (eLit (.int 11)))) aNil)) (aCons (eMake cf 2 0 1 (aCons (eBin oCat (eBin oRep (eLst (aCons (eLit (.int 0)) aNil)) (eLit (.int 11))) (eLst (aCons (eLit (.int 1)) aNil))) aNil)) aNil)))))) (sRet (eLit (.bl false))) sNil) (sCons (sIf (tOr (tBl (eNeQ cf [(0, 2), (1, 18), (2, 28)] [.non, .bl, .int, .str, .tup, .lst, .dct, .own 0, .own 1, .own 2] (eMake cf 3 1 17 (aCons (eLst (aCons (eLit (.int 1)) aNil)) (aCons (eLst (aCons (eLit (.int 2)) aNil)) aNil))) (eMake cf 3 1 17 (aCons (eTup (aCons (eLit (.int 1)) aNil)) (aCons (eTup (aCons (eLit (.int 2)) aNil)) aNil))))) (tOr (tBl (eEqQ cf [(0, 2), (1, 18), (2, 28)] [.non, .bl, .int, .str, .tup, .lst, .dct, .own 0, .own 1, .own 2] (eMake cf 3 1 17 (aCons (eTup (aCons (eLit (.int 1)) aNil)) (aCons (eTup (aCons (eLit (.int 2)) aNil)) aNil))) (eMake cf 3 1 17 (aCons (eTup (aCons (eLit (.int 1)) aNil)) (aCons (eTup (aCons (eLit (.int 1)) aNil)) aNil))))) (tBl (eEqQ cf [(0, 2), (1, 18), (2, 28)] [.non, .bl, .int, .str, .tup, .lst, .dct, .own 0, .own 1, .own 2] (eMake cf 3 1 17 (aCons (eTup (aCons (eLit (.int 1)) aNil)) (aCons (eTup (aCons (eLit (.int 2)) aNil)) aNil))) (eMake cf 3 2 27 (aCons (eTup (aCons (eLit (.int 1)) aNil)) (aCons (eTup (aCons (eLit (.int 2)) aNil)) aNil))))))) (sRet (eLit (.bl false))) sNil) (sRet (eAn (eEqQ cf [(0, 2), (1, 18), (2, 28)] [.non, .bl, .int, .str, .tup, .lst, .dct, .own 0, .own 1, .own 2] (eMake cf 3 2 27 (aCons (eLst (aCons (eLit (.int 1)) aNil)) (aCons (eLst (aCons (eLit (.int 0)) (aCons (eLit (.int 1)) aNil))) aNil))) (eMake cf 3 2 27 (aCons (eTup (aCons (eLit (.int 1)) aNil)) (aCons (eTup (aCons (eLit (.int 0)) (aCons (eLit (.int 1)) aNil))) aNil)))) (eAn (eNeQ cf [(0, 2), (1, 18), (2, 28)] [.non, .bl, .int, .str, .tup, .lst, .dct, .own 0, .own 1, .own 2] (eMake cf 3 2 27 (aCons (eTup (aCons (eLit (.int 1)) aNil)) (aCons (eTup (aCons (eLit (.int 0)) (aCons (eLit (.int 1)) aNil))) aNil))) (eMake cf 3 2 27 (aCons (eTup (aCons (eLit (.int 1)) aNil)) (aCons (eTup (aCons (eLit (.int 0)) (aCons (eLit (.int 0)) aNil))) aNil)))) (eNeQ cf [(0, 2), (1, 18), (2, 28)] [.non, .bl, .int, .str, .tup, .lst, .dct, .own 0, .own 1, .own 2] (eMake cf 3 2 27 (aCons (eTup (aCons (eLit (.int 1)) aNil)) (aCons (eTup (aCons (eLit (.int 0)) (aCons (eLit (.int 1)) aNil))) aNil))) (eMake cf 3 2 27 (aCons (eTup aNil) (aCons (eTup (aCons (eLit (.int 0)) (aCons (eLit (.int 1)) aNil))) aNil))))))))))))))⟩
noncomputable def b44 : FnB := ⟨1, 3, fun cf n0 => (sCons (sAsg (gNm 1) (eNew (eLst (aCons (eVar 0) (aCons (eLit (.int 0)) aNil))))) (sCons (sFor (iRg1 (eLit (.int 6))) (gNm 2) (sIf (tOr (tNo (tTru (eCall cf 1 41 (aCons (eVar 1) aNil)))) (tOr (tNo (tTru (eCall cf 1 42 (aCons (eVar 1) aNil)))) (tNo (tTru (eCall cf 0 43 aNil))))) (sRet (eLit (.bl false))) sNil)) (sRet (eLit (.bl true)))))⟩
noncomputable def TT : Nat → Option FnB
  | 0 => some b0
  | 1 => some b1
  | 2 => some b2
  | 3 => some b3
  | 4 => some b4
  | 5 => some b5
  | 6 => some b6
  | 7 => some b7
  | 8 => some b8
  | 9 => some b9
  | 10 => some b10
  | 11 => some b11
  | 12 => some b12
  | 13 => some b13
  | 14 => some b14
  | 15 => some b15
  | 16 => some b16
  | 17 => some b17
  | 18 => some b18
  | 19 => some b19
  | 20 => some b20
  | 21 => some b21
  | 22 => some b22
  | 23 => some b23
  | 24 => some b24
  | 25 => some b25
  | 26 => some b26
  | 27 => some b27
  | 28 => some b28
  | 29 => some b29
  | 30 => some b30
  | 31 => some b31
  | 32 => some b32
  | 33 => some b33
  | 34 => some b34
  | 35 => some b35
  | 36 => some b36
  | 37 => some b37
  | 38 => some b38
  | 39 => some b39
  | 40 => some b40
  | 41 => some b41
  | 42 => some b42
  | 43 => some b43
  | 44 => some b44
  | _ => none
end PX.K64
set_option Elab.async false
set_option linter.all false
set_option maxRecDepth 100000
set_option maxHeartbeats 4000000
namespace PX.K64
open PySem PySem.Spec PyProof.Rows L2 He PX
def top (i : Nat) : Stmt := PySem.Challenge.pw_bucketsums_k64_whole_refused_more.main.body.getD i (.Pass ⟨0, 0, 0, 0⟩)
def fs : List (Str × Option Str) := ("is_number", none) :: ("Column", some "__init__") :: ("Column", some "__eq__") :: ("Column", some "__len__") :: ("Column", some "__getitem__") :: ("Column", some "__iter__") :: ("Column", some "rows") :: ("Column", some "prefixes") :: ("Column", some "steps") :: ("Column", some "sorted_rows") :: ("check_column", none) :: ("check_number", none) :: ("check_known", none) :: ("spread_over", none) :: ("lowest_with", none) :: ("highest_with", none) :: ("row_with", none) :: ("Ends", some "__init__") :: ("Ends", some "__eq__") :: ("Ends", some "shows") :: ("check_asked", none) :: ("ends_of", none) :: ("at_least", none) :: ("reach_both", none) :: ("rank_values", none) :: ("check_pair", none) :: ("flows_of", none) :: ("Moved", some "__init__") :: ("Moved", some "__eq__") :: ("Moved", some "shows") :: ("least_steps", none) :: ("move_rows", none) :: ("fewest_changed", none) :: ("farthest_row", none) :: ("_law_number", none) :: ("_law_take", none) :: ("_law_pick", none) :: ("_law_is_number", none) :: ("_law_word", none) :: ("_law_first", none) :: ("_law_no", none) :: ("_law_sums_right", none) :: ("_law_columns_right", none) :: ("_law_known_right", none) :: ("law", none) :: []
def cs : List Str := ["Column", "Ends", "Moved", "SumError", "BadCounts", "BadColumn", "BadValue", "BadNumber", "BadSum", "Unlike"]
def nms : List Str := ["counts", "extend", "least", "greatest", "rows", "prefixes", "flows", "heights", "append", "sorted_rows", "shows", "__init__", "__eq__", "__len__", "__getitem__", "__iter__", "steps"]
def tfq : List (Defn × Str) := [(("_law_sums_right", none), "_law_sums_right"), (("_law_columns_right", none), "_law_columns_right")]
def tf : List Defn := [("_law_sums_right", none), ("_law_columns_right", none)]
abbrev GG : PySem.W.Frag → Gam := fun K => (gam fs cs nms K).ofTb (tbs tfq K)
def fb : List Ck := [cCls GG [0, 1, 2],
  cFree "isinstance",
  cFree "int",
  cKit GG [(.non, false), (.bl, true), (.int, true), (.str, false), (.tup, false), (.lst, false), (.dct, false), (.own 0, false), (.own 1, false), (.own 2, false)] (fun K => (.type "int")),
  cFree "bool",
  cKit GG [(.non, false), (.bl, true), (.int, false), (.str, false), (.tup, false), (.lst, false), (.dct, false), (.own 0, false), (.own 1, false), (.own 2, false)] (fun K => (.type "bool")),
  cFree "list",
  cFree "tuple",
  cKitT GG [(.non, false), (.bl, false), (.int, false), (.str, false), (.tup, true), (.lst, true), (.dct, false), (.own 0, false), (.own 1, false), (.own 2, false)] (fun K => [(.type "list"), (.type "tuple")]),
  cSpc GG [(0, 3)] "__len__",
  cFree "len",
  cInt "MOST_VALUES" (12),
  cGlo "BadCounts",
  (fun K => excB K ((GG K).ca 4)),
  cGlo "is_number",
  cKeep GG 0,
  cInt "MOST_COUNT" (9),
  cFree "all",
  cFld GG 0 [0],
  cGlo "Column",
  cKit GG [(.non, false), (.bl, false), (.int, false), (.str, false), (.tup, false), (.lst, false), (.dct, false), (.own 0, true), (.own 1, false), (.own 2, false)] (fun K => (.ref ((GG K).ca 0))),
  cSpc GG [(0, 2), (1, 18), (2, 28)] "__eq__",
  cNe GG [(0, 2), (1, 18), (2, 28)],
  cNf GG [(0, 2), (1, 18), (2, 28)] [.non, .bl, .int, .str, .tup, .lst, .dct, .own 0, .own 1, .own 2],
  cGlo "BadValue",
  (fun K => excB K ((GG K).ca 6)),
  cSpc GG [(0, 4)] "__getitem__",
  cFree "sum",
  cFree "range",
  cFree "zip",
  cFree "enumerate",
  cGlo "BadColumn",
  (fun K => excB K ((GG K).ca 5)),
  cGlo "BadNumber",
  (fun K => excB K ((GG K).ca 7)),
  cGlo "check_number",
  cKeep GG 11,
  cInt "MOST_ROWS" (20),
  cGlo "BadSum",
  (fun K => excB K ((GG K).ca 8)),
  cFree "min",
  cGlo "lowest_with",
  cKeep GG 14,
  cGlo "highest_with",
  cKeep GG 15,
  cGlo "spread_over",
  cKeep GG 13,
  cFld GG 2 [1],
  cFld GG 3 [1],
  cGlo "Ends",
  cKit GG [(.non, false), (.bl, false), (.int, false), (.str, false), (.tup, false), (.lst, false), (.dct, false), (.own 0, false), (.own 1, true), (.own 2, false)] (fun K => (.ref ((GG K).ca 1))),
  cGlo "check_asked",
  cKeep GG 20,
  cGlo "ends_of",
  cKeep GG 21,
  cGlo "check_known",
  cKeep GG 12,
  cFree "max",
  cGlo "row_with",
  cKeep GG 16,
  cMk GG 1 17,
  cGlo "check_column",
  cKeep GG 10,
  cMet GG 4 [(0, 6)],
  cGlo "Unlike",
  (fun K => excB K ((GG K).ca 9)),
  cMet GG 5 [(0, 7)],
  cFld GG 6 [2],
  cFld GG 7 [2],
  cGlo "Moved",
  cKit GG [(.non, false), (.bl, false), (.int, false), (.str, false), (.tup, false), (.lst, false), (.dct, false), (.own 0, false), (.own 1, false), (.own 2, true)] (fun K => (.ref ((GG K).ca 2))),
  cGlo "check_pair",
  cKeep GG 25,
  cFree "abs",
  cFree "any",
  cGlo "flows_of",
  cKeep GG 26,
  cMk GG 2 27,
  cMet GG 9 [(0, 9)],
  cGlo "_law_number",
  cKeep GG 34,
  cGlo "_law_take",
  cKeep GG 35,
  (fun K => ([(3, "other"), (4, "other"), (5, "column"), (6, "value"), (7, "number"), (8, "sum"), (9, "unlike")] : List (Nat × Str)).all fun p => decide (wordL K (xVal (GG K) p.1) [(.ref ((GG K).ca 5), "column"), (.ref ((GG K).ca 7), "number"), (.ref ((GG K).ca 8), "sum"), (.ref ((GG K).ca 6), "value"), (.ref ((GG K).ca 9), "unlike"), (.ref ((GG K).ca 3), "other")] = some p.2)),
  cGlo "SumError",
  cGlo "_law_word",
  cKeep GG 38,
  cGlo "at_least",
  cKeep GG 22,
  cGlo "reach_both",
  cKeep GG 23,
  cMet GG 10 [(1, 19), (2, 29)],
  cGlo "_law_first",
  cKeep GG 39,
  cGlo "_law_no",
  cKeep GG 40,
  cGlo "_law_is_number",
  cKeep GG 37,
  cGlo "rank_values",
  cKeep GG 24,
  cGlo "_law_pick",
  cKeep GG 36,
  cGlo "least_steps",
  cKeep GG 30,
  cGlo "move_rows",
  cKeep GG 31,
  cGlo "fewest_changed",
  cKeep GG 32,
  cGlo "farthest_row",
  cKeep GG 33,
  cMk GG 0 1,
  cGlo "_law_sums_right",
  cKeep GG 41,
  cGlo "_law_columns_right",
  cKeep GG 42,
  cGlo "_law_known_right",
  cKeep GG 43,
  cGlo "law",
  cKeep GG 44]
def d0 : DefD := ⟨("is_number", none), "is_number", "is_number", defArgs (top 12), defBody (top 12), defScope (top 12), [], []⟩
def d1 : DefD := ⟨("Column", some "__init__"), "__init__", "Column.__init__", defArgs (inClass (top 13) 0), defBody (inClass (top 13) 0), defScope (inClass (top 13) 0), [], []⟩
def d2 : DefD := ⟨("Column", some "__eq__"), "__eq__", "Column.__eq__", defArgs (inClass (top 13) 1), defBody (inClass (top 13) 1), defScope (inClass (top 13) 1), [], []⟩
def d3 : DefD := ⟨("Column", some "__len__"), "__len__", "Column.__len__", defArgs (inClass (top 13) 2), defBody (inClass (top 13) 2), defScope (inClass (top 13) 2), [], []⟩
def d4 : DefD := ⟨("Column", some "__getitem__"), "__getitem__", "Column.__getitem__", defArgs (inClass (top 13) 3), defBody (inClass (top 13) 3), defScope (inClass (top 13) 3), [], []⟩
def d5 : DefD := ⟨("Column", some "__iter__"), "__iter__", "Column.__iter__", defArgs (inClass (top 13) 4), defBody (inClass (top 13) 4), defScope (inClass (top 13) 4), [], []⟩
def d6 : DefD := ⟨("Column", some "rows"), "rows", "Column.rows", defArgs (inClass (top 13) 5), defBody (inClass (top 13) 5), defScope (inClass (top 13) 5), [], []⟩
def d7 : DefD := ⟨("Column", some "prefixes"), "prefixes", "Column.prefixes", defArgs (inClass (top 13) 6), defBody (inClass (top 13) 6), defScope (inClass (top 13) 6), [], []⟩
def d8 : DefD := ⟨("Column", some "steps"), "steps", "Column.steps", defArgs (inClass (top 13) 9), defBody (inClass (top 13) 9), defScope (inClass (top 13) 9), [], []⟩
def d9 : DefD := ⟨("Column", some "sorted_rows"), "sorted_rows", "Column.sorted_rows", defArgs (inClass (top 13) 10), defBody (inClass (top 13) 10), defScope (inClass (top 13) 10), [], []⟩
def d10 : DefD := ⟨("check_column", none), "check_column", "check_column", defArgs (top 14), defBody (top 14), defScope (top 14), [], []⟩
def d11 : DefD := ⟨("check_number", none), "check_number", "check_number", defArgs (top 15), defBody (top 15), defScope (top 15), [], []⟩
def d12 : DefD := ⟨("check_known", none), "check_known", "check_known", defArgs (top 18), defBody (top 18), defScope (top 18), [], []⟩
def d13 : DefD := ⟨("spread_over", none), "spread_over", "spread_over", defArgs (top 19), defBody (top 19), defScope (top 19), [], []⟩
def d14 : DefD := ⟨("lowest_with", none), "lowest_with", "lowest_with", defArgs (top 20), defBody (top 20), defScope (top 20), [], []⟩
def d15 : DefD := ⟨("highest_with", none), "highest_with", "highest_with", defArgs (top 21), defBody (top 21), defScope (top 21), [], []⟩
def d16 : DefD := ⟨("row_with", none), "row_with", "row_with", defArgs (top 22), defBody (top 22), defScope (top 22), [], []⟩
def d17 : DefD := ⟨("Ends", some "__init__"), "__init__", "Ends.__init__", defArgs (inClass (top 23) 0), defBody (inClass (top 23) 0), defScope (inClass (top 23) 0), [], []⟩
def d18 : DefD := ⟨("Ends", some "__eq__"), "__eq__", "Ends.__eq__", defArgs (inClass (top 23) 1), defBody (inClass (top 23) 1), defScope (inClass (top 23) 1), [], []⟩
def d19 : DefD := ⟨("Ends", some "shows"), "shows", "Ends.shows", defArgs (inClass (top 23) 2), defBody (inClass (top 23) 2), defScope (inClass (top 23) 2), [], []⟩
def d20 : DefD := ⟨("check_asked", none), "check_asked", "check_asked", defArgs (top 24), defBody (top 24), defScope (top 24), [], []⟩
def d21 : DefD := ⟨("ends_of", none), "ends_of", "ends_of", defArgs (top 25), defBody (top 25), defScope (top 25), [], []⟩
def d22 : DefD := ⟨("at_least", none), "at_least", "at_least", defArgs (top 26), defBody (top 26), defScope (top 26), [], []⟩
def d23 : DefD := ⟨("reach_both", none), "reach_both", "reach_both", defArgs (top 27), defBody (top 27), defScope (top 27), [], []⟩
def d24 : DefD := ⟨("rank_values", none), "rank_values", "rank_values", defArgs (top 28), defBody (top 28), defScope (top 28), [], []⟩
def d25 : DefD := ⟨("check_pair", none), "check_pair", "check_pair", defArgs (top 30), defBody (top 30), defScope (top 30), [], []⟩
def d26 : DefD := ⟨("flows_of", none), "flows_of", "flows_of", defArgs (top 31), defBody (top 31), defScope (top 31), [], []⟩
def d27 : DefD := ⟨("Moved", some "__init__"), "__init__", "Moved.__init__", defArgs (inClass (top 32) 0), defBody (inClass (top 32) 0), defScope (inClass (top 32) 0), [], []⟩
def d28 : DefD := ⟨("Moved", some "__eq__"), "__eq__", "Moved.__eq__", defArgs (inClass (top 32) 1), defBody (inClass (top 32) 1), defScope (inClass (top 32) 1), [], []⟩
def d29 : DefD := ⟨("Moved", some "shows"), "shows", "Moved.shows", defArgs (inClass (top 32) 2), defBody (inClass (top 32) 2), defScope (inClass (top 32) 2), [], []⟩
def d30 : DefD := ⟨("least_steps", none), "least_steps", "least_steps", defArgs (top 33), defBody (top 33), defScope (top 33), [], []⟩
def d31 : DefD := ⟨("move_rows", none), "move_rows", "move_rows", defArgs (top 34), defBody (top 34), defScope (top 34), [], []⟩
def d32 : DefD := ⟨("fewest_changed", none), "fewest_changed", "fewest_changed", defArgs (top 35), defBody (top 35), defScope (top 35), [], []⟩
def d33 : DefD := ⟨("farthest_row", none), "farthest_row", "farthest_row", defArgs (top 36), defBody (top 36), defScope (top 36), [], []⟩
def d34 : DefD := ⟨("_law_number", none), "_law_number", "_law_number", defArgs (top 38), defBody (top 38), defScope (top 38), [], []⟩
def d35 : DefD := ⟨("_law_take", none), "_law_take", "_law_take", defArgs (top 39), defBody (top 39), defScope (top 39), [], []⟩
def d36 : DefD := ⟨("_law_pick", none), "_law_pick", "_law_pick", defArgs (top 40), defBody (top 40), defScope (top 40), [], []⟩
def d37 : DefD := ⟨("_law_is_number", none), "_law_is_number", "_law_is_number", defArgs (top 41), defBody (top 41), defScope (top 41), [], []⟩
def d38 : DefD := ⟨("_law_word", none), "_law_word", "_law_word", defArgs (top 42), defBody (top 42), defScope (top 42), [], []⟩
def d39 : DefD := ⟨("_law_first", none), "_law_first", "_law_first", defArgs (top 43), defBody (top 43), defScope (top 43), [], []⟩
def d40 : DefD := ⟨("_law_no", none), "_law_no", "_law_no", defArgs (top 44), defBody (top 44), defScope (top 44), [], []⟩
def d41 : DefD := ⟨("_law_sums_right", none), "_law_sums_right", "_law_sums_right", defArgs (top 45), defBody (top 45), defScope (top 45), [], []⟩
def d42 : DefD := ⟨("_law_columns_right", none), "_law_columns_right", "_law_columns_right", defArgs (top 46), defBody (top 46), defScope (top 46), [], []⟩
def d43 : DefD := ⟨("_law_known_right", none), "_law_known_right", "_law_known_right", defArgs (top 47), defBody (top 47), defScope (top 47), [], []⟩
def d44 : DefD := ⟨("law", none), "law", "law", defArgs (top 48), defBody (top 48), defScope (top 48), [], []⟩
def fn : List DefD := [d0, d1, d2, d3, d4, d5, d6, d7, d8, d9, d10, d11, d12, d13, d14, d15, d16, d17, d18, d19, d20, d21, d22, d23, d24, d25, d26, d27, d28, d29, d30, d31, d32, d33, d34, d35, d36, d37, d38, d39, d40, d41, d42, d43, d44]
structure Ctx (K : PySem.W.Frag) (base : Heap) (mg : Str → Option Value) : Prop where
  inn : K.In base
  ns : base.Ns mainGlobals mg
  says : SaysP fb fn K
  tb : ∀ p ∈ tf, LamX.TabB base mg (cT K p).1 (cT K p).2
  nd : ((tfq.map Prod.fst).map fun p => (cT K p).2).Nodup
abbrev OkF (P : Program) (w : World) (K : PySem.W.Frag) (mg : Str → Option Value) (base : Heap) (n i : Nat) : Prop := ∀ np, FnR P w K mg base (L2.CX P w) (4 * (n + 1)) ((GG K).fa i) (spF (GG K) (callF TT (n + 1)) i np)
theorem inj {K : PySem.W.Frag} (i : Nat) (hi : i < nms.length) : Inj (GG K) i := inj_nm (fs := fs) (cs := cs) (K := K) i hi (by decide +kernel) (by decide +kernel)
section
variable {P : Program} {w : World} {K : PySem.W.Frag} {mg : Str → Option Value} {base : Heap}
theorem m_clsall (C : Ctx K base mg) : cCls GG [0, 1, 2] K = true := C.says.fact 0 rfl
theorem m_b_isinstance (C : Ctx K base mg) : mg "isinstance" = none := cFree_ok C.inn C.ns (C.says.fact 1 rfl)
theorem m_b_int (C : Ctx K base mg) : mg "int" = none := cFree_ok C.inn C.ns (C.says.fact 2 rfl)
theorem m_kit_intty (C : Ctx K base mg) : ∀ t b, (t, b) ∈ ([(.non, false), (.bl, true), (.int, true), (.str, false), (.tup, false), (.lst, false), (.dct, false), (.own 0, false), (.own 1, false), (.own 2, false)] : List (TyN × Bool)) → PySem.W.kitOne (GG K).K (t.val (GG K)) (.type "int") = some b ∧ ∀ c, t = .own c → ClsI (GG K) c := cKit_ok (G := GG) (cu := fun K => (.type "int")) rfl (C.says.fact 3 rfl) (m_clsall C) (by decide)
theorem m_b_bool (C : Ctx K base mg) : mg "bool" = none := cFree_ok C.inn C.ns (C.says.fact 4 rfl)
theorem m_kit_boolty (C : Ctx K base mg) : ∀ t b, (t, b) ∈ ([(.non, false), (.bl, true), (.int, false), (.str, false), (.tup, false), (.lst, false), (.dct, false), (.own 0, false), (.own 1, false), (.own 2, false)] : List (TyN × Bool)) → PySem.W.kitOne (GG K).K (t.val (GG K)) (.type "bool") = some b ∧ ∀ c, t = .own c → ClsI (GG K) c := cKit_ok (G := GG) (cu := fun K => (.type "bool")) rfl (C.says.fact 5 rfl) (m_clsall C) (by decide)
theorem m_b_list (C : Ctx K base mg) : mg "list" = none := cFree_ok C.inn C.ns (C.says.fact 6 rfl)
theorem m_b_tuple (C : Ctx K base mg) : mg "tuple" = none := cFree_ok C.inn C.ns (C.says.fact 7 rfl)
theorem m_kitT_list_tuple (C : Ctx K base mg) : ∀ t b, (t, b) ∈ ([(.non, false), (.bl, false), (.int, false), (.str, false), (.tup, true), (.lst, true), (.dct, false), (.own 0, false), (.own 1, false), (.own 2, false)] : List (TyN × Bool)) → PySem.W.kitAny (GG K).K (t.val (GG K)) [(.type "list"), (.type "tuple")] = some b ∧ ∀ c, t = .own c → ClsI (GG K) c := cKitT_ok (G := GG) (cus := fun K => [(.type "list"), (.type "tuple")]) rfl (C.says.fact 8 rfl) (m_clsall C) (by decide)
theorem m_spc___len__ (C : Ctx K base mg) : ∀ p ∈ ([(0, 3)] : List (Nat × Nat)), Spc (GG K).K ((GG K).ca p.1) ((GG K).fa p.2) "__len__" ∧ PySem.W.fnIn (GG K).K ((GG K).fa p.2) = true := cSpc_ok rfl (C.says.fact 9 rfl)
theorem m_b_len (C : Ctx K base mg) : mg "len" = none := cFree_ok C.inn C.ns (C.says.fact 10 rfl)
theorem m_i_MOST_VALUES (C : Ctx K base mg) : ∃ u, mg "MOST_VALUES" = some u ∧ RelV (.int (12)) u := cInt_ok C.inn C.ns (C.says.fact 11 rfl)
theorem m_c_BadCounts (C : Ctx K base mg) : mg "BadCounts" = some (.ref ((GG K).ca 4)) := cGlo_ok C.inn C.ns (C.says.fact 12 rfl)
theorem m_x_BadCounts (C : Ctx K base mg) : excB (GG K).K ((GG K).ca 4) = true := C.says.fact 13 rfl
theorem m_f_is_number (C : Ctx K base mg) : mg "is_number" = some (.ref ((GG K).fa 0)) := cGlo_ok C.inn C.ns (C.says.fact 14 rfl)
theorem m_k_is_number (C : Ctx K base mg) : PySem.W.keepIn K (.ref ((GG K).fa 0)) = true := C.says.fact 15 rfl
theorem m_i_MOST_COUNT (C : Ctx K base mg) : ∃ u, mg "MOST_COUNT" = some u ∧ RelV (.int (9)) u := cInt_ok C.inn C.ns (C.says.fact 16 rfl)
theorem m_b_all (C : Ctx K base mg) : mg "all" = none := cFree_ok C.inn C.ns (C.says.fact 17 rfl)
theorem m_fld_counts (C : Ctx K base mg) : ∀ c ∈ ([0] : List Nat), Cls (GG K).K ((GG K).ca c) ∧ NoAttr (GG K).K ((GG K).ca c) ((GG K).nm 0) := cFld_ok rfl (C.says.fact 18 rfl)
theorem m_c_Column (C : Ctx K base mg) : mg "Column" = some (.ref ((GG K).ca 0)) := cGlo_ok C.inn C.ns (C.says.fact 19 rfl)
theorem m_kit_0own (C : Ctx K base mg) : ∀ t b, (t, b) ∈ ([(.non, false), (.bl, false), (.int, false), (.str, false), (.tup, false), (.lst, false), (.dct, false), (.own 0, true), (.own 1, false), (.own 2, false)] : List (TyN × Bool)) → PySem.W.kitOne (GG K).K (t.val (GG K)) (.ref ((GG K).ca 0)) = some b ∧ ∀ c, t = .own c → ClsI (GG K) c := cKit_ok (G := GG) (cu := fun K => (.ref ((GG K).ca 0))) rfl (C.says.fact 20 rfl) (m_clsall C) (by decide)
theorem m_eq_spc (C : Ctx K base mg) : cSpc GG [(0, 2), (1, 18), (2, 28)] "__eq__" K = true := C.says.fact 21 rfl
theorem m_eq_ne (C : Ctx K base mg) : cNe GG [(0, 2), (1, 18), (2, 28)] K = true := C.says.fact 22 rfl
theorem m_eq_nf (C : Ctx K base mg) : cNf GG [(0, 2), (1, 18), (2, 28)] [.non, .bl, .int, .str, .tup, .lst, .dct, .own 0, .own 1, .own 2] K = true := C.says.fact 23 rfl
theorem m_c_BadValue (C : Ctx K base mg) : mg "BadValue" = some (.ref ((GG K).ca 6)) := cGlo_ok C.inn C.ns (C.says.fact 24 rfl)
theorem m_x_BadValue (C : Ctx K base mg) : excB (GG K).K ((GG K).ca 6) = true := C.says.fact 25 rfl
theorem m_spc___getitem__ (C : Ctx K base mg) : ∀ p ∈ ([(0, 4)] : List (Nat × Nat)), Spc (GG K).K ((GG K).ca p.1) ((GG K).fa p.2) "__getitem__" ∧ PySem.W.fnIn (GG K).K ((GG K).fa p.2) = true := cSpc_ok rfl (C.says.fact 26 rfl)
theorem m_b_sum (C : Ctx K base mg) : mg "sum" = none := cFree_ok C.inn C.ns (C.says.fact 27 rfl)
theorem m_b_range (C : Ctx K base mg) : mg "range" = none := cFree_ok C.inn C.ns (C.says.fact 28 rfl)
theorem m_b_zip (C : Ctx K base mg) : mg "zip" = none := cFree_ok C.inn C.ns (C.says.fact 29 rfl)
theorem m_b_enumerate (C : Ctx K base mg) : mg "enumerate" = none := cFree_ok C.inn C.ns (C.says.fact 30 rfl)
theorem m_c_BadColumn (C : Ctx K base mg) : mg "BadColumn" = some (.ref ((GG K).ca 5)) := cGlo_ok C.inn C.ns (C.says.fact 31 rfl)
theorem m_x_BadColumn (C : Ctx K base mg) : excB (GG K).K ((GG K).ca 5) = true := C.says.fact 32 rfl
theorem m_c_BadNumber (C : Ctx K base mg) : mg "BadNumber" = some (.ref ((GG K).ca 7)) := cGlo_ok C.inn C.ns (C.says.fact 33 rfl)
theorem m_x_BadNumber (C : Ctx K base mg) : excB (GG K).K ((GG K).ca 7) = true := C.says.fact 34 rfl
theorem m_f_check_number (C : Ctx K base mg) : mg "check_number" = some (.ref ((GG K).fa 11)) := cGlo_ok C.inn C.ns (C.says.fact 35 rfl)
theorem m_k_check_number (C : Ctx K base mg) : PySem.W.keepIn K (.ref ((GG K).fa 11)) = true := C.says.fact 36 rfl
theorem m_i_MOST_ROWS (C : Ctx K base mg) : ∃ u, mg "MOST_ROWS" = some u ∧ RelV (.int (20)) u := cInt_ok C.inn C.ns (C.says.fact 37 rfl)
theorem m_c_BadSum (C : Ctx K base mg) : mg "BadSum" = some (.ref ((GG K).ca 8)) := cGlo_ok C.inn C.ns (C.says.fact 38 rfl)
theorem m_x_BadSum (C : Ctx K base mg) : excB (GG K).K ((GG K).ca 8) = true := C.says.fact 39 rfl
theorem m_b_min (C : Ctx K base mg) : mg "min" = none := cFree_ok C.inn C.ns (C.says.fact 40 rfl)
theorem m_f_lowest_with (C : Ctx K base mg) : mg "lowest_with" = some (.ref ((GG K).fa 14)) := cGlo_ok C.inn C.ns (C.says.fact 41 rfl)
theorem m_k_lowest_with (C : Ctx K base mg) : PySem.W.keepIn K (.ref ((GG K).fa 14)) = true := C.says.fact 42 rfl
theorem m_f_highest_with (C : Ctx K base mg) : mg "highest_with" = some (.ref ((GG K).fa 15)) := cGlo_ok C.inn C.ns (C.says.fact 43 rfl)
theorem m_k_highest_with (C : Ctx K base mg) : PySem.W.keepIn K (.ref ((GG K).fa 15)) = true := C.says.fact 44 rfl
theorem m_f_spread_over (C : Ctx K base mg) : mg "spread_over" = some (.ref ((GG K).fa 13)) := cGlo_ok C.inn C.ns (C.says.fact 45 rfl)
theorem m_k_spread_over (C : Ctx K base mg) : PySem.W.keepIn K (.ref ((GG K).fa 13)) = true := C.says.fact 46 rfl
theorem m_fld_least (C : Ctx K base mg) : ∀ c ∈ ([1] : List Nat), Cls (GG K).K ((GG K).ca c) ∧ NoAttr (GG K).K ((GG K).ca c) ((GG K).nm 2) := cFld_ok rfl (C.says.fact 47 rfl)
theorem m_fld_greatest (C : Ctx K base mg) : ∀ c ∈ ([1] : List Nat), Cls (GG K).K ((GG K).ca c) ∧ NoAttr (GG K).K ((GG K).ca c) ((GG K).nm 3) := cFld_ok rfl (C.says.fact 48 rfl)
theorem m_c_Ends (C : Ctx K base mg) : mg "Ends" = some (.ref ((GG K).ca 1)) := cGlo_ok C.inn C.ns (C.says.fact 49 rfl)
theorem m_kit_1own (C : Ctx K base mg) : ∀ t b, (t, b) ∈ ([(.non, false), (.bl, false), (.int, false), (.str, false), (.tup, false), (.lst, false), (.dct, false), (.own 0, false), (.own 1, true), (.own 2, false)] : List (TyN × Bool)) → PySem.W.kitOne (GG K).K (t.val (GG K)) (.ref ((GG K).ca 1)) = some b ∧ ∀ c, t = .own c → ClsI (GG K) c := cKit_ok (G := GG) (cu := fun K => (.ref ((GG K).ca 1))) rfl (C.says.fact 50 rfl) (m_clsall C) (by decide)
theorem m_f_check_asked (C : Ctx K base mg) : mg "check_asked" = some (.ref ((GG K).fa 20)) := cGlo_ok C.inn C.ns (C.says.fact 51 rfl)
theorem m_k_check_asked (C : Ctx K base mg) : PySem.W.keepIn K (.ref ((GG K).fa 20)) = true := C.says.fact 52 rfl
theorem m_f_ends_of (C : Ctx K base mg) : mg "ends_of" = some (.ref ((GG K).fa 21)) := cGlo_ok C.inn C.ns (C.says.fact 53 rfl)
theorem m_k_ends_of (C : Ctx K base mg) : PySem.W.keepIn K (.ref ((GG K).fa 21)) = true := C.says.fact 54 rfl
theorem m_f_check_known (C : Ctx K base mg) : mg "check_known" = some (.ref ((GG K).fa 12)) := cGlo_ok C.inn C.ns (C.says.fact 55 rfl)
theorem m_k_check_known (C : Ctx K base mg) : PySem.W.keepIn K (.ref ((GG K).fa 12)) = true := C.says.fact 56 rfl
theorem m_b_max (C : Ctx K base mg) : mg "max" = none := cFree_ok C.inn C.ns (C.says.fact 57 rfl)
theorem m_f_row_with (C : Ctx K base mg) : mg "row_with" = some (.ref ((GG K).fa 16)) := cGlo_ok C.inn C.ns (C.says.fact 58 rfl)
theorem m_k_row_with (C : Ctx K base mg) : PySem.W.keepIn K (.ref ((GG K).fa 16)) = true := C.says.fact 59 rfl
theorem m_mk_Ends (C : Ctx K base mg) : Mk (GG K).K ((GG K).ca 1) ((GG K).fa 17) := cMk_ok rfl (C.says.fact 60 rfl)
theorem m_f_check_column (C : Ctx K base mg) : mg "check_column" = some (.ref ((GG K).fa 10)) := cGlo_ok C.inn C.ns (C.says.fact 61 rfl)
theorem m_k_check_column (C : Ctx K base mg) : PySem.W.keepIn K (.ref ((GG K).fa 10)) = true := C.says.fact 62 rfl
theorem m_met_rows (C : Ctx K base mg) : ∀ p ∈ ([(0, 6)] : List (Nat × Nat)), Cls (GG K).K ((GG K).ca p.1) ∧ Meth (GG K).K ((GG K).ca p.1) ((GG K).nm 4) ((GG K).fa p.2) := cMet_ok rfl (C.says.fact 63 rfl)
theorem m_c_Unlike (C : Ctx K base mg) : mg "Unlike" = some (.ref ((GG K).ca 9)) := cGlo_ok C.inn C.ns (C.says.fact 64 rfl)
theorem m_x_Unlike (C : Ctx K base mg) : excB (GG K).K ((GG K).ca 9) = true := C.says.fact 65 rfl
theorem m_met_prefixes (C : Ctx K base mg) : ∀ p ∈ ([(0, 7)] : List (Nat × Nat)), Cls (GG K).K ((GG K).ca p.1) ∧ Meth (GG K).K ((GG K).ca p.1) ((GG K).nm 5) ((GG K).fa p.2) := cMet_ok rfl (C.says.fact 66 rfl)
theorem m_fld_flows (C : Ctx K base mg) : ∀ c ∈ ([2] : List Nat), Cls (GG K).K ((GG K).ca c) ∧ NoAttr (GG K).K ((GG K).ca c) ((GG K).nm 6) := cFld_ok rfl (C.says.fact 67 rfl)
theorem m_fld_heights (C : Ctx K base mg) : ∀ c ∈ ([2] : List Nat), Cls (GG K).K ((GG K).ca c) ∧ NoAttr (GG K).K ((GG K).ca c) ((GG K).nm 7) := cFld_ok rfl (C.says.fact 68 rfl)
theorem m_c_Moved (C : Ctx K base mg) : mg "Moved" = some (.ref ((GG K).ca 2)) := cGlo_ok C.inn C.ns (C.says.fact 69 rfl)
theorem m_kit_2own (C : Ctx K base mg) : ∀ t b, (t, b) ∈ ([(.non, false), (.bl, false), (.int, false), (.str, false), (.tup, false), (.lst, false), (.dct, false), (.own 0, false), (.own 1, false), (.own 2, true)] : List (TyN × Bool)) → PySem.W.kitOne (GG K).K (t.val (GG K)) (.ref ((GG K).ca 2)) = some b ∧ ∀ c, t = .own c → ClsI (GG K) c := cKit_ok (G := GG) (cu := fun K => (.ref ((GG K).ca 2))) rfl (C.says.fact 70 rfl) (m_clsall C) (by decide)
theorem m_f_check_pair (C : Ctx K base mg) : mg "check_pair" = some (.ref ((GG K).fa 25)) := cGlo_ok C.inn C.ns (C.says.fact 71 rfl)
theorem m_k_check_pair (C : Ctx K base mg) : PySem.W.keepIn K (.ref ((GG K).fa 25)) = true := C.says.fact 72 rfl
theorem m_b_abs (C : Ctx K base mg) : mg "abs" = none := cFree_ok C.inn C.ns (C.says.fact 73 rfl)
theorem m_b_any (C : Ctx K base mg) : mg "any" = none := cFree_ok C.inn C.ns (C.says.fact 74 rfl)
theorem m_f_flows_of (C : Ctx K base mg) : mg "flows_of" = some (.ref ((GG K).fa 26)) := cGlo_ok C.inn C.ns (C.says.fact 75 rfl)
theorem m_k_flows_of (C : Ctx K base mg) : PySem.W.keepIn K (.ref ((GG K).fa 26)) = true := C.says.fact 76 rfl
theorem m_mk_Moved (C : Ctx K base mg) : Mk (GG K).K ((GG K).ca 2) ((GG K).fa 27) := cMk_ok rfl (C.says.fact 77 rfl)
theorem m_met_sorted_rows (C : Ctx K base mg) : ∀ p ∈ ([(0, 9)] : List (Nat × Nat)), Cls (GG K).K ((GG K).ca p.1) ∧ Meth (GG K).K ((GG K).ca p.1) ((GG K).nm 9) ((GG K).fa p.2) := cMet_ok rfl (C.says.fact 78 rfl)
theorem m_f__law_number (C : Ctx K base mg) : mg "_law_number" = some (.ref ((GG K).fa 34)) := cGlo_ok C.inn C.ns (C.says.fact 79 rfl)
theorem m_k__law_number (C : Ctx K base mg) : PySem.W.keepIn K (.ref ((GG K).fa 34)) = true := C.says.fact 80 rfl
theorem m_f__law_take (C : Ctx K base mg) : mg "_law_take" = some (.ref ((GG K).fa 35)) := cGlo_ok C.inn C.ns (C.says.fact 81 rfl)
theorem m_k__law_take (C : Ctx K base mg) : PySem.W.keepIn K (.ref ((GG K).fa 35)) = true := C.says.fact 82 rfl
theorem m_wq_38 (C : Ctx K base mg) : (([(3, "other"), (4, "other"), (5, "column"), (6, "value"), (7, "number"), (8, "sum"), (9, "unlike")] : List (Nat × Str)).all fun p => decide (wordL K (xVal (GG K) p.1) [(.ref ((GG K).ca 5), "column"), (.ref ((GG K).ca 7), "number"), (.ref ((GG K).ca 8), "sum"), (.ref ((GG K).ca 6), "value"), (.ref ((GG K).ca 9), "unlike"), (.ref ((GG K).ca 3), "other")] = some p.2)) = true := C.says.fact 83 rfl
theorem m_c_SumError (C : Ctx K base mg) : mg "SumError" = some (.ref ((GG K).ca 3)) := cGlo_ok C.inn C.ns (C.says.fact 84 rfl)
theorem m_f__law_word (C : Ctx K base mg) : mg "_law_word" = some (.ref ((GG K).fa 38)) := cGlo_ok C.inn C.ns (C.says.fact 85 rfl)
theorem m_k__law_word (C : Ctx K base mg) : PySem.W.keepIn K (.ref ((GG K).fa 38)) = true := C.says.fact 86 rfl
theorem m_f_at_least (C : Ctx K base mg) : mg "at_least" = some (.ref ((GG K).fa 22)) := cGlo_ok C.inn C.ns (C.says.fact 87 rfl)
theorem m_k_at_least (C : Ctx K base mg) : PySem.W.keepIn K (.ref ((GG K).fa 22)) = true := C.says.fact 88 rfl
theorem m_f_reach_both (C : Ctx K base mg) : mg "reach_both" = some (.ref ((GG K).fa 23)) := cGlo_ok C.inn C.ns (C.says.fact 89 rfl)
theorem m_k_reach_both (C : Ctx K base mg) : PySem.W.keepIn K (.ref ((GG K).fa 23)) = true := C.says.fact 90 rfl
theorem m_met_shows (C : Ctx K base mg) : ∀ p ∈ ([(1, 19), (2, 29)] : List (Nat × Nat)), Cls (GG K).K ((GG K).ca p.1) ∧ Meth (GG K).K ((GG K).ca p.1) ((GG K).nm 10) ((GG K).fa p.2) := cMet_ok rfl (C.says.fact 91 rfl)
theorem m_f__law_first (C : Ctx K base mg) : mg "_law_first" = some (.ref ((GG K).fa 39)) := cGlo_ok C.inn C.ns (C.says.fact 92 rfl)
theorem m_k__law_first (C : Ctx K base mg) : PySem.W.keepIn K (.ref ((GG K).fa 39)) = true := C.says.fact 93 rfl
theorem m_f__law_no (C : Ctx K base mg) : mg "_law_no" = some (.ref ((GG K).fa 40)) := cGlo_ok C.inn C.ns (C.says.fact 94 rfl)
theorem m_k__law_no (C : Ctx K base mg) : PySem.W.keepIn K (.ref ((GG K).fa 40)) = true := C.says.fact 95 rfl
theorem m_f__law_is_number (C : Ctx K base mg) : mg "_law_is_number" = some (.ref ((GG K).fa 37)) := cGlo_ok C.inn C.ns (C.says.fact 96 rfl)
theorem m_k__law_is_number (C : Ctx K base mg) : PySem.W.keepIn K (.ref ((GG K).fa 37)) = true := C.says.fact 97 rfl
theorem m_f_rank_values (C : Ctx K base mg) : mg "rank_values" = some (.ref ((GG K).fa 24)) := cGlo_ok C.inn C.ns (C.says.fact 98 rfl)
theorem m_k_rank_values (C : Ctx K base mg) : PySem.W.keepIn K (.ref ((GG K).fa 24)) = true := C.says.fact 99 rfl
theorem m_f__law_pick (C : Ctx K base mg) : mg "_law_pick" = some (.ref ((GG K).fa 36)) := cGlo_ok C.inn C.ns (C.says.fact 100 rfl)
theorem m_k__law_pick (C : Ctx K base mg) : PySem.W.keepIn K (.ref ((GG K).fa 36)) = true := C.says.fact 101 rfl
theorem m_f_least_steps (C : Ctx K base mg) : mg "least_steps" = some (.ref ((GG K).fa 30)) := cGlo_ok C.inn C.ns (C.says.fact 102 rfl)
theorem m_k_least_steps (C : Ctx K base mg) : PySem.W.keepIn K (.ref ((GG K).fa 30)) = true := C.says.fact 103 rfl
theorem m_f_move_rows (C : Ctx K base mg) : mg "move_rows" = some (.ref ((GG K).fa 31)) := cGlo_ok C.inn C.ns (C.says.fact 104 rfl)
theorem m_k_move_rows (C : Ctx K base mg) : PySem.W.keepIn K (.ref ((GG K).fa 31)) = true := C.says.fact 105 rfl
theorem m_f_fewest_changed (C : Ctx K base mg) : mg "fewest_changed" = some (.ref ((GG K).fa 32)) := cGlo_ok C.inn C.ns (C.says.fact 106 rfl)
theorem m_k_fewest_changed (C : Ctx K base mg) : PySem.W.keepIn K (.ref ((GG K).fa 32)) = true := C.says.fact 107 rfl
theorem m_f_farthest_row (C : Ctx K base mg) : mg "farthest_row" = some (.ref ((GG K).fa 33)) := cGlo_ok C.inn C.ns (C.says.fact 108 rfl)
theorem m_k_farthest_row (C : Ctx K base mg) : PySem.W.keepIn K (.ref ((GG K).fa 33)) = true := C.says.fact 109 rfl
theorem m_mk_Column (C : Ctx K base mg) : Mk (GG K).K ((GG K).ca 0) ((GG K).fa 1) := cMk_ok rfl (C.says.fact 110 rfl)
theorem m_f__law_sums_right (C : Ctx K base mg) : mg "_law_sums_right" = some (.ref ((GG K).fa 41)) := cGlo_ok C.inn C.ns (C.says.fact 111 rfl)
theorem m_k__law_sums_right (C : Ctx K base mg) : PySem.W.keepIn K (.ref ((GG K).fa 41)) = true := C.says.fact 112 rfl
theorem m_f__law_columns_right (C : Ctx K base mg) : mg "_law_columns_right" = some (.ref ((GG K).fa 42)) := cGlo_ok C.inn C.ns (C.says.fact 113 rfl)
theorem m_k__law_columns_right (C : Ctx K base mg) : PySem.W.keepIn K (.ref ((GG K).fa 42)) = true := C.says.fact 114 rfl
theorem m_f__law_known_right (C : Ctx K base mg) : mg "_law_known_right" = some (.ref ((GG K).fa 43)) := cGlo_ok C.inn C.ns (C.says.fact 115 rfl)
theorem m_k__law_known_right (C : Ctx K base mg) : PySem.W.keepIn K (.ref ((GG K).fa 43)) = true := C.says.fact 116 rfl
theorem m_eqt (C : Ctx K base mg) : EqT (GG K) [(0, 2), (1, 18), (2, 28)] [.non, .bl, .int, .str, .tup, .lst, .dct, .own 0, .own 1, .own 2] := cEq_ok rfl (m_eq_spc C) (m_eq_ne C) (m_eq_nf C) (m_clsall C) (by decide)
abbrev N0 : List Str := ["thing", "least", "most"]
theorem sc0 : FnScope N0 ["thing", "least", "most"] (defScope (top 12)) := mkSc (by decide +kernel)
theorem dv0 {n : Nat} {cf : CF} (C : Ctx K base mg) (ih : Ih P w K mg base (GG K) n cf) : Dv P w K mg base (GG K) N0 "is_number" (top 12) ((GG K).fa 0) n fun n0 => (sRet (eAn (eIsi [(.non, false), (.bl, true), (.int, true), (.str, false), (.tup, false), (.lst, false), (.dct, false), (.own 0, false), (.own 1, false), (.own 2, false)] (eVar 0)) (eAn (eNot (eIsi [(.non, false), (.bl, true), (.int, false), (.str, false), (.tup, false), (.lst, false), (.dct, false), (.own 0, false), (.own 1, false), (.own 2, false)] (eVar 0))) (eCh oLe oLe (eVar 1) (eVar 0) (eVar 2))))) := by
  intro cdv A outer s H E n0 hr tk
  have T := dvT tk rfl ih hr rfl
  have nd := sc0.nd
  exact (ss_one (ss_ret (se_and rfl (se_isi1 (cv := (.ty "int")) (cu := (.type "int")) rfl rfl (m_b_isinstance C) (by rfl) (.ty _) (m_kit_intty C) (se_var (pv 0)) (pe_bltn (v := .ty "int") (u := .type "int") rfl (m_b_int C) (by rfl) rfl (by decide))) (se_and rfl (se_not rfl (se_isi1 (cv := (.ty "bool")) (cu := (.type "bool")) rfl rfl (m_b_isinstance C) (by rfl) (.ty _) (m_kit_boolty C) (se_var (pv 0)) (pe_bltn (v := .ty "bool") (u := .type "bool") rfl (m_b_bool C) (by rfl) rfl (by decide)))) (se_one (se_ch op_le ok_le op_le ok_le (se_var (pv 1)) (se_var (pv 0)) (se_var (pv 2)) (pe_chain op_le op_le (toV (se_var (pv 1))) (toV (se_var (pv 0))) (toV (se_var (pv 2))))))))))
theorem ok0 {n : Nat} (C : Ctx K base mg) (ih : All P w K mg base (GG K) TT n) : OkF P w K mg base n 0 := by
  obtain ⟨fd, F⟩ := C.says.def_ 0 (d := d0) rfl
  exact def_ok (b := b0) rfl F sc0 rfl rfl (FunD_binds F fun _ _ _ _ _ _ us hl => match us, hl with | [_, _, _], _ => rfl) (dv0 C ih)
abbrev N1 : List Str := ["self", "counts", "count"]
theorem sc1 : FnScope N1 ["self", "counts"] (defScope (inClass (top 13) 0)) := mkSc (by decide +kernel)
theorem dv1 {n : Nat} {cf : CF} (C : Ctx K base mg) (ih : Ih P w K mg base (GG K) n cf) : Dv P w K mg base (GG K) N1 "Column.__init__" (inClass (top 13) 0) ((GG K).fa 1) n fun n0 => (sCons (sIf (tOr (tNo (tTru (eIsi [(.non, false), (.bl, false), (.int, false), (.str, false), (.tup, true), (.lst, true), (.dct, false), (.own 0, false), (.own 1, false), (.own 2, false)] (eVar 1)))) (tNo (tBl (eCh oLe oLe (eLit (.int 1)) (eLenG cf [(0, 3)] (eVar 1)) (eLit (.int (12))))))) (sRse 4) sNil) (sCons (sIf (tNo (tTru (eArg bAll (aCons (eLc (iSeqH (eVar 1)) (gNm 2) [2] tYesP (eCall cf 3 0 (aCons (eVar 2) (aCons (eLit (.int 0)) (aCons (eLit (.int (9))) aNil))))) aNil)))) (sRse 4) sNil) (sFld n0 [0] 0 (eVar 0) (eArg bTuple (aCons (eVar 1) aNil))))) := by
  intro cdv A outer s H E n0 hr tk
  have T := dvT tk rfl ih hr rfl
  have nd := sc1.nd
  exact (ss_cons (ss_if (PW.pt (sw_or (st_no (st_tru rfl (se_isiT (cvs := [(.ty "list"), (.ty "tuple")]) (cus := [(.type "list"), (.type "tuple")]) rfl rfl (m_b_isinstance C) (by rfl) (.cons (.ty _) (.cons (.ty _) .nil)) (m_kitT_list_tuple C) (se_var (pv 1)) (pa_cons (pe_bltn (v := .ty "list") (u := .type "list") rfl (m_b_list C) (by rfl) rfl (by decide)) (pa_cons (pe_bltn (v := .ty "tuple") (u := .type "tuple") rfl (m_b_tuple C) (by rfl) rfl (by decide)) pa_nil)) (fun _ _ _ h => h) (by decide)))) (sw_one (st_no (st_ch op_le ok_le op_le ok_le (se_lit pe_int fun _ _ => rfl) (se_lenG T rfl (m_b_len C) (fun p hp => ((m_spc___len__ C) p hp).1) (se_var (pv 1))) (se_lit (C8.pe_gc rfl (m_i_MOST_VALUES C)) fun _ _ => rfl)))))) (ss_one (ss_rse rfl rfl tk (m_x_BadCounts C) (m_c_BadCounts C) rfl)) ss_nil)
 (ss_cons (ss_if (st_no (st_tru rfl (se_argB (pe_callB (cr_all rfl) rfl (m_b_all C) (by rfl) (sa_cons (se_lc (own := [("count", 2)]) rfl nd (si_seqH rfl (se_var (pv 1))) (blk_ok (own := [("count", 2)]) (by kernel_rfl)) (tb_nm 2 (by decide)) (fun _ _ _ _ _ => (pg_name (i := 2) nd rfl (by first | exact Or.inl rfl | exact Or.inr rfl))) (fun _ _ _ _ _ => sts_nil) (fun _ _ _ _ _ => (sx_call (T.blk _ _ _ _ _) rfl (m_f_is_number C) (m_k_is_number C) (sa_cons (se_var (pv 2)) (sa_cons (se_lit pe_int fun _ _ => rfl) (sa_cons (se_lit (C8.pe_gc rfl (m_i_MOST_COUNT C)) fun _ _ => rfl) sa_nil)))))) sa_nil)) ok_all))) (ss_one (ss_rse rfl rfl tk (m_x_BadCounts C) (m_c_BadCounts C) rfl)) ss_nil)
 (ss_one (ss_fld (f := 0) rfl (inj 0 (by decide)) (m_fld_counts C) (se_var (pv 0)) (se_argB (pe_callTy call_tuple_of rfl (m_b_tuple C) (by rfl) (sa_cons (se_var (pv 1)) sa_nil)) ok_tuple)))))
theorem ok1 {n : Nat} (C : Ctx K base mg) (ih : All P w K mg base (GG K) TT n) : OkF P w K mg base n 1 := by
  obtain ⟨fd, F⟩ := C.says.def_ 1 (d := d1) rfl
  exact def_ok (b := b1) rfl F sc1 rfl rfl (FunD_binds F fun _ _ _ _ _ _ us hl => match us, hl with | [_, _], _ => rfl) (dv1 C ih)
abbrev N2 : List Str := ["self", "other"]
theorem sc2 : FnScope N2 ["self", "other"] (defScope (inClass (top 13) 1)) := mkSc (by decide +kernel)
theorem dv2 {n : Nat} {cf : CF} (C : Ctx K base mg) (ih : Ih P w K mg base (GG K) n cf) : Dv P w K mg base (GG K) N2 "Column.__eq__" (inClass (top 13) 1) ((GG K).fa 2) n fun n0 => (sRet (eAn (eIsi [(.non, false), (.bl, false), (.int, false), (.str, false), (.tup, false), (.lst, false), (.dct, false), (.own 0, true), (.own 1, false), (.own 2, false)] (eVar 1)) (eEqQ cf [(0, 2), (1, 18), (2, 28)] [.non, .bl, .int, .str, .tup, .lst, .dct, .own 0, .own 1, .own 2] (eFld [0] 0 (eVar 0)) (eFld [0] 0 (eVar 1))))) := by
  intro cdv A outer s H E n0 hr tk
  have T := dvT tk rfl ih hr rfl
  have nd := sc2.nd
  exact (ss_one (ss_ret (se_and rfl (se_isi1 (cv := (.ref ((GG K).ca 0))) (cu := (.ref ((GG K).ca 0))) rfl rfl (m_b_isinstance C) (by rfl) (.own _) (m_kit_0own C) (se_var (pv 1)) (pe_glob (v := .ref ((GG K).ca 0)) rfl (m_c_Column C) rfl)) (se_one (se_eqQ T (m_eqt C) (se_fld (f := 0) rfl (inj 0 (by decide)) (m_fld_counts C) (se_var (pv 0))) (se_fld (f := 0) rfl (inj 0 (by decide)) (m_fld_counts C) (se_var (pv 1))) (nomark _))))))
theorem ok2 {n : Nat} (C : Ctx K base mg) (ih : All P w K mg base (GG K) TT n) : OkF P w K mg base n 2 := by
  obtain ⟨fd, F⟩ := C.says.def_ 2 (d := d2) rfl
  exact def_ok (b := b2) rfl F sc2 rfl rfl (FunD_binds F fun _ _ _ _ _ _ us hl => match us, hl with | [_, _], _ => rfl) (dv2 C ih)
abbrev N3 : List Str := ["self"]
theorem sc3 : FnScope N3 ["self"] (defScope (inClass (top 13) 2)) := mkSc (by decide +kernel)
theorem dv3 {n : Nat} {cf : CF} (C : Ctx K base mg) (ih : Ih P w K mg base (GG K) n cf) : Dv P w K mg base (GG K) N3 "Column.__len__" (inClass (top 13) 2) ((GG K).fa 3) n fun n0 => (sRet (eLenG cf [(0, 3)] (eFld [0] 0 (eVar 0)))) := by
  intro cdv A outer s H E n0 hr tk
  have T := dvT tk rfl ih hr rfl
  have nd := sc3.nd
  exact (ss_one (ss_ret (se_lenG T rfl (m_b_len C) (fun p hp => ((m_spc___len__ C) p hp).1) (se_fld (f := 0) rfl (inj 0 (by decide)) (m_fld_counts C) (se_var (pv 0))))))
theorem ok3 {n : Nat} (C : Ctx K base mg) (ih : All P w K mg base (GG K) TT n) : OkF P w K mg base n 3 := by
  obtain ⟨fd, F⟩ := C.says.def_ 3 (d := d3) rfl
  exact def_ok (b := b3) rfl F sc3 rfl rfl (FunD_binds F fun _ _ _ _ _ _ us hl => match us, hl with | [_], _ => rfl) (dv3 C ih)
abbrev N4 : List Str := ["self", "value"]
theorem sc4 : FnScope N4 ["self", "value"] (defScope (inClass (top 13) 3)) := mkSc (by decide +kernel)
theorem dv4 {n : Nat} {cf : CF} (C : Ctx K base mg) (ih : Ih P w K mg base (GG K) n cf) : Dv P w K mg base (GG K) N4 "Column.__getitem__" (inClass (top 13) 3) ((GG K).fa 4) n fun n0 => (sCons (sIf (tNo (tTru (eCall cf 3 0 (aCons (eVar 1) (aCons (eLit (.int 0)) (aCons (eBin oSub (eLenG cf [(0, 3)] (eFld [0] 0 (eVar 0))) (eLit (.int 1))) aNil)))))) (sRse 6) sNil) (sRet (eIx cf [(0, 4)] (eFld [0] 0 (eVar 0)) (eVar 1)))) := by
  intro cdv A outer s H E n0 hr tk
  have T := dvT tk rfl ih hr rfl
  have nd := sc4.nd
  exact (ss_cons (ss_if (st_no (st_tru rfl (sx_call T rfl (m_f_is_number C) (m_k_is_number C) (sa_cons (se_var (pv 1)) (sa_cons (se_lit pe_int fun _ _ => rfl) (sa_cons (se_bin op_sub ok_sub (se_lenG T rfl (m_b_len C) (fun p hp => ((m_spc___len__ C) p hp).1) (se_fld (f := 0) rfl (inj 0 (by decide)) (m_fld_counts C) (se_var (pv 0)))) (se_lit pe_int fun _ _ => rfl)) sa_nil)))))) (ss_one (ss_rse rfl rfl tk (m_x_BadValue C) (m_c_BadValue C) rfl)) ss_nil)
 (ss_one (ss_ret (se_ixG T (m_spc___getitem__ C) (se_fld (f := 0) rfl (inj 0 (by decide)) (m_fld_counts C) (se_var (pv 0))) (se_var (pv 1)) (fun _ _ => rfl) (fun _ _ => by with_unfolding_all rfl)))))
theorem ok4 {n : Nat} (C : Ctx K base mg) (ih : All P w K mg base (GG K) TT n) : OkF P w K mg base n 4 := by
  obtain ⟨fd, F⟩ := C.says.def_ 4 (d := d4) rfl
  exact def_ok (b := b4) rfl F sc4 rfl rfl (FunD_binds F fun _ _ _ _ _ _ us hl => match us, hl with | [_, _], _ => rfl) (dv4 C ih)
abbrev N5 : List Str := ["self"]
theorem sc5 : FnScope N5 ["self"] (defScope (inClass (top 13) 4)) := mkSc (by decide +kernel)
theorem dv5 {n : Nat} {cf : CF} (C : Ctx K base mg) (ih : Ih P w K mg base (GG K) n cf) : Dv P w K mg base (GG K) N5 "Column.__iter__" (inClass (top 13) 4) ((GG K).fa 5) n fun n0 => sNo := by
  intro cdv A outer s H E n0 hr tk
  have T := dvT tk rfl ih hr rfl
  have nd := sc5.nd
  exact (ss_one ss_no)
theorem ok5 {n : Nat} (C : Ctx K base mg) (ih : All P w K mg base (GG K) TT n) : OkF P w K mg base n 5 := by
  obtain ⟨fd, F⟩ := C.says.def_ 5 (d := d5) rfl
  exact def_ok (b := b5) rfl F sc5 rfl rfl (FunD_binds F fun _ _ _ _ _ _ us hl => match us, hl with | [_], _ => rfl) (dv5 C ih)
abbrev N6 : List Str := ["self"]
theorem sc6 : FnScope N6 ["self"] (defScope (inClass (top 13) 5)) := mkSc (by decide +kernel)
theorem dv6 {n : Nat} {cf : CF} (C : Ctx K base mg) (ih : Ih P w K mg base (GG K) n cf) : Dv P w K mg base (GG K) N6 "Column.rows" (inClass (top 13) 5) ((GG K).fa 6) n fun n0 => (sRet (eArg bSum (aCons (eFld [0] 0 (eVar 0)) aNil))) := by
  intro cdv A outer s H E n0 hr tk
  have T := dvT tk rfl ih hr rfl
  have nd := sc6.nd
  exact (ss_one (ss_ret (se_argB (pe_callB (cr_sumA rfl) rfl (m_b_sum C) (by rfl) (sa_cons (se_fld (f := 0) rfl (inj 0 (by decide)) (m_fld_counts C) (se_var (pv 0))) sa_nil)) ok_sum)))
theorem ok6 {n : Nat} (C : Ctx K base mg) (ih : All P w K mg base (GG K) TT n) : OkF P w K mg base n 6 := by
  obtain ⟨fd, F⟩ := C.says.def_ 6 (d := d6) rfl
  exact def_ok (b := b6) rfl F sc6 rfl rfl (FunD_binds F fun _ _ _ _ _ _ us hl => match us, hl with | [_], _ => rfl) (dv6 C ih)
abbrev N7 : List Str := ["self", "past"]
theorem sc7 : FnScope N7 ["self"] (defScope (inClass (top 13) 6)) := mkSc (by decide +kernel)
theorem dv7 {n : Nat} {cf : CF} (C : Ctx K base mg) (ih : Ih P w K mg base (GG K) n cf) : Dv P w K mg base (GG K) N7 "Column.prefixes" (inClass (top 13) 6) ((GG K).fa 7) n fun n0 => (sRet (eLc (iRg1 (eBin oCat (eLenG cf [(0, 3)] (eFld [0] 0 (eVar 0))) (eLit (.int 1)))) (gNm 1) [1] tYesP (eArg bSum (aCons (eSl (eFld [0] 0 (eVar 0)) pNo (pSo (eVar 1))) aNil)))) := by
  intro cdv A outer s H E n0 hr tk
  have T := dvT tk rfl ih hr rfl
  have nd := sc7.nd
  exact (ss_one (ss_ret (se_lc (own := [("past", 1)]) rfl nd (si_rng1 rfl (m_b_range C) (se_bin op_catR ok_cat (se_lenG T rfl (m_b_len C) (fun p hp => ((m_spc___len__ C) p hp).1) (se_fld (f := 0) rfl (inj 0 (by decide)) (m_fld_counts C) (se_var (pv 0)))) (se_lit pe_int fun _ _ => rfl))) (blk_ok (own := [("past", 1)]) (by kernel_rfl)) (tb_nm 1 (by decide)) (fun _ _ _ _ _ => (pg_name (i := 1) nd rfl (by first | exact Or.inl rfl | exact Or.inr rfl))) (fun _ _ _ _ _ => sts_nil) (fun _ _ _ _ _ => (se_argB (pe_callB (cr_sumA rfl) rfl (m_b_sum C) (by rfl) (sa_cons (se_sl rfl (se_fld (f := 0) rfl (inj 0 (by decide)) (m_fld_counts C) (se_var (pv 0))) so_none (so_some (se_var (pv 1)))) sa_nil)) ok_sum)))))
theorem ok7 {n : Nat} (C : Ctx K base mg) (ih : All P w K mg base (GG K) TT n) : OkF P w K mg base n 7 := by
  obtain ⟨fd, F⟩ := C.says.def_ 7 (d := d7) rfl
  exact def_ok (b := b7) rfl F sc7 rfl rfl (FunD_binds F fun _ _ _ _ _ _ us hl => match us, hl with | [_], _ => rfl) (dv7 C ih)
abbrev N8 : List Str := ["self", "one", "other"]
theorem sc8 : FnScope N8 ["self"] (defScope (inClass (top 13) 9)) := mkSc (by decide +kernel)
theorem dv8 {n : Nat} {cf : CF} (C : Ctx K base mg) (ih : Ih P w K mg base (GG K) n cf) : Dv P w K mg base (GG K) N8 "Column.steps" (inClass (top 13) 9) ((GG K).fa 8) n fun n0 => (sRet (eBin oCat (eLit (.int 1)) (eLenG cf [(0, 3)] (eLc (iZip (eFld [0] 0 (eVar 0)) (eSl (eFld [0] 0 (eVar 0)) (pSo (eLit (.int 1))) pNo)) (gTp [(gNm 1), (gNm 2)]) [1, 2] (tBl (eNeQ cf [(0, 2), (1, 18), (2, 28)] [.non, .bl, .int, .str, .tup, .lst, .dct, .own 0, .own 1, .own 2] (eVar 1) (eVar 2))) (eVar 1))))) := by
  intro cdv A outer s H E n0 hr tk
  have T := dvT tk rfl ih hr rfl
  have nd := sc8.nd
  exact (ss_one (ss_ret (se_bin op_catR ok_cat (se_lit pe_int fun _ _ => rfl) (se_lenG T rfl (m_b_len C) (fun p hp => ((m_spc___len__ C) p hp).1) (se_lc (own := [("one", 1), ("other", 2)]) rfl nd (si_zip rfl rfl (m_b_zip C) (se_fld (f := 0) rfl (inj 0 (by decide)) (m_fld_counts C) (se_var (pv 0))) (se_sl rfl (se_fld (f := 0) rfl (inj 0 (by decide)) (m_fld_counts C) (se_var (pv 0))) (so_some (se_lit pe_int fun _ _ => rfl)) so_none)) (blk_ok (own := [("one", 1), ("other", 2)]) (by kernel_rfl)) (tb_tp (tbs_cons (tb_nm 1 (by decide)) (tbs_cons (tb_nm 2 (by decide)) tbs_nil)) rfl) (fun _ _ _ _ _ => (pg_tup rfl (pgs_cons (pg_name (i := 1) nd rfl (by first | exact Or.inl rfl | exact Or.inr rfl)) (pgs_cons (pg_name (i := 2) nd rfl (by first | exact Or.inl rfl | exact Or.inr rfl)) pgs_nil)))) (fun _ _ _ _ _ => (sts_one (st_neQ (T.blk _ _ _ _ _) (m_eqt C) (se_var (pv 1)) (se_var (pv 2)) (nomark _)))) (fun _ _ _ _ _ => (se_var (pv 1))))))))
theorem ok8 {n : Nat} (C : Ctx K base mg) (ih : All P w K mg base (GG K) TT n) : OkF P w K mg base n 8 := by
  obtain ⟨fd, F⟩ := C.says.def_ 8 (d := d8) rfl
  exact def_ok (b := b8) rfl F sc8 rfl rfl (FunD_binds F fun _ _ _ _ _ _ us hl => match us, hl with | [_], _ => rfl) (dv8 C ih)
abbrev N9 : List Str := ["self", "found", "value", "count"]
theorem sc9 : FnScope N9 ["self"] (defScope (inClass (top 13) 10)) := mkSc (by decide +kernel)
theorem dv9 {n : Nat} {cf : CF} (C : Ctx K base mg) (ih : Ih P w K mg base (GG K) n cf) : Dv P w K mg base (GG K) N9 "Column.sorted_rows" (inClass (top 13) 10) ((GG K).fa 9) n fun n0 => (sCons (sAsg (gNm 1) (eNew (eLst aNil))) (sCons (sFor (iEnu (eFld [0] 0 (eVar 0))) (gTp [(gNm 2), (gNm 3)]) (sExp (eLm (extL n0) (eVar 1) (eBin oRep (eLst (aCons (eVar 2) aNil)) (eVar 3))))) (sRet (eVar 1)))) := by
  intro cdv A outer s H E n0 hr tk
  have T := dvT tk rfl ih hr rfl
  have nd := sc9.nd
  have po := dvP tk rfl
  exact (ss_cons (ss_asg (ps_asg (toV (se_new (se_lst sa_nil))) (pg_name (i := 1) nd rfl (by first | exact Or.inl rfl | exact Or.inr rfl))) (tg_nm 1))
 (ss_cons (ss_for (ps_for po rfl (si_enum rfl rfl (m_b_enumerate C) (se_fld (f := 0) rfl (inj 0 (by decide)) (m_fld_counts C) (se_var (pv 0)))) (pg_tup rfl (pgs_cons (pg_name (i := 2) nd rfl (by first | exact Or.inl rfl | exact Or.inr rfl)) (pgs_cons (pg_name (i := 3) nd rfl (by first | exact Or.inl rfl | exact Or.inr rfl)) pgs_nil))) (ss_one (ss_expr (se_lm rfl chg_ext (pe_bm PySem.F.plainAttrs_list PySem.F.slot_list_extend PySem.F.type_list_extend mt_extR (toV (se_var (pv 1))) (pa_cons (toV (se_bin op_repR ok_rep (se_lst (sa_cons (se_var (pv 2)) sa_nil)) (se_var (pv 3)))) pa_nil)))))) (tg_tp (tgs_cons (tg_nm 2) (tgs_cons (tg_nm 3) tgs_nil)) rfl))
 (ss_one (ss_ret (se_var (pv 1))))))
theorem ok9 {n : Nat} (C : Ctx K base mg) (ih : All P w K mg base (GG K) TT n) : OkF P w K mg base n 9 := by
  obtain ⟨fd, F⟩ := C.says.def_ 9 (d := d9) rfl
  exact def_ok (b := b9) rfl F sc9 rfl rfl (FunD_binds F fun _ _ _ _ _ _ us hl => match us, hl with | [_], _ => rfl) (dv9 C ih)
abbrev N10 : List Str := ["column"]
theorem sc10 : FnScope N10 ["column"] (defScope (top 14)) := mkSc (by decide +kernel)
theorem dv10 {n : Nat} {cf : CF} (C : Ctx K base mg) (ih : Ih P w K mg base (GG K) n cf) : Dv P w K mg base (GG K) N10 "check_column" (top 14) ((GG K).fa 10) n fun n0 => (sIf (tNo (tTru (eIsi [(.non, false), (.bl, false), (.int, false), (.str, false), (.tup, false), (.lst, false), (.dct, false), (.own 0, true), (.own 1, false), (.own 2, false)] (eVar 0)))) (sRse 5) sNil) := by
  intro cdv A outer s H E n0 hr tk
  have T := dvT tk rfl ih hr rfl
  have nd := sc10.nd
  exact (ss_one (ss_if (st_no (st_tru rfl (se_isi1 (cv := (.ref ((GG K).ca 0))) (cu := (.ref ((GG K).ca 0))) rfl rfl (m_b_isinstance C) (by rfl) (.own _) (m_kit_0own C) (se_var (pv 0)) (pe_glob (v := .ref ((GG K).ca 0)) rfl (m_c_Column C) rfl)))) (ss_one (ss_rse rfl rfl tk (m_x_BadColumn C) (m_c_BadColumn C) rfl)) ss_nil))
theorem ok10 {n : Nat} (C : Ctx K base mg) (ih : All P w K mg base (GG K) TT n) : OkF P w K mg base n 10 := by
  obtain ⟨fd, F⟩ := C.says.def_ 10 (d := d10) rfl
  exact def_ok (b := b10) rfl F sc10 rfl rfl (FunD_binds F fun _ _ _ _ _ _ us hl => match us, hl with | [_], _ => rfl) (dv10 C ih)
abbrev N11 : List Str := ["thing", "least", "most"]
theorem sc11 : FnScope N11 ["thing", "least", "most"] (defScope (top 15)) := mkSc (by decide +kernel)
theorem dv11 {n : Nat} {cf : CF} (C : Ctx K base mg) (ih : Ih P w K mg base (GG K) n cf) : Dv P w K mg base (GG K) N11 "check_number" (top 15) ((GG K).fa 11) n fun n0 => (sIf (tNo (tTru (eCall cf 3 0 (aCons (eVar 0) (aCons (eVar 1) (aCons (eVar 2) aNil)))))) (sRse 7) sNil) := by
  intro cdv A outer s H E n0 hr tk
  have T := dvT tk rfl ih hr rfl
  have nd := sc11.nd
  exact (ss_one (ss_if (st_no (st_tru rfl (sx_call T rfl (m_f_is_number C) (m_k_is_number C) (sa_cons (se_var (pv 0)) (sa_cons (se_var (pv 1)) (sa_cons (se_var (pv 2)) sa_nil)))))) (ss_one (ss_rse rfl rfl tk (m_x_BadNumber C) (m_c_BadNumber C) rfl)) ss_nil))
theorem ok11 {n : Nat} (C : Ctx K base mg) (ih : All P w K mg base (GG K) TT n) : OkF P w K mg base n 11 := by
  obtain ⟨fd, F⟩ := C.says.def_ 11 (d := d11) rfl
  exact def_ok (b := b11) rfl F sc11 rfl rfl (FunD_binds F fun _ _ _ _ _ _ us hl => match us, hl with | [_, _, _], _ => rfl) (dv11 C ih)
abbrev N12 : List Str := ["rows", "width", "total"]
theorem sc12 : FnScope N12 ["rows", "width", "total"] (defScope (top 18)) := mkSc (by decide +kernel)
theorem dv12 {n : Nat} {cf : CF} (C : Ctx K base mg) (ih : Ih P w K mg base (GG K) n cf) : Dv P w K mg base (GG K) N12 "check_known" (top 18) ((GG K).fa 12) n fun n0 => (sCons (sExpX (eCall cf 3 11 (nxA (aCons (eVar 0) (aCons (eLit (.int 1)) (aCons (eLit (.int (20))) aNil)))))) (sCons (sExpX (eCall cf 3 11 (nxA (aCons (eVar 1) (aCons (eLit (.int 1)) (aCons (eLit (.int (12))) aNil)))))) (sIf (tNo (tTru (eCall cf 3 0 (aCons (eVar 2) (aCons (eLit (.int 0)) (aCons (eBin oRep (eVar 0) (eBin oSub (eVar 1) (eLit (.int 1)))) aNil)))))) (sRse 8) sNil))) := by
  intro cdv A outer s H E n0 hr tk
  have T := dvT tk rfl ih hr rfl
  have nd := sc12.nd
  exact (ss_cons (ss_exprX (sx_callX T (passAt tk) rfl (m_f_check_number C) (m_k_check_number C) (sa_cons (se_var (pv 0)) (sa_cons (se_lit pe_int fun _ _ => rfl) (sa_cons (se_lit (C8.pe_gc rfl (m_i_MOST_ROWS C)) fun _ _ => rfl) sa_nil)))))
 (ss_cons (ss_exprX (sx_callX T (passAt tk) rfl (m_f_check_number C) (m_k_check_number C) (sa_cons (se_var (pv 1)) (sa_cons (se_lit pe_int fun _ _ => rfl) (sa_cons (se_lit (C8.pe_gc rfl (m_i_MOST_VALUES C)) fun _ _ => rfl) sa_nil)))))
 (ss_one (ss_if (st_no (st_tru rfl (sx_call T rfl (m_f_is_number C) (m_k_is_number C) (sa_cons (se_var (pv 2)) (sa_cons (se_lit pe_int fun _ _ => rfl) (sa_cons (se_bin op_repR ok_rep (se_var (pv 0)) (se_bin op_sub ok_sub (se_var (pv 1)) (se_lit pe_int fun _ _ => rfl))) sa_nil)))))) (ss_one (ss_rse rfl rfl tk (m_x_BadSum C) (m_c_BadSum C) rfl)) ss_nil))))
theorem ok12 {n : Nat} (C : Ctx K base mg) (ih : All P w K mg base (GG K) TT n) : OkF P w K mg base n 12 := by
  obtain ⟨fd, F⟩ := C.says.def_ 12 (d := d12) rfl
  exact def_ok (b := b12) rfl F sc12 rfl rfl (FunD_binds F fun _ _ _ _ _ _ us hl => match us, hl with | [_, _, _], _ => rfl) (dv12 C ih)
abbrev N13 : List Str := ["row", "room", "more", "found", "at", "step"]
theorem sc13 : FnScope N13 ["row", "room", "more"] (defScope (top 19)) := mkSc (by decide +kernel)
theorem dv13 {n : Nat} {cf : CF} (C : Ctx K base mg) (ih : Ih P w K mg base (GG K) n cf) : Dv P w K mg base (GG K) N13 "spread_over" (top 19) ((GG K).fa 13) n fun n0 => (sCons (sAsg (gNm 3) (eNew (eArg bListK (aCons (eVar 0) aNil)))) (sCons (sFor (iRg3 (eBin oSub (eLenG cf [(0, 3)] (eVar 3)) (eLit (.int 1))) (eUn oNeg (eLit (.int 1))) (eUn oNeg (eLit (.int 1)))) (gNm 4) (sCons (sAsg (gNm 5) (eArg bMin2 (aCons (eVar 2) (aCons (eBin oSub (eIx cf [(0, 4)] (eVar 1) (eVar 4)) (eIx cf [(0, 4)] (eVar 3) (eVar 4))) aNil)))) (sCons (sAugI oAdd oGet (setG n0) (eVar 3) (eVar 4) (eVar 5)) (sAug 2 oSub (eVar 5))))) (sRet (eArg bTuple (aCons (eVar 3) aNil))))) := by
  intro cdv A outer s H E n0 hr tk
  have T := dvT tk rfl ih hr rfl
  have nd := sc13.nd
  have po := dvP tk rfl
  exact (ss_cons (ss_asg (ps_asg (toV (se_new (se_argB (pe_callTy (cr_listK rfl) rfl (m_b_list C) (by rfl) (sa_cons (se_var (pv 0)) sa_nil)) ok_listK))) (pg_name (i := 3) nd rfl (by first | exact Or.inl rfl | exact Or.inr rfl))) (tg_nm 3))
 (ss_cons (ss_for (ps_for po rfl (si_rng3 rfl (m_b_range C) (se_bin op_sub ok_sub (se_lenG T rfl (m_b_len C) (fun p hp => ((m_spc___len__ C) p hp).1) (se_var (pv 3))) (se_lit pe_int fun _ _ => rfl)) (se_un un_neg ok_neg (se_lit pe_int fun _ _ => rfl)) (se_un un_neg ok_neg (se_lit pe_int fun _ _ => rfl))) (pg_name (i := 4) nd rfl (by first | exact Or.inl rfl | exact Or.inr rfl)) (ss_cons (ss_asg (ps_asg (toV (se_argB (pe_callB (call_min2 rfl) rfl (m_b_min C) (by rfl) (sa_cons (se_var (pv 2)) (sa_cons (se_bin op_sub ok_sub (se_ixG T (m_spc___getitem__ C) (se_var (pv 1)) (se_var (pv 4)) (fun _ _ => rfl) (fun _ _ => by with_unfolding_all rfl)) (se_ixG T (m_spc___getitem__ C) (se_var (pv 3)) (se_var (pv 4)) (fun _ _ => rfl) (fun _ _ => by with_unfolding_all rfl))) sa_nil))) ok_min2)) (pg_name (i := 5) nd rfl (by first | exact Or.inl rfl | exact Or.inr rfl))) (tg_nm 5))
 (ss_cons (ss_augI ok_get ok_add chg_setG (ps_augS (toV (se_var (pv 3))) (toV (se_var (pv 4))) (get_G (units2 T)) (toV (se_var (pv 5))) iop_add (set_G (units2 T))))
 (ss_one (ss_aug (ps_aug (i := 2) nd rfl (by first | exact Or.inl rfl | exact Or.inr rfl) (toV (se_var (pv 5))) iop_sub) ok_sub))))) (tg_nm 4))
 (ss_one (ss_ret (se_argB (pe_callTy call_tuple_of rfl (m_b_tuple C) (by rfl) (sa_cons (se_var (pv 3)) sa_nil)) ok_tuple)))))
theorem ok13 {n : Nat} (C : Ctx K base mg) (ih : All P w K mg base (GG K) TT n) : OkF P w K mg base n 13 := by
  obtain ⟨fd, F⟩ := C.says.def_ 13 (d := d13) rfl
  exact def_ok (b := b13) rfl F sc13 rfl rfl (FunD_binds F fun _ _ _ _ _ _ us hl => match us, hl with | [_, _, _], _ => rfl) (dv13 C ih)
abbrev N14 : List Str := ["rows", "value", "many"]
theorem sc14 : FnScope N14 ["rows", "value", "many"] (defScope (top 20)) := mkSc (by decide +kernel)
theorem dv14 {n : Nat} {cf : CF} (C : Ctx K base mg) (ih : Ih P w K mg base (GG K) n cf) : Dv P w K mg base (GG K) N14 "lowest_with" (top 20) ((GG K).fa 14) n fun n0 => (sRet (eBin oCat (eBin oRep (eLst (aCons (eLit (.int 0)) aNil)) (eBin oSub (eVar 0) (eVar 2))) (eBin oRep (eLst (aCons (eVar 1) aNil)) (eVar 2)))) := by
  intro cdv A outer s H E n0 hr tk
  have T := dvT tk rfl ih hr rfl
  have nd := sc14.nd
  exact (ss_one (ss_ret (se_bin op_catR ok_cat (se_bin op_repR ok_rep (se_lst (sa_cons (se_lit pe_int fun _ _ => rfl) sa_nil)) (se_bin op_sub ok_sub (se_var (pv 0)) (se_var (pv 2)))) (se_bin op_repR ok_rep (se_lst (sa_cons (se_var (pv 1)) sa_nil)) (se_var (pv 2))))))
theorem ok14 {n : Nat} (C : Ctx K base mg) (ih : All P w K mg base (GG K) TT n) : OkF P w K mg base n 14 := by
  obtain ⟨fd, F⟩ := C.says.def_ 14 (d := d14) rfl
  exact def_ok (b := b14) rfl F sc14 rfl rfl (FunD_binds F fun _ _ _ _ _ _ us hl => match us, hl with | [_, _, _], _ => rfl) (dv14 C ih)
abbrev N15 : List Str := ["rows", "width", "value", "many"]
theorem sc15 : FnScope N15 ["rows", "width", "value", "many"] (defScope (top 21)) := mkSc (by decide +kernel)
theorem dv15 {n : Nat} {cf : CF} (C : Ctx K base mg) (ih : Ih P w K mg base (GG K) n cf) : Dv P w K mg base (GG K) N15 "highest_with" (top 21) ((GG K).fa 15) n fun n0 => (sRet (eBin oCat (eBin oRep (eLst (aCons (eBin oSub (eVar 2) (eLit (.int 1))) aNil)) (eBin oSub (eVar 0) (eVar 3))) (eBin oRep (eLst (aCons (eBin oSub (eVar 1) (eLit (.int 1))) aNil)) (eVar 3)))) := by
  intro cdv A outer s H E n0 hr tk
  have T := dvT tk rfl ih hr rfl
  have nd := sc15.nd
  exact (ss_one (ss_ret (se_bin op_catR ok_cat (se_bin op_repR ok_rep (se_lst (sa_cons (se_bin op_sub ok_sub (se_var (pv 2)) (se_lit pe_int fun _ _ => rfl)) sa_nil)) (se_bin op_sub ok_sub (se_var (pv 0)) (se_var (pv 3)))) (se_bin op_repR ok_rep (se_lst (sa_cons (se_bin op_sub ok_sub (se_var (pv 1)) (se_lit pe_int fun _ _ => rfl)) sa_nil)) (se_var (pv 3))))))
theorem ok15 {n : Nat} (C : Ctx K base mg) (ih : All P w K mg base (GG K) TT n) : OkF P w K mg base n 15 := by
  obtain ⟨fd, F⟩ := C.says.def_ 15 (d := d15) rfl
  exact def_ok (b := b15) rfl F sc15 rfl rfl (FunD_binds F fun _ _ _ _ _ _ us hl => match us, hl with | [_, _, _, _], _ => rfl) (dv15 C ih)
abbrev N16 : List Str := ["rows", "width", "total", "value", "many", "low", "high"]
theorem sc16 : FnScope N16 ["rows", "width", "total", "value", "many"] (defScope (top 22)) := mkSc (by decide +kernel)
theorem dv16 {n : Nat} {cf : CF} (C : Ctx K base mg) (ih : Ih P w K mg base (GG K) n cf) : Dv P w K mg base (GG K) N16 "row_with" (top 22) ((GG K).fa 16) n fun n0 => (sCons (sPar [5, 6] (aCons (eCall cf 3 14 (aCons (eVar 0) (aCons (eVar 3) (aCons (eVar 4) aNil)))) (aCons (eCall cf 4 15 (aCons (eVar 0) (aCons (eVar 1) (aCons (eVar 3) (aCons (eVar 4) aNil))))) aNil))) (sCons (sIf (tNo (tBl (eCh oLe oLe (eArg bSum (aCons (eVar 5) aNil)) (eVar 2) (eArg bSum (aCons (eVar 6) aNil))))) (sRet (eLit .non)) sNil) (sRet (eCall cf 3 13 (aCons (eVar 5) (aCons (eVar 6) (aCons (eBin oSub (eVar 2) (eArg bSum (aCons (eVar 5) aNil))) aNil))))))) := by
  intro cdv A outer s H E n0 hr tk
  have T := dvT tk rfl ih hr rfl
  have nd := sc16.nd
  exact (ss_cons (ss_par (ps_par (i := 5) (j := 6) rfl nd rfl rfl (by decide) rfl rfl (sa_cons (sx_call T rfl (m_f_lowest_with C) (m_k_lowest_with C) (sa_cons (se_var (pv 0)) (sa_cons (se_var (pv 3)) (sa_cons (se_var (pv 4)) sa_nil)))) (sa_cons (sx_call T rfl (m_f_highest_with C) (m_k_highest_with C) (sa_cons (se_var (pv 0)) (sa_cons (se_var (pv 1)) (sa_cons (se_var (pv 3)) (sa_cons (se_var (pv 4)) sa_nil))))) sa_nil)) (by rfl)))
 (ss_cons (ss_if (st_no (st_ch op_le ok_le op_le ok_le (se_argB (pe_callB (cr_sumA rfl) rfl (m_b_sum C) (by rfl) (sa_cons (se_var (pv 5)) sa_nil)) ok_sum) (se_var (pv 2)) (se_argB (pe_callB (cr_sumA rfl) rfl (m_b_sum C) (by rfl) (sa_cons (se_var (pv 6)) sa_nil)) ok_sum))) (ss_one (ss_ret (se_lit pe_non fun _ _ => rfl))) ss_nil)
 (ss_one (ss_ret (sx_call T rfl (m_f_spread_over C) (m_k_spread_over C) (sa_cons (se_var (pv 5)) (sa_cons (se_var (pv 6)) (sa_cons (se_bin op_sub ok_sub (se_var (pv 2)) (se_argB (pe_callB (cr_sumA rfl) rfl (m_b_sum C) (by rfl) (sa_cons (se_var (pv 5)) sa_nil)) ok_sum)) sa_nil))))))))
theorem ok16 {n : Nat} (C : Ctx K base mg) (ih : All P w K mg base (GG K) TT n) : OkF P w K mg base n 16 := by
  obtain ⟨fd, F⟩ := C.says.def_ 16 (d := d16) rfl
  exact def_ok (b := b16) rfl F sc16 rfl rfl (FunD_binds F fun _ _ _ _ _ _ us hl => match us, hl with | [_, _, _, _, _], _ => rfl) (dv16 C ih)
abbrev N17 : List Str := ["self", "least", "greatest"]
theorem sc17 : FnScope N17 ["self", "least", "greatest"] (defScope (inClass (top 23) 0)) := mkSc (by decide +kernel)
theorem dv17 {n : Nat} {cf : CF} (C : Ctx K base mg) (ih : Ih P w K mg base (GG K) n cf) : Dv P w K mg base (GG K) N17 "Ends.__init__" (inClass (top 23) 0) ((GG K).fa 17) n fun n0 => (sCons (sFld n0 [1] 2 (eVar 0) (eArg bTuple (aCons (eVar 1) aNil))) (sFld n0 [1] 3 (eVar 0) (eArg bTuple (aCons (eVar 2) aNil)))) := by
  intro cdv A outer s H E n0 hr tk
  have T := dvT tk rfl ih hr rfl
  have nd := sc17.nd
  exact (ss_cons (ss_fld (f := 2) rfl (inj 2 (by decide)) (m_fld_least C) (se_var (pv 0)) (se_argB (pe_callTy call_tuple_of rfl (m_b_tuple C) (by rfl) (sa_cons (se_var (pv 1)) sa_nil)) ok_tuple))
 (ss_one (ss_fld (f := 3) rfl (inj 3 (by decide)) (m_fld_greatest C) (se_var (pv 0)) (se_argB (pe_callTy call_tuple_of rfl (m_b_tuple C) (by rfl) (sa_cons (se_var (pv 2)) sa_nil)) ok_tuple))))
theorem ok17 {n : Nat} (C : Ctx K base mg) (ih : All P w K mg base (GG K) TT n) : OkF P w K mg base n 17 := by
  obtain ⟨fd, F⟩ := C.says.def_ 17 (d := d17) rfl
  exact def_ok (b := b17) rfl F sc17 rfl rfl (FunD_binds F fun _ _ _ _ _ _ us hl => match us, hl with | [_, _, _], _ => rfl) (dv17 C ih)
abbrev N18 : List Str := ["self", "other"]
theorem sc18 : FnScope N18 ["self", "other"] (defScope (inClass (top 23) 1)) := mkSc (by decide +kernel)
theorem dv18 {n : Nat} {cf : CF} (C : Ctx K base mg) (ih : Ih P w K mg base (GG K) n cf) : Dv P w K mg base (GG K) N18 "Ends.__eq__" (inClass (top 23) 1) ((GG K).fa 18) n fun n0 => (sRet (eAn (eIsi [(.non, false), (.bl, false), (.int, false), (.str, false), (.tup, false), (.lst, false), (.dct, false), (.own 0, false), (.own 1, true), (.own 2, false)] (eVar 1)) (eEqQ cf [(0, 2), (1, 18), (2, 28)] [.non, .bl, .int, .str, .tup, .lst, .dct, .own 0, .own 1, .own 2] (eTup (aCons (eFld [1] 2 (eVar 0)) (aCons (eFld [1] 3 (eVar 0)) aNil))) (eTup (aCons (eFld [1] 2 (eVar 1)) (aCons (eFld [1] 3 (eVar 1)) aNil)))))) := by
  intro cdv A outer s H E n0 hr tk
  have T := dvT tk rfl ih hr rfl
  have nd := sc18.nd
  exact (ss_one (ss_ret (se_and rfl (se_isi1 (cv := (.ref ((GG K).ca 1))) (cu := (.ref ((GG K).ca 1))) rfl rfl (m_b_isinstance C) (by rfl) (.own _) (m_kit_1own C) (se_var (pv 1)) (pe_glob (v := .ref ((GG K).ca 1)) rfl (m_c_Ends C) rfl)) (se_one (se_eqQ T (m_eqt C) (se_tup (sa_cons (se_fld (f := 2) rfl (inj 2 (by decide)) (m_fld_least C) (se_var (pv 0))) (sa_cons (se_fld (f := 3) rfl (inj 3 (by decide)) (m_fld_greatest C) (se_var (pv 0))) sa_nil))) (se_tup (sa_cons (se_fld (f := 2) rfl (inj 2 (by decide)) (m_fld_least C) (se_var (pv 1))) (sa_cons (se_fld (f := 3) rfl (inj 3 (by decide)) (m_fld_greatest C) (se_var (pv 1))) sa_nil))) (nomark _))))))
theorem ok18 {n : Nat} (C : Ctx K base mg) (ih : All P w K mg base (GG K) TT n) : OkF P w K mg base n 18 := by
  obtain ⟨fd, F⟩ := C.says.def_ 18 (d := d18) rfl
  exact def_ok (b := b18) rfl F sc18 rfl rfl (FunD_binds F fun _ _ _ _ _ _ us hl => match us, hl with | [_, _], _ => rfl) (dv18 C ih)
abbrev N19 : List Str := ["self", "rows", "width", "total", "value", "some", "numbers", "one"]
theorem sc19 : FnScope N19 ["self", "rows", "width", "total", "value"] (defScope (inClass (top 23) 2)) := mkSc (by decide +kernel)
theorem dv19 {n : Nat} {cf : CF} (C : Ctx K base mg) (ih : Ih P w K mg base (GG K) n cf) : Dv P w K mg base (GG K) N19 "Ends.shows" (inClass (top 23) 2) ((GG K).fa 19) n fun n0 => (sCons (sExpX (eCall cf 4 20 (nxA (aCons (eVar 1) (aCons (eVar 2) (aCons (eVar 3) (aCons (eVar 4) aNil))))))) (sCons (sFor (iSeqH (eTup (aCons (eFld [1] 2 (eVar 0)) (aCons (eFld [1] 3 (eVar 0)) aNil)))) (gNm 5) (sIf (tOr (tBl (eNeQ cf [(0, 2), (1, 18), (2, 28)] [.non, .bl, .int, .str, .tup, .lst, .dct, .own 0, .own 1, .own 2] (eLenG cf [(0, 3)] (eVar 5)) (eVar 1))) (tOr (tNo (tTru (eArg bAll (aCons (eLc (iSeqH (eVar 5)) (gNm 7) [7] tYesP (eCall cf 3 0 (aCons (eVar 7) (aCons (eLit (.int 0)) (aCons (eBin oSub (eVar 2) (eLit (.int 1))) aNil))))) aNil)))) (tBl (eNeQ cf [(0, 2), (1, 18), (2, 28)] [.non, .bl, .int, .str, .tup, .lst, .dct, .own 0, .own 1, .own 2] (eArg bSum (aCons (eVar 5) aNil)) (eVar 3))))) (sRet (eLit (.bl false))) sNil)) (sCons (sAsg (gNm 6) (eLc (iSeqH (eTup (aCons (eFld [1] 2 (eVar 0)) (aCons (eFld [1] 3 (eVar 0)) aNil)))) (gNm 5) [5] tYesP (eLenG cf [(0, 3)] (eLc (iSeqH (eVar 5)) (gNm 7) [7] (tBl (eBin oGe (eVar 7) (eVar 4))) (eVar 7))))) (sRet (eEqQ cf [(0, 2), (1, 18), (2, 28)] [.non, .bl, .int, .str, .tup, .lst, .dct, .own 0, .own 1, .own 2] (eArg bTuple (aCons (eVar 6) aNil)) (eCall cf 4 21 (aCons (eVar 1) (aCons (eVar 2) (aCons (eVar 3) (aCons (eVar 4) aNil)))))))))) := by
  intro cdv A outer s H E n0 hr tk
  have T := dvT tk rfl ih hr rfl
  have nd := sc19.nd
  have po := dvP tk rfl
  exact (ss_cons (ss_exprX (sx_callX T (passAt tk) rfl (m_f_check_asked C) (m_k_check_asked C) (sa_cons (se_var (pv 1)) (sa_cons (se_var (pv 2)) (sa_cons (se_var (pv 3)) (sa_cons (se_var (pv 4)) sa_nil))))))
 (ss_cons (ss_for (ps_for po rfl (si_seqH rfl (se_tup (sa_cons (se_fld (f := 2) rfl (inj 2 (by decide)) (m_fld_least C) (se_var (pv 0))) (sa_cons (se_fld (f := 3) rfl (inj 3 (by decide)) (m_fld_greatest C) (se_var (pv 0))) sa_nil)))) (pg_name (i := 5) nd rfl (by first | exact Or.inl rfl | exact Or.inr rfl)) (ss_one (ss_if (PW.pt (sw_or (st_neQ T (m_eqt C) (se_lenG T rfl (m_b_len C) (fun p hp => ((m_spc___len__ C) p hp).1) (se_var (pv 5))) (se_var (pv 1)) (nomark _)) (sw_or (st_no (st_tru rfl (se_argB (pe_callB (cr_all rfl) rfl (m_b_all C) (by rfl) (sa_cons (se_lc (own := [("one", 7)]) rfl nd (si_seqH rfl (se_var (pv 5))) (blk_ok (own := [("one", 7)]) (by kernel_rfl)) (tb_nm 7 (by decide)) (fun _ _ _ _ _ => (pg_name (i := 7) nd rfl (by first | exact Or.inl rfl | exact Or.inr rfl))) (fun _ _ _ _ _ => sts_nil) (fun _ _ _ _ _ => (sx_call (T.blk _ _ _ _ _) rfl (m_f_is_number C) (m_k_is_number C) (sa_cons (se_var (pv 7)) (sa_cons (se_lit pe_int fun _ _ => rfl) (sa_cons (se_bin op_sub ok_sub (se_var (pv 2)) (se_lit pe_int fun _ _ => rfl)) sa_nil)))))) sa_nil)) ok_all))) (sw_one (st_neQ T (m_eqt C) (se_argB (pe_callB (cr_sumA rfl) rfl (m_b_sum C) (by rfl) (sa_cons (se_var (pv 5)) sa_nil)) ok_sum) (se_var (pv 3)) (nomark _)))))) (ss_one (ss_ret (se_lit pe_bl fun _ _ => rfl))) ss_nil))) (tg_nm 5))
 (ss_cons (ss_asg (asgV (ss_setLc (own := [("some", 5)]) rfl nd (i := 6) rfl rfl (by rfl) (si_seqH rfl (se_tup (sa_cons (se_fld (f := 2) rfl (inj 2 (by decide)) (m_fld_least C) (se_var (pv 0))) (sa_cons (se_fld (f := 3) rfl (inj 3 (by decide)) (m_fld_greatest C) (se_var (pv 0))) sa_nil)))) (blk_ok (own := [("some", 5)]) (by kernel_rfl)) (tb_nm 5 (by decide)) (fun _ _ _ _ _ => (pg_name (i := 5) nd rfl (by first | exact Or.inl rfl | exact Or.inr rfl))) (fun _ _ _ _ _ => sts_nil) (fun _ _ _ _ _ => (se_lenG (T.blk _ _ _ _ _) rfl (m_b_len C) (fun p hp => ((m_spc___len__ C) p hp).1) (se_lc (own := [("one", 7)]) rfl nd (si_seqH rfl (se_var (pv 5))) (blk_ok (own := [("one", 7)]) (by kernel_rfl)) (tb_nm 7 (by decide)) (fun _ _ _ _ _ => (pg_name (i := 7) nd rfl (by first | exact Or.inl rfl | exact Or.inr rfl))) (fun _ _ _ _ _ => (sts_one (st_cmp op_ge ok_ge (se_var (pv 7)) (se_var (pv 4)) (nomark _)))) (fun _ _ _ _ _ => (se_var (pv 7)))))))) (tg_nm 6))
 (ss_one (ss_ret (se_eqQ T (m_eqt C) (se_argB (pe_callTy call_tuple_of rfl (m_b_tuple C) (by rfl) (sa_cons (se_var (pv 6)) sa_nil)) ok_tuple) (sx_call T rfl (m_f_ends_of C) (m_k_ends_of C) (sa_cons (se_var (pv 1)) (sa_cons (se_var (pv 2)) (sa_cons (se_var (pv 3)) (sa_cons (se_var (pv 4)) sa_nil))))) (nomark _)))))))
theorem ok19 {n : Nat} (C : Ctx K base mg) (ih : All P w K mg base (GG K) TT n) : OkF P w K mg base n 19 := by
  obtain ⟨fd, F⟩ := C.says.def_ 19 (d := d19) rfl
  exact def_ok (b := b19) rfl F sc19 rfl rfl (FunD_binds F fun _ _ _ _ _ _ us hl => match us, hl with | [_, _, _, _, _], _ => rfl) (dv19 C ih)
abbrev N20 : List Str := ["rows", "width", "total", "value"]
theorem sc20 : FnScope N20 ["rows", "width", "total", "value"] (defScope (top 24)) := mkSc (by decide +kernel)
theorem dv20 {n : Nat} {cf : CF} (C : Ctx K base mg) (ih : Ih P w K mg base (GG K) n cf) : Dv P w K mg base (GG K) N20 "check_asked" (top 24) ((GG K).fa 20) n fun n0 => (sCons (sExpX (eCall cf 3 12 (nxA (aCons (eVar 0) (aCons (eVar 1) (aCons (eVar 2) aNil)))))) (sIf (tNo (tTru (eCall cf 3 0 (aCons (eVar 3) (aCons (eLit (.int 1)) (aCons (eBin oSub (eVar 1) (eLit (.int 1))) aNil)))))) (sRse 6) sNil)) := by
  intro cdv A outer s H E n0 hr tk
  have T := dvT tk rfl ih hr rfl
  have nd := sc20.nd
  exact (ss_cons (ss_exprX (sx_callX T (passAt tk) rfl (m_f_check_known C) (m_k_check_known C) (sa_cons (se_var (pv 0)) (sa_cons (se_var (pv 1)) (sa_cons (se_var (pv 2)) sa_nil)))))
 (ss_one (ss_if (st_no (st_tru rfl (sx_call T rfl (m_f_is_number C) (m_k_is_number C) (sa_cons (se_var (pv 3)) (sa_cons (se_lit pe_int fun _ _ => rfl) (sa_cons (se_bin op_sub ok_sub (se_var (pv 1)) (se_lit pe_int fun _ _ => rfl)) sa_nil)))))) (ss_one (ss_rse rfl rfl tk (m_x_BadValue C) (m_c_BadValue C) rfl)) ss_nil)))
theorem ok20 {n : Nat} (C : Ctx K base mg) (ih : All P w K mg base (GG K) TT n) : OkF P w K mg base n 20 := by
  obtain ⟨fd, F⟩ := C.says.def_ 20 (d := d20) rfl
  exact def_ok (b := b20) rfl F sc20 rfl rfl (FunD_binds F fun _ _ _ _ _ _ us hl => match us, hl with | [_, _, _, _], _ => rfl) (dv20 C ih)
abbrev N21 : List Str := ["rows", "width", "total", "value", "above", "below"]
theorem sc21 : FnScope N21 ["rows", "width", "total", "value"] (defScope (top 25)) := mkSc (by decide +kernel)
theorem dv21 {n : Nat} {cf : CF} (C : Ctx K base mg) (ih : Ih P w K mg base (GG K) n cf) : Dv P w K mg base (GG K) N21 "ends_of" (top 25) ((GG K).fa 21) n fun n0 => (sCons (sPar [4, 5] (aCons (eBin oSub (eVar 2) (eBin oRep (eVar 0) (eBin oSub (eVar 3) (eLit (.int 1))))) (aCons (eBin oSub (eVar 1) (eVar 3)) aNil))) (sRet (eTup (aCons (eArg bMax2 (aCons (eLit (.int 0)) (aCons (eBin oDiv (eBin oSub (eBin oCat (eVar 4) (eVar 5)) (eLit (.int 1))) (eVar 5)) aNil))) (aCons (eArg bMin2 (aCons (eVar 0) (aCons (eBin oDiv (eVar 2) (eVar 3)) aNil))) aNil))))) := by
  intro cdv A outer s H E n0 hr tk
  have T := dvT tk rfl ih hr rfl
  have nd := sc21.nd
  exact (ss_cons (ss_par (ps_par (i := 4) (j := 5) rfl nd rfl rfl (by decide) rfl rfl (sa_cons (se_bin op_sub ok_sub (se_var (pv 2)) (se_bin op_repR ok_rep (se_var (pv 0)) (se_bin op_sub ok_sub (se_var (pv 3)) (se_lit pe_int fun _ _ => rfl)))) (sa_cons (se_bin op_sub ok_sub (se_var (pv 1)) (se_var (pv 3))) sa_nil)) (by rfl)))
 (ss_one (ss_ret (se_tup (sa_cons (se_argB (pe_callB (call_max2 rfl) rfl (m_b_max C) (by rfl) (sa_cons (se_lit pe_int fun _ _ => rfl) (sa_cons (se_bin op_fdiv ok_div (se_bin op_sub ok_sub (se_bin op_catR ok_cat (se_var (pv 4)) (se_var (pv 5))) (se_lit pe_int fun _ _ => rfl)) (se_var (pv 5))) sa_nil))) ok_max2) (sa_cons (se_argB (pe_callB (call_min2 rfl) rfl (m_b_min C) (by rfl) (sa_cons (se_var (pv 0)) (sa_cons (se_bin op_fdiv ok_div (se_var (pv 2)) (se_var (pv 3))) sa_nil))) ok_min2) sa_nil))))))
theorem ok21 {n : Nat} (C : Ctx K base mg) (ih : All P w K mg base (GG K) TT n) : OkF P w K mg base n 21 := by
  obtain ⟨fd, F⟩ := C.says.def_ 21 (d := d21) rfl
  exact def_ok (b := b21) rfl F sc21 rfl rfl (FunD_binds F fun _ _ _ _ _ _ us hl => match us, hl with | [_, _, _, _], _ => rfl) (dv21 C ih)
abbrev N22 : List Str := ["rows", "width", "total", "value"]
theorem sc22 : FnScope N22 ["rows", "width", "total", "value"] (defScope (top 26)) := mkSc (by decide +kernel)
theorem dv22 {n : Nat} {cf : CF} (C : Ctx K base mg) (ih : Ih P w K mg base (GG K) n cf) : Dv P w K mg base (GG K) N22 "at_least" (top 26) ((GG K).fa 22) n fun n0 => (sCons (sExpX (eCall cf 4 20 (nxA (aCons (eVar 0) (aCons (eVar 1) (aCons (eVar 2) (aCons (eVar 3) aNil))))))) (sRet (eCall cf 4 21 (aCons (eVar 0) (aCons (eVar 1) (aCons (eVar 2) (aCons (eVar 3) aNil))))))) := by
  intro cdv A outer s H E n0 hr tk
  have T := dvT tk rfl ih hr rfl
  have nd := sc22.nd
  exact (ss_cons (ss_exprX (sx_callX T (passAt tk) rfl (m_f_check_asked C) (m_k_check_asked C) (sa_cons (se_var (pv 0)) (sa_cons (se_var (pv 1)) (sa_cons (se_var (pv 2)) (sa_cons (se_var (pv 3)) sa_nil))))))
 (ss_one (ss_ret (sx_call T rfl (m_f_ends_of C) (m_k_ends_of C) (sa_cons (se_var (pv 0)) (sa_cons (se_var (pv 1)) (sa_cons (se_var (pv 2)) (sa_cons (se_var (pv 3)) sa_nil))))))))
theorem ok22 {n : Nat} (C : Ctx K base mg) (ih : All P w K mg base (GG K) TT n) : OkF P w K mg base n 22 := by
  obtain ⟨fd, F⟩ := C.says.def_ 22 (d := d22) rfl
  exact def_ok (b := b22) rfl F sc22 rfl rfl (FunD_binds F fun _ _ _ _ _ _ us hl => match us, hl with | [_, _, _, _], _ => rfl) (dv22 C ih)
abbrev N23 : List Str := ["rows", "width", "total", "value", "low", "high"]
theorem sc23 : FnScope N23 ["rows", "width", "total", "value"] (defScope (top 27)) := mkSc (by decide +kernel)
theorem dv23 {n : Nat} {cf : CF} (C : Ctx K base mg) (ih : Ih P w K mg base (GG K) n cf) : Dv P w K mg base (GG K) N23 "reach_both" (top 27) ((GG K).fa 23) n fun n0 => (sCons (sExpX (eCall cf 4 20 (nxA (aCons (eVar 0) (aCons (eVar 1) (aCons (eVar 2) (aCons (eVar 3) aNil))))))) (sCons (sAsg (gTp [(gNm 4), (gNm 5)]) (eCall cf 4 21 (aCons (eVar 0) (aCons (eVar 1) (aCons (eVar 2) (aCons (eVar 3) aNil)))))) (sRet (eMake cf 3 1 17 (aCons (eCall cf 5 16 (aCons (eVar 0) (aCons (eVar 1) (aCons (eVar 2) (aCons (eVar 3) (aCons (eVar 4) aNil)))))) (aCons (eCall cf 5 16 (aCons (eVar 0) (aCons (eVar 1) (aCons (eVar 2) (aCons (eVar 3) (aCons (eVar 5) aNil)))))) aNil)))))) := by
  intro cdv A outer s H E n0 hr tk
  have T := dvT tk rfl ih hr rfl
  have nd := sc23.nd
  exact (ss_cons (ss_exprX (sx_callX T (passAt tk) rfl (m_f_check_asked C) (m_k_check_asked C) (sa_cons (se_var (pv 0)) (sa_cons (se_var (pv 1)) (sa_cons (se_var (pv 2)) (sa_cons (se_var (pv 3)) sa_nil))))))
 (ss_cons (ss_asg (ps_asg (toV (sx_call T rfl (m_f_ends_of C) (m_k_ends_of C) (sa_cons (se_var (pv 0)) (sa_cons (se_var (pv 1)) (sa_cons (se_var (pv 2)) (sa_cons (se_var (pv 3)) sa_nil)))))) (pg_tup rfl (pgs_cons (pg_name (i := 4) nd rfl (by first | exact Or.inl rfl | exact Or.inr rfl)) (pgs_cons (pg_name (i := 5) nd rfl (by first | exact Or.inl rfl | exact Or.inr rfl)) pgs_nil)))) (tg_tp (tgs_cons (tg_nm 4) (tgs_cons (tg_nm 5) tgs_nil)) rfl))
 (ss_one (ss_ret (se_make T (m_mk_Ends C) rfl (m_c_Ends C) (sa_cons (sx_call T rfl (m_f_row_with C) (m_k_row_with C) (sa_cons (se_var (pv 0)) (sa_cons (se_var (pv 1)) (sa_cons (se_var (pv 2)) (sa_cons (se_var (pv 3)) (sa_cons (se_var (pv 4)) sa_nil)))))) (sa_cons (sx_call T rfl (m_f_row_with C) (m_k_row_with C) (sa_cons (se_var (pv 0)) (sa_cons (se_var (pv 1)) (sa_cons (se_var (pv 2)) (sa_cons (se_var (pv 3)) (sa_cons (se_var (pv 5)) sa_nil)))))) sa_nil)))))))
theorem ok23 {n : Nat} (C : Ctx K base mg) (ih : All P w K mg base (GG K) TT n) : OkF P w K mg base n 23 := by
  obtain ⟨fd, F⟩ := C.says.def_ 23 (d := d23) rfl
  exact def_ok (b := b23) rfl F sc23 rfl rfl (FunD_binds F fun _ _ _ _ _ _ us hl => match us, hl with | [_, _, _, _], _ => rfl) (dv23 C ih)
abbrev N24 : List Str := ["rows", "width", "total", "rank", "behind", "least"]
theorem sc24 : FnScope N24 ["rows", "width", "total", "rank"] (defScope (top 28)) := mkSc (by decide +kernel)
theorem dv24 {n : Nat} {cf : CF} (C : Ctx K base mg) (ih : Ih P w K mg base (GG K) n cf) : Dv P w K mg base (GG K) N24 "rank_values" (top 28) ((GG K).fa 24) n fun n0 => (sCons (sExpX (eCall cf 3 12 (nxA (aCons (eVar 0) (aCons (eVar 1) (aCons (eVar 2) aNil)))))) (sCons (sExpX (eCall cf 3 11 (nxA (aCons (eVar 3) (aCons (eLit (.int 0)) (aCons (eBin oSub (eVar 0) (eLit (.int 1))) aNil)))))) (sCons (sAsg (gNm 4) (eBin oSub (eVar 0) (eVar 3))) (sCons (sAsg (gNm 5) (eBin oSub (eVar 2) (eBin oRep (eBin oSub (eVar 4) (eLit (.int 1))) (eBin oSub (eVar 1) (eLit (.int 1)))))) (sRet (eTup (aCons (eArg bMax2 (aCons (eLit (.int 0)) (aCons (eBin oDiv (eBin oCat (eVar 5) (eVar 3)) (eBin oCat (eVar 3) (eLit (.int 1)))) aNil))) (aCons (eArg bMin2 (aCons (eBin oSub (eVar 1) (eLit (.int 1))) (aCons (eBin oDiv (eVar 2) (eVar 4)) aNil))) aNil)))))))) := by
  intro cdv A outer s H E n0 hr tk
  have T := dvT tk rfl ih hr rfl
  have nd := sc24.nd
  exact (ss_cons (ss_exprX (sx_callX T (passAt tk) rfl (m_f_check_known C) (m_k_check_known C) (sa_cons (se_var (pv 0)) (sa_cons (se_var (pv 1)) (sa_cons (se_var (pv 2)) sa_nil)))))
 (ss_cons (ss_exprX (sx_callX T (passAt tk) rfl (m_f_check_number C) (m_k_check_number C) (sa_cons (se_var (pv 3)) (sa_cons (se_lit pe_int fun _ _ => rfl) (sa_cons (se_bin op_sub ok_sub (se_var (pv 0)) (se_lit pe_int fun _ _ => rfl)) sa_nil)))))
 (ss_cons (ss_asg (ps_asg (toV (se_bin op_sub ok_sub (se_var (pv 0)) (se_var (pv 3)))) (pg_name (i := 4) nd rfl (by first | exact Or.inl rfl | exact Or.inr rfl))) (tg_nm 4))
 (ss_cons (ss_asg (ps_asg (toV (se_bin op_sub ok_sub (se_var (pv 2)) (se_bin op_repR ok_rep (se_bin op_sub ok_sub (se_var (pv 4)) (se_lit pe_int fun _ _ => rfl)) (se_bin op_sub ok_sub (se_var (pv 1)) (se_lit pe_int fun _ _ => rfl))))) (pg_name (i := 5) nd rfl (by first | exact Or.inl rfl | exact Or.inr rfl))) (tg_nm 5))
 (ss_one (ss_ret (se_tup (sa_cons (se_argB (pe_callB (call_max2 rfl) rfl (m_b_max C) (by rfl) (sa_cons (se_lit pe_int fun _ _ => rfl) (sa_cons (se_bin op_fdiv ok_div (se_bin op_catR ok_cat (se_var (pv 5)) (se_var (pv 3))) (se_bin op_catR ok_cat (se_var (pv 3)) (se_lit pe_int fun _ _ => rfl))) sa_nil))) ok_max2) (sa_cons (se_argB (pe_callB (call_min2 rfl) rfl (m_b_min C) (by rfl) (sa_cons (se_bin op_sub ok_sub (se_var (pv 1)) (se_lit pe_int fun _ _ => rfl)) (sa_cons (se_bin op_fdiv ok_div (se_var (pv 2)) (se_var (pv 4))) sa_nil))) ok_min2) sa_nil)))))))))
theorem ok24 {n : Nat} (C : Ctx K base mg) (ih : All P w K mg base (GG K) TT n) : OkF P w K mg base n 24 := by
  obtain ⟨fd, F⟩ := C.says.def_ 24 (d := d24) rfl
  exact def_ok (b := b24) rfl F sc24 rfl rfl (FunD_binds F fun _ _ _ _ _ _ us hl => match us, hl with | [_, _, _, _], _ => rfl) (dv24 C ih)
abbrev N25 : List Str := ["one", "other"]
theorem sc25 : FnScope N25 ["one", "other"] (defScope (top 30)) := mkSc (by decide +kernel)
theorem dv25 {n : Nat} {cf : CF} (C : Ctx K base mg) (ih : Ih P w K mg base (GG K) n cf) : Dv P w K mg base (GG K) N25 "check_pair" (top 30) ((GG K).fa 25) n fun n0 => (sCons (sExpX (eCall cf 1 10 (nxA (aCons (eVar 0) aNil)))) (sCons (sExpX (eCall cf 1 10 (nxA (aCons (eVar 1) aNil)))) (sIf (tOr (tBl (eNeQ cf [(0, 2), (1, 18), (2, 28)] [.non, .bl, .int, .str, .tup, .lst, .dct, .own 0, .own 1, .own 2] (eLenG cf [(0, 3)] (eVar 0)) (eLenG cf [(0, 3)] (eVar 1)))) (tBl (eNeQ cf [(0, 2), (1, 18), (2, 28)] [.non, .bl, .int, .str, .tup, .lst, .dct, .own 0, .own 1, .own 2] (eMeth cf 1 4 [(0, 6)] (eVar 0) aNil) (eMeth cf 1 4 [(0, 6)] (eVar 1) aNil)))) (sRse 9) sNil))) := by
  intro cdv A outer s H E n0 hr tk
  have T := dvT tk rfl ih hr rfl
  have nd := sc25.nd
  exact (ss_cons (ss_exprX (sx_callX T (passAt tk) rfl (m_f_check_column C) (m_k_check_column C) (sa_cons (se_var (pv 0)) sa_nil)))
 (ss_cons (ss_exprX (sx_callX T (passAt tk) rfl (m_f_check_column C) (m_k_check_column C) (sa_cons (se_var (pv 1)) sa_nil)))
 (ss_one (ss_if (PW.pt (sw_or (st_neQ T (m_eqt C) (se_lenG T rfl (m_b_len C) (fun p hp => ((m_spc___len__ C) p hp).1) (se_var (pv 0))) (se_lenG T rfl (m_b_len C) (fun p hp => ((m_spc___len__ C) p hp).1) (se_var (pv 1))) (nomark _)) (sw_one (st_neQ T (m_eqt C) (se_meth0 (m := 4) T (inj 4 (by decide)) (m_met_rows C) (se_var (pv 0))) (se_meth0 (m := 4) T (inj 4 (by decide)) (m_met_rows C) (se_var (pv 1))) (nomark _))))) (ss_one (ss_rse rfl rfl tk (m_x_Unlike C) (m_c_Unlike C) rfl)) ss_nil))))
theorem ok25 {n : Nat} (C : Ctx K base mg) (ih : All P w K mg base (GG K) TT n) : OkF P w K mg base n 25 := by
  obtain ⟨fd, F⟩ := C.says.def_ 25 (d := d25) rfl
  exact def_ok (b := b25) rfl F sc25 rfl rfl (FunD_binds F fun _ _ _ _ _ _ us hl => match us, hl with | [_, _], _ => rfl) (dv25 C ih)
abbrev N26 : List Str := ["one", "other", "early", "late"]
theorem sc26 : FnScope N26 ["one", "other"] (defScope (top 31)) := mkSc (by decide +kernel)
theorem dv26 {n : Nat} {cf : CF} (C : Ctx K base mg) (ih : Ih P w K mg base (GG K) n cf) : Dv P w K mg base (GG K) N26 "flows_of" (top 31) ((GG K).fa 26) n fun n0 => (sRet (eLc (iZip (eSl (eMeth cf 1 5 [(0, 7)] (eVar 0) aNil) (pSo (eLit (.int 1))) (pSo (eUn oNeg (eLit (.int 1))))) (eSl (eMeth cf 1 5 [(0, 7)] (eVar 1) aNil) (pSo (eLit (.int 1))) (pSo (eUn oNeg (eLit (.int 1)))))) (gTp [(gNm 2), (gNm 3)]) [2, 3] tYesP (eBin oSub (eVar 2) (eVar 3)))) := by
  intro cdv A outer s H E n0 hr tk
  have T := dvT tk rfl ih hr rfl
  have nd := sc26.nd
  exact (ss_one (ss_ret (se_lc (own := [("early", 2), ("late", 3)]) rfl nd (si_zip rfl rfl (m_b_zip C) (se_sl rfl (se_meth0 (m := 5) T (inj 5 (by decide)) (m_met_prefixes C) (se_var (pv 0))) (so_some (se_lit pe_int fun _ _ => rfl)) (so_some (se_un un_neg ok_neg (se_lit pe_int fun _ _ => rfl)))) (se_sl rfl (se_meth0 (m := 5) T (inj 5 (by decide)) (m_met_prefixes C) (se_var (pv 1))) (so_some (se_lit pe_int fun _ _ => rfl)) (so_some (se_un un_neg ok_neg (se_lit pe_int fun _ _ => rfl))))) (blk_ok (own := [("early", 2), ("late", 3)]) (by kernel_rfl)) (tb_tp (tbs_cons (tb_nm 2 (by decide)) (tbs_cons (tb_nm 3 (by decide)) tbs_nil)) rfl) (fun _ _ _ _ _ => (pg_tup rfl (pgs_cons (pg_name (i := 2) nd rfl (by first | exact Or.inl rfl | exact Or.inr rfl)) (pgs_cons (pg_name (i := 3) nd rfl (by first | exact Or.inl rfl | exact Or.inr rfl)) pgs_nil)))) (fun _ _ _ _ _ => sts_nil) (fun _ _ _ _ _ => (se_bin op_sub ok_sub (se_var (pv 2)) (se_var (pv 3)))))))
theorem ok26 {n : Nat} (C : Ctx K base mg) (ih : All P w K mg base (GG K) TT n) : OkF P w K mg base n 26 := by
  obtain ⟨fd, F⟩ := C.says.def_ 26 (d := d26) rfl
  exact def_ok (b := b26) rfl F sc26 rfl rfl (FunD_binds F fun _ _ _ _ _ _ us hl => match us, hl with | [_, _], _ => rfl) (dv26 C ih)
abbrev N27 : List Str := ["self", "flows", "heights"]
theorem sc27 : FnScope N27 ["self", "flows", "heights"] (defScope (inClass (top 32) 0)) := mkSc (by decide +kernel)
theorem dv27 {n : Nat} {cf : CF} (C : Ctx K base mg) (ih : Ih P w K mg base (GG K) n cf) : Dv P w K mg base (GG K) N27 "Moved.__init__" (inClass (top 32) 0) ((GG K).fa 27) n fun n0 => (sCons (sFld n0 [2] 6 (eVar 0) (eArg bTuple (aCons (eVar 1) aNil))) (sFld n0 [2] 7 (eVar 0) (eArg bTuple (aCons (eVar 2) aNil)))) := by
  intro cdv A outer s H E n0 hr tk
  have T := dvT tk rfl ih hr rfl
  have nd := sc27.nd
  exact (ss_cons (ss_fld (f := 6) rfl (inj 6 (by decide)) (m_fld_flows C) (se_var (pv 0)) (se_argB (pe_callTy call_tuple_of rfl (m_b_tuple C) (by rfl) (sa_cons (se_var (pv 1)) sa_nil)) ok_tuple))
 (ss_one (ss_fld (f := 7) rfl (inj 7 (by decide)) (m_fld_heights C) (se_var (pv 0)) (se_argB (pe_callTy call_tuple_of rfl (m_b_tuple C) (by rfl) (sa_cons (se_var (pv 2)) sa_nil)) ok_tuple))))
theorem ok27 {n : Nat} (C : Ctx K base mg) (ih : All P w K mg base (GG K) TT n) : OkF P w K mg base n 27 := by
  obtain ⟨fd, F⟩ := C.says.def_ 27 (d := d27) rfl
  exact def_ok (b := b27) rfl F sc27 rfl rfl (FunD_binds F fun _ _ _ _ _ _ us hl => match us, hl with | [_, _, _], _ => rfl) (dv27 C ih)
abbrev N28 : List Str := ["self", "other"]
theorem sc28 : FnScope N28 ["self", "other"] (defScope (inClass (top 32) 1)) := mkSc (by decide +kernel)
theorem dv28 {n : Nat} {cf : CF} (C : Ctx K base mg) (ih : Ih P w K mg base (GG K) n cf) : Dv P w K mg base (GG K) N28 "Moved.__eq__" (inClass (top 32) 1) ((GG K).fa 28) n fun n0 => (sRet (eAn (eIsi [(.non, false), (.bl, false), (.int, false), (.str, false), (.tup, false), (.lst, false), (.dct, false), (.own 0, false), (.own 1, false), (.own 2, true)] (eVar 1)) (eEqQ cf [(0, 2), (1, 18), (2, 28)] [.non, .bl, .int, .str, .tup, .lst, .dct, .own 0, .own 1, .own 2] (eTup (aCons (eFld [2] 6 (eVar 0)) (aCons (eFld [2] 7 (eVar 0)) aNil))) (eTup (aCons (eFld [2] 6 (eVar 1)) (aCons (eFld [2] 7 (eVar 1)) aNil)))))) := by
  intro cdv A outer s H E n0 hr tk
  have T := dvT tk rfl ih hr rfl
  have nd := sc28.nd
  exact (ss_one (ss_ret (se_and rfl (se_isi1 (cv := (.ref ((GG K).ca 2))) (cu := (.ref ((GG K).ca 2))) rfl rfl (m_b_isinstance C) (by rfl) (.own _) (m_kit_2own C) (se_var (pv 1)) (pe_glob (v := .ref ((GG K).ca 2)) rfl (m_c_Moved C) rfl)) (se_one (se_eqQ T (m_eqt C) (se_tup (sa_cons (se_fld (f := 6) rfl (inj 6 (by decide)) (m_fld_flows C) (se_var (pv 0))) (sa_cons (se_fld (f := 7) rfl (inj 7 (by decide)) (m_fld_heights C) (se_var (pv 0))) sa_nil))) (se_tup (sa_cons (se_fld (f := 6) rfl (inj 6 (by decide)) (m_fld_flows C) (se_var (pv 1))) (sa_cons (se_fld (f := 7) rfl (inj 7 (by decide)) (m_fld_heights C) (se_var (pv 1))) sa_nil))) (nomark _))))))
theorem ok28 {n : Nat} (C : Ctx K base mg) (ih : All P w K mg base (GG K) TT n) : OkF P w K mg base n 28 := by
  obtain ⟨fd, F⟩ := C.says.def_ 28 (d := d28) rfl
  exact def_ok (b := b28) rfl F sc28 rfl rfl (FunD_binds F fun _ _ _ _ _ _ us hl => match us, hl with | [_, _], _ => rfl) (dv28 C ih)
abbrev N29 : List Str := ["self", "one", "other", "ends", "late", "gain", "count", "early", "more", "low", "high", "height", "less", "flow"]
theorem sc29 : FnScope N29 ["self", "one", "other"] (defScope (inClass (top 32) 2)) := mkSc (by decide +kernel)
theorem dv29 {n : Nat} {cf : CF} (C : Ctx K base mg) (ih : Ih P w K mg base (GG K) n cf) : Dv P w K mg base (GG K) N29 "Moved.shows" (inClass (top 32) 2) ((GG K).fa 29) n fun n0 => (sCons (sExpX (eCall cf 2 25 (nxA (aCons (eVar 1) (aCons (eVar 2) aNil))))) (sCons (sIf (tOr (tBl (eNeQ cf [(0, 2), (1, 18), (2, 28)] [.non, .bl, .int, .str, .tup, .lst, .dct, .own 0, .own 1, .own 2] (eLenG cf [(0, 3)] (eFld [2] 6 (eVar 0))) (eBin oSub (eLenG cf [(0, 3)] (eVar 1)) (eLit (.int 1))))) (tBl (eNeQ cf [(0, 2), (1, 18), (2, 28)] [.non, .bl, .int, .str, .tup, .lst, .dct, .own 0, .own 1, .own 2] (eLenG cf [(0, 3)] (eFld [2] 7 (eVar 0))) (eLenG cf [(0, 3)] (eVar 1))))) (sRet (eLit (.bl false))) sNil) (sCons (sAsg (gNm 3) (eLst (aCons (eLit (.int 0)) (aStar (eFld [2] 6 (eVar 0)) (aCons (eLit (.int 0)) aNil))))) (sCons (sAsg (gNm 4) (eLc (iZip3 (eFld [0] 0 (eVar 1)) (eVar 3) (eSl (eVar 3) (pSo (eLit (.int 1))) pNo)) (gTp [(gNm 6), (gNm 7), (gNm 8)]) [6, 7, 8] tYesP (eBin oSub (eBin oCat (eVar 6) (eVar 7)) (eVar 8)))) (sCons (sIf (tBl (eNeQ cf [(0, 2), (1, 18), (2, 28)] [.non, .bl, .int, .str, .tup, .lst, .dct, .own 0, .own 1, .own 2] (eArg bTuple (aCons (eVar 4) aNil)) (eFld [0] 0 (eVar 2)))) (sRet (eLit (.bl false))) sNil) (sCons (sIf (tTru (eArg bAny (aCons (eLc (iZip (eFld [2] 7 (eVar 0)) (eSl (eFld [2] 7 (eVar 0)) (pSo (eLit (.int 1))) pNo)) (gTp [(gNm 9), (gNm 10)]) [9, 10] tYesP (eBin oGt (eArg bAbs (aCons (eBin oSub (eVar 9) (eVar 10)) aNil)) (eLit (.int 1)))) aNil))) (sRet (eLit (.bl false))) sNil) (sCons (sAsg (gNm 5) (eArg bSum (aCons (eLc (iZip3 (eFld [2] 7 (eVar 0)) (eFld [0] 0 (eVar 2)) (eFld [0] 0 (eVar 1))) (gTp [(gNm 11), (gNm 8), (gNm 12)]) [11, 8, 12] tYesP (eBin oRep (eVar 11) (eBin oSub (eVar 8) (eVar 12)))) aNil))) (sRet (eEqQ cf [(0, 2), (1, 18), (2, 28)] [.non, .bl, .int, .str, .tup, .lst, .dct, .own 0, .own 1, .own 2] (eVar 5) (eArg bSum (aCons (eLc (iSeqH (eFld [2] 6 (eVar 0))) (gNm 13) [13] tYesP (eArg bAbs (aCons (eVar 13) aNil))) aNil))))))))))) := by
  intro cdv A outer s H E n0 hr tk
  have T := dvT tk rfl ih hr rfl
  have nd := sc29.nd
  exact (ss_cons (ss_exprX (sx_callX T (passAt tk) rfl (m_f_check_pair C) (m_k_check_pair C) (sa_cons (se_var (pv 1)) (sa_cons (se_var (pv 2)) sa_nil))))
 (ss_cons (ss_if (PW.pt (sw_or (st_neQ T (m_eqt C) (se_lenG T rfl (m_b_len C) (fun p hp => ((m_spc___len__ C) p hp).1) (se_fld (f := 6) rfl (inj 6 (by decide)) (m_fld_flows C) (se_var (pv 0)))) (se_bin op_sub ok_sub (se_lenG T rfl (m_b_len C) (fun p hp => ((m_spc___len__ C) p hp).1) (se_var (pv 1))) (se_lit pe_int fun _ _ => rfl)) (nomark _)) (sw_one (st_neQ T (m_eqt C) (se_lenG T rfl (m_b_len C) (fun p hp => ((m_spc___len__ C) p hp).1) (se_fld (f := 7) rfl (inj 7 (by decide)) (m_fld_heights C) (se_var (pv 0)))) (se_lenG T rfl (m_b_len C) (fun p hp => ((m_spc___len__ C) p hp).1) (se_var (pv 1))) (nomark _))))) (ss_one (ss_ret (se_lit pe_bl fun _ _ => rfl))) ss_nil)
 (ss_cons (ss_asg (ps_asg (toV (se_lst (sa_cons (se_lit pe_int fun _ _ => rfl) (sa_star rfl (se_fld (f := 6) rfl (inj 6 (by decide)) (m_fld_flows C) (se_var (pv 0))) (sa_cons (se_lit pe_int fun _ _ => rfl) sa_nil))))) (pg_name (i := 3) nd rfl (by first | exact Or.inl rfl | exact Or.inr rfl))) (tg_nm 3))
 (ss_cons (ss_asg (asgV (ss_setLc (own := [("count", 6), ("early", 7), ("more", 8)]) rfl nd (i := 4) rfl rfl (by rfl) (si_zip3 rfl rfl (m_b_zip C) (se_fld (f := 0) rfl (inj 0 (by decide)) (m_fld_counts C) (se_var (pv 1))) (se_var (pv 3)) (se_sl rfl (se_var (pv 3)) (so_some (se_lit pe_int fun _ _ => rfl)) so_none)) (blk_ok (own := [("count", 6), ("early", 7), ("more", 8)]) (by kernel_rfl)) (tb_tp (tbs_cons (tb_nm 6 (by decide)) (tbs_cons (tb_nm 7 (by decide)) (tbs_cons (tb_nm 8 (by decide)) tbs_nil))) rfl) (fun _ _ _ _ _ => (pg_tup rfl (pgs_cons (pg_name (i := 6) nd rfl (by first | exact Or.inl rfl | exact Or.inr rfl)) (pgs_cons (pg_name (i := 7) nd rfl (by first | exact Or.inl rfl | exact Or.inr rfl)) (pgs_cons (pg_name (i := 8) nd rfl (by first | exact Or.inl rfl | exact Or.inr rfl)) pgs_nil))))) (fun _ _ _ _ _ => sts_nil) (fun _ _ _ _ _ => (se_bin op_sub ok_sub (se_bin op_catR ok_cat (se_var (pv 6)) (se_var (pv 7))) (se_var (pv 8)))))) (tg_nm 4))
 (ss_cons (ss_if (st_neQ T (m_eqt C) (se_argB (pe_callTy call_tuple_of rfl (m_b_tuple C) (by rfl) (sa_cons (se_var (pv 4)) sa_nil)) ok_tuple) (se_fld (f := 0) rfl (inj 0 (by decide)) (m_fld_counts C) (se_var (pv 2))) (nomark _)) (ss_one (ss_ret (se_lit pe_bl fun _ _ => rfl))) ss_nil)
 (ss_cons (ss_if (st_tru rfl (se_argB (pe_callB (cr_any rfl) rfl (m_b_any C) (by rfl) (sa_cons (se_lc (own := [("low", 9), ("high", 10)]) rfl nd (si_zip rfl rfl (m_b_zip C) (se_fld (f := 7) rfl (inj 7 (by decide)) (m_fld_heights C) (se_var (pv 0))) (se_sl rfl (se_fld (f := 7) rfl (inj 7 (by decide)) (m_fld_heights C) (se_var (pv 0))) (so_some (se_lit pe_int fun _ _ => rfl)) so_none)) (blk_ok (own := [("low", 9), ("high", 10)]) (by kernel_rfl)) (tb_tp (tbs_cons (tb_nm 9 (by decide)) (tbs_cons (tb_nm 10 (by decide)) tbs_nil)) rfl) (fun _ _ _ _ _ => (pg_tup rfl (pgs_cons (pg_name (i := 9) nd rfl (by first | exact Or.inl rfl | exact Or.inr rfl)) (pgs_cons (pg_name (i := 10) nd rfl (by first | exact Or.inl rfl | exact Or.inr rfl)) pgs_nil)))) (fun _ _ _ _ _ => sts_nil) (fun _ _ _ _ _ => (se_cmp op_gt ok_gt (se_argB (pe_callB call_abs rfl (m_b_abs C) (by rfl) (sa_cons (se_bin op_sub ok_sub (se_var (pv 9)) (se_var (pv 10))) sa_nil)) ok_abs) (se_lit pe_int fun _ _ => rfl) (nomark _)))) sa_nil)) ok_any)) (ss_one (ss_ret (se_lit pe_bl fun _ _ => rfl))) ss_nil)
 (ss_cons (ss_asg (ps_asg (toV (se_argB (pe_callB (cr_sumA rfl) rfl (m_b_sum C) (by rfl) (sa_cons (se_lc (own := [("height", 11), ("more", 8), ("less", 12)]) rfl nd (si_zip3 rfl rfl (m_b_zip C) (se_fld (f := 7) rfl (inj 7 (by decide)) (m_fld_heights C) (se_var (pv 0))) (se_fld (f := 0) rfl (inj 0 (by decide)) (m_fld_counts C) (se_var (pv 2))) (se_fld (f := 0) rfl (inj 0 (by decide)) (m_fld_counts C) (se_var (pv 1)))) (blk_ok (own := [("height", 11), ("more", 8), ("less", 12)]) (by kernel_rfl)) (tb_tp (tbs_cons (tb_nm 11 (by decide)) (tbs_cons (tb_nm 8 (by decide)) (tbs_cons (tb_nm 12 (by decide)) tbs_nil))) rfl) (fun _ _ _ _ _ => (pg_tup rfl (pgs_cons (pg_name (i := 11) nd rfl (by first | exact Or.inl rfl | exact Or.inr rfl)) (pgs_cons (pg_name (i := 8) nd rfl (by first | exact Or.inl rfl | exact Or.inr rfl)) (pgs_cons (pg_name (i := 12) nd rfl (by first | exact Or.inl rfl | exact Or.inr rfl)) pgs_nil))))) (fun _ _ _ _ _ => sts_nil) (fun _ _ _ _ _ => (se_bin op_repR ok_rep (se_var (pv 11)) (se_bin op_sub ok_sub (se_var (pv 8)) (se_var (pv 12)))))) sa_nil)) ok_sum)) (pg_name (i := 5) nd rfl (by first | exact Or.inl rfl | exact Or.inr rfl))) (tg_nm 5))
 (ss_one (ss_ret (se_eqQ T (m_eqt C) (se_var (pv 5)) (se_argB (pe_callB (cr_sumA rfl) rfl (m_b_sum C) (by rfl) (sa_cons (se_lc (own := [("flow", 13)]) rfl nd (si_seqH rfl (se_fld (f := 6) rfl (inj 6 (by decide)) (m_fld_flows C) (se_var (pv 0)))) (blk_ok (own := [("flow", 13)]) (by kernel_rfl)) (tb_nm 13 (by decide)) (fun _ _ _ _ _ => (pg_name (i := 13) nd rfl (by first | exact Or.inl rfl | exact Or.inr rfl))) (fun _ _ _ _ _ => sts_nil) (fun _ _ _ _ _ => (se_argB (pe_callB call_abs rfl (m_b_abs C) (by rfl) (sa_cons (se_var (pv 13)) sa_nil)) ok_abs))) sa_nil)) ok_sum) (nomark _)))))))))))
theorem ok29 {n : Nat} (C : Ctx K base mg) (ih : All P w K mg base (GG K) TT n) : OkF P w K mg base n 29 := by
  obtain ⟨fd, F⟩ := C.says.def_ 29 (d := d29) rfl
  exact def_ok (b := b29) rfl F sc29 rfl rfl (FunD_binds F fun _ _ _ _ _ _ us hl => match us, hl with | [_, _, _], _ => rfl) (dv29 C ih)
abbrev N30 : List Str := ["one", "other", "flow"]
theorem sc30 : FnScope N30 ["one", "other"] (defScope (top 33)) := mkSc (by decide +kernel)
theorem dv30 {n : Nat} {cf : CF} (C : Ctx K base mg) (ih : Ih P w K mg base (GG K) n cf) : Dv P w K mg base (GG K) N30 "least_steps" (top 33) ((GG K).fa 30) n fun n0 => (sCons (sExpX (eCall cf 2 25 (nxA (aCons (eVar 0) (aCons (eVar 1) aNil))))) (sRet (eArg bSum (aCons (eLc (iSeqH (eCall cf 2 26 (aCons (eVar 0) (aCons (eVar 1) aNil)))) (gNm 2) [2] tYesP (eArg bAbs (aCons (eVar 2) aNil))) aNil)))) := by
  intro cdv A outer s H E n0 hr tk
  have T := dvT tk rfl ih hr rfl
  have nd := sc30.nd
  exact (ss_cons (ss_exprX (sx_callX T (passAt tk) rfl (m_f_check_pair C) (m_k_check_pair C) (sa_cons (se_var (pv 0)) (sa_cons (se_var (pv 1)) sa_nil))))
 (ss_one (ss_ret (se_argB (pe_callB (cr_sumA rfl) rfl (m_b_sum C) (by rfl) (sa_cons (se_lc (own := [("flow", 2)]) rfl nd (si_seqH rfl (sx_call T rfl (m_f_flows_of C) (m_k_flows_of C) (sa_cons (se_var (pv 0)) (sa_cons (se_var (pv 1)) sa_nil)))) (blk_ok (own := [("flow", 2)]) (by kernel_rfl)) (tb_nm 2 (by decide)) (fun _ _ _ _ _ => (pg_name (i := 2) nd rfl (by first | exact Or.inl rfl | exact Or.inr rfl))) (fun _ _ _ _ _ => sts_nil) (fun _ _ _ _ _ => (se_argB (pe_callB call_abs rfl (m_b_abs C) (by rfl) (sa_cons (se_var (pv 2)) sa_nil)) ok_abs))) sa_nil)) ok_sum))))
theorem ok30 {n : Nat} (C : Ctx K base mg) (ih : All P w K mg base (GG K) TT n) : OkF P w K mg base n 30 := by
  obtain ⟨fd, F⟩ := C.says.def_ 30 (d := d30) rfl
  exact def_ok (b := b30) rfl F sc30 rfl rfl (FunD_binds F fun _ _ _ _ _ _ us hl => match us, hl with | [_, _], _ => rfl) (dv30 C ih)
abbrev N31 : List Str := ["one", "other", "flows", "heights", "flow"]
theorem sc31 : FnScope N31 ["one", "other"] (defScope (top 34)) := mkSc (by decide +kernel)
theorem dv31 {n : Nat} {cf : CF} (C : Ctx K base mg) (ih : Ih P w K mg base (GG K) n cf) : Dv P w K mg base (GG K) N31 "move_rows" (top 34) ((GG K).fa 31) n fun n0 => (sCons (sExpX (eCall cf 2 25 (nxA (aCons (eVar 0) (aCons (eVar 1) aNil))))) (sCons (sPar [2, 3] (aCons (eCall cf 2 26 (aCons (eVar 0) (aCons (eVar 1) aNil))) (aCons (eNew (eLst (aCons (eLit (.int 0)) aNil))) aNil))) (sCons (sFor (iSeqH (eVar 2)) (gNm 4) (sExp (eLm (appL n0) (eVar 3) (eBin oCat (eIx cf [(0, 4)] (eVar 3) (eUn oNeg (eLit (.int 1)))) (eIf (tBl (eBin oGt (eVar 4) (eLit (.int 0)))) (eLit (.int 1)) (eIf (tBl (eBin oLt (eVar 4) (eLit (.int 0)))) (eUn oNeg (eLit (.int 1))) (eLit (.int 0)))))))) (sRet (eMake cf 3 2 27 (aCons (eVar 2) (aCons (eVar 3) aNil))))))) := by
  intro cdv A outer s H E n0 hr tk
  have T := dvT tk rfl ih hr rfl
  have nd := sc31.nd
  have po := dvP tk rfl
  exact (ss_cons (ss_exprX (sx_callX T (passAt tk) rfl (m_f_check_pair C) (m_k_check_pair C) (sa_cons (se_var (pv 0)) (sa_cons (se_var (pv 1)) sa_nil))))
 (ss_cons (ss_par (ps_par (i := 2) (j := 3) rfl nd rfl rfl (by decide) rfl rfl (sa_cons (sx_call T rfl (m_f_flows_of C) (m_k_flows_of C) (sa_cons (se_var (pv 0)) (sa_cons (se_var (pv 1)) sa_nil))) (sa_cons (se_new (se_lst (sa_cons (se_lit pe_int fun _ _ => rfl) sa_nil))) sa_nil)) (by rfl)))
 (ss_cons (ss_for (ps_for po rfl (si_seqH rfl (se_var (pv 2))) (pg_name (i := 4) nd rfl (by first | exact Or.inl rfl | exact Or.inr rfl)) (ss_one (ss_expr (se_lm rfl chg_app (pe_bm PySem.F.plainAttrs_list PySem.F.slot_list_append PySem.F.type_list_append mt_append (toV (se_var (pv 3))) (pa_cons (toV (se_bin op_catR ok_cat (se_ixG T (m_spc___getitem__ C) (se_var (pv 3)) (se_un un_neg ok_neg (se_lit pe_int fun _ _ => rfl)) (fun _ _ => rfl) (fun _ _ => by with_unfolding_all rfl)) (se_if (st_cmp op_gt ok_gt (se_var (pv 4)) (se_lit pe_int fun _ _ => rfl) (nomark _)) (se_lit pe_int fun _ _ => rfl) (se_if (st_cmp op_lt ok_lt (se_var (pv 4)) (se_lit pe_int fun _ _ => rfl) (nomark _)) (se_un un_neg ok_neg (se_lit pe_int fun _ _ => rfl)) (se_lit pe_int fun _ _ => rfl))))) pa_nil)))))) (tg_nm 4))
 (ss_one (ss_ret (se_make T (m_mk_Moved C) rfl (m_c_Moved C) (sa_cons (se_var (pv 2)) (sa_cons (se_var (pv 3)) sa_nil))))))))
theorem ok31 {n : Nat} (C : Ctx K base mg) (ih : All P w K mg base (GG K) TT n) : OkF P w K mg base n 31 := by
  obtain ⟨fd, F⟩ := C.says.def_ 31 (d := d31) rfl
  exact def_ok (b := b31) rfl F sc31 rfl rfl (FunD_binds F fun _ _ _ _ _ _ us hl => match us, hl with | [_, _], _ => rfl) (dv31 C ih)
abbrev N32 : List Str := ["one", "other", "count", "late"]
theorem sc32 : FnScope N32 ["one", "other"] (defScope (top 35)) := mkSc (by decide +kernel)
theorem dv32 {n : Nat} {cf : CF} (C : Ctx K base mg) (ih : Ih P w K mg base (GG K) n cf) : Dv P w K mg base (GG K) N32 "fewest_changed" (top 35) ((GG K).fa 32) n fun n0 => (sCons (sExpX (eCall cf 2 25 (nxA (aCons (eVar 0) (aCons (eVar 1) aNil))))) (sRet (eArg bSum (aCons (eLc (iZip (eFld [0] 0 (eVar 0)) (eFld [0] 0 (eVar 1))) (gTp [(gNm 2), (gNm 3)]) [2, 3] tYesP (eArg bMax2 (aCons (eLit (.int 0)) (aCons (eBin oSub (eVar 2) (eVar 3)) aNil)))) aNil)))) := by
  intro cdv A outer s H E n0 hr tk
  have T := dvT tk rfl ih hr rfl
  have nd := sc32.nd
  exact (ss_cons (ss_exprX (sx_callX T (passAt tk) rfl (m_f_check_pair C) (m_k_check_pair C) (sa_cons (se_var (pv 0)) (sa_cons (se_var (pv 1)) sa_nil))))
 (ss_one (ss_ret (se_argB (pe_callB (cr_sumA rfl) rfl (m_b_sum C) (by rfl) (sa_cons (se_lc (own := [("count", 2), ("late", 3)]) rfl nd (si_zip rfl rfl (m_b_zip C) (se_fld (f := 0) rfl (inj 0 (by decide)) (m_fld_counts C) (se_var (pv 0))) (se_fld (f := 0) rfl (inj 0 (by decide)) (m_fld_counts C) (se_var (pv 1)))) (blk_ok (own := [("count", 2), ("late", 3)]) (by kernel_rfl)) (tb_tp (tbs_cons (tb_nm 2 (by decide)) (tbs_cons (tb_nm 3 (by decide)) tbs_nil)) rfl) (fun _ _ _ _ _ => (pg_tup rfl (pgs_cons (pg_name (i := 2) nd rfl (by first | exact Or.inl rfl | exact Or.inr rfl)) (pgs_cons (pg_name (i := 3) nd rfl (by first | exact Or.inl rfl | exact Or.inr rfl)) pgs_nil)))) (fun _ _ _ _ _ => sts_nil) (fun _ _ _ _ _ => (se_argB (pe_callB (call_max2 rfl) rfl (m_b_max C) (by rfl) (sa_cons (se_lit pe_int fun _ _ => rfl) (sa_cons (se_bin op_sub ok_sub (se_var (pv 2)) (se_var (pv 3))) sa_nil))) ok_max2))) sa_nil)) ok_sum))))
theorem ok32 {n : Nat} (C : Ctx K base mg) (ih : All P w K mg base (GG K) TT n) : OkF P w K mg base n 32 := by
  obtain ⟨fd, F⟩ := C.says.def_ 32 (d := d32) rfl
  exact def_ok (b := b32) rfl F sc32 rfl rfl (FunD_binds F fun _ _ _ _ _ _ us hl => match us, hl with | [_, _], _ => rfl) (dv32 C ih)
abbrev N33 : List Str := ["one", "other", "early", "late"]
theorem sc33 : FnScope N33 ["one", "other"] (defScope (top 36)) := mkSc (by decide +kernel)
theorem dv33 {n : Nat} {cf : CF} (C : Ctx K base mg) (ih : Ih P w K mg base (GG K) n cf) : Dv P w K mg base (GG K) N33 "farthest_row" (top 36) ((GG K).fa 33) n fun n0 => (sCons (sExpX (eCall cf 2 25 (nxA (aCons (eVar 0) (aCons (eVar 1) aNil))))) (sRet (eArg bMaxL (aCons (eLst (aCons (eLit (.int 0)) (aStar (eLc (iZip (eMeth cf 1 9 [(0, 9)] (eVar 0) aNil) (eMeth cf 1 9 [(0, 9)] (eVar 1) aNil)) (gTp [(gNm 2), (gNm 3)]) [2, 3] tYesP (eArg bAbs (aCons (eBin oSub (eVar 2) (eVar 3)) aNil))) aNil))) aNil)))) := by
  intro cdv A outer s H E n0 hr tk
  have T := dvT tk rfl ih hr rfl
  have nd := sc33.nd
  exact (ss_cons (ss_exprX (sx_callX T (passAt tk) rfl (m_f_check_pair C) (m_k_check_pair C) (sa_cons (se_var (pv 0)) (sa_cons (se_var (pv 1)) sa_nil))))
 (ss_one (ss_ret (se_argB (pe_callB (cr_maxA rfl (Tb.room T).units) rfl (m_b_max C) (by rfl) (sa_cons (se_lst (sa_cons (se_lit pe_int fun _ _ => rfl) (sa_star rfl (se_lc (own := [("early", 2), ("late", 3)]) rfl nd (si_zip rfl rfl (m_b_zip C) (se_meth0 (m := 9) T (inj 9 (by decide)) (m_met_sorted_rows C) (se_var (pv 0))) (se_meth0 (m := 9) T (inj 9 (by decide)) (m_met_sorted_rows C) (se_var (pv 1)))) (blk_ok (own := [("early", 2), ("late", 3)]) (by kernel_rfl)) (tb_tp (tbs_cons (tb_nm 2 (by decide)) (tbs_cons (tb_nm 3 (by decide)) tbs_nil)) rfl) (fun _ _ _ _ _ => (pg_tup rfl (pgs_cons (pg_name (i := 2) nd rfl (by first | exact Or.inl rfl | exact Or.inr rfl)) (pgs_cons (pg_name (i := 3) nd rfl (by first | exact Or.inl rfl | exact Or.inr rfl)) pgs_nil)))) (fun _ _ _ _ _ => sts_nil) (fun _ _ _ _ _ => (se_argB (pe_callB call_abs rfl (m_b_abs C) (by rfl) (sa_cons (se_bin op_sub ok_sub (se_var (pv 2)) (se_var (pv 3))) sa_nil)) ok_abs))) sa_nil))) sa_nil)) ok_maxL))))
theorem ok33 {n : Nat} (C : Ctx K base mg) (ih : All P w K mg base (GG K) TT n) : OkF P w K mg base n 33 := by
  obtain ⟨fd, F⟩ := C.says.def_ 33 (d := d33) rfl
  exact def_ok (b := b33) rfl F sc33 rfl rfl (FunD_binds F fun _ _ _ _ _ _ us hl => match us, hl with | [_, _], _ => rfl) (dv33 C ih)
abbrev N34 : List Str := ["_law_script", "_law_index", "_law_cells", "_law_cell", "_law_low", "_law_high", "_law_total", "_law_blend"]
theorem sc34 : FnScope N34 ["_law_script", "_law_index"] (defScope (top 38)) := mkSc (by decide +kernel)
theorem dv34 {n : Nat} {cf : CF} (C : Ctx K base mg) (ih : Ih P w K mg base (GG K) n cf) : Dv P w K mg base (GG K) N34 "_law_number" (top 38) ((GG K).fa 34) n fun n0 => (sCons (sAsg (gNm 2) (eIf (tBl (eNeQ cf [(0, 2), (1, 18), (2, 28)] [.non, .bl, .int, .str, .tup, .lst, .dct, .own 0, .own 1, .own 2] (eVar 0) (eLst aNil))) (eSl (eVar 0) pNo (pSo (eLit (.int 63)))) (eLst (aCons (eLit (.int 5)) aNil)))) (sCons (sAsg (gNm 3) (eBin oCat (eIx cf [(0, 4)] (eVar 2) (eBin oMod (eArg bInt (aCons (eVar 1) aNil)) (eLenG cf [(0, 3)] (eVar 2)))) (eBin oRep (eLit (.int 13)) (eBin oDiv (eVar 1) (eLenG cf [(0, 3)] (eVar 2)))))) (sCons (sPar [4, 5] (aCons (eBin oMod (eArg bInt (aCons (eVar 3) aNil)) (eLit (.int 1000003))) (aCons (eBin oMod (eArg bInt (aCons (eBin oDiv (eVar 3) (eLit (.int 1000003))) aNil)) (eLit (.int 999983))) aNil))) (sCons (sAsg (gNm 6) (eBin oMod (eArg bInt (aCons (eArg bSum (aCons (eVar 2) aNil)) aNil)) (eLit (.int 65521)))) (sCons (sAsg (gNm 7) (eBin oMod (eArg bInt (aCons (eBin oCat (eBin oCat (eBin oRep (eBin oCat (eVar 4) (eBin oRep (eLit (.int 977)) (eVar 1))) (eLit (.int 48271))) (eBin oRep (eLit (.int 31)) (eVar 5))) (eVar 6)) aNil)) (eLit (.int 2147483647)))) (sRet (eBin oCat (eBin oRep (eBin oMod (eArg bInt (aCons (eBin oRep (eVar 7) (eBin oCat (eBin oCat (eVar 7) (eBin oRep (eLit (.int 31)) (eVar 1))) (eLit (.int 7)))) aNil)) (eLit (.int 2147483629))) (eLit (.int 65537))) (eVar 5)))))))) := by
  intro cdv A outer s H E n0 hr tk
  have T := dvT tk rfl ih hr rfl
  have nd := sc34.nd
  exact (ss_cons (ss_asg (ps_asg (toV (se_if (st_neQ T (m_eqt C) (se_var (pv 0)) (se_lst sa_nil) (nomark _)) (se_sl rfl (se_var (pv 0)) so_none (so_some (se_lit pe_int fun _ _ => rfl))) (se_lst (sa_cons (se_lit pe_int fun _ _ => rfl) sa_nil)))) (pg_name (i := 2) nd rfl (by first | exact Or.inl rfl | exact Or.inr rfl))) (tg_nm 2))
 (ss_cons (ss_asg (ps_asg (toV (se_bin op_catR ok_cat (se_ixG T (m_spc___getitem__ C) (se_var (pv 2)) (se_bin op_mod ok_mod (se_argB (pe_callTy call_int1 rfl (m_b_int C) (by rfl) (sa_cons (se_var (pv 1)) sa_nil)) ok_int) (se_lenG T rfl (m_b_len C) (fun p hp => ((m_spc___len__ C) p hp).1) (se_var (pv 2)))) (fun _ _ => rfl) (fun _ _ => by with_unfolding_all rfl)) (se_bin op_repR ok_rep (se_lit pe_int fun _ _ => rfl) (se_bin op_fdiv ok_div (se_var (pv 1)) (se_lenG T rfl (m_b_len C) (fun p hp => ((m_spc___len__ C) p hp).1) (se_var (pv 2))))))) (pg_name (i := 3) nd rfl (by first | exact Or.inl rfl | exact Or.inr rfl))) (tg_nm 3))
 (ss_cons (ss_par (ps_par (i := 4) (j := 5) rfl nd rfl rfl (by decide) rfl rfl (sa_cons (se_bin op_mod ok_mod (se_argB (pe_callTy call_int1 rfl (m_b_int C) (by rfl) (sa_cons (se_var (pv 3)) sa_nil)) ok_int) (se_lit pe_int fun _ _ => rfl)) (sa_cons (se_bin op_mod ok_mod (se_argB (pe_callTy call_int1 rfl (m_b_int C) (by rfl) (sa_cons (se_bin op_fdiv ok_div (se_var (pv 3)) (se_lit pe_int fun _ _ => rfl)) sa_nil)) ok_int) (se_lit pe_int fun _ _ => rfl)) sa_nil)) (by rfl)))
 (ss_cons (ss_asg (ps_asg (toV (se_bin op_mod ok_mod (se_argB (pe_callTy call_int1 rfl (m_b_int C) (by rfl) (sa_cons (se_argB (pe_callB (cr_sumA rfl) rfl (m_b_sum C) (by rfl) (sa_cons (se_var (pv 2)) sa_nil)) ok_sum) sa_nil)) ok_int) (se_lit pe_int fun _ _ => rfl))) (pg_name (i := 6) nd rfl (by first | exact Or.inl rfl | exact Or.inr rfl))) (tg_nm 6))
 (ss_cons (ss_asg (ps_asg (toV (se_bin op_mod ok_mod (se_argB (pe_callTy call_int1 rfl (m_b_int C) (by rfl) (sa_cons (se_bin op_catR ok_cat (se_bin op_catR ok_cat (se_bin op_repR ok_rep (se_bin op_catR ok_cat (se_var (pv 4)) (se_bin op_repR ok_rep (se_lit pe_int fun _ _ => rfl) (se_var (pv 1)))) (se_lit pe_int fun _ _ => rfl)) (se_bin op_repR ok_rep (se_lit pe_int fun _ _ => rfl) (se_var (pv 5)))) (se_var (pv 6))) sa_nil)) ok_int) (se_lit pe_int fun _ _ => rfl))) (pg_name (i := 7) nd rfl (by first | exact Or.inl rfl | exact Or.inr rfl))) (tg_nm 7))
 (ss_one (ss_ret (se_bin op_catR ok_cat (se_bin op_repR ok_rep (se_bin op_mod ok_mod (se_argB (pe_callTy call_int1 rfl (m_b_int C) (by rfl) (sa_cons (se_bin op_repR ok_rep (se_var (pv 7)) (se_bin op_catR ok_cat (se_bin op_catR ok_cat (se_var (pv 7)) (se_bin op_repR ok_rep (se_lit pe_int fun _ _ => rfl) (se_var (pv 1)))) (se_lit pe_int fun _ _ => rfl))) sa_nil)) ok_int) (se_lit pe_int fun _ _ => rfl)) (se_lit pe_int fun _ _ => rfl)) (se_var (pv 5))))))))))
theorem ok34 {n : Nat} (C : Ctx K base mg) (ih : All P w K mg base (GG K) TT n) : OkF P w K mg base n 34 := by
  obtain ⟨fd, F⟩ := C.says.def_ 34 (d := d34) rfl
  exact def_ok (b := b34) rfl F sc34 rfl rfl (FunD_binds F fun _ _ _ _ _ _ us hl => match us, hl with | [_, _], _ => rfl) (dv34 C ih)
abbrev N35 : List Str := ["_law_draw", "_law_many"]
theorem sc35 : FnScope N35 ["_law_draw", "_law_many"] (defScope (top 39)) := mkSc (by decide +kernel)
theorem dv35 {n : Nat} {cf : CF} (C : Ctx K base mg) (ih : Ih P w K mg base (GG K) n cf) : Dv P w K mg base (GG K) N35 "_law_take" (top 39) ((GG K).fa 35) n fun n0 => (sCons (sSetI (setG n0) (eVar 0) (eLit (.int 1)) (eBin oCat (eIx cf [(0, 4)] (eVar 0) (eLit (.int 1))) (eLit (.int 1)))) (sRet (eBin oMod (eArg bInt (aCons (eCall cf 2 34 (aCons (eIx cf [(0, 4)] (eVar 0) (eLit (.int 0))) (aCons (eArg bInt (aCons (eIx cf [(0, 4)] (eVar 0) (eLit (.int 1))) aNil)) aNil))) aNil)) (eVar 1)))) := by
  intro cdv A outer s H E n0 hr tk
  have T := dvT tk rfl ih hr rfl
  have nd := sc35.nd
  exact (ss_cons (ss_setI chg_setG (ps_asg (toV (se_bin op_catR ok_cat (se_ixG T (m_spc___getitem__ C) (se_var (pv 0)) (se_lit pe_int fun _ _ => rfl) (fun _ _ => rfl) (fun _ _ => by with_unfolding_all rfl)) (se_lit pe_int fun _ _ => rfl))) (pg_sub (toV (se_var (pv 0))) (toV (se_lit pe_int fun _ _ => rfl)) (set_G (units2 T)))))
 (ss_one (ss_ret (se_bin op_mod ok_mod (se_argB (pe_callTy call_int1 rfl (m_b_int C) (by rfl) (sa_cons (sx_call T rfl (m_f__law_number C) (m_k__law_number C) (sa_cons (se_ixG T (m_spc___getitem__ C) (se_var (pv 0)) (se_lit pe_int fun _ _ => rfl) (fun _ _ => rfl) (fun _ _ => by with_unfolding_all rfl)) (sa_cons (se_argB (pe_callTy call_int1 rfl (m_b_int C) (by rfl) (sa_cons (se_ixG T (m_spc___getitem__ C) (se_var (pv 0)) (se_lit pe_int fun _ _ => rfl) (fun _ _ => rfl) (fun _ _ => by with_unfolding_all rfl)) sa_nil)) ok_int) sa_nil))) sa_nil)) ok_int) (se_var (pv 1))))))
theorem ok35 {n : Nat} (C : Ctx K base mg) (ih : All P w K mg base (GG K) TT n) : OkF P w K mg base n 35 := by
  obtain ⟨fd, F⟩ := C.says.def_ 35 (d := d35) rfl
  exact def_ok (b := b35) rfl F sc35 rfl rfl (FunD_binds F fun _ _ _ _ _ _ us hl => match us, hl with | [_, _], _ => rfl) (dv35 C ih)
abbrev N36 : List Str := ["_law_draw", "_law_things"]
theorem sc36 : FnScope N36 ["_law_draw", "_law_things"] (defScope (top 40)) := mkSc (by decide +kernel)
theorem dv36 {n : Nat} {cf : CF} (C : Ctx K base mg) (ih : Ih P w K mg base (GG K) n cf) : Dv P w K mg base (GG K) N36 "_law_pick" (top 40) ((GG K).fa 36) n fun n0 => (sRet (eIx cf [(0, 4)] (eVar 1) (eCall cf 2 35 (aCons (eVar 0) (aCons (eLenG cf [(0, 3)] (eVar 1)) aNil))))) := by
  intro cdv A outer s H E n0 hr tk
  have T := dvT tk rfl ih hr rfl
  have nd := sc36.nd
  exact (ss_one (ss_ret (se_ixG T (m_spc___getitem__ C) (se_var (pv 1)) (sx_call T rfl (m_f__law_take C) (m_k__law_take C) (sa_cons (se_var (pv 0)) (sa_cons (se_lenG T rfl (m_b_len C) (fun p hp => ((m_spc___len__ C) p hp).1) (se_var (pv 1))) sa_nil))) (fun _ _ => rfl) (fun _ _ => by with_unfolding_all rfl))))
theorem ok36 {n : Nat} (C : Ctx K base mg) (ih : All P w K mg base (GG K) TT n) : OkF P w K mg base n 36 := by
  obtain ⟨fd, F⟩ := C.says.def_ 36 (d := d36) rfl
  exact def_ok (b := b36) rfl F sc36 rfl rfl (FunD_binds F fun _ _ _ _ _ _ us hl => match us, hl with | [_, _], _ => rfl) (dv36 C ih)
abbrev N37 : List Str := ["_law_thing", "_law_low", "_law_high"]
theorem sc37 : FnScope N37 ["_law_thing", "_law_low", "_law_high"] (defScope (top 41)) := mkSc (by decide +kernel)
theorem dv37 {n : Nat} {cf : CF} (C : Ctx K base mg) (ih : Ih P w K mg base (GG K) n cf) : Dv P w K mg base (GG K) N37 "_law_is_number" (top 41) ((GG K).fa 37) n fun n0 => (sRet (eAn (eIsi [(.non, false), (.bl, true), (.int, true), (.str, false), (.tup, false), (.lst, false), (.dct, false), (.own 0, false), (.own 1, false), (.own 2, false)] (eVar 0)) (eAn (eNot (eIsi [(.non, false), (.bl, true), (.int, false), (.str, false), (.tup, false), (.lst, false), (.dct, false), (.own 0, false), (.own 1, false), (.own 2, false)] (eVar 0))) (eCh oLe oLe (eVar 1) (eVar 0) (eVar 2))))) := by
  intro cdv A outer s H E n0 hr tk
  have T := dvT tk rfl ih hr rfl
  have nd := sc37.nd
  exact (ss_one (ss_ret (se_and rfl (se_isi1 (cv := (.ty "int")) (cu := (.type "int")) rfl rfl (m_b_isinstance C) (by rfl) (.ty _) (m_kit_intty C) (se_var (pv 0)) (pe_bltn (v := .ty "int") (u := .type "int") rfl (m_b_int C) (by rfl) rfl (by decide))) (se_and rfl (se_not rfl (se_isi1 (cv := (.ty "bool")) (cu := (.type "bool")) rfl rfl (m_b_isinstance C) (by rfl) (.ty _) (m_kit_boolty C) (se_var (pv 0)) (pe_bltn (v := .ty "bool") (u := .type "bool") rfl (m_b_bool C) (by rfl) rfl (by decide)))) (se_one (se_ch op_le ok_le op_le ok_le (se_var (pv 1)) (se_var (pv 0)) (se_var (pv 2)) (pe_chain op_le op_le (toV (se_var (pv 1))) (toV (se_var (pv 0))) (toV (se_var (pv 2))))))))))
theorem ok37 {n : Nat} (C : Ctx K base mg) (ih : All P w K mg base (GG K) TT n) : OkF P w K mg base n 37 := by
  obtain ⟨fd, F⟩ := C.says.def_ 37 (d := d37) rfl
  exact def_ok (b := b37) rfl F sc37 rfl rfl (FunD_binds F fun _ _ _ _ _ _ us hl => match us, hl with | [_, _, _], _ => rfl) (dv37 C ih)
abbrev N38 : List Str := ["_law_call"]
theorem sc38 : FnScope N38 ["_law_call"] (defScope (top 42)) := mkSc (by decide +kernel)
theorem wx38 (C : Ctx K base mg) (c : Nat) (w : Str) (e : wt38 c = some w) : wordL K (.ref ((GG K).ca c)) [(.ref ((GG K).ca 5), "column"), (.ref ((GG K).ca 7), "number"), (.ref ((GG K).ca 8), "sum"), (.ref ((GG K).ca 6), "value"), (.ref ((GG K).ca 9), "unlike"), (.ref ((GG K).ca 3), "other")] = some w := wordL_ok (G := GG K) (m_wq_38 C) c w e
theorem dv38 {n : Nat} {cf : CF} (C : Ctx K base mg) (ih : Ih P w K mg base (GG K) n cf) : Dv P w K mg base (GG K) N38 "_law_word" (top 42) ((GG K).fa 38) n fun n0 => sNo := by
  intro cdv A outer s H E n0 hr tk
  have T := dvT tk rfl ih hr rfl
  have nd := sc38.nd
  exact (ss_one ss_no)
theorem ok38 {n : Nat} (C : Ctx K base mg) (ih : All P w K mg base (GG K) TT n) : OkF P w K mg base n 38 := by
  obtain ⟨fd, F⟩ := C.says.def_ 38 (d := d38) rfl
  exact def_ok (b := b38) rfl F sc38 rfl rfl (FunD_binds F fun _ _ _ _ _ _ us hl => match us, hl with | [_], _ => rfl) (dv38 C ih)
abbrev N39 : List Str := ["_law_words", "_law_some", "_law_word_here"]
theorem sc39 : FnScope N39 ["_law_words"] (defScope (top 43)) := mkSc (by decide +kernel)
theorem dv39 {n : Nat} {cf : CF} (C : Ctx K base mg) (ih : Ih P w K mg base (GG K) n cf) : Dv P w K mg base (GG K) N39 "_law_first" (top 43) ((GG K).fa 39) n fun n0 => (sCons (sAsg (gNm 1) (eLc (iSeqH (eVar 0)) (gNm 2) [2] (tBl (eNeQ cf [(0, 2), (1, 18), (2, 28)] [.non, .bl, .int, .str, .tup, .lst, .dct, .own 0, .own 1, .own 2] (eVar 2) (eLit (.str "none")))) (eVar 2))) (sRet (eIf (tBl (eNeQ cf [(0, 2), (1, 18), (2, 28)] [.non, .bl, .int, .str, .tup, .lst, .dct, .own 0, .own 1, .own 2] (eVar 1) (eLst aNil))) (eIx cf [(0, 4)] (eVar 1) (eLit (.int 0))) (eLit (.str "none"))))) := by
  intro cdv A outer s H E n0 hr tk
  have T := dvT tk rfl ih hr rfl
  have nd := sc39.nd
  exact (ss_cons (ss_asg (asgV (ss_setLc (own := [("_law_word_here", 2)]) rfl nd (i := 1) rfl rfl (by rfl) (si_seqH rfl (se_var (pv 0))) (blk_ok (own := [("_law_word_here", 2)]) (by kernel_rfl)) (tb_nm 2 (by decide)) (fun _ _ _ _ _ => (pg_name (i := 2) nd rfl (by first | exact Or.inl rfl | exact Or.inr rfl))) (fun _ _ _ _ _ => (sts_one (st_neQ (T.blk _ _ _ _ _) (m_eqt C) (se_var (pv 2)) (se_lit pe_str fun _ _ => rfl) (nomark _)))) (fun _ _ _ _ _ => (se_var (pv 2))))) (tg_nm 1))
 (ss_one (ss_ret (se_if (st_neQ T (m_eqt C) (se_var (pv 1)) (se_lst sa_nil) (nomark _)) (se_ixG T (m_spc___getitem__ C) (se_var (pv 1)) (se_lit pe_int fun _ _ => rfl) (fun _ _ => rfl) (fun _ _ => by with_unfolding_all rfl)) (se_lit pe_str fun _ _ => rfl)))))
theorem ok39 {n : Nat} (C : Ctx K base mg) (ih : All P w K mg base (GG K) TT n) : OkF P w K mg base n 39 := by
  obtain ⟨fd, F⟩ := C.says.def_ 39 (d := d39) rfl
  exact def_ok (b := b39) rfl F sc39 rfl rfl (FunD_binds F fun _ _ _ _ _ _ us hl => match us, hl with | [_], _ => rfl) (dv39 C ih)
abbrev N40 : List Str := ["_law_is_good_now", "_law_word_here"]
theorem sc40 : FnScope N40 ["_law_is_good_now", "_law_word_here"] (defScope (top 44)) := mkSc (by decide +kernel)
theorem dv40 {n : Nat} {cf : CF} (C : Ctx K base mg) (ih : Ih P w K mg base (GG K) n cf) : Dv P w K mg base (GG K) N40 "_law_no" (top 44) ((GG K).fa 40) n fun n0 => (sRet (eIf (tTru (eVar 0)) (eLit (.str "none")) (eVar 1))) := by
  intro cdv A outer s H E n0 hr tk
  have T := dvT tk rfl ih hr rfl
  have nd := sc40.nd
  exact (ss_one (ss_ret (se_if (st_tru rfl (se_var (pv 0))) (se_lit pe_str fun _ _ => rfl) (se_var (pv 1)))))
theorem ok40 {n : Nat} (C : Ctx K base mg) (ih : All P w K mg base (GG K) TT n) : OkF P w K mg base n 40 := by
  obtain ⟨fd, F⟩ := C.says.def_ 40 (d := d40) rfl
  exact def_ok (b := b40) rfl F sc40 rfl rfl (FunD_binds F fun _ _ _ _ _ _ us hl => match us, hl with | [_, _], _ => rfl) (dv40 C ih)
abbrev N41 : List Str := ["_law_draw", "_law_rows", "_law_width", "_law_first_here", "_law_top", "_law_total", "_law_due", "_law_value", "_law_rank", "_law_asked", "_law_calls", "_law_call"]
theorem sc41 : FnScope N41 ["_law_draw"] (defScope (top 45)) := mkSc (by decide +kernel)
theorem dv41 {n : Nat} {cf : CF} (C : Ctx K base mg) (ih : Ih P w K mg base (GG K) n cf) : DvK (.ref (cT K ("_law_sums_right", none)).1) P w K mg base (GG K) N41 "_law_sums_right" (top 45) ((GG K).fa 41) n fun n0 => (sCons (sAsg (gTp [(gNm 1), (gNm 2)]) (eTup (aCons (eCall cf 2 36 (aCons (eVar 0) (aCons (eLst (aCons (eLit (.int 1)) (aCons (eLit (.int 4)) (aCons (eLit (.int 20)) (aCons (eLit (.int 21)) (aCons (eLit (.int 0)) (aCons (eLit (.bl true)) (aCons (eLit .non) aNil)))))))) aNil))) (aCons (eCall cf 2 36 (aCons (eVar 0) (aCons (eLst (aCons (eLit (.int 1)) (aCons (eLit (.int 2)) (aCons (eLit (.int 5)) (aCons (eLit (.int 12)) (aCons (eLit (.int 13)) (aCons (eLit (.int 0)) (aCons (eLit (.bl true)) (aCons (eLit (.str "5")) aNil))))))))) aNil))) aNil)))) (sCons (sAsg (gNm 3) (eCall cf 1 39 (aCons (eLst (aCons (eCall cf 2 40 (aCons (eCall cf 3 37 (aCons (eVar 1) (aCons (eLit (.int 1)) (aCons (eLit (.int 20)) aNil)))) (aCons (eLit (.str "number")) aNil))) (aCons (eCall cf 2 40 (aCons (eCall cf 3 37 (aCons (eVar 2) (aCons (eLit (.int 1)) (aCons (eLit (.int 12)) aNil)))) (aCons (eLit (.str "number")) aNil))) aNil))) aNil))) (sCons (sAsg (gNm 4) (eIf (tBl (eEqQ cf [(0, 2), (1, 18), (2, 28)] [.non, .bl, .int, .str, .tup, .lst, .dct, .own 0, .own 1, .own 2] (eVar 3) (eLit (.str "none")))) (eBin oRep (eVar 1) (eBin oSub (eVar 2) (eLit (.int 1)))) (eLit (.int 0)))) (sCons (sAsg (gNm 5) (eCall cf 2 36 (aCons (eVar 0) (aCons (eLst (aCons (eLit (.int 0)) (aCons (eVar 4) (aCons (eBin oCat (eVar 4) (eLit (.int 1))) (aCons (eUn oNeg (eLit (.int 1))) (aCons (eLit (.bl true)) (aCons (eLit .non) (aCons (eBin oDiv (eVar 4) (eLit (.int 2))) aNil)))))))) aNil)))) (sCons (sAsg (gNm 6) (eCall cf 1 39 (aCons (eLst (aCons (eVar 3) (aCons (eCall cf 2 40 (aCons (eOr (eNeQ cf [(0, 2), (1, 18), (2, 28)] [.non, .bl, .int, .str, .tup, .lst, .dct, .own 0, .own 1, .own 2] (eVar 3) (eLit (.str "none"))) (eCall cf 3 37 (aCons (eVar 5) (aCons (eLit (.int 0)) (aCons (eVar 4) aNil))))) (aCons (eLit (.str "sum")) aNil))) aNil))) aNil))) (sCons (sAsg (gTp [(gNm 7), (gNm 8)]) (eTup (aCons (eCall cf 2 36 (aCons (eVar 0) (aCons (eLst (aCons (eLit (.int 0)) (aCons (eLit (.int 1)) (aCons (eLit (.int 2)) (aCons (eLit (.int 4)) (aCons (eLit (.int 11)) (aCons (eLit (.int 12)) (aCons (eLit .non) (aCons (eLit (.bl true)) aNil))))))))) aNil))) (aCons (eCall cf 2 36 (aCons (eVar 0) (aCons (eLst (aCons (eLit (.int 0)) (aCons (eLit (.int 1)) (aCons (eLit (.int 3)) (aCons (eLit (.int 19)) (aCons (eLit (.int 20)) (aCons (eUn oNeg (eLit (.int 1))) (aCons (eLit (.bl true)) (aCons (eLit .non) aNil))))))))) aNil))) aNil)))) (sCons (sAsg (gNm 9) (eCall cf 1 39 (aCons (eLst (aCons (eVar 6) (aCons (eCall cf 2 40 (aCons (eOr (eNeQ cf [(0, 2), (1, 18), (2, 28)] [.non, .bl, .int, .str, .tup, .lst, .dct, .own 0, .own 1, .own 2] (eVar 6) (eLit (.str "none"))) (eCall cf 3 37 (aCons (eVar 7) (aCons (eLit (.int 1)) (aCons (eBin oSub (eVar 2) (eLit (.int 1))) aNil))))) (aCons (eLit (.str "value")) aNil))) aNil))) aNil))) (sLams 10 (sCons (sIf (tWords wt38 "none" cmpNe selAny [(eCall cf 4 22 (nxA (aCons (eVar 1) (aCons (eVar 2) (aCons (eVar 5) (aCons (eVar 7) aNil)))))), (eCall cf 4 23 (nxA (aCons (eVar 1) (aCons (eVar 2) (aCons (eVar 5) (aCons (eVar 7) aNil)))))), (eMeth cf 5 10 [(1, 19), (2, 29)] (nxE (eMake cf 3 1 17 (aCons (eTup aNil) (aCons (eTup aNil) aNil)))) (nxA (aCons (eVar 1) (aCons (eVar 2) (aCons (eVar 5) (aCons (eVar 7) aNil))))))] 9 11) (sRet (eLit (.bl false))) sNil) (sCons (sAsg (gNm 9) (eCall cf 1 39 (aCons (eLst (aCons (eVar 6) (aCons (eCall cf 2 40 (aCons (eOr (eNeQ cf [(0, 2), (1, 18), (2, 28)] [.non, .bl, .int, .str, .tup, .lst, .dct, .own 0, .own 1, .own 2] (eVar 6) (eLit (.str "none"))) (eCall cf 3 37 (aCons (eVar 8) (aCons (eLit (.int 0)) (aCons (eBin oSub (eVar 1) (eLit (.int 1))) aNil))))) (aCons (eLit (.str "number")) aNil))) aNil))) aNil))) (sRet (eEqQ cf [(0, 2), (1, 18), (2, 28)] [.non, .bl, .int, .str, .tup, .lst, .dct, .own 0, .own 1, .own 2] (eWord (eCall cf 4 24 (nxA (aCons (eVar 1) (aCons (eVar 2) (aCons (eVar 5) (aCons (eVar 8) aNil)))))) wt38 "none") (eVar 9))))))))))))) := by
  intro cdv A outer s H E n0 hcv hr tk
  have T := dvT tk rfl ih hr rfl
  have nd := sc41.nd
  obtain ⟨fd38, F38⟩ := C.says.def_ 38 (d := d38) rfl
  have hb38 := FunD_binds (ps := ["_law_call"]) F38 fun _ _ _ _ _ _ us hl => match us, hl with | [_], _ => rfl
  obtain ⟨oc38, od38, dV38, kV38, doc38, pm38, an38, cd38, ct38, osl38, rfl, lk38, hc38, _, _⟩ := F38.ex
  exact (ss_cons (ss_asg (ps_asg (toV (se_tup (sa_cons (sx_call T rfl (m_f__law_pick C) (m_k__law_pick C) (sa_cons (se_var (pv 0)) (sa_cons (se_lst (sa_cons (se_lit pe_int fun _ _ => rfl) (sa_cons (se_lit pe_int fun _ _ => rfl) (sa_cons (se_lit pe_int fun _ _ => rfl) (sa_cons (se_lit pe_int fun _ _ => rfl) (sa_cons (se_lit pe_int fun _ _ => rfl) (sa_cons (se_lit pe_bl fun _ _ => rfl) (sa_cons (se_lit pe_non fun _ _ => rfl) sa_nil)))))))) sa_nil))) (sa_cons (sx_call T rfl (m_f__law_pick C) (m_k__law_pick C) (sa_cons (se_var (pv 0)) (sa_cons (se_lst (sa_cons (se_lit pe_int fun _ _ => rfl) (sa_cons (se_lit pe_int fun _ _ => rfl) (sa_cons (se_lit pe_int fun _ _ => rfl) (sa_cons (se_lit pe_int fun _ _ => rfl) (sa_cons (se_lit pe_int fun _ _ => rfl) (sa_cons (se_lit pe_int fun _ _ => rfl) (sa_cons (se_lit pe_bl fun _ _ => rfl) (sa_cons (se_lit pe_str fun _ _ => rfl) sa_nil))))))))) sa_nil))) sa_nil)))) (pg_tup rfl (pgs_cons (pg_name (i := 1) nd rfl (by first | exact Or.inl rfl | exact Or.inr rfl)) (pgs_cons (pg_name (i := 2) nd rfl (by first | exact Or.inl rfl | exact Or.inr rfl)) pgs_nil)))) (tg_tp (tgs_cons (tg_nm 1) (tgs_cons (tg_nm 2) tgs_nil)) rfl))
 (ss_cons (ss_asg (ps_asg (toV (sx_call T rfl (m_f__law_first C) (m_k__law_first C) (sa_cons (se_lst (sa_cons (sx_call T rfl (m_f__law_no C) (m_k__law_no C) (sa_cons (sx_call T rfl (m_f__law_is_number C) (m_k__law_is_number C) (sa_cons (se_var (pv 1)) (sa_cons (se_lit pe_int fun _ _ => rfl) (sa_cons (se_lit pe_int fun _ _ => rfl) sa_nil)))) (sa_cons (se_lit pe_str fun _ _ => rfl) sa_nil))) (sa_cons (sx_call T rfl (m_f__law_no C) (m_k__law_no C) (sa_cons (sx_call T rfl (m_f__law_is_number C) (m_k__law_is_number C) (sa_cons (se_var (pv 2)) (sa_cons (se_lit pe_int fun _ _ => rfl) (sa_cons (se_lit pe_int fun _ _ => rfl) sa_nil)))) (sa_cons (se_lit pe_str fun _ _ => rfl) sa_nil))) sa_nil))) sa_nil))) (pg_name (i := 3) nd rfl (by first | exact Or.inl rfl | exact Or.inr rfl))) (tg_nm 3))
 (ss_cons (ss_asg (ps_asg (toV (se_if (st_eqQ T (m_eqt C) (se_var (pv 3)) (se_lit pe_str fun _ _ => rfl) (nomark _)) (se_bin op_repR ok_rep (se_var (pv 1)) (se_bin op_sub ok_sub (se_var (pv 2)) (se_lit pe_int fun _ _ => rfl))) (se_lit pe_int fun _ _ => rfl))) (pg_name (i := 4) nd rfl (by first | exact Or.inl rfl | exact Or.inr rfl))) (tg_nm 4))
 (ss_cons (ss_asg (ps_asg (toV (sx_call T rfl (m_f__law_pick C) (m_k__law_pick C) (sa_cons (se_var (pv 0)) (sa_cons (se_lst (sa_cons (se_lit pe_int fun _ _ => rfl) (sa_cons (se_var (pv 4)) (sa_cons (se_bin op_catR ok_cat (se_var (pv 4)) (se_lit pe_int fun _ _ => rfl)) (sa_cons (se_un un_neg ok_neg (se_lit pe_int fun _ _ => rfl)) (sa_cons (se_lit pe_bl fun _ _ => rfl) (sa_cons (se_lit pe_non fun _ _ => rfl) (sa_cons (se_bin op_fdiv ok_div (se_var (pv 4)) (se_lit pe_int fun _ _ => rfl)) sa_nil)))))))) sa_nil)))) (pg_name (i := 5) nd rfl (by first | exact Or.inl rfl | exact Or.inr rfl))) (tg_nm 5))
 (ss_cons (ss_asg (ps_asg (toV (sx_call T rfl (m_f__law_first C) (m_k__law_first C) (sa_cons (se_lst (sa_cons (se_var (pv 3)) (sa_cons (sx_call T rfl (m_f__law_no C) (m_k__law_no C) (sa_cons (se_or rfl (se_neQ T (m_eqt C) (se_var (pv 3)) (se_lit pe_str fun _ _ => rfl) (nomark _)) (se_one (sx_call T rfl (m_f__law_is_number C) (m_k__law_is_number C) (sa_cons (se_var (pv 5)) (sa_cons (se_lit pe_int fun _ _ => rfl) (sa_cons (se_var (pv 4)) sa_nil)))))) (sa_cons (se_lit pe_str fun _ _ => rfl) sa_nil))) sa_nil))) sa_nil))) (pg_name (i := 6) nd rfl (by first | exact Or.inl rfl | exact Or.inr rfl))) (tg_nm 6))
 (ss_cons (ss_asg (ps_asg (toV (se_tup (sa_cons (sx_call T rfl (m_f__law_pick C) (m_k__law_pick C) (sa_cons (se_var (pv 0)) (sa_cons (se_lst (sa_cons (se_lit pe_int fun _ _ => rfl) (sa_cons (se_lit pe_int fun _ _ => rfl) (sa_cons (se_lit pe_int fun _ _ => rfl) (sa_cons (se_lit pe_int fun _ _ => rfl) (sa_cons (se_lit pe_int fun _ _ => rfl) (sa_cons (se_lit pe_int fun _ _ => rfl) (sa_cons (se_lit pe_non fun _ _ => rfl) (sa_cons (se_lit pe_bl fun _ _ => rfl) sa_nil))))))))) sa_nil))) (sa_cons (sx_call T rfl (m_f__law_pick C) (m_k__law_pick C) (sa_cons (se_var (pv 0)) (sa_cons (se_lst (sa_cons (se_lit pe_int fun _ _ => rfl) (sa_cons (se_lit pe_int fun _ _ => rfl) (sa_cons (se_lit pe_int fun _ _ => rfl) (sa_cons (se_lit pe_int fun _ _ => rfl) (sa_cons (se_lit pe_int fun _ _ => rfl) (sa_cons (se_un un_neg ok_neg (se_lit pe_int fun _ _ => rfl)) (sa_cons (se_lit pe_bl fun _ _ => rfl) (sa_cons (se_lit pe_non fun _ _ => rfl) sa_nil))))))))) sa_nil))) sa_nil)))) (pg_tup rfl (pgs_cons (pg_name (i := 7) nd rfl (by first | exact Or.inl rfl | exact Or.inr rfl)) (pgs_cons (pg_name (i := 8) nd rfl (by first | exact Or.inl rfl | exact Or.inr rfl)) pgs_nil)))) (tg_tp (tgs_cons (tg_nm 7) (tgs_cons (tg_nm 8) tgs_nil)) rfl))
 (ss_cons (ss_asg (ps_asg (toV (sx_call T rfl (m_f__law_first C) (m_k__law_first C) (sa_cons (se_lst (sa_cons (se_var (pv 6)) (sa_cons (sx_call T rfl (m_f__law_no C) (m_k__law_no C) (sa_cons (se_or rfl (se_neQ T (m_eqt C) (se_var (pv 6)) (se_lit pe_str fun _ _ => rfl) (nomark _)) (se_one (sx_call T rfl (m_f__law_is_number C) (m_k__law_is_number C) (sa_cons (se_var (pv 7)) (sa_cons (se_lit pe_int fun _ _ => rfl) (sa_cons (se_bin op_sub ok_sub (se_var (pv 2)) (se_lit pe_int fun _ _ => rfl)) sa_nil)))))) (sa_cons (se_lit pe_str fun _ _ => rfl) sa_nil))) sa_nil))) sa_nil))) (pg_name (i := 9) nd rfl (by first | exact Or.inl rfl | exact Or.inr rfl))) (tg_nm 9))
 (ss_lams (pg_name (i := 10) nd rfl (by first | exact Or.inl rfl | exact Or.inr rfl)) (pl_cons (pe_lamV (C.tb ("_law_sums_right", none) (List.mem_of_getElem? (i := 0) rfl)) hcv (List.mem_of_getElem? (i := 0) rfl) (tbs_uniq C.nd (List.mem_of_getElem? (i := 0) rfl)) (by rfl) (LamQ.has (lamQ_by (N := N41) (x := "_law_ka") (by kernel_rfl)))) (pl_cons (pe_lamV (C.tb ("_law_sums_right", none) (List.mem_of_getElem? (i := 0) rfl)) hcv (List.mem_of_getElem? (i := 0) rfl) (tbs_uniq C.nd (List.mem_of_getElem? (i := 0) rfl)) (by rfl) (LamQ.has (lamQ_by (N := N41) (x := "_law_kb") (by kernel_rfl)))) pl_nil)) (ss_lamApp2 (pv 10) (pe_lamV (C.tb ("_law_sums_right", none) (List.mem_of_getElem? (i := 0) rfl)) hcv (List.mem_of_getElem? (i := 0) rfl) (tbs_uniq C.nd (List.mem_of_getElem? (i := 0) rfl)) (by rfl) (LamQ.has (lamQ_by (N := N41) (x := "_law_kc") (by kernel_rfl)))) (ss_consW (ss_ifW (pt_words (pe_words (k := 4 * n + 1) (di := 9) (ci := 11) rfl nd (cr_any rfl) any_ok rfl (m_b_any C) (by rfl) (pv 10) (blk_ok (own := [("_law_call", 11)]) (by kernel_rfl)) (fun _ _ _ _ _ => (pg_name (i := 11) nd rfl (by first | exact Or.inl rfl | exact Or.inr rfl))) (fun _ _ _ _ _ => (pv 11)) (fun _ _ _ _ _ => (pv 9)) (fun _ _ _ _ _ => rfl) (m_f__law_word C) (m_k__law_word C) lk38 hc38 hb38 sc38 rfl (.inl rfl) (word_givesT (fun _ => rfl) (wx38 C) (fun s H => (.cons ⟨rfl, by rfl, .inl (m_c_BadColumn C)⟩ (.cons ⟨rfl, by rfl, .inl (m_c_BadNumber C)⟩ (.cons ⟨rfl, by rfl, .inl (m_c_BadSum C)⟩ (.cons ⟨rfl, by rfl, .inl (m_c_BadValue C)⟩ (.cons ⟨rfl, by rfl, .inl (m_c_Unlike C)⟩ (.cons ⟨rfl, by rfl, .inl (m_c_SumError C)⟩ .nil)))))))) hr (fun _ _ _ _ _ => (op_neQ (un65 (T.blk _ _ _ _ _)))) cmpNe_ok rfl (lss_cons "_law_ka" ⟨lamQ_by (by kernel_rfl), fun _ _ _ _ _ _ => by rfl, fun A outer s H E f c' hr => (sx_callX (lam_tb T hr) lam_px rfl (m_f_at_least C) (m_k_at_least C) (sa_cons (se_var (pv 1)) (sa_cons (se_var (pv 2)) (sa_cons (se_var (pv 5)) (sa_cons (se_var (pv 7)) sa_nil)))))⟩ (lss_cons "_law_kb" ⟨lamQ_by (by kernel_rfl), fun _ _ _ _ _ _ => by rfl, fun A outer s H E f c' hr => (sx_callX (lam_tb T hr) lam_px rfl (m_f_reach_both C) (m_k_reach_both C) (sa_cons (se_var (pv 1)) (sa_cons (se_var (pv 2)) (sa_cons (se_var (pv 5)) (sa_cons (se_var (pv 7)) sa_nil)))))⟩ (lss_cons "_law_kc" ⟨lamQ_by (by kernel_rfl), fun _ _ _ _ _ _ => by rfl, fun A outer s H E f c' hr => (se_methX (m := 10) (lam_tb T hr) lam_px (inj 10 (by decide)) (m_met_shows C) (se_make (lam_tb T hr) (m_mk_Ends C) rfl (m_c_Ends C) (sa_cons (se_tup sa_nil) (sa_cons (se_tup sa_nil) sa_nil))) (sa_cons (se_var (pv 1)) (sa_cons (se_var (pv 2)) (sa_cons (se_var (pv 5)) (sa_cons (se_var (pv 7)) sa_nil)))))⟩ lss_nil))) (by decide) (by decide))) (ss_one (ss_ret (se_lit pe_bl fun _ _ => rfl))) ss_nil)
 (ss_cons (ss_asg (ps_asg (toV (sx_call T rfl (m_f__law_first C) (m_k__law_first C) (sa_cons (se_lst (sa_cons (se_var (pv 6)) (sa_cons (sx_call T rfl (m_f__law_no C) (m_k__law_no C) (sa_cons (se_or rfl (se_neQ T (m_eqt C) (se_var (pv 6)) (se_lit pe_str fun _ _ => rfl) (nomark _)) (se_one (sx_call T rfl (m_f__law_is_number C) (m_k__law_is_number C) (sa_cons (se_var (pv 8)) (sa_cons (se_lit pe_int fun _ _ => rfl) (sa_cons (se_bin op_sub ok_sub (se_var (pv 1)) (se_lit pe_int fun _ _ => rfl)) sa_nil)))))) (sa_cons (se_lit pe_str fun _ _ => rfl) sa_nil))) sa_nil))) sa_nil))) (pg_name (i := 9) nd rfl (by first | exact Or.inl rfl | exact Or.inr rfl))) (tg_nm 9))
 (ss_one (ss_ret (se_eqQ T (m_eqt C) (se_wordQ (k := 4 * n) (y := "_law_kd") rfl (m_f__law_word C) (m_k__law_word C) lk38 hc38 hb38 sc38 rfl (.inl rfl) (word_givesQ (fun _ => rfl) (wx38 C) (fun s H => (.cons ⟨rfl, by rfl, .inl (m_c_BadColumn C)⟩ (.cons ⟨rfl, by rfl, .inl (m_c_BadNumber C)⟩ (.cons ⟨rfl, by rfl, .inl (m_c_BadSum C)⟩ (.cons ⟨rfl, by rfl, .inl (m_c_BadValue C)⟩ (.cons ⟨rfl, by rfl, .inl (m_c_Unlike C)⟩ (.cons ⟨rfl, by rfl, .inl (m_c_SumError C)⟩ .nil)))))))) (C.tb ("_law_sums_right", none) (List.mem_of_getElem? (i := 0) rfl)) hcv (List.mem_of_getElem? (i := 0) rfl) (tbs_uniq C.nd (List.mem_of_getElem? (i := 0) rfl)) hr (lamQ_by (by kernel_rfl)) (by rfl) (fun _ _ _ _ _ _ => by rfl) (fun A outer s H E f c' hr => (sx_callX (lam_tb T hr) lam_px rfl (m_f_rank_values C) (m_k_rank_values C) (sa_cons (se_var (pv 1)) (sa_cons (se_var (pv 2)) (sa_cons (se_var (pv 5)) (sa_cons (se_var (pv 8)) sa_nil))))))) (se_var (pv 9)) (nomark _)))))) (by decide)) (by decide)))))))))
theorem ok41 {n : Nat} (C : Ctx K base mg) (ih : All P w K mg base (GG K) TT n) : OkF P w K mg base n 41 := by
  obtain ⟨fd, F⟩ := C.says.def_ 41 (d := d41) rfl
  exact def_okK ("_law_sums_right", none) (b := b41) rfl rfl F sc41 rfl rfl (FunD_binds F fun _ _ _ _ _ _ us hl => match us, hl with | [_], _ => rfl) (dv41 C ih)
abbrev N42 : List Str := ["_law_draw", "_law_some", "_law_one", "_law_other", "_law_due", "_law_calls", "_law_call"]
theorem sc42 : FnScope N42 ["_law_draw"] (defScope (top 46)) := mkSc (by decide +kernel)
theorem dv42 {n : Nat} {cf : CF} (C : Ctx K base mg) (ih : Ih P w K mg base (GG K) n cf) : DvK (.ref (cT K ("_law_columns_right", none)).1) P w K mg base (GG K) N42 "_law_columns_right" (top 46) ((GG K).fa 42) n fun n0 => (sCons (sAsg (gNm 1) (eLst (aCons (eMake cf 2 0 1 (aCons (eLst (aCons (eLit (.int 1)) (aCons (eLit (.int 2)) aNil))) aNil)) (aCons (eMake cf 2 0 1 (aCons (eLst (aCons (eLit (.int 2)) (aCons (eLit (.int 1)) aNil))) aNil)) (aCons (eMake cf 2 0 1 (aCons (eLst (aCons (eLit (.int 3)) aNil)) aNil)) (aCons (eMake cf 2 0 1 (aCons (eLst (aCons (eLit (.int 0)) (aCons (eLit (.int 0)) aNil))) aNil)) (aCons (eMake cf 2 0 1 (aCons (eLst (aCons (eLit (.int 1)) (aCons (eLit (.int 2)) (aCons (eLit (.int 0)) aNil)))) aNil)) (aCons (eLit .non) (aCons (eLst (aCons (eLit (.int 1)) (aCons (eLit (.int 2)) aNil))) aNil))))))))) (sCons (sAsg (gTp [(gNm 2), (gNm 3)]) (eTup (aCons (eCall cf 2 36 (aCons (eVar 0) (aCons (eVar 1) aNil))) (aCons (eCall cf 2 36 (aCons (eVar 0) (aCons (eVar 1) aNil))) aNil)))) (sCons (sAsg (gNm 4) (eCall cf 1 39 (aCons (eLst (aCons (eCall cf 2 40 (aCons (eIsi [(.non, false), (.bl, false), (.int, false), (.str, false), (.tup, false), (.lst, false), (.dct, false), (.own 0, true), (.own 1, false), (.own 2, false)] (eVar 2)) (aCons (eLit (.str "column")) aNil))) (aCons (eCall cf 2 40 (aCons (eIsi [(.non, false), (.bl, false), (.int, false), (.str, false), (.tup, false), (.lst, false), (.dct, false), (.own 0, true), (.own 1, false), (.own 2, false)] (eVar 3)) (aCons (eLit (.str "column")) aNil))) aNil))) aNil))) (sCons (sIf (tBl (eEqQ cf [(0, 2), (1, 18), (2, 28)] [.non, .bl, .int, .str, .tup, .lst, .dct, .own 0, .own 1, .own 2] (eVar 4) (eLit (.str "none")))) (sAsg (gNm 4) (eCall cf 2 40 (aCons (eAn (eEqQ cf [(0, 2), (1, 18), (2, 28)] [.non, .bl, .int, .str, .tup, .lst, .dct, .own 0, .own 1, .own 2] (eLenG cf [(0, 3)] (eVar 2)) (eLenG cf [(0, 3)] (eVar 3))) (eEqQ cf [(0, 2), (1, 18), (2, 28)] [.non, .bl, .int, .str, .tup, .lst, .dct, .own 0, .own 1, .own 2] (eMeth cf 1 4 [(0, 6)] (eVar 2) aNil) (eMeth cf 1 4 [(0, 6)] (eVar 3) aNil))) (aCons (eLit (.str "unlike")) aNil)))) sNil) (sLams 5 (sRetT (tWords wt38 "none" cmpEq selAll [(eCall cf 2 30 (nxA (aCons (eVar 2) (aCons (eVar 3) aNil)))), (eCall cf 2 31 (nxA (aCons (eVar 2) (aCons (eVar 3) aNil)))), (eCall cf 2 32 (nxA (aCons (eVar 2) (aCons (eVar 3) aNil)))), (eCall cf 2 33 (nxA (aCons (eVar 2) (aCons (eVar 3) aNil)))), (eMeth cf 3 10 [(1, 19), (2, 29)] (nxE (eMake cf 3 2 27 (aCons (eTup aNil) (aCons (eTup aNil) aNil)))) (nxA (aCons (eVar 2) (aCons (eVar 3) aNil))))] 4 6))))))) := by
  intro cdv A outer s H E n0 hcv hr tk
  have T := dvT tk rfl ih hr rfl
  have nd := sc42.nd
  obtain ⟨fd38, F38⟩ := C.says.def_ 38 (d := d38) rfl
  have hb38 := FunD_binds (ps := ["_law_call"]) F38 fun _ _ _ _ _ _ us hl => match us, hl with | [_], _ => rfl
  obtain ⟨oc38, od38, dV38, kV38, doc38, pm38, an38, cd38, ct38, osl38, rfl, lk38, hc38, _, _⟩ := F38.ex
  exact (ss_cons (ss_asg (ps_asg (toV (se_lst (sa_cons (se_make T (m_mk_Column C) rfl (m_c_Column C) (sa_cons (se_lst (sa_cons (se_lit pe_int fun _ _ => rfl) (sa_cons (se_lit pe_int fun _ _ => rfl) sa_nil))) sa_nil)) (sa_cons (se_make T (m_mk_Column C) rfl (m_c_Column C) (sa_cons (se_lst (sa_cons (se_lit pe_int fun _ _ => rfl) (sa_cons (se_lit pe_int fun _ _ => rfl) sa_nil))) sa_nil)) (sa_cons (se_make T (m_mk_Column C) rfl (m_c_Column C) (sa_cons (se_lst (sa_cons (se_lit pe_int fun _ _ => rfl) sa_nil)) sa_nil)) (sa_cons (se_make T (m_mk_Column C) rfl (m_c_Column C) (sa_cons (se_lst (sa_cons (se_lit pe_int fun _ _ => rfl) (sa_cons (se_lit pe_int fun _ _ => rfl) sa_nil))) sa_nil)) (sa_cons (se_make T (m_mk_Column C) rfl (m_c_Column C) (sa_cons (se_lst (sa_cons (se_lit pe_int fun _ _ => rfl) (sa_cons (se_lit pe_int fun _ _ => rfl) (sa_cons (se_lit pe_int fun _ _ => rfl) sa_nil)))) sa_nil)) (sa_cons (se_lit pe_non fun _ _ => rfl) (sa_cons (se_lst (sa_cons (se_lit pe_int fun _ _ => rfl) (sa_cons (se_lit pe_int fun _ _ => rfl) sa_nil))) sa_nil))))))))) (pg_name (i := 1) nd rfl (by first | exact Or.inl rfl | exact Or.inr rfl))) (tg_nm 1))
 (ss_cons (ss_asg (ps_asg (toV (se_tup (sa_cons (sx_call T rfl (m_f__law_pick C) (m_k__law_pick C) (sa_cons (se_var (pv 0)) (sa_cons (se_var (pv 1)) sa_nil))) (sa_cons (sx_call T rfl (m_f__law_pick C) (m_k__law_pick C) (sa_cons (se_var (pv 0)) (sa_cons (se_var (pv 1)) sa_nil))) sa_nil)))) (pg_tup rfl (pgs_cons (pg_name (i := 2) nd rfl (by first | exact Or.inl rfl | exact Or.inr rfl)) (pgs_cons (pg_name (i := 3) nd rfl (by first | exact Or.inl rfl | exact Or.inr rfl)) pgs_nil)))) (tg_tp (tgs_cons (tg_nm 2) (tgs_cons (tg_nm 3) tgs_nil)) rfl))
 (ss_cons (ss_asg (ps_asg (toV (sx_call T rfl (m_f__law_first C) (m_k__law_first C) (sa_cons (se_lst (sa_cons (sx_call T rfl (m_f__law_no C) (m_k__law_no C) (sa_cons (se_isi1 (cv := (.ref ((GG K).ca 0))) (cu := (.ref ((GG K).ca 0))) rfl rfl (m_b_isinstance C) (by rfl) (.own _) (m_kit_0own C) (se_var (pv 2)) (pe_glob (v := .ref ((GG K).ca 0)) rfl (m_c_Column C) rfl)) (sa_cons (se_lit pe_str fun _ _ => rfl) sa_nil))) (sa_cons (sx_call T rfl (m_f__law_no C) (m_k__law_no C) (sa_cons (se_isi1 (cv := (.ref ((GG K).ca 0))) (cu := (.ref ((GG K).ca 0))) rfl rfl (m_b_isinstance C) (by rfl) (.own _) (m_kit_0own C) (se_var (pv 3)) (pe_glob (v := .ref ((GG K).ca 0)) rfl (m_c_Column C) rfl)) (sa_cons (se_lit pe_str fun _ _ => rfl) sa_nil))) sa_nil))) sa_nil))) (pg_name (i := 4) nd rfl (by first | exact Or.inl rfl | exact Or.inr rfl))) (tg_nm 4))
 (ss_cons (ss_if (st_eqQ T (m_eqt C) (se_var (pv 4)) (se_lit pe_str fun _ _ => rfl) (nomark _)) (ss_one (ss_asg (ps_asg (toV (sx_call T rfl (m_f__law_no C) (m_k__law_no C) (sa_cons (se_and rfl (se_eqQ T (m_eqt C) (se_lenG T rfl (m_b_len C) (fun p hp => ((m_spc___len__ C) p hp).1) (se_var (pv 2))) (se_lenG T rfl (m_b_len C) (fun p hp => ((m_spc___len__ C) p hp).1) (se_var (pv 3))) (nomark _)) (se_one (se_eqQ T (m_eqt C) (se_meth0 (m := 4) T (inj 4 (by decide)) (m_met_rows C) (se_var (pv 2))) (se_meth0 (m := 4) T (inj 4 (by decide)) (m_met_rows C) (se_var (pv 3))) (nomark _)))) (sa_cons (se_lit pe_str fun _ _ => rfl) sa_nil)))) (pg_name (i := 4) nd rfl (by first | exact Or.inl rfl | exact Or.inr rfl))) (tg_nm 4))) ss_nil)
 (ss_lams (pg_name (i := 5) nd rfl (by first | exact Or.inl rfl | exact Or.inr rfl)) (pl_cons (pe_lamV (C.tb ("_law_columns_right", none) (List.mem_of_getElem? (i := 1) rfl)) hcv (List.mem_of_getElem? (i := 1) rfl) (tbs_uniq C.nd (List.mem_of_getElem? (i := 1) rfl)) (by rfl) (LamQ.has (lamQ_by (N := N42) (x := "_law_ka") (by kernel_rfl)))) (pl_cons (pe_lamV (C.tb ("_law_columns_right", none) (List.mem_of_getElem? (i := 1) rfl)) hcv (List.mem_of_getElem? (i := 1) rfl) (tbs_uniq C.nd (List.mem_of_getElem? (i := 1) rfl)) (by rfl) (LamQ.has (lamQ_by (N := N42) (x := "_law_kb") (by kernel_rfl)))) (pl_cons (pe_lamV (C.tb ("_law_columns_right", none) (List.mem_of_getElem? (i := 1) rfl)) hcv (List.mem_of_getElem? (i := 1) rfl) (tbs_uniq C.nd (List.mem_of_getElem? (i := 1) rfl)) (by rfl) (LamQ.has (lamQ_by (N := N42) (x := "_law_kc") (by kernel_rfl)))) pl_nil))) (ss_lamCat (pg_name (i := 5) nd rfl (by first | exact Or.inl rfl | exact Or.inr rfl)) (pv 5) (pl_cons (pe_lamV (C.tb ("_law_columns_right", none) (List.mem_of_getElem? (i := 1) rfl)) hcv (List.mem_of_getElem? (i := 1) rfl) (tbs_uniq C.nd (List.mem_of_getElem? (i := 1) rfl)) (by rfl) (LamQ.has (lamQ_by (N := N42) (x := "_law_kd") (by kernel_rfl)))) (pl_cons (pe_lamV (C.tb ("_law_columns_right", none) (List.mem_of_getElem? (i := 1) rfl)) hcv (List.mem_of_getElem? (i := 1) rfl) (tbs_uniq C.nd (List.mem_of_getElem? (i := 1) rfl)) (by rfl) (LamQ.has (lamQ_by (N := N42) (x := "_law_ke") (by kernel_rfl)))) pl_nil)) (ss_oneW (ss_retW (pe_words (k := 4 * n + 1) (di := 4) (ci := 6) rfl nd (cr_all rfl) all_ok' rfl (m_b_all C) (by rfl) (pv 5) (blk_ok (own := [("_law_call", 6)]) (by kernel_rfl)) (fun _ _ _ _ _ => (pg_name (i := 6) nd rfl (by first | exact Or.inl rfl | exact Or.inr rfl))) (fun _ _ _ _ _ => (pv 6)) (fun _ _ _ _ _ => (pv 4)) (fun _ _ _ _ _ => rfl) (m_f__law_word C) (m_k__law_word C) lk38 hc38 hb38 sc38 rfl (.inl rfl) (word_givesT (fun _ => rfl) (wx38 C) (fun s H => (.cons ⟨rfl, by rfl, .inl (m_c_BadColumn C)⟩ (.cons ⟨rfl, by rfl, .inl (m_c_BadNumber C)⟩ (.cons ⟨rfl, by rfl, .inl (m_c_BadSum C)⟩ (.cons ⟨rfl, by rfl, .inl (m_c_BadValue C)⟩ (.cons ⟨rfl, by rfl, .inl (m_c_Unlike C)⟩ (.cons ⟨rfl, by rfl, .inl (m_c_SumError C)⟩ .nil)))))))) hr (fun _ _ _ _ _ => (op_eqQ (un65 (T.blk _ _ _ _ _)))) cmpEq_ok rfl (lss_cons "_law_ka" ⟨lamQ_by (by kernel_rfl), fun _ _ _ _ _ _ => by rfl, fun A outer s H E f c' hr => (sx_callX (lam_tb T hr) lam_px rfl (m_f_least_steps C) (m_k_least_steps C) (sa_cons (se_var (pv 2)) (sa_cons (se_var (pv 3)) sa_nil)))⟩ (lss_cons "_law_kb" ⟨lamQ_by (by kernel_rfl), fun _ _ _ _ _ _ => by rfl, fun A outer s H E f c' hr => (sx_callX (lam_tb T hr) lam_px rfl (m_f_move_rows C) (m_k_move_rows C) (sa_cons (se_var (pv 2)) (sa_cons (se_var (pv 3)) sa_nil)))⟩ (lss_cons "_law_kc" ⟨lamQ_by (by kernel_rfl), fun _ _ _ _ _ _ => by rfl, fun A outer s H E f c' hr => (sx_callX (lam_tb T hr) lam_px rfl (m_f_fewest_changed C) (m_k_fewest_changed C) (sa_cons (se_var (pv 2)) (sa_cons (se_var (pv 3)) sa_nil)))⟩ (lss_cons "_law_kd" ⟨lamQ_by (by kernel_rfl), fun _ _ _ _ _ _ => by rfl, fun A outer s H E f c' hr => (sx_callX (lam_tb T hr) lam_px rfl (m_f_farthest_row C) (m_k_farthest_row C) (sa_cons (se_var (pv 2)) (sa_cons (se_var (pv 3)) sa_nil)))⟩ (lss_cons "_law_ke" ⟨lamQ_by (by kernel_rfl), fun _ _ _ _ _ _ => by rfl, fun A outer s H E f c' hr => (se_methX (m := 10) (lam_tb T hr) lam_px (inj 10 (by decide)) (m_met_shows C) (se_make (lam_tb T hr) (m_mk_Moved C) rfl (m_c_Moved C) (sa_cons (se_tup sa_nil) (sa_cons (se_tup sa_nil) sa_nil))) (sa_cons (se_var (pv 2)) (sa_cons (se_var (pv 3)) sa_nil)))⟩ lss_nil))))) (by decide) (by decide)))) (by decide)) (by decide))))))
theorem ok42 {n : Nat} (C : Ctx K base mg) (ih : All P w K mg base (GG K) TT n) : OkF P w K mg base n 42 := by
  obtain ⟨fd, F⟩ := C.says.def_ 42 (d := d42) rfl
  exact def_okK ("_law_columns_right", none) (b := b42) rfl rfl F sc42 rfl rfl (FunD_binds F fun _ _ _ _ _ _ us hl => match us, hl with | [_], _ => rfl) (dv42 C ih)
abbrev N43 : List Str := ["_law_far", "_law_near"]
theorem sc43 : FnScope N43 [] (defScope (top 47)) := mkSc (by decide +kernel)
theorem dv43 {n : Nat} {cf : CF} (C : Ctx K base mg) (ih : Ih P w K mg base (GG K) n cf) : Dv P w K mg base (GG K) N43 "_law_known_right" (top 47) ((GG K).fa 43) n fun n0 => (sCons (sIf (tBl (eNeQ cf [(0, 2), (1, 18), (2, 28)] [.non, .bl, .int, .str, .tup, .lst, .dct, .own 0, .own 1, .own 2] (eLst (aCons (eCall cf 4 22 (aCons (eLit (.int 10)) (aCons (eLit (.int 2)) (aCons (eLit (.int 7)) (aCons (eLit (.int 1)) aNil))))) (aCons (eCall cf 4 22 (aCons (eLit (.int 20)) (aCons (eLit (.int 12)) (aCons (eLit (.int 0)) (aCons (eLit (.int 5)) aNil))))) (aCons (eCall cf 4 22 (aCons (eLit (.int 20)) (aCons (eLit (.int 12)) (aCons (eLit (.int 220)) (aCons (eLit (.int 11)) aNil))))) (aCons (eCall cf 4 22 (aCons (eLit (.int 5)) (aCons (eLit (.int 11)) (aCons (eLit (.int 30)) (aCons (eLit (.int 10)) aNil))))) aNil))))) (eLst (aCons (eTup (aCons (eLit (.int 7)) (aCons (eLit (.int 7)) aNil))) (aCons (eTup (aCons (eLit (.int 0)) (aCons (eLit (.int 0)) aNil))) (aCons (eTup (aCons (eLit (.int 20)) (aCons (eLit (.int 20)) aNil))) (aCons (eTup (aCons (eLit (.int 0)) (aCons (eLit (.int 3)) aNil))) aNil))))))) (sRet (eLit (.bl false))) sNil) (sCons (sIf (tBl (eNeQ cf [(0, 2), (1, 18), (2, 28)] [.non, .bl, .int, .str, .tup, .lst, .dct, .own 0, .own 1, .own 2] (eLst (aCons (eCall cf 4 22 (aCons (eLit (.int 3)) (aCons (eLit (.int 12)) (aCons (eLit (.int 32)) (aCons (eLit (.int 11)) aNil))))) (aCons (eCall cf 4 24 (aCons (eLit (.int 3)) (aCons (eLit (.int 12)) (aCons (eLit (.int 32)) (aCons (eLit (.int 0)) aNil))))) (aCons (eCall cf 4 24 (aCons (eLit (.int 10)) (aCons (eLit (.int 2)) (aCons (eLit (.int 7)) (aCons (eLit (.int 2)) aNil))))) (aCons (eCall cf 4 24 (aCons (eLit (.int 10)) (aCons (eLit (.int 2)) (aCons (eLit (.int 7)) (aCons (eLit (.int 3)) aNil))))) (aCons (eCall cf 4 24 (aCons (eLit (.int 1)) (aCons (eLit (.int 12)) (aCons (eLit (.int 6)) (aCons (eLit (.int 0)) aNil))))) aNil)))))) (eLst (aCons (eTup (aCons (eLit (.int 2)) (aCons (eLit (.int 2)) aNil))) (aCons (eTup (aCons (eLit (.int 10)) (aCons (eLit (.int 10)) aNil))) (aCons (eTup (aCons (eLit (.int 0)) (aCons (eLit (.int 0)) aNil))) (aCons (eTup (aCons (eLit (.int 1)) (aCons (eLit (.int 1)) aNil))) (aCons (eTup (aCons (eLit (.int 6)) (aCons (eLit (.int 6)) aNil))) aNil)))))))) (sRet (eLit (.bl false))) sNil) (sCons (sPar [0, 1] (aCons (eMake cf 2 0 1 (aCons (eLst (aCons (eLit (.int 9)) (aCons (eLit (.int 0)) (aCons (eLit (.int 0)) (aCons (eLit (.int 9)) aNil))))) aNil)) (aCons (eMake cf 2 0 1 (aCons (eLst (aCons (eLit (.int 0)) (aCons (eLit (.int 9)) (aCons (eLit (.int 9)) (aCons (eLit (.int 0)) aNil))))) aNil)) aNil))) (sCons (sIf (tBl (eNeQ cf [(0, 2), (1, 18), (2, 28)] [.non, .bl, .int, .str, .tup, .lst, .dct, .own 0, .own 1, .own 2] (eLst (aCons (eCall cf 2 30 (aCons (eVar 0) (aCons (eVar 1) aNil))) (aCons (eCall cf 2 32 (aCons (eVar 0) (aCons (eVar 1) aNil))) (aCons (eCall cf 2 33 (aCons (eVar 0) (aCons (eVar 1) aNil))) (aCons (eFld [2] 6 (eCall cf 2 31 (aCons (eVar 0) (aCons (eVar 1) aNil)))) aNil))))) (eLst (aCons (eLit (.int 18)) (aCons (eLit (.int 18)) (aCons (eLit (.int 1)) (aCons (eTup (aCons (eLit (.int 9)) (aCons (eLit (.int 0)) (aCons (eUn oNeg (eLit (.int 9))) aNil)))) aNil))))))) (sRet (eLit (.bl false))) sNil) (sCons (sIf (tBl (eNeQ cf [(0, 2), (1, 18), (2, 28)] [.non, .bl, .int, .str, .tup, .lst, .dct, .own 0, .own 1, .own 2] (eLst (aCons (eCall cf 2 30 (aCons (eMake cf 2 0 1 (aCons (eLst (aCons (eLit (.int 0)) aNil)) aNil)) (aCons (eMake cf 2 0 1 (aCons (eLst (aCons (eLit (.int 0)) aNil)) aNil)) aNil))) (aCons (eCall cf 2 33 (aCons (eMake cf 2 0 1 (aCons (eLst (aCons (eLit (.int 0)) (aCons (eLit (.int 0)) aNil))) aNil)) (aCons (eMake cf 2 0 1 (aCons (eLst (aCons (eLit (.int 0)) (aCons (eLit (.int 0)) aNil))) aNil)) aNil))) (aCons (eFld [2] 6 (eCall cf 2 31 (aCons (eMake cf 2 0 1 (aCons (eLst (aCons (eLit (.int 4)) aNil)) aNil)) (aCons (eMake cf 2 0 1 (aCons (eLst (aCons (eLit (.int 4)) aNil)) aNil)) aNil)))) aNil)))) (eLst (aCons (eLit (.int 0)) (aCons (eLit (.int 0)) (aCons (eTup aNil) aNil)))))) (sRet (eLit (.bl false))) sNil) (sCons (sIf (tOr (tBl (eNeQ cf [(0, 2), (1, 18), (2, 28)] [.non, .bl, .int, .str, .tup, .lst, .dct, .own 0, .own 1, .own 2] (eCall cf 2 30 (aCons (eMake cf 2 0 1 (aCons (eBin oCat (eLst (aCons (eLit (.int 1)) aNil)) (eBin oRep (eLst (aCons (eLit (.int 0)) aNil)) (eLit (.int 11)))) aNil)) (aCons (eMake cf 2 0 1 (aCons (eBin oCat (eBin oRep (eLst (aCons (eLit (.int 0)) aNil)) (eLit (.int 11))) (eLst (aCons (eLit (.int 1)) aNil))) aNil)) aNil))) (eLit (.int 11)))) (tNo (tTru (eMeth cf 3 10 [(1, 19), (2, 29)] (eMake cf 3 2 27 (aCons (eBin oRepT (eTup (aCons (eLit (.int 1)) aNil)) (eLit (.int 11))) (aCons (eLr1 (eLit (.int 12))) aNil))) (aCons (eMake cf 2 0 1 (aCons (eBin oCat (eLst (aCons (eLit (.int 1)) aNil)) (eBin oRep (eLst (aCons (eLit (.int 0)) aNil)) (eLit (.int 11)))) aNil)) (aCons (eMake cf 2 0 1 (aCons (eBin oCat (eBin oRep (eLst (aCons (eLit (.int 0)) aNil)) (eLit (.int 11))) (eLst (aCons (eLit (.int 1)) aNil))) aNil)) aNil)))))) (sRet (eLit (.bl false))) sNil) (sCons (sIf (tOr (tBl (eNeQ cf [(0, 2), (1, 18), (2, 28)] [.non, .bl, .int, .str, .tup, .lst, .dct, .own 0, .own 1, .own 2] (eMake cf 3 1 17 (aCons (eLst (aCons (eLit (.int 1)) aNil)) (aCons (eLst (aCons (eLit (.int 2)) aNil)) aNil))) (eMake cf 3 1 17 (aCons (eTup (aCons (eLit (.int 1)) aNil)) (aCons (eTup (aCons (eLit (.int 2)) aNil)) aNil))))) (tOr (tBl (eEqQ cf [(0, 2), (1, 18), (2, 28)] [.non, .bl, .int, .str, .tup, .lst, .dct, .own 0, .own 1, .own 2] (eMake cf 3 1 17 (aCons (eTup (aCons (eLit (.int 1)) aNil)) (aCons (eTup (aCons (eLit (.int 2)) aNil)) aNil))) (eMake cf 3 1 17 (aCons (eTup (aCons (eLit (.int 1)) aNil)) (aCons (eTup (aCons (eLit (.int 1)) aNil)) aNil))))) (tBl (eEqQ cf [(0, 2), (1, 18), (2, 28)] [.non, .bl, .int, .str, .tup, .lst, .dct, .own 0, .own 1, .own 2] (eMake cf 3 1 17 (aCons (eTup (aCons (eLit (.int 1)) aNil)) (aCons (eTup (aCons (eLit (.int 2)) aNil)) aNil))) (eMake cf 3 2 27 (aCons (eTup (aCons (eLit (.int 1)) aNil)) (aCons (eTup (aCons (eLit (.int 2)) aNil)) aNil))))))) (sRet (eLit (.bl false))) sNil) (sRet (eAn (eEqQ cf [(0, 2), (1, 18), (2, 28)] [.non, .bl, .int, .str, .tup, .lst, .dct, .own 0, .own 1, .own 2] (eMake cf 3 2 27 (aCons (eLst (aCons (eLit (.int 1)) aNil)) (aCons (eLst (aCons (eLit (.int 0)) (aCons (eLit (.int 1)) aNil))) aNil))) (eMake cf 3 2 27 (aCons (eTup (aCons (eLit (.int 1)) aNil)) (aCons (eTup (aCons (eLit (.int 0)) (aCons (eLit (.int 1)) aNil))) aNil)))) (eAn (eNeQ cf [(0, 2), (1, 18), (2, 28)] [.non, .bl, .int, .str, .tup, .lst, .dct, .own 0, .own 1, .own 2] (eMake cf 3 2 27 (aCons (eTup (aCons (eLit (.int 1)) aNil)) (aCons (eTup (aCons (eLit (.int 0)) (aCons (eLit (.int 1)) aNil))) aNil))) (eMake cf 3 2 27 (aCons (eTup (aCons (eLit (.int 1)) aNil)) (aCons (eTup (aCons (eLit (.int 0)) (aCons (eLit (.int 0)) aNil))) aNil)))) (eNeQ cf [(0, 2), (1, 18), (2, 28)] [.non, .bl, .int, .str, .tup, .lst, .dct, .own 0, .own 1, .own 2] (eMake cf 3 2 27 (aCons (eTup (aCons (eLit (.int 1)) aNil)) (aCons (eTup (aCons (eLit (.int 0)) (aCons (eLit (.int 1)) aNil))) aNil))) (eMake cf 3 2 27 (aCons (eTup aNil) (aCons (eTup (aCons (eLit (.int 0)) (aCons (eLit (.int 1)) aNil))) aNil)))))))))))))) := by
  intro cdv A outer s H E n0 hr tk
  have T := dvT tk rfl ih hr rfl
  have nd := sc43.nd
  exact (ss_cons (ss_if (st_neQ T (m_eqt C) (se_lst (sa_cons (sx_call T rfl (m_f_at_least C) (m_k_at_least C) (sa_cons (se_lit pe_int fun _ _ => rfl) (sa_cons (se_lit pe_int fun _ _ => rfl) (sa_cons (se_lit pe_int fun _ _ => rfl) (sa_cons (se_lit pe_int fun _ _ => rfl) sa_nil))))) (sa_cons (sx_call T rfl (m_f_at_least C) (m_k_at_least C) (sa_cons (se_lit pe_int fun _ _ => rfl) (sa_cons (se_lit pe_int fun _ _ => rfl) (sa_cons (se_lit pe_int fun _ _ => rfl) (sa_cons (se_lit pe_int fun _ _ => rfl) sa_nil))))) (sa_cons (sx_call T rfl (m_f_at_least C) (m_k_at_least C) (sa_cons (se_lit pe_int fun _ _ => rfl) (sa_cons (se_lit pe_int fun _ _ => rfl) (sa_cons (se_lit pe_int fun _ _ => rfl) (sa_cons (se_lit pe_int fun _ _ => rfl) sa_nil))))) (sa_cons (sx_call T rfl (m_f_at_least C) (m_k_at_least C) (sa_cons (se_lit pe_int fun _ _ => rfl) (sa_cons (se_lit pe_int fun _ _ => rfl) (sa_cons (se_lit pe_int fun _ _ => rfl) (sa_cons (se_lit pe_int fun _ _ => rfl) sa_nil))))) sa_nil))))) (se_lst (sa_cons (se_tup (sa_cons (se_lit pe_int fun _ _ => rfl) (sa_cons (se_lit pe_int fun _ _ => rfl) sa_nil))) (sa_cons (se_tup (sa_cons (se_lit pe_int fun _ _ => rfl) (sa_cons (se_lit pe_int fun _ _ => rfl) sa_nil))) (sa_cons (se_tup (sa_cons (se_lit pe_int fun _ _ => rfl) (sa_cons (se_lit pe_int fun _ _ => rfl) sa_nil))) (sa_cons (se_tup (sa_cons (se_lit pe_int fun _ _ => rfl) (sa_cons (se_lit pe_int fun _ _ => rfl) sa_nil))) sa_nil))))) (nomark _)) (ss_one (ss_ret (se_lit pe_bl fun _ _ => rfl))) ss_nil)
 (ss_cons (ss_if (st_neQ T (m_eqt C) (se_lst (sa_cons (sx_call T rfl (m_f_at_least C) (m_k_at_least C) (sa_cons (se_lit pe_int fun _ _ => rfl) (sa_cons (se_lit pe_int fun _ _ => rfl) (sa_cons (se_lit pe_int fun _ _ => rfl) (sa_cons (se_lit pe_int fun _ _ => rfl) sa_nil))))) (sa_cons (sx_call T rfl (m_f_rank_values C) (m_k_rank_values C) (sa_cons (se_lit pe_int fun _ _ => rfl) (sa_cons (se_lit pe_int fun _ _ => rfl) (sa_cons (se_lit pe_int fun _ _ => rfl) (sa_cons (se_lit pe_int fun _ _ => rfl) sa_nil))))) (sa_cons (sx_call T rfl (m_f_rank_values C) (m_k_rank_values C) (sa_cons (se_lit pe_int fun _ _ => rfl) (sa_cons (se_lit pe_int fun _ _ => rfl) (sa_cons (se_lit pe_int fun _ _ => rfl) (sa_cons (se_lit pe_int fun _ _ => rfl) sa_nil))))) (sa_cons (sx_call T rfl (m_f_rank_values C) (m_k_rank_values C) (sa_cons (se_lit pe_int fun _ _ => rfl) (sa_cons (se_lit pe_int fun _ _ => rfl) (sa_cons (se_lit pe_int fun _ _ => rfl) (sa_cons (se_lit pe_int fun _ _ => rfl) sa_nil))))) (sa_cons (sx_call T rfl (m_f_rank_values C) (m_k_rank_values C) (sa_cons (se_lit pe_int fun _ _ => rfl) (sa_cons (se_lit pe_int fun _ _ => rfl) (sa_cons (se_lit pe_int fun _ _ => rfl) (sa_cons (se_lit pe_int fun _ _ => rfl) sa_nil))))) sa_nil)))))) (se_lst (sa_cons (se_tup (sa_cons (se_lit pe_int fun _ _ => rfl) (sa_cons (se_lit pe_int fun _ _ => rfl) sa_nil))) (sa_cons (se_tup (sa_cons (se_lit pe_int fun _ _ => rfl) (sa_cons (se_lit pe_int fun _ _ => rfl) sa_nil))) (sa_cons (se_tup (sa_cons (se_lit pe_int fun _ _ => rfl) (sa_cons (se_lit pe_int fun _ _ => rfl) sa_nil))) (sa_cons (se_tup (sa_cons (se_lit pe_int fun _ _ => rfl) (sa_cons (se_lit pe_int fun _ _ => rfl) sa_nil))) (sa_cons (se_tup (sa_cons (se_lit pe_int fun _ _ => rfl) (sa_cons (se_lit pe_int fun _ _ => rfl) sa_nil))) sa_nil)))))) (nomark _)) (ss_one (ss_ret (se_lit pe_bl fun _ _ => rfl))) ss_nil)
 (ss_cons (ss_par (ps_par (i := 0) (j := 1) rfl nd rfl rfl (by decide) rfl rfl (sa_cons (se_make T (m_mk_Column C) rfl (m_c_Column C) (sa_cons (se_lst (sa_cons (se_lit pe_int fun _ _ => rfl) (sa_cons (se_lit pe_int fun _ _ => rfl) (sa_cons (se_lit pe_int fun _ _ => rfl) (sa_cons (se_lit pe_int fun _ _ => rfl) sa_nil))))) sa_nil)) (sa_cons (se_make T (m_mk_Column C) rfl (m_c_Column C) (sa_cons (se_lst (sa_cons (se_lit pe_int fun _ _ => rfl) (sa_cons (se_lit pe_int fun _ _ => rfl) (sa_cons (se_lit pe_int fun _ _ => rfl) (sa_cons (se_lit pe_int fun _ _ => rfl) sa_nil))))) sa_nil)) sa_nil)) (by rfl)))
 (ss_cons (ss_if (st_neQ T (m_eqt C) (se_lst (sa_cons (sx_call T rfl (m_f_least_steps C) (m_k_least_steps C) (sa_cons (se_var (pv 0)) (sa_cons (se_var (pv 1)) sa_nil))) (sa_cons (sx_call T rfl (m_f_fewest_changed C) (m_k_fewest_changed C) (sa_cons (se_var (pv 0)) (sa_cons (se_var (pv 1)) sa_nil))) (sa_cons (sx_call T rfl (m_f_farthest_row C) (m_k_farthest_row C) (sa_cons (se_var (pv 0)) (sa_cons (se_var (pv 1)) sa_nil))) (sa_cons (se_fld (f := 6) rfl (inj 6 (by decide)) (m_fld_flows C) (sx_call T rfl (m_f_move_rows C) (m_k_move_rows C) (sa_cons (se_var (pv 0)) (sa_cons (se_var (pv 1)) sa_nil)))) sa_nil))))) (se_lst (sa_cons (se_lit pe_int fun _ _ => rfl) (sa_cons (se_lit pe_int fun _ _ => rfl) (sa_cons (se_lit pe_int fun _ _ => rfl) (sa_cons (se_tup (sa_cons (se_lit pe_int fun _ _ => rfl) (sa_cons (se_lit pe_int fun _ _ => rfl) (sa_cons (se_un un_neg ok_neg (se_lit pe_int fun _ _ => rfl)) sa_nil)))) sa_nil))))) (nomark _)) (ss_one (ss_ret (se_lit pe_bl fun _ _ => rfl))) ss_nil)
 (ss_cons (ss_if (st_neQ T (m_eqt C) (se_lst (sa_cons (sx_call T rfl (m_f_least_steps C) (m_k_least_steps C) (sa_cons (se_make T (m_mk_Column C) rfl (m_c_Column C) (sa_cons (se_lst (sa_cons (se_lit pe_int fun _ _ => rfl) sa_nil)) sa_nil)) (sa_cons (se_make T (m_mk_Column C) rfl (m_c_Column C) (sa_cons (se_lst (sa_cons (se_lit pe_int fun _ _ => rfl) sa_nil)) sa_nil)) sa_nil))) (sa_cons (sx_call T rfl (m_f_farthest_row C) (m_k_farthest_row C) (sa_cons (se_make T (m_mk_Column C) rfl (m_c_Column C) (sa_cons (se_lst (sa_cons (se_lit pe_int fun _ _ => rfl) (sa_cons (se_lit pe_int fun _ _ => rfl) sa_nil))) sa_nil)) (sa_cons (se_make T (m_mk_Column C) rfl (m_c_Column C) (sa_cons (se_lst (sa_cons (se_lit pe_int fun _ _ => rfl) (sa_cons (se_lit pe_int fun _ _ => rfl) sa_nil))) sa_nil)) sa_nil))) (sa_cons (se_fld (f := 6) rfl (inj 6 (by decide)) (m_fld_flows C) (sx_call T rfl (m_f_move_rows C) (m_k_move_rows C) (sa_cons (se_make T (m_mk_Column C) rfl (m_c_Column C) (sa_cons (se_lst (sa_cons (se_lit pe_int fun _ _ => rfl) sa_nil)) sa_nil)) (sa_cons (se_make T (m_mk_Column C) rfl (m_c_Column C) (sa_cons (se_lst (sa_cons (se_lit pe_int fun _ _ => rfl) sa_nil)) sa_nil)) sa_nil)))) sa_nil)))) (se_lst (sa_cons (se_lit pe_int fun _ _ => rfl) (sa_cons (se_lit pe_int fun _ _ => rfl) (sa_cons (se_tup sa_nil) sa_nil)))) (nomark _)) (ss_one (ss_ret (se_lit pe_bl fun _ _ => rfl))) ss_nil)
 (ss_cons (ss_if (PW.pt (sw_or (st_neQ T (m_eqt C) (sx_call T rfl (m_f_least_steps C) (m_k_least_steps C) (sa_cons (se_make T (m_mk_Column C) rfl (m_c_Column C) (sa_cons (se_bin op_catR ok_cat (se_lst (sa_cons (se_lit pe_int fun _ _ => rfl) sa_nil)) (se_bin op_repR ok_rep (se_lst (sa_cons (se_lit pe_int fun _ _ => rfl) sa_nil)) (se_lit pe_int fun _ _ => rfl))) sa_nil)) (sa_cons (se_make T (m_mk_Column C) rfl (m_c_Column C) (sa_cons (se_bin op_catR ok_cat (se_bin op_repR ok_rep (se_lst (sa_cons (se_lit pe_int fun _ _ => rfl) sa_nil)) (se_lit pe_int fun _ _ => rfl)) (se_lst (sa_cons (se_lit pe_int fun _ _ => rfl) sa_nil))) sa_nil)) sa_nil))) (se_lit pe_int fun _ _ => rfl) (nomark _)) (sw_one (st_no (st_tru rfl (se_meth (m := 10) T (inj 10 (by decide)) (m_met_shows C) (se_make T (m_mk_Moved C) rfl (m_c_Moved C) (sa_cons (se_bin op_repTT ok_repT (se_tup (sa_cons (se_lit pe_int fun _ _ => rfl) sa_nil)) (se_lit pe_int fun _ _ => rfl)) (sa_cons (se_lr1 rfl rfl (m_b_list C) rfl (m_b_range C) (se_lit pe_int fun _ _ => rfl)) sa_nil))) (sa_cons (se_make T (m_mk_Column C) rfl (m_c_Column C) (sa_cons (se_bin op_catR ok_cat (se_lst (sa_cons (se_lit pe_int fun _ _ => rfl) sa_nil)) (se_bin op_repR ok_rep (se_lst (sa_cons (se_lit pe_int fun _ _ => rfl) sa_nil)) (se_lit pe_int fun _ _ => rfl))) sa_nil)) (sa_cons (se_make T (m_mk_Column C) rfl (m_c_Column C) (sa_cons (se_bin op_catR ok_cat (se_bin op_repR ok_rep (se_lst (sa_cons (se_lit pe_int fun _ _ => rfl) sa_nil)) (se_lit pe_int fun _ _ => rfl)) (se_lst (sa_cons (se_lit pe_int fun _ _ => rfl) sa_nil))) sa_nil)) sa_nil)))))))) (ss_one (ss_ret (se_lit pe_bl fun _ _ => rfl))) ss_nil)
 (ss_cons (ss_if (PW.pt (sw_or (st_neQ T (m_eqt C) (se_make T (m_mk_Ends C) rfl (m_c_Ends C) (sa_cons (se_lst (sa_cons (se_lit pe_int fun _ _ => rfl) sa_nil)) (sa_cons (se_lst (sa_cons (se_lit pe_int fun _ _ => rfl) sa_nil)) sa_nil))) (se_make T (m_mk_Ends C) rfl (m_c_Ends C) (sa_cons (se_tup (sa_cons (se_lit pe_int fun _ _ => rfl) sa_nil)) (sa_cons (se_tup (sa_cons (se_lit pe_int fun _ _ => rfl) sa_nil)) sa_nil))) (nomark _)) (sw_or (st_eqQ T (m_eqt C) (se_make T (m_mk_Ends C) rfl (m_c_Ends C) (sa_cons (se_tup (sa_cons (se_lit pe_int fun _ _ => rfl) sa_nil)) (sa_cons (se_tup (sa_cons (se_lit pe_int fun _ _ => rfl) sa_nil)) sa_nil))) (se_make T (m_mk_Ends C) rfl (m_c_Ends C) (sa_cons (se_tup (sa_cons (se_lit pe_int fun _ _ => rfl) sa_nil)) (sa_cons (se_tup (sa_cons (se_lit pe_int fun _ _ => rfl) sa_nil)) sa_nil))) (nomark _)) (sw_one (st_eqQ T (m_eqt C) (se_make T (m_mk_Ends C) rfl (m_c_Ends C) (sa_cons (se_tup (sa_cons (se_lit pe_int fun _ _ => rfl) sa_nil)) (sa_cons (se_tup (sa_cons (se_lit pe_int fun _ _ => rfl) sa_nil)) sa_nil))) (se_make T (m_mk_Moved C) rfl (m_c_Moved C) (sa_cons (se_tup (sa_cons (se_lit pe_int fun _ _ => rfl) sa_nil)) (sa_cons (se_tup (sa_cons (se_lit pe_int fun _ _ => rfl) sa_nil)) sa_nil))) (nomark _)))))) (ss_one (ss_ret (se_lit pe_bl fun _ _ => rfl))) ss_nil)
 (ss_one (ss_ret (se_and rfl (se_eqQ T (m_eqt C) (se_make T (m_mk_Moved C) rfl (m_c_Moved C) (sa_cons (se_lst (sa_cons (se_lit pe_int fun _ _ => rfl) sa_nil)) (sa_cons (se_lst (sa_cons (se_lit pe_int fun _ _ => rfl) (sa_cons (se_lit pe_int fun _ _ => rfl) sa_nil))) sa_nil))) (se_make T (m_mk_Moved C) rfl (m_c_Moved C) (sa_cons (se_tup (sa_cons (se_lit pe_int fun _ _ => rfl) sa_nil)) (sa_cons (se_tup (sa_cons (se_lit pe_int fun _ _ => rfl) (sa_cons (se_lit pe_int fun _ _ => rfl) sa_nil))) sa_nil))) (nomark _)) (se_and rfl (se_neQ T (m_eqt C) (se_make T (m_mk_Moved C) rfl (m_c_Moved C) (sa_cons (se_tup (sa_cons (se_lit pe_int fun _ _ => rfl) sa_nil)) (sa_cons (se_tup (sa_cons (se_lit pe_int fun _ _ => rfl) (sa_cons (se_lit pe_int fun _ _ => rfl) sa_nil))) sa_nil))) (se_make T (m_mk_Moved C) rfl (m_c_Moved C) (sa_cons (se_tup (sa_cons (se_lit pe_int fun _ _ => rfl) sa_nil)) (sa_cons (se_tup (sa_cons (se_lit pe_int fun _ _ => rfl) (sa_cons (se_lit pe_int fun _ _ => rfl) sa_nil))) sa_nil))) (nomark _)) (se_one (se_neQ T (m_eqt C) (se_make T (m_mk_Moved C) rfl (m_c_Moved C) (sa_cons (se_tup (sa_cons (se_lit pe_int fun _ _ => rfl) sa_nil)) (sa_cons (se_tup (sa_cons (se_lit pe_int fun _ _ => rfl) (sa_cons (se_lit pe_int fun _ _ => rfl) sa_nil))) sa_nil))) (se_make T (m_mk_Moved C) rfl (m_c_Moved C) (sa_cons (se_tup sa_nil) (sa_cons (se_tup (sa_cons (se_lit pe_int fun _ _ => rfl) (sa_cons (se_lit pe_int fun _ _ => rfl) sa_nil))) sa_nil))) (nomark _))))))))))))))
theorem ok43 {n : Nat} (C : Ctx K base mg) (ih : All P w K mg base (GG K) TT n) : OkF P w K mg base n 43 := by
  obtain ⟨fd, F⟩ := C.says.def_ 43 (d := d43) rfl
  exact def_ok (b := b43) rfl F sc43 rfl rfl (FunD_binds F fun _ _ _ _ _ _ us hl => match us, hl with | [], _ => rfl) (dv43 C ih)
abbrev N44 : List Str := ["_law_script", "_law_draw", "_law_turn"]
theorem sc44 : FnScope N44 ["_law_script"] (defScope (top 48)) := mkSc (by decide +kernel)
theorem dv44 {n : Nat} {cf : CF} (C : Ctx K base mg) (ih : Ih P w K mg base (GG K) n cf) : Dv P w K mg base (GG K) N44 "law" (top 48) ((GG K).fa 44) n fun n0 => (sCons (sAsg (gNm 1) (eNew (eLst (aCons (eVar 0) (aCons (eLit (.int 0)) aNil))))) (sCons (sFor (iRg1 (eLit (.int 6))) (gNm 2) (sIf (tOr (tNo (tTru (eCall cf 1 41 (aCons (eVar 1) aNil)))) (tOr (tNo (tTru (eCall cf 1 42 (aCons (eVar 1) aNil)))) (tNo (tTru (eCall cf 0 43 aNil))))) (sRet (eLit (.bl false))) sNil)) (sRet (eLit (.bl true))))) := by
  intro cdv A outer s H E n0 hr tk
  have T := dvT tk rfl ih hr rfl
  have nd := sc44.nd
  have po := dvP tk rfl
  exact (ss_cons (ss_asg (ps_asg (toV (se_new (se_lst (sa_cons (se_var (pv 0)) (sa_cons (se_lit pe_int fun _ _ => rfl) sa_nil))))) (pg_name (i := 1) nd rfl (by first | exact Or.inl rfl | exact Or.inr rfl))) (tg_nm 1))
 (ss_cons (ss_for (ps_for po rfl (si_rng1 rfl (m_b_range C) (se_lit pe_int fun _ _ => rfl)) (pg_name (i := 2) nd rfl (by first | exact Or.inl rfl | exact Or.inr rfl)) (ss_one (ss_if (PW.pt (sw_or (st_no (st_tru rfl (sx_call T rfl (m_f__law_sums_right C) (m_k__law_sums_right C) (sa_cons (se_var (pv 1)) sa_nil)))) (sw_or (st_no (st_tru rfl (sx_call T rfl (m_f__law_columns_right C) (m_k__law_columns_right C) (sa_cons (se_var (pv 1)) sa_nil)))) (sw_one (st_no (st_tru rfl (sx_call0 T rfl (m_f__law_known_right C) (m_k__law_known_right C)))))))) (ss_one (ss_ret (se_lit pe_bl fun _ _ => rfl))) ss_nil))) (tg_nm 2))
 (ss_one (ss_ret (se_lit pe_bl fun _ _ => rfl)))))
theorem ok44 {n : Nat} (C : Ctx K base mg) (ih : All P w K mg base (GG K) TT n) : OkF P w K mg base n 44 := by
  obtain ⟨fd, F⟩ := C.says.def_ 44 (d := d44) rfl
  exact def_ok (b := b44) rfl F sc44 rfl rfl (FunD_binds F fun _ _ _ _ _ _ us hl => match us, hl with | [_], _ => rfl) (dv44 C ih)
theorem all_ok (C : Ctx K base mg) (n : Nat) : All P w K mg base (GG K) TT n := by
  induction n with
  | zero => exact all_zero
  | succ n ih =>
    intro f np
    match f with
    | 0 => exact ok0 C ih np
    | 1 => exact ok1 C ih np
    | 2 => exact ok2 C ih np
    | 3 => exact ok3 C ih np
    | 4 => exact ok4 C ih np
    | 5 => exact ok5 C ih np
    | 6 => exact ok6 C ih np
    | 7 => exact ok7 C ih np
    | 8 => exact ok8 C ih np
    | 9 => exact ok9 C ih np
    | 10 => exact ok10 C ih np
    | 11 => exact ok11 C ih np
    | 12 => exact ok12 C ih np
    | 13 => exact ok13 C ih np
    | 14 => exact ok14 C ih np
    | 15 => exact ok15 C ih np
    | 16 => exact ok16 C ih np
    | 17 => exact ok17 C ih np
    | 18 => exact ok18 C ih np
    | 19 => exact ok19 C ih np
    | 20 => exact ok20 C ih np
    | 21 => exact ok21 C ih np
    | 22 => exact ok22 C ih np
    | 23 => exact ok23 C ih np
    | 24 => exact ok24 C ih np
    | 25 => exact ok25 C ih np
    | 26 => exact ok26 C ih np
    | 27 => exact ok27 C ih np
    | 28 => exact ok28 C ih np
    | 29 => exact ok29 C ih np
    | 30 => exact ok30 C ih np
    | 31 => exact ok31 C ih np
    | 32 => exact ok32 C ih np
    | 33 => exact ok33 C ih np
    | 34 => exact ok34 C ih np
    | 35 => exact ok35 C ih np
    | 36 => exact ok36 C ih np
    | 37 => exact ok37 C ih np
    | 38 => exact ok38 C ih np
    | 39 => exact ok39 C ih np
    | 40 => exact ok40 C ih np
    | 41 => exact ok41 C ih np
    | 42 => exact ok42 C ih np
    | 43 => exact ok43 C ih np
    | 44 => exact ok44 C ih np
    | k + 45 => exact fun A outer s H us vs Q E hr he hv hs => (spF_none (by rfl) hs).elim
theorem lawOk {n : Nat} {fd : FuncData} (C : Ctx K base mg) (F : FunD K d44.name d44.qual d44.params d44.body d44.scope [] [] ((GG K).fa 44) fd) : FnOk P w K mg base L2.CX0 (4 * (n + 1)) ((GG K).fa 44) fd ["_law_script"] (spF0 (GG K) (callF TT (n + 1)) 44 1) :=
  to0 (def_fn (b := b44) rfl F sc44 rfl rfl (dv44 C (all_ok C n)))
end
end PX.K64
set_option Elab.async false
set_option linter.all false
set_option maxRecDepth 100000
set_option maxHeartbeats 1000000
namespace PX
open PySem
section
variable (env : Env) (S : Store)
@[simp] theorem q_lit (v : PV) : eLit v env S = .ok (false, v) S := (rfl)
theorem q_var (i : Nat) : eVar i env S = match env[i]? with
  | some (some v) => .ok (false, v) S
  | _ => .no := (rfl)
@[simp] theorem q_un (o : Op1) (a : SE) : eUn o a env S = (a env S).bind fun p S1 => ofO (o p.2 S1) S1 := (rfl)
@[simp] theorem q_bin (o : Op2) (a b : SE) : eBin o a b env S = (a env S).bind fun p S1 => (b env S1).bind fun q S2 => ofO (o p.2 q.2 S2) S2 := (rfl)
@[simp] theorem q_nil : aNil env S = .ok [] S := (rfl)
@[simp] theorem q_cons (a : SE) (r : SA) : aCons a r env S = (a env S).bind fun p S1 => (r env S1).bind fun q S2 => .ok (p.2 :: q) S2 := (rfl)
@[simp] theorem q_arg (o : OpN) (a : SA) : eArg o a env S = (a env S).bind fun p S1 => ofO (o p S1) S1 := (rfl)
@[simp] theorem q_tup (a : SA) : eTup a env S = (a env S).bind fun p S1 => if small p.length then .ok (false, .tup p) S1 else .no := (rfl)
@[simp] theorem q_lst (a : SA) : eLst a env S = (a env S).bind fun p S1 => if small p.length then .ok (true, .lst p) S1 else .no := (rfl)
@[simp] theorem q_tru (a : SE) : tTru a env S = (a env S).bind fun p S1 => match truth S1 p.2 with
  | some b => .ok b S1
  | none => .no := (rfl)
@[simp] theorem q_tbl (a : SE) : tBl a env S = (a env S).bind fun p S1 => match p.2 with
  | .bl b => .ok b S1
  | _ => .no := (rfl)
@[simp] theorem q_tno (a : ST) : tNo a env S = (a env S).bind fun b S1 => .ok (!b) S1 := (rfl)
@[simp] theorem q_tan (a b : ST) : tAn a b env S = (a env S).bind fun c S1 => if c = true then b env S1 else .ok false S1 := (rfl)
@[simp] theorem q_tor (a b : ST) : tOr a b env S = (a env S).bind fun c S1 => if c = true then .ok true S1 else b env S1 := (rfl)
@[simp] theorem q_ean (a b : SE) : eAn a b env S = (a env S).bind fun p S1 => match truth S1 p.2 with
  | some true => b env S1
  | some false => .ok (false, p.2) S1
  | none => .no := (rfl)
@[simp] theorem q_eor (a b : SE) : eOr a b env S = (a env S).bind fun p S1 => match truth S1 p.2 with
  | some true => .ok (false, p.2) S1
  | some false => b env S1
  | none => .no := (rfl)
@[simp] theorem q_not (a : SE) : eNot a env S = (a env S).bind fun p S1 => match truth S1 p.2 with
  | some b => .ok (false, .bl (!b)) S1
  | none => .no := (rfl)
@[simp] theorem q_if (c : ST) (a b : SE) : eIf c a b env S = (c env S).bind fun t S1 => if t = true then a env S1 else b env S1 := (rfl)
@[simp] theorem q_ch (o o' : Op2) (a b c : SE) : eCh o o' a b c env S = (a env S).bind fun p S1 => (b env S1).bind fun q S2 => match o p.2 q.2 S2 with
  | some (false, .bl true) => (c env S2).bind fun z S3 => ofO (o' q.2 z.2 S3) S3
  | some (false, .bl false) => .ok (false, .bl false) S2
  | _ => .no := (rfl)
@[simp] theorem q_new (a : SE) : eNew a env S = (a env S).bind fun p S1 => match p.1 with
  | true => .ok (false, .ref S1.length) (S1 ++ [p.2])
  | false => .ok p S1 := (rfl)
@[simp] theorem q_scons (a b : SS) : sCons a b env S = (a env S).then b := (rfl)
@[simp] theorem q_snil : sNil env S = .nx env S := (rfl)
@[simp] theorem q_sexp (a : SE) : sExp a env S = (a env S).go fun _ S1 => .nx env S1 := (rfl)
@[simp] theorem q_sret (a : SE) : sRet a env S = (a env S).go fun p S1 => .rt p.2 S1 := (rfl)
@[simp] theorem q_sif (c : ST) (a b : SS) : sIf c a b env S = (c env S).go fun t S1 => if t = true then a env S1 else b env S1 := (rfl)
@[simp] theorem q_sasg (t : Tg) (a : SE) : sAsg t a env S = (a env S).go fun p S1 => match t p.2 env S1 with
  | some env' => .nx env' S1
  | none => .no := (rfl)
@[simp] theorem q_gnm (i : Nat) (v : PV) : gNm i v env S = some (env.set i (some v)) := (rfl)
@[simp] theorem q_spar (is : List Nat) (a : SA) : sPar is a env S = (a env S).go fun vs S1 => match gTps (is.map gNm) vs env S1 with
  | some env' => .nx env' S1
  | none => .no := (rfl)
@[simp] theorem q_len (cf : CF) (tb : List (Nat × Nat)) (a : SE) : eLen cf tb a env S = (a env S).bind fun p S1 => match ownOf tb S1 p.2 with
  | some f => (callV cf f [p.2] S1).bind lenI
  | none => ofO (bLen [p.2] S1) S1 := (rfl)
@[simp] theorem q_eq (cf : CF) (tb : List (Nat × Nat)) (tys : List TyN) (a b : SE) : eEq cf tb tys a b env S = (a env S).bind fun p S1 => (b env S1).bind fun q S2 => match ownOf tb S2 p.2 with
  | some f => if okTy tys S2 q.2 then callV cf f [p.2, q.2] S2 else .no
  | none => ofO (oEq p.2 q.2 S2) S2 := (rfl)
@[simp] theorem q_ne (cf : CF) (tb : List (Nat × Nat)) (tys : List TyN) (a b : SE) : eNe cf tb tys a b env S = (a env S).bind fun p S1 => (b env S1).bind fun q S2 => match ownOf tb S2 p.2 with
  | some f => if okTy tys S2 q.2 then (callV cf f [p.2, q.2] S2).bind notI else .no
  | none => ofO (oNe p.2 q.2 S2) S2 := (rfl)
@[simp] theorem q_ix (cf : CF) (tb : List (Nat × Nat)) (a b : SE) : eIx cf tb a b env S = (a env S).bind fun p S1 => (b env S1).bind fun q S2 => match ownOf tb S2 p.2 with
  | some f => callV cf f [p.2, q.2] S2
  | none => match dIx p.2 q.2 S2 with
    | some z => .ok z S2
    | none => ofO (oIx p.2 q.2 S2) S2 := (rfl)
@[simp] theorem q_call (cf : CF) (np f : Nat) (a : SA) : eCall cf np f a env S = (a env S).bind fun args S1 => if args.length = np then callV cf f args S1 else .no := (rfl)
@[simp] theorem q_sl (a : SE) (lo hi : SO) : eSl a lo hi env S = (a env S).bind fun p S1 => (lo env S1).bind fun l S2 => (hi env S2).bind fun u S3 => ofO (slP l u p.2 S3) S3 := (rfl)
@[simp] theorem q_pno : pNo env S = .ok none S := (rfl)
@[simp] theorem q_pso (a : SE) : pSo a env S = (a env S).bind fun p S1 => match p.2 with
  | .int i => .ok (some i) S1
  | _ => .no := (rfl)
@[simp] theorem q_rev (a : SE) : eRev a env S = (a env S).bind fun p S1 => match lstOf S1 p.2 with
  | some xs => .ok (true, .lst xs.reverse) S1
  | none => .no := (rfl)
@[simp] theorem q_fld (cs : List Nat) (f : Nat) (a : SE) : eFld cs f a env S = (a env S).bind fun p S1 => ofO ((fldOf cs f S1 p.2).map fun w => (false, w)) S1 := (rfl)
@[simp] theorem q_isi (tb : List (TyN × Bool)) (a : SE) : eIsi tb a env S = (a env S).bind fun p S1 => ofO (match tyN S1 p.2 with
  | some t => (tb.lookup t).map fun b => (false, .bl b)
  | none => none) S1 := (rfl)
end
@[simp] theorem q_ofO_some (z : Bool × PV) (S : Store) : ofO (some z) S = .ok z S := (rfl)
@[simp] theorem q_ofO_none (S : Store) : ofO none S = .no := (rfl)
@[simp] theorem d_int (S : Store) (i : Int) : deref S (.int i) = some (.int i) := (rfl)
@[simp] theorem d_bl (S : Store) (i : Bool) : deref S (.bl i) = some (.bl i) := (rfl)
@[simp] theorem d_lst (S : Store) (xs : List PV) : deref S (.lst xs) = some (.lst xs) := (rfl)
@[simp] theorem d_tup (S : Store) (xs : List PV) : deref S (.tup xs) = some (.tup xs) := (rfl)
@[simp] theorem d_ins (S : Store) (c : Nat) (ns : List Nat) (xs : List PV) : deref S (.ins c ns xs) = some (.ins c ns xs) := (rfl)
@[simp] theorem d_dct (S : Store) (ks : DKs) (xs : List PV) : deref S (.dct ks xs) = some (.dct ks xs) := (rfl)
@[simp] theorem d_ref (S : Store) (i : Nat) : deref S (.ref i) = match S[i]? with
  | some o => unlD o
  | none => none := rfl
def fin : RS → R PV
  | .rt v S => .ok v S
  | .nx _ S => .ok .non S
  | .ex c p S => .ex c p S
  | _ => .no
@[simp] theorem fin_rt (v : PV) (S : Store) : fin (.rt v S) = .ok v S := (rfl)
@[simp] theorem fin_nx (e : Env) (S : Store) : fin (.nx e S) = .ok .non S := (rfl)
@[simp] theorem fin_no : fin .no = .no := (rfl)
theorem call_succ {T : Nat → Option FnB} {n f : Nat} {b : FnB} {args : List PV} {n0 : Nat} {S : Store} (h : T f = some b) (hl : args.length = b.np) : callF T (n + 1) f args n0 S = fin (b.body (callF T n) n0 (args.map some ++ List.replicate (b.nl - b.np) none) S) := by
  show (match T f with
    | some b => runB b (callF T n) args n0 S
    | none => R.no) = _
  rw [h]
  show runB b (callF T n) args n0 S = _
  unfold runB
  rw [if_pos hl]
  cases b.body (callF T n) n0 (args.map some ++ List.replicate (b.nl - b.np) none) S <;> rfl
end PX
namespace PX
open PySem
theorem intsOf_map (ns : List Int) : intsOf (ns.map .int) = some ns := by
  induction ns with
  | nil => rfl
  | cons c cs ih =>
    show (intsOf (cs.map .int)).map (c :: ·) = _
    rw [ih]
    rfl
theorem mod_int (i j : Int) (S : Store) (h : 0 < j) : oMod (.int i) (.int j) S = some (false, .int (i % j)) := by
  show (if 0 < j then some (false, PV.int (i % j)) else none) = _
  rw [if_pos h]
theorem div_int (i j : Int) (S : Store) (h : 0 < j) (h2 : j < 1073741824) : oDiv (.int i) (.int j) S = some (false, .int (i / j)) := by
  show (if 0 < j ∧ j < 1073741824 then some (false, PV.int (i / j)) else none) = _
  rw [if_pos ⟨h, h2⟩]
end PX
namespace PX
open PySem
section
variable (env : Env) (S : Store)
@[simp] theorem q_sfor (i : SI) (t : Tg) (b : SS) : sFor i t b env S = (i env S).go fun p S1 => (forR t b p.1 env S1).unl p.2 := (rfl)
@[simp] theorem q_rg1 (a : SE) : iRg1 a env S = (a env S).bind fun p S1 => match p.2 with
  | .int j => if okRg j then .ok (rngL 0 j.toNat, []) S1 else .no
  | _ => .no := (rfl)
@[simp] theorem q_lm (f : PV → PV → Store → Option Store) (o a : SE) : eLm f o a env S = (o env S).bind fun p S1 => if isL S1 p.2 then (a env S1).bind fun q S2 => match f p.2 q.2 S2 with
    | some S3 => .ok (false, .non) S3
    | none => .no
  else .no := (rfl)
@[simp] theorem q_forN (t : Tg) (b : SS) : forR t b [] env S = .nx env S := (rfl)
@[simp] theorem q_unl0 (z : RS) : z.unl [] = z := by cases z <;> rfl
end
end PX
namespace PX
open PySem
@[simp] theorem q_lc (i : SI) (t : Tg) (vs : List Nat) (c : ST) (e : SE) (env : Env) (S : Store) : eLc i t vs c e env S = (i env S).bind fun p S1 => (compR t c e p.1 (wipeE env vs) [] S1).bind fun acc S2 => .ok (true, .lst acc) (unlock p.2 S2) := (rfl)
@[simp] theorem q_seq (a : SE) (env : Env) (S : Store) : iSeq a env S = (a env S).bind fun p S1 => match lockS p.2 S1 with
  | some z => .ok (z.1, z.2.1) z.2.2
  | none => .no := (rfl)
def sq (b : Bool) (ns : List Int) : PV := bif b then .tup (ns.map .int) else .lst (ns.map .int)
end PX
namespace PX
open PySem
@[simp] theorem q_enu (a : SE) (env : Env) (S : Store) : iEnu a env S = (a env S).bind fun p S1 => match lockS p.2 S1 with
  | some z => .ok (enumL 0 z.1, z.2.1) z.2.2
  | none => .no := (rfl)
@[simp] theorem q_zip (a b : SE) (env : Env) (S : Store) : iZip a b env S = (a env S).bind fun p S1 => (b env S1).bind fun q S2 => match lockS p.2 S2 with
  | some z => match lockS q.2 z.2.2 with
    | some y => .ok (zipL z.1 y.1, y.2.1 ++ z.2.1) y.2.2
    | none => .no
  | none => .no := (rfl)
end PX
set_option linter.all false
namespace K22M
def mx : List Int → Int
  | [] => 0
  | x :: xs => xs.foldl max x
def mn : List Int → Int
  | [] => 0
  | x :: xs => xs.foldl min x
def sp (l : List Int) : Int := mx l - mn l
def isC (c : List Nat) (n : Nat) : Prop := c.head? = some 0 ∧ (∀ x ∈ c, x < n) ∧ c.Pairwise (· < ·)
instance (c : List Nat) (n : Nat) : Decidable (isC c n) := by unfold isC; infer_instance
end K22M
set_option Elab.async false
set_option linter.all false
set_option maxRecDepth 100000
set_option maxHeartbeats 1000000
namespace PX
open PySem
def iN (l : List Nat) : List Int := l.map fun (k : Nat) => (k : Int)
@[simp] theorem iN_len (l : List Nat) : (iN l).length = l.length := List.length_map _
theorem bin_val {o : Op2} {a b : SE} {env : Env} {S : Store} {k k' : Bool} {v w : PV} {z : Bool × PV} (ha : a env S = .ok (k, v) S) (hb : b env S = .ok (k', w) S) (h : o v w S = some z) : eBin o a b env S = .ok z S := by
  rw [q_bin, ha, R.bind_ok, hb, R.bind_ok, h]
  rfl
theorem sl_val {a : SE} {lo hi : SO} {env : Env} {S : Store} {k : Bool} {v : PV} {l u : Option Int} {z : Bool × PV} (ha : a env S = .ok (k, v) S) (h1 : lo env S = .ok l S) (h2 : hi env S = .ok u S) (h : slP l u v S = some z) : eSl a lo hi env S = .ok z S := by
  rw [q_sl, ha, R.bind_ok, h1, R.bind_ok, h2, R.bind_ok, h]
  rfl
theorem pso_val {a : SE} {env : Env} {S : Store} {k : Bool} {i : Int} (ha : a env S = .ok (k, .int i) S) : pSo a env S = .ok (some i) S := by
  rw [q_pso, ha, R.bind_ok]
theorem arg1_val {o : OpN} {a : SE} {env : Env} {S : Store} {k : Bool} {v : PV} {z : Bool × PV} (ha : a env S = .ok (k, v) S) (h : o [v] S = some z) : eArg o (aCons a aNil) env S = .ok z S := by
  rw [q_arg, q_cons, ha, R.bind_ok, q_nil, R.bind_ok, R.bind_ok, h]
  rfl
theorem tbl_val {a : SE} {env : Env} {S : Store} {k b : Bool} (ha : a env S = .ok (k, .bl b) S) : tBl a env S = .ok b S := by
  rw [q_tbl, ha, R.bind_ok]
theorem sasg_val {i : Nat} {a : SE} {env : Env} {S : Store} {k : Bool} {v : PV} (ha : a env S = .ok (k, v) S) : sAsg (gNm i) a env S = .nx (env.set i (some v)) S := by
  rw [q_sasg, ha, R.go_ok, q_gnm]
end PX
namespace PX
open PySem K22M
theorem ix_val {cf : CF} {tb : List (Nat × Nat)} {a b : SE} {env : Env} {S : Store} {k k' : Bool} {v w : PV} {z : Bool × PV} (ha : a env S = .ok (k, v) S) (hb : b env S = .ok (k', w) S) (ho : ownOf tb S v = none) (hd : dIx v w S = none) (h : oIx v w S = some z) : eIx cf tb a b env S = .ok z S := by
  rw [q_ix, ha, R.bind_ok, hb, R.bind_ok, ho, hd, h]
  rfl
end PX
namespace PX
open PySem
@[simp] theorem q_meth (cf : CF) (np m : Nat) (T : List (Nat × Nat)) (o : SE) (a : SA) (env : Env) (S : Store) : eMeth cf np m T o a env S = (o env S).bind fun p S0 => match methOf m T S0 p.2 with
  | some f => (a env S0).bind fun args S1 => if args.length + 1 = np then callV cf f (p.2 :: args) S1 else .no
  | none => .no := (rfl)
theorem args2 {a b : SE} {env : Env} {S : Store} {k k' : Bool} {v w : PV} (ha : a env S = .ok (k, v) S) (hb : b env S = .ok (k', w) S) : aCons a (aCons b aNil) env S = .ok [v, w] S := by
  rw [q_cons, ha, R.bind_ok, q_cons, hb, R.bind_ok, q_nil, R.bind_ok, R.bind_ok]
end PX
namespace PX
open PySem
theorem toD_deref {S : Store} {k : Nat} {v w : PV} (h : deref S v = deref S w) : toD S (k + 1) v = toD S (k + 1) w := by
  simp only [toD, h]
end PX
namespace PX
open PySem
theorem oIx_at {v : PV} {S : Store} {xs : List PV} {x : PV} {i : Nat} (h : itemsOf S v = some xs) (hx : xs[i]? = some x) : oIx v (.int i) S = some (false, x) := by
  obtain ⟨hl, _⟩ := List.getElem?_eq_some_iff.mp hx
  have e2 : ixP xs.length (i : Int) = some i := by
    unfold ixP
    rw [if_pos (by omega), if_pos (by omega), Int.toNat_natCast]
  unfold oIx
  simp only [h, e2, hx]
end PX
set_option Elab.async false
set_option linter.all false
set_option maxRecDepth 100000
set_option maxHeartbeats 1000000
namespace PX
open PySem K22M
theorem toDL_c {f : PV → Option PyData} {v : PV} {w : PyData} {vs : List PV} {ws : List PyData} (h1 : f v = some w) (h2 : toDL f vs = some ws) : toDL f (v :: vs) = some (w :: ws) := by
  simp only [toDL, h1, h2]
theorem call_at {T : Nat → Option FnB} {n f : Nat} {b : FnB} {args : List PV} {n0 : Nat} {S : Store} (env : Env) (h : T f = some b) (hl : args.length = b.np) (he : args.map some ++ List.replicate (b.nl - b.np) none = env) : callF T (n + 1) f args n0 S = fin (b.body (callF T n) n0 env S) := by
  rw [call_succ h hl, he]
end PX
set_option Elab.async false
set_option linter.all false
set_option maxRecDepth 100000
set_option maxHeartbeats 1000000
namespace PX
open PySem K22M
abbrev kI (c : List Int) : List (Sum Int Str) := c.map .inl
abbrev dT (l : List (List Int)) (f : List Int → PV) : PV := .dct (.t (l.map kI)) (l.map f)
end PX
set_option Elab.async false
set_option linter.all false
set_option maxRecDepth 100000
set_option maxHeartbeats 1000000
namespace PX
open PySem K22M
theorem spar_val {is : List Nat} {a : SA} {env env' : Env} {S S' : Store} {vs : List PV} (ha : a env S = .ok vs S') (ht : gTps (is.map gNm) vs env S' = some env') : sPar is a env S = .nx env' S' := by
  rw [q_spar, ha, R.go_ok]
  simp only [ht]
section
variable {S : Store} {i n0 : Nat} {xs : List PV}
theorem itemsOf_at (h : S[i]? = some (.lst xs)) : itemsOf S (.ref i) = some xs := by
  unfold itemsOf
  rw [d_ref, h]
  rfl
theorem ownL_at (tb : List (Nat × Nat)) (h : S[i]? = some (.lst xs)) : ownOf tb S (.ref i) = none := by
  unfold ownOf
  rw [d_ref, h]
  rfl
theorem dIx_at (y : PV) (h : S[i]? = some (.lst xs)) : dIx (.ref i) y S = none := by
  unfold dIx
  rw [d_ref, h]
  rfl
theorem ssub_val {f : PV → PV → PV → Store → Option Store} {o k e : SE} {env : Env} {S' : Store} {k1 k2 k3 : Bool} {v w x : PV} (he : e env S = .ok (k1, x) S) (ho : o env S = .ok (k2, v) S) (hk : k env S = .ok (k3, w) S) (hf : f v w x S = some S') : sSetI f o k e env S = .nx env S' := by
  unfold sSetI
  rw [he, R.go_ok, ho, R.go_ok, hk, R.go_ok]
  simp only [hf]
theorem ix_at {cf : CF} {tb : List (Nat × Nat)} {a b : SE} {env : Env} {k k' : Bool} {j : Nat} {x : PV} (ha : a env S = .ok (k, .ref i) S) (hb : b env S = .ok (k', .int (j : Nat)) S) (h : S[i]? = some (.lst xs)) (hx : xs[j]? = some x) : eIx cf tb a b env S = .ok (false, x) S :=
  ix_val ha hb (ownL_at tb h) (dIx_at _ h) (oIx_at (itemsOf_at h) hx)
theorem callV_norm {cf : CF} {f : Nat} {args : List PV} {S S' S'' : Store} {v : PV} {z : Bool × PV} (h : cf f args S.length S = .ok v S') (hn : norm S.length v S' = .ok z S'') : callV cf f args S = .ok z S'' := by
  unfold callV
  rw [h]
  exact hn
end
end PX
set_option Elab.async false
set_option linter.all false
set_option maxRecDepth 100000
set_option maxHeartbeats 1000000
set_option Elab.async false
set_option linter.all false
set_option maxRecDepth 100000
set_option maxHeartbeats 4000000
set_option Elab.async false
set_option linter.all false
set_option maxRecDepth 100000
set_option maxHeartbeats 4000000
set_option Elab.async false
set_option linter.all false
set_option maxRecDepth 100000
set_option maxHeartbeats 4000000
set_option Elab.async false
set_option linter.all false
set_option maxRecDepth 100000
set_option maxHeartbeats 1000000
set_option Elab.async false
set_option linter.all false
set_option maxRecDepth 100000
set_option maxHeartbeats 1000000
set_option Elab.async false
set_option linter.all false
set_option maxRecDepth 100000
set_option maxHeartbeats 1000000
namespace PX
open PySem
section
variable {α β γ δ : Type}
abbrev eI : Int → PV := PV.int
abbrev eB : Bool → PV := PV.bl
def eL (e : α → PV) (l : List α) : PV := .lst (l.map e)
def eT (e : α → PV) (l : List α) : PV := .tup (l.map e)
def NR (e : α → PV) : Prop := ∀ S v, deref S (e v) = some (e v)
theorem nr_I : NR eI := fun _ _ => rfl
theorem nr_L (e : α → PV) : NR (eL e) := fun _ _ => rfl
theorem nr_T (e : α → PV) : NR (eT e) := fun _ _ => rfl
def Ex (e : α → PV) : PV → α → Prop := fun w v => w = e v
def Vw (e : α → PV) (S : Store) : PV → α → Prop := fun w v => deref S w = some (e v)
theorem Ex.vw {e : α → PV} (h : NR e) {S : Store} {w : PV} {v : α} (q : Ex e w v) : Vw e S w v := by
  have q : w = e v := q
  subst q
  exact h S v
def JG (e : SE) (env : Env) (S : Store) (R : PV → α → Prop) (o : Option α) : Prop := ∀ v, o = some v → ∃ k w, e env S = .ok (k, w) S ∧ R w v
def JK (k : Bool) (e : SE) (env : Env) (S : Store) (enc : α → PV) (o : Option α) : Prop := ∀ v, o = some v → e env S = .ok (k, enc v) S
abbrev JE (e : SE) (env : Env) (S : Store) (enc : α → PV) (o : Option α) : Prop := JG e env S (Ex enc) o
abbrev JV (e : SE) (env : Env) (S : Store) (enc : α → PV) (o : Option α) : Prop := JG e env S (Vw enc S) o
def JB (c : ST) (env : Env) (S : Store) (o : Option Bool) : Prop := ∀ b, o = some b → c env S = .ok b S
def JO (i : SO) (env : Env) (S : Store) (o : Option (Option Int)) : Prop := ∀ l, o = some l → i env S = .ok l S
def Cl (cf : CF) (f : Nat) (args : List PV) (S : Store) (k : Bool) (enc : α → PV) (o : Option α) : Prop := ∀ v, o = some v → callV cf f args S = .ok (k, enc v) S
theorem bsome {o : Option α} {f : α → Option β} {v : β} (h : o.bind f = some v) : ∃ a, o = some a ∧ f a = some v := Option.bind_eq_some_iff.mp h
variable {env : Env} {S : Store} {a b c d : SE} {ea : α → PV} {eb : β → PV} {ec : γ → PV} {oa : Option α} {ob : Option β} {oc : Option γ} {k : Bool}
theorem JK.e (h : JK k a env S ea oa) : JE a env S ea oa := fun v e => ⟨k, _, h v e, rfl⟩
theorem JG.v (h : JE a env S ea oa) (n : NR ea) : JV a env S ea oa := fun v e => by
  obtain ⟨k, w, h1, h2⟩ := h v e
  exact ⟨k, w, h1, Ex.vw n h2⟩
theorem JK.v (h : JK k a env S ea oa) (n : NR ea) : JV a env S ea oa := h.e.v n
theorem JE_var {i : Nat} {x : α} (h : env[i]? = some (some (ea x))) : JK false (eVar i) env S ea (some x) := fun v e => by
  cases e
  rw [q_var, h]
theorem JE_lit {x : α} {v : PV} (h : v = ea x) : JK false (eLit v) env S ea (some x) := fun v e => by
  cases e
  subst h
  rfl
def mulO (x y : Int) : Option Int := if mulOk x y then some (x * y) else none
def divO (x y : Int) : Option Int := if 0 < y ∧ y < 1073741824 then some (x / y) else none
def modO (x y : Int) : Option Int := if 0 < y then some (x % y) else none
theorem JE_bin {o : Op2} {f : α → β → Option γ} {R1 : PV → α → Prop} {R2 : PV → β → Prop} (ha : JG a env S R1 oa) (hb : JG b env S R2 ob) (ho : ∀ w1 w2 x y z, R1 w1 x → R2 w2 y → f x y = some z → o w1 w2 S = some (k, ec z)) :
    JK k (eBin o a b) env S ec (oa.bind fun x => ob.bind fun y => f x y) := fun v e => by
  obtain ⟨x, e1, e⟩ := bsome e
  obtain ⟨y, e2, e⟩ := bsome e
  obtain ⟨k1, w1, h1, r1⟩ := ha x e1
  obtain ⟨k2, w2, h2, r2⟩ := hb y e2
  rw [q_bin, h1, R.bind_ok, h2, R.bind_ok, ho w1 w2 x y v r1 r2 e]
  rfl
section
variable {o1 o2 o3 : Option Int}
theorem J_add (ha : JE a env S eI o1) (hb : JE b env S eI o2) : JK false (eBin oCat a b) env S eI (o1.bind fun x => o2.bind fun y => some (x + y)) :=
  JE_bin ha hb fun w1 w2 x y z h1 h2 h => by
    have h1 : w1 = .int x := h1
    have h2 : w2 = .int y := h2
    subst h1 h2
    cases h
    rfl
theorem J_mul (ha : JE a env S eI o1) (hb : JE b env S eI o2) : JK false (eBin oRep a b) env S eI (o1.bind fun x => o2.bind fun y => mulO x y) :=
  JE_bin ha hb fun w1 w2 x y z h1 h2 h => by
    have h1 : w1 = .int x := h1
    have h2 : w2 = .int y := h2
    subst h1 h2
    unfold mulO at h
    split at h
    · rename_i hm
      cases h
      show (if mulOk x y then some (false, PV.int (x * y)) else none) = _
      rw [if_pos hm]
    · cases h
theorem J_div (ha : JE a env S eI o1) (hb : JE b env S eI o2) : JK false (eBin oDiv a b) env S eI (o1.bind fun x => o2.bind fun y => divO x y) :=
  JE_bin ha hb fun w1 w2 x y z h1 h2 h => by
    have h1 : w1 = .int x := h1
    have h2 : w2 = .int y := h2
    subst h1 h2
    unfold divO at h
    split at h
    · rename_i hm
      cases h
      exact div_int x y S hm.1 hm.2
    · cases h
theorem J_mod (ha : JE a env S eI o1) (hb : JE b env S eI o2) : JK false (eBin oMod a b) env S eI (o1.bind fun x => o2.bind fun y => modO x y) :=
  JE_bin ha hb fun w1 w2 x y z h1 h2 h => by
    have h1 : w1 = .int x := h1
    have h2 : w2 = .int y := h2
    subst h1 h2
    unfold modO at h
    split at h
    · rename_i hm
      cases h
      exact mod_int x y S hm
    · cases h
end
section
variable {o1 o2 : Option Bool} {ca cb : ST}
theorem B_bl (ha : JE a env S eB o1) : JB (tBl a) env S o1 := fun v e => by
  obtain ⟨k1, w1, h1, r1⟩ := ha v e
  have r1 : w1 = .bl v := r1
  subst r1
  exact tbl_val h1
theorem J_ifK {o o' : Option α} (hc : JB ca env S o1) (ha : JK k a env S ea o) (hb : JK k b env S ea o') : JK k (eIf ca a b) env S ea (o1.bind fun t => if t then o else o') := fun v e => by
  obtain ⟨x, e1, e⟩ := bsome e
  rw [q_if, hc x e1, R.bind_ok]
  cases x with
  | true => exact ha v e
  | false => exact hb v e
end
end
end PX
set_option Elab.async false
set_option linter.all false
set_option maxRecDepth 100000
set_option maxHeartbeats 1000000
namespace PX
open PySem
section
variable {α β γ δ : Type} {env : Env} {S : Store} {a b c d : SE} {ea : α → PV} {eb : β → PV} {ec : γ → PV} {oa : Option α} {ob : Option β} {oc : Option γ} {k : Bool}
variable {ol : Option (List α)} {oi : Option Int}
def Sq (ea : α → PV) (S : Store) : PV → List α → Prop := fun w l => itemsOf S w = some (l.map ea)
theorem JG.imp {R R' : PV → α → Prop} (h : JG a env S R oa) (i : ∀ w v, R w v → R' w v) : JG a env S R' oa := fun v e => by
  obtain ⟨k, w, h1, h2⟩ := h v e
  exact ⟨k, w, h1, i w v h2⟩
theorem vwL {w : PV} {l : List α} (h : Vw (eL ea) S w l) : Sq ea S w l := by
  have h : deref S w = some (.lst (l.map ea)) := h
  show itemsOf S w = _
  unfold itemsOf
  rw [h]
theorem vwT {w : PV} {l : List α} (h : Vw (eT ea) S w l) : Sq ea S w l := by
  have h : deref S w = some (.tup (l.map ea)) := h
  show itemsOf S w = _
  unfold itemsOf
  rw [h]
theorem JG.sqL (h : JV a env S (eL ea) ol) : JG a env S (Sq ea S) ol := h.imp fun _ _ => vwL
theorem JG.sqT (h : JV a env S (eT ea) ol) : JG a env S (Sq ea S) ol := h.imp fun _ _ => vwT
theorem JK.sqL {k : Bool} (h : JK k a env S (eL ea) ol) : JG a env S (Sq ea S) ol := (h.v (nr_L ea)).sqL
theorem JK.sqT {k : Bool} (h : JK k a env S (eT ea) ol) : JG a env S (Sq ea S) ol := (h.v (nr_T ea)).sqT
theorem JE.sqL (h : JE a env S (eL ea) ol) : JG a env S (Sq ea S) ol := (JG.v h (nr_L ea)).sqL
theorem JE.sqT (h : JE a env S (eT ea) ol) : JG a env S (Sq ea S) ol := (JG.v h (nr_T ea)).sqT
theorem own_vwL {w : PV} {l : List α} (tb : List (Nat × Nat)) (h : Vw (eL ea) S w l) : ownOf tb S w = none := by
  have h : deref S w = some (.lst (l.map ea)) := h
  unfold ownOf
  rw [h]
theorem dix_vwL {w y : PV} {l : List α} (h : Vw (eL ea) S w l) : dIx w y S = none := by
  have h : deref S w = some (.lst (l.map ea)) := h
  unfold dIx
  rw [h]
def ixO (l : List α) (i : Int) : Option α := (ixP l.length i).bind fun j => l[j]?
theorem oIx_sq {w : PV} {l : List α} {i : Int} {x : α} (h : Sq ea S w l) (e : ixO l i = some x) : oIx w (.int i) S = some (false, ea x) := by
  obtain ⟨j, e1, e2⟩ := bsome e
  have h : itemsOf S w = some (l.map ea) := h
  unfold oIx
  simp only [h, List.length_map, e1, List.getElem?_map, e2]
  rfl
theorem J_ixG {cf : CF} {tb : List (Nat × Nat)} {R : PV → List α → Prop} (ha : JG a env S R ol) (hb : JE b env S eI oi) (h1 : ∀ w l, R w l → Sq ea S w l) (h2 : ∀ w l, R w l → ownOf tb S w = none) (h3 : ∀ w l y, R w l → dIx w y S = none) :
    JK false (eIx cf tb a b) env S ea (ol.bind fun l => oi.bind fun i => ixO l i) := fun v e => by
  obtain ⟨l, e1, e⟩ := bsome e
  obtain ⟨i, e2, e⟩ := bsome e
  obtain ⟨k1, w1, q1, r1⟩ := ha l e1
  obtain ⟨k2, w2, q2, r2⟩ := hb i e2
  have r2 : w2 = .int i := r2
  subst r2
  exact ix_val q1 q2 (h2 _ _ r1) (h3 _ _ _ r1) (oIx_sq (h1 _ _ r1) e)
theorem J_ixL {cf : CF} {tb : List (Nat × Nat)} (ha : JV a env S (eL ea) ol) (hb : JE b env S eI oi) : JK false (eIx cf tb a b) env S ea (ol.bind fun l => oi.bind fun i => ixO l i) :=
  J_ixG ha hb (fun _ _ h => vwL h) (fun _ _ h => own_vwL tb h) fun _ _ _ h => dix_vwL h
def slO (l : List α) (lo hi : Option Int) : List α := (l.drop (sIxP l.length 0 lo)).take (sIxP l.length l.length hi - sIxP l.length 0 lo)
theorem O_no : JO pNo env S (some none) := fun v e => by cases e; rfl
theorem O_so (ha : JE a env S eI oi) : JO (pSo a) env S (oi.bind fun i => some (some i)) := fun v e => by
  obtain ⟨i, e1, e⟩ := bsome e
  cases e
  obtain ⟨k1, w1, q1, r1⟩ := ha i e1
  have r1 : w1 = .int i := r1
  subst r1
  exact pso_val q1
theorem cutP_mapG (ns : List α) (lo hi : Option Int) : cutP (ns.map ea) lo hi = (slO ns lo hi).map ea := by
  unfold cutP slO
  rw [List.length_map, List.map_take, List.map_drop]
theorem J_slL {lo hi : SO} {o1 o2 : Option (Option Int)} (ha : JV a env S (eL ea) ol) (h1 : JO lo env S o1) (h2 : JO hi env S o2) : JK true (eSl a lo hi) env S (eL ea) (ol.bind fun l => o1.bind fun x => o2.bind fun y => some (slO l x y)) := fun v e => by
  obtain ⟨l, e1, e⟩ := bsome e
  obtain ⟨x, e2, e⟩ := bsome e
  obtain ⟨y, e3, e⟩ := bsome e
  cases e
  obtain ⟨k1, w1, q1, r1⟩ := ha l e1
  have r1 : deref S w1 = some (.lst (l.map ea)) := r1
  refine sl_val q1 (h1 x e2) (h2 y e3) ?_
  unfold slP
  rw [r1]
  show some (true, PV.lst (cutP (l.map ea) x y)) = _
  rw [cutP_mapG]
  rfl
def JA (x : SA) (env : Env) (S : Store) (ea : α → PV) (o : Option (List α)) : Prop := ∀ l, o = some l → x env S = .ok (l.map ea) S
theorem A_nil : JA aNil env S ea (some []) := fun v e => by cases e; rfl
theorem A_cons {r : SA} (ha : JE a env S ea oa) (hr : JA r env S ea ol) : JA (aCons a r) env S ea (oa.bind fun x => ol.bind fun l => some (x :: l)) := fun v e => by
  obtain ⟨x, e1, e⟩ := bsome e
  obtain ⟨l, e2, e⟩ := bsome e
  cases e
  obtain ⟨k1, w1, q1, r1⟩ := ha x e1
  have r1 : w1 = ea x := r1
  subst r1
  rw [q_cons, q1, R.bind_ok, hr l e2]
  rfl
def smO (l : List α) : Option (List α) := if small l.length then some l else none
theorem J_lst {x : SA} (h : JA x env S ea ol) : JK true (eLst x) env S (eL ea) (ol.bind fun l => smO l) := fun v e => by
  obtain ⟨l, e1, e⟩ := bsome e
  unfold smO at e
  split at e
  · rename_i hs
    cases e
    rw [q_lst, h v e1, R.bind_ok, if_pos (by rw [List.length_map]; exact hs)]
    rfl
  · cases e
theorem J_arg1 {o : OpN} {f : α → Option γ} {R : PV → α → Prop} (ha : JG a env S R oa) (ho : ∀ w x z, R w x → f x = some z → o [w] S = some (k, ec z)) : JK k (eArg o (aCons a aNil)) env S ec (oa.bind fun x => f x) := fun v e => by
  obtain ⟨x, e1, e⟩ := bsome e
  obtain ⟨k1, w1, q1, r1⟩ := ha x e1
  exact arg1_val q1 (ho w1 x v r1 e)
theorem J_sum {o : Option (List Int)} (ha : JG a env S (Sq eI S) o) : JK false (eArg bSum (aCons a aNil)) env S eI (o.bind fun l => some l.sum) :=
  J_arg1 ha fun w x z h e => by
    have h : itemsOf S w = some (x.map .int) := h
    cases e
    unfold bSum
    simp only [h, intsOf_map]
    rfl
theorem J_int (ha : JE a env S eI oi) : JK false (eArg bInt (aCons a aNil)) env S eI (oi.bind fun x => some x) :=
  J_arg1 ha fun w x z h e => by
    have h : w = .int x := h
    subst h
    cases e
    rfl
theorem q_lenG (cf : CF) (tb : List (Nat × Nat)) (a : SE) : eLenG cf tb a env S = (a env S).bind fun p S1 => match ownOf tb S1 p.2 with
  | some f => (callV cf f [p.2] S1).bind lenI
  | none => ofO (bLenG [p.2] S1) S1 := rfl
theorem J_lenL {cf : CF} {tb : List (Nat × Nat)} (ha : JV a env S (eL ea) ol) : JK false (eLenG cf tb a) env S eI (ol.bind fun l => some (l.length : Int)) := fun v e => by
  obtain ⟨l, e1, e⟩ := bsome e
  cases e
  obtain ⟨k1, w1, q1, r1⟩ := ha l e1
  have r1' : deref S w1 = some (.lst (l.map ea)) := r1
  rw [q_lenG, q1, R.bind_ok]
  simp only [own_vwL tb r1]
  unfold bLenG bLen
  simp only [r1', List.length_map]
  rfl
end
end PX
set_option Elab.async false
set_option linter.all false
set_option maxRecDepth 100000
set_option maxHeartbeats 1000000
set_option Elab.async false
set_option linter.all false
set_option maxRecDepth 100000
set_option maxHeartbeats 1000000
namespace PX
open PySem
section
variable {α β γ δ : Type} {env : Env} {S : Store} {a b c d : SE} {ea : α → PV} {eb : β → PV} {ec : γ → PV} {oa ob : Option α} {k : Bool}
structure Dq (n : Nat) (e : α → PV) (dt : α → PyData) : Prop where
  nr : NR e
  ni : ∀ tb S v, ownOf tb S (e v) = none
  d : ∀ S k v, n ≤ k → toD S k (e v) = some (dt v)
  inj : ∀ x y, PyData.eqv (dt x) (dt y) = true ↔ x = y
theorem Dq.eqv [DecidableEq α] {n : Nat} {e : α → PV} {dt : α → PyData} (h : Dq n e dt) (x y : α) : PyData.eqv (dt x) (dt y) = decide (x = y) := by
  by_cases q : x = y
  · rw [decide_eq_true q]
    exact (h.inj x y).mpr q
  · rw [decide_eq_false q]
    cases e : PyData.eqv (dt x) (dt y) with
    | false => rfl
    | true => exact absurd ((h.inj x y).mp e) q
theorem dq_I : Dq 1 eI PyData.int := ⟨nr_I, fun _ _ _ => rfl, fun S k v h => by
  cases k with
  | zero => omega
  | succ k => rfl, fun x y => by
    show (x == y) = true ↔ x = y
    simp⟩
theorem eqvAll_map {dt : α → PyData} (h : ∀ x y, PyData.eqv (dt x) (dt y) = true ↔ x = y) : ∀ x y : List α, PyData.eqvAll (x.map dt) (y.map dt) = true ↔ x = y
  | [], [] => by simp [PyData.eqvAll]
  | [], _ :: _ => by simp [PyData.eqvAll]
  | _ :: _, [] => by simp [PyData.eqvAll]
  | x :: xs, y :: ys => by
    show (PyData.eqv (dt x) (dt y) && PyData.eqvAll (xs.map dt) (ys.map dt)) = true ↔ _
    rw [Bool.and_eq_true, h x y, eqvAll_map h xs ys]
    simp
theorem toDL_map {f : PV → Option PyData} {e : α → PV} {dt : α → PyData} (h : ∀ v, f (e v) = some (dt v)) : ∀ l : List α, toDL f (l.map e) = some (l.map dt)
  | [] => rfl
  | x :: l => toDL_c (h x) (toDL_map h l)
theorem dq_L {n : Nat} {dt : α → PyData} (h : Dq n ea dt) : Dq (n + 1) (eL ea) fun l => .list (l.map dt) := ⟨nr_L ea, fun _ _ _ => rfl, fun S k v hk => by
  cases k with
  | zero => omega
  | succ k =>
    show (toDL (toD S k) (v.map ea)).map PyData.list = _
    rw [toDL_map fun x => h.d S k x (by omega)]
    rfl, fun x y => eqvAll_map h.inj x y⟩
theorem Dq.vw {n : Nat} {dt : α → PyData} (h : Dq n ea dt) (hn : n ≤ 6) {w : PV} {v : α} (q : Vw ea S w v) : toD S 6 w = some (dt v) := by
  have q : deref S w = some (ea v) := q
  rw [toD_deref (k := 5) (w := ea v) (by rw [q, h.nr])]
  exact h.d S 6 v hn
theorem Dq.own {n : Nat} {dt : α → PyData} (h : Dq n ea dt) (tb : List (Nat × Nat)) {w : PV} {v : α} (q : Vw ea S w v) : ownOf tb S w = none := by
  have q : deref S w = some (ea v) := q
  have := h.ni tb S v
  unfold ownOf at this ⊢
  rw [q]
  rw [h.nr S v] at this
  exact this
theorem eqQ_dq [DecidableEq α] {n : Nat} {dt : α → PyData} (h : Dq n ea dt) (hn : n ≤ 6) {w w' : PV} {x y : α} (q : Vw ea S w x) (q' : Vw ea S w' y) : eqQ S w w' = some (decide (x = y)) := by
  have e : eqD S w w' = some (decide (x = y)) := by
    unfold eqD
    rw [h.vw hn q, h.vw hn q']
    simp only [h.eqv]
  unfold eqQ eqEl
  simp only [e]
theorem q_neQ (cf : CF) (tb : List (Nat × Nat)) (tys : List TyN) (a b : SE) : eNeQ cf tb tys a b env S = (a env S).bind fun p S1 => (b env S1).bind fun q S2 => match ownOf tb S2 p.2 with
  | some f => if okTy tys S2 q.2 then (callV cf f [p.2, q.2] S2).bind notI else .no
  | none => ofO (oNeQ p.2 q.2 S2) S2 := (rfl)
theorem J_ne [DecidableEq α] {cf : CF} {tb : List (Nat × Nat)} {tys : List TyN} {n : Nat} {dt : α → PyData} (h : Dq n ea dt) (hn : n ≤ 6) (ha : JV a env S ea oa) (hb : JV b env S ea ob) : JK false (eNeQ cf tb tys a b) env S eB (oa.bind fun x => ob.bind fun y => some (!decide (x = y))) := fun v e => by
  obtain ⟨x, e1, e⟩ := bsome e
  obtain ⟨y, e2, e⟩ := bsome e
  cases e
  obtain ⟨k1, w1, q1, r1⟩ := ha x e1
  obtain ⟨k2, w2, q2, r2⟩ := hb y e2
  rw [q_neQ, q1, R.bind_ok, q2, R.bind_ok]
  simp only [h.own tb r1]
  unfold oNeQ
  rw [eqQ_dq h hn r1 r2]
  rfl
end
end PX
set_option Elab.async false
set_option linter.all false
set_option maxRecDepth 100000
set_option maxHeartbeats 1000000
namespace PX
open PySem
section
variable {α β γ δ ρ σ : Type} {env env' : Env} {S S' : Store} {a b c d : SE} {ea : α → PV} {eb : β → PV} {ec : γ → PV} {oa : Option α} {ob : Option β} {k : Bool}
variable {Q : ρ → RS → Prop} {rest s A B : SS} {o : Option ρ} {R : α → Option ρ}
def JS (s : SS) (env : Env) (S : Store) (o : Option ρ) (Q : ρ → RS → Prop) : Prop := ∀ v, o = some v → Q v (s env S)
def RT (S0 : Store) (k : Bool) (ec : γ → PV) : γ → RS → Prop := fun v z => ∃ w S', fin z = .ok w S' ∧ norm S0.length w S' = .ok (k, ec v) S0
def St (Q : ρ → RS → Prop) : ρ → RS → Prop := fun v z => Q v z ∧ ∀ e T, z ≠ .nx e T
theorem S_asg {i : Nat} {env' : α → Env} (ha : JE a env S ea oa) (he : ∀ x, env.set i (some (ea x)) = env' x) (h : ∀ x, JS rest (env' x) S (R x) Q) : JS (sCons (sAsg (gNm i) a) rest) env S (oa.bind R) Q := fun v e => by
  obtain ⟨x, e1, e⟩ := bsome e
  obtain ⟨k1, w1, q1, r1⟩ := ha x e1
  have r1 : w1 = ea x := r1
  subst r1
  rw [q_scons, sasg_val q1, RS.then_nx, he x]
  exact h x v e
theorem S_par2 {i j : Nat} {env' : α → β → Env} {R : α → β → Option ρ} (ha : JE a env S ea oa) (hb : JE b env S eb ob) (he : ∀ x y, (env.set i (some (ea x))).set j (some (eb y)) = env' x y) (h : ∀ x y, JS rest (env' x y) S (R x y) Q) :
    JS (sCons (sPar [i, j] (aCons a (aCons b aNil))) rest) env S (oa.bind fun x => ob.bind fun y => R x y) Q := fun v e => by
  obtain ⟨x, e1, e⟩ := bsome e
  obtain ⟨y, e2, e⟩ := bsome e
  obtain ⟨k1, w1, q1, r1⟩ := ha x e1
  obtain ⟨k2, w2, q2, r2⟩ := hb y e2
  have r1 : w1 = ea x := r1
  have r2 : w2 = eb y := r2
  subst r1 r2
  rw [q_scons, spar_val (args2 q1 q2) (show gTps ([i, j].map gNm) [ea x, eb y] env S = some ((env.set i (some (ea x))).set j (some (eb y))) from rfl), RS.then_nx, he x y]
  exact h x y v e
theorem S_ret {o : Option γ} {Q : γ → RS → Prop} (ha : JE a env S ec o) (h : ∀ x, Q x (.rt (ec x) S)) : JS (sRet a) env S o Q := fun v e => by
  obtain ⟨k1, w1, q1, r1⟩ := ha v e
  have r1 : w1 = ec v := r1
  subst r1
  rw [q_sret, q1, PX.R.go_ok]
  exact h v
theorem RT_val {S0 : Store} {ec : γ → PV} (v : γ) : RT S0 false ec v (.rt (ec v) S0) := ⟨ec v, S0, rfl, by unfold norm; rw [if_pos rfl]⟩
theorem Vw.app {S0 T : Store} {w : PV} {v : α} (h : Vw ea S0 w v) : Vw ea (S0 ++ T) w v := by
  have h : deref S0 w = some (ea v) := h
  show deref (S0 ++ T) w = _
  cases w with
  | ref i =>
    rw [d_ref] at h ⊢
    cases e : S0[i]? with
    | none => rw [e] at h; cases h
    | some o =>
      rw [e] at h
      rw [List.getElem?_append_left (List.getElem?_eq_some_iff.mp e).1, e]
      exact h
  | _ => exact h
theorem cl_of {T : Nat → Option FnB} {m f : Nat} {b : FnB} {args : List PV} {o : Option γ} {S : Store} (env : Env) (h : T f = some b) (hl : args.length = b.np) (he : args.map some ++ List.replicate (b.nl - b.np) none = env)
    (hs : JS (b.body (callF T m) S.length) env S o (RT S k ec)) : Cl (callF T (m + 1)) f args S k ec o := fun v e => by
  obtain ⟨w, S', q1, q2⟩ := hs v e
  refine callV_norm ?_ q2
  rw [call_at env h hl he, q1]
def Mk (cf : CF) (np c f : Nat) (args : List PV) (S : Store) (ec : γ → PV) (o : Option γ) : Prop := ∀ v, o = some v → ((cutX S.length (cf f (.ref S.length :: args) S.length (S ++ [.ins c [] []]))).bind fun w S2 => match w with
      | .non => norm S.length (.ref S.length) S2
      | _ => .no) = .ok (true, ec v) S
end
end PX
set_option Elab.async false
set_option linter.all false
set_option maxRecDepth 100000
set_option maxHeartbeats 1000000
set_option Elab.async false
set_option linter.all false
set_option maxRecDepth 100000
set_option maxHeartbeats 1000000
namespace PX
open PySem
abbrev DD (ns : List Int) (k : Nat) : PV := .lst [.lst (ns.map .int), .int k]
section
variable {α β γ δ ε ρ σ : Type} {env : Env} {St : Nat → Store} {n : Nat} {a b c d : SE} {ea : α → PV} {eb : β → PV} {ec : γ → PV} {k : Bool}
variable {oa : Option (α × Nat)} {Q : ρ → RS → Prop} {rest : SS}
def JD (e : SE) (env : Env) (St : Nat → Store) (n : Nat) (enc : α → PV) (o : Option (α × Nat)) : Prop := ∀ v n', o = some (v, n') → ∃ k, e env (St n) = .ok (k, enc v) (St n')
def JDT (e : SE) (env : Env) (St : Nat → Store) (n : Nat) (enc : α → PV) (o : Option (α × Nat)) : Prop := ∀ v n', o = some (v, n') → e env (St n) = .ok (true, enc v) (St n')
theorem JDT.e (h : JDT a env St n ea oa) : JD a env St n ea oa := fun v n' e => ⟨true, h v n' e⟩
section
theorem dop_mod {S : Store} {x y z : Int} (h : modO x y = some z) : ∃ k, oMod (eI x) (eI y) S = some (k, eI z) := by
  unfold modO at h
  split at h
  · rename_i hm
    cases h
    exact ⟨false, mod_int x y S hm⟩
  · cases h
end
def ClD (cf : CF) (f : Nat) (args : List PV) (St : Nat → Store) (n : Nat) (k : Bool) (ec : γ → PV) (o : Option (γ × Nat)) : Prop := ∀ v n', o = some (v, n') → callV cf f args (St n) = .ok (k, ec v) (St n')
variable {R : α × Nat → Option ρ}
def RTD (St : Nat → Store) (L : Nat) (k : Bool) (ec : γ → PV) : γ × Nat → RS → Prop := fun v z => ∃ w S', fin z = .ok w S' ∧ norm L w S' = .ok (k, ec v.1) (St v.2)
theorem RTD_of {L : Nat} {v : γ × Nat} {z : RS} (hL : ∀ n, (St n).length = L) (h : RT (St v.2) k ec v.1 z) : RTD St L k ec v z := by
  obtain ⟨w, S', q1, q2⟩ := h
  rw [hL] at q2
  exact ⟨w, S', q1, q2⟩
theorem clD_of {T : Nat → Option FnB} {m f L : Nat} {b : FnB} {args : List PV} {o : Option (γ × Nat)} (env : Env) (h : T f = some b) (hl : args.length = b.np) (he : args.map some ++ List.replicate (b.nl - b.np) none = env) (hL : ∀ n, (St n).length = L)
    (hs : JS (b.body (callF T m) (St n).length) env (St n) o (RTD St L k ec)) : ClD (callF T (m + 1)) f args St n k ec o := fun v n' e => by
  obtain ⟨w, S', q1, q2⟩ := hs (v, n') e
  refine callV_norm ?_ (by rw [hL]; exact q2)
  rw [call_at env h hl he, q1]
end
end PX
set_option Elab.async false
set_option linter.all false
set_option maxRecDepth 100000
set_option maxHeartbeats 1000000
namespace PX
open PySem
theorem bS {α β : Type} (a : α) (f : α → Option β) : Option.bind (some a) f = f a := (rfl)
structure SKey {β : Type} (eb : β → PV) (le : β → β → Bool) : Prop where
  ex : ∃ kd : β → PyData, (∀ b, keyD (eb b) = some (kd b)) ∧ (∀ l : List β, okK (l.map kd) = true) ∧ ∀ a b, PySem.W.dataLe false kd a b = le a b
end PX
set_option Elab.async false
set_option linter.all false
set_option maxRecDepth 100000
set_option maxHeartbeats 1000000
namespace PX
open PySem
structure Dr (ns : List Int) (Z : Nat → Store) (L : Nat) (w : PV) : Prop where
  ex : ∃ i, w = .ref i ∧ (∀ n, (Z n)[i]? = some (DD ns n)) ∧ ∀ n n', (Z n).set i (DD ns n') = Z n'
  len : ∀ n, (Z n).length = L
theorem Dr.app {ns : List Int} {Z : Nat → Store} {L : Nat} {w : PV} (h : Dr ns Z L w) (T : Store) : Dr ns (fun n => Z n ++ T) (L + T.length) w := by
  obtain ⟨⟨i, rfl, h1, h2⟩, hl⟩ := h
  have hi : ∀ n, i < (Z n).length := fun n => (List.getElem?_eq_some_iff.mp (h1 n)).1
  refine ⟨⟨i, rfl, fun n => ?_, fun n n' => ?_⟩, fun n => ?_⟩
  · show (Z n ++ T)[i]? = _
    rw [List.getElem?_append_left (hi n)]
    exact h1 n
  · show (Z n ++ T).set i _ = Z n' ++ T
    rw [List.set_append_left _ _ (hi n), h2]
  · show (Z n ++ T).length = _
    rw [List.length_append, hl]
abbrev ZL (ns : List Int) : Nat → Store := fun n => [DD ns n]
theorem Dr.one (ns : List Int) : Dr ns (ZL ns) 1 (.ref 0) := ⟨⟨0, rfl, fun _ => rfl, fun _ _ => rfl⟩, fun _ => rfl⟩
section
variable {α β γ δ ρ σ : Type} {env : Env} {S0 T S : Store} {a b c d : SE} {ea : α → PV} {eb : β → PV} {ec : γ → PV} {oa : Option α} {ob : Option β} {k : Bool} {L n : Nat} {Z : Nat → Store} {ns : List Int}
variable {Q : ρ → RS → Prop} {rest A B : SS}
theorem RD_val (hL : ∀ n, (Z n).length = L) (v : γ) (n : Nat) : RTD Z L false ec (v, n) (.rt (ec v) (Z n)) := RTD_of hL (RT_val v)
theorem take_okD {cf : CF} {tb : List (Nat × Nat)} {fN n0 : Nat} {w : PV} {many : Int} {kN : Bool} {o : Option Int} (hd : Dr ns Z L w) (hn : n0 = (Z n).length) (hN : Cl cf fN [.lst (ns.map .int), .int ((n + 1 : Nat) : Int)] (Z (n + 1)) kN eI o) :
    JS (sCons (sSetI (setG n0) (eVar 0) (eLit (.int 1)) (eBin oCat (eIx cf tb (eVar 0) (eLit (.int 1))) (eLit (.int 1)))) (sRet (eBin oMod (eArg bInt (aCons (eCall cf 2 fN (aCons (eIx cf tb (eVar 0) (eLit (.int 0))) (aCons (eArg bInt (aCons (eIx cf tb (eVar 0) (eLit (.int 1))) aNil)) aNil))) aNil)) (eVar 1))))
      ([some w, some (.int many)] : Env) (Z n) (o.bind fun x => (modO x many).bind fun z => some (z, n + 1)) (RTD Z L false eI) := fun v e => by
  obtain ⟨x, e1, e⟩ := bsome e
  obtain ⟨z, e2, e⟩ := bsome e
  cases e
  obtain ⟨⟨i, rfl, h1, h2⟩, hl⟩ := hd
  have v0 : ∀ S, eVar 0 [some (.ref i), some (.int many)] S = .ok (false, .ref i) S := fun S => rfl
  have v1 : ∀ S, eVar 1 [some (.ref i), some (.int many)] S = .ok (false, .int many) S := fun S => rfl
  have i1 : ∀ n, eIx cf tb (eVar 0) (eLit (.int 1)) [some (.ref i), some (.int many)] (Z n) = .ok (false, .int ((n : Nat) : Int)) (Z n) := fun n => ix_at (j := 1) (v0 _) rfl (h1 n) rfl
  have i0 : ∀ n, eIx cf tb (eVar 0) (eLit (.int 0)) [some (.ref i), some (.int many)] (Z n) = .ok (false, .lst (ns.map .int)) (Z n) := fun n => ix_at (j := 0) (v0 _) rfl (h1 n) rfl
  have st : sSetI (setG n0) (eVar 0) (eLit (.int 1)) (eBin oCat (eIx cf tb (eVar 0) (eLit (.int 1))) (eLit (.int 1))) [some (.ref i), some (.int many)] (Z n) = .nx [some (.ref i), some (.int many)] (Z (n + 1)) := by
    refine ssub_val (bin_val (i1 n) rfl (show oCat (.int ((n : Nat) : Int)) (.int 1) (Z n) = some (false, .int (((n : Nat) : Int) + 1)) from rfl)) (v0 _) rfl ?_
    have hg : setG n0 (.ref i) (.int 1) (.int (((n : Nat) : Int) + 1)) (Z n) = setL n0 (.ref i) (.int 1) (.int (((n : Nat) : Int) + 1)) (Z n) := by
      unfold setG
      simp only [h1 n]
    rw [hg]
    unfold setL
    simp only [h1 n]
    show (if mayPut n0 i (.int (((n : Nat) : Int) + 1)) = true then some ((Z n).set i (.lst [.lst (ns.map .int), .int (((n : Nat) : Int) + 1)])) else none) = some (Z (n + 1))
    have hm : mayPut n0 i (.int (((n : Nat) : Int) + 1)) = true := by
      show (Nat.ble n0 i || noref (.int (((n : Nat) : Int) + 1))) = true
      rw [show noref (.int (((n : Nat) : Int) + 1)) = true from rfl, Bool.or_true]
    rw [if_pos hm]
    exact congrArg some (h2 n (n + 1))
  rw [q_scons, st, RS.then_nx, q_sret]
  have hcall : eCall cf 2 fN (aCons (eIx cf tb (eVar 0) (eLit (.int 0))) (aCons (eArg bInt (aCons (eIx cf tb (eVar 0) (eLit (.int 1))) aNil)) aNil)) [some (.ref i), some (.int many)] (Z (n + 1)) = .ok (kN, .int x) (Z (n + 1)) := by
    rw [q_call, args2 (i0 (n + 1)) (arg1_val (i1 (n + 1)) (show bInt [.int ((n + 1 : Nat) : Int)] (Z (n + 1)) = some (false, .int ((n + 1 : Nat) : Int)) from rfl)), R.bind_ok, if_pos (by rfl)]
    exact hN x e1
  obtain ⟨kz, q⟩ := dop_mod (S := Z (n + 1)) e2
  rw [bin_val (arg1_val hcall (show bInt [.int x] (Z (n + 1)) = some (false, .int x) from rfl)) (v1 _) q, PX.R.go_ok]
  exact RD_val hl z (n + 1)
end
end PX
set_option Elab.async false
set_option linter.all false
set_option maxRecDepth 100000
set_option maxHeartbeats 1000000
set_option Elab.async false
set_option linter.all false
set_option maxRecDepth 100000
set_option maxHeartbeats 1000000
set_option Elab.async false
set_option linter.all false
set_option maxRecDepth 100000
set_option maxHeartbeats 1000000
set_option Elab.async false
set_option linter.all false
set_option maxRecDepth 100000
set_option maxHeartbeats 1000000
set_option Elab.async false
set_option linter.all false
set_option maxRecDepth 100000
set_option maxHeartbeats 2000000
set_option Elab.async false
set_option linter.all false
set_option maxRecDepth 100000
set_option maxHeartbeats 2000000
namespace PX
open PySem PySem.Spec PyProof.Rows L2 ZG
structure ZDone3 (H0 H' : Hp) (S : Addr) (xs ys zs : List V) (ts : List Addr) : Prop where
  keep : ∀ c o, H0 c = some o → H' c = some o
  new : H0 S = none
  lst : H' S = some (.lst (ts.map V.ref))
  len : ts.length = min xs.length (min ys.length zs.length)
  tup : ∀ (k : Nat) t, ts[k]? = some t → ∃ x y u, xs[k]? = some x ∧ ys[k]? = some y ∧ zs[k]? = some u ∧ H' t = some (.tup [x, y, u]) ∧ H0 t = none
end PX
set_option Elab.async false
set_option linter.all false
set_option maxRecDepth 100000
set_option maxHeartbeats 1000000
set_option Elab.async false
set_option linter.all false
set_option maxRecDepth 100000
set_option maxHeartbeats 4000000
set_option Elab.async false
set_option linter.all false
set_option maxRecDepth 100000
set_option maxHeartbeats 4000000
set_option Elab.async false
set_option linter.all false
set_option maxRecDepth 100000
set_option maxHeartbeats 4000000
set_option Elab.async false
set_option linter.all false
set_option maxRecDepth 100000
set_option maxHeartbeats 1000000
namespace PX
open PySem
abbrev K2 := Int × Int
def kk (k : K2) : List L2.Key := [.inl k.1, .inl k.2]
end PX
set_option Elab.async false
set_option linter.all false
set_option maxRecDepth 100000
set_option maxHeartbeats 1000000
set_option Elab.async false
set_option linter.all false
set_option maxRecDepth 100000
set_option maxHeartbeats 4000000
set_option Elab.async false
set_option linter.all false
set_option maxRecDepth 100000
set_option maxHeartbeats 1000000
set_option Elab.async false
set_option linter.all false
set_option maxRecDepth 100000
set_option maxHeartbeats 1000000
set_option Elab.async false
set_option linter.all false
set_option maxRecDepth 100000
set_option maxHeartbeats 1000000
set_option Elab.async false
set_option linter.all false
set_option maxRecDepth 100000
set_option maxHeartbeats 1000000
set_option Elab.async false
set_option linter.all false
set_option maxRecDepth 100000
set_option maxHeartbeats 1000000
set_option Elab.async false
set_option linter.all false
set_option maxRecDepth 100000
set_option maxHeartbeats 2000000
namespace PX.K64
open PySem PX
def F34 (script1 : (List Int)) (index2 : Int) : Option Int := (Option.bind (Option.bind (Option.bind (some script1) fun (x4 : (List Int)) => (Option.bind (Option.bind (some ([] : List Int)) fun (x3 : List Int) => smO x3) fun (x5 : (List Int)) => some (!decide (x4 = x5)))) fun (t13 : Bool) => if t13 then (Option.bind (some script1) fun (x7 : (List Int)) => Option.bind (some (none : Option Int)) fun x8 => Option.bind (Option.bind (some (63 : Int)) fun (x6 : Int) => some (some x6)) fun x9 => some (slO x7 x8 x9)) else (Option.bind (Option.bind (some (5 : Int)) fun (x10 : Int) => Option.bind (some ([] : List Int)) fun (x11 : List Int) => some (x10 :: x11)) fun (x12 : List Int) => smO x12)) fun (cells14 : (List Int)) => (Option.bind (Option.bind (Option.bind (some cells14) fun (x19 : (List Int)) => (Option.bind (Option.bind (Option.bind (some index2) fun (x15 : Int) => some x15) fun (x17 : Int) => (Option.bind (Option.bind (some cells14) fun (x16 : (List Int)) => some (x16.length : Int)) fun (x18 : Int) => modO x17 x18)) fun (x20 : Int) => ixO x19 x20)) fun (x26 : Int) => (Option.bind (Option.bind (some (13 : Int)) fun (x24 : Int) => (Option.bind (Option.bind (some index2) fun (x22 : Int) => (Option.bind (Option.bind (some cells14) fun (x21 : (List Int)) => some (x21.length : Int)) fun (x23 : Int) => divO x22 x23)) fun (x25 : Int) => mulO x24 x25)) fun (x27 : Int) => some (x26 + x27))) fun (cell28 : Int) => (Option.bind (Option.bind (Option.bind (some cell28) fun (x29 : Int) => some x29) fun (x30 : Int) => (Option.bind (some (1000003 : Int)) fun (x31 : Int) => modO x30 x31)) fun (low37 : Int) => (Option.bind (Option.bind (Option.bind (Option.bind (some cell28) fun (x32 : Int) => (Option.bind (some (1000003 : Int)) fun (x33 : Int) => divO x32 x33)) fun (x34 : Int) => some x34) fun (x35 : Int) => (Option.bind (some (999983 : Int)) fun (x36 : Int) => modO x35 x36)) fun (high38 : Int) => (Option.bind (Option.bind (Option.bind (Option.bind (some cells14) fun (x39 : (List Int)) => some (List.sum x39)) fun (x40 : Int) => some x40) fun (x41 : Int) => (Option.bind (some (65521 : Int)) fun (x42 : Int) => modO x41 x42)) fun (total43 : Int) => (Option.bind (Option.bind (Option.bind (Option.bind (Option.bind (Option.bind (Option.bind (some low37) fun (x46 : Int) => (Option.bind (Option.bind (some (977 : Int)) fun (x44 : Int) => (Option.bind (some index2) fun (x45 : Int) => mulO x44 x45)) fun (x47 : Int) => some (x46 + x47))) fun (x48 : Int) => (Option.bind (some (48271 : Int)) fun (x49 : Int) => mulO x48 x49)) fun (x52 : Int) => (Option.bind (Option.bind (some (31 : Int)) fun (x50 : Int) => (Option.bind (some high38) fun (x51 : Int) => mulO x50 x51)) fun (x53 : Int) => some (x52 + x53))) fun (x54 : Int) => (Option.bind (some total43) fun (x55 : Int) => some (x54 + x55))) fun (x56 : Int) => some x56) fun (x57 : Int) => (Option.bind (some (2147483647 : Int)) fun (x58 : Int) => modO x57 x58)) fun (blend59 : Int) => (Option.bind (Option.bind (Option.bind (Option.bind (Option.bind (some blend59) fun (x66 : Int) => (Option.bind (Option.bind (Option.bind (some blend59) fun (x62 : Int) => (Option.bind (Option.bind (some (31 : Int)) fun (x60 : Int) => (Option.bind (some index2) fun (x61 : Int) => mulO x60 x61)) fun (x63 : Int) => some (x62 + x63))) fun (x64 : Int) => (Option.bind (some (7 : Int)) fun (x65 : Int) => some (x64 + x65))) fun (x67 : Int) => mulO x66 x67)) fun (x68 : Int) => some x68) fun (x69 : Int) => (Option.bind (some (2147483629 : Int)) fun (x70 : Int) => modO x69 x70)) fun (x71 : Int) => (Option.bind (some (65537 : Int)) fun (x72 : Int) => mulO x71 x72)) fun (x73 : Int) => (Option.bind (some high38) fun (x74 : Int) => some (x73 + x74)))))))))
theorem R34 (m : Nat) (hm : 1 ≤ m) (S : Store) (w0 w1 : PV) (script1 : (List Int)) (index2 : Int) (h0 : Ex (eL eI) w0 script1) (h1 : Ex eI w1 index2) : Cl (callF TT m) 34 [w0, w1] S false eI (F34 script1 index2) := by
  obtain ⟨m', rfl⟩ : ∃ m', m = m' + 1 := ⟨m - 1, by omega⟩
  have h0 : w0 = (eL eI) script1 := h0; subst h0
  have h1 : w1 = eI index2 := h1; subst h1
  refine cl_of (b := b34) ([some ((eL eI) script1), some (eI index2), none, none, none, none, none, none] : Env) rfl rfl rfl ?_
  unfold b34 F34; dsimp only
  exact (S_asg (ea := (eL eI)) (env' := fun cells14 => ([some ((eL eI) script1), some (eI index2), some ((eL eI) cells14), none, none, none, none, none] : Env)) (JK.e (J_ifK (B_bl (JK.e (J_ne (dq_L dq_I) (by omega) (JK.v (JE_var (ea := (eL eI)) (x := script1) rfl) (nr_L _)) (JK.v (J_lst (A_nil (ea := eI))) (nr_L _))))) (J_slL (JK.v (JE_var (ea := (eL eI)) (x := script1) rfl) (nr_L _)) O_no (O_so (JK.e (JE_lit (ea := eI) (x := (63)) rfl)))) (J_lst (A_cons (JK.e (JE_lit (ea := eI) (x := (5)) rfl)) (A_nil (ea := eI)))))) (fun _ => rfl) fun cells14 => (S_asg (ea := eI) (env' := fun cell28 => ([some ((eL eI) script1), some (eI index2), some ((eL eI) cells14), some (eI cell28), none, none, none, none] : Env)) (JK.e (J_add (JK.e (J_ixL (JK.v (JE_var (ea := (eL eI)) (x := cells14) rfl) (nr_L _)) (JK.e (J_mod (JK.e (J_int (JK.e (JE_var (ea := eI) (x := index2) rfl)))) (JK.e (J_lenL (JK.v (JE_var (ea := (eL eI)) (x := cells14) rfl) (nr_L _)))))))) (JK.e (J_mul (JK.e (JE_lit (ea := eI) (x := (13)) rfl)) (JK.e (J_div (JK.e (JE_var (ea := eI) (x := index2) rfl)) (JK.e (J_lenL (JK.v (JE_var (ea := (eL eI)) (x := cells14) rfl) (nr_L _)))))))))) (fun _ => rfl) fun cell28 => (S_par2 (env' := fun low37 high38 => ([some ((eL eI) script1), some (eI index2), some ((eL eI) cells14), some (eI cell28), some (eI low37), some (eI high38), none, none] : Env)) (JK.e (J_mod (JK.e (J_int (JK.e (JE_var (ea := eI) (x := cell28) rfl)))) (JK.e (JE_lit (ea := eI) (x := (1000003)) rfl)))) (JK.e (J_mod (JK.e (J_int (JK.e (J_div (JK.e (JE_var (ea := eI) (x := cell28) rfl)) (JK.e (JE_lit (ea := eI) (x := (1000003)) rfl)))))) (JK.e (JE_lit (ea := eI) (x := (999983)) rfl)))) (fun _ _ => rfl) fun low37 high38 => (S_asg (ea := eI) (env' := fun total43 => ([some ((eL eI) script1), some (eI index2), some ((eL eI) cells14), some (eI cell28), some (eI low37), some (eI high38), some (eI total43), none] : Env)) (JK.e (J_mod (JK.e (J_int (JK.e (J_sum (JG.sqL (JK.v (JE_var (ea := (eL eI)) (x := cells14) rfl) (nr_L _))))))) (JK.e (JE_lit (ea := eI) (x := (65521)) rfl)))) (fun _ => rfl) fun total43 => (S_asg (ea := eI) (env' := fun blend59 => ([some ((eL eI) script1), some (eI index2), some ((eL eI) cells14), some (eI cell28), some (eI low37), some (eI high38), some (eI total43), some (eI blend59)] : Env)) (JK.e (J_mod (JK.e (J_int (JK.e (J_add (JK.e (J_add (JK.e (J_mul (JK.e (J_add (JK.e (JE_var (ea := eI) (x := low37) rfl)) (JK.e (J_mul (JK.e (JE_lit (ea := eI) (x := (977)) rfl)) (JK.e (JE_var (ea := eI) (x := index2) rfl)))))) (JK.e (JE_lit (ea := eI) (x := (48271)) rfl)))) (JK.e (J_mul (JK.e (JE_lit (ea := eI) (x := (31)) rfl)) (JK.e (JE_var (ea := eI) (x := high38) rfl)))))) (JK.e (JE_var (ea := eI) (x := total43) rfl)))))) (JK.e (JE_lit (ea := eI) (x := (2147483647)) rfl)))) (fun _ => rfl) fun blend59 => (S_ret (JK.e (J_add (JK.e (J_mul (JK.e (J_mod (JK.e (J_int (JK.e (J_mul (JK.e (JE_var (ea := eI) (x := blend59) rfl)) (JK.e (J_add (JK.e (J_add (JK.e (JE_var (ea := eI) (x := blend59) rfl)) (JK.e (J_mul (JK.e (JE_lit (ea := eI) (x := (31)) rfl)) (JK.e (JE_var (ea := eI) (x := index2) rfl)))))) (JK.e (JE_lit (ea := eI) (x := (7)) rfl)))))))) (JK.e (JE_lit (ea := eI) (x := (2147483629)) rfl)))) (JK.e (JE_lit (ea := eI) (x := (65537)) rfl)))) (JK.e (JE_var (ea := eI) (x := high38) rfl)))) fun x => (RT_val x)))))))
def F35 (ns : List Int) (many1 : Int) (n : Nat) : Option (Int × Nat) := (Option.bind (F34 ns ((n + 1 : Nat) : Int)) fun (x2 : Int) => Option.bind (modO x2 many1) fun (z3 : Int) => some (z3, n + 1))
theorem RD35 (m : Nat) (hm : 2 ≤ m) (ns : List Int) (Z : Nat → Store) (L : Nat) (wd : PV) (hd : Dr ns Z L wd) (n : Nat) (many1 : Int) : ClD (callF TT m) 35 [wd, eI many1] Z n false eI (F35 ns many1 n) := by
  obtain ⟨m', rfl⟩ : ∃ m', m = m' + 1 := ⟨m - 1, by omega⟩
  refine clD_of (b := b35) ([some wd, some (eI many1)] : Env) rfl rfl rfl hd.len ?_
  unfold b35 F35; dsimp only
  exact (take_okD hd rfl (R34 m' (by omega) (Z (n + 1)) _ _ ns _ rfl rfl))
end PX.K64
set_option linter.all false
set_option maxRecDepth 100000
namespace PX.BM
def inn (f q : Int) : Int → List Int → Int
  | _, [] => 0
  | off, x :: xs => (if f ≤ off ∧ off < q then x else 0) + inn f q (off + 1) xs
def ins (f q off n : Int) : Int := max 0 (min q (off + n) - max f off)
def lo (t p many inside : Int) : Int := max 0 (t - p * (many - inside))
def hi (t p inside : Int) : Int := min t (p * inside)
end PX.BM
set_option linter.all false
set_option maxRecDepth 100000
set_option maxHeartbeats 1000000
namespace PX.U
open PySem PX
theorem smO_ok {α : Type} (l : List α) (h : l.length ≤ 100000) : smO l = some l := by
  unfold smO
  have e : small l.length = true := Nat.ble_eq_true_of_le (by omega)
  rw [if_pos e]
theorem modO_ok {x y : Int} (h : 0 < y) : modO x y = some (x % y) := by
  unfold modO
  rw [if_pos h]
theorem divO_ok {x y : Int} (h : 0 < y) (h2 : y < 1073741824) : divO x y = some (x / y) := by
  unfold divO
  rw [if_pos ⟨h, h2⟩]
theorem mulO_l {x y : Int} (h : -18446744073709551616 < x) (h2 : x < 18446744073709551616) : mulO x y = some (x * y) := by
  unfold mulO
  rw [if_pos]
  unfold mulOk
  simp only [Bool.or_eq_true, Bool.and_eq_true, decide_eq_true_eq]
  exact .inl ⟨h, h2⟩
theorem mulO_r {x y : Int} (h : -18446744073709551616 < y) (h2 : y < 18446744073709551616) : mulO x y = some (x * y) := by
  unfold mulO
  rw [if_pos]
  unfold mulOk
  simp only [Bool.or_eq_true, Bool.and_eq_true, decide_eq_true_eq]
  exact .inr ⟨h, h2⟩
theorem ixO_at {α : Type} {l : List α} {i : Int} (h0 : 0 ≤ i) (h1 : i < l.length) : ∃ x ∈ l, ixO l i = some x := by
  have hn : i.toNat < l.length := by omega
  refine ⟨l[i.toNat], List.getElem_mem hn, ?_⟩
  unfold ixO
  have : ixP l.length i = some i.toNat := by
    unfold ixP
    rw [if_pos h0, if_pos h1]
  rw [this]
  show l[i.toNat]? = _
  rw [List.getElem?_eq_getElem hn]
def cells (ns : List Int) : List Int := if ns = [] then [5] else slO ns none (some 63)
theorem cells_ne (ns : List Int) : 0 < (cells ns).length := by
  unfold cells
  by_cases h : ns = []
  · rw [if_pos h]; decide
  · rw [if_neg h]
    unfold slO
    have hl : 0 < ns.length := List.length_pos_iff.mpr h
    have e1 : sIxP ns.length 0 none = 0 := rfl
    rw [e1, List.drop_zero, List.length_take]
    have e2 : 0 < sIxP ns.length ns.length (some 63) := by
      simp only [sIxP]
      first | omega | (split <;> omega)
    omega
theorem cells_le (ns : List Int) (h : ns.length ≤ 63) : (cells ns).length ≤ 63 := by
  unfold cells
  by_cases q : ns = []
  · rw [if_pos q]; decide
  · rw [if_neg q]
    unfold slO
    rw [List.length_take, List.length_drop]
    omega
end PX.U
set_option linter.all false
set_option maxRecDepth 100000
set_option maxHeartbeats 1000000
namespace PX.K64
open PySem PX PX.U
theorem num_ok (ns : List Int) (h : ns.length ≤ 63) (i : Int) (hi : 0 ≤ i) : ∃ x, F34 ns i = some x := by
  have hc : (Option.bind (Option.bind (Option.bind (some ns) fun (x4 : (List Int)) => (Option.bind (Option.bind (some ([] : List Int)) fun (x3 : List Int) => smO x3) fun (x5 : (List Int)) => some (!decide (x4 = x5)))) fun (t13 : Bool) => if t13 then (Option.bind (some ns) fun (x7 : (List Int)) => Option.bind (some (none : Option Int)) fun x8 => Option.bind (Option.bind (some (63 : Int)) fun (x6 : Int) => some (some x6)) fun x9 => some (slO x7 x8 x9)) else (Option.bind (Option.bind (some (5 : Int)) fun (x10 : Int) => Option.bind (some ([] : List Int)) fun (x11 : List Int) => some (x10 :: x11)) fun (x12 : List Int) => smO x12)) fun (c : List Int) => some c) = some (cells ns) := by
    simp only [bS, smO_ok ([] : List Int) (by decide), smO_ok [(5 : Int)] (by decide)]
    unfold cells
    by_cases q : ns = []
    · simp [q, bS]
    · simp [q, bS]
  have hp := cells_ne ns
  have hl := cells_le ns h
  unfold F34
  have hb : ∀ {β : Type} (o : Option (List Int)) (f : List Int → Option β), (o.bind fun c => some c) = some (cells ns) → o.bind f = f (cells ns) := fun o f e => by
    cases o with
    | none => cases e
    | some c => cases e; rfl
  rw [hb _ _ hc]
  obtain ⟨c, _, hx⟩ := ixO_at (l := cells ns) (i := i % ((cells ns).length : Int)) (Int.emod_nonneg _ (by omega)) (Int.emod_lt_of_pos _ (by omega))
  have m1 : modO i ((cells ns).length : Int) = some (i % ((cells ns).length : Int)) := modO_ok (by omega)
  have m2 : divO i ((cells ns).length : Int) = some (i / ((cells ns).length : Int)) := divO_ok (by omega) (by omega)
  simp only [bS, m1, hx, m2, mulO_l (x := 13) (by decide) (by decide), modO_ok (y := 1000003) (by decide), divO_ok (y := 1000003) (by decide) (by decide), modO_ok (y := 999983) (by decide), modO_ok (y := 65521) (by decide),
    mulO_l (x := 977) (by decide) (by decide), mulO_r (y := 48271) (by decide) (by decide), mulO_l (x := 31) (by decide) (by decide), modO_ok (y := 2147483647) (by decide), modO_ok (y := 2147483629) (by decide), mulO_r (y := 65537) (by decide) (by decide)]
  rw [mulO_l (x := _ % 2147483647)]
  · simp only [bS, modO_ok (y := 2147483629) (by decide), mulO_r (y := 65537) (by decide) (by decide)]
    exact ⟨_, rfl⟩
  · have := Int.emod_nonneg ((((c + 13 * (i / ↑(cells ns).length)) % 1000003 + 977 * i) * 48271 + 31 * ((c + 13 * (i / ↑(cells ns).length)) / 1000003 % 999983) + (cells ns).sum % 65521)) (show (2147483647 : Int) ≠ 0 by decide)
    omega
  · omega
theorem take_ok (ns : List Int) (h : ns.length ≤ 63) (many : Int) (hm : 0 < many) (n : Nat) : ∃ z, 0 ≤ z ∧ z < many ∧ F35 ns many n = some (z, n + 1) := by
  obtain ⟨x, e⟩ := num_ok ns h ((n + 1 : Nat) : Int) (by omega)
  refine ⟨x % many, Int.emod_nonneg _ (by omega), Int.emod_lt_of_pos _ hm, ?_⟩
  unfold F35
  rw [e]
  simp only [bS, modO_ok hm]
end PX.K64
set_option linter.all false
set_option maxRecDepth 100000
set_option maxHeartbeats 1000000
namespace PX.K64
open PySem PX PX.U
theorem take_v (ns : List Int) (h : ns.length ≤ 63) (m : Nat) (hm : 2 ≤ m) (many : Int) (h0 : 0 < many) (n : Nat) : ∃ z : Nat, (z : Int) < many ∧ callV (callF TT m) 35 [.ref 0, .int many] (ZL ns n) = .ok (false, .int z) (ZL ns (n + 1)) := by
  obtain ⟨z, z0, z1, e⟩ := take_ok ns h many h0 n
  refine ⟨z.toNat, by omega, ?_⟩
  rw [Int.toNat_of_nonneg z0]
  exact RD35 m hm ns (ZL ns) 1 (.ref 0) (Dr.one ns) n many z (n + 1) e
theorem pick_v (ns : List Int) (h : ns.length ≤ 63) (m : Nat) (hm : 2 ≤ m) (xs : List PV) (h0 : 0 < xs.length) (h1 : xs.length ≤ 1000) (n : Nat) : ∃ v ∈ xs, callF TT (m + 1) 36 [.ref 0, .lst xs] 1 (ZL ns n) = .ok v (ZL ns (n + 1)) := by
  obtain ⟨z, hz, e⟩ := take_v ns h m hm (xs.length : Int) (by omega) n
  have hz : z < xs.length := by omega
  refine ⟨xs[z], List.getElem_mem hz, ?_⟩
  rw [call_at (b := b36) [some (.ref 0), some (.lst xs)] rfl rfl rfl]
  unfold b36
  dsimp only
  have el : eLenG (callF TT m) [(0, 3)] (eVar 1) [some (.ref 0), some (.lst xs)] (ZL ns n) = .ok (false, .int xs.length) (ZL ns n) := by
    rfl
  have ec : eCall (callF TT m) 2 35 (aCons (eVar 0) (aCons (eLenG (callF TT m) [(0, 3)] (eVar 1)) aNil)) [some (.ref 0), some (.lst xs)] (ZL ns n) = .ok (false, .int z) (ZL ns (n + 1)) := by
    rw [q_call, q_cons, show eVar 0 [some (.ref 0), some (.lst xs)] (ZL ns n) = .ok (false, .ref 0) (ZL ns n) from rfl, R.bind_ok, q_cons, el, R.bind_ok, q_nil, R.bind_ok, R.bind_ok, R.bind_ok, if_pos (by rfl)]
    exact e
  have ei : oIx (.lst xs) (.int z) (ZL ns (n + 1)) = some (false, xs[z]) := by
    unfold oIx
    show (match ixP xs.length (z : Int) with
      | some j => match xs[j]? with
        | some v => some (false, v)
        | none => none
      | none => none) = _
    have : ixP xs.length (z : Int) = some z := by
      unfold ixP
      rw [if_pos (by omega), if_pos (by omega), Int.toNat_natCast]
    rw [this]
    simp only [List.getElem?_eq_getElem hz]
  have e9 : eIx (callF TT m) [(0, 4)] (eVar 1) (eCall (callF TT m) 2 35 (aCons (eVar 0) (aCons (eLenG (callF TT m) [(0, 3)] (eVar 1)) aNil))) [some (.ref 0), some (.lst xs)] (ZL ns n) = .ok (false, xs[z]) (ZL ns (n + 1)) := by
    unfold eIx
    rw [show eVar 1 [some (.ref 0), some (.lst xs)] (ZL ns n) = .ok (false, .lst xs) (ZL ns n) from rfl, R.bind_ok, ec, R.bind_ok]
    show ofO (oIx (.lst xs) (.int z) (ZL ns (n + 1))) (ZL ns (n + 1)) = _
    rw [ei]
    rfl
  unfold sRet
  rw [e9]
  rfl
end PX.K64
set_option Elab.async false
set_option linter.all false
set_option maxRecDepth 100000
set_option maxHeartbeats 4000000
namespace PX.K64
open PySem PX
noncomputable def s1 (cf : CF) : SS := (sAsg (gTp [(gNm 1), (gNm 2)]) (eTup (aCons (eCall cf 2 36 (aCons (eVar 0) (aCons (eLst (aCons (eLit (.int 1)) (aCons (eLit (.int 4)) (aCons (eLit (.int 20)) (aCons (eLit (.int 21)) (aCons (eLit (.int 0)) (aCons (eLit (.bl true)) (aCons (eLit .non) aNil)))))))) aNil))) (aCons (eCall cf 2 36 (aCons (eVar 0) (aCons (eLst (aCons (eLit (.int 1)) (aCons (eLit (.int 2)) (aCons (eLit (.int 5)) (aCons (eLit (.int 12)) (aCons (eLit (.int 13)) (aCons (eLit (.int 0)) (aCons (eLit (.bl true)) (aCons (eLit (.str "5")) aNil))))))))) aNil))) aNil))))
noncomputable def s2 (cf : CF) : SS := (sAsg (gNm 3) (eCall cf 1 39 (aCons (eLst (aCons (eCall cf 2 40 (aCons (eCall cf 3 37 (aCons (eVar 1) (aCons (eLit (.int 1)) (aCons (eLit (.int 20)) aNil)))) (aCons (eLit (.str "number")) aNil))) (aCons (eCall cf 2 40 (aCons (eCall cf 3 37 (aCons (eVar 2) (aCons (eLit (.int 1)) (aCons (eLit (.int 12)) aNil)))) (aCons (eLit (.str "number")) aNil))) aNil))) aNil)))
noncomputable def s3 (cf : CF) : SS := (sAsg (gNm 4) (eIf (tBl (eEqQ cf [(0, 2), (1, 18), (2, 28)] [.non, .bl, .int, .str, .tup, .lst, .dct, .own 0, .own 1, .own 2] (eVar 3) (eLit (.str "none")))) (eBin oRep (eVar 1) (eBin oSub (eVar 2) (eLit (.int 1)))) (eLit (.int 0))))
noncomputable def s4 (cf : CF) : SS := (sAsg (gNm 5) (eCall cf 2 36 (aCons (eVar 0) (aCons (eLst (aCons (eLit (.int 0)) (aCons (eVar 4) (aCons (eBin oCat (eVar 4) (eLit (.int 1))) (aCons (eUn oNeg (eLit (.int 1))) (aCons (eLit (.bl true)) (aCons (eLit .non) (aCons (eBin oDiv (eVar 4) (eLit (.int 2))) aNil)))))))) aNil))))
noncomputable def s5 (cf : CF) : SS := (sAsg (gNm 6) (eCall cf 1 39 (aCons (eLst (aCons (eVar 3) (aCons (eCall cf 2 40 (aCons (eOr (eNeQ cf [(0, 2), (1, 18), (2, 28)] [.non, .bl, .int, .str, .tup, .lst, .dct, .own 0, .own 1, .own 2] (eVar 3) (eLit (.str "none"))) (eCall cf 3 37 (aCons (eVar 5) (aCons (eLit (.int 0)) (aCons (eVar 4) aNil))))) (aCons (eLit (.str "sum")) aNil))) aNil))) aNil)))
noncomputable def s6 (cf : CF) : SS := (sAsg (gTp [(gNm 7), (gNm 8)]) (eTup (aCons (eCall cf 2 36 (aCons (eVar 0) (aCons (eLst (aCons (eLit (.int 0)) (aCons (eLit (.int 1)) (aCons (eLit (.int 2)) (aCons (eLit (.int 4)) (aCons (eLit (.int 11)) (aCons (eLit (.int 12)) (aCons (eLit .non) (aCons (eLit (.bl true)) aNil))))))))) aNil))) (aCons (eCall cf 2 36 (aCons (eVar 0) (aCons (eLst (aCons (eLit (.int 0)) (aCons (eLit (.int 1)) (aCons (eLit (.int 3)) (aCons (eLit (.int 19)) (aCons (eLit (.int 20)) (aCons (eUn oNeg (eLit (.int 1))) (aCons (eLit (.bl true)) (aCons (eLit .non) aNil))))))))) aNil))) aNil))))
noncomputable def s7 (cf : CF) : SS := (sAsg (gNm 9) (eCall cf 1 39 (aCons (eLst (aCons (eVar 6) (aCons (eCall cf 2 40 (aCons (eOr (eNeQ cf [(0, 2), (1, 18), (2, 28)] [.non, .bl, .int, .str, .tup, .lst, .dct, .own 0, .own 1, .own 2] (eVar 6) (eLit (.str "none"))) (eCall cf 3 37 (aCons (eVar 7) (aCons (eLit (.int 1)) (aCons (eBin oSub (eVar 2) (eLit (.int 1))) aNil))))) (aCons (eLit (.str "value")) aNil))) aNil))) aNil)))
noncomputable def r1 (cf : CF) : SS := (sIf (tWords wt38 "none" cmpNe selAny [(eCall cf 4 22 (nxA (aCons (eVar 1) (aCons (eVar 2) (aCons (eVar 5) (aCons (eVar 7) aNil)))))), (eCall cf 4 23 (nxA (aCons (eVar 1) (aCons (eVar 2) (aCons (eVar 5) (aCons (eVar 7) aNil)))))), (eMeth cf 5 10 [(1, 19), (2, 29)] (nxE (eMake cf 3 1 17 (aCons (eTup aNil) (aCons (eTup aNil) aNil)))) (nxA (aCons (eVar 1) (aCons (eVar 2) (aCons (eVar 5) (aCons (eVar 7) aNil))))))] 9 11) (sRet (eLit (.bl false))) sNil)
noncomputable def r2 (cf : CF) : SS := (sAsg (gNm 9) (eCall cf 1 39 (aCons (eLst (aCons (eVar 6) (aCons (eCall cf 2 40 (aCons (eOr (eNeQ cf [(0, 2), (1, 18), (2, 28)] [.non, .bl, .int, .str, .tup, .lst, .dct, .own 0, .own 1, .own 2] (eVar 6) (eLit (.str "none"))) (eCall cf 3 37 (aCons (eVar 8) (aCons (eLit (.int 0)) (aCons (eBin oSub (eVar 1) (eLit (.int 1))) aNil))))) (aCons (eLit (.str "number")) aNil))) aNil))) aNil)))
noncomputable def r3 (cf : CF) : SS := (sRet (eEqQ cf [(0, 2), (1, 18), (2, 28)] [.non, .bl, .int, .str, .tup, .lst, .dct, .own 0, .own 1, .own 2] (eWord (eCall cf 4 24 (nxA (aCons (eVar 1) (aCons (eVar 2) (aCons (eVar 5) (aCons (eVar 8) aNil)))))) wt38 "none") (eVar 9)))
theorem b41_eq (cf : CF) (n0 : Nat) : b41.body cf n0 = sCons (s1 cf) (sCons (s2 cf) (sCons (s3 cf) (sCons (s4 cf) (sCons (s5 cf) (sCons (s6 cf) (sCons (s7 cf) (sLams 10 (sCons (r1 cf) (sCons (r2 cf) (r3 cf)))))))))) := rfl
abbrev L1 : List PV := [.int 1, .int 4, .int 20, .int 21, .int 0, .bl true, .non]
abbrev L2 : List PV := [.int 1, .int 2, .int 5, .int 12, .int 13, .int 0, .bl true, .str "5"]
abbrev L4 : List PV := [.int 0, .int 1, .int 2, .int 4, .int 11, .int 12, .non, .bl true]
abbrev L5 : List PV := [.int 0, .int 1, .int 3, .int 19, .int 20, .int (-1), .bl true, .non]
abbrev tot (t : Int) : List PV := [.int 0, .int t, .int (t + 1), .int (-1), .bl true, .non, .int (t / 2)]
def nk (v : PV) (lo hi : Int) : Bool := match v with
  | .int i => decide (lo ≤ i) && decide (i ≤ hi)
  | _ => false
def f1 (r w : PV) : Bool := nk r 1 20 && nk w 1 12
def t1 (r w : PV) : Int := match r, w with
  | .int i, .int j => if f1 r w then i * (j - 1) else 0
  | _, _ => 0
noncomputable abbrev CC : CF := callF TT 43
abbrev e1 (r w : PV) : Env := [some (.ref 0), some r, some w, none, none, none, none, none, none, none, none, none]
abbrev e2 (r w : PV) : Env := (e1 r w).set 3 (some (.str (if f1 r w then "none" else "number")))
abbrev e3 (r w : PV) : Env := (e2 r w).set 4 (some (.int (t1 r w)))
theorem st2 (x : PV) : (L1.map fun r => L2.map fun w => s2 CC (e1 r w) [x]) = L1.map fun r => L2.map fun w => .nx (e2 r w) [x] := by kernel_rfl
theorem st3 (x : PV) : (L1.map fun r => L2.map fun w => s3 CC (e2 r w) [x]) = L1.map fun r => L2.map fun w => .nx (e3 r w) [x] := by kernel_rfl
def dq1 (r w t : PV) : Str := if f1 r w then (if nk t 0 (t1 r w) then "none" else "sum") else "number"
abbrev e4 (r w t : PV) : Env := (e3 r w).set 5 (some t)
abbrev e5 (r w t : PV) : Env := (e4 r w t).set 6 (some (.str (dq1 r w t)))
theorem st5 (x : PV) : (L1.map fun r => L2.map fun w => (tot (t1 r w)).map fun t => s5 CC (e4 r w t) [x]) = L1.map fun r => L2.map fun w => (tot (t1 r w)).map fun t => .nx (e5 r w t) [x] := by kernel_rfl
abbrev e7 (r w t v k : PV) : Env := ((e5 r w t).set 7 (some v)).set 8 (some k)
def wd (w : PV) : Int := match w with
  | .int j => j
  | _ => 0
def rw_ (r : PV) : Int := match r with
  | .int j => j
  | _ => 0
def a1 (r w t v : PV) : Str := if dq1 r w t = "none" then (if nk v 1 (wd w - 1) then "none" else "value") else dq1 r w t
def a2 (r w t k : PV) : Str := if dq1 r w t = "none" then (if nk k 0 (rw_ r - 1) then "none" else "number") else dq1 r w t
abbrev e8 (r w t v k s : PV) : Env := (e7 r w t v k).set 9 (some s)
end PX.K64
set_option Elab.async false
set_option linter.all false
set_option maxRecDepth 100000
set_option maxHeartbeats 4000000
namespace PX.K64
open PySem PX
theorem st7 (x k : PV) : (L1.map fun r => L2.map fun w => (tot (t1 r w)).map fun t => L4.map fun v => s7 CC (e7 r w t v k) [x]) = L1.map fun r => L2.map fun w => (tot (t1 r w)).map fun t => L4.map fun v => .nx (e8 r w t v k (.str (a1 r w t v))) [x] := by kernel_rfl
end PX.K64
set_option Elab.async false
set_option linter.all false
set_option maxRecDepth 100000
set_option maxHeartbeats 4000000
namespace PX.K64
open PySem PX
theorem sr1 (x k : PV) : (L1.map fun r => L2.map fun w => (tot (t1 r w)).map fun t => L4.map fun v => r1 CC (e8 r w t v k (.str (a1 r w t v))) [x]) = L1.map fun r => L2.map fun w => (tot (t1 r w)).map fun t => L4.map fun v => .nx (e8 r w t v k (.str (a1 r w t v))) [x] := by kernel_rfl
end PX.K64
set_option Elab.async false
set_option linter.all false
set_option maxRecDepth 100000
set_option maxHeartbeats 4000000
namespace PX.K64
open PySem PX
theorem sr2 (x v s : PV) : (L1.map fun r => L2.map fun w => (tot (t1 r w)).map fun t => L5.map fun k => r2 CC (e8 r w t v k s) [x]) = L1.map fun r => L2.map fun w => (tot (t1 r w)).map fun t => L5.map fun k => .nx (e8 r w t v k (.str (a2 r w t k))) [x] := by kernel_rfl
theorem sr3 (x v : PV) : (L1.map fun r => L2.map fun w => (tot (t1 r w)).map fun t => L5.map fun k => r3 CC (e8 r w t v k (.str (a2 r w t k))) [x]) = L1.map fun r => L2.map fun w => (tot (t1 r w)).map fun t => L5.map fun k => .rt (.bl true) [x] := by kernel_rfl
end PX.K64
set_option Elab.async false
set_option linter.all false
set_option maxRecDepth 100000
set_option maxHeartbeats 4000000
namespace PX.K64
open PySem PX
theorem pk (ns : List Int) (h : ns.length ≤ 63) (n : Nat) (xs : List PV) (h0 : 0 < xs.length) (h1 : xs.length ≤ 1000) {e : SE} {env : Env} {k : Bool} (hv : eVar 0 env (ZL ns n) = .ok (false, .ref 0) (ZL ns n)) (he : e env (ZL ns n) = .ok (k, .lst xs) (ZL ns n)) : ∃ v ∈ xs, eCall CC 2 36 (aCons (eVar 0) (aCons e aNil)) env (ZL ns n) = .ok (false, v) (ZL ns (n + 1)) := by
  obtain ⟨v, hm, e0⟩ := pick_v ns h 42 (by decide) xs h0 h1 n
  refine ⟨v, hm, ?_⟩
  rw [q_call, q_cons, hv, R.bind_ok, q_cons, he, R.bind_ok, q_nil, R.bind_ok, R.bind_ok, R.bind_ok, if_pos (by rfl)]
  have e0 : CC 36 [.ref 0, .lst xs] 1 (ZL ns n) = .ok v (ZL ns (n + 1)) := e0
  show (cutX 1 (CC 36 [.ref 0, .lst xs] 1 (ZL ns n))).bind _ = _
  rw [e0]
  rfl
theorem tup2 {a b : SE} {env : Env} {S S1 S2 : Store} {j k : Bool} {v w : PV} (ha : a env S = .ok (j, v) S1) (hb : b env S1 = .ok (k, w) S2) : eTup (aCons a (aCons b aNil)) env S = .ok (false, .tup [v, w]) S2 := by
  rw [q_tup, q_cons, ha, R.bind_ok, q_cons, hb, R.bind_ok, q_nil, R.bind_ok, R.bind_ok, R.bind_ok]
  rfl
theorem asg2 {i j : Nat} {a : SE} {env : Env} {S S1 : Store} {k : Bool} {v w : PV} (ha : a env S = .ok (k, .tup [v, w]) S1) : sAsg (gTp [gNm i, gNm j]) a env S = .nx ((env.set i (some v)).set j (some w)) S1 := by
  unfold sAsg
  rw [ha]
  rfl
theorem asg1 {i : Nat} {a : SE} {env : Env} {S S1 : Store} {k : Bool} {v : PV} (ha : a env S = .ok (k, v) S1) : sAsg (gNm i) a env S = .nx (env.set i (some v)) S1 := by
  unfold sAsg
  rw [ha]
  rfl
theorem at2 {f g : PV → PV → RS} {A B : List PV} (h : (A.map fun r => B.map fun w => f r w) = A.map fun r => B.map fun w => g r w) {r w : PV} (hr : r ∈ A) (hw : w ∈ B) : f r w = g r w :=
  List.map_inj_left.mp (List.map_inj_left.mp h r hr) w hw
theorem at3 {f g : PV → PV → PV → RS} {A B : List PV} {C : PV → PV → List PV} (h : (A.map fun r => B.map fun w => (C r w).map fun t => f r w t) = A.map fun r => B.map fun w => (C r w).map fun t => g r w t) {r w t : PV} (hr : r ∈ A) (hw : w ∈ B) (ht : t ∈ C r w) : f r w t = g r w t :=
  List.map_inj_left.mp (List.map_inj_left.mp (List.map_inj_left.mp h r hr) w hw) t ht
theorem at4 {f g : PV → PV → PV → PV → RS} {A B D : List PV} {C : PV → PV → List PV} (h : (A.map fun r => B.map fun w => (C r w).map fun t => D.map fun v => f r w t v) = A.map fun r => B.map fun w => (C r w).map fun t => D.map fun v => g r w t v) {r w t v : PV} (hr : r ∈ A) (hw : w ∈ B) (ht : t ∈ C r w) (hv : v ∈ D) : f r w t v = g r w t v :=
  List.map_inj_left.mp (List.map_inj_left.mp (List.map_inj_left.mp (List.map_inj_left.mp h r hr) w hw) t ht) v hv
noncomputable abbrev x1 : SE := (eLst (aCons (eLit (.int 1)) (aCons (eLit (.int 4)) (aCons (eLit (.int 20)) (aCons (eLit (.int 21)) (aCons (eLit (.int 0)) (aCons (eLit (.bl true)) (aCons (eLit .non) aNil))))))))
noncomputable abbrev x2 : SE := (eLst (aCons (eLit (.int 1)) (aCons (eLit (.int 2)) (aCons (eLit (.int 5)) (aCons (eLit (.int 12)) (aCons (eLit (.int 13)) (aCons (eLit (.int 0)) (aCons (eLit (.bl true)) (aCons (eLit (.str "5")) aNil)))))))))
noncomputable abbrev x4 : SE := (eLst (aCons (eLit (.int 0)) (aCons (eVar 4) (aCons (eBin oCat (eVar 4) (eLit (.int 1))) (aCons (eUn oNeg (eLit (.int 1))) (aCons (eLit (.bl true)) (aCons (eLit .non) (aCons (eBin oDiv (eVar 4) (eLit (.int 2))) aNil))))))))
noncomputable abbrev x5 : SE := (eLst (aCons (eLit (.int 0)) (aCons (eLit (.int 1)) (aCons (eLit (.int 2)) (aCons (eLit (.int 4)) (aCons (eLit (.int 11)) (aCons (eLit (.int 12)) (aCons (eLit .non) (aCons (eLit (.bl true)) aNil)))))))))
noncomputable abbrev x6 : SE := (eLst (aCons (eLit (.int 0)) (aCons (eLit (.int 1)) (aCons (eLit (.int 3)) (aCons (eLit (.int 19)) (aCons (eLit (.int 20)) (aCons (eUn oNeg (eLit (.int 1))) (aCons (eLit (.bl true)) (aCons (eLit .non) aNil)))))))))
theorem sx4 (x : PV) : (L1.map fun r => L2.map fun w => x4 (e3 r w) [x]) = L1.map fun r => L2.map fun w => .ok (true, .lst (tot (t1 r w))) [x] := by kernel_rfl
theorem q41 (ns : List Int) (h : ns.length ≤ 63) (n : Nat) : callF TT 44 41 [.ref 0] 1 (ZL ns n) = .ok (.bl true) (ZL ns (n + 5)) := by
  rw [call_at (b := b41) [some (.ref 0), none, none, none, none, none, none, none, none, none, none, none] rfl rfl rfl, b41_eq]
  generalize he0 : ([some (.ref 0), none, none, none, none, none, none, none, none, none, none, none] : Env) = env0
  obtain ⟨r, hr, p1⟩ := pk ns h n L1 (by decide) (by decide) (e := x1) (env := env0) (k := true) (by subst he0; rfl) (by subst he0; rfl)
  obtain ⟨w, hw, p2⟩ := pk ns h (n + 1) L2 (by decide) (by decide) (e := x2) (env := env0) (k := true) (by subst he0; rfl) (by subst he0; rfl)
  have c1 : s1 CC env0 (ZL ns n) = .nx (e1 r w) (ZL ns (n + 2)) := by
    unfold s1
    rw [asg2 (tup2 p1 p2)]
    subst he0
    rfl
  have c2 : s2 CC (e1 r w) (ZL ns (n + 2)) = .nx (e2 r w) (ZL ns (n + 2)) := at2 (st2 (DD ns (n + 2))) hr hw
  have c3 : s3 CC (e2 r w) (ZL ns (n + 2)) = .nx (e3 r w) (ZL ns (n + 2)) := at2 (st3 (DD ns (n + 2))) hr hw
  have cx : x4 (e3 r w) (ZL ns (n + 2)) = .ok (true, .lst (tot (t1 r w))) (ZL ns (n + 2)) :=
    List.map_inj_left.mp (List.map_inj_left.mp (sx4 (DD ns (n + 2))) r hr) w hw
  obtain ⟨t, ht, p3⟩ := pk ns h (n + 2) (tot (t1 r w)) (Nat.zero_lt_succ _) (show 7 ≤ 1000 by decide) (e := x4) (env := e3 r w) (k := true) rfl cx
  have c4 : s4 CC (e3 r w) (ZL ns (n + 2)) = .nx (e4 r w t) (ZL ns (n + 3)) := by
    unfold s4
    exact asg1 p3
  have c5 : s5 CC (e4 r w t) (ZL ns (n + 3)) = .nx (e5 r w t) (ZL ns (n + 3)) := at3 (C := fun r w => tot (t1 r w)) (st5 (DD ns (n + 3))) hr hw ht
  obtain ⟨v, hv, p4⟩ := pk ns h (n + 3) L4 (by decide) (by decide) (e := x5) (env := e5 r w t) (k := true) rfl rfl
  obtain ⟨k, hk, p5⟩ := pk ns h (n + 4) L5 (by decide) (by decide) (e := x6) (env := e5 r w t) (k := true) rfl rfl
  have c6 : s6 CC (e5 r w t) (ZL ns (n + 3)) = .nx (e7 r w t v k) (ZL ns (n + 5)) := by
    unfold s6
    exact asg2 (tup2 p4 p5)
  have c7 : s7 CC (e7 r w t v k) (ZL ns (n + 5)) = .nx (e8 r w t v k (.str (a1 r w t v))) (ZL ns (n + 5)) := at4 (C := fun r w => tot (t1 r w)) (st7 (DD ns (n + 5)) k) hr hw ht hv
  have c8 : r1 CC (e8 r w t v k (.str (a1 r w t v))) (ZL ns (n + 5)) = .nx (e8 r w t v k (.str (a1 r w t v))) (ZL ns (n + 5)) := at4 (C := fun r w => tot (t1 r w)) (sr1 (DD ns (n + 5)) k) hr hw ht hv
  have c9 : r2 CC (e8 r w t v k (.str (a1 r w t v))) (ZL ns (n + 5)) = .nx (e8 r w t v k (.str (a2 r w t k))) (ZL ns (n + 5)) := at4 (C := fun r w => tot (t1 r w)) (sr2 (DD ns (n + 5)) v (.str (a1 r w t v))) hr hw ht hk
  have c10 : r3 CC (e8 r w t v k (.str (a2 r w t k))) (ZL ns (n + 5)) = .rt (.bl true) (ZL ns (n + 5)) := at4 (C := fun r w => tot (t1 r w)) (sr3 (DD ns (n + 5)) v) hr hw ht hk
  rw [q_scons, c1, RS.then_nx, q_scons, c2, RS.then_nx, q_scons, c3, RS.then_nx, q_scons, c4, RS.then_nx, q_scons, c5, RS.then_nx, q_scons, c6, RS.then_nx, q_scons, c7, RS.then_nx]
  have cl : ∀ K : SS, sLams 10 K (e8 r w t v k (.str (a1 r w t v))) (ZL ns (n + 5)) = K (e8 r w t v k (.str (a1 r w t v))) (ZL ns (n + 5)) := fun K => rfl
  rw [cl, q_scons, c8, RS.then_nx, q_scons, c9, RS.then_nx, c10, fin_rt]
end PX.K64
set_option Elab.async false
set_option linter.all false
set_option maxRecDepth 100000
set_option maxHeartbeats 4000000
namespace PX.K64
open PySem PX
noncomputable def y1 (cf : CF) : SE := (eLst (aCons (eMake cf 2 0 1 (aCons (eLst (aCons (eLit (.int 1)) (aCons (eLit (.int 2)) aNil))) aNil)) (aCons (eMake cf 2 0 1 (aCons (eLst (aCons (eLit (.int 2)) (aCons (eLit (.int 1)) aNil))) aNil)) (aCons (eMake cf 2 0 1 (aCons (eLst (aCons (eLit (.int 3)) aNil)) aNil)) (aCons (eMake cf 2 0 1 (aCons (eLst (aCons (eLit (.int 0)) (aCons (eLit (.int 0)) aNil))) aNil)) (aCons (eMake cf 2 0 1 (aCons (eLst (aCons (eLit (.int 1)) (aCons (eLit (.int 2)) (aCons (eLit (.int 0)) aNil)))) aNil)) (aCons (eLit .non) (aCons (eLst (aCons (eLit (.int 1)) (aCons (eLit (.int 2)) aNil))) aNil))))))))
noncomputable def y2 (cf : CF) : SS := (sAsg (gTp [(gNm 2), (gNm 3)]) (eTup (aCons (eCall cf 2 36 (aCons (eVar 0) (aCons (eVar 1) aNil))) (aCons (eCall cf 2 36 (aCons (eVar 0) (aCons (eVar 1) aNil))) aNil))))
noncomputable def y3 (cf : CF) : SS := (sCons (sAsg (gNm 4) (eCall cf 1 39 (aCons (eLst (aCons (eCall cf 2 40 (aCons (eIsi [(.non, false), (.bl, false), (.int, false), (.str, false), (.tup, false), (.lst, false), (.dct, false), (.own 0, true), (.own 1, false), (.own 2, false)] (eVar 2)) (aCons (eLit (.str "column")) aNil))) (aCons (eCall cf 2 40 (aCons (eIsi [(.non, false), (.bl, false), (.int, false), (.str, false), (.tup, false), (.lst, false), (.dct, false), (.own 0, true), (.own 1, false), (.own 2, false)] (eVar 3)) (aCons (eLit (.str "column")) aNil))) aNil))) aNil))) (sCons (sIf (tBl (eEqQ cf [(0, 2), (1, 18), (2, 28)] [.non, .bl, .int, .str, .tup, .lst, .dct, .own 0, .own 1, .own 2] (eVar 4) (eLit (.str "none")))) (sAsg (gNm 4) (eCall cf 2 40 (aCons (eAn (eEqQ cf [(0, 2), (1, 18), (2, 28)] [.non, .bl, .int, .str, .tup, .lst, .dct, .own 0, .own 1, .own 2] (eLenG cf [(0, 3)] (eVar 2)) (eLenG cf [(0, 3)] (eVar 3))) (eEqQ cf [(0, 2), (1, 18), (2, 28)] [.non, .bl, .int, .str, .tup, .lst, .dct, .own 0, .own 1, .own 2] (eMeth cf 1 4 [(0, 6)] (eVar 2) aNil) (eMeth cf 1 4 [(0, 6)] (eVar 3) aNil))) (aCons (eLit (.str "unlike")) aNil)))) sNil) (sLams 5 (sRetT (tWords wt38 "none" cmpEq selAll [(eCall cf 2 30 (nxA (aCons (eVar 2) (aCons (eVar 3) aNil)))), (eCall cf 2 31 (nxA (aCons (eVar 2) (aCons (eVar 3) aNil)))), (eCall cf 2 32 (nxA (aCons (eVar 2) (aCons (eVar 3) aNil)))), (eCall cf 2 33 (nxA (aCons (eVar 2) (aCons (eVar 3) aNil)))), (eMeth cf 3 10 [(1, 19), (2, 29)] (nxE (eMake cf 3 2 27 (aCons (eTup aNil) (aCons (eTup aNil) aNil)))) (nxA (aCons (eVar 2) (aCons (eVar 3) aNil))))] 4 6)))))
theorem b42_eq (cf : CF) (n0 : Nat) : b42.body cf n0 = sCons (sAsg (gNm 1) (y1 cf)) (sCons (y2 cf) (y3 cf)) := rfl
abbrev g0 : Env := [some (.ref 0), none, none, none, none, none, none]
noncomputable def L7 : List PV := match y1 CC g0 [.lst []] with
  | .ok (_, .lst l) _ => l
  | _ => []
theorem L7n : L7.length = 7 := by kernel_rfl
theorem y1_ok (x : PV) : y1 CC g0 [x] = .ok (true, .lst L7) [x] := by kernel_rfl
noncomputable abbrev g1 : Env := g0.set 1 (some (.lst L7))
noncomputable abbrev g3 (a b : PV) : Env := (g1.set 2 (some a)).set 3 (some b)
theorem sy3 (x : PV) : (L7.map fun a => L7.map fun b => y3 CC (g3 a b) [x]) = L7.map fun a => L7.map fun b => .rt (.bl true) [x] := by kernel_rfl
theorem q42 (ns : List Int) (h : ns.length ≤ 63) (n : Nat) : callF TT 44 42 [.ref 0] 1 (ZL ns n) = .ok (.bl true) (ZL ns (n + 2)) := by
  rw [call_at (b := b42) g0 rfl rfl rfl, b42_eq]
  obtain ⟨a, ha, p1⟩ := pk ns h n L7 (by rw [L7n]; decide) (by rw [L7n]; decide) (e := eVar 1) (env := g1) (k := false) rfl rfl
  obtain ⟨b, hb, p2⟩ := pk ns h (n + 1) L7 (by rw [L7n]; decide) (by rw [L7n]; decide) (e := eVar 1) (env := g1) (k := false) rfl rfl
  have c1 : y2 CC g1 (ZL ns n) = .nx (g3 a b) (ZL ns (n + 2)) := by
    unfold y2
    exact asg2 (tup2 p1 p2)
  have c2 : y3 CC (g3 a b) (ZL ns (n + 2)) = .rt (.bl true) (ZL ns (n + 2)) := at2 (sy3 (DD ns (n + 2))) ha hb
  rw [q_scons, asg1 (y1_ok (DD ns n)), RS.then_nx, q_scons, c1, RS.then_nx, c2, fin_rt]
theorem q43 (x : PV) : eCall (callF TT 44) 0 43 aNil [] [x] = .ok (false, .bl true) [x] := by kernel_rfl
end PX.K64
set_option Elab.async false
set_option linter.all false
set_option maxRecDepth 100000
set_option maxHeartbeats 4000000
namespace PX.K64
open PySem PX
noncomputable def w1 (cf : CF) : SS := (sIf (tOr (tNo (tTru (eCall cf 1 41 (aCons (eVar 1) aNil)))) (tOr (tNo (tTru (eCall cf 1 42 (aCons (eVar 1) aNil)))) (tNo (tTru (eCall cf 0 43 aNil))))) (sRet (eLit (.bl false))) sNil)
theorem b44_eq (cf : CF) (n0 : Nat) : b44.body cf n0 = sCons (sAsg (gNm 1) (eNew (eLst (aCons (eVar 0) (aCons (eLit (.int 0)) aNil))))) (sCons (sFor (iRg1 (eLit (.int 6))) (gNm 2) (w1 cf)) (sRet (eLit (.bl true)))) := rfl
theorem tno {a : SE} {env : Env} {S S1 : Store} {k : Bool} (h : a env S = .ok (k, .bl true) S1) : tNo (tTru a) env S = .ok false S1 := by
  unfold tNo tTru
  rw [h]
  rfl
theorem tor {a b : ST} {env : Env} {S S1 : Store} (h : a env S = .ok false S1) : tOr a b env S = b env S1 := by
  unfold tOr
  rw [h]
  rfl
abbrev en (ns : List Int) (v : Option PV) : Env := [some (.lst (ns.map .int)), some (.ref 0), v]
theorem w1_ok (ns : List Int) (h : ns.length ≤ 63) (v : Option PV) (n : Nat) : w1 (callF TT 44) (en ns v) (ZL ns n) = .nx (en ns v) (ZL ns (n + 7)) := by
  have hv : ∀ n, eVar 1 (en ns v) (ZL ns n) = .ok (false, .ref 0) (ZL ns n) := fun n => rfl
  have c1 : eCall (callF TT 44) 1 41 (aCons (eVar 1) aNil) (en ns v) (ZL ns n) = .ok (false, .bl true) (ZL ns (n + 5)) := by
    rw [q_call, q_cons, hv, R.bind_ok, q_nil, R.bind_ok, R.bind_ok, if_pos (by rfl)]
    show (cutX 1 (callF TT 44 41 [.ref 0] 1 (ZL ns n))).bind _ = _
    rw [q41 ns h]
    rfl
  have c2 : eCall (callF TT 44) 1 42 (aCons (eVar 1) aNil) (en ns v) (ZL ns (n + 5)) = .ok (false, .bl true) (ZL ns (n + 7)) := by
    rw [q_call, q_cons, hv, R.bind_ok, q_nil, R.bind_ok, R.bind_ok, if_pos (by rfl)]
    show (cutX 1 (callF TT 44 42 [.ref 0] 1 (ZL ns (n + 5)))).bind _ = _
    rw [q42 ns h]
    rfl
  have c3 : eCall (callF TT 44) 0 43 aNil (en ns v) (ZL ns (n + 7)) = .ok (false, .bl true) (ZL ns (n + 7)) := q43 (DD ns (n + 7))
  unfold w1
  unfold sIf
  rw [tor (tno c1), tor (tno c2), tno c3]
  rfl
theorem wloop (ns : List Int) (h : ns.length ≤ 63) : ∀ (xs : List PV) (v : Option PV) (n : Nat), ∃ v' n', forR (gNm 2) (w1 (callF TT 44)) xs (en ns v) (ZL ns n) = .nx (en ns v') (ZL ns n')
  | [], v, n => ⟨v, n, rfl⟩
  | x :: xs, v, n => by
    obtain ⟨v', n', e⟩ := wloop ns h xs (some x) (n + 7)
    refine ⟨v', n', ?_⟩
    rw [← e]
    show (match w1 (callF TT 44) (en ns (some x)) (ZL ns n) with
      | .nx e S' => forR (gNm 2) (w1 (callF TT 44)) xs e S'
      | .ct e S' => forR (gNm 2) (w1 (callF TT 44)) xs e S'
      | .bk e S' => .nx e S'
      | z => z) = _
    rw [w1_ok ns h]
theorem law_eval (ns : List Int) (h : ns.length ≤ 63) : ∃ S', callF TT 45 44 [.lst (ns.map .int)] 0 [] = .ok (.bl true) S' := by
  rw [call_at (b := b44) [some (.lst (ns.map .int)), none, none] rfl rfl rfl, b44_eq]
  have c1 : sAsg (gNm 1) (eNew (eLst (aCons (eVar 0) (aCons (eLit (.int 0)) aNil)))) [some (.lst (ns.map .int)), none, none] [] = .nx (en ns none) (ZL ns 0) := rfl
  obtain ⟨v', n', e⟩ := wloop ns h (rngL 0 6) none 0
  have c2 : sFor (iRg1 (eLit (.int 6))) (gNm 2) (w1 (callF TT 44)) (en ns none) (ZL ns 0) = .nx (en ns v') (ZL ns n') := by
    show (forR (gNm 2) (w1 (callF TT 44)) (rngL 0 6) (en ns none) (ZL ns 0)).unl [] = _
    rw [e]
    rfl
  refine ⟨ZL ns n', ?_⟩
  rw [q_scons, c1, RS.then_nx, q_scons, c2, RS.then_nx]
  rfl
end PX.K64
set_option Elab.async false
set_option linter.all false
set_option maxRecDepth 100000
namespace HandSHeadRun
open PySem PySem.W PySem.Calls PyProof.Rows
section
variable (st : SharedT → Thread → Option (SharedT × Thread)) (n0 : Nat) (ann : Option Value)
def segF : Nat → SharedT → Thread → Option (Flow × SharedT × Code × Pos)
  | 0, _, _ => none
  | m + 1, s, t => match endAt 1 t with
    | some f => some (f, s, t.code, t.pos)
    | none => match stepOk n0 ann t with
      | false => none
      | true => match st s t with
        | some (s', t') => frS s' fun s' => segF m s' t'
        | none => none
def topF : Nat → SharedT → Thread → Option (SharedT × Thread)
  | 0, s, t => some (s, t)
  | m + 1, s, t => match through t with
    | true => none
    | false => match stepOk n0 ann t with
      | false => none
      | true => match st s t with
        | some (s', t') => frS s' fun s' => topF m s' t'
        | none => none
end
section
variable {p : Program} {w : World} {n0 : Nat} {ann : Option Value}
theorem segF_ok {tb : String → Option Builtin} : ∀ {m : Nat} {s s' : SharedT} {t : Thread} {f : Flow} {c : Code} {q : Pos}, segF (stepT (denote tb) p w) n0 ann m s t = some (f, s', c, q) → segRun tb p w n0 ann 1 m s.abs t = some (f, s'.abs, c, q)
  | 0, _, _, _, _, _, _, h => by cases h
  | m + 1, s, s', t, f, c, q, h => by
    have h1 : (match endAt 1 t with
      | some f => some (f, s, t.code, t.pos)
      | none => match stepOk n0 ann t with
        | false => none
        | true => match stepT (denote tb) p w s t with
          | some (s', t') => frS s' fun s' => segF (stepT (denote tb) p w) n0 ann m s' t'
          | none => none) = some (f, s', c, q) := h
    unfold segRun
    cases he : endAt 1 t with
    | some x =>
      rw [he] at h1
      cases h1
      rfl
    | none =>
      rw [he] at h1
      cases hk : stepOk n0 ann t with
      | false =>
        rw [hk] at h1
        cases h1
      | true =>
        rw [hk] at h1
        cases hs : stepT (denote tb) p w s t with
        | none =>
          rw [hs] at h1
          cases h1
        | some r =>
          obtain ⟨s2, t2⟩ := r
          rw [hs] at h1
          have h3 : (frS s2 fun s' => segF (stepT (denote tb) p w) n0 ann m s' t2) = some (f, s', c, q) := h1
          rw [frS_eq] at h3
          have z := segF_ok h3
          rw [stepT_spec hs]
          exact z
theorem topF_ok {tb : String → Option Builtin} : ∀ {m : Nat} {s s' : SharedT} {t t' : Thread}, topF (stepT (denote tb) p w) n0 ann m s t = some (s', t') → topGo tb p w n0 ann m s.abs t = some (s'.abs, t')
  | 0, _, _, _, _, h => by cases h; rfl
  | m + 1, s, s', t, t', h => by
    have h1 : (match through t with
      | true => none
      | false => match stepOk n0 ann t with
        | false => none
        | true => match stepT (denote tb) p w s t with
          | some (s', t') => frS s' fun s' => topF (stepT (denote tb) p w) n0 ann m s' t'
          | none => none) = some (s', t') := h
    unfold topGo
    cases ht : through t with
    | true =>
      rw [ht] at h1
      cases h1
    | false =>
      rw [ht] at h1
      cases hk : stepOk n0 ann t with
      | false =>
        rw [hk] at h1
        cases h1
      | true =>
        rw [hk] at h1
        cases hs : stepT (denote tb) p w s t with
        | none =>
          rw [hs] at h1
          cases h1
        | some r =>
          obtain ⟨s2, t2⟩ := r
          rw [hs] at h1
          have h3 : (frS s2 fun s' => topF (stepT (denote tb) p w) n0 ann m s' t2) = some (s', t') := h1
          rw [frS_eq] at h3
          have z := topF_ok h3
          rw [stepT_spec hs]
          exact z
theorem qk_eq : @stepT (denote treeTable) p w = stepQ (denQ tabQ) p w := by rw [stepQ_eq, denQ_eq, tabQ_eq]
theorem segQ_ok {m : Nat} {s s' : SharedT} {t : Thread} {f : Flow} {c : Code} {q : Pos} (h : segF (stepQ (denQ tabQ) p w) n0 ann m s t = some (f, s', c, q)) : segRun treeTable p w n0 ann 1 m s.abs t = some (f, s'.abs, c, q) := by
  rw [← qk_eq] at h
  exact segF_ok h
theorem topQ_ok {m : Nat} {s s' : SharedT} {t t' : Thread} (h : topF (stepQ (denQ tabQ) p w) n0 ann m s t = some (s', t')) : topGo treeTable p w n0 ann m s.abs t = some (s'.abs, t') := by
  rw [← qk_eq] at h
  exact topF_ok h
theorem goQ_ok {m : Nat} {s s' : SharedT} {t : Thread} (h : goF (stepQ (denQ tabQ) p w) n0 ann m s t = some s') : topRun treeTable p w n0 ann m s.abs t = some s'.abs := by
  rw [← qk_eq] at h
  exact goF_ok h
end
theorem boot_abs {w : World} {os : OsState} {t : PySem.W.BT} {n : Nat} (e : putAll (boot_heap w.params).objs.toList .nil 0 = some (t, n)) : (bootT w os (t, n)).abs = ⟨boot_heap w.params, #[], boot_drawn, boot_toks, os⟩ := by
  have eh := putAll_heap e
  show (⟨absHeap t n (boot_heap w.params).life, #[], boot_drawn, boot_toks, os⟩ : Shared) = _
  rw [eh]
theorem left_pcs {p q : Program} {loose : List PySem.Str} {Xt : Shared → Bool} {α : Type} {Yf : Shared → α} {Ya : World → α} {N M : Nat}
    (e : opening p = plainProg p.main.scope.names) (hN : Nat.ble 600 N = true) (f : ∀ s, fenceModules? p s = some s) (le : Nat.ble M N = true)
    (run : ∀ (w : World) (os : OsState), ∃ s, topRun treeTable p w (boot_heap w.params).objs.size (bootAnn w) M ⟨boot_heap w.params, #[], boot_drawn, boot_toks, os⟩ (topStub p) = some s ∧ (looksF p (boot_heap w.params) s, openSeen q loose (importedModules p.main.body) Xt true s, Yf s) = (true, openGood q loose, Ya w)) :
    LeftO p q loose Xt Yf Ya N true := fun w => by
  obtain ⟨⟨h, gs, d, k, os⟩, a, a'⟩ := Option.map_eq_some_iff.mp (boot_open e hN f w)
  obtain ⟨rfl, rfl, rfl, rfl⟩ : h = boot_heap w.params ∧ gs = Array.mk [] ∧ d = boot_drawn ∧ k = boot_toks := by simpa using a'
  obtain ⟨s, hs, hv⟩ := run w os
  obtain ⟨l1, l2, l3⟩ : _ ∧ _ ∧ _ := by simpa only [Prod.mk.injEq] using hv
  have r := topRun_mono (N - M) _ _ _ _ hs
  rw [show M + (N - M) = N by have := Nat.le_of_ble_eq_true le; omega] at r
  have l1' : (staticsOk (importedModules p.main.body) (boot_heap w.params) s.heap && namesBound p s.heap && gensDone s && laidKept (boot_heap w.params) s.heap) = true := l1
  have t : topFrom treeTable p w N ⟨boot_heap w.params, Array.mk [], boot_drawn, boot_toks, os⟩ = some s := by
    unfold topFrom
    dsimp only
    rw [boot_ns]
    show (topRun treeTable p w (boot_heap w.params).objs.size (bootAnn w) N ⟨boot_heap w.params, #[], boot_drawn, boot_toks, os⟩ (topStub p)).bind _ = _
    rw [r]
    show (match staticsOk (importedModules p.main.body) (boot_heap w.params) s.heap && namesBound p s.heap && gensDone s && laidKept (boot_heap w.params) s.heap with | true => some s | false => none) = _
    rw [l1']
  unfold openEnds
  rw [a]
  show (topFrom treeTable p w N _).map _ = _
  rw [t]
  exact congrArg some (Prod.ext l2 l3)
noncomputable abbrev lookQ (r : OpenRow) (q : Program) (H : Hook) (ob : SharedT → H.α) (loose : List PySem.Str) (w : World) (s : SharedT) :=
  (looksF r.prog (boot_heap w.params) s.abs, seenQ q loose (importedModules r.prog.main.body) (fun s => xlAt q [] s && recOk r.toRowW.records s) s.abs, ob s)
theorem head_pcs {r : OpenRow} {q : Program} {H : Hook} {ob : SharedT → H.α} {N M : Nat} {loose : List PySem.Str} {d : DefRec} {kwd : List (PySem.Str × PySem.Expr)} (ho : ∀ s : SharedT, ob s = H.obs s.abs)
    (e : opening r.prog = plainProg r.prog.main.scope.names) (f : ∀ s, fenceModules? r.prog s = some s) (hN : Nat.ble 600 N = true) (le : Nat.ble M N = true)
    (run : ∀ (w : World) (os : OsState), ∃ s : SharedT, topRun treeTable r.prog w (boot_heap w.params).objs.size (bootAnn w) M ⟨boot_heap w.params, #[], boot_drawn, boot_toks, os⟩ (topStub r.prog) = some s.abs ∧ lookQ r q H ob loose w s = (true, openGood q loose, H.val w))
    (hdef : defOf q r.name = some (d, kwd)) (hp : r.prog.theDef r.name = some (d.params, d.body, d.scope)) (hk : kwWritten? d.params.kwonlyargs d.params.kw_defaults = some kwd)
    (hwr : (!r.writes || r.records.isEmpty) = true) (k1 : r.wellSaid = true) (ok : (chainsOk q && opensWell r.prog && (frees r.toRowW && r.within.isEmpty)) = true) (hb : r.prog.bare) (hw : r.toRowW.promised)
    (call : WalkO q loose (XL q []) H.says r.toRowW d kwd fun f vs => PySem.call f vs) : r.Holds := by
  have left : LeftO r.prog q loose (fun s => xlAt q [] s && recOk r.toRowW.records s) H.obs H.val N true :=
    left_pcs e hN f le fun w os => by
      obtain ⟨s, h1, h2⟩ := run w os
      have eo : ob = fun s => H.obs s.abs := funext ho
      refine ⟨s.abs, h1, ?_⟩
      rw [eo] at h2
      simp only [seenQ_eq]
      exact h2
  exact holds_open (r := r) (q := q) (loose := loose) (XP := XL q []) (YP := H.says) (d := d) (kwd := kwd) left H.of H.keeps (fun s z => xl_of s (Bool.and_eq_true_iff.mp z).1) XL.keeps hdef hp hk (fun s z => recFacts_of (Bool.and_eq_true_iff.mp z).2) hwr k1 ok hb hw call
theorem all_cut {α : Type} {f : α → Bool} {l : List α} (n : Nat) (h1 : (l.take n).all f = true) (h2 : (l.drop n).all f = true) : l.all f = true := by
  rw [← List.take_append_drop n l, List.all_append, h1, h2]
  rfl
end HandSHeadRun
set_option Elab.async false
set_option linter.all false
set_option maxRecDepth 100000
set_option maxHeartbeats 0
namespace PX.K64
open PySem PySem.W
abbrev RR : PySem.W.OpenRow := PySem.W.OpenLaw.row PySem.Challenge.rw_bucketsums_k64_whole_refused_more
abbrev τ (x : String) (n : Nat) : Value := .str (Str.ofString x) n
abbrev σ (x : String) : Str := Str.ofString x
abbrev ι (n : Int) : Value := .int n 0
abbrev ρ (n : Nat) : Value := .ref n
abbrev tu0 : Obj := ⟨.type "tuple", none, .seq #[] 0, #[]⟩
abbrev fi0 : Obj := ⟨.none, none, .fields #[], #[]⟩
abbrev tu (l : List Value) : Obj := ⟨.type "tuple", none, .seq l.toArray 0, #[]⟩
abbrev fi (t : String) (l : List Value) : Obj := ⟨.type t, none, .fields l.toArray, #[]⟩
abbrev fn0 (l : List Value) : Obj := ⟨.none, none, .fields l.toArray, #[]⟩
abbrev fu (a b : String) (pl : Stmt) (m c : Value) : Obj := ⟨.type "function", none, .func ⟨Str.ofString a, Str.ofString b, L2.defArgs pl, .stmts (L2.defBody pl), L2.defScope pl, 3, [], .none, .none, .none, m, none, c, .none, 0⟩, #[]⟩
abbrev fv (a b : String) (pl : Stmt) : Obj := ⟨.none, none, .func ⟨Str.ofString a, Str.ofString b, L2.defArgs pl, .stmts (L2.defBody pl), L2.defScope pl, 0, [], .none, .none, .none, .none, none, .none, .none, 0⟩, #[]⟩
abbrev dE (P : Params) (k : String) (n : Nat) (v : Value) : DictEntry := ⟨PyData.keyHash P (Str.ofString k), .str (Str.ofString k) n, v⟩
abbrev lf (o : Obj) : PySem.W.BT := .node o .nil .nil
abbrev nd (o : Obj) (a b : PySem.W.BT) : PySem.W.BT := .node o a b
noncomputable section
def trBoot (P : Params) : PySem.W.BT := (nd (PySem.W.boot_o_0 P) (nd (PySem.W.boot_o_1 P) (nd (PySem.W.boot_o_3 P) (nd (PySem.W.boot_o_7 P) .nil .nil) .nil) (nd (PySem.W.boot_o_5 P) (nd (PySem.W.boot_o_9 P) .nil .nil) .nil)) (nd (PySem.W.boot_o_2 P) (nd (PySem.W.boot_o_4 P) (nd (PySem.W.boot_o_8 P) .nil .nil) .nil) (nd (PySem.W.boot_o_6 P) (nd (PySem.W.boot_o_10 P) .nil .nil) .nil)))
def oa_11 : Obj := tu0
def oa_12 : Obj := fi0
def oa_13 : Obj := fi "code" [(τ "<module>" 182), (τ "<module>" 183), (τ "/claim/cut.py" 184), (ι 1), (ι 0), (ι 0), (ι 0), (ι 0), (ρ 11), (.bool false), (ι 181), (ρ 12), .none, .none, .none, .none, (ι 185), (ι 1), (τ "/claim/cut.py" 186)]
def oa_14 : Obj := ⟨(.type "frame"), none, .plain, (([(some (ρ 13)), (some (ρ 3)), (some (ρ 3)), none, (some (τ "__main__" 164)), none, (some (ρ 0))] : List (Option Value)).toArray)⟩
def tra (P : Params) : PySem.W.BT := (nd (PySem.W.boot_o_0 P) (nd (PySem.W.boot_o_1 P) (nd (PySem.W.boot_o_3 P) (nd (PySem.W.boot_o_7 P) .nil .nil) (lf oa_11)) (nd (PySem.W.boot_o_5 P) (nd (PySem.W.boot_o_9 P) .nil .nil) (lf oa_13))) (nd (PySem.W.boot_o_2 P) (nd (PySem.W.boot_o_4 P) (nd (PySem.W.boot_o_8 P) .nil .nil) (lf oa_12)) (nd (PySem.W.boot_o_6 P) (nd (PySem.W.boot_o_10 P) .nil .nil) (lf oa_14))))
def Sa (w : World) (os : OsState) : SharedT := ⟨tra w.params, 15, ⟨[], [], [], 0, [], [], false, #[], [], 0, false, false, false, 0, [2000, 10, 10], false, 0, true, [], [], 0, false⟩, #[], ⟨0, 0, 0, 0⟩, 187, os⟩
def posa : Pos := ⟨0, 0, 0, 0⟩
def trb (P : Params) : PySem.W.BT := (nd (PySem.W.boot_o_0 P) (nd (PySem.W.boot_o_1 P) (nd (PySem.W.boot_o_3 P) (nd (PySem.W.boot_o_7 P) .nil .nil) (lf oa_11)) (nd (PySem.W.boot_o_5 P) (nd (PySem.W.boot_o_9 P) .nil .nil) (lf oa_13))) (nd (PySem.W.boot_o_2 P) (nd (PySem.W.boot_o_4 P) (nd (PySem.W.boot_o_8 P) .nil .nil) (lf oa_12)) (nd (PySem.W.boot_o_6 P) (nd (PySem.W.boot_o_10 P) .nil .nil) (lf oa_14))))
def Sb (w : World) (os : OsState) : SharedT := ⟨trb w.params, 15, ⟨[], [], [], 0, [], [], false, #[], [], 0, false, false, false, 0, [2000, 10, 10], false, 0, true, [], [], 0, false⟩, #[], ⟨0, 0, 0, 0⟩, 187, os⟩
def posb : Pos := ⟨0, 0, 0, 0⟩
def o14_3 (P : Params) : Obj := ⟨(.type "dict"), none, (.dict (((dE P "__name__" 165 (τ "bucketsums.columns" 310) :: dE P "__doc__" 166 .none :: dE P "__package__" 167 .none :: dE P "__loader__" 168 (.builtin "__main__.__loader__#opaque") :: dE P "__spec__" 169 .none :: dE P "__annotations__" 170 (ρ 6) :: dE P "__builtins__" 171 (ρ 4) :: dE P "__file__" 173 (τ "/claim/cut.py" 172) :: dE P "__cached__" 174 .none :: dE P "_wall" 193 (ρ 21) :: dE P "SumError" 213 (ρ 31) :: dE P "BadCounts" 229 (ρ 44) :: dE P "BadColumn" 245 (ρ 56) :: dE P "BadValue" 261 (ρ 68) :: dE P "BadNumber" 277 (ρ 80) :: dE P "BadSum" 293 (ρ 92) :: dE P "Unlike" 309 (ρ 104) :: dE P "MOST_VALUES" 313 (.int 12 312) :: dE P "MOST_COUNT" 315 (.int 9 314) :: dE P "is_number" 324 (ρ 113) :: dE P "Column" 427 (ρ 194) :: []) : List DictEntry).toArray) 21), #[]⟩
def o14_12 : Obj := fn0 ((ι 1) :: (ι 0) :: (ρ 20) :: (ι 5) :: (ι 0) :: (ρ 27) :: (ι 7) :: (ι 0) :: (ρ 40) :: (ι 9) :: (ι 0) :: (ρ 52) :: (ι 11) :: (ι 0) :: (ρ 64) :: (ι 13) :: (ι 0) :: (ρ 76) :: (ι 15) :: (ι 0) :: (ρ 88) :: (ι 17) :: (ι 0) :: (ρ 100) :: (ι 22) :: (ι 0) :: (ρ 112) :: (ι 24) :: (ι 0) :: (ρ 119) :: [])
def o14_15 : Obj := tu0
def o14_16 : Obj := fi0
def o14_17 : Obj := tu [(τ "k" 190)]
def o14_18 : Obj := tu0
def o14_19 : Obj := fv "_wall" "_wall" (top 0)
def o14_20 : Obj := fi "code" [(τ "_wall" 187), (τ "_wall" 188), (τ "/claim/cut.py" 189), (ι 1), (ι 1), (ι 0), (ι 0), (ι 3), (ρ 15), (.bool true), (ι 181), (ρ 16), .none, (ρ 17), (ρ 18), (ρ 19), (ι 191), (ι 1), (τ "/claim/cut.py" 192)]
def o14_21 : Obj := fu "_wall" "_wall" (top 0) (τ "__main__" 164) (ρ 20)
def o14_22 : Obj := tu [(.type "ValueError")]
def o14_23 : Obj := fi "builtin_function_or_method" [(.builtin "type.__prepare__"), (.type "type")]
def o14_24 (P : Params) : Obj := ⟨(.type "dict"), none, (.dict (([dE P "__module__" 203 (τ "bucketsums.errors" 194), dE P "__qualname__" 205 (τ "SumError" 204), dE P "__firstlineno__" 207 (.int 5 206), dE P "__static_attributes__" 208 (ρ 29)] : List DictEntry).toArray) 4), #[]⟩
def o14_25 : Obj := tu0
def o14_26 : Obj := fi0
def o14_27 : Obj := fi "code" [(τ "SumError" 198), (τ "SumError" 199), (τ "/claim/cut.py" 200), (ι 5), (ι 0), (ι 0), (ι 0), (ι 0), (ρ 25), (.bool false), (ι 181), (ρ 26), .none, .none, .none, .none, (ι 201), (ι 5), (τ "/claim/cut.py" 202)]
def o14_28 : Obj := ⟨(.type "frame"), none, .plain, (([(some (ρ 27)), (some (ρ 3)), (some (ρ 24)), none, (some (τ "bucketsums.errors" 194)), none, (some (ρ 0))] : List (Option Value)).toArray)⟩
def o14_29 : Obj := tu0
def o14_30 (P : Params) : Obj := ⟨(.type "dict"), none, (.dict (([dE P "__module__" 203 (τ "bucketsums.errors" 194), dE P "__firstlineno__" 207 (.int 5 206), dE P "__static_attributes__" 208 (ρ 29), dE P "__weakref__" 210 (ρ 32), dE P "__doc__" 211 .none] : List DictEntry).toArray) 3), #[]⟩
def o14_31 : Obj := ⟨(.type "type"), none, (.cls ⟨(σ "SumError"), [(.type "ValueError")], [(ρ 31), (.type "ValueError"), (.type "Exception"), (.type "BaseException"), (.type "object")], 30, (σ "SumError"), true, [], [(ρ 44), (ρ 56), (ρ 68), (ρ 80), (ρ 92), (ρ 104)], false, none, false⟩), (([(some (ρ 22)), none, (some (τ "SumError" 196)), (some (τ "SumError" 204)), (some (.builtin "ValueError.__new__")), (some (.bool true))] : List (Option Value)).toArray)⟩
def o14_32 : Obj := fi "getset_descriptor" [(τ "__weakref__" 209), (ρ 31), (.builtin "ExceptionGroup.__weakref__"), .none]
def o14_33 : Obj := fi "super" [(ρ 31), (ρ 31), (ρ 31)]
def o14_34 : Obj := fi "builtin_function_or_method" [(.builtin "object.__init_subclass__"), (ρ 31)]
def o14_35 : Obj := tu [(ρ 31)]
def o14_36 : Obj := fi "builtin_function_or_method" [(.builtin "type.__prepare__"), (.type "type")]
def o14_37 (P : Params) : Obj := ⟨(.type "dict"), none, (.dict (([dE P "__module__" 221 (τ "bucketsums.errors" 194), dE P "__qualname__" 223 (τ "BadCounts" 222), dE P "__firstlineno__" 225 (.int 7 224), dE P "__static_attributes__" 226 (ρ 42)] : List DictEntry).toArray) 4), #[]⟩
def o14_38 : Obj := tu0
def o14_39 : Obj := fi0
def o14_40 : Obj := fi "code" [(τ "BadCounts" 216), (τ "BadCounts" 217), (τ "/claim/cut.py" 218), (ι 7), (ι 0), (ι 0), (ι 0), (ι 0), (ρ 38), (.bool false), (ι 181), (ρ 39), .none, .none, .none, .none, (ι 219), (ι 7), (τ "/claim/cut.py" 220)]
def o14_41 : Obj := ⟨(.type "frame"), none, .plain, (([(some (ρ 40)), (some (ρ 3)), (some (ρ 37)), none, (some (τ "bucketsums.errors" 194)), none, (some (ρ 0))] : List (Option Value)).toArray)⟩
def o14_42 : Obj := tu0
def o14_43 (P : Params) : Obj := ⟨(.type "dict"), none, (.dict (([dE P "__module__" 221 (τ "bucketsums.errors" 194), dE P "__firstlineno__" 225 (.int 7 224), dE P "__static_attributes__" 226 (ρ 42), dE P "__doc__" 227 .none] : List DictEntry).toArray) 2), #[]⟩
def o14_44 : Obj := ⟨(.type "type"), none, (.cls ⟨(σ "BadCounts"), [(ρ 31)], [(ρ 44), (ρ 31), (.type "ValueError"), (.type "Exception"), (.type "BaseException"), (.type "object")], 43, (σ "BadCounts"), true, [], [], false, none, false⟩), (([(some (ρ 35)), none, (some (τ "BadCounts" 214)), (some (τ "BadCounts" 222)), (some (.builtin "ValueError.__new__")), (some (.bool true))] : List (Option Value)).toArray)⟩
def o14_45 : Obj := fi "super" [(ρ 44), (ρ 44), (ρ 44)]
def o14_46 : Obj := fi "builtin_function_or_method" [(.builtin "object.__init_subclass__"), (ρ 44)]
def o14_47 : Obj := tu [(ρ 31)]
def o14_48 : Obj := fi "builtin_function_or_method" [(.builtin "type.__prepare__"), (.type "type")]
def o14_49 (P : Params) : Obj := ⟨(.type "dict"), none, (.dict (([dE P "__module__" 237 (τ "bucketsums.errors" 194), dE P "__qualname__" 239 (τ "BadColumn" 238), dE P "__firstlineno__" 241 (.int 9 240), dE P "__static_attributes__" 242 (ρ 54)] : List DictEntry).toArray) 4), #[]⟩
def o14_50 : Obj := tu0
def o14_51 : Obj := fi0
def o14_52 : Obj := fi "code" [(τ "BadColumn" 232), (τ "BadColumn" 233), (τ "/claim/cut.py" 234), (ι 9), (ι 0), (ι 0), (ι 0), (ι 0), (ρ 50), (.bool false), (ι 181), (ρ 51), .none, .none, .none, .none, (ι 235), (ι 9), (τ "/claim/cut.py" 236)]
def o14_53 : Obj := ⟨(.type "frame"), none, .plain, (([(some (ρ 52)), (some (ρ 3)), (some (ρ 49)), none, (some (τ "bucketsums.errors" 194)), none, (some (ρ 0))] : List (Option Value)).toArray)⟩
def o14_54 : Obj := tu0
def o14_55 (P : Params) : Obj := ⟨(.type "dict"), none, (.dict (([dE P "__module__" 237 (τ "bucketsums.errors" 194), dE P "__firstlineno__" 241 (.int 9 240), dE P "__static_attributes__" 242 (ρ 54), dE P "__doc__" 243 .none] : List DictEntry).toArray) 2), #[]⟩
def o14_56 : Obj := ⟨(.type "type"), none, (.cls ⟨(σ "BadColumn"), [(ρ 31)], [(ρ 56), (ρ 31), (.type "ValueError"), (.type "Exception"), (.type "BaseException"), (.type "object")], 55, (σ "BadColumn"), true, [], [], false, none, false⟩), (([(some (ρ 47)), none, (some (τ "BadColumn" 230)), (some (τ "BadColumn" 238)), (some (.builtin "ValueError.__new__")), (some (.bool true))] : List (Option Value)).toArray)⟩
def o14_57 : Obj := fi "super" [(ρ 56), (ρ 56), (ρ 56)]
def o14_58 : Obj := fi "builtin_function_or_method" [(.builtin "object.__init_subclass__"), (ρ 56)]
def o14_59 : Obj := tu [(ρ 31)]
def o14_60 : Obj := fi "builtin_function_or_method" [(.builtin "type.__prepare__"), (.type "type")]
def o14_61 (P : Params) : Obj := ⟨(.type "dict"), none, (.dict (([dE P "__module__" 253 (τ "bucketsums.errors" 194), dE P "__qualname__" 255 (τ "BadValue" 254), dE P "__firstlineno__" 257 (.int 11 256), dE P "__static_attributes__" 258 (ρ 66)] : List DictEntry).toArray) 4), #[]⟩
def o14_62 : Obj := tu0
def o14_63 : Obj := fi0
def o14_64 : Obj := fi "code" [(τ "BadValue" 248), (τ "BadValue" 249), (τ "/claim/cut.py" 250), (ι 11), (ι 0), (ι 0), (ι 0), (ι 0), (ρ 62), (.bool false), (ι 181), (ρ 63), .none, .none, .none, .none, (ι 251), (ι 11), (τ "/claim/cut.py" 252)]
def o14_65 : Obj := ⟨(.type "frame"), none, .plain, (([(some (ρ 64)), (some (ρ 3)), (some (ρ 61)), none, (some (τ "bucketsums.errors" 194)), none, (some (ρ 0))] : List (Option Value)).toArray)⟩
def o14_66 : Obj := tu0
def o14_67 (P : Params) : Obj := ⟨(.type "dict"), none, (.dict (([dE P "__module__" 253 (τ "bucketsums.errors" 194), dE P "__firstlineno__" 257 (.int 11 256), dE P "__static_attributes__" 258 (ρ 66), dE P "__doc__" 259 .none] : List DictEntry).toArray) 2), #[]⟩
def o14_68 : Obj := ⟨(.type "type"), none, (.cls ⟨(σ "BadValue"), [(ρ 31)], [(ρ 68), (ρ 31), (.type "ValueError"), (.type "Exception"), (.type "BaseException"), (.type "object")], 67, (σ "BadValue"), true, [], [], false, none, false⟩), (([(some (ρ 59)), none, (some (τ "BadValue" 246)), (some (τ "BadValue" 254)), (some (.builtin "ValueError.__new__")), (some (.bool true))] : List (Option Value)).toArray)⟩
def o14_69 : Obj := fi "super" [(ρ 68), (ρ 68), (ρ 68)]
def o14_70 : Obj := fi "builtin_function_or_method" [(.builtin "object.__init_subclass__"), (ρ 68)]
def o14_71 : Obj := tu [(ρ 31)]
def o14_72 : Obj := fi "builtin_function_or_method" [(.builtin "type.__prepare__"), (.type "type")]
def o14_73 (P : Params) : Obj := ⟨(.type "dict"), none, (.dict (([dE P "__module__" 269 (τ "bucketsums.errors" 194), dE P "__qualname__" 271 (τ "BadNumber" 270), dE P "__firstlineno__" 273 (.int 13 272), dE P "__static_attributes__" 274 (ρ 78)] : List DictEntry).toArray) 4), #[]⟩
def o14_74 : Obj := tu0
def o14_75 : Obj := fi0
def o14_76 : Obj := fi "code" [(τ "BadNumber" 264), (τ "BadNumber" 265), (τ "/claim/cut.py" 266), (ι 13), (ι 0), (ι 0), (ι 0), (ι 0), (ρ 74), (.bool false), (ι 181), (ρ 75), .none, .none, .none, .none, (ι 267), (ι 13), (τ "/claim/cut.py" 268)]
def o14_77 : Obj := ⟨(.type "frame"), none, .plain, (([(some (ρ 76)), (some (ρ 3)), (some (ρ 73)), none, (some (τ "bucketsums.errors" 194)), none, (some (ρ 0))] : List (Option Value)).toArray)⟩
def o14_78 : Obj := tu0
def o14_79 (P : Params) : Obj := ⟨(.type "dict"), none, (.dict (([dE P "__module__" 269 (τ "bucketsums.errors" 194), dE P "__firstlineno__" 273 (.int 13 272), dE P "__static_attributes__" 274 (ρ 78), dE P "__doc__" 275 .none] : List DictEntry).toArray) 2), #[]⟩
def o14_80 : Obj := ⟨(.type "type"), none, (.cls ⟨(σ "BadNumber"), [(ρ 31)], [(ρ 80), (ρ 31), (.type "ValueError"), (.type "Exception"), (.type "BaseException"), (.type "object")], 79, (σ "BadNumber"), true, [], [], false, none, false⟩), (([(some (ρ 71)), none, (some (τ "BadNumber" 262)), (some (τ "BadNumber" 270)), (some (.builtin "ValueError.__new__")), (some (.bool true))] : List (Option Value)).toArray)⟩
def o14_81 : Obj := fi "super" [(ρ 80), (ρ 80), (ρ 80)]
def o14_82 : Obj := fi "builtin_function_or_method" [(.builtin "object.__init_subclass__"), (ρ 80)]
def o14_83 : Obj := tu [(ρ 31)]
def o14_84 : Obj := fi "builtin_function_or_method" [(.builtin "type.__prepare__"), (.type "type")]
def o14_85 (P : Params) : Obj := ⟨(.type "dict"), none, (.dict (([dE P "__module__" 285 (τ "bucketsums.errors" 194), dE P "__qualname__" 287 (τ "BadSum" 286), dE P "__firstlineno__" 289 (.int 15 288), dE P "__static_attributes__" 290 (ρ 90)] : List DictEntry).toArray) 4), #[]⟩
def o14_86 : Obj := tu0
def o14_87 : Obj := fi0
def o14_88 : Obj := fi "code" [(τ "BadSum" 280), (τ "BadSum" 281), (τ "/claim/cut.py" 282), (ι 15), (ι 0), (ι 0), (ι 0), (ι 0), (ρ 86), (.bool false), (ι 181), (ρ 87), .none, .none, .none, .none, (ι 283), (ι 15), (τ "/claim/cut.py" 284)]
def o14_89 : Obj := ⟨(.type "frame"), none, .plain, (([(some (ρ 88)), (some (ρ 3)), (some (ρ 85)), none, (some (τ "bucketsums.errors" 194)), none, (some (ρ 0))] : List (Option Value)).toArray)⟩
def o14_90 : Obj := tu0
def o14_91 (P : Params) : Obj := ⟨(.type "dict"), none, (.dict (([dE P "__module__" 285 (τ "bucketsums.errors" 194), dE P "__firstlineno__" 289 (.int 15 288), dE P "__static_attributes__" 290 (ρ 90), dE P "__doc__" 291 .none] : List DictEntry).toArray) 2), #[]⟩
def o14_92 : Obj := ⟨(.type "type"), none, (.cls ⟨(σ "BadSum"), [(ρ 31)], [(ρ 92), (ρ 31), (.type "ValueError"), (.type "Exception"), (.type "BaseException"), (.type "object")], 91, (σ "BadSum"), true, [], [], false, none, false⟩), (([(some (ρ 83)), none, (some (τ "BadSum" 278)), (some (τ "BadSum" 286)), (some (.builtin "ValueError.__new__")), (some (.bool true))] : List (Option Value)).toArray)⟩
def o14_93 : Obj := fi "super" [(ρ 92), (ρ 92), (ρ 92)]
def o14_94 : Obj := fi "builtin_function_or_method" [(.builtin "object.__init_subclass__"), (ρ 92)]
def o14_95 : Obj := tu [(ρ 31)]
def o14_96 : Obj := fi "builtin_function_or_method" [(.builtin "type.__prepare__"), (.type "type")]
def o14_97 (P : Params) : Obj := ⟨(.type "dict"), none, (.dict (([dE P "__module__" 301 (τ "bucketsums.errors" 194), dE P "__qualname__" 303 (τ "Unlike" 302), dE P "__firstlineno__" 305 (.int 17 304), dE P "__static_attributes__" 306 (ρ 102)] : List DictEntry).toArray) 4), #[]⟩
def o14_98 : Obj := tu0
def o14_99 : Obj := fi0
def o14_100 : Obj := fi "code" [(τ "Unlike" 296), (τ "Unlike" 297), (τ "/claim/cut.py" 298), (ι 17), (ι 0), (ι 0), (ι 0), (ι 0), (ρ 98), (.bool false), (ι 181), (ρ 99), .none, .none, .none, .none, (ι 299), (ι 17), (τ "/claim/cut.py" 300)]
def o14_101 : Obj := ⟨(.type "frame"), none, .plain, (([(some (ρ 100)), (some (ρ 3)), (some (ρ 97)), none, (some (τ "bucketsums.errors" 194)), none, (some (ρ 0))] : List (Option Value)).toArray)⟩
def o14_102 : Obj := tu0
def o14_103 (P : Params) : Obj := ⟨(.type "dict"), none, (.dict (([dE P "__module__" 301 (τ "bucketsums.errors" 194), dE P "__firstlineno__" 305 (.int 17 304), dE P "__static_attributes__" 306 (ρ 102), dE P "__doc__" 307 .none] : List DictEntry).toArray) 2), #[]⟩
def o14_104 : Obj := ⟨(.type "type"), none, (.cls ⟨(σ "Unlike"), [(ρ 31)], [(ρ 104), (ρ 31), (.type "ValueError"), (.type "Exception"), (.type "BaseException"), (.type "object")], 103, (σ "Unlike"), true, [], [], false, none, false⟩), (([(some (ρ 95)), none, (some (τ "Unlike" 294)), (some (τ "Unlike" 302)), (some (.builtin "ValueError.__new__")), (some (.bool true))] : List (Option Value)).toArray)⟩
def o14_105 : Obj := fi "super" [(ρ 104), (ρ 104), (ρ 104)]
def o14_106 : Obj := fi "builtin_function_or_method" [(.builtin "object.__init_subclass__"), (ρ 104)]
def o14_107 : Obj := tu0
def o14_108 : Obj := fi0
def o14_109 : Obj := tu [(τ "thing" 319), (τ "least" 320), (τ "most" 321)]
def o14_110 : Obj := tu0
def o14_111 : Obj := fv "is_number" "is_number" (top 12)
def o14_112 : Obj := fi "code" [(τ "is_number" 316), (τ "is_number" 317), (τ "/claim/cut.py" 318), (ι 22), (ι 3), (ι 0), (ι 0), (ι 3), (ρ 107), (.bool true), (ι 181), (ρ 108), .none, (ρ 109), (ρ 110), (ρ 111), (ι 322), (ι 22), (τ "/claim/cut.py" 323)]
def o14_113 : Obj := fu "is_number" "is_number" (top 12) (τ "bucketsums.columns" 310) (ρ 112)
def o14_114 : Obj := tu0
def o14_115 : Obj := fi "builtin_function_or_method" [(.builtin "type.__prepare__"), (.type "type")]
def o14_116 (P : Params) : Obj := ⟨(.type "dict"), none, (.dict (([dE P "__module__" 332 (τ "bucketsums.columns" 310), dE P "__qualname__" 334 (τ "Column" 333), dE P "__firstlineno__" 336 (.int 24 335), dE P "__init__" 342 (ρ 125), dE P "__eq__" 350 (ρ 132), dE P "__len__" 357 (ρ 139), dE P "__getitem__" 365 (ρ 146), dE P "__iter__" 372 (ρ 153), dE P "rows" 379 (ρ 160), dE P "prefixes" 385 (ρ 165), dE P "between" 394 (ρ 172), dE P "filled" 401 (ρ 179), dE P "steps" 407 (ρ 184), dE P "sorted_rows" 417 (ρ 191), dE P "__static_attributes__" 419 (ρ 192)] : List DictEntry).toArray) 15), #[]⟩
def o14_117 : Obj := tu0
def o14_118 : Obj := fn0 ((ι 26) :: (ι 4) :: (ρ 124) :: (ι 33) :: (ι 4) :: (ρ 131) :: (ι 36) :: (ι 4) :: (ρ 138) :: (ι 39) :: (ι 4) :: (ρ 145) :: (ι 44) :: (ι 4) :: (ρ 152) :: (ι 47) :: (ι 4) :: (ρ 159) :: (ι 50) :: (ι 4) :: (ρ 164) :: (ι 53) :: (ι 4) :: (ρ 171) :: (ι 56) :: (ι 4) :: (ρ 178) :: (ι 59) :: (ι 4) :: (ρ 183) :: (ι 62) :: (ι 4) :: (ρ 190) :: [])
def o14_119 : Obj := fi "code" [(τ "Column" 327), (τ "Column" 328), (τ "/claim/cut.py" 329), (ι 24), (ι 0), (ι 0), (ι 0), (ι 0), (ρ 117), (.bool false), (ι 181), (ρ 118), .none, .none, .none, .none, (ι 330), (ι 24), (τ "/claim/cut.py" 331)]
def o14_120 : Obj := ⟨(.type "frame"), none, .plain, (([(some (ρ 119)), (some (ρ 3)), (some (ρ 116)), none, (some (τ "bucketsums.columns" 310)), none, (some (ρ 0))] : List (Option Value)).toArray)⟩
def o14_121 : Obj := tu0
def o14_122 : Obj := fi0
def o14_123 : Obj := fv "__init__" "Column.__init__" (L2.inClass (top 13) 0)
def o14_124 : Obj := fi "code" [(τ "__init__" 337), (τ "Column.__init__" 338), (τ "/claim/cut.py" 339), (ι 26), (ι 2), (ι 0), (ι 0), (ι 3), (ρ 121), (.bool true), (ι 181), (ρ 122), .none, .none, .none, (ρ 123), (ι 340), (ι 26), (τ "/claim/cut.py" 341)]
def o14_125 : Obj := fu "__init__" "Column.__init__" (L2.inClass (top 13) 0) (τ "bucketsums.columns" 310) (ρ 124)
def o14_126 : Obj := tu0
def o14_127 : Obj := fi0
def o14_128 : Obj := tu [(τ "self" 346), (τ "other" 347)]
def o14_129 : Obj := tu0
def o14_130 : Obj := fv "__eq__" "Column.__eq__" (L2.inClass (top 13) 1)
def o14_131 : Obj := fi "code" [(τ "__eq__" 343), (τ "Column.__eq__" 344), (τ "/claim/cut.py" 345), (ι 33), (ι 2), (ι 0), (ι 0), (ι 3), (ρ 126), (.bool true), (ι 181), (ρ 127), .none, (ρ 128), (ρ 129), (ρ 130), (ι 348), (ι 33), (τ "/claim/cut.py" 349)]
def o14_132 : Obj := fu "__eq__" "Column.__eq__" (L2.inClass (top 13) 1) (τ "bucketsums.columns" 310) (ρ 131)
def o14_133 : Obj := tu0
def o14_134 : Obj := fi0
def o14_135 : Obj := tu [(τ "self" 354)]
def o14_136 : Obj := tu0
def o14_137 : Obj := fv "__len__" "Column.__len__" (L2.inClass (top 13) 2)
def o14_138 : Obj := fi "code" [(τ "__len__" 351), (τ "Column.__len__" 352), (τ "/claim/cut.py" 353), (ι 36), (ι 1), (ι 0), (ι 0), (ι 3), (ρ 133), (.bool true), (ι 181), (ρ 134), .none, (ρ 135), (ρ 136), (ρ 137), (ι 355), (ι 36), (τ "/claim/cut.py" 356)]
def o14_139 : Obj := fu "__len__" "Column.__len__" (L2.inClass (top 13) 2) (τ "bucketsums.columns" 310) (ρ 138)
def o14_140 : Obj := tu0
def o14_141 : Obj := fi0
def o14_142 : Obj := tu [(τ "self" 361), (τ "value" 362)]
def o14_143 : Obj := tu0
def o14_144 : Obj := fv "__getitem__" "Column.__getitem__" (L2.inClass (top 13) 3)
def o14_145 : Obj := fi "code" [(τ "__getitem__" 358), (τ "Column.__getitem__" 359), (τ "/claim/cut.py" 360), (ι 39), (ι 2), (ι 0), (ι 0), (ι 3), (ρ 140), (.bool true), (ι 181), (ρ 141), .none, (ρ 142), (ρ 143), (ρ 144), (ι 363), (ι 39), (τ "/claim/cut.py" 364)]
def o14_146 : Obj := fu "__getitem__" "Column.__getitem__" (L2.inClass (top 13) 3) (τ "bucketsums.columns" 310) (ρ 145)
def o14_147 : Obj := tu0
def o14_148 : Obj := fi0
def o14_149 : Obj := tu [(τ "self" 369)]
def o14_150 : Obj := tu0
def o14_151 : Obj := fv "__iter__" "Column.__iter__" (L2.inClass (top 13) 4)
def o14_152 : Obj := fi "code" [(τ "__iter__" 366), (τ "Column.__iter__" 367), (τ "/claim/cut.py" 368), (ι 44), (ι 1), (ι 0), (ι 0), (ι 3), (ρ 147), (.bool true), (ι 181), (ρ 148), .none, (ρ 149), (ρ 150), (ρ 151), (ι 370), (ι 44), (τ "/claim/cut.py" 371)]
def o14_153 : Obj := fu "__iter__" "Column.__iter__" (L2.inClass (top 13) 4) (τ "bucketsums.columns" 310) (ρ 152)
def o14_154 : Obj := tu0
def o14_155 : Obj := fi0
def o14_156 : Obj := tu [(τ "self" 376)]
def o14_157 : Obj := tu0
def o14_158 : Obj := fv "rows" "Column.rows" (L2.inClass (top 13) 5)
def o14_159 : Obj := fi "code" [(τ "rows" 373), (τ "Column.rows" 374), (τ "/claim/cut.py" 375), (ι 47), (ι 1), (ι 0), (ι 0), (ι 3), (ρ 154), (.bool true), (ι 181), (ρ 155), .none, (ρ 156), (ρ 157), (ρ 158), (ι 377), (ι 47), (τ "/claim/cut.py" 378)]
def o14_160 : Obj := fu "rows" "Column.rows" (L2.inClass (top 13) 5) (τ "bucketsums.columns" 310) (ρ 159)
def o14_161 : Obj := tu0
def o14_162 : Obj := fi0
def o14_163 : Obj := fv "prefixes" "Column.prefixes" (L2.inClass (top 13) 6)
def o14_164 : Obj := fi "code" [(τ "prefixes" 380), (τ "Column.prefixes" 381), (τ "/claim/cut.py" 382), (ι 50), (ι 1), (ι 0), (ι 0), (ι 3), (ρ 161), (.bool true), (ι 181), (ρ 162), .none, .none, .none, (ρ 163), (ι 383), (ι 50), (τ "/claim/cut.py" 384)]
def o14_165 : Obj := fu "prefixes" "Column.prefixes" (L2.inClass (top 13) 6) (τ "bucketsums.columns" 310) (ρ 164)
def o14_166 : Obj := tu0
def o14_167 : Obj := fi0
def o14_168 : Obj := tu [(τ "self" 389), (τ "first" 390), (τ "past" 391)]
def o14_169 : Obj := tu0
def o14_170 : Obj := fv "between" "Column.between" (L2.inClass (top 13) 7)
def o14_171 : Obj := fi "code" [(τ "between" 386), (τ "Column.between" 387), (τ "/claim/cut.py" 388), (ι 53), (ι 3), (ι 0), (ι 0), (ι 3), (ρ 166), (.bool true), (ι 181), (ρ 167), .none, (ρ 168), (ρ 169), (ρ 170), (ι 392), (ι 53), (τ "/claim/cut.py" 393)]
def o14_172 : Obj := fu "between" "Column.between" (L2.inClass (top 13) 7) (τ "bucketsums.columns" 310) (ρ 171)
def o14_173 : Obj := tu0
def o14_174 : Obj := fi0
def o14_175 : Obj := tu [(τ "self" 398)]
def o14_176 : Obj := tu0
def o14_177 : Obj := fv "filled" "Column.filled" (L2.inClass (top 13) 8)
def o14_178 : Obj := fi "code" [(τ "filled" 395), (τ "Column.filled" 396), (τ "/claim/cut.py" 397), (ι 56), (ι 1), (ι 0), (ι 0), (ι 3), (ρ 173), (.bool true), (ι 181), (ρ 174), .none, (ρ 175), (ρ 176), (ρ 177), (ι 399), (ι 56), (τ "/claim/cut.py" 400)]
def o14_179 : Obj := fu "filled" "Column.filled" (L2.inClass (top 13) 8) (τ "bucketsums.columns" 310) (ρ 178)
def o14_180 : Obj := tu0
def o14_181 : Obj := fi0
def o14_182 : Obj := fv "steps" "Column.steps" (L2.inClass (top 13) 9)
def o14_183 : Obj := fi "code" [(τ "steps" 402), (τ "Column.steps" 403), (τ "/claim/cut.py" 404), (ι 59), (ι 1), (ι 0), (ι 0), (ι 3), (ρ 180), (.bool true), (ι 181), (ρ 181), .none, .none, .none, (ρ 182), (ι 405), (ι 59), (τ "/claim/cut.py" 406)]
def o14_184 : Obj := fu "steps" "Column.steps" (L2.inClass (top 13) 9) (τ "bucketsums.columns" 310) (ρ 183)
def o14_185 : Obj := tu0
def o14_186 : Obj := fi0
def o14_187 : Obj := tu [(τ "self" 411), (τ "found" 412), (τ "value" 413), (τ "count" 414)]
def o14_188 : Obj := tu0
def o14_189 : Obj := fv "sorted_rows" "Column.sorted_rows" (L2.inClass (top 13) 10)
def o14_190 : Obj := fi "code" [(τ "sorted_rows" 408), (τ "Column.sorted_rows" 409), (τ "/claim/cut.py" 410), (ι 62), (ι 1), (ι 0), (ι 0), (ι 3), (ρ 185), (.bool true), (ι 181), (ρ 186), .none, (ρ 187), (ρ 188), (ρ 189), (ι 415), (ι 62), (τ "/claim/cut.py" 416)]
def o14_191 : Obj := fu "sorted_rows" "Column.sorted_rows" (L2.inClass (top 13) 10) (τ "bucketsums.columns" 310) (ρ 190)
def o14_192 : Obj := tu [(τ "counts" 418)]
def o14_193 (P : Params) : Obj := ⟨(.type "dict"), none, (.dict (([dE P "__module__" 332 (τ "bucketsums.columns" 310), dE P "__firstlineno__" 336 (.int 24 335), dE P "__init__" 342 (ρ 125), dE P "__eq__" 350 (ρ 132), dE P "__len__" 357 (ρ 139), dE P "__getitem__" 365 (ρ 146), dE P "__iter__" 372 (ρ 153), dE P "rows" 379 (ρ 160), dE P "prefixes" 385 (ρ 165), dE P "between" 394 (ρ 172), dE P "filled" 401 (ρ 179), dE P "steps" 407 (ρ 184), dE P "sorted_rows" 417 (ρ 191), dE P "__static_attributes__" 419 (ρ 192), dE P "__dict__" 421 (ρ 195), dE P "__weakref__" 423 (ρ 196), dE P "__doc__" 424 .none, dE P "__hash__" 425 .none] : List DictEntry).toArray) 5), #[]⟩
def o14_194 : Obj := ⟨(.type "type"), none, (.cls ⟨(σ "Column"), [(.type "object")], [(ρ 194), (.type "object")], 193, (σ "Column"), true, [], [], false, none, false⟩), (([none, none, (some (τ "Column" 325)), (some (τ "Column" 333)), (some (.builtin "object.__new__")), (some (.bool true))] : List (Option Value)).toArray)⟩
def o14_195 : Obj := fi "getset_descriptor" [(τ "__dict__" 420), (ρ 194), (.builtin "function.__dict__"), (.builtin "function.__dict__#set")]
def o14_196 : Obj := fi "getset_descriptor" [(τ "__weakref__" 422), (ρ 194), (.builtin "ExceptionGroup.__weakref__"), .none]
def o14_197 : Obj := fi "super" [(ρ 194), (ρ 194), (ρ 194)]
def o14_198 : Obj := fi "builtin_function_or_method" [(.builtin "object.__init_subclass__"), (ρ 194)]
def tr14 (P : Params) : PySem.W.BT := (nd (PySem.W.boot_o_0 P) (nd (PySem.W.boot_o_1 P) (nd (o14_3 P) (nd (PySem.W.boot_o_7 P) (nd o14_15 (nd o14_31 (nd o14_63 (lf o14_127) (lf o14_191)) (nd o14_95 (lf o14_159) .nil)) (nd o14_47 (nd (o14_79 P) (lf o14_143) .nil) (nd o14_111 (lf o14_175) .nil))) (nd o14_23 (nd o14_39 (nd o14_71 (lf o14_135) .nil) (nd (o14_103 P) (lf o14_167) .nil)) (nd (o14_55 P) (nd o14_87 (lf o14_151) .nil) (nd o14_119 (lf o14_183) .nil)))) (nd oa_11 (nd o14_19 (nd o14_35 (nd (o14_67 P) (lf o14_131) (lf o14_195)) (nd o14_99 (lf o14_163) .nil)) (nd o14_51 (nd o14_83 (lf o14_147) .nil) (nd o14_115 (lf o14_179) .nil))) (nd o14_27 (nd (o14_43 P) (nd o14_75 (lf o14_139) .nil) (nd o14_107 (lf o14_171) .nil)) (nd o14_59 (nd (o14_91 P) (lf o14_155) .nil) (nd o14_123 (lf o14_187) .nil))))) (nd (PySem.W.boot_o_5 P) (nd (PySem.W.boot_o_9 P) (nd o14_17 (nd o14_33 (nd o14_65 (lf o14_129) (lf (o14_193 P))) (nd (o14_97 P) (lf o14_161) .nil)) (nd (o14_49 P) (nd o14_81 (lf o14_145) .nil) (nd o14_113 (lf o14_177) .nil))) (nd o14_25 (nd o14_41 (nd (o14_73 P) (lf o14_137) .nil) (nd o14_105 (lf o14_169) .nil)) (nd o14_57 (nd o14_89 (lf o14_153) .nil) (nd o14_121 (lf o14_185) .nil)))) (nd oa_13 (nd o14_21 (nd (o14_37 P) (nd o14_69 (lf o14_133) (lf o14_197)) (nd o14_101 (lf o14_165) .nil)) (nd o14_53 (nd (o14_85 P) (lf o14_149) .nil) (nd o14_117 (lf o14_181) .nil))) (nd o14_29 (nd o14_45 (nd o14_77 (lf o14_141) .nil) (nd o14_109 (lf o14_173) .nil)) (nd (o14_61 P) (nd o14_93 (lf o14_157) .nil) (nd o14_125 (lf o14_189) .nil)))))) (nd (PySem.W.boot_o_2 P) (nd (PySem.W.boot_o_4 P) (nd (PySem.W.boot_o_8 P) (nd o14_16 (nd o14_32 (nd o14_64 (lf o14_128) (lf o14_192)) (nd o14_96 (lf o14_160) .nil)) (nd o14_48 (nd o14_80 (lf o14_144) .nil) (nd o14_112 (lf o14_176) .nil))) (nd (o14_24 P) (nd o14_40 (nd o14_72 (lf o14_136) .nil) (nd o14_104 (lf o14_168) .nil)) (nd o14_56 (nd o14_88 (lf o14_152) .nil) (nd o14_120 (lf o14_184) .nil)))) (nd o14_12 (nd o14_20 (nd o14_36 (nd o14_68 (lf o14_132) (lf o14_196)) (nd o14_100 (lf o14_164) .nil)) (nd o14_52 (nd o14_84 (lf o14_148) .nil) (nd (o14_116 P) (lf o14_180) .nil))) (nd o14_28 (nd o14_44 (nd o14_76 (lf o14_140) .nil) (nd o14_108 (lf o14_172) .nil)) (nd o14_60 (nd o14_92 (lf o14_156) .nil) (nd o14_124 (lf o14_188) .nil))))) (nd (PySem.W.boot_o_6 P) (nd (PySem.W.boot_o_10 P) (nd o14_18 (nd o14_34 (nd o14_66 (lf o14_130) (lf o14_194)) (nd o14_98 (lf o14_162) .nil)) (nd o14_50 (nd o14_82 (lf o14_146) .nil) (nd o14_114 (lf o14_178) .nil))) (nd o14_26 (nd o14_42 (nd o14_74 (lf o14_138) .nil) (nd o14_106 (lf o14_170) .nil)) (nd o14_58 (nd o14_90 (lf o14_154) .nil) (nd o14_122 (lf o14_186) .nil)))) (nd oa_14 (nd o14_22 (nd o14_38 (nd o14_70 (lf o14_134) (lf o14_198)) (nd o14_102 (lf o14_166) .nil)) (nd o14_54 (nd o14_86 (lf o14_150) .nil) (nd o14_118 (lf o14_182) .nil))) (nd (o14_30 P) (nd o14_46 (nd o14_78 (lf o14_142) .nil) (nd o14_110 (lf o14_174) .nil)) (nd o14_62 (nd o14_94 (lf o14_158) .nil) (nd o14_126 (lf o14_190) .nil)))))))
def S14 (w : World) (os : OsState) : SharedT := ⟨tr14 w.params, 199, ⟨[], [], [], 0, [], [], false, #[], [], 0, false, false, false, 0, [2000, 10, 10], false, 0, true, [], [], 0, false⟩, #[], ⟨0, 0, 0, 0⟩, 428, os⟩
def pos14 : Pos := ⟨24, 0, 66, 20⟩
def o49_3 (P : Params) : Obj := ⟨(.type "dict"), none, (.dict (((dE P "__name__" 165 (τ "law_bucketsums_k64_whole_refused_more" 694) :: dE P "__doc__" 166 .none :: dE P "__package__" 167 .none :: dE P "__loader__" 168 (.builtin "__main__.__loader__#opaque") :: dE P "__spec__" 169 .none :: dE P "__annotations__" 170 (ρ 6) :: dE P "__builtins__" 171 (ρ 4) :: dE P "__file__" 173 (τ "/claim/cut.py" 172) :: dE P "__cached__" 174 .none :: dE P "_wall" 193 (ρ 21) :: dE P "SumError" 213 (ρ 31) :: dE P "BadCounts" 229 (ρ 44) :: dE P "BadColumn" 245 (ρ 56) :: dE P "BadValue" 261 (ρ 68) :: dE P "BadNumber" 277 (ρ 80) :: dE P "BadSum" 293 (ρ 92) :: dE P "Unlike" 309 (ρ 104) :: dE P "MOST_VALUES" 313 (.int 12 312) :: dE P "MOST_COUNT" 315 (.int 9 314) :: dE P "is_number" 324 (ρ 113) :: dE P "Column" 427 (ρ 194) :: dE P "check_column" 434 (ρ 205) :: dE P "check_number" 443 (ρ 212) :: dE P "MOST_ROWS" 447 (.int 20 446) :: dE P "check_known" 456 (ρ 219) :: dE P "spread_over" 468 (ρ 226) :: dE P "lowest_with" 477 (ρ 233) :: dE P "highest_with" 487 (ρ 240) :: dE P "row_with" 500 (ρ 247) :: dE P "Ends" 546 (ρ 276) :: dE P "check_asked" 556 (ρ 287) :: dE P "ends_of" 568 (ρ 294) :: dE P "at_least" 578 (ρ 301) :: dE P "reach_both" 590 (ρ 308) :: dE P "rank_values" 602 (ρ 315) :: dE P "check_pair" 612 (ρ 322) :: dE P "flows_of" 618 (ρ 327) :: dE P "Moved" 664 (ρ 356) :: dE P "least_steps" 670 (ρ 365) :: dE P "move_rows" 681 (ρ 372) :: dE P "fewest_changed" 687 (ρ 377) :: dE P "farthest_row" 693 (ρ 382) :: dE P "_law_number" 709 (ρ 389) :: dE P "_law_take" 717 (ρ 396) :: dE P "_law_pick" 725 (ρ 403) :: dE P "_law_is_number" 734 (ρ 410) :: dE P "_law_word" 741 (ρ 417) :: dE P "_law_first" 747 (ρ 422) :: dE P "_law_no" 755 (ρ 429) :: dE P "_law_sums_right" 761 (ρ 434) :: dE P "_law_columns_right" 767 (ρ 439) :: dE P "_law_known_right" 775 (ρ 446) :: dE P "law" 784 (ρ 453) :: []) : List DictEntry).toArray) 53), #[]⟩
def o49_12 : Obj := fn0 ((ι 1) :: (ι 0) :: (ρ 20) :: (ι 5) :: (ι 0) :: (ρ 27) :: (ι 7) :: (ι 0) :: (ρ 40) :: (ι 9) :: (ι 0) :: (ρ 52) :: (ι 11) :: (ι 0) :: (ρ 64) :: (ι 13) :: (ι 0) :: (ρ 76) :: (ι 15) :: (ι 0) :: (ρ 88) :: (ι 17) :: (ι 0) :: (ρ 100) :: (ι 22) :: (ι 0) :: (ρ 112) :: (ι 24) :: (ι 0) :: (ρ 119) :: (ι 67) :: (ι 0) :: (ρ 204) :: (ι 70) :: (ι 0) :: (ρ 211) :: (ι 75) :: (ι 0) :: (ρ 218) :: (ι 80) :: (ι 0) :: (ρ 225) :: (ι 87) :: (ι 0) :: (ρ 232) :: (ι 89) :: (ι 0) :: (ρ 239) :: (ι 91) :: (ι 0) :: (ρ 246) :: (ι 96) :: (ι 0) :: (ρ 253) :: (ι 112) :: (ι 0) :: (ρ 286) :: (ι 116) :: (ι 0) :: (ρ 293) :: (ι 119) :: (ι 0) :: (ρ 300) :: (ι 122) :: (ι 0) :: (ρ 307) :: (ι 126) :: (ι 0) :: (ρ 314) :: (ι 133) :: (ι 0) :: (ρ 321) :: (ι 138) :: (ι 0) :: (ρ 326) :: (ι 140) :: (ι 0) :: (ρ 333) :: (ι 161) :: (ι 0) :: (ρ 364) :: (ι 164) :: (ι 0) :: (ρ 371) :: (ι 170) :: (ι 0) :: (ρ 376) :: (ι 173) :: (ι 0) :: (ρ 381) :: (ι 177) :: (ι 0) :: (ρ 388) :: (ι 184) :: (ι 0) :: (ρ 395) :: (ι 187) :: (ι 0) :: (ρ 402) :: (ι 189) :: (ι 0) :: (ρ 409) :: (ι 191) :: (ι 0) :: (ρ 416) :: (ι 207) :: (ι 0) :: (ρ 421) :: (ι 210) :: (ι 0) :: (ρ 428) :: (ι 212) :: (ι 0) :: (ρ 433) :: (ι 226) :: (ι 0) :: (ρ 438) :: (ι 235) :: (ι 0) :: (ρ 445) :: (ι 250) :: (ι 0) :: (ρ 452) :: [])
def o49_199 : Obj := tu0
def o49_200 : Obj := fi0
def o49_201 : Obj := tu [(τ "column" 431)]
def o49_202 : Obj := tu0
def o49_203 : Obj := fv "check_column" "check_column" (top 14)
def o49_204 : Obj := fi "code" [(τ "check_column" 428), (τ "check_column" 429), (τ "/claim/cut.py" 430), (ι 67), (ι 1), (ι 0), (ι 0), (ι 3), (ρ 199), (.bool true), (ι 181), (ρ 200), .none, (ρ 201), (ρ 202), (ρ 203), (ι 432), (ι 67), (τ "/claim/cut.py" 433)]
def o49_205 : Obj := fu "check_column" "check_column" (top 14) (τ "bucketsums.columns" 310) (ρ 204)
def o49_206 : Obj := tu0
def o49_207 : Obj := fi0
def o49_208 : Obj := tu [(τ "thing" 438), (τ "least" 439), (τ "most" 440)]
def o49_209 : Obj := tu0
def o49_210 : Obj := fv "check_number" "check_number" (top 15)
def o49_211 : Obj := fi "code" [(τ "check_number" 435), (τ "check_number" 436), (τ "/claim/cut.py" 437), (ι 70), (ι 3), (ι 0), (ι 0), (ι 3), (ρ 206), (.bool true), (ι 181), (ρ 207), .none, (ρ 208), (ρ 209), (ρ 210), (ι 441), (ι 70), (τ "/claim/cut.py" 442)]
def o49_212 : Obj := fu "check_number" "check_number" (top 15) (τ "bucketsums.columns" 310) (ρ 211)
def o49_213 : Obj := tu0
def o49_214 : Obj := fi0
def o49_215 : Obj := tu [(τ "rows" 451), (τ "width" 452), (τ "total" 453)]
def o49_216 : Obj := tu0
def o49_217 : Obj := fv "check_known" "check_known" (top 18)
def o49_218 : Obj := fi "code" [(τ "check_known" 448), (τ "check_known" 449), (τ "/claim/cut.py" 450), (ι 75), (ι 3), (ι 0), (ι 0), (ι 3), (ρ 213), (.bool true), (ι 181), (ρ 214), .none, (ρ 215), (ρ 216), (ρ 217), (ι 454), (ι 75), (τ "/claim/cut.py" 455)]
def o49_219 : Obj := fu "check_known" "check_known" (top 18) (τ "bucketsums.means" 444) (ρ 218)
def o49_220 : Obj := tu0
def o49_221 : Obj := fi0
def o49_222 : Obj := tu [(τ "row" 460), (τ "room" 461), (τ "more" 462), (τ "found" 463), (τ "at" 464), (τ "step" 465)]
def o49_223 : Obj := tu0
def o49_224 : Obj := fv "spread_over" "spread_over" (top 19)
def o49_225 : Obj := fi "code" [(τ "spread_over" 457), (τ "spread_over" 458), (τ "/claim/cut.py" 459), (ι 80), (ι 3), (ι 0), (ι 0), (ι 3), (ρ 220), (.bool true), (ι 181), (ρ 221), .none, (ρ 222), (ρ 223), (ρ 224), (ι 466), (ι 80), (τ "/claim/cut.py" 467)]
def o49_226 : Obj := fu "spread_over" "spread_over" (top 19) (τ "bucketsums.means" 444) (ρ 225)
def o49_227 : Obj := tu0
def o49_228 : Obj := fi0
def o49_229 : Obj := tu [(τ "rows" 472), (τ "value" 473), (τ "many" 474)]
def o49_230 : Obj := tu0
def o49_231 : Obj := fv "lowest_with" "lowest_with" (top 20)
def o49_232 : Obj := fi "code" [(τ "lowest_with" 469), (τ "lowest_with" 470), (τ "/claim/cut.py" 471), (ι 87), (ι 3), (ι 0), (ι 0), (ι 3), (ρ 227), (.bool true), (ι 181), (ρ 228), .none, (ρ 229), (ρ 230), (ρ 231), (ι 475), (ι 87), (τ "/claim/cut.py" 476)]
def o49_233 : Obj := fu "lowest_with" "lowest_with" (top 20) (τ "bucketsums.means" 444) (ρ 232)
def o49_234 : Obj := tu0
def o49_235 : Obj := fi0
def o49_236 : Obj := tu [(τ "rows" 481), (τ "width" 482), (τ "value" 483), (τ "many" 484)]
def o49_237 : Obj := tu0
def o49_238 : Obj := fv "highest_with" "highest_with" (top 21)
def o49_239 : Obj := fi "code" [(τ "highest_with" 478), (τ "highest_with" 479), (τ "/claim/cut.py" 480), (ι 89), (ι 4), (ι 0), (ι 0), (ι 3), (ρ 234), (.bool true), (ι 181), (ρ 235), .none, (ρ 236), (ρ 237), (ρ 238), (ι 485), (ι 89), (τ "/claim/cut.py" 486)]
def o49_240 : Obj := fu "highest_with" "highest_with" (top 21) (τ "bucketsums.means" 444) (ρ 239)
def o49_241 : Obj := tu0
def o49_242 : Obj := fi0
def o49_243 : Obj := tu [(τ "rows" 491), (τ "width" 492), (τ "total" 493), (τ "value" 494), (τ "many" 495), (τ "low" 496), (τ "high" 497)]
def o49_244 : Obj := tu0
def o49_245 : Obj := fv "row_with" "row_with" (top 22)
def o49_246 : Obj := fi "code" [(τ "row_with" 488), (τ "row_with" 489), (τ "/claim/cut.py" 490), (ι 91), (ι 5), (ι 0), (ι 0), (ι 3), (ρ 241), (.bool true), (ι 181), (ρ 242), .none, (ρ 243), (ρ 244), (ρ 245), (ι 498), (ι 91), (τ "/claim/cut.py" 499)]
def o49_247 : Obj := fu "row_with" "row_with" (top 22) (τ "bucketsums.means" 444) (ρ 246)
def o49_248 : Obj := tu0
def o49_249 : Obj := fi "builtin_function_or_method" [(.builtin "type.__prepare__"), (.type "type")]
def o49_250 (P : Params) : Obj := ⟨(.type "dict"), none, (.dict (([dE P "__module__" 508 (τ "bucketsums.means" 444), dE P "__qualname__" 510 (τ "Ends" 509), dE P "__firstlineno__" 512 (.int 96 511), dE P "__init__" 521 (ρ 261), dE P "__eq__" 529 (ρ 268), dE P "shows" 535 (ρ 273), dE P "__static_attributes__" 538 (ρ 274)] : List DictEntry).toArray) 7), #[]⟩
def o49_251 : Obj := tu0
def o49_252 : Obj := fn0 [(ι 98), (ι 4), (ρ 260), (ι 102), (ι 4), (ρ 267), (ι 105), (ι 4), (ρ 272)]
def o49_253 : Obj := fi "code" [(τ "Ends" 503), (τ "Ends" 504), (τ "/claim/cut.py" 505), (ι 96), (ι 0), (ι 0), (ι 0), (ι 0), (ρ 251), (.bool false), (ι 181), (ρ 252), .none, .none, .none, .none, (ι 506), (ι 96), (τ "/claim/cut.py" 507)]
def o49_254 : Obj := ⟨(.type "frame"), none, .plain, (([(some (ρ 253)), (some (ρ 3)), (some (ρ 250)), none, (some (τ "bucketsums.means" 444)), none, (some (ρ 0))] : List (Option Value)).toArray)⟩
def o49_255 : Obj := tu0
def o49_256 : Obj := fi0
def o49_257 : Obj := tu [(τ "self" 516), (τ "least" 517), (τ "greatest" 518)]
def o49_258 : Obj := tu0
def o49_259 : Obj := fv "__init__" "Ends.__init__" (L2.inClass (top 23) 0)
def o49_260 : Obj := fi "code" [(τ "__init__" 513), (τ "Ends.__init__" 514), (τ "/claim/cut.py" 515), (ι 98), (ι 3), (ι 0), (ι 0), (ι 3), (ρ 255), (.bool true), (ι 181), (ρ 256), .none, (ρ 257), (ρ 258), (ρ 259), (ι 519), (ι 98), (τ "/claim/cut.py" 520)]
def o49_261 : Obj := fu "__init__" "Ends.__init__" (L2.inClass (top 23) 0) (τ "bucketsums.means" 444) (ρ 260)
def o49_262 : Obj := tu0
def o49_263 : Obj := fi0
def o49_264 : Obj := tu [(τ "self" 525), (τ "other" 526)]
def o49_265 : Obj := tu0
def o49_266 : Obj := fv "__eq__" "Ends.__eq__" (L2.inClass (top 23) 1)
def o49_267 : Obj := fi "code" [(τ "__eq__" 522), (τ "Ends.__eq__" 523), (τ "/claim/cut.py" 524), (ι 102), (ι 2), (ι 0), (ι 0), (ι 3), (ρ 262), (.bool true), (ι 181), (ρ 263), .none, (ρ 264), (ρ 265), (ρ 266), (ι 527), (ι 102), (τ "/claim/cut.py" 528)]
def o49_268 : Obj := fu "__eq__" "Ends.__eq__" (L2.inClass (top 23) 1) (τ "bucketsums.means" 444) (ρ 267)
def o49_269 : Obj := tu0
def o49_270 : Obj := fi0
def o49_271 : Obj := fv "shows" "Ends.shows" (L2.inClass (top 23) 2)
def o49_272 : Obj := fi "code" [(τ "shows" 530), (τ "Ends.shows" 531), (τ "/claim/cut.py" 532), (ι 105), (ι 5), (ι 0), (ι 0), (ι 3), (ρ 269), (.bool true), (ι 181), (ρ 270), .none, .none, .none, (ρ 271), (ι 533), (ι 105), (τ "/claim/cut.py" 534)]
def o49_273 : Obj := fu "shows" "Ends.shows" (L2.inClass (top 23) 2) (τ "bucketsums.means" 444) (ρ 272)
def o49_274 : Obj := tu [(τ "greatest" 536), (τ "least" 537)]
def o49_275 (P : Params) : Obj := ⟨(.type "dict"), none, (.dict (([dE P "__module__" 508 (τ "bucketsums.means" 444), dE P "__firstlineno__" 512 (.int 96 511), dE P "__init__" 521 (ρ 261), dE P "__eq__" 529 (ρ 268), dE P "shows" 535 (ρ 273), dE P "__static_attributes__" 538 (ρ 274), dE P "__dict__" 540 (ρ 277), dE P "__weakref__" 542 (ρ 278), dE P "__doc__" 543 .none, dE P "__hash__" 544 .none] : List DictEntry).toArray) 5), #[]⟩
def o49_276 : Obj := ⟨(.type "type"), none, (.cls ⟨(σ "Ends"), [(.type "object")], [(ρ 276), (.type "object")], 275, (σ "Ends"), true, [], [], false, none, false⟩), (([none, none, (some (τ "Ends" 501)), (some (τ "Ends" 509)), (some (.builtin "object.__new__")), (some (.bool true))] : List (Option Value)).toArray)⟩
def o49_277 : Obj := fi "getset_descriptor" [(τ "__dict__" 539), (ρ 276), (.builtin "function.__dict__"), (.builtin "function.__dict__#set")]
def o49_278 : Obj := fi "getset_descriptor" [(τ "__weakref__" 541), (ρ 276), (.builtin "ExceptionGroup.__weakref__"), .none]
def o49_279 : Obj := fi "super" [(ρ 276), (ρ 276), (ρ 276)]
def o49_280 : Obj := fi "builtin_function_or_method" [(.builtin "object.__init_subclass__"), (ρ 276)]
def o49_281 : Obj := tu0
def o49_282 : Obj := fi0
def o49_283 : Obj := tu [(τ "rows" 550), (τ "width" 551), (τ "total" 552), (τ "value" 553)]
def o49_284 : Obj := tu0
def o49_285 : Obj := fv "check_asked" "check_asked" (top 24)
def o49_286 : Obj := fi "code" [(τ "check_asked" 547), (τ "check_asked" 548), (τ "/claim/cut.py" 549), (ι 112), (ι 4), (ι 0), (ι 0), (ι 3), (ρ 281), (.bool true), (ι 181), (ρ 282), .none, (ρ 283), (ρ 284), (ρ 285), (ι 554), (ι 112), (τ "/claim/cut.py" 555)]
def o49_287 : Obj := fu "check_asked" "check_asked" (top 24) (τ "bucketsums.means" 444) (ρ 286)
def o49_288 : Obj := tu0
def o49_289 : Obj := fi0
def o49_290 : Obj := tu [(τ "rows" 560), (τ "width" 561), (τ "total" 562), (τ "value" 563), (τ "above" 564), (τ "below" 565)]
def o49_291 : Obj := tu0
def o49_292 : Obj := fv "ends_of" "ends_of" (top 25)
def o49_293 : Obj := fi "code" [(τ "ends_of" 557), (τ "ends_of" 558), (τ "/claim/cut.py" 559), (ι 116), (ι 4), (ι 0), (ι 0), (ι 3), (ρ 288), (.bool true), (ι 181), (ρ 289), .none, (ρ 290), (ρ 291), (ρ 292), (ι 566), (ι 116), (τ "/claim/cut.py" 567)]
def o49_294 : Obj := fu "ends_of" "ends_of" (top 25) (τ "bucketsums.means" 444) (ρ 293)
def o49_295 : Obj := tu0
def o49_296 : Obj := fi0
def o49_297 : Obj := tu [(τ "rows" 572), (τ "width" 573), (τ "total" 574), (τ "value" 575)]
def o49_298 : Obj := tu0
def o49_299 : Obj := fv "at_least" "at_least" (top 26)
def o49_300 : Obj := fi "code" [(τ "at_least" 569), (τ "at_least" 570), (τ "/claim/cut.py" 571), (ι 119), (ι 4), (ι 0), (ι 0), (ι 3), (ρ 295), (.bool true), (ι 181), (ρ 296), .none, (ρ 297), (ρ 298), (ρ 299), (ι 576), (ι 119), (τ "/claim/cut.py" 577)]
def o49_301 : Obj := fu "at_least" "at_least" (top 26) (τ "bucketsums.means" 444) (ρ 300)
def o49_302 : Obj := tu0
def o49_303 : Obj := fi0
def o49_304 : Obj := tu [(τ "rows" 582), (τ "width" 583), (τ "total" 584), (τ "value" 585), (τ "low" 586), (τ "high" 587)]
def o49_305 : Obj := tu0
def o49_306 : Obj := fv "reach_both" "reach_both" (top 27)
def o49_307 : Obj := fi "code" [(τ "reach_both" 579), (τ "reach_both" 580), (τ "/claim/cut.py" 581), (ι 122), (ι 4), (ι 0), (ι 0), (ι 3), (ρ 302), (.bool true), (ι 181), (ρ 303), .none, (ρ 304), (ρ 305), (ρ 306), (ι 588), (ι 122), (τ "/claim/cut.py" 589)]
def o49_308 : Obj := fu "reach_both" "reach_both" (top 27) (τ "bucketsums.means" 444) (ρ 307)
def o49_309 : Obj := tu0
def o49_310 : Obj := fi0
def o49_311 : Obj := tu [(τ "rows" 594), (τ "width" 595), (τ "total" 596), (τ "rank" 597), (τ "behind" 598), (τ "least" 599)]
def o49_312 : Obj := tu0
def o49_313 : Obj := fv "rank_values" "rank_values" (top 28)
def o49_314 : Obj := fi "code" [(τ "rank_values" 591), (τ "rank_values" 592), (τ "/claim/cut.py" 593), (ι 126), (ι 4), (ι 0), (ι 0), (ι 3), (ρ 309), (.bool true), (ι 181), (ρ 310), .none, (ρ 311), (ρ 312), (ρ 313), (ι 600), (ι 126), (τ "/claim/cut.py" 601)]
def o49_315 : Obj := fu "rank_values" "rank_values" (top 28) (τ "bucketsums.means" 444) (ρ 314)
def o49_316 : Obj := tu0
def o49_317 : Obj := fi0
def o49_318 : Obj := tu [(τ "one" 608), (τ "other" 609)]
def o49_319 : Obj := tu0
def o49_320 : Obj := fv "check_pair" "check_pair" (top 30)
def o49_321 : Obj := fi "code" [(τ "check_pair" 605), (τ "check_pair" 606), (τ "/claim/cut.py" 607), (ι 133), (ι 2), (ι 0), (ι 0), (ι 3), (ρ 316), (.bool true), (ι 181), (ρ 317), .none, (ρ 318), (ρ 319), (ρ 320), (ι 610), (ι 133), (τ "/claim/cut.py" 611)]
def o49_322 : Obj := fu "check_pair" "check_pair" (top 30) (τ "bucketsums.moving" 603) (ρ 321)
def o49_323 : Obj := tu0
def o49_324 : Obj := fi0
def o49_325 : Obj := fv "flows_of" "flows_of" (top 31)
def o49_326 : Obj := fi "code" [(τ "flows_of" 613), (τ "flows_of" 614), (τ "/claim/cut.py" 615), (ι 138), (ι 2), (ι 0), (ι 0), (ι 3), (ρ 323), (.bool true), (ι 181), (ρ 324), .none, .none, .none, (ρ 325), (ι 616), (ι 138), (τ "/claim/cut.py" 617)]
def o49_327 : Obj := fu "flows_of" "flows_of" (top 31) (τ "bucketsums.moving" 603) (ρ 326)
def o49_328 : Obj := tu0
def o49_329 : Obj := fi "builtin_function_or_method" [(.builtin "type.__prepare__"), (.type "type")]
def o49_330 (P : Params) : Obj := ⟨(.type "dict"), none, (.dict (([dE P "__module__" 626 (τ "bucketsums.moving" 603), dE P "__qualname__" 628 (τ "Moved" 627), dE P "__firstlineno__" 630 (.int 140 629), dE P "__init__" 639 (ρ 341), dE P "__eq__" 647 (ρ 348), dE P "shows" 653 (ρ 353), dE P "__static_attributes__" 656 (ρ 354)] : List DictEntry).toArray) 7), #[]⟩
def o49_331 : Obj := tu0
def o49_332 : Obj := fn0 [(ι 142), (ι 4), (ρ 340), (ι 146), (ι 4), (ρ 347), (ι 149), (ι 4), (ρ 352)]
def o49_333 : Obj := fi "code" [(τ "Moved" 621), (τ "Moved" 622), (τ "/claim/cut.py" 623), (ι 140), (ι 0), (ι 0), (ι 0), (ι 0), (ρ 331), (.bool false), (ι 181), (ρ 332), .none, .none, .none, .none, (ι 624), (ι 140), (τ "/claim/cut.py" 625)]
def o49_334 : Obj := ⟨(.type "frame"), none, .plain, (([(some (ρ 333)), (some (ρ 3)), (some (ρ 330)), none, (some (τ "bucketsums.moving" 603)), none, (some (ρ 0))] : List (Option Value)).toArray)⟩
def o49_335 : Obj := tu0
def o49_336 : Obj := fi0
def o49_337 : Obj := tu [(τ "self" 634), (τ "flows" 635), (τ "heights" 636)]
def o49_338 : Obj := tu0
def o49_339 : Obj := fv "__init__" "Moved.__init__" (L2.inClass (top 32) 0)
def o49_340 : Obj := fi "code" [(τ "__init__" 631), (τ "Moved.__init__" 632), (τ "/claim/cut.py" 633), (ι 142), (ι 3), (ι 0), (ι 0), (ι 3), (ρ 335), (.bool true), (ι 181), (ρ 336), .none, (ρ 337), (ρ 338), (ρ 339), (ι 637), (ι 142), (τ "/claim/cut.py" 638)]
def o49_341 : Obj := fu "__init__" "Moved.__init__" (L2.inClass (top 32) 0) (τ "bucketsums.moving" 603) (ρ 340)
def o49_342 : Obj := tu0
def o49_343 : Obj := fi0
def o49_344 : Obj := tu [(τ "self" 643), (τ "other" 644)]
def o49_345 : Obj := tu0
def o49_346 : Obj := fv "__eq__" "Moved.__eq__" (L2.inClass (top 32) 1)
def o49_347 : Obj := fi "code" [(τ "__eq__" 640), (τ "Moved.__eq__" 641), (τ "/claim/cut.py" 642), (ι 146), (ι 2), (ι 0), (ι 0), (ι 3), (ρ 342), (.bool true), (ι 181), (ρ 343), .none, (ρ 344), (ρ 345), (ρ 346), (ι 645), (ι 146), (τ "/claim/cut.py" 646)]
def o49_348 : Obj := fu "__eq__" "Moved.__eq__" (L2.inClass (top 32) 1) (τ "bucketsums.moving" 603) (ρ 347)
def o49_349 : Obj := tu0
def o49_350 : Obj := fi0
def o49_351 : Obj := fv "shows" "Moved.shows" (L2.inClass (top 32) 2)
def o49_352 : Obj := fi "code" [(τ "shows" 648), (τ "Moved.shows" 649), (τ "/claim/cut.py" 650), (ι 149), (ι 3), (ι 0), (ι 0), (ι 3), (ρ 349), (.bool true), (ι 181), (ρ 350), .none, .none, .none, (ρ 351), (ι 651), (ι 149), (τ "/claim/cut.py" 652)]
def o49_353 : Obj := fu "shows" "Moved.shows" (L2.inClass (top 32) 2) (τ "bucketsums.moving" 603) (ρ 352)
def o49_354 : Obj := tu [(τ "flows" 654), (τ "heights" 655)]
def o49_355 (P : Params) : Obj := ⟨(.type "dict"), none, (.dict (([dE P "__module__" 626 (τ "bucketsums.moving" 603), dE P "__firstlineno__" 630 (.int 140 629), dE P "__init__" 639 (ρ 341), dE P "__eq__" 647 (ρ 348), dE P "shows" 653 (ρ 353), dE P "__static_attributes__" 656 (ρ 354), dE P "__dict__" 658 (ρ 357), dE P "__weakref__" 660 (ρ 358), dE P "__doc__" 661 .none, dE P "__hash__" 662 .none] : List DictEntry).toArray) 5), #[]⟩
def o49_356 : Obj := ⟨(.type "type"), none, (.cls ⟨(σ "Moved"), [(.type "object")], [(ρ 356), (.type "object")], 355, (σ "Moved"), true, [], [], false, none, false⟩), (([none, none, (some (τ "Moved" 619)), (some (τ "Moved" 627)), (some (.builtin "object.__new__")), (some (.bool true))] : List (Option Value)).toArray)⟩
def o49_357 : Obj := fi "getset_descriptor" [(τ "__dict__" 657), (ρ 356), (.builtin "function.__dict__"), (.builtin "function.__dict__#set")]
def o49_358 : Obj := fi "getset_descriptor" [(τ "__weakref__" 659), (ρ 356), (.builtin "ExceptionGroup.__weakref__"), .none]
def o49_359 : Obj := fi "super" [(ρ 356), (ρ 356), (ρ 356)]
def o49_360 : Obj := fi "builtin_function_or_method" [(.builtin "object.__init_subclass__"), (ρ 356)]
def o49_361 : Obj := tu0
def o49_362 : Obj := fi0
def o49_363 : Obj := fv "least_steps" "least_steps" (top 33)
def o49_364 : Obj := fi "code" [(τ "least_steps" 665), (τ "least_steps" 666), (τ "/claim/cut.py" 667), (ι 161), (ι 2), (ι 0), (ι 0), (ι 3), (ρ 361), (.bool true), (ι 181), (ρ 362), .none, .none, .none, (ρ 363), (ι 668), (ι 161), (τ "/claim/cut.py" 669)]
def o49_365 : Obj := fu "least_steps" "least_steps" (top 33) (τ "bucketsums.moving" 603) (ρ 364)
def o49_366 : Obj := tu0
def o49_367 : Obj := fi0
def o49_368 : Obj := tu [(τ "one" 674), (τ "other" 675), (τ "flows" 676), (τ "heights" 677), (τ "flow" 678)]
def o49_369 : Obj := tu0
def o49_370 : Obj := fv "move_rows" "move_rows" (top 34)
def o49_371 : Obj := fi "code" [(τ "move_rows" 671), (τ "move_rows" 672), (τ "/claim/cut.py" 673), (ι 164), (ι 2), (ι 0), (ι 0), (ι 3), (ρ 366), (.bool true), (ι 181), (ρ 367), .none, (ρ 368), (ρ 369), (ρ 370), (ι 679), (ι 164), (τ "/claim/cut.py" 680)]
def o49_372 : Obj := fu "move_rows" "move_rows" (top 34) (τ "bucketsums.moving" 603) (ρ 371)
def o49_373 : Obj := tu0
def o49_374 : Obj := fi0
def o49_375 : Obj := fv "fewest_changed" "fewest_changed" (top 35)
def o49_376 : Obj := fi "code" [(τ "fewest_changed" 682), (τ "fewest_changed" 683), (τ "/claim/cut.py" 684), (ι 170), (ι 2), (ι 0), (ι 0), (ι 3), (ρ 373), (.bool true), (ι 181), (ρ 374), .none, .none, .none, (ρ 375), (ι 685), (ι 170), (τ "/claim/cut.py" 686)]
def o49_377 : Obj := fu "fewest_changed" "fewest_changed" (top 35) (τ "bucketsums.moving" 603) (ρ 376)
def o49_378 : Obj := tu0
def o49_379 : Obj := fi0
def o49_380 : Obj := fv "farthest_row" "farthest_row" (top 36)
def o49_381 : Obj := fi "code" [(τ "farthest_row" 688), (τ "farthest_row" 689), (τ "/claim/cut.py" 690), (ι 173), (ι 2), (ι 0), (ι 0), (ι 3), (ρ 378), (.bool true), (ι 181), (ρ 379), .none, .none, .none, (ρ 380), (ι 691), (ι 173), (τ "/claim/cut.py" 692)]
def o49_382 : Obj := fu "farthest_row" "farthest_row" (top 36) (τ "bucketsums.moving" 603) (ρ 381)
def o49_383 : Obj := tu0
def o49_384 : Obj := fi0
def o49_385 : Obj := tu [(τ "_law_script" 699), (τ "_law_index" 700), (τ "_law_cells" 701), (τ "_law_cell" 702), (τ "_law_low" 703), (τ "_law_high" 704), (τ "_law_total" 705), (τ "_law_blend" 706)]
def o49_386 : Obj := tu0
def o49_387 : Obj := fv "_law_number" "_law_number" (top 38)
def o49_388 : Obj := fi "code" [(τ "_law_number" 696), (τ "_law_number" 697), (τ "/claim/cut.py" 698), (ι 177), (ι 2), (ι 0), (ι 0), (ι 3), (ρ 383), (.bool true), (ι 181), (ρ 384), .none, (ρ 385), (ρ 386), (ρ 387), (ι 707), (ι 177), (τ "/claim/cut.py" 708)]
def o49_389 : Obj := fu "_law_number" "_law_number" (top 38) (τ "law_bucketsums_k64_whole_refused_more" 694) (ρ 388)
def o49_390 : Obj := tu0
def o49_391 : Obj := fi0
def o49_392 : Obj := tu [(τ "_law_draw" 713), (τ "_law_many" 714)]
def o49_393 : Obj := tu0
def o49_394 : Obj := fv "_law_take" "_law_take" (top 39)
def o49_395 : Obj := fi "code" [(τ "_law_take" 710), (τ "_law_take" 711), (τ "/claim/cut.py" 712), (ι 184), (ι 2), (ι 0), (ι 0), (ι 3), (ρ 390), (.bool true), (ι 181), (ρ 391), .none, (ρ 392), (ρ 393), (ρ 394), (ι 715), (ι 184), (τ "/claim/cut.py" 716)]
def o49_396 : Obj := fu "_law_take" "_law_take" (top 39) (τ "law_bucketsums_k64_whole_refused_more" 694) (ρ 395)
def o49_397 : Obj := tu0
def o49_398 : Obj := fi0
def o49_399 : Obj := tu [(τ "_law_draw" 721), (τ "_law_things" 722)]
def o49_400 : Obj := tu0
def o49_401 : Obj := fv "_law_pick" "_law_pick" (top 40)
def o49_402 : Obj := fi "code" [(τ "_law_pick" 718), (τ "_law_pick" 719), (τ "/claim/cut.py" 720), (ι 187), (ι 2), (ι 0), (ι 0), (ι 3), (ρ 397), (.bool true), (ι 181), (ρ 398), .none, (ρ 399), (ρ 400), (ρ 401), (ι 723), (ι 187), (τ "/claim/cut.py" 724)]
def o49_403 : Obj := fu "_law_pick" "_law_pick" (top 40) (τ "law_bucketsums_k64_whole_refused_more" 694) (ρ 402)
def o49_404 : Obj := tu0
def o49_405 : Obj := fi0
def o49_406 : Obj := tu [(τ "_law_thing" 729), (τ "_law_low" 730), (τ "_law_high" 731)]
def o49_407 : Obj := tu0
def o49_408 : Obj := fv "_law_is_number" "_law_is_number" (top 41)
def o49_409 : Obj := fi "code" [(τ "_law_is_number" 726), (τ "_law_is_number" 727), (τ "/claim/cut.py" 728), (ι 189), (ι 3), (ι 0), (ι 0), (ι 3), (ρ 404), (.bool true), (ι 181), (ρ 405), .none, (ρ 406), (ρ 407), (ρ 408), (ι 732), (ι 189), (τ "/claim/cut.py" 733)]
def o49_410 : Obj := fu "_law_is_number" "_law_is_number" (top 41) (τ "law_bucketsums_k64_whole_refused_more" 694) (ρ 409)
def o49_411 : Obj := tu0
def o49_412 : Obj := fi0
def o49_413 : Obj := tu [(τ "_law_call" 738)]
def o49_414 : Obj := tu0
def o49_415 : Obj := fv "_law_word" "_law_word" (top 42)
def o49_416 : Obj := fi "code" [(τ "_law_word" 735), (τ "_law_word" 736), (τ "/claim/cut.py" 737), (ι 191), (ι 1), (ι 0), (ι 0), (ι 3), (ρ 411), (.bool true), (ι 181), (ρ 412), .none, (ρ 413), (ρ 414), (ρ 415), (ι 739), (ι 191), (τ "/claim/cut.py" 740)]
def o49_417 : Obj := fu "_law_word" "_law_word" (top 42) (τ "law_bucketsums_k64_whole_refused_more" 694) (ρ 416)
def o49_418 : Obj := tu0
def o49_419 : Obj := fi0
def o49_420 : Obj := fv "_law_first" "_law_first" (top 43)
def o49_421 : Obj := fi "code" [(τ "_law_first" 742), (τ "_law_first" 743), (τ "/claim/cut.py" 744), (ι 207), (ι 1), (ι 0), (ι 0), (ι 3), (ρ 418), (.bool true), (ι 181), (ρ 419), .none, .none, .none, (ρ 420), (ι 745), (ι 207), (τ "/claim/cut.py" 746)]
def o49_422 : Obj := fu "_law_first" "_law_first" (top 43) (τ "law_bucketsums_k64_whole_refused_more" 694) (ρ 421)
def o49_423 : Obj := tu0
def o49_424 : Obj := fi0
def o49_425 : Obj := tu [(τ "_law_is_good_now" 751), (τ "_law_word_here" 752)]
def o49_426 : Obj := tu0
def o49_427 : Obj := fv "_law_no" "_law_no" (top 44)
def o49_428 : Obj := fi "code" [(τ "_law_no" 748), (τ "_law_no" 749), (τ "/claim/cut.py" 750), (ι 210), (ι 2), (ι 0), (ι 0), (ι 3), (ρ 423), (.bool true), (ι 181), (ρ 424), .none, (ρ 425), (ρ 426), (ρ 427), (ι 753), (ι 210), (τ "/claim/cut.py" 754)]
def o49_429 : Obj := fu "_law_no" "_law_no" (top 44) (τ "law_bucketsums_k64_whole_refused_more" 694) (ρ 428)
def o49_430 : Obj := tu0
def o49_431 : Obj := fi0
def o49_432 : Obj := fv "_law_sums_right" "_law_sums_right" (top 45)
def o49_433 : Obj := fi "code" [(τ "_law_sums_right" 756), (τ "_law_sums_right" 757), (τ "/claim/cut.py" 758), (ι 212), (ι 1), (ι 0), (ι 0), (ι 3), (ρ 430), (.bool true), (ι 181), (ρ 431), .none, .none, .none, (ρ 432), (ι 759), (ι 212), (τ "/claim/cut.py" 760)]
def o49_434 : Obj := fu "_law_sums_right" "_law_sums_right" (top 45) (τ "law_bucketsums_k64_whole_refused_more" 694) (ρ 433)
def o49_435 : Obj := tu0
def o49_436 : Obj := fi0
def o49_437 : Obj := fv "_law_columns_right" "_law_columns_right" (top 46)
def o49_438 : Obj := fi "code" [(τ "_law_columns_right" 762), (τ "_law_columns_right" 763), (τ "/claim/cut.py" 764), (ι 226), (ι 1), (ι 0), (ι 0), (ι 3), (ρ 435), (.bool true), (ι 181), (ρ 436), .none, .none, .none, (ρ 437), (ι 765), (ι 226), (τ "/claim/cut.py" 766)]
def o49_439 : Obj := fu "_law_columns_right" "_law_columns_right" (top 46) (τ "law_bucketsums_k64_whole_refused_more" 694) (ρ 438)
def o49_440 : Obj := tu0
def o49_441 : Obj := fi0
def o49_442 : Obj := tu [(τ "_law_far" 771), (τ "_law_near" 772)]
def o49_443 : Obj := tu0
def o49_444 : Obj := fv "_law_known_right" "_law_known_right" (top 47)
def o49_445 : Obj := fi "code" [(τ "_law_known_right" 768), (τ "_law_known_right" 769), (τ "/claim/cut.py" 770), (ι 235), (ι 0), (ι 0), (ι 0), (ι 3), (ρ 440), (.bool true), (ι 181), (ρ 441), .none, (ρ 442), (ρ 443), (ρ 444), (ι 773), (ι 235), (τ "/claim/cut.py" 774)]
def o49_446 : Obj := fu "_law_known_right" "_law_known_right" (top 47) (τ "law_bucketsums_k64_whole_refused_more" 694) (ρ 445)
def o49_447 : Obj := tu0
def o49_448 : Obj := fi0
def o49_449 : Obj := tu [(τ "_law_script" 779), (τ "_law_draw" 780), (τ "_law_turn" 781)]
def o49_450 : Obj := tu0
def o49_451 : Obj := fv "law" "law" (top 48)
def o49_452 : Obj := fi "code" [(τ "law" 776), (τ "law" 777), (τ "/claim/cut.py" 778), (ι 250), (ι 1), (ι 0), (ι 0), (ι 3), (ρ 447), (.bool true), (ι 181), (ρ 448), .none, (ρ 449), (ρ 450), (ρ 451), (ι 782), (ι 250), (τ "/claim/cut.py" 783)]
def o49_453 : Obj := fu "law" "law" (top 48) (τ "law_bucketsums_k64_whole_refused_more" 694) (ρ 452)
def tr49 (P : Params) : PySem.W.BT := (nd (PySem.W.boot_o_0 P) (nd (PySem.W.boot_o_1 P) (nd (o49_3 P) (nd (PySem.W.boot_o_7 P) (nd o14_15 (nd o14_31 (nd o14_63 (nd o14_127 (lf o49_255) (lf o49_383)) (nd o14_191 (lf o49_319) (lf o49_447))) (nd o14_95 (nd o14_159 (lf o49_287) (lf o49_415)) (nd o49_223 (lf o49_351) .nil))) (nd o14_47 (nd (o14_79 P) (nd o14_143 (lf o49_271) (lf o49_399)) (nd o49_207 (lf o49_335) .nil)) (nd o14_111 (nd o14_175 (lf o49_303) (lf o49_431)) (nd o49_239 (lf o49_367) .nil)))) (nd o14_23 (nd o14_39 (nd o14_71 (nd o14_135 (lf o49_263) (lf o49_391)) (nd o49_199 (lf o49_327) .nil)) (nd (o14_103 P) (nd o14_167 (lf o49_295) (lf o49_423)) (nd o49_231 (lf o49_359) .nil))) (nd (o14_55 P) (nd o14_87 (nd o14_151 (lf o49_279) (lf o49_407)) (nd o49_215 (lf o49_343) .nil)) (nd o14_119 (nd o14_183 (lf o49_311) (lf o49_439)) (nd o49_247 (lf o49_375) .nil))))) (nd oa_11 (nd o14_19 (nd o14_35 (nd (o14_67 P) (nd o14_131 (lf o49_259) (lf o49_387)) (nd o14_195 (lf o49_323) (lf o49_451))) (nd o14_99 (nd o14_163 (lf o49_291) (lf o49_419)) (nd o49_227 (lf (o49_355 P)) .nil))) (nd o14_51 (nd o14_83 (nd o14_147 (lf (o49_275 P)) (lf o49_403)) (nd o49_211 (lf o49_339) .nil)) (nd o14_115 (nd o14_179 (lf o49_307) (lf o49_435)) (nd o49_243 (lf o49_371) .nil)))) (nd o14_27 (nd (o14_43 P) (nd o14_75 (nd o14_139 (lf o49_267) (lf o49_395)) (nd o49_203 (lf o49_331) .nil)) (nd o14_107 (nd o14_171 (lf o49_299) (lf o49_427)) (nd o49_235 (lf o49_363) .nil))) (nd o14_59 (nd (o14_91 P) (nd o14_155 (lf o49_283) (lf o49_411)) (nd o49_219 (lf o49_347) .nil)) (nd o14_123 (nd o14_187 (lf o49_315) (lf o49_443)) (nd o49_251 (lf o49_379) .nil)))))) (nd (PySem.W.boot_o_5 P) (nd (PySem.W.boot_o_9 P) (nd o14_17 (nd o14_33 (nd o14_65 (nd o14_129 (lf o49_257) (lf o49_385)) (nd (o14_193 P) (lf o49_321) (lf o49_449))) (nd (o14_97 P) (nd o14_161 (lf o49_289) (lf o49_417)) (nd o49_225 (lf o49_353) .nil))) (nd (o14_49 P) (nd o14_81 (nd o14_145 (lf o49_273) (lf o49_401)) (nd o49_209 (lf o49_337) .nil)) (nd o14_113 (nd o14_177 (lf o49_305) (lf o49_433)) (nd o49_241 (lf o49_369) .nil)))) (nd o14_25 (nd o14_41 (nd (o14_73 P) (nd o14_137 (lf o49_265) (lf o49_393)) (nd o49_201 (lf o49_329) .nil)) (nd o14_105 (nd o14_169 (lf o49_297) (lf o49_425)) (nd o49_233 (lf o49_361) .nil))) (nd o14_57 (nd o14_89 (nd o14_153 (lf o49_281) (lf o49_409)) (nd o49_217 (lf o49_345) .nil)) (nd o14_121 (nd o14_185 (lf o49_313) (lf o49_441)) (nd o49_249 (lf o49_377) .nil))))) (nd oa_13 (nd o14_21 (nd (o14_37 P) (nd o14_69 (nd o14_133 (lf o49_261) (lf o49_389)) (nd o14_197 (lf o49_325) (lf o49_453))) (nd o14_101 (nd o14_165 (lf o49_293) (lf o49_421)) (nd o49_229 (lf o49_357) .nil))) (nd o14_53 (nd (o14_85 P) (nd o14_149 (lf o49_277) (lf o49_405)) (nd o49_213 (lf o49_341) .nil)) (nd o14_117 (nd o14_181 (lf o49_309) (lf o49_437)) (nd o49_245 (lf o49_373) .nil)))) (nd o14_29 (nd o14_45 (nd o14_77 (nd o14_141 (lf o49_269) (lf o49_397)) (nd o49_205 (lf o49_333) .nil)) (nd o14_109 (nd o14_173 (lf o49_301) (lf o49_429)) (nd o49_237 (lf o49_365) .nil))) (nd (o14_61 P) (nd o14_93 (nd o14_157 (lf o49_285) (lf o49_413)) (nd o49_221 (lf o49_349) .nil)) (nd o14_125 (nd o14_189 (lf o49_317) (lf o49_445)) (nd o49_253 (lf o49_381) .nil))))))) (nd (PySem.W.boot_o_2 P) (nd (PySem.W.boot_o_4 P) (nd (PySem.W.boot_o_8 P) (nd o14_16 (nd o14_32 (nd o14_64 (nd o14_128 (lf o49_256) (lf o49_384)) (nd o14_192 (lf o49_320) (lf o49_448))) (nd o14_96 (nd o14_160 (lf o49_288) (lf o49_416)) (nd o49_224 (lf o49_352) .nil))) (nd o14_48 (nd o14_80 (nd o14_144 (lf o49_272) (lf o49_400)) (nd o49_208 (lf o49_336) .nil)) (nd o14_112 (nd o14_176 (lf o49_304) (lf o49_432)) (nd o49_240 (lf o49_368) .nil)))) (nd (o14_24 P) (nd o14_40 (nd o14_72 (nd o14_136 (lf o49_264) (lf o49_392)) (nd o49_200 (lf o49_328) .nil)) (nd o14_104 (nd o14_168 (lf o49_296) (lf o49_424)) (nd o49_232 (lf o49_360) .nil))) (nd o14_56 (nd o14_88 (nd o14_152 (lf o49_280) (lf o49_408)) (nd o49_216 (lf o49_344) .nil)) (nd o14_120 (nd o14_184 (lf o49_312) (lf o49_440)) (nd o49_248 (lf o49_376) .nil))))) (nd o49_12 (nd o14_20 (nd o14_36 (nd o14_68 (nd o14_132 (lf o49_260) (lf o49_388)) (nd o14_196 (lf o49_324) (lf o49_452))) (nd o14_100 (nd o14_164 (lf o49_292) (lf o49_420)) (nd o49_228 (lf o49_356) .nil))) (nd o14_52 (nd o14_84 (nd o14_148 (lf o49_276) (lf o49_404)) (nd o49_212 (lf o49_340) .nil)) (nd (o14_116 P) (nd o14_180 (lf o49_308) (lf o49_436)) (nd o49_244 (lf o49_372) .nil)))) (nd o14_28 (nd o14_44 (nd o14_76 (nd o14_140 (lf o49_268) (lf o49_396)) (nd o49_204 (lf o49_332) .nil)) (nd o14_108 (nd o14_172 (lf o49_300) (lf o49_428)) (nd o49_236 (lf o49_364) .nil))) (nd o14_60 (nd o14_92 (nd o14_156 (lf o49_284) (lf o49_412)) (nd o49_220 (lf o49_348) .nil)) (nd o14_124 (nd o14_188 (lf o49_316) (lf o49_444)) (nd o49_252 (lf o49_380) .nil)))))) (nd (PySem.W.boot_o_6 P) (nd (PySem.W.boot_o_10 P) (nd o14_18 (nd o14_34 (nd o14_66 (nd o14_130 (lf o49_258) (lf o49_386)) (nd o14_194 (lf o49_322) (lf o49_450))) (nd o14_98 (nd o14_162 (lf o49_290) (lf o49_418)) (nd o49_226 (lf o49_354) .nil))) (nd o14_50 (nd o14_82 (nd o14_146 (lf o49_274) (lf o49_402)) (nd o49_210 (lf o49_338) .nil)) (nd o14_114 (nd o14_178 (lf o49_306) (lf o49_434)) (nd o49_242 (lf o49_370) .nil)))) (nd o14_26 (nd o14_42 (nd o14_74 (nd o14_138 (lf o49_266) (lf o49_394)) (nd o49_202 (lf (o49_330 P)) .nil)) (nd o14_106 (nd o14_170 (lf o49_298) (lf o49_426)) (nd o49_234 (lf o49_362) .nil))) (nd o14_58 (nd o14_90 (nd o14_154 (lf o49_282) (lf o49_410)) (nd o49_218 (lf o49_346) .nil)) (nd o14_122 (nd o14_186 (lf o49_314) (lf o49_442)) (nd (o49_250 P) (lf o49_378) .nil))))) (nd oa_14 (nd o14_22 (nd o14_38 (nd o14_70 (nd o14_134 (lf o49_262) (lf o49_390)) (nd o14_198 (lf o49_326) .nil)) (nd o14_102 (nd o14_166 (lf o49_294) (lf o49_422)) (nd o49_230 (lf o49_358) .nil))) (nd o14_54 (nd o14_86 (nd o14_150 (lf o49_278) (lf o49_406)) (nd o49_214 (lf o49_342) .nil)) (nd o14_118 (nd o14_182 (lf o49_310) (lf o49_438)) (nd o49_246 (lf o49_374) .nil)))) (nd (o14_30 P) (nd o14_46 (nd o14_78 (nd o14_142 (lf o49_270) (lf o49_398)) (nd o49_206 (lf o49_334) .nil)) (nd o14_110 (nd o14_174 (lf o49_302) (lf o49_430)) (nd o49_238 (lf o49_366) .nil))) (nd o14_62 (nd o14_94 (nd o14_158 (lf o49_286) (lf o49_414)) (nd o49_222 (lf o49_350) .nil)) (nd o14_126 (nd o14_190 (lf o49_318) (lf o49_446)) (nd o49_254 (lf o49_382) .nil))))))))
def S49 (w : World) (os : OsState) : SharedT := ⟨tr49 w.params, 454, ⟨[], [], [], 0, [], [], false, #[], [], 0, false, false, false, 0, [2000, 10, 10], false, 0, true, [], [], 0, false⟩, #[], ⟨0, 0, 0, 0⟩, 785, os⟩
def pos49 : Pos := ⟨250, 0, 255, 15⟩
def trz (P : Params) : PySem.W.BT := (nd (PySem.W.boot_o_0 P) (nd (PySem.W.boot_o_1 P) (nd (o49_3 P) (nd (PySem.W.boot_o_7 P) (nd o14_15 (nd o14_31 (nd o14_63 (nd o14_127 (lf o49_255) (lf o49_383)) (nd o14_191 (lf o49_319) (lf o49_447))) (nd o14_95 (nd o14_159 (lf o49_287) (lf o49_415)) (nd o49_223 (lf o49_351) .nil))) (nd o14_47 (nd (o14_79 P) (nd o14_143 (lf o49_271) (lf o49_399)) (nd o49_207 (lf o49_335) .nil)) (nd o14_111 (nd o14_175 (lf o49_303) (lf o49_431)) (nd o49_239 (lf o49_367) .nil)))) (nd o14_23 (nd o14_39 (nd o14_71 (nd o14_135 (lf o49_263) (lf o49_391)) (nd o49_199 (lf o49_327) .nil)) (nd (o14_103 P) (nd o14_167 (lf o49_295) (lf o49_423)) (nd o49_231 (lf o49_359) .nil))) (nd (o14_55 P) (nd o14_87 (nd o14_151 (lf o49_279) (lf o49_407)) (nd o49_215 (lf o49_343) .nil)) (nd o14_119 (nd o14_183 (lf o49_311) (lf o49_439)) (nd o49_247 (lf o49_375) .nil))))) (nd oa_11 (nd o14_19 (nd o14_35 (nd (o14_67 P) (nd o14_131 (lf o49_259) (lf o49_387)) (nd o14_195 (lf o49_323) (lf o49_451))) (nd o14_99 (nd o14_163 (lf o49_291) (lf o49_419)) (nd o49_227 (lf (o49_355 P)) .nil))) (nd o14_51 (nd o14_83 (nd o14_147 (lf (o49_275 P)) (lf o49_403)) (nd o49_211 (lf o49_339) .nil)) (nd o14_115 (nd o14_179 (lf o49_307) (lf o49_435)) (nd o49_243 (lf o49_371) .nil)))) (nd o14_27 (nd (o14_43 P) (nd o14_75 (nd o14_139 (lf o49_267) (lf o49_395)) (nd o49_203 (lf o49_331) .nil)) (nd o14_107 (nd o14_171 (lf o49_299) (lf o49_427)) (nd o49_235 (lf o49_363) .nil))) (nd o14_59 (nd (o14_91 P) (nd o14_155 (lf o49_283) (lf o49_411)) (nd o49_219 (lf o49_347) .nil)) (nd o14_123 (nd o14_187 (lf o49_315) (lf o49_443)) (nd o49_251 (lf o49_379) .nil)))))) (nd (PySem.W.boot_o_5 P) (nd (PySem.W.boot_o_9 P) (nd o14_17 (nd o14_33 (nd o14_65 (nd o14_129 (lf o49_257) (lf o49_385)) (nd (o14_193 P) (lf o49_321) (lf o49_449))) (nd (o14_97 P) (nd o14_161 (lf o49_289) (lf o49_417)) (nd o49_225 (lf o49_353) .nil))) (nd (o14_49 P) (nd o14_81 (nd o14_145 (lf o49_273) (lf o49_401)) (nd o49_209 (lf o49_337) .nil)) (nd o14_113 (nd o14_177 (lf o49_305) (lf o49_433)) (nd o49_241 (lf o49_369) .nil)))) (nd o14_25 (nd o14_41 (nd (o14_73 P) (nd o14_137 (lf o49_265) (lf o49_393)) (nd o49_201 (lf o49_329) .nil)) (nd o14_105 (nd o14_169 (lf o49_297) (lf o49_425)) (nd o49_233 (lf o49_361) .nil))) (nd o14_57 (nd o14_89 (nd o14_153 (lf o49_281) (lf o49_409)) (nd o49_217 (lf o49_345) .nil)) (nd o14_121 (nd o14_185 (lf o49_313) (lf o49_441)) (nd o49_249 (lf o49_377) .nil))))) (nd oa_13 (nd o14_21 (nd (o14_37 P) (nd o14_69 (nd o14_133 (lf o49_261) (lf o49_389)) (nd o14_197 (lf o49_325) (lf o49_453))) (nd o14_101 (nd o14_165 (lf o49_293) (lf o49_421)) (nd o49_229 (lf o49_357) .nil))) (nd o14_53 (nd (o14_85 P) (nd o14_149 (lf o49_277) (lf o49_405)) (nd o49_213 (lf o49_341) .nil)) (nd o14_117 (nd o14_181 (lf o49_309) (lf o49_437)) (nd o49_245 (lf o49_373) .nil)))) (nd o14_29 (nd o14_45 (nd o14_77 (nd o14_141 (lf o49_269) (lf o49_397)) (nd o49_205 (lf o49_333) .nil)) (nd o14_109 (nd o14_173 (lf o49_301) (lf o49_429)) (nd o49_237 (lf o49_365) .nil))) (nd (o14_61 P) (nd o14_93 (nd o14_157 (lf o49_285) (lf o49_413)) (nd o49_221 (lf o49_349) .nil)) (nd o14_125 (nd o14_189 (lf o49_317) (lf o49_445)) (nd o49_253 (lf o49_381) .nil))))))) (nd (PySem.W.boot_o_2 P) (nd (PySem.W.boot_o_4 P) (nd (PySem.W.boot_o_8 P) (nd o14_16 (nd o14_32 (nd o14_64 (nd o14_128 (lf o49_256) (lf o49_384)) (nd o14_192 (lf o49_320) (lf o49_448))) (nd o14_96 (nd o14_160 (lf o49_288) (lf o49_416)) (nd o49_224 (lf o49_352) .nil))) (nd o14_48 (nd o14_80 (nd o14_144 (lf o49_272) (lf o49_400)) (nd o49_208 (lf o49_336) .nil)) (nd o14_112 (nd o14_176 (lf o49_304) (lf o49_432)) (nd o49_240 (lf o49_368) .nil)))) (nd (o14_24 P) (nd o14_40 (nd o14_72 (nd o14_136 (lf o49_264) (lf o49_392)) (nd o49_200 (lf o49_328) .nil)) (nd o14_104 (nd o14_168 (lf o49_296) (lf o49_424)) (nd o49_232 (lf o49_360) .nil))) (nd o14_56 (nd o14_88 (nd o14_152 (lf o49_280) (lf o49_408)) (nd o49_216 (lf o49_344) .nil)) (nd o14_120 (nd o14_184 (lf o49_312) (lf o49_440)) (nd o49_248 (lf o49_376) .nil))))) (nd o49_12 (nd o14_20 (nd o14_36 (nd o14_68 (nd o14_132 (lf o49_260) (lf o49_388)) (nd o14_196 (lf o49_324) (lf o49_452))) (nd o14_100 (nd o14_164 (lf o49_292) (lf o49_420)) (nd o49_228 (lf o49_356) .nil))) (nd o14_52 (nd o14_84 (nd o14_148 (lf o49_276) (lf o49_404)) (nd o49_212 (lf o49_340) .nil)) (nd (o14_116 P) (nd o14_180 (lf o49_308) (lf o49_436)) (nd o49_244 (lf o49_372) .nil)))) (nd o14_28 (nd o14_44 (nd o14_76 (nd o14_140 (lf o49_268) (lf o49_396)) (nd o49_204 (lf o49_332) .nil)) (nd o14_108 (nd o14_172 (lf o49_300) (lf o49_428)) (nd o49_236 (lf o49_364) .nil))) (nd o14_60 (nd o14_92 (nd o14_156 (lf o49_284) (lf o49_412)) (nd o49_220 (lf o49_348) .nil)) (nd o14_124 (nd o14_188 (lf o49_316) (lf o49_444)) (nd o49_252 (lf o49_380) .nil)))))) (nd (PySem.W.boot_o_6 P) (nd (PySem.W.boot_o_10 P) (nd o14_18 (nd o14_34 (nd o14_66 (nd o14_130 (lf o49_258) (lf o49_386)) (nd o14_194 (lf o49_322) (lf o49_450))) (nd o14_98 (nd o14_162 (lf o49_290) (lf o49_418)) (nd o49_226 (lf o49_354) .nil))) (nd o14_50 (nd o14_82 (nd o14_146 (lf o49_274) (lf o49_402)) (nd o49_210 (lf o49_338) .nil)) (nd o14_114 (nd o14_178 (lf o49_306) (lf o49_434)) (nd o49_242 (lf o49_370) .nil)))) (nd o14_26 (nd o14_42 (nd o14_74 (nd o14_138 (lf o49_266) (lf o49_394)) (nd o49_202 (lf (o49_330 P)) .nil)) (nd o14_106 (nd o14_170 (lf o49_298) (lf o49_426)) (nd o49_234 (lf o49_362) .nil))) (nd o14_58 (nd o14_90 (nd o14_154 (lf o49_282) (lf o49_410)) (nd o49_218 (lf o49_346) .nil)) (nd o14_122 (nd o14_186 (lf o49_314) (lf o49_442)) (nd (o49_250 P) (lf o49_378) .nil))))) (nd oa_14 (nd o14_22 (nd o14_38 (nd o14_70 (nd o14_134 (lf o49_262) (lf o49_390)) (nd o14_198 (lf o49_326) .nil)) (nd o14_102 (nd o14_166 (lf o49_294) (lf o49_422)) (nd o49_230 (lf o49_358) .nil))) (nd o14_54 (nd o14_86 (nd o14_150 (lf o49_278) (lf o49_406)) (nd o49_214 (lf o49_342) .nil)) (nd o14_118 (nd o14_182 (lf o49_310) (lf o49_438)) (nd o49_246 (lf o49_374) .nil)))) (nd (o14_30 P) (nd o14_46 (nd o14_78 (nd o14_142 (lf o49_270) (lf o49_398)) (nd o49_206 (lf o49_334) .nil)) (nd o14_110 (nd o14_174 (lf o49_302) (lf o49_430)) (nd o49_238 (lf o49_366) .nil))) (nd o14_62 (nd o14_94 (nd o14_158 (lf o49_286) (lf o49_414)) (nd o49_222 (lf o49_350) .nil)) (nd o14_126 (nd o14_190 (lf o49_318) (lf o49_446)) (nd o49_254 (lf o49_382) .nil))))))))
def Sz (w : World) (os : OsState) : SharedT := ⟨trz w.params, 454, ⟨[], [], [], 0, [], [], false, #[], [], 0, false, false, false, 0, [2000, 10, 10], false, 0, true, [], [], 0, false⟩, #[], ⟨0, 0, 0, 0⟩, 785, os⟩
def theEnv : PySem.Env := { scope := RR.prog.main.scope, locals := mainNs, globals := mainNs, cells := [], code := (ρ 13), frame := some 14 }
def framePos : Pos := ⟨0, 0, 0, 0⟩
def asL : List Addr := (3 :: 6 :: 4 :: 21 :: 31 :: 44 :: 56 :: 68 :: 80 :: 92 :: 104 :: 113 :: 194 :: 205 :: 212 :: 219 :: 226 :: 233 :: 240 :: 247 :: 276 :: 287 :: 294 :: 301 :: 308 :: 315 :: 322 :: 327 :: 356 :: 365 :: 372 :: 377 :: 382 :: 389 :: 396 :: 403 :: 410 :: 417 :: 422 :: 429 :: 434 :: 439 :: 446 :: 453 :: 0 :: 20 :: 30 :: 43 :: 55 :: 67 :: 79 :: 91 :: 103 :: 112 :: 193 :: 204 :: 211 :: 218 :: 225 :: 232 :: 239 :: 246 :: 275 :: 286 :: 293 :: 300 :: 307 :: 314 :: 321 :: 326 :: 355 :: 364 :: 371 :: 376 :: 381 :: 388 :: 395 :: 402 :: 409 :: 416 :: 421 :: 428 :: 433 :: 438 :: 445 :: 452 :: 15 :: 16 :: 17 :: 18 :: 19 :: 29 :: 32 :: 42 :: 54 :: 66 :: 78 :: 90 :: 102 :: 107 :: 108 :: 109 :: 110 :: 111 :: 125 :: 132 :: 139 :: 146 :: 153 :: 160 :: 165 :: 172 :: 179 :: 184 :: 191 :: 192 :: 195 :: 196 :: 199 :: 200 :: 201 :: 202 :: 203 :: 206 :: 207 :: 208 :: 209 :: 210 :: 213 :: 214 :: 215 :: 216 :: 217 :: 220 :: 221 :: 222 :: 223 :: 224 :: 227 :: 228 :: 229 :: 230 :: 231 :: 234 :: 235 :: 236 :: 237 :: 238 :: 241 :: 242 :: 243 :: 244 :: 245 :: 261 :: 268 :: 273 :: 274 :: 277 :: 278 :: 281 :: 282 :: 283 :: 284 :: 285 :: 288 :: 289 :: 290 :: 291 :: 292 :: 295 :: 296 :: 297 :: 298 :: 299 :: 302 :: 303 :: 304 :: 305 :: 306 :: 309 :: 310 :: 311 :: 312 :: 313 :: 316 :: 317 :: 318 :: 319 :: 320 :: 323 :: 324 :: 325 :: 341 :: 348 :: 353 :: 354 :: 357 :: 358 :: 361 :: 362 :: 363 :: 366 :: 367 :: 368 :: 369 :: 370 :: 373 :: 374 :: 375 :: 378 :: 379 :: 380 :: 383 :: 384 :: 385 :: 386 :: 387 :: 390 :: 391 :: 392 :: 393 :: 394 :: 397 :: 398 :: 399 :: 400 :: 401 :: 404 :: 405 :: 406 :: 407 :: 408 :: 411 :: 412 :: 413 :: 414 :: 415 :: 418 :: 419 :: 420 :: 423 :: 424 :: 425 :: 426 :: 427 :: 430 :: 431 :: 432 :: 435 :: 436 :: 437 :: 440 :: 441 :: 442 :: 443 :: 444 :: 447 :: 448 :: 449 :: 450 :: 451 :: 124 :: 131 :: 138 :: 145 :: 152 :: 159 :: 164 :: 171 :: 178 :: 183 :: 190 :: 260 :: 267 :: 272 :: 340 :: 347 :: 352 :: 121 :: 122 :: 123 :: 126 :: 127 :: 128 :: 129 :: 130 :: 133 :: 134 :: 135 :: 136 :: 137 :: 140 :: 141 :: 142 :: 143 :: 144 :: 147 :: 148 :: 149 :: 150 :: 151 :: 154 :: 155 :: 156 :: 157 :: 158 :: 161 :: 162 :: 163 :: 166 :: 167 :: 168 :: 169 :: 170 :: 173 :: 174 :: 175 :: 176 :: 177 :: 180 :: 181 :: 182 :: 185 :: 186 :: 187 :: 188 :: 189 :: 255 :: 256 :: 257 :: 258 :: 259 :: 262 :: 263 :: 264 :: 265 :: 266 :: 269 :: 270 :: 271 :: 335 :: 336 :: 337 :: 338 :: 339 :: 342 :: 343 :: 344 :: 345 :: 346 :: 349 :: 350 :: 351 :: [])
def asL1 : List Addr := (3 :: 6 :: 4 :: 21 :: 31 :: 44 :: 56 :: 68 :: 80 :: 92 :: 104 :: 113 :: 194 :: 205 :: 212 :: 219 :: 226 :: 233 :: 240 :: 247 :: 276 :: 287 :: 294 :: 301 :: 308 :: 315 :: 322 :: 327 :: 356 :: 365 :: 372 :: 377 :: 382 :: 389 :: 396 :: 403 :: 410 :: 417 :: 422 :: 429 :: 434 :: 439 :: 446 :: 453 :: [])
def asL2 : List Addr := (3 :: 6 :: 4 :: 21 :: 31 :: 44 :: 56 :: 68 :: 80 :: 92 :: 104 :: 113 :: 194 :: 205 :: 212 :: 219 :: 226 :: 233 :: 240 :: 247 :: 276 :: 287 :: 294 :: 301 :: 308 :: 315 :: 322 :: 327 :: 356 :: 365 :: 372 :: 377 :: 382 :: 389 :: 396 :: 403 :: 410 :: 417 :: 422 :: 429 :: 434 :: 439 :: 446 :: 453 :: 0 :: 20 :: 30 :: 43 :: 55 :: 67 :: 79 :: 91 :: 103 :: 112 :: 193 :: 204 :: 211 :: 218 :: 225 :: 232 :: 239 :: 246 :: 275 :: 286 :: 293 :: 300 :: 307 :: 314 :: 321 :: 326 :: 355 :: 364 :: 371 :: 376 :: 381 :: 388 :: 395 :: 402 :: 409 :: 416 :: 421 :: 428 :: 433 :: 438 :: 445 :: 452 :: [])
def asL3 : List Addr := (3 :: 6 :: 4 :: 21 :: 31 :: 44 :: 56 :: 68 :: 80 :: 92 :: 104 :: 113 :: 194 :: 205 :: 212 :: 219 :: 226 :: 233 :: 240 :: 247 :: 276 :: 287 :: 294 :: 301 :: 308 :: 315 :: 322 :: 327 :: 356 :: 365 :: 372 :: 377 :: 382 :: 389 :: 396 :: 403 :: 410 :: 417 :: 422 :: 429 :: 434 :: 439 :: 446 :: 453 :: 0 :: 20 :: 30 :: 43 :: 55 :: 67 :: 79 :: 91 :: 103 :: 112 :: 193 :: 204 :: 211 :: 218 :: 225 :: 232 :: 239 :: 246 :: 275 :: 286 :: 293 :: 300 :: 307 :: 314 :: 321 :: 326 :: 355 :: 364 :: 371 :: 376 :: 381 :: 388 :: 395 :: 402 :: 409 :: 416 :: 421 :: 428 :: 433 :: 438 :: 445 :: 452 :: 15 :: 16 :: 17 :: 18 :: 19 :: 29 :: 32 :: 42 :: 54 :: 66 :: 78 :: 90 :: 102 :: 107 :: 108 :: 109 :: 110 :: 111 :: 125 :: 132 :: 139 :: 146 :: 153 :: 160 :: 165 :: 172 :: 179 :: 184 :: 191 :: 192 :: 195 :: 196 :: 199 :: 200 :: 201 :: 202 :: 203 :: 206 :: 207 :: 208 :: 209 :: 210 :: 213 :: 214 :: 215 :: 216 :: 217 :: 220 :: 221 :: 222 :: 223 :: 224 :: 227 :: 228 :: 229 :: 230 :: 231 :: 234 :: 235 :: 236 :: 237 :: 238 :: 241 :: 242 :: 243 :: 244 :: 245 :: 261 :: 268 :: 273 :: 274 :: 277 :: 278 :: 281 :: 282 :: 283 :: 284 :: 285 :: 288 :: 289 :: 290 :: 291 :: 292 :: 295 :: 296 :: 297 :: 298 :: 299 :: 302 :: 303 :: 304 :: 305 :: 306 :: 309 :: 310 :: 311 :: 312 :: 313 :: 316 :: 317 :: 318 :: 319 :: 320 :: 323 :: 324 :: 325 :: 341 :: 348 :: 353 :: 354 :: 357 :: 358 :: 361 :: 362 :: 363 :: 366 :: 367 :: 368 :: 369 :: 370 :: 373 :: 374 :: 375 :: 378 :: 379 :: 380 :: 383 :: 384 :: 385 :: 386 :: 387 :: 390 :: 391 :: 392 :: 393 :: 394 :: 397 :: 398 :: 399 :: 400 :: 401 :: 404 :: 405 :: 406 :: 407 :: 408 :: 411 :: 412 :: 413 :: 414 :: 415 :: 418 :: 419 :: 420 :: 423 :: 424 :: 425 :: 426 :: 427 :: 430 :: 431 :: 432 :: 435 :: 436 :: 437 :: 440 :: 441 :: 442 :: 443 :: 444 :: 447 :: 448 :: 449 :: 450 :: 451 :: [])
def asL4 : List Addr := (3 :: 6 :: 4 :: 21 :: 31 :: 44 :: 56 :: 68 :: 80 :: 92 :: 104 :: 113 :: 194 :: 205 :: 212 :: 219 :: 226 :: 233 :: 240 :: 247 :: 276 :: 287 :: 294 :: 301 :: 308 :: 315 :: 322 :: 327 :: 356 :: 365 :: 372 :: 377 :: 382 :: 389 :: 396 :: 403 :: 410 :: 417 :: 422 :: 429 :: 434 :: 439 :: 446 :: 453 :: 0 :: 20 :: 30 :: 43 :: 55 :: 67 :: 79 :: 91 :: 103 :: 112 :: 193 :: 204 :: 211 :: 218 :: 225 :: 232 :: 239 :: 246 :: 275 :: 286 :: 293 :: 300 :: 307 :: 314 :: 321 :: 326 :: 355 :: 364 :: 371 :: 376 :: 381 :: 388 :: 395 :: 402 :: 409 :: 416 :: 421 :: 428 :: 433 :: 438 :: 445 :: 452 :: 15 :: 16 :: 17 :: 18 :: 19 :: 29 :: 32 :: 42 :: 54 :: 66 :: 78 :: 90 :: 102 :: 107 :: 108 :: 109 :: 110 :: 111 :: 125 :: 132 :: 139 :: 146 :: 153 :: 160 :: 165 :: 172 :: 179 :: 184 :: 191 :: 192 :: 195 :: 196 :: 199 :: 200 :: 201 :: 202 :: 203 :: 206 :: 207 :: 208 :: 209 :: 210 :: 213 :: 214 :: 215 :: 216 :: 217 :: 220 :: 221 :: 222 :: 223 :: 224 :: 227 :: 228 :: 229 :: 230 :: 231 :: 234 :: 235 :: 236 :: 237 :: 238 :: 241 :: 242 :: 243 :: 244 :: 245 :: 261 :: 268 :: 273 :: 274 :: 277 :: 278 :: 281 :: 282 :: 283 :: 284 :: 285 :: 288 :: 289 :: 290 :: 291 :: 292 :: 295 :: 296 :: 297 :: 298 :: 299 :: 302 :: 303 :: 304 :: 305 :: 306 :: 309 :: 310 :: 311 :: 312 :: 313 :: 316 :: 317 :: 318 :: 319 :: 320 :: 323 :: 324 :: 325 :: 341 :: 348 :: 353 :: 354 :: 357 :: 358 :: 361 :: 362 :: 363 :: 366 :: 367 :: 368 :: 369 :: 370 :: 373 :: 374 :: 375 :: 378 :: 379 :: 380 :: 383 :: 384 :: 385 :: 386 :: 387 :: 390 :: 391 :: 392 :: 393 :: 394 :: 397 :: 398 :: 399 :: 400 :: 401 :: 404 :: 405 :: 406 :: 407 :: 408 :: 411 :: 412 :: 413 :: 414 :: 415 :: 418 :: 419 :: 420 :: 423 :: 424 :: 425 :: 426 :: 427 :: 430 :: 431 :: 432 :: 435 :: 436 :: 437 :: 440 :: 441 :: 442 :: 443 :: 444 :: 447 :: 448 :: 449 :: 450 :: 451 :: 124 :: 131 :: 138 :: 145 :: 152 :: 159 :: 164 :: 171 :: 178 :: 183 :: 190 :: 260 :: 267 :: 272 :: 340 :: 347 :: 352 :: [])
def asL5 : List Addr := (3 :: 6 :: 4 :: 21 :: 31 :: 44 :: 56 :: 68 :: 80 :: 92 :: 104 :: 113 :: 194 :: 205 :: 212 :: 219 :: 226 :: 233 :: 240 :: 247 :: 276 :: 287 :: 294 :: 301 :: 308 :: 315 :: 322 :: 327 :: 356 :: 365 :: 372 :: 377 :: 382 :: 389 :: 396 :: 403 :: 410 :: 417 :: 422 :: 429 :: 434 :: 439 :: 446 :: 453 :: 0 :: 20 :: 30 :: 43 :: 55 :: 67 :: 79 :: 91 :: 103 :: 112 :: 193 :: 204 :: 211 :: 218 :: 225 :: 232 :: 239 :: 246 :: 275 :: 286 :: 293 :: 300 :: 307 :: 314 :: 321 :: 326 :: 355 :: 364 :: 371 :: 376 :: 381 :: 388 :: 395 :: 402 :: 409 :: 416 :: 421 :: 428 :: 433 :: 438 :: 445 :: 452 :: 15 :: 16 :: 17 :: 18 :: 19 :: 29 :: 32 :: 42 :: 54 :: 66 :: 78 :: 90 :: 102 :: 107 :: 108 :: 109 :: 110 :: 111 :: 125 :: 132 :: 139 :: 146 :: 153 :: 160 :: 165 :: 172 :: 179 :: 184 :: 191 :: 192 :: 195 :: 196 :: 199 :: 200 :: 201 :: 202 :: 203 :: 206 :: 207 :: 208 :: 209 :: 210 :: 213 :: 214 :: 215 :: 216 :: 217 :: 220 :: 221 :: 222 :: 223 :: 224 :: 227 :: 228 :: 229 :: 230 :: 231 :: 234 :: 235 :: 236 :: 237 :: 238 :: 241 :: 242 :: 243 :: 244 :: 245 :: 261 :: 268 :: 273 :: 274 :: 277 :: 278 :: 281 :: 282 :: 283 :: 284 :: 285 :: 288 :: 289 :: 290 :: 291 :: 292 :: 295 :: 296 :: 297 :: 298 :: 299 :: 302 :: 303 :: 304 :: 305 :: 306 :: 309 :: 310 :: 311 :: 312 :: 313 :: 316 :: 317 :: 318 :: 319 :: 320 :: 323 :: 324 :: 325 :: 341 :: 348 :: 353 :: 354 :: 357 :: 358 :: 361 :: 362 :: 363 :: 366 :: 367 :: 368 :: 369 :: 370 :: 373 :: 374 :: 375 :: 378 :: 379 :: 380 :: 383 :: 384 :: 385 :: 386 :: 387 :: 390 :: 391 :: 392 :: 393 :: 394 :: 397 :: 398 :: 399 :: 400 :: 401 :: 404 :: 405 :: 406 :: 407 :: 408 :: 411 :: 412 :: 413 :: 414 :: 415 :: 418 :: 419 :: 420 :: 423 :: 424 :: 425 :: 426 :: 427 :: 430 :: 431 :: 432 :: 435 :: 436 :: 437 :: 440 :: 441 :: 442 :: 443 :: 444 :: 447 :: 448 :: 449 :: 450 :: 451 :: 124 :: 131 :: 138 :: 145 :: 152 :: 159 :: 164 :: 171 :: 178 :: 183 :: 190 :: 260 :: 267 :: 272 :: 340 :: 347 :: 352 :: 121 :: 122 :: 123 :: 126 :: 127 :: 128 :: 129 :: 130 :: 133 :: 134 :: 135 :: 136 :: 137 :: 140 :: 141 :: 142 :: 143 :: 144 :: 147 :: 148 :: 149 :: 150 :: 151 :: 154 :: 155 :: 156 :: 157 :: 158 :: 161 :: 162 :: 163 :: 166 :: 167 :: 168 :: 169 :: 170 :: 173 :: 174 :: 175 :: 176 :: 177 :: 180 :: 181 :: 182 :: 185 :: 186 :: 187 :: 188 :: 189 :: 255 :: 256 :: 257 :: 258 :: 259 :: 262 :: 263 :: 264 :: 265 :: 266 :: 269 :: 270 :: 271 :: 335 :: 336 :: 337 :: 338 :: 339 :: 342 :: 343 :: 344 :: 345 :: 346 :: 349 :: 350 :: 351 :: [])
def KL (P : Params) : PySem.W.Frag := ((3, o49_3 P) :: (6, PySem.W.boot_o_6 P) :: (4, PySem.W.boot_o_4 P) :: (21, o14_21) :: (31, o14_31) :: (44, o14_44) :: (56, o14_56) :: (68, o14_68) :: (80, o14_80) :: (92, o14_92) :: (104, o14_104) :: (113, o14_113) :: (194, o14_194) :: (205, o49_205) :: (212, o49_212) :: (219, o49_219) :: (226, o49_226) :: (233, o49_233) :: (240, o49_240) :: (247, o49_247) :: (276, o49_276) :: (287, o49_287) :: (294, o49_294) :: (301, o49_301) :: (308, o49_308) :: (315, o49_315) :: (322, o49_322) :: (327, o49_327) :: (356, o49_356) :: (365, o49_365) :: (372, o49_372) :: (377, o49_377) :: (382, o49_382) :: (389, o49_389) :: (396, o49_396) :: (403, o49_403) :: (410, o49_410) :: (417, o49_417) :: (422, o49_422) :: (429, o49_429) :: (434, o49_434) :: (439, o49_439) :: (446, o49_446) :: (453, o49_453) :: (0, PySem.W.boot_o_0 P) :: (20, o14_20) :: (30, o14_30 P) :: (43, o14_43 P) :: (55, o14_55 P) :: (67, o14_67 P) :: (79, o14_79 P) :: (91, o14_91 P) :: (103, o14_103 P) :: (112, o14_112) :: (193, o14_193 P) :: (204, o49_204) :: (211, o49_211) :: (218, o49_218) :: (225, o49_225) :: (232, o49_232) :: (239, o49_239) :: (246, o49_246) :: (275, o49_275 P) :: (286, o49_286) :: (293, o49_293) :: (300, o49_300) :: (307, o49_307) :: (314, o49_314) :: (321, o49_321) :: (326, o49_326) :: (355, o49_355 P) :: (364, o49_364) :: (371, o49_371) :: (376, o49_376) :: (381, o49_381) :: (388, o49_388) :: (395, o49_395) :: (402, o49_402) :: (409, o49_409) :: (416, o49_416) :: (421, o49_421) :: (428, o49_428) :: (433, o49_433) :: (438, o49_438) :: (445, o49_445) :: (452, o49_452) :: (15, o14_15) :: (17, o14_17) :: (18, o14_18) :: (19, o14_19) :: (29, o14_29) :: (32, o14_32) :: (42, o14_42) :: (54, o14_54) :: (66, o14_66) :: (78, o14_78) :: (90, o14_90) :: (102, o14_102) :: (107, o14_107) :: (109, o14_109) :: (110, o14_110) :: (111, o14_111) :: (125, o14_125) :: (132, o14_132) :: (139, o14_139) :: (146, o14_146) :: (153, o14_153) :: (160, o14_160) :: (165, o14_165) :: (172, o14_172) :: (179, o14_179) :: (184, o14_184) :: (191, o14_191) :: (192, o14_192) :: (195, o14_195) :: (196, o14_196) :: (199, o49_199) :: (201, o49_201) :: (202, o49_202) :: (203, o49_203) :: (206, o49_206) :: (208, o49_208) :: (209, o49_209) :: (210, o49_210) :: (213, o49_213) :: (215, o49_215) :: (216, o49_216) :: (217, o49_217) :: (220, o49_220) :: (222, o49_222) :: (223, o49_223) :: (224, o49_224) :: (227, o49_227) :: (229, o49_229) :: (230, o49_230) :: (231, o49_231) :: (234, o49_234) :: (236, o49_236) :: (237, o49_237) :: (238, o49_238) :: (241, o49_241) :: (243, o49_243) :: (244, o49_244) :: (245, o49_245) :: (261, o49_261) :: (268, o49_268) :: (273, o49_273) :: (274, o49_274) :: (277, o49_277) :: (278, o49_278) :: (281, o49_281) :: (283, o49_283) :: (284, o49_284) :: (285, o49_285) :: (288, o49_288) :: (290, o49_290) :: (291, o49_291) :: (292, o49_292) :: (295, o49_295) :: (297, o49_297) :: (298, o49_298) :: (299, o49_299) :: (302, o49_302) :: (304, o49_304) :: (305, o49_305) :: (306, o49_306) :: (309, o49_309) :: (311, o49_311) :: (312, o49_312) :: (313, o49_313) :: (316, o49_316) :: (318, o49_318) :: (319, o49_319) :: (320, o49_320) :: (323, o49_323) :: (325, o49_325) :: (341, o49_341) :: (348, o49_348) :: (353, o49_353) :: (354, o49_354) :: (357, o49_357) :: (358, o49_358) :: (361, o49_361) :: (363, o49_363) :: (366, o49_366) :: (368, o49_368) :: (369, o49_369) :: (370, o49_370) :: (373, o49_373) :: (375, o49_375) :: (378, o49_378) :: (380, o49_380) :: (383, o49_383) :: (385, o49_385) :: (386, o49_386) :: (387, o49_387) :: (390, o49_390) :: (392, o49_392) :: (393, o49_393) :: (394, o49_394) :: (397, o49_397) :: (399, o49_399) :: (400, o49_400) :: (401, o49_401) :: (404, o49_404) :: (406, o49_406) :: (407, o49_407) :: (408, o49_408) :: (411, o49_411) :: (413, o49_413) :: (414, o49_414) :: (415, o49_415) :: (418, o49_418) :: (420, o49_420) :: (423, o49_423) :: (425, o49_425) :: (426, o49_426) :: (427, o49_427) :: (430, o49_430) :: (432, o49_432) :: (435, o49_435) :: (437, o49_437) :: (440, o49_440) :: (442, o49_442) :: (443, o49_443) :: (444, o49_444) :: (447, o49_447) :: (449, o49_449) :: (450, o49_450) :: (451, o49_451) :: (124, o14_124) :: (131, o14_131) :: (138, o14_138) :: (145, o14_145) :: (152, o14_152) :: (159, o14_159) :: (164, o14_164) :: (171, o14_171) :: (178, o14_178) :: (183, o14_183) :: (190, o14_190) :: (260, o49_260) :: (267, o49_267) :: (272, o49_272) :: (340, o49_340) :: (347, o49_347) :: (352, o49_352) :: (121, o14_121) :: (123, o14_123) :: (126, o14_126) :: (128, o14_128) :: (129, o14_129) :: (130, o14_130) :: (133, o14_133) :: (135, o14_135) :: (136, o14_136) :: (137, o14_137) :: (140, o14_140) :: (142, o14_142) :: (143, o14_143) :: (144, o14_144) :: (147, o14_147) :: (149, o14_149) :: (150, o14_150) :: (151, o14_151) :: (154, o14_154) :: (156, o14_156) :: (157, o14_157) :: (158, o14_158) :: (161, o14_161) :: (163, o14_163) :: (166, o14_166) :: (168, o14_168) :: (169, o14_169) :: (170, o14_170) :: (173, o14_173) :: (175, o14_175) :: (176, o14_176) :: (177, o14_177) :: (180, o14_180) :: (182, o14_182) :: (185, o14_185) :: (187, o14_187) :: (188, o14_188) :: (189, o14_189) :: (255, o49_255) :: (257, o49_257) :: (258, o49_258) :: (259, o49_259) :: (262, o49_262) :: (264, o49_264) :: (265, o49_265) :: (266, o49_266) :: (269, o49_269) :: (271, o49_271) :: (335, o49_335) :: (337, o49_337) :: (338, o49_338) :: (339, o49_339) :: (342, o49_342) :: (344, o49_344) :: (345, o49_345) :: (346, o49_346) :: (349, o49_349) :: (351, o49_351) :: (2, PySem.W.boot_o_2 P) :: [])
end
end PX.K64
set_option Elab.async false
set_option linter.all false
set_option maxRecDepth 100000
namespace PX
open PySem He
def era : List Addr → Nat → List Addr
  | [], _ => []
  | x :: xs, m => bif Nat.beq (Nat.land (Nat.shiftRight m x) 1) 1 then era xs m else x :: era xs (Nat.lor m (Nat.shiftLeft 1 x))
theorem bit_eq (m x : Nat) : Nat.beq (Nat.land (Nat.shiftRight m x) 1) 1 = m.testBit x := by
  show Nat.beq ((m >>> x) &&& 1) 1 = _
  unfold Nat.testBit
  rw [Nat.and_comm]
  have : 1 &&& (m >>> x) = 0 ∨ 1 &&& (m >>> x) = 1 := by
    rw [Nat.one_and_eq_mod_two]
    omega
  rcases this with e | e <;> rw [e] <;> rfl
theorem era_eq : ∀ (xs : List Addr) (m : Nat), era xs m = (xs.filter fun x => !m.testBit x).eraseDups
  | [], m => by simp [era]
  | x :: xs, m => by
    unfold era
    rw [bit_eq]
    cases h : m.testBit x with
    | true =>
      rw [List.filter_cons_of_neg (by simp [h])]
      exact era_eq xs m
    | false =>
      rw [List.filter_cons_of_pos (by simp [h]), List.eraseDups_cons]
      show x :: era xs (m ||| 1 <<< x) = _
      rw [era_eq xs _, List.filter_filter]
      congr 2
      refine List.filter_congr fun y _ => ?_
      rw [Nat.testBit_or, Nat.one_shiftLeft, Nat.testBit_two_pow]
      by_cases e : y = x
      · subst e; simp
      · have e2 : ¬ x = y := fun z => e z.symm
        simp [e, e2]
def growE (g : Addr → Option Obj) (as : List Addr) : List Addr := era (as ++ as.flatMap fun a => match g a with
  | some o => refsD o
  | none => []) 0
theorem growE_eq (g : Addr → Option Obj) (as : List Addr) : growD g as = growE g as := by
  unfold growD growE
  rw [era_eq]
  congr 1
  refine (List.filter_eq_self.mpr fun x _ => ?_).symm
  simp
theorem obsQ_val {n : Nat} {fb : List Ck} {fn : List DefD} {tf : List Defn} {g : Addr → Option Obj} {K : PySem.W.Frag} (hK : frT (noLst g) (asS g n) = K) (h1 : (fb.all fun f => f K) = true) (h2 : (fn.all fun d => d.ok K) = true) (h3 : (fn.map fun d => fnW K d.at_) = fn.map DefD.val) (h4 : (tabsB g tf K && decide ((tf.map fun p => (cT K p).2).Nodup)) = true) : obsQ n fb fn tf g = (valD fn, true) := by
  subst hK
  show ((((fb.all fun f => f (frT (noLst g) (asS g n))) && fn.all fun d => d.ok (frT (noLst g) (asS g n))), fn.map fun d => fnW (frT (noLst g) (asS g n)) d.at_), (tabsB g tf (frT (noLst g) (asS g n)) && decide ((tf.map fun p => (cT (frT (noLst g) (asS g n)) p).2).Nodup))) = ((true, fn.map DefD.val), true)
  rw [h1, h2, h3, h4]
  rfl
def asE (g : Addr → Option Obj) : Nat → List Addr
  | 0 => [mainGlobals]
  | n + 1 => growE g (asE g n)
theorem asE_eq (g : Addr → Option Obj) : ∀ n, asE g n = asD g n
  | 0 => rfl
  | n + 1 => by
    show growE g (asE g n) = growD g (asD g n)
    rw [asE_eq g n, growE_eq]
def obsE (n : Nat) (fb : List Ck) (fn : List DefD) (tf : List Defn) (g : Addr → Option Obj) : AlQ :=
  (obsP fb fn (frT (noLst g) (asE g n ++ [cStatics])), tabsB g tf (frT (noLst g) (asE g n ++ [cStatics])) && decide ((tf.map fun p => (cT (frT (noLst g) (asE g n ++ [cStatics])) p).2).Nodup))
theorem obsE_eq (n : Nat) (fb : List Ck) (fn : List DefD) (tf : List Defn) (g : Addr → Option Obj) : obsE n fb fn tf g = obsQ n fb fn tf g := by
  unfold obsE obsQ asS
  rw [asE_eq]
end PX
set_option Elab.async false
set_option linter.all false
set_option maxRecDepth 100000
set_option maxHeartbeats 0
namespace PX.K64
open PySem PySem.Spec PyProof.Rows L2 He PX
abbrev hk : PySem.W.Hook := hookQ 6 fb fn tf
def ob (s : PySem.W.SharedT) : AlQ := obsE 6 fb fn tf (HandSHeadRun.getT s)
theorem ob_eq (s : PySem.W.SharedT) : ob s = hk.obs s.abs := (obsE_eq _ _ _ _ _).trans (obsQ_eq (HandSHeadRun.getT_eq s))
end PX.K64
namespace PX.K64
open PySem PySem.W PySem.Calls PyProof.Rows HandSHeadRun
noncomputable abbrev bE : List Stmt := behindTheImports RR.prog
noncomputable abbrev cE : Code := .body bE theEnv
noncomputable abbrev BB : List Frame := [topFrame framePos]
noncomputable abbrev stq (w : World) : SharedT → Thread → Option (SharedT × Thread) := stepQ (denQ tabQ) RR.prog w
abbrev annV : Option Value := some (.ref 6)
def looseN : List PySem.Str := ("_wall" :: "SumError" :: "BadCounts" :: "BadColumn" :: "BadValue" :: "BadNumber" :: "BadSum" :: "Unlike" :: "MOST_VALUES" :: "MOST_COUNT" :: "is_number" :: "Column" :: "check_column" :: "check_number" :: "MOST_ROWS" :: "check_known" :: "spread_over" :: "lowest_with" :: "highest_with" :: "row_with" :: "Ends" :: "check_asked" :: "ends_of" :: "at_least" :: "reach_both" :: "rank_values" :: "check_pair" :: "flows_of" :: "Moved" :: "least_steps" :: "move_rows" :: "fewest_changed" :: "farthest_row" :: "_law_number" :: "_law_take" :: "_law_pick" :: "_law_is_number" :: "_law_word" :: "_law_first" :: "_law_no" :: "_law_sums_right" :: "_law_columns_right" :: "_law_known_right" :: ([] : List PySem.Str))
noncomputable abbrev qv : Program := PySem.W.view RR.prog [48]
theorem boot_put (w : World) : putAll (boot_heap w.params).objs.toList .nil 0 = some (trBoot w.params, 11) := by kernel_rfl
theorem boot_n (w : World) : (boot_heap w.params).objs.size = 11 := by kernel_rfl
theorem boot_annE (w : World) : bootAnn w = annV := by kernel_rfl
theorem r_pre (w : World) (os : OsState) : topF (stq w) 11 annV 12 (bootT w os (trBoot w.params, 11)) (topStub RR.prog) = some (Sa w os, ⟨denQ tabQ cE, cE, posa, BB⟩) := by kernel_rfl
theorem r_pre2 (w : World) (os : OsState) : topF (stq w) 11 annV 12 (bootT w os (trBoot w.params, 11)) (topStub RR.prog) = some (Sa w os, ⟨denote treeTable cE, cE, posa, BB⟩) := by rw [denQ_eq, tabQ_eq]; exact r_pre w os
theorem r_block (w : World) (os : OsState) : segF (stq w) 11 annV 1 (Sa w os) (blockOf bE theEnv cE posa BB) = some (.next, Sb w os, cE, posb) := by kernel_rfl
theorem r_14 (w : World) (os : OsState) : segF (stq w) 11 annV 2096 (Sb w os) (piecesOf (bE.take 14) theEnv cE posb BB) = some (.next, S14 w os, cE, pos14) := by kernel_rfl
theorem r_last (w : World) (os : OsState) : segF (stq w) 11 annV 1498 (S14 w os) (piecesOf (bE.drop 14) theEnv cE pos14 BB) = some (.next, S49 w os, cE, pos49) := by kernel_rfl
theorem r_fin (w : World) (os : OsState) : goF (stq w) 11 annV 2 (S49 w os) ⟨doneF .next, cE, pos49, BB⟩ = some (Sz w os) := by kernel_rfl
theorem k_looks (w : World) (os : OsState) : looksF RR.prog (boot_heap w.params) (Sz w os).abs = true := by kernel_rfl
theorem k_seen (w : World) (os : OsState) : seenQ qv looseN (importedModules RR.prog.main.body) (fun s => xlAt qv [] s && recOk RR.toRowW.records s) (Sz w os).abs = openGood qv looseN := by kernel_rfl
theorem k_as1 (w : World) (os : OsState) : He.asD (getT (Sz w os)) 1 = asL1 := by kernel_rfl
theorem k_gr2 (w : World) (os : OsState) : He.growD (getT (Sz w os)) asL1 = asL2 := by
  rw [PX.growE_eq]
  kernel_rfl
theorem k_as2 (w : World) (os : OsState) : He.asD (getT (Sz w os)) 2 = asL2 := by
  show He.growD (getT (Sz w os)) (He.asD (getT (Sz w os)) 1) = _
  rw [k_as1]
  exact k_gr2 w os
theorem k_gr3 (w : World) (os : OsState) : He.growD (getT (Sz w os)) asL2 = asL3 := by
  rw [PX.growE_eq]
  kernel_rfl
theorem k_as3 (w : World) (os : OsState) : He.asD (getT (Sz w os)) 3 = asL3 := by
  show He.growD (getT (Sz w os)) (He.asD (getT (Sz w os)) 2) = _
  rw [k_as2]
  exact k_gr3 w os
theorem k_gr4 (w : World) (os : OsState) : He.growD (getT (Sz w os)) asL3 = asL4 := by
  rw [PX.growE_eq]
  kernel_rfl
theorem k_as4 (w : World) (os : OsState) : He.asD (getT (Sz w os)) 4 = asL4 := by
  show He.growD (getT (Sz w os)) (He.asD (getT (Sz w os)) 3) = _
  rw [k_as3]
  exact k_gr4 w os
theorem k_gr5 (w : World) (os : OsState) : He.growD (getT (Sz w os)) asL4 = asL5 := by
  rw [PX.growE_eq]
  kernel_rfl
theorem k_as5 (w : World) (os : OsState) : He.asD (getT (Sz w os)) 5 = asL5 := by
  show He.growD (getT (Sz w os)) (He.asD (getT (Sz w os)) 4) = _
  rw [k_as4]
  exact k_gr5 w os
theorem k_gr6 (w : World) (os : OsState) : He.growD (getT (Sz w os)) asL5 = asL := by
  rw [PX.growE_eq]
  kernel_rfl
theorem k_as (w : World) (os : OsState) : He.asD (getT (Sz w os)) 6 = asL := by
  show He.growD (getT (Sz w os)) (He.asD (getT (Sz w os)) 5) = _
  rw [k_as5]
  exact k_gr6 w os
theorem k_fr (w : World) (os : OsState) : He.frT (PX.noLst (getT (Sz w os))) (asL ++ [cStatics]) = KL w.params := by kernel_rfl
theorem k_K (w : World) (os : OsState) : He.frT (PX.noLst (getT (Sz w os))) (PX.asS (getT (Sz w os)) 6) = KL w.params := by unfold PX.asS; rw [k_as, k_fr]
theorem c_fb_0 (w : World) (os : OsState) : ((fb.take 60).all fun f => f (KL w.params)) = true := by kernel_rfl
theorem c_fb_60 (w : World) (os : OsState) : ((fb.drop 60).all fun f => f (KL w.params)) = true := by kernel_rfl
theorem c_fb (w : World) (os : OsState) : (fb.all fun f => f (KL w.params)) = true := (all_cut 60 (c_fb_0 w os) (c_fb_60 w os))
theorem c_fn_0 (w : World) (os : OsState) : ((fn.take 30).all fun f => f.ok (KL w.params)) = true := by kernel_rfl
theorem c_fn_30 (w : World) (os : OsState) : ((fn.drop 30).all fun f => f.ok (KL w.params)) = true := by kernel_rfl
theorem c_fn (w : World) (os : OsState) : (fn.all fun f => f.ok (KL w.params)) = true := (all_cut 30 (c_fn_0 w os) (c_fn_30 w os))
theorem c_map (w : World) (os : OsState) : (fn.map fun d => He.fnW (KL w.params) d.at_) = fn.map He.DefD.val := by kernel_rfl
theorem c_tab (w : World) (os : OsState) : (He.tabsB (getT (Sz w os)) tf (KL w.params) && decide ((tf.map fun p => (He.cT (KL w.params) p).2).Nodup)) = true := by kernel_rfl
theorem k_ob (w : World) (os : OsState) : ob (Sz w os) = hk.val w := by
  show PX.obsE 6 fb fn tf (getT (Sz w os)) = (He.valD fn, true)
  rw [PX.obsE_eq]
  exact PX.obsQ_val (k_K w os) (c_fb w os) (c_fn w os) (c_map w os) (c_tab w os)
theorem splitE : bE = ((bE.take 14) ++ (bE.drop 14 ++ [])) := by kernel_rfl
theorem restEq {l l' : List Stmt} (h : l = l') (env : PySem.Env) (c : Code) (p : Pos) (B : List Frame) : restOf l env c p B = restOf l' env c p B := by rw [h]
theorem runP (w : World) (os : OsState) : ∃ s : SharedT, topRun treeTable RR.prog w (boot_heap w.params).objs.size (bootAnn w) (12 + (1 + (2096 + (1498 + 2)))) ⟨boot_heap w.params, #[], boot_drawn, boot_toks, os⟩ (topStub RR.prog) = some s.abs ∧ lookQ RR qv hk ob looseN w s = (true, openGood qv looseN, hk.val w) := by
  refine ⟨Sz w os, ?_, by show (_, _, _) = _; rw [k_looks, k_seen, k_ob]⟩
  rw [boot_n, boot_annE, ← boot_abs (boot_put w)]
  have k0 := piece_app (q := framePos) (rest := []) (segQ_ok (r_last w os)) (piece_nil (goQ_ok (r_fin w os)))
  have k1 := piece_app (q := framePos) (segQ_ok (r_14 w os)) k0
  rw [← restEq splitE] at k1
  exact go_top (topQ_ok (r_pre2 w os)) (piece_block (q := framePos) (segQ_ok (r_block w os)) k1)
end PX.K64
set_option Elab.async false
set_option linter.all false
set_option maxRecDepth 100000
set_option maxHeartbeats 0
open PySem PySem.W PySem.Calls PyProof.Rows PX PX.K64
theorem PySem.Challenge.cw_bucketsums_k64_whole_refused_more_holds : PySem.Challenge.rw_bucketsums_k64_whole_refused_more.Holds := by
  w_on; o_law
  refine HandSHeadRun.head_pcs (r := OpenLaw.row PySem.Challenge.rw_bucketsums_k64_whole_refused_more) (q := PX.K64.qv) (H := PX.K64.hk) (ob := PX.K64.ob) (N := 60000) (loose := PX.K64.looseN) (d := HandSHeadRun.topDef (OpenLaw.row PySem.Challenge.rw_bucketsums_k64_whole_refused_more).prog 48) (kwd := []) PX.K64.ob_eq
    (by kernel_rfl) (fun s => by kernel_rfl) (by decide +kernel) (by decide +kernel) PX.K64.runP (by kernel_rfl) (by kernel_rfl) (by kernel_rfl) (by rfl) (by first | assumption | decide +kernel) (by decide +kernel) ⟨rfl, rfl, rfl, rfl, rfl, by decide +kernel⟩ ?hw ?hc
  case hw => w_witness2
  case hc =>
    refine LamX.walk_ofTsE (l := PySem.Challenge.rw_bucketsums_k64_whole_refused_more) (n := 63) (k := 4 * 45) (x := "_law_script") (CX := fun _ => L2.CX0) rfl (by decide) (by kernel_rfl) ⟨rfl, by decide, by decide⟩ ?F (fun _ _ _ _ _ z => z)
    intro w mg fa h Y G hmg0
    obtain ⟨K, KX, c⟩ := Y
    have hmg : mg ("law" : PySem.Str) = some (.ref fa) := by
      have e : (HandSHeadRun.topDef (OpenLaw.row PySem.Challenge.rw_bucketsums_k64_whole_refused_more).prog 48).name = ("law" : PySem.Str) := by kernel_rfl
      rw [← e]
      exact hmg0
    have e := hmg.symm.trans (cGlo_ok KX G (c.p.fact 117 rfl) : mg "law" = some (.ref ((PX.K64.GG K).fa 44)))
    cases e
    obtain ⟨fd, F⟩ := c.p.def_ 44 (d := PX.K64.d44) rfl
    have hb := L2.FunD.bindsA (ps := ["_law_script"]) F fun _ _ _ _ _ _ us hl => match us, hl with | [_], _ => rfl
    have mem : ∀ {z : PySem.Addr × PySem.Addr} {M : PySem.Addr × PySem.Addr → Prop}, (∀ p ∈ PX.K64.tf, M (He.cT K p)) → z ∈ PX.K64.tf.map (He.cT K) → M z := fun h hz => by
      obtain ⟨y, hy, rfl⟩ := List.mem_map.mp hz
      exact h y hy
    refine ⟨K, KX, fd, PX.K64.tf.map (He.cT K), PX.spF0 (PX.K64.GG K) (PX.callF PX.K64.TT 45) 44 1, fun p hp => mem (M := fun z => h.get? z.2 = some { cls := .none, data := .fields #[] }) c.empty hp, fun p hp => mem (M := fun z => K.lookup z.2 = none) c.out hp, fun p hp => mem (M := fun z => PySem.W.CodeHd h z.1 z.2) (fun p hp => PySem.W.codeHd_of_K KX (c.hd p hp)) hp, fun s u => hb s [u] rfl, fun H a ns hl _ hH hS => ?_, fun base kb nb tb => ?_⟩
    · obtain ⟨S', e⟩ := PX.K64.law_eval ns hl
      refine PX.law_sp c.p.nol hS e fun p hp => ?_
      obtain ⟨y, hy, rfl⟩ := List.mem_map.mp (show p ∈ PX.K64.tfq.map (fun p => ((He.cT K p.1).2, PX.lamQ p.2)) from hp)
      exact LamX.TabS.nil (hH _ (List.mem_map.mpr ⟨y.1, (show y.1 ∈ PX.K64.tfq.map Prod.fst from List.mem_map.mpr ⟨y, hy, rfl⟩), rfl⟩))
    · exact PX.K64.lawOk ⟨kb, nb, c.p, fun p hp => tb _ (List.mem_map.mpr ⟨p, hp, rfl⟩), c.nd⟩ F
