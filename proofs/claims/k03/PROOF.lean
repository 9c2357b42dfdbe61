import PyProof.Rows.All
import PySem.PyData
import PyProof.EqLayable
import Wide.All
import OpenK.AllK
import Wide.FinOn
import HandS.ForMost
import HandS.Exc
import HandS.Walk
import HandS.TryOnly
import HandS.Style
import HandS.More
import HandS.Defaults
import HandS.CallSlots
import HandS.List
import HandS.Text
import HandS.Strs
import HandS.Deep
import HandS.IsInst
import HandS.Wide
import HandS.WideBits
import HandS.SortInts
import HandS.TupAny
import HandS.TupMul
import HandS.Zip
import HandS.Conv
import HandS.Steps
import HandS.RaiseMore
import PyProof.ReprRoads
import HandS.SetKeys
import KE.KStateDown
import HandS.Ends
import HandS.Head0
import HandS.Head1
import HandS.Head2
import HandS.HeadEnd
import HandS.HeadHook1
import HandS.HeadHook2
import HandS.HeadHook3
import HandS.Words
import PyProof.ExcBaseAll.ValueError
import HandS.WordsDict
import HandS.Star
import HandS.TupLe
import HandS.SetFor
import HandS.Set
import KE.KUnpackStar
import HandS.ExcInit
import HandS.ExcField
import PySem.Challenge.RW_batchlimits_k03_traffic_repeated
section PDa_
set_option linter.all false
/-! PDa: pure readings over Python values (PyData) with value semantics. Own work, over the kit's PyData alone. -/
namespace PD
open PySem
abbrev D := PyData
abbrev KeyD := Sum Int Str
def keyD : KeyD → D
  | .inl i => .int i
  | .inr s => .str s
/-- the law's script, which is read alone -/
def scrD (ns : List Int) : D := .dict [(.none, .list (ns.map .int))]
/-- a table that is locked while its keys are walked: its keys -/
abbrev lckD (ks : List D) : D := .dict [(.list [], .list ks)]
/-- a slot of the frame: unknown, a value that never changes, a list that this frame owns, a list lent by the caller (it may be changed), a dict that this frame owns -/
inductive Sl where
  | un
  | d (x : D)
  | own (xs : List D)
  | par (xs : List D)
  | tab (kvs : List (KeyD × D))
abbrev Env := List Sl
/-- what an expression gives -/
inductive Ret where
  | d (x : D)
  | own (xs : List D)
  | tab (kvs : List (KeyD × D))
abbrev Ret.toD : Ret → D
  | .d x => x
  | .own xs => .list xs
  | .tab kvs => .dict (kvs.map fun p => (keyD p.1, p.2))
abbrev Ret.toSl : Ret → Sl
  | .d x => .d x
  | .own xs => .own xs
  | .tab kvs => .tab kvs
@[simp] theorem Ret.toD_d (x : D) : (Ret.d x).toD = x := rfl
@[simp] theorem Ret.toD_own (x : List D) : (Ret.own x).toD = .list x := rfl
@[simp] theorem Ret.toSl_d (x : D) : (Ret.d x).toSl = .d x := rfl
@[simp] theorem Ret.toSl_own (x : List D) : (Ret.own x).toSl = .own x := rfl
@[simp] theorem Ret.toSl_tab (x : List (KeyD × D)) : (Ret.tab x).toSl = .tab x := rfl
/-- an exception: its class by its name, its field -/
structure Exn where
  cls : Str
  fld : Option (Str × D)
abbrev EK := Exn → Env → Prop
abbrev TR := EK → Env → (Ret → Env → Prop) → Prop
abbrev TB := EK → Env → (Bool → Env → Prop) → Prop
abbrev TA := EK → Env → (List D → Env → Prop) → Prop
abbrev TI := EK → Env → (List D → Env → Prop) → Prop
abbrev TG := D → Env → (Env → Prop) → Prop
abbrev TGs := List D → Env → (Env → Prop) → Prop
structure En where
  nx : Env → Prop
  rt : Ret → Env → Prop
  bk : Env → Prop := fun _ => False
  ct : Env → Prop := fun _ => False
  ex : EK := fun _ _ => False
abbrev TS := En → Env → Prop
/-- a def's promise over values: the parameters' slots, what is wanted of the result and the parameters' slots, of an exception -/
abbrev Sp := List Sl → (Ret → List Sl → Prop) → EK → Prop
def ownOf : Sl → Option (List D)
  | .own xs => some xs
  | .par xs => some xs
  | _ => none
def Sl.put (s : Sl) (xs : List D) : Sl := match s with
  | .own _ => .own xs
  | .par _ => .par xs
  | s => s

/-! ### expressions -/
/-- a value, given away for good -/
def fz (t : TR) (E : EK) (env : Env) (P : D → Env → Prop) : Prop := t E env fun r e1 => P r.toD e1
/-- a name, as a value: an own list is given away (it may not be changed any more) -/
def rVar (i : Nat) : TR := fun _ env P => match env[i]? with
  | some (.d x) => P (.d x) env
  | some (.own xs) => P (.d (.list xs)) (env.set i (.d (.list xs)))
  | some (.tab kvs) => P (.d (Ret.tab kvs).toD) (env.set i (.d (Ret.tab kvs).toD))
  | _ => False
/-- a name that is returned: an own list leaves the frame as an own one -/
def rMove (i : Nat) : TR := fun _ env P => match env[i]? with
  | some (.d x) => P (.d x) env
  | some (.own xs) => P (.own xs) (env.set i .un)
  | some (.tab kvs) => P (.tab kvs) (env.set i .un)
  | _ => False
def rC (x : D) : TR := fun _ env P => P (.d x) env
def rOp (r : D → D → Option Ret) (ta tb : TR) : TR := fun E env P => fz ta E env fun x e1 => fz tb E e1 fun y e2 => ∃ z, r x y = some z ∧ P z e2
def rUn (r : D → Option Ret) (ta : TR) : TR := fun E env P => fz ta E env fun x e1 => ∃ z, r x = some z ∧ P z e1
def rIf (t : TB) (ta tb : TR) : TR := fun E env P => t E env fun b e1 => if b = true then ta E e1 P else tb E e1 P
def aNil : TA := fun _ env P => P [] env
def aCons (ta : TR) (tr : TA) : TA := fun E env P => fz ta E env fun x e1 => tr E e1 fun xs e2 => P (x :: xs) e2
def rTup (ts : TA) : TR := fun E env P => ts E env fun xs e1 => xs.length ≤ 16777216 ∧ P (.d (.tuple xs)) e1
def rLst (ts : TA) : TR := fun E env P => ts E env fun xs e1 => xs.length ≤ 16777216 ∧ P (.own xs) e1
def rDct0 : TR := fun _ env P => P (.tab []) env
def rAnd (ta tb : TR) : TR := fun E env P => fz ta E env fun x e1 => ∃ c, x = .bool c ∧ if c = true then tb E e1 P else P (.d (.bool false)) e1
def rOr (ta tb : TR) : TR := fun E env P => fz ta E env fun x e1 => ∃ c, x = .bool c ∧ if c = true then P (.d (.bool true)) e1 else tb E e1 P
def rNot (ta : TR) : TR := fun E env P => fz ta E env fun x e1 => ∃ c, x = .bool c ∧ P (.d (.bool (!c))) e1
/-- a op b op' c -/
def rChain (r r' : D → D → Option Ret) (ta tb tc : TR) : TR := fun E env P => fz ta E env fun x e1 => fz tb E e1 fun y e2 => ∃ k, r x y = some (.d (.bool k)) ∧
  if k = true then fz tc E e2 fun z e3 => ∃ w, r' y z = some w ∧ P w e3 else P (.d (.bool false)) e2
/-- a built-in of its arguments -/
def rCB (r : List D → Option Ret) (ts : TA) : TR := fun E env P => ts E env fun xs e1 => ∃ z, r xs = some z ∧ P z e1
/-- a method of a built-in type that changes nothing -/
def rBM (r : D → List D → Option Ret) (to : TR) (ts : TA) : TR := fun E env P => fz to E env fun x e1 => ts E e1 fun ys e2 => ∃ z, r x ys = some z ∧ P z e2
/-- a part of a slice -/
abbrev TO := EK → Env → (Option Int → Env → Prop) → Prop
def oNone : TO := fun _ env P => P none env
def oSome (t : TR) : TO := fun E env P => fz t E env fun x e1 => ∃ i, x = .int i ∧ P (some i) e1
def rSl (r : D → Option Int → Option Int → Option Ret) (te : TR) (tl th : TO) : TR := fun E env P => fz te E env fun x e1 => tl E e1 fun lo e2 => th E e2 fun hi e3 => ∃ z, r x lo hi = some z ∧ P z e3
/-- f(..): values in; ds the defaults that fill up -/
def rCall (sp : Sp) (ds : List D) (ts : TA) : TR := fun E env P => ts E env fun xs e1 => sp ((xs ++ ds).map .d) (fun r _ => P r e1) (fun x _ => E x e1)
/-- f(e, .., k = e, ..): g puts the values in the parameters' order -/
def rCallK (sp : Sp) (g : List D → List D → List D) (ts us : TA) : TR := fun E env P => ts E env fun xs e1 => us E e1 fun ys e2 => sp ((g xs ys).map .d) (fun r _ => P r e2) (fun x _ => E x e2)
/-- f(p, ..): p an own or lent list that the callee may change -/
def IsOwn (i : Nat) (env : Env) : Prop := ∃ s xs, env[i]? = some s ∧ ownOf s = some xs
def rCallP (sp : Sp) (i : Nat) (ds : List D) (ts : TA) : TR := fun E env P => IsOwn i env ∧ ts E env fun xs e1 => ∃ s ys, e1[i]? = some s ∧ ownOf s = some ys ∧
  sp (.par ys :: (xs ++ ds).map .d) (fun r as => ∃ zs, as.head? = some (.par zs) ∧ P r (e1.set i (s.put zs))) (fun x as => ∃ zs, as.head? = some (.par zs) ∧ E x (e1.set i (s.put zs)))
/-- the place of an index, counted from the end where it is negative -/
def ixOf (i : Int) (n : Nat) : Option Nat := if 0 ≤ i then (if i < n then some i.toNat else none) else if -(n : Int) ≤ i then some (i + n).toNat else none
/-- xs.pop(k) of an own or lent list -/
def rPop (i : Nat) (tk : TR) : TR := fun E env P => IsOwn i env ∧ fz tk E env fun x e1 => ∃ s xs k j v, e1[i]? = some s ∧ ownOf s = some xs ∧ x = .int k ∧ (-(2 ^ 63) ≤ k ∧ k < 2 ^ 63) ∧ ixOf k xs.length = some j ∧ xs[j]? = some v ∧ P (.d v) (e1.set i (s.put (xs.eraseIdx j)))
def rPop0 (i : Nat) : TR := fun _ env P => ∃ s xs v, env[i]? = some s ∧ ownOf s = some xs ∧ xs.getLast? = some v ∧ P (.d v) (env.set i (s.put xs.dropLast))

/-! ### values that hold no list: they never change -/
mutual
def flat : D → Bool
  | .list _ => false
  | .dict _ => false
  | .tuple xs => flats xs
  | _ => true
def flats : List D → Bool
  | [] => true
  | x :: xs => flat x && flats xs
end
def Ret.flat : Ret → Bool
  | .d x => PD.flat x
  | .own xs => flats xs
  | .tab kvs => flats (kvs.map (·.2))
def lent1 (b : Bool) (s : Sl) : Sl := match b, s with
  | true, .own xs => .d (.list xs)
  | true, .par xs => .d (.list xs)
  | _, s => s
/-- the own (and lent) lists of the slots in is are looked at as values; k the first slot's number -/
def lend (is : List Nat) : Nat → Env → Env
  | _, [] => []
  | k, s :: r => lent1 (decide (k ∈ is)) s :: lend is (k + 1) r
def back1 (b : Bool) (s s' : Sl) : Sl := match b, s with
  | true, .own xs => .own xs
  | true, .par xs => .par xs
  | _, _ => s'
/-- .. and are own again, as they were -/
def back (is : List Nat) : Nat → Env → Env → Env
  | k, s :: r, s' :: r' => back1 (decide (k ∈ is)) s s' :: back is (k + 1) r r'
  | _, _, e => e
/-- what may have changed meanwhile: own or lent lists, which got flat items -/
def mild1 (b : Bool) (s s' : Sl) : Prop := match s with
  | .own _ => if b = true then True else ∃ ys, s' = .own ys ∧ flats ys = true
  | .par _ => if b = true then True else ∃ ys, s' = .par ys ∧ flats ys = true
  | .tab _ => ∃ kvs, s' = .tab kvs ∧ flats (kvs.map (·.2)) = true
  | s => s' = s
def Mild (is : List Nat) : Nat → Env → Env → Prop
  | _, [], [] => True
  | k, s :: r, s' :: r' => mild1 (decide (k ∈ is)) s s' ∧ Mild is (k + 1) r r'
  | _, _, _ => False
def rBor (is : List Nat) (t : TR) : TR := fun _ env P => t (fun _ _ => False) (lend is 0 env) fun r e1 => r.flat = true ∧ Mild is 0 env e1 ∧ P r (back is 0 env e1)

/-! ### tests -/
def bTest (ta : TR) : TB := fun E env P => fz ta E env fun x e1 => ∃ b, x = .bool b ∧ P b e1
def truth : D → Option Bool
  | .bool b => some b
  | .none => some false
  | .int i => some (i != 0)
  | .list xs => some (!xs.isEmpty)
  | .tuple xs => some (!xs.isEmpty)
  | _ => none
def bTru (ta : TR) : TB := fun E env P => fz ta E env fun x e1 => ∃ b, truth x = some b ∧ P b e1
def bAnd (t u : TB) : TB := fun E env P => t E env fun c e1 => if c = true then u E e1 P else P false e1
def bOr (t u : TB) : TB := fun E env P => t E env fun c e1 => if c = true then P true e1 else u E e1 P
def bNot (t : TB) : TB := fun E env P => t E env fun c e1 => P (!c) e1
def bYes : TB := fun _ env P => P true env
def bBor (is : List Nat) (t : TB) : TB := fun _ env P => t (fun _ _ => False) (lend is 0 env) fun b e1 => Mild is 0 env e1 ∧ P b (back is 0 env e1)

/-! ### targets -/
def gName (i : Nat) : TG := fun x env Q => Q (env.set i (.d x))
def gNil : TGs := fun xs env Q => xs = [] ∧ Q env
def gCons (t : TG) (u : TGs) : TGs := fun xs env Q => ∃ x r, xs = x :: r ∧ t x env fun e1 => u r e1 Q
def gTup (n : Nat) (t : TGs) : TG := fun x env Q => ∃ xs, x = .tuple xs ∧ xs.length = n ∧ t xs env Q
def gLst (n : Nat) (t : TGs) : TG := fun x env Q => ∃ xs, x = .list xs ∧ xs.length = n ∧ t xs env Q

/-! ### what is walked -/
/-- the items of what is walked: a list, a tuple, a text, the script -/
def seqD : D → Option (List D)
  | .list xs => some xs
  | .tuple xs => some xs
  | .str s => some (s.cps.toList.map fun c => .str ⟨#[c]⟩)
  | .dict [(.none, .list xs)] => some xs
  | _ => none
def iAny (te : TR) : TI := fun E env P => fz te E env fun x e1 => ∃ xs, seqD x = some xs ∧ P xs e1
def iRange3 (ta tb : TR) (c : Int) (n : Int → Int → Nat) : TI := fun E env P => fz ta E env fun x e1 => fz tb E e1 fun y e2 => ∃ i j, x = .int i ∧ y = .int j ∧ (-(2 ^ 62) ≤ i ∧ i < 2 ^ 62 ∧ -(2 ^ 62) ≤ j ∧ j < 2 ^ 62) ∧ P ((List.range (n i j)).map fun k : Nat => .int (i + (k : Int) * c)) e2
def iList (te : TR) : TI := fun E env P => fz te E env fun x e1 => ∃ xs, x = .list xs ∧ P xs e1
def iTup (te : TR) : TI := fun E env P => fz te E env fun x e1 => ∃ xs, x = .tuple xs ∧ P xs e1
def signs (s : Str) : List D := s.cps.toList.map fun c => .str ⟨#[c]⟩
def iStr (te : TR) : TI := fun E env P => fz te E env fun x e1 => ∃ s, x = .str s ∧ P (signs s) e1
def rangeD (lo : Int) (n : Nat) : List D := (List.range n).map fun i : Nat => .int (lo + i)
def iRange (ta tb : TR) : TI := fun E env P => fz ta E env fun x e1 => fz tb E e1 fun y e2 => ∃ i j, x = .int i ∧ y = .int j ∧ (-(2 ^ 62) ≤ i ∧ i < 2 ^ 62 ∧ -(2 ^ 62) ≤ j ∧ j < 2 ^ 62) ∧ P (rangeD i (j - i).toNat) e2
def iRange1 (tb : TR) : TI := fun E env P => fz tb E env fun y e2 => ∃ j, y = .int j ∧ (-(2 ^ 62) ≤ j ∧ j < 2 ^ 62) ∧ P (rangeD 0 j.toNat) e2
def enumD (lo : Int) : List D → List D
  | [] => []
  | x :: xs => .tuple [.int lo, x] :: enumD (lo + 1) xs
def iEnum (te : TR) : TI := fun E env P => fz te E env fun x e1 => ∃ xs, x = .list xs ∧ P (enumD 0 xs) e1
def iZip (ta tb : TR) : TI := fun E env P => fz ta E env fun x e1 => fz tb E e1 fun y e2 => ∃ xs ys, ((x = .list xs ∧ y = .list ys) ∨ (x = .tuple xs ∧ y = .tuple ys)) ∧ P (List.zipWith (fun a b => .tuple [a, b]) xs ys) e2

/-! ### comprehensions -/
def wipe : List Nat → Env → Env
  | [], env => env
  | i :: is, env => (wipe is env).set i .un
/-- the slots in ws as they were in env -/
def keep (ws : List Nat) (env env' : Env) : Env := match ws with
  | [] => env'
  | i :: is => match env[i]? with
    | some s => (keep is env env').set i s
    | none => keep is env env'
def rLc (ti : TI) (g : TG) (tc : TB) (te : TR) (ws : List Nat) : TR := fun E env P => ti E env fun xs e1 => xs.length ≤ 16777216 ∧ ∃ I : Nat → List D → Env → Prop, I 0 [] (wipe ws e1) ∧
  (∀ i x acc e, xs[i]? = some x → I i acc e → g x e fun e2 => tc (fun _ _ => False) e2 fun b e3 => if b = true then fz te (fun _ _ => False) e3 fun y e4 => I (i + 1) (acc ++ [y]) (wipe ws e4) else I (i + 1) acc (wipe ws e3)) ∧
  (∀ acc e, I xs.length acc e → P (.own acc) (keep ws e1 e))

/-! ### statements -/
def sNext : TS := fun D env => D.nx env
def sSeq (t u : TS) : TS := fun D env => t { D with nx := u D } env
def sBreak : TS := fun D env => D.bk env
def sCont : TS := fun D env => D.ct env
def sAsg (te : TR) (i : Nat) : TS := fun D env => te D.ex env fun r e1 => D.nx (e1.set i r.toSl)
def sAsgG (te : TR) (g : TG) : TS := fun D env => fz te D.ex env fun x e1 => g x e1 D.nx
/-- a, b, .. = e1, e2, ..: names -/
def parE : List TR → EK → Env → (List Ret → Env → Prop) → Prop
  | [], _, env, P => P [] env
  | t :: ts, E, env, P => t E env fun r e1 => parE ts E e1 fun rs e2 => P (r :: rs) e2
def setAll : List Nat → List Ret → Env → Env
  | i :: is, r :: rs, env => setAll is rs (env.set i r.toSl)
  | _, _, env => env
def sPar (is : List Nat) (ts : List TR) : TS := fun D env => parE ts D.ex env fun rs e1 => D.nx (setAll is rs e1)
def sDrop (te : TR) : TS := fun D env => te D.ex env fun _ e1 => D.nx e1
def sRet (te : TR) : TS := fun D env => te D.ex env D.rt
def sRetN : TS := fun D env => D.rt (.d .none) env
def sIf (t : TB) (u v : TS) : TS := fun D env => t D.ex env fun b e1 => if b = true then u D e1 else v D e1
def sNever : TS := fun _ _ => False
/-- raise C('..'), C without an __init__; raise C(e), whose __init__ keeps e in the field f -/
def sRaise (c : Str) : TS := fun D env => D.ex ⟨c, none⟩ env
def sRaiseF (c f : Str) (te : TR) : TS := fun D env => fz te D.ex env fun x e1 => D.ex ⟨c, some (f, x)⟩ e1
def sAug (i : Nat) (r : D → D → Option Ret) (te : TR) : TS := fun D env => ∃ x, env[i]? = some (.d x) ∧ fz te D.ex env fun y e1 => ∃ z, r x y = some z ∧ D.nx (e1.set i z.toSl)
/-- xs.append(e) -/
def sApp (i : Nat) (te : TR) : TS := fun D env => IsOwn i env ∧ fz te D.ex env fun x e1 => ∃ s xs, e1[i]? = some s ∧ ownOf s = some xs ∧ xs.length < 16777216 ∧ D.nx (e1.set i (s.put (xs ++ [x])))
/-- xs.extend(e), e a list -/
def sExt (i : Nat) (te : TR) : TS := fun D env => IsOwn i env ∧ fz te D.ex env fun x e1 => ∃ s xs ys, e1[i]? = some s ∧ ownOf s = some xs ∧ x = .list ys ∧ xs.length + ys.length ≤ 16777216 ∧ D.nx (e1.set i (s.put (xs ++ ys)))
def sRev (i : Nat) : TS := fun D env => ∃ s xs, env[i]? = some s ∧ ownOf s = some xs ∧ D.nx (env.set i (s.put xs.reverse))
def sClear (i : Nat) : TS := fun D env => ∃ s xs, env[i]? = some s ∧ ownOf s = some xs ∧ D.nx (env.set i (s.put []))
/-- xs.insert(k, e), 0 ≤ k -/
def sIns (i : Nat) (tk te : TR) : TS := fun D env => IsOwn i env ∧ fz tk D.ex env fun k e1 => fz te D.ex e1 fun x e2 => ∃ s xs j, e2[i]? = some s ∧ ownOf s = some xs ∧ k = .int j ∧ 0 ≤ j ∧ j < 2 ^ 63 ∧ xs.length < 16777216 ∧ D.nx (e2.set i (s.put (xs.take j.toNat ++ [x] ++ xs.drop j.toNat)))
/-- xs[k] = e -/
def sSetI (i : Nat) (te tk : TR) : TS := fun D env => IsOwn i env ∧ fz te D.ex env fun x e1 => fz tk D.ex e1 fun k e2 => ∃ s xs n j, e2[i]? = some s ∧ ownOf s = some xs ∧ k = .int n ∧ ixOf n xs.length = some j ∧ D.nx (e2.set i (s.put (xs.set j x)))
def keyOf : D → Option KeyD
  | .int i => some (.inl i)
  | .str s => some (.inr s)
  | _ => none
def putK (k : KeyD) (v : D) (kvs : List (KeyD × D)) : List (KeyD × D) :=
  if (kvs.any fun kv => decide (kv.1 = k)) = true then kvs.map (fun kv => if kv.1 = k then (kv.1, v) else kv) else kvs ++ [(k, v)]
/-- d[k] = e -/
def sSetK (i : Nat) (te tk : TR) : TS := fun D env => (∃ kvs, env[i]? = some (.tab kvs)) ∧ fz te D.ex env fun x e1 => fz tk D.ex e1 fun k e2 => ∃ kvs q, e2[i]? = some (.tab kvs) ∧ keyOf k = some q ∧ kvs.length < 16777216 ∧ D.nx (e2.set i (.tab (putK q x kvs)))
def sFor (ti : TI) (g : TG) (tb : TS) : TS := fun D env => ti D.ex env fun xs e1 => ∃ I : Nat → Env → Prop, I 0 e1 ∧
  (∀ i x e, xs[i]? = some x → I i e → g x e fun e2 => tb { D with nx := I (i + 1), ct := I (i + 1), bk := D.nx } e2) ∧ (∀ e, I xs.length e → D.nx e)
def sWhile (t : TB) (tb : TS) : TS := fun D env => ∃ I : Nat → Env → Prop, (∃ m, I m env) ∧ ∀ m e, I m e → t D.ex e fun b e1 =>
  if b = true then tb { D with nx := fun e2 => ∃ m', m' < m ∧ I m' e2, ct := fun e2 => ∃ m', m' < m ∧ I m' e2, bk := D.nx } e1 else D.nx e1

/-! ### defs -/
def parOnly : Sl → Sl
  | .par xs => .par xs
  | _ => .un
/-- the parameters' slots as the caller sees them behind the call: lent lists alone -/
def pars : Nat → Env → List Sl
  | 0, _ => []
  | n + 1, s :: r => parOnly s :: pars n r
  | n + 1, [] => .un :: pars n []
/-- what a body must show -/
def bodyEn (n : Nat) (R : Ret → List Sl → Prop) (Ex : EK) : En := { nx := fun env => R (.d .none) (pars n env), rt := fun r env => R r (pars n env), ex := fun x env => Ex x (pars n env) }
def Meets (n m : Nat) (sp : Sp) (t : TS) : Prop := ∀ as R Ex, as.length = n → sp as R Ex → t (bodyEn n R Ex) (as ++ List.replicate (m - n) .un)
end PD
end PDa_
section PDb_
set_option Elab.async false
set_option linter.all false
set_option maxRecDepth 100000
set_option maxHeartbeats 2000000
/-! PDb: what the pure readings mean over the heap; the core rules. -/
namespace PD
open PySem PySem.Spec PyProof.Rows L2

abbrev Fr := PySem.W.Frag
abbrev St := L2.St
/-! ### values and data -/
mutual
inductive Rp (K : Fr) (H : Hp) : V → D → Prop
  | non : Rp K H .non .none
  | bl (b : Bool) : Rp K H (.bl b) (.bool b)
  | int (i : Int) : Rp K H (.int i) (.int i)
  | str (x : Str) : Rp K H (.str x) (.str x)
  | lst {a : Addr} {xs : List V} {ds : List D} : H a = some (.lst xs) → RpA K H xs ds → Rp K H (.ref a) (.list ds)
  | scr {a : Addr} {ns : List Int} : SqL K H a (ns.map .int) → Rp K H (.ref a) (scrD ns)
  | tup {a : Addr} {xs : List V} {ds : List D} : SqT K H a xs → RpA K H xs ds → Rp K H (.ref a) (.tuple ds)
  | dct {a : Addr} {kvs : List (Key × V)} {ds : List (D × D)} : H a = some (.dK kvs) → RpK K H kvs ds → Rp K H (.ref a) (.dict ds)
  | lck {a : Addr} {kvs : List (Key × V)} : (∃ o, H a = some (.frz o (.dK kvs))) → Rp K H (.ref a) (lckD (kvs.map fun p => keyD p.1))
inductive RpA (K : Fr) (H : Hp) : List V → List D → Prop
  | nil : RpA K H [] []
  | cons {v : V} {vs : List V} {d : D} {ds : List D} : Rp K H v d → RpA K H vs ds → RpA K H (v :: vs) (d :: ds)
inductive RpK (K : Fr) (H : Hp) : List (Key × V) → List (D × D) → Prop
  | nil : RpK K H [] []
  | cons {k : Key} {v : V} {kvs : List (Key × V)} {q d : D} {ds : List (D × D)} : q = keyD k → Rp K H v d → RpK K H kvs ds → RpK K H ((k, v) :: kvs) ((q, d) :: ds)
end
section
variable {K : Fr} {H H' : Hp}
theorem same_t {a : Addr} {xs : List V} (e : Same H H') (h : SqT K H a xs) : SqT K H' a xs := by
  rcases h with (h | ⟨o, h⟩) | h
  · exact .inl (.inl (e _ _ h))
  · exact .inl (.inr ⟨o, e _ _ h⟩)
  · exact .inr h
mutual
theorem Rp.mono (e : Same H H') : ∀ {v : V} {d : D}, Rp K H v d → Rp K H' v d
  | _, _, .non => .non
  | _, _, .bl b => .bl b
  | _, _, .int i => .int i
  | _, _, .str x => .str x
  | _, _, .lst h1 h2 => .lst (e _ _ h1) (RpA.mono e h2)
  | _, _, .scr h => .scr (e.seq h)
  | _, _, .tup h1 h2 => .tup (same_t e h1) (RpA.mono e h2)
  | _, _, .dct h1 h2 => .dct (e _ _ h1) (RpK.mono e h2)
  | _, _, .lck ⟨o, h⟩ => .lck ⟨o, e _ _ h⟩
theorem RpA.mono (e : Same H H') : ∀ {vs : List V} {ds : List D}, RpA K H vs ds → RpA K H' vs ds
  | _, _, .nil => .nil
  | _, _, .cons h1 h2 => .cons (Rp.mono e h1) (RpA.mono e h2)
theorem RpK.mono (e : Same H H') : ∀ {vs : List (Key × V)} {ds : List (D × D)}, RpK K H vs ds → RpK K H' vs ds
  | _, _, .nil => .nil
  | _, _, .cons h0 h1 h2 => .cons h0 (Rp.mono e h1) (RpK.mono e h2)
end
theorem RpA.length : ∀ {vs : List V} {ds : List D}, RpA K H vs ds → vs.length = ds.length
  | _, _, .nil => rfl
  | _, _, .cons _ h => by simp [RpA.length h]
theorem RpA.get : ∀ {vs : List V} {ds : List D} {i : Nat} {x : D}, RpA K H vs ds → ds[i]? = some x → ∃ v, vs[i]? = some v ∧ Rp K H v x
  | _, _, _, _, .nil, e => by simp at e
  | _, _, 0, _, .cons r _, e => by simp at e; subst e; exact ⟨_, rfl, r⟩
  | _, _, i + 1, x, .cons _ t, e => by
    obtain ⟨u, h1, h2⟩ := RpA.get (i := i) (x := x) t (by simpa using e)
    exact ⟨u, by simpa using h1, h2⟩
theorem RpA.getV : ∀ {vs : List V} {ds : List D} {i : Nat} {v : V}, RpA K H vs ds → vs[i]? = some v → ∃ x, ds[i]? = some x ∧ Rp K H v x
  | _, _, _, _, .nil, e => by simp at e
  | _, _, 0, _, .cons r _, e => by simp at e; subst e; exact ⟨_, rfl, r⟩
  | _, _, i + 1, x, .cons _ t, e => by
    obtain ⟨u, h1, h2⟩ := RpA.getV (i := i) (v := x) t (by simpa using e)
    exact ⟨u, by simpa using h1, h2⟩
theorem RpA.append : ∀ {vs ws : List V} {ds es : List D}, RpA K H vs ds → RpA K H ws es → RpA K H (vs ++ ws) (ds ++ es)
  | _, _, _, _, .nil, h => h
  | _, _, _, _, .cons a b, h => .cons a (RpA.append b h)
theorem RpA.one {v : V} {d : D} (h : Rp K H v d) : RpA K H [v] [d] := .cons h .nil
theorem RpA.set {v : V} {d : D} (h : Rp K H v d) : ∀ {vs : List V} {ds : List D} (i : Nat), RpA K H vs ds → RpA K H (vs.set i v) (ds.set i d)
  | _, _, _, .nil => .nil
  | _, _, 0, .cons _ t => .cons h t
  | _, _, i + 1, .cons q t => .cons q (RpA.set h i t)
theorem RpA.take : ∀ {vs : List V} {ds : List D} (n : Nat), RpA K H vs ds → RpA K H (vs.take n) (ds.take n)
  | _, _, 0, _ => .nil
  | _, _, _ + 1, .nil => .nil
  | _, _, n + 1, .cons r t => .cons r (RpA.take n t)
theorem RpA.drop : ∀ {vs : List V} {ds : List D} (n : Nat), RpA K H vs ds → RpA K H (vs.drop n) (ds.drop n)
  | _, _, 0, r => r
  | _, _, _ + 1, .nil => .nil
  | _, _, n + 1, .cons _ t => RpA.drop n t
theorem RpA.rev : ∀ {vs : List V} {ds : List D}, RpA K H vs ds → RpA K H vs.reverse ds.reverse
  | _, _, .nil => .nil
  | _, _, .cons a b => by simp only [List.reverse_cons]; exact RpA.append (RpA.rev b) (.one a)
theorem RpA.erase : ∀ {vs : List V} {ds : List D} (i : Nat), RpA K H vs ds → RpA K H (vs.eraseIdx i) (ds.eraseIdx i)
  | _, _, _, .nil => .nil
  | _, _, 0, .cons _ t => t
  | _, _, i + 1, .cons q t => .cons q (RpA.erase i t)
theorem RpA.insert {v : V} {d : D} (h : Rp K H v d) : ∀ {vs : List V} {ds : List D} (i : Nat), RpA K H vs ds → RpA K H (vs.insertIdx i v) (ds.insertIdx i d)
  | _, _, 0, t => .cons h t
  | _, _, _ + 1, .nil => .nil
  | _, _, i + 1, .cons q t => .cons q (RpA.insert h i t)
theorem RpA.ints : ∀ {vs : List V} {ns : List Int}, RpA K H vs (ns.map .int) → vs = ns.map .int
  | _, [], h => by cases h; rfl
  | _, n :: ns, h => by
    cases h with
    | cons a b => cases a; rw [RpA.ints b]; rfl
theorem RpA.ofInts : ∀ {ns : List Int}, RpA K H (ns.map .int) (ns.map .int)
  | [] => .nil
  | n :: ns => .cons (.int n) RpA.ofInts
theorem RpA.strs : ∀ {vs : List V} {ns : List Str}, RpA K H vs (ns.map .str) → vs = ns.map .str
  | _, [], h => by cases h; rfl
  | _, n :: ns, h => by
    cases h with
    | cons a b => cases a; rw [RpA.strs b]; rfl
theorem RpA.ofStrs : ∀ {ns : List Str}, RpA K H (ns.map .str) (ns.map .str)
  | [] => .nil
  | n :: ns => .cons (.str n) RpA.ofStrs
theorem RpA.bls : ∀ {vs : List V} {ns : List Bool}, RpA K H vs (ns.map .bool) → vs = ns.map .bl
  | _, [], h => by cases h; rfl
  | _, n :: ns, h => by
    cases h with
    | cons a b => cases a; rw [RpA.bls b]; rfl
/-- flat values lean on no list -/
def NoL (B : Hp) : Hp := fun a => match B a with
  | some (.tup xs) => some (.tup xs)
  | some (.frz o u) => some (.frz o u)
  | _ => none
theorem noL_rd {a : Addr} {xs : List V} (h : Rd H a (.tup xs)) : Rd (NoL H) a (.tup xs) := by
  rcases h with h | ⟨o, h⟩
  · exact .inl (by unfold NoL; rw [h])
  · exact .inr ⟨o, by unfold NoL; rw [h]⟩
mutual
theorem Rp.noL : ∀ {v : V} {d : D}, Rp K H v d → flat d = true → Rp K (NoL H) v d
  | _, _, .non, _ => .non
  | _, _, .bl b, _ => .bl b
  | _, _, .int i, _ => .int i
  | _, _, .str x, _ => .str x
  | _, _, .lst _ _, f => by simp [flat] at f
  | _, _, .dct _ _, f => by simp [flat] at f
  | _, _, .lck _, f => by simp [flat, lckD] at f
  | _, _, .scr _, f => by simp [flat, scrD] at f
  | _, _, .tup h1 h2, f => by
    refine .tup ?_ (RpA.noL h2 (by simpa [flat] using f))
    rcases h1 with h1 | h1
    · exact .inl (noL_rd h1)
    · exact .inr h1
theorem RpA.noL : ∀ {vs : List V} {ds : List D}, RpA K H vs ds → flats ds = true → RpA K (NoL H) vs ds
  | _, _, .nil, _ => .nil
  | _, _, .cons h1 h2, f => by
    simp only [flats, Bool.and_eq_true] at f
    exact .cons (Rp.noL h1 f.1) (RpA.noL h2 f.2)
end
end

/-! ### slots -/
def owns : Option Sl → Bool
  | some (.own _) => true
  | some (.par _) => true
  | some (.tab _) => true
  | _ => false
def ownsF : Option Sl → Bool
  | some (.own _) => true
  | some (.tab _) => true
  | _ => false
def Own (env : Env) (σ : St) (a : Addr) : Prop := ∃ i : Nat, owns env[i]? = true ∧ σ[i]? = some (some (V.ref a))
def OwnF (env : Env) (σ : St) (a : Addr) : Prop := ∃ i : Nat, ownsF env[i]? = true ∧ σ[i]? = some (some (V.ref a))
/-- an owned list, an owned dict -/
def LstAt (K : Fr) (B H : Hp) (l : Addr) (xs : List D) : Prop := B l = none ∧ ∃ vs, H l = some (.lst vs) ∧ RpA K B vs xs
def TabAt (K : Fr) (B H : Hp) (l : Addr) (kvs : List (KeyD × D)) : Prop := B l = none ∧ ∃ ws, H l = some (.dK ws) ∧ RpK K B ws (kvs.map fun p => (keyD p.1, p.2)) ∧ ws.map (·.1) = kvs.map (·.1)
def SlOk (K : Fr) (B H : Hp) : Sl → Option V → Prop
  | .un, _ => True
  | .d x, o => ∃ v, o = some v ∧ Rp K B v x
  | .own xs, o => ∃ l, o = some (.ref l) ∧ LstAt K B H l xs
  | .par xs, o => ∃ l, o = some (.ref l) ∧ LstAt K B H l xs
  | .tab kvs, o => ∃ l, o = some (.ref l) ∧ TabAt K B H l kvs
structure Rel (K : Fr) (B H : Hp) (env : Env) (σ : St) : Prop where
  ex : Same B H
  len : env.length = σ.length
  ok : ∀ (i : Nat) s o, env[i]? = some s → σ[i]? = some o → SlOk K B H s o
  sep : ∀ (i j : Nat) l, i ≠ j → owns env[i]? = true → owns env[j]? = true → σ[i]? = some (some (.ref l)) → σ[j]? = some (some (.ref l)) → False
structure Stp (B H : Hp) (W F : Addr → Prop) (B' H' : Hp) : Prop where
  base : Same B B'
  fresh : ∀ a, B a = none → B' a ≠ none → H a = none ∨ F a
  dom : ∀ a, H a ≠ none → H' a ≠ none
  keep : ∀ a o, H a = some o → ¬ W a → H' a = some o
structure Post (K : Fr) (B H : Hp) (env : Env) (σ : St) (B' H' : Hp) (env' : Env) (σ' : St) : Prop where
  rel : Rel K B' H' env' σ'
  stp : Stp B H (Own env σ) (OwnF env σ) B' H'
  own : ∀ a, Own env' σ' a → Own env σ a ∨ H a = none
  ownF : ∀ a, OwnF env' σ' a → OwnF env σ a ∨ H a = none
  par : ∀ (i : Nat) xs, env'[i]? = some (.par xs) → (∃ ys, env[i]? = some (.par ys)) ∧ σ'[i]? = σ[i]?
def RetOk (K : Fr) (B H : Hp) (env : Env) (σ : St) : Ret → V → Prop
  | .d x, v => Rp K B v x
  | .own xs, v => ∃ l, v = .ref l ∧ LstAt K B H l xs ∧ ¬ Own env σ l
  | .tab kvs, v => ∃ l, v = .ref l ∧ TabAt K B H l kvs ∧ ¬ Own env σ l
def New (H : Hp) (env : Env) (σ : St) : Ret → V → Prop
  | .d _, _ => True
  | .own _, v => ∀ l, v = .ref l → H l = none ∨ OwnF env σ l
  | .tab _, v => ∀ l, v = .ref l → H l = none ∨ OwnF env σ l

section
variable {K : Fr} {B H B1 H1 B2 H2 : Hp} {env env1 env2 : Env} {σ σ1 σ2 : St}
theorem none_of_dom {a : Addr} (d : ∀ a, H a ≠ none → H1 a ≠ none) (h : H1 a = none) : H a = none := by
  cases e : H a with
  | none => rfl
  | some o => exact absurd h (d a (by rw [e]; simp))
theorem Stp.refl {W F : Addr → Prop} : Stp B H W F B H := ⟨Same.refl _, fun _ h h' => absurd h h', fun _ h => h, fun _ _ h _ => h⟩
theorem Stp.trans {W F W1 F1 : Addr → Prop} (a : Stp B H W F B1 H1) (b : Stp B1 H1 W1 F1 B2 H2) (hw : ∀ a, W1 a → W a ∨ H a = none) (hf : ∀ a, F1 a → F a ∨ H a = none) : Stp B H W F B2 H2 where
  base := a.base.trans b.base
  fresh := fun x h0 h2 => by
    by_cases h1 : B1 x = none
    · rcases b.fresh x h1 h2 with z | z
      · exact .inl (none_of_dom a.dom z)
      · rcases hf x z with z | z
        · exact .inr z
        · exact .inl z
    · exact a.fresh x h0 h1
  dom := fun x h => b.dom x (a.dom x h)
  keep := fun x o h hw' => b.keep x o (a.keep x o h hw') fun z => by
    rcases hw x z with z | z
    · exact hw' z
    · rw [h] at z; cases z
theorem Post.refl (R : Rel K B H env σ) : Post K B H env σ B H env σ := ⟨R, .refl, fun _ h => .inl h, fun _ h => .inl h, fun i xs h => ⟨⟨xs, h⟩, rfl⟩⟩
theorem Post.trans (a : Post K B H env σ B1 H1 env1 σ1) (b : Post K B1 H1 env1 σ1 B2 H2 env2 σ2) : Post K B H env σ B2 H2 env2 σ2 where
  rel := b.rel
  stp := a.stp.trans b.stp a.own a.ownF
  own := fun x h => by
    rcases b.own x h with z | z
    · exact a.own x z
    · exact .inr (none_of_dom a.stp.dom z)
  ownF := fun x h => by
    rcases b.ownF x h with z | z
    · exact a.ownF x z
    · exact .inr (none_of_dom a.stp.dom z)
  par := fun i xs h => by
    obtain ⟨⟨ys, h1⟩, e1⟩ := b.par i xs h
    obtain ⟨h2, e2⟩ := a.par i ys h1
    exact ⟨h2, e1.trans e2⟩
theorem OwnF.own {a : Addr} (h : OwnF env σ a) : Own env σ a := by
  obtain ⟨i, h1, h2⟩ := h
  refine ⟨i, ?_, h2⟩
  revert h1
  cases env[i]? with
  | none => simp [ownsF]
  | some s => cases s <;> simp [ownsF, owns]
theorem New.trans {r : Ret} {v : V} (a : Post K B H env σ B1 H1 env1 σ) (n : New H1 env1 σ r v) : New H env σ r v := by
  cases r with
  | d x => trivial
  | own xs =>
    intro l e
    rcases n l e with z | z
    · exact .inl (none_of_dom a.stp.dom z)
    · exact (a.ownF l z).symm
  | tab kvs =>
    intro l e
    rcases n l e with z | z
    · exact .inl (none_of_dom a.stp.dom z)
    · exact (a.ownF l z).symm
/-- what a slot says is kept where its own object is -/
theorem SlOk.keep {s : Sl} {o : Option V} (h : SlOk K B H s o) (e : Same B B1) (k : ∀ l, owns (some s) = true → o = some (.ref l) → B1 l = none ∧ H1 l = H l) : SlOk K B1 H1 s o := by
  cases s with
  | un => trivial
  | d x => obtain ⟨v, e1, r⟩ := h; exact ⟨v, e1, r.mono e⟩
  | own xs => obtain ⟨l, e1, b, vs, hl, r⟩ := h; obtain ⟨z1, z2⟩ := k l rfl e1; exact ⟨l, e1, z1, vs, by rw [z2]; exact hl, r.mono e⟩
  | par xs => obtain ⟨l, e1, b, vs, hl, r⟩ := h; obtain ⟨z1, z2⟩ := k l rfl e1; exact ⟨l, e1, z1, vs, by rw [z2]; exact hl, r.mono e⟩
  | tab xs => obtain ⟨l, e1, b, vs, hl, r, nm⟩ := h; obtain ⟨z1, z2⟩ := k l rfl e1; exact ⟨l, e1, z1, vs, by rw [z2]; exact hl, r.mono e, nm⟩
/-- an owned slot has its object -/
theorem Rel.obj (R : Rel K B H env σ) {a : Addr} (h : Own env σ a) : B a = none ∧ H a ≠ none := by
  obtain ⟨i, h1, h2⟩ := h
  cases e : env[i]? with
  | none => rw [e] at h1; simp [owns] at h1
  | some s =>
    have q := R.ok i s _ e h2
    rw [e] at h1
    cases s with
    | un => simp [owns] at h1
    | d x => simp [owns] at h1
    | own xs => obtain ⟨l, e1, b, vs, hl, _⟩ := q; cases e1; exact ⟨b, by rw [hl]; simp⟩
    | par xs => obtain ⟨l, e1, b, vs, hl, _⟩ := q; cases e1; exact ⟨b, by rw [hl]; simp⟩
    | tab xs => obtain ⟨l, e1, b, vs, hl, _⟩ := q; cases e1; exact ⟨b, by rw [hl]; simp⟩
/-- new objects alone -/
structure Stp0 (B H B' H' : Hp) : Prop where
  base : Same B B'
  keep : Same H H'
  sub : Same B' H'
  fresh : ∀ a, B a = none → B' a ≠ none → H a = none
theorem Stp0.refl (e : Same B H) : Stp0 B H B H := ⟨Same.refl _, Same.refl _, e, fun _ h h' => absurd h h'⟩
theorem Stp0.trans (a : Stp0 B H B1 H1) (b : Stp0 B1 H1 B2 H2) : Stp0 B H B2 H2 where
  base := a.base.trans b.base
  keep := a.keep.trans b.keep
  sub := b.sub
  fresh := fun x h0 h2 => by
    by_cases h1 : B1 x = none
    · exact a.keep.free (b.fresh x h1 h2)
    · exact a.fresh x h0 h1
theorem Post.of0 (R : Rel K B H env σ) (s : Stp0 B H B1 H1) : Post K B H env σ B1 H1 env σ where
  rel := ⟨s.sub, R.len, fun i sl o h1 h2 => (R.ok i sl o h1 h2).keep s.base fun l ho e => by
    have ow : Own env σ l := ⟨i, by rw [h1]; exact ho, by rw [h2, e]⟩
    obtain ⟨b, h⟩ := R.obj ow
    refine ⟨?_, ?_⟩
    · cases q : B1 l with
      | none => rfl
      | some u => exact absurd (s.fresh l b (by rw [q]; simp)) h
    · cases q : H l with
      | none => exact absurd q h
      | some u => exact s.keep l u q, R.sep⟩
  stp := ⟨s.base, fun a h h' => .inl (s.fresh a h h'), fun a h => by
    cases q : H a with
    | none => exact absurd q h
    | some u => rw [s.keep a u q]; simp, fun a o h _ => s.keep a o h⟩
  own := fun _ h => .inl h
  ownF := fun _ h => .inl h
  par := fun i xs h => ⟨⟨xs, h⟩, rfl⟩
/-- a new object, made part of what never changes -/
theorem Stp0.new {p : Addr} {o : HO} (e : Same B H) (hp : H p = none) : Stp0 B H (upd B p o) (upd H p o) where
  base := fun b u h => by rw [upd_ne (ne_of_none (e b u h) hp)]; exact h
  keep := fun b u h => by rw [upd_ne (ne_of_none h hp)]; exact h
  sub := fun b u h => by
    by_cases q : b = p
    · subst q; rw [upd_same] at h ⊢; exact h
    · rw [upd_ne q] at h ⊢; exact e b u h
  fresh := fun a h h' => by
    by_cases q : a = p
    · subst q; exact hp
    · rw [upd_ne q] at h'; exact absurd h h'
/-- a new object that stays apart -/
theorem Stp0.apart {p : Addr} {o : HO} (e : Same B H) (hp : H p = none) : Stp0 B H B (upd H p o) where
  base := Same.refl _
  keep := fun b u h => by rw [upd_ne (ne_of_none h hp)]; exact h
  sub := fun b u h => by rw [upd_ne (ne_of_none (e b u h) hp)]; exact e b u h
  fresh := fun a h h' => absurd h h'
/-- what was given is made a value for good -/
theorem RetOk.frz {r : Ret} {v : V} (p : Post K B H env σ B1 H1 env1 σ1) (h : RetOk K B1 H1 env1 σ1 r v) (n : New H env σ r v) : ∃ B2, Post K B H env σ B2 H1 env1 σ1 ∧ Rp K B2 v r.toD ∧ Same B1 B2 := by
  have go : ∀ (l : Addr) (o : HO), B1 l = none → H1 l = some o → ¬ Own env1 σ1 l → (H l = none ∨ OwnF env σ l) → Post K B H env σ (upd B1 l o) H1 env1 σ1 ∧ Same B1 (upd B1 l o) := by
    intro l o b1 h1 no nw
    have sm : Same B1 (upd B1 l o) := fun b u e => by rw [upd_ne (ne_of_none e b1)]; exact e
    refine ⟨⟨⟨fun b u e => ?_, p.rel.len, fun i s q e1 e2 => (p.rel.ok i s q e1 e2).keep sm fun l' ho e => ?_, p.rel.sep⟩, ⟨p.stp.base.trans sm, fun a h0 h2 => ?_, p.stp.dom, p.stp.keep⟩, p.own, p.ownF, p.par⟩, sm⟩
    · by_cases q : b = l
      · subst q; rw [upd_same] at e; cases e; exact h1
      · rw [upd_ne q] at e; exact p.rel.ex b u e
    · have ow : Own env1 σ1 l' := ⟨i, by rw [e1]; exact ho, by rw [e2, e]⟩
      have ne : l' ≠ l := fun z => no (z ▸ ow)
      exact ⟨by rw [upd_ne ne]; exact (p.rel.obj ow).1, rfl⟩
    · by_cases q : a = l
      · subst q; exact nw
      · rw [upd_ne q] at h2; exact p.stp.fresh a h0 h2
  cases r with
  | d x => exact ⟨B1, p, h, Same.refl _⟩
  | own xs =>
    obtain ⟨l, rfl, ⟨b, vs, hl, rr⟩, no⟩ := h
    obtain ⟨p2, sm⟩ := go l _ b hl no (n l rfl)
    exact ⟨_, p2, .lst upd_same (rr.mono sm), sm⟩
  | tab kvs =>
    obtain ⟨l, rfl, ⟨b, vs, hl, rr, _⟩, no⟩ := h
    obtain ⟨p2, sm⟩ := go l _ b hl no (n l rfl)
    exact ⟨_, p2, .dct upd_same (rr.mono sm), sm⟩
end
end PD
end PDb_
section PDc_
set_option Elab.async false
set_option linter.all false
set_option maxRecDepth 100000
set_option maxHeartbeats 2000000
/-! PDc: the judgements over values and their core rules. -/
namespace PD
open PySem PySem.Spec PyProof.Rows L2

def ExcOk (X : Cx) (B H : Hp) (x : Exn) (cls : Value) (d : Option Addr) : Prop := ∃ C, X.mg x.cls = some (.ref C) ∧ cls = .ref C ∧ match x.fld with
  | none => True
  | some (f, y) => ∃ dx v, d = some dx ∧ H dx = some (.xd [(f, v)]) ∧ Rp X.K B v y
def Good (X : Cx) (W : WX) (B H : Hp) (env : Env) (σ : St) (E : EK) : Prop := ∀ x env' cls dd B' H', E x env' → Post X.K B H env σ B' H' env' σ → ExcOk X B' H' x cls dd → W cls dd σ H'
def rdR (X : Cx) (W : WX) (t : TR) : L2.TE := fun σ H Q => ∃ (B : Hp) (env : Env) (E : EK) (P : Ret → Env → Prop), Rel X.K B H env σ ∧ t E env P ∧ Good X W B H env σ E ∧
  ∀ r env' v B' H', P r env' → Post X.K B H env σ B' H' env' σ → RetOk X.K B' H' env' σ r v → New H env σ r v → Q v H'
def rdB (X : Cx) (W : WX) (t : TB) : L2.TT := fun σ H Q => ∃ (B : Hp) (env : Env) (E : EK) (P : Bool → Env → Prop), Rel X.K B H env σ ∧ t E env P ∧ Good X W B H env σ E ∧
  ∀ b env' B' H', P b env' → Post X.K B H env σ B' H' env' σ → Q b H'
def rdA (X : Cx) (W : WX) (t : TA) : L2.TA := fun σ H Q => ∃ (B : Hp) (env : Env) (E : EK) (P : List D → Env → Prop), Rel X.K B H env σ ∧ t E env P ∧ Good X W B H env σ E ∧
  ∀ xs env' vs B' H', P xs env' → Post X.K B H env σ B' H' env' σ → RpA X.K B' vs xs → Q vs H'
def rdO (X : Cx) (W : WX) (t : TO) : L2.TO := fun σ H Q => ∃ (B : Hp) (env : Env) (E : EK) (P : Option Int → Env → Prop), Rel X.K B H env σ ∧ t E env P ∧ Good X W B H env σ E ∧
  ∀ o env' B' H', P o env' → Post X.K B H env σ B' H' env' σ → Q o H'
/-- outside the slots ws nothing is stored -/
def Out (ws : List Nat) (σ σ' : St) : Prop := σ'.length = σ.length ∧ ∀ j, j ∉ ws → σ'[j]? = σ[j]?
def rdG (X : Cx) (ws : List Nat) (t : TG) : L2.TG := fun v σ H Q => ∃ (B : Hp) (env : Env) (x : D) (P : Env → Prop), Rel X.K B H env σ ∧ Rp X.K B v x ∧ t x env P ∧
  ∀ env' σ' B' H', P env' → Post X.K B H env σ B' H' env' σ' → Out ws σ σ' → Q σ' H'
def rdGs (X : Cx) (ws : List Nat) (t : TGs) : L2.TGs := fun vs σ H Q => ∃ (B : Hp) (env : Env) (xs : List D) (P : Env → Prop), Rel X.K B H env σ ∧ RpA X.K B vs xs ∧ t xs env P ∧
  ∀ env' σ' B' H', P env' → Post X.K B H env σ B' H' env' σ' → Out ws σ σ' → Q σ' H'
/-- an iterator gives the values xs -/
def Wk (K : Fr) (B : Hp) (J : It) (xs : List D) : Prop := Walk J xs.length (fun H => Same B H) (fun i H v H' => ∃ x, xs[i]? = some x ∧ ∀ B1, Same B B1 → Same B1 H → ∃ B2, Stp0 B1 H B2 H' ∧ Rp K B2 v x)
def rdI (X : Cx) (W : WX) (t : TI) : L2.TI := fun σ H R => ∃ (B : Hp) (env : Env) (E : EK) (P : List D → Env → Prop), Rel X.K B H env σ ∧ t E env P ∧ Good X W B H env σ E ∧
  ∀ xs env' B' H' J, P xs env' → Post X.K B H env σ B' H' env' σ → Wk X.K B' J xs → R J H'
structure GoodS (X : Cx) (W : WX) (D : Ends) (B H : Hp) (env : Env) (σ : St) (E : En) : Prop where
  nx : ∀ env' σ' B' H', E.nx env' → Post X.K B H env σ B' H' env' σ' → D.nx σ' H'
  bk : ∀ env' σ' B' H', E.bk env' → Post X.K B H env σ B' H' env' σ' → D.bk σ' H'
  ct : ∀ env' σ' B' H', E.ct env' → Post X.K B H env σ B' H' env' σ' → D.ct σ' H'
  rt : ∀ r env' v σ' B' H', E.rt r env' → Post X.K B H env σ B' H' env' σ' → RetOk X.K B' H' env' σ' r v → New H env σ r v → D.rt v H'
  ex : ∀ x env' σ' cls dd B' H', E.ex x env' → Post X.K B H env σ B' H' env' σ' → ExcOk X B' H' x cls dd → W cls dd σ' H'
def rdS (X : Cx) (W : WX) (t : TS) : L2.TS := fun D σ H => ∃ (B : Hp) (env : Env) (E : En), Rel X.K B H env σ ∧ t E env ∧ GoodS X W D B H env σ E

abbrev PR (X : Cx) (W : WX) (e : Expr) (t : TR) : Prop := PE X e (rdR X W t)
abbrev PB (X : Cx) (W : WX) (e : Expr) (t : TB) : Prop := PT X e (rdB X W t)
abbrev PBw (X : Cx) (W : WX) (e : Expr) (t : TB) : Prop := PW X e (rdB X W t)
abbrev PAd (X : Cx) (W : WX) (es : List Expr) (t : TA) : Prop := PA X es (rdA X W t)
abbrev POd (X : Cx) (W : WX) (e : Option Expr) (t : TO) : Prop := L2.PO X e (rdO X W t)
abbrev PGd (X : Cx) (ws : List Nat) (e : Expr) (t : TG) : Prop := PG X e (rdG X ws t)
abbrev PGsd (X : Cx) (ws : List Nat) (e : List Expr) (t : TGs) : Prop := PGs X e (rdGs X ws t)
abbrev PId (X : Cx) (W : WX) (tg e : Expr) (t : TI) : Prop := PI X tg e (rdI X W t)
abbrev PSd (X : Cx) (W : WX) (s : Stmt) (t : TS) : Prop := PS X s (rdS X W t)
abbrev PSsd (X : Cx) (W : WX) (s : List Stmt) (t : TS) : Prop := PSs X s (rdS X W t)

section
variable {X : Cx} {W : WX} {B H B1 H1 B2 H2 : Hp} {env env1 : Env} {σ σ1 : St} {E : EK}
theorem pe_imp {e : Expr} {t t' : L2.TE} (h : PE X e t) (i : ∀ σ H Q, t' σ H Q → t σ H Q) : PE X e t' := ⟨fun pins s σ H Q I q => h.run pins s σ H Q I (i σ H Q q)⟩
theorem pt_imp {e : Expr} {t t' : L2.TT} (h : PT X e t) (i : ∀ σ H Q, t' σ H Q → t σ H Q) : PT X e t' := ⟨fun pins s σ H Q I q => h.run pins s σ H Q I (i σ H Q q)⟩
theorem pw_imp {e : Expr} {t t' : L2.TT} (h : PW X e t) (i : ∀ σ H Q, t' σ H Q → t σ H Q) : PW X e t' := ⟨fun w pins s σ H Q I q => h.run w pins s σ H Q I (i σ H Q q)⟩
theorem pa_imp {e : List Expr} {t t' : L2.TA} (h : PA X e t) (i : ∀ σ H Q, t' σ H Q → t σ H Q) : PA X e t' := ⟨fun pos pins s σ H Q I q => h.run pos pins s σ H Q I (i σ H Q q)⟩
theorem po_imp {e : Option Expr} {t t' : L2.TO} (h : L2.PO X e t) (i : ∀ σ H Q, t' σ H Q → t σ H Q) : L2.PO X e t' := ⟨fun pins s σ H Q I q => h.run pins s σ H Q I (i σ H Q q)⟩
theorem pg_imp {e : Expr} {t t' : L2.TG} (h : PG X e t) (i : ∀ v σ H Q, t' v σ H Q → t v σ H Q) : PG X e t' := ⟨fun pins s σ H v u Q I r q => h.run pins s σ H v u Q I r (i v σ H Q q)⟩
theorem pgs_imp {e : List Expr} {t t' : L2.TGs} (h : PGs X e t) (i : ∀ v σ H Q, t' v σ H Q → t v σ H Q) : PGs X e t' := ⟨fun pins s σ H v u Q I r q => h.run pins s σ H v u Q I r (i v σ H Q q)⟩
theorem pi_imp {tg e : Expr} {t t' : L2.TI} (h : PI X tg e t) (i : ∀ σ H Q, t' σ H Q → t σ H Q) : PI X tg e t' := ⟨fun pins s σ H Q I q => h.run pins s σ H Q I (i σ H Q q)⟩
theorem ps_imp {e : Stmt} {t t' : L2.TS} (h : PS X e t) (i : ∀ D σ H, t' D σ H → t D σ H) : PS X e t' := ⟨fun pins s σ H D I q => h.run pins s σ H D I (i D σ H q)⟩
theorem pss_imp {e : List Stmt} {t t' : L2.TS} (h : PSs X e t) (i : ∀ D σ H, t' D σ H → t D σ H) : PSs X e t' := ⟨fun pins s σ H D I q => h.run pins s σ H D I (i D σ H q)⟩

theorem Good.trans (g : Good X W B H env σ E) (p : Post X.K B H env σ B1 H1 env1 σ) : Good X W B1 H1 env1 σ E := fun x env' cls dd B' H' e q o => g x env' cls dd B' H' e (p.trans q) o
theorem New.transS {r : Ret} {v : V} (a : Post X.K B H env σ B1 H1 env1 σ1) (n : New H1 env1 σ1 r v) : New H env σ r v := by
  cases r with
  | d x => trivial
  | own xs =>
    intro l e
    rcases n l e with z | z
    · exact .inl (none_of_dom a.stp.dom z)
    · exact (a.ownF l z).symm
  | tab kvs =>
    intro l e
    rcases n l e with z | z
    · exact .inl (none_of_dom a.stp.dom z)
    · exact (a.ownF l z).symm
theorem GoodS.trans {D : Ends} {E : En} (g : GoodS X W D B H env σ E) (p : Post X.K B H env σ B1 H1 env1 σ1) : GoodS X W D B1 H1 env1 σ1 E :=
  ⟨fun a b c d e q => g.nx a b c d e (p.trans q), fun a b c d e q => g.bk a b c d e (p.trans q), fun a b c d e q => g.ct a b c d e (p.trans q),
   fun r a v b c d e q o n => g.rt r a v b c d e (p.trans q) o (New.transS p n), fun x a b c d e f h q o => g.ex x a b c d e f h (p.trans q) o⟩
theorem GoodS.good {D : Ends} {E : En} (g : GoodS X W D B H env σ E) : Good X W B H env σ E.ex := fun x env' cls dd B' H' e q o => g.ex x env' σ cls dd B' H' e q o
theorem rd_fz {t : TR} {P : D → Env → Prop} {Q : VK} (R : Rel X.K B H env σ) (h : fz t E env P) (g : Good X W B H env σ E)
    (k : ∀ x env' v B' H', P x env' → Post X.K B H env σ B' H' env' σ → Rp X.K B' v x → Q v H') : rdR X W t σ H Q :=
  ⟨B, env, E, _, R, h, g, fun r env' v B' H' p post ro nw => let ⟨B2, post2, rp, _⟩ := RetOk.frz post ro nw; k _ _ _ _ _ p post2 rp⟩
/-- a result of an operation: new, or a value -/
def Ret0 (K : Fr) (B H0 H : Hp) : Ret → V → Prop
  | .d x, v => Rp K B v x
  | .own xs, v => ∃ l, v = .ref l ∧ LstAt K B H l xs ∧ H0 l = none
  | .tab kvs, v => ∃ l, v = .ref l ∧ TabAt K B H l kvs ∧ H0 l = none
theorem Rel.notOwn {K : Fr} (R : Rel K B H env σ) {l : Addr} (h : H l = none) : ¬ Own env σ l := fun o => (R.obj o).2 h
theorem Ret0.ok {K : Fr} {z : Ret} {v : V} (R : Rel K B H env σ) (h : Ret0 K B1 H H1 z v) : RetOk K B1 H1 env σ z v ∧ New H env σ z v := by
  cases z with
  | d x => exact ⟨h, trivial⟩
  | own xs => obtain ⟨l, rfl, h1, h2⟩ := h; exact ⟨⟨l, rfl, h1, R.notOwn h2⟩, fun l' e => by cases e; exact .inl h2⟩
  | tab xs => obtain ⟨l, rfl, h1, h2⟩ := h; exact ⟨⟨l, rfl, h1, R.notOwn h2⟩, fun l' e => by cases e; exact .inl h2⟩
/-- what follows an operation -/
theorem fin0 {P : Ret → Env → Prop} {Q : VK} {z : Ret} {v : V} (k : ∀ r env' v B' H', P r env' → Post X.K B H env σ B' H' env' σ → RetOk X.K B' H' env' σ r v → New H env σ r v → Q v H')
    (p : Post X.K B H env σ B1 H1 env1 σ) (pz : P z env1) (s : Stp0 B1 H1 B2 H2) (h : Ret0 X.K B2 H1 H2 z v) : Q v H2 := by
  have q := Post.of0 p.rel s
  obtain ⟨a, b⟩ := h.ok p.rel
  exact k z env1 v B2 H2 pz (p.trans q) a (New.transS p b)
/-- operations by values -/
def rdOp (X : Cx) (r : D → D → Option Ret) : R2 := fun x y H Q => ∃ B d e z, Same B H ∧ Rp X.K B x d ∧ Rp X.K B y e ∧ r d e = some z ∧ ∀ v B' H', Stp0 B H B' H' → Ret0 X.K B' H H' z v → Q v H'
def rdUn (X : Cx) (r : D → Option Ret) : V → Hp → VK → Prop := fun x H Q => ∃ B d z, Same B H ∧ Rp X.K B x d ∧ r d = some z ∧ ∀ v B' H', Stp0 B H B' H' → Ret0 X.K B' H H' z v → Q v H'
def rdCl (X : Cx) (r : List D → Option Ret) : List V → Hp → VK → Prop := fun xs H Q => ∃ B ds z, Same B H ∧ RpA X.K B xs ds ∧ r ds = some z ∧ ∀ v B' H', Stp0 B H B' H' → Ret0 X.K B' H H' z v → Q v H'
def rdMt (X : Cx) (r : D → List D → Option Ret) : V → List V → Hp → VK → Prop := fun x xs H Q => ∃ B d ds z, Same B H ∧ Rp X.K B x d ∧ RpA X.K B xs ds ∧ r d ds = some z ∧ ∀ v B' H', Stp0 B H B' H' → Ret0 X.K B' H H' z v → Q v H'
def rdSl (X : Cx) (r : D → Option Int → Option Int → Option Ret) : V → Option Int → Option Int → Hp → VK → Prop := fun x lo hi H Q => ∃ B d z, Same B H ∧ Rp X.K B x d ∧ r d lo hi = some z ∧ ∀ v B' H', Stp0 B H B' H' → Ret0 X.K B' H H' z v → Q v H'
abbrev OpD (X : Cx) (f : Value → Value → Sem Value) (r : D → D → Option Ret) : Prop := OpR X f (rdOp X r)
abbrev UnD (X : Cx) (f : Value → Sem Value) (r : D → Option Ret) : Prop := UnR X f (rdUn X r)
abbrev ClD (X : Cx) (f : Value) (r : List D → Option Ret) : Prop := CallR X f (rdCl X r)
abbrev MtD (X : Cx) (id : String) (r : D → List D → Option Ret) : Prop := MtR X id (rdMt X r)
abbrev IxD (X : Cx) (r : D → D → Option Ret) : Prop := IxR X (rdOp X r)
abbrev SlD (X : Cx) (r : D → Option Int → Option Int → Option Ret) : Prop := SlR X (rdSl X r)

variable {a b c : Expr} {ta tb tc : TR} {pos : Pos} {r r' : D → D → Option Ret}
theorem pr_var (i : Nat) {x : Str} (h : PE X (.Name x pos) (tVar i)) : PR X W (.Name x pos) (rVar i) := pe_imp h fun σ H Q ⟨B, env, E, P, R, t, g, k⟩ => by
  unfold rVar at t
  cases e : env[i]? with
  | none => rw [e] at t; exact t.elim
  | some s =>
    rw [e] at t
    obtain ⟨hi, _⟩ := List.getElem?_eq_some_iff.mp e
    obtain ⟨o, ho⟩ : ∃ o, σ[i]? = some o := by
      have hh : i < σ.length := by rw [← R.len]; exact hi
      exact ⟨_, List.getElem?_eq_getElem hh⟩
    have q := R.ok i s o e ho
    -- an own object is made a value
    have go : ∀ (y : D) (l : Addr) (ob : HO), o = some (.ref l) → ownsF (some s) = true → B l = none → H l = some ob → (∀ B2, Same B B2 → B2 l = some ob → Rp X.K B2 (.ref l) y) → P (.d y) (env.set i (.d y)) → ∃ v, σ[i]? = some (some v) ∧ Q v H := by
      intro y l ob eo ow b1 h1 rr t
      have ow' : owns (some s) = true := by cases s <;> simp_all [ownsF, owns]
      refine ⟨_, by rw [ho, eo], ?_⟩
      have sm : Same B (upd B l ob) := fun b u e => by rw [upd_ne (ne_of_none e b1)]; exact e
      have sub : ∀ j, (env.set i (Sl.d y))[j]? = if i = j then some (Sl.d y) else env[j]? := fun j => by rw [List.getElem?_set]; split <;> simp_all
      have own_ : ∀ a, Own (env.set i (.d y)) σ a → Own env σ a ∧ a ≠ l := fun a ⟨j, h2, h3⟩ => by
        rw [sub j] at h2
        by_cases ij : i = j
        · rw [if_pos ij] at h2; simp [owns] at h2
        · rw [if_neg ij] at h2
          refine ⟨⟨j, h2, h3⟩, fun z => R.sep i j l ij (by rw [e]; exact ow') h2 (by rw [ho, eo]) (by rw [h3, z])⟩
      have ownF_ : ∀ a, OwnF (env.set i (.d y)) σ a → OwnF env σ a := fun a ⟨j, h2, h3⟩ => by
        rw [sub j] at h2
        by_cases ij : i = j
        · rw [if_pos ij] at h2; simp [ownsF] at h2
        · rw [if_neg ij] at h2; exact ⟨j, h2, h3⟩
      have rel : Rel X.K (upd B l ob) H (env.set i (.d y)) σ := by
        refine ⟨fun b u e => ?_, by rw [List.length_set]; exact R.len, fun j s' o' e1 e2 => ?_, fun j j' l' ne h1' h2' e1 e2 => ?_⟩
        · by_cases q : b = l
          · subst q; rw [upd_same] at e; cases e; exact h1
          · rw [upd_ne q] at e; exact R.ex b u e
        · rw [sub j] at e1
          by_cases ij : i = j
          · rw [if_pos ij] at e1; cases e1; subst ij; rw [ho] at e2; cases e2
            exact ⟨_, eo, rr _ sm upd_same⟩
          · rw [if_neg ij] at e1
            refine (R.ok j s' o' e1 e2).keep sm fun l' hw eo' => ?_
            have ne : l' ≠ l := fun z => R.sep i j l ij (by rw [e]; exact ow') (by rw [e1]; exact hw) (by rw [ho, eo]) (by rw [e2, eo', z])
            exact ⟨by rw [upd_ne ne]; exact (R.obj ⟨j, by rw [e1]; exact hw, by rw [e2, eo']⟩).1, rfl⟩
        · rw [sub j] at h1'; rw [sub j'] at h2'
          by_cases ij : i = j
          · rw [if_pos ij] at h1'; simp [owns] at h1'
          · rw [if_neg ij] at h1'
            by_cases ij' : i = j'
            · rw [if_pos ij'] at h2'; simp [owns] at h2'
            · rw [if_neg ij'] at h2'; exact R.sep j j' l' ne h1' h2' e1 e2
      refine k _ _ _ (upd B l ob) H t ⟨rel, ⟨sm, fun a h0 h2 => ?_, fun _ h => h, fun _ _ h _ => h⟩, fun a h => .inl (own_ a h).1, fun a h => .inl (ownF_ a h), fun j xs h => ?_⟩ (rr _ sm upd_same) trivial
      · by_cases q : a = l
        · subst q; exact .inr ⟨i, by rw [e]; exact ow, by rw [ho, eo]⟩
        · rw [upd_ne q] at h2; exact absurd h0 h2
      · rw [sub j] at h
        by_cases ij : i = j
        · rw [if_pos ij] at h; cases h
        · rw [if_neg ij] at h; exact ⟨⟨xs, h⟩, rfl⟩
    cases s with
    | un => exact t.elim
    | par xs => exact t.elim
    | d x =>
      obtain ⟨v, e1, rp⟩ := q
      exact ⟨v, by rw [ho, e1], k _ _ _ _ _ t (.refl R) rp trivial⟩
    | own xs =>
      obtain ⟨l, e1, b1, vs, h1, rr⟩ := q
      exact go (.list xs) l _ e1 rfl b1 h1 (fun B2 s2 z => .lst z (rr.mono s2)) t
    | tab kvs =>
      obtain ⟨l, e1, b1, vs, h1, rr, _⟩ := q
      exact go _ l _ e1 rfl b1 h1 (fun B2 s2 z => .dct z (rr.mono s2)) t
theorem pr_c {e : Expr} {v : V} {x : D} (h : PE X e (tC v)) (hr : ∀ B, Rp X.K B v x) : PR X W e (rC x) := pe_imp h fun σ H Q ⟨B, env, E, P, R, t, g, k⟩ =>
  k _ _ _ _ _ t (.refl R) (hr B) trivial
theorem pr_op {op : Operator} (ho : OpD X (binaryOp op) r) (ha : PR X W a ta) (hb : PR X W b tb) : PR X W (.BinOp a op b pos) (rOp r ta tb) :=
  pe_imp (pe_op ho ha hb) fun σ H Q ⟨B, env, E, P, R, t, g, k⟩ => rd_fz R t g fun x e1 v B1 H1 p1 q1 r1 => rd_fz q1.rel p1 (g.trans q1) fun y e2 u B2 H2 ⟨z, hz, pz⟩ q2 r2 =>
    ⟨B2, x, y, z, q2.rel.ex, r1.mono q2.stp.base, r2, hz, fun v' B3 H3 s ro => fin0 k (q1.trans q2) pz s ro⟩
theorem pr_cmp {op : CmpOp} (ho : OpD X (compareOp op) r) (ha : PR X W a ta) (hb : PR X W b tb) (hm : behindInMarks op b = false) : PR X W (.Compare a [op] [b] pos) (rOp r ta tb) :=
  pe_imp (pe_cmpR ho ha hb hm) fun σ H Q ⟨B, env, E, P, R, t, g, k⟩ => rd_fz R t g fun x e1 v B1 H1 p1 q1 r1 => rd_fz q1.rel p1 (g.trans q1) fun y e2 u B2 H2 ⟨z, hz, pz⟩ q2 r2 =>
    ⟨B2, x, y, z, q2.rel.ex, r1.mono q2.stp.base, r2, hz, fun v' B3 H3 s ro => fin0 k (q1.trans q2) pz s ro⟩
theorem pb_cmp {op : CmpOp} (ho : OpD X (compareOp op) r) (ha : PR X W a ta) (hb : PR X W b tb) (hm : behindInMarks op b = false) : PB X W (.Compare a [op] [b] pos) (bTest (rOp r ta tb)) :=
  pt_imp (pt_cmpR ho ha hb hm) fun σ H Q ⟨B, env, E, P, R, t, g, k⟩ => rd_fz (P := fun x e1 => fz tb E e1 fun y e2 => ∃ z, r x y = some z ∧ ∃ c, z.toD = .bool c ∧ P c e2) R t g fun x e1 v B1 H1 p1 q1 r1 => rd_fz q1.rel p1 (g.trans q1) fun y e2 u B2 H2 ⟨z, hz, pz⟩ q2 r2 =>
    ⟨B2, x, y, z, q2.rel.ex, r1.mono q2.stp.base, r2, hz, fun v' B3 H3 s ro => by
      obtain ⟨c, ec, pc⟩ := pz
      cases z with
      | d w =>
        have ec : w = .bool c := ec
        subst ec
        cases (show Rp X.K B3 v' (.bool c) from ro)
        exact ⟨c, rfl, k _ _ _ _ pc ((q1.trans q2).trans (.of0 q2.rel s))⟩
      | own w => cases (show PyData.list w = PyData.bool c from ec)
      | tab w => cases (show PyData.dict _ = PyData.bool c from ec)⟩
theorem pr_un {op : UnaryOp} {r : D → Option Ret} (ho : UnD X (unaryOp op) r) (ha : PR X W a ta) : PR X W (.UnaryOp op a pos) (rUn r ta) :=
  pe_imp (pe_un ho ha) fun σ H Q ⟨B, env, E, P, R, t, g, k⟩ => rd_fz R t g fun x e1 v B1 H1 ⟨z, hz, pz⟩ q1 r1 => ⟨B1, x, z, q1.rel.ex, r1, hz, fun v' B3 H3 s ro => fin0 k q1 pz s ro⟩
theorem pr_ix (hr : IxD X r) (ha : PR X W a ta) (hb : PR X W b tb) (hs : PlainIx b) : PR X W (.Subscript a b pos) (rOp r ta tb) :=
  pe_imp (pe_ix hr ha hb hs) fun σ H Q ⟨B, env, E, P, R, t, g, k⟩ => rd_fz R t g fun x e1 v B1 H1 p1 q1 r1 => rd_fz q1.rel p1 (g.trans q1) fun y e2 u B2 H2 ⟨z, hz, pz⟩ q2 r2 =>
    ⟨B2, x, y, z, q2.rel.ex, r1.mono q2.stp.base, r2, hz, fun v' B3 H3 s ro => fin0 k (q1.trans q2) pz s ro⟩
theorem pr_ifExp {t : TB} (hc : PB X W c t) (ha : PR X W a ta) (hb : PR X W b tb) : PR X W (.IfExp c a b pos) (rIf t ta tb) :=
  pe_imp (pe_ifExp hc ha hb) fun σ H Q ⟨B, env, E, P, R, h, g, k⟩ => ⟨B, env, E, _, R, h, g, fun b1 e1 B1 H1 p1 q1 => by
    cases b1 with
    | true =>
      rw [if_pos rfl] at p1 ⊢
      exact ⟨B1, e1, E, P, q1.rel, p1, g.trans q1, fun r env' v B' H' p q ro n => k r env' v B' H' p (q1.trans q) ro (New.transS q1 n)⟩
    | false =>
      rw [if_neg Bool.false_ne_true] at p1 ⊢
      exact ⟨B1, e1, E, P, q1.rel, p1, g.trans q1, fun r env' v B' H' p q ro n => k r env' v B' H' p (q1.trans q) ro (New.transS q1 n)⟩⟩
theorem pad_nil : PAd X W [] aNil := pa_imp pa_nil fun σ H Q ⟨B, env, E, P, R, h, g, k⟩ => k _ _ _ _ _ h (.refl R) .nil
theorem pad_cons {es : List Expr} {ts : TA} (ha : PR X W a ta) (hr : PAd X W es ts) (hs : starEach (a :: es) X.env = (false, eval a X.env) :: starEach es X.env := by rfl) : PAd X W (a :: es) (aCons ta ts) :=
  pa_imp (pa_cons ha hr hs) fun σ H Q ⟨B, env, E, P, R, h, g, k⟩ => rd_fz R h g fun x e1 v B1 H1 p1 q1 r1 =>
    ⟨B1, e1, E, _, q1.rel, p1, g.trans q1, fun xs e2 vs B2 H2 p2 q2 r2 => k _ _ _ _ _ p2 (q1.trans q2) (.cons (r1.mono q2.stp.base) r2)⟩
variable {es : List Expr} {ts : TA}
theorem pr_tup {x1} (h : PAd X W es ts) : PR X W (.Tuple es x1 pos) (rTup ts) :=
  pe_imp (pe_tup h) fun σ H Q ⟨B, env, E, P, R, h, g, k⟩ => ⟨B, env, E, _, R, h, g, fun xs e1 vs B1 H1 ⟨hl, p1⟩ q1 r1 =>
    ⟨by rw [r1.length]; exact hl, fun p hp => fin0 k q1 p1 (Stp0.new q1.rel.ex hp) (show Rp X.K _ (.ref p) (.tuple xs) from .tup (SqT.of upd_same) (r1.mono (Stp0.new (o := .tup vs) q1.rel.ex hp).base))⟩⟩
theorem pr_lst (h : PAd X W es ts) : PR X W (.List es pos) (rLst ts) :=
  pe_imp (pe_lst h) fun σ H Q ⟨B, env, E, P, R, h, g, k⟩ => ⟨B, env, E, _, R, h, g, fun xs e1 vs B1 H1 ⟨hl, p1⟩ q1 r1 =>
    ⟨by rw [r1.length]; exact hl, fun p hp => fin0 k q1 p1 (Stp0.apart q1.rel.ex hp) ⟨p, rfl, ⟨Same.free q1.rel.ex hp, vs, upd_same, r1⟩, hp⟩⟩⟩
theorem pr_dct0 : PR X W (.Dict [] [] pos) rDct0 :=
  pe_imp pe_dnewK fun σ H Q ⟨B, env, E, P, R, h, g, k⟩ => fun p hp => fin0 k (.refl R) h (Stp0.apart R.ex hp) ⟨p, rfl, ⟨Same.free R.ex hp, [], upd_same, .nil, rfl⟩, hp⟩
theorem pr_one {op} (h : PR X W a ta) : PR X W (.BoolOp op [a] pos) ta := pe_one h
variable {rest : List Expr}
theorem pr_and (ha : PR X W a ta) (hb : PR X W (.BoolOp .And (b :: rest) pos) tb) : PR X W (.BoolOp .And (a :: b :: rest) pos) (rAnd ta tb) :=
  pe_imp (pe_and ha hb) fun σ H Q ⟨B, env, E, P, R, h, g, k⟩ => rd_fz R h g fun x e1 v B1 H1 ⟨c, ec, p1⟩ q1 r1 => by
    subst ec; cases r1
    refine ⟨c, rfl, ?_⟩
    cases c with
    | true =>
      rw [if_pos rfl] at p1 ⊢
      exact ⟨B1, e1, E, P, q1.rel, p1, g.trans q1, fun r env' v B' H' p q ro n => k r env' v B' H' p (q1.trans q) ro (New.transS q1 n)⟩
    | false =>
      rw [if_neg Bool.false_ne_true] at p1 ⊢
      exact k _ _ _ _ _ p1 q1 (.bl false) trivial
theorem pr_or (ha : PR X W a ta) (hb : PR X W (.BoolOp .Or (b :: rest) pos) tb) : PR X W (.BoolOp .Or (a :: b :: rest) pos) (rOr ta tb) :=
  pe_imp (pe_or ha hb) fun σ H Q ⟨B, env, E, P, R, h, g, k⟩ => rd_fz R h g fun x e1 v B1 H1 ⟨c, ec, p1⟩ q1 r1 => by
    subst ec; cases r1
    refine ⟨c, rfl, ?_⟩
    cases c with
    | true =>
      rw [if_pos rfl] at p1 ⊢
      exact k _ _ _ _ _ p1 q1 (.bl true) trivial
    | false =>
      rw [if_neg Bool.false_ne_true] at p1 ⊢
      exact ⟨B1, e1, E, P, q1.rel, p1, g.trans q1, fun r env' v B' H' p q ro n => k r env' v B' H' p (q1.trans q) ro (New.transS q1 n)⟩
theorem pr_not (ha : PR X W a ta) : PR X W (.UnaryOp .Not a pos) (rNot ta) :=
  pe_imp (pe_not ha) fun σ H Q ⟨B, env, E, P, R, h, g, k⟩ => rd_fz R h g fun x e1 v B1 H1 ⟨c, ec, p1⟩ q1 r1 => by
    subst ec; cases r1
    exact ⟨c, rfl, k _ _ _ _ _ p1 q1 (.bl _) trivial⟩
/-! tests -/
theorem pb_val {e : Expr} {t : TR} (h : PR X W e t) (he : ∀ whole, isTrue e X.env whole = (do let v ← whole; standAt e.pos; holding [v] (truthy v)) := by intro _; rfl) : PB X W e (bTest t) :=
  pt_imp (pt_val h he) fun σ H Q ⟨B, env, E, P, R, t, g, k⟩ => rd_fz R t g fun x e1 v B1 H1 ⟨c, ec, p1⟩ q1 r1 => by
    subst ec; cases r1
    exact ⟨c, rfl, k _ _ _ _ p1 q1⟩
theorem pb_not {t : TB} (h : PB X W a t) : PB X W (.UnaryOp .Not a pos) (bNot t) :=
  pt_imp (pt_not h) fun σ H Q ⟨B, env, E, P, R, t, g, k⟩ => ⟨B, env, E, _, R, t, g, fun b1 e1 B1 H1 p1 q1 => k _ _ _ _ p1 q1⟩
theorem pb_and1 {t : TB} (h : PB X W a t) : PBw X W (.BoolOp .And [a] pos) t := pw_and1 h
theorem pb_or1 {t : TB} (h : PB X W a t) : PBw X W (.BoolOp .Or [a] pos) t := pw_or1 h
theorem pb_and {t u : TB} (ha : PB X W a t) (hb : PBw X W (.BoolOp .And (b :: rest) pos) u) : PBw X W (.BoolOp .And (a :: b :: rest) pos) (bAnd t u) :=
  pw_imp (pw_and ha hb) fun σ H Q ⟨B, env, E, P, R, h, g, k⟩ => ⟨B, env, E, _, R, h, g, fun b1 e1 B1 H1 p1 q1 => by
    cases b1 with
    | true =>
      rw [if_pos rfl] at p1 ⊢
      exact ⟨B1, e1, E, P, q1.rel, p1, g.trans q1, fun b env' B' H' p q => k b env' B' H' p (q1.trans q)⟩
    | false =>
      rw [if_neg Bool.false_ne_true] at p1 ⊢
      exact k _ _ _ _ p1 q1⟩
theorem pb_or {t u : TB} (ha : PB X W a t) (hb : PBw X W (.BoolOp .Or (b :: rest) pos) u) : PBw X W (.BoolOp .Or (a :: b :: rest) pos) (bOr t u) :=
  pw_imp (pw_or ha hb) fun σ H Q ⟨B, env, E, P, R, h, g, k⟩ => ⟨B, env, E, _, R, h, g, fun b1 e1 B1 H1 p1 q1 => by
    cases b1 with
    | true =>
      rw [if_pos rfl] at p1 ⊢
      exact k _ _ _ _ p1 q1
    | false =>
      rw [if_neg Bool.false_ne_true] at p1 ⊢
      exact ⟨B1, e1, E, P, q1.rel, p1, g.trans q1, fun b env' B' H' p q => k b env' B' H' p (q1.trans q)⟩⟩
theorem pb_w {t : TB} (h : PBw X W a t) : PB X W a t := h.pt
end
end PD
end PDc_
section PDd_
set_option Elab.async false
set_option linter.all false
set_option maxRecDepth 100000
set_option maxHeartbeats 2000000
/-! PDd: targets, statements, changes of own lists, looks at own lists. -/
namespace PD
open PySem PySem.Spec PyProof.Rows L2

section
variable {K : Fr} {B H B1 H1 B2 H2 : Hp} {env env1 env2 : Env} {σ σ1 σ2 : St} {r : Ret} {v : V}
def Ret.ownsR : Ret → Bool
  | .d _ => false
  | _ => true
theorem owns_toSl (r : Ret) : owns (some r.toSl) = r.ownsR := by cases r <;> rfl
theorem ownsF_toSl (r : Ret) : ownsF (some r.toSl) = r.ownsR := by cases r <;> rfl
theorem set_at {α : Type} {l : List α} {i j : Nat} {a s : α} (h : (l.set i a)[j]? = some s) : (i = j ∧ s = a ∧ i < l.length) ∨ (i ≠ j ∧ l[j]? = some s) := by
  rw [List.getElem?_set] at h
  by_cases e : i = j
  · rw [if_pos e] at h
    by_cases hl : i < l.length
    · rw [if_pos hl] at h; exact .inl ⟨e, (Option.some.inj h).symm, hl⟩
    · rw [if_neg hl] at h; cases h
  · rw [if_neg e] at h; exact .inr ⟨e, h⟩
theorem owns_some {o : Option Sl} (h : owns o = true) : ∃ s, o = some s ∧ owns (some s) = true := by
  cases o with
  | none => simp [owns] at h
  | some s => exact ⟨s, rfl, h⟩
theorem ownsF_some {o : Option Sl} (h : ownsF o = true) : ∃ s, o = some s ∧ ownsF (some s) = true := by
  cases o with
  | none => simp [ownsF] at h
  | some s => exact ⟨s, rfl, h⟩
theorem RetOk.slot (ro : RetOk K B H env σ r v) : SlOk K B H r.toSl (some v) := by
  cases r with
  | d x => exact ⟨v, rfl, ro⟩
  | own xs => obtain ⟨l, rfl, h, _⟩ := ro; exact ⟨l, rfl, h⟩
  | tab xs => obtain ⟨l, rfl, h, _⟩ := ro; exact ⟨l, rfl, h⟩
theorem RetOk.notOwn (ro : RetOk K B H env σ r v) (h : r.ownsR = true) {l : Addr} (e : v = .ref l) : ¬ Own env σ l := by
  cases r with
  | d x => simp [Ret.ownsR] at h
  | own xs => obtain ⟨l', e', _, n⟩ := ro; rw [e'] at e; cases e; exact n
  | tab xs => obtain ⟨l', e', _, n⟩ := ro; rw [e'] at e; cases e; exact n
theorem New.at (n : New H env σ r v) (h : r.ownsR = true) {l : Addr} (e : v = .ref l) : H l = none ∨ OwnF env σ l := by
  cases r with
  | d x => simp [Ret.ownsR] at h
  | own xs => exact n l e
  | tab xs => exact n l e
/-- a slot is stored -/
theorem Post.asg (i : Nat) (p : Post K B H env σ B1 H1 env1 σ1) (ro : RetOk K B1 H1 env1 σ1 r v) (n : New H env σ r v) : Post K B H env σ B1 H1 (env1.set i r.toSl) (σ1.set i (some v)) where
  rel := by
    refine ⟨p.rel.ex, by rw [List.length_set, List.length_set]; exact p.rel.len, fun j s o h1 h2 => ?_, fun j j' l ne h1 h2 h3 h4 => ?_⟩
    · rcases set_at h1 with ⟨e, rfl, _⟩ | ⟨e, h1⟩
      · rcases set_at h2 with ⟨_, rfl, _⟩ | ⟨e', _⟩
        · exact ro.slot
        · exact absurd e e'
      · rcases set_at h2 with ⟨e', _, _⟩ | ⟨_, h2⟩
        · exact absurd e' e
        · exact p.rel.ok j s o h1 h2
    · obtain ⟨s, e1, w1⟩ := owns_some h1
      obtain ⟨s', e2, w2⟩ := owns_some h2
      rcases set_at e1 with ⟨e, rfl, _⟩ | ⟨e, e1⟩
      · rcases set_at h3 with ⟨_, h3, _⟩ | ⟨z, _⟩
        · rcases set_at e2 with ⟨e', _, _⟩ | ⟨e', e2⟩
          · exact ne (e.symm.trans e')
          · rcases set_at h4 with ⟨z, _, _⟩ | ⟨_, h4⟩
            · exact e' z
            · rw [owns_toSl] at w1
              exact ro.notOwn w1 (Option.some.inj h3).symm ⟨j', by rw [e2]; exact w2, h4⟩
        · exact z e
      · rcases set_at h3 with ⟨z, _, _⟩ | ⟨_, h3⟩
        · exact e z
        · rcases set_at e2 with ⟨e', rfl, _⟩ | ⟨e', e2⟩
          · rcases set_at h4 with ⟨_, h4, _⟩ | ⟨z, _⟩
            · rw [owns_toSl] at w2
              exact ro.notOwn w2 (Option.some.inj h4).symm ⟨j, by rw [e1]; exact w1, h3⟩
            · exact z e'
          · rcases set_at h4 with ⟨z, _, _⟩ | ⟨_, h4⟩
            · exact e' z
            · exact p.rel.sep j j' l ne (by rw [e1]; exact w1) (by rw [e2]; exact w2) h3 h4
  stp := p.stp
  own := fun a ⟨j, h1, h2⟩ => by
    obtain ⟨s, e1, w1⟩ := owns_some h1
    rcases set_at e1 with ⟨e, rfl, _⟩ | ⟨e, e1⟩
    · rcases set_at h2 with ⟨_, h2, _⟩ | ⟨z, _⟩
      · rw [owns_toSl] at w1
        rcases n.at w1 (Option.some.inj h2).symm with z | z
        · exact .inr z
        · exact .inl z.own
      · exact absurd e z
    · rcases set_at h2 with ⟨z, _, _⟩ | ⟨_, h2⟩
      · exact absurd z e
      · exact p.own a ⟨j, by rw [e1]; exact w1, h2⟩
  ownF := fun a ⟨j, h1, h2⟩ => by
    obtain ⟨s, e1, w1⟩ := ownsF_some h1
    rcases set_at e1 with ⟨e, rfl, _⟩ | ⟨e, e1⟩
    · rcases set_at h2 with ⟨_, h2, _⟩ | ⟨z, _⟩
      · rw [ownsF_toSl] at w1
        exact (n.at w1 (Option.some.inj h2).symm).symm
      · exact absurd e z
    · rcases set_at h2 with ⟨z, _, _⟩ | ⟨_, h2⟩
      · exact absurd z e
      · exact p.ownF a ⟨j, by rw [e1]; exact w1, h2⟩
  par := fun j xs h => by
    rcases set_at h with ⟨e, z, _⟩ | ⟨e, h⟩
    · cases r <;> cases z
    · obtain ⟨h1, h2⟩ := p.par j xs h
      exact ⟨h1, by rw [List.getElem?_set_ne e]; exact h2⟩
/-- a result waits while more is evaluated -/
theorem RetOk.carry (p : Post K B H env σ B1 H1 env1 σ) (ro : RetOk K B H env σ r v) : RetOk K B1 H1 env1 σ r v := by
  have go : ∀ (l : Addr) o, B l = none → H l = some o → ¬ Own env σ l → B1 l = none ∧ H1 l = some o ∧ ¬ Own env1 σ l := fun l o b h n => by
    refine ⟨?_, p.stp.keep l o h n, fun z => ?_⟩
    · cases q : B1 l with
      | none => rfl
      | some u =>
        rcases p.stp.fresh l b (by rw [q]; simp) with z | z
        · rw [h] at z; cases z
        · exact absurd z.own n
    · rcases p.own l z with z | z
      · exact n z
      · rw [h] at z; cases z
  cases r with
  | d x => exact Rp.mono p.stp.base ro
  | own xs =>
    obtain ⟨l, e, ⟨b, vs, h, rr⟩, n⟩ := ro
    obtain ⟨z1, z2, z3⟩ := go l _ b h n
    exact ⟨l, e, ⟨z1, vs, z2, rr.mono p.stp.base⟩, z3⟩
  | tab xs =>
    obtain ⟨l, e, ⟨b, vs, h, rr, nm⟩, n⟩ := ro
    obtain ⟨z1, z2, z3⟩ := go l _ b h n
    exact ⟨l, e, ⟨z1, vs, z2, rr.mono p.stp.base, nm⟩, z3⟩
theorem RetOk.there (ro : RetOk K B H env σ r v) (h : r.ownsR = true) {l : Addr} (e : v = .ref l) : H l ≠ none := by
  cases r with
  | d x => simp [Ret.ownsR] at h
  | own xs => obtain ⟨l', e', ⟨_, vs, hl, _⟩, _⟩ := ro; rw [e'] at e; cases e; rw [hl]; simp
  | tab xs => obtain ⟨l', e', ⟨_, vs, hl, _⟩, _⟩ := ro; rw [e'] at e; cases e; rw [hl]; simp
/-- several results that wait -/
structure Pend (K : Fr) (B H : Hp) (env : Env) (σ : St) (rs : List Ret) (vs : List V) : Prop where
  len : rs.length = vs.length
  ok : ∀ (i : Nat) r v, rs[i]? = some r → vs[i]? = some v → RetOk K B H env σ r v
  sep : ∀ (i j : Nat) r r' l, i ≠ j → rs[i]? = some r → rs[j]? = some r' → r.ownsR = true → r'.ownsR = true → vs[i]? = some (.ref l) → vs[j]? = some (.ref l) → False
theorem Pend.nil : Pend K B H env σ [] [] := ⟨rfl, fun _ _ _ h => by simp at h, fun _ _ _ _ _ _ h => by simp at h⟩
theorem Pend.cons {rs : List Ret} {vs : List V} (p : Post K B H env σ B1 H1 env1 σ) (ro : RetOk K B H env σ r v) (q : Pend K B1 H1 env1 σ rs vs) (nw : ∀ (i : Nat) r v, rs[i]? = some r → vs[i]? = some v → New H env σ r v) : Pend K B1 H1 env1 σ (r :: rs) (v :: vs) where
  len := by simp [q.len]
  ok := fun i r' v' h1 h2 => by
    cases i with
    | zero => simp at h1 h2; subst h1; subst h2; exact ro.carry p
    | succ i => exact q.ok i r' v' (by simpa using h1) (by simpa using h2)
  sep := fun i j r1 r2 l ne h1 h2 w1 w2 h3 h4 => by
    have key : ∀ (j : Nat) r2, rs[j]? = some r2 → r2.ownsR = true → vs[j]? = some (.ref l) → r.ownsR = true → v = .ref l → False := fun j r2 h2 w2 h4 w ev => by
      rcases (nw j r2 _ h2 h4).at w2 rfl with z | z
      · exact ro.there w ev z
      · exact ro.notOwn w ev z.own
    cases i with
    | zero =>
      simp at h1 h3; subst h1
      cases j with
      | zero => exact ne rfl
      | succ j => exact key j r2 (by simpa using h2) w2 (by simpa using h4) w1 h3
    | succ i =>
      cases j with
      | zero => simp at h2 h4; subst h2; exact key i r1 (by simpa using h1) w1 (by simpa using h3) w2 h4
      | succ j => exact q.sep i j r1 r2 l (fun e => ne (by rw [e])) (by simpa using h1) (by simpa using h2) w1 w2 (by simpa using h3) (by simpa using h4)
def setSt : List Nat → List V → St → St
  | i :: is, v :: vs, σ => setSt is vs (σ.set i (some v))
  | _, _, σ => σ
theorem Post.asgs : ∀ (is : List Nat) {rs : List Ret} {vs : List V} {env1 : Env} {σ1 : St}, Post K B H env σ B1 H1 env1 σ1 → Pend K B1 H1 env1 σ1 rs vs → (∀ (i : Nat) r v, rs[i]? = some r → vs[i]? = some v → New H env σ r v) →
    Post K B H env σ B1 H1 (setAll is rs env1) (setSt is vs σ1)
  | [], _, _, _, _, p, _, _ => by simpa [setAll, setSt] using p
  | i :: is, [], [], _, _, p, _, _ => by simpa [setAll, setSt] using p
  | i :: is, [], _ :: _, _, _, _, q, _ => by have := q.len; simp at this
  | i :: is, _ :: _, [], _, _, _, q, _ => by have := q.len; simp at this
  | i :: is, r :: rs, v :: vs, env1, σ1, p, q, nw => by
    have ro := q.ok 0 r v rfl rfl
    have p2 := p.asg i ro (nw 0 r v rfl rfl)
    refine Post.asgs is p2 ⟨by have := q.len; simpa using this, fun j r' v' h1 h2 => ?_, fun j j' r1 r2 l ne h1 h2 w1 w2 h3 h4 => ?_⟩ fun j r' v' h1 h2 => nw (j + 1) r' v' (by simpa using h1) (by simpa using h2)
    · have ro' := q.ok (j + 1) r' v' (by simpa using h1) (by simpa using h2)
      have no : ∀ l, r'.ownsR = true → v' = .ref l → ¬ Own (env1.set i r.toSl) (σ1.set i (some v)) l := fun l w ev ⟨k, z1, z2⟩ => by
        obtain ⟨s, e1, w1⟩ := owns_some z1
        rcases set_at e1 with ⟨e, rfl, _⟩ | ⟨e, e1⟩
        · rcases set_at z2 with ⟨_, z2, _⟩ | ⟨z, _⟩
          · rw [owns_toSl] at w1
            exact q.sep 0 (j + 1) r r' l (by omega) rfl (by simpa using h1) w1 w (by simp; exact (Option.some.inj z2).symm) (by simp [h2, ev])
          · exact z e
        · rcases set_at z2 with ⟨z, _, _⟩ | ⟨_, z2⟩
          · exact e z
          · exact ro'.notOwn w ev ⟨k, by rw [e1]; exact w1, z2⟩
      cases r' with
      | d x => exact ro'
      | own xs => obtain ⟨l, ev, hl, _⟩ := ro'; exact ⟨l, ev, hl, no l rfl ev⟩
      | tab xs => obtain ⟨l, ev, hl, _⟩ := ro'; exact ⟨l, ev, hl, no l rfl ev⟩
    · exact q.sep (j + 1) (j' + 1) r1 r2 l (by omega) (by simpa using h1) (by simpa using h2) w1 w2 (by simpa using h3) (by simpa using h4)
/-- an own list is changed -/
theorem Post.mut {s : Sl} {xs ys : List D} {i : Nat} {l : Addr} {vs : List V} (R : Rel K B H env σ) (hs : env[i]? = some s) (ho : ownOf s = some xs) (hσ : σ[i]? = some (some (.ref l))) (rr : RpA K B vs ys) :
    Post K B H env σ B (upd H l (.lst vs)) (env.set i (s.put ys)) σ := by
  have ow : owns (some s) = true := by cases s <;> simp_all [ownOf, owns]
  have own_l : Own env σ l := ⟨i, by rw [hs]; exact ow, hσ⟩
  have bl := (R.obj own_l).1
  have hp : owns (some (s.put ys)) = true := by cases s <;> simp_all [ownOf, owns, Sl.put]
  have hpF : ownsF (some (s.put ys)) = ownsF (some s) := by cases s <;> simp_all [ownOf, ownsF, Sl.put]
  have sub : ∀ a, Own (env.set i (s.put ys)) σ a → Own env σ a := fun a ⟨j, h1, h2⟩ => by
    obtain ⟨s', e1, w1⟩ := owns_some h1
    rcases set_at e1 with ⟨e, _, _⟩ | ⟨_, e1⟩
    · subst e; rw [hσ] at h2; cases h2; exact own_l
    · exact ⟨j, by rw [e1]; exact w1, h2⟩
  refine ⟨⟨fun b u e => ?_, by rw [List.length_set]; exact R.len, fun j s' o h1 h2 => ?_, fun j j' l' ne h1 h2 h3 h4 => ?_⟩, ⟨Same.refl _, fun a h h' => absurd h h', fun a h => ?_, fun a o h hn => ?_⟩, fun a h => .inl (sub a h), fun a ⟨j, h1, h2⟩ => ?_, fun j xs' h => ?_⟩
  · rw [upd_ne (ne_of_none e bl)]; exact R.ex b u e
  · rcases set_at h1 with ⟨e, rfl, _⟩ | ⟨e, h1⟩
    · subst e; rw [hσ] at h2; cases h2
      cases s with
      | own _ => exact ⟨l, rfl, bl, vs, upd_same, rr⟩
      | par _ => exact ⟨l, rfl, bl, vs, upd_same, rr⟩
      | un => simp [ownOf] at ho
      | d _ => simp [ownOf] at ho
      | tab _ => simp [ownOf] at ho
    · refine (R.ok j s' o h1 h2).keep (Same.refl _) fun l' w e' => ?_
      have ne : l' ≠ l := fun z => R.sep i j l e (by rw [hs]; exact ow) (by rw [h1]; exact w) hσ (by rw [h2, e', z])
      exact ⟨(R.obj ⟨j, by rw [h1]; exact w, by rw [h2, e']⟩).1, upd_ne ne⟩
  · obtain ⟨s1, e1, w1⟩ := owns_some h1
    obtain ⟨s2, e2, w2⟩ := owns_some h2
    have up : ∀ (j : Nat) s', (env.set i (s.put ys))[j]? = some s' → owns (some s') = true → owns env[j]? = true := fun j s' h w => by
      rcases set_at h with ⟨e, _, _⟩ | ⟨_, h⟩
      · subst e; rw [hs]; exact ow
      · rw [h]; exact w
    exact R.sep j j' l' ne (up j s1 e1 w1) (up j' s2 e2 w2) h3 h4
  · by_cases q : a = l
    · subst q; rw [upd_same]; simp
    · rw [upd_ne q]; exact h
  · have ne : a ≠ l := fun z => hn (z ▸ own_l)
    rw [upd_ne ne]; exact h
  · obtain ⟨s1, e1, w1⟩ := ownsF_some h1
    rcases set_at e1 with ⟨e, rfl, _⟩ | ⟨_, e1⟩
    · subst e; rw [hpF] at w1; exact .inl ⟨i, by rw [hs]; exact w1, h2⟩
    · exact .inl ⟨j, by rw [e1]; exact w1, h2⟩
  · rcases set_at h with ⟨e, z, _⟩ | ⟨_, h⟩
    · subst e
      cases s with
      | par ws => exact ⟨⟨ws, hs⟩, rfl⟩
      | own _ => cases z
      | un => simp [ownOf] at ho
      | d _ => simp [ownOf] at ho
      | tab _ => simp [ownOf] at ho
    · exact ⟨⟨xs', h⟩, rfl⟩
theorem Rel.own_at {s : Sl} {xs : List D} {i : Nat} (R : Rel K B H env σ) (hs : env[i]? = some s) (ho : ownOf s = some xs) : ∃ l vs, σ[i]? = some (some (.ref l)) ∧ H l = some (.lst vs) ∧ RpA K B vs xs := by
  obtain ⟨hi, _⟩ := List.getElem?_eq_some_iff.mp hs
  have hj : i < σ.length := by rw [← R.len]; exact hi
  have q := R.ok i s _ hs (List.getElem?_eq_getElem hj)
  cases s with
  | own _ => cases ho; obtain ⟨l, e, b, vs, h, rr⟩ := q; exact ⟨l, vs, by rw [List.getElem?_eq_getElem hj, e], h, rr⟩
  | par _ => cases ho; obtain ⟨l, e, b, vs, h, rr⟩ := q; exact ⟨l, vs, by rw [List.getElem?_eq_getElem hj, e], h, rr⟩
  | un => cases ho
  | d _ => cases ho
  | tab _ => cases ho
end
end PD
end PDd_
section PDe_
set_option Elab.async false
set_option linter.all false
set_option maxRecDepth 100000
set_option maxHeartbeats 2000000
/-! PDe: targets, statements, loops, comprehensions. -/
namespace PD
open PySem PySem.Spec PyProof.Rows L2

section
variable {X : Cx} {W : WX} {B H B1 H1 B2 H2 : Hp} {env env1 : Env} {σ σ1 : St} {E : EK} {pos : Pos}
theorem Out.refl {ws : List Nat} : Out ws σ σ := ⟨rfl, fun _ _ => rfl⟩
theorem Out.trans {ws : List Nat} {σ2 : St} (a : Out ws σ σ1) (b : Out ws σ1 σ2) : Out ws σ σ2 := ⟨b.1.trans a.1, fun j h => (b.2 j h).trans (a.2 j h)⟩
theorem Out.set {ws : List Nat} {i : Nat} {o : Option V} (h : i ∈ ws) : Out ws σ (σ.set i o) := ⟨by simp, fun j hj => by rw [List.getElem?_set_ne (fun e : i = j => hj (by rw [← e]; exact h))]⟩
theorem wipe_at : ∀ (ws : List Nat) (σ : St) (j : Nat), (L2.wipe σ ws)[j]? = if j ∈ ws then (if j < σ.length then some none else none) else σ[j]?
  | [], σ, j => by simp [L2.wipe]
  | w :: ws, σ, j => by
    unfold L2.wipe
    rw [List.getElem?_set, L2.wipe_length, wipe_at ws σ j]
    by_cases e : w = j
    · subst e; simp
    · have e' : ¬ j = w := fun h => e h.symm
      simp [e, e']
theorem Out.wipe {ws : List Nat} (h : Out ws σ σ1) : L2.wipe σ1 ws = L2.wipe σ ws := by
  apply List.ext_getElem?
  intro j
  rw [wipe_at, wipe_at, h.1]
  by_cases e : j ∈ ws
  · simp [e]
  · simp [e, h.2 j e]
theorem wipeE_at : ∀ (ws : List Nat) (env : Env) (j : Nat), (PD.wipe ws env)[j]? = if j ∈ ws then (if j < env.length then some .un else none) else env[j]?
  | [], env, j => by simp [PD.wipe]
  | w :: ws, env, j => by
    have hl : ∀ ws : List Nat, (PD.wipe ws env).length = env.length := fun ws => by
      induction ws with
      | nil => rfl
      | cons a r ih => simp [PD.wipe, ih]
    unfold PD.wipe
    rw [List.getElem?_set, hl, wipeE_at ws env j]
    by_cases e : w = j
    · subst e; simp
    · have e' : ¬ j = w := fun h => e h.symm
      simp [e, e']
theorem wipeE_len (ws : List Nat) (env : Env) : (PD.wipe ws env).length = env.length := by
  induction ws with
  | nil => rfl
  | cons a r ih => simp [PD.wipe, ih]
/-! ### targets -/
theorem gd_name {i : Nat} {x : Str} {ws : List Nat} (h : PG X (.Name x pos) (L2.gName i)) (hw : i ∈ ws) : PGd X ws (.Name x pos) (PD.gName i) := pg_imp h fun v σ H Q ⟨B, env, x, P, R, rp, t, k⟩ =>
  k _ _ _ _ t (Post.asg (r := .d x) i (.refl R) rp trivial) (.set hw)
theorem gsd_nil {ws : List Nat} : PGsd X ws [] PD.gNil := pgs_imp pgs_nil fun vs σ H Q ⟨B, env, xs, P, R, rp, ⟨e, t⟩, k⟩ => by
  subst e; cases rp
  exact ⟨rfl, k _ _ _ _ t (.refl R) .refl⟩
theorem gsd_cons {e : Expr} {es : List Expr} {t : PD.TG} {u : PD.TGs} {ws : List Nat} (h1 : PGd X ws e t) (h2 : PGsd X ws es u)
    (hs : (assignEach (e :: es) X.env).map (·.2) = assign e X.env :: (assignEach es X.env).map (·.2) := by rfl) : PGsd X ws (e :: es) (PD.gCons t u) := pgs_imp (pgs_cons h1 h2 hs) fun vs σ H Q ⟨B, env, xs, P, R, rp, ⟨x, r, e, t⟩, k⟩ => by
  subst e
  cases rp with
  | cons r1 r2 =>
    exact ⟨_, _, rfl, B, env, x, _, R, r1, t, fun e1 σ1 B1 H1 p1 q1 o1 => ⟨B1, e1, r, _, q1.rel, r2.mono q1.stp.base, p1, fun e2 σ2 B2 H2 p2 q2 o2 => k _ _ _ _ p2 (q1.trans q2) (o1.trans o2)⟩⟩
theorem gd_tup {es : List Expr} {k : Nat} {t : PD.TGs} {n : Nat} {ws : List Nat} (hc : X.calm = true) (h : PGsd X ws es t)
    (hn : (assignEach es X.env).length = n := by rfl) (hst : (assignEach es X.env).findIdx? (·.1) = none := by rfl) : PGd X ws (.Tuple es k pos) (PD.gTup n t) := pg_imp (pg_tup hc h hn hst) fun v σ H Q ⟨B, env, x, P, R, rp, ⟨xs, e, hl, t⟩, k⟩ => by
  subst e
  cases rp with
  | tup h1 h2 => exact ⟨_, _, rfl, same_t R.ex h1, by rw [h2.length]; exact hl, B, env, xs, P, R, h2, t, k⟩
theorem gd_lst {es : List Expr} {k : Nat} {t : PD.TGs} {n : Nat} {ws : List Nat} (hc : X.calm = true) (h : PGsd X ws es t)
    (hn : (assignEach es X.env).length = n := by rfl) (hst : (assignEach es X.env).findIdx? (·.1) = none := by rfl) : PGd X ws (.Tuple es k pos) (PD.gLst n t) := pg_imp (L2.pg_lst hc h hn hst) fun v σ H Q ⟨B, env, x, P, R, rp, ⟨xs, e, hl, t⟩, k⟩ => by
  subst e
  cases rp with
  | lst h1 h2 => exact ⟨_, _, rfl, SqL.of (R.ex _ _ h1), by rw [h2.length]; exact hl, B, env, xs, P, R, h2, t, k⟩

/-! ### statements -/
variable {a e : Expr} {te : TR} {st : Stmt} {rest : List Stmt} {t u : PD.TS}
theorem sd_nil : PSsd X W [] sNext := pss_imp pss_nil fun D σ H ⟨B, env, E, R, h, g⟩ => g.nx _ _ _ _ h (.refl R)
theorem sd_cons (h1 : PSd X W st t) (h2 : PSsd X W rest u) : PSsd X W (st :: rest) (sSeq t u) := pss_imp (pss_cons h1 h2) fun D σ H ⟨B, env, E, R, h, g⟩ =>
  ⟨B, env, _, R, h, ⟨fun e1 σ1 B1 H1 p q => ⟨B1, e1, E, q.rel, p, g.trans q⟩, g.bk, g.ct, g.rt, g.ex⟩⟩
theorem sd_one (h1 : PSd X W st t) : PSsd X W [st] t := pss_one h1
theorem sd_pass : PSd X W (.Pass pos) sNext := ps_imp ps_pass fun D σ H ⟨B, env, E, R, h, g⟩ => g.nx _ _ _ _ h (.refl R)
theorem sd_break : PSd X W (.Break pos) sBreak := ps_imp ps_break fun D σ H ⟨B, env, E, R, h, g⟩ => g.bk _ _ _ _ h (.refl R)
theorem sd_continue : PSd X W (.Continue pos) sCont := ps_imp ps_continue fun D σ H ⟨B, env, E, R, h, g⟩ => g.ct _ _ _ _ h (.refl R)
theorem sd_doc {x j pos'} : PSd X W (.Expr (.Constant (.str x) j pos) pos') sNext := ps_imp ps_doc fun D σ H ⟨B, env, E, R, h, g⟩ => g.nx _ _ _ _ h (.refl R)
theorem sd_never : PSd X W st sNever := ps_imp ps_never fun D σ H ⟨B, env, E, R, h, g⟩ => h
theorem ssd_never {sts : List Stmt} : PSsd X W sts sNever := pss_imp pss_never fun D σ H ⟨B, env, E, R, h, g⟩ => h
theorem sd_drop (he : PR X W e te) (hs : swapsWith e none pos.line X.env = pure false := by rfl) : PSd X W (.Expr e pos) (sDrop te) := ps_imp (ps_expr he hs) fun D σ H ⟨B, env, E, R, h, g⟩ =>
  ⟨B, env, E.ex, _, R, h, g.good, fun r e1 v B1 H1 p q ro n => g.nx _ _ _ _ p q⟩
theorem sd_ret (he : PR X W e te) : PSd X W (.Return (some e) pos) (sRet te) := ps_imp (ps_ret he) fun D σ H ⟨B, env, E, R, h, g⟩ =>
  ⟨B, env, E.ex, _, R, h, g.good, fun r e1 v B1 H1 p q ro n => g.rt _ _ _ _ _ _ p q ro n⟩
theorem sd_retN : PSd X W (.Return none pos) sRetN := ps_imp ps_retN fun D σ H ⟨B, env, E, R, h, g⟩ => g.rt _ _ _ _ _ _ h (.refl R) .non trivial
theorem sd_if {c : Expr} {p q : List Stmt} {tc : TB} (hc : PB X W c tc) (ha : PSsd X W p t) (hb : PSsd X W q u) : PSd X W (.If c p q pos) (sIf tc t u) := ps_imp (ps_if hc ha hb) fun D σ H ⟨B, env, E, R, h, g⟩ =>
  ⟨B, env, E.ex, _, R, h, g.good, fun b e1 B1 H1 p q => by
    cases b with
    | true => rw [if_pos rfl] at p ⊢; exact ⟨B1, e1, E, q.rel, p, g.trans q⟩
    | false => rw [if_neg Bool.false_ne_true] at p ⊢; exact ⟨B1, e1, E, q.rel, p, g.trans q⟩⟩
theorem sd_of_asg {T : L2.TE} {i : Nat} (h : PS X st (tAsg T (L2.gName i))) (im : ∀ σ H Q, rdR X W te σ H Q → T σ H Q) : PSd X W st (sAsg te i) := ps_imp h fun D σ H ⟨B, env, E, R, h, g⟩ =>
  im σ H _ ⟨B, env, E.ex, _, R, h, g.good, fun r e1 v B1 H1 p q ro n => g.nx _ _ _ _ p (q.asg i ro n)⟩
theorem sd_set {i : Nat} {x : Str} {pos' : Pos} (hN : X.N.Nodup) (hi : X.N[i]? = some x) (hx : Loc X.env.scope x) (he : PR X W e te) (hs : swapsWith e (some (.Name x pos')) pos.line X.env = pure false := by rfl)
    (hf : X.fn x = true ∨ X.env.scope.names.lookup x = some .local := by first | exact .inl rfl | exact .inr rfl | assumption) : PSd X W (.Assign [.Name x pos'] e pos) (sAsg te i) := sd_of_asg (ps_set hN hi hx he hs hf) fun _ _ _ h => h
theorem sd_asgG {tg : Expr} {gt : PD.TG} {ws : List Nat} (he : PR X W e te) (hg : PGd X ws tg gt) (hs : swapsWithSole [tg] e pos.line X.env = pure false := by rfl) (hw : swappedStores [tg] e X.env = pure none := by rfl)
    (h1 : (assignEach [tg] X.env).map (·.2) = [assign tg X.env] := by rfl) : PSd X W (.Assign [tg] e pos) (sAsgG te gt) := ps_imp (ps_asg he hg hs hw h1) fun D σ H ⟨B, env, E, R, h, g⟩ =>
  rd_fz R h g.good fun x e1 v B1 H1 p q rp => ⟨B1, e1, x, _, q.rel, rp, p, fun e2 σ2 B2 H2 p2 q2 _ => g.nx _ _ _ _ p2 (q.trans q2)⟩
/-- a list of results that wait -/
def rdPar (X : Cx) (W : WX) (ts : List TR) : L2.TA := fun σ H Q => ∃ (B : Hp) (env : Env) (E : EK) (P : List Ret → Env → Prop), Rel X.K B H env σ ∧ parE ts E env P ∧ Good X W B H env σ E ∧
  ∀ rs env' vs B' H', P rs env' → rs.length = ts.length → Post X.K B H env σ B' H' env' σ → Pend X.K B' H' env' σ rs vs → (∀ (i : Nat) r v, rs[i]? = some r → vs[i]? = some v → New H env σ r v) → Q vs H'
theorem par_nil : PA X [] (rdPar X W []) := pa_imp pa_nil fun σ H Q ⟨B, env, E, P, R, h, g, k⟩ => k _ _ _ _ _ h rfl (.refl R) .nil (fun i r v h => by simp at h)
theorem par_cons {es : List Expr} {ts : List TR} (ha : PR X W a te) (hr : PA X es (rdPar X W ts)) (hs : starEach (a :: es) X.env = (false, eval a X.env) :: starEach es X.env := by rfl) : PA X (a :: es) (rdPar X W (te :: ts)) :=
  pa_imp (pa_cons ha hr hs) fun σ H Q ⟨B, env, E, P, R, h, g, k⟩ => ⟨B, env, E, _, R, h, g, fun r e1 v B1 H1 p1 q1 ro n => ⟨B1, e1, E, _, q1.rel, p1, g.trans q1, fun rs e2 vs B2 H2 p2 hl q2 pd nw =>
    k _ _ _ _ _ p2 (by simp [hl]) (q1.trans q2) (.cons q2 ro pd nw) fun i r' v' h1 h2 => by
      cases i with
      | zero => simp at h1 h2; subst h1; subst h2; exact n
      | succ i => exact New.transS q1 (nw i r' v' (by simpa using h1) (by simpa using h2))⟩⟩
theorem sd_par2 {i j : Nat} {x y : Str} {a b : Expr} {ts : List TR} {px py pt : Pos} {kt k2 pt2} (hc : X.calm = true) (hN : X.N.Nodup) (hi : X.N[i]? = some x) (hj : X.N[j]? = some y) (hij : i ≠ j)
    (hx : X.env.scope.names.lookup x = some .local) (hy : X.env.scope.names.lookup y = some .local) (ha : PA X [a, b] (rdPar X W ts)) (hl : ts.length = 2)
    (hw : swappedStores [.Tuple [.Name x px, .Name y py] kt pt] (.Tuple [a, b] k2 pt2) X.env = pure (some [x, y]))
    (hs : swapsWithSole [.Tuple [.Name x px, .Name y py] kt pt] (.Tuple [a, b] k2 pt2) pos.line X.env = pure false := by rfl) :
    PSd X W (.Assign [.Tuple [.Name x px, .Name y py] kt pt] (.Tuple [a, b] k2 pt2) pos) (sPar [i, j] ts) := ps_imp (ps_par hc hN hi hj hij hx hy ha hw hs) fun D σ H ⟨B, env, E, R, h, g⟩ =>
  ⟨B, env, E.ex, _, R, h, g.good, fun rs e1 vs B1 H1 p hr q pd nw => by
    have h2 : vs.length = 2 := by rw [← pd.len, hr, hl]
    obtain ⟨v, w, rfl⟩ : ∃ v w, vs = [v, w] := by
      match vs, h2 with
      | [v, w], _ => exact ⟨v, w, rfl⟩
    exact ⟨v, w, rfl, g.nx _ _ _ _ p (Post.asgs [i, j] q pd nw)⟩⟩
theorem sd_par3 {i j l : Nat} {x y z : Str} {a b c : Expr} {ts : List TR} {px py pz pt : Pos} {kt k2 pt2} (hc : X.calm = true) (hN : X.N.Nodup) (hi : X.N[i]? = some x) (hj : X.N[j]? = some y) (hl : X.N[l]? = some z) (hij : i ≠ j) (hil : i ≠ l) (hjl : j ≠ l)
    (hx : X.env.scope.names.lookup x = some .local) (hy : X.env.scope.names.lookup y = some .local) (hz : X.env.scope.names.lookup z = some .local) (ha : PA X [a, b, c] (rdPar X W ts)) (hn : ts.length = 3)
    (hw : swappedStores [.Tuple [.Name x px, .Name y py, .Name z pz] kt pt] (.Tuple [a, b, c] k2 pt2) X.env = pure (some [x, y, z]))
    (hs : swapsWithSole [.Tuple [.Name x px, .Name y py, .Name z pz] kt pt] (.Tuple [a, b, c] k2 pt2) pos.line X.env = pure false := by rfl) :
    PSd X W (.Assign [.Tuple [.Name x px, .Name y py, .Name z pz] kt pt] (.Tuple [a, b, c] k2 pt2) pos) (sPar [i, j, l] ts) := ps_imp (ps_par3 hc hN hi hj hl hij hil hjl hx hy hz ha hw hs) fun D σ H ⟨B, env, E, R, h, g⟩ =>
  ⟨B, env, E.ex, _, R, h, g.good, fun rs e1 vs B1 H1 p hr q pd nw => by
    have h2 : vs.length = 3 := by rw [← pd.len, hr, hn]
    obtain ⟨v, w, u, rfl⟩ : ∃ v w u, vs = [v, w, u] := by
      match vs, h2 with
      | [v, w, u], _ => exact ⟨v, w, u, rfl⟩
    exact ⟨v, w, u, rfl, g.nx _ _ _ _ p (Post.asgs [i, j, l] q pd nw)⟩⟩
/-- names alone -/
def gNames (is : List Nat) : L2.TGs := fun vs σ H Q => vs.length = is.length ∧ Q (setSt is vs σ) H
theorem gns_nil : PGs X [] (gNames []) := pgs_imp pgs_nil fun vs σ H Q ⟨hl, q⟩ => by
  cases vs with
  | nil => exact ⟨rfl, q⟩
  | cons _ _ => simp at hl
theorem gns_cons {i : Nat} {is : List Nat} {e : Expr} {es : List Expr} (h1 : PG X e (L2.gName i)) (h2 : PGs X es (gNames is))
    (hs : (assignEach (e :: es) X.env).map (·.2) = assign e X.env :: (assignEach es X.env).map (·.2) := by rfl) : PGs X (e :: es) (gNames (i :: is)) := pgs_imp (pgs_cons h1 h2 hs) fun vs σ H Q ⟨hl, q⟩ => by
  cases vs with
  | nil => simp at hl
  | cons v vs => exact ⟨v, vs, rfl, by simpa using hl, q⟩
theorem Pend.of0 {K : Fr} {rs : List Ret} {vs : List V} (R : Rel K B H env σ) (s : Stp0 B H B1 H1) (p : Pend K B H env σ rs vs) : Pend K B1 H1 env σ rs vs :=
  ⟨p.len, fun i r v h1 h2 => (p.ok i r v h1 h2).carry (.of0 R s), p.sep⟩
theorem sd_parN {es ns : List Expr} {is : List Nat} {ts : List TR} {kt pt k2 pt2} (hc : X.calm = true) (ha : PA X es (rdPar X W ts)) (hg : PGs X ns (gNames is)) (hl : ts.length = is.length) (hl2 : ts.length ≤ 1000)
    (hs : swapsWithSole [.Tuple ns kt pt] (.Tuple es k2 pt2) pos.line X.env = pure false := by rfl) (hw : swappedStores [.Tuple ns kt pt] (.Tuple es k2 pt2) X.env = pure none := by rfl)
    (h1 : (assignEach [.Tuple ns kt pt] X.env).map (·.2) = [assign (.Tuple ns kt pt) X.env] := by rfl)
    (hn : (assignEach ns X.env).length = is.length := by rfl) (hst : (assignEach ns X.env).findIdx? (·.1) = none := by rfl) :
    PSd X W (.Assign [.Tuple ns kt pt] (.Tuple es k2 pt2) pos) (sPar is ts) := ps_imp (ps_asg (pe_tup ha) (pg_tup hc hg hn hst) hs hw h1) fun D σ H ⟨B, env, E, R, h, g⟩ =>
  ⟨B, env, E.ex, _, R, h, g.good, fun rs e1 vs B1 H1 p hr q pd nw => by
    have h2 : vs.length = is.length := by rw [← pd.len, hr, hl]
    refine ⟨by rw [h2, ← hl]; exact Nat.le_trans hl2 (by decide), fun a ha => ⟨a, vs, rfl, SqT.of upd_same, h2, h2, ?_⟩⟩
    have s := Stp0.apart (o := .tup vs) q.rel.ex ha
    exact g.nx _ _ _ _ p (Post.asgs is (q.trans (.of0 q.rel s)) (pd.of0 q.rel s) nw)⟩

/-! ### loops -/
theorem sd_for {iter tg : Expr} {body : List Stmt} {ti : PD.TI} {gt : PD.TG} {ws : List Nat} (hp : PassesOwn (model X.prog X.w) X.A X.env X.xe) (hc : X.calm = true) (hi : PId X W tg iter ti) (hg : PGd X ws tg gt) (hb : PSsd X W body t)
    (hs : ∀ x, foldedSetIterable iter X.env x = pure x := by intro _; rfl) : PSd X W (.For tg iter body [] pos) (sFor ti gt t) := ps_imp (ps_for hp hc hi hg hb hs) fun D σ H ⟨B, env, E, R, h, g⟩ =>
  ⟨B, env, E.ex, _, R, h, g.good, fun xs e1 B1 H1 J ⟨I, i0, step, fin⟩ q1 wk => by
    refine for_it wk (fun i σ' H' => ∃ B' env', Post X.K B H env σ B' H' env' σ' ∧ Same B1 B' ∧ I i env') ⟨B1, e1, q1, Same.refl _, i0⟩ (fun i σ' H' _ ⟨B', env', q, sm, _⟩ => sm.trans q.rel.ex) (fun i v σ' H' H'' hi ⟨B', env', q, sm, hI⟩ ⟨x, hx, y⟩ => ?_) fun σ' H' ⟨B', env', q, _, hI⟩ => g.nx _ _ _ _ (fin _ hI) q
    obtain ⟨B2, s2, r2⟩ := y B' sm q.rel.ex
    have q2 := q.trans (.of0 q.rel s2)
    refine ⟨B2, env', x, _, q2.rel, r2, step i x env' hx hI, fun e3 σ3 B3 H3 p3 q3 _ => ?_⟩
    have q4 := q2.trans q3
    have next : ∀ env4 σ4 B4 H4, I (i + 1) env4 → Post X.K B3 H3 e3 σ3 B4 H4 env4 σ4 → ∃ B' env', Post X.K B H env σ B' H4 env' σ4 ∧ Same B1 B' ∧ I (i + 1) env' := fun env4 σ4 B4 H4 p5 q5 =>
      ⟨B4, env4, q4.trans q5, sm.trans (s2.base.trans (q3.stp.base.trans q5.stp.base)), p5⟩
    exact ⟨B3, e3, { E with nx := I (i + 1), ct := I (i + 1), bk := E.nx }, q3.rel, p3, ⟨next, (g.trans q4).nx, next, (g.trans q4).rt, (g.trans q4).ex⟩⟩⟩
theorem sd_while {c : Expr} {body : List Stmt} {tc : TB} (hp : PassesOwn (model X.prog X.w) X.A X.env X.xe) (hc : PB X W c tc) (hb : PSsd X W body t) : PSd X W (.While c body [] pos) (sWhile tc t) := ps_imp (ps_while hp hc hb) fun D σ H ⟨B, env, E, R, ⟨I, ⟨m0, i0⟩, step⟩, g⟩ => by
  refine ⟨fun m σ' H' => ∃ B' env', Post X.K B H env σ B' H' env' σ' ∧ I m env', ⟨m0, B, env, .refl R, i0⟩, fun m σ' H' ⟨B', env', q, hI⟩ => ?_⟩
  refine ⟨B', env', E.ex, _, q.rel, step m env' hI, (g.trans q).good, fun b e1 B1 H1 p1 q1 => ?_⟩
  have q2 := q.trans q1
  cases b with
  | true =>
    rw [if_pos rfl] at p1
    dsimp only
    rw [if_pos rfl]
    have next : ∀ env4 σ4 B4 H4, (∃ m', m' < m ∧ I m' env4) → Post X.K B1 H1 e1 σ' B4 H4 env4 σ4 → ∃ m', m' < m ∧ ∃ B' env', Post X.K B H env σ B' H4 env' σ4 ∧ I m' env' := fun env4 σ4 B4 H4 ⟨m', hm, p5⟩ q5 => ⟨m', hm, B4, env4, q2.trans q5, p5⟩
    exact ⟨_, fun _ _ n => n, B1, e1, { E with nx := fun e2 => ∃ m', m' < m ∧ I m' e2, ct := fun e2 => ∃ m', m' < m ∧ I m' e2, bk := E.nx }, q1.rel, p1, ⟨next, (g.trans q2).nx, next, (g.trans q2).rt, (g.trans q2).ex⟩⟩
  | false =>
    rw [if_neg Bool.false_ne_true] at p1
    dsimp only
    rw [if_neg Bool.false_ne_true]
    exact g.nx _ _ _ _ p1 q2
end
end PD
end PDe_
section PDf_
set_option Elab.async false
set_option linter.all false
set_option maxRecDepth 100000
set_option maxHeartbeats 2000000
/-! PDf: comprehensions, own lists lent, changes of own lists. -/
namespace PD
open PySem PySem.Spec PyProof.Rows L2

section
variable {X : Cx} {W : WX} {K : Fr} {B H B1 H1 B2 H2 : Hp} {env env1 env2 : Env} {σ σ1 σ2 : St} {E : EK} {pos : Pos}
/-- an object that nobody here knows may change -/
theorem Post.free (p : Post K B H env σ B1 H1 env1 σ1) {d : Addr} {o : HO} (h0 : H d = none) (hb : B1 d = none) (hn : ¬ Own env1 σ1 d) : Post K B H env σ B1 (upd H1 d o) env1 σ1 where
  rel := ⟨fun b u e => by rw [upd_ne (ne_of_none e hb)]; exact p.rel.ex b u e, p.rel.len, fun j s q h1 h2 => (p.rel.ok j s q h1 h2).keep (Same.refl _) fun l w e => by
      have ow : Own env1 σ1 l := ⟨j, by rw [h1]; exact w, by rw [h2, e]⟩
      have ne : l ≠ d := fun z => hn (z ▸ ow)
      exact ⟨(p.rel.obj ow).1, upd_ne ne⟩, p.rel.sep⟩
  stp := ⟨p.stp.base, p.stp.fresh, fun a h => by
      by_cases q : a = d
      · subst q; rw [upd_same]; simp
      · rw [upd_ne q]; exact p.stp.dom a h, fun a o' h w => by
      have ne : a ≠ d := fun z => by rw [z, h0] at h; cases h
      rw [upd_ne ne]; exact p.stp.keep a o' h w⟩
  own := p.own
  ownF := p.ownF
  par := p.par
theorem Own.wipe {ws : List Nat} {a : Addr} (h : Own (PD.wipe ws env) (L2.wipe σ ws) a) : Own env σ a ∧ True := by
  obtain ⟨j, h1, h2⟩ := h
  obtain ⟨s, e1, w1⟩ := owns_some h1
  rw [wipeE_at] at e1
  obtain ⟨e2, hj⟩ := L2.wipe_some h2
  rw [if_neg hj] at e1
  exact ⟨⟨j, by rw [e1]; exact w1, e2⟩, trivial⟩
theorem OwnF.wipe {ws : List Nat} {a : Addr} (h : OwnF (PD.wipe ws env) (L2.wipe σ ws) a) : OwnF env σ a := by
  obtain ⟨j, h1, h2⟩ := h
  obtain ⟨s, e1, w1⟩ := ownsF_some h1
  rw [wipeE_at] at e1
  obtain ⟨e2, hj⟩ := L2.wipe_some h2
  rw [if_neg hj] at e1
  exact ⟨j, by rw [e1]; exact w1, e2⟩
theorem Rel.wipe (ws : List Nat) (R : Rel K B H env σ) : Rel K B H (PD.wipe ws env) (L2.wipe σ ws) := by
  refine ⟨R.ex, by rw [wipeE_len, L2.wipe_length]; exact R.len, fun j s o h1 h2 => ?_, fun j j' l ne h1 h2 h3 h4 => ?_⟩
  · rw [wipeE_at] at h1; rw [wipe_at] at h2
    by_cases e : j ∈ ws
    · rw [if_pos e] at h1
      split at h1
      · cases h1; trivial
      · cases h1
    · rw [if_neg e] at h1 h2; exact R.ok j s o h1 h2
  · obtain ⟨h3, e3⟩ := L2.wipe_some h3
    obtain ⟨h4, e4⟩ := L2.wipe_some h4
    rw [wipeE_at, if_neg e3] at h1; rw [wipeE_at, if_neg e4] at h2
    exact R.sep j j' l ne h1 h2 h3 h4
/-- behind a turn the block's own names are forgotten -/
theorem Post.wiped (ws : List Nat) (p : Post K B H env σ B1 H1 env1 σ1) : Post K B H env σ B1 H1 (PD.wipe ws env1) (L2.wipe σ1 ws) where
  rel := p.rel.wipe ws
  stp := p.stp
  own := fun a h => p.own a h.wipe.1
  ownF := fun a h => p.ownF a h.wipe
  par := fun j xs h => by
    rw [wipeE_at] at h
    by_cases e : j ∈ ws
    · rw [if_pos e] at h
      split at h <;> cases h
    · rw [if_neg e] at h
      rw [wipe_at, if_neg e]
      exact p.par j xs h
theorem keep_at : ∀ (ws : List Nat) (env env' : Env) (j : Nat), env'.length = env.length → (PD.keep ws env env')[j]? = if j ∈ ws then env[j]? else env'[j]?
  | [], env, env', j, _ => by simp [PD.keep]
  | w :: ws, env, env', j, hl => by
    have len : ∀ ws : List Nat, (PD.keep ws env env').length = env'.length := fun ws => by
      induction ws with
      | nil => rfl
      | cons a r ih => unfold PD.keep; split <;> simp [ih]
    have ih := keep_at ws env env' j hl
    unfold PD.keep
    cases q : env[w]? with
    | none =>
      dsimp only
      rw [ih]
      by_cases e : j = w
      · subst e
        have hn : env'[j]? = none := by rw [List.getElem?_eq_none_iff] at q ⊢; omega
        simp [q, hn]
      · simp [e]
    | some s =>
      dsimp only
      rw [List.getElem?_set, len, ih]
      by_cases e : w = j
      · subst e
        have hw : w < env'.length := by rw [hl]; exact (List.getElem?_eq_some_iff.mp q).1
        simp [hw, q]
      · have e' : ¬ j = w := fun h => e h.symm
        simp [e, e']
/-- behind a block its own names are what they were -/
theorem Post.kept (ws : List Nat) (R : Rel K B H env σ) (p : Post K B H (PD.wipe ws env) (L2.wipe σ ws) B1 H1 env1 (L2.wipe σ ws)) : Post K B H env σ B1 H1 (PD.keep ws env env1) σ := by
  have hl : env1.length = env.length := by rw [p.rel.len, L2.wipe_length]; exact R.len.symm
  have hk : (PD.keep ws env env1).length = env.length := by
    have len : ∀ ws : List Nat, (PD.keep ws env env1).length = env1.length := fun ws => by
      induction ws with
      | nil => rfl
      | cons a r ih => unfold PD.keep; split <;> simp [ih]
    rw [len, hl]
  -- an own object of a slot in ws is none of the block's
  have apart : ∀ (j : Nat) l, j ∈ ws → owns env[j]? = true → σ[j]? = some (some (.ref l)) → ¬ Own (PD.wipe ws env) (L2.wipe σ ws) l := fun j l hj w e ⟨k, h1, h2⟩ => by
    obtain ⟨e2, hk⟩ := L2.wipe_some h2
    rw [wipeE_at, if_neg hk] at h1
    exact R.sep j k l (fun z => hk (z ▸ hj)) w h1 e e2
  have own1 : ∀ a, Own env1 (L2.wipe σ ws) a → Own env σ a ∨ H a = none := fun a h => by
    rcases p.own a h with z | z
    · exact .inl z.wipe.1
    · exact .inr z
  have at_own : ∀ (j : Nat), j ∉ ws → σ[j]? = (L2.wipe σ ws)[j]? := fun j hj => by rw [wipe_at, if_neg hj]
  refine ⟨⟨p.rel.ex, by rw [hk]; exact R.len, fun j s o h1 h2 => ?_, fun j j' l ne h1 h2 h3 h4 => ?_⟩, ⟨p.stp.base, fun a h h' => ?_, p.stp.dom, fun a o h w => ?_⟩, fun a ⟨j, h1, h2⟩ => ?_, fun a ⟨j, h1, h2⟩ => ?_, fun j xs h => ?_⟩
  · rw [keep_at ws env env1 j hl] at h1
    by_cases e : j ∈ ws
    · rw [if_pos e] at h1
      refine (R.ok j s o h1 h2).keep p.stp.base fun l w eo => ?_
      have ow : Own env σ l := ⟨j, by rw [h1]; exact w, by rw [h2, eo]⟩
      have na := apart j l e (by rw [h1]; exact w) (by rw [h2, eo])
      obtain ⟨b, hn⟩ := R.obj ow
      obtain ⟨u, hu⟩ := Option.ne_none_iff_exists'.mp hn
      refine ⟨?_, by rw [hu]; exact p.stp.keep l u hu na⟩
      cases q : B1 l with
      | none => rfl
      | some v =>
        rcases p.stp.fresh l b (by rw [q]; simp) with z | z
        · exact absurd z hn
        · exact absurd z.own na
    · rw [if_neg e] at h1
      exact p.rel.ok j s o h1 (by rw [← at_own j e]; exact h2)
  · rw [keep_at ws env env1 j hl] at h1; rw [keep_at ws env env1 j' hl] at h2
    by_cases e : j ∈ ws
    · rw [if_pos e] at h1
      have na := apart j l e h1 h3
      by_cases e' : j' ∈ ws
      · rw [if_pos e'] at h2; exact R.sep j j' l ne h1 h2 h3 h4
      · rw [if_neg e'] at h2
        rcases p.own l ⟨j', h2, by rw [← at_own j' e']; exact h4⟩ with z | z
        · exact na z
        · exact (R.obj ⟨j, h1, h3⟩).2 z
    · rw [if_neg e] at h1
      by_cases e' : j' ∈ ws
      · rw [if_pos e'] at h2
        have na := apart j' l e' h2 h4
        rcases p.own l ⟨j, h1, by rw [← at_own j e]; exact h3⟩ with z | z
        · exact na z
        · exact (R.obj ⟨j', h2, h4⟩).2 z
      · rw [if_neg e'] at h2
        exact p.rel.sep j j' l ne h1 h2 (by rw [← at_own j e]; exact h3) (by rw [← at_own j' e']; exact h4)
  · rcases p.stp.fresh a h h' with z | z
    · exact .inl z
    · exact .inr z.wipe
  · exact p.stp.keep a o h fun z => w z.wipe.1
  · rw [keep_at ws env env1 j hl] at h1
    by_cases e : j ∈ ws
    · rw [if_pos e] at h1; exact .inl ⟨j, h1, h2⟩
    · rw [if_neg e] at h1; exact own1 a ⟨j, h1, by rw [← at_own j e]; exact h2⟩
  · rw [keep_at ws env env1 j hl] at h1
    by_cases e : j ∈ ws
    · rw [if_pos e] at h1; exact .inl ⟨j, h1, h2⟩
    · rw [if_neg e] at h1
      rcases p.ownF a ⟨j, h1, by rw [← at_own j e]; exact h2⟩ with z | z
      · exact .inl z.wipe
      · exact .inr z
  · rw [keep_at ws env env1 j hl] at h
    by_cases e : j ∈ ws
    · rw [if_pos e] at h; exact ⟨⟨xs, h⟩, rfl⟩
    · rw [if_neg e] at h
      obtain ⟨⟨ys, h1⟩, _⟩ := p.par j xs h
      rw [wipeE_at, if_neg e] at h1
      exact ⟨⟨ys, h1⟩, rfl⟩
/-- nothing is raised out of a block -/
abbrev W0 : WX := fun _ _ _ _ => False
theorem Good.none {X : Cx} : Good X W0 B H env σ (fun _ _ => False) := fun _ _ _ _ _ _ h => h.elim
/-- a block's reading, from any context with the same written part -/
theorem lc_imp {Y : Cx} (hK : Y.K = X.K) {ti : PD.TI} {g : PD.TG} {tc : PD.TB} {te : TR} {ws : List Nat} (σ : L2.St) (H : Hp) (Q : VK) (h : rdR X W (rLc ti g tc te ws) σ H Q) :
    L2.tLc (rdI X W ti) (rdG Y ws g) (rdB Y W0 tc) (rdR Y W0 te) ws σ H Q := by
  obtain ⟨B, env, E, P, R, h, gd, k⟩ := h
  refine ⟨B, env, E, _, R, h, gd, fun xs e1 B1 H1 J ⟨hx, I, i0, step, fin⟩ q1 wk => ?_⟩
  intro d hd
  have bd : B1 d = none := Same.free q1.rel.ex hd
  have Rw := q1.rel.wipe ws
  refine lc_it wk (fun i H' => ∃ B' env' acc ds, Post X.K B1 H1 (PD.wipe ws e1) (L2.wipe σ ws) B' H' env' (L2.wipe σ ws) ∧ B' d = none ∧ ¬ Own env' (L2.wipe σ ws) d ∧ H' d = some (.lst acc) ∧ RpA X.K B' acc ds ∧ I i ds env' ∧ ds.length ≤ i)
    ⟨B1, PD.wipe ws e1, [], [], Post.free (.refl Rw) hd bd (Rw.notOwn hd), bd, Rw.notOwn hd, upd_same, .nil, i0, Nat.le_refl _⟩
    (fun i H' _ ⟨B', env', acc, ds, p, _⟩ => p.stp.base.trans p.rel.ex) (fun i v H' H'' hi ⟨B', env', acc, ds, p, pb, pn, pd, rr, hI, hle⟩ ⟨x, hx', y⟩ => ?_) fun H' ⟨B', env', acc, ds, p, pb, pn, pd, rr, hI, hle⟩ => ?_
  · obtain ⟨B2, s2, r2⟩ := y B' p.stp.base p.rel.ex
    have p2 := p.trans (.of0 p.rel s2)
    -- the list itself stands apart through anything that follows
    have apart : ∀ {B3 H3 env3 σ3}, Post X.K B' H' env' (L2.wipe σ ws) B3 H3 env3 σ3 → B3 d = none ∧ ¬ Own env3 σ3 d ∧ H3 d = some (.lst acc) := fun {B3 H3 env3 σ3} q => by
      refine ⟨?_, fun z => ?_, q.stp.keep d _ pd pn⟩
      · cases e : B3 d with
        | none => rfl
        | some u =>
          rcases q.stp.fresh d pb (by rw [e]; simp) with z | z
          · rw [pd] at z; cases z
          · exact absurd z.own pn
      · rcases q.own d z with z | z
        · exact pn z
        · rw [pd] at z; cases z
    have s2' : Post X.K B' H' env' (L2.wipe σ ws) B2 H'' env' (L2.wipe σ ws) := .of0 p.rel s2
    refine ⟨B2, env', x, _, by rw [hK]; exact p2.rel, by rw [hK]; exact r2, step i x ds env' hx' hI, fun e2 σ2 B3 H3 p3 q3 o3 => ⟨by rw [o3.wipe]; exact (Out.wipe ⟨L2.wipe_length _ _, fun j hj => by rw [wipe_at, if_neg hj]⟩), ?_⟩⟩
    have e3 : L2.wipe σ2 ws = L2.wipe σ ws := by rw [o3.wipe]; exact (Out.wipe ⟨L2.wipe_length _ _, fun j hj => by rw [wipe_at, if_neg hj]⟩)
    have q3' : Post X.K B2 H'' env' (L2.wipe σ ws) B3 H3 e2 σ2 := hK ▸ q3
    refine ⟨B3, e2, _, _, q3.rel, p3, .none, fun b e4 B4 H4 p4 q4 => ?_⟩
    have q4' : Post X.K B3 H3 e2 σ2 B4 H4 e4 σ2 := hK ▸ q4
    cases b with
    | false =>
      rw [if_neg Bool.false_ne_true] at p4
      dsimp only
      rw [if_neg Bool.false_ne_true]
      have all := (p.trans s2').trans (q3'.trans q4')
      have al2 := s2'.trans (q3'.trans q4')
      obtain ⟨a1, a2, a3⟩ := apart al2
      have w := all.wiped ws
      rw [e3] at w
      exact ⟨B4, _, acc, ds, w, a1, fun z => a2 ((e3 ▸ z : Own (PD.wipe ws e4) (L2.wipe σ2 ws) d)).wipe.1, a3, rr.mono al2.stp.base, p4, by omega⟩
    | true =>
      rw [if_pos rfl] at p4
      dsimp only
      rw [if_pos rfl]
      refine rd_fz q4.rel p4 .none fun y e5 u B5 H5 p5 q5 ry => ?_
      have q5' : Post X.K B4 H4 e4 σ2 B5 H5 e5 σ2 := hK ▸ q5
      have all := (p.trans s2').trans (q3'.trans (q4'.trans q5'))
      have al2 := s2'.trans (q3'.trans (q4'.trans q5'))
      obtain ⟨a1, a2, a3⟩ := apart al2
      have ry' : Rp X.K B5 u y := hK ▸ ry
      have rr' := rr.mono al2.stp.base
      have hacc : acc.length = ds.length := rr.length
      have hi' : i < xs.length := hi
      refine ⟨acc, a3, by rw [hacc]; exact Nat.lt_of_le_of_lt hle (Nat.lt_of_lt_of_le hi' hx), ?_⟩
      have w := (all.wiped ws)
      rw [e3] at w
      have a2' : ¬ Own (PD.wipe ws e5) (L2.wipe σ ws) d := fun z => a2 ((e3 ▸ z : Own (PD.wipe ws e5) (L2.wipe σ2 ws) d)).wipe.1
      exact ⟨B5, _, acc ++ [u], ds ++ [y], w.free hd a1 a2', a1, a2', upd_same, rr'.append (.one ry'), p5, by simp; omega⟩
  · have w := Post.kept ws q1.rel p
    have nown : ¬ Own (PD.keep ws e1 env') σ d := fun z => by
      rcases w.own d z with z | z
      · exact (q1.rel.obj z).2 hd
      · obtain ⟨j, h1, h2⟩ := ‹Own (PD.keep ws e1 env') σ d›
        have hl : env'.length = e1.length := by rw [p.rel.len, L2.wipe_length]; exact q1.rel.len.symm
        rw [keep_at ws e1 env' j hl] at h1
        by_cases e : j ∈ ws
        · rw [if_pos e] at h1; exact (q1.rel.obj ⟨j, h1, h2⟩).2 hd
        · rw [if_neg e] at h1; exact pn ⟨j, h1, by rw [wipe_at, if_neg e]; exact h2⟩
    exact k (.own ds) _ _ B' H' (fin ds env' hI) (q1.trans w) ⟨d, rfl, ⟨pb, acc, pd, rr⟩, nown⟩ fun l e => by
      cases e
      exact .inl (none_of_dom q1.stp.dom hd)
theorem pr_lc {elt tg iter : Expr} {ifs : List Expr} {scope : Scope} {own : List (Str × Nat)} {ws : List Nat} {ti : PD.TI} {g : PD.TG} {tc : PD.TB} {te : TR} (hc : X.calm = true) (hN : X.N.Nodup) (hi : PId X W tg iter ti) (ok : BlkOk X.N X.env.scope scope own) (hw : own.map (·.2) = ws)
    (hg : ∀ (s : Shared) (H : Hp) (C : Addr) (cl : List (Str × Addr)) (fp : List Addr), PGd (X.blk s H scope (compEnvC scope cl C X.env) fp) ws tg g)
    (ht : ∀ (s : Shared) (H : Hp) (C : Addr) (cl : List (Str × Addr)) (fp : List Addr), PTs (X.blk s H scope (compEnvC scope cl C X.env) fp) ifs (rdB X W0 tc))
    (he : ∀ (s : Shared) (H : Hp) (C : Addr) (cl : List (Str × Addr)) (fp : List Addr), PR (X.blk s H scope (compEnvC scope cl C X.env) fp) W0 elt te) (hs : ∀ x, foldedSetIterable iter X.env x = pure x := by intro _; rfl) :
    PR X W (.ListComp elt [⟨tg, iter, ifs, 0⟩] scope pos) (rLc ti g tc te ws) := by
  subst hw
  exact pe_imp (pe_lc (g := rdG X (own.map fun p : Str × Nat => p.2) g) (tt := rdB X W0 tc) (te := rdR X W0 te) hc hN hi ok hg ht he hs) fun σ H Q h => lc_imp (Y := X) rfl σ H Q h
theorem sd_setLc {i : Nat} {y : Str} {py spos : Pos} {elt tg iter : Expr} {ifs : List Expr} {scope : Scope} {own : List (Str × Nat)} {ws : List Nat} {ti : PD.TI} {g : PD.TG} {tc : PD.TB} {te : TR} (hc : X.calm = true) (hN : X.N.Nodup) (hy : X.N[i]? = some y) (hyl : X.env.scope.names.lookup y = some .local)
    (hsw : swapsWith (.ListComp elt [⟨tg, iter, ifs, 0⟩] scope pos) (some (.Name y py)) spos.line X.env = pure true) (hi : PId X W tg iter ti) (ok : BlkOk X.N X.env.scope scope own) (hw : own.map (·.2) = ws)
    (hg : ∀ (s : Shared) (H : Hp) (C : Addr) (cl : List (Str × Addr)) (fp : List Addr), PGd (X.blk s H scope (compEnvC scope cl C X.env) fp) ws tg g)
    (ht : ∀ (s : Shared) (H : Hp) (C : Addr) (cl : List (Str × Addr)) (fp : List Addr), PTs (X.blk s H scope (compEnvC scope cl C X.env) fp) ifs (rdB X W0 tc))
    (he : ∀ (s : Shared) (H : Hp) (C : Addr) (cl : List (Str × Addr)) (fp : List Addr), PR (X.blk s H scope (compEnvC scope cl C X.env) fp) W0 elt te) (hs : ∀ x, foldedSetIterable iter X.env x = pure x := by intro _; rfl) :
    PSd X W (.Assign [.Name y py] (.ListComp elt [⟨tg, iter, ifs, 0⟩] scope pos) spos) (sAsg (rLc ti g tc te ws) i) := by
  subst hw
  exact sd_of_asg (ps_setLc (g := rdG X (own.map fun p : Str × Nat => p.2) g) (tt := rdB X W0 tc) (te := rdR X W0 te) hc hN hy hyl hsw hi ok hg ht he hs) fun σ H Q h => lc_imp (Y := X) rfl σ H Q h
theorem ptd_nil {Y : Cx} : PTs Y [] (rdB X W0 bYes) := ⟨fun pins s σ H Q I ⟨B, env, E, P, R, h, g, k⟩ => (pts_nil (X := Y)).run pins s σ H Q I (k _ _ _ _ h (.refl R))⟩
theorem ptd_one {Y : Cx} {c : Expr} {t : PD.TB} (h : PB Y W0 c t) (e : rdB Y W0 t = rdB X W0 t) : PTs Y [c] (rdB X W0 t) := by
  rw [← e]; exact pts_one h
end
end PD
end PDf_
section PDg_
set_option Elab.async false
set_option linter.all false
set_option maxRecDepth 100000
set_option maxHeartbeats 2000000
/-! PDg: changes of own lists and dicts; own lists lent. -/
namespace PD
open PySem PySem.Spec PyProof.Rows L2

section
variable {X : Cx} {W : WX} {K : Fr} {B H B1 H1 B2 H2 : Hp} {env env1 env2 : Env} {σ σ1 σ2 : St} {E : EK} {pos apos cpos : Pos} {o e e' : Expr} {te tk : TR} {i : Nat}
theorem Rel.at' {s : Sl} {xs : List D} (q : Post K B H env σ B1 H1 env1 σ) (hs : env1[i]? = some s) (ho : ownOf s = some xs) {l : Addr} (e : σ[i]? = some (some (.ref l))) : ∃ vs, H1 l = some (.lst vs) ∧ RpA K B1 vs xs := by
  obtain ⟨l', vs, e', h, r⟩ := q.rel.own_at hs ho
  rw [e] at e'; cases e'
  exact ⟨vs, h, r⟩
theorem tyL {l : Addr} {vs : List V} (h : H l = some (.lst vs)) : tyV K "list" (.ref l) H := .inl ⟨rfl, vs, SqL.of h⟩
theorem sd_app (ho : PE X o (tVar i)) (he : PR X W e te) (hbase : attributeBase o "append" X.env (eval o X.env) = eval o X.env := by rfl)
    (hfew : ((backTo cpos (starEach [e] X.env)).all (fun x => !x.1) && (backToKw cpos (keywordEach [] X.env)).all (fun x => x.1.isSome)
      && decide (([e] : List Expr).length + ([] : List Keyword).length + (if ([] : List Keyword).isEmpty then 0 else 1) < 30)) = true := by rfl)
    (hline : (apos.endLine == cpos.line) = true := by rfl) (hs1 : starEach [e] X.env = (false, eval e X.env) :: starEach [] X.env := by rfl) (hplain : (backTo cpos (starEach ([] : List Expr) X.env)).any (·.1) = false := by rfl)
    (hs : swapsWith (.Call (.Attribute o "append" apos) [e] [] cpos) none pos.line X.env = pure false := by rfl) : PSd X W (.Expr (.Call (.Attribute o "append" apos) [e] [] cpos) pos) (sApp i te) :=
  ps_imp (ps_expr (pe_bm PySem.F.plainAttrs_list PySem.F.slot_list_append PySem.F.type_list_append mt_append ho (pa_cons he pa_nil hs1) hbase hfew hline hs1 hplain) hs) fun D σ H ⟨B, env, E, R, ⟨⟨s0, xs0, hs0, ho0⟩, h⟩, g⟩ => by
    obtain ⟨l, vs0, el, hl, _⟩ := R.own_at hs0 ho0
    refine ⟨.ref l, el, tyL hl, rd_fz R h g.good fun x e1 v B1 H1 ⟨s, xs, hs, hx, hlt, p⟩ q rp => ?_⟩
    obtain ⟨vs, h1, rr⟩ := Rel.at' q hs hx el
    exact ⟨l, vs, v, rfl, rfl, h1, by rw [rr.length]; exact hlt, g.nx _ _ _ _ p (q.trans (Post.mut q.rel hs hx el (rr.append (.one rp))))⟩
theorem sd_ext (ho : PE X o (tVar i)) (he : PR X W e te) (hbase : attributeBase o "extend" X.env (eval o X.env) = eval o X.env := by rfl)
    (hfew : ((backTo cpos (starEach [e] X.env)).all (fun x => !x.1) && (backToKw cpos (keywordEach [] X.env)).all (fun x => x.1.isSome)
      && decide (([e] : List Expr).length + ([] : List Keyword).length + (if ([] : List Keyword).isEmpty then 0 else 1) < 30)) = true := by rfl)
    (hline : (apos.endLine == cpos.line) = true := by rfl) (hs1 : starEach [e] X.env = (false, eval e X.env) :: starEach [] X.env := by rfl) (hplain : (backTo cpos (starEach ([] : List Expr) X.env)).any (·.1) = false := by rfl)
    (hs : swapsWith (.Call (.Attribute o "extend" apos) [e] [] cpos) none pos.line X.env = pure false := by rfl) : PSd X W (.Expr (.Call (.Attribute o "extend" apos) [e] [] cpos) pos) (sExt i te) :=
  ps_imp (ps_expr (pe_bm PySem.F.plainAttrs_list PySem.F.slot_list_extend PySem.F.type_list_extend mt_extend ho (pa_cons he pa_nil hs1) hbase hfew hline hs1 hplain) hs) fun D σ H ⟨B, env, E, R, ⟨⟨s0, xs0, hs0, ho0⟩, h⟩, g⟩ => by
    obtain ⟨l, vs0, el, hl, _⟩ := R.own_at hs0 ho0
    refine ⟨.ref l, el, tyL hl, rd_fz R h g.good fun x e1 v B1 H1 ⟨s, xs, ys, hs, hx, hy, hlt, p⟩ q rp => ?_⟩
    subst hy
    obtain ⟨vs, h1, rr⟩ := Rel.at' q hs hx el
    cases rp with
    | lst h2 r2 => exact ⟨l, _, vs, _, rfl, rfl, h1, q.rel.ex _ _ h2, by rw [rr.length, r2.length]; exact hlt, g.nx _ _ _ _ p (q.trans (Post.mut q.rel hs hx el (rr.append r2)))⟩
theorem sd_ins (ho : PE X o (tVar i)) (hk : PR X W e' tk) (he : PR X W e te) (hbase : attributeBase o "insert" X.env (eval o X.env) = eval o X.env := by rfl)
    (hfew : ((backTo cpos (starEach [e', e] X.env)).all (fun x => !x.1) && (backToKw cpos (keywordEach [] X.env)).all (fun x => x.1.isSome)
      && decide (([e', e] : List Expr).length + ([] : List Keyword).length + (if ([] : List Keyword).isEmpty then 0 else 1) < 30)) = true := by rfl)
    (hline : (apos.endLine == cpos.line) = true := by rfl) (hs1 : starEach [e', e] X.env = (false, eval e' X.env) :: starEach [e] X.env := by rfl) (hs2 : starEach [e] X.env = (false, eval e X.env) :: starEach [] X.env := by rfl) (hplain : (backTo cpos (starEach ([e] : List Expr) X.env)).any (·.1) = false := by rfl)
    (hs : swapsWith (.Call (.Attribute o "insert" apos) [e', e] [] cpos) none pos.line X.env = pure false := by rfl) : PSd X W (.Expr (.Call (.Attribute o "insert" apos) [e', e] [] cpos) pos) (sIns i tk te) :=
  ps_imp (ps_expr (pe_bm PySem.F.plainAttrs_list PySem.F.slot_list_insert PySem.F.type_list_insert mt_insert ho (pa_cons hk (pa_cons he pa_nil hs2) hs1) hbase hfew hline hs1 hplain) hs) fun D σ H ⟨B, env, E, R, ⟨⟨s0, xs0, hs0, ho0⟩, h⟩, g⟩ => by
    obtain ⟨l, vs0, el, hl, _⟩ := R.own_at hs0 ho0
    refine ⟨.ref l, el, tyL hl, rd_fz R h g.good fun k e1 kv B1 H1 p1 q1 r1 => rd_fz q1.rel p1 (g.good.trans q1) fun x e2 v B2 H2 ⟨s, xs, j, hs, hx, hj, j0, j1, hlt, p⟩ q2 rp => ?_⟩
    subst hj
    cases r1
    have q := q1.trans q2
    obtain ⟨vs, h1, rr⟩ := Rel.at' q hs hx el
    exact ⟨l, vs, j, v, rfl, rfl, h1, by rw [rr.length]; exact hlt, j0, j1, g.nx _ _ _ _ p (q.trans (Post.mut q.rel hs hx el (((rr.take _).append (.one rp)).append (rr.drop _))))⟩
theorem sd_rev (ho : PE X o (tVar i)) (hbase : attributeBase o "reverse" X.env (eval o X.env) = eval o X.env := by rfl) (hline : (apos.endLine == cpos.line) = true := by rfl)
    (hs : swapsWith (.Call (.Attribute o "reverse" apos) [] [] cpos) none pos.line X.env = pure false := by rfl) : PSd X W (.Expr (.Call (.Attribute o "reverse" apos) [] [] cpos) pos) (sRev i) :=
  ps_imp (ps_expr (pe_bm0 PySem.F.plainAttrs_list PySem.F.slot_list_reverse PySem.F.type_list_reverse mt_reverse ho hbase hline) hs) fun D σ H ⟨B, env, E, R, ⟨s, xs, hs, hx, p⟩, g⟩ => by
    obtain ⟨l, vs, el, hl, rr⟩ := R.own_at hs hx
    exact ⟨.ref l, el, tyL hl, l, vs, rfl, rfl, hl, g.nx _ _ _ _ p (Post.mut R hs hx el rr.rev)⟩
theorem sd_clear (ho : PE X o (tVar i)) (hbase : attributeBase o "clear" X.env (eval o X.env) = eval o X.env := by rfl) (hline : (apos.endLine == cpos.line) = true := by rfl)
    (hs : swapsWith (.Call (.Attribute o "clear" apos) [] [] cpos) none pos.line X.env = pure false := by rfl) : PSd X W (.Expr (.Call (.Attribute o "clear" apos) [] [] cpos) pos) (sClear i) :=
  ps_imp (ps_expr (pe_bm0 PySem.F.plainAttrs_list PySem.F.slot_list_clear PySem.F.type_list_clear mt_clear ho hbase hline) hs) fun D σ H ⟨B, env, E, R, ⟨s, xs, hs, hx, p⟩, g⟩ => by
    obtain ⟨l, vs, el, hl, rr⟩ := R.own_at hs hx
    exact ⟨.ref l, el, tyL hl, l, vs, rfl, rfl, hl, g.nx _ _ _ _ p (Post.mut R hs hx el .nil)⟩
theorem RpA.dropLast {vs : List V} {ds : List D} (h : RpA K B vs ds) : RpA K B vs.dropLast ds.dropLast := by
  rw [List.dropLast_eq_take, List.dropLast_eq_take, h.length]; exact h.take _
theorem pr_pop0 (ho : PE X o (tVar i)) (hbase : attributeBase o "pop" X.env (eval o X.env) = eval o X.env := by rfl) (hline : (apos.endLine == cpos.line) = true := by rfl) : PR X W (.Call (.Attribute o "pop" apos) [] [] cpos) (rPop0 i) :=
  pe_imp (pe_bm0 PySem.F.plainAttrs_list PySem.F.slot_list_pop PySem.F.type_list_pop mt_pop ho hbase hline) fun σ H Q ⟨B, env, E, P, R, ⟨s, xs, x, hs, hx, hg, p⟩, g, k⟩ => by
    obtain ⟨l, vs, el, hl, rr⟩ := R.own_at hs hx
    rw [List.getLast?_eq_getElem?] at hg
    obtain ⟨v, hv, rv⟩ := rr.get hg
    have q := Post.mut R hs hx el rr.dropLast
    exact ⟨.ref l, el, tyL hl, l, vs, v, rfl, rfl, hl, by rw [rr.length]; exact hv, k _ _ _ _ _ p q rv trivial⟩
theorem pr_pop (ho : PE X o (tVar i)) (he : PR X W e tk) (hbase : attributeBase o "pop" X.env (eval o X.env) = eval o X.env := by rfl)
    (hfew : ((backTo cpos (starEach [e] X.env)).all (fun x => !x.1) && (backToKw cpos (keywordEach [] X.env)).all (fun x => x.1.isSome)
      && decide (([e] : List Expr).length + ([] : List Keyword).length + (if ([] : List Keyword).isEmpty then 0 else 1) < 30)) = true := by rfl)
    (hline : (apos.endLine == cpos.line) = true := by rfl) (hs1 : starEach [e] X.env = (false, eval e X.env) :: starEach [] X.env := by rfl) (hplain : (backTo cpos (starEach ([] : List Expr) X.env)).any (·.1) = false := by rfl) :
    PR X W (.Call (.Attribute o "pop" apos) [e] [] cpos) (rPop i tk) :=
  pe_imp (pe_bm PySem.F.plainAttrs_list PySem.F.slot_list_pop PySem.F.type_list_pop mt_popAt ho (pa_cons he pa_nil hs1) hbase hfew hline hs1 hplain) fun σ H Q ⟨B, env, E, P, R, ⟨⟨s0, xs0, hs0, ho0⟩, h⟩, g, k⟩ => by
    obtain ⟨l, vs0, el, hl, _⟩ := R.own_at hs0 ho0
    refine ⟨.ref l, el, tyL hl, rd_fz R h g fun x e1 v B1 H1 ⟨s, xs, n, j, y, hs, hx, hn, hb, hj, hy, p⟩ q rp => ?_⟩
    subst hn
    cases rp
    obtain ⟨vs, h1, rr⟩ := Rel.at' q hs hx el
    obtain ⟨u, hu, ru⟩ := rr.get hy
    have hj' : ixN xs.length n = some j := hj
    obtain ⟨s1, s2, s3, s4⟩ := ixN_seq hj'
    have q2 := Post.mut q.rel hs hx el (rr.erase j)
    exact ⟨l, vs, n, j, u, rfl, rfl, h1, hb.1, hb.2, by rw [rr.length]; exact s1, hu, k _ _ _ _ _ p (q.trans q2) ru trivial⟩
theorem sd_setI {p2 : Pos} {ix : Expr} (ho : PE X o (tVar i)) (he : PR X W e te) (hk : PR X W ix tk)
    (ha : ∀ v, assign (.Subscript o ix p2) X.env v = (do
      let ov ← holding [v] (eval o X.env)
      let iv ← holding [v, ov] (eval ix X.env)
      standAt p2
      holding [v, ov, iv] (setItem ov iv v)
      release [v, ov, iv] []) := by intro _; rfl)
    (hs : swapsWithSole [.Subscript o ix p2] e pos.line X.env = pure false := by rfl) (hw : swappedStores [.Subscript o ix p2] e X.env = pure none := by rfl)
    (h1 : (assignEach [.Subscript o ix p2] X.env).map (·.2) = [assign (.Subscript o ix p2) X.env] := by rfl) : PSd X W (.Assign [.Subscript o ix p2] e pos) (sSetI i te tk) :=
  ps_imp (ps_asg he (pg_sub ho hk set_list ha) hs hw h1) fun D σ H ⟨B, env, E, R, ⟨⟨s0, xs0, hs0, ho0⟩, h⟩, g⟩ => by
    obtain ⟨l, vs0, el, hl, _⟩ := R.own_at hs0 ho0
    refine rd_fz R h g.good fun x e1 v B1 H1 p1 q1 r1 => ⟨.ref l, el, rd_fz q1.rel p1 (g.good.trans q1) fun k e2 kv B2 H2 ⟨s, xs, n, j, hs, hx, hn, hj, p⟩ q2 rp => ?_⟩
    subst hn
    cases rp
    have q := q1.trans q2
    obtain ⟨vs, h1, rr⟩ := Rel.at' q hs hx el
    exact ⟨l, vs, n, j, rfl, rfl, h1, by rw [rr.length]; exact hj, g.nx _ _ _ _ p (q.trans (Post.mut q.rel hs hx el (rr.set (r1.mono q2.stp.base) j)))⟩
/-- an own dict is changed -/
theorem Post.mutK {kvs kvs' : List (KeyD × D)} {l : Addr} {ws : List (Key × V)} (R : Rel K B H env σ) (hs : env[i]? = some (.tab kvs)) (hσ : σ[i]? = some (some (.ref l))) (rr : RpK K B ws (kvs'.map fun p => (keyD p.1, p.2))) (nm : ws.map (·.1) = kvs'.map (·.1)) :
    Post K B H env σ B (upd H l (.dK ws)) (env.set i (.tab kvs')) σ := by
  have own_l : Own env σ l := ⟨i, by rw [hs]; rfl, hσ⟩
  have bl := (R.obj own_l).1
  have sub : ∀ a, Own (env.set i (.tab kvs')) σ a → Own env σ a := fun a ⟨j, h1, h2⟩ => by
    obtain ⟨s', e1, w1⟩ := owns_some h1
    rcases set_at e1 with ⟨e, _, _⟩ | ⟨_, e1⟩
    · subst e; rw [hσ] at h2; cases h2; exact own_l
    · exact ⟨j, by rw [e1]; exact w1, h2⟩
  refine ⟨⟨fun b u e => ?_, by rw [List.length_set]; exact R.len, fun j s' o h1 h2 => ?_, fun j j' l' ne h1 h2 h3 h4 => ?_⟩, ⟨Same.refl _, fun a h h' => absurd h h', fun a h => ?_, fun a o h hn => ?_⟩, fun a h => .inl (sub a h), fun a ⟨j, h1, h2⟩ => ?_, fun j xs' h => ?_⟩
  · rw [upd_ne (ne_of_none e bl)]; exact R.ex b u e
  · rcases set_at h1 with ⟨e, rfl, _⟩ | ⟨e, h1⟩
    · subst e; rw [hσ] at h2; cases h2
      exact ⟨l, rfl, bl, ws, upd_same, rr, nm⟩
    · refine (R.ok j s' o h1 h2).keep (Same.refl _) fun l' w e' => ?_
      have ne : l' ≠ l := fun z => R.sep i j l e (by rw [hs]; rfl) (by rw [h1]; exact w) hσ (by rw [h2, e', z])
      exact ⟨(R.obj ⟨j, by rw [h1]; exact w, by rw [h2, e']⟩).1, upd_ne ne⟩
  · obtain ⟨s1, e1, w1⟩ := owns_some h1
    obtain ⟨s2, e2, w2⟩ := owns_some h2
    have up : ∀ (j : Nat) s', (env.set i (Sl.tab kvs'))[j]? = some s' → owns (some s') = true → owns env[j]? = true := fun j s' h w => by
      rcases set_at h with ⟨e, _, _⟩ | ⟨_, h⟩
      · subst e; rw [hs]; rfl
      · rw [h]; exact w
    exact R.sep j j' l' ne (up j s1 e1 w1) (up j' s2 e2 w2) h3 h4
  · by_cases q : a = l
    · subst q; rw [upd_same]; simp
    · rw [upd_ne q]; exact h
  · have ne : a ≠ l := fun z => hn (z ▸ own_l)
    rw [upd_ne ne]; exact h
  · obtain ⟨s1, e1, w1⟩ := ownsF_some h1
    rcases set_at e1 with ⟨e, rfl, _⟩ | ⟨_, e1⟩
    · subst e; exact .inl ⟨i, by rw [hs]; rfl, h2⟩
    · exact .inl ⟨j, by rw [e1]; exact w1, h2⟩
  · rcases set_at h with ⟨e, z, _⟩ | ⟨_, h⟩
    · cases z
    · exact ⟨⟨xs', h⟩, rfl⟩
theorem rpK_map {ws : List (Key × V)} {kvs : List (KeyD × D)} {k : Key} {v : V} {x : D} (rv : Rp K B v x) : RpK K B ws (kvs.map fun p => (keyD p.1, p.2)) → ws.map (·.1) = kvs.map (·.1) →
    RpK K B (ws.map fun kv => if kv.1 = k then (kv.1, v) else kv) ((kvs.map fun kv => if kv.1 = k then (kv.1, x) else kv).map fun p => (keyD p.1, p.2)) ∧ (ws.map fun kv => if kv.1 = k then (kv.1, v) else kv).map (·.1) = (kvs.map fun kv => if kv.1 = k then (kv.1, x) else kv).map (·.1) := by
  induction kvs generalizing ws with
  | nil => intro h nm; cases h; exact ⟨.nil, rfl⟩
  | cons p r ih =>
    intro h nm
    obtain ⟨pk, px⟩ := p
    cases h with
    | @cons wk wv ws' _ _ _ e h1 h2 =>
      simp only [List.map_cons, List.cons.injEq] at nm
      obtain ⟨rfl, nm⟩ := nm
      obtain ⟨i1, i2⟩ := ih h2 nm
      by_cases q : wk = k
      · simp only [List.map_cons, if_pos q]; exact ⟨.cons rfl rv i1, by rw [i2]⟩
      · simp only [List.map_cons, if_neg q]; exact ⟨.cons rfl h1 i1, by rw [i2]⟩
theorem rpK_app {ws : List (Key × V)} {kvs : List (KeyD × D)} {k : Key} {v : V} {x : D} (rv : Rp K B v x) : RpK K B ws (kvs.map fun p => (keyD p.1, p.2)) → RpK K B (ws ++ [(k, v)]) ((kvs ++ [(k, x)]).map fun p => (keyD p.1, p.2)) := by
  induction kvs generalizing ws with
  | nil => intro h; cases h; exact .cons rfl rv .nil
  | cons p r ih =>
    intro h
    cases h with
    | cons e h1 h2 => exact .cons e h1 (ih h2)
theorem rpK_put {ws : List (Key × V)} {kvs : List (KeyD × D)} {k : Key} {v : V} {x : D} (rv : Rp K B v x) (h : RpK K B ws (kvs.map fun p => (keyD p.1, p.2))) (nm : ws.map (·.1) = kvs.map (·.1)) :
    RpK K B (L2.putK ws k v) ((PD.putK k x kvs).map fun p => (keyD p.1, p.2)) ∧ (L2.putK ws k v).map (·.1) = (PD.putK k x kvs).map (·.1) := by
  have ha : (ws.any fun kv => decide (kv.1 = k)) = (kvs.any fun kv => decide (kv.1 = k)) := by
    have e1 : (ws.any fun kv => decide (kv.1 = k)) = (ws.map (·.1)).any fun y => decide (y = k) := by rw [List.any_map]; rfl
    have e2 : (kvs.any fun kv => decide (kv.1 = k)) = (kvs.map (·.1)).any fun y => decide (y = k) := by rw [List.any_map]; rfl
    rw [e1, e2, nm]
  unfold L2.putK PD.putK
  rw [ha]
  split
  · exact rpK_map rv h nm
  · exact ⟨rpK_app rv h, by simp [nm]⟩
theorem key_of {v : V} {x : D} {q : KeyD} (h : Rp K B v x) (e : keyOf x = some q) : v = kV q := by
  cases x with
  | int i => cases e; cases h; rfl
  | str s => cases e; cases h; rfl
  | _ => cases e
theorem sd_setK {p2 : Pos} {ix : Expr} (hu : X.A.units + 1 < cLine) (ho : PE X o (tVar i)) (he : PR X W e te) (hk : PR X W ix tk)
    (hs : swapsWith e (some (.Subscript o ix p2)) pos.line X.env = pure false := by rfl) : PSd X W (.Assign [.Subscript o ix p2] e pos) (sSetK i te tk) :=
  ps_imp (ps_dput hu ho hk he hs) fun D σ H ⟨B, env, E, R, ⟨⟨kvs0, hs0⟩, h⟩, g⟩ => by
    obtain ⟨hi, _⟩ := List.getElem?_eq_some_iff.mp hs0
    have hj : i < σ.length := by rw [← R.len]; exact hi
    obtain ⟨l, el, b, ws0, hl, _⟩ := R.ok i _ _ hs0 (List.getElem?_eq_getElem hj)
    have el : σ[i]? = some (some (.ref l)) := by rw [List.getElem?_eq_getElem hj, el]
    refine rd_fz R h g.good fun x e1 v B1 H1 p1 q1 r1 => ⟨.ref l, el, rd_fz q1.rel p1 (g.good.trans q1) fun k e2 kv B2 H2 ⟨kvs, q, hs, hk, hlt, p⟩ q2 rp => ?_⟩
    have qq := q1.trans q2
    have hkv := key_of rp hk
    subst hkv
    obtain ⟨l', el', _, ws, h2, rr, nm⟩ := qq.rel.ok i _ _ hs el
    cases el'
    have hw : ws.length = kvs.length := by have := congrArg List.length nm; simpa using this
    obtain ⟨a1, a2⟩ := rpK_put (k := q) (r1.mono q2.stp.base) rr nm
    exact ⟨l, _, rfl, .inl ⟨ws, q, h2, rfl, by rw [hw]; exact hlt, rfl⟩, g.nx _ _ _ _ p (qq.trans (Post.mutK qq.rel hs el a1 a2))⟩

/-! ### own lists lent for a look -/
theorem lend_at (is : List Nat) : ∀ (env : Env) (k j : Nat), (lend is k env)[j]? = (env[j]?).map fun s => lent1 (decide (k + j ∈ is)) s
  | [], k, j => by simp [lend]
  | s :: r, k, 0 => by simp [lend]
  | s :: r, k, j + 1 => by
    simp only [lend, List.getElem?_cons_succ]
    rw [lend_at is r (k + 1) j]
    have e : k + 1 + j = k + (j + 1) := by omega
    rw [e]
theorem lend_len (is : List Nat) : ∀ (env : Env) (k : Nat), (lend is k env).length = env.length
  | [], k => rfl
  | s :: r, k => by simp [lend, lend_len is r (k + 1)]
theorem back_at (is : List Nat) : ∀ (env env' : Env) (k j : Nat), env'.length = env.length → ∀ s', (back is k env env')[j]? = some s' → ∃ s0 s1, env[j]? = some s0 ∧ env'[j]? = some s1 ∧ s' = back1 (decide (k + j ∈ is)) s0 s1
  | [], [], k, j, _, s', h => by simp [back] at h
  | [], _ :: _, k, j, hl, s', h => by simp at hl
  | _ :: _, [], k, j, hl, s', h => by simp at hl
  | s :: r, t :: u, k, 0, hl, s', h => by
    simp only [back, List.getElem?_cons_zero, Option.some.injEq] at h
    exact ⟨s, t, rfl, rfl, h.symm⟩
  | s :: r, t :: u, k, j + 1, hl, s', h => by
    simp only [back, List.getElem?_cons_succ] at h
    obtain ⟨s0, s1, e1, e2, e3⟩ := back_at is r u (k + 1) j (by simpa using hl) s' h
    refine ⟨s0, s1, by simpa using e1, by simpa using e2, ?_⟩
    have e : k + 1 + j = k + (j + 1) := by omega
    rw [e] at e3; exact e3
theorem back_len (is : List Nat) : ∀ (env env' : Env) (k : Nat), env'.length = env.length → (back is k env env').length = env.length
  | [], [], k, _ => rfl
  | [], _ :: _, k, hl => by simp at hl
  | _ :: _, [], k, hl => by simp at hl
  | s :: r, t :: u, k, hl => by simp [back, back_len is r u (k + 1) (by simpa using hl)]
theorem mild_at (is : List Nat) : ∀ (env env' : Env) (k : Nat), Mild is k env env' → ∀ (j : Nat) s s', env[j]? = some s → env'[j]? = some s' → mild1 (decide (k + j ∈ is)) s s'
  | [], [], k, _, j, s, s', h, _ => by simp at h
  | [], _ :: _, k, h, _, _, _, _, _ => h.elim
  | _ :: _, [], k, h, _, _, _, _, _ => h.elim
  | s :: r, t :: u, k, ⟨h1, _⟩, 0, s0, s1, e1, e2 => by
    simp at e1 e2; subst e1; subst e2; simpa using h1
  | s :: r, t :: u, k, ⟨_, h2⟩, j + 1, s0, s1, e1, e2 => by
    have := mild_at is r u (k + 1) h2 j s0 s1 (by simpa using e1) (by simpa using e2)
    have e : k + 1 + j = k + (j + 1) := by omega
    rw [e] at this; exact this
theorem lent_own {s : Sl} {b : Bool} (h : owns (some (lent1 b s)) = true) : owns (some s) = true ∧ lent1 b s = s := by
  cases b <;> cases s <;> simp_all [lent1, owns]
theorem lent_cases (b : Bool) (s : Sl) : (∃ xs, ownOf s = some xs ∧ b = true ∧ lent1 b s = .d (.list xs)) ∨ (lent1 b s = s ∧ (b = true → ownOf s = none)) := by
  cases b <;> cases s <;> simp [lent1, ownOf]
/-- the address of a lent list -/
def LentAt (is : List Nat) (env : Env) (σ : St) (a : Addr) : Prop := ∃ (j : Nat) (s : Sl) (xs : List D), j ∈ is ∧ env[j]? = some s ∧ ownOf s = some xs ∧ σ[j]? = some (some (.ref a))
open Classical in
/-- the heap with the lent lists as values -/
noncomputable def Lent (is : List Nat) (env : Env) (σ : St) (B H : Hp) : Hp := fun a => if LentAt is env σ a then H a else B a
theorem owns_ownOf {s : Sl} {xs : List D} (h : ownOf s = some xs) : owns (some s) = true := by cases s <;> simp_all [ownOf, owns]
theorem LentAt.own {is : List Nat} {a : Addr} (h : LentAt is env σ a) : Own env σ a := by
  obtain ⟨j, s, xs, _, h1, h2, h3⟩ := h
  exact ⟨j, by rw [h1]; exact owns_ownOf h2, h3⟩
/-- an own object of a slot that is not lent -/
theorem not_lent {is : List Nat} {j : Nat} {s : Sl} {l : Addr} (R : Rel K B H env σ) (h1 : env[j]? = some s) (w : owns (some s) = true) (h2 : σ[j]? = some (some (.ref l))) (hn : j ∈ is → ownOf s = none) : ¬ LentAt is env σ l := by
  rintro ⟨j', s', xs, hj', e1', q', el'⟩
  by_cases z : j = j'
  · subst z; rw [h1] at e1'; cases e1'; rw [hn hj'] at q'; cases q'
  · exact R.sep j j' l z (by rw [h1]; exact w) (by rw [e1']; exact owns_ownOf q') h2 el'
theorem Lent.rel (is : List Nat) (R : Rel K B H env σ) : Rel K (Lent is env σ B H) H (lend is 0 env) σ ∧ Same B (Lent is env σ B H) := by
  have sm : Same B (Lent is env σ B H) := fun a u e => by
    unfold Lent
    split
    · exact R.ex a u e
    · exact e
  have at_ : ∀ (j : Nat) s', (lend is 0 env)[j]? = some s' → ∃ s, env[j]? = some s ∧ s' = lent1 (decide (j ∈ is)) s := fun j s' h => by
    rw [lend_at] at h
    cases e : env[j]? with
    | none => rw [e] at h; cases h
    | some s => rw [e] at h; simp only [Option.map_some, Option.some.injEq, Nat.zero_add] at h; exact ⟨s, rfl, h.symm⟩
  refine ⟨⟨fun a u e => ?_, by rw [lend_len]; exact R.len, fun j s' o h1 h2 => ?_, fun j j' l ne h1 h2 h3 h4 => ?_⟩, sm⟩
  · unfold Lent at e
    split at e
    · exact e
    · exact R.ex a u e
  · obtain ⟨s, e1, rfl⟩ := at_ j s' h1
    have base := R.ok j s o e1 h2
    rcases lent_cases (decide (j ∈ is)) s with ⟨xs, q, hj, e2⟩ | ⟨e2, hn⟩
    · rw [e2]
      obtain ⟨l, vs, el, hl, rr⟩ := R.own_at e1 q
      rw [el] at h2; cases h2
      refine ⟨_, rfl, .lst ?_ (rr.mono sm)⟩
      unfold Lent
      rw [if_pos ⟨j, s, xs, of_decide_eq_true hj, e1, q, el⟩]; exact hl
    · rw [e2]
      refine base.keep sm fun l w eo => ?_
      have nl := not_lent (is := is) R e1 w (by rw [h2, eo]) fun hj => hn (decide_eq_true hj)
      refine ⟨?_, rfl⟩
      unfold Lent
      rw [if_neg nl]
      exact (R.obj ⟨j, by rw [e1]; exact w, by rw [h2, eo]⟩).1
  · obtain ⟨s1, e1, w1⟩ := owns_some h1
    obtain ⟨s2, e2, w2⟩ := owns_some h2
    obtain ⟨t1, f1, rfl⟩ := at_ j s1 e1
    obtain ⟨t2, f2, rfl⟩ := at_ j' s2 e2
    exact R.sep j j' l ne (by rw [f1]; exact (lent_own w1).1) (by rw [f2]; exact (lent_own w2).1) h3 h4
/-- what is kept of the heap of values: flat values lean on nothing else -/
def Kept (B B' : Hp) : Hp := fun a => match B a with
  | some o => some o
  | none => NoL B' a
theorem kept_base (B B' : Hp) : Same B (Kept B B') := fun a u e => by unfold Kept; rw [e]
theorem kept_noL (s : Same B B1) : Same (NoL B1) (Kept B B1) := fun a u e => by
  unfold Kept
  cases q : B a with
  | none => exact e
  | some o =>
    have h := s a o q
    unfold NoL at e
    rw [h] at e
    cases o <;> simp_all
theorem kept_sub (s : Same B B1) (s2 : Same B1 H1) : Same (Kept B B1) H1 := fun a u e => by
  unfold Kept at e
  cases q : B a with
  | some o =>
    rw [q] at e
    have e := Option.some.inj e
    subst e
    exact s2 a _ (s a _ q)
  | none =>
    rw [q] at e
    have e : NoL B1 a = some u := e
    unfold NoL at e
    cases q2 : B1 a with
    | none => rw [q2] at e; cases e
    | some o =>
      rw [q2] at e
      cases o <;> simp_all
      · exact s2 _ _ q2
      · exact s2 _ _ q2
theorem kept_none {a : Addr} (h : B a = none) (h1 : B1 a = none ∨ ∃ xs, B1 a = some (.lst xs)) : Kept B B1 a = none := by
  unfold Kept NoL
  rw [h]
  rcases h1 with h1 | ⟨xs, h1⟩ <;> rw [h1]
theorem lst_ne_tup {a : Addr} {u : HO} (h : Kept B B1 a = some u) (hb : B a = none) : (∃ xs, B1 a = some (.tup xs)) ∨ ∃ o v, B1 a = some (.frz o v) := by
  unfold Kept at h
  rw [hb] at h
  have e : NoL B1 a = some u := h
  unfold NoL at e
  cases q2 : B1 a with
  | none => rw [q2] at e; cases e
  | some o =>
    rw [q2] at e
    cases o with
    | tup xs => exact .inl ⟨_, rfl⟩
    | frz o v => exact .inr ⟨_, _, rfl⟩
    | _ => cases e
theorem rpK_kept {ws : List (Key × V)} {kvs : List (KeyD × D)} (s : Same B B1) (h : RpK K B1 ws (kvs.map fun p => (keyD p.1, p.2))) (fl : flats (kvs.map (·.2)) = true) : RpK K (Kept B B1) ws (kvs.map fun p => (keyD p.1, p.2)) := by
  induction kvs generalizing ws with
  | nil => cases h; exact .nil
  | cons p r ih =>
    cases h with
    | cons a b c =>
      simp only [List.map_cons, flats, Bool.and_eq_true] at fl
      exact .cons a ((b.noL fl.1).mono (kept_noL s)) (ih c fl.2)
/-- after the look the lists are own again -/
theorem Post.look (is : List Nat) (R : Rel K B H env σ) (p : Post K (Lent is env σ B H) H (lend is 0 env) σ B1 H1 env1 σ) (m : Mild is 0 env env1) : Post K B H env σ (Kept B B1) H1 (back is 0 env env1) σ := by
  have sm := (Lent.rel is R).2
  have smB : Same B B1 := sm.trans p.stp.base
  have hl : env1.length = env.length := by rw [p.rel.len]; exact R.len.symm
  have ownL : ∀ a, Own (lend is 0 env) σ a → Own env σ a ∧ ¬ LentAt is env σ a := fun a ⟨j, h1, h2⟩ => by
    obtain ⟨s', e1, w1⟩ := owns_some h1
    rw [lend_at] at e1
    cases e : env[j]? with
    | none => rw [e] at e1; cases e1
    | some s =>
      rw [e] at e1; simp only [Option.map_some, Option.some.injEq, Nat.zero_add] at e1
      subst e1
      have z := lent_own w1
      refine ⟨⟨j, by rw [e]; exact z.1, h2⟩, not_lent R e z.1 h2 fun hj => ?_⟩
      rcases lent_cases (decide (j ∈ is)) s with ⟨xs, q, _, e2⟩ | ⟨_, hn⟩
      · rw [e2] at w1; simp [owns] at w1
      · exact hn (decide_eq_true hj)
  have lentB : ∀ {a : Addr}, LentAt is env σ a → ∃ vs, H a = some (.lst vs) ∧ Lent is env σ B H a = some (.lst vs) ∧ B1 a = some (.lst vs) ∧ H1 a = some (.lst vs) := fun {a} h => by
    obtain ⟨j, s, xs, hj, e1, q, e2⟩ := id h
    obtain ⟨l, vs, el, hl, _⟩ := R.own_at e1 q
    rw [e2] at el; cases el
    have z : Lent is env σ B H a = some (.lst vs) := by unfold Lent; rw [if_pos h]; exact hl
    have z1 := p.stp.base a _ z
    exact ⟨vs, hl, z, z1, p.rel.ex a _ z1⟩
  -- what a slot holds behind the look
  have slot : ∀ (j : Nat) s' o, (back is 0 env env1)[j]? = some s' → σ[j]? = some o → SlOk K (Kept B B1) H1 s' o ∧ (owns (some s') = true → owns env[j]? = true) ∧ (∀ xs, s' = .par xs → ∃ ys, env[j]? = some (.par ys)) ∧ (ownsF (some s') = true → ownsF env[j]? = true) := fun j s' o h1 h2 => by
    obtain ⟨s0, s1, f0, f1, rfl⟩ := back_at is env env1 0 j hl s' h1
    rw [Nat.zero_add]
    have m1 := mild_at is env env1 0 m j s0 s1 f0 f1
    rw [Nat.zero_add] at m1
    have base := R.ok j s0 o f0 h2
    have now := p.rel.ok j s1 o f1 h2
    -- the slot's own value, its own list unchanged
    have stay : decide (j ∈ is) = true → ∀ xs, ownOf s0 = some xs → SlOk K (Kept B B1) H1 s0 o := fun hj xs q => by
      refine base.keep (kept_base _ _) fun l w eo => ?_
      obtain ⟨vs, a1, a2, a3, a4⟩ := lentB ⟨j, s0, xs, of_decide_eq_true hj, f0, q, by rw [h2, eo]⟩
      exact ⟨kept_none (R.obj ⟨j, by rw [f0]; exact w, by rw [h2, eo]⟩).1 (.inr ⟨vs, a3⟩), by rw [a1, a4]⟩
    cases s0 with
    | un =>
      have m1 : s1 = .un := m1
      subst m1
      have e : back1 (decide (j ∈ is)) Sl.un Sl.un = .un := by cases decide (j ∈ is) <;> rfl
      rw [e]; exact ⟨trivial, (fun z => by simp [owns] at z), (fun xs z => by cases z), (fun z => by simp [ownsF] at z)⟩
    | d x =>
      have m1 : s1 = .d x := m1
      subst m1
      have e : back1 (decide (j ∈ is)) (Sl.d x) (Sl.d x) = .d x := by cases decide (j ∈ is) <;> rfl
      rw [e]
      obtain ⟨v, ev, rp⟩ := base
      exact ⟨⟨v, ev, rp.mono (kept_base _ _)⟩, (fun z => by simp [owns] at z), (fun xs z => by cases z), (fun z => by simp [ownsF] at z)⟩
    | own xs =>
      by_cases hj : decide (j ∈ is) = true
      · rw [hj]
        exact ⟨stay hj xs rfl, (fun _ => by rw [f0]; rfl), (fun xs z => by cases z), (fun _ => by rw [f0]; rfl)⟩
      · rw [Bool.not_eq_true] at hj
        rw [hj] at m1 ⊢
        obtain ⟨ys, rfl, fl⟩ := (show ∃ ys, s1 = .own ys ∧ flats ys = true from by simpa [mild1] using m1)
        obtain ⟨l, el, b, vs, hv, rr⟩ := now
        obtain ⟨l0, el0, b0, _⟩ := base
        rw [el] at el0; cases el0
        exact ⟨⟨l, el, kept_none b0 (.inl b), vs, hv, (rr.noL fl).mono (kept_noL smB)⟩, (fun _ => by rw [f0]; rfl), (fun xs z => by cases z), (fun _ => by rw [f0]; rfl)⟩
    | par xs =>
      by_cases hj : decide (j ∈ is) = true
      · rw [hj]
        exact ⟨stay hj xs rfl, (fun _ => by rw [f0]; rfl), (fun _ _ => ⟨xs, f0⟩), (fun z => by simp [back1, ownsF] at z)⟩
      · rw [Bool.not_eq_true] at hj
        rw [hj] at m1 ⊢
        obtain ⟨ys, rfl, fl⟩ := (show ∃ ys, s1 = .par ys ∧ flats ys = true from by simpa [mild1] using m1)
        obtain ⟨l, el, b, vs, hv, rr⟩ := now
        obtain ⟨l0, el0, b0, _⟩ := base
        rw [el] at el0; cases el0
        exact ⟨⟨l, el, kept_none b0 (.inl b), vs, hv, (rr.noL fl).mono (kept_noL smB)⟩, (fun _ => by rw [f0]; rfl), (fun _ _ => ⟨xs, f0⟩), (fun z => by simp [back1, ownsF] at z)⟩
    | tab kvs =>
      obtain ⟨kvs', rfl, fl⟩ := (show ∃ kvs', s1 = .tab kvs' ∧ flats (kvs'.map (·.2)) = true from m1)
      have e : back1 (decide (j ∈ is)) (Sl.tab kvs) (Sl.tab kvs') = .tab kvs' := by cases decide (j ∈ is) <;> rfl
      rw [e]
      obtain ⟨l, el, b, ws, hv, rr, nm⟩ := now
      obtain ⟨l0, el0, b0, _⟩ := base
      rw [el] at el0; cases el0
      have rr' := rpK_kept smB rr fl
      exact ⟨⟨l, el, kept_none b0 (.inl b), ws, hv, rr', nm⟩, (fun _ => by rw [f0]; rfl), (fun xs z => by cases z), (fun _ => by rw [f0]; rfl)⟩
  have at_σ : ∀ (j : Nat) s', (back is 0 env env1)[j]? = some s' → ∃ o, σ[j]? = some o := fun j s' h => by
    have hj : j < σ.length := by rw [← R.len, ← back_len is env env1 0 hl]; exact (List.getElem?_eq_some_iff.mp h).1
    exact ⟨_, List.getElem?_eq_getElem hj⟩
  refine ⟨⟨kept_sub smB p.rel.ex, by rw [back_len is env env1 0 hl]; exact R.len, fun j s' o h1 h2 => (slot j s' o h1 h2).1, fun j j' l ne h1 h2 h3 h4 => ?_⟩, ⟨kept_base _ _, fun a h h' => ?_, p.stp.dom, fun a o h w => p.stp.keep a o h fun z => w (ownL a z).1⟩, fun a ⟨j, h1, h2⟩ => ?_, fun a ⟨j, h1, h2⟩ => ?_, fun j xs h => ?_⟩
  · obtain ⟨s1, e1, w1⟩ := owns_some h1
    obtain ⟨s2, e2, w2⟩ := owns_some h2
    exact R.sep j j' l ne ((slot j s1 _ e1 h3).2.1 w1) ((slot j' s2 _ e2 h4).2.1 w2) h3 h4
  · obtain ⟨u, hu⟩ := Option.ne_none_iff_exists'.mp h'
    by_cases hL : LentAt is env σ a
    · obtain ⟨vs, _, _, a3, _⟩ := lentB hL
      rcases lst_ne_tup hu h with ⟨xs, z⟩ | ⟨o, v, z⟩ <;> rw [a3] at z <;> cases z
    · have n1 : Lent is env σ B H a = none := by unfold Lent; rw [if_neg hL]; exact h
      have n2 : B1 a ≠ none := by rcases lst_ne_tup hu h with ⟨xs, z⟩ | ⟨o, v, z⟩ <;> rw [z] <;> simp
      rcases p.stp.fresh a n1 n2 with z | ⟨j, h1, h2⟩
      · exact .inl z
      · obtain ⟨s', e1, w1⟩ := ownsF_some h1
        rw [lend_at] at e1
        cases e : env[j]? with
        | none => rw [e] at e1; cases e1
        | some s =>
          rw [e] at e1; simp only [Option.map_some, Option.some.injEq, Nat.zero_add] at e1
          subst e1
          refine .inr ⟨j, ?_, h2⟩
          rw [e]
          revert w1
          cases decide (j ∈ is) <;> cases s <;> simp [lent1, ownsF]
  · obtain ⟨s1, e1, w1⟩ := owns_some h1
    exact .inl ⟨j, (slot j s1 _ e1 h2).2.1 w1, h2⟩
  · obtain ⟨s1, e1, w1⟩ := ownsF_some h1
    exact .inl ⟨j, (slot j s1 _ e1 h2).2.2.2 w1, h2⟩
  · obtain ⟨o, ho⟩ := at_σ j _ h
    exact ⟨(slot j _ o h ho).2.2.1 xs rfl, rfl⟩
theorem rd_bor {t : TR} (is : List Nat) {σ : L2.St} {H : Hp} {Q : VK} (hh : rdR X W (rBor is t) σ H Q) : rdR X W t σ H Q := by
  obtain ⟨B, env, E, P, R, h, g, k⟩ := hh
  obtain ⟨R2, sm⟩ := Lent.rel is R
  refine ⟨_, _, _, _, R2, h, fun _ _ _ _ _ _ z => z.elim, fun r e1 v B1 H1 ⟨fl, m, p⟩ q ro n => ?_⟩
  have q2 := Post.look is R q m
  have smB : Same B B1 := sm.trans q.stp.base
  have keepOwn : ∀ l, ¬ Own e1 σ l → H1 l ≠ none → (H l = none ∨ OwnF (lend is 0 env) σ l) → B1 l = none → ¬ Own (back is 0 env e1) σ l ∧ (H l = none ∨ OwnF env σ l) := fun l no hn nw b1 => by
    have hl : e1.length = env.length := by rw [q.rel.len]; exact R.len.symm
    refine ⟨fun ⟨j, h1, h2⟩ => ?_, ?_⟩
    · obtain ⟨s', f, w⟩ := owns_some h1
      obtain ⟨s0, s1, f0, f1, rfl⟩ := back_at is env e1 0 j hl s' f
      rw [Nat.zero_add] at w
      -- own behind the look: own already, so not the new one
      have m1 := mild_at is env e1 0 m j s0 s1 f0 f1
      rw [Nat.zero_add] at m1
      by_cases hb : decide (j ∈ is) = true ∧ (ownOf s0).isSome = true
      · obtain ⟨hb1, hb2⟩ := hb
        obtain ⟨xs, hx⟩ := Option.isSome_iff_exists.mp hb2
        have hL : LentAt is env σ l := ⟨j, s0, xs, of_decide_eq_true hb1, f0, hx, h2⟩
        obtain ⟨l', vs, el, hl', _⟩ := R.own_at f0 hx
        rw [h2] at el; cases el
        have z : Lent is env σ B H l = some (.lst vs) := by unfold Lent; rw [if_pos hL]; exact hl'
        rw [q.stp.base l _ z] at b1; cases b1
      · have e : back1 (decide (j ∈ is)) s0 s1 = s1 := by
          revert hb
          cases decide (j ∈ is) <;> cases s0 <;> simp [back1, ownOf]
        rw [e] at w
        exact no ⟨j, by rw [f1]; exact w, h2⟩
    · rcases nw with z | ⟨j, h1, h2⟩
      · exact .inl z
      · obtain ⟨s', f, w⟩ := ownsF_some h1
        rw [lend_at] at f
        cases e : env[j]? with
        | none => rw [e] at f; cases f
        | some s =>
          rw [e] at f; simp only [Option.map_some, Option.some.injEq, Nat.zero_add] at f
          subst f
          refine .inr ⟨j, ?_, h2⟩
          rw [e]
          revert w
          cases decide (j ∈ is) <;> cases s <;> simp [lent1, ownsF]
  cases r with
  | d x => exact k _ _ _ _ _ p q2 ((Rp.noL ro fl).mono (kept_noL smB)) trivial
  | own xs =>
    obtain ⟨l, rfl, ⟨b, vs, hv, rr⟩, no⟩ := ro
    obtain ⟨z1, z2⟩ := keepOwn l no (by rw [hv]; simp) (n l rfl) b
    have bl : B l = none := Same.free smB b
    exact k _ _ _ _ _ p q2 ⟨l, rfl, ⟨kept_none bl (.inl b), vs, hv, (RpA.noL rr fl).mono (kept_noL smB)⟩, z1⟩ fun l' e => by cases e; exact z2
  | tab kvs =>
    obtain ⟨l, rfl, ⟨b, vs, hv, rr, nm⟩, no⟩ := ro
    obtain ⟨z1, z2⟩ := keepOwn l no (by rw [hv]; simp) (n l rfl) b
    have bl : B l = none := Same.free smB b
    have rr' := rpK_kept smB rr fl
    exact k _ _ _ _ _ p q2 ⟨l, rfl, ⟨kept_none bl (.inl b), vs, hv, rr', nm⟩, z1⟩ fun l' e => by cases e; exact z2
theorem pr_bor {t : TR} (is : List Nat) (h : PR X W e t) : PR X W e (rBor is t) := pe_imp h fun σ H Q q => rd_bor is q
theorem pb_bor {t : TB} (is : List Nat) (h : PB X W e t) : PB X W e (bBor is t) := pt_imp h fun σ H Q ⟨B, env, E, P, R, h, g, k⟩ => by
  obtain ⟨R2, sm⟩ := Lent.rel is R
  exact ⟨_, _, _, _, R2, h, fun _ _ _ _ _ _ z => z.elim, fun b e1 B1 H1 ⟨m, p⟩ q => k _ _ _ _ p (Post.look is R q m)⟩
end
end PD
end PDg_
section PDh_
set_option Elab.async false
set_option linter.all false
set_option maxRecDepth 100000
set_option maxHeartbeats 2000000
/-! PDh: defs and their calls over values. -/
namespace PD
open PySem PySem.Spec PyProof.Rows L2

/-- room, and no repr is on its way -/
structure RoomG (k : Nat) (A : Around) : Prop where
  room : Room k A
  gd : A.guards = some []
theorem RoomG.mono {j k : Nat} {A : Around} (r : RoomG k A) (h : j ≤ k) : RoomG j A := ⟨r.room.mono h, r.gd⟩
theorem RoomG.deeper {k : Nat} {A : Around} (r : RoomG (k + 1) A) (env : PySem.Env) : RoomG k (A.deeper env) := ⟨r.room.deeper env, r.gd⟩
/-- a def keeps its promise, wherever no repr is on its way -/
structure FnG (P : Program) (w : World) (K : Fr) (mg : Str → Option Value) (base : Heap) (k : Nat) (f : Addr) (fd : FuncData) (ps : List Str) (sp : L2.Sp) : Prop where
  len : ∀ vs H Q E, sp vs H Q E → vs.length = ps.length
  run : ∀ (A : Around) (outer : List PySem.Env) (s : Shared) (H : Hp) (args : Args) (us : List Value) (vs : List V) (Q : VK) (E : XK), RoomG k A → Env0 P w K mg base A outer s H → BindsTo s fd args (ps.zip us) → Vals vs us → sp vs H Q E →
    codeAny (model P w) A (.call (.ref f) args) (CR (L2.CX P w) outer P w H s Q E) s
theorem FnG.mono {P : Program} {w : World} {K : Fr} {mg : Str → Option Value} {base : Heap} {j k : Nat} {f : Addr} {fd : FuncData} {ps : List Str} {sp : L2.Sp} (F : FnG P w K mg base j f fd ps sp) (h : j ≤ k) : FnG P w K mg base k f fd ps sp :=
  ⟨F.len, fun A outer s H args us vs Q E hr => F.run A outer s H args us vs Q E (hr.mono h)⟩
theorem FnG.imp {P : Program} {w : World} {K : Fr} {mg : Str → Option Value} {base : Heap} {k : Nat} {f : Addr} {fd : FuncData} {ps : List Str} {sp sp' : L2.Sp} (F : FnG P w K mg base k f fd ps sp) (h : ∀ vs H Q E, sp' vs H Q E → sp vs H Q E) : FnG P w K mg base k f fd ps sp' :=
  ⟨fun vs H Q E q => F.len vs H Q E (h _ _ _ _ q), fun A outer s H args us vs Q E hr he hb hv hs => F.run A outer s H args us vs Q E hr he hb hv (h _ _ _ _ hs)⟩
/-- a def of the text by its body -/
theorem fnG_of {P : Program} {w : World} {K : Fr} {mg : Str → Option Value} {base : Heap} {k : Nat} {f : Addr} {fd : FuncData} {x qual : Str} {params : Arguments} {body : List Stmt} {scope : Scope} {dvs : List V} {kws : List (Str × V)} {N ps : List Str} {sp : L2.Sp}
    (F : FunD K x qual params body scope dvs kws f fd) (S : FnScope N ps scope) (len : ∀ vs H Q E, sp vs H Q E → vs.length = ps.length)
    (hbody : ∀ (cdv : Value) (A : Around) (outer : List PySem.Env) (s : Shared) (H : Hp) (vs : List V) (Q : VK) (E : XK), RoomG k (A.deeper (envOfC qual scope s.heap.objs.size f cdv)) → sp vs H Q E →
      ∃ t, PSs (cxOf (L2.CX P w) P w K mg base N qual scope f cdv A outer s H E) body t ∧ t { nx := fun _ H' => Q .non H', rt := Q } (L2.start N vs) H) : FnG P w K mg base (k + 1) f fd ps sp := by
  obtain ⟨oc, od, dV, kV, doc, pm, an, cdv, ct, osl, rfl, lk, hcd, _, _⟩ := F.ex
  refine ⟨len, fun A outer s H args us vs Q E hr e0 hb r hsp => ?_⟩
  have keepB : ∀ b o, base.get? b = some o → s.heap.get? b = some o := fun b o e => (e0.bs b o e).1
  have inK : K.In s.heap := e0.mod.kin.keeps keepB
  have noLim : s.heap.NoLimit := e0.mod.nolimit.keeps keepB
  have kinds : ∀ y ∈ ps.zip us, scope.names.lookup y.1 = some .local ∨ (scope.names.lookup y.1 = some .cell ∧ ((cellsFrom (s.heap.objs.size + 1) scope.names []).lookup y.1).isSome = true) := by
    rintro ⟨n, v⟩ hy
    rcases S.par n (List.of_mem_zip hy).1 with q | q
    · left; exact q
    · right; exact ⟨q, PySem.W.cellsFrom_some _ _ _ (.inl q)⟩
  refine codeAny_call_function hr.room.depth (inK _ _ lk) rfl S.co S.gen rfl (PySem.W.codeRec_of inK hcd) (hb _ _ _ _ ?_)
  refine wpAny_newFunctionEnv_cells S.kind kinds fun env he s1 x => ?_
  subst he
  refine ⟨noLim.keeps x.toInCall.keep, codeAny_func ?_⟩
  obtain ⟨t, ht, hq⟩ := hbody cdv A outer s H vs Q E (hr.deeper _) hsp
  have I := inv_start (CX := L2.CX P w) (E := E) S hr.room.hd e0 (len _ _ _ _ hsp) r x
  refine wpAny_mono (ht.run [] s1 (L2.start N vs) H _ I hq) (fun fl s' hs => ?_) (fun e s' hs => hs)
  cases fl with
  | next => obtain ⟨σ', H', J, q⟩ := hs; exact ⟨.non, H', J.os, J.bare, J.base, J.hok, rfl, q⟩
  | ret u => obtain ⟨v, σ', H', J, rv, q⟩ := hs; exact ⟨v, H', J.os, J.bare, J.base, J.hok, rv, q⟩
  | brk => obtain ⟨_, _, _, q⟩ := hs; exact q.elim
  | cont => obtain ⟨_, _, _, q⟩ := hs; exact q.elim

/-! ### promises over values -/
def spD (K : Fr) (mg : Str → Option Value) (sp : PD.Sp) : L2.Sp := fun vs H Q E => ∃ (B : Hp) (as : List Sl) (R : Ret → List Sl → Prop) (Ex : EK), (∀ s ∈ as, ∀ xs, s ≠ .own xs) ∧ (∀ s ∈ as, ∀ xs, s ≠ .tab xs) ∧ Rel K B H as (vs.map some) ∧ sp as R Ex ∧
  (∀ r as' v B' H', R r as' → Post K B H as (vs.map some) B' H' as' (vs.map some) → RetOk K B' H' as' (vs.map some) r v → New H as (vs.map some) r v → Q v H') ∧
  (∀ x as' cls dd B' H', Ex x as' → Post K B H as (vs.map some) B' H' as' (vs.map some) → (∃ C, mg x.cls = some (.ref C) ∧ cls = .ref C ∧ match x.fld with
    | none => True
    | some (f, y) => ∃ dx v, dd = some dx ∧ H' dx = some (.xd [(f, v)]) ∧ Rp K B' v y) → E cls dd H')
/-- the number of values that a promise is of -/
def Ary (sp : PD.Sp) (n : Nat) : Prop := ∀ as R Ex, sp as R Ex → as.length = n
theorem spD_len {K : Fr} {mg : Str → Option Value} {sp : PD.Sp} {ps : List Str} (h : Ary sp ps.length) : ∀ vs H Q E, spD K mg sp vs H Q E → vs.length = ps.length := by
  rintro vs H Q E ⟨B, as, R, Ex, _, _, rel, hsp, _⟩
  have hl := h _ _ _ hsp
  have := rel.len
  rw [List.length_map] at this
  omega
section
variable {K : Fr} {B H B1 H1 : Hp} {as env1 : Env} {vs : List V} {N : List Str} {σ1 : St} {n : Nat}
theorem start_at (N : List Str) (vs : List V) (j : Nat) : (L2.start N vs)[j]? = if j < vs.length then (vs[j]?).map some else (List.replicate (N.length - vs.length) none)[j - vs.length]? := by
  unfold L2.start
  rw [List.getElem?_append, List.length_map]
  split <;> simp
theorem start_some {j : Nat} {v : V} (h : (L2.start N vs)[j]? = some (some v)) : vs[j]? = some v := by
  rw [start_at] at h
  split at h
  · cases q : vs[j]? with
    | none => rw [q] at h; cases h
    | some u => rw [q] at h; simp at h; rw [h]
  · rw [List.getElem?_replicate] at h
    split at h <;> cases h
theorem un_at {m : Nat} {j : Nat} {s : Sl} (h : (as ++ List.replicate m Sl.un)[j]? = some s) : as[j]? = some s ∨ s = .un := by
  rw [List.getElem?_append] at h
  split at h
  · exact .inl h
  · rw [List.getElem?_replicate] at h
    split at h
    · cases h; exact .inr rfl
    · cases h
theorem map_some_at {j : Nat} {o : Option V} (h : (vs.map some)[j]? = some o) : ∃ v, vs[j]? = some v ∧ o = some v := by
  rw [List.getElem?_map] at h
  cases q : vs[j]? with
  | none => rw [q] at h; cases h
  | some u => rw [q] at h; simp at h; exact ⟨u, rfl, h.symm⟩
theorem Rel.start (R : Rel K B H as (vs.map some)) (hn : vs.length ≤ N.length) : Rel K B H (as ++ List.replicate (N.length - as.length) .un) (L2.start N vs) := by
  have hl : as.length = vs.length := by have := R.len; rwa [List.length_map] at this
  have up : ∀ (j : Nat) v, vs[j]? = some v → (vs.map some)[j]? = some (some v) := fun j v h => by rw [List.getElem?_map, h]; rfl
  refine ⟨R.ex, ?_, fun j s o h1 h2 => ?_, fun j j' l ne h1 h2 h3 h4 => ?_⟩
  · unfold L2.start
    rw [List.length_append, List.length_append, List.length_replicate, List.length_replicate, List.length_map]; omega
  · rcases un_at h1 with h | rfl
    · have hj : j < vs.length := by rw [← hl]; exact (List.getElem?_eq_some_iff.mp h).1
      rw [start_at, if_pos hj] at h2
      rw [List.getElem?_eq_getElem hj] at h2
      simp at h2
      subst h2
      exact R.ok j s _ h (up j _ (List.getElem?_eq_getElem hj))
    · trivial
  · obtain ⟨s1, e1, w1⟩ := owns_some h1
    obtain ⟨s2, e2, w2⟩ := owns_some h2
    rcases un_at e1 with f1 | rfl
    · rcases un_at e2 with f2 | rfl
      · exact R.sep j j' l ne (by rw [f1]; exact w1) (by rw [f2]; exact w2) (up j _ (start_some h3)) (up j' _ (start_some h4))
      · simp [owns] at w2
    · simp [owns] at w1
theorem own_start {a : Addr} {m : Nat} (h : Own (as ++ List.replicate m .un) (L2.start N vs) a) : Own as (vs.map some) a := by
  obtain ⟨j, h1, h2⟩ := h
  obtain ⟨s1, e1, w1⟩ := owns_some h1
  rcases un_at e1 with f1 | rfl
  · exact ⟨j, by rw [f1]; exact w1, by rw [List.getElem?_map, start_some h2]; rfl⟩
  · simp [owns] at w1
theorem ownF_start {a : Addr} {m : Nat} (h : OwnF (as ++ List.replicate m .un) (L2.start N vs) a) : OwnF as (vs.map some) a := by
  obtain ⟨j, h1, h2⟩ := h
  obtain ⟨s1, e1, w1⟩ := ownsF_some h1
  rcases un_at e1 with f1 | rfl
  · exact ⟨j, by rw [f1]; exact w1, by rw [List.getElem?_map, start_some h2]; rfl⟩
  · simp [ownsF] at w1
theorem pars_len : ∀ (n : Nat) (env : Env), (pars n env).length = n
  | 0, _ => rfl
  | n + 1, _ :: r => by simp [pars, pars_len n r]
  | n + 1, [] => by simp [pars, pars_len n []]
theorem pars_at : ∀ {n : Nat} {env1 : Env} {j : Nat} {s : Sl}, (pars n env1)[j]? = some s → owns (some s) = true → ∃ s0, env1[j]? = some s0 ∧ s = parOnly s0 ∧ j < n
  | 0, _, j, s, h, _ => by simp [pars] at h
  | n + 1, t :: r, 0, s, h, _ => by simp [pars] at h; exact ⟨t, rfl, h.symm, by omega⟩
  | n + 1, t :: r, j + 1, s, h, w => by
    simp only [pars, List.getElem?_cons_succ] at h
    obtain ⟨s0, a, b, c⟩ := pars_at h w
    exact ⟨s0, by simpa using a, b, by omega⟩
  | n + 1, [], 0, s, h, w => by simp [pars] at h; subst h; simp [owns] at w
  | n + 1, [], j + 1, s, h, w => by
    simp only [pars, List.getElem?_cons_succ] at h
    obtain ⟨s0, a, _⟩ := pars_at h w
    simp at a
theorem pars_kind : ∀ {n : Nat} {env1 : Env} {j : Nat} {s : Sl}, (pars n env1)[j]? = some s → s = .un ∨ ∃ xs, s = .par xs
  | 0, _, j, s, h => by simp [pars] at h
  | n + 1, t :: r, 0, s, h => by
    simp [pars] at h; subst h
    cases t <;> simp [parOnly]
  | n + 1, t :: r, j + 1, s, h => by simp only [pars, List.getElem?_cons_succ] at h; exact pars_kind h
  | n + 1, [], 0, s, h => by simp [pars] at h; exact .inl h.symm
  | n + 1, [], j + 1, s, h => by simp only [pars, List.getElem?_cons_succ] at h; exact pars_kind h
theorem par_of {s0 : Sl} (h : owns (some (parOnly s0)) = true) : ∃ xs, s0 = .par xs := by cases s0 <;> simp_all [parOnly, owns]
/-- the call as the caller sees it -/
theorem Post.out (hl : as.length = n) (hv : vs.length = n) (hn : n ≤ N.length) (p : Post K B H (as ++ List.replicate (N.length - as.length) .un) (L2.start N vs) B1 H1 env1 σ1) : Post K B H as (vs.map some) B1 H1 (pars n env1) (vs.map some) := by
  have len1 : env1.length = σ1.length := p.rel.len
  have parσ : ∀ (j : Nat) xs, env1[j]? = some (.par xs) → j < n → (∃ ys, as[j]? = some (.par ys)) ∧ ∃ v, vs[j]? = some v ∧ σ1[j]? = some (some v) := fun j xs h hj => by
    obtain ⟨⟨ys, h1⟩, h2⟩ := p.par j xs h
    rcases un_at h1 with f | f
    · refine ⟨⟨ys, f⟩, ?_⟩
      have hj' : j < vs.length := by omega
      rw [start_at, if_pos hj', List.getElem?_eq_getElem hj'] at h2
      exact ⟨_, List.getElem?_eq_getElem hj', h2⟩
    · cases f
  have own1 : ∀ a, Own (pars n env1) (vs.map some) a → Own env1 σ1 a ∧ Own as (vs.map some) a := fun a ⟨j, h1, h2⟩ => by
    obtain ⟨s, e1, w1⟩ := owns_some h1
    obtain ⟨s0, f, rfl, hj⟩ := pars_at e1 w1
    obtain ⟨xs, rfl⟩ := par_of w1
    obtain ⟨⟨ys, g1⟩, v, g2, g3⟩ := parσ j xs f hj
    obtain ⟨v', k1, k2⟩ := map_some_at h2
    rw [g2] at k1; cases k1; cases k2
    exact ⟨⟨j, by rw [f]; rfl, g3⟩, ⟨j, by rw [g1]; rfl, h2⟩⟩
  refine ⟨⟨p.rel.ex, ?_, fun j s o h1 h2 => ?_, fun j j' l ne h1 h2 h3 h4 => ?_⟩, ⟨p.stp.base, fun a h h' => ?_, p.stp.dom, fun a o h w => ?_⟩, fun a h => .inl (own1 a h).2, fun a ⟨j, h1, h2⟩ => ?_, fun j xs h => ?_⟩
  · rw [pars_len, List.length_map]; exact hv.symm
  · rcases pars_kind h1 with rfl | ⟨xs, rfl⟩
    · trivial
    · obtain ⟨s0, f, e, hj⟩ := pars_at h1 rfl
      cases s0 with
      | par ys =>
        cases e
        obtain ⟨_, v, g2, g3⟩ := parσ j xs f hj
        obtain ⟨v', k1, k2⟩ := map_some_at h2
        rw [g2] at k1; cases k1; subst k2
        exact p.rel.ok j _ _ f g3
      | _ => cases e
  · obtain ⟨s1, e1, w1⟩ := owns_some h1
    obtain ⟨s2, e2, w2⟩ := owns_some h2
    obtain ⟨t1, f1, rfl, hj⟩ := pars_at e1 w1
    obtain ⟨t2, f2, rfl, hj'⟩ := pars_at e2 w2
    obtain ⟨xs, rfl⟩ := par_of w1
    obtain ⟨ys, rfl⟩ := par_of w2
    obtain ⟨_, v, g2, g3⟩ := parσ j xs f1 hj
    obtain ⟨_, v2, g4, g5⟩ := parσ j' ys f2 hj'
    obtain ⟨u, k1, k2⟩ := map_some_at h3
    obtain ⟨u2, k3, k4⟩ := map_some_at h4
    rw [g2] at k1; cases k1; cases k2
    rw [g4] at k3; cases k3; cases k4
    exact p.rel.sep j j' l ne (by rw [f1]; rfl) (by rw [f2]; rfl) g3 g5
  · rcases p.stp.fresh a h h' with z | z
    · exact .inl z
    · exact .inr (ownF_start z)
  · exact p.stp.keep a o h fun z => w (own_start z)
  · obtain ⟨s1, e1, w1⟩ := ownsF_some h1
    rcases pars_kind e1 with rfl | ⟨xs, rfl⟩ <;> simp [ownsF] at w1
  · obtain ⟨s0, f, e, hj⟩ := pars_at h rfl
    cases s0 with
    | par ys => exact ⟨(parσ j ys f hj).1, rfl⟩
    | _ => cases e
theorem own_out {a : Addr} (hv : vs.length = n) (p : Post K B H (as ++ List.replicate (N.length - as.length) .un) (L2.start N vs) B1 H1 env1 σ1) (h : Own (pars n env1) (vs.map some) a) : Own env1 σ1 a := by
  obtain ⟨j, h1, h2⟩ := h
  obtain ⟨s, e1, w1⟩ := owns_some h1
  obtain ⟨s0, f, rfl, hj⟩ := pars_at e1 w1
  obtain ⟨xs, rfl⟩ := par_of w1
  obtain ⟨_, g⟩ := p.par j xs f
  obtain ⟨v, k1, k2⟩ := map_some_at h2
  cases k2
  refine ⟨j, by rw [f]; rfl, ?_⟩
  rw [g, start_at, if_pos (by omega), k1]; rfl
end
/-- the context of a body -/
abbrev bx (P : Program) (w : World) (K : Fr) (mg : Str → Option Value) (base : Heap) (N : List Str) (qual : Str) (scope : Scope) (f : Addr) (cdv : Value) (A : Around) (outer : List PySem.Env) (s : Shared) (H : Hp) (E : XK) : Cx := cxOf (L2.CX P w) P w K mg base N qual scope f cdv A outer s H E
abbrev wx (E : XK) : WX := fun cls d _ H => E cls d H
/-- a def keeps its promise over values, if its body's reading does -/
theorem fnG_body {P : Program} {w : World} {K : Fr} {mg : Str → Option Value} {base : Heap} {k n : Nat} {f : Addr} {fd : FuncData} {x qual : Str} {params : Arguments} {body : List Stmt} {scope : Scope} {dvs : List V} {kws : List (Str × V)} {N ps : List Str} {sp : PD.Sp} {t : PD.TS}
    (F : FunD K x qual params body scope dvs kws f fd) (S : FnScope N ps scope) (hn : n = ps.length) (ha : Ary sp n)
    (hbody : ∀ (cdv : Value) (A : Around) (outer : List PySem.Env) (s : Shared) (H : Hp) (E : XK), RoomG k (bx P w K mg base N qual scope f cdv A outer s H E).A → PassesOwn (model P w) (bx P w K mg base N qual scope f cdv A outer s H E).A (bx P w K mg base N qual scope f cdv A outer s H E).env (bx P w K mg base N qual scope f cdv A outer s H E).xe → Takes (bx P w K mg base N qual scope f cdv A outer s H E) (wx E) →
      PSsd (bx P w K mg base N qual scope f cdv A outer s H E) (wx E) body t)
    (hm : Meets n N.length sp t) : FnG P w K mg base (k + 1) f fd ps (spD K mg sp) := by
  refine fnG_of F S (spD_len (hn ▸ ha)) fun cdv A outer s H vs Q E hr ⟨B, as, R, Ex, no1, no2, rel, hsp, hR, hE⟩ => ?_
  have hl := ha _ _ _ hsp
  have hvl : vs.length = n := by have := rel.len; rw [List.length_map] at this; omega
  have hpl : ps.length ≤ N.length := by have := congrArg List.length S.pre; rw [List.length_take] at this; omega
  have hnN : n ≤ N.length := by omega
  refine ⟨_, hbody cdv A outer s H E hr (passes_of rfl) (takes_of rfl rfl rfl rfl), ?_⟩
  have m := hm as R Ex hl hsp
  rw [show N.length - n = N.length - as.length by omega] at m
  refine ⟨B, _, _, rel.start (by omega), m, ⟨fun env' σ' B' H' h p => ?_, fun _ _ _ _ h => h.elim, fun _ _ _ _ h => h.elim, fun r env' v σ' B' H' h p ro nw => ?_, fun x env' σ' cls dd B' H' h p ⟨C, e1, e2, e3⟩ => ?_⟩⟩
  · exact hR _ _ _ _ _ h (p.out hl hvl hnN) .non trivial
  · have no : ∀ a, ¬ Own env' σ' a → ¬ Own (pars n env') (vs.map some) a := fun a h z => h (own_out hvl p z)
    refine hR _ _ _ _ _ h (p.out hl hvl hnN) ?_ ?_
    · cases r with
      | d x => exact ro
      | own xs => obtain ⟨l, e, h1, h2⟩ := ro; exact ⟨l, e, h1, no l h2⟩
      | tab xs => obtain ⟨l, e, h1, h2⟩ := ro; exact ⟨l, e, h1, no l h2⟩
    · cases r with
      | d x => trivial
      | own xs =>
        intro l e
        rcases nw l e with z | z
        · exact .inl z
        · exact .inr (ownF_start z)
      | tab xs =>
        intro l e
        rcases nw l e with z | z
        · exact .inl z
        · exact .inr (ownF_start z)
  · exact hE _ _ _ _ _ _ h (p.out hl hvl hnN) ⟨C, e1, e2, e3⟩
end PD
end PDh_
section PDi_
set_option Elab.async false
set_option linter.all false
set_option maxRecDepth 100000
set_option maxHeartbeats 2000000
/-! PDi: calls of defs over values. -/
namespace PD
open PySem PySem.Spec PyProof.Rows L2

section
variable {X : Cx} {W : WX} {k n : Nat} {f : Addr} {fd : FuncData} {ps ks : List Str} {sp : PD.Sp} {lsp : L2.Sp} {dvs : List V} {ds : List Value} {dds : List D} {x : Str} {p pos : Pos} {e : Expr} {es : List Expr} {ta : PD.TA}
variable {K : Fr} {B H B1 H1 : Hp} {env env1 : Env} {σ : St} {E : EK} {vs : List V} {xs : List D}
theorem run_fnG {pins : List (Addr × Obj)} {s : Shared} {Q : VK} {us : List Value} {args : List Value} {kvs : List (Str × Value)} (F : FnG X.prog X.w X.K X.mg X.base k f fd ps lsp) (hr : RoomG k X.A) (tk : Takes X W) (I : Inv X pins σ H s) (r : Vals vs us)
    (hb : BindsTo s fd ⟨args, kvs⟩ (ps.zip us)) (h : lsp vs H Q (WE W σ)) : wpAny (model X.prog X.w) X.A (call (.ref f) args kvs) (EP X pins σ Q) X.xe s := by
  refine wpAny_call (codeAny_mono (F.run X.A X.stack s H ⟨args, kvs⟩ us vs Q (WE W σ) hr I.env0 hb r h) fun r s' hq => ?_)
  cases r with
  | error e => exact passAt tk σ pins H s e s' I hq
  | ok fl =>
    cases fl with
    | ret u => exact I.after hq
    | next => exact False.elim hq
    | brk => exact False.elim hq
    | cont => exact False.elim hq
/-- f(e, ..) by the promise of its body -/
theorem pe_callG (F : FnG X.prog X.w X.K X.mg X.base k f fd ps lsp) (hr : RoomG k X.A) (tk : Takes X W) (hg : Gl X x) (hm : X.mg x = some (.ref f)) (hk : PySem.W.keepIn X.K (.ref f) = true) (hb : Binds X.K fd ps ds) (hd : Vals dvs ds) {t : L2.TA}
    (ha : PA X (e :: es) t) (hdb : (x == ("__debug__" : Str)) = false := by decide) (he : starEach (e :: es) X.env = (false, eval e X.env) :: starEach es X.env := by rfl) (hpl : (backTo pos (starEach es X.env)).any (·.1) = false := by rfl) :
    PE X (.Call (.Name x p) (e :: es) [] pos) (tCallSD lsp dvs (WE W) t) := by
  refine ⟨fun pins s σ H Q I h => ?_⟩
  refine wpAny_Call_Name_kw (ld_glob I hg hm ?_ hdb)
  refine PySem.W.callWith_K (h₀ := X.base) I.ok.mod.kin hk (thn (ha.run pos pins s σ H _ I h) fun us s1 ⟨vs, H1, I1, r, q⟩ => ⟨I1.kIn, ?_⟩) he hpl
  have r2 : Vals (vs ++ dvs) (us ++ ds) := r.append hd
  have hl : (us ++ ds).length = ps.length := by rw [← r2.length]; exact F.len _ _ _ _ q
  exact run_fnG F hr tk I1 r2 (hb s1 us I1.kIn hl) q
theorem pe_callG0 (F : FnG X.prog X.w X.K X.mg X.base k f fd ps lsp) (hr : RoomG k X.A) (tk : Takes X W) (hg : Gl X x) (hm : X.mg x = some (.ref f)) (hk : PySem.W.keepIn X.K (.ref f) = true) (hb : Binds X.K fd ps ds) (hd : Vals dvs ds) (hdb : (x == ("__debug__" : Str)) = false := by decide) :
    PE X (.Call (.Name x p) [] [] pos) (tCallSD lsp dvs (WE W) tNil) := by
  refine ⟨fun pins s σ H Q I h => ?_⟩
  refine wpAny_Call_Name_kw (ld_glob I hg hm ?_ hdb)
  have q : lsp ([] ++ dvs) H Q (WE W σ) := h
  have r2 : Vals ([] ++ dvs) ([] ++ ds) := Vals.append .nil hd
  have hl : ([] ++ ds).length = ps.length := by rw [← r2.length]; exact F.len _ _ _ _ q
  exact PySem.W.callWith_K0 I.kIn hk (run_fnG F hr tk I r2 (hb s [] I.kIn hl) q)
/-- f(e, .., k = v, ..) -/
theorem pe_callGK {kws : List Keyword} {t tk' : L2.TA} {g : List Value → List Value → List Value} {gV : List V → List V → List V} (F : FnG X.prog X.w X.K X.mg X.base k f fd ps lsp) (hr : RoomG k X.A) (tk : Takes X W) (hg : Gl X x) (hm : X.mg x = some (.ref f)) (hk : PySem.W.keepIn X.K (.ref f) = true) (hb : KBinds X.K fd ps ks g gV)
    (ha : PA X (e :: es) t) (hkw : PK X kws tk') (hall : (backToKw pos (keywordEach kws X.env)).all (·.1.isSome) = true := by rfl) (hks : (backToKw pos (keywordEach kws X.env)).filterMap (·.1) = ks := by rfl)
    (hdb : (x == ("__debug__" : Str)) = false := by decide) (he : starEach (e :: es) X.env = (false, eval e X.env) :: starEach es X.env := by rfl)
    (hpl : ((backTo pos (starEach (e :: es) X.env)).any (·.1) || (backToKw pos (keywordEach kws X.env)).any (·.1.isNone)) = false := by rfl) :
    PE X (.Call (.Name x p) (e :: es) kws pos) (fun σ H Q => t σ H fun vs H1 => tk' σ H1 fun zs H2 => lsp (gV vs zs) H2 Q (WE W σ)) := by
  refine ⟨fun pins s σ H Q I h => ?_⟩
  refine wpAny_Call_Name_kw (ld_glob I hg hm ?_ hdb)
  refine PySem.W.callWith_KW (h₀ := X.base) I.ok.mod.kin hk hall (thn (ha.run pos pins s σ H _ I h) fun us s1 ⟨vs, H1, I1, r, q⟩ => ?_) hpl he
  refine thn (hkw.run pos pins s1 σ H1 _ I1 q) fun ws s2 ⟨zs, H2, I2, rz, q2⟩ => ⟨I2.kIn, ?_⟩
  rw [hks]
  have r2 := hb.rel r rz
  have hl : (g us ws).length = ps.length := by rw [← r2.length]; exact F.len _ _ _ _ q2
  exact run_fnG F hr tk I2 r2 (hb.to s2 us ws I2.kIn hl) q2

theorem RpA.rel (R : Rel K B H env σ) (h : RpA K B vs xs) : Rel K B H (xs.map .d) (vs.map some) := by
  have no : ∀ (j : Nat) , owns ((xs.map Sl.d)[j]?) = false := fun j => by
    rw [List.getElem?_map]
    cases xs[j]? <;> rfl
  refine ⟨R.ex, by rw [List.length_map, List.length_map, h.length], fun j s o h1 h2 => ?_, fun j j' l _ h1 => ?_⟩
  · rw [List.getElem?_map] at h1 h2
    cases q : xs[j]? with
    | none => rw [q] at h1; cases h1
    | some y =>
      obtain ⟨v, e1, e2⟩ := h.get q
      rw [q] at h1; rw [e1] at h2
      cases h1; cases h2
      exact ⟨v, rfl, e2⟩
  · rw [no j] at h1; cases h1
theorem no_own {a : Addr} : ¬ Own (xs.map .d) (vs.map some) a := fun ⟨j, h1, _⟩ => by
  rw [List.getElem?_map] at h1
  cases q : xs[j]? <;> rw [q] at h1 <;> cases h1
theorem no_ownF {a : Addr} : ¬ OwnF (xs.map .d) (vs.map some) a := fun ⟨j, h1, _⟩ => by
  rw [List.getElem?_map] at h1
  cases q : xs[j]? <;> rw [q] at h1 <;> cases h1
/-- a call with values alone, as the caller sees it -/
theorem spD_call {P : Ret → Env → Prop} {Q : VK} (R : Rel X.K B H env σ) (rv : RpA X.K B vs xs) (h : sp (xs.map .d) (fun r _ => P r env) (fun x _ => E x env)) (g : Good X W B H env σ E)
    (k : ∀ r env' v B' H', P r env' → Post X.K B H env σ B' H' env' σ → RetOk X.K B' H' env' σ r v → New H env σ r v → Q v H') : spD X.K X.mg sp vs H Q (WE W σ) := by
  have st0 : ∀ {as' : List Sl} {B' H' : Hp}, Post X.K B H (xs.map .d) (vs.map some) B' H' as' (vs.map some) → Stp0 B H B' H' := fun p =>
    ⟨p.stp.base, fun a o e => p.stp.keep a o e no_own, p.rel.ex, fun a h0 h1 => (p.stp.fresh a h0 h1).resolve_right no_ownF⟩
  refine ⟨B, xs.map .d, _, _, fun s hs ys e => ?_, fun s hs ys e => ?_, rv.rel R, h, fun r as' v B' H' p q ro nw => ?_, fun y as' cls dd B' H' p q ex => ?_⟩
  · subst e; obtain ⟨_, _, z⟩ := List.mem_map.mp hs; cases z
  · subst e; obtain ⟨_, _, z⟩ := List.mem_map.mp hs; cases z
  · have s0 := st0 q
    refine k r env v B' H' p (.of0 R s0) ?_ ?_
    · cases r with
      | d y => exact ro
      | own ys => obtain ⟨l, e1, e2, _⟩ := ro; exact ⟨l, e1, e2, R.notOwn ((nw l e1).resolve_right no_ownF)⟩
      | tab ys => obtain ⟨l, e1, e2, _⟩ := ro; exact ⟨l, e1, e2, R.notOwn ((nw l e1).resolve_right no_ownF)⟩
    · cases r with
      | d y => trivial
      | own ys => exact fun l e => .inl ((nw l e).resolve_right no_ownF)
      | tab ys => exact fun l e => .inl ((nw l e).resolve_right no_ownF)
  · exact g _ _ _ _ _ _ p (.of0 R (st0 q)) ex
theorem pr_call (F : FnG X.prog X.w X.K X.mg X.base k f fd ps (spD X.K X.mg sp)) (hr : RoomG k X.A) (tk : Takes X W) (hg : Gl X x) (hm : X.mg x = some (.ref f)) (hk : PySem.W.keepIn X.K (.ref f) = true) (hb : Binds X.K fd ps ds) (hd : Vals dvs ds) (hdd : ∀ B, RpA X.K B dvs dds)
    (ha : PAd X W (e :: es) ta) (hdb : (x == ("__debug__" : Str)) = false := by decide) (he : starEach (e :: es) X.env = (false, eval e X.env) :: starEach es X.env := by rfl) (hpl : (backTo pos (starEach es X.env)).any (·.1) = false := by rfl) :
    PR X W (.Call (.Name x p) (e :: es) [] pos) (rCall sp dds ta) := pe_imp (pe_callG F hr tk hg hm hk hb hd ha hdb he hpl) fun σ H Q ⟨B, env, E, P, R, t, g, k⟩ =>
  ⟨B, env, E, _, R, t, g, fun xs e1 vs B1 H1 p q rv => spD_call q.rel (rv.append (hdd B1)) p (g.trans q) fun r e2 v B2 H2 p2 q2 ro nw => k r e2 v B2 H2 p2 (q.trans q2) ro (New.transS q nw)⟩
theorem pr_call0 (F : FnG X.prog X.w X.K X.mg X.base k f fd ps (spD X.K X.mg sp)) (hr : RoomG k X.A) (tk : Takes X W) (hg : Gl X x) (hm : X.mg x = some (.ref f)) (hk : PySem.W.keepIn X.K (.ref f) = true) (hb : Binds X.K fd ps ds) (hd : Vals dvs ds) (hdd : ∀ B, RpA X.K B dvs dds)
    (hdb : (x == ("__debug__" : Str)) = false := by decide) : PR X W (.Call (.Name x p) [] [] pos) (rCall sp dds aNil) := pe_imp (pe_callG0 F hr tk hg hm hk hb hd hdb) fun σ H Q ⟨B, env, E, P, R, t, g, k⟩ =>
  spD_call (vs := [] ++ dvs) (xs := [] ++ dds) R (RpA.append .nil (hdd B)) t g k
/-! keywords -/
abbrev PKd (X : Cx) (W : WX) (kws : List Keyword) (t : PD.TA) : Prop := PK X kws (rdA X W t)
theorem pk_imp {kws : List Keyword} {t t' : L2.TA} (h : PK X kws t) (i : ∀ σ H Q, t' σ H Q → t σ H Q) : PK X kws t' := ⟨fun pos pins s σ H Q I q => h.run pos pins s σ H Q I (i σ H Q q)⟩
theorem pkd_nil : PKd X W [] aNil := pk_imp pk_nil fun σ H Q ⟨B, env, E, P, R, h, g, k⟩ => k _ _ _ _ _ h (.refl R) .nil
theorem pkd_cons {te : TR} {a : Expr} {kws : List Keyword} {nm : Option Str} {kpos : Pos} (h1 : PR X W a te) (h2 : PKd X W kws ta) : PKd X W (⟨nm, a, kpos⟩ :: kws) (aCons te ta) :=
  pk_imp (pk_cons h1 h2) fun σ H Q ⟨B, env, E, P, R, h, g, k⟩ => rd_fz R h g fun x e1 v B1 H1 p1 q1 r1 =>
    ⟨B1, e1, E, _, q1.rel, p1, g.trans q1, fun xs e2 vs B2 H2 p2 q2 r2 => k _ _ _ _ _ p2 (q1.trans q2) (.cons (r1.mono q2.stp.base) r2)⟩
theorem pr_callK {kws : List Keyword} {tb : PD.TA} {g : List Value → List Value → List Value} {gV : List V → List V → List V} {gD : List D → List D → List D} (F : FnG X.prog X.w X.K X.mg X.base k f fd ps (spD X.K X.mg sp)) (hr : RoomG k X.A) (tk : Takes X W) (hg : Gl X x) (hm : X.mg x = some (.ref f)) (hk : PySem.W.keepIn X.K (.ref f) = true) (hb : KBinds X.K fd ps ks g gV)
    (hD : ∀ B vs xs zs ys, RpA X.K B vs xs → RpA X.K B zs ys → RpA X.K B (gV vs zs) (gD xs ys))
    (ha : PAd X W (e :: es) ta) (hkw : PKd X W kws tb) (hall : (backToKw pos (keywordEach kws X.env)).all (·.1.isSome) = true := by rfl) (hks : (backToKw pos (keywordEach kws X.env)).filterMap (·.1) = ks := by rfl)
    (hdb : (x == ("__debug__" : Str)) = false := by decide) (he : starEach (e :: es) X.env = (false, eval e X.env) :: starEach es X.env := by rfl)
    (hpl : ((backTo pos (starEach (e :: es) X.env)).any (·.1) || (backToKw pos (keywordEach kws X.env)).any (·.1.isNone)) = false := by rfl) :
    PR X W (.Call (.Name x p) (e :: es) kws pos) (rCallK sp gD ta tb) := pe_imp (pe_callGK F hr tk hg hm hk hb ha hkw hall hks hdb he hpl) fun σ H Q ⟨B, env, E, P, R, t, g, k⟩ =>
  ⟨B, env, E, _, R, t, g, fun xs e1 vs B1 H1 p q rv => ⟨B1, e1, E, _, q.rel, p, g.trans q, fun ys e2 zs B2 H2 p2 q2 rz =>
    have q3 := q.trans q2
    spD_call q2.rel (hD _ _ _ _ _ (rv.mono q2.stp.base) rz) p2 (g.trans q3) fun r e3 v B3 H3 p3 q4 ro nw => k r e3 v B3 H3 p3 (q3.trans q4) ro (New.transS q3 nw)⟩⟩
/-! a lent list -/
theorem Post.lent {s : Sl} {xs zs : List D} {i : Nat} {l : Addr} {as as' : List Sl} {vs : List V} {B2 H2 : Hp} (R : Rel K B H env σ) (hs : env[i]? = some s) (ho : ownOf s = some xs) (hσ : σ[i]? = some (some (.ref l)))
    (own1 : ∀ a, Own as (vs.map some) a → a = l) (own2 : ∀ a, ¬ OwnF as (vs.map some) a) (q : Post K B H as (vs.map some) B2 H2 as' (vs.map some)) (hl : B2 l = none ∧ ∃ us, H2 l = some (.lst us) ∧ RpA K B2 us zs) :
    Post K B H env σ B2 H2 (env.set i (s.put zs)) σ := by
  have ow : owns (some s) = true := by cases s <;> simp_all [ownOf, owns]
  have own_l : Own env σ l := ⟨i, by rw [hs]; exact ow, hσ⟩
  have hpF : ownsF (some (s.put zs)) = ownsF (some s) := by cases s <;> simp_all [ownOf, ownsF, Sl.put]
  have sub : ∀ a, Own (env.set i (s.put zs)) σ a → Own env σ a := fun a ⟨j, h1, h2⟩ => by
    obtain ⟨s', e1, w1⟩ := owns_some h1
    rcases set_at e1 with ⟨e, _, _⟩ | ⟨_, e1⟩
    · subst e; rw [hσ] at h2; cases h2; exact own_l
    · exact ⟨j, by rw [e1]; exact w1, h2⟩
  refine ⟨⟨q.rel.ex, by rw [List.length_set]; exact R.len, fun j s' o h1 h2 => ?_, fun j j' l' ne h1 h2 h3 h4 => ?_⟩, ⟨q.stp.base, fun a h h' => .inl ((q.stp.fresh a h h').resolve_right (own2 a)), q.stp.dom, fun a o h hn => q.stp.keep a o h fun z => hn (own1 a z ▸ own_l)⟩, fun a h => .inl (sub a h), fun a ⟨j, h1, h2⟩ => ?_, fun j xs' h => ?_⟩
  · rcases set_at h1 with ⟨e, rfl, _⟩ | ⟨e, h1⟩
    · subst e; rw [hσ] at h2; cases h2
      obtain ⟨b2, us, hv, rr⟩ := hl
      cases s with
      | own _ => exact ⟨l, rfl, b2, us, hv, rr⟩
      | par _ => exact ⟨l, rfl, b2, us, hv, rr⟩
      | un => simp [ownOf] at ho
      | d _ => simp [ownOf] at ho
      | tab _ => simp [ownOf] at ho
    · refine (R.ok j s' o h1 h2).keep q.stp.base fun l' w e' => ?_
      have ne : l' ≠ l := fun z => R.sep i j l e (by rw [hs]; exact ow) (by rw [h1]; exact w) hσ (by rw [h2, e', z])
      obtain ⟨b0, h0⟩ := R.obj ⟨j, by rw [h1]; exact w, by rw [h2, e']⟩
      refine ⟨?_, ?_⟩
      · cases z : B2 l' with
        | none => rfl
        | some u => exact absurd ((q.stp.fresh l' b0 (by rw [z]; simp)).resolve_right (own2 l')) h0
      · obtain ⟨u, hu⟩ := Option.ne_none_iff_exists'.mp h0
        rw [hu]
        exact q.stp.keep l' u hu fun z => ne (own1 l' z)
  · obtain ⟨s1, e1, w1⟩ := owns_some h1
    obtain ⟨s2, e2, w2⟩ := owns_some h2
    have up : ∀ (j : Nat) s', (env.set i (s.put zs))[j]? = some s' → owns (some s') = true → owns env[j]? = true := fun j s' h w => by
      rcases set_at h with ⟨e, _, _⟩ | ⟨_, h⟩
      · subst e; rw [hs]; exact ow
      · rw [h]; exact w
    exact R.sep j j' l' ne (up j s1 e1 w1) (up j' s2 e2 w2) h3 h4
  · obtain ⟨s1, e1, w1⟩ := ownsF_some h1
    rcases set_at e1 with ⟨e, rfl, _⟩ | ⟨_, e1⟩
    · subst e; rw [hpF] at w1; exact .inl ⟨i, by rw [hs]; exact w1, h2⟩
    · exact .inl ⟨j, by rw [e1]; exact w1, h2⟩
  · rcases set_at h with ⟨e, z, _⟩ | ⟨_, h⟩
    · subst e
      cases s with
      | par ws => exact ⟨⟨ws, hs⟩, rfl⟩
      | own _ => cases z
      | un => simp [ownOf] at ho
      | d _ => simp [ownOf] at ho
      | tab _ => simp [ownOf] at ho
    · exact ⟨⟨xs', h⟩, rfl⟩
theorem pr_callP {o : Expr} {i : Nat} (F : FnG X.prog X.w X.K X.mg X.base k f fd ps (spD X.K X.mg sp)) (hr : RoomG k X.A) (tk : Takes X W) (hg : Gl X x) (hm : X.mg x = some (.ref f)) (hk : PySem.W.keepIn X.K (.ref f) = true) (hb : Binds X.K fd ps ds) (hd : Vals dvs ds) (hdd : ∀ B, RpA X.K B dvs dds)
    (ho : PE X o (tVar i)) (ha : PAd X W es ta) (hdb : (x == ("__debug__" : Str)) = false := by decide) (he : starEach (o :: es) X.env = (false, eval o X.env) :: starEach es X.env := by rfl) (hpl : (backTo pos (starEach es X.env)).any (·.1) = false := by rfl) :
    PR X W (.Call (.Name x p) (o :: es) [] pos) (rCallP sp i dds ta) := pe_imp (pe_callG F hr tk hg hm hk hb hd (pa_cons ho ha he) hdb he hpl) fun σ H Q ⟨B, env, E, P, R, ⟨⟨s0, xs0, hs0, ho0⟩, t⟩, g, k⟩ => by
  obtain ⟨l, vs0, el, hl, _⟩ := R.own_at hs0 ho0
  refine ⟨.ref l, el, ⟨B, env, E, _, R, t, g, fun xs e1 vs B1 H1 ⟨s, ys, hs, hy, p⟩ q rv => ?_⟩⟩
  have rv2 := rv.append (hdd B1)
  obtain ⟨l', vs1, el', hl1, rr1⟩ := q.rel.own_at hs hy
  rw [el] at el'; cases el'
  have ow : owns (some s) = true := by cases s <;> simp_all [ownOf, owns]
  have own_l : Own e1 σ l := ⟨i, by rw [hs]; exact ow, el⟩
  have b1 := (q.rel.obj own_l).1
  generalize hxs : xs ++ dds = zs at p rv2
  generalize hvs : vs ++ dvs = us at rv2
  have e2 : (V.ref l :: vs) ++ dvs = V.ref l :: us := by rw [← hvs]; rfl
  show spD X.K X.mg sp ((V.ref l :: vs) ++ dvs) H1 Q (WE W σ)
  rw [e2]
  have at_ : ∀ j s', (Sl.par ys :: zs.map Sl.d)[j]? = some s' → owns (some s') = true → j = 0 := fun j s' h w => by
    cases j with
    | zero => rfl
    | succ j =>
      rw [List.getElem?_cons_succ, List.getElem?_map] at h
      cases z : zs[j]? <;> rw [z] at h <;> cases h
      cases w
  have rel2 : Rel X.K B1 H1 (Sl.par ys :: zs.map Sl.d) ((V.ref l :: us).map some) := by
    refine ⟨q.rel.ex, by simp [rv2.length], fun j s' o h1 h2 => ?_, fun j j' l' ne h1 h2 _ _ => ?_⟩
    · cases j with
      | zero => simp at h1 h2; subst h1 h2; exact ⟨l, rfl, b1, vs1, hl1, rr1⟩
      | succ j => exact (rv2.rel q.rel).ok j s' o (by simpa using h1) (by simpa using h2)
    · obtain ⟨s1, f1, w1⟩ := owns_some h1
      obtain ⟨s2, f2, w2⟩ := owns_some h2
      rw [at_ j s1 f1 w1, at_ j' s2 f2 w2] at ne
      exact ne rfl
  have own1 : ∀ a, Own (Sl.par ys :: zs.map Sl.d) ((V.ref l :: us).map some) a → a = l := fun a ⟨j, h1, h2⟩ => by
    obtain ⟨s1, f1, w1⟩ := owns_some h1
    have := at_ j s1 f1 w1
    subst this
    simp at h2; exact h2.symm
  have own2 : ∀ a, ¬ OwnF (Sl.par ys :: zs.map Sl.d) ((V.ref l :: us).map some) a := fun a ⟨j, h1, h2⟩ => by
    obtain ⟨s1, f1, w1⟩ := ownsF_some h1
    have w2 : owns (some s1) = true := by cases s1 <;> simp_all [owns, ownsF]
    have := at_ j s1 f1 w2
    subst this
    simp at f1; subst f1; cases w1
  have lst_ : ∀ {as' : List Sl} {B2 H2 : Hp} {ws : List D}, Post X.K B1 H1 (Sl.par ys :: zs.map Sl.d) ((V.ref l :: us).map some) B2 H2 as' ((V.ref l :: us).map some) → as'.head? = some (.par ws) → B2 l = none ∧ ∃ us, H2 l = some (.lst us) ∧ RpA X.K B2 us ws := fun {as' B2 H2 ws} q2 hh => by
    have h0 : as'[0]? = some (.par ws) := by rw [← List.head?_eq_getElem?]; exact hh
    obtain ⟨l2, e3, b3, us2, h3, r3⟩ := q2.rel.ok 0 _ (some (V.ref l)) h0 (by simp)
    cases e3
    exact ⟨b3, us2, h3, r3⟩
  refine ⟨B1, _, _, _, fun s' hs' ws e => ?_, fun s' hs' ws e => ?_, rel2, p, fun r as' v B2 H2 ⟨ws, hh, p2⟩ q2 ro nw => ?_, fun y as' cls dd B2 H2 ⟨ws, hh, p2⟩ q2 ex => ?_⟩
  · subst e
    rcases List.mem_cons.mp hs' with z | z
    · cases z
    · obtain ⟨_, _, z⟩ := List.mem_map.mp z; cases z
  · subst e
    rcases List.mem_cons.mp hs' with z | z
    · cases z
    · obtain ⟨_, _, z⟩ := List.mem_map.mp z; cases z
  · have q3 := Post.lent q.rel hs hy el own1 own2 q2 (lst_ q2 hh)
    refine k r _ v B2 H2 p2 (q.trans q3) ?_ (New.transS q ?_)
    · have no : ∀ l', (H1 l' = none ∨ OwnF (Sl.par ys :: zs.map Sl.d) ((V.ref l :: us).map some) l') → ¬ Own (e1.set i (s.put ws)) σ l' := fun l' n z => by
        have n := n.resolve_right (own2 l')
        rcases q3.own l' z with z | z
        · exact (q.rel.obj z).2 n
        · obtain ⟨j, h1, h2⟩ := ‹Own (e1.set i (s.put ws)) σ l'›
          obtain ⟨s1, f1, w1⟩ := owns_some h1
          rcases set_at f1 with ⟨e, _, _⟩ | ⟨_, f1⟩
          · subst e; rw [el] at h2; cases h2; rw [hl1] at n; cases n
          · exact (q.rel.obj ⟨j, by rw [f1]; exact w1, h2⟩).2 n
      cases r with
      | d y => exact ro
      | own ys' => obtain ⟨l', e3, e4, _⟩ := ro; exact ⟨l', e3, e4, no l' (nw l' e3)⟩
      | tab ys' => obtain ⟨l', e3, e4, _⟩ := ro; exact ⟨l', e3, e4, no l' (nw l' e3)⟩
    · cases r with
      | d y => trivial
      | own ys' => exact fun l' e => .inl ((nw l' e).resolve_right (own2 l'))
      | tab ys' => exact fun l' e => .inl ((nw l' e).resolve_right (own2 l'))
  · have q3 := Post.lent q.rel hs hy el own1 own2 q2 (lst_ q2 hh)
    exact g _ _ _ _ _ _ p2 (q.trans q3) ex
end
end PD
end PDi_
section PDj_
set_option Elab.async false
set_option linter.all false
set_option maxRecDepth 100000
set_option maxHeartbeats 2000000
/-! PDj: the operations over values. -/
namespace PD
open PySem PySem.Spec PyProof.Rows L2

section
variable {X : Cx} {W : WX} {B H B1 H1 : Hp}
/-! ### small tools -/
theorem rp_int {K : Fr} {v : V} {i : Int} (h : Rp K B v (.int i)) : v = .int i := by cases h; rfl
theorem rp_str {K : Fr} {v : V} {i : Str} (h : Rp K B v (.str i)) : v = .str i := by cases h; rfl
theorem rp_bl {K : Fr} {v : V} {i : Bool} (h : Rp K B v (.bool i)) : v = .bl i := by cases h; rfl
theorem rp_non {K : Fr} {v : V} (h : Rp K B v .none) : v = .non := by cases h; rfl
theorem rp_lst {K : Fr} {v : V} {ds : List D} (h : Rp K B v (.list ds)) : ∃ a xs, v = .ref a ∧ B a = some (.lst xs) ∧ RpA K B xs ds := by
  cases h with
  | lst h1 h2 => exact ⟨_, _, rfl, h1, h2⟩
theorem rp_tup {K : Fr} {v : V} {ds : List D} (h : Rp K B v (.tuple ds)) : ∃ a xs, v = .ref a ∧ SqT K B a xs ∧ RpA K B xs ds := by
  cases h with
  | tup h1 h2 => exact ⟨_, _, rfl, h1, h2⟩
theorem opd {f : Value → Value → Sem Value} {r0 : R2} {r : D → D → Option Ret} (h : OpR X f r0)
    (i : ∀ x y d e z B H (Q : VK), Same B H → Rp X.K B x d → Rp X.K B y e → r d e = some z → (∀ v B' H', Stp0 B H B' H' → Ret0 X.K B' H H' z v → Q v H') → r0 x y H Q) : OpD X f r :=
  fun pins s σ H x y v u Q I rx ry ⟨B, d, e, z, sm, r1, r2, hz, k⟩ => h pins s σ H x y v u Q I rx ry (i x y d e z B H Q sm r1 r2 hz k)
theorem ixd {r0 : R2} {r : D → D → Option Ret} (h : IxR X r0)
    (i : ∀ x y d e z B H (Q : VK), Same B H → Rp X.K B x d → Rp X.K B y e → r d e = some z → (∀ v B' H', Stp0 B H B' H' → Ret0 X.K B' H H' z v → Q v H') → r0 x y H Q) : IxD X r :=
  fun value slice pins s σ H x y v u Q I rx ry ⟨B, d, e, z, sm, r1, r2, hz, k⟩ hs => h value slice pins s σ H x y v u Q I rx ry (i x y d e z B H Q sm r1 r2 hz k) hs
theorem cld {f : Value} {r0 : List V → Hp → VK → Prop} {r : List D → Option Ret} (h : CallR X f r0)
    (i : ∀ xs ds z B H (Q : VK), Same B H → RpA X.K B xs ds → r ds = some z → (∀ v B' H', Stp0 B H B' H' → Ret0 X.K B' H H' z v → Q v H') → r0 xs H Q) : ClD X f r :=
  fun pins s σ H xs us Q I rs ⟨B, ds, z, sm, r1, hz, k⟩ => h pins s σ H xs us Q I rs (i xs ds z B H Q sm r1 hz k)
/-- one operation or, where it says nothing, another -/
def orD (r r' : D → D → Option Ret) : D → D → Option Ret := fun d e => match r d e with
  | some z => some z
  | none => r' d e
def orL (r r' : List D → Option Ret) : List D → Option Ret := fun ds => match r ds with
  | some z => some z
  | none => r' ds
theorem opd_or {f : Value → Value → Sem Value} {r r' : D → D → Option Ret} (h : OpD X f r) (h' : OpD X f r') : OpD X f (orD r r') :=
  fun pins s σ H x y v u Q I rx ry ⟨B, d, e, z, sm, r1, r2, hz, k⟩ => by
    unfold orD at hz
    cases q : r d e with
    | some w => rw [q] at hz; cases hz; exact h pins s σ H x y v u Q I rx ry ⟨B, d, e, _, sm, r1, r2, q, k⟩
    | none => rw [q] at hz; exact h' pins s σ H x y v u Q I rx ry ⟨B, d, e, _, sm, r1, r2, hz, k⟩
theorem ixd_or {r r' : D → D → Option Ret} (h : IxD X r) (h' : IxD X r') : IxD X (orD r r') :=
  fun value slice pins s σ H x y v u Q I rx ry ⟨B, d, e, z, sm, r1, r2, hz, k⟩ hs => by
    unfold orD at hz
    cases q : r d e with
    | some w => rw [q] at hz; cases hz; exact h value slice pins s σ H x y v u Q I rx ry ⟨B, d, e, _, sm, r1, r2, q, k⟩ hs
    | none => rw [q] at hz; exact h' value slice pins s σ H x y v u Q I rx ry ⟨B, d, e, _, sm, r1, r2, hz, k⟩ hs
theorem cld_or {f : Value} {r r' : List D → Option Ret} (h : ClD X f r) (h' : ClD X f r') : ClD X f (orL r r') :=
  fun pins s σ H xs us Q I rs ⟨B, ds, z, sm, r1, hz, k⟩ => by
    unfold orL at hz
    cases q : r ds with
    | some w => rw [q] at hz; cases hz; exact h pins s σ H xs us Q I rs ⟨B, ds, _, sm, r1, q, k⟩
    | none => rw [q] at hz; exact h' pins s σ H xs us Q I rs ⟨B, ds, _, sm, r1, hz, k⟩
theorem opd_eq {f : Value → Value → Sem Value} {r r' : D → D → Option Ret} (h : OpD X f r) (e : ∀ d d', r' d d' = r d d') : OpD X f r' := by
  have : r' = r := funext fun d => funext fun d' => e d d'
  rw [this]; exact h
theorem ixd_eq {r r' : D → D → Option Ret} (h : IxD X r) (e : ∀ d d', r' d d' = r d d') : IxD X r' := by
  have : r' = r := funext fun d => funext fun d' => e d d'
  rw [this]; exact h
theorem cld_eq {f : Value} {r r' : List D → Option Ret} (h : ClD X f r) (e : ∀ ds, r' ds = r ds) : ClD X f r' := by
  have : r' = r := funext e
  rw [this]; exact h
theorem ret_new {K : Fr} {p : Addr} {o : HO} {x : D} (sm : Same B H) (hp : H p = none) (h : Rp K (upd B p o) (.ref p) x) : Stp0 B H (upd B p o) (upd H p o) ∧ Ret0 K (upd B p o) H (upd H p o) (.d x) (.ref p) := ⟨Stp0.new sm hp, h⟩
theorem ret_own {K : Fr} {p : Addr} {xs : List V} {ds : List D} (sm : Same B H) (hp : H p = none) (h : RpA K B xs ds) : Stp0 B H B (upd H p (.lst xs)) ∧ Ret0 K B H (upd H p (.lst xs)) (.own ds) (.ref p) :=
  ⟨Stp0.apart sm hp, p, rfl, ⟨Same.free sm hp, xs, upd_same, h⟩, hp⟩

/-! ### ints -/
def oI (C : Int → Int → Bool) (g : Int → Int → Int) : D → D → Option Ret
  | .int i, .int j => if C i j = true then some (.d (.int (g i j))) else none
  | _, _ => none
def oB (g : Int → Int → Bool) : D → D → Option Ret
  | .int i, .int j => some (.d (.bool (g i j)))
  | _, _ => none
theorem oI_some {C : Int → Int → Bool} {g : Int → Int → Int} {d e : D} {z : Ret} (h : oI C g d e = some z) : ∃ i j, d = .int i ∧ e = .int j ∧ C i j = true ∧ z = .d (.int (g i j)) := by
  unfold oI at h
  split at h
  · split at h
    · cases h; exact ⟨_, _, rfl, rfl, by assumption, rfl⟩
    · cases h
  · cases h
theorem oB_some {g : Int → Int → Bool} {d e : D} {z : Ret} (h : oB g d e = some z) : ∃ i j, d = .int i ∧ e = .int j ∧ z = .d (.bool (g i j)) := by
  unfold oB at h
  split at h
  · cases h; exact ⟨_, _, rfl, rfl, rfl⟩
  · cases h
theorem opd_I {f : Value → Value → Sem Value} {Cp : Int → Int → Prop} {C : Int → Int → Bool} {g : Int → Int → Int} (h : OpR X f (rI Cp fun i j => .int (g i j))) (hc : ∀ i j, C i j = true → Cp i j) : OpD X f (oI C g) :=
  opd h fun x y d e z B H Q sm r1 r2 hz k => by
    obtain ⟨i, j, rfl, rfl, c, rfl⟩ := oI_some hz
    cases r1; cases r2
    exact ⟨i, j, rfl, rfl, hc _ _ c, k _ B H (.refl sm) (.int _)⟩
theorem opd_I0 {f : Value → Value → Sem Value} {g : Int → Int → Int} (h : OpR X f (rI0 fun i j => .int (g i j))) : OpD X f (oI (fun _ _ => true) g) :=
  opd h fun x y d e z B H Q sm r1 r2 hz k => by
    obtain ⟨i, j, rfl, rfl, c, rfl⟩ := oI_some hz
    cases r1; cases r2
    exact ⟨i, j, rfl, rfl, k _ B H (.refl sm) (.int _)⟩
theorem opd_B {f : Value → Value → Sem Value} {g : Int → Int → Bool} (h : OpR X f (rI0 fun i j => .bl (g i j))) : OpD X f (oB g) :=
  opd h fun x y d e z B H Q sm r1 r2 hz k => by
    obtain ⟨i, j, rfl, rfl, rfl⟩ := oB_some hz
    cases r1; cases r2
    exact ⟨i, j, rfl, rfl, k _ B H (.refl sm) (.bl _)⟩
def dSub := oI (fun _ _ => true) (· - ·)
def mulOk (i j : Int) : Bool := decide (i.natAbs.log2 + j.natAbs.log2 < 1000000)
def divOk (_ j : Int) : Bool := decide (0 < j) && decide (j.natAbs.log2 < 9000)
def dFdiv := oI divOk (· / ·)
def dMod := oI (fun _ j => decide (0 < j)) (· % ·)
/-- powers: the base of less than 2 ^ 20 bits, a small exponent -/
def powOk (i j : Int) : Bool := decide (0 ≤ j) && decide (j ≤ 100) && decide (i.natAbs.log2 < 100000)
def dPow := oI powOk fun i j => i ^ j.toNat
theorem od_sub : OpD X (binaryOp .Sub) dSub := opd_I0 op_sub
theorem od_fdiv : OpD X (binaryOp .FloorDiv) dFdiv := opd_I op_fdivW fun i j h => by
  unfold divOk at h
  rw [Bool.and_eq_true] at h
  exact ⟨of_decide_eq_true h.1, of_decide_eq_true h.2⟩
theorem od_mod : OpD X (binaryOp .Mod) dMod := opd_I op_mod fun i j h => of_decide_eq_true h
theorem intBits_log2 (x : Int) : Builtin.Int.intBits x ≤ x.natAbs.log2 + 1 := by
  unfold Builtin.Int.intBits
  split <;> omega
theorem op_powX : OpR X (binaryOp .Pow) (rI (fun i j => powOk i j = true) fun i j => .int (i ^ j.toNat)) := opI fun i j _ _ _ _ _ hc q => by
  unfold powOk at hc
  rw [Bool.and_eq_true, Bool.and_eq_true] at hc
  have h1 := of_decide_eq_true hc.1.1
  have h2 := of_decide_eq_true hc.1.2
  have h3 := of_decide_eq_true hc.2
  refine PyProof.Rows.pow_int h1 ?_ q
  have h4 := intBits_log2 i
  have h5 : (Builtin.Int.intBits i : Int) ≤ 100000 := by omega
  calc (Builtin.Int.intBits i : Int) * j ≤ 100000 * j := Int.mul_le_mul_of_nonneg_right h5 h1
    _ ≤ 100000 * 100 := Int.mul_le_mul_of_nonneg_left h2 (by omega)
    _ ≤ 2 ^ 27 := by decide
theorem od_pow : OpD X (binaryOp .Pow) dPow := opd_I op_powX fun _ _ h => h
/-! ### + and * -/
def cStr : D → D → Option Ret
  | .str a, .str b => if a.length + b.length ≤ 16777216 then some (.d (.str (a ++ b))) else none
  | _, _ => none
def cLst : D → D → Option Ret
  | .list a, .list b => if a.length + b.length ≤ 16777216 then some (.own (a ++ b)) else none
  | _, _ => none
def cTup : D → D → Option Ret
  | .tuple a, .tuple b => if a.length + b.length ≤ 16777216 then some (.d (.tuple (a ++ b))) else none
  | _, _ => none
theorem szl : sizeLine = 16777216 := sizeLine_eq
theorem od_cStr : OpD X (binaryOp .Add) cStr := opd op_add_str fun x y d e z B H Q sm r1 r2 hz k => by
  unfold cStr at hz
  split at hz
  · split at hz
    · cases hz; cases r1; cases r2
      exact ⟨_, _, rfl, rfl, by rw [szl]; assumption, k _ B H (.refl sm) (.str _)⟩
    · cases hz
  · cases hz
theorem od_cLst : OpD X (binaryOp .Add) cLst := opd op_cat fun x y d e z B H Q sm r1 r2 hz k => by
  unfold cLst at hz
  split at hz
  · split at hz
    · cases hz
      obtain ⟨a, xs, rfl, h1, ra⟩ := rp_lst r1
      obtain ⟨b, ys, rfl, h2, rb⟩ := rp_lst r2
      refine ⟨a, b, xs, ys, rfl, rfl, sm _ _ h1, sm _ _ h2, by rw [szl, ra.length, rb.length]; assumption, fun p hp => ?_⟩
      obtain ⟨s0, r0⟩ := ret_own sm hp (ra.append rb)
      exact k _ _ _ s0 r0
    · cases hz
  · cases hz
theorem od_cTup : OpD X (binaryOp .Add) cTup := opd op_catA fun x y d e z B H Q sm r1 r2 hz k => by
  unfold cTup at hz
  split at hz
  · split at hz
    · cases hz
      obtain ⟨a, xs, rfl, h1, ra⟩ := rp_tup r1
      obtain ⟨b, ys, rfl, h2, rb⟩ := rp_tup r2
      refine ⟨a, b, xs, ys, rfl, rfl, same_t sm h1, same_t sm h2, by rw [szl, ra.length, rb.length]; assumption, fun e => ?_, fun _ e => ?_, fun _ _ p hp => ?_⟩
      · subst e; cases ra
        exact k _ B H (.refl sm) r2
      · subst e; cases rb
        rw [List.append_nil] at k
        exact k _ B H (.refl sm) r1
      · obtain ⟨s0, r0⟩ := ret_new (o := .tup (xs ++ ys)) sm hp (.tup (SqT.of upd_same) ((ra.append rb).mono (Stp0.new sm hp).base))
        exact k _ _ _ s0 r0
    · cases hz
  · cases hz
def dAdd : D → D → Option Ret
  | .int i, .int j => some (.d (.int (i + j)))
  | .str a, .str b => if a.length + b.length ≤ 16777216 then some (.d (.str (a ++ b))) else none
  | .list a, .list b => if a.length + b.length ≤ 16777216 then some (.own (a ++ b)) else none
  | .tuple a, .tuple b => if a.length + b.length ≤ 16777216 then some (.d (.tuple (a ++ b))) else none
  | _, _ => none
theorem od_add : OpD X (binaryOp .Add) dAdd := opd_eq (opd_or (opd_I0 op_add) (opd_or od_cStr (opd_or od_cLst od_cTup))) fun d e => by
  unfold orD oI cStr cLst cTup
  cases d <;> cases e <;> simp [dAdd] <;> split <;> simp_all
def dIadd : D → D → Option Ret := oI (fun _ _ => true) (· + ·)
theorem od_iadd : OpD X (inplaceOp .Add) dIadd := opd_I0 iop_add
/-- a list, a text, a tuple some times -/
def rLst' : D → D → Option Ret
  | .list a, .int j => if -(2 ^ 63) ≤ j ∧ j < 2 ^ 63 ∧ a.length * j.toNat ≤ 16777216 then some (.own (List.replicate j.toNat a).flatten) else none
  | _, _ => none
theorem RpA.rep {xs : List V} {ds : List D} {K : Fr} (h : RpA K B xs ds) : ∀ n, RpA K B (List.replicate n xs).flatten (List.replicate n ds).flatten
  | 0 => .nil
  | n + 1 => by rw [List.replicate_succ, List.replicate_succ, List.flatten_cons, List.flatten_cons]; exact h.append (RpA.rep h n)
theorem od_rLst : OpD X (binaryOp .Mult) rLst' := opd op_rep fun x y d e z B H Q sm r1 r2 hz k => by
  unfold rLst' at hz
  split at hz
  · split at hz
    · rename_i hc
      cases hz; cases r2
      obtain ⟨a, xs, rfl, h1, ra⟩ := rp_lst r1
      refine ⟨a, _, xs, rfl, rfl, sm _ _ h1, hc.1, hc.2.1, by rw [szl, ra.length]; exact hc.2.2, fun p hp => ?_⟩
      obtain ⟨s0, r0⟩ := ret_own sm hp (ra.rep _)
      exact k _ _ _ s0 r0
    · cases hz
  · cases hz
end
end PD
end PDj_
section PDk_
set_option Elab.async false
set_option linter.all false
set_option maxRecDepth 100000
set_option maxHeartbeats 2000000
/-! PDk: more operations over values. -/
namespace PD
open PySem PySem.Spec PyProof.Rows L2

section
variable {X : Cx} {W : WX} {B H B1 H1 : Hp}
/-- the script is a list, for what only reads it -/
def unS : D → D
  | .dict [(.none, .list xs)] => .list xs
  | d => d
theorem unS_list {d : D} {xs : List D} (h : unS d = .list xs) : d = .list xs ∨ d = .dict [(.none, .list xs)] := by
  unfold unS at h
  split at h
  · cases h; exact .inr rfl
  · exact .inl h
theorem rp_seqL {K : Fr} {v : V} {d : D} {xs : List D} (r : Rp K B v d) (h : unS d = .list xs) : ∃ q vs, v = .ref q ∧ SqL K B q vs ∧ RpA K B vs xs := by
  rcases unS_list h with rfl | rfl
  · obtain ⟨a, vs, rfl, h1, h2⟩ := rp_lst r
    exact ⟨a, vs, rfl, SqL.of h1, h2⟩
  · generalize e : PyData.dict [(PyData.none, PyData.list xs)] = d at r
    cases r with
    | scr h1 =>
      have e2 := e
      simp only [scrD, PyData.dict.injEq, List.cons.injEq, Prod.mk.injEq, PyData.list.injEq, true_and, and_true] at e2
      subst e2
      exact ⟨_, _, rfl, h1, .ofInts⟩
    | dct h1 h2 =>
      cases e
      cases h2 with
      | cons q r _ =>
        rename_i kk _ _ _
        cases kk <;> simp [keyD] at q
    | _ => cases e
theorem rp_un {K : Fr} {v : V} {d : D} (r : Rp K B v d) (h : ∀ xs, d ≠ .dict [(.none, .list xs)]) : unS d = d := by
  unfold unS
  split
  · exact absurd rfl (h _)
  · rfl
/-! ### * -/
def mStr : D → D → Option Ret
  | .str a, .int j => if -(2 ^ 63) ≤ j ∧ j < 2 ^ 63 ∧ a.length * j.toNat ≤ 16777216 then some (.d (.str (Txt.mul a j))) else none
  | _, _ => none
theorem op_mStr : OpR X (binaryOp .Mult) (fun x y H Q => ∃ a j, x = .str a ∧ y = .int j ∧ -(2 ^ 63) ≤ j ∧ j < 2 ^ 63 ∧ a.length * j.toNat ≤ 16777216 ∧ Q (.str (Txt.mul a j)) H) := by
  intro pins s σ H x y v u Q I rx ry ⟨a, j, ex, ey, h1, h2, h3, q⟩
  subst ex ey
  obtain ⟨t, rfl⟩ := rx
  obtain ⟨t', rfl⟩ := ry
  refine PySem.SB.mul ⟨?_, fun hj _ hc => ?_, fun hj _ => ?_⟩ fun t' k => ⟨.str (Txt.mul a j), H, I.tok k, ⟨t', rfl⟩, q⟩
  · rw [Bool.or_eq_false_iff]
    exact ⟨decide_eq_false fun h => absurd h (Int.not_lt.mpr h1), decide_eq_false fun h => absurd h2 (Int.not_lt.mpr h)⟩
  · have hp : 0 < j := by omega
    have e : (a.length : Int) * j ≤ 16777216 := by
      have : ((a.length * j.toNat : Nat) : Int) ≤ ((16777216 : Nat) : Int) := Int.ofNat_le.mpr h3
      rw [Int.natCast_mul, Int.toNat_of_nonneg (by omega)] at this
      exact this
    have e0 : (2 ^ 63 - 1 : Int) = 9223372036854775807 := by decide
    rw [e0] at hc
    exact Int.not_lt.mpr ((Int.le_ediv_iff_mul_le hp).mpr (Int.le_trans e (by decide))) hc
  · unfold Builtin.Str.tooLong
    have : sizeLine = 16777216 := szl
    simp only [decide_eq_false_iff_not, gt_iff_lt, Nat.not_lt]
    omega
theorem od_mStr : OpD X (binaryOp .Mult) mStr := opd op_mStr fun x y d e z B H Q sm r1 r2 hz k => by
  unfold mStr at hz
  split at hz
  · split at hz
    · rename_i hc
      cases hz; cases r1; cases r2
      exact ⟨_, _, rfl, rfl, hc.1, hc.2.1, hc.2.2, k _ B H (.refl sm) (.str _)⟩
    · cases hz
  · cases hz
def dMul : D → D → Option Ret
  | .int i, .int j => if mulOk i j = true then some (.d (.int (i * j))) else none
  | .list a, .int j => if -(2 ^ 63) ≤ j ∧ j < 2 ^ 63 ∧ a.length * j.toNat ≤ 16777216 then some (.own (List.replicate j.toNat a).flatten) else none
  | .str a, .int j => if -(2 ^ 63) ≤ j ∧ j < 2 ^ 63 ∧ a.length * j.toNat ≤ 16777216 then some (.d (.str (Txt.mul a j))) else none
  | _, _ => none
theorem od_mul : OpD X (binaryOp .Mult) dMul := opd_eq (opd_or (opd_I op_mulW (C := mulOk) fun i j h => (of_decide_eq_true (p := i.natAbs.log2 + j.natAbs.log2 < 1000000) h)) (opd_or od_rLst od_mStr)) fun d e => by
  unfold orD oI rLst' mStr
  cases d <;> cases e <;> simp [dMul] <;> split <;> simp_all
/-! ### comparisons -/
def dLt := oB fun i j => decide (i < j)
def dLe := oB fun i j => decide (i ≤ j)
def dGt := oB fun i j => decide (j < i)
def dGe := oB fun i j => decide (j ≤ i)
theorem od_lt : OpD X (compareOp .Lt) dLt := opd_B op_lt
theorem od_le : OpD X (compareOp .LtE) dLe := opd_B op_le
theorem od_gt : OpD X (compareOp .Gt) dGt := opd_B op_gt
theorem od_ge : OpD X (compareOp .GtE) dGe := opd_B op_ge
/-- of scalars that are not a bool and an int -/
def eqS : D → D → Option Bool
  | .none, .none => some true
  | .none, .int _ => some false
  | .int _, .none => some false
  | .none, .bool _ => some false
  | .bool _, .none => some false
  | .none, .str _ => some false
  | .str _, .none => some false
  | .int i, .int j => some (decide (i = j))
  | .bool i, .bool j => some (decide (i = j))
  | .str i, .str j => some (decide (i = j))
  | .int _, .str _ => some false
  | .str _, .int _ => some false
  | .bool _, .str _ => some false
  | .str _, .bool _ => some false
  | _, _ => none
theorem eqS_V {K : Fr} {x y : V} {d e : D} {b : Bool} (h : eqS d e = some b) (r1 : Rp K B x d) (r2 : Rp K B y e) : scal x y = true ∧ decide (x = y) = b := by
  unfold eqS at h
  split at h <;> first | (cases h; done) | (cases r1; cases r2; cases h; simp [scal])
mutual
theorem Rp.dp {K : Fr} : ∀ {v : V} {d : D}, Rp K H v d → d.canLay0 = true → Dp K H v d
  | _, _, .non, _ => .non
  | _, _, .bl b, _ => .bl b
  | _, _, .int i, _ => .int i
  | _, _, .str i, _ => .str i
  | _, _, .lst h1 h2, h => .lst (SqL.of h1) (RpA.dp h2 (by simpa [PyData.canLay0] using h))
  | _, _, .scr _, h => by simp [scrD, PyData.canLay0] at h
  | _, _, .tup h1 h2, h => .tup h1 (RpA.dp h2 (by simpa [PyData.canLay0] using h))
  | _, _, .dct _ _, h => by simp [PyData.canLay0] at h
  | _, _, .lck _, h => by simp [lckD, PyData.canLay0] at h
theorem RpA.dp {K : Fr} : ∀ {vs : List V} {ds : List D}, RpA K H vs ds → PyData.canLayAll0 ds = true → DpAll K H vs ds
  | _, _, .nil, _ => .nil
  | _, _, .cons h1 h2, h => by
    simp only [PyData.canLayAll0, Bool.and_eq_true] at h
    exact .cons (Rp.dp h1 h.1) (RpA.dp h2 h.2)
end
theorem Rp.dpU {K : Fr} {v : V} {d : D} (r : Rp K H v d) (h : (unS d).canLay0 = true) : Dp K H v (unS d) := by
  by_cases z : ∃ xs, d = .dict [(.none, .list xs)]
  · obtain ⟨xs, rfl⟩ := z
    obtain ⟨q, vs, rfl, h1, h2⟩ := rp_seqL r (xs := xs) rfl
    exact .lst h1 (h2.dp (by simpa [unS, PyData.canLay0] using h))
  · have e := rp_un r fun xs hx => z ⟨xs, hx⟩
    rw [e] at h ⊢
    exact r.dp h
/-- two lists of different lengths -/
def eqLen (f : Bool → Bool) : D → D → Option Ret
  | .list xs, .list ys => if xs.length = ys.length then none else some (.d (.bool (f false)))
  | _, _ => none
def eqP (f : Bool → Bool) : D → D → Option Ret := fun d e => match eqS d e with
  | some b => some (.d (.bool (f b)))
  | none => if SeqAt.shaped (unS d) = true ∧ SeqAt.shaped (unS e) = true then some (.d (.bool (f (PyData.eqv (unS d) (unS e))))) else eqLen f d e
def dEq := eqP fun b => b
def dNe := eqP fun b => !b
def eqScal (f : Bool → Bool) : D → D → Option Ret := fun d e => (eqS d e).map fun b => .d (.bool (f b))
def eqDeep (f : Bool → Bool) : D → D → Option Ret := fun d e => if SeqAt.shaped (unS d) = true ∧ SeqAt.shaped (unS e) = true then some (.d (.bool (f (PyData.eqv (unS d) (unS e))))) else none
theorem eqP_or (f : Bool → Bool) (d e : D) : eqP f d e = orD (eqScal f) (orD (eqDeep f) (eqLen f)) d e := by
  unfold eqP orD eqScal eqDeep
  cases eqS d e with
  | some b => rfl
  | none =>
    show (if _ then _ else _) = match (if _ then _ else _ : Option Ret) with | some z => some z | none => _
    split <;> rfl
theorem eqScal_some {f : Bool → Bool} {d e : D} {z : Ret} (h : eqScal f d e = some z) : ∃ b, eqS d e = some b ∧ z = .d (.bool (f b)) := by
  unfold eqScal at h
  cases q : eqS d e with
  | none => rw [q] at h; cases h
  | some b => rw [q] at h; cases h; exact ⟨b, rfl, rfl⟩
theorem eqDeep_some {f : Bool → Bool} {d e : D} {z : Ret} (h : eqDeep f d e = some z) : SeqAt.shaped (unS d) = true ∧ SeqAt.shaped (unS e) = true ∧ z = .d (.bool (f (PyData.eqv (unS d) (unS e)))) := by
  unfold eqDeep at h
  split at h
  · rename_i hc; cases h; exact ⟨hc.1, hc.2, rfl⟩
  · cases h
def rLenNe (c : Bool) : R2 := fun x y H Q => ∃ a b us ws, x = .ref a ∧ y = .ref b ∧ H a = some (.lst us) ∧ H b = some (.lst ws) ∧ us.length ≠ ws.length ∧ Q (.bl c) H
theorem op_lenEq (hu : X.A.units + 64 < cLine) : OpR X (compareOp .Eq) (rLenNe false) := by
  intro pins s σ H x y v u Q I rx ry h
  obtain ⟨a, b, us, ws, rfl, rfl, h1, h2, hl, q⟩ := h
  cases rx
  cases ry
  obtain ⟨is, r1, ⟨o, n, ho, hc, _, hd⟩, _⟩ := I.list (SqL.of h1)
  obtain ⟨js, r2, ⟨o', n', ho', hc', _, hd'⟩, _⟩ := I.list (SqL.of h2)
  refine SeqAt.RcAt.lists_lengths (items := is.toArray) (items2 := js.toArray) ⟨o, ho, hc, _, hd⟩ ⟨o', ho', hc', _, hd'⟩ ?_ (by omega) _ _ _ _ ⟨.bl _, H, I, rfl, q⟩
  rw [List.size_toArray, List.size_toArray, ← r1.length, ← r2.length]
  exact bne_iff_ne.mpr hl
theorem op_lenNe (hu : X.A.units + 64 < cLine) : OpR X (compareOp .NotEq) (rLenNe true) := by
  intro pins s σ H x y v u Q I rx ry h
  obtain ⟨a, b, us, ws, rfl, rfl, h1, h2, hl, q⟩ := h
  cases rx
  cases ry
  obtain ⟨is, r1, ⟨o, n, ho, hc, _, hd⟩, _⟩ := I.list (SqL.of h1)
  obtain ⟨js, r2, ⟨o', n', ho', hc', _, hd'⟩, _⟩ := I.list (SqL.of h2)
  refine SeqAt.RcNeAt.lists_lengths (items := is.toArray) (items2 := js.toArray) ⟨o, ho, hc, _, hd⟩ ⟨o', ho', hc', _, hd'⟩ ?_ (by omega) _ _ _ _ ⟨.bl _, H, I, rfl, q⟩
  rw [List.size_toArray, List.size_toArray, ← r1.length, ← r2.length]
  exact bne_iff_ne.mpr hl
theorem eqLen_V {f : Bool → Bool} {op : V → V → Hp → VK → Prop} {d e : D} {z : Ret} {x y : V} (sm : Same B H) (hz : eqLen f d e = some z) (r1 : Rp X.K B x d) (r2 : Rp X.K B y e) : z = .d (.bool (f false)) ∧ ∀ c (Q : VK), Q (.bl c) H → rLenNe c x y H Q := by
  unfold eqLen at hz
  split at hz
  · split at hz
    · cases hz
    · rename_i hl
      cases hz
      obtain ⟨a, us, rfl, h1, h2⟩ := rp_lst r1
      obtain ⟨b, ws, rfl, h3, h4⟩ := rp_lst r2
      exact ⟨rfl, fun c Q q => ⟨a, b, us, ws, rfl, rfl, sm _ _ h1, sm _ _ h3, by rw [h2.length, h4.length]; exact hl, q⟩⟩
  · cases hz
theorem od_eq (hu : X.A.units + 64 < cLine) : OpD X (compareOp .Eq) dEq := opd_eq (opd_or
  (opd op_eq (r := eqScal fun b => b) fun x y d e z B H Q sm r1 r2 hz k => by
    obtain ⟨b, h1, rfl⟩ := eqScal_some hz
    obtain ⟨h2, h3⟩ := eqS_V h1 r1 r2
    exact ⟨h2, by rw [h3]; exact k _ B H (.refl sm) (.bl _)⟩)
  (opd_or (opd (op_eqD hu) (r := eqDeep fun b => b) fun x y d e z B H Q sm r1 r2 hz k => by
    obtain ⟨h1, h2, rfl⟩ := eqDeep_some hz
    exact ⟨unS d, unS e, (r1.mono sm).dpU (SeqAt.canLay_of_shaped h1), (r2.mono sm).dpU (SeqAt.canLay_of_shaped h2), h1, h2, k _ B H (.refl sm) (.bl _)⟩)
    (opd (op_lenEq hu) (r := eqLen fun b => b) fun x y d e z B H Q sm r1 r2 hz k => by
      obtain ⟨rfl, q⟩ := eqLen_V (op := rLenNe false) sm hz r1 r2
      exact q _ _ (k _ B H (.refl sm) (.bl _))))) fun d e => eqP_or _ d e
theorem od_ne (hu : X.A.units + 64 < cLine) : OpD X (compareOp .NotEq) dNe := opd_eq (opd_or
  (opd op_ne (r := eqScal fun b => !b) fun x y d e z B H Q sm r1 r2 hz k => by
    obtain ⟨b, h1, rfl⟩ := eqScal_some hz
    obtain ⟨h2, h3⟩ := eqS_V h1 r1 r2
    exact ⟨h2, by rw [h3]; exact k _ B H (.refl sm) (.bl _)⟩)
  (opd_or (opd (op_neD hu) (r := eqDeep fun b => !b) fun x y d e z B H Q sm r1 r2 hz k => by
    obtain ⟨h1, h2, rfl⟩ := eqDeep_some hz
    exact ⟨unS d, unS e, (r1.mono sm).dpU (SeqAt.canLay_of_shaped h1), (r2.mono sm).dpU (SeqAt.canLay_of_shaped h2), h1, h2, k _ B H (.refl sm) (.bl _)⟩)
    (opd (op_lenNe hu) (r := eqLen fun b => !b) fun x y d e z B H Q sm r1 r2 hz k => by
      obtain ⟨rfl, q⟩ := eqLen_V (op := rLenNe false) sm hz r1 r2
      exact q _ _ (k _ B H (.refl sm) (.bl _))))) fun d e => eqP_or _ d e
def isN : D → Bool
  | .none => true
  | _ => false
theorem isN_V {K : Fr} {v : V} {d : D} (r : Rp K B v d) : decide (v = V.non) = isN d := by cases r <;> simp [isN, scrD]
def dIs : D → D → Option Ret := fun d e => match e with
  | .none => some (.d (.bool (isN d)))
  | _ => none
def dIsNot : D → D → Option Ret := fun d e => match e with
  | .none => some (.d (.bool (!isN d)))
  | _ => none
theorem od_is : OpD X (compareOp .Is) dIs := opd op_isN fun x y d e z B H Q sm r1 r2 hz k => by
  unfold dIs at hz
  split at hz
  · cases hz; cases r2
    exact ⟨rfl, by rw [isN_V r1]; exact k _ B H (.refl sm) (.bl _)⟩
  · cases hz
theorem od_isNot : OpD X (compareOp .IsNot) dIsNot := opd op_notN fun x y d e z B H Q sm r1 r2 hz k => by
  unfold dIsNot at hz
  split at hz
  · cases hz; cases r2
    exact ⟨rfl, by rw [isN_V r1]; exact k _ B H (.refl sm) (.bl _)⟩
  · cases hz
/-! ### in -/
def flS : D → Bool
  | .none => true
  | .bool _ => true
  | .int _ => true
  | .str _ => true
  | _ => false
theorem flS_V {K : Fr} {v : V} {d : D} (r : Rp K B v d) (h : flS d = true) : flatV v = true := by cases r <;> simp_all [flS, flatV, scrD]
theorem flSs_V {K : Fr} : ∀ {vs : List V} {ds : List D}, RpA K B vs ds → ds.all flS = true → vs.all flatV = true
  | _, _, .nil, _ => rfl
  | _, _, .cons a b, h => by
    rw [List.all_cons, Bool.and_eq_true] at h
    rw [List.all_cons, flS_V a h.1, flSs_V b h.2]; rfl
theorem eqv_V {K : Fr} {x y : V} {d e : D} (r1 : Rp K B x d) (r2 : Rp K B y e) (h1 : flS d = true) (h2 : flS e = true) : L2.eqV x y = PyData.eqv d e := by
  cases r1 <;> cases r2 <;> simp_all [flS, scrD, L2.eqV, PyData.eqv]
theorem any_V {K : Fr} {y : V} {e : D} (r2 : Rp K B y e) (h2 : flS e = true) : ∀ {vs : List V} {ds : List D}, RpA K B vs ds → ds.all flS = true → inV y vs = ds.any fun z => PyData.eqv z e
  | _, _, .nil, _ => rfl
  | _, _, .cons a b, h => by
    rw [List.all_cons, Bool.and_eq_true] at h
    have q := any_V r2 h2 b h.2
    unfold inV at q ⊢
    rw [List.any_cons, List.any_cons, eqv_V a r2 h.1 h2, q]
def itemsD : D → Option (List D)
  | .list xs => some xs
  | .tuple xs => some xs
  | .dict [(.none, .list xs)] => some xs
  | _ => none
theorem items_V {K : Fr} {v : V} {d : D} {ds : List D} (sm : Same B H) (r : Rp K B v d) (h : itemsD d = some ds) : ∃ p vs, v = .ref p ∧ (SqL K H p vs ∨ SqT K H p vs) ∧ RpA K B vs ds := by
  unfold itemsD at h
  split at h
  · cases h
    obtain ⟨a, vs, rfl, h1, h2⟩ := rp_seqL r rfl
    exact ⟨a, vs, rfl, .inl (sm.seq h1), h2⟩
  · cases h
    obtain ⟨a, vs, rfl, h1, h2⟩ := rp_tup r
    exact ⟨a, vs, rfl, .inr (same_t sm h1), h2⟩
  · cases h
    obtain ⟨a, vs, rfl, h1, h2⟩ := rp_seqL r rfl
    exact ⟨a, vs, rfl, .inl (sm.seq h1), h2⟩
  · cases h
def inFl (f : Bool → Bool) : D → D → Option Ret := fun d e => match itemsD e with
  | some ys => if flS d = true ∧ ys.all flS = true then some (.d (.bool (f (ys.any fun z => PyData.eqv z d)))) else none
  | none => none
theorem inFl_some {f : Bool → Bool} {d e : D} {z : Ret} (h : inFl f d e = some z) : ∃ ys, itemsD e = some ys ∧ flS d = true ∧ ys.all flS = true ∧ z = .d (.bool (f (ys.any fun z => PyData.eqv z d))) := by
  unfold inFl at h
  split at h
  · split at h
    · rename_i hc; cases h; exact ⟨_, by assumption, hc.1, hc.2, rfl⟩
    · cases h
  · cases h
theorem od_inFl : OpD X (compareOp .In) (inFl fun b => b) := opd op_in_seq fun x y d e z B H Q sm r1 r2 hz k => by
  obtain ⟨ys, h1, h2, h3, rfl⟩ := inFl_some hz
  obtain ⟨p, vs, rfl, h4, h5⟩ := items_V sm r2 h1
  exact ⟨p, vs, rfl, h4, flS_V r1 h2, flSs_V h5 h3, by rw [any_V r1 h2 h5 h3]; exact k _ B H (.refl sm) (.bl _)⟩
theorem od_notInFl : OpD X (compareOp .NotIn) (inFl fun b => !b) := opd op_notIn_seq fun x y d e z B H Q sm r1 r2 hz k => by
  obtain ⟨ys, h1, h2, h3, rfl⟩ := inFl_some hz
  obtain ⟨p, vs, rfl, h4, h5⟩ := items_V sm r2 h1
  exact ⟨p, vs, rfl, h4, flS_V r1 h2, flSs_V h5 h3, by rw [any_V r1 h2 h5 h3]; exact k _ B H (.refl sm) (.bl _)⟩
/-- one sign in a text -/
def inSg (f : Bool → Bool) : D → D → Option Ret
  | .str a, .str b => match a.cps.toList with
    | [c] => some (.d (.bool (f (decide (c ∈ b.cps.toList)))))
    | _ => none
  | _, _ => none
theorem inSg_some {f : Bool → Bool} {d e : D} {z : Ret} (h : inSg f d e = some z) : ∃ c b, d = .str ⟨#[c]⟩ ∧ e = .str b ∧ z = .d (.bool (f (decide (c ∈ b.cps.toList)))) := by
  cases d with
  | str a =>
    cases e with
    | str b =>
      obtain ⟨⟨l⟩⟩ := a
      match l, h with
      | [c], h => exact ⟨c, b, rfl, rfl, (Option.some.inj h).symm⟩
    | _ => cases h
  | _ => cases h
theorem od_inSg : OpD X (compareOp .In) (inSg fun b => b) := opd op_in_sign fun x y d e z B H Q sm r1 r2 hz k => by
  obtain ⟨c, b, rfl, rfl, rfl⟩ := inSg_some hz
  cases r1; cases r2
  exact ⟨c, b, rfl, rfl, k _ B H (.refl sm) (.bl _)⟩
theorem od_notInSg : OpD X (compareOp .NotIn) (inSg fun b => !b) := opd op_notIn_sign fun x y d e z B H Q sm r1 r2 hz k => by
  obtain ⟨c, b, rfl, rfl, rfl⟩ := inSg_some hz
  cases r1; cases r2
  exact ⟨c, b, rfl, rfl, k _ B H (.refl sm) (.bl _)⟩
/-- any item of a list of data -/
def inDp (f : Bool → Bool) : D → D → Option Ret := fun d e => match e with
  | .list ys => if SeqAt.shaped d = true ∧ SeqAt.shaped (.list ys) = true then some (.d (.bool (f (ys.any fun z => PyData.eqv z d)))) else none
  | _ => none
theorem inDp_some {f : Bool → Bool} {d e : D} {z : Ret} (h : inDp f d e = some z) : ∃ ys, e = .list ys ∧ SeqAt.shaped d = true ∧ SeqAt.shaped (.list ys) = true ∧ z = .d (.bool (f (ys.any fun z => PyData.eqv z d))) := by
  unfold inDp at h
  split at h
  · split at h
    · rename_i hc; cases h; exact ⟨_, rfl, hc.1, hc.2, rfl⟩
    · cases h
  · cases h
theorem od_inDp (hu : X.A.units + 65 < cLine) : OpD X (compareOp .In) (inDp fun b => b) := opd (op_inD hu) fun x y d e z B H Q sm r1 r2 hz k => by
  obtain ⟨ys, rfl, h1, h2, rfl⟩ := inDp_some hz
  exact ⟨d, ys, (r1.mono sm).dp (SeqAt.canLay_of_shaped h1), (r2.mono sm).dp (SeqAt.canLay_of_shaped h2), h1, h2, k _ B H (.refl sm) (.bl _)⟩
theorem od_notInDp (hu : X.A.units + 65 < cLine) : OpD X (compareOp .NotIn) (inDp fun b => !b) := opd (op_notInD hu) fun x y d e z B H Q sm r1 r2 hz k => by
  obtain ⟨ys, rfl, h1, h2, rfl⟩ := inDp_some hz
  exact ⟨d, ys, (r1.mono sm).dp (SeqAt.canLay_of_shaped h1), (r2.mono sm).dp (SeqAt.canLay_of_shaped h2), h1, h2, k _ B H (.refl sm) (.bl _)⟩
def dIn := orD (inFl fun b => b) (orD (inSg fun b => b) (inDp fun b => b))
def dNotIn := orD (inFl fun b => !b) (orD (inSg fun b => !b) (inDp fun b => !b))
theorem od_in (hu : X.A.units + 65 < cLine) : OpD X (compareOp .In) dIn := opd_or od_inFl (opd_or od_inSg (od_inDp hu))
theorem od_notIn (hu : X.A.units + 65 < cLine) : OpD X (compareOp .NotIn) dNotIn := opd_or od_notInFl (opd_or od_notInSg (od_notInDp hu))
/-! ### a[b] -/
def dIx (d e : D) : Option Ret := match unS d, e with
  | .list xs, .int i => (atI xs i).map .d
  | .tuple xs, .int i => (atI xs i).map .d
  | .str z, .int i => if z.length ≤ 16777216 then (atI z.cps.toList i).map fun c => .d (.str ⟨#[c]⟩) else none
  | _, _ => none
theorem unS_eq {d e : D} (h : unS d = e) (he : ∀ xs, e ≠ .list xs) : d = e := by
  unfold unS at h
  split at h
  · exact absurd h.symm (he _)
  · exact h
theorem RpA.atI {K : Fr} {vs : List V} {ds : List D} {i : Int} {x : D} (h : RpA K B vs ds) (e : L2.atI ds i = some x) : ∃ v, L2.atI vs i = some v ∧ Rp K B v x := by
  unfold L2.atI at e ⊢
  rw [h.length]
  cases q : ixN ds.length i with
  | none => rw [q] at e; cases e
  | some j => rw [q] at e; exact h.get e
theorem xd : IxD X dIx := fun value slice pins s σ H x y v u Q I rx ry ⟨B, d, e, z, sm, r1, r2, hz, k⟩ hs => by
  unfold dIx at hz
  split at hz
  · rename_i xs i hd
    cases q : L2.atI xs i with
    | none => rw [q] at hz; cases hz
    | some w =>
      rw [q] at hz; cases hz; cases r2
      obtain ⟨a, vs, rfl, h1, h2⟩ := rp_seqL r1 hd
      obtain ⟨v', h3, h4⟩ := h2.atI q
      exact ix_list value slice pins s σ H _ _ v u Q I rx ry ⟨a, vs, i, v', rfl, rfl, sm.seq h1, h3, k _ B H (.refl sm) h4⟩ hs
  · rename_i xs i hd
    obtain rfl := unS_eq hd (fun _ z => by cases z)
    cases q : L2.atI xs i with
    | none => rw [q] at hz; cases hz
    | some w =>
      rw [q] at hz; cases hz; cases r2
      obtain ⟨a, vs, rfl, h1, h2⟩ := rp_tup r1
      obtain ⟨v', h3, h4⟩ := h2.atI q
      exact ix_tup value slice pins s σ H _ _ v u Q I rx ry ⟨a, vs, i, v', rfl, rfl, same_t sm h1, h3, k _ B H (.refl sm) h4⟩ hs
  · rename_i a i hd
    obtain rfl := unS_eq hd (fun _ z => by cases z)
    split at hz
    · cases q : L2.atI a.cps.toList i with
      | none => rw [q] at hz; cases hz
      | some w =>
        rw [q] at hz; cases hz; cases r2; cases r1
        exact ix_str value slice pins s σ H _ _ v u Q I rx ry ⟨a, i, w, rfl, rfl, by rw [szl]; assumption, q, k _ B H (.refl sm) (.str _)⟩ hs
    · cases hz
  · cases hz
/-! ### a[b:c] -/
def cutD (xs : List D) (lo hi : Option Int) : List D := (xs.drop (HT.sIx xs.length 0 lo)).take (HT.sIx xs.length xs.length hi - HT.sIx xs.length 0 lo)
def dSl (d : D) (lo hi : Option Int) : Option Ret := match unS d with
  | .list xs => some (.own (cutD xs lo hi))
  | .tuple xs => some (.d (.tuple (cutD xs lo hi)))
  | .str z => if z.length ≤ 16777216 then some (.d (.str (cutS z lo hi))) else none
  | _ => none
theorem RpA.cut {K : Fr} {vs : List V} {ds : List D} (h : RpA K B vs ds) (lo hi : Option Int) : RpA K B (cutV vs lo hi) (cutD ds lo hi) := by
  unfold cutV cutD
  rw [h.length]
  exact (h.drop _).take _
theorem sld : SlD X dSl := by
  intro pins s σ H x v vl vu lo hi sl Q I rx hs pl pu ⟨B, d, z, sm, r1, hz, k⟩
  unfold dSl at hz
  split at hz
  · rename_i xs hd
    cases hz
    obtain ⟨a, vs, rfl, h1, h2⟩ := rp_seqL r1 hd
    exact sl_list pins s σ H _ v vl vu lo hi sl Q I rx hs pl pu ⟨a, vs, rfl, sm.seq h1, fun p hp => by
      obtain ⟨s0, r0⟩ := ret_own sm hp (h2.cut lo hi)
      exact k _ _ _ s0 r0⟩
  · rename_i xs hd
    obtain rfl := unS_eq hd (fun _ z => by cases z)
    cases hz
    obtain ⟨a, vs, rfl, h1, h2⟩ := rp_tup r1
    refine sl_tupA pins s σ H _ v vl vu lo hi sl Q I rx hs pl pu ⟨a, vs, rfl, same_t sm h1, fun hw => ?_, fun _ p hp => ?_⟩
    · have e : cutD xs lo hi = xs := by
        unfold cutD
        rw [h2.length] at hw
        rw [hw.1, hw.2]; simp
      rw [e] at k
      exact k _ B H (.refl sm) r1
    · obtain ⟨s0, r0⟩ := ret_new (o := .tup (cutV vs lo hi)) sm hp (.tup (SqT.of upd_same) ((h2.cut lo hi).mono (Stp0.new sm hp).base))
      exact k _ _ _ s0 r0
  · rename_i y hd
    obtain rfl := unS_eq hd (fun _ z => by cases z)
    split at hz
    · cases hz; cases r1
      exact sl_str pins s σ H _ v vl vu lo hi sl Q I rx hs pl pu ⟨y, rfl, by rw [szl]; assumption, k _ B H (.refl sm) (.str _)⟩
    · cases hz
  · cases hz
end
end PD
end PDk_
section PDl_
set_option Elab.async false
set_option linter.all false
set_option maxRecDepth 100000
set_option maxHeartbeats 2000000
/-! PDl: what is walked; chains; changes in place; slices; built-ins called. -/
namespace PD
open PySem PySem.Spec PyProof.Rows L2

section
variable {X : Cx} {W : WX} {K : Fr} {B H B1 H1 B2 H2 : Hp} {env env1 : Env} {σ σ1 : St} {E : EK} {a b c e : Expr} {ta tb tc te : TR} {pos p p2 tpos : Pos} {tg : Expr}
/-! ### what is walked -/
theorem scr_items {v : V} {ns : List Int} (h : Rp K B v (scrD ns)) : ∃ q, v = .ref q ∧ SqL K B q (ns.map .int) := by
  generalize e : scrD ns = d at h
  cases h with
  | scr h1 =>
    have e2 := e
    simp only [scrD, PyData.dict.injEq, List.cons.injEq, Prod.mk.injEq, PyData.list.injEq, true_and, and_true] at e2
    have inj : ∀ (xs ys : List Int), xs.map PyData.int = ys.map PyData.int → xs = ys := fun xs => by
      induction xs with
      | nil => intro ys h; cases ys <;> simp_all
      | cons x xs ih =>
        intro ys h
        cases ys with
        | nil => simp at h
        | cons y ys => simp only [List.map_cons, List.cons.injEq, PyData.int.injEq] at h; rw [h.1, ih ys h.2]
    rw [inj _ _ e2]
    exact ⟨_, rfl, h1⟩
  | dct h1 h2 =>
    unfold scrD at e
    cases e
    cases h2 with
    | cons q r _ =>
      rename_i k _ _ _
      cases k <;> simp [keyD] at q
  | _ => simp [scrD] at e
theorem wk_list {q : Addr} {vs : List V} {ds : List D} (h : SqL K B q vs) (r : RpA K B vs ds) : Wk K B (Itl K q) ds := by
  unfold Wk
  rw [← r.length]
  refine (walk_list (xs := vs)).mono (fun H s => s.seq h) fun i H x H' _ s ⟨e1, e2⟩ => ?_
  obtain ⟨y, h1, h2⟩ := r.getV e2
  subst e1
  exact ⟨y, h1, fun B1 s1 s2 => ⟨B1, .refl s2, h2.mono s1⟩⟩
theorem wk_tup {q : Addr} {vs : List V} {ds : List D} (h : SqT K B q vs) (r : RpA K B vs ds) : Wk K B (Itt K q) ds := by
  unfold Wk
  rw [← r.length]
  refine (walk_tup (xs := vs)).mono (fun H s => same_t s h) fun i H x H' _ s ⟨e1, e2⟩ => ?_
  obtain ⟨y, h1, h2⟩ := r.getV e2
  subst e1
  exact ⟨y, h1, fun B1 s1 s2 => ⟨B1, .refl s2, h2.mono s1⟩⟩
theorem wk_str {z : Str} : Wk K B (Its z) (z.cps.toList.map fun c => .str ⟨#[c]⟩) := by
  unfold Wk
  rw [List.length_map, Array.length_toList]
  refine (walk_str (z := z)).mono (fun _ _ => trivial) fun i H x H' _ s ⟨e1, c, e2, e3⟩ => ?_
  subst e3 e1
  refine ⟨.str ⟨#[c]⟩, ?_, fun B1 s1 s2 => ⟨B1, .refl s2, .str _⟩⟩
  rw [List.getElem?_map, Array.getElem?_toList, e2]; rfl
theorem wk_range {lo : Int} {n : Nat} : Wk K B (Itr lo n) (rangeD lo n) := by
  unfold Wk rangeD
  rw [List.length_map, List.length_range]
  refine (walk_range (lo := lo) (n := n)).mono (fun _ _ => trivial) fun i H x H' hi s ⟨e1, e2⟩ => ?_
  subst e2 e1
  refine ⟨.int (lo + i), ?_, fun B1 s1 s2 => ⟨B1, .refl s2, .int _⟩⟩
  rw [List.getElem?_map, List.getElem?_range hi]; rfl
theorem wk_rangeC {lo c : Int} {n : Nat} : Wk K B (Itc lo c n) ((List.range n).map fun k : Nat => .int (lo + (k : Int) * c)) := by
  unfold Wk
  rw [List.length_map, List.length_range]
  refine (walk_rangeC (lo := lo) (c := c) (n := n)).mono (fun _ _ => trivial) fun i H x H' hi s ⟨e1, e2⟩ => ?_
  subst e2 e1
  refine ⟨.int (lo + (i : Nat) * c), ?_, fun B1 s1 s2 => ⟨B1, .refl s2, .int _⟩⟩
  rw [List.getElem?_map, List.getElem?_range hi]; rfl
/-- a new pair at each turn -/
theorem wk_pair {J : It} {n : Nat} {G : Hp → Prop} {fx fy : Nat → Option V} {ds : List D} (w : Walk J n G (YPair fx fy)) (hn : ds.length = n) (hg : ∀ H, Same B H → G H)
    (hy : ∀ i x y, fx i = some x → fy i = some y → ∃ d e, ds[i]? = some (.tuple [d, e]) ∧ Rp K B x d ∧ Rp K B y e) : Wk K B J ds := by
  unfold Wk
  rw [hn]
  refine w.mono hg fun i H v H' _ s ⟨T, x, y, e1, e2, e3, e4, e5⟩ => ?_
  subst e1 e3
  obtain ⟨d, e, h1, h2, h3⟩ := hy i x y e4 e5
  refine ⟨_, h1, fun B1 s1 s2 => ⟨upd B1 T (.tup [x, y]), Stp0.new s2 e2, ?_⟩⟩
  have sm := (Stp0.new (o := .tup [x, y]) s2 e2).base
  exact .tup (SqT.of upd_same) (.cons (h2.mono (s1.trans sm)) (.cons (h3.mono (s1.trans sm)) .nil))
theorem enumD_at : ∀ (xs : List D) (lo : Int) (i : Nat), (enumD lo xs)[i]? = (xs[i]?).map fun x => .tuple [.int (lo + i), x]
  | [], _, _ => by simp [enumD]
  | x :: xs, lo, 0 => by simp [enumD]
  | x :: xs, lo, i + 1 => by
    simp only [enumD, List.getElem?_cons_succ, enumD_at xs]
    rw [show lo + 1 + (i : Int) = lo + ((i + 1 : Nat) : Int) by omega]
theorem enumD_len : ∀ (xs : List D) (lo : Int), (enumD lo xs).length = xs.length
  | [], _ => rfl
  | x :: xs, lo => by simp [enumD, enumD_len xs]
theorem wk_enum {q : Addr} {vs : List V} {ds : List D} (h : SqL K B q vs) (r : RpA K B vs ds) : Wk K B (Ite K q) (enumD 0 ds) := by
  refine wk_pair (walk_enum (xs := vs)) (by rw [enumD_len, r.length]) (fun H s => s.seq h) fun i x y e1 e2 => ?_
  cases e1
  obtain ⟨z, h1, h2⟩ := r.getV e2
  exact ⟨.int i, z, by rw [enumD_at, h1]; simp, .int _, h2⟩
theorem zip_at {xs ys : List D} {i : Nat} {d e : D} (h1 : xs[i]? = some d) (h2 : ys[i]? = some e) : (List.zipWith (fun a b => PyData.tuple [a, b]) xs ys)[i]? = some (.tuple [d, e]) := by
  rw [List.getElem?_zipWith, h1, h2]
theorem wk_zip {q q2 : Addr} {vs ws : List V} {ds es : List D} (h : SqL K B q vs) (r : RpA K B vs ds) (h2 : SqL K B q2 ws) (r2 : RpA K B ws es) : Wk K B (Itz K q q2) (List.zipWith (fun a b => .tuple [a, b]) ds es) := by
  refine wk_pair (walk_zip (xs := vs) (ys := ws) rfl) (by rw [List.length_zipWith, r.length, r2.length]) (fun H s => ⟨s.seq h, s.seq h2⟩) fun i x y e1 e2 => ?_
  obtain ⟨d, k1, k2⟩ := r.getV e1
  obtain ⟨e, k3, k4⟩ := r2.getV e2
  exact ⟨d, e, zip_at k1 k3, k2, k4⟩
theorem walk_zipT {q q2 : Addr} {xs ys : List V} {n : Nat} (hn : n = min xs.length ys.length) : Walk (RZ.ItzT K q q2) n (fun H => SqT K H q xs ∧ SqT K H q2 ys) (YPair (fun i => xs[i]?) (fun i => ys[i]?)) := by
  refine ⟨fun i H hi g => ?_, fun H g => ⟨xs, ys, g.1, g.2, by omega⟩, fun i H v H' hi g y => ?_⟩
  · exact ⟨xs, ys, xs[i]'(by omega), ys[i]'(by omega), g.1, g.2, List.getElem?_eq_getElem _, List.getElem?_eq_getElem _⟩
  · obtain ⟨T, x, z, f1, f2, f3, f4, f5⟩ := y
    exact ⟨T, x, z, f1, f2, f3, f4 _ g.1, f5 _ g.2⟩
theorem wk_zipT {q q2 : Addr} {vs ws : List V} {ds es : List D} (h : SqT K B q vs) (r : RpA K B vs ds) (h2 : SqT K B q2 ws) (r2 : RpA K B ws es) : Wk K B (RZ.ItzT K q q2) (List.zipWith (fun a b => .tuple [a, b]) ds es) := by
  refine wk_pair (walk_zipT (xs := vs) (ys := ws) rfl) (by rw [List.length_zipWith, r.length, r2.length]) (fun H s => ⟨same_t s h, same_t s h2⟩) fun i x y e1 e2 => ?_
  obtain ⟨d, k1, k2⟩ := r.getV e1
  obtain ⟨e, k3, k4⟩ := r2.getV e2
  exact ⟨d, e, zip_at k1 k3, k2, k4⟩
/-- a list, a tuple or a text is walked -/
def iAnyV (K : Fr) (te : L2.TE) : L2.TI := fun σ H R => te σ H fun x H1 => (∃ q vs, x = .ref q ∧ SqL K H1 q vs ∧ R (Itl K q) H1) ∨ (∃ q vs, x = .ref q ∧ SqT K H1 q vs ∧ R (Itt K q) H1) ∨ ∃ z, x = .str z ∧ R (Its z) H1
theorem pi_anyV {te : L2.TE} (he : PE X e te) : PI X tg e (iAnyV X.K te) := by
  constructor
  intro pins s σ H R I h
  refine thn (he.run pins s σ H _ I h) fun v s1 ⟨x, H1, I1, r1, q1⟩ => ?_
  have new : ∀ (ob : Obj) b, b ∈ [s1.heap.objs.size] → FpOk X pins H1 b := fun ob b hb => by
    rw [List.mem_singleton.mp hb]
    exact I1.fpOk (Nat.le_refl _) (I1.hok.fresh (Nat.le_refl _))
  rcases q1 with ⟨q, vs, ex, hq, k⟩ | ⟨q, vs, ex, hq, k⟩ | ⟨z, ex, k⟩
  · subst ex; cases r1
    obtain ⟨its, _, pl, _⟩ := I1.list hq
    exact wpAny_pyIter_list pl.isList ⟨_, _, _, _, H1, rfl, I1.kept (t' := s1.toks) fun b o z => Heap.get?_push_of_some _ z, turn_list q _, ⟨_, Heap.get?_push_size _ rfl, rfl, rfl⟩, new default, k⟩
  · subst ex; cases r1
    obtain ⟨its, _, pl, _⟩ := I1.tuple hq
    exact wpAny_pyIter_tuple pl ⟨_, _, _, _, H1, rfl, I1.kept (t' := s1.toks) fun b o z => Heap.get?_push_of_some _ z, turn_tuple q _, ⟨_, Heap.get?_push_size _ rfl, rfl, rfl⟩, new default, k⟩
  · subst ex
    obtain ⟨t, rfl⟩ := r1
    cases ha : z.cps.all (· < 128)
    · exact wpAny_pyIter_wide ha (pi_one (tk := s1.toks) I1 _ (turn_str _ z t "str_iterator" (.inr rfl)) ⟨_, Heap.get?_push_size _ rfl, rfl, rfl⟩ k)
    · exact wpAny_pyIter_ascii ha (pi_one (tk := s1.toks) I1 _ (turn_str _ z t "str_ascii_iterator" (.inl rfl)) ⟨_, Heap.get?_push_size _ rfl, rfl, rfl⟩ k)
theorem id_any (he : PR X W e te) : PId X W tg e (iAny te) := pi_imp (pi_anyV he) fun σ H R ⟨B, env, E, P, rel, h, g, k⟩ => rd_fz rel h g fun x e1 v B1 H1 ⟨xs, hx, p1⟩ q1 r1 => by
  have sm := q1.rel.ex
  unfold seqD at hx
  split at hx
  · cases hx
    obtain ⟨q, vs, rfl, h1, h2⟩ := rp_lst r1
    have h3 := SqL.of (K := X.K) h1
    exact .inl ⟨q, vs, rfl, sm.seq h3, k _ _ _ _ _ p1 q1 (wk_list h3 h2)⟩
  · cases hx
    obtain ⟨q, vs, rfl, h1, h2⟩ := rp_tup r1
    exact .inr (.inl ⟨q, vs, rfl, same_t sm h1, k _ _ _ _ _ p1 q1 (wk_tup h1 h2)⟩)
  · cases hx; cases r1
    exact .inr (.inr ⟨_, rfl, k _ _ _ _ _ p1 q1 wk_str⟩)
  · cases hx
    generalize e : PyData.dict [(PyData.none, PyData.list xs)] = d at r1
    cases r1 with
    | scr h1 =>
      have e2 := e
      simp only [scrD, PyData.dict.injEq, List.cons.injEq, Prod.mk.injEq, PyData.list.injEq, true_and, and_true] at e2
      subst e2
      exact .inl ⟨_, _, rfl, sm.seq h1, k _ _ _ _ _ p1 q1 (wk_list h1 .ofInts)⟩
    | dct h1 h2 =>
      cases e
      cases h2 with
      | cons q r _ =>
        rename_i kk _ _ _
        cases kk <;> simp [keyD] at q
    | _ => cases e
  · cases hx
theorem id_range1 (hg : Gl X "range") (hm : X.mg "range" = none) (ha : PR X W a ta) (hs : starEach [a] X.env = (false, eval a X.env) :: starEach [] X.env := by rfl) : PId X W tg (.Call (.Name "range" p) [a] [] pos) (iRange1 ta) :=
  pi_imp (pi_range1 hg hm (pa_cons ha pa_nil hs) hs) fun σ H R ⟨B, env, E, P, rel, h, g, k⟩ => rd_fz rel h g fun x e1 v B1 H1 ⟨j, ej, hj, p1⟩ q1 r1 => by
    subst ej; cases r1
    exact ⟨j, rfl, hj.1, hj.2, k _ _ _ _ _ p1 q1 wk_range⟩
theorem id_range2 (hg : Gl X "range") (hm : X.mg "range" = none) (ha : PR X W a ta) (hb : PR X W b tb) (hs : starEach [a, b] X.env = (false, eval a X.env) :: starEach [b] X.env := by rfl) (hs2 : starEach [b] X.env = (false, eval b X.env) :: starEach [] X.env := by rfl) :
    PId X W tg (.Call (.Name "range" p) [a, b] [] pos) (iRange ta tb) :=
  pi_imp (pi_range2 hg hm (pa_cons ha (pa_cons hb pa_nil hs2) hs) (by rw [hs, hs2]; rfl) hs2) fun σ H R ⟨B, env, E, P, rel, h, g, k⟩ => rd_fz rel h g fun x e1 v B1 H1 h1 q1 r1 => rd_fz q1.rel h1 (g.trans q1) fun y e2 u B2 H2 ⟨i, j, ei, ej, hj, p1⟩ q2 r2 => by
    subst ei ej; cases r1; cases r2
    exact ⟨i, j, rfl, hj, k _ _ _ _ _ p1 (q1.trans q2) wk_range⟩
theorem id_rangeDown {te3 : Expr} (hg : Gl X "range") (hm : X.mg "range" = none) (ha : PR X W a ta) (hb : PR X W b tb) (hc : PE X te3 (tC (.int (-1)))) (hs : starEach [a, b, te3] X.env = (false, eval a X.env) :: starEach [b, te3] X.env := by rfl)
    (hs2 : starEach [b, te3] X.env = (false, eval b X.env) :: starEach [te3] X.env := by rfl) (hs3 : starEach [te3] X.env = (false, eval te3 X.env) :: starEach [] X.env := by rfl) (hpl : (backTo pos (starEach [b, te3] X.env)).any (·.1) = false := by rfl) :
    PId X W tg (.Call (.Name "range" p) [a, b, te3] [] pos) (iRange3 ta tb (-1) fun i j => (i - j).toNat) :=
  pi_imp (pi_range3 hg hm (pa_cons ha (pa_cons hb (pa_cons hc pa_nil hs3) hs2) hs) hs hpl) fun σ H R ⟨B, env, E, P, rel, h, g, k⟩ => rd_fz rel h g fun x e1 v B1 H1 h1 q1 r1 => rd_fz q1.rel h1 (g.trans q1) fun y e2 u B2 H2 ⟨i, j, ei, ej, hj, p1⟩ q2 r2 => by
    subst ei ej; cases r1; cases r2
    exact ⟨i, j, -1, _, rfl, RgC.neg hj.1 hj.2.1 hj.2.2.1 hj.2.2.2, k _ _ _ _ _ p1 (q1.trans q2) wk_rangeC⟩
theorem id_enum {elts : List Expr} {kk : Nat} (hg : Gl X "enumerate") (hm : X.mg "enumerate" = none) (ha : PR X W a ta) (hs : starEach [a] X.env = (false, eval a X.env) :: starEach [] X.env := by rfl) :
    PId X W (.Tuple elts kk tpos) (.Call (.Name "enumerate" p) [a] [] pos) (iEnum ta) :=
  pi_imp (pi_enum hg hm (pa_cons ha pa_nil hs) hs) fun σ H R ⟨B, env, E, P, rel, h, g, k⟩ => rd_fz rel h g fun x e1 v B1 H1 ⟨xs, ex, p1⟩ q1 r1 => by
    subst ex
    obtain ⟨q, vs, rfl, h1, h2⟩ := rp_lst r1
    have h3 := SqL.of (K := X.K) h1
    exact ⟨q, vs, rfl, q1.rel.ex.seq h3, k _ _ _ _ _ p1 q1 (wk_enum h3 h2)⟩
theorem id_zip {elts : List Expr} {kk : Nat} (hg : Gl X "zip") (hm : X.mg "zip" = none) (ha : PR X W a ta) (hb : PR X W b tb)
    (hs : starEach [a, b] X.env = (false, eval a X.env) :: starEach [b] X.env := by rfl) (hs2 : starEach [b] X.env = (false, eval b X.env) :: starEach [] X.env := by rfl) (hpl : (backTo pos (starEach [b] X.env)).any (·.1) = false := by rfl) :
    PId X W (.Tuple elts kk tpos) (.Call (.Name "zip" p) [a, b] [] pos) (iZip ta tb) :=
  pi_imp (RZ.pi_zipA hg hm (pa_cons ha (pa_cons hb pa_nil hs2) hs) hs hpl) fun σ H R ⟨B, env, E, P, rel, h, g, k⟩ => rd_fz rel h g fun x e1 v B1 H1 h1 q1 r1 => rd_fz q1.rel h1 (g.trans q1) fun y e2 u B2 H2 ⟨xs, ys, ex, p1⟩ q2 r2 => by
    have r1 := r1.mono q2.stp.base
    have sm := q2.rel.ex
    rcases ex with ⟨rfl, rfl⟩ | ⟨rfl, rfl⟩
    · obtain ⟨q, vs, rfl, h1, h2⟩ := rp_lst r1
      obtain ⟨q', vs', rfl, h1', h2'⟩ := rp_lst r2
      have h3 := SqL.of (K := X.K) h1
      have h3' := SqL.of (K := X.K) h1'
      exact ⟨q, q', vs, vs', rfl, .inl ⟨sm.seq h3, sm.seq h3', k _ _ _ _ _ p1 (q1.trans q2) (wk_zip h3 h2 h3' h2')⟩⟩
    · obtain ⟨q, vs, rfl, h1, h2⟩ := rp_tup r1
      obtain ⟨q', vs', rfl, h1', h2'⟩ := rp_tup r2
      exact ⟨q, q', vs, vs', rfl, .inr ⟨same_t sm h1, same_t sm h1', k _ _ _ _ _ p1 (q1.trans q2) (wk_zipT h1 h2 h1' h2')⟩⟩
/-! ### a op b op c -/
theorem rdR_chain {r r' : D → D → Option Ret} {σ : St} {H : Hp} {Q : VK} (h : rdR X W (rChain r r' ta tb tc) σ H Q) : tChain (rdOp X r) (rdOp X r') (rdR X W ta) (rdR X W tb) (rdR X W tc) σ H Q := by
  obtain ⟨B, env, E, P, R, t, g, k⟩ := h
  refine rd_fz R t g fun x e1 v B1 H1 p1 q1 r1 => rd_fz q1.rel p1 (g.trans q1) fun y e2 u B2 H2 ⟨kb, hk, p2⟩ q2 r2 => ?_
  have q12 := q1.trans q2
  refine ⟨B2, x, y, _, q2.rel.ex, r1.mono q2.stp.base, r2, hk, fun w B3 H3 s ro => ?_⟩
  have ro : Rp X.K B3 w (.bool kb) := ro
  cases ro
  have q3 := q12.trans (Post.of0 q12.rel s)
  refine ⟨kb, rfl, ?_⟩
  cases kb with
  | true =>
    rw [if_pos rfl] at p2 ⊢
    refine rd_fz q3.rel p2 (g.trans q3) fun z e3 w' B4 H4 ⟨w2, hw, p3⟩ q4 r4 => ?_
    exact ⟨B4, y, z, w2, q4.rel.ex, r2.mono (s.base.trans q4.stp.base), r4, hw, fun v' B5 H5 s5 ro5 => fin0 k (q3.trans q4) p3 s5 ro5⟩
  | false =>
    rw [if_neg Bool.false_ne_true] at p2 ⊢
    exact k _ _ _ _ _ p2 q3 (.bl false) trivial
theorem pr_chain {op op' : CmpOp} {r r' : D → D → Option Ret} (ho : OpD X (compareOp op) r) (ho' : OpD X (compareOp op') r') (ha : PR X W a ta) (hb : PR X W b tb) (hc : PR X W c tc)
    (hm : lastMarks [op, op'] [b, c] = false := by with_unfolding_all rfl) : PR X W (.Compare a [op, op'] [b, c] pos) (rChain r r' ta tb tc) := pe_imp (pe_chain ho ho' ha hb hc hm) fun σ H Q h => rdR_chain h
theorem pb_chain {op op' : CmpOp} {r r' : D → D → Option Ret} (ho : OpD X (compareOp op) r) (ho' : OpD X (compareOp op') r') (ha : PR X W a ta) (hb : PR X W b tb) (hc : PR X W c tc)
    (hm : lastMarks [op, op'] [b, c] = false := by with_unfolding_all rfl) : PB X W (.Compare a [op, op'] [b, c] pos) (bTest (rChain r r' ta tb tc)) :=
  pt_imp (pt_chain ho ho' ha hb hc hm) fun σ H Q ⟨B, env, E, P, R, t, g, k⟩ => rdR_chain ⟨B, env, E, _, R, t, g, fun r env' v B' H' ⟨bb, eb, pb⟩ q ro n => by
    cases r with
    | d x => cases (show x = .bool bb from eb); cases (show Rp X.K B' v (.bool bb) from ro); exact ⟨bb, rfl, k _ _ _ _ pb q⟩
    | own x => cases (show PyData.list x = PyData.bool bb from eb)
    | tab x => cases (show PyData.dict _ = PyData.bool bb from eb)⟩
/-! ### name op= e -/
theorem sd_aug {i : Nat} {x : Str} {op : Operator} {r : D → D → Option Ret} {pos' : Pos} (hN : X.N.Nodup) (hi : X.N[i]? = some x) (hx : Loc X.env.scope x) (he : PR X W e te) (ho : OpD X (inplaceOp op) r) (hf : X.fn x = true ∨ X.env.scope.names.lookup x = some .local := by first | exact .inl rfl | exact .inr rfl | assumption) :
    PSd X W (.AugAssign (.Name x pos') op e pos) (sAug i r te) := ps_imp (ps_aug (ti := rdOp X r) hN hi hx he (fun pins s σ H x y v u Q I rx ry h => ho pins s σ H x y v u Q I rx ry h) hf) fun D σ H ⟨B, env, E, R, ⟨x, hx, h⟩, g⟩ => by
  obtain ⟨hl, _⟩ := List.getElem?_eq_some_iff.mp hx
  have hj : i < σ.length := by rw [← R.len]; exact hl
  obtain ⟨v, ev, rv⟩ := R.ok i _ _ hx (List.getElem?_eq_getElem hj)
  refine ⟨v, by rw [List.getElem?_eq_getElem hj, ev], rd_fz R h g.good fun y e1 u B1 H1 ⟨z, hz, p⟩ q ru => ?_⟩
  refine ⟨B1, x, y, z, q.rel.ex, rv.mono q.stp.base, ru, hz, fun w B2 H2 s ro => ?_⟩
  have q2 := q.trans (Post.of0 q.rel s)
  obtain ⟨ro, nw⟩ := ro.ok q.rel
  exact g.nx _ _ _ _ p (q2.asg i ro (New.transS q nw))
/-! ### slices -/
theorem od_none : POd X W none oNone := po_imp po_none fun σ H Q ⟨B, env, E, P, R, h, g, k⟩ => k _ _ _ _ h (.refl R)
theorem od_some (he : PR X W e te) : POd X W (some e) (oSome te) := po_imp (po_some he) fun σ H Q ⟨B, env, E, P, R, h, g, k⟩ => rd_fz R h g fun x e1 v B1 H1 ⟨i, ei, p1⟩ q1 r1 => by
  subst ei; cases r1
  exact ⟨i, rfl, k _ _ _ _ p1 q1⟩
theorem pr_sl {lo hi : Option Expr} {tl th : PD.TO} {r : D → Option Int → Option Int → Option Ret} (hr : SlD X r) (he : PR X W e te) (hl : POd X W lo tl) (hu : POd X W hi th) : PR X W (.Subscript e (.Slice lo hi none p2) pos) (rSl r te tl th) :=
  pe_imp (pe_slice hr he hl hu) fun σ H Q ⟨B, env, E, P, R, h, g, k⟩ => rd_fz R h g fun x e1 v B1 H1 h1 q1 r1 =>
    ⟨B1, e1, E, _, q1.rel, h1, g.trans q1, fun l e2 B2 H2 h2 q2 => ⟨B2, e2, E, _, q2.rel, h2, g.trans (q1.trans q2), fun u e3 B3 H3 ⟨z, hz, p⟩ q3 =>
      have q := (q1.trans q2).trans q3
      ⟨B3, x, z, q.rel.ex, r1.mono (q2.trans q3).stp.base, hz, fun w B4 H4 s ro => fin0 k q p s ro⟩⟩⟩
/-! ### built-ins -/
variable {es : List Expr} {ts : PD.TA} {x : Str}
theorem pr_callB {id : String} {r : List D → Option Ret} (hc : ClD X (.builtin id) r) (hg : Gl X x) (hm : X.mg x = none) (hv : bootBuiltins x = some (.builtin id)) (ha : PAd X W (e :: es) ts) (hn : x ≠ "__name__" := by decide) (hdb : (x == ("__debug__" : Str)) = false := by decide)
    (he : starEach (e :: es) X.env = (false, eval e X.env) :: starEach es X.env := by rfl) (hpl : (backTo pos (starEach es X.env)).any (·.1) = false := by rfl) : PR X W (.Call (.Name x p) (e :: es) [] pos) (rCB r ts) :=
  pe_imp (pe_callB hc hg hm hv ha hn hdb he hpl) fun σ H Q ⟨B, env, E, P, R, h, g, k⟩ => ⟨B, env, E, _, R, h, g, fun xs e1 vs B1 H1 ⟨z, hz, p⟩ q rv => ⟨B1, xs, z, q.rel.ex, rv, hz, fun w B2 H2 s ro => fin0 k q p s ro⟩⟩
theorem pr_callTy {T : String} {r : List D → Option Ret} (hc : ClD X (.type T) r) (hg : Gl X x) (hm : X.mg x = none) (hv : bootBuiltins x = some (.type T)) (ha : PAd X W (e :: es) ts) (hn : x ≠ "__name__" := by decide) (hdb : (x == ("__debug__" : Str)) = false := by decide)
    (he : starEach (e :: es) X.env = (false, eval e X.env) :: starEach es X.env := by rfl) (hpl : (backTo pos (starEach es X.env)).any (·.1) = false := by rfl) : PR X W (.Call (.Name x p) (e :: es) [] pos) (rCB r ts) :=
  pe_imp (pe_callTy hc hg hm hv ha hn hdb he hpl) fun σ H Q ⟨B, env, E, P, R, h, g, k⟩ => ⟨B, env, E, _, R, h, g, fun xs e1 vs B1 H1 ⟨z, hz, p⟩ q rv => ⟨B1, xs, z, q.rel.ex, rv, hz, fun w B2 H2 s ro => fin0 k q p s ro⟩⟩
/-- a built-in method that changes nothing; its receiver's type -/
def tyD : D → String
  | .none => "NoneType"
  | .bool _ => "bool"
  | .int _ => "int"
  | .str _ => "str"
  | .list _ => "list"
  | .tuple _ => "tuple"
  | .dict _ => "dict"
end
end PD
end PDl_
section PDm_
set_option Elab.async false
set_option linter.all false
set_option maxRecDepth 100000
set_option maxHeartbeats 4000000
/-! PDm: set(xs) of keys (ints, texts), its len. -/
namespace PD
open PySem PySem.Spec PyProof.Rows L2

/-- the different ones, each at its first place -/
def hasK {α : Type} [DecidableEq α] (acc : List α) (x : α) : Bool := acc.any fun y => decide (x = y)
theorem hasK_iff {α : Type} [DecidableEq α] {acc : List α} {x : α} : hasK acc x = true ↔ x ∈ acc := by unfold hasK; simp
def uniqStep {α : Type} [DecidableEq α] (acc : List α) (x : α) : List α := if hasK acc x = true then acc else acc ++ [x]
def uniq {α : Type} [DecidableEq α] (xs : List α) : List α := xs.foldl uniqStep []
theorem uniq_snoc {α : Type} [DecidableEq α] (xs : List α) (x : α) : uniq (xs ++ [x]) = uniqStep (uniq xs) x := by unfold uniq; rw [List.foldl_append]; rfl
theorem uniq_le {α : Type} [DecidableEq α] (xs : List α) : (uniq xs).length ≤ xs.length := by
  have go : ∀ (xs acc : List α), (xs.foldl uniqStep acc).length ≤ acc.length + xs.length := fun xs => by
    induction xs with
    | nil => intro acc; simp
    | cons x xs ih =>
      intro acc
      have h := ih (uniqStep acc x)
      have h2 : (uniqStep acc x).length ≤ acc.length + 1 := by unfold uniqStep; split <;> simp
      simp only [List.foldl_cons, List.length_cons]; omega
  have := go xs []
  unfold uniq
  simpa using this
abbrev nSet (led : Bool) : Obj := { cls := .type "set", dict := none, data := .set #[] 0 (.fresh 0 0 led) }
abbrev lIt (l : Addr) : Obj := { cls := .type "list_iterator", data := .fields #[.ref l, .int 0 0] }
theorem setOf_eq {P : Program} {w : World} {K' : Type} [DecidableEq K'] {knd : KeyKind P w K'} {h : Heap} {a : Addr} {S S' : K' → Bool} {c c' : Nat} (z : h.SetOf knd a S c) (e : ∀ k, S k = S' k) (ec : c = c') : h.SetOf knd a S' c' := by
  obtain rfl : S = S' := funext e
  exact ec ▸ z
section
variable {P : Program} {w : World} {A : Around} {R : Result → Shared → Prop} {I : Addr} {fp wr : List Addr} {G : Array GenState → Array GenState → Prop} {n : Nat} {Pi : Nat → Value → Prop} {St' : Nat → Shared → Prop}
theorem key_loop (wk : WalksS P w A.in1 I fp wr G n Pi St') (T : Addr) (hT : T ∉ fp) (ks : List Key) (hn : ks.length = n) (hk : ∀ j v, Pi j v → ∃ k, ks[j]? = some k ∧ RelV (kV k) v) (room : n + 1 < scanBound) :
    ∀ (m j : Nat) (s : Shared), n - j = m → j ≤ n → St' j s → s.heap.SetOf (mixKind P w) T (hasK (uniq (ks.take j))) (uniq (ks.take j)).length →
      (∀ s', Moved (T :: wr) G s s' → s'.heap.SetOf (mixKind P w) T (hasK (uniq ks)) (uniq ks).length → R (.ok (.ret .none)) s') →
      codeAny (model P w) A (.builtin "set.update.loop" ⟨[.ref T, .ref I], []⟩) R s := by
  have hTw : T ∉ wr := fun z => hT (wk.sub _ z)
  have up : ∀ b ∈ wr, b ∈ T :: wr := fun b z => List.mem_cons_of_mem _ z
  have stay : ∀ {s s' : Shared} {S : Key → Bool} {c : Nat}, Moved wr G s s' → s.heap.SetOf (mixKind P w) T S c → s'.heap.SetOf (mixKind P w) T S c := fun mv ⟨o, es, ep, t, ho, z⟩ => ⟨o, es, ep, t, mv.heap T _ hTw ho, z⟩
  intro m
  induction m with
  | zero =>
    intro j s e1 e2 st hS fin
    obtain rfl : j = n := by omega
    refine codeAny_builtin PyProof.Rows.F.entry_set_update_loop ?_
    rw [Around.under_plainId PyProof.Rows.F.plain_set_update_loop _]
    refine wpAny_bind (m := pyNext (.ref I)) (wk.done s _ _ st fun s' mv => ?_)
    refine wpAny_pure (fin s' (mv.mono up) ?_)
    have z := stay mv hS
    rw [← hn, List.take_length] at z
    exact z
  | succ m ih =>
    intro j s e1 e2 st hS fin
    have lt : j < n := by omega
    refine codeAny_builtin PyProof.Rows.F.entry_set_update_loop ?_
    rw [Around.under_plainId PyProof.Rows.F.plain_set_update_loop _]
    refine wpAny_bind (m := pyNext (.ref I)) (wk.item j s _ _ lt st fun v s1 hv st1 mv => ?_)
    obtain ⟨k, ek, rk⟩ := hk j v hv
    have hS1 := stay mv hS
    have len : (uniq (ks.take j)).length ≤ j := Nat.le_trans (uniq_le _) (by rw [List.length_take]; omega)
    have et : ks.take (j + 1) = ks.take j ++ [k] := by rw [List.take_add_one, ek]; rfl
    refine wpAny_bind (m := holding [v] (setAdd T v)) (wpAny_holding ?_)
    unfold setAdd
    refine wpAny_holding (wpAny_bind ((mixKind P w).pyHash (kV_is rk) ?_))
    refine wpAny_setAddHashed_of (s := { s1 with toks := s1.toks + 1 }) (kV_is rk) (key_scan rk) hS1 (by omega) fun h2 sb hS2 => ?_
    have hS3 : h2.SetOf (mixKind P w) T (hasK (uniq (ks.take (j + 1)))) (uniq (ks.take (j + 1))).length := by
      rw [et, uniq_snoc]
      refine setOf_eq hS2 (fun k' => ?_) ?_
      · unfold uniqStep
        cases h : hasK (uniq (ks.take j)) k with
        | true =>
          rw [if_pos rfl]
          by_cases e : k' = k
          · subst e; simp [h]
          · simp [e]
        | false =>
          rw [if_neg Bool.false_ne_true]
          unfold hasK
          rw [List.any_append, List.any_cons, List.any_nil, Bool.or_false]
      · unfold uniqStep
        cases h : hasK (uniq (ks.take j)) k <;> simp
    refine wpAny_pure ⟨plainId_quiet PyProof.Rows.F.plain_set_update_loop _, ih (j + 1) _ (by omega) lt (wk.frame _ s1 _ _ st1 (Nat.le_succ _) fun b hb o e => ?_) hS3 fun s2 mv2 z => ?_⟩
    · rw [sb.2 b (fun q : b = T => hT (q ▸ hb))]; exact e
    · refine fin s2 (Moved.trans wk.gtrans ((mv.mono up).then_heap (Nat.le_succ _) fun b o hb e => ?_) mv2) z
      rw [sb.2 b (fun q : b = T => hb (q ▸ List.mem_cons_self))]; exact e
end
theorem vals_key {ks : List Key} {us : List Value} (r : Vals (ks.map kV) us) {j : Nat} {v : Value} (h : us[j]? = some v) : ∃ k, ks[j]? = some k ∧ RelV (kV k) v := by
  have hl : us.length = ks.length := by rw [← r.length, List.length_map]
  obtain ⟨hj, _⟩ := List.getElem?_eq_some_iff.mp h
  have hj2 : j < ks.length := by omega
  obtain ⟨u, e1, e2⟩ := r.get (i := j) (x := kV ks[j]) (by simp [hj2])
  rw [h] at e1; cases e1
  exact ⟨_, List.getElem?_eq_getElem hj2, e2⟩
section
variable {P : Program} {w : World} {A : Around} {E : Value → Shared → Prop} {s : Shared}
theorem set_of_keys {l : Addr} {us : List Value} {ks : List Key} {Q : Value → Shared → Prop} (hh : A.handled = none) (hl : s.heap.IsList l us.toArray) (r : Vals (ks.map kV) us) (room : ks.length + 1 < scanBound)
    (q : ∀ (h' : Heap) (tk : Nat), h'.SetOf (mixKind P w) s.heap.objs.size (hasK (uniq ks)) (uniq ks).length → (∀ b o, b < s.heap.objs.size → s.heap.get? b = some o → h'.get? b = some o) → Q (.ref s.heap.objs.size) { s with heap := h', toks := tk }) :
    wpAny (model P w) A (call (.type "set") [.ref l]) Q E s := by
  have hlen : us.length = ks.length := by rw [← r.length, List.length_map]
  obtain ⟨c, tl, hmro⟩ := PySem.F.called_set.mro
  have f1 := PySem.F.called_set.made
  have f2 := PySem.F.called_set.sub
  have f3 := PySem.F.called_set.notType
  have f4 := PySem.F.called_set.canCreate
  have f5 := PySem.F.typeCall_set_1 (.ref l)
  have ex : codeAny (model P w) A (.builtin "type.__call__" ⟨[.type "set", .ref l], []⟩) (wants Q E) s := by
    refine codeAny_builtin PySem.F.entry_type_call ?_
    rw [Around.under_plain (weight_type_call_type "set" [.ref l] []) rfl]
    repeat (any_goals (first | assumption | wp_step))
    refine codeAny_mono (code_set_new_1 (.ref l) (E := E) (Q₁ := fun ob s1 => ∃ led, ob = .ref s.heap.objs.size ∧ s1 = { s with heap := s.heap.push (nSet led) }) fun led => ⟨led, rfl, rfl⟩) fun res s1 hr => ?_
    match res, hr with
    | .error e, hr => exact hr
    | .ok .next, hr => exact hr.elim
    | .ok .brk, hr => exact hr.elim
    | .ok .cont, hr => exact hr.elim
    | .ok (.ret ob), hr =>
      obtain ⟨led, rfl, rfl⟩ := hr
      have hS : (s.heap.push (nSet led)).get? s.heap.objs.size = some (nSet led) := Heap.get?_push_size _ rfl
      have ty : Shared.TypeIs { s with heap := s.heap.push (nSet led) } (.ref s.heap.objs.size) "set" := ⟨_, hS, rfl⟩
      have g1 := PySem.F.called_set.init.lookup
      have g2 := PySem.F.called_set.init.bind (.ref s.heap.objs.size)
      repeat (any_goals (first | assumption | wp_step))
      refine codeAny_mono (codeAny_call_builtin (R := wants (fun rr s2 => rr = .none ∧ ∃ h' tk, s2 = { s with heap := h', toks := tk } ∧ h'.SetOf (mixKind P w) s.heap.objs.size (hasK (uniq ks)) (uniq ks).length ∧ ∀ b o, b < s.heap.objs.size → s.heap.get? b = some o → h'.get? b = some o) E)
        PySem.F.called_set.init.plain PySem.F.entry_set_init (check_set_init_1 ty ?_)) fun res2 s2 hr2 => ?_
      · obtain ⟨⟨oc, od, dt, osl⟩, hol, hcl, nl, hdl⟩ := hl
        cases hcl; cases hdl
        have hol2 : (s.heap.push (nSet led)).get? l = some { cls := .type "list", dict := od, data := .seq us.toArray nl, slots := osl } := Heap.get?_push_of_some _ hol
        have g3 := PySem.F.sub_list_set
        have g4 := PySem.F.sub_list_frozenset
        have g5 : (Value.type "list" == Value.type "dict") = false := by decide
        have hl1 : (s.heap.push (nSet led)).IsList l us.toArray := ⟨_, hol2, rfl, nl, rfl⟩
        unfold Builtin.«set.__init__» noKeywords Builtin.Frozenset.updateFrom
        generalize hit : pyIter = pit
        wp_walk
        subst hit
        refine wpAny_pyIter_list hl1 (wpAny_bind (wpAny_runValue ?_))
        have ll : l < s.heap.objs.size := Heap.lt_size hol
        have sz : (s.heap.push (nSet led)).objs.size = s.heap.objs.size + 1 := Heap.size_push _ _
        refine key_loop ((Walks.list (A := A.in1.in1.in1) (by simp [hh]) (s.heap.push (nSet led)).objs.size l (by rw [sz]; exact Nat.ne_of_lt (Nat.lt_succ_of_lt ll)) us.toArray).toS) s.heap.objs.size (by rw [sz]; simp only [List.mem_cons, List.not_mem_nil, or_false, not_or]; exact ⟨Nat.ne_of_lt (Nat.lt_succ_self _), Nat.ne_of_gt ll⟩) ks (by rw [List.size_toArray]; exact hlen.symm)
          (fun j v hv => vals_key r (by simpa using hv)) (by rw [List.size_toArray, hlen]; exact room) (us.toArray.size - 0) 0 _ rfl (Nat.zero_le _) ⟨⟨_, Heap.get?_push_size _ rfl, rfl, rfl⟩, hl1.push _⟩ ?_ fun s3 mv z => ?_
        · have hg : ((s.heap.push (nSet led)).push (lIt l)).get? s.heap.objs.size = some (nSet led) := Heap.get?_push_of_some _ hS
          exact ⟨_, #[], 0, _, hg, ⟨rfl, rfl, rfl⟩, rfl, (fun e he => by simp at he), (fun k => by simp [uniq, hasK]), (by decide), (by rfl), rfl⟩
        · obtain ⟨h3, g3', d3, t3, o3⟩ := s3
          obtain rfl : g3' = s.gens := mv.gens
          obtain rfl : d3 = s.drawn := mv.drawn
          obtain rfl : o3 = s.os := mv.os
          refine wpAny_pure (wpAny_pure ⟨rfl, h3, t3, rfl, z, fun b o hb e => ?_⟩)
          refine mv.heap b o ?_ (Heap.get?_push_of_some _ (Heap.get?_push_of_some _ e))
          rw [sz]; simp only [List.mem_cons, List.not_mem_nil, or_false, not_or]; exact ⟨Nat.ne_of_lt hb, Nat.ne_of_lt (Nat.lt_succ_of_lt hb)⟩
      · match res2, hr2 with
        | .error e, hr2 => exact hr2
        | .ok .next, hr2 => exact hr2.elim
        | .ok .brk, hr2 => exact hr2.elim
        | .ok .cont, hr2 => exact hr2.elim
        | .ok (.ret rr), hr2 =>
          obtain ⟨rfl, h', tk, rfl, z, kp⟩ := hr2
          repeat (any_goals (first | assumption | wp_step))
          exact q _ _ z kp
  refine wpAny_call (codeAny_of_tree ?_)
  exact wpAny_pure ⟨Code.quiet_builtin _ (by decide +kernel), ex⟩
end
end PD
end PDm_
section PDn_
set_option Elab.async false
set_option linter.all false
set_option maxRecDepth 100000
set_option maxHeartbeats 2000000
/-! PDn: the built-in functions over values. -/
namespace PD
open PySem PySem.Spec PyProof.Rows L2

section
variable {X : Cx} {W : WX} {K : Fr} {B H B1 H1 : Hp} {e a b : Expr} {te ta tb : TR} {pos p p2 q apos cpos : Pos}
theorem rpa1 {vs : List V} {d : D} (h : RpA K B vs [d]) : ∃ v, vs = [v] ∧ Rp K B v d := by
  cases h with
  | cons a t => cases t; exact ⟨_, rfl, a⟩
theorem rpa2 {vs : List V} {d d2 : D} (h : RpA K B vs [d, d2]) : ∃ v u, vs = [v, u] ∧ Rp K B v d ∧ Rp K B u d2 := by
  cases h with
  | cons a t => obtain ⟨u, rfl, h2⟩ := rpa1 t; exact ⟨_, _, rfl, a, h2⟩
/-! len -/
def dLen : List D → Option Ret
  | [.list xs] => some (.d (.int xs.length))
  | [.dict [(.none, .list xs)]] => some (.d (.int xs.length))
  | [.tuple xs] => some (.d (.int xs.length))
  | [.str z] => if z.length ≤ 16777216 then some (.d (.int z.length)) else none
  | _ => none
theorem cd_len : ClD X (.builtin "len") dLen := cld call_len fun xs ds z B H Q sm r1 hz k => by
  unfold dLen at hz
  split at hz
  · cases hz
    obtain ⟨v, rfl, h⟩ := rpa1 r1
    obtain ⟨l, vs, rfl, h1, h2⟩ := rp_lst h
    exact ⟨_, _, rfl, .inl ⟨vs, SqL.of (sm _ _ h1), rfl⟩, by rw [h2.length]; exact k _ B H (.refl sm) (.int _)⟩
  · cases hz
    obtain ⟨v, rfl, h⟩ := rpa1 r1
    obtain ⟨l, vs, rfl, h1, h2⟩ := rp_seqL h rfl
    exact ⟨_, _, rfl, .inl ⟨vs, sm.seq h1, rfl⟩, by rw [h2.length]; exact k _ B H (.refl sm) (.int _)⟩
  · cases hz
    obtain ⟨v, rfl, h⟩ := rpa1 r1
    obtain ⟨l, vs, rfl, h1, h2⟩ := rp_tup h
    exact ⟨_, _, rfl, .inr ⟨vs, same_t sm h1, rfl⟩, by rw [h2.length]; exact k _ B H (.refl sm) (.int _)⟩
  · split at hz
    · cases hz
      obtain ⟨v, rfl, h⟩ := rpa1 r1
      cases h
      exact ⟨_, _, rfl, ⟨by rw [szl]; assumption, rfl⟩, k _ B H (.refl sm) (.int _)⟩
    · cases hz
  · cases hz
/-! lists of ints, of bools -/
def intsOf : List D → Option (List Int)
  | [] => some []
  | .int i :: r => (intsOf r).map (i :: ·)
  | _ => none
def boolsOf : List D → Option (List Bool)
  | [] => some []
  | .bool i :: r => (boolsOf r).map (i :: ·)
  | _ => none
def strsOf : List D → Option (List Str)
  | [] => some []
  | .str i :: r => (strsOf r).map (i :: ·)
  | _ => none
theorem intsOf_some : ∀ {ds : List D} {ns : List Int}, intsOf ds = some ns → ds = ns.map .int
  | [], _, h => by cases h; rfl
  | .int i :: r, ns, h => by
    unfold intsOf at h
    cases q : intsOf r with
    | none => rw [q] at h; cases h
    | some m => rw [q] at h; cases h; rw [intsOf_some q]; rfl
  | .none :: _, _, h => by cases h
  | .bool _ :: _, _, h => by cases h
  | .str _ :: _, _, h => by cases h
  | .list _ :: _, _, h => by cases h
  | .tuple _ :: _, _, h => by cases h
  | .dict _ :: _, _, h => by cases h
theorem boolsOf_some : ∀ {ds : List D} {ns : List Bool}, boolsOf ds = some ns → ds = ns.map .bool
  | [], _, h => by cases h; rfl
  | .bool i :: r, ns, h => by
    unfold boolsOf at h
    cases q : boolsOf r with
    | none => rw [q] at h; cases h
    | some m => rw [q] at h; cases h; rw [boolsOf_some q]; rfl
  | .none :: _, _, h => by cases h
  | .int _ :: _, _, h => by cases h
  | .str _ :: _, _, h => by cases h
  | .list _ :: _, _, h => by cases h
  | .tuple _ :: _, _, h => by cases h
  | .dict _ :: _, _, h => by cases h
theorem strsOf_some : ∀ {ds : List D} {ns : List Str}, strsOf ds = some ns → ds = ns.map .str
  | [], _, h => by cases h; rfl
  | .str i :: r, ns, h => by
    unfold strsOf at h
    cases q : strsOf r with
    | none => rw [q] at h; cases h
    | some m => rw [q] at h; cases h; rw [strsOf_some q]; rfl
  | .none :: _, _, h => by cases h
  | .int _ :: _, _, h => by cases h
  | .bool _ :: _, _, h => by cases h
  | .list _ :: _, _, h => by cases h
  | .tuple _ :: _, _, h => by cases h
  | .dict _ :: _, _, h => by cases h
@[simp] theorem intsOf_map (ns : List Int) : intsOf (ns.map .int) = some ns := by induction ns <;> simp_all [intsOf]
@[simp] theorem boolsOf_map (ns : List Bool) : boolsOf (ns.map .bool) = some ns := by induction ns <;> simp_all [boolsOf]
@[simp] theorem strsOf_map (ns : List Str) : strsOf (ns.map .str) = some ns := by induction ns <;> simp_all [strsOf]
/-- what a function of a list of ints gives -/
def onInts (g : List Int → Option Ret) : List D → Option Ret
  | [.list xs] => (intsOf xs).bind g
  | _ => none
def onBools (g : List Bool → Option Ret) : List D → Option Ret
  | [.list xs] => (boolsOf xs).bind g
  | _ => none
theorem onInts_some {g : List Int → Option Ret} {ds : List D} {z : Ret} (h : onInts g ds = some z) : ∃ ns : List Int, ds = [.list (ns.map .int)] ∧ g ns = some z := by
  unfold onInts at h
  split at h
  · rename_i xs
    cases q : intsOf xs with
    | none => rw [q] at h; cases h
    | some ns => rw [q] at h; exact ⟨ns, by rw [intsOf_some q], h⟩
  · cases h
theorem onBools_some {g : List Bool → Option Ret} {ds : List D} {z : Ret} (h : onBools g ds = some z) : ∃ ns : List Bool, ds = [.list (ns.map .bool)] ∧ g ns = some z := by
  unfold onBools at h
  split at h
  · rename_i xs
    cases q : boolsOf xs with
    | none => rw [q] at h; cases h
    | some ns => rw [q] at h; exact ⟨ns, by rw [boolsOf_some q], h⟩
  · cases h
theorem ints_at {vs : List V} {ns : List Int} (h : RpA K B vs [.list (ns.map .int)]) : ∃ l, vs = [.ref l] ∧ B l = some (.lst (ns.map .int)) := by
  obtain ⟨v, rfl, hh⟩ := rpa1 h
  obtain ⟨l, vs, rfl, h1, h2⟩ := rp_lst hh
  rw [RpA.ints h2] at h1
  exact ⟨l, rfl, h1⟩
theorem bools_at {vs : List V} {ns : List Bool} (h : RpA K B vs [.list (ns.map .bool)]) : ∃ l, vs = [.ref l] ∧ B l = some (.lst (ns.map .bl)) := by
  obtain ⟨v, rfl, hh⟩ := rpa1 h
  obtain ⟨l, vs, rfl, h1, h2⟩ := rp_lst hh
  rw [RpA.bls h2] at h1
  exact ⟨l, rfl, h1⟩
def dSum := onInts fun ns => some (.d (.int ns.sum))
def dSorted := onInts fun ns => some (.own ((PySem.W.sortI ns).map .int))
def dAny := onBools fun bs => some (.d (.bool (bs.any id)))
def dAll := onBools fun bs => some (.d (.bool (bs.all id)))
def maxI : List Int → Option Int
  | [] => none
  | x :: xs => some (xs.foldl max x)
def minI : List Int → Option Int
  | [] => none
  | x :: xs => some (xs.foldl min x)
theorem foldl_max : ∀ (xs : List Int) (x : Int), (xs.foldl max x = x ∨ xs.foldl max x ∈ xs) ∧ x ≤ xs.foldl max x ∧ ∀ y ∈ xs, y ≤ xs.foldl max x
  | [], x => by simp
  | y :: ys, x => by
    obtain ⟨h1, h2, h3⟩ := foldl_max ys (max x y)
    simp only [List.foldl_cons]
    refine ⟨?_, by omega, fun z hz => ?_⟩
    · rcases h1 with h1 | h1
      · rw [h1]
        by_cases h : x ≤ y
        · right; simp; left; omega
        · left; omega
      · right; exact List.mem_cons_of_mem _ h1
    · rcases List.mem_cons.mp hz with rfl | hz
      · omega
      · exact h3 z hz
theorem foldl_min : ∀ (xs : List Int) (x : Int), (xs.foldl min x = x ∨ xs.foldl min x ∈ xs) ∧ xs.foldl min x ≤ x ∧ ∀ y ∈ xs, xs.foldl min x ≤ y
  | [], x => by simp
  | y :: ys, x => by
    obtain ⟨h1, h2, h3⟩ := foldl_min ys (min x y)
    simp only [List.foldl_cons]
    refine ⟨?_, by omega, fun z hz => ?_⟩
    · rcases h1 with h1 | h1
      · rw [h1]
        by_cases h : y ≤ x
        · right; simp; left; omega
        · left; omega
      · right; exact List.mem_cons_of_mem _ h1
    · rcases List.mem_cons.mp hz with rfl | hz
      · omega
      · exact h3 z hz
theorem maxI_spec {ns : List Int} {m : Int} (h : maxI ns = some m) : m ∈ ns ∧ ∀ y ∈ ns, y ≤ m := by
  cases ns with
  | nil => cases h
  | cons x xs =>
    cases h
    obtain ⟨h1, h2, h3⟩ := foldl_max xs x
    refine ⟨?_, fun y hy => ?_⟩
    · rcases h1 with h1 | h1
      · rw [h1]; exact List.mem_cons_self
      · exact List.mem_cons_of_mem _ h1
    · rcases List.mem_cons.mp hy with rfl | hy
      · exact h2
      · exact h3 y hy
theorem minI_spec {ns : List Int} {m : Int} (h : minI ns = some m) : m ∈ ns ∧ ∀ y ∈ ns, m ≤ y := by
  cases ns with
  | nil => cases h
  | cons x xs =>
    cases h
    obtain ⟨h1, h2, h3⟩ := foldl_min xs x
    refine ⟨?_, fun y hy => ?_⟩
    · rcases h1 with h1 | h1
      · rw [h1]; exact List.mem_cons_self
      · exact List.mem_cons_of_mem _ h1
    · rcases List.mem_cons.mp hy with rfl | hy
      · exact h2
      · exact h3 y hy
def dMax1 := onInts fun ns => (maxI ns).map fun m => .d (.int m)
def dMin1 := onInts fun ns => (minI ns).map fun m => .d (.int m)
theorem cd_sum (hc : X.calm = true) : ClD X (.builtin "sum") dSum := cld (cr_sum hc) fun xs ds z B H Q sm r1 hz k => by
  obtain ⟨ns, rfl, hz2⟩ := onInts_some hz
  cases hz2
  obtain ⟨l, rfl, h1⟩ := ints_at r1
  exact ⟨l, ns, rfl, SqL.of (sm _ _ h1), k _ B H (.refl sm) (.int _)⟩
theorem cd_any (hc : X.calm = true) : ClD X (.builtin "any") dAny := cld (cr_any hc) fun xs ds z B H Q sm r1 hz k => by
  obtain ⟨ns, rfl, hz2⟩ := onBools_some hz
  cases hz2
  obtain ⟨l, rfl, h1⟩ := bools_at r1
  exact ⟨l, ns, rfl, SqL.of (sm _ _ h1), k _ B H (.refl sm) (.bl _)⟩
theorem cd_all (hc : X.calm = true) : ClD X (.builtin "all") dAll := cld (cr_all hc) fun xs ds z B H Q sm r1 hz k => by
  obtain ⟨ns, rfl, hz2⟩ := onBools_some hz
  cases hz2
  obtain ⟨l, rfl, h1⟩ := bools_at r1
  exact ⟨l, ns, rfl, SqL.of (sm _ _ h1), k _ B H (.refl sm) (.bl _)⟩
theorem cd_sorted : ClD X (.builtin "sorted") dSorted := cld cr_sortedI fun xs ds z B H Q sm r1 hz k => by
  obtain ⟨ns, rfl, hz2⟩ := onInts_some hz
  cases hz2
  obtain ⟨l, rfl, h1⟩ := ints_at r1
  refine ⟨l, ns, rfl, SqL.of (sm _ _ h1), fun ns' q hp hs hq => ?_⟩
  rw [PySem.W.eq_sortI hp hs]
  obtain ⟨s0, r0⟩ := ret_own sm hq (RpA.ofInts (ns := PySem.W.sortI ns))
  exact k _ _ _ s0 r0
theorem cd_max1 (hc : X.calm = true) : ClD X (.builtin "max") dMax1 := cld (cr_max hc) fun xs ds z B H Q sm r1 hz k => by
  obtain ⟨ns, rfl, hz2⟩ := onInts_some hz
  cases e : maxI ns with
  | none => rw [e] at hz2; cases hz2
  | some m =>
    rw [e] at hz2; cases hz2
    obtain ⟨l, rfl, h1⟩ := ints_at r1
    obtain ⟨g1, g2⟩ := maxI_spec e
    refine ⟨l, ns, rfl, SqL.of (sm _ _ h1), List.length_pos_of_mem g1, fun m' h2 h3 => ?_⟩
    obtain rfl : m' = m := Int.le_antisymm (g2 _ h2) (h3 _ g1)
    exact k _ B H (.refl sm) (.int _)
theorem cd_min1 (hc : X.calm = true) : ClD X (.builtin "min") dMin1 := cld (cr_min hc) fun xs ds z B H Q sm r1 hz k => by
  obtain ⟨ns, rfl, hz2⟩ := onInts_some hz
  cases e : minI ns with
  | none => rw [e] at hz2; cases hz2
  | some m =>
    rw [e] at hz2; cases hz2
    obtain ⟨l, rfl, h1⟩ := ints_at r1
    obtain ⟨g1, g2⟩ := minI_spec e
    refine ⟨l, ns, rfl, SqL.of (sm _ _ h1), List.length_pos_of_mem g1, fun m' h2 h3 => ?_⟩
    obtain rfl : m' = m := Int.le_antisymm (h3 _ g1) (g2 _ h2)
    exact k _ B H (.refl sm) (.int _)
/-! ints -/
def two (g : Int → Int → Int) : List D → Option Ret
  | [.int i, .int j] => some (.d (.int (g i j)))
  | _ => none
theorem two_some {g : Int → Int → Int} {ds : List D} {z : Ret} (h : two g ds = some z) : ∃ i j, ds = [.int i, .int j] ∧ z = .d (.int (g i j)) := by
  unfold two at h
  split at h
  · cases h; exact ⟨_, _, rfl, rfl⟩
  · cases h
def dMax2 := two max
def dMin2 := two min
theorem cd_max2 (hc : X.calm = true) : ClD X (.builtin "max") dMax2 := cld (call_max2 hc) fun xs ds z B H Q sm r1 hz k => by
  obtain ⟨i, j, rfl, rfl⟩ := two_some hz
  obtain ⟨v, u, rfl, h1, h2⟩ := rpa2 r1
  cases h1; cases h2
  refine ⟨i, j, rfl, ?_⟩
  have e : (if j > i then j else i) = max i j := by split <;> omega
  rw [e]
  exact k _ B H (.refl sm) (.int _)
theorem cd_min2 (hc : X.calm = true) : ClD X (.builtin "min") dMin2 := cld (call_min2 hc) fun xs ds z B H Q sm r1 hz k => by
  obtain ⟨i, j, rfl, rfl⟩ := two_some hz
  obtain ⟨v, u, rfl, h1, h2⟩ := rpa2 r1
  cases h1; cases h2
  refine ⟨i, j, rfl, ?_⟩
  have e : (if j < i then j else i) = min i j := by split <;> omega
  rw [e]
  exact k _ B H (.refl sm) (.int _)
def dMax := orL dMax2 dMax1
def dMin := orL dMin2 dMin1
theorem cd_max (hc : X.calm = true) : ClD X (.builtin "max") dMax := cld_or (cd_max2 hc) (cd_max1 hc)
theorem cd_min (hc : X.calm = true) : ClD X (.builtin "min") dMin := cld_or (cd_min2 hc) (cd_min1 hc)
def dAbs : List D → Option Ret
  | [.int i] => some (.d (.int i.natAbs))
  | _ => none
theorem cd_abs : ClD X (.builtin "abs") dAbs := cld call_abs fun xs ds z B H Q sm r1 hz k => by
  unfold dAbs at hz
  split at hz
  · cases hz
    obtain ⟨v, rfl, h⟩ := rpa1 r1
    cases h
    rename_i i
    refine ⟨i, rfl, ?_⟩
    have e : (if i < 0 then -i else i) = (i.natAbs : Int) := by split <;> omega
    rw [e]
    exact k _ B H (.refl sm) (.int _)
  · cases hz
def dInt : List D → Option Ret
  | [.int i] => some (.d (.int i))
  | [.bool b] => some (.d (.int (if b = true then 1 else 0)))
  | _ => none
theorem cd_int : ClD X (.type "int") dInt := cld call_int1 fun xs ds z B H Q sm r1 hz k => by
  unfold dInt at hz
  split at hz
  · cases hz
    obtain ⟨v, rfl, h⟩ := rpa1 r1
    cases h
    exact .inl ⟨_, rfl, k _ B H (.refl sm) (.int _)⟩
  · cases hz
    obtain ⟨v, rfl, h⟩ := rpa1 r1
    cases h
    exact .inr ⟨_, rfl, k _ B H (.refl sm) (.int _)⟩
  · cases hz
/-! list(x), tuple(x) -/
theorem rp_items {v : V} {d : D} {ds : List D} (sm : Same B H) (r : Rp K B v d) (h : itemsD d = some ds) : ∃ p vs, v = .ref p ∧ (SqL K H p vs ∨ SqT K H p vs) ∧ RpA K B vs ds := items_V sm r h
def lstOf : List D → Option Ret
  | [d] => (itemsD d).map .own
  | _ => none
theorem cd_lstOf : ClD X (.type "list") lstOf := cld call_list_of fun xs ds z B H Q sm r1 hz k => by
  unfold lstOf at hz
  split at hz
  · rename_i d
    cases e : itemsD d with
    | none => rw [e] at hz; cases hz
    | some ys =>
      rw [e] at hz; cases hz
      obtain ⟨v, rfl, h⟩ := rpa1 r1
      obtain ⟨l, vs, rfl, h1, h2⟩ := rp_items sm h e
      refine ⟨l, vs, rfl, h1, fun q hq => ?_⟩
      obtain ⟨s0, r0⟩ := ret_own sm hq h2
      exact k _ _ _ s0 r0
  · cases hz
def sgOf : List D → Option Ret
  | [.str z] => if z.length ≤ 16777216 then some (.own (z.cps.toList.map fun c => .str ⟨#[c]⟩)) else none
  | _ => none
theorem call_list_txt (hc : X.calm = true) : CallR X (.type "list") (fun xs H Q => ∃ z, xs = [.str z] ∧ z.length ≤ sizeLine ∧ ∀ l, H l = none → Q (.ref l) (upd H l (.lst (z.cps.toList.map fun c => .str ⟨#[c]⟩)))) := by
  intro pins s σ H xs us Q I r ⟨z, ex, hz, q⟩
  subst ex
  obtain ⟨u, rfl, t, rfl⟩ := vals1 r
  refine call_list_str (hn := hz) (I.ok.hd hc) z t fun h' tk acc c' kp e hi => ?_
  refine ⟨.ref s.heap.objs.size, _, I.laid (t' := tk) kp (Nat.le_refl _) (show ObjOk X.prog X.w _ h' _ (.lst (z.cps.toList.map fun c => V.str ⟨#[c]⟩)) from ⟨by rw [List.length_map]; exact hz, acc.toList, c', ?_, e⟩), rfl, q _ (I.hok.fresh (Nat.le_refl _))⟩
  have hl : acc.toList.length = z.cps.toList.length := by rw [Array.length_toList, Array.length_toList]; exact hi.1
  have f := vals_of_get acc.toList (fun j => V.str ⟨#[z.cps.toList.getD j 0]⟩) fun j v hj => by
    obtain ⟨c, t', h1, h2⟩ := hi.2 j v (by rw [← Array.getElem?_toList]; exact hj)
    subst h2
    refine ⟨t', ?_⟩
    have : z.cps.toList.getD j 0 = c := by rw [List.getD_eq_getElem?_getD, Array.getElem?_toList, h1]; rfl
    rw [this]
  have e2 : (List.range acc.toList.length).map (fun j => V.str ⟨#[z.cps.toList.getD j 0]⟩) = z.cps.toList.map fun c => V.str ⟨#[c]⟩ := by
    refine List.ext_getElem? fun j => ?_
    rw [List.getElem?_map, List.getElem?_map, hl]
    by_cases hj : j < z.cps.toList.length
    · rw [List.getElem?_range hj, List.getElem?_eq_getElem hj]
      have hj' : j < z.cps.size := by simpa using hj
      simp [hj']
    · rw [List.getElem?_eq_none (by rw [List.length_range]; omega), List.getElem?_eq_none (by omega)]; rfl
  rw [e2] at f
  exact f
theorem cd_sgOf (hc : X.calm = true) : ClD X (.type "list") sgOf := cld (call_list_txt hc) fun xs ds z B H Q sm r1 hz k => by
  unfold sgOf at hz
  split at hz
  · split at hz
    · cases hz
      obtain ⟨v, rfl, h⟩ := rpa1 r1
      cases h
      refine ⟨_, rfl, by rw [szl]; assumption, fun q hq => ?_⟩
      have rr : ∀ l : List Nat, RpA X.K B (l.map fun c => V.str ⟨#[c]⟩) (l.map fun c => PyData.str ⟨#[c]⟩) := fun l => by
        induction l with
        | nil => exact .nil
        | cons c l ih => exact .cons (.str _) ih
      obtain ⟨s0, r0⟩ := ret_own sm hq (rr _)
      exact k _ _ _ s0 r0
    · cases hz
  · cases hz
def dList := orL lstOf sgOf
theorem cd_list (hc : X.calm = true) : ClD X (.type "list") dList := cld_or cd_lstOf (cd_sgOf hc)
def dTuple : List D → Option Ret
  | [.list xs] => some (.d (.tuple xs))
  | [.tuple xs] => some (.d (.tuple xs))
  | _ => none
theorem cd_tuple : ClD X (.type "tuple") dTuple := cld call_tuple_of fun xs ds z B H Q sm r1 hz k => by
  unfold dTuple at hz
  split at hz
  · cases hz
    obtain ⟨v, rfl, h⟩ := rpa1 r1
    obtain ⟨l, vs, rfl, h1, h2⟩ := rp_lst h
    refine ⟨l, vs, rfl, .inl ⟨SqL.of (sm _ _ h1), fun q hq => ?_⟩⟩
    obtain ⟨s0, r0⟩ := ret_new (o := .tup vs) sm hq (.tup (SqT.of upd_same) (h2.mono (Stp0.new sm hq).base))
    exact k _ _ _ s0 r0
  · cases hz
    obtain ⟨v, rfl, h⟩ := rpa1 r1
    obtain ⟨l, vs, rfl, h1, h2⟩ := rp_tup h
    exact ⟨l, vs, rfl, .inr ⟨same_t sm h1, k _ B H (.refl sm) h⟩⟩
  · cases hz
/-! isinstance(x, T) -/
theorem rp_ty {v : V} {d : D} (sm : Same B H) (r : Rp K B v d) (h : ∀ k ks, d ≠ .dict (k :: ks)) : TyX K H v (.type (tyD d)) := by
  cases r with
  | non => exact .base .non
  | bl b => exact .base (.bl b)
  | int i => exact .base (.int i)
  | str x => exact .base (.str x)
  | lst h1 h2 => exact .base (.lst (sm _ _ h1))
  | scr h1 => exact absurd rfl (h _ _)
  | tup h1 h2 =>
    rcases same_t sm h1 with (g | ⟨o, g⟩) | ⟨o, its, n, g1, g2, _⟩
    · exact .base (.tup g)
    · exact .fTuple g
    · exact .kTuple g1 g2
  | dct h1 h2 => exact .base (.dK (sm _ _ h1))
  | lck _ => exact absurd rfl (h _ _)
/-- of the types that a value has -/
def dIsi (T : String) : D → Option Ret
  | .dict (_ :: _) => none
  | d => (kitB (tyD d) T).map fun b => .d (.bool b)
def rIs (T : String) (te : TR) : TR := rUn (dIsi T) te
theorem pr_isi {T : String} {x : Str} (hg : Gl X "isinstance") (hm : X.mg "isinstance" = none) (hg2 : Gl X x) (hm2 : X.mg x = none) (hv : bootBuiltins x = some (.type T)) (he : PR X W e te) (hn : x ≠ "__name__" := by decide) (hdb : (x == ("__debug__" : Str)) = false := by decide)
    (h1 : starEach [e, .Name x p2] X.env = (false, eval e X.env) :: starEach [.Name x p2] X.env := by rfl) (h2 : starEach [.Name x p2] X.env = (false, eval (.Name x p2) X.env) :: starEach [] X.env := by rfl) (hpl : (backTo pos (starEach [.Name x p2] X.env)).any (·.1) = false := by rfl) :
    PR X W (.Call (.Name "isinstance" p) [e, .Name x p2] [] pos) (rIs T te) :=
  pe_imp (pe_callB (id := "isinstance") call_isi hg hm PyProof.Rows.boot_isinstance (pa_cons he (pa_cons (pe_bltn (v := .ty T) hg2 hm2 hv rfl hn hdb) pa_nil h2) h1) (by decide) (by decide) h1 hpl) fun σ H Q ⟨B, env, E, P, R, h, g, k⟩ => rd_fz (P := fun x e1 => ∃ z, dIsi T x = some z ∧ P z e1) R h g fun x e1 v B1 H1 ⟨z, hz, p1⟩ q1 r1 => by
    have key : ∃ b, kitB (tyD x) T = some b ∧ z = .d (.bool b) ∧ (∀ k ks, x ≠ .dict (k :: ks)) := by
      unfold dIsi at hz
      split at hz
      · cases hz
      · rename_i hx
        cases q : kitB (tyD x) T with
        | none => rw [q] at hz; cases hz
        | some b => rw [q] at hz; cases hz; exact ⟨b, rfl, rfl, hx⟩
    obtain ⟨b, hb, rfl, hx⟩ := key
    exact ⟨v, _, _, _, b, rfl, .ty T, rp_ty q1.rel.ex r1 hx, kit_ty hb, fin0 k q1 p1 (.refl q1.rel.ex) (.bl b)⟩
/-! repr(x) -/
/-- the table of the modules is known -/
def sysIn (K : Fr) : Bool := (K.lookup sysModules).isSome
theorem Inv_notSys {pins : List (Addr × Obj)} {σ : St} {s : Shared} (hy : sysIn X.K = true) (I : Inv X pins σ H s) {a : Addr} {o : HO} (h : H a = some o) : a ≠ sysModules := fun e => by
  obtain ⟨o1, e1⟩ := Option.isSome_iff_exists.mp hy
  have := (I.bs sysModules o1 (I.mod.kin _ _ e1)).2
  rw [e, this] at h
  cases h
mutual
/-- all dicts within are empty -/
def dictE : D → Bool
  | .list xs => dictEs xs
  | .tuple xs => dictEs xs
  | .dict (_ :: _) => false
  | _ => true
def dictEs : List D → Bool
  | [] => true
  | x :: xs => dictE x && dictEs xs
end
mutual
theorem dictE_no : ∀ {d : D}, d.hasDict = false → dictE d = true
  | .none, _ => rfl
  | .bool _, _ => rfl
  | .int _, _ => rfl
  | .str _, _ => rfl
  | .list xs, h => by
    show dictEs xs = true
    exact dictEs_no (by simpa [PyData.hasDict] using h)
  | .tuple xs, h => by
    show dictEs xs = true
    exact dictEs_no (by simpa [PyData.hasDict] using h)
  | .dict _, h => by simp [PyData.hasDict] at h
theorem dictEs_no : ∀ {ds : List D}, PyData.hasDictAll ds = false → dictEs ds = true
  | [], _ => rfl
  | d :: ds, h => by
    simp only [PyData.hasDictAll, Bool.or_eq_false_iff] at h
    show (dictE d && dictEs ds) = true
    rw [dictE_no h.1, dictEs_no h.2]; rfl
end
theorem rp_dct0 {v : V} (r : Rp K B v (.dict [])) : ∃ a, v = .ref a ∧ B a = some (.dK []) := by
  generalize e : PyData.dict [] = d at r
  cases r with
  | dct h1 h2 => cases e; cases h2; exact ⟨_, rfl, h1⟩
  | scr _ => cases e
  | lck _ => cases e
  | _ => cases e
mutual
theorem rp_reads {pins : List (Addr × Obj)} {σ : St} {s : Shared} (hy : sysIn X.K = true) (I : Inv X pins σ H s) (sm : Same B H) : ∀ (d : D) (v : V) (u : Value), Rp X.K B v d → dictE d = true → RelV v u → ∃ as, Reads s.heap u d as ∧ sysModules ∉ as
  | .none, _, _, h, _, r => by cases h; cases r; exact ⟨_, Reads.none, by simp⟩
  | .bool b, _, _, h, _, r => by cases h; cases r; exact ⟨_, Reads.bool b, by simp⟩
  | .int i, _, _, h, _, r => by cases h; obtain ⟨t, rfl⟩ := r; exact ⟨_, Reads.int i t, by simp⟩
  | .str x, _, _, h, _, r => by cases h; obtain ⟨t, rfl⟩ := r; exact ⟨_, Reads.str x t, by simp⟩
  | .list ds, _, _, h, hd, r => by
    obtain ⟨a, vs, rfl, h1, h2⟩ := rp_lst h
    cases r
    obtain ⟨its, rv, ⟨o, n, ho, hc, _, hdt⟩, _⟩ := I.list (SqL.of (sm _ _ h1))
    obtain ⟨as, hr, hn⟩ := rp_readsAll hy I sm ds vs its h2 hd rv
    refine ⟨_, Reads.list ho hc hdt hr, fun hm => ?_⟩
    rcases List.mem_cons.mp hm with e | hm
    · exact Inv_notSys hy I (sm _ _ h1) e.symm
    · exact hn hm
  | .tuple ds, _, _, h, hd, r => by
    obtain ⟨a, vs, rfl, h1, h2⟩ := rp_tup h
    cases r
    obtain ⟨its, rv, ⟨o, ho, hc, n, hdt⟩, _⟩ := I.tuple (same_t sm h1)
    obtain ⟨as, hr, hn⟩ := rp_readsAll hy I sm ds vs its h2 hd rv
    exact ⟨_, Reads.tuple ho hc hdt hr, hn⟩
  | .dict [], _, _, h, hd, r => by
    obtain ⟨a, rfl, h1⟩ := rp_dct0 h
    cases r
    obtain ⟨_, _, vs, kv, o, es, n, ho, hx, hdt, _, hp, _⟩ : _ ∧ _ ∧ ∃ vs, KV [] vs ∧ s.heap.DictOf (mixKind X.prog X.w) a vs := I.hok a _ (sm _ _ h1)
    cases kv
    have he : es.toList = [] := by
      generalize es.toList = l at hp
      cases hp
      rfl
    refine ⟨_, Reads.dict (kvs := []) ho hx.1 hdt (as := []) (bs := []) (by rw [he]; exact .nil) (by rw [he]; exact .nil), fun hm => ?_⟩
    rw [List.append_nil, List.mem_singleton] at hm
    exact Inv_notSys hy I (sm _ _ h1) hm.symm
  | .dict (_ :: _), _, _, _, hd, _ => by cases hd
theorem rp_readsAll {pins : List (Addr × Obj)} {σ : St} {s : Shared} (hy : sysIn X.K = true) (I : Inv X pins σ H s) (sm : Same B H) : ∀ (ds : List D) (vs : List V) (us : List Value), RpA X.K B vs ds → dictEs ds = true → Vals vs us → ∃ as, ReadsAll s.heap us ds as ∧ sysModules ∉ as
  | [], _, _, h, _, r => by cases h; cases r; exact ⟨_, ReadsAll.nil, by simp⟩
  | d :: ds, _, _, h, hd, r => by
    cases h with
    | cons h1 h2 =>
      cases r with
      | cons r1 r2 =>
        have hd : (dictE d && dictEs ds) = true := hd
        rw [Bool.and_eq_true] at hd
        obtain ⟨as, q1, n1⟩ := rp_reads hy I sm d _ _ h1 hd.1 r1
        obtain ⟨bs, q2, n2⟩ := rp_readsAll hy I sm ds _ _ h2 hd.2 r2
        exact ⟨_, ReadsAll.cons q1 q2, fun hm => (List.mem_append.mp hm).elim n1 n2⟩
end
def isSeq : D → Bool
  | .list _ => true
  | .tuple _ => true
  | .dict [] => true
  | _ => false
def reprOk (d : D) : Bool := isSeq d && d.showable && dictE d && decide (d.depth ≤ 100) && decide (d.shown.length ≤ 16777216)
def dRepr : List D → Option Ret
  | [.int i] => if i.natAbs.log2 < 1920 then some (.d (.str (toString i))) else none
  | [.bool b] => some (.d (.str (if b then "True" else "False")))
  | [.none] => some (.d (.str "None"))
  | [.str x] => if (reprText x).length ≤ 16777216 then some (.d (.str (reprText x))) else none
  | [d] => if reprOk d = true then some (.d (.str d.shown)) else none
  | _ => none
theorem cd_repr (hg : X.A.guards = some []) (hu : X.A.units + 110 < cLine) (hy : sysIn X.K = true) : ClD X (.builtin "repr") dRepr := by
  intro pins s σ H xs us Q I rs ⟨B, ds, z, sm, r1, hz, k⟩
  unfold dRepr at hz
  split at hz
  · split at hz
    · cases hz
      obtain ⟨v, rfl, h⟩ := rpa1 r1
      cases h
      exact SkE.call_repr_int pins s σ H _ us Q I rs ⟨_, rfl, by assumption, k _ B H (.refl sm) (.str _)⟩
    · cases hz
  · cases hz
    obtain ⟨v, rfl, h⟩ := rpa1 r1
    cases h
    obtain ⟨u, rfl, ru⟩ := vals1 rs
    cases ru
    exact PySem.P.repr_of_bool ⟨.str _, H, I.tok _, ⟨_, rfl⟩, k _ B H (.refl sm) (.str _)⟩
  · cases hz
    obtain ⟨v, rfl, h⟩ := rpa1 r1
    cases h
    obtain ⟨u, rfl, ru⟩ := vals1 rs
    cases ru
    exact PySem.P.repr_of_none ⟨.str _, H, I.tok _, ⟨_, rfl⟩, k _ B H (.refl sm) (.str _)⟩
  · split at hz
    · rename_i hl
      cases hz
      obtain ⟨v, rfl, h⟩ := rpa1 r1
      cases h
      obtain ⟨u, rfl, ru⟩ := vals1 rs
      obtain ⟨t, rfl⟩ := ru
      exact PySem.P.repr_of_str ⟨.str _, H, I.tok _, ⟨_, rfl⟩, k _ B H (.refl sm) (.str _)⟩ (by rw [szl]; exact hl)
    · cases hz
  · rename_i d _ _ _ _
    split at hz
    · rename_i hok
      cases hz
      obtain ⟨v, rfl, h⟩ := rpa1 r1
      unfold reprOk at hok
      simp only [Bool.and_eq_true, decide_eq_true_eq] at hok
      obtain ⟨⟨⟨⟨h1, h2⟩, h3⟩, h4⟩, h5⟩ := hok
      obtain ⟨u, rfl, ru⟩ := vals1 rs
      obtain ⟨as, rd, nd⟩ := rp_reads hy I sm d v u h h3 ru
      obtain ⟨a, rfl⟩ : ∃ a, v = .ref a := by
        cases d with
        | list _ => obtain ⟨a, _, e, _⟩ := rp_lst h; exact ⟨a, e⟩
        | tuple _ => obtain ⟨a, _, e, _⟩ := rp_tup h; exact ⟨a, e⟩
        | dict l =>
          cases l with
          | nil => obtain ⟨a, e, _⟩ := rp_dct0 h; exact ⟨a, e⟩
          | cons _ _ => cases h1
        | _ => cases h1
      cases ru
      exact repr_of_reads' rd h2 (fun _ => nd) hg (by omega) (fun _ _ z => z) (fun h' t tk kp => ⟨.str d.shown, H, I.kept (t' := tk) kp, ⟨t, rfl⟩, k _ B H (.refl sm) (.str _)⟩) (by rw [szl]; exact h5)
    · cases hz
  · cases hz
/-! str(x) -/
def dStr : List D → Option Ret
  | [.int i] => if i.natAbs.log2 < 1920 then some (.d (.str (toString i))) else none
  | [.str z] => some (.d (.str z))
  | _ => none
theorem cd_str : ClD X (.type "str") dStr := by
  intro pins s σ H xs us Q I rs ⟨B, ds, z, sm, r1, hz, k⟩
  unfold dStr at hz
  split at hz
  · split at hz
    · cases hz
      obtain ⟨v, rfl, h⟩ := rpa1 r1
      cases h
      exact call_str_int pins s σ H _ us Q I rs ⟨_, rfl, by assumption, k _ B H (.refl sm) (.str _)⟩
    · cases hz
  · cases hz
    obtain ⟨v, rfl, h⟩ := rpa1 r1
    cases h
    exact SkE.call_str_str pins s σ H _ us Q I rs ⟨_, rfl, k _ B H (.refl sm) (.str _)⟩
  · cases hz
end
end PD
end PDn_
section PDo_
set_option Elab.async false
set_option linter.all false
set_option maxRecDepth 100000
set_option maxHeartbeats 2000000
/-! PDo: constants, list(range), len(set), join, index. -/
namespace PD
open PySem PySem.Spec PyProof.Rows L2

section
variable {X : Cx} {W : WX} {K : Fr} {B H B1 H1 : Hp} {e a b : Expr} {te ta tb : TR} {pos p p2 q apos cpos : Pos} {x : Str}
/-! constants -/
theorem pr_int {i : Int} {j} : PR X W (.Constant (.int i) j pos) (rC (.int i)) := pr_c pe_int fun _ => .int i
theorem pr_bl {i : Bool} {j} : PR X W (.Constant (.bool i) j pos) (rC (.bool i)) := pr_c pe_bl fun _ => .bl i
theorem pr_str {i : Str} {j} : PR X W (.Constant (.str i) j pos) (rC (.str i)) := pr_c pe_str fun _ => .str i
theorem pr_non {j} : PR X W (.Constant .none j pos) (rC .none) := pr_c pe_non fun _ => .non
/-- a name of the module that stands for a value that never changes -/
theorem pr_glob {v : V} {u : Value} {d : D} (hg : Gl X x) (hm : X.mg x = some u) (r : RelV v u) (hr : ∀ B, Rp X.K B v d) (hd : (x == ("__debug__" : Str)) = false := by decide) : PR X W (.Name x pos) (rC d) := pr_c (pe_glob hg hm r hd) hr
/-! -x -/
def dNeg : D → Option Ret
  | .int i => some (.d (.int (-i)))
  | _ => none
theorem ud_neg : UnD X (unaryOp .USub) dNeg := fun pins s σ H x v Q I rx ⟨B, d, z, sm, r1, hz, k⟩ => by
  unfold dNeg at hz
  split at hz
  · cases hz; cases r1
    exact un_neg pins s σ H _ v Q I rx ⟨_, rfl, k _ B H (.refl sm) (.int _)⟩
  · cases hz
/-! list(range(..)) -/
theorem rgV_rp {i j : Int} : RpA K B (rgV i j) (rangeD i (j - i).toNat) := by
  have go : ∀ l : List Nat, RpA K B (l.map fun k : Nat => V.int (i + (k : Nat))) (l.map fun k : Nat => PyData.int (i + k)) := fun l => by
    induction l with
    | nil => exact .nil
    | cons n l ih => exact .cons (.int _) ih
  exact go _
def rLr1 (tb : TR) : TR := fun E env P => fz tb E env fun y e2 => ∃ j, y = .int j ∧ (-(2 ^ 62) ≤ j ∧ j < 2 ^ 24) ∧ P (.own (rangeD 0 j.toNat)) e2
def rLr2 (ta tb : TR) : TR := fun E env P => fz ta E env fun x e1 => fz tb E e1 fun y e2 => ∃ i j, x = .int i ∧ y = .int j ∧ (-(2 ^ 62) ≤ i ∧ i < 2 ^ 62 ∧ -(2 ^ 62) ≤ j ∧ j < 2 ^ 62 ∧ (j - i).toNat ≤ 2 ^ 24) ∧ P (.own (rangeD i (j - i).toNat)) e2
theorem pr_lr1 (hc : X.calm = true) (hg : Gl X "list") (hm : X.mg "list" = none) (hg2 : Gl X "range") (hm2 : X.mg "range" = none) (ha : PR X W a ta) (na : starEach [a] X.env = (false, eval a X.env) :: starEach [] X.env := by rfl)
    (na2 : starEach [.Call (.Name "range" p2) [a] [] q] X.env = (false, eval (.Call (.Name "range" p2) [a] [] q) X.env) :: starEach [] X.env := by rfl) : PR X W (.Call (.Name "list" p) [.Call (.Name "range" p2) [a] [] q] [] pos) (rLr1 ta) :=
  pe_imp (pe_listRg hc hg hm (prg_1 hg2 hm2 ha na) na2) fun σ H Q ⟨B, env, E, P, R, h, g, k⟩ => rd_fz (P := fun y e2 => ∃ j, y = .int j ∧ (-(2 ^ 62) ≤ j ∧ j < 2 ^ 24) ∧ P (.own (rangeD 0 j.toNat)) e2) R h g fun x e1 v B1 H1 ⟨j, ej, hj, p1⟩ q1 r1 => by
    subst ej; cases r1
    refine ⟨j, rfl, ⟨by omega, by omega, by omega, by omega, by omega⟩, fun l hl => ?_⟩
    obtain ⟨s0, r0⟩ := ret_own (K := X.K) q1.rel.ex hl (rgV_rp (B := B1) (i := 0) (j := j))
    rw [Int.sub_zero] at r0
    exact fin0 k q1 p1 s0 r0
theorem pr_lr2 (hc : X.calm = true) (hg : Gl X "list") (hm : X.mg "list" = none) (hg2 : Gl X "range") (hm2 : X.mg "range" = none) (ha : PR X W a ta) (hb : PR X W b tb) (na : starEach [a, b] X.env = (false, eval a X.env) :: starEach [b] X.env := by rfl) (nb : starEach [b] X.env = (false, eval b X.env) :: starEach [] X.env := by rfl)
    (hp : (backTo q (starEach [b] X.env)).any (·.1) = false := by rfl) (na2 : starEach [.Call (.Name "range" p2) [a, b] [] q] X.env = (false, eval (.Call (.Name "range" p2) [a, b] [] q) X.env) :: starEach [] X.env := by rfl) : PR X W (.Call (.Name "list" p) [.Call (.Name "range" p2) [a, b] [] q] [] pos) (rLr2 ta tb) :=
  pe_imp (pe_listRg hc hg hm (prg_2 hg2 hm2 ha hb na nb hp) na2) fun σ H Q ⟨B, env, E, P, R, h, g, k⟩ => rd_fz (P := fun x e1 => fz tb E e1 fun y e2 => ∃ i j, x = .int i ∧ y = .int j ∧ (-(2 ^ 62) ≤ i ∧ i < 2 ^ 62 ∧ -(2 ^ 62) ≤ j ∧ j < 2 ^ 62 ∧ (j - i).toNat ≤ 2 ^ 24) ∧ P (.own (rangeD i (j - i).toNat)) e2) R h g fun x e1 v B1 H1 h1 q1 r1 => rd_fz q1.rel h1 (g.trans q1) fun y e2 u B2 H2 ⟨i, j, ei, ej, hj, p1⟩ q2 r2 => by
    subst ei ej; cases r1; cases r2
    refine ⟨i, j, rfl, rfl, ⟨hj.1, hj.2.1, hj.2.2.1, hj.2.2.2.1, hj.2.2.2.2⟩, fun l hl => ?_⟩
    obtain ⟨s0, r0⟩ := ret_own (K := X.K) q2.rel.ex hl (rgV_rp (B := B2) (i := i) (j := j))
    exact fin0 k (q1.trans q2) p1 s0 r0
/-! len(set(xs)), xs a list of ints and texts -/
def keysOf : List D → Option (List KeyD)
  | [] => some []
  | d :: r => match PD.keyOf d, keysOf r with
    | some k, some ks => some (k :: ks)
    | _, _ => none
theorem keys_V : ∀ {vs : List V} {ds : List D} {ks : List KeyD}, RpA K B vs ds → keysOf ds = some ks → vs = ks.map kV
  | _, [], _, h, e => by cases h; cases e; rfl
  | _, d :: ds, ks, h, e => by
    cases h with
    | cons h1 h2 =>
      unfold keysOf at e
      cases q : PD.keyOf d with
      | none => rw [q] at e; cases e
      | some k =>
        rw [q] at e
        cases q2 : keysOf ds with
        | none => rw [q2] at e; cases e
        | some ks2 =>
          rw [q2] at e; cases e
          rw [keys_V h2 q2, key_of h1 q]; rfl
def rLenSet (te : TR) : TR := fun E env P => fz te E env fun y e1 => ∃ xs ks, y = .list xs ∧ keysOf xs = some ks ∧ ks.length ≤ 4000 ∧ P (.d (.int ((uniq ks).length : Nat))) e1
theorem pr_lenSet (hc : X.calm = true) (hg : Gl X "len") (hm : X.mg "len" = none) (hg2 : Gl X "set") (hm2 : X.mg "set" = none) (ha : PR X W a ta) (na : starEach [a] X.env = (false, eval a X.env) :: starEach [] X.env := by rfl) :
    PR X W (.Call (.Name "len" p) [.Call (.Name "set" p2) [a] [] q] [] pos) (rLenSet ta) := by
  refine ⟨fun pins s σ H Q I ⟨B, env, E, P, R, h, g, k⟩ => ?_⟩
  refine Call_ (ld_blt I hg hm boot_len ?_)
  refine PyProof.Rows.callWith_builtin1 (PyProof.Rows.args_cons ?_ rfl) rfl rfl
  refine Call_ (ld_blt I hg2 hm2 boot_set ?_)
  have hq := rd_fz (P := fun y e1 => ∃ xs ks, y = .list xs ∧ keysOf xs = some ks ∧ ks.length ≤ 4000 ∧ P (.d (.int ((uniq ks).length : Nat))) e1) (Q := fun v H1 => ∃ l ks, v = .ref l ∧ H1 l = some (.lst (ks.map kV)) ∧ ks.length ≤ 4000 ∧ Q (.int ((uniq ks).length : Nat)) H1) R h g
    fun x e1 v B1 H1 ⟨xs, ks, ex, hk, hl, p1⟩ q1 r1 => by
      subst ex
      obtain ⟨l, vs, rfl, h1, h2⟩ := rp_lst r1
      rw [keys_V h2 hk] at h1
      exact ⟨l, ks, rfl, q1.rel.ex _ _ h1, hl, fin0 k q1 p1 (.refl q1.rel.ex) (.int _)⟩
  refine PyProof.Rows.callWith_type1 (PyProof.Rows.args_cons (thn (ha.run pins s σ H _ I hq) fun v s1 ⟨y, H1, I1, r1, l, ks, ey, hl, hz, qq⟩ => PyProof.Rows.args_nil ?_) na) na rfl
  subst ey; cases r1
  obtain ⟨us, rv, pl, _⟩ := I1.list (SqL.of hl)
  have kb : ks.length + 1 < scanBound := by unfold scanBound; omega
  refine set_of_keys (I1.ok.hd hc) pl.isList rv kb fun h' tk hS kp => PyProof.Rows.args_nil ?_
  obtain ⟨o, es, ep, t, ho, hex, hd, _, _, _, hf, hn⟩ := hS
  have I2 : Inv X pins σ H1 { s1 with heap := h', toks := tk } := I1.kept fun b o e => kp b o (Heap.lt_size e) e
  have hu := uniq_le ks
  exact call_len_set ho hex hd hf (by rw [hn]; omega) ⟨.int ((uniq ks).length : Nat), H1, I2.tok _, ⟨_, by rw [hn]⟩, qq⟩
/-! sep.join(xs) -/
def dJoin : D → List D → Option Ret
  | .str a, [.list ys] => match strsOf ys with
    | some zs => if (zs.map (·.length)).sum + zs.length * a.length ≤ 16777216 then some (.d (.str (Txt.join a zs))) else none
    | none => none
  | _, _ => none
theorem mtd {id : String} {r0 : V → List V → Hp → VK → Prop} {r : D → List D → Option Ret} (h : MtR X id r0)
    (i : ∀ x xs d ds z B H (Q : VK), Same B H → Rp X.K B x d → RpA X.K B xs ds → r d ds = some z → (∀ v B' H', Stp0 B H B' H' → Ret0 X.K B' H H' z v → Q v H') → r0 x xs H Q) : MtD X id r :=
  fun pins s σ H x xs v us Q I rx rs ⟨B, d, ds, z, sm, r1, r2, hz, k⟩ => h pins s σ H x xs v us Q I rx rs (i x xs d ds z B H Q sm r1 r2 hz k)
theorem md_join : MtD X "str.join" dJoin := mtd mt_join fun x xs d ds z B H Q sm r1 r2 hz k => by
  unfold dJoin at hz
  split at hz
  · rename_i a ys
    cases hq : strsOf ys with
    | none => rw [hq] at hz; cases hz
    | some zs =>
      rw [hq] at hz
      dsimp only at hz
      split at hz
      · cases hz; cases r1
        obtain ⟨v, rfl, hv⟩ := rpa1 r2
        obtain ⟨l, vs, rfl, hl, hv⟩ := rp_lst hv
        rw [strsOf_some hq] at hv
        rw [RpA.strs hv] at hl
        exact ⟨a, l, zs, rfl, rfl, .inl (SqL.of (sm _ _ hl)), by assumption, k _ B H (.refl sm) (.str _)⟩
      · cases hz
  · cases hz
/-- the first place of an equal one -/
def dIndex : D → List D → Option Ret
  | .list ys, [x] => if flS x = true ∧ ys.all flS = true then (ys.findIdx? fun z => PyData.eqv z x).map fun j => .d (.int (j : Nat)) else none
  | _, _ => none
theorem md_index : MtD X "list.index" dIndex := mtd mt_index fun x xs d ds z B H Q sm r1 r2 hz k => by
  unfold dIndex at hz
  split at hz
  · rename_i ys x'
    split at hz
    · rename_i hc
      cases hq : ys.findIdx? (fun z => PyData.eqv z x') with
      | none => rw [hq] at hz; cases hz
      | some j =>
        rw [hq] at hz; cases hz
        obtain ⟨v, rfl, hv⟩ := rpa1 r2
        obtain ⟨l, vs, rfl, hl, hvs⟩ := rp_lst r1
        obtain ⟨hj, h1, h2⟩ := List.findIdx?_eq_some_iff_getElem.mp hq
        obtain ⟨u, h3, h4⟩ := hvs.get (List.getElem?_eq_getElem hj)
        have fl : ∀ (m : Nat) (hm : m < ys.length), flS ys[m] = true := fun m hm => List.all_eq_true.mp hc.2 _ (List.getElem_mem hm)
        refine ⟨l, vs, v, j, u, rfl, rfl, SqL.of (sm _ _ hl), flS_V hv hc.1, flSs_V hvs hc.2, h3, ?_, fun m z' hm hz' => ?_, k _ B H (.refl sm) (.int _)⟩
        · rw [eqv_V h4 hv (fl j hj) hc.1]; exact h1
        · obtain ⟨y, h5, h6⟩ := hvs.getV hz'
          have hm' : m < ys.length := by omega
          rw [List.getElem?_eq_getElem hm'] at h5
          cases h5
          rw [eqv_V h6 hv (fl m hm') hc.1]
          have := h2 m hm
          simpa using this
    · cases hz
  · cases hz
/-- a method of a built-in type that changes nothing -/
def rMeth (ok : D → Prop) (r : D → List D → Option Ret) (to : TR) (ts : PD.TA) : TR := fun E env P => fz to E env fun x e1 => ok x ∧ ts E e1 fun ys e2 => ∃ z, r x ys = some z ∧ P z e2
def isStrD (x : D) : Prop := ∃ s, x = .str s
def isLstD (x : D) : Prop := ∃ s, x = .list s
theorem ty_str {v : V} {x : D} (r : Rp K B v x) (h : isStrD x) : tyV K "str" v H := by
  obtain ⟨s, rfl⟩ := h
  cases r
  rfl
theorem ty_lst {v : V} {x : D} (sm : Same B H) (r : Rp K B v x) (h : isLstD x) : tyV K "list" v H := by
  obtain ⟨s, rfl⟩ := h
  obtain ⟨l, vs, rfl, h1, h2⟩ := rp_lst r
  exact .inl ⟨rfl, vs, SqL.of (sm _ _ h1)⟩
variable {es : List Expr} {ts : PD.TA}
theorem pr_meth {T : String} {id : String} {name : Str} {ok : D → Prop} {r : D → List D → Option Ret} (pa : PlainAttrs T) (slot : Slot T name id) (hty : typeOf (.builtin id) = pure (.type "method_descriptor")) (hm : MtD X id r) (hk : ∀ B H v x, Same B H → Rp X.K B v x → ok x → tyV X.K T v H) (ho : PR X W a ta) (ha : PAd X W (e :: es) ts)
    (hbase : attributeBase a name X.env (eval a X.env) = eval a X.env := by rfl)
    (hfew : ((backTo cpos (starEach (e :: es) X.env)).all (fun x => !x.1) && (backToKw cpos (keywordEach [] X.env)).all (fun x => x.1.isSome)
      && decide ((e :: es).length + ([] : List Keyword).length + (if ([] : List Keyword).isEmpty then 0 else 1) < 30)) = true := by rfl)
    (hline : (apos.endLine == cpos.line) = true := by rfl) (hs : starEach (e :: es) X.env = (false, eval e X.env) :: starEach es X.env := by rfl) (hplain : (backTo cpos (starEach es X.env)).any (·.1) = false := by rfl) :
    PR X W (.Call (.Attribute a name apos) (e :: es) [] cpos) (rMeth ok r ta ts) :=
  pe_imp (pe_bm pa slot hty hm ho ha hbase hfew hline hs hplain) fun σ H Q ⟨B, env, E, P, R, h, g, k⟩ => rd_fz (P := fun x e1 => ok x ∧ ts E e1 fun ys e2 => ∃ z, r x ys = some z ∧ P z e2) R h g fun x e1 v B1 H1 ⟨hx, h1⟩ q1 r1 =>
    ⟨hk B1 H1 v x q1.rel.ex r1 hx, ⟨B1, e1, E, _, q1.rel, h1, g.trans q1, fun ys e2 us B2 H2 ⟨z, hz, p2⟩ q2 r2 =>
      ⟨B2, x, ys, z, q2.rel.ex, r1.mono q2.stp.base, r2, hz, fun w B3 H3 s ro => fin0 k (q1.trans q2) p2 s ro⟩⟩⟩
theorem pr_join (ho : PR X W a ta) (ha : PAd X W (e :: es) ts) (hbase : attributeBase a "join" X.env (eval a X.env) = eval a X.env := by rfl)
    (hfew : ((backTo cpos (starEach (e :: es) X.env)).all (fun x => !x.1) && (backToKw cpos (keywordEach [] X.env)).all (fun x => x.1.isSome)
      && decide ((e :: es).length + ([] : List Keyword).length + (if ([] : List Keyword).isEmpty then 0 else 1) < 30)) = true := by rfl)
    (hline : (apos.endLine == cpos.line) = true := by rfl) (hs : starEach (e :: es) X.env = (false, eval e X.env) :: starEach es X.env := by rfl) (hplain : (backTo cpos (starEach es X.env)).any (·.1) = false := by rfl) :
    PR X W (.Call (.Attribute a "join" apos) (e :: es) [] cpos) (rMeth isStrD dJoin ta ts) := pr_meth PySem.F.plainAttrs_str PySem.F.slot_str_join PySem.F.type_str_join md_join (fun _ _ _ _ _ r h => ty_str r h) ho ha hbase hfew hline hs hplain
theorem pr_index (ho : PR X W a ta) (ha : PAd X W (e :: es) ts) (hbase : attributeBase a "index" X.env (eval a X.env) = eval a X.env := by rfl)
    (hfew : ((backTo cpos (starEach (e :: es) X.env)).all (fun x => !x.1) && (backToKw cpos (keywordEach [] X.env)).all (fun x => x.1.isSome)
      && decide ((e :: es).length + ([] : List Keyword).length + (if ([] : List Keyword).isEmpty then 0 else 1) < 30)) = true := by rfl)
    (hline : (apos.endLine == cpos.line) = true := by rfl) (hs : starEach (e :: es) X.env = (false, eval e X.env) :: starEach es X.env := by rfl) (hplain : (backTo cpos (starEach es X.env)).any (·.1) = false := by rfl) :
    PR X W (.Call (.Attribute a "index" apos) (e :: es) [] cpos) (rMeth isLstD dIndex ta ts) := pr_meth PySem.F.plainAttrs_list PySem.F.slot_list_index PySem.F.type_list_index md_index (fun _ _ _ _ s r h => ty_lst s r h) ho ha hbase hfew hline hs hplain
/-! a table of the module: NAME.index(e), NAME[e] -/
def tblIx (ys : List Str) : D → Option Ret
  | .str z => (ys.findIdx? fun y => decide (y = z)).map fun j => .d (.int (j : Nat))
  | _ => none
def rTix (ys : List Str) (te : TR) : TR := rUn (tblIx ys) te
theorem pr_tix {l : Addr} {o : Obj} {ys : List Str} (hg : Gl X x) (hmg : X.mg x = some (.ref l)) (hk : X.K.lookup l = some o) (hc : o.cls = .type "tuple") (hd : o.dict = none) (hs0 : ∀ H, SqT X.K H l (ys.map V.str)) (he : PR X W e te)
    (hdb : (x == ("__debug__" : Str)) = false := by decide) (hbase : attributeBase (.Name x p) "index" X.env (eval (.Name x p) X.env) = eval (.Name x p) X.env := by rfl)
    (hfew : ((backTo cpos (starEach [e] X.env)).all (fun x => !x.1) && (backToKw cpos (keywordEach [] X.env)).all (fun x => x.1.isSome)
      && decide (([e] : List Expr).length + ([] : List Keyword).length + (if ([] : List Keyword).isEmpty then 0 else 1) < 30)) = true := by rfl)
    (hline : (apos.endLine == cpos.line) = true := by rfl) (hs : starEach [e] X.env = (false, eval e X.env) :: starEach [] X.env := by rfl) (hplain : (backTo cpos (starEach ([] : List Expr) X.env)).any (·.1) = false := by rfl) :
    PR X W (.Call (.Attribute (.Name x p) "index" apos) [e] [] cpos) (rTix ys te) :=
  pe_imp (pe_bm (T := "tuple") PySem.F.plainAttrs_tuple PySem.F.slot_tuple_index PySem.F.type_tuple_index mt_tup_index (pe_glob (v := .ref l) hg hmg rfl hdb) (pa_cons he pa_nil hs) hbase hfew hline hs hplain) fun σ H Q ⟨B, env, E, P, R, h, g, k⟩ =>
    ⟨.inr (.inl ⟨rfl, o, hk, hc, hd⟩), rd_fz (P := fun y e1 => ∃ z, tblIx ys y = some z ∧ P z e1) R h g fun y e1 v B1 H1 ⟨z, hz, p1⟩ q1 r1 => by
      cases y with
      | str w =>
        have hz : (ys.findIdx? fun y => decide (y = w)).map (fun j => Ret.d (.int ((j : Nat) : Int))) = some z := hz
        cases hq : ys.findIdx? (fun y => decide (y = w)) with
        | none => rw [hq] at hz; cases hz
        | some j =>
          rw [hq] at hz; cases hz; cases r1
          obtain ⟨hj, h1, h2⟩ := List.findIdx?_eq_some_iff_getElem.mp hq
          refine ⟨l, ys, w, j, rfl, rfl, hs0 _, ?_, fun m hm z => ?_, fin0 k q1 p1 (.refl q1.rel.ex) (.int _)⟩
          · rw [List.getElem?_eq_getElem hj]; exact congrArg some (of_decide_eq_true h1)
          · obtain ⟨hm', e'⟩ := List.getElem?_eq_some_iff.mp z
            exact h2 m hm (decide_eq_true e')
      | _ => cases hz⟩
def tblAt (kvs : List (Str × D)) : D → Option Ret
  | .str z => (kvs.lookup z).map .d
  | _ => none
def rTat (kvs : List (Str × D)) (te : TR) : TR := rUn (tblAt kvs) te
theorem pr_tat {l : Addr} {kvs : List (Str × D)} (hg : Gl X x) (hmg : X.mg x = some (.ref l)) (ht : ∀ z d, kvs.lookup z = some d → ∃ v, KDct X.K X.w l z v ∧ ∀ B, Rp X.K B v d) (he : PR X W e te) (hs : PlainIx e) (hdb : (x == ("__debug__" : Str)) = false := by decide) : PR X W (.Subscript (.Name x p) e pos) (rTat kvs te) :=
  pe_imp (pe_ix ix_kdict (pe_glob (v := .ref l) hg hmg rfl hdb) he hs) fun σ H Q ⟨B, env, E, P, R, h, g, k⟩ =>
    (show rdR X W te σ H _ from ⟨B, env, E, fun r e1 => ∃ z, tblAt kvs r.toD = some z ∧ P z e1, R, h, g, fun r e1 v B1 H1 ⟨z, hz, p1⟩ q1 ro nw => by
      obtain ⟨B2, q2, r2, _⟩ := ro.frz q1 nw
      unfold tblAt at hz
      split at hz
      · rename_i w ew
        rw [ew] at r2
        cases r2
        cases hq : kvs.lookup w with
        | none => rw [hq] at hz; cases hz
        | some d =>
          rw [hq] at hz; cases hz
          obtain ⟨u, hu, ru⟩ := ht w d hq
          exact ⟨l, w, u, rfl, rfl, hu, fin0 k q2 p1 (.refl q2.rel.ex) (ru B2)⟩
      · cases hz⟩)
end
end PD
end PDo_
section PDp_
set_option Elab.async false
set_option linter.all false
set_option maxRecDepth 100000
set_option maxHeartbeats 2000000
/-! PDp: a law's end; what the top's names are known to be. -/
namespace PD
open PySem PySem.Spec PyProof.Rows L2

/-- the law's def, called by the claim: its promise over values -/
theorem lawG_call {P : Program} {w : World} {K : Fr} {mg mb : Str → Option Value} {k : Nat} {fa a : Addr} {fd : FuncData} {x : Str} {s₁ : Shared} {vs : List Value} {ns : List Int} {sp : PD.Sp}
    (KX : K.In s₁.heap) (hns : s₁.heap.Ns mainGlobals mg) (hb : s₁.heap.Ns builtinsNs mb) (hbb : ∀ x : Str, x ≠ "__name__" → mb x = bootBuiltins x) (hlim : s₁.heap.NoLimit) (hg : s₁.gens = #[])
    (ha : s₁.heap.get? a = some { cls := .type "list", data := .seq vs.toArray }) (hi : IntsAre vs ns) (hl : ns.length ≤ sizeLine) (hr : RoomG k callerA)
    (F : ∀ base : Heap, K.In base → base.Ns mainGlobals mg → FnG P w K mg base k fa fd [x] (spD K mg sp)) (hbind : ∀ (s : Shared) (u : Value), BindsTo s fd ⟨[u], []⟩ [(x, u)])
    (hsp : sp [.d (scrD ns)] (fun r _ => r = .d (.bool true)) fun _ _ => False) :
    codeAny (model P w) callerA (.call (.ref fa) ⟨[.ref a], []⟩) (fun r s' => r = .ok (.ret (.bool true)) ∧ OldK s₁.heap s'.heap ∧ s'.os = s₁.os ∧ AllBare s'.gens) s₁ := by
  have rv := L2.vals_ints hi
  have lenV := hi.length
  obtain ⟨H, hO, hS, hok, only, apart⟩ : ∃ H : Hp, (∀ b, H b = none ∨ ∃ o xs, H b = some (.frz o (.lst xs))) ∧ SqL K H a (ns.map V.int) ∧ HOk P w H s₁.heap ∧ (∀ b, H b ≠ none → b = a) ∧ (H a ≠ none → K.lookup a = none) := by
    cases hk : K.lookup a with
    | some o =>
      have e := KX a o hk
      rw [ha] at e
      cases e
      exact ⟨fun _ => none, fun _ => .inl rfl, .inr ⟨_, vs.toArray, _, hk, rfl, rfl, rfl, by rw [List.size_toArray, lenV]; exact hl, by simpa using rv⟩, fun b u z => (nomatch (show (none : Option HO) = some u from z)), fun b z => (z rfl).elim, fun z => (z rfl).elim⟩
    | none =>
      have at_ : ∀ b u, (if b = a then some (HO.frz { cls := .type "list", data := .seq vs.toArray } (.lst (ns.map V.int))) else none) = some u → b = a ∧ u = .frz { cls := .type "list", data := .seq vs.toArray } (.lst (ns.map V.int)) := fun b u z => by
        split at z
        · cases z; exact ⟨by assumption, rfl⟩
        · cases z
      refine ⟨fun b => if b = a then some (.frz { cls := .type "list", data := .seq vs.toArray } (.lst (ns.map V.int))) else none, fun b => ?_, .inl (.inr ⟨_, if_pos rfl⟩), fun b u z => ?_, fun b z => ?_, fun _ => rfl⟩
      · by_cases h : b = a
        · exact .inr ⟨_, _, if_pos h⟩
        · exact .inl (if_neg h)
      · obtain ⟨rfl, rfl⟩ := at_ b u z
        exact ⟨ha, by rw [List.length_map]; exact hl, vs, _, rv, ha⟩
      · obtain ⟨u, hu⟩ := Option.ne_none_iff_exists'.mp z
        exact (at_ b u hu).1
  have free : ∀ {b : Addr} {o : Obj}, s₁.heap.get? b = some o → (∀ its m, o.data ≠ .seq its m) → H b = none := fun {b o} e d => by
    cases q : H b with
    | none => rfl
    | some u =>
      obtain rfl := only b (by rw [q]; simp)
      rw [ha] at e; cases e
      exact absurd rfl (d _ _)
  have nsK : ∀ {b : Addr} {m : Str → Option Value}, s₁.heap.Ns b m → (hidT s₁.heap H).Ns b m := fun {b m} ⟨o, es, ep, e, d, r⟩ => ⟨o, es, ep, hidT_get e (free e fun its m z => by rw [d] at z; cases z), d, r⟩
  have kin : K.In (hidT s₁.heap H) := fun b o e => hidT_get (KX b o e) (by
    cases q : H b with
    | none => rfl
    | some u =>
      obtain rfl := only b (by rw [q]; simp)
      rw [apart (by rw [q]; simp)] at e; cases e)
  have md : Mod K mg (hidT s₁.heap H) := ⟨kin, nsK hns, ⟨mb, nsK hb, hbb⟩, let ⟨mc, h1, h2⟩ := hlim; ⟨mc, nsK h1, h2⟩⟩
  have e0 : Env0 P w K mg (hidT s₁.heap H) callerA [] s₁ H := ⟨rfl, md, fun b o e => of_hidT e, Nat.le_of_eq (hidT_size _ _), trivial, fun b hb => absurd (show b ∈ ([] : List Addr) from hb) (by simp), hok, .of_eq hg⟩
  have rel : Rel K H H [Sl.d (scrD ns)] ([V.ref a].map some) := by
    refine RpA.rel (xs := [scrD ns]) (env := []) (σ := []) ⟨fun _ _ z => z, rfl, fun i s o z => by simp at z, fun i j l _ z => by simp [owns] at z⟩ (.cons (.scr hS) .nil)
  have top : spD K mg sp [.ref a] H (fun v _ => v = .bl true) (fun _ _ _ => False) := ⟨H, _, _, _, fun s hs xs e => by subst e; simp at hs, fun s hs xs e => by subst e; simp at hs, rel, hsp, fun r as' v B' H' p q ro nw => by subst p; cases (show Rp K B' v (.bool true) from ro); rfl, fun _ _ _ _ _ _ z => z.elim⟩
  refine codeAny_mono ((F _ kin (nsK hns)).run callerA [] s₁ H ⟨[.ref a], []⟩ [.ref a] [.ref a] _ _ hr e0 (hbind s₁ (.ref a)) (.cons rfl .nil) top) fun r s' h => ?_
  match r, h with
  | .error e, h => obtain ⟨_, _, _, _, _, _, _, _, _, _, _, _, _, ⟨⟩⟩ := h
  | .ok .next, h => exact h.elim
  | .ok .brk, h => exact h.elim
  | .ok .cont, h => exact h.elim
  | .ok (.ret u), h =>
    obtain ⟨v, H', os, bare, un, hok', r', q⟩ := h
    have q : v = .bl true := q
    subst q
    obtain rfl : u = Value.bool true := r'
    refine ⟨rfl, OldK.of_keep fun b o e => ?_, os, bare⟩
    rcases hO b with z | ⟨ob, xs, z⟩
    · exact un.keep b o e z (List.not_mem_nil) (List.not_mem_nil)
    · obtain ⟨e1, _⟩ := hok b _ z
      obtain ⟨e2, _⟩ := hok' b _ (un.frzs b ob _ z)
      rw [e] at e1; cases e1
      exact e2
/-- what the law is asked: true of every script -/
def spLaw (n : Nat) : PD.Sp := fun as R _ => ∃ ns : List Int, ns.length ≤ n ∧ as = [.d (scrD ns)] ∧ ∀ s, R (.d (.bool true)) s
theorem ary_law (n : Nat) : Ary (spLaw n) 1 := by rintro _ _ _ ⟨ns, _, rfl, _⟩; rfl
theorem walk_ofG {l : PySem.W.OpenLaw} {n k : Nat} {q : Program} {loose : List Str} {XP : (Str → Option Value) → Heap → Prop} {YP : World → Heap → Prop} {d : DefRec} {x : Str}
    (hn : l.most = some n) (hn2 : n ≤ sizeLine) (hdf : d.params.defaults = []) (hr : RoomG k callerA)
    (F : ∀ (w : World) (mg : Str → Option Value) (fa : Addr) (h : Heap), YP w h → h.Ns mainGlobals mg → mg d.name = some (.ref fa) →
      ∃ (K : Fr) (fd : FuncData), K.In h ∧ (∀ (s : Shared) (u : Value), BindsTo s fd ⟨[u], []⟩ [(x, u)]) ∧ ∀ base : Heap, K.In base → base.Ns mainGlobals mg → FnG l.prog w K mg base k fa fd [x] (spD K mg (spLaw n))) :
    PySem.W.WalkO q loose XP YP l.row.toRowW d [] (fun f vs => PySem.call f vs) := by
  refine Att.attach_call hn hdf fun w s₀ s₁ mg mb fa o pm cd doc a vs ns G Y ho hd hcd hmg hobj hints hlen hg => ?_
  obtain ⟨K, fd, KX, hb, hF⟩ := F w mg fa _ Y G.T.g hmg
  exact lawG_call KX G.T.g G.T.b G.T.builtins G.T.nolimit hg hobj hints (Nat.le_trans hlen hn2) hr hF hb ⟨ns, hlen, rfl, fun _ => rfl⟩
/-! ### the top's names -/
/-- a tuple of texts -/
def tupStr (x : Str) (ys : List Str) (K : Fr) : Bool := match K.lookup (He.ga K x) with
  | some ⟨.type c, none, .seq its _, _⟩ => decide (c = "tuple") && (decide (its.size ≤ sizeLine) && He.relAll (ys.map V.str) its.toList)
  | _ => false
theorem tupStr_ok {K : Fr} {x : Str} {ys : List Str} (h : tupStr x ys K = true) : (∃ o, K.lookup (He.ga K x) = some o ∧ o.cls = .type "tuple" ∧ o.dict = none) ∧ ∀ H, SqT K H (He.ga K x) (ys.map V.str) := by
  unfold tupStr at h
  split at h
  · rename_i c its n sl hq
    rw [Bool.and_eq_true, Bool.and_eq_true] at h
    have e : c = "tuple" := of_decide_eq_true h.1
    subst e
    exact ⟨⟨_, hq, rfl, rfl⟩, fun H => .inr ⟨_, its, n, hq, rfl, rfl, of_decide_eq_true h.2.1, He.relAll_ok h.2.2⟩⟩
  · cases h
theorem rp_tupStr {K : Fr} {x : Str} {ys : List Str} (h : tupStr x ys K = true) (B : Hp) : Rp K B (.ref (He.ga K x)) (.tuple (ys.map .str)) := .tup ((tupStr_ok h).2 B) .ofStrs
abbrev Ck : Type := Fr → Bool
abbrev AlP : Type := He.AlT × Bool
def obsP (fa : List He.Fa) (fn : List He.DefD) (ts : List He.Tab) (ex : List Ck) (K : Fr) : AlP := (He.obsT fa fn ts K, ex.all fun f => f K)
def valP (fn : List He.DefD) (ts : List He.Tab) (w : World) : AlP := (He.valT fn ts w, true)
def obsPG (n : Nat) (fa : List He.Fa) (fn : List He.DefD) (ts : List He.Tab) (ex : List Ck) (g : Addr → Option Obj) : AlP := obsP fa fn ts ex (He.frG g (sysModules :: He.asD g n))
def SaysP (fa : List He.Fa) (fn : List He.DefD) (ts : List He.Tab) (ex : List Ck) (w : World) (K : Fr) : Prop := obsP fa fn ts ex K = valP fn ts w
def hookP (n : Nat) (fa : List He.Fa) (fn : List He.DefD) (ts : List He.Tab) (ex : List Ck) : PySem.W.Hook where
  α := AlP
  obs := fun s => obsPG n fa fn ts ex s.heap.get?
  val := fun w => valP fn ts w
  says := fun w h => ∃ K : Fr, K.In h ∧ SaysP fa fn ts ex w K
  of := fun _ _ e => ⟨_, He.frG_in, e⟩
  keeps := fun _ _ _ ⟨K, hK, c⟩ k => ⟨K, PySem.W.Frag.In.keeps hK k, c⟩
theorem obsPG_eq {n : Nat} {fa : List He.Fa} {fn : List He.DefD} {ts : List He.Tab} {ex : List Ck} {g : Addr → Option Obj} {s : Shared} (h : ∀ a, g a = s.heap.get? a) : obsPG n fa fn ts ex g = (hookP n fa fn ts ex).obs s := by
  have e : g = s.heap.get? := funext h
  subst e
  rfl
section
variable {fa : List He.Fa} {fn : List He.DefD} {ts : List He.Tab} {ex : List Ck} {w : World} {K : Fr}
theorem SaysP.t (c : SaysP fa fn ts ex w K) : He.SaysT fa fn ts w K := congrArg (fun z : AlP => z.1) c
theorem SaysP.fact (c : SaysP fa fn ts ex w K) (i : Nat) {f : He.Fa} (h : fa[i]? = some f := by rfl) : f.ok K = true := He.SaysD.fact c.t.d i h
theorem SaysP.def_ (c : SaysP fa fn ts ex w K) (i : Nat) {d : He.DefD} (h : fn[i]? = some d := by rfl) : ∃ fd, FunD K d.name d.qual d.params d.body d.scope (d.dvs K) (d.kws K) (He.fAd K d.at_) fd := He.SaysD.def_ c.t.d i h
theorem SaysP.ck (c : SaysP fa fn ts ex w K) (i : Nat) {f : Ck} (h : ex[i]? = some f := by rfl) : f K = true :=
  List.all_eq_true.mp (show (ex.all fun f => f K) = true from congrArg (fun z : AlP => z.2) c) f (List.mem_of_getElem? h)
theorem SaysP.tab (c : SaysP fa fn ts ex w K) (i : Nat) {t : He.Tab} (h : ts[i]? = some t := by rfl) : ∃ es n, KDict K w (t.1 K) es n := He.SaysT.tab c.t i h
end
end PD
end PDp_
section PDq_
set_option Elab.async false
set_option linter.all false
set_option maxRecDepth 100000
set_option maxHeartbeats 2000000
/-! PDq: short words for the printed derivations. -/
namespace PD
open PySem PySem.Spec PyProof.Rows L2

section
variable {X : Cx} {W : WX} {K : Fr} {B H B1 H1 : Hp} {env env1 : Env} {σ σ1 : St} {pos p p2 q : Pos} {x : Str} {e : Expr} {es : List Expr} {ta : PD.TA}
/-- a slot is given up -/
theorem Post.giveUp (R : Rel K B H env σ) (i : Nat) : Post K B H env σ B H (env.set i .un) σ := by
  have sub : ∀ {j : Nat} {s : Sl}, (env.set i .un)[j]? = some s → owns (some s) = true → j ≠ i ∧ env[j]? = some s := fun {j s} h w => by
    rcases set_at h with ⟨_, rfl, _⟩ | ⟨ne, h⟩
    · cases w
    · exact ⟨fun z => ne z.symm, h⟩
  refine ⟨⟨R.ex, by rw [List.length_set]; exact R.len, fun j s o h1 h2 => ?_, fun j j' l ne h1 h2 h3 h4 => ?_⟩, .refl, fun a ⟨j, h1, h2⟩ => ?_, fun a ⟨j, h1, h2⟩ => ?_, fun j xs h => ?_⟩
  · rcases set_at h1 with ⟨_, rfl, _⟩ | ⟨_, h1⟩
    · trivial
    · exact R.ok j s o h1 h2
  · obtain ⟨s1, e1, w1⟩ := owns_some h1
    obtain ⟨s2, e2, w2⟩ := owns_some h2
    exact R.sep j j' l ne (by rw [(sub e1 w1).2]; exact w1) (by rw [(sub e2 w2).2]; exact w2) h3 h4
  · obtain ⟨s1, e1, w1⟩ := owns_some h1
    exact .inl ⟨j, by rw [(sub e1 w1).2]; exact w1, h2⟩
  · obtain ⟨s1, e1, w1⟩ := ownsF_some h1
    have w2 : owns (some s1) = true := by cases s1 <;> simp_all [owns, ownsF]
    exact .inl ⟨j, by rw [(sub e1 w2).2]; exact w1, h2⟩
  · exact ⟨⟨xs, (sub h rfl).2⟩, rfl⟩
theorem pr_move (i : Nat) (h : PE X (.Name x pos) (tVar i)) : PR X W (.Name x pos) (rMove i) := pe_imp h fun σ H Q ⟨B, env, E, P, R, t, g, k⟩ => by
  unfold rMove at t
  cases e : env[i]? with
  | none => rw [e] at t; exact t.elim
  | some s =>
    rw [e] at t
    have hi : i < σ.length := by rw [← R.len]; exact (List.getElem?_eq_some_iff.mp e).1
    have ho := List.getElem?_eq_getElem hi
    have ok := R.ok i s _ e ho
    have gone : ∀ l, σ[i]? = some (some (V.ref l)) → owns (some s) = true → ¬ Own (env.set i .un) σ l := fun l hl w ⟨j, h1, h2⟩ => by
      obtain ⟨s1, e1, w1⟩ := owns_some h1
      rcases set_at e1 with ⟨_, rfl, _⟩ | ⟨ne, e1⟩
      · cases w1
      · exact R.sep i j l ne (by rw [e]; exact w) (by rw [e1]; exact w1) hl h2
    cases s with
    | un => exact t.elim
    | par xs => exact t.elim
    | d y =>
      obtain ⟨v, ev, rv⟩ := ok
      exact ⟨v, by rw [ho, ev], k _ _ _ _ _ t (.refl R) rv trivial⟩
    | own xs =>
      obtain ⟨l, ev, hl⟩ := ok
      have at_ : σ[i]? = some (some (V.ref l)) := by rw [ho, ev]
      exact ⟨_, at_, k _ _ _ _ _ t (.giveUp R i) ⟨l, rfl, hl, gone l at_ rfl⟩ fun l' z => by cases z; exact .inr ⟨i, by rw [e]; rfl, at_⟩⟩
    | tab xs =>
      obtain ⟨l, ev, hl⟩ := ok
      have at_ : σ[i]? = some (some (V.ref l)) := by rw [ho, ev]
      exact ⟨_, at_, k _ _ _ _ _ t (.giveUp R i) ⟨l, rfl, hl, gone l at_ rfl⟩ fun l' z => by cases z; exact .inr ⟨i, by rw [e]; rfl, at_⟩⟩
/-- a name, its value -/
theorem vv (i : Nat) (hN : X.N[i]? = some x := by rfl) (hv : Vis X.env.scope x := by first | exact Or.inl rfl | exact Or.inr (Or.inl rfl) | exact Or.inr (Or.inr rfl)) (hd : (x == ("__debug__" : Str)) = false := by decide)
    (hcd : (x == ("__classdict__" : Str)) = false := by decide) : PR X W (.Name x pos) (rVar i) := pr_var i (pe_var hN hv hd hcd)
theorem mv (i : Nat) (hN : X.N[i]? = some x := by rfl) (hv : Vis X.env.scope x := by first | exact Or.inl rfl | exact Or.inr (Or.inl rfl) | exact Or.inr (Or.inr rfl)) (hd : (x == ("__debug__" : Str)) = false := by decide)
    (hcd : (x == ("__classdict__" : Str)) = false := by decide) : PR X W (.Name x pos) (rMove i) := pr_move i (pe_var hN hv hd hcd)
theorem gv {ws : List Nat} (i : Nat) (hn : X.N.Nodup) (hN : X.N[i]? = some x := by rfl) (hx : Loc X.env.scope x := by first | exact Or.inl rfl | exact Or.inr rfl) (hf : X.fn x = true ∨ X.env.scope.names.lookup x = some .local := by first | exact .inl rfl | exact .inr rfl) (hw : i ∈ ws := by decide) : PGd X ws (.Name x pos) (PD.gName i) := gd_name (pg_name hn hN hx hf) hw
theorem takes0 {X : Cx} : Takes X W0 := fun u s' ⟨_, _, _, _, _, _, _, _, _, _, _, _, _, _, _, _, z⟩ => z.elim
theorem plainIx {b : Expr} (h : ∀ o i, subscripted b false o i = operate [o, i] (getItem o i) := by intro _ _; rfl) : PlainIx b := h
/-! ### calls -/
/-- a def that may be called by its name; dds: the defaults that fill up -/
structure Cal (P : Program) (w : World) (K : Fr) (mg : Str → Option Value) (base : Heap) (k : Nat) (x : Str) (dds : List D) (sp : PD.Sp) : Prop where
  ex : ∃ (f : Addr) (fd : FuncData) (ps : List Str) (dvs : List V) (ds : List Value), mg x = some (.ref f) ∧ PySem.W.keepIn K (.ref f) = true ∧ Binds K fd ps ds ∧ Vals dvs ds ∧ (∀ B, RpA K B dvs dds) ∧ FnG P w K mg base k f fd ps (spD K mg sp)
theorem Cal.mono {P : Program} {w : World} {K : Fr} {mg : Str → Option Value} {base : Heap} {j k : Nat} {x : Str} {dds : List D} {sp : PD.Sp} (C : Cal P w K mg base j x dds sp) (h : j ≤ k) : Cal P w K mg base k x dds sp := by
  obtain ⟨f, fd, ps, dvs, ds, h1, h2, h3, h4, h5, F⟩ := C.ex
  exact ⟨f, fd, ps, dvs, ds, h1, h2, h3, h4, h5, F.mono h⟩
theorem Cal.imp {P : Program} {w : World} {K : Fr} {mg : Str → Option Value} {base : Heap} {k : Nat} {x : Str} {dds : List D} {sp sp' : PD.Sp} (C : Cal P w K mg base k x dds sp) (h : ∀ as R Ex, sp' as R Ex → sp as R Ex) : Cal P w K mg base k x dds sp' := by
  obtain ⟨f, fd, ps, dvs, ds, h1, h2, h3, h4, h5, F⟩ := C.ex
  exact ⟨f, fd, ps, dvs, ds, h1, h2, h3, h4, h5, F.imp fun vs H Q E ⟨B, as, R, Ex, a1, a2, a3, a4, a5⟩ => ⟨B, as, R, Ex, a1, a2, a3, h _ _ _ a4, a5⟩⟩
variable {k : Nat} {dds : List D} {sp : PD.Sp}
theorem cc (C : Cal X.prog X.w X.K X.mg X.base k x dds sp) (hr : RoomG k X.A) (tk : Takes X W) (ha : PAd X W (e :: es) ta) (hg : Gl X x := by rfl) (hdb : (x == ("__debug__" : Str)) = false := by decide)
    (he : starEach (e :: es) X.env = (false, eval e X.env) :: starEach es X.env := by rfl) (hpl : (backTo pos (starEach es X.env)).any (·.1) = false := by rfl) : PR X W (.Call (.Name x p) (e :: es) [] pos) (rCall sp dds ta) := by
  obtain ⟨f, fd, ps, dvs, ds, h1, h2, h3, h4, h5, F⟩ := C.ex
  exact pr_call F hr tk hg h1 h2 h3 h4 h5 ha hdb he hpl
theorem cc0 (C : Cal X.prog X.w X.K X.mg X.base k x dds sp) (hr : RoomG k X.A) (tk : Takes X W) (hg : Gl X x := by rfl) (hdb : (x == ("__debug__" : Str)) = false := by decide) : PR X W (.Call (.Name x p) [] [] pos) (rCall sp dds aNil) := by
  obtain ⟨f, fd, ps, dvs, ds, h1, h2, h3, h4, h5, F⟩ := C.ex
  exact pr_call0 F hr tk hg h1 h2 h3 h4 h5 hdb
theorem ccP {y : Str} (i : Nat) (C : Cal X.prog X.w X.K X.mg X.base k x dds sp) (hr : RoomG k X.A) (tk : Takes X W) (ha : PAd X W es ta) (hN : X.N[i]? = some y := by rfl) (hv : Vis X.env.scope y := by first | exact Or.inl rfl | exact Or.inr (Or.inl rfl) | exact Or.inr (Or.inr rfl)) (hd : (y == ("__debug__" : Str)) = false := by decide)
    (hcd : (y == ("__classdict__" : Str)) = false := by decide) (hg : Gl X x := by rfl) (hdb : (x == ("__debug__" : Str)) = false := by decide)
    (he : starEach (.Name y q :: es) X.env = (false, eval (.Name y q) X.env) :: starEach es X.env := by rfl) (hpl : (backTo pos (starEach es X.env)).any (·.1) = false := by rfl) : PR X W (.Call (.Name x p) (.Name y q :: es) [] pos) (rCallP sp i dds ta) := by
  obtain ⟨f, fd, ps, dvs, ds, h1, h2, h3, h4, h5, F⟩ := C.ex
  exact pr_callP F hr tk hg h1 h2 h3 h4 h5 (pe_var hN hv hd hcd) ha hdb he hpl
end
/-- the def of a name, by its facts -/
theorem cal_of {P : Program} {w : World} {K : Fr} {mg : Str → Option Value} {base : Heap} {k : Nat} {f : Addr} {fd : FuncData} {x : Str} {ps : List Str} {dvs : List V} {ds : List Value} {dds : List D} {sp : PD.Sp} (h1 : mg x = some (.ref f)) (h2 : PySem.W.keepIn K (.ref f) = true) (h3 : Binds K fd ps ds) (h4 : Vals dvs ds) (h5 : ∀ B, RpA K B dvs dds)
    (F : FnG P w K mg base k f fd ps (spD K mg sp)) : Cal P w K mg base k x dds sp := ⟨f, fd, ps, dvs, ds, h1, h2, h3, h4, h5, F⟩
end PD
end PDq_
section PDr_
set_option Elab.async false
set_option linter.all false
set_option maxRecDepth 100000
set_option maxHeartbeats 2000000
/-! PDr: the rest of the words for printed derivations. -/
namespace PD
open PySem PySem.Spec PyProof.Rows L2

theorem bt_sum : bootBuiltins "sum" = some (.builtin "sum") := by decide +kernel
theorem hu {k n : Nat} {A : Around} (r : RoomG k A) (h : n ≤ 200 := by decide) : A.units + n < cLine := by
  have := r.room.un
  omega
/-- the names of a block -/
def blkB (N : List Str) (sc scope : Scope) (own : List (Str × Nat)) : Bool :=
  decide (scope.kind = .function) && (scope.names.all fun y => decide (scope.names.lookup y.1 = some y.2)) && (own.all fun p => decide (N[p.2]? = some p.1)) &&
  (scope.names.all fun y => match y.2 with
    | .free => decide (sc.names.lookup y.1 = some .cell) || decide (sc.names.lookup y.1 = some .free)
    | .local => decide (y.1 ∈ own.map (·.1)) || !decide (y.1 ∈ N)
    | .cell => decide (y.1 ∈ own.map (·.1)) || !decide (y.1 ∈ N)
    | _ => true)
theorem blk_ok {N : List Str} {sc scope : Scope} {own : List (Str × Nat)} (h : blkB N sc scope own = true) : BlkOk N sc scope own := by
  unfold blkB at h
  rw [Bool.and_eq_true, Bool.and_eq_true, Bool.and_eq_true] at h
  obtain ⟨⟨⟨h1, h2⟩, h3⟩, h4⟩ := h
  refine ⟨of_decide_eq_true h1, fun y hy => of_decide_eq_true (List.all_eq_true.mp h2 y hy), fun p hp => of_decide_eq_true (List.all_eq_true.mp h3 p hp), fun y hy e => ?_, fun y hy e => ?_⟩
  · have z := List.all_eq_true.mp h4 y hy
    rw [e] at z
    rw [Bool.or_eq_true] at z
    exact z.imp of_decide_eq_true of_decide_eq_true
  · have z := List.all_eq_true.mp h4 y hy
    have go : (decide (y.1 ∈ own.map (·.1)) || !decide (y.1 ∈ N)) = true := by
      rcases e with e | e <;> rw [e] at z <;> exact z
    rw [Bool.or_eq_true] at go
    exact go.imp of_decide_eq_true fun w => by simpa using w
section
variable {X : Cx} {W : WX} {pos p p2 q apos cpos : Pos} {x : Str} {e : Expr} {te : TR}
theorem pr_gi {i : Int} (h : ∃ t, X.mg x = some (.int i t)) (hg : Gl X x := by rfl) (hd : (x == ("__debug__" : Str)) = false := by decide) : PR X W (.Name x pos) (rC (.int i)) := by
  obtain ⟨t, h⟩ := h
  exact pr_glob hg h (v := .int i) ⟨t, rfl⟩ (fun _ => .int i) hd
theorem pr_gs {i : Str} (h : ∃ t, X.mg x = some (.str i t)) (hg : Gl X x := by rfl) (hd : (x == ("__debug__" : Str)) = false := by decide) : PR X W (.Name x pos) (rC (.str i)) := by
  obtain ⟨t, h⟩ := h
  exact pr_glob hg h (v := .str i) ⟨t, rfl⟩ (fun _ => .str i) hd
theorem pr_gt {ys : List Str} (h : X.mg x = some (.ref (He.ga X.K x))) (ht : tupStr x ys X.K = true) (hg : Gl X x := by rfl) (hd : (x == ("__debug__" : Str)) = false := by decide) : PR X W (.Name x pos) (rC (.tuple (ys.map .str))) :=
  pr_glob hg h (v := .ref (He.ga X.K x)) rfl (fun B => rp_tupStr ht B) hd
theorem pr_tixI {ys : List Str} (h : X.mg x = some (.ref (He.ga X.K x))) (ht : tupStr x ys X.K = true) (he : PR X W e te) (hg : Gl X x := by rfl) (hdb : (x == ("__debug__" : Str)) = false := by decide) (hbase : attributeBase (.Name x p) "index" X.env (eval (.Name x p) X.env) = eval (.Name x p) X.env := by rfl)
    (hfew : ((backTo cpos (starEach [e] X.env)).all (fun x => !x.1) && (backToKw cpos (keywordEach [] X.env)).all (fun x => x.1.isSome)
      && decide (([e] : List Expr).length + ([] : List Keyword).length + (if ([] : List Keyword).isEmpty then 0 else 1) < 30)) = true := by rfl)
    (hline : (apos.endLine == cpos.line) = true := by rfl) (hs : starEach [e] X.env = (false, eval e X.env) :: starEach [] X.env := by rfl) (hplain : (backTo cpos (starEach ([] : List Expr) X.env)).any (·.1) = false := by rfl) :
    PR X W (.Call (.Attribute (.Name x p) "index" apos) [e] [] cpos) (rTix ys te) := by
  obtain ⟨⟨o, h1, h2, h3⟩, h4⟩ := tupStr_ok ht
  exact pr_tix hg h h1 h2 h3 h4 he hdb hbase hfew hline hs hplain
/-- a table of the module: text keys, ints -/
structure TabI (K : Fr) (w : World) (x : Str) (kvs : List (Str × Int)) : Prop where
  kd : ∃ es n, KDict K w (He.ga K x) es n
  vs : He.valsB K (He.ga K x) (kvs.map fun q => (q.1, .int q.2)) = true
theorem lookup_mem {α : Type} {kvs : List (Str × α)} {z : Str} {d : α} (h : kvs.lookup z = some d) : (z, d) ∈ kvs := by
  induction kvs with
  | nil => cases h
  | cons q r ih =>
    obtain ⟨k, v⟩ := q
    rw [List.lookup_cons] at h
    split at h
    · rename_i hk
      cases h
      rw [eq_of_beq hk]
      exact List.mem_cons_self
    · exact List.mem_cons_of_mem _ (ih h)
theorem lookup_map {kvs : List (Str × Int)} {z : Str} {d : D} (h : (kvs.map fun q => (q.1, PyData.int q.2)).lookup z = some d) : ∃ i, (z, i) ∈ kvs ∧ d = .int i := by
  have := lookup_mem h
  obtain ⟨q, h1, h2⟩ := List.mem_map.mp this
  cases h2
  exact ⟨q.2, h1, rfl⟩
theorem pr_tatI {kvs : List (Str × Int)} (h : X.mg x = some (.ref (He.ga X.K x))) (ht : TabI X.K X.w x kvs) (he : PR X W e te) (hs : PlainIx e) (hg : Gl X x := by rfl) (hdb : (x == ("__debug__" : Str)) = false := by decide) : PR X W (.Subscript (.Name x p) e pos) (rTat (kvs.map fun q => (q.1, .int q.2)) te) :=
  pr_tat hg h (fun z d hz => by
    obtain ⟨i, h1, rfl⟩ := lookup_map hz
    obtain ⟨es, n, kd⟩ := ht.kd
    obtain ⟨u, h2, h3⟩ := He.valsB_ok ht.vs (q := (z, .int i)) (List.mem_map.mpr ⟨(z, i), h1, rfl⟩)
    exact ⟨.int i, ⟨es, n, u, kd.at_, kd.lit, h2, h3⟩, fun B => .int i⟩) he hs hdb
theorem sd_setLcB (is : List Nat) {i : Nat} {y : Str} {py spos : Pos} {elt tg iter : Expr} {ifs : List Expr} {scope : Scope} {own : List (Str × Nat)} {ws : List Nat} {ti : PD.TI} {g : PD.TG} {tc : PD.TB} {te : TR} (hc : X.calm = true) (hN : X.N.Nodup) (hy : X.N[i]? = some y) (hyl : X.env.scope.names.lookup y = some .local)
    (hsw : swapsWith (.ListComp elt [⟨tg, iter, ifs, 0⟩] scope pos) (some (.Name y py)) spos.line X.env = pure true) (hi : PId X W tg iter ti) (ok : BlkOk X.N X.env.scope scope own) (hw : own.map (·.2) = ws)
    (hg : ∀ (s : Shared) (H : Hp) (C : Addr) (cl : List (Str × Addr)) (fp : List Addr), PGd (X.blk s H scope (compEnvC scope cl C X.env) fp) ws tg g)
    (ht : ∀ (s : Shared) (H : Hp) (C : Addr) (cl : List (Str × Addr)) (fp : List Addr), PTs (X.blk s H scope (compEnvC scope cl C X.env) fp) ifs (rdB X W0 tc))
    (he : ∀ (s : Shared) (H : Hp) (C : Addr) (cl : List (Str × Addr)) (fp : List Addr), PR (X.blk s H scope (compEnvC scope cl C X.env) fp) W0 elt te) (hs : ∀ x, foldedSetIterable iter X.env x = pure x := by intro _; rfl) :
    PSd X W (.Assign [.Name y py] (.ListComp elt [⟨tg, iter, ifs, 0⟩] scope pos) spos) (sAsg (rBor is (rLc ti g tc te ws)) i) := by
  subst hw
  exact sd_of_asg (ps_setLc (g := rdG X (own.map fun p : Str × Nat => p.2) g) (tt := rdB X W0 tc) (te := rdR X W0 te) hc hN hy hyl hsw hi ok hg ht he hs) fun σ H Q h => lc_imp (Y := X) rfl σ H Q (rd_bor is h)
/-- an own exception class without an __init__ -/
structure Exk (K : Fr) (mg : Str → Option Value) (x : Str) : Prop where
  g : mg x = some (.ref (He.ga K x))
  f : (He.Fa.exc x).ok K = true
theorem sd_raise {m : Str} {j} (ek : Exk X.K X.mg x) (hc : X.calm = true) (tk : Takes X W) (hg : Gl X x := by rfl) (hdb : (x == ("__debug__" : Str)) = false := by decide) : PSd X W (.Raise (some (.Call (.Name x p) [.Constant (.str m) j p2] [] q)) none pos) (sRaise x) := by
  obtain ⟨h1, h2, h3, h4⟩ := He.exc_ok ek.f
  exact ps_imp (ps_raise hc tk (pmk_own PySem.F.excBase_ValueError h1 ek.g h2 (raises_own h3 h4) hg hdb)) fun D σ H ⟨B, env, E, R, h, g⟩ => g.ex ⟨x, none⟩ _ _ _ _ _ _ h (.refl R) ⟨_, ek.g, rfl, trivial⟩
theorem pe_m1 {j p3} : PE X (.UnaryOp .USub (.Constant (.int 1) j p3) pos) (tC (.int (-1))) := pe_imp (pe_un un_neg pe_int) fun σ H Q h => ⟨1, rfl, h⟩
end
end PD
end PDr_
section PDs_
set_option Elab.async false
set_option linter.all false
set_option maxRecDepth 100000
set_option maxHeartbeats 2000000
/-! PDs: more operations over values. -/
namespace PD
open PySem PySem.Spec PyProof.Rows L2
section
variable {X : Cx} {B : Hp}
/-! len of a table -/
def keyOk : D → Bool
  | .int _ => true
  | .str _ => true
  | _ => false
def dLenT : List D → Option Ret
  | [.dict ds] => if ds.all (fun q => keyOk q.1) = true then some (.d (.int ds.length)) else none
  | _ => none
theorem RpK.len {K : Fr} {kvs : List (Key × V)} {ds : List (D × D)} (h : RpK K B kvs ds) : kvs.length = ds.length := by
  induction ds generalizing kvs with
  | nil => cases h; rfl
  | cons d ds ih => cases h with | cons _ _ t => simp [ih t]
theorem cd_lenT : ClD X (.builtin "len") dLenT := cld call_lenD fun xs ds z B H Q sm r1 hz k => by
  unfold dLenT at hz
  split at hz
  · rename_i ks
    split at hz
    · rename_i hk
      cases hz
      obtain ⟨v, rfl, h⟩ := rpa1 r1
      cases h with
      | scr _ => simp [keyOk] at hk
      | lck _ => simp [keyOk] at hk
      | dct h1 h2 => exact ⟨_, _, rfl, sm _ _ h1, by rw [RpK.len h2]; exact k _ B H (.refl sm) (.int _)⟩
    · cases hz
  · cases hz
end
end PD
end PDs_
section PDt_
set_option Elab.async false
set_option linter.all false
set_option maxRecDepth 100000
set_option maxHeartbeats 2000000
/-! PDt: defs with a star parameter alone. -/
namespace PD
open PySem PySem.Spec PyProof.Rows L2
/-- a def that takes any number of values -/
structure FnS (P : Program) (w : World) (K : Fr) (mg : Str → Option Value) (base : Heap) (k : Nat) (f : Addr) (lsp : L2.Sp) : Prop where
  run : ∀ (A : Around) (outer : List PySem.Env) (s : Shared) (H : Hp) (us : List Value) (vs : List V) (Q : VK) (E : XK), RoomG k A → Env0 P w K mg base A outer s H → Vals vs us → lsp vs H Q E →
    codeAny (model P w) A (.call (.ref f) ⟨us, []⟩) (CR (L2.CX P w) outer P w H s Q E) s
theorem FnS.mono {P : Program} {w : World} {K : Fr} {mg : Str → Option Value} {base : Heap} {j k : Nat} {f : Addr} {lsp : L2.Sp} (F : FnS P w K mg base j f lsp) (h : j ≤ k) : FnS P w K mg base k f lsp :=
  ⟨fun A outer s H us vs Q E hr => F.run A outer s H us vs Q E (hr.mono h)⟩
def spStar (K : Fr) (mg : Str → Option Value) (sp : PD.Sp) : L2.Sp := fun vs H Q E => vs.length ≤ sizeLine ∧ ∀ p, H p = none → spD K mg sp [V.ref p] (upd H p (.tup vs)) Q E
theorem fnS_of {P : Program} {w : World} {K : Fr} {mg : Str → Option Value} {base : Heap} {k : Nat} {f : Addr} {fd : FuncData} {x qual pv : Str} {params : Arguments} {body : List Stmt} {scope : Scope} {kws : List (Str × V)} {N : List Str} {sp : PD.Sp}
    (F : FunD K x qual params body scope [] kws f fd) (S : FnScope N [pv] scope)
    (hb : ∀ (kV doc pm : Value) (an : Option Addr) (cdv ct : Value) (us : List Value), bindArgs (PySem.W.fnOf x qual params body scope .none kV doc pm an cdv ct) ⟨us, []⟩ = (newTuple us >>= fun t => pure [(pv, t)]))
    (hbody : ∀ (cdv : Value) (A : Around) (outer : List PySem.Env) (s : Shared) (H : Hp) (vs : List V) (Q : VK) (E : XK), RoomG k (A.deeper (envOfC qual scope s.heap.objs.size f cdv)) → spD K mg sp vs H Q E →
      ∃ t, PSs (cxOf (L2.CX P w) P w K mg base N qual scope f cdv A outer s H E) body t ∧ t { nx := fun _ H' => Q .non H', rt := Q } (L2.start N vs) H) : FnS P w K mg base (k + 1) f (spStar K mg sp) := by
  obtain ⟨oc, od, dV, kV, doc, pm, an, cdv, ct, osl, rfl, lk, hcd, hD, _⟩ := F.ex
  have hdV : dV = .none := by
    rcases hD with ⟨_, h⟩ | ⟨e, _⟩
    · exact h
    · exact absurd rfl e
  subst hdV
  refine ⟨fun A outer s H us vs Q E hr e0 r ⟨hz, hq⟩ => ?_⟩
  have hn : H s.heap.objs.size = Option.none := e0.hok.fresh (Nat.le_refl _)
  have hl2 : us.length ≤ sizeLine := by rw [← r.length]; exact hz
  refine StX.run_bnd (ps := [pv]) lk hcd S hr.room e0 (G := fun xs H2 => ∃ p, H p = Option.none ∧ xs = [V.ref p] ∧ H2 = upd H p (.tup vs)) (fun A' Ex Q' h => ?_) fun s2 H2 xs ⟨p, hp, ex, eH⟩ _ => ?_
  · rw [hb]
    refine wpAny_bind (wpAny_newTuple (wpAny_pure ?_) hl2)
    have new : ObjOk P w (upd H s.heap.objs.size (.tup vs)) (s.heap.push ({ cls := .type "tuple", data := .seq us.toArray } : Obj)) s.heap.objs.size (.tup vs) := ⟨hz, us, r, ⟨_, Heap.get?_push_size _ rfl, rfl, _, rfl⟩⟩
    have un := StX.un_laid (fs := frs outer) (s := s) (o := ({ cls := .type "tuple", data := .seq us.toArray } : Obj)) (u := .tup vs) hn
    exact h _ _ [V.ref s.heap.objs.size] [Value.ref s.heap.objs.size] (StX.env0_laid e0 new) un rfl (fun e s' => StX.cxUp outer s H _ _ E e s' un (fun b o q => Heap.get?_push_of_some _ q) rfl) (.cons rfl .nil)
      rfl ⟨_, hn, rfl, rfl⟩
  · subst ex eH
    exact hbody cdv A outer s2 _ _ Q E (hr.deeper _) (hq p hp)
theorem body_of {P : Program} {w : World} {K : Fr} {mg : Str → Option Value} {base : Heap} {k n : Nat} {f : Addr} {qual : Str} {body : List Stmt} {scope : Scope} {N ps : List Str} {sp : PD.Sp} {t : PD.TS}
    (S : FnScope N ps scope) (hn : n = ps.length) (ha : Ary sp n)
    (hbody : ∀ (cdv : Value) (A : Around) (outer : List PySem.Env) (s : Shared) (H : Hp) (E : XK), RoomG k (bx P w K mg base N qual scope f cdv A outer s H E).A → PassesOwn (model P w) (bx P w K mg base N qual scope f cdv A outer s H E).A (bx P w K mg base N qual scope f cdv A outer s H E).env (bx P w K mg base N qual scope f cdv A outer s H E).xe → Takes (bx P w K mg base N qual scope f cdv A outer s H E) (wx E) →
      PSsd (bx P w K mg base N qual scope f cdv A outer s H E) (wx E) body t)
    (hm : Meets n N.length sp t) (cdv : Value) (A : Around) (outer : List PySem.Env) (s : Shared) (H : Hp) (vs : List V) (Q : VK) (E : XK) (hr : RoomG k (A.deeper (envOfC qual scope s.heap.objs.size f cdv))) (h : spD K mg sp vs H Q E) :
      ∃ t, PSs (cxOf (L2.CX P w) P w K mg base N qual scope f cdv A outer s H E) body t ∧ t { nx := fun _ H' => Q .non H', rt := Q } (L2.start N vs) H := by
  obtain ⟨B, as, R, Ex, no1, no2, rel, hsp, hR, hE⟩ := h
  have hl := ha _ _ _ hsp
  have hvl : vs.length = n := by have := rel.len; rw [List.length_map] at this; omega
  have hpl : ps.length ≤ N.length := by have := congrArg List.length S.pre; rw [List.length_take] at this; omega
  have hnN : n ≤ N.length := by omega
  refine ⟨_, hbody cdv A outer s H E hr (passes_of rfl) (takes_of rfl rfl rfl rfl), ?_⟩
  have m := hm as R Ex hl hsp
  rw [show N.length - n = N.length - as.length by omega] at m
  refine ⟨B, _, _, rel.start (by omega), m, ⟨fun env' σ' B' H' h p => ?_, fun _ _ _ _ h => h.elim, fun _ _ _ _ h => h.elim, fun r env' v σ' B' H' h p ro nw => ?_, fun x env' σ' cls dd B' H' h p ⟨C, e1, e2, e3⟩ => ?_⟩⟩
  · exact hR _ _ _ _ _ h (p.out hl hvl hnN) .non trivial
  · have no : ∀ a, ¬ Own env' σ' a → ¬ Own (pars n env') (vs.map some) a := fun a h z => h (own_out hvl p z)
    refine hR _ _ _ _ _ h (p.out hl hvl hnN) ?_ ?_
    · cases r with
      | d x => exact ro
      | own xs => obtain ⟨l, e, h1, h2⟩ := ro; exact ⟨l, e, h1, no l h2⟩
      | tab xs => obtain ⟨l, e, h1, h2⟩ := ro; exact ⟨l, e, h1, no l h2⟩
    · cases r with
      | d x => trivial
      | own xs =>
        intro l e
        rcases nw l e with z | z
        · exact .inl z
        · exact .inr (ownF_start z)
      | tab xs =>
        intro l e
        rcases nw l e with z | z
        · exact .inl z
        · exact .inr (ownF_start z)
  · exact hE _ _ _ _ _ _ h (p.out hl hvl hnN) ⟨C, e1, e2, e3⟩
/-- a def with a star parameter, by its body -/
theorem fnS_body {P : Program} {w : World} {K : Fr} {mg : Str → Option Value} {base : Heap} {k : Nat} {f : Addr} {fd : FuncData} {x qual pv : Str} {params : Arguments} {body : List Stmt} {scope : Scope} {kws : List (Str × V)} {N : List Str} {sp : PD.Sp} {t : PD.TS}
    (F : FunD K x qual params body scope [] kws f fd) (S : FnScope N [pv] scope)
    (hb : ∀ (kV doc pm : Value) (an : Option Addr) (cdv ct : Value) (us : List Value), bindArgs (PySem.W.fnOf x qual params body scope .none kV doc pm an cdv ct) ⟨us, []⟩ = (newTuple us >>= fun t => pure [(pv, t)])) (ha : Ary sp 1)
    (hbody : ∀ (cdv : Value) (A : Around) (outer : List PySem.Env) (s : Shared) (H : Hp) (E : XK), RoomG k (bx P w K mg base N qual scope f cdv A outer s H E).A → PassesOwn (model P w) (bx P w K mg base N qual scope f cdv A outer s H E).A (bx P w K mg base N qual scope f cdv A outer s H E).env (bx P w K mg base N qual scope f cdv A outer s H E).xe → Takes (bx P w K mg base N qual scope f cdv A outer s H E) (wx E) →
      PSsd (bx P w K mg base N qual scope f cdv A outer s H E) (wx E) body t)
    (hm : Meets 1 N.length sp t) : FnS P w K mg base (k + 1) f (spStar K mg sp) :=
  fnS_of F S hb fun cdv A outer s H vs Q E hr h => body_of S rfl ha hbody hm cdv A outer s H vs Q E hr h
theorem bind_star0 {B : List Value → Sem (List (Str × Value))} {pv : Str} (h0 : B [] = (newTuple [] >>= fun t => pure [(pv, t)])) (h1 : ∀ r rs, B (r :: rs) = (newTuple (r :: rs) >>= fun t => pure [(pv, t)])) :
    ∀ us : List Value, B us = (newTuple us >>= fun t => pure [(pv, t)])
  | [] => h0
  | r :: rs => h1 r rs
section
variable {X : Cx} {W : WX} {k : Nat} {f : Addr} {sp : PD.Sp} {lsp : L2.Sp} {x : Str} {p pos : Pos} {e : Expr} {es : List Expr} {ta : PD.TA}
theorem run_fnS {pins : List (Addr × Obj)} {s : Shared} {σ : St} {H : Hp} {Q : VK} {us : List Value} {vs : List V} (F : FnS X.prog X.w X.K X.mg X.base k f lsp) (hr : RoomG k X.A) (tk : Takes X W) (I : Inv X pins σ H s) (r : Vals vs us)
    (h : lsp vs H Q (WE W σ)) : wpAny (model X.prog X.w) X.A (call (.ref f) us []) (EP X pins σ Q) X.xe s := by
  refine wpAny_call (codeAny_mono (F.run X.A X.stack s H us vs Q (WE W σ) hr I.env0 r h) fun r s' hq => ?_)
  cases r with
  | error e => exact passAt tk σ pins H s e s' I hq
  | ok fl =>
    cases fl with
    | ret u => exact I.after hq
    | next => exact False.elim hq
    | brk => exact False.elim hq
    | cont => exact False.elim hq
theorem pe_callSt (F : FnS X.prog X.w X.K X.mg X.base k f lsp) (hr : RoomG k X.A) (tk : Takes X W) (hg : Gl X x) (hm : X.mg x = some (.ref f)) (hk : PySem.W.keepIn X.K (.ref f) = true) {t : L2.TA}
    (ha : PA X (e :: es) t) (hdb : (x == ("__debug__" : Str)) = false := by decide) (he : starEach (e :: es) X.env = (false, eval e X.env) :: starEach es X.env := by rfl) (hpl : (backTo pos (starEach es X.env)).any (·.1) = false := by rfl) :
    PE X (.Call (.Name x p) (e :: es) [] pos) (fun σ H Q => t σ H fun vs H1 => lsp vs H1 Q (WE W σ)) := by
  refine ⟨fun pins s σ H Q I h => ?_⟩
  refine wpAny_Call_Name_kw (ld_glob I hg hm ?_ hdb)
  refine PySem.W.callWith_K (h₀ := X.base) I.ok.mod.kin hk (thn (ha.run pos pins s σ H _ I h) fun us s1 ⟨vs, H1, I1, r, q⟩ => ⟨I1.kIn, ?_⟩) he hpl
  exact run_fnS F hr tk I1 r q
theorem pr_callS (F : FnS X.prog X.w X.K X.mg X.base k f (spStar X.K X.mg sp)) (hr : RoomG k X.A) (tk : Takes X W) (hg : Gl X x) (hm : X.mg x = some (.ref f)) (hk : PySem.W.keepIn X.K (.ref f) = true)
    (ha : PAd X W (e :: es) ta) (hdb : (x == ("__debug__" : Str)) = false := by decide) (he : starEach (e :: es) X.env = (false, eval e X.env) :: starEach es X.env := by rfl) (hpl : (backTo pos (starEach es X.env)).any (·.1) = false := by rfl) :
    PR X W (.Call (.Name x p) (e :: es) [] pos) (rCall sp [] (aCons (rTup ta) aNil)) := pe_imp (pe_callSt F hr tk hg hm hk ha hdb he hpl) fun σ H Q ⟨B, env, E, P, R, t, g, k⟩ =>
  ⟨B, env, E, _, R, t, g, fun xs e1 vs B1 H1 ⟨hl, p⟩ q rv => ⟨by rw [rv.length]; exact hl, fun pp hp =>
    have s0 := Stp0.new (o := .tup vs) q.rel.ex hp
    have q2 := q.trans (Post.of0 q.rel s0)
    spD_call (vs := [V.ref pp]) (xs := [.tuple xs]) q2.rel (.cons (.tup (SqT.of upd_same) (rv.mono s0.base)) .nil) p (g.trans q2) fun r e2 v B2 H2 p2 q3 ro nw => k r e2 v B2 H2 p2 (q2.trans q3) ro (New.transS q2 nw)⟩⟩
end
structure CalS (P : Program) (w : World) (K : Fr) (mg : Str → Option Value) (base : Heap) (k : Nat) (x : Str) (sp : PD.Sp) : Prop where
  ex : ∃ (f : Addr), mg x = some (.ref f) ∧ PySem.W.keepIn K (.ref f) = true ∧ FnS P w K mg base k f (spStar K mg sp)
theorem CalS.mono {P : Program} {w : World} {K : Fr} {mg : Str → Option Value} {base : Heap} {j k : Nat} {x : Str} {sp : PD.Sp} (C : CalS P w K mg base j x sp) (h : j ≤ k) : CalS P w K mg base k x sp := by
  obtain ⟨f, h1, h2, F⟩ := C.ex
  exact ⟨f, h1, h2, F.mono h⟩
section
variable {X : Cx} {W : WX} {k : Nat} {sp : PD.Sp} {x : Str} {p pos : Pos} {e : Expr} {es : List Expr} {ta : PD.TA}
theorem ccS (C : CalS X.prog X.w X.K X.mg X.base k x sp) (hr : RoomG k X.A) (tk : Takes X W) (ha : PAd X W (e :: es) ta) (hg : Gl X x := by rfl) (hdb : (x == ("__debug__" : Str)) = false := by decide)
    (he : starEach (e :: es) X.env = (false, eval e X.env) :: starEach es X.env := by rfl) (hpl : (backTo pos (starEach es X.env)).any (·.1) = false := by rfl) : PR X W (.Call (.Name x p) (e :: es) [] pos) (rCall sp [] (aCons (rTup ta) aNil)) := by
  obtain ⟨f, h1, h2, F⟩ := C.ex
  exact pr_callS F hr tk hg h1 h2 ha hdb he hpl
end
end PD
end PDt_
section PDu_
set_option Elab.async false
set_option linter.all false
set_option maxRecDepth 100000
set_option maxHeartbeats 2000000
/-! PDu: calls that lend two lists. -/
namespace PD
open PySem PySem.Spec PyProof.Rows L2
/-- f(p, q, ..): p and q own or lent lists that the callee may change -/
def rCallPP (sp : PD.Sp) (i j : Nat) (ds : List D) (ts : PD.TA) : TR := fun E env P => IsOwn i env ∧ IsOwn j env ∧ ts E env fun xs e1 => ∃ s ys t zs, e1[i]? = some s ∧ ownOf s = some ys ∧ e1[j]? = some t ∧ ownOf t = some zs ∧
  sp (.par ys :: .par zs :: (xs ++ ds).map .d) (fun r as => ∃ y2 z2, as[0]? = some (.par y2) ∧ as[1]? = some (.par z2) ∧ P r ((e1.set i (s.put y2)).set j (t.put z2)))
    (fun x as => ∃ y2 z2, as[0]? = some (.par y2) ∧ as[1]? = some (.par z2) ∧ E x ((e1.set i (s.put y2)).set j (t.put z2)))
section
variable {X : Cx} {W : WX} {k n : Nat} {f : Addr} {fd : FuncData} {ps ks : List Str} {sp : PD.Sp} {lsp : L2.Sp} {dvs : List V} {ds : List Value} {dds : List D} {x : Str} {p q pos : Pos} {e : Expr} {es : List Expr} {ta : PD.TA}
variable {K : Fr} {B H B1 H1 B2 H2 : Hp} {env env1 env' : Env} {σ : St} {E : EK} {vs : List V} {xs : List D}
theorem owns_of {s : Sl} {xs : List D} (h : ownOf s = some xs) : owns (some s) = true := by cases s <;> simp_all [ownOf, owns]
theorem owns_put {s : Sl} {xs zs : List D} (h : ownOf s = some xs) : owns (some (s.put zs)) = true := by cases s <;> simp_all [ownOf, owns, Sl.put]
theorem ownsF_put {s : Sl} {zs : List D} : ownsF (some (s.put zs)) = ownsF (some s) := by cases s <;> rfl
theorem Post.lentN {L : Nat → Prop} {as as' : List Sl} (R : Rel K B H env σ) (hlen : env'.length = env.length)
    (hL : ∀ (k : Nat) s', env'[k]? = some s' → (¬ L k ∧ env[k]? = some s') ∨ (L k ∧ ∃ s zs xs l, env[k]? = some s ∧ ownOf s = some xs ∧ s' = s.put zs ∧ σ[k]? = some (some (.ref l)) ∧ B2 l = none ∧ ∃ us, H2 l = some (.lst us) ∧ RpA K B2 us zs))
    (own1 : ∀ a, Own as (vs.map some) a → ∃ k, L k ∧ owns env[k]? = true ∧ σ[k]? = some (some (.ref a))) (own2 : ∀ a, ¬ OwnF as (vs.map some) a)
    (q : Post K B H as (vs.map some) B2 H2 as' (vs.map some)) : Post K B H env σ B2 H2 env' σ := by
  have up : ∀ (j : Nat) s', env'[j]? = some s' → owns (some s') = true → owns env[j]? = true := fun j s' h w => by
    rcases hL j s' h with ⟨_, e⟩ | ⟨_, s, zs, xs, l, e, ho, _⟩
    · rw [e]; exact w
    · rw [e]; exact owns_of ho
  have upF : ∀ (j : Nat) s', env'[j]? = some s' → ownsF (some s') = true → ownsF env[j]? = true := fun j s' h w => by
    rcases hL j s' h with ⟨_, e⟩ | ⟨_, s, zs, xs, l, e, ho, rfl, _⟩
    · rw [e]; exact w
    · rw [e]; rw [ownsF_put] at w; exact w
  refine ⟨⟨q.rel.ex, by rw [hlen]; exact R.len, fun j s' o h1 h2 => ?_, fun j j' l' ne h1 h2 h3 h4 => ?_⟩, ⟨q.stp.base, fun a h h' => .inl ((q.stp.fresh a h h').resolve_right (own2 a)), q.stp.dom, fun a o h hn => q.stp.keep a o h fun z => ?_⟩, fun a ⟨j, h1, h2⟩ => ?_, fun a ⟨j, h1, h2⟩ => ?_, fun j xs' h => ?_⟩
  · rcases hL j s' h1 with ⟨nL, e⟩ | ⟨_, s, zs, xs, l, e, ho, rfl, hl, b2, us, hv, rr⟩
    · refine (R.ok j s' o e h2).keep q.stp.base fun l' w e' => ?_
      have ne : ¬ Own as (vs.map some) l' := fun z => by
        obtain ⟨k, k1, k2, k3⟩ := own1 l' z
        exact R.sep k j l' (fun z => nL (z ▸ k1)) k2 (by rw [e]; exact w) k3 (by rw [h2, e'])
      obtain ⟨b0, h0⟩ := R.obj ⟨j, by rw [e]; exact w, by rw [h2, e']⟩
      refine ⟨?_, ?_⟩
      · cases z : B2 l' with
        | none => rfl
        | some u => exact absurd ((q.stp.fresh l' b0 (by rw [z]; simp)).resolve_right (own2 l')) h0
      · obtain ⟨u, hu⟩ := Option.ne_none_iff_exists'.mp h0
        rw [hu]
        exact q.stp.keep l' u hu ne
    · rw [hl] at h2; cases h2
      cases s with
      | own _ => exact ⟨l, rfl, b2, us, hv, rr⟩
      | par _ => exact ⟨l, rfl, b2, us, hv, rr⟩
      | un => simp [ownOf] at ho
      | d _ => simp [ownOf] at ho
      | tab _ => simp [ownOf] at ho
  · obtain ⟨s1, e1, w1⟩ := owns_some h1
    obtain ⟨s2, e2, w2⟩ := owns_some h2
    exact R.sep j j' l' ne (up j s1 e1 w1) (up j' s2 e2 w2) h3 h4
  · obtain ⟨k, _, k2, k3⟩ := own1 a z
    exact hn ⟨k, k2, k3⟩
  · obtain ⟨s1, e1, w1⟩ := owns_some h1
    exact .inl ⟨j, up j s1 e1 w1, h2⟩
  · obtain ⟨s1, e1, w1⟩ := ownsF_some h1
    exact .inl ⟨j, upF j s1 e1 w1, h2⟩
  · rcases hL j _ h with ⟨_, e⟩ | ⟨_, s, zs, xs, l, e, ho, e2, _⟩
    · exact ⟨⟨xs', e⟩, rfl⟩
    · cases s with
      | par ws => exact ⟨⟨ws, e⟩, rfl⟩
      | own _ => cases e2
      | un => simp [ownOf] at ho
      | d _ => simp [ownOf] at ho
      | tab _ => simp [ownOf] at ho
theorem pr_callPP {o o2 : Expr} {i i2 : Nat} (hne : i ≠ i2) (F : FnG X.prog X.w X.K X.mg X.base k f fd ps (spD X.K X.mg sp)) (hr : RoomG k X.A) (tk : Takes X W) (hg : Gl X x) (hm : X.mg x = some (.ref f)) (hk : PySem.W.keepIn X.K (.ref f) = true) (hb : Binds X.K fd ps ds) (hd : Vals dvs ds) (hdd : ∀ B, RpA X.K B dvs dds)
    (ho : PE X o (tVar i)) (ho2 : PE X o2 (tVar i2)) (ha : PAd X W es ta) (hdb : (x == ("__debug__" : Str)) = false := by decide) (he2 : starEach (o2 :: es) X.env = (false, eval o2 X.env) :: starEach es X.env := by rfl) (he : starEach (o :: o2 :: es) X.env = (false, eval o X.env) :: starEach (o2 :: es) X.env := by rfl) (hpl : (backTo pos (starEach (o2 :: es) X.env)).any (·.1) = false := by rfl) :
    PR X W (.Call (.Name x p) (o :: o2 :: es) [] pos) (rCallPP sp i i2 dds ta) := pe_imp (pe_callG F hr tk hg hm hk hb hd (pa_cons ho (pa_cons ho2 ha he2) he) hdb he hpl) fun σ H Q ⟨B, env, E, P, R, ⟨⟨s0, xs0, hs0, ho0⟩, ⟨t0, ys0, ht0, hq0⟩, t⟩, g, k⟩ => by
  obtain ⟨l, vs0, el, hl, _⟩ := R.own_at hs0 ho0
  obtain ⟨m, ws0, em, hm', _⟩ := R.own_at ht0 hq0
  refine ⟨.ref l, el, .ref m, em, ⟨B, env, E, _, R, t, g, fun xs e1 vs B1 H1 ⟨s, ys, s2, ys2, hs, hy, hs2, hy2, p⟩ q rv => ?_⟩⟩
  have rv2 := rv.append (hdd B1)
  obtain ⟨l', vs1, el', hl1, rr1⟩ := q.rel.own_at hs hy
  rw [el] at el'; cases el'
  obtain ⟨m', vs2, em', hm1, rr2⟩ := q.rel.own_at hs2 hy2
  rw [em] at em'; cases em'
  have own_l : Own e1 σ l := ⟨i, by rw [hs]; exact owns_of hy, el⟩
  have own_m : Own e1 σ m := ⟨i2, by rw [hs2]; exact owns_of hy2, em⟩
  have hlm : l ≠ m := fun z => q.rel.sep i i2 l hne (by rw [hs]; exact owns_of hy) (by rw [hs2]; exact owns_of hy2) el (by rw [em, z])
  have b1 := (q.rel.obj own_l).1
  have b2 := (q.rel.obj own_m).1
  generalize hxs : xs ++ dds = zs at p rv2
  generalize hvs : vs ++ dvs = us at rv2
  have e2 : (V.ref l :: V.ref m :: vs) ++ dvs = V.ref l :: V.ref m :: us := by rw [← hvs]; rfl
  show spD X.K X.mg sp ((V.ref l :: V.ref m :: vs) ++ dvs) H1 Q (WE W σ)
  rw [e2]
  have at_ : ∀ j s', (Sl.par ys :: Sl.par ys2 :: zs.map Sl.d)[j]? = some s' → owns (some s') = true → j = 0 ∨ j = 1 := fun j s' h w => by
    cases j with
    | zero => exact .inl rfl
    | succ j => cases j with
      | zero => exact .inr rfl
      | succ j =>
        rw [List.getElem?_cons_succ, List.getElem?_cons_succ, List.getElem?_map] at h
        cases z : zs[j]? <;> rw [z] at h <;> cases h
        cases w
  have rel2 : Rel X.K B1 H1 (Sl.par ys :: Sl.par ys2 :: zs.map Sl.d) ((V.ref l :: V.ref m :: us).map some) := by
    refine ⟨q.rel.ex, by simp [rv2.length], fun j s' o h1 h2 => ?_, fun j j' l' ne h1 h2 h3 h4 => ?_⟩
    · cases j with
      | zero => simp at h1 h2; subst h1 h2; exact ⟨l, rfl, b1, vs1, hl1, rr1⟩
      | succ j => cases j with
        | zero => simp at h1 h2; subst h1 h2; exact ⟨m, rfl, b2, vs2, hm1, rr2⟩
        | succ j => exact (rv2.rel q.rel).ok j s' o (by simpa using h1) (by simpa using h2)
    · obtain ⟨s1, f1, w1⟩ := owns_some h1
      obtain ⟨s2, f2, w2⟩ := owns_some h2
      rcases at_ j s1 f1 w1 with rfl | rfl <;> rcases at_ j' s2 f2 w2 with rfl | rfl
      · exact ne rfl
      · simp at h3 h4; exact hlm (h3.trans h4.symm)
      · simp at h3 h4; exact hlm (h4.trans h3.symm)
      · exact ne rfl
  have own1 : ∀ a, Own (Sl.par ys :: Sl.par ys2 :: zs.map Sl.d) ((V.ref l :: V.ref m :: us).map some) a → a = l ∨ a = m := fun a ⟨j, h1, h2⟩ => by
    obtain ⟨s1, f1, w1⟩ := owns_some h1
    rcases at_ j s1 f1 w1 with rfl | rfl
    · simp at h2; exact .inl h2.symm
    · simp at h2; exact .inr h2.symm
  have own2 : ∀ a, ¬ OwnF (Sl.par ys :: Sl.par ys2 :: zs.map Sl.d) ((V.ref l :: V.ref m :: us).map some) a := fun a ⟨j, h1, h2⟩ => by
    obtain ⟨s1, f1, w1⟩ := ownsF_some h1
    have w2 : owns (some s1) = true := by cases s1 <;> simp_all [owns, ownsF]
    rcases at_ j s1 f1 w2 with rfl | rfl
    · simp at f1; subst f1; cases w1
    · simp at f1; subst f1; cases w1
  have lst_ : ∀ {as' : List Sl} {B2 H2 : Hp} {ws : List D}, Post X.K B1 H1 (Sl.par ys :: Sl.par ys2 :: zs.map Sl.d) ((V.ref l :: V.ref m :: us).map some) B2 H2 as' ((V.ref l :: V.ref m :: us).map some) → as'[0]? = some (.par ws) → B2 l = none ∧ ∃ us, H2 l = some (.lst us) ∧ RpA X.K B2 us ws := fun {as' B2 H2 ws} q2 h0 => by
    obtain ⟨l2, e3, b3, us2, h3, r3⟩ := q2.rel.ok 0 _ (some (V.ref l)) h0 (by simp)
    cases e3
    exact ⟨b3, us2, h3, r3⟩
  have lst2_ : ∀ {as' : List Sl} {B2 H2 : Hp} {ws : List D}, Post X.K B1 H1 (Sl.par ys :: Sl.par ys2 :: zs.map Sl.d) ((V.ref l :: V.ref m :: us).map some) B2 H2 as' ((V.ref l :: V.ref m :: us).map some) → as'[1]? = some (.par ws) → B2 m = none ∧ ∃ us, H2 m = some (.lst us) ∧ RpA X.K B2 us ws := fun {as' B2 H2 ws} q2 h0 => by
    obtain ⟨l2, e3, b3, us2, h3, r3⟩ := q2.rel.ok 1 _ (some (V.ref m)) h0 (by simp)
    cases e3
    exact ⟨b3, us2, h3, r3⟩
  have q3_ : ∀ {as' : List Sl} {B2 H2 : Hp} {ws ws2 : List D}, Post X.K B1 H1 (Sl.par ys :: Sl.par ys2 :: zs.map Sl.d) ((V.ref l :: V.ref m :: us).map some) B2 H2 as' ((V.ref l :: V.ref m :: us).map some) → as'[0]? = some (.par ws) → as'[1]? = some (.par ws2) →
      Post X.K B1 H1 e1 σ B2 H2 ((e1.set i (s.put ws)).set i2 (s2.put ws2)) σ := fun {as' B2 H2 ws ws2} q2 h0 h1 => by
    obtain ⟨c1, u1, c2, c3⟩ := lst_ q2 h0
    obtain ⟨d1, u2, d2, d3⟩ := lst2_ q2 h1
    refine Post.lentN (L := fun k => k = i ∨ k = i2) q.rel (by simp) (fun k s' hk => ?_) (fun a ha => ?_) own2 q2
    · rcases set_at hk with ⟨rfl, rfl, _⟩ | ⟨ne, hk⟩
      · exact .inr ⟨.inr rfl, s2, ws2, ys2, m, hs2, hy2, rfl, em, d1, u2, d2, d3⟩
      · rcases set_at hk with ⟨rfl, rfl, _⟩ | ⟨ne2, hk⟩
        · exact .inr ⟨.inl rfl, s, ws, ys, l, hs, hy, rfl, el, c1, u1, c2, c3⟩
        · exact .inl ⟨fun z => z.elim (fun z => ne2 z.symm) (fun z => ne z.symm), hk⟩
    · rcases own1 a ha with rfl | rfl
      · exact ⟨i, .inl rfl, by rw [hs]; exact owns_of hy, el⟩
      · exact ⟨i2, .inr rfl, by rw [hs2]; exact owns_of hy2, em⟩
  refine ⟨B1, _, _, _, fun s' hs' ws e => ?_, fun s' hs' ws e => ?_, rel2, p, fun r as' v B2 H2 ⟨ws, ws2, hh, hh2, p2⟩ q2 ro nw => ?_, fun y as' cls dd B2 H2 ⟨ws, ws2, hh, hh2, p2⟩ q2 ex => ?_⟩
  · subst e
    rcases List.mem_cons.mp hs' with z | z
    · cases z
    · rcases List.mem_cons.mp z with z | z
      · cases z
      · obtain ⟨_, _, z⟩ := List.mem_map.mp z; cases z
  · subst e
    rcases List.mem_cons.mp hs' with z | z
    · cases z
    · rcases List.mem_cons.mp z with z | z
      · cases z
      · obtain ⟨_, _, z⟩ := List.mem_map.mp z; cases z
  · have q3 := q3_ q2 hh hh2
    refine k r _ v B2 H2 p2 (q.trans q3) ?_ (New.transS q ?_)
    · have no : ∀ l', (H1 l' = none ∨ OwnF (Sl.par ys :: Sl.par ys2 :: zs.map Sl.d) ((V.ref l :: V.ref m :: us).map some) l') → ¬ Own ((e1.set i (s.put ws)).set i2 (s2.put ws2)) σ l' := fun l' n ⟨j, h1, h2⟩ => by
        have n := n.resolve_right (own2 l')
        obtain ⟨s1, f1, w1⟩ := owns_some h1
        rcases set_at f1 with ⟨rfl, _, _⟩ | ⟨_, f1⟩
        · rw [em] at h2; cases h2; rw [hm1] at n; cases n
        · rcases set_at f1 with ⟨rfl, _, _⟩ | ⟨_, f1⟩
          · rw [el] at h2; cases h2; rw [hl1] at n; cases n
          · exact (q.rel.obj ⟨j, by rw [f1]; exact w1, h2⟩).2 n
      cases r with
      | d y => exact ro
      | own ys' => obtain ⟨l', e3, e4, _⟩ := ro; exact ⟨l', e3, e4, no l' (nw l' e3)⟩
      | tab ys' => obtain ⟨l', e3, e4, _⟩ := ro; exact ⟨l', e3, e4, no l' (nw l' e3)⟩
    · cases r with
      | d y => trivial
      | own ys' => exact fun l' e => .inl ((nw l' e).resolve_right (own2 l'))
      | tab ys' => exact fun l' e => .inl ((nw l' e).resolve_right (own2 l'))
  · exact g _ _ _ _ _ _ p2 (q.trans (q3_ q2 hh hh2)) ex
theorem ccPP {y y2 : Str} {q q2 : Pos} (i i2 : Nat) (hne : i ≠ i2) (C : Cal X.prog X.w X.K X.mg X.base k x dds sp) (hr : RoomG k X.A) (tk : Takes X W) (ha : PAd X W es ta) (hN : X.N[i]? = some y := by rfl) (hN2 : X.N[i2]? = some y2 := by rfl)
    (hv : Vis X.env.scope y := by first | exact Or.inl rfl | exact Or.inr (Or.inl rfl) | exact Or.inr (Or.inr rfl)) (hv2 : Vis X.env.scope y2 := by first | exact Or.inl rfl | exact Or.inr (Or.inl rfl) | exact Or.inr (Or.inr rfl)) (hd : (y == ("__debug__" : Str)) = false := by decide) (hd2 : (y2 == ("__debug__" : Str)) = false := by decide)
    (hcd : (y == ("__classdict__" : Str)) = false := by decide) (hcd2 : (y2 == ("__classdict__" : Str)) = false := by decide) (hg : Gl X x := by rfl) (hdb : (x == ("__debug__" : Str)) = false := by decide)
    (he2 : starEach (.Name y2 q2 :: es) X.env = (false, eval (.Name y2 q2) X.env) :: starEach es X.env := by rfl) (he : starEach (.Name y q :: .Name y2 q2 :: es) X.env = (false, eval (.Name y q) X.env) :: starEach (.Name y2 q2 :: es) X.env := by rfl) (hpl : (backTo pos (starEach (.Name y2 q2 :: es) X.env)).any (·.1) = false := by rfl) : PR X W (.Call (.Name x p) (.Name y q :: .Name y2 q2 :: es) [] pos) (rCallPP sp i i2 dds ta) := by
  obtain ⟨f, fd, ps, dvs, ds, h1, h2, h3, h4, h5, F⟩ := C.ex
  exact pr_callPP hne F hr tk hg h1 h2 h3 h4 h5 (pe_var hN hv hd hcd) (pe_var hN2 hv2 hd2 hcd2) ha hdb he2 he hpl
/-- is True, is not True, of bools -/
def dIsB : D → D → Option Ret
  | .bool a, .bool b => some (.d (.bool (decide (a = b))))
  | _, _ => none
def dIsNotB : D → D → Option Ret
  | .bool a, .bool b => some (.d (.bool (!decide (a = b))))
  | _, _ => none
theorem od_isB : OpD X (compareOp .Is) dIsB := opd op_is_bl fun x y d e z B H Q sm r1 r2 hz k => by
  unfold dIsB at hz
  split at hz
  · cases hz; cases r1; cases r2
    exact ⟨_, _, rfl, rfl, k _ B H (.refl sm) (.bl _)⟩
  · cases hz
theorem od_isNotB : OpD X (compareOp .IsNot) dIsNotB := opd op_isnot_bl fun x y d e z B H Q sm r1 r2 hz k => by
  unfold dIsNotB at hz
  split at hz
  · cases hz; cases r1; cases r2
    exact ⟨_, _, rfl, rfl, k _ B H (.refl sm) (.bl _)⟩
  · cases hz
/-- a slice's end that may be none -/
def oOpt (t : TR) : PD.TO := fun E env P => fz t E env fun x e1 => (x = .none ∧ P none e1) ∨ ∃ i, x = .int i ∧ P (some i) e1
def tOpt (t : L2.TE) : L2.TO := fun σ H Q => t σ H fun x H1 => (x = .non ∧ Q none H1) ∨ ∃ i, x = .int i ∧ Q (some i) H1
theorem po_opt {te : L2.TE} (h : PE X e te) : PO X (some e) (tOpt te) := by
  refine ⟨fun pins s σ H Q I hw => ?_⟩
  rw [evalPart_some]
  refine thn (h.run pins s σ H _ I hw) fun u s1 ⟨x, H1, I1, r1, q1⟩ => ?_
  rcases q1 with ⟨rfl, q⟩ | ⟨i, rfl, q⟩
  · have r1 : u = .none := r1
    subst r1
    exact ⟨none, H1, I1, .none, q⟩
  · obtain ⟨t, rfl⟩ := r1
    exact ⟨some i, H1, I1, .int i t, q⟩
theorem od_opt {te : TR} (he : PR X W e te) : POd X W (some e) (oOpt te) := po_imp (po_opt he) fun σ H Q ⟨B, env, E, P, R, h, g, k⟩ => rd_fz R h g fun x e1 v B1 H1 h1 q1 r1 => by
  rcases h1 with ⟨ei, p1⟩ | ⟨i, ei, p1⟩
  · subst ei; cases r1
    exact .inl ⟨rfl, k _ _ _ _ p1 q1⟩
  · subst ei; cases r1
    exact .inr ⟨i, rfl, k _ _ _ _ p1 q1⟩
end
end PD
end PDu_
section PDv_
set_option Elab.async false
set_option linter.all false
set_option maxRecDepth 100000
set_option maxHeartbeats 4000000
/-! PDv: sorted(set(xs)) of ints. -/
namespace PD
open PySem PySem.Spec PyProof.Rows L2
section
variable {P : Program} {w : World} {A : Around} {E : Value → Shared → Prop} {s : Shared}
theorem set_of_ints {l : Addr} {us : List Value} {ns : List Int} {Q : Value → Shared → Prop} (hh : A.handled = none) (hl : s.heap.IsList l us.toArray) (r : IntsAre us ns) (room : ns.length + 1 < scanBound)
    (q : ∀ (h' : Heap) (tk c : Nat), SetR w h' s.heap.objs.size (fun j => decide (j ∈ ns)) c → c ≤ ns.length → (∀ b o, b < s.heap.objs.size → s.heap.get? b = some o → h'.get? b = some o) → Q (.ref s.heap.objs.size) { s with heap := h', toks := tk }) :
    wpAny (model P w) A (call (.type "set") [.ref l]) Q E s := by
  have hlen : us.length = ns.length := IntsAre.length r
  obtain ⟨c, tl, hmro⟩ := PySem.F.called_set.mro
  have f1 := PySem.F.called_set.made
  have f2 := PySem.F.called_set.sub
  have f3 := PySem.F.called_set.notType
  have f4 := PySem.F.called_set.canCreate
  have f5 := PySem.F.typeCall_set_1 (.ref l)
  have ex : codeAny (model P w) A (.builtin "type.__call__" ⟨[.type "set", .ref l], []⟩) (wants Q E) s := by
    refine codeAny_builtin PySem.F.entry_type_call ?_
    rw [Around.under_plain (weight_type_call_type "set" [.ref l] []) rfl]
    repeat (any_goals (first | assumption | wp_step))
    refine codeAny_mono (code_set_led1 (.ref l) (E := E) (Q₁ := fun ob s1 => ob = .ref s.heap.objs.size ∧ s1 = { s with heap := s.heap.push (nSet (!w.params.followText "set-order")) }) ⟨rfl, rfl⟩) fun res s1 hr => ?_
    match res, hr with
    | .error e, hr => exact hr
    | .ok .next, hr => exact hr.elim
    | .ok .brk, hr => exact hr.elim
    | .ok .cont, hr => exact hr.elim
    | .ok (.ret ob), hr =>
      obtain ⟨rfl, rfl⟩ := hr
      generalize hled : (!w.params.followText "set-order") = led
      have hS : (s.heap.push (nSet led)).get? s.heap.objs.size = some (nSet led) := Heap.get?_push_size _ rfl
      have ty : Shared.TypeIs { s with heap := s.heap.push (nSet led) } (.ref s.heap.objs.size) "set" := ⟨_, hS, rfl⟩
      have g1 := PySem.F.called_set.init.lookup
      have g2 := PySem.F.called_set.init.bind (.ref s.heap.objs.size)
      repeat (any_goals (first | assumption | wp_step))
      refine codeAny_mono (codeAny_call_builtin (R := wants (fun rr s2 => rr = .none ∧ ∃ h' tk c, s2 = { s with heap := h', toks := tk } ∧ SetR w h' s.heap.objs.size (fun j => decide (j ∈ ns)) c ∧ c ≤ ns.length ∧ ∀ b o, b < s.heap.objs.size → s.heap.get? b = some o → h'.get? b = some o) E)
        PySem.F.called_set.init.plain PySem.F.entry_set_init (check_set_init_1 ty ?_)) fun res2 s2 hr2 => ?_
      · obtain ⟨⟨oc, od, dt, osl⟩, hol, hcl, nl, hdl⟩ := hl
        cases hcl; cases hdl
        have hol2 : (s.heap.push (nSet led)).get? l = some { cls := .type "list", dict := od, data := .seq us.toArray nl, slots := osl } := Heap.get?_push_of_some _ hol
        have g3 := PySem.F.sub_list_set
        have g4 := PySem.F.sub_list_frozenset
        have g5 : (Value.type "list" == Value.type "dict") = false := by decide
        have hl1 : (s.heap.push (nSet led)).IsList l us.toArray := ⟨_, hol2, rfl, nl, rfl⟩
        unfold Builtin.«set.__init__» noKeywords Builtin.Frozenset.updateFrom
        generalize hit : pyIter = pit
        wp_walk
        subst hit
        refine wpAny_pyIter_list hl1 (wpAny_bind (wpAny_runValue ?_))
        have ll : l < s.heap.objs.size := Heap.lt_size hol
        have sz : (s.heap.push (nSet led)).objs.size = s.heap.objs.size + 1 := Heap.size_push _ _
        have hval : ∀ (i : Nat) (v : Value), us.toArray[i]? = some v → ∃ k t, ns[i]? = some k ∧ v = .int k t := fun i v hv => by
          have hv2 : us[i]? = some v := by simpa using hv
          have hi : i < ns.length := by rw [← hlen]; exact (List.getElem?_eq_some_iff.mp hv2).1
          obtain ⟨t, e⟩ := PyProof.Rows.IntsAre.int_at r i v hv2
          refine ⟨ns[i], t, List.getElem?_eq_getElem hi, ?_⟩
          rw [e, List.getD_eq_getElem?_getD, List.getElem?_eq_getElem hi] <;> rfl
        refine set_update_ints ((Walks.list (A := A.in1.in1.in1) (by simp [hh]) (s.heap.push (nSet led)).objs.size l (by rw [sz]; exact Nat.ne_of_lt (Nat.lt_succ_of_lt ll)) us.toArray).toS) s.heap.objs.size (by rw [sz]; simp only [List.mem_cons, List.not_mem_nil, or_false, not_or]; exact ⟨Nat.ne_of_lt (Nat.lt_succ_self _), Nat.ne_of_gt ll⟩) ns (by rw [List.size_toArray]; exact hlen) room
          hval (us.toArray.size - 0) 0 _ rfl (Nat.zero_le _) ⟨⟨_, Heap.get?_push_size _ rfl, rfl, rfl⟩, hl1.push _⟩ ?_ fun s3 c3 mv hc3 z => ?_
        · have hg : ((s.heap.push (nSet led)).push (lIt l)).get? s.heap.objs.size = some (nSet led) := Heap.get?_push_of_some _ hS
          subst hled
          exact ⟨0, Nat.le_refl 0, setR_new_at hg⟩
        · obtain ⟨h3, g3', d3, t3, o3⟩ := s3
          obtain rfl : g3' = s.gens := mv.gens
          obtain rfl : d3 = s.drawn := mv.drawn
          obtain rfl : o3 = s.os := mv.os
          rw [List.size_toArray, hlen] at hc3
          refine wpAny_pure (wpAny_pure ⟨rfl, h3, t3, c3, rfl, z, hc3, fun b o hb e => ?_⟩)
          refine mv.heap b o ?_ (Heap.get?_push_of_some _ (Heap.get?_push_of_some _ e))
          rw [sz]; simp only [List.mem_cons, List.not_mem_nil, or_false, not_or]; exact ⟨Nat.ne_of_lt hb, Nat.ne_of_lt (Nat.lt_succ_of_lt hb)⟩
      · match res2, hr2 with
        | .error e, hr2 => exact hr2
        | .ok .next, hr2 => exact hr2.elim
        | .ok .brk, hr2 => exact hr2.elim
        | .ok .cont, hr2 => exact hr2.elim
        | .ok (.ret rr), hr2 =>
          obtain ⟨rfl, h', tk, c, rfl, z, hc, kp⟩ := hr2
          repeat (any_goals (first | assumption | wp_step))
          exact q _ _ c z hc kp
  refine wpAny_call (codeAny_of_tree ?_)
  exact wpAny_pure ⟨Code.quiet_builtin _ (by decide +kernel), ex⟩
end
section
variable {X : Cx} {W : WX} {a : Expr} {ta : TR} {pos p p2 q : Pos}
/-- sorted(set(xs)) of ints, fewer than 64 -/
def rSortSet (te : TR) : TR := fun E env P => fz te E env fun y e1 => ∃ ns : List Int, y = .list (ns.map .int) ∧ ns.length < 64 ∧ ∀ zs : List Int, zs.Pairwise (· < ·) → (∀ k, k ∈ zs ↔ k ∈ ns) → P (.own (zs.map .int)) e1
theorem pr_sortSet (hc : X.calm = true) (hg : Gl X "sorted") (hm : X.mg "sorted" = none) (hg2 : Gl X "set") (hm2 : X.mg "set" = none) (ha : PR X W a ta) (na : starEach [a] X.env = (false, eval a X.env) :: starEach [] X.env := by rfl) :
    PR X W (.Call (.Name "sorted" p) [.Call (.Name "set" p2) [a] [] q] [] pos) (rSortSet ta) := by
  refine ⟨fun pins s σ H Q I ⟨B, env, E, P, R, h, g, k⟩ => ?_⟩
  refine Call_ (ld_blt I hg hm boot_sorted ?_)
  refine PyProof.Rows.callWith_builtin1 (PyProof.Rows.args_cons ?_ rfl) rfl rfl
  refine Call_ (ld_blt I hg2 hm2 boot_set ?_)
  have hq := rd_fz (P := fun y e1 => ∃ ns : List Int, y = .list (ns.map .int) ∧ ns.length < 64 ∧ ∀ zs : List Int, zs.Pairwise (· < ·) → (∀ k, k ∈ zs ↔ k ∈ ns) → P (.own (zs.map .int)) e1)
    (Q := fun v H1 => ∃ (l : Addr) (ns : List Int), v = .ref l ∧ H1 l = some (.lst (ns.map V.int)) ∧ ns.length < 64 ∧ ∀ (zs : List Int) (p : Addr), zs.Pairwise (· < ·) → (∀ k, k ∈ zs ↔ k ∈ ns) → H1 p = none → Q (.ref p) (upd H1 p (.lst (zs.map V.int)))) R h g
    fun x e1 v B1 H1 ⟨ns, ex, hl, p1⟩ q1 r1 => by
      subst ex
      obtain ⟨l, vs, rfl, h1, h2⟩ := rp_lst r1
      rw [RpA.ints h2] at h1
      refine ⟨l, ns, rfl, q1.rel.ex _ _ h1, hl, fun zs pp hz1 hz2 hp => ?_⟩
      obtain ⟨s0, r0⟩ := ret_own q1.rel.ex hp (RpA.ofInts (ns := zs))
      exact fin0 k q1 (p1 zs hz1 hz2) s0 r0
  refine PyProof.Rows.callWith_type1 (PyProof.Rows.args_cons (thn (ha.run pins s σ H _ I hq) fun v s1 ⟨y, H1, I1, r1, l, ns, ey, hl, hz, qq⟩ => PyProof.Rows.args_nil ?_) na) na rfl
  subst ey; cases r1
  obtain ⟨us, rv, pl, _⟩ := I1.list (SqL.of hl)
  have kb : ns.length + 1 < scanBound := by unfold scanBound; omega
  refine set_of_ints (I1.ok.hd hc) pl.isList (intsAre_of rv) kb fun h' tk c hS hc' kp => PyProof.Rows.args_nil ?_
  have I2 : Inv X pins σ H1 { s1 with heap := h', toks := tk } := I1.kept fun b o e => kp b o (Heap.lt_size e) e
  refine sorted_set (s := { s1 with heap := h', toks := tk }) hS (I2.ok.hd hc) (by omega) fun s' p out c2 ns2 k2 g2 o2 hp hg hi hs hm hlen => ?_
  have hlen2 : (ns2.map V.int).length ≤ sizeLine := by rw [List.length_map, hlen, sizeLine_eq]; omega
  have hn : H1 p = none := I2.hok.fresh hp
  have J : Inv X pins σ (upd H1 p (.lst (ns2.map V.int))) { { s1 with heap := h', toks := tk } with heap := s'.heap, gens := s'.gens, drawn := s'.drawn, toks := s'.toks } :=
    I2.call (ch := []) (Un.laid k2 hp hn) (I2.hok.laid k2 hp ⟨hlen2, out.toList, c2, vals_of_ints hi, hg⟩) (by rw [g2]; exact I2.bare) (fun _ z => nomatch z)
  have e : s' = { { s1 with heap := h', toks := tk } with heap := s'.heap, gens := s'.gens, drawn := s'.drawn, toks := s'.toks } := by
    cases s'
    cases o2
    rfl
  rw [e]
  exact ⟨.ref p, _, J, rfl, qq ns2 p hs (fun k => by rw [hm k]; exact decide_eq_true_iff) hn⟩
end
end PD
end PDv_
section PDx_
set_option Elab.async false
set_option linter.all false
set_option maxRecDepth 100000
set_option maxHeartbeats 2000000
/-! PDx: targets whose last one takes the rest. -/
namespace PD
open PySem PySem.Spec PyProof.Rows L2
/-- (a, .., *r) = a tuple with at least n items -/
def lStarT (K : Fr) (n : Nat) (t : L2.TGs) : L2.TG := fun v σ H Q => ∃ a xs, v = .ref a ∧ SqT K H a xs ∧ n ≤ xs.length ∧ ∀ p, H p = none → t (xs.take n ++ [.ref p]) σ (upd H p (.lst (xs.drop n))) Q
section
variable {X : Cx} {pos : Pos}
theorem pg_starT {es : List Expr} {k : Nat} {t : L2.TGs} {n : Nat} (hc : X.calm = true) (h : PGs X es t)
    (hn : (assignEach es X.env).length = n + 1 := by rfl) (hst : (assignEach es X.env).findIdx? (·.1) = some n := by rfl) : PG X (.Tuple es k pos) (lStarT X.K n t) := by
  refine ⟨fun pins s σ H v u Q I r hw => ?_⟩
  obtain ⟨a, xs, rfl, hq, hl, hw⟩ := hw
  cases r
  obtain ⟨its, rv, ht, hz⟩ := I.tuple hq
  have hlen : its.length = xs.length := rv.length.symm
  have hlt : a ≠ s.heap.objs.size := by obtain ⟨o, ho, _⟩ := ht; exact Nat.ne_of_lt (Heap.lt_size ho)
  have hh := I.ok.hd hc
  rw [assign_Tuple]
  refine wpAny_bind (wpAny_standAt ?_)
  unfold unpack
  rw [hn, hst]
  refine wpAny_bind (wpAny_holding ?_)
  unfold unpackItems
  refine wpAny_bind ?_
  unfold notIterableAtAll
  refine wpAny_bind (wpAny_specialOf ht.typeIs slot_tuple_iter.lookup ?_)
  refine wpAny_pure ?_
  simp only [Bool.false_eq_true, if_false]
  refine wpAny_bind (wpAny_holding (iter_tuple ht ?_))
  refine wpAny_bind (wpAny_holding (draw_tuple hlt n 0 _ _ ⟨_, Heap.get?_push_size _ rfl, rfl, rfl⟩ (ht.push _) (by rw [List.size_toArray]; omega) fun h1 hit1 hs1 => ?_))
  have ht1 : IsTup h1 a its.toArray := (ht.push _).extBut hs1.extBut hlt
  rw [Nat.zero_add] at hit1
  obtain ⟨oi, hoi, _⟩ := id hit1
  obtain ⟨ol, hol, _⟩ := id ht1
  rw [List.drop_zero]
  have hf : (its.take n).length = n := by rw [List.length_take]; omega
  show wpAny _ _ (if (its.take n).length < n then _ else _) _ _ _
  rw [if_neg (by omega)]
  refine wpAny_bind (wpAny_holding (PySem.W.kun_collect (s := { s with heap := h1 }) (T := "tuple_iterator") (.inr (.inr (.inr rfl))) (Walks.tuple (A := X.A.in1) hh s.heap.objs.size a hlt its.toArray) (fun j u st => st.1.typeIs) (k := n) (by rw [List.size_toArray]; omega) ⟨hit1, ht1⟩ (Heap.lt_size hoi) (Heap.lt_size hol) (fun h2 tk hk => ?_) (by rw [List.size_toArray, hlen]; exact hz)))
  have e0 : its.toArray.toList = its := rfl
  rw [e0, if_neg (by omega)]
  have em : (its.drop n).length - (n + 1 - 1 - n) = (its.drop n).length := by omega
  rw [em, List.take_length, List.drop_length]
  have I1 : Inv X pins σ H { s with heap := h2, toks := tk } := I.kept fun b o e => hk b o (Nat.ne_of_lt (Heap.lt_size e)) (hs1.extBut b o (Nat.ne_of_lt (Heap.lt_size e)) (Heap.get?_push_of_some _ e))
  have hdl : (its.drop n).length ≤ sizeLine := by rw [List.length_drop]; omega
  refine wpAny_bind (wpAny_newList ?_ hdl)
  refine wpAny_pure ?_
  rw [List.append_nil]
  have hp : H h2.objs.size = none := I1.hok.fresh (Nat.le_refl _)
  have I2 : Inv X pins σ (upd H h2.objs.size (.lst (xs.drop n))) { { s with heap := h2, toks := tk } with heap := h2.push { cls := .type "list", data := .seq (its.drop n).toArray }, toks := tk } :=
    I1.laid (t' := tk) (o := .lst (xs.drop n)) (fun b u e => Heap.get?_push_of_some _ e) (Nat.le_refl _)
      ⟨by rw [List.length_drop]; omega, its.drop n, 0, rv.drop n, Heap.get?_push_size _ rfl⟩
  exact h.run pins _ σ _ _ _ Q I2 ((rv.take n).append (.cons (show RelV (V.ref h2.objs.size) (.ref h2.objs.size) from rfl) .nil)) (hw _ hp)
theorem pgs_starE {e : Expr} {p : Pos} {t : L2.TG} (h1 : PG X e t) : PGs X [.Starred e p] (L2.gCons t L2.gNil) := by
  refine ⟨fun pins s σ H vs us Q I r h => ?_⟩
  obtain ⟨v, vr, e1, h⟩ := h
  subst e1
  cases r with
  | cons r rr =>
    show wpAny _ _ (assignInOrder [assign e X.env] _) _ _ _
    refine assignInOrder_cons (thn (h1.run pins s σ H _ _ _ I r h) fun _ s1 ⟨σ1, H1, I1, e2, q1⟩ => ?_)
    subst e2
    cases rr
    exact assignInOrder_nil ⟨σ1, H1, I1, q1⟩
/-- the same over values: the rest is a list that never changes -/
def gStarT (n : Nat) (t : PD.TGs) : PD.TG := fun x env Q => ∃ xs, x = .tuple xs ∧ n ≤ xs.length ∧ t (xs.take n ++ [.list (xs.drop n)]) env Q
theorem gd_starT {es : List Expr} {k : Nat} {t : PD.TGs} {n : Nat} {ws : List Nat} (hc : X.calm = true) (h : PGsd X ws es t)
    (hn : (assignEach es X.env).length = n + 1 := by rfl) (hst : (assignEach es X.env).findIdx? (·.1) = some n := by rfl) : PGd X ws (.Tuple es k pos) (gStarT n t) := pg_imp (pg_starT hc h hn hst) fun v σ H Q ⟨B, env, x, P, R, rp, ⟨xs, e, hl, t⟩, kk⟩ => by
  subst e
  cases rp with
  | tup h1 h2 =>
    rename_i a vs _
    refine ⟨_, vs, rfl, same_t R.ex h1, by rw [h2.length]; exact hl, fun p hp => ?_⟩
    have s0 := Stp0.new (o := .lst (vs.drop n)) R.ex hp
    have q := Post.of0 R s0
    exact ⟨_, env, _, P, q.rel, ((h2.mono s0.base).take n).append (.cons (.lst upd_same ((h2.mono s0.base).drop n)) .nil), t, fun e1 σ1 B1 H1 p1 q1 o1 => kk _ _ _ _ p1 (q.trans q1) o1⟩
/-- the last target, with its star -/
theorem gsd_star {e : Expr} {p : Pos} {t : PD.TG} {ws : List Nat} (h1 : PGd X ws e t) : PGsd X ws [.Starred e p] (PD.gCons t PD.gNil) := pgs_imp (pgs_starE h1) fun vs σ H Q ⟨B, env, xs, P, R, rp, ⟨x, r, e, t⟩, k⟩ => by
  subst e
  cases rp with
  | cons r1 r2 =>
    exact ⟨_, _, rfl, B, env, x, _, R, r1, t, fun e1 σ1 B1 H1 p1 q1 o1 => by
      obtain ⟨e2, p2⟩ := p1
      subst e2
      cases r2
      exact ⟨rfl, k _ _ _ _ p2 q1 o1⟩⟩
end
end PD
end PDx_
section PDy_
set_option Elab.async false
set_option linter.all false
set_option maxRecDepth 100000
set_option maxHeartbeats 2000000
/-! PDy: d[k] of an own table, and of a table that is looked at. -/
namespace PD
open PySem PySem.Spec PyProof.Rows L2
section
variable {X : Cx} {W : WX} {a b o : Expr} {ta tb tk : PD.TR} {pos : Pos} {i : Nat}
/-- what stands at a key -/
def getK : List (KeyD × D) → KeyD → Option D
  | [], _ => none
  | p :: r, q => if p.1 = q then some p.2 else getK r q
def getD2 : List (D × D) → KeyD → Option D
  | [], _ => none
  | p :: r, q => if keyOf p.1 = some q then some p.2 else getD2 r q
theorem keyOf_keyD (k : KeyD) : keyOf (keyD k) = some k := by cases k <;> rfl
theorem getD2_key (q : KeyD) : ∀ kvs : List (KeyD × D), getD2 (kvs.map fun p => (keyD p.1, p.2)) q = getK kvs q
  | [] => rfl
  | p :: r => by
    show (if keyOf (keyD p.1) = some q then some p.2 else getD2 _ q) = if p.1 = q then some p.2 else getK r q
    rw [keyOf_keyD, getD2_key q r]
    by_cases h : p.1 = q
    · rw [if_pos h, if_pos (by rw [h])]
    · rw [if_neg h, if_neg (fun e => h (Option.some.inj e))]
theorem RpK.get {K : Fr} {B : Hp} {q : KeyD} {z : D} : ∀ {kvs : List (Key × V)} {ds : List (D × D)}, RpK K B kvs ds → getD2 ds q = some z → ∃ v, valV kvs q = some v ∧ Rp K B v z
  | _, _, .nil, h => by cases h
  | _, _, .cons (k := k) (v := v) (kvs := kvs) (q := q0) (d := d) (ds := ds) e r1 r2, h => by
    have h : (if keyOf q0 = some q then some d else getD2 ds q) = some z := h
    rw [e, keyOf_keyD] at h
    by_cases hk : k = q
    · rw [if_pos (by rw [hk])] at h
      cases h
      exact ⟨v, valV_pos hk, r1⟩
    · rw [if_neg (fun e => hk (Option.some.inj e))] at h
      obtain ⟨v2, h1, h2⟩ := RpK.get r2 h
      exact ⟨v2, by rw [valV_neg hk]; exact h1, h2⟩
/-- d[k] of a table that is looked at -/
def rDg (t tk : PD.TR) : PD.TR := fun E env P => fz t E env fun x e1 => fz tk E e1 fun y e2 => ∃ ds q z, x = .dict ds ∧ keyOf y = some q ∧ getD2 ds q = some z ∧ P (.d z) e2
theorem pr_dg (hu : X.A.units + 1 < cLine) (ha : PR X W a ta) (hb : PR X W b tb) (hs : PlainIx b) : PR X W (.Subscript a b pos) (rDg ta tb) :=
  pe_imp (pe_dget hu ha hb hs) fun σ H Q ⟨B, env, E, P, R, t, g, k⟩ => rd_fz R t g fun x e1 v B1 H1 p1 q1 r1 => rd_fz q1.rel p1 (g.trans q1) fun y e2 u B2 H2 ⟨ds, q, z, ex, hk, hz, pz⟩ q2 r2 => by
    subst ex
    obtain rfl := key_of r2 hk
    have r3 := r1.mono q2.stp.base
    cases r3 with
    | scr _ => cases hz
    | lck _ => cases hz
    | dct h1 h2 =>
      obtain ⟨w, h3, h4⟩ := RpK.get h2 hz
      exact ⟨_, w, rfl, .inl ⟨_, q, .inl (q2.rel.ex _ _ h1), rfl, h3.symm⟩, k (.d z) e2 w B2 H2 pz (q1.trans q2) h4 trivial⟩
/-- d[k] of an own table -/
def rTabG (i : Nat) (tk : PD.TR) : PD.TR := fun E env P => (∃ kvs, env[i]? = some (.tab kvs)) ∧ fz tk E env fun y e1 => ∃ kvs q z, e1[i]? = some (.tab kvs) ∧ keyOf y = some q ∧ getK kvs q = some z ∧ P (.d z) e1
theorem pr_tabG (hu : X.A.units + 1 < cLine) (ho : PE X o (tVar i)) (hb : PR X W b tk) (hs : PlainIx b) : PR X W (.Subscript o b pos) (rTabG i tk) :=
  pe_imp (pe_dget hu ho hb hs) fun σ H Q ⟨B, env, E, P, R, ⟨⟨kvs0, hs0⟩, t⟩, g, k⟩ => by
    obtain ⟨hi, _⟩ := List.getElem?_eq_some_iff.mp hs0
    have hj : i < σ.length := by rw [← R.len]; exact hi
    obtain ⟨l, el, b, ws0, hl, _⟩ := R.ok i _ _ hs0 (List.getElem?_eq_getElem hj)
    have el : σ[i]? = some (some (.ref l)) := by rw [List.getElem?_eq_getElem hj, el]
    refine ⟨.ref l, el, rd_fz R t g fun y e1 kv B1 H1 ⟨kvs, q, z, hs, hk, hz, p⟩ q1 rp => ?_⟩
    obtain rfl := key_of rp hk
    obtain ⟨l', el', _, ws, h2, rr, nm⟩ := q1.rel.ok i _ _ hs el
    cases el'
    obtain ⟨w, h3, h4⟩ := RpK.get rr (by rw [getD2_key]; exact hz)
    exact ⟨l, w, rfl, .inl ⟨ws, q, .inl h2, rfl, h3.symm⟩, k (.d z) e1 w B1 H1 p q1 h4 trivial⟩
end
end PD
end PDy_
section PDz_
set_option Elab.async false
set_option linter.all false
set_option maxRecDepth 100000
set_option maxHeartbeats 2000000
/-! PDz: a call that lends a list made on the spot. -/
namespace PD
open PySem PySem.Spec PyProof.Rows L2
section
variable {X : Cx} {W : WX} {k n : Nat} {f : Addr} {fd : FuncData} {ps : List Str} {sp : PD.Sp} {dvs : List V} {ds : List Value} {dds : List D} {x : Str} {p pos : Pos} {e : Expr} {es : List Expr} {ta : PD.TA}
variable {K : Fr} {B H B1 H1 B2 H2 B3 H3 : Hp} {env env1 env2 : Env} {σ : St}
def rCallT (sp : PD.Sp) (ds : List D) (ti : PD.TR) (ts : PD.TA) : PD.TR := fun E env P => ti E env fun r e1 => ∃ ys, r = .own ys ∧ ts E e1 fun xs e2 => sp (.par ys :: (xs ++ ds).map .d) (fun r s => (∃ ws, s.head? = some (.par ws)) ∧ P r e2) (fun x s => (∃ ws, s.head? = some (.par ws)) ∧ E x e2)
theorem ownF_own {a : Addr} (h : OwnF env σ a) : Own env σ a := by
  obtain ⟨j, h1, h2⟩ := h
  obtain ⟨s1, f1, w1⟩ := ownsF_some h1
  exact ⟨j, by rw [f1]; cases s1 <;> simp_all [owns, ownsF], h2⟩
/-- the way from before a list was made, over its being changed, to behind -/
theorem Post.temp {l : Addr} {as as' : List Sl} {vs : List V} (q : Post K B H env σ B1 H1 env1 σ) (hn : H l = none ∨ OwnF env σ l) (hno : ¬ Own env1 σ l) (own1 : ∀ a, Own as (vs.map some) a → a = l) (own2 : ∀ a, ¬ OwnF as (vs.map some) a)
    (q2 : Post K B1 H1 as (vs.map some) B2 H2 as' (vs.map some)) : Post K B H env σ B2 H2 env1 σ := by
  have R := q.rel
  refine ⟨⟨q2.rel.ex, R.len, fun j s' o h1 h2 => (R.ok j s' o h1 h2).keep q2.stp.base fun l' w e' => ?_, R.sep⟩, ⟨q.stp.base.trans q2.stp.base, fun a h h' => ?_, fun a h => q2.stp.dom a (q.stp.dom a h), fun a o h hw => ?_⟩, q.own, q.ownF, q.par⟩
  · have ow : Own env1 σ l' := ⟨j, by rw [h1]; exact w, by rw [h2, e']⟩
    have ne : l' ≠ l := fun z => hno (z ▸ ow)
    obtain ⟨b0, h0⟩ := R.obj ow
    refine ⟨?_, ?_⟩
    · cases z : B2 l' with
      | none => rfl
      | some u => exact absurd ((q2.stp.fresh l' b0 (by rw [z]; simp)).resolve_right (own2 l')) h0
    · obtain ⟨u, hu⟩ := Option.ne_none_iff_exists'.mp h0
      rw [hu]
      exact q2.stp.keep l' u hu fun z => ne (own1 l' z)
  · by_cases z : B1 a = none
    · have h1 := (q2.stp.fresh a z h').resolve_right (own2 a)
      refine .inl ?_
      cases z2 : H a with
      | none => rfl
      | some u => exact absurd h1 (q.stp.dom a (by rw [z2]; simp))
    · exact q.stp.fresh a h z
  · refine q2.stp.keep a o (q.stp.keep a o h hw) fun z => ?_
    have z := own1 a z
    subst z
    rcases hn with hn | hn
    · rw [hn] at h; cases h
    · exact hw (ownF_own hn)
theorem pr_callT {o : Expr} {ti : PD.TR} (F : FnG X.prog X.w X.K X.mg X.base k f fd ps (spD X.K X.mg sp)) (hr : RoomG k X.A) (tk : Takes X W) (hg : Gl X x) (hm : X.mg x = some (.ref f)) (hk : PySem.W.keepIn X.K (.ref f) = true) (hb : Binds X.K fd ps ds) (hd : Vals dvs ds) (hdd : ∀ B, RpA X.K B dvs dds)
    (ho : PR X W o ti) (ha : PAd X W es ta) (hdb : (x == ("__debug__" : Str)) = false := by decide) (he : starEach (o :: es) X.env = (false, eval o X.env) :: starEach es X.env := by rfl) (hpl : (backTo pos (starEach es X.env)).any (·.1) = false := by rfl) :
    PR X W (.Call (.Name x p) (o :: es) [] pos) (rCallT sp dds ti ta) := pe_imp (pe_callG F hr tk hg hm hk hb hd (pa_cons ho ha he) hdb he hpl) fun σ H Q ⟨B, env, E, P, R, t, g, k⟩ =>
  ⟨B, env, E, _, R, t, g, fun r e1 v B1 H1 ⟨ys, er, t2⟩ q ro nw => by
    subst er
    obtain ⟨l, ev, ⟨b1, us1, hl1, rr1⟩, hno1⟩ := ro
    subst ev
    have hn1 := nw l rfl
    refine ⟨B1, e1, E, _, q.rel, t2, g.trans q, fun xs e2 vs B2 H2 p2 q2 rv => ?_⟩
    have hl2 : H2 l = some (.lst us1) := q2.stp.keep l _ hl1 hno1
    have b2 : B2 l = none := by
      cases z : B2 l with
      | none => rfl
      | some u =>
        rcases q2.stp.fresh l b1 (by rw [z]; simp) with z2 | z2
        · rw [hl1] at z2; cases z2
        · exact absurd (ownF_own z2) hno1
    have rr2 := rr1.mono q2.stp.base
    have hno2 : ¬ Own e2 σ l := fun z => by
      rcases q2.own l z with z | z
      · exact hno1 z
      · rw [hl1] at z; cases z
    have rv2 := rv.append (hdd B2)
    generalize hxs : xs ++ dds = zs at p2 rv2
    generalize hvs : vs ++ dvs = us at rv2
    have e2' : (V.ref l :: vs) ++ dvs = V.ref l :: us := by rw [← hvs]; rfl
    show spD X.K X.mg sp ((V.ref l :: vs) ++ dvs) H2 Q (WE W σ)
    rw [e2']
    have qq := q.trans q2
    have at_ : ∀ j s', (Sl.par ys :: zs.map Sl.d)[j]? = some s' → owns (some s') = true → j = 0 := fun j s' h w => by
      cases j with
      | zero => rfl
      | succ j =>
        rw [List.getElem?_cons_succ, List.getElem?_map] at h
        cases z : zs[j]? <;> rw [z] at h <;> cases h
        cases w
    have rel2 : Rel X.K B2 H2 (Sl.par ys :: zs.map Sl.d) ((V.ref l :: us).map some) := by
      refine ⟨q2.rel.ex, by simp [rv2.length], fun j s' o h1 h2 => ?_, fun j j' l' ne h1 h2 _ _ => ?_⟩
      · cases j with
        | zero => simp at h1 h2; subst h1 h2; exact ⟨l, rfl, b2, us1, hl2, rr2⟩
        | succ j => exact (rv2.rel q2.rel).ok j s' o (by simpa using h1) (by simpa using h2)
      · obtain ⟨s1, f1, w1⟩ := owns_some h1
        obtain ⟨s2, f2, w2⟩ := owns_some h2
        rw [at_ j s1 f1 w1, at_ j' s2 f2 w2] at ne
        exact ne rfl
    have own1 : ∀ a, Own (Sl.par ys :: zs.map Sl.d) ((V.ref l :: us).map some) a → a = l := fun a ⟨j, h1, h2⟩ => by
      obtain ⟨s1, f1, w1⟩ := owns_some h1
      have := at_ j s1 f1 w1
      subst this
      simp at h2; exact h2.symm
    have own2 : ∀ a, ¬ OwnF (Sl.par ys :: zs.map Sl.d) ((V.ref l :: us).map some) a := fun a ⟨j, h1, h2⟩ => by
      obtain ⟨s1, f1, w1⟩ := ownsF_some h1
      have w2 : owns (some s1) = true := by cases s1 <;> simp_all [owns, ownsF]
      have := at_ j s1 f1 w2
      subst this
      simp at f1; subst f1; cases w1
    have hn2 : H l = none ∨ OwnF env σ l := hn1
    refine ⟨B2, _, _, _, fun s' hs' ws e => ?_, fun s' hs' ws e => ?_, rel2, p2, fun r as' v B3 H3 ⟨⟨ws, hh⟩, p3⟩ q3 ro3 nw3 => ?_, fun y as' cls dd B3 H3 ⟨⟨ws, hh⟩, p3⟩ q3 ex => ?_⟩
    · subst e
      rcases List.mem_cons.mp hs' with z | z
      · cases z
      · obtain ⟨_, _, z⟩ := List.mem_map.mp z; cases z
    · subst e
      rcases List.mem_cons.mp hs' with z | z
      · cases z
      · obtain ⟨_, _, z⟩ := List.mem_map.mp z; cases z
    · have q4 := Post.temp qq hn2 hno2 own1 own2 q3
      have no : ∀ l', (H2 l' = none ∨ OwnF (Sl.par ys :: zs.map Sl.d) ((V.ref l :: us).map some) l') → ¬ Own e2 σ l' := fun l' n z => (q2.rel.obj z).2 (n.resolve_right (own2 l'))
      have ol : ∀ l', (H2 l' = none ∨ OwnF (Sl.par ys :: zs.map Sl.d) ((V.ref l :: us).map some) l') → H l' = none := fun l' n => by
        have n := n.resolve_right (own2 l')
        cases z : H l' with
        | none => rfl
        | some u => exact absurd n (qq.stp.dom l' (by rw [z]; simp))
      refine k r e2 v B3 H3 p3 q4 ?_ ?_
      · cases r with
        | d y => exact ro3
        | own ys' => obtain ⟨l', e3, e4, _⟩ := ro3; exact ⟨l', e3, e4, no l' (nw3 l' e3)⟩
        | tab ys' => obtain ⟨l', e3, e4, _⟩ := ro3; exact ⟨l', e3, e4, no l' (nw3 l' e3)⟩
      · cases r with
        | d y => trivial
        | own ys' => exact fun l' e => .inl (ol l' (nw3 l' e))
        | tab ys' => exact fun l' e => .inl (ol l' (nw3 l' e))
    · have q4 := Post.temp qq hn2 hno2 own1 own2 q3
      exact g _ _ _ _ _ _ p3 q4 ex⟩
theorem ccT {o : Expr} {ti : PD.TR} (C : Cal X.prog X.w X.K X.mg X.base k x dds sp) (hr : RoomG k X.A) (tk : Takes X W) (ho : PR X W o ti) (ha : PAd X W es ta) (hg : Gl X x := by rfl) (hdb : (x == ("__debug__" : Str)) = false := by decide)
    (he : starEach (o :: es) X.env = (false, eval o X.env) :: starEach es X.env := by rfl) (hpl : (backTo pos (starEach es X.env)).any (·.1) = false := by rfl) : PR X W (.Call (.Name x p) (o :: es) [] pos) (rCallT sp dds ti ta) := by
  obtain ⟨f, fd, ps, dvs, ds, h1, h2, h3, h4, h5, F⟩ := C.ex
  exact pr_callT F hr tk hg h1 h2 h3 h4 h5 ho ha hdb he hpl
end
end PD
end PDz_
section PU_
set_option Elab.async false
set_option linter.all false
set_option maxRecDepth 100000
set_option maxHeartbeats 2000000
/-! PU: a, b, c = f(..): a list that comes new out of a call in a tuple is owned from here on. -/
namespace PD
open PySem PySem.Spec PyProof.Rows L2
/-- no list in the second is the list of the items ts -/
def apL (ts ds : List D) : Prop := ts.length ≠ ds.length ∨ ∃ as bs, ts[0]? = some (.tuple as) ∧ ds[0]? = some (.tuple bs) ∧ as.length ≠ bs.length
mutual
def far (ts : List D) : D → Prop
  | .list ds => apL ts ds ∧ fars ts ds
  | .tuple ds => fars ts ds
  | .dict _ => False
  | _ => True
def fars (ts : List D) : List D → Prop
  | [] => True
  | x :: xs => far ts x ∧ fars ts xs
end
def flSl : Sl → Prop
  | .un => True
  | .d x => flat x = true
  | .own xs => flats xs = true
  | .par xs => flats xs = true
  | .tab kvs => flats (kvs.map (·.2)) = true
def farSl (ts : List D) : Sl → Prop
  | .un => True
  | .d x => far ts x
  | .own xs => flats xs = true
  | .par xs => flats xs = true
  | .tab kvs => flats (kvs.map (·.2)) = true
def Hid1 (s s0 : Sl) : Prop := (s0 = .un ∧ ∃ x, s = .d x) ∨ (s0 = s ∧ flSl s)
def HidE : Env → Env → Prop
  | [], [] => True
  | s :: r, s0 :: r0 => Hid1 s s0 ∧ HidE r r0
  | _, _ => False
def Mrg1 (ws : List Nat) (k : Nat) (ts : List D) (j : Nat) (s s2 s3 : Sl) : Prop :=
  (j = k ∧ s2 = .d (.list ts) ∧ s3 = .own ts) ∨ (j ≠ k ∧ s3 = s2 ∧ farSl ts s2) ∨ (j ≠ k ∧ j ∉ ws ∧ (∃ x, s = .d x) ∧ s3 = s)
def MrgE (ws : List Nat) (k : Nat) (ts : List D) : Nat → Env → Env → Env → Prop
  | _, [], [], [] => True
  | j, s :: r, s2 :: r2, s3 :: r3 => Mrg1 ws k ts j s s2 s3 ∧ MrgE ws k ts (j + 1) r r2 r3
  | _, _, _, _ => False
def sUnp (ws : List Nat) (k : Nat) (te : TR) (g : TG) : TS := fun D env => ∃ e0, HidE env e0 ∧ fz te (fun _ _ => False) e0 fun x e1 => g x e1 fun e2 =>
  ∃ ts e3, e2[k]? = some (.d (.list ts)) ∧ flats ts = true ∧ MrgE ws k ts 0 env e2 e3 ∧ D.nx e3
theorem hid_at : ∀ {env e0 : Env}, HidE env e0 → e0.length = env.length ∧ ∀ (j : Nat) s0, e0[j]? = some s0 → ∃ s, env[j]? = some s ∧ Hid1 s s0
  | [], [], _ => ⟨rfl, fun j s0 h => by simp at h⟩
  | s :: r, s0 :: r0, h => by
    obtain ⟨h1, h2⟩ := h
    obtain ⟨a, b⟩ := hid_at h2
    refine ⟨by simp [a], fun j t0 e => ?_⟩
    cases j with
    | zero => simp at e; subst e; exact ⟨s, rfl, h1⟩
    | succ j => exact b j t0 (by simpa using e)
  | [], _ :: _, h => h.elim
  | _ :: _, [], h => h.elim
theorem mrg_at {ws : List Nat} {k : Nat} {ts : List D} : ∀ {j : Nat} {env e2 e3 : Env}, MrgE ws k ts j env e2 e3 → e3.length = e2.length ∧ ∀ (i : Nat) s3, e3[i]? = some s3 → ∃ s s2, env[i]? = some s ∧ e2[i]? = some s2 ∧ Mrg1 ws k ts (j + i) s s2 s3
  | _, [], [], [], _ => ⟨rfl, fun j s0 h => by simp at h⟩
  | j, s :: r, s2 :: r2, s3 :: r3, h => by
    obtain ⟨h1, h2⟩ := h
    obtain ⟨a, b⟩ := mrg_at h2
    refine ⟨by simp [a], fun i t e => ?_⟩
    cases i with
    | zero => simp at e; subst e; exact ⟨s, s2, rfl, rfl, h1⟩
    | succ i =>
      obtain ⟨u, u2, e1, e2, m⟩ := b i t (by simpa using e)
      exact ⟨u, u2, by simpa using e1, by simpa using e2, by rw [show j + (i + 1) = j + 1 + i by omega]; exact m⟩
  | _, [], [], _ :: _, h => h.elim
  | _, [], _ :: _, _, h => h.elim
  | _, _ :: _, [], _, h => h.elim
  | _, _ :: _, _ :: _, [], h => h.elim
section
variable {K : Fr} {B Bf : Hp} {l : Addr} {vs : List V} {ts : List D}
mutual
theorem Rp.far (hl : B l = some (.lst vs)) (ht : RpA K B vs ts) (sm : ∀ a o, a ≠ l → B a = some o → Bf a = some o) (inj : ∀ a xs ys, SqT K B a xs → SqT K B a ys → xs = ys) : ∀ {v : V} {x : D}, Rp K B v x → far ts x → Rp K Bf v x
  | _, _, .non, _ => .non
  | _, _, .bl b, _ => .bl b
  | _, _, .int i, _ => .int i
  | _, _, .str x, _ => .str x
  | _, _, .scr _, f => by simp [PD.far, scrD] at f
  | _, _, .dct _ _, f => by simp [PD.far] at f
  | _, _, .lck _, f => by simp [PD.far, lckD] at f
  | _, _, .tup (a := a) h1 h2, f => by
    refine .tup ?_ (RpA.far hl ht sm inj h2 (by simpa [PD.far] using f))
    rcases h1 with h1 | h1
    · have ne : a ≠ l := fun z => by
        subst z
        rcases h1 with h1 | ⟨o, h1⟩ <;> rw [hl] at h1 <;> cases h1
      rcases h1 with h1 | ⟨o, h1⟩
      · exact .inl (.inl (sm _ _ ne h1))
      · exact .inl (.inr ⟨o, sm _ _ ne h1⟩)
    · exact .inr h1
  | _, _, .lst (a := a) (xs := xs) (ds := ds) h1 h2, f => by
    simp only [PD.far] at f
    have ne : a ≠ l := fun z => by
      subst z
      rw [hl] at h1; cases h1
      rcases f.1 with f1 | ⟨as, bs, e1, e2, f1⟩
      · exact f1 (by rw [← ht.length, h2.length])
      · obtain ⟨u, g1, g2⟩ := ht.get e1
        obtain ⟨w, k1, k2⟩ := h2.get e2
        rw [g1] at k1; cases k1
        cases g2 with
        | tup q1 q2 =>
          cases k2 with
          | tup q3 q4 =>
            have := inj _ _ _ q1 q3
            subst this
            exact f1 (by rw [← q2.length, q4.length])
    exact .lst (sm _ _ ne h1) (RpA.far hl ht sm inj h2 f.2)
theorem RpA.far (hl : B l = some (.lst vs)) (ht : RpA K B vs ts) (sm : ∀ a o, a ≠ l → B a = some o → Bf a = some o) (inj : ∀ a xs ys, SqT K B a xs → SqT K B a ys → xs = ys) : ∀ {ws : List V} {xs : List D}, RpA K B ws xs → fars ts xs → RpA K Bf ws xs
  | _, _, .nil, _ => .nil
  | _, _, .cons h1 h2, f => by
    simp only [PD.fars] at f
    exact .cons (Rp.far hl ht sm inj h1 f.1) (RpA.far hl ht sm inj h2 f.2)
end
end
theorem rpK_noL {K : Fr} {H : Hp} : ∀ {vs : List (Key × V)} {ds : List (D × D)}, RpK K H vs ds → flats (ds.map (·.2)) = true → RpK K (NoL H) vs ds
  | _, _, .nil, _ => .nil
  | _, _, .cons h0 h1 h2, f => by
    simp only [List.map_cons, flats, Bool.and_eq_true] at f
    exact .cons h0 (Rp.noL h1 f.1) (rpK_noL h2 f.2)
theorem noL_sub {B H : Hp} (e : Same B H) : Same (NoL B) H := fun a o h => by
  unfold NoL at h
  cases q : B a with
  | none => rw [q] at h; cases h
  | some u =>
    rw [q] at h
    cases u <;> first | (cases h; exact e _ _ q) | cases h
theorem noL_lst {B : Hp} {a : Addr} {vs : List V} (h : B a = some (.lst vs)) : NoL B a = none := by unfold NoL; rw [h]
section
variable {X : Cx} {W : WX} {B H B2 H2 : Hp} {env e0 e2 e3 : Env} {σ σ2 : St} {ws : List Nat} {k : Nat} {ts : List D}
theorem hid_own (h : HidE env e0) {a : Addr} (o : Own e0 σ a) : Own env σ a := by
  obtain ⟨j, h1, h2⟩ := o
  cases q : e0[j]? with
  | none => rw [q] at h1; simp [owns] at h1
  | some s0 =>
    obtain ⟨s, e, h3⟩ := (hid_at h).2 j s0 q
    rcases h3 with ⟨rfl, _⟩ | ⟨rfl, _⟩
    · rw [q] at h1; simp [owns] at h1
    · exact ⟨j, by rw [e]; rw [q] at h1; exact h1, h2⟩
theorem hid_ownF (h : HidE env e0) {a : Addr} (o : OwnF e0 σ a) : OwnF env σ a := by
  obtain ⟨j, h1, h2⟩ := o
  cases q : e0[j]? with
  | none => rw [q] at h1; simp [ownsF] at h1
  | some s0 =>
    obtain ⟨s, e, h3⟩ := (hid_at h).2 j s0 q
    rcases h3 with ⟨rfl, _⟩ | ⟨rfl, _⟩
    · rw [q] at h1; simp [ownsF] at h1
    · exact ⟨j, by rw [e]; rw [q] at h1; exact h1, h2⟩
theorem kv_snd (kvs : List (KeyD × D)) : (kvs.map fun p => (keyD p.1, p.2)).map (·.2) = kvs.map (·.2) := by rw [List.map_map]; rfl
theorem slot_noL {K : Fr} {s : Sl} {o : Option V} (h : SlOk K B H s o) (f : flSl s) : SlOk K (NoL B) H s o := by
  have nn : ∀ {a : Addr}, B a = none → NoL B a = none := fun {a} q => by unfold NoL; rw [q]
  cases s with
  | un => trivial
  | d x => obtain ⟨v, e1, r⟩ := h; exact ⟨v, e1, r.noL f⟩
  | own xs => obtain ⟨l, e1, b, vs, hl, r⟩ := h; exact ⟨l, e1, nn b, vs, hl, r.noL f⟩
  | par xs => obtain ⟨l, e1, b, vs, hl, r⟩ := h; exact ⟨l, e1, nn b, vs, hl, r.noL f⟩
  | tab kvs => obtain ⟨l, e1, b, vs, hl, r, nm⟩ := h; exact ⟨l, e1, nn b, vs, hl, rpK_noL r (by rw [kv_snd]; exact f), nm⟩
theorem hid_rel {K : Fr} (R : Rel K B H env σ) (h : HidE env e0) : Rel K (NoL B) H e0 σ where
  ex := noL_sub R.ex
  len := by rw [(hid_at h).1]; exact R.len
  ok := fun i s0 o h1 h2 => by
    obtain ⟨s, e, h3⟩ := (hid_at h).2 i s0 h1
    rcases h3 with ⟨rfl, _⟩ | ⟨rfl, f⟩
    · trivial
    · exact slot_noL (R.ok i _ o e h2) f
  sep := fun i j l ne h1 h2 h3 h4 => by
    have up : ∀ i : Nat, owns e0[i]? = true → owns env[i]? = true := fun i h1 => by
      cases q : e0[i]? with
      | none => rw [q] at h1; simp [owns] at h1
      | some s0 =>
        obtain ⟨s, e, h3⟩ := (hid_at h).2 i s0 q
        rcases h3 with ⟨rfl, _⟩ | ⟨rfl, _⟩
        · rw [q] at h1; simp [owns] at h1
        · rw [e]; rw [q] at h1; exact h1
    exact R.sep i j l ne (up i h1) (up j h2) h3 h4
theorem unp_post {K : Fr} (R : Rel K B H env σ) (hd : HidE env e0) (p : Post K (NoL B) H e0 σ B2 H2 e2 σ2) (out : Out ws σ σ2) (inj : ∀ a xs ys, SqT K H2 a xs → SqT K H2 a ys → xs = ys)
    (hk : e2[k]? = some (.d (.list ts))) (hf : flats ts = true) (hm : MrgE ws k ts 0 env e2 e3) : ∃ Bf, Post K B H env σ Bf H2 e3 σ2 := by
  have hkl := (List.getElem?_eq_some_iff.mp hk).1
  obtain ⟨o, ho⟩ : ∃ o, σ2[k]? = some o := ⟨_, List.getElem?_eq_getElem (by rw [← p.rel.len]; exact hkl)⟩
  obtain ⟨v, rfl, rp⟩ := p.rel.ok k _ o hk ho
  obtain ⟨l, vs, rfl, hl, ht⟩ : ∃ l vs, v = .ref l ∧ B2 l = some (.lst vs) ∧ RpA K B2 vs ts := by
    cases rp with
    | lst h1 h2 => exact ⟨_, _, rfl, h1, h2⟩
  have nl : NoL B l = none := by
    cases q : NoL B l with
    | none => rfl
    | some u =>
      have z := p.stp.base _ _ q
      rw [hl] at z; cases z
      have := noL_sub (Same.refl B) _ _ q
      rw [noL_lst this] at q; cases q
  have fr := p.stp.fresh l nl (by rw [hl]; simp)
  have fr2 : H l = none ∨ OwnF env σ l := fr.imp_right fun z => hid_ownF hd z
  have bl : B l = none := by
    rcases fr2 with z | z
    · exact Same.free R.ex z
    · exact (R.obj z.own).1
  have kept : ∀ a o, B a = some o → H2 a = some o := fun a o h => p.stp.keep a o (R.ex _ _ h) fun z => by
    have := (R.obj (hid_own hd z)).1
    rw [h] at this; cases this
  obtain ⟨Bf, hBf⟩ : ∃ Bf : Hp, Bf = fun a => match B a with
    | some o => some o
    | none => if a = l then none else B2 a := ⟨_, rfl⟩
  have bfl : Bf l = none := by rw [hBf]; dsimp only; rw [bl]; dsimp only; rw [if_pos rfl]
  have smB : Same B Bf := fun a o h => by rw [hBf]; dsimp only; rw [h]
  have sm2 : ∀ a o, a ≠ l → B2 a = some o → Bf a = some o := fun a o ne h => by
    rw [hBf]; dsimp only
    cases q : B a with
    | none => dsimp only; rw [if_neg ne]; exact h
    | some u =>
      dsimp only
      have := kept _ _ q
      rw [p.rel.ex _ _ h] at this
      exact this.symm
  have bf_or : ∀ a o, Bf a = some o → B a = some o ∨ (B a = none ∧ a ≠ l ∧ B2 a = some o) := fun a o h => by
    rw [hBf] at h; dsimp only at h
    cases q : B a with
    | none =>
      rw [q] at h; dsimp only at h
      by_cases z : a = l
      · rw [if_pos z] at h; cases h
      · rw [if_neg z] at h; exact .inr ⟨rfl, z, h⟩
    | some u => rw [q] at h; exact .inl h
  have sub : Same Bf H2 := fun a o h => by
    rcases bf_or a o h with z | ⟨_, _, z⟩
    · exact kept _ _ z
    · exact p.rel.ex _ _ z
  have smN : Same (NoL B2) Bf := fun a o h => sm2 a o (fun z => by subst z; rw [noL_lst hl] at h; cases h) (noL_sub (Same.refl B2) _ _ h)
  have bfn : ∀ a, B a = none → B2 a = none → Bf a = none := fun a h1 h2 => by
    rw [hBf]; dsimp only; rw [h1]; dsimp only
    by_cases z : a = l
    · rw [if_pos z]
    · rw [if_neg z]; exact h2
  have ownB : ∀ a, Own e2 σ2 a → B a = none := fun a h => by
    rcases p.own a h with z | z
    · exact (R.obj (hid_own hd z)).1
    · exact Same.free R.ex z
  have injB : ∀ a xs ys, SqT K B2 a xs → SqT K B2 a ys → xs = ys := fun a xs ys h1 h2 => inj a xs ys (same_t p.rel.ex h1) (same_t p.rel.ex h2)
  obtain ⟨hlen, hat⟩ := mrg_at hm
  -- a slot behind it
  have slot : ∀ (i : Nat) s3 o, e3[i]? = some s3 → σ2[i]? = some o → SlOk K Bf H2 s3 o ∧ (owns (some s3) = true → (i = k ∧ o = some (.ref l)) ∨ (i ≠ k ∧ owns e2[i]? = true)) ∧ (ownsF (some s3) = true → (i = k ∧ o = some (.ref l)) ∨ ownsF e2[i]? = true) ∧ (∀ xs, s3 = .par xs → e2[i]? = some (.par xs)) := fun i s3 o h1 h2 => by
    obtain ⟨s, s2, f1, f2, m⟩ := hat i s3 h1
    rw [Nat.zero_add] at m
    have now := p.rel.ok i s2 o f2 h2
    rcases m with ⟨rfl, rfl, rfl⟩ | ⟨ne, rfl, f⟩ | ⟨ne, nw, ⟨x, rfl⟩, rfl⟩
    · rw [ho] at h2; cases h2
      exact ⟨⟨l, rfl, bfl, vs, p.rel.ex _ _ hl, (ht.noL hf).mono smN⟩, fun _ => .inl ⟨rfl, rfl⟩, fun _ => .inl ⟨rfl, rfl⟩, fun xs z => by cases z⟩
    · refine ⟨?_, fun w => .inr ⟨ne, by rw [f2]; exact w⟩, fun w => .inr (by rw [f2]; exact w), fun xs z => by rw [f2, z]⟩
      have nn : ∀ l', owns (some s3) = true → o = some (.ref l') → B2 l' = none → Bf l' = none := fun l' w e b => bfn l' (ownB l' ⟨i, by rw [f2]; exact w, by rw [h2, e]⟩) b
      cases s3 with
      | un => trivial
      | d x => obtain ⟨v, e1, r⟩ := now; exact ⟨v, e1, r.far hl ht sm2 injB f⟩
      | own xs => obtain ⟨l', e1, b, vs', hl', r⟩ := now; exact ⟨l', e1, nn l' rfl e1 b, vs', hl', (r.noL f).mono smN⟩
      | par xs => obtain ⟨l', e1, b, vs', hl', r⟩ := now; exact ⟨l', e1, nn l' rfl e1 b, vs', hl', (r.noL f).mono smN⟩
      | tab kvs => obtain ⟨l', e1, b, vs', hl', r, nm⟩ := now; exact ⟨l', e1, nn l' rfl e1 b, vs', hl', (rpK_noL r (by rw [kv_snd]; exact f)).mono smN, nm⟩
    · refine ⟨?_, fun w => by simp [owns] at w, fun w => by simp [ownsF] at w, fun xs z => by cases z⟩
      rw [out.2 i nw] at h2
      obtain ⟨v, e1, r⟩ := R.ok i _ o f1 h2
      exact ⟨v, e1, r.mono smB⟩
  have at_σ : ∀ (j : Nat) s', e3[j]? = some s' → ∃ o, σ2[j]? = some o := fun j s' h => by
    have hj : j < σ2.length := by rw [← p.rel.len, ← hlen]; exact (List.getElem?_eq_some_iff.mp h).1
    exact ⟨_, List.getElem?_eq_getElem hj⟩
  have ownsE : ∀ {j : Nat}, owns e3[j]? = true → ∃ s, e3[j]? = some s ∧ owns (some s) = true := fun {j} h => by
    cases q : e3[j]? with
    | none => rw [q] at h; simp [owns] at h
    | some s => exact ⟨s, rfl, by rw [q] at h; exact h⟩
  have ownsFE : ∀ {j : Nat}, ownsF e3[j]? = true → ∃ s, e3[j]? = some s ∧ ownsF (some s) = true := fun {j} h => by
    cases q : e3[j]? with
    | none => rw [q] at h; simp [ownsF] at h
    | some s => exact ⟨s, rfl, by rw [q] at h; exact h⟩
  refine ⟨Bf, ⟨sub, by rw [hlen]; exact p.rel.len, fun i s o h1 h2 => (slot i s o h1 h2).1, fun i j l' ne h1 h2 h3 h4 => ?_⟩, ⟨smB, fun a h h' => ?_, p.stp.dom, fun a o h w => p.stp.keep a o h fun z => w (hid_own hd z)⟩, fun a ⟨j, h1, h2⟩ => ?_, fun a ⟨j, h1, h2⟩ => ?_, fun j xs h => ?_⟩
  · obtain ⟨s1, f1, w1⟩ := ownsE h1
    obtain ⟨s2, f2, w2⟩ := ownsE h2
    have z1 := (slot i s1 _ f1 h3).2.1 w1
    have z2 := (slot j s2 _ f2 h4).2.1 w2
    have no : ∀ {j : Nat}, owns e2[j]? = true → σ2[j]? = some (some (.ref l)) → False := fun {j} a b => by
      have := (p.rel.obj ⟨j, a, b⟩).1
      rw [hl] at this; cases this
    rcases z1 with ⟨rfl, z1⟩ | ⟨n1, z1⟩
    · cases z1
      rcases z2 with ⟨rfl, _⟩ | ⟨_, z2⟩
      · exact ne rfl
      · exact no z2 h4
    · rcases z2 with ⟨rfl, z2⟩ | ⟨_, z2⟩
      · cases z2; exact no z1 h3
      · exact p.rel.sep i j l' ne z1 z2 h3 h4
  · obtain ⟨u, hu⟩ := Option.ne_none_iff_exists'.mp h'
    rcases bf_or a u hu with z | ⟨_, _, z⟩
    · rw [h] at z; cases z
    · have n0 : NoL B a = none := by unfold NoL; rw [h]
      exact (p.stp.fresh a n0 (by rw [z]; simp)).imp_right fun z => hid_ownF hd z
  · obtain ⟨s1, f1, w1⟩ := ownsE h1
    rcases (slot j s1 _ f1 h2).2.1 w1 with ⟨_, z⟩ | ⟨_, z⟩
    · cases z
      rcases fr2 with z | z
      · exact .inr z
      · exact .inl z.own
    · exact (p.own a ⟨j, z, h2⟩).imp_left fun z => hid_own hd z
  · obtain ⟨s1, f1, w1⟩ := ownsFE h1
    rcases (slot j s1 _ f1 h2).2.2.1 w1 with ⟨_, z⟩ | z
    · cases z
      exact fr2.symm
    · exact (p.ownF a ⟨j, z, h2⟩).imp_left fun z => hid_ownF hd z
  · obtain ⟨o, ho⟩ := at_σ j _ h
    have z := (slot j _ o h ho).2.2.2 xs rfl
    obtain ⟨⟨ys, h1⟩, h2⟩ := p.par j xs z
    obtain ⟨s, e, h3⟩ := (hid_at hd).2 j _ h1
    rcases h3 with ⟨z, _⟩ | ⟨z, _⟩
    · cases z
    · exact ⟨⟨ys, by rw [e, ← z]⟩, h2⟩
variable {e tg : Expr} {te : TR} {gt : PD.TG} {pos : Pos}
theorem sd_unp (k : Nat) (he : PR X W e te) (hg : PGd X ws tg gt) (hs : swapsWithSole [tg] e pos.line X.env = pure false := by rfl) (hw : swappedStores [tg] e X.env = pure none := by rfl)
    (h1 : (assignEach [tg] X.env).map (·.2) = [assign tg X.env] := by rfl) : PSd X W (.Assign [tg] e pos) (sUnp ws k te gt) := ⟨fun pins s σ H D I ⟨B, env, E, R, ⟨e0, hd, h⟩, g⟩ => by
  refine thn ((ps_asg he hg hs hw h1).run pins s σ H { D with nx := fun σ' H' => ∀ s', Inv X pins σ' H' s' → D.nx σ' H' } I ?_) fun f s1 q => ?_
  · have R0 := hid_rel R hd
    refine rd_fz R0 h (fun _ _ _ _ _ _ z => z.elim) fun x e1 v B1 H1 p q rp => ⟨B1, e1, x, _, q.rel, rp, p, fun e2 σ2 B2 H2 ⟨ts, e3, hk, hf, hm, p2⟩ q2 out s' I' => ?_⟩
    obtain ⟨Bf, hp⟩ := unp_post R hd (q.trans q2) out (fun a xs ys a1 a2 => I'.tuple_inj a1 a2) hk hf hm
    exact g.nx _ _ _ _ p2 hp
  · cases f with
    | next =>
      obtain ⟨σ', H', I', q⟩ := q
      exact ⟨σ', H', I', q s1 I'⟩
    | ret v => exact q
    | brk => exact q
    | cont => exact q⟩
end
end PD
end PU_
section PM1_
set_option Elab.async false
set_option linter.all false
set_option maxRecDepth 100000
set_option maxHeartbeats 2000000
/-! PM1: lists inside values that are changed in place: what stays true of values, of slots, of frames. -/
namespace PD
open PySem PySem.Spec PyProof.Rows L2
/-! ### values before and after: items of lists may have become other small values (L) -/
mutual
inductive Hv (L : D → Prop) : D → D → Prop
  | fl {x : D} : flat x = true → Hv L x x
  | scr (ns : List Int) : Hv L (scrD ns) (scrD ns)
  | lst {xs ys : List D} : Hvs L true xs ys → Hv L (.list xs) (.list ys)
  | tup {xs ys : List D} : Hvs L false xs ys → Hv L (.tuple xs) (.tuple ys)
  | dct {xs ys : List (D × D)} : HvK L xs ys → Hv L (.dict xs) (.dict ys)
inductive Hvs (L : D → Prop) : Bool → List D → List D → Prop
  | nil {b : Bool} : Hvs L b [] []
  | cons {b : Bool} {x y : D} {xs ys : List D} : Hv L x y → Hvs L b xs ys → Hvs L b (x :: xs) (y :: ys)
  | put {x y : D} {xs ys : List D} : flS x = false → L y → Hvs L true xs ys → Hvs L true (x :: xs) (y :: ys)
inductive HvK (L : D → Prop) : List (D × D) → List (D × D) → Prop
  | nil : HvK L [] []
  | cons {q x y : D} {xs ys : List (D × D)} : Hv L x y → HvK L xs ys → HvK L ((q, x) :: xs) ((q, y) :: ys)
end
theorem hvs_fl {L : D → Prop} {b : Bool} : ∀ (kvs : List (Key × V)), Hvs L b (kvs.map fun p => keyD p.1) (kvs.map fun p => keyD p.1)
  | [] => .nil
  | p :: kvs => .cons (.fl (by show flat (keyD p.1) = true; cases p.1 <;> rfl)) (hvs_fl kvs)
theorem hv_lck {L : D → Prop} (kvs : List (Key × V)) : Hv L (lckD (kvs.map fun p => keyD p.1)) (lckD (kvs.map fun p => keyD p.1)) := .dct (.cons (.lst (hvs_fl kvs)) .nil)
/-- a small value of the kind L, at v -/
def LimV (L : D → Prop) (K : Fr) (B : Hp) (v : V) : Prop := ∃ a y, v = .ref a ∧ L y ∧ flat y = true ∧ Rp K B v y
inductive Chg (L : D → Prop) (K : Fr) (B : Hp) : List V → List V → Prop
  | nil : Chg L K B [] []
  | cons {v : V} {vs us : List V} : Chg L K B vs us → Chg L K B (v :: vs) (v :: us)
  | put {v u : V} {vs us : List V} : LimV L K B u → Chg L K B vs us → Chg L K B (v :: vs) (u :: us)
/-- the same but for lists that were changed -/
def SameM (L : D → Prop) (K : Fr) (B B' : Hp) : Prop := ∀ a o, B a = some o → B' a = some o ∨ ∃ vs us, o = .lst vs ∧ (∀ v ∈ vs, ∃ b, v = .ref b) ∧ B' a = some (.lst us) ∧ Chg L K B' vs us
section
variable {L : D → Prop} {K : Fr} {B B1 B2 H H1 H2 : Hp} {env env1 env2 : Env} {σ σ1 σ2 : St}
theorem SameM.of (h : Same B B1) : SameM L K B B1 := fun a o e => .inl (h a o e)
theorem SameM.nl (h : SameM L K B B1) : Same (NoL B) B1 := fun a o e => by
  unfold NoL at e
  split at e
  · rename_i xs q
    cases e
    rcases h a _ q with z | ⟨vs, us, z, _⟩
    · exact z
    · cases z
  · rename_i o' u q
    cases e
    rcases h a _ q with z | ⟨vs, us, z, _⟩
    · exact z
    · cases z
  · cases e
theorem LimV.mono {v : V} (h : LimV L K B v) (s : SameM L K B B1) : LimV L K B1 v := by
  obtain ⟨a, y, e, l, f, r⟩ := h
  exact ⟨a, y, e, l, f, (Rp.noL r f).mono s.nl⟩
theorem Chg.mono {vs us : List V} (h : Chg L K B vs us) (s : SameM L K B B1) : Chg L K B1 vs us := by
  induction h with
  | nil => exact .nil
  | cons _ ih => exact .cons ih
  | put l _ ih => exact .put (l.mono s) ih
theorem Chg.refs {vs us : List V} (h : Chg L K B vs us) (r : ∀ v ∈ vs, ∃ b, v = V.ref b) : ∀ v ∈ us, ∃ b, v = V.ref b := by
  induction h with
  | nil => exact r
  | cons _ ih =>
    intro v hv
    rcases List.mem_cons.mp hv with rfl | hv
    · exact r _ List.mem_cons_self
    · exact ih (fun w hw => r w (List.mem_cons_of_mem _ hw)) v hv
  | put l _ ih =>
    intro v hv
    rcases List.mem_cons.mp hv with rfl | hv
    · obtain ⟨a, _, e, _⟩ := l; exact ⟨a, e⟩
    · exact ih (fun w hw => r w (List.mem_cons_of_mem _ hw)) v hv
theorem Chg.trans {vs us ws : List V} (h : Chg L K B vs us) (g : Chg L K B us ws) : Chg L K B vs ws := by
  induction h generalizing ws with
  | nil => exact g
  | cons _ ih =>
    cases g with
    | cons g => exact .cons (ih g)
    | put l g => exact .put l (ih g)
  | put l _ ih =>
    cases g with
    | cons g => exact .put l (ih g)
    | put l2 g => exact .put l2 (ih g)
theorem SameM.trans (h : SameM L K B B1) (g : SameM L K B1 B2) : SameM L K B B2 := fun a o e => by
  rcases h a o e with z | ⟨vs, us, rfl, rf, z, c⟩
  · exact g a o z
  · rcases g a _ z with y | ⟨vs', us', e2, _, y, c'⟩
    · exact .inr ⟨vs, us, rfl, rf, y, c.mono g⟩
    · cases e2
      exact .inr ⟨vs, us', rfl, rf, y, (c.mono g).trans c'⟩
theorem rp_ref {a : Addr} {d : D} (h : Rp K B (.ref a) d) : flS d = false := by cases h <;> rfl
mutual
theorem hv_of (s : SameM L K B B1) : ∀ {v : V} {x : D}, Rp K B v x → ∃ y, Rp K B1 v y ∧ Hv L x y
  | _, _, .non => ⟨_, .non, .fl rfl⟩
  | _, _, .bl b => ⟨_, .bl b, .fl rfl⟩
  | _, _, .int i => ⟨_, .int i, .fl rfl⟩
  | _, _, .str i => ⟨_, .str i, .fl rfl⟩
  | _, _, .lst (a := a) (xs := vs) h1 h2 => by
    rcases s a _ h1 with z | ⟨vs', us, e, rf, z, c⟩
    · obtain ⟨ys, r, hs⟩ := hvs_of s true h2
      exact ⟨_, .lst z r, .lst hs⟩
    · cases e
      obtain ⟨ys, r, hs⟩ := hvc_of s h2 rf c
      exact ⟨_, .lst z r, .lst hs⟩
  | _, _, .scr (a := a) (ns := ns) h => by
    refine ⟨_, .scr (ns := ns) ?_, .scr ns⟩
    rcases h with (h | ⟨o, h⟩) | h
    · rcases s a _ h with z | ⟨vs', us, e, rf, z, c⟩
      · exact .inl (.inl z)
      · cases e
        have : us = ns.map V.int := by
          cases ns with
          | nil => cases c; rfl
          | cons n ns => obtain ⟨b, hb⟩ := rf (.int n) (by simp); cases hb
        rw [this] at z
        exact .inl (.inl z)
    · rcases s a _ h with z | ⟨vs', us, e, _⟩
      · exact .inl (.inr ⟨o, z⟩)
      · cases e
    · exact .inr h
  | _, _, .tup h1 h2 => by
    obtain ⟨ys, r, hs⟩ := hvs_of s false h2
    refine ⟨_, .tup ?_ r, .tup hs⟩
    rcases h1 with h1 | h1
    · exact same_t s.nl (.inl (noL_rd h1))
    · exact .inr h1
  | _, _, .dct (a := a) h1 h2 => by
    obtain ⟨ys, r, hs⟩ := hvk_of s h2
    rcases s a _ h1 with z | ⟨vs', us, e, _⟩
    · exact ⟨_, .dct z r, .dct hs⟩
    · cases e
  | _, _, .lck (a := a) ⟨o, h1⟩ => by
    rcases s a _ h1 with z | ⟨vs', us, e, _⟩
    · exact ⟨_, .lck ⟨o, z⟩, hv_lck _⟩
    · cases e
theorem hvs_of (s : SameM L K B B1) (b : Bool) : ∀ {vs : List V} {xs : List D}, RpA K B vs xs → ∃ ys, RpA K B1 vs ys ∧ Hvs L b xs ys
  | _, _, .nil => ⟨_, .nil, .nil⟩
  | _, _, .cons h1 h2 => by
    obtain ⟨y, r, h⟩ := hv_of s h1
    obtain ⟨ys, rs, hs⟩ := hvs_of s b h2
    exact ⟨_, .cons r rs, .cons h hs⟩
theorem hvc_of (s : SameM L K B B1) : ∀ {vs us : List V} {xs : List D}, RpA K B vs xs → (∀ v ∈ vs, ∃ b, v = V.ref b) → Chg L K B1 vs us → ∃ ys, RpA K B1 us ys ∧ Hvs L true xs ys
  | _, _, _, .nil, _, .nil => ⟨_, .nil, .nil⟩
  | _, _, _, .cons h1 h2, rf, .cons c => by
    obtain ⟨y, r, h⟩ := hv_of s h1
    obtain ⟨ys, rs, hs⟩ := hvc_of s h2 (fun w hw => rf w (List.mem_cons_of_mem _ hw)) c
    exact ⟨_, .cons r rs, .cons h hs⟩
  | _, _, _, .cons h1 h2, rf, .put l c => by
    obtain ⟨ys, rs, hs⟩ := hvc_of s h2 (fun w hw => rf w (List.mem_cons_of_mem _ hw)) c
    obtain ⟨a, y, e, hl, f, r⟩ := l
    obtain ⟨b, hb⟩ := rf _ List.mem_cons_self
    rw [hb] at h1
    exact ⟨_, .cons r rs, .put (rp_ref h1) hl hs⟩
theorem hvk_of (s : SameM L K B B1) : ∀ {vs : List (Key × V)} {xs : List (D × D)}, RpK K B vs xs → ∃ ys, RpK K B1 vs ys ∧ HvK L xs ys
  | _, _, .nil => ⟨_, .nil, .nil⟩
  | _, _, .cons e h1 h2 => by
    obtain ⟨y, r, h⟩ := hv_of s h1
    obtain ⟨ys, rs, hs⟩ := hvk_of s h2
    exact ⟨_, .cons e r rs, .cons h hs⟩
end
/-! ### slots -/
inductive HvT (L : D → Prop) : List (KeyD × D) → List (KeyD × D) → Prop
  | nil : HvT L [] []
  | cons {q : KeyD} {x y : D} {xs ys : List (KeyD × D)} : Hv L x y → HvT L xs ys → HvT L ((q, x) :: xs) ((q, y) :: ys)
inductive HvS (L : D → Prop) : Sl → Sl → Prop
  | un : HvS L .un .un
  | d {x y : D} : Hv L x y → HvS L (.d x) (.d y)
  | own {xs ys : List D} : Hvs L false xs ys → HvS L (.own xs) (.own ys)
  | par {xs ys : List D} : Hvs L false xs ys → HvS L (.par xs) (.par ys)
  | tab {xs ys : List (KeyD × D)} : HvT L xs ys → HvS L (.tab xs) (.tab ys)
def HvE (L : D → Prop) (env env' : Env) : Prop := env'.length = env.length ∧ ∀ (j : Nat) s s', env[j]? = some s → env'[j]? = some s' → HvS L s s'
theorem hvt_of (s : SameM L K B B1) : ∀ {vs : List (Key × V)} {xs : List (KeyD × D)}, RpK K B vs (xs.map fun p => (keyD p.1, p.2)) → ∃ ys, RpK K B1 vs (ys.map fun p => (keyD p.1, p.2)) ∧ HvT L xs ys ∧ ys.map (·.1) = xs.map (·.1)
  | _, [], h => by cases h; exact ⟨[], .nil, .nil, rfl⟩
  | _, (q, x) :: xs, h => by
    cases h with
    | cons e h1 h2 =>
      obtain ⟨y, r, h⟩ := hv_of s h1
      obtain ⟨ys, rs, hs, nm⟩ := hvt_of s h2
      exact ⟨(q, y) :: ys, .cons e r rs, .cons h hs, by rw [List.map_cons, List.map_cons, nm]⟩
theorem ex_list {Q : Nat → Sl → Sl → Prop} : ∀ {env : Env}, (∀ (j : Nat) s, env[j]? = some s → ∃ s', Q j s s') → ∃ env' : Env, env'.length = env.length ∧ ∀ (j : Nat) s s', env[j]? = some s → env'[j]? = some s' → Q j s s' := fun {env} => by
  induction env generalizing Q with
  | nil => exact fun _ => ⟨[], rfl, fun j s s' h => by simp at h⟩
  | cons s r ih =>
    intro h
    obtain ⟨s', hs⟩ := h 0 s rfl
    obtain ⟨r', h1, h2⟩ := ih (Q := fun j => Q (j + 1)) fun j t ht => h (j + 1) t (by simpa using ht)
    refine ⟨s' :: r', by simp [h1], fun j t t' a b => ?_⟩
    cases j with
    | zero => simp at a b; subst a b; exact hs
    | succ j => exact h2 j t t' (by simpa using a) (by simpa using b)
theorem HvS.owns {s s' : Sl} (h : HvS L s s') : PD.owns (some s') = PD.owns (some s) ∧ PD.ownsF (some s') = PD.ownsF (some s) := by cases h <;> exact ⟨rfl, rfl⟩
theorem HvE.at' {j : Nat} {s' : Sl} (h : HvE L env env1) (e : env1[j]? = some s') : ∃ s, env[j]? = some s ∧ HvS L s s' := by
  have hj : j < env.length := by rw [← h.1]; exact (List.getElem?_eq_some_iff.mp e).1
  exact ⟨env[j], by simp [hj], h.2 j _ _ (by simp [hj]) e⟩
theorem HvE.own {a : Addr} (h : HvE L env env1) (o : Own env1 σ a) : Own env σ a := by
  obtain ⟨j, h1, h2⟩ := o
  obtain ⟨s', e1, w1⟩ := owns_some h1
  obtain ⟨s, e2, hs⟩ := h.at' e1
  exact ⟨j, by rw [e2, ← hs.owns.1]; exact w1, h2⟩
theorem HvE.ownF {a : Addr} (h : HvE L env env1) (o : OwnF env1 σ a) : OwnF env σ a := by
  obtain ⟨j, h1, h2⟩ := o
  obtain ⟨s', e1, w1⟩ := ownsF_some h1
  obtain ⟨s, e2, hs⟩ := h.at' e1
  exact ⟨j, by rw [e2, ← hs.owns.2]; exact w1, h2⟩
/-- the slots behind a change -/
theorem Rel.hv (R : Rel K B H env σ) (s : SameM L K B B1) (sub : Same B1 H1) (ow : ∀ l, Own env σ l → B1 l = none ∧ H1 l = H l) : ∃ env', HvE L env env' ∧ Rel K B1 H1 env' σ := by
  obtain ⟨env', h1, h2⟩ := ex_list (env := env) (Q := fun j t t' => HvS L t t' ∧ ∀ o, σ[j]? = some o → SlOk K B1 H1 t' o) fun j t ht => by
    have hj : j < σ.length := by rw [← R.len]; exact (List.getElem?_eq_some_iff.mp ht).1
    have ho := List.getElem?_eq_getElem hj
    have ok := R.ok j t _ ht ho
    have uq : ∀ o, σ[j]? = some o → o = σ[j] := fun o e => by rw [ho] at e; exact (Option.some.inj e).symm
    have own_ : ∀ l, PD.owns (some t) = true → σ[j] = some (V.ref l) → B1 l = none ∧ H1 l = H l := fun l w e => ow l ⟨j, by rw [ht]; exact w, by rw [ho, e]⟩
    cases t with
    | un => exact ⟨.un, .un, fun _ _ => trivial⟩
    | d x =>
      obtain ⟨v, e, r⟩ := ok
      obtain ⟨y, r', h⟩ := hv_of s r
      exact ⟨.d y, .d h, fun o ho' => ⟨v, by rw [uq o ho', e], r'⟩⟩
    | own xs =>
      obtain ⟨l, e, b, vs, hv, r⟩ := ok
      obtain ⟨z1, z2⟩ := own_ l rfl e
      obtain ⟨ys, r', h⟩ := hvs_of s false r
      exact ⟨.own ys, .own h, fun o ho' => ⟨l, by rw [uq o ho', e], z1, vs, by rw [z2]; exact hv, r'⟩⟩
    | par xs =>
      obtain ⟨l, e, b, vs, hv, r⟩ := ok
      obtain ⟨z1, z2⟩ := own_ l rfl e
      obtain ⟨ys, r', h⟩ := hvs_of s false r
      exact ⟨.par ys, .par h, fun o ho' => ⟨l, by rw [uq o ho', e], z1, vs, by rw [z2]; exact hv, r'⟩⟩
    | tab kvs =>
      obtain ⟨l, e, b, ws, hv, r, nm⟩ := ok
      obtain ⟨z1, z2⟩ := own_ l rfl e
      obtain ⟨ys, r', h, nm'⟩ := hvt_of s r
      exact ⟨.tab ys, .tab h, fun o ho' => ⟨l, by rw [uq o ho', e], z1, ws, by rw [z2]; exact hv, r', by rw [nm, nm']⟩⟩
  have hE : HvE L env env' := ⟨h1, fun j t t' a b => (h2 j t t' a b).1⟩
  refine ⟨env', hE, ⟨sub, by rw [h1]; exact R.len, fun j t' o a b => ?_, fun j j' l ne w1 w2 e1 e2 => ?_⟩⟩
  · obtain ⟨t, e, _⟩ := hE.at' a
    exact (h2 j t t' e a).2 o b
  · obtain ⟨t1, f1, w1⟩ := owns_some w1
    obtain ⟨t2, f2, w2⟩ := owns_some w2
    obtain ⟨u1, g1, k1⟩ := hE.at' f1
    obtain ⟨u2, g2, k2⟩ := hE.at' f2
    exact R.sep j j' l ne (by rw [g1, ← k1.owns.1]; exact w1) (by rw [g2, ← k2.owns.1]; exact w2) e1 e2
/-! ### frames -/
structure PostM (L : D → Prop) (K : Fr) (B H : Hp) (env : Env) (σ : St) (B' H' : Hp) (env' : Env) (σ' : St) : Prop where
  rel : Rel K B' H' env' σ'
  base : SameM L K B B'
  fresh : ∀ a, B a = none → B' a ≠ none → H a = none ∨ OwnF env σ a
  dom : ∀ a, H a ≠ none → H' a ≠ none
  keep : ∀ a o, H a = some o → ¬ Own env σ a → (∀ vs, B a ≠ some (.lst vs)) → H' a = some o
  own : ∀ a, Own env' σ' a → Own env σ a ∨ H a = none
  ownF : ∀ a, OwnF env' σ' a → OwnF env σ a ∨ H a = none
  par : ∀ (i : Nat) xs, env'[i]? = some (.par xs) → (∃ ys, env[i]? = some (.par ys)) ∧ σ'[i]? = σ[i]?
theorem PostM.of (p : Post K B H env σ B1 H1 env1 σ1) : PostM L K B H env σ B1 H1 env1 σ1 := ⟨p.rel, .of p.stp.base, p.stp.fresh, p.stp.dom, fun a o h w _ => p.stp.keep a o h w, p.own, p.ownF, p.par⟩
theorem PostM.trans (p : PostM L K B H env σ B1 H1 env1 σ1) (q : PostM L K B1 H1 env1 σ1 B2 H2 env2 σ2) : PostM L K B H env σ B2 H2 env2 σ2 where
  rel := q.rel
  base := p.base.trans q.base
  fresh := fun a h0 h2 => by
    by_cases h1 : B1 a = none
    · rcases q.fresh a h1 h2 with z | z
      · exact .inl (none_of_dom p.dom z)
      · rcases p.ownF a z with z | z
        · exact .inr z
        · exact .inl z
    · exact p.fresh a h0 h1
  dom := fun a h => q.dom a (p.dom a h)
  keep := fun a o h w nl => by
    refine q.keep a o (p.keep a o h w nl) (fun z => ?_) fun vs hb => ?_
    · rcases p.own a z with z | z
      · exact w z
      · rw [h] at z; cases z
    · cases e : B a with
      | none =>
        rcases p.fresh a e (by rw [hb]; simp) with z | z
        · rw [h] at z; cases z
        · exact w z.own
      | some o' =>
        rcases p.base a o' e with z | ⟨us, ws, z, _⟩
        · rw [hb] at z; cases z; exact nl _ e
        · subst z; exact nl _ e
  own := fun a h => by
    rcases q.own a h with z | z
    · exact p.own a z
    · exact .inr (none_of_dom p.dom z)
  ownF := fun a h => by
    rcases q.ownF a h with z | z
    · exact p.ownF a z
    · exact .inr (none_of_dom p.dom z)
  par := fun i xs h => by
    obtain ⟨⟨ys, h1⟩, e1⟩ := q.par i xs h
    obtain ⟨h2, e2⟩ := p.par i ys h1
    exact ⟨h2, e1.trans e2⟩
/-- a base that holds no list at all -/
def NoLst (B : Hp) : Prop := ∀ a vs, B a ≠ some (.lst vs)
theorem PostM.post (p : PostM L K B H env σ B1 H1 env1 σ1) (n : NoLst B) : Post K B H env σ B1 H1 env1 σ1 where
  rel := p.rel
  stp := ⟨fun a o e => by
    rcases p.base a o e with z | ⟨vs, us, z, _⟩
    · exact z
    · subst z; exact absurd e (n a vs), p.fresh, p.dom, fun a o h w => p.keep a o h w (n a)⟩
  own := p.own
  ownF := p.ownF
  par := p.par
/-- a list inside a value is changed -/
theorem PostM.mutL {vs : List V} {a : Addr} {j : Nat} {u : V} (R : Rel K B H env σ) (hb : B a = some (.lst vs)) (rf : ∀ v ∈ vs, ∃ b, v = V.ref b) (hl : LimV L K B u) :
    ∃ env', HvE L env env' ∧ PostM L K B H env σ (upd B a (.lst (vs.set j u))) (upd H a (.lst (vs.set j u))) env' σ := by
  have nls : Same (NoL B) (upd B a (.lst (vs.set j u))) := fun b o e => by
    have ne : b ≠ a := fun z => by
      subst z
      unfold NoL at e
      rw [hb] at e
      cases e
    rw [upd_ne ne]
    unfold NoL at e
    split at e
    · rename_i q; cases e; exact q
    · rename_i q; cases e; exact q
    · cases e
  have hl2 : LimV L K (upd B a (.lst (vs.set j u))) u := by
    obtain ⟨c, y, e, l, f, r⟩ := hl
    exact ⟨c, y, e, l, f, (Rp.noL r f).mono nls⟩
  have chg : ∀ (vs : List V) (j : Nat), Chg L K (upd B a (.lst (vs.set j u))) vs (vs.set j u) ∨ True := fun _ _ => .inr trivial
  have chg2 : ∀ (B' : Hp), LimV L K B' u → ∀ (ws : List V) (j : Nat), Chg L K B' ws (ws.set j u) := fun B' hl' ws => by
    have same : ∀ ws : List V, Chg L K B' ws ws := fun ws => by
      induction ws with
      | nil => exact .nil
      | cons w ws ih => exact .cons ih
    induction ws with
    | nil => intro j; exact .nil
    | cons w ws ih =>
      intro j
      cases j with
      | zero => exact .put hl' (same ws)
      | succ j => exact .cons (ih j)
  have sm : SameM L K B (upd B a (.lst (vs.set j u))) := fun b o e => by
    by_cases q : b = a
    · subst q
      rw [hb] at e; cases e
      exact .inr ⟨vs, vs.set j u, rfl, rf, upd_same, chg2 _ hl2 vs j⟩
    · exact .inl (by rw [upd_ne q]; exact e)
  have na : ∀ l, Own env σ l → l ≠ a := fun l o z => by
    have := (R.obj o).1
    rw [z, hb] at this; cases this
  obtain ⟨env', h1, R'⟩ := R.hv (H1 := upd H a (.lst (vs.set j u))) sm (fun b o e => by
    by_cases q : b = a
    · subst q; rw [upd_same] at e ⊢; exact e
    · rw [upd_ne q] at e ⊢; exact R.ex b o e) fun l o => ⟨by rw [upd_ne (na l o)]; exact (R.obj o).1, upd_ne (na l o)⟩
  refine ⟨env', h1, ⟨R', sm, fun b h0 h2 => ?_, fun b h => ?_, fun b o h w nl => ?_, fun b h => .inl (h1.own h), fun b h => .inl (h1.ownF h), fun i xs h => ?_⟩⟩
  · by_cases q : b = a
    · subst q; rw [hb] at h0; cases h0
    · rw [upd_ne q] at h2; exact absurd h0 h2
  · by_cases q : b = a
    · subst q; rw [upd_same]; simp
    · rw [upd_ne q]; exact h
  · have ne : b ≠ a := fun z => nl vs (z ▸ hb)
    rw [upd_ne ne]; exact h
  · obtain ⟨s, e, hs⟩ := h1.at' h
    cases hs with
    | par _ => exact ⟨⟨_, e⟩, rfl⟩
end
end PD
end PM1_
section PM2_
set_option Elab.async false
set_option linter.all false
set_option maxRecDepth 100000
set_option maxHeartbeats 2000000
/-! PM2: statements that change lists inside values. -/
namespace PD
open PySem PySem.Spec PyProof.Rows L2
structure GoodSM (L : D → Prop) (X : Cx) (W : WX) (D : Ends) (B H : Hp) (env : Env) (σ : St) (E : En) : Prop where
  nx : ∀ env' σ' B' H', E.nx env' → PostM L X.K B H env σ B' H' env' σ' → D.nx σ' H'
  bk : ∀ env' σ' B' H', E.bk env' → PostM L X.K B H env σ B' H' env' σ' → D.bk σ' H'
  ct : ∀ env' σ' B' H', E.ct env' → PostM L X.K B H env σ B' H' env' σ' → D.ct σ' H'
  rt : ∀ r env' v σ' B' H', E.rt r env' → PostM L X.K B H env σ B' H' env' σ' → RetOk X.K B' H' env' σ' r v → New H env σ r v → D.rt v H'
  ex : ∀ x env' σ' cls dd B' H', E.ex x env' → PostM L X.K B H env σ B' H' env' σ' → ExcOk X B' H' x cls dd → W cls dd σ' H'
def rdM (L : D → Prop) (X : Cx) (W : WX) (t : PD.TS) : L2.TS := fun D σ H => ∃ (B : Hp) (env : Env) (E : En), Rel X.K B H env σ ∧ t E env ∧ GoodSM L X W D B H env σ E
abbrev PSM (L : D → Prop) (X : Cx) (W : WX) (s : Stmt) (t : PD.TS) : Prop := PS X s (rdM L X W t)
abbrev PSsM (L : D → Prop) (X : Cx) (W : WX) (s : List Stmt) (t : PD.TS) : Prop := PSs X s (rdM L X W t)
section
variable {L : D → Prop} {X : Cx} {W : WX} {K : Fr} {B B1 B2 H H1 H2 : Hp} {env env1 env2 : Env} {σ σ1 σ2 : St} {D : Ends} {E : En} {pos : Pos}
theorem New.transM {r : Ret} {v : V} (a : PostM L X.K B H env σ B1 H1 env1 σ1) (n : New H1 env1 σ1 r v) : New H env σ r v := by
  cases r with
  | d x => trivial
  | own xs =>
    intro l e
    rcases n l e with z | z
    · exact .inl (none_of_dom a.dom z)
    · exact (a.ownF l z).symm
  | tab kvs =>
    intro l e
    rcases n l e with z | z
    · exact .inl (none_of_dom a.dom z)
    · exact (a.ownF l z).symm
theorem GoodSM.trans (g : GoodSM L X W D B H env σ E) (p : PostM L X.K B H env σ B1 H1 env1 σ1) : GoodSM L X W D B1 H1 env1 σ1 E :=
  ⟨fun a b c d e q => g.nx a b c d e (p.trans q), fun a b c d e q => g.bk a b c d e (p.trans q), fun a b c d e q => g.ct a b c d e (p.trans q),
   fun r a v b c d e q o n => g.rt r a v b c d e (p.trans q) o (New.transM p n), fun x a b c d e f h q o => g.ex x a b c d e f h (p.trans q) o⟩
theorem GoodSM.toS (g : GoodSM L X W D B H env σ E) : GoodS X W D B H env σ E :=
  ⟨fun a b c d e q => g.nx a b c d e (.of q), fun a b c d e q => g.bk a b c d e (.of q), fun a b c d e q => g.ct a b c d e (.of q),
   fun r a v b c d e q o n => g.rt r a v b c d e (.of q) o n, fun x a b c d e f h q o => g.ex x a b c d e f h (.of q) o⟩
theorem GoodSM.good (g : GoodSM L X W D B H env σ E) : Good X W B H env σ E.ex := g.toS.good
variable {a b c e ix o iter tg : Expr} {st : Stmt} {rest p q : List Stmt} {t u : PD.TS} {te tk : TR} {x : Str}
/-- what changes nothing inside values -/
theorem sm_lift (h : PSd X W st t) : PSM L X W st t := ps_imp h fun D σ H ⟨B, env, E, R, h, g⟩ => ⟨B, env, E, R, h, g.toS⟩
theorem ssm_lift (h : PSsd X W rest t) : PSsM L X W rest t := pss_imp h fun D σ H ⟨B, env, E, R, h, g⟩ => ⟨B, env, E, R, h, g.toS⟩
theorem sm_cons (h1 : PSM L X W st t) (h2 : PSsM L X W rest u) : PSsM L X W (st :: rest) (sSeq t u) := pss_imp (pss_cons h1 h2) fun D σ H ⟨B, env, E, R, h, g⟩ =>
  ⟨B, env, _, R, h, ⟨fun e1 σ1 B1 H1 p q => ⟨B1, e1, E, q.rel, p, g.trans q⟩, g.bk, g.ct, g.rt, g.ex⟩⟩
theorem sm_one (h1 : PSM L X W st t) : PSsM L X W [st] t := pss_one h1
theorem sm_if {tc : TB} (hc : PB X W c tc) (ha : PSsM L X W p t) (hb : PSsM L X W q u) : PSM L X W (.If c p q pos) (sIf tc t u) := ps_imp (ps_if hc ha hb) fun D σ H ⟨B, env, E, R, h, g⟩ =>
  ⟨B, env, E.ex, _, R, h, g.good, fun b e1 B1 H1 p q => by
    cases b with
    | true => rw [if_pos rfl] at p ⊢; exact ⟨B1, e1, E, q.rel, p, g.trans (.of q)⟩
    | false => rw [if_neg Bool.false_ne_true] at p ⊢; exact ⟨B1, e1, E, q.rel, p, g.trans (.of q)⟩⟩
/-! ### loops: over a range, over a tuple -/
def WkM (K : Fr) (B : Hp) (J : It) (xs : List PyData) : Prop := Walk J xs.length (fun H => Same (NoL B) H) (fun i H v H' => H' = H ∧ ∃ x, xs[i]? = some x ∧ Rp K B v x)
def rdIM (X : Cx) (W : WX) (t : PD.TI) : L2.TI := fun σ H R => ∃ (B : Hp) (env : Env) (E : EK) (P : List PyData → Env → Prop), Rel X.K B H env σ ∧ t E env P ∧ Good X W B H env σ E ∧
  ∀ xs env' B' H' J, P xs env' → Post X.K B H env σ B' H' env' σ → WkM X.K B' J xs → R J H'
abbrev PIM (X : Cx) (W : WX) (tg e : Expr) (t : PD.TI) : Prop := PI X tg e (rdIM X W t)
theorem sq_noL {a : Addr} {vs : List V} (h : SqT K B a vs) : SqT K (NoL B) a vs := by
  rcases h with h | h
  · exact .inl (noL_rd h)
  · exact .inr h
theorem wkM_range {lo : Int} {n : Nat} : WkM K B (Itr lo n) (rangeD lo n) := by
  unfold WkM rangeD
  rw [List.length_map, List.length_range]
  refine (walk_range (lo := lo) (n := n)).mono (fun _ _ => trivial) fun i H x H' hi s ⟨e1, e2⟩ => ?_
  subst e2
  refine ⟨e1, .int (lo + i), ?_, .int _⟩
  rw [List.getElem?_map, List.getElem?_range hi]; rfl
theorem wkM_tup {q : Addr} {vs : List V} {ds : List PyData} (h : SqT K B q vs) (r : RpA K B vs ds) : WkM K B (Itt K q) ds := by
  unfold WkM
  rw [← r.length]
  refine (walk_tup (xs := vs)).mono (fun H s => same_t s (sq_noL h)) fun i H x H' _ s ⟨e1, e2⟩ => ?_
  obtain ⟨y, h1, h2⟩ := r.getV e2
  exact ⟨e1, y, h1, h2⟩
theorem im_range1 {ta : TR} {p : Pos} (hg : Gl X "range") (hm : X.mg "range" = none) (ha : PR X W a ta) (hs : starEach [a] X.env = (false, eval a X.env) :: starEach [] X.env := by rfl) : PIM X W tg (.Call (.Name "range" p) [a] [] pos) (iRange1 ta) :=
  pi_imp (pi_range1 hg hm (pa_cons ha pa_nil hs) hs) fun σ H R ⟨B, env, E, P, rel, h, g, k⟩ => rd_fz rel h g fun x e1 v B1 H1 ⟨j, ej, hj, p1⟩ q1 r1 => by
    subst ej; cases r1
    exact ⟨j, rfl, hj.1, hj.2, k _ _ _ _ _ p1 q1 wkM_range⟩
theorem im_tup (he : PR X W e te) : PIM X W tg e (PD.iTup te) := pi_imp (pi_tup he) fun σ H R ⟨B, env, E, P, rel, h, g, k⟩ => rd_fz rel h g fun x e1 v B1 H1 ⟨xs, hx, p1⟩ q1 r1 => by
  subst hx
  obtain ⟨q, vs, rfl, h1, h2⟩ := rp_tup r1
  exact ⟨q, rfl, ⟨vs, same_t q1.rel.ex h1⟩, k _ _ _ _ _ p1 q1 (wkM_tup h1 h2)⟩
def sForM (L : PyData → Prop) (ti : PD.TI) (g : PD.TG) (tb : PD.TS) : PD.TS := fun D env => ti D.ex env fun xs e1 => ∃ I : Nat → Env → Prop, I 0 e1 ∧
  (∀ i x y e, xs[i]? = some x → Hv L x y → I i e → g y e fun e2 => tb { D with nx := I (i + 1), ct := I (i + 1), bk := D.nx } e2) ∧ (∀ e, I xs.length e → D.nx e)
theorem sm_for {body : List Stmt} {ti : PD.TI} {gt : PD.TG} {ws : List Nat} (hp : PassesOwn (model X.prog X.w) X.A X.env X.xe) (hc : X.calm = true) (hi : PIM X W tg iter ti) (hg : PGd X ws tg gt) (hb : PSsM L X W body t)
    (hs : ∀ x, foldedSetIterable iter X.env x = pure x := by intro _; rfl) : PSM L X W (.For tg iter body [] pos) (sForM L ti gt t) := ps_imp (ps_for hp hc hi hg hb hs) fun D σ H ⟨B, env, E, R, h, g⟩ =>
  ⟨B, env, E.ex, _, R, h, g.good, fun xs e1 B1 H1 J ⟨I, i0, step, fin⟩ q1 wk => by
    refine for_it wk (fun i σ' H' => ∃ B' env', PostM L X.K B H env σ B' H' env' σ' ∧ SameM L X.K B1 B' ∧ I i env') ⟨B1, e1, .of q1, .of (Same.refl _), i0⟩ (fun i σ' H' _ ⟨B', env', q, sm, _⟩ => sm.nl.trans q.rel.ex) (fun i v σ' H' H'' hi ⟨B', env', q, sm, hI⟩ ⟨eh, x, hx, rx⟩ => ?_) fun σ' H' ⟨B', env', q, _, hI⟩ => g.nx _ _ _ _ (fin _ hI) q
    subst eh
    obtain ⟨y, ry, hv⟩ := hv_of sm rx
    refine ⟨B', env', y, _, q.rel, ry, step i x y env' hx hv hI, fun e3 σ3 B3 H3 p3 q3 _ => ?_⟩
    have q4 := q.trans (.of q3)
    have next : ∀ env4 σ4 B4 H4, I (i + 1) env4 → PostM L X.K B3 H3 e3 σ3 B4 H4 env4 σ4 → ∃ B' env', PostM L X.K B H env σ B' H4 env' σ4 ∧ SameM L X.K B1 B' ∧ I (i + 1) env' := fun env4 σ4 B4 H4 p5 q5 =>
      ⟨B4, env4, q4.trans q5, sm.trans ((SameM.of q3.stp.base).trans q5.base), p5⟩
    exact ⟨B3, e3, { E with nx := I (i + 1), ct := I (i + 1), bk := E.nx }, q3.rel, p3, ⟨next, (g.trans q4).nx, next, (g.trans q4).rt, (g.trans q4).ex⟩⟩⟩
/-! ### p[k] = e, p a list inside values -/
def sMut (L : PyData → Prop) (i : Nat) (te tk : TR) : PD.TS := fun D env => fz te D.ex env fun x e1 => L x ∧ flat x = true ∧ flS x = false ∧ (∃ z, e1[i]? = some (.d z)) ∧ fz tk D.ex e1 fun k e2 =>
  ∃ ys n j, e2[i]? = some (.d (.list ys)) ∧ k = .int n ∧ ixOf n ys.length = some j ∧ (∀ y ∈ ys, flS y = false) ∧ ∀ env', HvE L e2 env' → D.nx env'
theorem rp_isRef {v : V} {d : PyData} (r : Rp K B v d) (h : flS d = false) : ∃ a, v = .ref a := by cases r <;> first | exact ⟨_, rfl⟩ | cases h
theorem rpa_refs : ∀ {vs : List V} {ds : List PyData}, RpA K B vs ds → (∀ d ∈ ds, flS d = false) → ∀ v ∈ vs, ∃ a, v = V.ref a
  | _, _, .nil, _, v, hv => by cases hv
  | _, _, .cons h1 h2, hd, v, hv => by
    rcases List.mem_cons.mp hv with rfl | hv
    · exact rp_isRef h1 (hd _ List.mem_cons_self)
    · exact rpa_refs h2 (fun d hd' => hd d (List.mem_cons_of_mem _ hd')) v hv
theorem sm_mut {i : Nat} {p2 : Pos} (ho : PE X o (tVar i)) (he : PR X W e te) (hk : PR X W ix tk)
    (ha : ∀ v, assign (.Subscript o ix p2) X.env v = (do
      let ov ← holding [v] (eval o X.env)
      let iv ← holding [v, ov] (eval ix X.env)
      standAt p2
      holding [v, ov, iv] (setItem ov iv v)
      release [v, ov, iv] []) := by intro _; rfl)
    (hs : swapsWithSole [.Subscript o ix p2] e pos.line X.env = pure false := by rfl) (hw : swappedStores [.Subscript o ix p2] e X.env = pure none := by rfl)
    (h1 : (assignEach [.Subscript o ix p2] X.env).map (·.2) = [assign (.Subscript o ix p2) X.env] := by rfl) : PSM L X W (.Assign [.Subscript o ix p2] e pos) (sMut L i te tk) :=
  ps_imp (ps_asg he (pg_sub ho hk set_list ha) hs hw h1) fun D σ H ⟨B, env, E, R, h, g⟩ =>
    rd_fz R h g.good fun x e1 v B1 H1 ⟨lx, fx, sx, ⟨z, hz⟩, p1⟩ q1 r1 => by
      have hi : i < σ.length := by rw [← q1.rel.len]; exact (List.getElem?_eq_some_iff.mp hz).1
      have hσ := List.getElem?_eq_getElem hi
      obtain ⟨ov, eo, _⟩ := q1.rel.ok i _ _ hz hσ
      rw [eo] at hσ
      refine ⟨ov, hσ, rd_fz q1.rel p1 (g.good.trans q1) fun k e2 kv B2 H2 ⟨ys, n, j, hs, hn, hj, hy, p⟩ q2 rp => ?_⟩
      subst hn
      cases rp
      have q := q1.trans q2
      obtain ⟨ov', eo', rl⟩ := q.rel.ok i _ _ hs hσ
      cases eo'
      obtain ⟨l, vs, rfl, hb, rr⟩ := rp_lst rl
      obtain ⟨va, rfl⟩ := rp_isRef r1 sx
      obtain ⟨env', he', pm⟩ := PostM.mutL (L := L) (j := j) (u := V.ref va) q.rel hb (rpa_refs rr hy) ⟨va, x, rfl, lx, fx, r1.mono q2.stp.base⟩
      exact ⟨l, vs, n, j, rfl, rfl, q.rel.ex _ _ hb, by rw [rr.length]; exact hj, g.nx _ _ _ _ (p env' he') ((PostM.of q).trans pm)⟩
end
/-! ### defs -/
section
variable {L : D → Prop} {K : Fr} {B H B1 H1 : Hp} {as env1 : Env} {vs : List V} {N : List Str} {σ1 : St} {n : Nat}
/-- the call as the caller sees it -/
theorem PostM.out (hl : as.length = n) (hv : vs.length = n) (hn : n ≤ N.length) (p : PostM L K B H (as ++ List.replicate (N.length - as.length) .un) (L2.start N vs) B1 H1 env1 σ1) : PostM L K B H as (vs.map some) B1 H1 (pars n env1) (vs.map some) := by
  have parσ : ∀ (j : Nat) xs, env1[j]? = some (.par xs) → j < n → (∃ ys, as[j]? = some (.par ys)) ∧ ∃ v, vs[j]? = some v ∧ σ1[j]? = some (some v) := fun j xs h hj => by
    obtain ⟨⟨ys, h1⟩, h2⟩ := p.par j xs h
    rcases un_at h1 with f | f
    · refine ⟨⟨ys, f⟩, ?_⟩
      have hj' : j < vs.length := by omega
      rw [start_at, if_pos hj', List.getElem?_eq_getElem hj'] at h2
      exact ⟨_, List.getElem?_eq_getElem hj', h2⟩
    · cases f
  have own1 : ∀ a, Own (pars n env1) (vs.map some) a → Own env1 σ1 a ∧ Own as (vs.map some) a := fun a ⟨j, h1, h2⟩ => by
    obtain ⟨s, e1, w1⟩ := owns_some h1
    obtain ⟨s0, f, rfl, hj⟩ := pars_at e1 w1
    obtain ⟨xs, rfl⟩ := par_of w1
    obtain ⟨⟨ys, g1⟩, v, g2, g3⟩ := parσ j xs f hj
    obtain ⟨v', k1, k2⟩ := map_some_at h2
    rw [g2] at k1; cases k1; cases k2
    exact ⟨⟨j, by rw [f]; rfl, g3⟩, ⟨j, by rw [g1]; rfl, h2⟩⟩
  refine ⟨⟨p.rel.ex, ?_, fun j s o h1 h2 => ?_, fun j j' l ne h1 h2 h3 h4 => ?_⟩, p.base, fun a h h' => ?_, p.dom, fun a o h w nl => ?_, fun a h => .inl (own1 a h).2, fun a ⟨j, h1, h2⟩ => ?_, fun j xs h => ?_⟩
  · rw [pars_len, List.length_map]; exact hv.symm
  · rcases pars_kind h1 with rfl | ⟨xs, rfl⟩
    · trivial
    · obtain ⟨s0, f, e, hj⟩ := pars_at h1 rfl
      cases s0 with
      | par ys =>
        cases e
        obtain ⟨_, v, g2, g3⟩ := parσ j xs f hj
        obtain ⟨v', k1, k2⟩ := map_some_at h2
        rw [g2] at k1; cases k1; subst k2
        exact p.rel.ok j _ _ f g3
      | _ => cases e
  · obtain ⟨s1, e1, w1⟩ := owns_some h1
    obtain ⟨s2, e2, w2⟩ := owns_some h2
    obtain ⟨t1, f1, rfl, hj⟩ := pars_at e1 w1
    obtain ⟨t2, f2, rfl, hj'⟩ := pars_at e2 w2
    obtain ⟨xs, rfl⟩ := par_of w1
    obtain ⟨ys, rfl⟩ := par_of w2
    obtain ⟨_, v, g2, g3⟩ := parσ j xs f1 hj
    obtain ⟨_, v2, g4, g5⟩ := parσ j' ys f2 hj'
    obtain ⟨u, k1, k2⟩ := map_some_at h3
    obtain ⟨u2, k3, k4⟩ := map_some_at h4
    rw [g2] at k1; cases k1; cases k2
    rw [g4] at k3; cases k3; cases k4
    exact p.rel.sep j j' l ne (by rw [f1]; rfl) (by rw [f2]; rfl) g3 g5
  · rcases p.fresh a h h' with z | z
    · exact .inl z
    · exact .inr (ownF_start z)
  · exact p.keep a o h (fun z => w (own_start z)) nl
  · obtain ⟨s1, e1, w1⟩ := ownsF_some h1
    rcases pars_kind e1 with rfl | ⟨xs, rfl⟩ <;> simp [ownsF] at w1
  · obtain ⟨s0, f, e, hj⟩ := pars_at h rfl
    cases s0 with
    | par ys => exact ⟨(parσ j ys f hj).1, rfl⟩
    | _ => cases e
theorem own_outM {a : Addr} (hv : vs.length = n) (p : PostM L K B H (as ++ List.replicate (N.length - as.length) .un) (L2.start N vs) B1 H1 env1 σ1) (h : Own (pars n env1) (vs.map some) a) : Own env1 σ1 a := by
  obtain ⟨j, h1, h2⟩ := h
  obtain ⟨s, e1, w1⟩ := owns_some h1
  obtain ⟨s0, f, rfl, hj⟩ := pars_at e1 w1
  obtain ⟨xs, rfl⟩ := par_of w1
  obtain ⟨_, g⟩ := p.par j xs f
  obtain ⟨v, k1, k2⟩ := map_some_at h2
  cases k2
  refine ⟨j, by rw [f]; rfl, ?_⟩
  rw [g, start_at, if_pos (by omega), k1]; rfl
end
/-- a promise of a def that changes lists inside values -/
def spDM (L : D → Prop) (K : Fr) (mg : Str → Option Value) (sp : PD.Sp) : L2.Sp := fun vs H Q E => ∃ (B : Hp) (as : List Sl) (R : Ret → List Sl → Prop) (Ex : EK), (∀ s ∈ as, ∀ xs, s ≠ .own xs) ∧ (∀ s ∈ as, ∀ xs, s ≠ .tab xs) ∧ Rel K B H as (vs.map some) ∧ sp as R Ex ∧
  (∀ r as' v B' H', R r as' → PostM L K B H as (vs.map some) B' H' as' (vs.map some) → RetOk K B' H' as' (vs.map some) r v → New H as (vs.map some) r v → Q v H') ∧ (∀ x as', ¬ Ex x as')
/-- a promise to a caller that has no list yet -/
def spDN (K : Fr) (mg : Str → Option Value) (sp : PD.Sp) : L2.Sp := fun vs H Q E => ∃ (B : Hp) (as : List Sl) (R : Ret → List Sl → Prop) (Ex : EK), NoLst B ∧ (∀ s ∈ as, ∀ xs, s ≠ .own xs) ∧ (∀ s ∈ as, ∀ xs, s ≠ .tab xs) ∧ Rel K B H as (vs.map some) ∧ sp as R Ex ∧
  (∀ r as' v B' H', R r as' → Post K B H as (vs.map some) B' H' as' (vs.map some) → RetOk K B' H' as' (vs.map some) r v → New H as (vs.map some) r v → Q v H') ∧ (∀ x as', ¬ Ex x as')
theorem spDM_len {L : D → Prop} {K : Fr} {mg : Str → Option Value} {sp : PD.Sp} {ps : List Str} (h : Ary sp ps.length) : ∀ vs H Q E, spDM L K mg sp vs H Q E → vs.length = ps.length := by
  rintro vs H Q E ⟨B, as, R, Ex, _, _, rel, hsp, _⟩
  have hl := h _ _ _ hsp
  have := rel.len
  rw [List.length_map] at this
  omega
theorem spDN_len {K : Fr} {mg : Str → Option Value} {sp : PD.Sp} {ps : List Str} (h : Ary sp ps.length) : ∀ vs H Q E, spDN K mg sp vs H Q E → vs.length = ps.length := by
  rintro vs H Q E ⟨B, as, R, Ex, _, _, _, rel, hsp, _⟩
  have hl := h _ _ _ hsp
  have := rel.len
  rw [List.length_map] at this
  omega
theorem fnG_bodyM {L : D → Prop} {P : Program} {w : World} {K : Fr} {mg : Str → Option Value} {base : Heap} {k n : Nat} {f : Addr} {fd : FuncData} {x qual : Str} {params : Arguments} {body : List Stmt} {scope : Scope} {dvs : List V} {kws : List (Str × V)} {N ps : List Str} {sp : PD.Sp} {t : PD.TS}
    (F : FunD K x qual params body scope dvs kws f fd) (S : FnScope N ps scope) (hn : n = ps.length) (ha : Ary sp n)
    (hbody : ∀ (cdv : Value) (A : Around) (outer : List PySem.Env) (s : Shared) (H : Hp) (E : XK), RoomG k (bx P w K mg base N qual scope f cdv A outer s H E).A → PassesOwn (model P w) (bx P w K mg base N qual scope f cdv A outer s H E).A (bx P w K mg base N qual scope f cdv A outer s H E).env (bx P w K mg base N qual scope f cdv A outer s H E).xe → Takes (bx P w K mg base N qual scope f cdv A outer s H E) (wx E) →
      PSsM L (bx P w K mg base N qual scope f cdv A outer s H E) (wx E) body t)
    (hm : Meets n N.length sp t) : FnG P w K mg base (k + 1) f fd ps (spDM L K mg sp) := by
  refine fnG_of F S (spDM_len (hn ▸ ha)) fun cdv A outer s H vs Q E hr ⟨B, as, R, Ex, no1, no2, rel, hsp, hR, hE⟩ => ?_
  have hl := ha _ _ _ hsp
  have hvl : vs.length = n := by have := rel.len; rw [List.length_map] at this; omega
  have hpl : ps.length ≤ N.length := by have := congrArg List.length S.pre; rw [List.length_take] at this; omega
  have hnN : n ≤ N.length := by omega
  refine ⟨_, hbody cdv A outer s H E hr (passes_of rfl) (takes_of rfl rfl rfl rfl), ?_⟩
  have m := hm as R Ex hl hsp
  rw [show N.length - n = N.length - as.length by omega] at m
  refine ⟨B, _, _, rel.start (by omega), m, ⟨fun env' σ' B' H' h p => ?_, fun _ _ _ _ h => h.elim, fun _ _ _ _ h => h.elim, fun r env' v σ' B' H' h p ro nw => ?_, fun x env' σ' cls dd B' H' h p _ => (hE _ _ h).elim⟩⟩
  · exact hR _ _ _ _ _ h (p.out hl hvl hnN) .non trivial
  · have no : ∀ a, ¬ Own env' σ' a → ¬ Own (pars n env') (vs.map some) a := fun a h z => h (own_outM hvl p z)
    refine hR _ _ _ _ _ h (p.out hl hvl hnN) ?_ ?_
    · cases r with
      | d x => exact ro
      | own xs => obtain ⟨l, e, h1, h2⟩ := ro; exact ⟨l, e, h1, no l h2⟩
      | tab xs => obtain ⟨l, e, h1, h2⟩ := ro; exact ⟨l, e, h1, no l h2⟩
    · cases r with
      | d x => trivial
      | own xs =>
        intro l e
        rcases nw l e with z | z
        · exact .inl z
        · exact .inr (ownF_start z)
      | tab xs =>
        intro l e
        rcases nw l e with z | z
        · exact .inl z
        · exact .inr (ownF_start z)
theorem fnG_bodyN {L : D → Prop} {P : Program} {w : World} {K : Fr} {mg : Str → Option Value} {base : Heap} {k n : Nat} {f : Addr} {fd : FuncData} {x qual : Str} {params : Arguments} {body : List Stmt} {scope : Scope} {dvs : List V} {kws : List (Str × V)} {N ps : List Str} {sp : PD.Sp} {t : PD.TS}
    (F : FunD K x qual params body scope dvs kws f fd) (S : FnScope N ps scope) (hn : n = ps.length) (ha : Ary sp n)
    (hbody : ∀ (cdv : Value) (A : Around) (outer : List PySem.Env) (s : Shared) (H : Hp) (E : XK), RoomG k (bx P w K mg base N qual scope f cdv A outer s H E).A → PassesOwn (model P w) (bx P w K mg base N qual scope f cdv A outer s H E).A (bx P w K mg base N qual scope f cdv A outer s H E).env (bx P w K mg base N qual scope f cdv A outer s H E).xe → Takes (bx P w K mg base N qual scope f cdv A outer s H E) (wx E) →
      PSsM L (bx P w K mg base N qual scope f cdv A outer s H E) (wx E) body t)
    (hm : Meets n N.length sp t) : FnG P w K mg base (k + 1) f fd ps (spDN K mg sp) :=
  have h := fnG_bodyM F S hn ha hbody hm
  ⟨spDN_len (hn ▸ ha), fun A outer s H args us vs Q E hr he hb hv ⟨B, as, R, Ex, nl, a1, a2, a3, a4, a5, a6⟩ => h.run A outer s H args us vs Q E hr he hb hv ⟨B, as, R, Ex, a1, a2, a3, a4, fun r as' v B' H' q p => a5 r as' v B' H' q (p.post nl), a6⟩⟩
end PD
end PM2_
section PM3_
set_option Elab.async false
set_option linter.all false
set_option maxRecDepth 100000
set_option maxHeartbeats 2000000
/-! PM3: calls of defs that change lists inside values; a law's end where lists change so. -/
namespace PD
open PySem PySem.Spec PyProof.Rows L2
def sCallM (L : PyData → Prop) (sp : PD.Sp) (i i2 : Nat) (ds : List PyData) (ts : PD.TA) : PD.TS := fun D env => IsOwn i env ∧ IsOwn i2 env ∧ ts D.ex env fun xs e1 => ∃ s ys t zs, e1[i]? = some s ∧ ownOf s = some ys ∧ e1[i2]? = some t ∧ ownOf t = some zs ∧
  sp (.par ys :: .par zs :: (xs ++ ds).map .d) (fun _ as => ∃ y2 z2, as[0]? = some (.par y2) ∧ as[1]? = some (.par z2) ∧ ∀ env', HvE L ((e1.set i .un).set i2 .un) env' → D.nx ((env'.set i (s.put y2)).set i2 (t.put z2))) (fun _ _ => False)
section
variable {L : PyData → Prop} {K : Fr} {B H B1 H1 B2 H2 : Hp} {env env1 env' : Env} {σ : St}
theorem Rel.un (R : Rel K B H env σ) (i : Nat) : Rel K B H (env.set i .un) σ := (Post.giveUp R i).rel
theorem own_un {i : Nat} {a : Addr} (h : Own (env.set i .un) σ a) : ∃ j, j ≠ i ∧ owns env[j]? = true ∧ σ[j]? = some (some (.ref a)) := by
  obtain ⟨j, h1, h2⟩ := h
  obtain ⟨s, e, w⟩ := owns_some h1
  rcases set_at e with ⟨_, rfl, _⟩ | ⟨ne, e⟩
  · cases w
  · exact ⟨j, fun z => ne z.symm, by rw [e]; exact w, h2⟩
theorem Rel.putL {i : Nat} {s : Sl} {zs xs : List PyData} {l : Addr} {us : List V} (R : Rel K B H env σ) (ho : ownOf s = some xs) (hσ : σ[i]? = some (some (.ref l))) (hb : B l = none) (hl : H l = some (.lst us)) (rr : RpA K B us zs) (no : ∀ j, j ≠ i → owns env[j]? = true → σ[j]? = some (some (.ref l)) → False) :
    Rel K B H (env.set i (s.put zs)) σ := by
  refine ⟨R.ex, by rw [List.length_set]; exact R.len, fun j t o h1 h2 => ?_, fun j j' l' ne h1 h2 h3 h4 => ?_⟩
  · rcases set_at h1 with ⟨rfl, rfl, _⟩ | ⟨_, h1⟩
    · rw [hσ] at h2; cases h2
      cases s with
      | own _ => exact ⟨l, rfl, hb, us, hl, rr⟩
      | par _ => exact ⟨l, rfl, hb, us, hl, rr⟩
      | un => cases ho
      | d _ => cases ho
      | tab _ => cases ho
    · exact R.ok j t o h1 h2
  · obtain ⟨s1, e1, w1⟩ := owns_some h1
    obtain ⟨s2, e2, w2⟩ := owns_some h2
    rcases set_at e1 with ⟨rfl, _, _⟩ | ⟨n1, e1⟩
    · rw [hσ] at h3; cases h3
      rcases set_at e2 with ⟨z, _, _⟩ | ⟨n2, e2⟩
      · exact ne z
      · exact no j' (fun z => n2 z.symm) (by rw [e2]; exact w2) h4
    · rcases set_at e2 with ⟨rfl, _, _⟩ | ⟨n2, e2⟩
      · rw [hσ] at h4; cases h4
        exact no j (fun z => n1 z.symm) (by rw [e1]; exact w1) h3
      · exact R.sep j j' l' ne (by rw [e1]; exact w1) (by rw [e2]; exact w2) h3 h4
end
section
variable {L : PyData → Prop} {X : Cx} {W : WX} {k n : Nat} {f : Addr} {fd : FuncData} {ps ks : List Str} {sp : PD.Sp} {lsp : L2.Sp} {dvs : List V} {ds : List Value} {dds : List PyData} {x : Str} {p q pos pos2 : Pos} {e : Expr} {es : List Expr} {ta : PD.TA}
theorem sm_callPP {o o2 : Expr} {i i2 : Nat} (hne : i ≠ i2) (F : FnG X.prog X.w X.K X.mg X.base k f fd ps (spDM L X.K X.mg sp)) (hr : RoomG k X.A) (tk : Takes X W) (hg : Gl X x) (hm : X.mg x = some (.ref f)) (hk : PySem.W.keepIn X.K (.ref f) = true) (hb : Binds X.K fd ps ds) (hd : Vals dvs ds) (hdd : ∀ B, RpA X.K B dvs dds)
    (ho : PE X o (tVar i)) (ho2 : PE X o2 (tVar i2)) (ha : PAd X W es ta) (hdb : (x == ("__debug__" : Str)) = false := by decide) (he2 : starEach (o2 :: es) X.env = (false, eval o2 X.env) :: starEach es X.env := by rfl) (he : starEach (o :: o2 :: es) X.env = (false, eval o X.env) :: starEach (o2 :: es) X.env := by rfl) (hpl : (backTo pos (starEach (o2 :: es) X.env)).any (·.1) = false := by rfl)
    (hs : swapsWith (.Call (.Name x p) (o :: o2 :: es) [] pos) none pos2.line X.env = pure false := by rfl) :
    PSM L X W (.Expr (.Call (.Name x p) (o :: o2 :: es) [] pos) pos2) (sCallM L sp i i2 dds ta) := ps_imp (ps_expr (pe_callG F hr tk hg hm hk hb hd (pa_cons ho (pa_cons ho2 ha he2) he) hdb he hpl) hs) fun D σ H ⟨B, env, E, R, ⟨⟨s0, xs0, hs0, ho0⟩, ⟨t0, ys0, ht0, hq0⟩, t⟩, g⟩ => by
  obtain ⟨l, vs0, el, hl, _⟩ := R.own_at hs0 ho0
  obtain ⟨m, ws0, em, hm', _⟩ := R.own_at ht0 hq0
  refine ⟨.ref l, el, .ref m, em, ⟨B, env, E.ex, _, R, t, g.good, fun xs e1 vs B1 H1 ⟨s, ys, s2, ys2, hs, hy, hs2, hy2, p⟩ q rv => ?_⟩⟩
  have rv2 := rv.append (hdd B1)
  obtain ⟨l', vs1, el', hl1, rr1⟩ := q.rel.own_at hs hy
  rw [el] at el'; cases el'
  obtain ⟨m', vs2, em', hm1, rr2⟩ := q.rel.own_at hs2 hy2
  rw [em] at em'; cases em'
  have own_l : Own e1 σ l := ⟨i, by rw [hs]; exact owns_of hy, el⟩
  have own_m : Own e1 σ m := ⟨i2, by rw [hs2]; exact owns_of hy2, em⟩
  have hlm : l ≠ m := fun z => q.rel.sep i i2 l hne (by rw [hs]; exact owns_of hy) (by rw [hs2]; exact owns_of hy2) el (by rw [em, z])
  have b1 := (q.rel.obj own_l).1
  have b2 := (q.rel.obj own_m).1
  generalize hxs : xs ++ dds = zs at p rv2
  generalize hvs : vs ++ dvs = us at rv2
  have e2 : (V.ref l :: V.ref m :: vs) ++ dvs = V.ref l :: V.ref m :: us := by rw [← hvs]; rfl
  show spDM L X.K X.mg sp ((V.ref l :: V.ref m :: vs) ++ dvs) H1 _ (WE W σ)
  rw [e2]
  have at_ : ∀ j s', (Sl.par ys :: Sl.par ys2 :: zs.map Sl.d)[j]? = some s' → owns (some s') = true → j = 0 ∨ j = 1 := fun j s' h w => by
    cases j with
    | zero => exact .inl rfl
    | succ j => cases j with
      | zero => exact .inr rfl
      | succ j =>
        rw [List.getElem?_cons_succ, List.getElem?_cons_succ, List.getElem?_map] at h
        cases z : zs[j]? <;> rw [z] at h <;> cases h
        cases w
  have rel2 : Rel X.K B1 H1 (Sl.par ys :: Sl.par ys2 :: zs.map Sl.d) ((V.ref l :: V.ref m :: us).map some) := by
    refine ⟨q.rel.ex, by simp [rv2.length], fun j s' o h1 h2 => ?_, fun j j' l' ne h1 h2 h3 h4 => ?_⟩
    · cases j with
      | zero => simp at h1 h2; subst h1 h2; exact ⟨l, rfl, b1, vs1, hl1, rr1⟩
      | succ j => cases j with
        | zero => simp at h1 h2; subst h1 h2; exact ⟨m, rfl, b2, vs2, hm1, rr2⟩
        | succ j => exact (rv2.rel q.rel).ok j s' o (by simpa using h1) (by simpa using h2)
    · obtain ⟨s1, f1, w1⟩ := owns_some h1
      obtain ⟨s2, f2, w2⟩ := owns_some h2
      rcases at_ j s1 f1 w1 with rfl | rfl <;> rcases at_ j' s2 f2 w2 with rfl | rfl
      · exact ne rfl
      · simp at h3 h4; exact hlm (h3.trans h4.symm)
      · simp at h3 h4; exact hlm (h4.trans h3.symm)
      · exact ne rfl
  have own1 : ∀ a, Own (Sl.par ys :: Sl.par ys2 :: zs.map Sl.d) ((V.ref l :: V.ref m :: us).map some) a → a = l ∨ a = m := fun a ⟨j, h1, h2⟩ => by
    obtain ⟨s1, f1, w1⟩ := owns_some h1
    rcases at_ j s1 f1 w1 with rfl | rfl
    · simp at h2; exact .inl h2.symm
    · simp at h2; exact .inr h2.symm
  have own2 : ∀ a, ¬ OwnF (Sl.par ys :: Sl.par ys2 :: zs.map Sl.d) ((V.ref l :: V.ref m :: us).map some) a := fun a ⟨j, h1, h2⟩ => by
    obtain ⟨s1, f1, w1⟩ := ownsF_some h1
    have w2 : owns (some s1) = true := by cases s1 <;> simp_all [owns, ownsF]
    rcases at_ j s1 f1 w2 with rfl | rfl
    · simp at f1; subst f1; cases w1
    · simp at f1; subst f1; cases w1
  refine ⟨B1, _, _, _, fun s' hs' ws e => ?_, fun s' hs' ws e => ?_, rel2, p, fun r as' v B2 H2 ⟨ws, ws2, hh, hh2, p2⟩ q2 ro nw => ?_, fun _ _ z => z⟩
  · subst e
    rcases List.mem_cons.mp hs' with z | z
    · cases z
    · rcases List.mem_cons.mp z with z | z
      · cases z
      · obtain ⟨_, _, z⟩ := List.mem_map.mp z; cases z
  · subst e
    rcases List.mem_cons.mp hs' with z | z
    · cases z
    · rcases List.mem_cons.mp z with z | z
      · cases z
      · obtain ⟨_, _, z⟩ := List.mem_map.mp z; cases z
  · obtain ⟨l2, e3, c1, u1, c2, c3⟩ := q2.rel.ok 0 _ (some (V.ref l)) hh (by simp)
    cases e3
    obtain ⟨m2, e3, d1, u2, d2, d3⟩ := q2.rel.ok 1 _ (some (V.ref m)) hh2 (by simp)
    cases e3
    -- the other own objects stay
    have other : ∀ a, B1 a = none → H1 a ≠ none → a ≠ l → a ≠ m → B2 a = none ∧ H2 a = H1 a := fun a hb hn n1 n2 => by
      refine ⟨?_, ?_⟩
      · cases z : B2 a with
        | none => rfl
        | some u => exact absurd ((q2.fresh a hb (by rw [z]; simp)).resolve_right (own2 a)) hn
      · obtain ⟨u, hu⟩ := Option.ne_none_iff_exists'.mp hn
        rw [hu]
        exact q2.keep a u hu (fun z => (own1 a z).elim n1 n2) fun vs z => by rw [hb] at z; cases z
    have unU : ∀ a, Own ((e1.set i .un).set i2 .un) σ a → Own e1 σ a ∧ a ≠ l ∧ a ≠ m := fun a ha => by
      obtain ⟨j, hj, h1, h2⟩ := own_un ha
      obtain ⟨s1, f1, w1⟩ := owns_some h1
      rcases set_at f1 with ⟨_, rfl, _⟩ | ⟨ni, f1⟩
      · cases w1
      · refine ⟨⟨j, by rw [f1]; exact w1, h2⟩, fun z => ?_, fun z => ?_⟩
        · exact q.rel.sep i j l ni (by rw [hs]; exact owns_of hy) (by rw [f1]; exact w1) el (by rw [h2, z])
        · exact q.rel.sep i2 j m (fun z => hj z.symm) (by rw [hs2]; exact owns_of hy2) (by rw [f1]; exact w1) em (by rw [h2, z])
    obtain ⟨env', hE, R'⟩ := ((q.rel.un i).un i2).hv q2.base q2.rel.ex fun a ha => by
      obtain ⟨o1, n1, n2⟩ := unU a ha
      obtain ⟨hb, hn⟩ := q.rel.obj o1
      exact other a hb hn n1 n2
    have ownE : ∀ (j : Nat) a, owns env'[j]? = true → σ[j]? = some (some (.ref a)) → Own e1 σ a ∧ a ≠ l ∧ a ≠ m := fun j a h1 h2 => unU a (hE.own ⟨j, h1, h2⟩)
    have R1 := R'.putL (i := i) (s := s) (zs := ws) hy el c1 c2 c3 fun j _ h1 h2 => (ownE j l h1 h2).2.1 rfl
    have R2 := R1.putL (i := i2) (s := s2) (zs := ws2) hy2 em d1 d2 d3 fun j hj h1 h2 => by
      obtain ⟨s1, f1, w1⟩ := owns_some h1
      rcases set_at f1 with ⟨rfl, _, _⟩ | ⟨_, f1⟩
      · rw [el] at h2; cases h2; exact hlm rfl
      · exact (ownE j m (by rw [f1]; exact w1) h2).2.2 rfl
    have up : ∀ (j : Nat) s', ((env'.set i (s.put ws)).set i2 (s2.put ws2))[j]? = some s' → (j = i ∧ s' = s.put ws) ∨ (j = i2 ∧ s' = s2.put ws2) ∨ ∃ s0, e1[j]? = some s0 ∧ HvS L s0 s' ∨ s' = .un := fun j s' h => by
      rcases set_at h with ⟨rfl, rfl, _⟩ | ⟨n2, h⟩
      · exact .inr (.inl ⟨rfl, rfl⟩)
      · rcases set_at h with ⟨rfl, rfl, _⟩ | ⟨n1, h⟩
        · exact .inl ⟨rfl, rfl⟩
        · obtain ⟨s0, f0, h0⟩ := hE.at' h
          rcases set_at f0 with ⟨_, rfl, _⟩ | ⟨_, f0⟩
          · cases h0; exact .inr (.inr ⟨.un, .inr rfl⟩)
          · rcases set_at f0 with ⟨_, rfl, _⟩ | ⟨_, f0⟩
            · cases h0; exact .inr (.inr ⟨.un, .inr rfl⟩)
            · exact .inr (.inr ⟨s0, .inl ⟨f0, h0⟩⟩)
    have pm : PostM L X.K B1 H1 e1 σ B2 H2 ((env'.set i (s.put ws)).set i2 (s2.put ws2)) σ := by
      refine ⟨R2, q2.base, fun a h h' => .inl ((q2.fresh a h h').resolve_right (own2 a)), q2.dom, fun a o h hn nl => q2.keep a o h (fun z => ?_) nl, fun a ⟨j, h1, h2⟩ => .inl ?_, fun a ⟨j, h1, h2⟩ => .inl ?_, fun j xs' h => ?_⟩
      · rcases own1 a z with rfl | rfl
        · exact hn own_l
        · exact hn own_m
      · obtain ⟨s1, f1, w1⟩ := owns_some h1
        rcases up j s1 f1 with ⟨rfl, _⟩ | ⟨rfl, _⟩ | ⟨s0, ⟨f0, h0⟩ | rfl⟩
        · rw [el] at h2; cases h2; exact own_l
        · rw [em] at h2; cases h2; exact own_m
        · exact ⟨j, by rw [f0, ← h0.owns.1]; exact w1, h2⟩
        · cases w1
      · obtain ⟨s1, f1, w1⟩ := ownsF_some h1
        rcases up j s1 f1 with ⟨rfl, rfl⟩ | ⟨rfl, rfl⟩ | ⟨s0, ⟨f0, h0⟩ | rfl⟩
        · exact ⟨_, by rw [hs]; rw [ownsF_put] at w1; exact w1, h2⟩
        · exact ⟨_, by rw [hs2]; rw [ownsF_put] at w1; exact w1, h2⟩
        · exact ⟨j, by rw [f0, ← h0.owns.2]; exact w1, h2⟩
        · cases w1
      · rcases up j _ h with ⟨rfl, e⟩ | ⟨rfl, e⟩ | ⟨s0, ⟨f0, h0⟩ | e⟩
        · cases s with
          | par zs => exact ⟨⟨zs, hs⟩, rfl⟩
          | own _ => cases e
          | un => cases hy
          | d _ => cases hy
          | tab _ => cases hy
        · cases s2 with
          | par zs => exact ⟨⟨zs, hs2⟩, rfl⟩
          | own _ => cases e
          | un => cases hy2
          | d _ => cases hy2
          | tab _ => cases hy2
        · cases h0 with
          | par _ => exact ⟨⟨_, f0⟩, rfl⟩
        · cases e
    exact g.nx _ _ _ _ (p2 env' hE) ((PostM.of q).trans pm)
/-- a def that may be called by its name and changes lists inside values -/
structure CalM (L : PyData → Prop) (P : Program) (w : World) (K : Fr) (mg : Str → Option Value) (base : Heap) (k : Nat) (x : Str) (dds : List PyData) (sp : PD.Sp) : Prop where
  ex : ∃ (f : Addr) (fd : FuncData) (ps : List Str) (dvs : List V) (ds : List Value), mg x = some (.ref f) ∧ PySem.W.keepIn K (.ref f) = true ∧ Binds K fd ps ds ∧ Vals dvs ds ∧ (∀ B, RpA K B dvs dds) ∧ FnG P w K mg base k f fd ps (spDM L K mg sp)
theorem CalM.mono {P : Program} {w : World} {K : Fr} {mg : Str → Option Value} {base : Heap} {j k : Nat} {x : Str} {dds : List PyData} {sp : PD.Sp} (C : CalM L P w K mg base j x dds sp) (h : j ≤ k) : CalM L P w K mg base k x dds sp := by
  obtain ⟨f, fd, ps, dvs, ds, h1, h2, h3, h4, h5, F⟩ := C.ex
  exact ⟨f, fd, ps, dvs, ds, h1, h2, h3, h4, h5, F.mono h⟩
theorem calM_of {P : Program} {w : World} {K : Fr} {mg : Str → Option Value} {base : Heap} {k : Nat} {f : Addr} {fd : FuncData} {x : Str} {ps : List Str} {dvs : List V} {ds : List Value} {dds : List PyData} {sp : PD.Sp} (h1 : mg x = some (.ref f)) (h2 : PySem.W.keepIn K (.ref f) = true) (h3 : Binds K fd ps ds) (h4 : Vals dvs ds) (h5 : ∀ B, RpA K B dvs dds)
    (F : FnG P w K mg base k f fd ps (spDM L K mg sp)) : CalM L P w K mg base k x dds sp := ⟨f, fd, ps, dvs, ds, h1, h2, h3, h4, h5, F⟩
theorem smPP {y y2 : Str} {q q2 : Pos} (i i2 : Nat) (hne : i ≠ i2) (C : CalM L X.prog X.w X.K X.mg X.base k x dds sp) (hr : RoomG k X.A) (tk : Takes X W) (ha : PAd X W es ta) (hN : X.N[i]? = some y := by rfl) (hN2 : X.N[i2]? = some y2 := by rfl)
    (hv : Vis X.env.scope y := by first | exact Or.inl rfl | exact Or.inr (Or.inl rfl) | exact Or.inr (Or.inr rfl)) (hv2 : Vis X.env.scope y2 := by first | exact Or.inl rfl | exact Or.inr (Or.inl rfl) | exact Or.inr (Or.inr rfl)) (hd : (y == ("__debug__" : Str)) = false := by decide) (hd2 : (y2 == ("__debug__" : Str)) = false := by decide)
    (hcd : (y == ("__classdict__" : Str)) = false := by decide) (hcd2 : (y2 == ("__classdict__" : Str)) = false := by decide) (hg : Gl X x := by rfl) (hdb : (x == ("__debug__" : Str)) = false := by decide)
    (he2 : starEach (.Name y2 q2 :: es) X.env = (false, eval (.Name y2 q2) X.env) :: starEach es X.env := by rfl) (he : starEach (.Name y q :: .Name y2 q2 :: es) X.env = (false, eval (.Name y q) X.env) :: starEach (.Name y2 q2 :: es) X.env := by rfl) (hpl : (backTo pos (starEach (.Name y2 q2 :: es) X.env)).any (·.1) = false := by rfl)
    (hs : swapsWith (.Call (.Name x p) (.Name y q :: .Name y2 q2 :: es) [] pos) none pos2.line X.env = pure false := by rfl) : PSM L X W (.Expr (.Call (.Name x p) (.Name y q :: .Name y2 q2 :: es) [] pos) pos2) (sCallM L sp i i2 dds ta) := by
  obtain ⟨f, fd, ps, dvs, ds, h1, h2, h3, h4, h5, F⟩ := C.ex
  exact sm_callPP hne F hr tk hg h1 h2 h3 h4 h5 (pe_var hN hv hd hcd) (pe_var hN2 hv2 hd2 hcd2) ha hdb he2 he hpl hs
theorem smut {y : Str} {q p2 : Pos} {ix e : Expr} {te tk : TR} (i : Nat) (he : PR X W e te) (hk : PR X W ix tk) (hN : X.N[i]? = some y := by rfl) (hv : Vis X.env.scope y := by first | exact Or.inl rfl | exact Or.inr (Or.inl rfl) | exact Or.inr (Or.inr rfl)) (hd : (y == ("__debug__" : Str)) = false := by decide)
    (hcd : (y == ("__classdict__" : Str)) = false := by decide)
    (ha : ∀ v, assign (.Subscript (.Name y q) ix p2) X.env v = (do
      let ov ← holding [v] (eval (.Name y q) X.env)
      let iv ← holding [v, ov] (eval ix X.env)
      standAt p2
      holding [v, ov, iv] (setItem ov iv v)
      release [v, ov, iv] []) := by intro _; rfl)
    (hs : swapsWithSole [.Subscript (.Name y q) ix p2] e pos.line X.env = pure false := by rfl) (hw : swappedStores [.Subscript (.Name y q) ix p2] e X.env = pure none := by rfl)
    (h1 : (assignEach [.Subscript (.Name y q) ix p2] X.env).map (·.2) = [assign (.Subscript (.Name y q) ix p2) X.env] := by rfl) : PSM L X W (.Assign [.Subscript (.Name y q) ix p2] e pos) (sMut L i te tk) :=
  sm_mut (pe_var hN hv hd hcd) he hk ha hs hw h1
end
/-! ### a law's end -/
theorem lawG_callN {P : Program} {w : World} {K : Fr} {mg mb : Str → Option Value} {k : Nat} {fa a : Addr} {fd : FuncData} {x : Str} {s₁ : Shared} {vs : List Value} {ns : List Int} {sp : PD.Sp}
    (KX : K.In s₁.heap) (hns : s₁.heap.Ns mainGlobals mg) (hb : s₁.heap.Ns builtinsNs mb) (hbb : ∀ x : Str, x ≠ "__name__" → mb x = bootBuiltins x) (hlim : s₁.heap.NoLimit) (hg : s₁.gens = #[])
    (ha : s₁.heap.get? a = some { cls := .type "list", data := .seq vs.toArray }) (hi : IntsAre vs ns) (hl : ns.length ≤ sizeLine) (hr : RoomG k callerA)
    (F : ∀ base : Heap, K.In base → base.Ns mainGlobals mg → FnG P w K mg base k fa fd [x] (spDN K mg sp)) (hbind : ∀ (s : Shared) (u : Value), BindsTo s fd ⟨[u], []⟩ [(x, u)])
    (hsp : sp [.d (scrD ns)] (fun r _ => r = .d (.bool true)) fun _ _ => False) :
    codeAny (model P w) callerA (.call (.ref fa) ⟨[.ref a], []⟩) (fun r s' => r = .ok (.ret (.bool true)) ∧ OldK s₁.heap s'.heap ∧ s'.os = s₁.os ∧ AllBare s'.gens) s₁ := by
  have rv := L2.vals_ints hi
  have lenV := hi.length
  obtain ⟨H, hO, hS, hok, only, apart⟩ : ∃ H : Hp, (∀ b, H b = none ∨ ∃ o xs, H b = some (.frz o (.lst xs))) ∧ SqL K H a (ns.map V.int) ∧ HOk P w H s₁.heap ∧ (∀ b, H b ≠ none → b = a) ∧ (H a ≠ none → K.lookup a = none) := by
    cases hk : K.lookup a with
    | some o =>
      have e := KX a o hk
      rw [ha] at e
      cases e
      exact ⟨fun _ => none, fun _ => .inl rfl, .inr ⟨_, vs.toArray, _, hk, rfl, rfl, rfl, by rw [List.size_toArray, lenV]; exact hl, by simpa using rv⟩, fun b u z => (nomatch (show (none : Option HO) = some u from z)), fun b z => (z rfl).elim, fun z => (z rfl).elim⟩
    | none =>
      have at_ : ∀ b u, (if b = a then some (HO.frz { cls := .type "list", data := .seq vs.toArray } (.lst (ns.map V.int))) else none) = some u → b = a ∧ u = .frz { cls := .type "list", data := .seq vs.toArray } (.lst (ns.map V.int)) := fun b u z => by
        split at z
        · cases z; exact ⟨by assumption, rfl⟩
        · cases z
      refine ⟨fun b => if b = a then some (.frz { cls := .type "list", data := .seq vs.toArray } (.lst (ns.map V.int))) else none, fun b => ?_, .inl (.inr ⟨_, if_pos rfl⟩), fun b u z => ?_, fun b z => ?_, fun _ => rfl⟩
      · by_cases h : b = a
        · exact .inr ⟨_, _, if_pos h⟩
        · exact .inl (if_neg h)
      · obtain ⟨rfl, rfl⟩ := at_ b u z
        exact ⟨ha, by rw [List.length_map]; exact hl, vs, _, rv, ha⟩
      · obtain ⟨u, hu⟩ := Option.ne_none_iff_exists'.mp z
        exact (at_ b u hu).1
  have free : ∀ {b : Addr} {o : Obj}, s₁.heap.get? b = some o → (∀ its m, o.data ≠ .seq its m) → H b = none := fun {b o} e d => by
    cases q : H b with
    | none => rfl
    | some u =>
      obtain rfl := only b (by rw [q]; simp)
      rw [ha] at e; cases e
      exact absurd rfl (d _ _)
  have nsK : ∀ {b : Addr} {m : Str → Option Value}, s₁.heap.Ns b m → (hidT s₁.heap H).Ns b m := fun {b m} ⟨o, es, ep, e, d, r⟩ => ⟨o, es, ep, hidT_get e (free e fun its m z => by rw [d] at z; cases z), d, r⟩
  have kin : K.In (hidT s₁.heap H) := fun b o e => hidT_get (KX b o e) (by
    cases q : H b with
    | none => rfl
    | some u =>
      obtain rfl := only b (by rw [q]; simp)
      rw [apart (by rw [q]; simp)] at e; cases e)
  have md : Mod K mg (hidT s₁.heap H) := ⟨kin, nsK hns, ⟨mb, nsK hb, hbb⟩, let ⟨mc, h1, h2⟩ := hlim; ⟨mc, nsK h1, h2⟩⟩
  have e0 : Env0 P w K mg (hidT s₁.heap H) callerA [] s₁ H := ⟨rfl, md, fun b o e => of_hidT e, Nat.le_of_eq (hidT_size _ _), trivial, fun b hb => absurd (show b ∈ ([] : List Addr) from hb) (by simp), hok, .of_eq hg⟩
  have rel : Rel K H H [Sl.d (scrD ns)] ([V.ref a].map some) := by
    refine RpA.rel (xs := [scrD ns]) (env := []) (σ := []) ⟨fun _ _ z => z, rfl, fun i s o z => by simp at z, fun i j l _ z => by simp [owns] at z⟩ (.cons (.scr hS) .nil)
  have nl : NoLst H := fun b us z => by
    rcases hO b with e | ⟨o, xs, e⟩ <;> rw [e] at z <;> cases z
  have top : spDN K mg sp [.ref a] H (fun v _ => v = .bl true) (fun _ _ _ => False) := ⟨H, _, _, _, nl, fun s hs xs e => by subst e; simp at hs, fun s hs xs e => by subst e; simp at hs, rel, hsp, fun r as' v B' H' p q ro nw => by subst p; cases (show Rp K B' v (.bool true) from ro); rfl, fun _ _ z => z⟩
  refine codeAny_mono ((F _ kin (nsK hns)).run callerA [] s₁ H ⟨[.ref a], []⟩ [.ref a] [.ref a] _ _ hr e0 (hbind s₁ (.ref a)) (.cons rfl .nil) top) fun r s' h => ?_
  match r, h with
  | .error e, h => obtain ⟨_, _, _, _, _, _, _, _, _, _, _, _, _, ⟨⟩⟩ := h
  | .ok .next, h => exact h.elim
  | .ok .brk, h => exact h.elim
  | .ok .cont, h => exact h.elim
  | .ok (.ret u), h =>
    obtain ⟨v, H', os, bare, un, hok', r', q⟩ := h
    have q : v = .bl true := q
    subst q
    obtain rfl : u = Value.bool true := r'
    refine ⟨rfl, OldK.of_keep fun b o e => ?_, os, bare⟩
    rcases hO b with z | ⟨ob, xs, z⟩
    · exact un.keep b o e z (List.not_mem_nil) (List.not_mem_nil)
    · obtain ⟨e1, _⟩ := hok b _ z
      obtain ⟨e2, _⟩ := hok' b _ (un.frzs b ob _ z)
      rw [e] at e1; cases e1
      exact e2
theorem walk_ofN {l : PySem.W.OpenLaw} {n k : Nat} {q : Program} {loose : List Str} {XP : (Str → Option Value) → Heap → Prop} {YP : World → Heap → Prop} {d : DefRec} {x : Str}
    (hn : l.most = some n) (hn2 : n ≤ sizeLine) (hdf : d.params.defaults = []) (hr : RoomG k callerA)
    (F : ∀ (w : World) (mg : Str → Option Value) (fa : Addr) (h : Heap), YP w h → h.Ns mainGlobals mg → mg d.name = some (.ref fa) →
      ∃ (K : Fr) (fd : FuncData), K.In h ∧ (∀ (s : Shared) (u : Value), BindsTo s fd ⟨[u], []⟩ [(x, u)]) ∧ ∀ base : Heap, K.In base → base.Ns mainGlobals mg → FnG l.prog w K mg base k fa fd [x] (spDN K mg (spLaw n))) :
    PySem.W.WalkO q loose XP YP l.row.toRowW d [] (fun f vs => PySem.call f vs) := by
  refine Att.attach_call hn hdf fun w s₀ s₁ mg mb fa o pm cd doc a vs ns G Y ho hd hcd hmg hobj hints hlen hg => ?_
  obtain ⟨K, fd, KX, hb, hF⟩ := F w mg fa _ Y G.T.g hmg
  exact lawG_callN KX G.T.g G.T.b G.T.builtins G.T.nolimit hg hobj hints (Nat.le_trans hlen hn2) hr hF hb ⟨ns, hlen, rfl, fun _ => rfl⟩
end PD
end PM3_
section TE1_
set_option Elab.async false
set_option linter.all false
set_option maxRecDepth 100000
set_option maxHeartbeats 4000000
/-! TE1: a caught exception is tracked from the clause's beginning on, and may be looked at behind the try. -/
namespace PD
open PySem PySem.Spec PyProof.Rows L2
/-- at a: an exception that was caught: its class, its dict -/
def exh (a : Addr) (cls : Value) (d : Option Addr) : HO := .ext fun h => ∃ (ob : Obj) (fl : Array Value), h.get? a = some ob ∧ ob.cls = cls ∧ ob.dict = d ∧ ob.data = .fields fl
theorem exh_put {P : Program} {w : World} {H : Hp} {h : Heap} {a : Addr} {ob : Obj} {fl : Array Value} (e : h.get? a = some ob) (hd : ob.data = .fields fl) : ObjOk P w H h a (exh a ob.cls ob.dict) :=
  ⟨⟨ob, fl, e, rfl, rfl, hd⟩, ⟨_, e⟩, fun g1 g2 ⟨o2, f2, q, r⟩ kp => ⟨o2, f2, kp _ q, r⟩⟩
theorem exh_get {P : Program} {w : World} {H : Hp} {h : Heap} {a : Addr} {cls : Value} {d : Option Addr} (ok : HOk P w H h) (e : H a = some (exh a cls d)) : ∃ (ob : Obj) (fl : Array Value), h.get? a = some ob ∧ ob.cls = cls ∧ ob.dict = d ∧ ob.data = .fields fl := by
  have z : ObjOk P w H h a (exh a cls d) := ok a _ e
  obtain ⟨z, _⟩ := z
  exact z
section
variable {X : Cx} {pins : List (Addr × Obj)} {σ : L2.St} {H : Hp} {s : Shared}
theorem adopt {a : Addr} {ob : Obj} {fl : Array Value} (I : Inv X pins σ H s) (e : s.heap.get? a = some ob) (hd : ob.data = .fields fl) (na : H a = none) (n0 : X.s_0.heap.get? a = none) (nL : a ≠ X.env.locals) (np : ∀ p ∈ X.pn ++ pins, p.1 ≠ a) : Inv X pins σ (upd H a (exh a ob.cls ob.dict)) s := by
  have other : ∀ {b : Addr} {u : HO}, H b = some u → b ≠ a := fun {b u} q z => by rw [z, na] at q; cases q
  have free_ : ∀ {b : Addr}, b ≠ a → H b = none → upd H a (exh a ob.cls ob.dict) b = none := fun {b} n q => (upd_ne n).trans q
  refine { ok := I.ok, os := I.os, bare := I.bare, loc := I.loc, cell := I.cell, len := I.len, free := free_ (Ne.symm nL) I.free, base := ?_, freeC := ?_, pin := ?_, hok := ?_ }
  · obtain ⟨k1, k2, k3, k4, k5, k6, k7⟩ := I.base
    refine ⟨k1, k2, fun b u q n hx => ?_, k4, fun b xs q => ?_, fun b o u q => ?_, fun b ps q => ?_⟩
    · exact free_ (fun z => by rw [z, n0] at q; cases q) (k3 b u q n hx)
    · have := k5 b xs q
      rw [upd_ne (other this)]; exact this
    · have := k6 b o u q
      rw [upd_ne (other this)]; exact this
    · obtain ⟨m, this⟩ := k7 b ps q
      exact ⟨m, by rw [upd_ne (other this)]; exact this⟩
  · intro y c q
    refine free_ (fun z => ?_) (I.freeC y c q)
    obtain ⟨v, oc, q1, q2⟩ := I.cell y c q
    rw [z, e] at q1
    cases q1
    rw [hd] at q2
    exact Data.noConfusion q2
  · intro p hp
    obtain ⟨p1, p2, p3⟩ := I.pin p hp
    exact ⟨p1, free_ (np p hp) p2, p3⟩
  · intro b u q
    by_cases z : b = a
    · subst z
      rw [upd_same] at q
      cases q
      exact exh_put e hd
    · rw [upd_ne z] at q
      exact (I.hok b u q).stay (fun _ _ _ r => r) (fun c r => by rw [upd_ne (other r)]; exact r) fun c xs r => by rw [upd_ne (other r)]; exact r
theorem into_suite {a : Addr} (I : Inv X pins σ H s) : Inv (X.suite a (X.pn ++ pins)) [] σ H s :=
  { ok := I.ok.suite a _, os := I.os, bare := I.bare, base := I.base, loc := I.loc, cell := I.cell, free := I.free, freeC := I.freeC, hok := I.hok, len := I.len, pin := fun p hp => I.pin p (by rw [List.append_nil] at hp; exact hp) }
theorem out_suite {a : Addr} (I : Inv (X.suite a (X.pn ++ pins)) [] σ H s) (ok : X.Ok) : Inv X pins σ H s :=
  { ok := ok, os := I.os, bare := I.bare, base := I.base, loc := I.loc, cell := I.cell, free := I.free, freeC := I.freeC, hok := I.hok, len := I.len, pin := fun p hp => I.pin p (by rw [List.append_nil]; exact hp) }
end
/-- what the clause 'except x as n' wishes of an exception of the body, n's slot being i -/
def wOwn (K : Fr) (c : Value) (i : Nat) (ts : Addr → Value → Option Addr → L2.TS) (D : Ends) : WX := fun cls d σ H => PySem.W.exmOne K cls c = some true ∧ ∀ a, H a = none →
  ts a cls d { nx := fun σ2 H2 => D.nx (σ2.set i none) H2, rt := D.rt, bk := fun σ2 H2 => D.bk (σ2.set i none) H2, ct := fun σ2 H2 => D.ct (σ2.set i none) H2 } (σ.set i (some (.ref a))) (upd H a (exh a cls d))
section
variable {X : Cx} {x n : Str} {c : Value} {i : Nat} {body suite : List Stmt} {b0 : Stmt} {np p1 pos : Pos} {tb : WX → L2.TS} {ts : Addr → Value → Option Addr → L2.TS}
theorem body_run {W : WX} {pins : List (Addr × Obj)} {s : Shared} {σ : L2.St} {H : Hp} {D : Ends} {Q : Flow → Shared → Prop} {E : Value → Shared → Prop}
    (hb : ∀ (W : WX) (pn : List (Addr × Obj)) (xe : Value → Shared → Prop), Takes (X.tr pn xe) W → PassesOwn (model X.prog X.w) X.A X.env xe → PSs (X.tr pn xe) body (tb W)) (I : Inv X pins σ H s) (h : tb W D σ H)
    (hE : ∀ u s', XE (X.tr (X.pn ++ pins) E) W u s' → E u s') (hp : PassesOwn (model X.prog X.w) X.A X.env E) (hQ : ∀ f s1, SP X pins D f s1 → Q f s1) : wpAny (model X.prog X.w) X.A (execs body X.env) Q E s := by
  refine wpAny_mono ((hb W (X.pn ++ pins) E hE hp).run [] s σ H D (I.toTry E) h) (fun f s1 q => hQ f s1 ?_) fun _ _ z => z
  cases f with
  | next => exact let ⟨a, b, J, r⟩ := q; ⟨a, b, J.ofTry I.ok, r⟩
  | brk => exact let ⟨a, b, J, r⟩ := q; ⟨a, b, J.ofTry I.ok, r⟩
  | cont => exact let ⟨a, b, J, r⟩ := q; ⟨a, b, J.ofTry I.ok, r⟩
  | ret u => exact let ⟨v, a, b, J, r⟩ := q; ⟨v, a, b, J.ofTry I.ok, r⟩
theorem ps_try_own (hs : X.stack = X.env :: X.outer) (hf : X.env.frame = some X.env.locals) (hx : X.ex = []) (hN : X.N.Nodup) (hi : X.N[i]? = some n) (hln : X.env.kindOf n = some .local) (hc : Names X x c)
    (hb : ∀ (W : WX) (pn : List (Addr × Obj)) (xe : Value → Shared → Prop), Takes (X.tr pn xe) W → PassesOwn (model X.prog X.w) X.A X.env xe → PSs (X.tr pn xe) body (tb W))
    (hsu : ∀ (a : Addr) (cls : Value) (d : Option Addr) (pn : List (Addr × Obj)), PSs (X.suite a pn) (b0 :: suite) (ts a cls d)) :
    PS X (.Try body [.ExceptHandler (some (.Name x np)) (some n) (b0 :: suite) p1] [] [] pos) (fun D σ H => tb (wOwn X.K c i ts D) D σ H) := ⟨fun pins s σ H D I h => by
  have okX := I.ok
  have fr : X.A.frames = some (X.env :: X.outer) := okX.frames.trans (congrArg some hs)
  refine wpAny_Try_except (body_run (W := wOwn X.K c i ts D) hb I h (fun u s' air => ?_) PassesOwn.looking fun f s1 q => ?_)
  · obtain ⟨a, G, sI, more, σ1, H1, cls, d, rfl, J0, nb, up, sky, na, eos, ebare, hm, go⟩ := air
    have J := J0.ofTry okX
    have sky2 : Sky G (X.env :: X.outer) a (Zc cls d) X.env.locals s'.heap := hs ▸ sky
    have Ga : G.get? a = none := by
      rcases sky2 with ⟨_, z, _⟩ | ⟨_, z, _⟩ | ⟨_, z, _⟩ <;> exact z
    have noFr : ∀ {g : Heap} {o : Obj} {fl : Array Value}, g.FunFrames G (X.env :: X.outer) → g.get? a = some o → o.data = .fields fl → a ∉ frs (X.env :: X.outer) := fun {g o fl} ff e hd m => by
      obtain ⟨_, o2, e2, bad⟩ := ff.mem m
      rw [e] at e2
      cases e2
      exact bad _ hd
    refine Sky.land (L := X.env.locals) Zc.steady fr hf sky2 fun h3 g3 up3 => ?_
    obtain ⟨o3, f3, e3, z3, d3⟩ := g3.there
    have nfr := noFr g3.2.2.1 e3 d3
    have J3 : Inv X pins σ1 H1 { s' with heap := h3 } := J.landed nb g3.1 (up.trans up3) eos ebare
    have nL : a ≠ X.env.locals := fun z => nfr (List.mem_filterMap.mpr ⟨X.env, List.mem_cons_self, hf.trans (congrArg some z.symm)⟩)
    have inG : ∀ {o : Obj}, sI.heap.get? a ≠ some o := fun {o} q => by
      have := nb a o q (fun m => nfr (hs ▸ m))
      rw [Ga] at this
      cases this
    have n0 : X.s_0.heap.get? a = none := by
      cases q : X.s_0.heap.get? a with
      | none => rfl
      | some o =>
        obtain ⟨o2, q2⟩ := J.base.there a o q (by rw [hx]; exact List.not_mem_nil)
        exact absurd q2 inG
    have npin : ∀ p ∈ X.pn ++ pins, p.1 ≠ a := fun p hp z => by
      obtain ⟨q, _⟩ := J.pin p hp
      rw [z] at q
      exact inG q
    have nF : a ∉ X.fs := fun m => by
      obtain ⟨e, he, q⟩ := List.mem_filterMap.mp m
      exact nfr (List.mem_filterMap.mpr ⟨e, List.mem_cons_of_mem _ he, q⟩)
    refine wpAny_handleBy_cons (codeAny_handlers_test ?_) (by rintro ⟨⟩)
    have S3 := J3.suite e3 d3 na nL nF
    have lm : PySem.W.Looks (model X.prog X.w) h3 (typeOf (.ref a)) cls := fun A Q E s k q => wpAny_typeOf_ref (k _ _ e3) (z3.1.symm ▸ q)
    have said : ∀ {Q : Value → Shared → Prop} {E : Value → Shared → Prop}, Q c { s' with heap := h3 } → wpAny (model X.prog X.w) (X.A.mark (some (.ref a))) (eval (.Name x np) X.env) Q E { s' with heap := h3 } := fun {Q E} q => by
      obtain ⟨g, db, m | ⟨m, v, nn⟩⟩ := hc
      · exact ld_glob (X := X.suite a ((a, o3) :: (X.pn ++ pins))) S3 g m q db
      · exact ld_blt (X := X.suite a ((a, o3) :: (X.pn ++ pins))) S3 g m v q nn db
    refine said ((PySem.W.exm_one (M := model X.prog X.w) J3.kIn lm hm).here ?_)
    refine codeAny_handlers_suite_as (HandSPX.lands_againZ g3 fun h4 g4 up4 => ?_)
    obtain ⟨o4, f4, e4, z4, d4⟩ := g4.there
    have J4 : Inv X pins σ1 H1 { s' with heap := h4 } := J.landed nb g4.1 ((up.trans up3).trans up4) eos ebare
    have A4 := adopt J4 e4 d4 na n0 nL npin
    rw [z4.1, z4.2] at A4
    refine store_ok (X := X.suite a (X.pn ++ pins)) (v := .ref a) (into_suite (a := a) A4) hN hi (.inl hln) rfl (fun s5 S5 => ?_) (.inr hln)
    refine wpAny_mono ((hsu a cls d (X.pn ++ pins)).run [] s5 _ _ _ S5 (go a na)) (fun f s6 q => ?_) fun _ _ bad => bad.elim
    have goes : ∀ {σ6 : L2.St} {H6 : Hp} {Q : Shared → Prop}, Inv (X.suite a (X.pn ++ pins)) [] σ6 H6 s6 → (∀ s7, Inv X pins (σ6.set i none) H6 s7 → Q s7) → wpAny (model X.prog X.w) X.A (do bindName X.env n .none; unbindBehindTheSuite X.env n p1) (fun _ s7 => Q s7) X.xe s6 := fun S hq => gone_ok (out_suite S okX) hN hi hln hq
    cases f with
    | next => exact let ⟨_, _, S, r⟩ := q; goes S fun s7 J7 => ⟨_, _, J7, r⟩
    | brk => exact let ⟨_, _, S, r⟩ := q; goes S fun s7 J7 => ⟨_, _, J7, r⟩
    | cont => exact let ⟨_, _, S, r⟩ := q; goes S fun s7 J7 => ⟨_, _, J7, r⟩
    | ret u => exact let ⟨_, _, _, S, ru, r⟩ := q; goes S fun s7 J7 => ⟨_, _, _, J7, ru, r⟩
  · cases f with
    | next => exact wpAny_execs_nil q
    | _ => exact q⟩
end
end PD
end TE1_
section TE2_
set_option Elab.async false
set_option linter.all false
set_option maxRecDepth 100000
set_option maxHeartbeats 4000000
/-! TE2: raise C(e), C an own class whose __init__ keeps e in a field; the field of a caught exception. -/
namespace PD
open PySem PySem.Spec PyProof.Rows L2
/-! ### what the head says of such a class -/
def oexB (K : Fr) (C : Addr) : Bool := (match K.lookup C with
  | some ⟨.type t, _, .cls cd, sl⟩ => t == "type" && (match cd.mro, sl.toList with
    | .ref c :: bm, [_, _, _, _, some (.builtin n), _] => c == C && (n == "ValueError.__new__" && (!cd.hasDel && (cd.hasDict && PySem.HandSPX.refsVE bm)))
    | _, _ => false)
  | _ => false) && (PySem.W.findIn K (.ref C) "__setattr__" == some (some (.builtin "object.__setattr__")) && (PySem.W.subIn K (.ref C) (.type "BaseException") == some true && (PySem.W.typeIn K (.ref C) == some (.type "type") && PySem.W.keepIn K (.ref C))))
theorem oexB_ok {K : Fr} {C : Addr} (h : oexB K C = true) : OexC K C := by
  unfold oexB at h
  rw [Bool.and_eq_true, Bool.and_eq_true, Bool.and_eq_true, Bool.and_eq_true] at h
  obtain ⟨h0, h1, h2, h3, h4⟩ := h
  refine ⟨?_, beq_iff_eq.mp h1, beq_iff_eq.mp h2, beq_iff_eq.mp h3, h4⟩
  split at h0
  · rename_i t dd cd sl ho
    rw [Bool.and_eq_true] at h0
    obtain ⟨et, h0⟩ := h0
    obtain rfl := beq_iff_eq.mp et
    split at h0
    · rename_i c bm k0 k1 k2 k3 nn k5 hm hsl
      simp only [Bool.and_eq_true, beq_iff_eq, Bool.not_eq_true'] at h0
      obtain ⟨rfl, rfl, hdel, hdc, hv⟩ := h0
      obtain ⟨nm, bs, mro, ns, qn, hd, sn, sub, ab, col, del⟩ := cd
      dsimp only at hm hdel hdc
      subst hm hdel hdc
      obtain ⟨l⟩ := sl
      dsimp only at hsl
      subst hsl
      exact ⟨nm, qn, ns, bs, bm, sn, sub, ab, col, dd, k0, k1, k2, k3, k5, ho, hv⟩
    · cases h0
  · cases h0
/-- the base class, whose __init__ is ValueError's -/
structure BInit (K : Fr) (C : Addr) : Prop where
  sp : PySem.W.specialIn K (.ref C) "__getattribute__" = some (some (.builtin "type.__getattribute__"))
  rd : PySem.W.readsIn K C (.type "type") = true
  fd : PySem.W.findCls K (.ref C) (.type "type") "__init__" = some (.val (.builtin "ValueError.__init__"))
def binB (K : Fr) (C : Addr) : Bool := PySem.W.specialIn K (.ref C) "__getattribute__" == some (some (.builtin "type.__getattribute__")) && (PySem.W.readsIn K C (.type "type") && (match PySem.W.findCls K (.ref C) (.type "type") "__init__" with
  | some (.val (.builtin n)) => n == "ValueError.__init__"
  | _ => false))
theorem binB_ok {K : Fr} {C : Addr} (h : binB K C = true) : BInit K C := by
  unfold binB at h
  rw [Bool.and_eq_true, Bool.and_eq_true] at h
  obtain ⟨h1, h2, h3⟩ := h
  refine ⟨beq_iff_eq.mp h1, h2, ?_⟩
  split at h3
  · rename_i n hn
    rw [hn, beq_iff_eq.mp h3]
  · cases h3
/-! ### the __init__ -/
section
variable {X : Cx} {x : Str} {CB : Addr} {e o : Expr} {es : List Expr} {ta : L2.TA} {p1 p2 pos : Pos}
theorem pe_binit {pl : Sem Bool} (hg : Gl X x) (hm : X.mg x = some (.ref CB)) (T : BInit X.K CB) (ha : PA X (e :: es) ta) (hdb : (x == ("__debug__" : Str)) = false := by decide)
    (hc : eval (.Call (.Attribute (.Name x p1) "__init__" p2) (e :: es) [] pos) X.env = (do
      let ov ← eval (.Name x p1) X.env
      standAt p2.atName
      let (f, first) ← holding [ov] (getMethod ov "__init__" pl)
      callWith pos f first (backTo pos (starEach (e :: es) X.env)) (backToKw pos (keywordEach [] X.env))) := by rfl)
    (he : starEach (e :: es) X.env = (false, eval e X.env) :: starEach es X.env := by rfl) (hpl : (backTo pos (starEach es X.env)).any (·.1) = false := by rfl) :
    PE X (.Call (.Attribute (.Name x p1) "__init__" p2) (e :: es) [] pos) (tVeI X.K ta) := ⟨fun pins s σ H Q I h => by
  refine PySem.W.methodCall_KW (ld_glob I hg hm ?_ hdb) hc
  refine PySem.W.method_cls I.kIn T.sp (PySem.W.cls_value I.kIn T.rd T.fd (by decide +kernel) ?_)
  show wpAny _ _ (callWith pos (Value.builtin "ValueError.__init__") [] (backTo pos (starEach (e :: es) X.env)) []) _ _ _
  refine PyProof.Rows.callWith_method1 (thn (ha.run pos pins _ σ H _ (I.tok _) h) fun us s1 got => ?_) he hpl
  obtain ⟨vs, H1, I1, rs, a, C, ws, ev, hl, TC, ea, q⟩ := got
  subst ev
  cases rs with
  | @cons _ u _ us2 ru rus =>
    obtain rfl : u = Value.ref a := ru
    have hlen : us2.length ≤ sizeLine := by
      have := Paired.length rus
      rw [sizeLine_eq]
      omega
    exact oinit_ok TC I1 ea hlen fun s2 J => ⟨.non, H1, J, rfl, q⟩⟩
/-- what such an __init__ does -/
def spKeep (K : Fr) (C : Addr) (f : Str) : L2.Sp := fun vs H Q E => ∃ (a : Addr) (y : V), vs = [.ref a, y] ∧ H a = some (exo a C none) ∧ ∀ dx, H dx = none → dx ≠ a → Q .non (upd (upd H dx (exd dx [(f, y)])) a (exo a C (some dx)))
theorem keep_len {K : Fr} {C : Addr} {f : Str} {s y : Str} : ∀ vs H Q E, spKeep K C f vs H Q E → vs.length = ([s, y] : List Str).length := by
  rintro vs H Q E ⟨a, v, rfl, _⟩
  rfl
theorem pss_keep {C : Addr} {f s y m : Str} {p3 p4 p5 p6 p7 q1 q2 q3 : Pos} {j : Nat} {pl : Sem Bool} (hg : Gl X x) (hm : X.mg x = some (.ref CB)) (T : BInit X.K CB) (TC : OexC X.K C) (hno : PySem.W.findIn X.K (.ref C) f = some none)
    (h0 : X.N[0]? = some s) (h1 : X.N[1]? = some y) (v0 : Vis X.env.scope s) (v1 : Vis X.env.scope y) (hdb : (x == ("__debug__" : Str)) = false) (d0 : (s == ("__debug__" : Str)) = false) (d1 : (y == ("__debug__" : Str)) = false) (c0 : (s == ("__classdict__" : Str)) = false) (c1 : (y == ("__classdict__" : Str)) = false)
    (hc : eval (.Call (.Attribute (.Name x p1) "__init__" p2) [.Name s p3, .Constant (.str m) j p4] [] q1) X.env = (do
      let ov ← eval (.Name x p1) X.env
      standAt p2.atName
      let (f, first) ← holding [ov] (getMethod ov "__init__" pl)
      callWith q1 f first (backTo q1 (starEach [.Name s p3, .Constant (.str m) j p4] X.env)) (backToKw q1 (keywordEach [] X.env))))
    (s1 : starEach [.Name s p3, .Constant (.str m) j p4] X.env = (false, eval (.Name s p3) X.env) :: starEach [.Constant (.str m) j p4] X.env) (s2 : starEach [.Constant (.str m) j p4] X.env = (false, eval (.Constant (.str m) j p4) X.env) :: starEach [] X.env)
    (w1 : swapsWith (.Call (.Attribute (.Name x p1) "__init__" p2) [.Name s p3, .Constant (.str m) j p4] [] q1) none q2.line X.env = pure false) (w2 : swapsWith (.Name y p7) (some (.Attribute (.Name s p5) f p6)) q3.line X.env = pure false)
    {a : Addr} {v : V} {H : Hp} {Q : VK} (ha : H a = some (exo a C none)) (k : ∀ dx, H dx = none → dx ≠ a → Q .non (upd (upd H dx (exd dx [(f, v)])) a (exo a C (some dx)))) :
    ∃ t, PSs X [.Expr (.Call (.Attribute (.Name x p1) "__init__" p2) [.Name s p3, .Constant (.str m) j p4] [] q1) q2, .Assign [.Attribute (.Name s p5) f p6] (.Name y p7) q3] t ∧ t { nx := fun _ H' => Q .non H', rt := Q } [some (.ref a), some v] H := by
  refine ⟨_, pss_cons (ps_expr (pe_binit hg hm T (pa_cons (pe_var h0 v0 d0 c0) (pa_cons pe_str pa_nil s2) s1) hdb hc s1 (by rw [s2]; rfl)) w1) (pss_one (ps_ost (pe_var h0 v0 d0 c0) (pe_var h1 v1 d1 c1) w2)), ?_⟩
  refine ⟨.ref a, rfl, ?_⟩
  refine ⟨a, C, [.str m], rfl, Nat.le_of_ble_eq_true rfl, TC, ha, ?_⟩
  exact ⟨v, rfl, .ref a, rfl, a, C, rfl, TC, hno, .inl ⟨ha, k⟩⟩
end
/-- a class whose instances keep one value, in the field f -/
structure ExkF (P : Program) (w : World) (K : Fr) (mg : Str → Option Value) (base : Heap) (k : Nat) (x f : Str) : Prop where
  ex : ∃ (C fI : Addr) (fd : FuncData) (ps : List Str), mg x = some (.ref C) ∧ OexC K C ∧ PySem.W.findIn K (.ref C) "__init__" = some (some (.ref fI)) ∧ PySem.W.typeIn K (.ref fI) = some (.type "function") ∧ FnOk P w K mg base (L2.CX P w) k fI fd ps (spKeep K C f) ∧ Binds K fd ps [] ∧
    XfC K C ∧ PySem.W.findIn K (.ref C) f = some none ∧ PySem.W.exmOne K (.ref C) (.ref C) = some true
theorem ExkF.mono {P : Program} {w : World} {K : Fr} {mg : Str → Option Value} {base : Heap} {j k : Nat} {x f : Str} (F : ExkF P w K mg base j x f) (h : j ≤ k) : ExkF P w K mg base k x f := by
  obtain ⟨C, fI, fd, ps, h1, h2, h3, h4, F1, h6, h7⟩ := F.ex
  exact ⟨C, fI, fd, ps, h1, h2, h3, h4, F1.mono h, h6, h7⟩
/-- what the head is asked of it -/
def exkB (x b f : Str) (K : Fr) : Bool := oexB K (He.ga K x) && (binB K (He.ga K b) && (PySem.W.findIn K (.ref (He.ga K x)) "__init__" == some (some (.ref (He.fAd K (x, some "__init__")))) && (PySem.W.typeIn K (.ref (He.fAd K (x, some "__init__"))) == some (.type "function") &&
  (xfB K (He.ga K x) && (PySem.W.findIn K (.ref (He.ga K x)) f == some none && PySem.W.exmOne K (.ref (He.ga K x)) (.ref (He.ga K x)) == some true)))))
section
variable {X : Cx} {W : WX} {k : Nat} {x f : Str} {e : Expr} {te : PD.TR} {p q pos : Pos}
theorem sd_raiseF (F : ExkF X.prog X.w X.K X.mg X.base k x f) (hr : RoomG (k + 1) X.A) (tk : Takes X W) (he : PR X W e te) (hc : X.calm = true := by rfl) (hg : Gl X x := by rfl) (hdb : (x == ("__debug__" : Str)) = false := by decide)
    (hst : starEach [e] X.env = (false, eval e X.env) :: starEach [] X.env := by rfl) (hpl : (backTo q (starEach [] X.env)).any (·.1) = false := by rfl) :
    PSd X W (.Raise (some (.Call (.Name x p) [e] [] q)) none pos) (sRaiseF x f te) := by
  obtain ⟨C, fI, fd, ps, h1, h2, h3, h4, F1, h6, h7⟩ := F.ex
  refine ps_imp (ps_raise hc tk (pmk_oex h2 h3 h4 F1 hr.room h6 .nil (passes_call tk fun _ _ _ _ z => z.elim) hg h1 (pa_cons he pa_nil hst) hdb hst hpl)) ?_
  rintro D σ H ⟨B, env, E, R, h, g⟩
  refine rd_fz (P := fun y e1 => E.ex ⟨x, some (f, y)⟩ e1) R h g.good fun y e1 v B1 H1 p1 q1 rv => ?_
  refine ⟨Nat.le_of_ble_eq_true rfl, fun a na => ⟨a, v, rfl, upd_same, fun dx nd ne => ⟨rfl, dx, [(f, v)], upd_same, ?_, ?_, ?_⟩⟩⟩
  · rw [upd_ne ne, upd_same]
  · rwa [upd_ne ne] at nd
  · have nd1 : H1 dx = none := by rwa [upd_ne ne] at nd
    have eH : upd (del (upd (upd (upd H1 a (exo a C none)) dx (exd dx [(f, v)])) a (exo a C (some dx))) a) dx (.xd [(f, v)]) = upd H1 dx (.xd [(f, v)]) := by
      funext b
      by_cases hb : b = dx
      · rw [hb, upd_same, upd_same]
      · rw [upd_ne hb, upd_ne hb]
        by_cases ha : b = a
        · rw [ha, del_same, na]
        · rw [del_ne ha, upd_ne ha, upd_ne hb, upd_ne ha]
    rw [eH]
    exact g.ex ⟨x, some (f, y)⟩ e1 σ _ _ B1 _ p1 (q1.trans (.of0 q1.rel (Stp0.apart q1.rel.ex nd1))) ⟨C, h1, rfl, dx, v, rfl, upd_same, rv⟩
end
/-- x.f, x's value a caught exception -/
def tExf (K : Fr) (f : Str) (te : L2.TE) : L2.TE := fun σ H Q => te σ H fun u H1 => ∃ (a C dd : Addr) (v : V), u = .ref a ∧ H1 a = some (exh a (.ref C) (some dd)) ∧ XfC K C ∧ PySem.W.findIn K (.ref C) f = some none ∧ H1 dd = some (.xd [(f, v)]) ∧ Q v H1
theorem pe_exf {X : Cx} {e : Expr} {te : L2.TE} {f : Str} {pos : Pos} (he : PE X e te) (hb : attributeBase e f X.env (eval e X.env) = eval e X.env := by rfl) : PE X (.Attribute e f pos) (tExf X.K f te) := ⟨fun pins s σ H Q I h => by
  refine attr_of hb (thn (he.run pins s σ H _ I h) fun u s1 got => ?_)
  obtain ⟨y, H1, I1, ry, a, C, dd, v, rfl, ea, T, no, ed, q⟩ := got
  obtain rfl : u = Value.ref a := ry
  obtain ⟨ob, fl, e1, e2, e3, e4⟩ := exh_get I1.hok ea
  obtain ⟨mA, ns, rel⟩ := (show ObjOk X.prog X.w H1 s1.heap dd (.xd [(f, v)]) from I1.hok dd _ ed)
  obtain ⟨od, ho, look⟩ := lookIn_ns ns
  obtain ⟨u2, hu, ru⟩ := RelO.some_of (v := v) (o := mA f) (by
    have := rel f
    rwa [lookup_put, if_pos rfl] at this)
  have at_ : PySem.W.InstAt s1.heap a ob C (some od) := ⟨e1, e2, by unfold PySem.W.notCls; rw [e4] <;> rfl, by rw [e3]; exact ho⟩
  exact HandSPX.exc_get I1.kIn at_ T.ga T.gg T.exC (PySem.W.findObj_own T.hdC no rfl (by rw [look, hu])) (handed_of ru) ⟨v, H1, I1.tok _, ru, q⟩⟩
end PD
end TE2_
section TE3_
set_option Elab.async false
set_option linter.all false
set_option maxRecDepth 100000
set_option maxHeartbeats 4000000
/-! TE3: try: .. except C as e: m = e, then return .. if m is None else .. -/
namespace PD
open PySem PySem.Spec PyProof.Rows L2
section
variable {K : Fr} {B H B1 H1 : Hp} {env env1 : Env} {σ σ1 : St}
/-- a slot is forgotten, whatever is stored there -/
theorem Rel.forget {i : Nat} {o : Option V} (R : Rel K B H env σ) : Rel K B H (env.set i .un) (σ.set i o) := by
  refine ⟨R.ex, by rw [List.length_set, List.length_set]; exact R.len, fun j s u h1 h2 => ?_, fun j j' l ne h1 h2 h3 h4 => ?_⟩
  · by_cases e : i = j
    · subst e
      by_cases hl : i < env.length
      · rw [List.getElem?_set_self hl] at h1
        cases h1
        trivial
      · rw [List.getElem?_eq_none (by rw [List.length_set]; omega)] at h1
        cases h1
    · rw [List.getElem?_set_ne e] at h1 h2
      exact R.ok j s u h1 h2
  · have key : ∀ k, owns (env.set i .un)[k]? = true → i ≠ k := fun k h e => by
      subst e
      by_cases hl : i < env.length
      · rw [List.getElem?_set_self hl] at h
        cases h
      · rw [List.getElem?_eq_none (by rw [List.length_set]; omega)] at h
        cases h
    have n1 := key j h1
    have n2 := key j' h2
    rw [List.getElem?_set_ne n1] at h1 h3
    rw [List.getElem?_set_ne n2] at h2 h4
    exact R.sep j j' l ne h1 h2 h3 h4
theorem own_forget {i : Nat} {o : Option V} {a : Addr} (h : Own (env.set i .un) (σ.set i o) a) : Own env σ a := by
  obtain ⟨k, h1, h2⟩ := h
  have n : i ≠ k := fun e => by
    subst e
    by_cases hl : i < env.length
    · rw [List.getElem?_set_self hl] at h1; cases h1
    · rw [List.getElem?_eq_none (by rw [List.length_set]; omega)] at h1; cases h1
  rw [List.getElem?_set_ne n] at h1 h2
  exact ⟨k, h1, h2⟩
theorem ownF_forget {i : Nat} {o : Option V} {a : Addr} (h : OwnF (env.set i .un) (σ.set i o) a) : OwnF env σ a := by
  obtain ⟨k, h1, h2⟩ := h
  have n : i ≠ k := fun e => by
    subst e
    by_cases hl : i < env.length
    · rw [List.getElem?_set_self hl] at h1; cases h1
    · rw [List.getElem?_eq_none (by rw [List.length_set]; omega)] at h1; cases h1
  rw [List.getElem?_set_ne n] at h1 h2
  exact ⟨k, h1, h2⟩
theorem Post.forget {i : Nat} {o : Option V} (p : Post K B H env σ B1 H1 env1 σ1) : Post K B H env σ B1 H1 (env1.set i .un) (σ1.set i o) where
  rel := p.rel.forget
  stp := p.stp
  own := fun a h => p.own a (own_forget h)
  ownF := fun a h => p.ownF a (ownF_forget h)
  par := fun k xs h => by
    have n : i ≠ k := fun e => by
      subst e
      by_cases hl : i < env1.length
      · rw [List.getElem?_set_self hl] at h; cases h
      · rw [List.getElem?_eq_none (by rw [List.length_set]; omega)] at h; cases h
    rw [List.getElem?_set_ne n] at h
    rw [List.getElem?_set_ne n]
    exact p.par k xs h
end
/-- t, then N; an exception of the class c instead is looked at by h; the slots i (the clause's name) and j (where it is kept) are unknown then -/
def sTryX (i j : Nat) (c : Str) (h : Exn → Env → (Ret → Env → Prop) → Prop) (t N : PD.TS) : PD.TS := fun D env => t { D with nx := N D, ex := fun x e1 => i < e1.length ∧ j < e1.length ∧ x.cls = c ∧ h x ((e1.set i .un).set j .un) D.rt } env
/-- what is returned of it: its field; a value -/
def hFld (f : Str) : Exn → Env → (Ret → Env → Prop) → Prop := fun x e k => ∃ y, x.fld = some (f, y) ∧ k (.d y) e
def hVal (y : D) : Exn → Env → (Ret → Env → Prop) → Prop := fun _ e k => k (.d y) e
def tNo : L2.TE := fun _ _ _ => False
theorem pe_no {X : Cx} {e : Expr} : PE X e tNo := ⟨fun _ _ _ _ _ _ h => h.elim⟩
section
variable {X : Cx} {W : WX} {k : Nat} {c n m f b : Str} {i j : Nat} {body : List Stmt} {np p1 p2 p3 p4 p5 p6 p7 p8 pos : Pos} {t N : PD.TS} {A : Expr} {jj : Nat}
/-- an exception class that is caught: with a field or without -/
structure CatK (K : Fr) (mg : Str → Option Value) (x : Str) : Prop where
  ex : ∃ C : Addr, mg x = some (.ref C) ∧ PySem.W.exmOne K (.ref C) (.ref C) = some true
def catB (x : Str) (K : Fr) : Bool := PySem.W.exmOne K (.ref (He.ga K x)) (.ref (He.ga K x)) == some true
/-- behind the clause: the frame's slot j holds the exception -/
def AtX (j : Nat) (σ : L2.St) (H : Hp) (cls : Value) (d : Option Addr) : Prop := ∃ a : Addr, σ[j]? = some (some (.ref a)) ∧ H a = some (exh a cls d)
theorem ssd_tryX {ret : Stmt} {h : Exn → Env → (Ret → Env → Prop) → Prop} {tx : L2.TS} (hij : i ≠ j) (Ck : CatK X.K X.mg c)
    (hs : X.stack = X.env :: X.outer) (hf : X.env.frame = some X.env.locals) (hx : X.ex = []) (hN : X.N.Nodup) (hi : X.N[i]? = some n) (hln : X.env.kindOf n = some .local) (hj : X.N[j]? = some m) (hlm : X.env.kindOf m = some .local)
    (hg : Gl X c) (hdb : (c == ("__debug__" : Str)) = false) (hdn : (n == ("__debug__" : Str)) = false) (hcn : (n == ("__classdict__" : Str)) = false)
    (hb : ∀ (W : WX) (pn : List (Addr × Obj)) (xe : Value → Shared → Prop), Takes (X.tr pn xe) W → PassesOwn (model X.prog X.w) X.A X.env xe → PSsd (X.tr pn xe) W body t)
    (hn : PSd X W ret N) (hxr : PS X ret tx)
    (link : ∀ (D : Ends) (B H B1 H1 : Hp) (env e1 : Env) (σ σ1 : L2.St) (E : En) (x : Exn) (cls : Value) (d : Option Addr), GoodS X W D B H env σ E → x.cls = c → h x e1 E.rt → Post X.K B H env σ B1 H1 e1 σ1 → ExcOk X B1 H1 x cls d → AtX j σ1 H1 cls d → tx D σ1 H1)
    (hsw : swapsWith (.Name n p3) (some (.Name m p2)) p4.line X.env = pure false) :
    PSsd X W [.Try body [.ExceptHandler (some (.Name c np)) (some n) [.Assign [.Name m p2] (.Name n p3) p4] p1] [] [] pos, ret] (sTryX i j c h t N) := by
  obtain ⟨C, hC, hm⟩ := Ck.ex
  have both : PS X ret fun D σ H => rdS X W N D σ H ∨ tx D σ H := ⟨fun pins s σ H D I q => by
    rcases q with q | q
    · exact hn.run pins s σ H D I q
    · exact hxr.run pins s σ H D I q⟩
  refine pss_imp (pss_cons (ps_try_own (tb := fun W => rdS X W t) hs hf hx hN hi hln ⟨hg, hdb, .inl hC⟩ (fun W pn xe tk hp => pss_imp (hb W pn xe tk hp) fun D σ H ⟨B, env, E, R, q, g⟩ => ⟨B, env, E, R, q, ⟨g.nx, g.bk, g.ct, g.rt, g.ex⟩⟩) fun a cls d pn => pss_one (ps_set (X := X.suite a pn) hN hj (.inl hlm) (pe_var (X := X.suite a pn) hi (.inl hln) hdn hcn) hsw (.inr hlm))) (pss_one both)) ?_
  rintro D σ H ⟨B, env, E, R, q, g⟩
  refine ⟨B, env, _, R, q, ⟨fun e1 σ1 B1 H1 a p => .inl ⟨B1, e1, E, p.rel, a, g.trans p⟩, g.bk, g.ct, g.rt, ?_⟩⟩
  rintro x e1 σ1 cls d B1 H1 ⟨li, lj, ec, hh⟩ p ok
  obtain ⟨C', hC', rfl, ok2⟩ := id ok
  rw [ec, hC] at hC'
  cases hC'
  refine ⟨hm, fun a na => ?_⟩
  rw [p.rel.len] at li lj
  refine ⟨.ref a, List.getElem?_set_self li, .inr ?_⟩
  have p2 := ((p.forget (i := i) (o := some (.ref a))).forget (i := j) (o := some (.ref a))).forget (i := i) (o := none)
  rw [show ((e1.set i .un).set j .un).set i .un = (e1.set i .un).set j .un by rw [List.set_comm _ _ (Ne.symm hij), List.set_set]] at p2
  refine link D B H B1 _ env _ σ _ E x _ d g ec hh (p2.trans (.of0 p2.rel (Stp0.apart p2.rel.ex na))) ⟨C, by rw [ec]; exact hC, rfl, ?_⟩ ⟨a, ?_, upd_same⟩
  · cases hfl : x.fld with
    | none => trivial
    | some fy =>
      rw [hfl] at ok2
      obtain ⟨dx, v, e2, e3, e4⟩ := ok2
      exact ⟨dx, v, e2, by rw [upd_ne (ne_of_none e3 na)]; exact e3, e4⟩
  · rw [List.getElem?_set_ne hij, List.getElem?_set_self (by rw [List.length_set]; exact lj)]
/-! what is returned then -/
theorem ps_retF {q1 q2 : Pos} (hj : X.N[j]? = some m) (hv : Vis X.env.scope m) (hd : (m == ("__debug__" : Str)) = false) (hcd : (m == ("__classdict__" : Str)) = false) (hm1 : behindInMarks .Is (.Constant .none jj p6) = false) (hb : attributeBase (.Name m p8) f X.env (eval (.Name m p8) X.env) = eval (.Name m p8) X.env)
    (hsw : True := trivial) : PS X (.Return (some (.IfExp (.Compare (.Name m p5) [.Is] [.Constant .none jj p6] q1) A (.Attribute (.Name m p8) f q2) p7)) pos)
      (fun D σ H => ∃ (a C dd : Addr) (v : V), σ[j]? = some (some (.ref a)) ∧ H a = some (exh a (.ref C) (some dd)) ∧ XfC X.K C ∧ PySem.W.findIn X.K (.ref C) f = some none ∧ H dd = some (.xd [(f, v)]) ∧ D.rt v H) := by
  refine ps_imp (ps_ret (pe_ifExp (pt_cmpR op_isN (pe_var hj hv hd hcd) pe_non hm1) (pe_no (e := A)) (pe_exf (f := f) (pe_var hj hv hd hcd) hb))) ?_
  rintro D σ H ⟨a, C, dd, v, h1, h2, h3, h4, h5, h6⟩
  exact ⟨.ref a, h1, rfl, false, rfl, .ref a, h1, a, C, dd, v, rfl, h2, h3, h4, h5, h6⟩
theorem ps_retB {q1 : Pos} (hj : X.N[j]? = some m) (hv : Vis X.env.scope m) (hd : (m == ("__debug__" : Str)) = false) (hcd : (m == ("__classdict__" : Str)) = false) (hm1 : behindInMarks .Is (.Constant .none jj p6) = false) :
    PS X (.Return (some (.Compare (.Name m p5) [.Is] [.Constant .none jj p6] q1)) pos) (fun D σ H => ∃ a : Addr, σ[j]? = some (some (.ref a)) ∧ D.rt (.bl false) H) := by
  refine ps_imp (ps_ret (pe_cmpR op_isN (pe_var hj hv hd hcd) pe_non hm1)) ?_
  rintro D σ H ⟨a, h1, h2⟩
  exact ⟨.ref a, h1, rfl, h2⟩
theorem ps_retS {q1 : Pos} {z : Str} {j2 : Nat} (hj : X.N[j]? = some m) (hv : Vis X.env.scope m) (hd : (m == ("__debug__" : Str)) = false) (hcd : (m == ("__classdict__" : Str)) = false) (hm1 : behindInMarks .Is (.Constant .none jj p6) = false) :
    PS X (.Return (some (.IfExp (.Compare (.Name m p5) [.Is] [.Constant .none jj p6] q1) A (.Constant (.str z) j2 p8) p7)) pos) (fun D σ H => ∃ a : Addr, σ[j]? = some (some (.ref a)) ∧ D.rt (.str z) H) := by
  refine ps_imp (ps_ret (pe_ifExp (pt_cmpR op_isN (pe_var hj hv hd hcd) pe_non hm1) (pe_no (e := A)) pe_str)) ?_
  rintro D σ H ⟨a, h1, h2⟩
  exact ⟨.ref a, h1, rfl, false, rfl, h2⟩
end
end PD
end TE3_
section TE4_
set_option Elab.async false
set_option linter.all false
set_option maxRecDepth 100000
set_option maxHeartbeats 4000000
/-! TE4: the forms of such a try that a text uses; what the head says. -/
namespace PD
open PySem PySem.Spec PyProof.Rows L2
/-- a class's j-th statement -/
def mth (s : Stmt) (j : Nat) : Stmt := match s with
  | .ClassDef _ _ _ b .. => b.getD j (.Pass ⟨0, 0, 0, 0⟩)
  | s => s
def rNever : PD.TR := fun _ _ _ => False
/-- a caught exception's class whose field is read -/
structure FldK (K : Fr) (mg : Str → Option Value) (x f : Str) : Prop where
  ex : ∃ C : Addr, mg x = some (.ref C) ∧ PySem.W.exmOne K (.ref C) (.ref C) = some true ∧ XfC K C ∧ PySem.W.findIn K (.ref C) f = some none
def fldB (x f : Str) (K : Fr) : Bool := PySem.W.exmOne K (.ref (He.ga K x)) (.ref (He.ga K x)) == some true && (xfB K (He.ga K x) && PySem.W.findIn K (.ref (He.ga K x)) f == some none)
theorem fldK_of {K : Fr} {mg : Str → Option Value} {x f : Str} (g : mg x = some (.ref (He.ga K x))) (h : fldB x f K = true) : FldK K mg x f := by
  unfold fldB at h
  rw [Bool.and_eq_true, Bool.and_eq_true] at h
  obtain ⟨h1, h2, h3⟩ := h
  exact ⟨_, g, beq_iff_eq.mp h1, xfB_ok h2, beq_iff_eq.mp h3⟩
theorem catK_of {K : Fr} {mg : Str → Option Value} {x : Str} (g : mg x = some (.ref (He.ga K x))) (h : catB x K = true) : CatK K mg x := ⟨_, g, beq_iff_eq.mp h⟩
/-- a raise of such a class may be walked in room k -/
structure ExkC (P : Program) (w : World) (K : Fr) (mg : Str → Option Value) (base : Heap) (k : Nat) (x f : Str) : Prop where
  ex : ∃ j, j + 1 ≤ k ∧ ExkF P w K mg base j x f
theorem ExkC.mono {P : Program} {w : World} {K : Fr} {mg : Str → Option Value} {base : Heap} {j k : Nat} {x f : Str} (F : ExkC P w K mg base j x f) (h : j ≤ k) : ExkC P w K mg base k x f := by
  obtain ⟨i, hi, F⟩ := F.ex
  exact ⟨i, by omega, F⟩
theorem exkC_of {P : Program} {w : World} {K : Fr} {mg : Str → Option Value} {base : Heap} {x b f nm qual s y : Str} {params : Arguments} {body : List Stmt} {scope : Scope} {fd : FuncData} (F : FunD K nm qual params body scope [] [] (He.fAd K (x, some "__init__")) fd)
    (gx : mg x = some (.ref (He.ga K x))) (gb : mg b = some (.ref (He.ga K b))) (h : exkB x b f K = true) (S : FnScope [s, y] [s, y] scope) (bd : Binds K fd [s, y] [])
    (hb : BInit K (He.ga K b) → OexC K (He.ga K x) → PySem.W.findIn K (.ref (He.ga K x)) f = some none → ∀ (cdv : Value) (A : Around) (outer : List PySem.Env) (sh : Shared) (H0 : Hp) (E : XK) (a : Addr) (v : V) (H : Hp) (Q : VK), H a = some (exo a (He.ga K x) none) → (∀ dx, H dx = none → dx ≠ a → Q .non (upd (upd H dx (exd dx [(f, v)])) a (exo a (He.ga K x) (some dx)))) →
      ∃ t, PSs (cxOf (L2.CX P w) P w K mg base [s, y] qual scope (He.fAd K (x, some "__init__")) cdv A outer sh H0 E) body t ∧ t { nx := fun _ H' => Q .non H', rt := Q } [some (.ref a), some v] H) : ExkC P w K mg base 2 x f := by
  unfold exkB at h
  simp only [Bool.and_eq_true] at h
  obtain ⟨h1, h2, h3, h4, h5, h6, h7⟩ := h
  have TC := oexB_ok h1
  have TB := binB_ok h2
  have no := beq_iff_eq.mp h6
  refine ⟨1, Nat.le_refl _, ⟨_, _, _, _, gx, TC, beq_iff_eq.mp h3, beq_iff_eq.mp h4, F.ok (k := 0) (N := [s, y]) (ps := [s, y]) S keep_len fun cdv A outer sh H vs Q E hr ⟨a, v, ev, ha, k⟩ => ?_, bd, xfB_ok h5, no, beq_iff_eq.mp h7⟩⟩
  subst ev
  exact hb TB TC no cdv A outer sh H E a v H Q ha k
section
variable {X : Cx} {W : WX} {k : Nat} {c n m f : Str} {i j : Nat} {body : List Stmt} {np p1 p2 p3 p4 p5 p6 p7 p8 q1 q2 pos pr : Pos} {t N : PD.TS} {A : Expr} {jj : Nat} {e : Expr}
theorem pr_never : PR X W e rNever := pe_imp (pe_no (X := X)) fun σ H Q ⟨_, _, _, _, _, h, _⟩ => h.elim
theorem sd_raiseC {x : Str} {te : PD.TR} {p q : Pos} (F : ExkC X.prog X.w X.K X.mg X.base k x f) (hr : RoomG k X.A) (tk : Takes X W) (he : PR X W e te) (hc : X.calm = true := by rfl) (hg : Gl X x := by rfl) (hdb : (x == ("__debug__" : Str)) = false := by decide)
    (hst : starEach [e] X.env = (false, eval e X.env) :: starEach [] X.env := by rfl) (hpl : (backTo q (starEach [] X.env)).any (·.1) = false := by rfl) :
    PSd X W (.Raise (some (.Call (.Name x p) [e] [] q)) none pos) (sRaiseF x f te) := by
  obtain ⟨i, hi, F⟩ := F.ex
  exact sd_raiseF F (hr.mono hi) tk he hc hg hdb hst hpl
theorem ssd_tryF (Ck : FldK X.K X.mg c f) (hN : X.N.Nodup) (hb : ∀ (W : WX) (pn : List (Addr × Obj)) (xe : Value → Shared → Prop), Takes (X.tr pn xe) W → PassesOwn (model X.prog X.w) X.A X.env xe → PSsd (X.tr pn xe) W body t)
    (hn : PSd X W (.Return (some (.IfExp (.Compare (.Name m p5) [.Is] [.Constant .none jj p6] q1) A (.Attribute (.Name m p8) f q2) p7)) pr) N) (hi : X.N[i]? = some n := by rfl) (hj : X.N[j]? = some m := by rfl) (hij : i ≠ j := by decide)
    (hs : X.stack = X.env :: X.outer := by rfl) (hf : X.env.frame = some X.env.locals := by rfl) (hx : X.ex = [] := by rfl) (hln : X.env.kindOf n = some .local := by rfl) (hlm : X.env.kindOf m = some .local := by rfl)
    (hg : Gl X c := by rfl) (hdb : (c == ("__debug__" : Str)) = false := by decide) (hdn : (n == ("__debug__" : Str)) = false := by decide) (hcn : (n == ("__classdict__" : Str)) = false := by decide) (hdm : (m == ("__debug__" : Str)) = false := by decide) (hcm : (m == ("__classdict__" : Str)) = false := by decide)
    (hsw : swapsWith (.Name n p3) (some (.Name m p2)) p4.line X.env = pure false := by rfl) (hbm : behindInMarks .Is (.Constant .none jj p6) = false := by rfl) (hab : attributeBase (.Name m p8) f X.env (eval (.Name m p8) X.env) = eval (.Name m p8) X.env := by rfl) :
    PSsd X W [.Try body [.ExceptHandler (some (.Name c np)) (some n) [.Assign [.Name m p2] (.Name n p3) p4] p1] [] [] pos, .Return (some (.IfExp (.Compare (.Name m p5) [.Is] [.Constant .none jj p6] q1) A (.Attribute (.Name m p8) f q2) p7)) pr] (sTryX i j c (hFld f) t N) := by
  obtain ⟨C, hC, hm, T, no⟩ := Ck.ex
  refine ssd_tryX (X := X) hij ⟨C, hC, hm⟩ hs hf hx hN hi hln hj hlm hg hdb hdn hcn hb hn (ps_retF hj (.inl hlm) hdm hcm hbm hab) ?_ hsw
  rintro D B H B1 H1 env e1 σ σ1 E x cls d gd exc ⟨y, ef, hk⟩ p ⟨C', hC', ec, ok⟩ ⟨a, h1, h2⟩
  subst ec
  rw [ef] at ok
  obtain ⟨dx, v, rfl, h3, h4⟩ := ok
  rw [exc, hC] at hC'
  cases hC'
  exact ⟨a, C, dx, v, h1, h2, T, no, h3, gd.rt (.d y) e1 v σ1 B1 H1 hk p h4 trivial⟩
theorem ssd_tryB (Ck : CatK X.K X.mg c) (hN : X.N.Nodup) (hb : ∀ (W : WX) (pn : List (Addr × Obj)) (xe : Value → Shared → Prop), Takes (X.tr pn xe) W → PassesOwn (model X.prog X.w) X.A X.env xe → PSsd (X.tr pn xe) W body t)
    (hn : PSd X W (.Return (some (.Compare (.Name m p5) [.Is] [.Constant .none jj p6] q1)) pr) N) (hi : X.N[i]? = some n := by rfl) (hj : X.N[j]? = some m := by rfl) (hij : i ≠ j := by decide)
    (hs : X.stack = X.env :: X.outer := by rfl) (hf : X.env.frame = some X.env.locals := by rfl) (hx : X.ex = [] := by rfl) (hln : X.env.kindOf n = some .local := by rfl) (hlm : X.env.kindOf m = some .local := by rfl)
    (hg : Gl X c := by rfl) (hdb : (c == ("__debug__" : Str)) = false := by decide) (hdn : (n == ("__debug__" : Str)) = false := by decide) (hcn : (n == ("__classdict__" : Str)) = false := by decide) (hdm : (m == ("__debug__" : Str)) = false := by decide) (hcm : (m == ("__classdict__" : Str)) = false := by decide)
    (hsw : swapsWith (.Name n p3) (some (.Name m p2)) p4.line X.env = pure false := by rfl) (hbm : behindInMarks .Is (.Constant .none jj p6) = false := by rfl) :
    PSsd X W [.Try body [.ExceptHandler (some (.Name c np)) (some n) [.Assign [.Name m p2] (.Name n p3) p4] p1] [] [] pos, .Return (some (.Compare (.Name m p5) [.Is] [.Constant .none jj p6] q1)) pr] (sTryX i j c (hVal (.bool false)) t N) := by
  refine ssd_tryX (X := X) hij Ck hs hf hx hN hi hln hj hlm hg hdb hdn hcn hb hn (ps_retB hj (.inl hlm) hdm hcm hbm) ?_ hsw
  rintro D B H B1 H1 env e1 σ σ1 E x cls d gd exc hk p ok ⟨a, h1, h2⟩
  exact ⟨a, h1, gd.rt (.d (.bool false)) e1 (.bl false) σ1 B1 H1 hk p (.bl _) trivial⟩
theorem ssd_tryS {z : Str} {j2 : Nat} (Ck : CatK X.K X.mg c) (hN : X.N.Nodup) (hb : ∀ (W : WX) (pn : List (Addr × Obj)) (xe : Value → Shared → Prop), Takes (X.tr pn xe) W → PassesOwn (model X.prog X.w) X.A X.env xe → PSsd (X.tr pn xe) W body t)
    (hn : PSd X W (.Return (some (.IfExp (.Compare (.Name m p5) [.Is] [.Constant .none jj p6] q1) A (.Constant (.str z) j2 p8) p7)) pr) N) (hi : X.N[i]? = some n := by rfl) (hj : X.N[j]? = some m := by rfl) (hij : i ≠ j := by decide)
    (hs : X.stack = X.env :: X.outer := by rfl) (hf : X.env.frame = some X.env.locals := by rfl) (hx : X.ex = [] := by rfl) (hln : X.env.kindOf n = some .local := by rfl) (hlm : X.env.kindOf m = some .local := by rfl)
    (hg : Gl X c := by rfl) (hdb : (c == ("__debug__" : Str)) = false := by decide) (hdn : (n == ("__debug__" : Str)) = false := by decide) (hcn : (n == ("__classdict__" : Str)) = false := by decide) (hdm : (m == ("__debug__" : Str)) = false := by decide) (hcm : (m == ("__classdict__" : Str)) = false := by decide)
    (hsw : swapsWith (.Name n p3) (some (.Name m p2)) p4.line X.env = pure false := by rfl) (hbm : behindInMarks .Is (.Constant .none jj p6) = false := by rfl) :
    PSsd X W [.Try body [.ExceptHandler (some (.Name c np)) (some n) [.Assign [.Name m p2] (.Name n p3) p4] p1] [] [] pos, .Return (some (.IfExp (.Compare (.Name m p5) [.Is] [.Constant .none jj p6] q1) A (.Constant (.str z) j2 p8) p7)) pr] (sTryX i j c (hVal (.str z)) t N) := by
  refine ssd_tryX (X := X) hij Ck hs hf hx hN hi hln hj hlm hg hdb hdn hcn hb hn (ps_retS hj (.inl hlm) hdm hcm hbm) ?_ hsw
  rintro D B H B1 H1 env e1 σ σ1 E x cls d gd exc hk p ok ⟨a, h1, h2⟩
  exact ⟨a, h1, gd.rt (.d (.str z)) e1 (.str z) σ1 B1 H1 hk p (.str _) trivial⟩
end
end PD
end TE4_
section TE5_
set_option Elab.async false
set_option linter.all false
set_option maxRecDepth 100000
set_option maxHeartbeats 4000000
/-! TE5: the head's hook where a class is read (its reading asks what the statics say). -/
namespace PD
open PySem PySem.Spec PyProof.Rows L2
def obsPG2 (n : Nat) (fa : List He.Fa) (fn : List He.DefD) (ts : List He.Tab) (ex : List Ck) (g : Addr → Option Obj) : AlP := obsP fa fn ts ex (He.frG g (cStatics :: sysModules :: He.asD g n))
def hookP2 (n : Nat) (fa : List He.Fa) (fn : List He.DefD) (ts : List He.Tab) (ex : List Ck) : PySem.W.Hook where
  α := AlP
  obs := fun s => obsPG2 n fa fn ts ex s.heap.get?
  val := fun w => valP fn ts w
  says := fun w h => ∃ K : Fr, K.In h ∧ SaysP fa fn ts ex w K
  of := fun _ _ e => ⟨_, He.frG_in, e⟩
  keeps := fun _ _ _ ⟨K, hK, c⟩ k => ⟨K, PySem.W.Frag.In.keeps hK k, c⟩
theorem obsPG2_eq {n : Nat} {fa : List He.Fa} {fn : List He.DefD} {ts : List He.Tab} {ex : List Ck} {g : Addr → Option Obj} {s : Shared} (h : ∀ a, g a = s.heap.get? a) : obsPG2 n fa fn ts ex g = (hookP2 n fa fn ts ex).obs s := by
  have e : g = s.heap.get? := funext h
  subst e
  rfl
end PD
end TE5_
section H03_
set_option Elab.async false
set_option linter.all false
set_option maxRecDepth 100000
set_option maxHeartbeats 4000000
namespace LT
open PySem PySem.Spec PyProof.Rows L2 PD
def top (i : Nat) : Stmt := PySem.Challenge.pw_batchlimits_k03_traffic_repeated.main.body.getD i (.Pass ⟨0, 0, 0, 0⟩)
namespace C0
abbrev c_GREATEST : Int := 1000000000000000000000000000000
abbrev c_LETTERS : Str := "abcdefghijklmnopqrstuvwxyz"
abbrev c_MOST_ITEMS : Int := 40
abbrev c_MOST_LETTERS : Int := 8
end C0
def fn0 : List He.DefD := [⟨("is_integer", none), "is_integer", "is_integer", defArgs (top 11), defBody (top 11), defScope (top 11), [.non], []⟩, ⟨("is_kind", none), "is_kind", "is_kind", defArgs (top 12), defBody (top 12), defScope (top 12), [], []⟩, ⟨("is_item", none), "is_item", "is_item", defArgs (top 13), defBody (top 13), defScope (top 13), [], []⟩, ⟨("is_traffic", none), "is_traffic", "is_traffic", defArgs (top 14), defBody (top 14), defScope (top 14), [], []⟩, ⟨("require_traffic", none), "require_traffic", "require_traffic", defArgs (top 15), defBody (top 15), defScope (top 15), [], []⟩, ⟨("require_stretch", none), "require_stretch", "require_stretch", defArgs (top 16), defBody (top 16), defScope (top 16), [], []⟩, ⟨("measures_in", none), "measures_in", "measures_in", defArgs (top 17), defBody (top 17), defScope (top 17), [], []⟩, ⟨("times_of", none), "times_of", "times_of", defArgs (top 18), defBody (top 18), defScope (top 18), [], []⟩, ⟨("measures_of", none), "measures_of", "measures_of", defArgs (top 19), defBody (top 19), defScope (top 19), [], []⟩, ⟨("repeated", none), "repeated", "repeated", defArgs (top 20), defBody (top 20), defScope (top 20), [], []⟩, ⟨("_law_source", none), "_law_source", "_law_source", defArgs (top 22), defBody (top 22), defScope (top 22), [], []⟩, ⟨("_law_draw", none), "_law_draw", "_law_draw", defArgs (top 23), defBody (top 23), defScope (top 23), [], []⟩, ⟨("_law_kind", none), "_law_kind", "_law_kind", defArgs (top 24), defBody (top 24), defScope (top 24), [], []⟩, ⟨("_law_traffic", none), "_law_traffic", "_law_traffic", defArgs (top 25), defBody (top 25), defScope (top 25), [], []⟩, ⟨("_law_measures", none), "_law_measures", "_law_measures", defArgs (top 26), defBody (top 26), defScope (top 26), [], []⟩, ⟨("_law_limit_of", none), "_law_limit_of", "_law_limit_of", defArgs (top 27), defBody (top 27), defScope (top 27), [], []⟩, ⟨("_law_written", none), "_law_written", "_law_written", defArgs (top 28), defBody (top 28), defScope (top 28), [], []⟩, ⟨("_law_right", none), "_law_right", "_law_right", defArgs (top 29), defBody (top 29), defScope (top 29), [], []⟩, ⟨("law", none), "law", "law", defArgs (top 30), defBody (top 30), defScope (top 30), [], []⟩, ⟨("TooLarge", some "__init__"), "__init__", "TooLarge.__init__", defArgs (mth (top 5) 0), defBody (mth (top 5) 0), defScope (mth (top 5) 0), [], []⟩]
def fn : List He.DefD := fn0
def fa0 : List He.Fa := [.glo "is_integer", .glo "is_kind", .glo "is_item", .glo "is_traffic", .glo "require_traffic", .glo "require_stretch", .glo "measures_in", .glo "times_of", .glo "measures_of", .glo "repeated", .glo "_law_source", .glo "_law_draw", .glo "_law_kind", .glo "_law_traffic", .glo "_law_measures", .glo "_law_limit_of", .glo "_law_written", .glo "_law_right", .glo "law", .glo "InvalidNumber", .exc "InvalidNumber", .glo "InvalidStretch", .exc "InvalidStretch", .glo "InvalidTraffic", .exc "InvalidTraffic", .glo "TooLarge", .glo "BatchError", .int "GREATEST" 1000000000000000000000000000000, .str "LETTERS" "abcdefghijklmnopqrstuvwxyz", .int "MOST_ITEMS" 40]
def fa1 : List He.Fa := [.int "MOST_LETTERS" 8, .free "abs", .free "all", .free "bool", .free "int", .free "isinstance", .free "len", .free "list", .free "max", .free "min", .free "range", .free "repr", .free "set", .free "str", .free "sum", .free "tuple"]
def fa : List He.Fa := fa0 ++ fa1
def ts0 : List He.Tab := []
def ts : List He.Tab := ts0
def ex0 : List Ck := [fldB "TooLarge" "limit", exkB "TooLarge" "BatchError" "limit", sysIn]
def ex : List Ck := ex0
def names0 : List Str := ["BatchError", "InvalidTraffic", "InvalidStretch", "InvalidNumber", "TooLarge", "MOST_ITEMS", "GREATEST", "LETTERS", "MOST_LETTERS", "is_integer", "is_kind", "is_item", "is_traffic", "require_traffic", "require_stretch", "measures_in", "times_of", "measures_of", "repeated", "_law_source", "_law_draw", "_law_kind", "_law_traffic", "_law_measures", "_law_limit_of", "_law_written", "_law_right"]
def names : List Str := names0
abbrev R : PySem.W.OpenRow := PySem.W.OpenLaw.row PySem.Challenge.rw_batchlimits_k03_traffic_repeated
abbrev hk : PySem.W.Hook := hookP2 4 fa fn ts ex
def ob (s : PySem.W.SharedT) : AlP := obsPG2 4 fa fn ts ex (HandSHeadRun.getT s)
theorem ob_eq (s : PySem.W.SharedT) : ob s = hk.obs s.abs := obsPG2_eq (HandSHeadRun.getT_eq s)
set_option maxHeartbeats 0 in
theorem run (w : World) : HandSHeadRun.RunEq R (PySem.W.view R.prog [30]) hk ob 20000 names w :=
  PySem.W.byRow2 "special-get-raises" (P := fun w => HandSHeadRun.RunEq R (PySem.W.view R.prog [30]) hk ob 20000 names w) (fun w => by intro os; kernel_rfl) (fun w => by intro os; kernel_rfl) w
end LT
end H03_
section S0_
set_option Elab.async false
set_option linter.all false
set_option maxRecDepth 100000
/-! S0: readings worked out by simp, from the head: every rule goes ahead of its parts. -/
namespace PD
open PySem
/-- what hangs on a part that waits: simp does not go into it -/
structure Tg {α : Sort u} (P : α) : Type where
def ifp (c : Prop) (P : Prop) (_ : Tg P := ⟨⟩) : Prop := c ∧ P
theorem ifp_eq (c P : Prop) : ifp c P = (c ∧ P) := rfl
@[simp ↓] theorem ifp_t (P : Prop) : ifp True P = P := by simp [ifp]
theorem ifp_of {c P : Prop} (h : c) (p : P) : ifp c P := ⟨h, p⟩
def un {α : Type} (o : Option α) (P : α → Prop) (_ : Tg P := ⟨⟩) : Prop := ∃ z, o = some z ∧ P z
@[simp ↓] theorem un_some {α : Type} (a : α) (P : α → Prop) : un (some a) P = P a := by simp [un]
@[simp ↓] theorem un_none {α : Type} (P : α → Prop) : un none P = False := by simp [un]
@[simp ↓] theorem un_ite {α : Type} (c : Prop) [Decidable c] (a : α) (P : α → Prop) : un (if c then some a else none) P = ifp c (P a) := by by_cases h : c <;> simp [h, un, ifp]
theorem un_eq {α : Type} {o : Option α} {a : α} (h : o = some a) (P : α → Prop) : un o P = P a := by rw [h, un_some]
def isB (x : D) (P : Bool → Prop) (_ : Tg P := ⟨⟩) : Prop := ∃ b, x = .bool b ∧ P b
@[simp ↓] theorem isB_bool (b : Bool) (P : Bool → Prop) : isB (.bool b) P = P b := by simp [isB]
def isI (x : D) (P : Int → Prop) (_ : Tg P := ⟨⟩) : Prop := ∃ b, x = .int b ∧ P b
@[simp ↓] theorem isI_int (b : Int) (P : Int → Prop) : isI (.int b) P = P b := by simp [isI]
def isL (x : D) (P : List D → Prop) (_ : Tg P := ⟨⟩) : Prop := ∃ b, x = .list b ∧ P b
@[simp ↓] theorem isL_list (b : List D) (P : List D → Prop) : isL (.list b) P = P b := by simp [isL]
def isT (x : D) (P : List D → Prop) (_ : Tg P := ⟨⟩) : Prop := ∃ b, x = .tuple b ∧ P b
@[simp ↓] theorem isT_tup (b : List D) (P : List D → Prop) : isT (.tuple b) P = P b := by simp [isT]
def cs (xs : List D) (P : D → List D → Prop) (_ : Tg P := ⟨⟩) : Prop := ∃ x r, xs = x :: r ∧ P x r
@[simp ↓] theorem cs_cons (x : D) (r : List D) (P : D → List D → Prop) : cs (x :: r) P = P x r := propext ⟨fun ⟨_, _, e, h⟩ => by cases e; exact h, fun h => ⟨_, _, rfl, h⟩⟩
def br (b : Bool) (p q : Prop) (_ : Tg p := ⟨⟩) (_ : Tg q := ⟨⟩) : Prop := if b = true then p else q
@[simp ↓] theorem br_tt (p q : Prop) : br true p q = p := rfl
@[simp ↓] theorem br_ff (p q : Prop) : br false p q = q := rfl
@[simp ↓] theorem br_nt (p q : Prop) : br (!true) p q = q := rfl
@[simp ↓] theorem br_nf (p q : Prop) : br (!false) p q = p := rfl
theorem br_split {b : Bool} {p q : Prop} (h1 : b = true → p) (h2 : b = false → q) : br b p q := by cases b <;> simp_all [br]
theorem br_eq {b : Bool} {p q : Prop} (h : b = true) : br b p q = p := by rw [h]; rfl
theorem br_ne {b : Bool} {p q : Prop} (h : b = false) : br b p q = q := by rw [h]; rfl
def unB (o : Option Ret) (P : Bool → Prop) (_ : Tg P := ⟨⟩) : Prop := ∃ k, o = some (.d (.bool k)) ∧ P k
@[simp ↓] theorem unB_some (b : Bool) (P : Bool → Prop) : unB (some (.d (.bool b))) P = P b := by simp [unB]
/-- a slot's content; a store; an own list with what puts another in its place -/
def slE (i : Nat) (e : Env) (fd : D → Prop) (fo : List D → Prop) (ft : List (KeyD × D) → Prop) (_ : Tg fd := ⟨⟩) (_ : Tg fo := ⟨⟩) (_ : Tg ft := ⟨⟩) : Prop := match e[i]? with
  | some (.d x) => fd x
  | some (.own xs) => fo xs
  | some (.tab kvs) => ft kvs
  | _ => False
def put (i : Nat) (s : Sl) (e : Env) (P : Env → Prop) (_ : Tg P := ⟨⟩) : Prop := P (e.set i s)
def owX (i : Nat) (e : Env) (P : List D → (List D → Env) → Prop) (_ : Tg P := ⟨⟩) : Prop := ∃ s xs, e[i]? = some s ∧ ownOf s = some xs ∧ P xs fun ys => e.set i (s.put ys)

@[simp ↓] theorem put_0 (a s : Sl) (r : Env) (P : Env → Prop) : put 0 s (a :: r) P = P (s :: r) := rfl
@[simp ↓] theorem sl_0_d (x : D) (r : Env) (fd : D → Prop) (fo : List D → Prop) (ft : List (KeyD × D) → Prop) : slE 0 (.d x :: r) fd fo ft = fd x := rfl
@[simp ↓] theorem sl_0_o (x : List D) (r : Env) (fd : D → Prop) (fo : List D → Prop) (ft : List (KeyD × D) → Prop) : slE 0 (.own x :: r) fd fo ft = fo x := rfl
@[simp ↓] theorem sl_0_t (x : List (KeyD × D)) (r : Env) (fd : D → Prop) (fo : List D → Prop) (ft : List (KeyD × D) → Prop) : slE 0 (.tab x :: r) fd fo ft = ft x := rfl
@[simp ↓] theorem ow_0_o (xs : List D) (r : Env) (P : List D → (List D → Env) → Prop) : owX 0 (.own xs :: r) P = P xs fun ys => .own ys :: r := by unfold owX; simp [ownOf, Sl.put]
@[simp ↓] theorem ow_0_p (xs : List D) (r : Env) (P : List D → (List D → Env) → Prop) : owX 0 (.par xs :: r) P = P xs fun ys => .par ys :: r := by unfold owX; simp [ownOf, Sl.put]
@[simp ↓] theorem put_1 (s0 : Sl) (a s : Sl) (r : Env) (P : Env → Prop) : put 1 s (s0 :: a :: r) P = P (s0 :: s :: r) := rfl
@[simp ↓] theorem sl_1_d (s0 : Sl) (x : D) (r : Env) (fd : D → Prop) (fo : List D → Prop) (ft : List (KeyD × D) → Prop) : slE 1 (s0 :: .d x :: r) fd fo ft = fd x := rfl
@[simp ↓] theorem sl_1_o (s0 : Sl) (x : List D) (r : Env) (fd : D → Prop) (fo : List D → Prop) (ft : List (KeyD × D) → Prop) : slE 1 (s0 :: .own x :: r) fd fo ft = fo x := rfl
@[simp ↓] theorem sl_1_t (s0 : Sl) (x : List (KeyD × D)) (r : Env) (fd : D → Prop) (fo : List D → Prop) (ft : List (KeyD × D) → Prop) : slE 1 (s0 :: .tab x :: r) fd fo ft = ft x := rfl
@[simp ↓] theorem ow_1_o (s0 : Sl) (xs : List D) (r : Env) (P : List D → (List D → Env) → Prop) : owX 1 (s0 :: .own xs :: r) P = P xs fun ys => s0 :: .own ys :: r := by unfold owX; simp [ownOf, Sl.put]
@[simp ↓] theorem ow_1_p (s0 : Sl) (xs : List D) (r : Env) (P : List D → (List D → Env) → Prop) : owX 1 (s0 :: .par xs :: r) P = P xs fun ys => s0 :: .par ys :: r := by unfold owX; simp [ownOf, Sl.put]
@[simp ↓] theorem put_2 (s0 s1 : Sl) (a s : Sl) (r : Env) (P : Env → Prop) : put 2 s (s0 :: s1 :: a :: r) P = P (s0 :: s1 :: s :: r) := rfl
@[simp ↓] theorem sl_2_d (s0 s1 : Sl) (x : D) (r : Env) (fd : D → Prop) (fo : List D → Prop) (ft : List (KeyD × D) → Prop) : slE 2 (s0 :: s1 :: .d x :: r) fd fo ft = fd x := rfl
@[simp ↓] theorem sl_2_o (s0 s1 : Sl) (x : List D) (r : Env) (fd : D → Prop) (fo : List D → Prop) (ft : List (KeyD × D) → Prop) : slE 2 (s0 :: s1 :: .own x :: r) fd fo ft = fo x := rfl
@[simp ↓] theorem sl_2_t (s0 s1 : Sl) (x : List (KeyD × D)) (r : Env) (fd : D → Prop) (fo : List D → Prop) (ft : List (KeyD × D) → Prop) : slE 2 (s0 :: s1 :: .tab x :: r) fd fo ft = ft x := rfl
@[simp ↓] theorem ow_2_o (s0 s1 : Sl) (xs : List D) (r : Env) (P : List D → (List D → Env) → Prop) : owX 2 (s0 :: s1 :: .own xs :: r) P = P xs fun ys => s0 :: s1 :: .own ys :: r := by unfold owX; simp [ownOf, Sl.put]
@[simp ↓] theorem ow_2_p (s0 s1 : Sl) (xs : List D) (r : Env) (P : List D → (List D → Env) → Prop) : owX 2 (s0 :: s1 :: .par xs :: r) P = P xs fun ys => s0 :: s1 :: .par ys :: r := by unfold owX; simp [ownOf, Sl.put]
@[simp ↓] theorem put_3 (s0 s1 s2 : Sl) (a s : Sl) (r : Env) (P : Env → Prop) : put 3 s (s0 :: s1 :: s2 :: a :: r) P = P (s0 :: s1 :: s2 :: s :: r) := rfl
@[simp ↓] theorem sl_3_d (s0 s1 s2 : Sl) (x : D) (r : Env) (fd : D → Prop) (fo : List D → Prop) (ft : List (KeyD × D) → Prop) : slE 3 (s0 :: s1 :: s2 :: .d x :: r) fd fo ft = fd x := rfl
@[simp ↓] theorem sl_3_o (s0 s1 s2 : Sl) (x : List D) (r : Env) (fd : D → Prop) (fo : List D → Prop) (ft : List (KeyD × D) → Prop) : slE 3 (s0 :: s1 :: s2 :: .own x :: r) fd fo ft = fo x := rfl
@[simp ↓] theorem sl_3_t (s0 s1 s2 : Sl) (x : List (KeyD × D)) (r : Env) (fd : D → Prop) (fo : List D → Prop) (ft : List (KeyD × D) → Prop) : slE 3 (s0 :: s1 :: s2 :: .tab x :: r) fd fo ft = ft x := rfl
@[simp ↓] theorem ow_3_o (s0 s1 s2 : Sl) (xs : List D) (r : Env) (P : List D → (List D → Env) → Prop) : owX 3 (s0 :: s1 :: s2 :: .own xs :: r) P = P xs fun ys => s0 :: s1 :: s2 :: .own ys :: r := by unfold owX; simp [ownOf, Sl.put]
@[simp ↓] theorem ow_3_p (s0 s1 s2 : Sl) (xs : List D) (r : Env) (P : List D → (List D → Env) → Prop) : owX 3 (s0 :: s1 :: s2 :: .par xs :: r) P = P xs fun ys => s0 :: s1 :: s2 :: .par ys :: r := by unfold owX; simp [ownOf, Sl.put]
@[simp ↓] theorem put_4 (s0 s1 s2 s3 : Sl) (a s : Sl) (r : Env) (P : Env → Prop) : put 4 s (s0 :: s1 :: s2 :: s3 :: a :: r) P = P (s0 :: s1 :: s2 :: s3 :: s :: r) := rfl
@[simp ↓] theorem sl_4_d (s0 s1 s2 s3 : Sl) (x : D) (r : Env) (fd : D → Prop) (fo : List D → Prop) (ft : List (KeyD × D) → Prop) : slE 4 (s0 :: s1 :: s2 :: s3 :: .d x :: r) fd fo ft = fd x := rfl
@[simp ↓] theorem sl_4_o (s0 s1 s2 s3 : Sl) (x : List D) (r : Env) (fd : D → Prop) (fo : List D → Prop) (ft : List (KeyD × D) → Prop) : slE 4 (s0 :: s1 :: s2 :: s3 :: .own x :: r) fd fo ft = fo x := rfl
@[simp ↓] theorem sl_4_t (s0 s1 s2 s3 : Sl) (x : List (KeyD × D)) (r : Env) (fd : D → Prop) (fo : List D → Prop) (ft : List (KeyD × D) → Prop) : slE 4 (s0 :: s1 :: s2 :: s3 :: .tab x :: r) fd fo ft = ft x := rfl
@[simp ↓] theorem ow_4_o (s0 s1 s2 s3 : Sl) (xs : List D) (r : Env) (P : List D → (List D → Env) → Prop) : owX 4 (s0 :: s1 :: s2 :: s3 :: .own xs :: r) P = P xs fun ys => s0 :: s1 :: s2 :: s3 :: .own ys :: r := by unfold owX; simp [ownOf, Sl.put]
@[simp ↓] theorem ow_4_p (s0 s1 s2 s3 : Sl) (xs : List D) (r : Env) (P : List D → (List D → Env) → Prop) : owX 4 (s0 :: s1 :: s2 :: s3 :: .par xs :: r) P = P xs fun ys => s0 :: s1 :: s2 :: s3 :: .par ys :: r := by unfold owX; simp [ownOf, Sl.put]
@[simp ↓] theorem put_5 (s0 s1 s2 s3 s4 : Sl) (a s : Sl) (r : Env) (P : Env → Prop) : put 5 s (s0 :: s1 :: s2 :: s3 :: s4 :: a :: r) P = P (s0 :: s1 :: s2 :: s3 :: s4 :: s :: r) := rfl
@[simp ↓] theorem sl_5_d (s0 s1 s2 s3 s4 : Sl) (x : D) (r : Env) (fd : D → Prop) (fo : List D → Prop) (ft : List (KeyD × D) → Prop) : slE 5 (s0 :: s1 :: s2 :: s3 :: s4 :: .d x :: r) fd fo ft = fd x := rfl
@[simp ↓] theorem sl_5_o (s0 s1 s2 s3 s4 : Sl) (x : List D) (r : Env) (fd : D → Prop) (fo : List D → Prop) (ft : List (KeyD × D) → Prop) : slE 5 (s0 :: s1 :: s2 :: s3 :: s4 :: .own x :: r) fd fo ft = fo x := rfl
@[simp ↓] theorem sl_5_t (s0 s1 s2 s3 s4 : Sl) (x : List (KeyD × D)) (r : Env) (fd : D → Prop) (fo : List D → Prop) (ft : List (KeyD × D) → Prop) : slE 5 (s0 :: s1 :: s2 :: s3 :: s4 :: .tab x :: r) fd fo ft = ft x := rfl
@[simp ↓] theorem ow_5_o (s0 s1 s2 s3 s4 : Sl) (xs : List D) (r : Env) (P : List D → (List D → Env) → Prop) : owX 5 (s0 :: s1 :: s2 :: s3 :: s4 :: .own xs :: r) P = P xs fun ys => s0 :: s1 :: s2 :: s3 :: s4 :: .own ys :: r := by unfold owX; simp [ownOf, Sl.put]
@[simp ↓] theorem ow_5_p (s0 s1 s2 s3 s4 : Sl) (xs : List D) (r : Env) (P : List D → (List D → Env) → Prop) : owX 5 (s0 :: s1 :: s2 :: s3 :: s4 :: .par xs :: r) P = P xs fun ys => s0 :: s1 :: s2 :: s3 :: s4 :: .par ys :: r := by unfold owX; simp [ownOf, Sl.put]
@[simp ↓] theorem put_6 (s0 s1 s2 s3 s4 s5 : Sl) (a s : Sl) (r : Env) (P : Env → Prop) : put 6 s (s0 :: s1 :: s2 :: s3 :: s4 :: s5 :: a :: r) P = P (s0 :: s1 :: s2 :: s3 :: s4 :: s5 :: s :: r) := rfl
@[simp ↓] theorem sl_6_d (s0 s1 s2 s3 s4 s5 : Sl) (x : D) (r : Env) (fd : D → Prop) (fo : List D → Prop) (ft : List (KeyD × D) → Prop) : slE 6 (s0 :: s1 :: s2 :: s3 :: s4 :: s5 :: .d x :: r) fd fo ft = fd x := rfl
@[simp ↓] theorem sl_6_o (s0 s1 s2 s3 s4 s5 : Sl) (x : List D) (r : Env) (fd : D → Prop) (fo : List D → Prop) (ft : List (KeyD × D) → Prop) : slE 6 (s0 :: s1 :: s2 :: s3 :: s4 :: s5 :: .own x :: r) fd fo ft = fo x := rfl
@[simp ↓] theorem sl_6_t (s0 s1 s2 s3 s4 s5 : Sl) (x : List (KeyD × D)) (r : Env) (fd : D → Prop) (fo : List D → Prop) (ft : List (KeyD × D) → Prop) : slE 6 (s0 :: s1 :: s2 :: s3 :: s4 :: s5 :: .tab x :: r) fd fo ft = ft x := rfl
@[simp ↓] theorem ow_6_o (s0 s1 s2 s3 s4 s5 : Sl) (xs : List D) (r : Env) (P : List D → (List D → Env) → Prop) : owX 6 (s0 :: s1 :: s2 :: s3 :: s4 :: s5 :: .own xs :: r) P = P xs fun ys => s0 :: s1 :: s2 :: s3 :: s4 :: s5 :: .own ys :: r := by unfold owX; simp [ownOf, Sl.put]
@[simp ↓] theorem ow_6_p (s0 s1 s2 s3 s4 s5 : Sl) (xs : List D) (r : Env) (P : List D → (List D → Env) → Prop) : owX 6 (s0 :: s1 :: s2 :: s3 :: s4 :: s5 :: .par xs :: r) P = P xs fun ys => s0 :: s1 :: s2 :: s3 :: s4 :: s5 :: .par ys :: r := by unfold owX; simp [ownOf, Sl.put]
@[simp ↓] theorem put_7 (s0 s1 s2 s3 s4 s5 s6 : Sl) (a s : Sl) (r : Env) (P : Env → Prop) : put 7 s (s0 :: s1 :: s2 :: s3 :: s4 :: s5 :: s6 :: a :: r) P = P (s0 :: s1 :: s2 :: s3 :: s4 :: s5 :: s6 :: s :: r) := rfl
@[simp ↓] theorem sl_7_d (s0 s1 s2 s3 s4 s5 s6 : Sl) (x : D) (r : Env) (fd : D → Prop) (fo : List D → Prop) (ft : List (KeyD × D) → Prop) : slE 7 (s0 :: s1 :: s2 :: s3 :: s4 :: s5 :: s6 :: .d x :: r) fd fo ft = fd x := rfl
@[simp ↓] theorem sl_7_o (s0 s1 s2 s3 s4 s5 s6 : Sl) (x : List D) (r : Env) (fd : D → Prop) (fo : List D → Prop) (ft : List (KeyD × D) → Prop) : slE 7 (s0 :: s1 :: s2 :: s3 :: s4 :: s5 :: s6 :: .own x :: r) fd fo ft = fo x := rfl
@[simp ↓] theorem sl_7_t (s0 s1 s2 s3 s4 s5 s6 : Sl) (x : List (KeyD × D)) (r : Env) (fd : D → Prop) (fo : List D → Prop) (ft : List (KeyD × D) → Prop) : slE 7 (s0 :: s1 :: s2 :: s3 :: s4 :: s5 :: s6 :: .tab x :: r) fd fo ft = ft x := rfl
@[simp ↓] theorem ow_7_o (s0 s1 s2 s3 s4 s5 s6 : Sl) (xs : List D) (r : Env) (P : List D → (List D → Env) → Prop) : owX 7 (s0 :: s1 :: s2 :: s3 :: s4 :: s5 :: s6 :: .own xs :: r) P = P xs fun ys => s0 :: s1 :: s2 :: s3 :: s4 :: s5 :: s6 :: .own ys :: r := by unfold owX; simp [ownOf, Sl.put]
@[simp ↓] theorem ow_7_p (s0 s1 s2 s3 s4 s5 s6 : Sl) (xs : List D) (r : Env) (P : List D → (List D → Env) → Prop) : owX 7 (s0 :: s1 :: s2 :: s3 :: s4 :: s5 :: s6 :: .par xs :: r) P = P xs fun ys => s0 :: s1 :: s2 :: s3 :: s4 :: s5 :: s6 :: .par ys :: r := by unfold owX; simp [ownOf, Sl.put]
@[simp ↓] theorem put_8 (s0 s1 s2 s3 s4 s5 s6 s7 : Sl) (a s : Sl) (r : Env) (P : Env → Prop) : put 8 s (s0 :: s1 :: s2 :: s3 :: s4 :: s5 :: s6 :: s7 :: a :: r) P = P (s0 :: s1 :: s2 :: s3 :: s4 :: s5 :: s6 :: s7 :: s :: r) := rfl
@[simp ↓] theorem sl_8_d (s0 s1 s2 s3 s4 s5 s6 s7 : Sl) (x : D) (r : Env) (fd : D → Prop) (fo : List D → Prop) (ft : List (KeyD × D) → Prop) : slE 8 (s0 :: s1 :: s2 :: s3 :: s4 :: s5 :: s6 :: s7 :: .d x :: r) fd fo ft = fd x := rfl
@[simp ↓] theorem sl_8_o (s0 s1 s2 s3 s4 s5 s6 s7 : Sl) (x : List D) (r : Env) (fd : D → Prop) (fo : List D → Prop) (ft : List (KeyD × D) → Prop) : slE 8 (s0 :: s1 :: s2 :: s3 :: s4 :: s5 :: s6 :: s7 :: .own x :: r) fd fo ft = fo x := rfl
@[simp ↓] theorem sl_8_t (s0 s1 s2 s3 s4 s5 s6 s7 : Sl) (x : List (KeyD × D)) (r : Env) (fd : D → Prop) (fo : List D → Prop) (ft : List (KeyD × D) → Prop) : slE 8 (s0 :: s1 :: s2 :: s3 :: s4 :: s5 :: s6 :: s7 :: .tab x :: r) fd fo ft = ft x := rfl
@[simp ↓] theorem ow_8_o (s0 s1 s2 s3 s4 s5 s6 s7 : Sl) (xs : List D) (r : Env) (P : List D → (List D → Env) → Prop) : owX 8 (s0 :: s1 :: s2 :: s3 :: s4 :: s5 :: s6 :: s7 :: .own xs :: r) P = P xs fun ys => s0 :: s1 :: s2 :: s3 :: s4 :: s5 :: s6 :: s7 :: .own ys :: r := by unfold owX; simp [ownOf, Sl.put]
@[simp ↓] theorem ow_8_p (s0 s1 s2 s3 s4 s5 s6 s7 : Sl) (xs : List D) (r : Env) (P : List D → (List D → Env) → Prop) : owX 8 (s0 :: s1 :: s2 :: s3 :: s4 :: s5 :: s6 :: s7 :: .par xs :: r) P = P xs fun ys => s0 :: s1 :: s2 :: s3 :: s4 :: s5 :: s6 :: s7 :: .par ys :: r := by unfold owX; simp [ownOf, Sl.put]
@[simp ↓] theorem put_9 (s0 s1 s2 s3 s4 s5 s6 s7 s8 : Sl) (a s : Sl) (r : Env) (P : Env → Prop) : put 9 s (s0 :: s1 :: s2 :: s3 :: s4 :: s5 :: s6 :: s7 :: s8 :: a :: r) P = P (s0 :: s1 :: s2 :: s3 :: s4 :: s5 :: s6 :: s7 :: s8 :: s :: r) := rfl
@[simp ↓] theorem sl_9_d (s0 s1 s2 s3 s4 s5 s6 s7 s8 : Sl) (x : D) (r : Env) (fd : D → Prop) (fo : List D → Prop) (ft : List (KeyD × D) → Prop) : slE 9 (s0 :: s1 :: s2 :: s3 :: s4 :: s5 :: s6 :: s7 :: s8 :: .d x :: r) fd fo ft = fd x := rfl
@[simp ↓] theorem sl_9_o (s0 s1 s2 s3 s4 s5 s6 s7 s8 : Sl) (x : List D) (r : Env) (fd : D → Prop) (fo : List D → Prop) (ft : List (KeyD × D) → Prop) : slE 9 (s0 :: s1 :: s2 :: s3 :: s4 :: s5 :: s6 :: s7 :: s8 :: .own x :: r) fd fo ft = fo x := rfl
@[simp ↓] theorem sl_9_t (s0 s1 s2 s3 s4 s5 s6 s7 s8 : Sl) (x : List (KeyD × D)) (r : Env) (fd : D → Prop) (fo : List D → Prop) (ft : List (KeyD × D) → Prop) : slE 9 (s0 :: s1 :: s2 :: s3 :: s4 :: s5 :: s6 :: s7 :: s8 :: .tab x :: r) fd fo ft = ft x := rfl
@[simp ↓] theorem ow_9_o (s0 s1 s2 s3 s4 s5 s6 s7 s8 : Sl) (xs : List D) (r : Env) (P : List D → (List D → Env) → Prop) : owX 9 (s0 :: s1 :: s2 :: s3 :: s4 :: s5 :: s6 :: s7 :: s8 :: .own xs :: r) P = P xs fun ys => s0 :: s1 :: s2 :: s3 :: s4 :: s5 :: s6 :: s7 :: s8 :: .own ys :: r := by unfold owX; simp [ownOf, Sl.put]
@[simp ↓] theorem ow_9_p (s0 s1 s2 s3 s4 s5 s6 s7 s8 : Sl) (xs : List D) (r : Env) (P : List D → (List D → Env) → Prop) : owX 9 (s0 :: s1 :: s2 :: s3 :: s4 :: s5 :: s6 :: s7 :: s8 :: .par xs :: r) P = P xs fun ys => s0 :: s1 :: s2 :: s3 :: s4 :: s5 :: s6 :: s7 :: s8 :: .par ys :: r := by unfold owX; simp [ownOf, Sl.put]
@[simp ↓] theorem put_10 (s0 s1 s2 s3 s4 s5 s6 s7 s8 s9 : Sl) (a s : Sl) (r : Env) (P : Env → Prop) : put 10 s (s0 :: s1 :: s2 :: s3 :: s4 :: s5 :: s6 :: s7 :: s8 :: s9 :: a :: r) P = P (s0 :: s1 :: s2 :: s3 :: s4 :: s5 :: s6 :: s7 :: s8 :: s9 :: s :: r) := rfl
@[simp ↓] theorem sl_10_d (s0 s1 s2 s3 s4 s5 s6 s7 s8 s9 : Sl) (x : D) (r : Env) (fd : D → Prop) (fo : List D → Prop) (ft : List (KeyD × D) → Prop) : slE 10 (s0 :: s1 :: s2 :: s3 :: s4 :: s5 :: s6 :: s7 :: s8 :: s9 :: .d x :: r) fd fo ft = fd x := rfl
@[simp ↓] theorem sl_10_o (s0 s1 s2 s3 s4 s5 s6 s7 s8 s9 : Sl) (x : List D) (r : Env) (fd : D → Prop) (fo : List D → Prop) (ft : List (KeyD × D) → Prop) : slE 10 (s0 :: s1 :: s2 :: s3 :: s4 :: s5 :: s6 :: s7 :: s8 :: s9 :: .own x :: r) fd fo ft = fo x := rfl
@[simp ↓] theorem sl_10_t (s0 s1 s2 s3 s4 s5 s6 s7 s8 s9 : Sl) (x : List (KeyD × D)) (r : Env) (fd : D → Prop) (fo : List D → Prop) (ft : List (KeyD × D) → Prop) : slE 10 (s0 :: s1 :: s2 :: s3 :: s4 :: s5 :: s6 :: s7 :: s8 :: s9 :: .tab x :: r) fd fo ft = ft x := rfl
@[simp ↓] theorem ow_10_o (s0 s1 s2 s3 s4 s5 s6 s7 s8 s9 : Sl) (xs : List D) (r : Env) (P : List D → (List D → Env) → Prop) : owX 10 (s0 :: s1 :: s2 :: s3 :: s4 :: s5 :: s6 :: s7 :: s8 :: s9 :: .own xs :: r) P = P xs fun ys => s0 :: s1 :: s2 :: s3 :: s4 :: s5 :: s6 :: s7 :: s8 :: s9 :: .own ys :: r := by unfold owX; simp [ownOf, Sl.put]
@[simp ↓] theorem ow_10_p (s0 s1 s2 s3 s4 s5 s6 s7 s8 s9 : Sl) (xs : List D) (r : Env) (P : List D → (List D → Env) → Prop) : owX 10 (s0 :: s1 :: s2 :: s3 :: s4 :: s5 :: s6 :: s7 :: s8 :: s9 :: .par xs :: r) P = P xs fun ys => s0 :: s1 :: s2 :: s3 :: s4 :: s5 :: s6 :: s7 :: s8 :: s9 :: .par ys :: r := by unfold owX; simp [ownOf, Sl.put]
@[simp ↓] theorem put_11 (s0 s1 s2 s3 s4 s5 s6 s7 s8 s9 s10 : Sl) (a s : Sl) (r : Env) (P : Env → Prop) : put 11 s (s0 :: s1 :: s2 :: s3 :: s4 :: s5 :: s6 :: s7 :: s8 :: s9 :: s10 :: a :: r) P = P (s0 :: s1 :: s2 :: s3 :: s4 :: s5 :: s6 :: s7 :: s8 :: s9 :: s10 :: s :: r) := rfl
@[simp ↓] theorem sl_11_d (s0 s1 s2 s3 s4 s5 s6 s7 s8 s9 s10 : Sl) (x : D) (r : Env) (fd : D → Prop) (fo : List D → Prop) (ft : List (KeyD × D) → Prop) : slE 11 (s0 :: s1 :: s2 :: s3 :: s4 :: s5 :: s6 :: s7 :: s8 :: s9 :: s10 :: .d x :: r) fd fo ft = fd x := rfl
@[simp ↓] theorem sl_11_o (s0 s1 s2 s3 s4 s5 s6 s7 s8 s9 s10 : Sl) (x : List D) (r : Env) (fd : D → Prop) (fo : List D → Prop) (ft : List (KeyD × D) → Prop) : slE 11 (s0 :: s1 :: s2 :: s3 :: s4 :: s5 :: s6 :: s7 :: s8 :: s9 :: s10 :: .own x :: r) fd fo ft = fo x := rfl
@[simp ↓] theorem sl_11_t (s0 s1 s2 s3 s4 s5 s6 s7 s8 s9 s10 : Sl) (x : List (KeyD × D)) (r : Env) (fd : D → Prop) (fo : List D → Prop) (ft : List (KeyD × D) → Prop) : slE 11 (s0 :: s1 :: s2 :: s3 :: s4 :: s5 :: s6 :: s7 :: s8 :: s9 :: s10 :: .tab x :: r) fd fo ft = ft x := rfl
@[simp ↓] theorem ow_11_o (s0 s1 s2 s3 s4 s5 s6 s7 s8 s9 s10 : Sl) (xs : List D) (r : Env) (P : List D → (List D → Env) → Prop) : owX 11 (s0 :: s1 :: s2 :: s3 :: s4 :: s5 :: s6 :: s7 :: s8 :: s9 :: s10 :: .own xs :: r) P = P xs fun ys => s0 :: s1 :: s2 :: s3 :: s4 :: s5 :: s6 :: s7 :: s8 :: s9 :: s10 :: .own ys :: r := by unfold owX; simp [ownOf, Sl.put]
@[simp ↓] theorem ow_11_p (s0 s1 s2 s3 s4 s5 s6 s7 s8 s9 s10 : Sl) (xs : List D) (r : Env) (P : List D → (List D → Env) → Prop) : owX 11 (s0 :: s1 :: s2 :: s3 :: s4 :: s5 :: s6 :: s7 :: s8 :: s9 :: s10 :: .par xs :: r) P = P xs fun ys => s0 :: s1 :: s2 :: s3 :: s4 :: s5 :: s6 :: s7 :: s8 :: s9 :: s10 :: .par ys :: r := by unfold owX; simp [ownOf, Sl.put]
@[simp ↓] theorem put_12 (s0 s1 s2 s3 s4 s5 s6 s7 s8 s9 s10 s11 : Sl) (a s : Sl) (r : Env) (P : Env → Prop) : put 12 s (s0 :: s1 :: s2 :: s3 :: s4 :: s5 :: s6 :: s7 :: s8 :: s9 :: s10 :: s11 :: a :: r) P = P (s0 :: s1 :: s2 :: s3 :: s4 :: s5 :: s6 :: s7 :: s8 :: s9 :: s10 :: s11 :: s :: r) := rfl
@[simp ↓] theorem sl_12_d (s0 s1 s2 s3 s4 s5 s6 s7 s8 s9 s10 s11 : Sl) (x : D) (r : Env) (fd : D → Prop) (fo : List D → Prop) (ft : List (KeyD × D) → Prop) : slE 12 (s0 :: s1 :: s2 :: s3 :: s4 :: s5 :: s6 :: s7 :: s8 :: s9 :: s10 :: s11 :: .d x :: r) fd fo ft = fd x := rfl
@[simp ↓] theorem sl_12_o (s0 s1 s2 s3 s4 s5 s6 s7 s8 s9 s10 s11 : Sl) (x : List D) (r : Env) (fd : D → Prop) (fo : List D → Prop) (ft : List (KeyD × D) → Prop) : slE 12 (s0 :: s1 :: s2 :: s3 :: s4 :: s5 :: s6 :: s7 :: s8 :: s9 :: s10 :: s11 :: .own x :: r) fd fo ft = fo x := rfl
@[simp ↓] theorem sl_12_t (s0 s1 s2 s3 s4 s5 s6 s7 s8 s9 s10 s11 : Sl) (x : List (KeyD × D)) (r : Env) (fd : D → Prop) (fo : List D → Prop) (ft : List (KeyD × D) → Prop) : slE 12 (s0 :: s1 :: s2 :: s3 :: s4 :: s5 :: s6 :: s7 :: s8 :: s9 :: s10 :: s11 :: .tab x :: r) fd fo ft = ft x := rfl
@[simp ↓] theorem ow_12_o (s0 s1 s2 s3 s4 s5 s6 s7 s8 s9 s10 s11 : Sl) (xs : List D) (r : Env) (P : List D → (List D → Env) → Prop) : owX 12 (s0 :: s1 :: s2 :: s3 :: s4 :: s5 :: s6 :: s7 :: s8 :: s9 :: s10 :: s11 :: .own xs :: r) P = P xs fun ys => s0 :: s1 :: s2 :: s3 :: s4 :: s5 :: s6 :: s7 :: s8 :: s9 :: s10 :: s11 :: .own ys :: r := by unfold owX; simp [ownOf, Sl.put]
@[simp ↓] theorem ow_12_p (s0 s1 s2 s3 s4 s5 s6 s7 s8 s9 s10 s11 : Sl) (xs : List D) (r : Env) (P : List D → (List D → Env) → Prop) : owX 12 (s0 :: s1 :: s2 :: s3 :: s4 :: s5 :: s6 :: s7 :: s8 :: s9 :: s10 :: s11 :: .par xs :: r) P = P xs fun ys => s0 :: s1 :: s2 :: s3 :: s4 :: s5 :: s6 :: s7 :: s8 :: s9 :: s10 :: s11 :: .par ys :: r := by unfold owX; simp [ownOf, Sl.put]
@[simp ↓] theorem put_13 (s0 s1 s2 s3 s4 s5 s6 s7 s8 s9 s10 s11 s12 : Sl) (a s : Sl) (r : Env) (P : Env → Prop) : put 13 s (s0 :: s1 :: s2 :: s3 :: s4 :: s5 :: s6 :: s7 :: s8 :: s9 :: s10 :: s11 :: s12 :: a :: r) P = P (s0 :: s1 :: s2 :: s3 :: s4 :: s5 :: s6 :: s7 :: s8 :: s9 :: s10 :: s11 :: s12 :: s :: r) := rfl
@[simp ↓] theorem sl_13_d (s0 s1 s2 s3 s4 s5 s6 s7 s8 s9 s10 s11 s12 : Sl) (x : D) (r : Env) (fd : D → Prop) (fo : List D → Prop) (ft : List (KeyD × D) → Prop) : slE 13 (s0 :: s1 :: s2 :: s3 :: s4 :: s5 :: s6 :: s7 :: s8 :: s9 :: s10 :: s11 :: s12 :: .d x :: r) fd fo ft = fd x := rfl
@[simp ↓] theorem sl_13_o (s0 s1 s2 s3 s4 s5 s6 s7 s8 s9 s10 s11 s12 : Sl) (x : List D) (r : Env) (fd : D → Prop) (fo : List D → Prop) (ft : List (KeyD × D) → Prop) : slE 13 (s0 :: s1 :: s2 :: s3 :: s4 :: s5 :: s6 :: s7 :: s8 :: s9 :: s10 :: s11 :: s12 :: .own x :: r) fd fo ft = fo x := rfl
@[simp ↓] theorem sl_13_t (s0 s1 s2 s3 s4 s5 s6 s7 s8 s9 s10 s11 s12 : Sl) (x : List (KeyD × D)) (r : Env) (fd : D → Prop) (fo : List D → Prop) (ft : List (KeyD × D) → Prop) : slE 13 (s0 :: s1 :: s2 :: s3 :: s4 :: s5 :: s6 :: s7 :: s8 :: s9 :: s10 :: s11 :: s12 :: .tab x :: r) fd fo ft = ft x := rfl
@[simp ↓] theorem ow_13_o (s0 s1 s2 s3 s4 s5 s6 s7 s8 s9 s10 s11 s12 : Sl) (xs : List D) (r : Env) (P : List D → (List D → Env) → Prop) : owX 13 (s0 :: s1 :: s2 :: s3 :: s4 :: s5 :: s6 :: s7 :: s8 :: s9 :: s10 :: s11 :: s12 :: .own xs :: r) P = P xs fun ys => s0 :: s1 :: s2 :: s3 :: s4 :: s5 :: s6 :: s7 :: s8 :: s9 :: s10 :: s11 :: s12 :: .own ys :: r := by unfold owX; simp [ownOf, Sl.put]
@[simp ↓] theorem ow_13_p (s0 s1 s2 s3 s4 s5 s6 s7 s8 s9 s10 s11 s12 : Sl) (xs : List D) (r : Env) (P : List D → (List D → Env) → Prop) : owX 13 (s0 :: s1 :: s2 :: s3 :: s4 :: s5 :: s6 :: s7 :: s8 :: s9 :: s10 :: s11 :: s12 :: .par xs :: r) P = P xs fun ys => s0 :: s1 :: s2 :: s3 :: s4 :: s5 :: s6 :: s7 :: s8 :: s9 :: s10 :: s11 :: s12 :: .par ys :: r := by unfold owX; simp [ownOf, Sl.put]
@[simp ↓] theorem put_14 (s0 s1 s2 s3 s4 s5 s6 s7 s8 s9 s10 s11 s12 s13 : Sl) (a s : Sl) (r : Env) (P : Env → Prop) : put 14 s (s0 :: s1 :: s2 :: s3 :: s4 :: s5 :: s6 :: s7 :: s8 :: s9 :: s10 :: s11 :: s12 :: s13 :: a :: r) P = P (s0 :: s1 :: s2 :: s3 :: s4 :: s5 :: s6 :: s7 :: s8 :: s9 :: s10 :: s11 :: s12 :: s13 :: s :: r) := rfl
@[simp ↓] theorem sl_14_d (s0 s1 s2 s3 s4 s5 s6 s7 s8 s9 s10 s11 s12 s13 : Sl) (x : D) (r : Env) (fd : D → Prop) (fo : List D → Prop) (ft : List (KeyD × D) → Prop) : slE 14 (s0 :: s1 :: s2 :: s3 :: s4 :: s5 :: s6 :: s7 :: s8 :: s9 :: s10 :: s11 :: s12 :: s13 :: .d x :: r) fd fo ft = fd x := rfl
@[simp ↓] theorem sl_14_o (s0 s1 s2 s3 s4 s5 s6 s7 s8 s9 s10 s11 s12 s13 : Sl) (x : List D) (r : Env) (fd : D → Prop) (fo : List D → Prop) (ft : List (KeyD × D) → Prop) : slE 14 (s0 :: s1 :: s2 :: s3 :: s4 :: s5 :: s6 :: s7 :: s8 :: s9 :: s10 :: s11 :: s12 :: s13 :: .own x :: r) fd fo ft = fo x := rfl
@[simp ↓] theorem sl_14_t (s0 s1 s2 s3 s4 s5 s6 s7 s8 s9 s10 s11 s12 s13 : Sl) (x : List (KeyD × D)) (r : Env) (fd : D → Prop) (fo : List D → Prop) (ft : List (KeyD × D) → Prop) : slE 14 (s0 :: s1 :: s2 :: s3 :: s4 :: s5 :: s6 :: s7 :: s8 :: s9 :: s10 :: s11 :: s12 :: s13 :: .tab x :: r) fd fo ft = ft x := rfl
@[simp ↓] theorem ow_14_o (s0 s1 s2 s3 s4 s5 s6 s7 s8 s9 s10 s11 s12 s13 : Sl) (xs : List D) (r : Env) (P : List D → (List D → Env) → Prop) : owX 14 (s0 :: s1 :: s2 :: s3 :: s4 :: s5 :: s6 :: s7 :: s8 :: s9 :: s10 :: s11 :: s12 :: s13 :: .own xs :: r) P = P xs fun ys => s0 :: s1 :: s2 :: s3 :: s4 :: s5 :: s6 :: s7 :: s8 :: s9 :: s10 :: s11 :: s12 :: s13 :: .own ys :: r := by unfold owX; simp [ownOf, Sl.put]
@[simp ↓] theorem ow_14_p (s0 s1 s2 s3 s4 s5 s6 s7 s8 s9 s10 s11 s12 s13 : Sl) (xs : List D) (r : Env) (P : List D → (List D → Env) → Prop) : owX 14 (s0 :: s1 :: s2 :: s3 :: s4 :: s5 :: s6 :: s7 :: s8 :: s9 :: s10 :: s11 :: s12 :: s13 :: .par xs :: r) P = P xs fun ys => s0 :: s1 :: s2 :: s3 :: s4 :: s5 :: s6 :: s7 :: s8 :: s9 :: s10 :: s11 :: s12 :: s13 :: .par ys :: r := by unfold owX; simp [ownOf, Sl.put]
@[simp ↓] theorem put_15 (s0 s1 s2 s3 s4 s5 s6 s7 s8 s9 s10 s11 s12 s13 s14 : Sl) (a s : Sl) (r : Env) (P : Env → Prop) : put 15 s (s0 :: s1 :: s2 :: s3 :: s4 :: s5 :: s6 :: s7 :: s8 :: s9 :: s10 :: s11 :: s12 :: s13 :: s14 :: a :: r) P = P (s0 :: s1 :: s2 :: s3 :: s4 :: s5 :: s6 :: s7 :: s8 :: s9 :: s10 :: s11 :: s12 :: s13 :: s14 :: s :: r) := rfl
@[simp ↓] theorem sl_15_d (s0 s1 s2 s3 s4 s5 s6 s7 s8 s9 s10 s11 s12 s13 s14 : Sl) (x : D) (r : Env) (fd : D → Prop) (fo : List D → Prop) (ft : List (KeyD × D) → Prop) : slE 15 (s0 :: s1 :: s2 :: s3 :: s4 :: s5 :: s6 :: s7 :: s8 :: s9 :: s10 :: s11 :: s12 :: s13 :: s14 :: .d x :: r) fd fo ft = fd x := rfl
@[simp ↓] theorem sl_15_o (s0 s1 s2 s3 s4 s5 s6 s7 s8 s9 s10 s11 s12 s13 s14 : Sl) (x : List D) (r : Env) (fd : D → Prop) (fo : List D → Prop) (ft : List (KeyD × D) → Prop) : slE 15 (s0 :: s1 :: s2 :: s3 :: s4 :: s5 :: s6 :: s7 :: s8 :: s9 :: s10 :: s11 :: s12 :: s13 :: s14 :: .own x :: r) fd fo ft = fo x := rfl
@[simp ↓] theorem sl_15_t (s0 s1 s2 s3 s4 s5 s6 s7 s8 s9 s10 s11 s12 s13 s14 : Sl) (x : List (KeyD × D)) (r : Env) (fd : D → Prop) (fo : List D → Prop) (ft : List (KeyD × D) → Prop) : slE 15 (s0 :: s1 :: s2 :: s3 :: s4 :: s5 :: s6 :: s7 :: s8 :: s9 :: s10 :: s11 :: s12 :: s13 :: s14 :: .tab x :: r) fd fo ft = ft x := rfl
@[simp ↓] theorem ow_15_o (s0 s1 s2 s3 s4 s5 s6 s7 s8 s9 s10 s11 s12 s13 s14 : Sl) (xs : List D) (r : Env) (P : List D → (List D → Env) → Prop) : owX 15 (s0 :: s1 :: s2 :: s3 :: s4 :: s5 :: s6 :: s7 :: s8 :: s9 :: s10 :: s11 :: s12 :: s13 :: s14 :: .own xs :: r) P = P xs fun ys => s0 :: s1 :: s2 :: s3 :: s4 :: s5 :: s6 :: s7 :: s8 :: s9 :: s10 :: s11 :: s12 :: s13 :: s14 :: .own ys :: r := by unfold owX; simp [ownOf, Sl.put]
@[simp ↓] theorem ow_15_p (s0 s1 s2 s3 s4 s5 s6 s7 s8 s9 s10 s11 s12 s13 s14 : Sl) (xs : List D) (r : Env) (P : List D → (List D → Env) → Prop) : owX 15 (s0 :: s1 :: s2 :: s3 :: s4 :: s5 :: s6 :: s7 :: s8 :: s9 :: s10 :: s11 :: s12 :: s13 :: s14 :: .par xs :: r) P = P xs fun ys => s0 :: s1 :: s2 :: s3 :: s4 :: s5 :: s6 :: s7 :: s8 :: s9 :: s10 :: s11 :: s12 :: s13 :: s14 :: .par ys :: r := by unfold owX; simp [ownOf, Sl.put]
@[simp ↓] theorem put_16 (s0 s1 s2 s3 s4 s5 s6 s7 s8 s9 s10 s11 s12 s13 s14 s15 : Sl) (a s : Sl) (r : Env) (P : Env → Prop) : put 16 s (s0 :: s1 :: s2 :: s3 :: s4 :: s5 :: s6 :: s7 :: s8 :: s9 :: s10 :: s11 :: s12 :: s13 :: s14 :: s15 :: a :: r) P = P (s0 :: s1 :: s2 :: s3 :: s4 :: s5 :: s6 :: s7 :: s8 :: s9 :: s10 :: s11 :: s12 :: s13 :: s14 :: s15 :: s :: r) := rfl
@[simp ↓] theorem sl_16_d (s0 s1 s2 s3 s4 s5 s6 s7 s8 s9 s10 s11 s12 s13 s14 s15 : Sl) (x : D) (r : Env) (fd : D → Prop) (fo : List D → Prop) (ft : List (KeyD × D) → Prop) : slE 16 (s0 :: s1 :: s2 :: s3 :: s4 :: s5 :: s6 :: s7 :: s8 :: s9 :: s10 :: s11 :: s12 :: s13 :: s14 :: s15 :: .d x :: r) fd fo ft = fd x := rfl
@[simp ↓] theorem sl_16_o (s0 s1 s2 s3 s4 s5 s6 s7 s8 s9 s10 s11 s12 s13 s14 s15 : Sl) (x : List D) (r : Env) (fd : D → Prop) (fo : List D → Prop) (ft : List (KeyD × D) → Prop) : slE 16 (s0 :: s1 :: s2 :: s3 :: s4 :: s5 :: s6 :: s7 :: s8 :: s9 :: s10 :: s11 :: s12 :: s13 :: s14 :: s15 :: .own x :: r) fd fo ft = fo x := rfl
@[simp ↓] theorem sl_16_t (s0 s1 s2 s3 s4 s5 s6 s7 s8 s9 s10 s11 s12 s13 s14 s15 : Sl) (x : List (KeyD × D)) (r : Env) (fd : D → Prop) (fo : List D → Prop) (ft : List (KeyD × D) → Prop) : slE 16 (s0 :: s1 :: s2 :: s3 :: s4 :: s5 :: s6 :: s7 :: s8 :: s9 :: s10 :: s11 :: s12 :: s13 :: s14 :: s15 :: .tab x :: r) fd fo ft = ft x := rfl
@[simp ↓] theorem ow_16_o (s0 s1 s2 s3 s4 s5 s6 s7 s8 s9 s10 s11 s12 s13 s14 s15 : Sl) (xs : List D) (r : Env) (P : List D → (List D → Env) → Prop) : owX 16 (s0 :: s1 :: s2 :: s3 :: s4 :: s5 :: s6 :: s7 :: s8 :: s9 :: s10 :: s11 :: s12 :: s13 :: s14 :: s15 :: .own xs :: r) P = P xs fun ys => s0 :: s1 :: s2 :: s3 :: s4 :: s5 :: s6 :: s7 :: s8 :: s9 :: s10 :: s11 :: s12 :: s13 :: s14 :: s15 :: .own ys :: r := by unfold owX; simp [ownOf, Sl.put]
@[simp ↓] theorem ow_16_p (s0 s1 s2 s3 s4 s5 s6 s7 s8 s9 s10 s11 s12 s13 s14 s15 : Sl) (xs : List D) (r : Env) (P : List D → (List D → Env) → Prop) : owX 16 (s0 :: s1 :: s2 :: s3 :: s4 :: s5 :: s6 :: s7 :: s8 :: s9 :: s10 :: s11 :: s12 :: s13 :: s14 :: s15 :: .par xs :: r) P = P xs fun ys => s0 :: s1 :: s2 :: s3 :: s4 :: s5 :: s6 :: s7 :: s8 :: s9 :: s10 :: s11 :: s12 :: s13 :: s14 :: s15 :: .par ys :: r := by unfold owX; simp [ownOf, Sl.put]
@[simp ↓] theorem put_17 (s0 s1 s2 s3 s4 s5 s6 s7 s8 s9 s10 s11 s12 s13 s14 s15 s16 : Sl) (a s : Sl) (r : Env) (P : Env → Prop) : put 17 s (s0 :: s1 :: s2 :: s3 :: s4 :: s5 :: s6 :: s7 :: s8 :: s9 :: s10 :: s11 :: s12 :: s13 :: s14 :: s15 :: s16 :: a :: r) P = P (s0 :: s1 :: s2 :: s3 :: s4 :: s5 :: s6 :: s7 :: s8 :: s9 :: s10 :: s11 :: s12 :: s13 :: s14 :: s15 :: s16 :: s :: r) := rfl
@[simp ↓] theorem sl_17_d (s0 s1 s2 s3 s4 s5 s6 s7 s8 s9 s10 s11 s12 s13 s14 s15 s16 : Sl) (x : D) (r : Env) (fd : D → Prop) (fo : List D → Prop) (ft : List (KeyD × D) → Prop) : slE 17 (s0 :: s1 :: s2 :: s3 :: s4 :: s5 :: s6 :: s7 :: s8 :: s9 :: s10 :: s11 :: s12 :: s13 :: s14 :: s15 :: s16 :: .d x :: r) fd fo ft = fd x := rfl
@[simp ↓] theorem sl_17_o (s0 s1 s2 s3 s4 s5 s6 s7 s8 s9 s10 s11 s12 s13 s14 s15 s16 : Sl) (x : List D) (r : Env) (fd : D → Prop) (fo : List D → Prop) (ft : List (KeyD × D) → Prop) : slE 17 (s0 :: s1 :: s2 :: s3 :: s4 :: s5 :: s6 :: s7 :: s8 :: s9 :: s10 :: s11 :: s12 :: s13 :: s14 :: s15 :: s16 :: .own x :: r) fd fo ft = fo x := rfl
@[simp ↓] theorem sl_17_t (s0 s1 s2 s3 s4 s5 s6 s7 s8 s9 s10 s11 s12 s13 s14 s15 s16 : Sl) (x : List (KeyD × D)) (r : Env) (fd : D → Prop) (fo : List D → Prop) (ft : List (KeyD × D) → Prop) : slE 17 (s0 :: s1 :: s2 :: s3 :: s4 :: s5 :: s6 :: s7 :: s8 :: s9 :: s10 :: s11 :: s12 :: s13 :: s14 :: s15 :: s16 :: .tab x :: r) fd fo ft = ft x := rfl
@[simp ↓] theorem ow_17_o (s0 s1 s2 s3 s4 s5 s6 s7 s8 s9 s10 s11 s12 s13 s14 s15 s16 : Sl) (xs : List D) (r : Env) (P : List D → (List D → Env) → Prop) : owX 17 (s0 :: s1 :: s2 :: s3 :: s4 :: s5 :: s6 :: s7 :: s8 :: s9 :: s10 :: s11 :: s12 :: s13 :: s14 :: s15 :: s16 :: .own xs :: r) P = P xs fun ys => s0 :: s1 :: s2 :: s3 :: s4 :: s5 :: s6 :: s7 :: s8 :: s9 :: s10 :: s11 :: s12 :: s13 :: s14 :: s15 :: s16 :: .own ys :: r := by unfold owX; simp [ownOf, Sl.put]
@[simp ↓] theorem ow_17_p (s0 s1 s2 s3 s4 s5 s6 s7 s8 s9 s10 s11 s12 s13 s14 s15 s16 : Sl) (xs : List D) (r : Env) (P : List D → (List D → Env) → Prop) : owX 17 (s0 :: s1 :: s2 :: s3 :: s4 :: s5 :: s6 :: s7 :: s8 :: s9 :: s10 :: s11 :: s12 :: s13 :: s14 :: s15 :: s16 :: .par xs :: r) P = P xs fun ys => s0 :: s1 :: s2 :: s3 :: s4 :: s5 :: s6 :: s7 :: s8 :: s9 :: s10 :: s11 :: s12 :: s13 :: s14 :: s15 :: s16 :: .par ys :: r := by unfold owX; simp [ownOf, Sl.put]
@[simp ↓] theorem put_18 (s0 s1 s2 s3 s4 s5 s6 s7 s8 s9 s10 s11 s12 s13 s14 s15 s16 s17 : Sl) (a s : Sl) (r : Env) (P : Env → Prop) : put 18 s (s0 :: s1 :: s2 :: s3 :: s4 :: s5 :: s6 :: s7 :: s8 :: s9 :: s10 :: s11 :: s12 :: s13 :: s14 :: s15 :: s16 :: s17 :: a :: r) P = P (s0 :: s1 :: s2 :: s3 :: s4 :: s5 :: s6 :: s7 :: s8 :: s9 :: s10 :: s11 :: s12 :: s13 :: s14 :: s15 :: s16 :: s17 :: s :: r) := rfl
@[simp ↓] theorem sl_18_d (s0 s1 s2 s3 s4 s5 s6 s7 s8 s9 s10 s11 s12 s13 s14 s15 s16 s17 : Sl) (x : D) (r : Env) (fd : D → Prop) (fo : List D → Prop) (ft : List (KeyD × D) → Prop) : slE 18 (s0 :: s1 :: s2 :: s3 :: s4 :: s5 :: s6 :: s7 :: s8 :: s9 :: s10 :: s11 :: s12 :: s13 :: s14 :: s15 :: s16 :: s17 :: .d x :: r) fd fo ft = fd x := rfl
@[simp ↓] theorem sl_18_o (s0 s1 s2 s3 s4 s5 s6 s7 s8 s9 s10 s11 s12 s13 s14 s15 s16 s17 : Sl) (x : List D) (r : Env) (fd : D → Prop) (fo : List D → Prop) (ft : List (KeyD × D) → Prop) : slE 18 (s0 :: s1 :: s2 :: s3 :: s4 :: s5 :: s6 :: s7 :: s8 :: s9 :: s10 :: s11 :: s12 :: s13 :: s14 :: s15 :: s16 :: s17 :: .own x :: r) fd fo ft = fo x := rfl
@[simp ↓] theorem sl_18_t (s0 s1 s2 s3 s4 s5 s6 s7 s8 s9 s10 s11 s12 s13 s14 s15 s16 s17 : Sl) (x : List (KeyD × D)) (r : Env) (fd : D → Prop) (fo : List D → Prop) (ft : List (KeyD × D) → Prop) : slE 18 (s0 :: s1 :: s2 :: s3 :: s4 :: s5 :: s6 :: s7 :: s8 :: s9 :: s10 :: s11 :: s12 :: s13 :: s14 :: s15 :: s16 :: s17 :: .tab x :: r) fd fo ft = ft x := rfl
@[simp ↓] theorem ow_18_o (s0 s1 s2 s3 s4 s5 s6 s7 s8 s9 s10 s11 s12 s13 s14 s15 s16 s17 : Sl) (xs : List D) (r : Env) (P : List D → (List D → Env) → Prop) : owX 18 (s0 :: s1 :: s2 :: s3 :: s4 :: s5 :: s6 :: s7 :: s8 :: s9 :: s10 :: s11 :: s12 :: s13 :: s14 :: s15 :: s16 :: s17 :: .own xs :: r) P = P xs fun ys => s0 :: s1 :: s2 :: s3 :: s4 :: s5 :: s6 :: s7 :: s8 :: s9 :: s10 :: s11 :: s12 :: s13 :: s14 :: s15 :: s16 :: s17 :: .own ys :: r := by unfold owX; simp [ownOf, Sl.put]
@[simp ↓] theorem ow_18_p (s0 s1 s2 s3 s4 s5 s6 s7 s8 s9 s10 s11 s12 s13 s14 s15 s16 s17 : Sl) (xs : List D) (r : Env) (P : List D → (List D → Env) → Prop) : owX 18 (s0 :: s1 :: s2 :: s3 :: s4 :: s5 :: s6 :: s7 :: s8 :: s9 :: s10 :: s11 :: s12 :: s13 :: s14 :: s15 :: s16 :: s17 :: .par xs :: r) P = P xs fun ys => s0 :: s1 :: s2 :: s3 :: s4 :: s5 :: s6 :: s7 :: s8 :: s9 :: s10 :: s11 :: s12 :: s13 :: s14 :: s15 :: s16 :: s17 :: .par ys :: r := by unfold owX; simp [ownOf, Sl.put]
@[simp ↓] theorem put_19 (s0 s1 s2 s3 s4 s5 s6 s7 s8 s9 s10 s11 s12 s13 s14 s15 s16 s17 s18 : Sl) (a s : Sl) (r : Env) (P : Env → Prop) : put 19 s (s0 :: s1 :: s2 :: s3 :: s4 :: s5 :: s6 :: s7 :: s8 :: s9 :: s10 :: s11 :: s12 :: s13 :: s14 :: s15 :: s16 :: s17 :: s18 :: a :: r) P = P (s0 :: s1 :: s2 :: s3 :: s4 :: s5 :: s6 :: s7 :: s8 :: s9 :: s10 :: s11 :: s12 :: s13 :: s14 :: s15 :: s16 :: s17 :: s18 :: s :: r) := rfl
@[simp ↓] theorem sl_19_d (s0 s1 s2 s3 s4 s5 s6 s7 s8 s9 s10 s11 s12 s13 s14 s15 s16 s17 s18 : Sl) (x : D) (r : Env) (fd : D → Prop) (fo : List D → Prop) (ft : List (KeyD × D) → Prop) : slE 19 (s0 :: s1 :: s2 :: s3 :: s4 :: s5 :: s6 :: s7 :: s8 :: s9 :: s10 :: s11 :: s12 :: s13 :: s14 :: s15 :: s16 :: s17 :: s18 :: .d x :: r) fd fo ft = fd x := rfl
@[simp ↓] theorem sl_19_o (s0 s1 s2 s3 s4 s5 s6 s7 s8 s9 s10 s11 s12 s13 s14 s15 s16 s17 s18 : Sl) (x : List D) (r : Env) (fd : D → Prop) (fo : List D → Prop) (ft : List (KeyD × D) → Prop) : slE 19 (s0 :: s1 :: s2 :: s3 :: s4 :: s5 :: s6 :: s7 :: s8 :: s9 :: s10 :: s11 :: s12 :: s13 :: s14 :: s15 :: s16 :: s17 :: s18 :: .own x :: r) fd fo ft = fo x := rfl
@[simp ↓] theorem sl_19_t (s0 s1 s2 s3 s4 s5 s6 s7 s8 s9 s10 s11 s12 s13 s14 s15 s16 s17 s18 : Sl) (x : List (KeyD × D)) (r : Env) (fd : D → Prop) (fo : List D → Prop) (ft : List (KeyD × D) → Prop) : slE 19 (s0 :: s1 :: s2 :: s3 :: s4 :: s5 :: s6 :: s7 :: s8 :: s9 :: s10 :: s11 :: s12 :: s13 :: s14 :: s15 :: s16 :: s17 :: s18 :: .tab x :: r) fd fo ft = ft x := rfl
@[simp ↓] theorem ow_19_o (s0 s1 s2 s3 s4 s5 s6 s7 s8 s9 s10 s11 s12 s13 s14 s15 s16 s17 s18 : Sl) (xs : List D) (r : Env) (P : List D → (List D → Env) → Prop) : owX 19 (s0 :: s1 :: s2 :: s3 :: s4 :: s5 :: s6 :: s7 :: s8 :: s9 :: s10 :: s11 :: s12 :: s13 :: s14 :: s15 :: s16 :: s17 :: s18 :: .own xs :: r) P = P xs fun ys => s0 :: s1 :: s2 :: s3 :: s4 :: s5 :: s6 :: s7 :: s8 :: s9 :: s10 :: s11 :: s12 :: s13 :: s14 :: s15 :: s16 :: s17 :: s18 :: .own ys :: r := by unfold owX; simp [ownOf, Sl.put]
@[simp ↓] theorem ow_19_p (s0 s1 s2 s3 s4 s5 s6 s7 s8 s9 s10 s11 s12 s13 s14 s15 s16 s17 s18 : Sl) (xs : List D) (r : Env) (P : List D → (List D → Env) → Prop) : owX 19 (s0 :: s1 :: s2 :: s3 :: s4 :: s5 :: s6 :: s7 :: s8 :: s9 :: s10 :: s11 :: s12 :: s13 :: s14 :: s15 :: s16 :: s17 :: s18 :: .par xs :: r) P = P xs fun ys => s0 :: s1 :: s2 :: s3 :: s4 :: s5 :: s6 :: s7 :: s8 :: s9 :: s10 :: s11 :: s12 :: s13 :: s14 :: s15 :: s16 :: s17 :: s18 :: .par ys :: r := by unfold owX; simp [ownOf, Sl.put]
@[simp ↓] theorem put_20 (s0 s1 s2 s3 s4 s5 s6 s7 s8 s9 s10 s11 s12 s13 s14 s15 s16 s17 s18 s19 : Sl) (a s : Sl) (r : Env) (P : Env → Prop) : put 20 s (s0 :: s1 :: s2 :: s3 :: s4 :: s5 :: s6 :: s7 :: s8 :: s9 :: s10 :: s11 :: s12 :: s13 :: s14 :: s15 :: s16 :: s17 :: s18 :: s19 :: a :: r) P = P (s0 :: s1 :: s2 :: s3 :: s4 :: s5 :: s6 :: s7 :: s8 :: s9 :: s10 :: s11 :: s12 :: s13 :: s14 :: s15 :: s16 :: s17 :: s18 :: s19 :: s :: r) := rfl
@[simp ↓] theorem sl_20_d (s0 s1 s2 s3 s4 s5 s6 s7 s8 s9 s10 s11 s12 s13 s14 s15 s16 s17 s18 s19 : Sl) (x : D) (r : Env) (fd : D → Prop) (fo : List D → Prop) (ft : List (KeyD × D) → Prop) : slE 20 (s0 :: s1 :: s2 :: s3 :: s4 :: s5 :: s6 :: s7 :: s8 :: s9 :: s10 :: s11 :: s12 :: s13 :: s14 :: s15 :: s16 :: s17 :: s18 :: s19 :: .d x :: r) fd fo ft = fd x := rfl
@[simp ↓] theorem sl_20_o (s0 s1 s2 s3 s4 s5 s6 s7 s8 s9 s10 s11 s12 s13 s14 s15 s16 s17 s18 s19 : Sl) (x : List D) (r : Env) (fd : D → Prop) (fo : List D → Prop) (ft : List (KeyD × D) → Prop) : slE 20 (s0 :: s1 :: s2 :: s3 :: s4 :: s5 :: s6 :: s7 :: s8 :: s9 :: s10 :: s11 :: s12 :: s13 :: s14 :: s15 :: s16 :: s17 :: s18 :: s19 :: .own x :: r) fd fo ft = fo x := rfl
@[simp ↓] theorem sl_20_t (s0 s1 s2 s3 s4 s5 s6 s7 s8 s9 s10 s11 s12 s13 s14 s15 s16 s17 s18 s19 : Sl) (x : List (KeyD × D)) (r : Env) (fd : D → Prop) (fo : List D → Prop) (ft : List (KeyD × D) → Prop) : slE 20 (s0 :: s1 :: s2 :: s3 :: s4 :: s5 :: s6 :: s7 :: s8 :: s9 :: s10 :: s11 :: s12 :: s13 :: s14 :: s15 :: s16 :: s17 :: s18 :: s19 :: .tab x :: r) fd fo ft = ft x := rfl
@[simp ↓] theorem ow_20_o (s0 s1 s2 s3 s4 s5 s6 s7 s8 s9 s10 s11 s12 s13 s14 s15 s16 s17 s18 s19 : Sl) (xs : List D) (r : Env) (P : List D → (List D → Env) → Prop) : owX 20 (s0 :: s1 :: s2 :: s3 :: s4 :: s5 :: s6 :: s7 :: s8 :: s9 :: s10 :: s11 :: s12 :: s13 :: s14 :: s15 :: s16 :: s17 :: s18 :: s19 :: .own xs :: r) P = P xs fun ys => s0 :: s1 :: s2 :: s3 :: s4 :: s5 :: s6 :: s7 :: s8 :: s9 :: s10 :: s11 :: s12 :: s13 :: s14 :: s15 :: s16 :: s17 :: s18 :: s19 :: .own ys :: r := by unfold owX; simp [ownOf, Sl.put]
@[simp ↓] theorem ow_20_p (s0 s1 s2 s3 s4 s5 s6 s7 s8 s9 s10 s11 s12 s13 s14 s15 s16 s17 s18 s19 : Sl) (xs : List D) (r : Env) (P : List D → (List D → Env) → Prop) : owX 20 (s0 :: s1 :: s2 :: s3 :: s4 :: s5 :: s6 :: s7 :: s8 :: s9 :: s10 :: s11 :: s12 :: s13 :: s14 :: s15 :: s16 :: s17 :: s18 :: s19 :: .par xs :: r) P = P xs fun ys => s0 :: s1 :: s2 :: s3 :: s4 :: s5 :: s6 :: s7 :: s8 :: s9 :: s10 :: s11 :: s12 :: s13 :: s14 :: s15 :: s16 :: s17 :: s18 :: s19 :: .par ys :: r := by unfold owX; simp [ownOf, Sl.put]
@[simp ↓] theorem put_21 (s0 s1 s2 s3 s4 s5 s6 s7 s8 s9 s10 s11 s12 s13 s14 s15 s16 s17 s18 s19 s20 : Sl) (a s : Sl) (r : Env) (P : Env → Prop) : put 21 s (s0 :: s1 :: s2 :: s3 :: s4 :: s5 :: s6 :: s7 :: s8 :: s9 :: s10 :: s11 :: s12 :: s13 :: s14 :: s15 :: s16 :: s17 :: s18 :: s19 :: s20 :: a :: r) P = P (s0 :: s1 :: s2 :: s3 :: s4 :: s5 :: s6 :: s7 :: s8 :: s9 :: s10 :: s11 :: s12 :: s13 :: s14 :: s15 :: s16 :: s17 :: s18 :: s19 :: s20 :: s :: r) := rfl
@[simp ↓] theorem sl_21_d (s0 s1 s2 s3 s4 s5 s6 s7 s8 s9 s10 s11 s12 s13 s14 s15 s16 s17 s18 s19 s20 : Sl) (x : D) (r : Env) (fd : D → Prop) (fo : List D → Prop) (ft : List (KeyD × D) → Prop) : slE 21 (s0 :: s1 :: s2 :: s3 :: s4 :: s5 :: s6 :: s7 :: s8 :: s9 :: s10 :: s11 :: s12 :: s13 :: s14 :: s15 :: s16 :: s17 :: s18 :: s19 :: s20 :: .d x :: r) fd fo ft = fd x := rfl
@[simp ↓] theorem sl_21_o (s0 s1 s2 s3 s4 s5 s6 s7 s8 s9 s10 s11 s12 s13 s14 s15 s16 s17 s18 s19 s20 : Sl) (x : List D) (r : Env) (fd : D → Prop) (fo : List D → Prop) (ft : List (KeyD × D) → Prop) : slE 21 (s0 :: s1 :: s2 :: s3 :: s4 :: s5 :: s6 :: s7 :: s8 :: s9 :: s10 :: s11 :: s12 :: s13 :: s14 :: s15 :: s16 :: s17 :: s18 :: s19 :: s20 :: .own x :: r) fd fo ft = fo x := rfl
@[simp ↓] theorem sl_21_t (s0 s1 s2 s3 s4 s5 s6 s7 s8 s9 s10 s11 s12 s13 s14 s15 s16 s17 s18 s19 s20 : Sl) (x : List (KeyD × D)) (r : Env) (fd : D → Prop) (fo : List D → Prop) (ft : List (KeyD × D) → Prop) : slE 21 (s0 :: s1 :: s2 :: s3 :: s4 :: s5 :: s6 :: s7 :: s8 :: s9 :: s10 :: s11 :: s12 :: s13 :: s14 :: s15 :: s16 :: s17 :: s18 :: s19 :: s20 :: .tab x :: r) fd fo ft = ft x := rfl
@[simp ↓] theorem ow_21_o (s0 s1 s2 s3 s4 s5 s6 s7 s8 s9 s10 s11 s12 s13 s14 s15 s16 s17 s18 s19 s20 : Sl) (xs : List D) (r : Env) (P : List D → (List D → Env) → Prop) : owX 21 (s0 :: s1 :: s2 :: s3 :: s4 :: s5 :: s6 :: s7 :: s8 :: s9 :: s10 :: s11 :: s12 :: s13 :: s14 :: s15 :: s16 :: s17 :: s18 :: s19 :: s20 :: .own xs :: r) P = P xs fun ys => s0 :: s1 :: s2 :: s3 :: s4 :: s5 :: s6 :: s7 :: s8 :: s9 :: s10 :: s11 :: s12 :: s13 :: s14 :: s15 :: s16 :: s17 :: s18 :: s19 :: s20 :: .own ys :: r := by unfold owX; simp [ownOf, Sl.put]
@[simp ↓] theorem ow_21_p (s0 s1 s2 s3 s4 s5 s6 s7 s8 s9 s10 s11 s12 s13 s14 s15 s16 s17 s18 s19 s20 : Sl) (xs : List D) (r : Env) (P : List D → (List D → Env) → Prop) : owX 21 (s0 :: s1 :: s2 :: s3 :: s4 :: s5 :: s6 :: s7 :: s8 :: s9 :: s10 :: s11 :: s12 :: s13 :: s14 :: s15 :: s16 :: s17 :: s18 :: s19 :: s20 :: .par xs :: r) P = P xs fun ys => s0 :: s1 :: s2 :: s3 :: s4 :: s5 :: s6 :: s7 :: s8 :: s9 :: s10 :: s11 :: s12 :: s13 :: s14 :: s15 :: s16 :: s17 :: s18 :: s19 :: s20 :: .par ys :: r := by unfold owX; simp [ownOf, Sl.put]
@[simp ↓] theorem put_22 (s0 s1 s2 s3 s4 s5 s6 s7 s8 s9 s10 s11 s12 s13 s14 s15 s16 s17 s18 s19 s20 s21 : Sl) (a s : Sl) (r : Env) (P : Env → Prop) : put 22 s (s0 :: s1 :: s2 :: s3 :: s4 :: s5 :: s6 :: s7 :: s8 :: s9 :: s10 :: s11 :: s12 :: s13 :: s14 :: s15 :: s16 :: s17 :: s18 :: s19 :: s20 :: s21 :: a :: r) P = P (s0 :: s1 :: s2 :: s3 :: s4 :: s5 :: s6 :: s7 :: s8 :: s9 :: s10 :: s11 :: s12 :: s13 :: s14 :: s15 :: s16 :: s17 :: s18 :: s19 :: s20 :: s21 :: s :: r) := rfl
@[simp ↓] theorem sl_22_d (s0 s1 s2 s3 s4 s5 s6 s7 s8 s9 s10 s11 s12 s13 s14 s15 s16 s17 s18 s19 s20 s21 : Sl) (x : D) (r : Env) (fd : D → Prop) (fo : List D → Prop) (ft : List (KeyD × D) → Prop) : slE 22 (s0 :: s1 :: s2 :: s3 :: s4 :: s5 :: s6 :: s7 :: s8 :: s9 :: s10 :: s11 :: s12 :: s13 :: s14 :: s15 :: s16 :: s17 :: s18 :: s19 :: s20 :: s21 :: .d x :: r) fd fo ft = fd x := rfl
@[simp ↓] theorem sl_22_o (s0 s1 s2 s3 s4 s5 s6 s7 s8 s9 s10 s11 s12 s13 s14 s15 s16 s17 s18 s19 s20 s21 : Sl) (x : List D) (r : Env) (fd : D → Prop) (fo : List D → Prop) (ft : List (KeyD × D) → Prop) : slE 22 (s0 :: s1 :: s2 :: s3 :: s4 :: s5 :: s6 :: s7 :: s8 :: s9 :: s10 :: s11 :: s12 :: s13 :: s14 :: s15 :: s16 :: s17 :: s18 :: s19 :: s20 :: s21 :: .own x :: r) fd fo ft = fo x := rfl
@[simp ↓] theorem sl_22_t (s0 s1 s2 s3 s4 s5 s6 s7 s8 s9 s10 s11 s12 s13 s14 s15 s16 s17 s18 s19 s20 s21 : Sl) (x : List (KeyD × D)) (r : Env) (fd : D → Prop) (fo : List D → Prop) (ft : List (KeyD × D) → Prop) : slE 22 (s0 :: s1 :: s2 :: s3 :: s4 :: s5 :: s6 :: s7 :: s8 :: s9 :: s10 :: s11 :: s12 :: s13 :: s14 :: s15 :: s16 :: s17 :: s18 :: s19 :: s20 :: s21 :: .tab x :: r) fd fo ft = ft x := rfl
@[simp ↓] theorem ow_22_o (s0 s1 s2 s3 s4 s5 s6 s7 s8 s9 s10 s11 s12 s13 s14 s15 s16 s17 s18 s19 s20 s21 : Sl) (xs : List D) (r : Env) (P : List D → (List D → Env) → Prop) : owX 22 (s0 :: s1 :: s2 :: s3 :: s4 :: s5 :: s6 :: s7 :: s8 :: s9 :: s10 :: s11 :: s12 :: s13 :: s14 :: s15 :: s16 :: s17 :: s18 :: s19 :: s20 :: s21 :: .own xs :: r) P = P xs fun ys => s0 :: s1 :: s2 :: s3 :: s4 :: s5 :: s6 :: s7 :: s8 :: s9 :: s10 :: s11 :: s12 :: s13 :: s14 :: s15 :: s16 :: s17 :: s18 :: s19 :: s20 :: s21 :: .own ys :: r := by unfold owX; simp [ownOf, Sl.put]
@[simp ↓] theorem ow_22_p (s0 s1 s2 s3 s4 s5 s6 s7 s8 s9 s10 s11 s12 s13 s14 s15 s16 s17 s18 s19 s20 s21 : Sl) (xs : List D) (r : Env) (P : List D → (List D → Env) → Prop) : owX 22 (s0 :: s1 :: s2 :: s3 :: s4 :: s5 :: s6 :: s7 :: s8 :: s9 :: s10 :: s11 :: s12 :: s13 :: s14 :: s15 :: s16 :: s17 :: s18 :: s19 :: s20 :: s21 :: .par xs :: r) P = P xs fun ys => s0 :: s1 :: s2 :: s3 :: s4 :: s5 :: s6 :: s7 :: s8 :: s9 :: s10 :: s11 :: s12 :: s13 :: s14 :: s15 :: s16 :: s17 :: s18 :: s19 :: s20 :: s21 :: .par ys :: r := by unfold owX; simp [ownOf, Sl.put]
@[simp ↓] theorem put_23 (s0 s1 s2 s3 s4 s5 s6 s7 s8 s9 s10 s11 s12 s13 s14 s15 s16 s17 s18 s19 s20 s21 s22 : Sl) (a s : Sl) (r : Env) (P : Env → Prop) : put 23 s (s0 :: s1 :: s2 :: s3 :: s4 :: s5 :: s6 :: s7 :: s8 :: s9 :: s10 :: s11 :: s12 :: s13 :: s14 :: s15 :: s16 :: s17 :: s18 :: s19 :: s20 :: s21 :: s22 :: a :: r) P = P (s0 :: s1 :: s2 :: s3 :: s4 :: s5 :: s6 :: s7 :: s8 :: s9 :: s10 :: s11 :: s12 :: s13 :: s14 :: s15 :: s16 :: s17 :: s18 :: s19 :: s20 :: s21 :: s22 :: s :: r) := rfl
@[simp ↓] theorem sl_23_d (s0 s1 s2 s3 s4 s5 s6 s7 s8 s9 s10 s11 s12 s13 s14 s15 s16 s17 s18 s19 s20 s21 s22 : Sl) (x : D) (r : Env) (fd : D → Prop) (fo : List D → Prop) (ft : List (KeyD × D) → Prop) : slE 23 (s0 :: s1 :: s2 :: s3 :: s4 :: s5 :: s6 :: s7 :: s8 :: s9 :: s10 :: s11 :: s12 :: s13 :: s14 :: s15 :: s16 :: s17 :: s18 :: s19 :: s20 :: s21 :: s22 :: .d x :: r) fd fo ft = fd x := rfl
@[simp ↓] theorem sl_23_o (s0 s1 s2 s3 s4 s5 s6 s7 s8 s9 s10 s11 s12 s13 s14 s15 s16 s17 s18 s19 s20 s21 s22 : Sl) (x : List D) (r : Env) (fd : D → Prop) (fo : List D → Prop) (ft : List (KeyD × D) → Prop) : slE 23 (s0 :: s1 :: s2 :: s3 :: s4 :: s5 :: s6 :: s7 :: s8 :: s9 :: s10 :: s11 :: s12 :: s13 :: s14 :: s15 :: s16 :: s17 :: s18 :: s19 :: s20 :: s21 :: s22 :: .own x :: r) fd fo ft = fo x := rfl
@[simp ↓] theorem sl_23_t (s0 s1 s2 s3 s4 s5 s6 s7 s8 s9 s10 s11 s12 s13 s14 s15 s16 s17 s18 s19 s20 s21 s22 : Sl) (x : List (KeyD × D)) (r : Env) (fd : D → Prop) (fo : List D → Prop) (ft : List (KeyD × D) → Prop) : slE 23 (s0 :: s1 :: s2 :: s3 :: s4 :: s5 :: s6 :: s7 :: s8 :: s9 :: s10 :: s11 :: s12 :: s13 :: s14 :: s15 :: s16 :: s17 :: s18 :: s19 :: s20 :: s21 :: s22 :: .tab x :: r) fd fo ft = ft x := rfl
@[simp ↓] theorem ow_23_o (s0 s1 s2 s3 s4 s5 s6 s7 s8 s9 s10 s11 s12 s13 s14 s15 s16 s17 s18 s19 s20 s21 s22 : Sl) (xs : List D) (r : Env) (P : List D → (List D → Env) → Prop) : owX 23 (s0 :: s1 :: s2 :: s3 :: s4 :: s5 :: s6 :: s7 :: s8 :: s9 :: s10 :: s11 :: s12 :: s13 :: s14 :: s15 :: s16 :: s17 :: s18 :: s19 :: s20 :: s21 :: s22 :: .own xs :: r) P = P xs fun ys => s0 :: s1 :: s2 :: s3 :: s4 :: s5 :: s6 :: s7 :: s8 :: s9 :: s10 :: s11 :: s12 :: s13 :: s14 :: s15 :: s16 :: s17 :: s18 :: s19 :: s20 :: s21 :: s22 :: .own ys :: r := by unfold owX; simp [ownOf, Sl.put]
@[simp ↓] theorem ow_23_p (s0 s1 s2 s3 s4 s5 s6 s7 s8 s9 s10 s11 s12 s13 s14 s15 s16 s17 s18 s19 s20 s21 s22 : Sl) (xs : List D) (r : Env) (P : List D → (List D → Env) → Prop) : owX 23 (s0 :: s1 :: s2 :: s3 :: s4 :: s5 :: s6 :: s7 :: s8 :: s9 :: s10 :: s11 :: s12 :: s13 :: s14 :: s15 :: s16 :: s17 :: s18 :: s19 :: s20 :: s21 :: s22 :: .par xs :: r) P = P xs fun ys => s0 :: s1 :: s2 :: s3 :: s4 :: s5 :: s6 :: s7 :: s8 :: s9 :: s10 :: s11 :: s12 :: s13 :: s14 :: s15 :: s16 :: s17 :: s18 :: s19 :: s20 :: s21 :: s22 :: .par ys :: r := by unfold owX; simp [ownOf, Sl.put]

/-! borrowing, by a mask of the slots -/
def lendM : List Bool → Env → (Env → Prop) → Prop
  | [], e, Q => Q e
  | _ :: _, [], Q => Q []
  | b :: m, s :: r, Q => lendM m r fun e => Q (lent1 b s :: e)
@[simp ↓] theorem lendM_nil (e : Env) (Q : Env → Prop) : lendM [] e Q = Q e := rfl
@[simp ↓] theorem lendM_f (m : List Bool) (s : Sl) (r : Env) (Q : Env → Prop) : lendM (false :: m) (s :: r) Q = lendM m r fun e => Q (s :: e) := by simp only [lendM]; congr 1
@[simp ↓] theorem lendM_o (m : List Bool) (xs : List D) (r : Env) (Q : Env → Prop) : lendM (true :: m) (.own xs :: r) Q = lendM m r fun e => Q (.d (.list xs) :: e) := rfl
@[simp ↓] theorem lendM_p (m : List Bool) (xs : List D) (r : Env) (Q : Env → Prop) : lendM (true :: m) (.par xs :: r) Q = lendM m r fun e => Q (.d (.list xs) :: e) := rfl
@[simp ↓] theorem lendM_d (m : List Bool) (x : D) (r : Env) (Q : Env → Prop) : lendM (true :: m) (.d x :: r) Q = lendM m r fun e => Q (.d x :: e) := rfl
@[simp ↓] theorem lendM_u (m : List Bool) (r : Env) (Q : Env → Prop) : lendM (true :: m) (.un :: r) Q = lendM m r fun e => Q (.un :: e) := rfl
def hd1 (m : List Bool) : Bool := m.headD false
def backM : List Bool → Env → Env → (Env → Prop) → Prop
  | _, [], [], Q => Q []
  | m, s :: r, s' :: r', Q => mild1 (hd1 m) s s' ∧ backM m.tail r r' fun e => Q (back1 (hd1 m) s s' :: e)
  | _, _, _, _ => False
@[simp ↓] theorem backM_nil (m : List Bool) (Q : Env → Prop) : backM m [] [] Q = Q [] := by cases m <;> rfl
@[simp ↓] theorem backM_u (m : List Bool) (r r' : Env) (Q : Env → Prop) : backM (false :: m) (.un :: r) (.un :: r') Q = backM m r r' fun e => Q (.un :: e) := by simp [backM, hd1, mild1, back1]
@[simp ↓] theorem backM_d (m : List Bool) (x : D) (r r' : Env) (Q : Env → Prop) : backM (false :: m) (.d x :: r) (.d x :: r') Q = backM m r r' fun e => Q (.d x :: e) := by simp [backM, hd1, mild1, back1]
@[simp ↓] theorem backM_ut (m : List Bool) (r r' : Env) (Q : Env → Prop) : backM (true :: m) (.un :: r) (.un :: r') Q = backM m r r' fun e => Q (.un :: e) := by simp [backM, hd1, mild1, back1]
@[simp ↓] theorem backM_dt (m : List Bool) (x : D) (r r' : Env) (Q : Env → Prop) : backM (true :: m) (.d x :: r) (.d x :: r') Q = backM m r r' fun e => Q (.d x :: e) := by simp [backM, hd1, mild1, back1]
@[simp ↓] theorem backM_o (m : List Bool) (xs ys : List D) (r r' : Env) (Q : Env → Prop) : backM (false :: m) (.own xs :: r) (.own ys :: r') Q = (ifp (flats ys = true) <| backM m r r' fun e => Q (.own ys :: e)) := by simp [ifp, backM, hd1, mild1, back1]
@[simp ↓] theorem backM_p (m : List Bool) (xs ys : List D) (r r' : Env) (Q : Env → Prop) : backM (false :: m) (.par xs :: r) (.par ys :: r') Q = (ifp (flats ys = true) <| backM m r r' fun e => Q (.par ys :: e)) := by simp [ifp, backM, hd1, mild1, back1]
@[simp ↓] theorem backM_t (m : List Bool) (xs ys : List (KeyD × D)) (r r' : Env) (Q : Env → Prop) : backM (false :: m) (.tab xs :: r) (.tab ys :: r') Q = (ifp (flats (ys.map (·.2)) = true) <| backM m r r' fun e => Q (.tab ys :: e)) := by simp [ifp, backM, hd1, mild1, back1]
@[simp ↓] theorem backM_ot (m : List Bool) (xs : List D) (s' : Sl) (r r' : Env) (Q : Env → Prop) : backM (true :: m) (.own xs :: r) (s' :: r') Q = backM m r r' fun e => Q (.own xs :: e) := by simp [backM, hd1, mild1, back1]
@[simp ↓] theorem backM_pt (m : List Bool) (xs : List D) (s' : Sl) (r r' : Env) (Q : Env → Prop) : backM (true :: m) (.par xs :: r) (s' :: r') Q = backM m r r' fun e => Q (.par xs :: e) := by simp [backM, hd1, mild1, back1]
@[simp ↓] theorem backM_u0 (r r' : Env) (Q : Env → Prop) : backM [] (.un :: r) (.un :: r') Q = backM [] r r' fun e => Q (.un :: e) := by simp [backM, hd1, mild1, back1]
@[simp ↓] theorem backM_d0 (x : D) (r r' : Env) (Q : Env → Prop) : backM [] (.d x :: r) (.d x :: r') Q = backM [] r r' fun e => Q (.d x :: e) := by simp [backM, hd1, mild1, back1]
@[simp ↓] theorem backM_o0 (xs ys : List D) (r r' : Env) (Q : Env → Prop) : backM [] (.own xs :: r) (.own ys :: r') Q = (ifp (flats ys = true) <| backM [] r r' fun e => Q (.own ys :: e)) := by simp [ifp, backM, hd1, mild1, back1]
@[simp ↓] theorem backM_p0 (xs ys : List D) (r r' : Env) (Q : Env → Prop) : backM [] (.par xs :: r) (.par ys :: r') Q = (ifp (flats ys = true) <| backM [] r r' fun e => Q (.par ys :: e)) := by simp [ifp, backM, hd1, mild1, back1]
@[simp ↓] theorem backM_t0 (xs ys : List (KeyD × D)) (r r' : Env) (Q : Env → Prop) : backM [] (.tab xs :: r) (.tab ys :: r') Q = (ifp (flats (ys.map (·.2)) = true) <| backM [] r r' fun e => Q (.tab ys :: e)) := by simp [ifp, backM, hd1, mild1, back1]
/-- the mask of slots from k on -/
def isMask (is : List Nat) : Nat → List Bool → Bool
  | k, [] => is.all fun j => decide (j < k)
  | k, b :: m => (decide (k ∈ is) == b) && isMask is (k + 1) m
theorem lend_id (is : List Nat) : ∀ (e : Env) (k : Nat), (is.all fun j => decide (j < k)) = true → lend is k e = e
  | [], _, _ => rfl
  | s :: r, k, h => by
    have hk : decide (k ∈ is) = false := decide_eq_false fun z => by have := List.all_eq_true.mp h k z; simp at this
    rw [lend, hk, lend_id is r (k + 1) (List.all_eq_true.mpr fun j hj => decide_eq_true (by have := of_decide_eq_true (List.all_eq_true.mp h j hj); omega))]
    cases s <;> rfl
theorem lend_mask (is : List Nat) : ∀ (m : List Bool) (e : Env) (k : Nat) (Q : Env → Prop), isMask is k m = true → lendM m e Q = Q (lend is k e)
  | [], e, k, Q, h => by rw [lend_id is e k h]; rfl
  | _ :: _, [], _, _, _ => rfl
  | b :: m, s :: r, k, Q, h => by
    unfold isMask at h
    rw [Bool.and_eq_true] at h
    rw [lendM, lend_mask is m r (k + 1) _ h.2, lend, eq_of_beq h.1]
theorem back_mask (is : List Nat) : ∀ (e e1 : Env) (m : List Bool) (k : Nat) (Q : Env → Prop), isMask is k m = true → backM m e e1 Q = (Mild is k e e1 ∧ Q (back is k e e1))
  | [], [], m, k, Q, _ => by cases m <;> simp [backM, Mild, back]
  | [], _ :: _, m, k, Q, _ => by cases m <;> simp [backM, Mild]
  | _ :: _, [], m, k, Q, _ => by cases m <;> simp [backM, Mild]
  | s :: r, s' :: r', m, k, Q, h => by
    have hh : hd1 m = decide (k ∈ is) ∧ isMask is (k + 1) m.tail = true := by
      cases m with
      | nil =>
        unfold isMask at h
        refine ⟨(decide_eq_false fun z => ?_).symm, List.all_eq_true.mpr fun j hj => decide_eq_true ?_⟩
        · have := List.all_eq_true.mp h k z; simp at this
        · have := of_decide_eq_true (List.all_eq_true.mp h j hj); omega
      | cons b m =>
        unfold isMask at h
        rw [Bool.and_eq_true] at h
        exact ⟨(eq_of_beq h.1).symm, h.2⟩
    have e : backM m (s :: r) (s' :: r') Q = (mild1 (hd1 m) s s' ∧ backM m.tail r r' fun e => Q (back1 (hd1 m) s s' :: e)) := by cases m <;> rfl
    rw [e, back_mask is r r' m.tail (k + 1) _ hh.2, hh.1, Mild, back, and_assoc]
theorem rBor_m {is : List Nat} (m : List Bool) (h : isMask is 0 m = true) (t : TR) (E : EK) (env : Env) (P : Ret → Env → Prop) : rBor is t E env P = lendM m env fun e => t (fun _ _ => False) e fun r e1 => ifp (r.flat = true) <| backM m env e1 fun e2 => P r e2 := by
  rw [lend_mask is m env 0 _ h]
  unfold rBor
  congr 1; funext r e1
  rw [back_mask is env e1 m 0 _ h]
  rfl
theorem bBor_m {is : List Nat} (m : List Bool) (h : isMask is 0 m = true) (t : TB) (E : EK) (env : Env) (P : Bool → Env → Prop) : bBor is t E env P = lendM m env fun e => t (fun _ _ => False) e fun r e1 => backM m env e1 fun e2 => P r e2 := by
  rw [lend_mask is m env 0 _ h]
  unfold bBor
  congr 1; funext r e1
  rw [back_mask is env e1 m 0 _ h]

@[simp ↓] theorem rBor_0 (t : TR) (E : EK) (env : Env) (P : Ret → Env → Prop) : rBor [0] t E env P = lendM [true] env fun e => t (fun _ _ => False) e fun r e1 => ifp (r.flat = true) <| backM [true] env e1 fun e2 => P r e2 := rBor_m _ (by decide) ..
@[simp ↓] theorem bBor_0 (t : TB) (E : EK) (env : Env) (P : Bool → Env → Prop) : bBor [0] t E env P = lendM [true] env fun e => t (fun _ _ => False) e fun r e1 => backM [true] env e1 fun e2 => P r e2 := bBor_m _ (by decide) ..
@[simp ↓] theorem rBor_1 (t : TR) (E : EK) (env : Env) (P : Ret → Env → Prop) : rBor [1] t E env P = lendM [false, true] env fun e => t (fun _ _ => False) e fun r e1 => ifp (r.flat = true) <| backM [false, true] env e1 fun e2 => P r e2 := rBor_m _ (by decide) ..
@[simp ↓] theorem bBor_1 (t : TB) (E : EK) (env : Env) (P : Bool → Env → Prop) : bBor [1] t E env P = lendM [false, true] env fun e => t (fun _ _ => False) e fun r e1 => backM [false, true] env e1 fun e2 => P r e2 := bBor_m _ (by decide) ..
@[simp ↓] theorem rBor_2 (t : TR) (E : EK) (env : Env) (P : Ret → Env → Prop) : rBor [2] t E env P = lendM [false, false, true] env fun e => t (fun _ _ => False) e fun r e1 => ifp (r.flat = true) <| backM [false, false, true] env e1 fun e2 => P r e2 := rBor_m _ (by decide) ..
@[simp ↓] theorem bBor_2 (t : TB) (E : EK) (env : Env) (P : Bool → Env → Prop) : bBor [2] t E env P = lendM [false, false, true] env fun e => t (fun _ _ => False) e fun r e1 => backM [false, false, true] env e1 fun e2 => P r e2 := bBor_m _ (by decide) ..
@[simp ↓] theorem rBor_3 (t : TR) (E : EK) (env : Env) (P : Ret → Env → Prop) : rBor [3] t E env P = lendM [false, false, false, true] env fun e => t (fun _ _ => False) e fun r e1 => ifp (r.flat = true) <| backM [false, false, false, true] env e1 fun e2 => P r e2 := rBor_m _ (by decide) ..
@[simp ↓] theorem bBor_3 (t : TB) (E : EK) (env : Env) (P : Bool → Env → Prop) : bBor [3] t E env P = lendM [false, false, false, true] env fun e => t (fun _ _ => False) e fun r e1 => backM [false, false, false, true] env e1 fun e2 => P r e2 := bBor_m _ (by decide) ..
@[simp ↓] theorem rBor_4 (t : TR) (E : EK) (env : Env) (P : Ret → Env → Prop) : rBor [4] t E env P = lendM [false, false, false, false, true] env fun e => t (fun _ _ => False) e fun r e1 => ifp (r.flat = true) <| backM [false, false, false, false, true] env e1 fun e2 => P r e2 := rBor_m _ (by decide) ..
@[simp ↓] theorem bBor_4 (t : TB) (E : EK) (env : Env) (P : Bool → Env → Prop) : bBor [4] t E env P = lendM [false, false, false, false, true] env fun e => t (fun _ _ => False) e fun r e1 => backM [false, false, false, false, true] env e1 fun e2 => P r e2 := bBor_m _ (by decide) ..
@[simp ↓] theorem rBor_5 (t : TR) (E : EK) (env : Env) (P : Ret → Env → Prop) : rBor [5] t E env P = lendM [false, false, false, false, false, true] env fun e => t (fun _ _ => False) e fun r e1 => ifp (r.flat = true) <| backM [false, false, false, false, false, true] env e1 fun e2 => P r e2 := rBor_m _ (by decide) ..
@[simp ↓] theorem bBor_5 (t : TB) (E : EK) (env : Env) (P : Bool → Env → Prop) : bBor [5] t E env P = lendM [false, false, false, false, false, true] env fun e => t (fun _ _ => False) e fun r e1 => backM [false, false, false, false, false, true] env e1 fun e2 => P r e2 := bBor_m _ (by decide) ..
@[simp ↓] theorem rBor_6 (t : TR) (E : EK) (env : Env) (P : Ret → Env → Prop) : rBor [6] t E env P = lendM [false, false, false, false, false, false, true] env fun e => t (fun _ _ => False) e fun r e1 => ifp (r.flat = true) <| backM [false, false, false, false, false, false, true] env e1 fun e2 => P r e2 := rBor_m _ (by decide) ..
@[simp ↓] theorem bBor_6 (t : TB) (E : EK) (env : Env) (P : Bool → Env → Prop) : bBor [6] t E env P = lendM [false, false, false, false, false, false, true] env fun e => t (fun _ _ => False) e fun r e1 => backM [false, false, false, false, false, false, true] env e1 fun e2 => P r e2 := bBor_m _ (by decide) ..
@[simp ↓] theorem rBor_7 (t : TR) (E : EK) (env : Env) (P : Ret → Env → Prop) : rBor [7] t E env P = lendM [false, false, false, false, false, false, false, true] env fun e => t (fun _ _ => False) e fun r e1 => ifp (r.flat = true) <| backM [false, false, false, false, false, false, false, true] env e1 fun e2 => P r e2 := rBor_m _ (by decide) ..
@[simp ↓] theorem bBor_7 (t : TB) (E : EK) (env : Env) (P : Bool → Env → Prop) : bBor [7] t E env P = lendM [false, false, false, false, false, false, false, true] env fun e => t (fun _ _ => False) e fun r e1 => backM [false, false, false, false, false, false, false, true] env e1 fun e2 => P r e2 := bBor_m _ (by decide) ..
@[simp ↓] theorem rBor_8 (t : TR) (E : EK) (env : Env) (P : Ret → Env → Prop) : rBor [8] t E env P = lendM [false, false, false, false, false, false, false, false, true] env fun e => t (fun _ _ => False) e fun r e1 => ifp (r.flat = true) <| backM [false, false, false, false, false, false, false, false, true] env e1 fun e2 => P r e2 := rBor_m _ (by decide) ..
@[simp ↓] theorem bBor_8 (t : TB) (E : EK) (env : Env) (P : Bool → Env → Prop) : bBor [8] t E env P = lendM [false, false, false, false, false, false, false, false, true] env fun e => t (fun _ _ => False) e fun r e1 => backM [false, false, false, false, false, false, false, false, true] env e1 fun e2 => P r e2 := bBor_m _ (by decide) ..
@[simp ↓] theorem rBor_9 (t : TR) (E : EK) (env : Env) (P : Ret → Env → Prop) : rBor [9] t E env P = lendM [false, false, false, false, false, false, false, false, false, true] env fun e => t (fun _ _ => False) e fun r e1 => ifp (r.flat = true) <| backM [false, false, false, false, false, false, false, false, false, true] env e1 fun e2 => P r e2 := rBor_m _ (by decide) ..
@[simp ↓] theorem bBor_9 (t : TB) (E : EK) (env : Env) (P : Bool → Env → Prop) : bBor [9] t E env P = lendM [false, false, false, false, false, false, false, false, false, true] env fun e => t (fun _ _ => False) e fun r e1 => backM [false, false, false, false, false, false, false, false, false, true] env e1 fun e2 => P r e2 := bBor_m _ (by decide) ..
@[simp ↓] theorem rBor_10 (t : TR) (E : EK) (env : Env) (P : Ret → Env → Prop) : rBor [10] t E env P = lendM [false, false, false, false, false, false, false, false, false, false, true] env fun e => t (fun _ _ => False) e fun r e1 => ifp (r.flat = true) <| backM [false, false, false, false, false, false, false, false, false, false, true] env e1 fun e2 => P r e2 := rBor_m _ (by decide) ..
@[simp ↓] theorem bBor_10 (t : TB) (E : EK) (env : Env) (P : Bool → Env → Prop) : bBor [10] t E env P = lendM [false, false, false, false, false, false, false, false, false, false, true] env fun e => t (fun _ _ => False) e fun r e1 => backM [false, false, false, false, false, false, false, false, false, false, true] env e1 fun e2 => P r e2 := bBor_m _ (by decide) ..
@[simp ↓] theorem rBor_11 (t : TR) (E : EK) (env : Env) (P : Ret → Env → Prop) : rBor [11] t E env P = lendM [false, false, false, false, false, false, false, false, false, false, false, true] env fun e => t (fun _ _ => False) e fun r e1 => ifp (r.flat = true) <| backM [false, false, false, false, false, false, false, false, false, false, false, true] env e1 fun e2 => P r e2 := rBor_m _ (by decide) ..
@[simp ↓] theorem bBor_11 (t : TB) (E : EK) (env : Env) (P : Bool → Env → Prop) : bBor [11] t E env P = lendM [false, false, false, false, false, false, false, false, false, false, false, true] env fun e => t (fun _ _ => False) e fun r e1 => backM [false, false, false, false, false, false, false, false, false, false, false, true] env e1 fun e2 => P r e2 := bBor_m _ (by decide) ..
@[simp ↓] theorem rBor_12 (t : TR) (E : EK) (env : Env) (P : Ret → Env → Prop) : rBor [12] t E env P = lendM [false, false, false, false, false, false, false, false, false, false, false, false, true] env fun e => t (fun _ _ => False) e fun r e1 => ifp (r.flat = true) <| backM [false, false, false, false, false, false, false, false, false, false, false, false, true] env e1 fun e2 => P r e2 := rBor_m _ (by decide) ..
@[simp ↓] theorem bBor_12 (t : TB) (E : EK) (env : Env) (P : Bool → Env → Prop) : bBor [12] t E env P = lendM [false, false, false, false, false, false, false, false, false, false, false, false, true] env fun e => t (fun _ _ => False) e fun r e1 => backM [false, false, false, false, false, false, false, false, false, false, false, false, true] env e1 fun e2 => P r e2 := bBor_m _ (by decide) ..
@[simp ↓] theorem rBor_13 (t : TR) (E : EK) (env : Env) (P : Ret → Env → Prop) : rBor [13] t E env P = lendM [false, false, false, false, false, false, false, false, false, false, false, false, false, true] env fun e => t (fun _ _ => False) e fun r e1 => ifp (r.flat = true) <| backM [false, false, false, false, false, false, false, false, false, false, false, false, false, true] env e1 fun e2 => P r e2 := rBor_m _ (by decide) ..
@[simp ↓] theorem bBor_13 (t : TB) (E : EK) (env : Env) (P : Bool → Env → Prop) : bBor [13] t E env P = lendM [false, false, false, false, false, false, false, false, false, false, false, false, false, true] env fun e => t (fun _ _ => False) e fun r e1 => backM [false, false, false, false, false, false, false, false, false, false, false, false, false, true] env e1 fun e2 => P r e2 := bBor_m _ (by decide) ..
@[simp ↓] theorem rBor_14 (t : TR) (E : EK) (env : Env) (P : Ret → Env → Prop) : rBor [14] t E env P = lendM [false, false, false, false, false, false, false, false, false, false, false, false, false, false, true] env fun e => t (fun _ _ => False) e fun r e1 => ifp (r.flat = true) <| backM [false, false, false, false, false, false, false, false, false, false, false, false, false, false, true] env e1 fun e2 => P r e2 := rBor_m _ (by decide) ..
@[simp ↓] theorem bBor_14 (t : TB) (E : EK) (env : Env) (P : Bool → Env → Prop) : bBor [14] t E env P = lendM [false, false, false, false, false, false, false, false, false, false, false, false, false, false, true] env fun e => t (fun _ _ => False) e fun r e1 => backM [false, false, false, false, false, false, false, false, false, false, false, false, false, false, true] env e1 fun e2 => P r e2 := bBor_m _ (by decide) ..
@[simp ↓] theorem rBor_15 (t : TR) (E : EK) (env : Env) (P : Ret → Env → Prop) : rBor [15] t E env P = lendM [false, false, false, false, false, false, false, false, false, false, false, false, false, false, false, true] env fun e => t (fun _ _ => False) e fun r e1 => ifp (r.flat = true) <| backM [false, false, false, false, false, false, false, false, false, false, false, false, false, false, false, true] env e1 fun e2 => P r e2 := rBor_m _ (by decide) ..
@[simp ↓] theorem bBor_15 (t : TB) (E : EK) (env : Env) (P : Bool → Env → Prop) : bBor [15] t E env P = lendM [false, false, false, false, false, false, false, false, false, false, false, false, false, false, false, true] env fun e => t (fun _ _ => False) e fun r e1 => backM [false, false, false, false, false, false, false, false, false, false, false, false, false, false, false, true] env e1 fun e2 => P r e2 := bBor_m _ (by decide) ..
@[simp ↓] theorem rBor_0_1 (t : TR) (E : EK) (env : Env) (P : Ret → Env → Prop) : rBor [0, 1] t E env P = lendM [true, true] env fun e => t (fun _ _ => False) e fun r e1 => ifp (r.flat = true) <| backM [true, true] env e1 fun e2 => P r e2 := rBor_m _ (by decide) ..
@[simp ↓] theorem bBor_0_1 (t : TB) (E : EK) (env : Env) (P : Bool → Env → Prop) : bBor [0, 1] t E env P = lendM [true, true] env fun e => t (fun _ _ => False) e fun r e1 => backM [true, true] env e1 fun e2 => P r e2 := bBor_m _ (by decide) ..
@[simp ↓] theorem rBor_0_2 (t : TR) (E : EK) (env : Env) (P : Ret → Env → Prop) : rBor [0, 2] t E env P = lendM [true, false, true] env fun e => t (fun _ _ => False) e fun r e1 => ifp (r.flat = true) <| backM [true, false, true] env e1 fun e2 => P r e2 := rBor_m _ (by decide) ..
@[simp ↓] theorem bBor_0_2 (t : TB) (E : EK) (env : Env) (P : Bool → Env → Prop) : bBor [0, 2] t E env P = lendM [true, false, true] env fun e => t (fun _ _ => False) e fun r e1 => backM [true, false, true] env e1 fun e2 => P r e2 := bBor_m _ (by decide) ..
@[simp ↓] theorem rBor_0_3 (t : TR) (E : EK) (env : Env) (P : Ret → Env → Prop) : rBor [0, 3] t E env P = lendM [true, false, false, true] env fun e => t (fun _ _ => False) e fun r e1 => ifp (r.flat = true) <| backM [true, false, false, true] env e1 fun e2 => P r e2 := rBor_m _ (by decide) ..
@[simp ↓] theorem bBor_0_3 (t : TB) (E : EK) (env : Env) (P : Bool → Env → Prop) : bBor [0, 3] t E env P = lendM [true, false, false, true] env fun e => t (fun _ _ => False) e fun r e1 => backM [true, false, false, true] env e1 fun e2 => P r e2 := bBor_m _ (by decide) ..
@[simp ↓] theorem rBor_0_4 (t : TR) (E : EK) (env : Env) (P : Ret → Env → Prop) : rBor [0, 4] t E env P = lendM [true, false, false, false, true] env fun e => t (fun _ _ => False) e fun r e1 => ifp (r.flat = true) <| backM [true, false, false, false, true] env e1 fun e2 => P r e2 := rBor_m _ (by decide) ..
@[simp ↓] theorem bBor_0_4 (t : TB) (E : EK) (env : Env) (P : Bool → Env → Prop) : bBor [0, 4] t E env P = lendM [true, false, false, false, true] env fun e => t (fun _ _ => False) e fun r e1 => backM [true, false, false, false, true] env e1 fun e2 => P r e2 := bBor_m _ (by decide) ..
@[simp ↓] theorem rBor_0_5 (t : TR) (E : EK) (env : Env) (P : Ret → Env → Prop) : rBor [0, 5] t E env P = lendM [true, false, false, false, false, true] env fun e => t (fun _ _ => False) e fun r e1 => ifp (r.flat = true) <| backM [true, false, false, false, false, true] env e1 fun e2 => P r e2 := rBor_m _ (by decide) ..
@[simp ↓] theorem bBor_0_5 (t : TB) (E : EK) (env : Env) (P : Bool → Env → Prop) : bBor [0, 5] t E env P = lendM [true, false, false, false, false, true] env fun e => t (fun _ _ => False) e fun r e1 => backM [true, false, false, false, false, true] env e1 fun e2 => P r e2 := bBor_m _ (by decide) ..
@[simp ↓] theorem rBor_0_6 (t : TR) (E : EK) (env : Env) (P : Ret → Env → Prop) : rBor [0, 6] t E env P = lendM [true, false, false, false, false, false, true] env fun e => t (fun _ _ => False) e fun r e1 => ifp (r.flat = true) <| backM [true, false, false, false, false, false, true] env e1 fun e2 => P r e2 := rBor_m _ (by decide) ..
@[simp ↓] theorem bBor_0_6 (t : TB) (E : EK) (env : Env) (P : Bool → Env → Prop) : bBor [0, 6] t E env P = lendM [true, false, false, false, false, false, true] env fun e => t (fun _ _ => False) e fun r e1 => backM [true, false, false, false, false, false, true] env e1 fun e2 => P r e2 := bBor_m _ (by decide) ..
@[simp ↓] theorem rBor_0_7 (t : TR) (E : EK) (env : Env) (P : Ret → Env → Prop) : rBor [0, 7] t E env P = lendM [true, false, false, false, false, false, false, true] env fun e => t (fun _ _ => False) e fun r e1 => ifp (r.flat = true) <| backM [true, false, false, false, false, false, false, true] env e1 fun e2 => P r e2 := rBor_m _ (by decide) ..
@[simp ↓] theorem bBor_0_7 (t : TB) (E : EK) (env : Env) (P : Bool → Env → Prop) : bBor [0, 7] t E env P = lendM [true, false, false, false, false, false, false, true] env fun e => t (fun _ _ => False) e fun r e1 => backM [true, false, false, false, false, false, false, true] env e1 fun e2 => P r e2 := bBor_m _ (by decide) ..
@[simp ↓] theorem rBor_0_8 (t : TR) (E : EK) (env : Env) (P : Ret → Env → Prop) : rBor [0, 8] t E env P = lendM [true, false, false, false, false, false, false, false, true] env fun e => t (fun _ _ => False) e fun r e1 => ifp (r.flat = true) <| backM [true, false, false, false, false, false, false, false, true] env e1 fun e2 => P r e2 := rBor_m _ (by decide) ..
@[simp ↓] theorem bBor_0_8 (t : TB) (E : EK) (env : Env) (P : Bool → Env → Prop) : bBor [0, 8] t E env P = lendM [true, false, false, false, false, false, false, false, true] env fun e => t (fun _ _ => False) e fun r e1 => backM [true, false, false, false, false, false, false, false, true] env e1 fun e2 => P r e2 := bBor_m _ (by decide) ..
@[simp ↓] theorem rBor_0_9 (t : TR) (E : EK) (env : Env) (P : Ret → Env → Prop) : rBor [0, 9] t E env P = lendM [true, false, false, false, false, false, false, false, false, true] env fun e => t (fun _ _ => False) e fun r e1 => ifp (r.flat = true) <| backM [true, false, false, false, false, false, false, false, false, true] env e1 fun e2 => P r e2 := rBor_m _ (by decide) ..
@[simp ↓] theorem bBor_0_9 (t : TB) (E : EK) (env : Env) (P : Bool → Env → Prop) : bBor [0, 9] t E env P = lendM [true, false, false, false, false, false, false, false, false, true] env fun e => t (fun _ _ => False) e fun r e1 => backM [true, false, false, false, false, false, false, false, false, true] env e1 fun e2 => P r e2 := bBor_m _ (by decide) ..
@[simp ↓] theorem rBor_0_10 (t : TR) (E : EK) (env : Env) (P : Ret → Env → Prop) : rBor [0, 10] t E env P = lendM [true, false, false, false, false, false, false, false, false, false, true] env fun e => t (fun _ _ => False) e fun r e1 => ifp (r.flat = true) <| backM [true, false, false, false, false, false, false, false, false, false, true] env e1 fun e2 => P r e2 := rBor_m _ (by decide) ..
@[simp ↓] theorem bBor_0_10 (t : TB) (E : EK) (env : Env) (P : Bool → Env → Prop) : bBor [0, 10] t E env P = lendM [true, false, false, false, false, false, false, false, false, false, true] env fun e => t (fun _ _ => False) e fun r e1 => backM [true, false, false, false, false, false, false, false, false, false, true] env e1 fun e2 => P r e2 := bBor_m _ (by decide) ..
@[simp ↓] theorem rBor_0_11 (t : TR) (E : EK) (env : Env) (P : Ret → Env → Prop) : rBor [0, 11] t E env P = lendM [true, false, false, false, false, false, false, false, false, false, false, true] env fun e => t (fun _ _ => False) e fun r e1 => ifp (r.flat = true) <| backM [true, false, false, false, false, false, false, false, false, false, false, true] env e1 fun e2 => P r e2 := rBor_m _ (by decide) ..
@[simp ↓] theorem bBor_0_11 (t : TB) (E : EK) (env : Env) (P : Bool → Env → Prop) : bBor [0, 11] t E env P = lendM [true, false, false, false, false, false, false, false, false, false, false, true] env fun e => t (fun _ _ => False) e fun r e1 => backM [true, false, false, false, false, false, false, false, false, false, false, true] env e1 fun e2 => P r e2 := bBor_m _ (by decide) ..
@[simp ↓] theorem rBor_0_12 (t : TR) (E : EK) (env : Env) (P : Ret → Env → Prop) : rBor [0, 12] t E env P = lendM [true, false, false, false, false, false, false, false, false, false, false, false, true] env fun e => t (fun _ _ => False) e fun r e1 => ifp (r.flat = true) <| backM [true, false, false, false, false, false, false, false, false, false, false, false, true] env e1 fun e2 => P r e2 := rBor_m _ (by decide) ..
@[simp ↓] theorem bBor_0_12 (t : TB) (E : EK) (env : Env) (P : Bool → Env → Prop) : bBor [0, 12] t E env P = lendM [true, false, false, false, false, false, false, false, false, false, false, false, true] env fun e => t (fun _ _ => False) e fun r e1 => backM [true, false, false, false, false, false, false, false, false, false, false, false, true] env e1 fun e2 => P r e2 := bBor_m _ (by decide) ..
@[simp ↓] theorem rBor_0_13 (t : TR) (E : EK) (env : Env) (P : Ret → Env → Prop) : rBor [0, 13] t E env P = lendM [true, false, false, false, false, false, false, false, false, false, false, false, false, true] env fun e => t (fun _ _ => False) e fun r e1 => ifp (r.flat = true) <| backM [true, false, false, false, false, false, false, false, false, false, false, false, false, true] env e1 fun e2 => P r e2 := rBor_m _ (by decide) ..
@[simp ↓] theorem bBor_0_13 (t : TB) (E : EK) (env : Env) (P : Bool → Env → Prop) : bBor [0, 13] t E env P = lendM [true, false, false, false, false, false, false, false, false, false, false, false, false, true] env fun e => t (fun _ _ => False) e fun r e1 => backM [true, false, false, false, false, false, false, false, false, false, false, false, false, true] env e1 fun e2 => P r e2 := bBor_m _ (by decide) ..
@[simp ↓] theorem rBor_1_2 (t : TR) (E : EK) (env : Env) (P : Ret → Env → Prop) : rBor [1, 2] t E env P = lendM [false, true, true] env fun e => t (fun _ _ => False) e fun r e1 => ifp (r.flat = true) <| backM [false, true, true] env e1 fun e2 => P r e2 := rBor_m _ (by decide) ..
@[simp ↓] theorem bBor_1_2 (t : TB) (E : EK) (env : Env) (P : Bool → Env → Prop) : bBor [1, 2] t E env P = lendM [false, true, true] env fun e => t (fun _ _ => False) e fun r e1 => backM [false, true, true] env e1 fun e2 => P r e2 := bBor_m _ (by decide) ..
@[simp ↓] theorem rBor_1_3 (t : TR) (E : EK) (env : Env) (P : Ret → Env → Prop) : rBor [1, 3] t E env P = lendM [false, true, false, true] env fun e => t (fun _ _ => False) e fun r e1 => ifp (r.flat = true) <| backM [false, true, false, true] env e1 fun e2 => P r e2 := rBor_m _ (by decide) ..
@[simp ↓] theorem bBor_1_3 (t : TB) (E : EK) (env : Env) (P : Bool → Env → Prop) : bBor [1, 3] t E env P = lendM [false, true, false, true] env fun e => t (fun _ _ => False) e fun r e1 => backM [false, true, false, true] env e1 fun e2 => P r e2 := bBor_m _ (by decide) ..
@[simp ↓] theorem rBor_1_4 (t : TR) (E : EK) (env : Env) (P : Ret → Env → Prop) : rBor [1, 4] t E env P = lendM [false, true, false, false, true] env fun e => t (fun _ _ => False) e fun r e1 => ifp (r.flat = true) <| backM [false, true, false, false, true] env e1 fun e2 => P r e2 := rBor_m _ (by decide) ..
@[simp ↓] theorem bBor_1_4 (t : TB) (E : EK) (env : Env) (P : Bool → Env → Prop) : bBor [1, 4] t E env P = lendM [false, true, false, false, true] env fun e => t (fun _ _ => False) e fun r e1 => backM [false, true, false, false, true] env e1 fun e2 => P r e2 := bBor_m _ (by decide) ..
@[simp ↓] theorem rBor_1_5 (t : TR) (E : EK) (env : Env) (P : Ret → Env → Prop) : rBor [1, 5] t E env P = lendM [false, true, false, false, false, true] env fun e => t (fun _ _ => False) e fun r e1 => ifp (r.flat = true) <| backM [false, true, false, false, false, true] env e1 fun e2 => P r e2 := rBor_m _ (by decide) ..
@[simp ↓] theorem bBor_1_5 (t : TB) (E : EK) (env : Env) (P : Bool → Env → Prop) : bBor [1, 5] t E env P = lendM [false, true, false, false, false, true] env fun e => t (fun _ _ => False) e fun r e1 => backM [false, true, false, false, false, true] env e1 fun e2 => P r e2 := bBor_m _ (by decide) ..
@[simp ↓] theorem rBor_1_6 (t : TR) (E : EK) (env : Env) (P : Ret → Env → Prop) : rBor [1, 6] t E env P = lendM [false, true, false, false, false, false, true] env fun e => t (fun _ _ => False) e fun r e1 => ifp (r.flat = true) <| backM [false, true, false, false, false, false, true] env e1 fun e2 => P r e2 := rBor_m _ (by decide) ..
@[simp ↓] theorem bBor_1_6 (t : TB) (E : EK) (env : Env) (P : Bool → Env → Prop) : bBor [1, 6] t E env P = lendM [false, true, false, false, false, false, true] env fun e => t (fun _ _ => False) e fun r e1 => backM [false, true, false, false, false, false, true] env e1 fun e2 => P r e2 := bBor_m _ (by decide) ..
@[simp ↓] theorem rBor_1_7 (t : TR) (E : EK) (env : Env) (P : Ret → Env → Prop) : rBor [1, 7] t E env P = lendM [false, true, false, false, false, false, false, true] env fun e => t (fun _ _ => False) e fun r e1 => ifp (r.flat = true) <| backM [false, true, false, false, false, false, false, true] env e1 fun e2 => P r e2 := rBor_m _ (by decide) ..
@[simp ↓] theorem bBor_1_7 (t : TB) (E : EK) (env : Env) (P : Bool → Env → Prop) : bBor [1, 7] t E env P = lendM [false, true, false, false, false, false, false, true] env fun e => t (fun _ _ => False) e fun r e1 => backM [false, true, false, false, false, false, false, true] env e1 fun e2 => P r e2 := bBor_m _ (by decide) ..
@[simp ↓] theorem rBor_1_8 (t : TR) (E : EK) (env : Env) (P : Ret → Env → Prop) : rBor [1, 8] t E env P = lendM [false, true, false, false, false, false, false, false, true] env fun e => t (fun _ _ => False) e fun r e1 => ifp (r.flat = true) <| backM [false, true, false, false, false, false, false, false, true] env e1 fun e2 => P r e2 := rBor_m _ (by decide) ..
@[simp ↓] theorem bBor_1_8 (t : TB) (E : EK) (env : Env) (P : Bool → Env → Prop) : bBor [1, 8] t E env P = lendM [false, true, false, false, false, false, false, false, true] env fun e => t (fun _ _ => False) e fun r e1 => backM [false, true, false, false, false, false, false, false, true] env e1 fun e2 => P r e2 := bBor_m _ (by decide) ..
@[simp ↓] theorem rBor_1_9 (t : TR) (E : EK) (env : Env) (P : Ret → Env → Prop) : rBor [1, 9] t E env P = lendM [false, true, false, false, false, false, false, false, false, true] env fun e => t (fun _ _ => False) e fun r e1 => ifp (r.flat = true) <| backM [false, true, false, false, false, false, false, false, false, true] env e1 fun e2 => P r e2 := rBor_m _ (by decide) ..
@[simp ↓] theorem bBor_1_9 (t : TB) (E : EK) (env : Env) (P : Bool → Env → Prop) : bBor [1, 9] t E env P = lendM [false, true, false, false, false, false, false, false, false, true] env fun e => t (fun _ _ => False) e fun r e1 => backM [false, true, false, false, false, false, false, false, false, true] env e1 fun e2 => P r e2 := bBor_m _ (by decide) ..
@[simp ↓] theorem rBor_1_10 (t : TR) (E : EK) (env : Env) (P : Ret → Env → Prop) : rBor [1, 10] t E env P = lendM [false, true, false, false, false, false, false, false, false, false, true] env fun e => t (fun _ _ => False) e fun r e1 => ifp (r.flat = true) <| backM [false, true, false, false, false, false, false, false, false, false, true] env e1 fun e2 => P r e2 := rBor_m _ (by decide) ..
@[simp ↓] theorem bBor_1_10 (t : TB) (E : EK) (env : Env) (P : Bool → Env → Prop) : bBor [1, 10] t E env P = lendM [false, true, false, false, false, false, false, false, false, false, true] env fun e => t (fun _ _ => False) e fun r e1 => backM [false, true, false, false, false, false, false, false, false, false, true] env e1 fun e2 => P r e2 := bBor_m _ (by decide) ..
@[simp ↓] theorem rBor_1_11 (t : TR) (E : EK) (env : Env) (P : Ret → Env → Prop) : rBor [1, 11] t E env P = lendM [false, true, false, false, false, false, false, false, false, false, false, true] env fun e => t (fun _ _ => False) e fun r e1 => ifp (r.flat = true) <| backM [false, true, false, false, false, false, false, false, false, false, false, true] env e1 fun e2 => P r e2 := rBor_m _ (by decide) ..
@[simp ↓] theorem bBor_1_11 (t : TB) (E : EK) (env : Env) (P : Bool → Env → Prop) : bBor [1, 11] t E env P = lendM [false, true, false, false, false, false, false, false, false, false, false, true] env fun e => t (fun _ _ => False) e fun r e1 => backM [false, true, false, false, false, false, false, false, false, false, false, true] env e1 fun e2 => P r e2 := bBor_m _ (by decide) ..
@[simp ↓] theorem rBor_1_12 (t : TR) (E : EK) (env : Env) (P : Ret → Env → Prop) : rBor [1, 12] t E env P = lendM [false, true, false, false, false, false, false, false, false, false, false, false, true] env fun e => t (fun _ _ => False) e fun r e1 => ifp (r.flat = true) <| backM [false, true, false, false, false, false, false, false, false, false, false, false, true] env e1 fun e2 => P r e2 := rBor_m _ (by decide) ..
@[simp ↓] theorem bBor_1_12 (t : TB) (E : EK) (env : Env) (P : Bool → Env → Prop) : bBor [1, 12] t E env P = lendM [false, true, false, false, false, false, false, false, false, false, false, false, true] env fun e => t (fun _ _ => False) e fun r e1 => backM [false, true, false, false, false, false, false, false, false, false, false, false, true] env e1 fun e2 => P r e2 := bBor_m _ (by decide) ..
@[simp ↓] theorem rBor_1_13 (t : TR) (E : EK) (env : Env) (P : Ret → Env → Prop) : rBor [1, 13] t E env P = lendM [false, true, false, false, false, false, false, false, false, false, false, false, false, true] env fun e => t (fun _ _ => False) e fun r e1 => ifp (r.flat = true) <| backM [false, true, false, false, false, false, false, false, false, false, false, false, false, true] env e1 fun e2 => P r e2 := rBor_m _ (by decide) ..
@[simp ↓] theorem bBor_1_13 (t : TB) (E : EK) (env : Env) (P : Bool → Env → Prop) : bBor [1, 13] t E env P = lendM [false, true, false, false, false, false, false, false, false, false, false, false, false, true] env fun e => t (fun _ _ => False) e fun r e1 => backM [false, true, false, false, false, false, false, false, false, false, false, false, false, true] env e1 fun e2 => P r e2 := bBor_m _ (by decide) ..
@[simp ↓] theorem rBor_2_3 (t : TR) (E : EK) (env : Env) (P : Ret → Env → Prop) : rBor [2, 3] t E env P = lendM [false, false, true, true] env fun e => t (fun _ _ => False) e fun r e1 => ifp (r.flat = true) <| backM [false, false, true, true] env e1 fun e2 => P r e2 := rBor_m _ (by decide) ..
@[simp ↓] theorem bBor_2_3 (t : TB) (E : EK) (env : Env) (P : Bool → Env → Prop) : bBor [2, 3] t E env P = lendM [false, false, true, true] env fun e => t (fun _ _ => False) e fun r e1 => backM [false, false, true, true] env e1 fun e2 => P r e2 := bBor_m _ (by decide) ..
@[simp ↓] theorem rBor_2_4 (t : TR) (E : EK) (env : Env) (P : Ret → Env → Prop) : rBor [2, 4] t E env P = lendM [false, false, true, false, true] env fun e => t (fun _ _ => False) e fun r e1 => ifp (r.flat = true) <| backM [false, false, true, false, true] env e1 fun e2 => P r e2 := rBor_m _ (by decide) ..
@[simp ↓] theorem bBor_2_4 (t : TB) (E : EK) (env : Env) (P : Bool → Env → Prop) : bBor [2, 4] t E env P = lendM [false, false, true, false, true] env fun e => t (fun _ _ => False) e fun r e1 => backM [false, false, true, false, true] env e1 fun e2 => P r e2 := bBor_m _ (by decide) ..
@[simp ↓] theorem rBor_2_5 (t : TR) (E : EK) (env : Env) (P : Ret → Env → Prop) : rBor [2, 5] t E env P = lendM [false, false, true, false, false, true] env fun e => t (fun _ _ => False) e fun r e1 => ifp (r.flat = true) <| backM [false, false, true, false, false, true] env e1 fun e2 => P r e2 := rBor_m _ (by decide) ..
@[simp ↓] theorem bBor_2_5 (t : TB) (E : EK) (env : Env) (P : Bool → Env → Prop) : bBor [2, 5] t E env P = lendM [false, false, true, false, false, true] env fun e => t (fun _ _ => False) e fun r e1 => backM [false, false, true, false, false, true] env e1 fun e2 => P r e2 := bBor_m _ (by decide) ..
@[simp ↓] theorem rBor_2_6 (t : TR) (E : EK) (env : Env) (P : Ret → Env → Prop) : rBor [2, 6] t E env P = lendM [false, false, true, false, false, false, true] env fun e => t (fun _ _ => False) e fun r e1 => ifp (r.flat = true) <| backM [false, false, true, false, false, false, true] env e1 fun e2 => P r e2 := rBor_m _ (by decide) ..
@[simp ↓] theorem bBor_2_6 (t : TB) (E : EK) (env : Env) (P : Bool → Env → Prop) : bBor [2, 6] t E env P = lendM [false, false, true, false, false, false, true] env fun e => t (fun _ _ => False) e fun r e1 => backM [false, false, true, false, false, false, true] env e1 fun e2 => P r e2 := bBor_m _ (by decide) ..
@[simp ↓] theorem rBor_2_7 (t : TR) (E : EK) (env : Env) (P : Ret → Env → Prop) : rBor [2, 7] t E env P = lendM [false, false, true, false, false, false, false, true] env fun e => t (fun _ _ => False) e fun r e1 => ifp (r.flat = true) <| backM [false, false, true, false, false, false, false, true] env e1 fun e2 => P r e2 := rBor_m _ (by decide) ..
@[simp ↓] theorem bBor_2_7 (t : TB) (E : EK) (env : Env) (P : Bool → Env → Prop) : bBor [2, 7] t E env P = lendM [false, false, true, false, false, false, false, true] env fun e => t (fun _ _ => False) e fun r e1 => backM [false, false, true, false, false, false, false, true] env e1 fun e2 => P r e2 := bBor_m _ (by decide) ..
@[simp ↓] theorem rBor_2_8 (t : TR) (E : EK) (env : Env) (P : Ret → Env → Prop) : rBor [2, 8] t E env P = lendM [false, false, true, false, false, false, false, false, true] env fun e => t (fun _ _ => False) e fun r e1 => ifp (r.flat = true) <| backM [false, false, true, false, false, false, false, false, true] env e1 fun e2 => P r e2 := rBor_m _ (by decide) ..
@[simp ↓] theorem bBor_2_8 (t : TB) (E : EK) (env : Env) (P : Bool → Env → Prop) : bBor [2, 8] t E env P = lendM [false, false, true, false, false, false, false, false, true] env fun e => t (fun _ _ => False) e fun r e1 => backM [false, false, true, false, false, false, false, false, true] env e1 fun e2 => P r e2 := bBor_m _ (by decide) ..
@[simp ↓] theorem rBor_2_9 (t : TR) (E : EK) (env : Env) (P : Ret → Env → Prop) : rBor [2, 9] t E env P = lendM [false, false, true, false, false, false, false, false, false, true] env fun e => t (fun _ _ => False) e fun r e1 => ifp (r.flat = true) <| backM [false, false, true, false, false, false, false, false, false, true] env e1 fun e2 => P r e2 := rBor_m _ (by decide) ..
@[simp ↓] theorem bBor_2_9 (t : TB) (E : EK) (env : Env) (P : Bool → Env → Prop) : bBor [2, 9] t E env P = lendM [false, false, true, false, false, false, false, false, false, true] env fun e => t (fun _ _ => False) e fun r e1 => backM [false, false, true, false, false, false, false, false, false, true] env e1 fun e2 => P r e2 := bBor_m _ (by decide) ..
@[simp ↓] theorem rBor_2_10 (t : TR) (E : EK) (env : Env) (P : Ret → Env → Prop) : rBor [2, 10] t E env P = lendM [false, false, true, false, false, false, false, false, false, false, true] env fun e => t (fun _ _ => False) e fun r e1 => ifp (r.flat = true) <| backM [false, false, true, false, false, false, false, false, false, false, true] env e1 fun e2 => P r e2 := rBor_m _ (by decide) ..
@[simp ↓] theorem bBor_2_10 (t : TB) (E : EK) (env : Env) (P : Bool → Env → Prop) : bBor [2, 10] t E env P = lendM [false, false, true, false, false, false, false, false, false, false, true] env fun e => t (fun _ _ => False) e fun r e1 => backM [false, false, true, false, false, false, false, false, false, false, true] env e1 fun e2 => P r e2 := bBor_m _ (by decide) ..
@[simp ↓] theorem rBor_2_11 (t : TR) (E : EK) (env : Env) (P : Ret → Env → Prop) : rBor [2, 11] t E env P = lendM [false, false, true, false, false, false, false, false, false, false, false, true] env fun e => t (fun _ _ => False) e fun r e1 => ifp (r.flat = true) <| backM [false, false, true, false, false, false, false, false, false, false, false, true] env e1 fun e2 => P r e2 := rBor_m _ (by decide) ..
@[simp ↓] theorem bBor_2_11 (t : TB) (E : EK) (env : Env) (P : Bool → Env → Prop) : bBor [2, 11] t E env P = lendM [false, false, true, false, false, false, false, false, false, false, false, true] env fun e => t (fun _ _ => False) e fun r e1 => backM [false, false, true, false, false, false, false, false, false, false, false, true] env e1 fun e2 => P r e2 := bBor_m _ (by decide) ..
@[simp ↓] theorem rBor_2_12 (t : TR) (E : EK) (env : Env) (P : Ret → Env → Prop) : rBor [2, 12] t E env P = lendM [false, false, true, false, false, false, false, false, false, false, false, false, true] env fun e => t (fun _ _ => False) e fun r e1 => ifp (r.flat = true) <| backM [false, false, true, false, false, false, false, false, false, false, false, false, true] env e1 fun e2 => P r e2 := rBor_m _ (by decide) ..
@[simp ↓] theorem bBor_2_12 (t : TB) (E : EK) (env : Env) (P : Bool → Env → Prop) : bBor [2, 12] t E env P = lendM [false, false, true, false, false, false, false, false, false, false, false, false, true] env fun e => t (fun _ _ => False) e fun r e1 => backM [false, false, true, false, false, false, false, false, false, false, false, false, true] env e1 fun e2 => P r e2 := bBor_m _ (by decide) ..
@[simp ↓] theorem rBor_2_13 (t : TR) (E : EK) (env : Env) (P : Ret → Env → Prop) : rBor [2, 13] t E env P = lendM [false, false, true, false, false, false, false, false, false, false, false, false, false, true] env fun e => t (fun _ _ => False) e fun r e1 => ifp (r.flat = true) <| backM [false, false, true, false, false, false, false, false, false, false, false, false, false, true] env e1 fun e2 => P r e2 := rBor_m _ (by decide) ..
@[simp ↓] theorem bBor_2_13 (t : TB) (E : EK) (env : Env) (P : Bool → Env → Prop) : bBor [2, 13] t E env P = lendM [false, false, true, false, false, false, false, false, false, false, false, false, false, true] env fun e => t (fun _ _ => False) e fun r e1 => backM [false, false, true, false, false, false, false, false, false, false, false, false, false, true] env e1 fun e2 => P r e2 := bBor_m _ (by decide) ..
@[simp ↓] theorem rBor_3_4 (t : TR) (E : EK) (env : Env) (P : Ret → Env → Prop) : rBor [3, 4] t E env P = lendM [false, false, false, true, true] env fun e => t (fun _ _ => False) e fun r e1 => ifp (r.flat = true) <| backM [false, false, false, true, true] env e1 fun e2 => P r e2 := rBor_m _ (by decide) ..
@[simp ↓] theorem bBor_3_4 (t : TB) (E : EK) (env : Env) (P : Bool → Env → Prop) : bBor [3, 4] t E env P = lendM [false, false, false, true, true] env fun e => t (fun _ _ => False) e fun r e1 => backM [false, false, false, true, true] env e1 fun e2 => P r e2 := bBor_m _ (by decide) ..
@[simp ↓] theorem rBor_3_5 (t : TR) (E : EK) (env : Env) (P : Ret → Env → Prop) : rBor [3, 5] t E env P = lendM [false, false, false, true, false, true] env fun e => t (fun _ _ => False) e fun r e1 => ifp (r.flat = true) <| backM [false, false, false, true, false, true] env e1 fun e2 => P r e2 := rBor_m _ (by decide) ..
@[simp ↓] theorem bBor_3_5 (t : TB) (E : EK) (env : Env) (P : Bool → Env → Prop) : bBor [3, 5] t E env P = lendM [false, false, false, true, false, true] env fun e => t (fun _ _ => False) e fun r e1 => backM [false, false, false, true, false, true] env e1 fun e2 => P r e2 := bBor_m _ (by decide) ..
@[simp ↓] theorem rBor_3_6 (t : TR) (E : EK) (env : Env) (P : Ret → Env → Prop) : rBor [3, 6] t E env P = lendM [false, false, false, true, false, false, true] env fun e => t (fun _ _ => False) e fun r e1 => ifp (r.flat = true) <| backM [false, false, false, true, false, false, true] env e1 fun e2 => P r e2 := rBor_m _ (by decide) ..
@[simp ↓] theorem bBor_3_6 (t : TB) (E : EK) (env : Env) (P : Bool → Env → Prop) : bBor [3, 6] t E env P = lendM [false, false, false, true, false, false, true] env fun e => t (fun _ _ => False) e fun r e1 => backM [false, false, false, true, false, false, true] env e1 fun e2 => P r e2 := bBor_m _ (by decide) ..
@[simp ↓] theorem rBor_3_7 (t : TR) (E : EK) (env : Env) (P : Ret → Env → Prop) : rBor [3, 7] t E env P = lendM [false, false, false, true, false, false, false, true] env fun e => t (fun _ _ => False) e fun r e1 => ifp (r.flat = true) <| backM [false, false, false, true, false, false, false, true] env e1 fun e2 => P r e2 := rBor_m _ (by decide) ..
@[simp ↓] theorem bBor_3_7 (t : TB) (E : EK) (env : Env) (P : Bool → Env → Prop) : bBor [3, 7] t E env P = lendM [false, false, false, true, false, false, false, true] env fun e => t (fun _ _ => False) e fun r e1 => backM [false, false, false, true, false, false, false, true] env e1 fun e2 => P r e2 := bBor_m _ (by decide) ..
@[simp ↓] theorem rBor_3_8 (t : TR) (E : EK) (env : Env) (P : Ret → Env → Prop) : rBor [3, 8] t E env P = lendM [false, false, false, true, false, false, false, false, true] env fun e => t (fun _ _ => False) e fun r e1 => ifp (r.flat = true) <| backM [false, false, false, true, false, false, false, false, true] env e1 fun e2 => P r e2 := rBor_m _ (by decide) ..
@[simp ↓] theorem bBor_3_8 (t : TB) (E : EK) (env : Env) (P : Bool → Env → Prop) : bBor [3, 8] t E env P = lendM [false, false, false, true, false, false, false, false, true] env fun e => t (fun _ _ => False) e fun r e1 => backM [false, false, false, true, false, false, false, false, true] env e1 fun e2 => P r e2 := bBor_m _ (by decide) ..
@[simp ↓] theorem rBor_3_9 (t : TR) (E : EK) (env : Env) (P : Ret → Env → Prop) : rBor [3, 9] t E env P = lendM [false, false, false, true, false, false, false, false, false, true] env fun e => t (fun _ _ => False) e fun r e1 => ifp (r.flat = true) <| backM [false, false, false, true, false, false, false, false, false, true] env e1 fun e2 => P r e2 := rBor_m _ (by decide) ..
@[simp ↓] theorem bBor_3_9 (t : TB) (E : EK) (env : Env) (P : Bool → Env → Prop) : bBor [3, 9] t E env P = lendM [false, false, false, true, false, false, false, false, false, true] env fun e => t (fun _ _ => False) e fun r e1 => backM [false, false, false, true, false, false, false, false, false, true] env e1 fun e2 => P r e2 := bBor_m _ (by decide) ..
@[simp ↓] theorem rBor_3_10 (t : TR) (E : EK) (env : Env) (P : Ret → Env → Prop) : rBor [3, 10] t E env P = lendM [false, false, false, true, false, false, false, false, false, false, true] env fun e => t (fun _ _ => False) e fun r e1 => ifp (r.flat = true) <| backM [false, false, false, true, false, false, false, false, false, false, true] env e1 fun e2 => P r e2 := rBor_m _ (by decide) ..
@[simp ↓] theorem bBor_3_10 (t : TB) (E : EK) (env : Env) (P : Bool → Env → Prop) : bBor [3, 10] t E env P = lendM [false, false, false, true, false, false, false, false, false, false, true] env fun e => t (fun _ _ => False) e fun r e1 => backM [false, false, false, true, false, false, false, false, false, false, true] env e1 fun e2 => P r e2 := bBor_m _ (by decide) ..
@[simp ↓] theorem rBor_3_11 (t : TR) (E : EK) (env : Env) (P : Ret → Env → Prop) : rBor [3, 11] t E env P = lendM [false, false, false, true, false, false, false, false, false, false, false, true] env fun e => t (fun _ _ => False) e fun r e1 => ifp (r.flat = true) <| backM [false, false, false, true, false, false, false, false, false, false, false, true] env e1 fun e2 => P r e2 := rBor_m _ (by decide) ..
@[simp ↓] theorem bBor_3_11 (t : TB) (E : EK) (env : Env) (P : Bool → Env → Prop) : bBor [3, 11] t E env P = lendM [false, false, false, true, false, false, false, false, false, false, false, true] env fun e => t (fun _ _ => False) e fun r e1 => backM [false, false, false, true, false, false, false, false, false, false, false, true] env e1 fun e2 => P r e2 := bBor_m _ (by decide) ..
@[simp ↓] theorem rBor_3_12 (t : TR) (E : EK) (env : Env) (P : Ret → Env → Prop) : rBor [3, 12] t E env P = lendM [false, false, false, true, false, false, false, false, false, false, false, false, true] env fun e => t (fun _ _ => False) e fun r e1 => ifp (r.flat = true) <| backM [false, false, false, true, false, false, false, false, false, false, false, false, true] env e1 fun e2 => P r e2 := rBor_m _ (by decide) ..
@[simp ↓] theorem bBor_3_12 (t : TB) (E : EK) (env : Env) (P : Bool → Env → Prop) : bBor [3, 12] t E env P = lendM [false, false, false, true, false, false, false, false, false, false, false, false, true] env fun e => t (fun _ _ => False) e fun r e1 => backM [false, false, false, true, false, false, false, false, false, false, false, false, true] env e1 fun e2 => P r e2 := bBor_m _ (by decide) ..
@[simp ↓] theorem rBor_3_13 (t : TR) (E : EK) (env : Env) (P : Ret → Env → Prop) : rBor [3, 13] t E env P = lendM [false, false, false, true, false, false, false, false, false, false, false, false, false, true] env fun e => t (fun _ _ => False) e fun r e1 => ifp (r.flat = true) <| backM [false, false, false, true, false, false, false, false, false, false, false, false, false, true] env e1 fun e2 => P r e2 := rBor_m _ (by decide) ..
@[simp ↓] theorem bBor_3_13 (t : TB) (E : EK) (env : Env) (P : Bool → Env → Prop) : bBor [3, 13] t E env P = lendM [false, false, false, true, false, false, false, false, false, false, false, false, false, true] env fun e => t (fun _ _ => False) e fun r e1 => backM [false, false, false, true, false, false, false, false, false, false, false, false, false, true] env e1 fun e2 => P r e2 := bBor_m _ (by decide) ..
@[simp ↓] theorem rBor_4_5 (t : TR) (E : EK) (env : Env) (P : Ret → Env → Prop) : rBor [4, 5] t E env P = lendM [false, false, false, false, true, true] env fun e => t (fun _ _ => False) e fun r e1 => ifp (r.flat = true) <| backM [false, false, false, false, true, true] env e1 fun e2 => P r e2 := rBor_m _ (by decide) ..
@[simp ↓] theorem bBor_4_5 (t : TB) (E : EK) (env : Env) (P : Bool → Env → Prop) : bBor [4, 5] t E env P = lendM [false, false, false, false, true, true] env fun e => t (fun _ _ => False) e fun r e1 => backM [false, false, false, false, true, true] env e1 fun e2 => P r e2 := bBor_m _ (by decide) ..
@[simp ↓] theorem rBor_4_6 (t : TR) (E : EK) (env : Env) (P : Ret → Env → Prop) : rBor [4, 6] t E env P = lendM [false, false, false, false, true, false, true] env fun e => t (fun _ _ => False) e fun r e1 => ifp (r.flat = true) <| backM [false, false, false, false, true, false, true] env e1 fun e2 => P r e2 := rBor_m _ (by decide) ..
@[simp ↓] theorem bBor_4_6 (t : TB) (E : EK) (env : Env) (P : Bool → Env → Prop) : bBor [4, 6] t E env P = lendM [false, false, false, false, true, false, true] env fun e => t (fun _ _ => False) e fun r e1 => backM [false, false, false, false, true, false, true] env e1 fun e2 => P r e2 := bBor_m _ (by decide) ..
@[simp ↓] theorem rBor_4_7 (t : TR) (E : EK) (env : Env) (P : Ret → Env → Prop) : rBor [4, 7] t E env P = lendM [false, false, false, false, true, false, false, true] env fun e => t (fun _ _ => False) e fun r e1 => ifp (r.flat = true) <| backM [false, false, false, false, true, false, false, true] env e1 fun e2 => P r e2 := rBor_m _ (by decide) ..
@[simp ↓] theorem bBor_4_7 (t : TB) (E : EK) (env : Env) (P : Bool → Env → Prop) : bBor [4, 7] t E env P = lendM [false, false, false, false, true, false, false, true] env fun e => t (fun _ _ => False) e fun r e1 => backM [false, false, false, false, true, false, false, true] env e1 fun e2 => P r e2 := bBor_m _ (by decide) ..
@[simp ↓] theorem rBor_4_8 (t : TR) (E : EK) (env : Env) (P : Ret → Env → Prop) : rBor [4, 8] t E env P = lendM [false, false, false, false, true, false, false, false, true] env fun e => t (fun _ _ => False) e fun r e1 => ifp (r.flat = true) <| backM [false, false, false, false, true, false, false, false, true] env e1 fun e2 => P r e2 := rBor_m _ (by decide) ..
@[simp ↓] theorem bBor_4_8 (t : TB) (E : EK) (env : Env) (P : Bool → Env → Prop) : bBor [4, 8] t E env P = lendM [false, false, false, false, true, false, false, false, true] env fun e => t (fun _ _ => False) e fun r e1 => backM [false, false, false, false, true, false, false, false, true] env e1 fun e2 => P r e2 := bBor_m _ (by decide) ..
@[simp ↓] theorem rBor_4_9 (t : TR) (E : EK) (env : Env) (P : Ret → Env → Prop) : rBor [4, 9] t E env P = lendM [false, false, false, false, true, false, false, false, false, true] env fun e => t (fun _ _ => False) e fun r e1 => ifp (r.flat = true) <| backM [false, false, false, false, true, false, false, false, false, true] env e1 fun e2 => P r e2 := rBor_m _ (by decide) ..
@[simp ↓] theorem bBor_4_9 (t : TB) (E : EK) (env : Env) (P : Bool → Env → Prop) : bBor [4, 9] t E env P = lendM [false, false, false, false, true, false, false, false, false, true] env fun e => t (fun _ _ => False) e fun r e1 => backM [false, false, false, false, true, false, false, false, false, true] env e1 fun e2 => P r e2 := bBor_m _ (by decide) ..
@[simp ↓] theorem rBor_4_10 (t : TR) (E : EK) (env : Env) (P : Ret → Env → Prop) : rBor [4, 10] t E env P = lendM [false, false, false, false, true, false, false, false, false, false, true] env fun e => t (fun _ _ => False) e fun r e1 => ifp (r.flat = true) <| backM [false, false, false, false, true, false, false, false, false, false, true] env e1 fun e2 => P r e2 := rBor_m _ (by decide) ..
@[simp ↓] theorem bBor_4_10 (t : TB) (E : EK) (env : Env) (P : Bool → Env → Prop) : bBor [4, 10] t E env P = lendM [false, false, false, false, true, false, false, false, false, false, true] env fun e => t (fun _ _ => False) e fun r e1 => backM [false, false, false, false, true, false, false, false, false, false, true] env e1 fun e2 => P r e2 := bBor_m _ (by decide) ..
@[simp ↓] theorem rBor_4_11 (t : TR) (E : EK) (env : Env) (P : Ret → Env → Prop) : rBor [4, 11] t E env P = lendM [false, false, false, false, true, false, false, false, false, false, false, true] env fun e => t (fun _ _ => False) e fun r e1 => ifp (r.flat = true) <| backM [false, false, false, false, true, false, false, false, false, false, false, true] env e1 fun e2 => P r e2 := rBor_m _ (by decide) ..
@[simp ↓] theorem bBor_4_11 (t : TB) (E : EK) (env : Env) (P : Bool → Env → Prop) : bBor [4, 11] t E env P = lendM [false, false, false, false, true, false, false, false, false, false, false, true] env fun e => t (fun _ _ => False) e fun r e1 => backM [false, false, false, false, true, false, false, false, false, false, false, true] env e1 fun e2 => P r e2 := bBor_m _ (by decide) ..
@[simp ↓] theorem rBor_4_12 (t : TR) (E : EK) (env : Env) (P : Ret → Env → Prop) : rBor [4, 12] t E env P = lendM [false, false, false, false, true, false, false, false, false, false, false, false, true] env fun e => t (fun _ _ => False) e fun r e1 => ifp (r.flat = true) <| backM [false, false, false, false, true, false, false, false, false, false, false, false, true] env e1 fun e2 => P r e2 := rBor_m _ (by decide) ..
@[simp ↓] theorem bBor_4_12 (t : TB) (E : EK) (env : Env) (P : Bool → Env → Prop) : bBor [4, 12] t E env P = lendM [false, false, false, false, true, false, false, false, false, false, false, false, true] env fun e => t (fun _ _ => False) e fun r e1 => backM [false, false, false, false, true, false, false, false, false, false, false, false, true] env e1 fun e2 => P r e2 := bBor_m _ (by decide) ..
@[simp ↓] theorem rBor_4_13 (t : TR) (E : EK) (env : Env) (P : Ret → Env → Prop) : rBor [4, 13] t E env P = lendM [false, false, false, false, true, false, false, false, false, false, false, false, false, true] env fun e => t (fun _ _ => False) e fun r e1 => ifp (r.flat = true) <| backM [false, false, false, false, true, false, false, false, false, false, false, false, false, true] env e1 fun e2 => P r e2 := rBor_m _ (by decide) ..
@[simp ↓] theorem bBor_4_13 (t : TB) (E : EK) (env : Env) (P : Bool → Env → Prop) : bBor [4, 13] t E env P = lendM [false, false, false, false, true, false, false, false, false, false, false, false, false, true] env fun e => t (fun _ _ => False) e fun r e1 => backM [false, false, false, false, true, false, false, false, false, false, false, false, false, true] env e1 fun e2 => P r e2 := bBor_m _ (by decide) ..
@[simp ↓] theorem rBor_5_6 (t : TR) (E : EK) (env : Env) (P : Ret → Env → Prop) : rBor [5, 6] t E env P = lendM [false, false, false, false, false, true, true] env fun e => t (fun _ _ => False) e fun r e1 => ifp (r.flat = true) <| backM [false, false, false, false, false, true, true] env e1 fun e2 => P r e2 := rBor_m _ (by decide) ..
@[simp ↓] theorem bBor_5_6 (t : TB) (E : EK) (env : Env) (P : Bool → Env → Prop) : bBor [5, 6] t E env P = lendM [false, false, false, false, false, true, true] env fun e => t (fun _ _ => False) e fun r e1 => backM [false, false, false, false, false, true, true] env e1 fun e2 => P r e2 := bBor_m _ (by decide) ..
@[simp ↓] theorem rBor_5_7 (t : TR) (E : EK) (env : Env) (P : Ret → Env → Prop) : rBor [5, 7] t E env P = lendM [false, false, false, false, false, true, false, true] env fun e => t (fun _ _ => False) e fun r e1 => ifp (r.flat = true) <| backM [false, false, false, false, false, true, false, true] env e1 fun e2 => P r e2 := rBor_m _ (by decide) ..
@[simp ↓] theorem bBor_5_7 (t : TB) (E : EK) (env : Env) (P : Bool → Env → Prop) : bBor [5, 7] t E env P = lendM [false, false, false, false, false, true, false, true] env fun e => t (fun _ _ => False) e fun r e1 => backM [false, false, false, false, false, true, false, true] env e1 fun e2 => P r e2 := bBor_m _ (by decide) ..
@[simp ↓] theorem rBor_5_8 (t : TR) (E : EK) (env : Env) (P : Ret → Env → Prop) : rBor [5, 8] t E env P = lendM [false, false, false, false, false, true, false, false, true] env fun e => t (fun _ _ => False) e fun r e1 => ifp (r.flat = true) <| backM [false, false, false, false, false, true, false, false, true] env e1 fun e2 => P r e2 := rBor_m _ (by decide) ..
@[simp ↓] theorem bBor_5_8 (t : TB) (E : EK) (env : Env) (P : Bool → Env → Prop) : bBor [5, 8] t E env P = lendM [false, false, false, false, false, true, false, false, true] env fun e => t (fun _ _ => False) e fun r e1 => backM [false, false, false, false, false, true, false, false, true] env e1 fun e2 => P r e2 := bBor_m _ (by decide) ..
@[simp ↓] theorem rBor_5_9 (t : TR) (E : EK) (env : Env) (P : Ret → Env → Prop) : rBor [5, 9] t E env P = lendM [false, false, false, false, false, true, false, false, false, true] env fun e => t (fun _ _ => False) e fun r e1 => ifp (r.flat = true) <| backM [false, false, false, false, false, true, false, false, false, true] env e1 fun e2 => P r e2 := rBor_m _ (by decide) ..
@[simp ↓] theorem bBor_5_9 (t : TB) (E : EK) (env : Env) (P : Bool → Env → Prop) : bBor [5, 9] t E env P = lendM [false, false, false, false, false, true, false, false, false, true] env fun e => t (fun _ _ => False) e fun r e1 => backM [false, false, false, false, false, true, false, false, false, true] env e1 fun e2 => P r e2 := bBor_m _ (by decide) ..
@[simp ↓] theorem rBor_5_10 (t : TR) (E : EK) (env : Env) (P : Ret → Env → Prop) : rBor [5, 10] t E env P = lendM [false, false, false, false, false, true, false, false, false, false, true] env fun e => t (fun _ _ => False) e fun r e1 => ifp (r.flat = true) <| backM [false, false, false, false, false, true, false, false, false, false, true] env e1 fun e2 => P r e2 := rBor_m _ (by decide) ..
@[simp ↓] theorem bBor_5_10 (t : TB) (E : EK) (env : Env) (P : Bool → Env → Prop) : bBor [5, 10] t E env P = lendM [false, false, false, false, false, true, false, false, false, false, true] env fun e => t (fun _ _ => False) e fun r e1 => backM [false, false, false, false, false, true, false, false, false, false, true] env e1 fun e2 => P r e2 := bBor_m _ (by decide) ..
@[simp ↓] theorem rBor_5_11 (t : TR) (E : EK) (env : Env) (P : Ret → Env → Prop) : rBor [5, 11] t E env P = lendM [false, false, false, false, false, true, false, false, false, false, false, true] env fun e => t (fun _ _ => False) e fun r e1 => ifp (r.flat = true) <| backM [false, false, false, false, false, true, false, false, false, false, false, true] env e1 fun e2 => P r e2 := rBor_m _ (by decide) ..
@[simp ↓] theorem bBor_5_11 (t : TB) (E : EK) (env : Env) (P : Bool → Env → Prop) : bBor [5, 11] t E env P = lendM [false, false, false, false, false, true, false, false, false, false, false, true] env fun e => t (fun _ _ => False) e fun r e1 => backM [false, false, false, false, false, true, false, false, false, false, false, true] env e1 fun e2 => P r e2 := bBor_m _ (by decide) ..
@[simp ↓] theorem rBor_5_12 (t : TR) (E : EK) (env : Env) (P : Ret → Env → Prop) : rBor [5, 12] t E env P = lendM [false, false, false, false, false, true, false, false, false, false, false, false, true] env fun e => t (fun _ _ => False) e fun r e1 => ifp (r.flat = true) <| backM [false, false, false, false, false, true, false, false, false, false, false, false, true] env e1 fun e2 => P r e2 := rBor_m _ (by decide) ..
@[simp ↓] theorem bBor_5_12 (t : TB) (E : EK) (env : Env) (P : Bool → Env → Prop) : bBor [5, 12] t E env P = lendM [false, false, false, false, false, true, false, false, false, false, false, false, true] env fun e => t (fun _ _ => False) e fun r e1 => backM [false, false, false, false, false, true, false, false, false, false, false, false, true] env e1 fun e2 => P r e2 := bBor_m _ (by decide) ..
@[simp ↓] theorem rBor_5_13 (t : TR) (E : EK) (env : Env) (P : Ret → Env → Prop) : rBor [5, 13] t E env P = lendM [false, false, false, false, false, true, false, false, false, false, false, false, false, true] env fun e => t (fun _ _ => False) e fun r e1 => ifp (r.flat = true) <| backM [false, false, false, false, false, true, false, false, false, false, false, false, false, true] env e1 fun e2 => P r e2 := rBor_m _ (by decide) ..
@[simp ↓] theorem bBor_5_13 (t : TB) (E : EK) (env : Env) (P : Bool → Env → Prop) : bBor [5, 13] t E env P = lendM [false, false, false, false, false, true, false, false, false, false, false, false, false, true] env fun e => t (fun _ _ => False) e fun r e1 => backM [false, false, false, false, false, true, false, false, false, false, false, false, false, true] env e1 fun e2 => P r e2 := bBor_m _ (by decide) ..
@[simp ↓] theorem rBor_6_7 (t : TR) (E : EK) (env : Env) (P : Ret → Env → Prop) : rBor [6, 7] t E env P = lendM [false, false, false, false, false, false, true, true] env fun e => t (fun _ _ => False) e fun r e1 => ifp (r.flat = true) <| backM [false, false, false, false, false, false, true, true] env e1 fun e2 => P r e2 := rBor_m _ (by decide) ..
@[simp ↓] theorem bBor_6_7 (t : TB) (E : EK) (env : Env) (P : Bool → Env → Prop) : bBor [6, 7] t E env P = lendM [false, false, false, false, false, false, true, true] env fun e => t (fun _ _ => False) e fun r e1 => backM [false, false, false, false, false, false, true, true] env e1 fun e2 => P r e2 := bBor_m _ (by decide) ..
@[simp ↓] theorem rBor_6_8 (t : TR) (E : EK) (env : Env) (P : Ret → Env → Prop) : rBor [6, 8] t E env P = lendM [false, false, false, false, false, false, true, false, true] env fun e => t (fun _ _ => False) e fun r e1 => ifp (r.flat = true) <| backM [false, false, false, false, false, false, true, false, true] env e1 fun e2 => P r e2 := rBor_m _ (by decide) ..
@[simp ↓] theorem bBor_6_8 (t : TB) (E : EK) (env : Env) (P : Bool → Env → Prop) : bBor [6, 8] t E env P = lendM [false, false, false, false, false, false, true, false, true] env fun e => t (fun _ _ => False) e fun r e1 => backM [false, false, false, false, false, false, true, false, true] env e1 fun e2 => P r e2 := bBor_m _ (by decide) ..
@[simp ↓] theorem rBor_6_9 (t : TR) (E : EK) (env : Env) (P : Ret → Env → Prop) : rBor [6, 9] t E env P = lendM [false, false, false, false, false, false, true, false, false, true] env fun e => t (fun _ _ => False) e fun r e1 => ifp (r.flat = true) <| backM [false, false, false, false, false, false, true, false, false, true] env e1 fun e2 => P r e2 := rBor_m _ (by decide) ..
@[simp ↓] theorem bBor_6_9 (t : TB) (E : EK) (env : Env) (P : Bool → Env → Prop) : bBor [6, 9] t E env P = lendM [false, false, false, false, false, false, true, false, false, true] env fun e => t (fun _ _ => False) e fun r e1 => backM [false, false, false, false, false, false, true, false, false, true] env e1 fun e2 => P r e2 := bBor_m _ (by decide) ..
@[simp ↓] theorem rBor_6_10 (t : TR) (E : EK) (env : Env) (P : Ret → Env → Prop) : rBor [6, 10] t E env P = lendM [false, false, false, false, false, false, true, false, false, false, true] env fun e => t (fun _ _ => False) e fun r e1 => ifp (r.flat = true) <| backM [false, false, false, false, false, false, true, false, false, false, true] env e1 fun e2 => P r e2 := rBor_m _ (by decide) ..
@[simp ↓] theorem bBor_6_10 (t : TB) (E : EK) (env : Env) (P : Bool → Env → Prop) : bBor [6, 10] t E env P = lendM [false, false, false, false, false, false, true, false, false, false, true] env fun e => t (fun _ _ => False) e fun r e1 => backM [false, false, false, false, false, false, true, false, false, false, true] env e1 fun e2 => P r e2 := bBor_m _ (by decide) ..
@[simp ↓] theorem rBor_6_11 (t : TR) (E : EK) (env : Env) (P : Ret → Env → Prop) : rBor [6, 11] t E env P = lendM [false, false, false, false, false, false, true, false, false, false, false, true] env fun e => t (fun _ _ => False) e fun r e1 => ifp (r.flat = true) <| backM [false, false, false, false, false, false, true, false, false, false, false, true] env e1 fun e2 => P r e2 := rBor_m _ (by decide) ..
@[simp ↓] theorem bBor_6_11 (t : TB) (E : EK) (env : Env) (P : Bool → Env → Prop) : bBor [6, 11] t E env P = lendM [false, false, false, false, false, false, true, false, false, false, false, true] env fun e => t (fun _ _ => False) e fun r e1 => backM [false, false, false, false, false, false, true, false, false, false, false, true] env e1 fun e2 => P r e2 := bBor_m _ (by decide) ..
@[simp ↓] theorem rBor_6_12 (t : TR) (E : EK) (env : Env) (P : Ret → Env → Prop) : rBor [6, 12] t E env P = lendM [false, false, false, false, false, false, true, false, false, false, false, false, true] env fun e => t (fun _ _ => False) e fun r e1 => ifp (r.flat = true) <| backM [false, false, false, false, false, false, true, false, false, false, false, false, true] env e1 fun e2 => P r e2 := rBor_m _ (by decide) ..
@[simp ↓] theorem bBor_6_12 (t : TB) (E : EK) (env : Env) (P : Bool → Env → Prop) : bBor [6, 12] t E env P = lendM [false, false, false, false, false, false, true, false, false, false, false, false, true] env fun e => t (fun _ _ => False) e fun r e1 => backM [false, false, false, false, false, false, true, false, false, false, false, false, true] env e1 fun e2 => P r e2 := bBor_m _ (by decide) ..
@[simp ↓] theorem rBor_6_13 (t : TR) (E : EK) (env : Env) (P : Ret → Env → Prop) : rBor [6, 13] t E env P = lendM [false, false, false, false, false, false, true, false, false, false, false, false, false, true] env fun e => t (fun _ _ => False) e fun r e1 => ifp (r.flat = true) <| backM [false, false, false, false, false, false, true, false, false, false, false, false, false, true] env e1 fun e2 => P r e2 := rBor_m _ (by decide) ..
@[simp ↓] theorem bBor_6_13 (t : TB) (E : EK) (env : Env) (P : Bool → Env → Prop) : bBor [6, 13] t E env P = lendM [false, false, false, false, false, false, true, false, false, false, false, false, false, true] env fun e => t (fun _ _ => False) e fun r e1 => backM [false, false, false, false, false, false, true, false, false, false, false, false, false, true] env e1 fun e2 => P r e2 := bBor_m _ (by decide) ..
@[simp ↓] theorem rBor_7_8 (t : TR) (E : EK) (env : Env) (P : Ret → Env → Prop) : rBor [7, 8] t E env P = lendM [false, false, false, false, false, false, false, true, true] env fun e => t (fun _ _ => False) e fun r e1 => ifp (r.flat = true) <| backM [false, false, false, false, false, false, false, true, true] env e1 fun e2 => P r e2 := rBor_m _ (by decide) ..
@[simp ↓] theorem bBor_7_8 (t : TB) (E : EK) (env : Env) (P : Bool → Env → Prop) : bBor [7, 8] t E env P = lendM [false, false, false, false, false, false, false, true, true] env fun e => t (fun _ _ => False) e fun r e1 => backM [false, false, false, false, false, false, false, true, true] env e1 fun e2 => P r e2 := bBor_m _ (by decide) ..
@[simp ↓] theorem rBor_7_9 (t : TR) (E : EK) (env : Env) (P : Ret → Env → Prop) : rBor [7, 9] t E env P = lendM [false, false, false, false, false, false, false, true, false, true] env fun e => t (fun _ _ => False) e fun r e1 => ifp (r.flat = true) <| backM [false, false, false, false, false, false, false, true, false, true] env e1 fun e2 => P r e2 := rBor_m _ (by decide) ..
@[simp ↓] theorem bBor_7_9 (t : TB) (E : EK) (env : Env) (P : Bool → Env → Prop) : bBor [7, 9] t E env P = lendM [false, false, false, false, false, false, false, true, false, true] env fun e => t (fun _ _ => False) e fun r e1 => backM [false, false, false, false, false, false, false, true, false, true] env e1 fun e2 => P r e2 := bBor_m _ (by decide) ..
@[simp ↓] theorem rBor_7_10 (t : TR) (E : EK) (env : Env) (P : Ret → Env → Prop) : rBor [7, 10] t E env P = lendM [false, false, false, false, false, false, false, true, false, false, true] env fun e => t (fun _ _ => False) e fun r e1 => ifp (r.flat = true) <| backM [false, false, false, false, false, false, false, true, false, false, true] env e1 fun e2 => P r e2 := rBor_m _ (by decide) ..
@[simp ↓] theorem bBor_7_10 (t : TB) (E : EK) (env : Env) (P : Bool → Env → Prop) : bBor [7, 10] t E env P = lendM [false, false, false, false, false, false, false, true, false, false, true] env fun e => t (fun _ _ => False) e fun r e1 => backM [false, false, false, false, false, false, false, true, false, false, true] env e1 fun e2 => P r e2 := bBor_m _ (by decide) ..
@[simp ↓] theorem rBor_7_11 (t : TR) (E : EK) (env : Env) (P : Ret → Env → Prop) : rBor [7, 11] t E env P = lendM [false, false, false, false, false, false, false, true, false, false, false, true] env fun e => t (fun _ _ => False) e fun r e1 => ifp (r.flat = true) <| backM [false, false, false, false, false, false, false, true, false, false, false, true] env e1 fun e2 => P r e2 := rBor_m _ (by decide) ..
@[simp ↓] theorem bBor_7_11 (t : TB) (E : EK) (env : Env) (P : Bool → Env → Prop) : bBor [7, 11] t E env P = lendM [false, false, false, false, false, false, false, true, false, false, false, true] env fun e => t (fun _ _ => False) e fun r e1 => backM [false, false, false, false, false, false, false, true, false, false, false, true] env e1 fun e2 => P r e2 := bBor_m _ (by decide) ..
@[simp ↓] theorem rBor_7_12 (t : TR) (E : EK) (env : Env) (P : Ret → Env → Prop) : rBor [7, 12] t E env P = lendM [false, false, false, false, false, false, false, true, false, false, false, false, true] env fun e => t (fun _ _ => False) e fun r e1 => ifp (r.flat = true) <| backM [false, false, false, false, false, false, false, true, false, false, false, false, true] env e1 fun e2 => P r e2 := rBor_m _ (by decide) ..
@[simp ↓] theorem bBor_7_12 (t : TB) (E : EK) (env : Env) (P : Bool → Env → Prop) : bBor [7, 12] t E env P = lendM [false, false, false, false, false, false, false, true, false, false, false, false, true] env fun e => t (fun _ _ => False) e fun r e1 => backM [false, false, false, false, false, false, false, true, false, false, false, false, true] env e1 fun e2 => P r e2 := bBor_m _ (by decide) ..
@[simp ↓] theorem rBor_7_13 (t : TR) (E : EK) (env : Env) (P : Ret → Env → Prop) : rBor [7, 13] t E env P = lendM [false, false, false, false, false, false, false, true, false, false, false, false, false, true] env fun e => t (fun _ _ => False) e fun r e1 => ifp (r.flat = true) <| backM [false, false, false, false, false, false, false, true, false, false, false, false, false, true] env e1 fun e2 => P r e2 := rBor_m _ (by decide) ..
@[simp ↓] theorem bBor_7_13 (t : TB) (E : EK) (env : Env) (P : Bool → Env → Prop) : bBor [7, 13] t E env P = lendM [false, false, false, false, false, false, false, true, false, false, false, false, false, true] env fun e => t (fun _ _ => False) e fun r e1 => backM [false, false, false, false, false, false, false, true, false, false, false, false, false, true] env e1 fun e2 => P r e2 := bBor_m _ (by decide) ..
@[simp ↓] theorem rBor_8_9 (t : TR) (E : EK) (env : Env) (P : Ret → Env → Prop) : rBor [8, 9] t E env P = lendM [false, false, false, false, false, false, false, false, true, true] env fun e => t (fun _ _ => False) e fun r e1 => ifp (r.flat = true) <| backM [false, false, false, false, false, false, false, false, true, true] env e1 fun e2 => P r e2 := rBor_m _ (by decide) ..
@[simp ↓] theorem bBor_8_9 (t : TB) (E : EK) (env : Env) (P : Bool → Env → Prop) : bBor [8, 9] t E env P = lendM [false, false, false, false, false, false, false, false, true, true] env fun e => t (fun _ _ => False) e fun r e1 => backM [false, false, false, false, false, false, false, false, true, true] env e1 fun e2 => P r e2 := bBor_m _ (by decide) ..
@[simp ↓] theorem rBor_8_10 (t : TR) (E : EK) (env : Env) (P : Ret → Env → Prop) : rBor [8, 10] t E env P = lendM [false, false, false, false, false, false, false, false, true, false, true] env fun e => t (fun _ _ => False) e fun r e1 => ifp (r.flat = true) <| backM [false, false, false, false, false, false, false, false, true, false, true] env e1 fun e2 => P r e2 := rBor_m _ (by decide) ..
@[simp ↓] theorem bBor_8_10 (t : TB) (E : EK) (env : Env) (P : Bool → Env → Prop) : bBor [8, 10] t E env P = lendM [false, false, false, false, false, false, false, false, true, false, true] env fun e => t (fun _ _ => False) e fun r e1 => backM [false, false, false, false, false, false, false, false, true, false, true] env e1 fun e2 => P r e2 := bBor_m _ (by decide) ..
@[simp ↓] theorem rBor_8_11 (t : TR) (E : EK) (env : Env) (P : Ret → Env → Prop) : rBor [8, 11] t E env P = lendM [false, false, false, false, false, false, false, false, true, false, false, true] env fun e => t (fun _ _ => False) e fun r e1 => ifp (r.flat = true) <| backM [false, false, false, false, false, false, false, false, true, false, false, true] env e1 fun e2 => P r e2 := rBor_m _ (by decide) ..
@[simp ↓] theorem bBor_8_11 (t : TB) (E : EK) (env : Env) (P : Bool → Env → Prop) : bBor [8, 11] t E env P = lendM [false, false, false, false, false, false, false, false, true, false, false, true] env fun e => t (fun _ _ => False) e fun r e1 => backM [false, false, false, false, false, false, false, false, true, false, false, true] env e1 fun e2 => P r e2 := bBor_m _ (by decide) ..
@[simp ↓] theorem rBor_8_12 (t : TR) (E : EK) (env : Env) (P : Ret → Env → Prop) : rBor [8, 12] t E env P = lendM [false, false, false, false, false, false, false, false, true, false, false, false, true] env fun e => t (fun _ _ => False) e fun r e1 => ifp (r.flat = true) <| backM [false, false, false, false, false, false, false, false, true, false, false, false, true] env e1 fun e2 => P r e2 := rBor_m _ (by decide) ..
@[simp ↓] theorem bBor_8_12 (t : TB) (E : EK) (env : Env) (P : Bool → Env → Prop) : bBor [8, 12] t E env P = lendM [false, false, false, false, false, false, false, false, true, false, false, false, true] env fun e => t (fun _ _ => False) e fun r e1 => backM [false, false, false, false, false, false, false, false, true, false, false, false, true] env e1 fun e2 => P r e2 := bBor_m _ (by decide) ..
@[simp ↓] theorem rBor_8_13 (t : TR) (E : EK) (env : Env) (P : Ret → Env → Prop) : rBor [8, 13] t E env P = lendM [false, false, false, false, false, false, false, false, true, false, false, false, false, true] env fun e => t (fun _ _ => False) e fun r e1 => ifp (r.flat = true) <| backM [false, false, false, false, false, false, false, false, true, false, false, false, false, true] env e1 fun e2 => P r e2 := rBor_m _ (by decide) ..
@[simp ↓] theorem bBor_8_13 (t : TB) (E : EK) (env : Env) (P : Bool → Env → Prop) : bBor [8, 13] t E env P = lendM [false, false, false, false, false, false, false, false, true, false, false, false, false, true] env fun e => t (fun _ _ => False) e fun r e1 => backM [false, false, false, false, false, false, false, false, true, false, false, false, false, true] env e1 fun e2 => P r e2 := bBor_m _ (by decide) ..
@[simp ↓] theorem rBor_9_10 (t : TR) (E : EK) (env : Env) (P : Ret → Env → Prop) : rBor [9, 10] t E env P = lendM [false, false, false, false, false, false, false, false, false, true, true] env fun e => t (fun _ _ => False) e fun r e1 => ifp (r.flat = true) <| backM [false, false, false, false, false, false, false, false, false, true, true] env e1 fun e2 => P r e2 := rBor_m _ (by decide) ..
@[simp ↓] theorem bBor_9_10 (t : TB) (E : EK) (env : Env) (P : Bool → Env → Prop) : bBor [9, 10] t E env P = lendM [false, false, false, false, false, false, false, false, false, true, true] env fun e => t (fun _ _ => False) e fun r e1 => backM [false, false, false, false, false, false, false, false, false, true, true] env e1 fun e2 => P r e2 := bBor_m _ (by decide) ..
@[simp ↓] theorem rBor_9_11 (t : TR) (E : EK) (env : Env) (P : Ret → Env → Prop) : rBor [9, 11] t E env P = lendM [false, false, false, false, false, false, false, false, false, true, false, true] env fun e => t (fun _ _ => False) e fun r e1 => ifp (r.flat = true) <| backM [false, false, false, false, false, false, false, false, false, true, false, true] env e1 fun e2 => P r e2 := rBor_m _ (by decide) ..
@[simp ↓] theorem bBor_9_11 (t : TB) (E : EK) (env : Env) (P : Bool → Env → Prop) : bBor [9, 11] t E env P = lendM [false, false, false, false, false, false, false, false, false, true, false, true] env fun e => t (fun _ _ => False) e fun r e1 => backM [false, false, false, false, false, false, false, false, false, true, false, true] env e1 fun e2 => P r e2 := bBor_m _ (by decide) ..
@[simp ↓] theorem rBor_9_12 (t : TR) (E : EK) (env : Env) (P : Ret → Env → Prop) : rBor [9, 12] t E env P = lendM [false, false, false, false, false, false, false, false, false, true, false, false, true] env fun e => t (fun _ _ => False) e fun r e1 => ifp (r.flat = true) <| backM [false, false, false, false, false, false, false, false, false, true, false, false, true] env e1 fun e2 => P r e2 := rBor_m _ (by decide) ..
@[simp ↓] theorem bBor_9_12 (t : TB) (E : EK) (env : Env) (P : Bool → Env → Prop) : bBor [9, 12] t E env P = lendM [false, false, false, false, false, false, false, false, false, true, false, false, true] env fun e => t (fun _ _ => False) e fun r e1 => backM [false, false, false, false, false, false, false, false, false, true, false, false, true] env e1 fun e2 => P r e2 := bBor_m _ (by decide) ..
@[simp ↓] theorem rBor_9_13 (t : TR) (E : EK) (env : Env) (P : Ret → Env → Prop) : rBor [9, 13] t E env P = lendM [false, false, false, false, false, false, false, false, false, true, false, false, false, true] env fun e => t (fun _ _ => False) e fun r e1 => ifp (r.flat = true) <| backM [false, false, false, false, false, false, false, false, false, true, false, false, false, true] env e1 fun e2 => P r e2 := rBor_m _ (by decide) ..
@[simp ↓] theorem bBor_9_13 (t : TB) (E : EK) (env : Env) (P : Bool → Env → Prop) : bBor [9, 13] t E env P = lendM [false, false, false, false, false, false, false, false, false, true, false, false, false, true] env fun e => t (fun _ _ => False) e fun r e1 => backM [false, false, false, false, false, false, false, false, false, true, false, false, false, true] env e1 fun e2 => P r e2 := bBor_m _ (by decide) ..
@[simp ↓] theorem rBor_10_11 (t : TR) (E : EK) (env : Env) (P : Ret → Env → Prop) : rBor [10, 11] t E env P = lendM [false, false, false, false, false, false, false, false, false, false, true, true] env fun e => t (fun _ _ => False) e fun r e1 => ifp (r.flat = true) <| backM [false, false, false, false, false, false, false, false, false, false, true, true] env e1 fun e2 => P r e2 := rBor_m _ (by decide) ..
@[simp ↓] theorem bBor_10_11 (t : TB) (E : EK) (env : Env) (P : Bool → Env → Prop) : bBor [10, 11] t E env P = lendM [false, false, false, false, false, false, false, false, false, false, true, true] env fun e => t (fun _ _ => False) e fun r e1 => backM [false, false, false, false, false, false, false, false, false, false, true, true] env e1 fun e2 => P r e2 := bBor_m _ (by decide) ..
@[simp ↓] theorem rBor_10_12 (t : TR) (E : EK) (env : Env) (P : Ret → Env → Prop) : rBor [10, 12] t E env P = lendM [false, false, false, false, false, false, false, false, false, false, true, false, true] env fun e => t (fun _ _ => False) e fun r e1 => ifp (r.flat = true) <| backM [false, false, false, false, false, false, false, false, false, false, true, false, true] env e1 fun e2 => P r e2 := rBor_m _ (by decide) ..
@[simp ↓] theorem bBor_10_12 (t : TB) (E : EK) (env : Env) (P : Bool → Env → Prop) : bBor [10, 12] t E env P = lendM [false, false, false, false, false, false, false, false, false, false, true, false, true] env fun e => t (fun _ _ => False) e fun r e1 => backM [false, false, false, false, false, false, false, false, false, false, true, false, true] env e1 fun e2 => P r e2 := bBor_m _ (by decide) ..
@[simp ↓] theorem rBor_10_13 (t : TR) (E : EK) (env : Env) (P : Ret → Env → Prop) : rBor [10, 13] t E env P = lendM [false, false, false, false, false, false, false, false, false, false, true, false, false, true] env fun e => t (fun _ _ => False) e fun r e1 => ifp (r.flat = true) <| backM [false, false, false, false, false, false, false, false, false, false, true, false, false, true] env e1 fun e2 => P r e2 := rBor_m _ (by decide) ..
@[simp ↓] theorem bBor_10_13 (t : TB) (E : EK) (env : Env) (P : Bool → Env → Prop) : bBor [10, 13] t E env P = lendM [false, false, false, false, false, false, false, false, false, false, true, false, false, true] env fun e => t (fun _ _ => False) e fun r e1 => backM [false, false, false, false, false, false, false, false, false, false, true, false, false, true] env e1 fun e2 => P r e2 := bBor_m _ (by decide) ..
@[simp ↓] theorem rBor_11_12 (t : TR) (E : EK) (env : Env) (P : Ret → Env → Prop) : rBor [11, 12] t E env P = lendM [false, false, false, false, false, false, false, false, false, false, false, true, true] env fun e => t (fun _ _ => False) e fun r e1 => ifp (r.flat = true) <| backM [false, false, false, false, false, false, false, false, false, false, false, true, true] env e1 fun e2 => P r e2 := rBor_m _ (by decide) ..
@[simp ↓] theorem bBor_11_12 (t : TB) (E : EK) (env : Env) (P : Bool → Env → Prop) : bBor [11, 12] t E env P = lendM [false, false, false, false, false, false, false, false, false, false, false, true, true] env fun e => t (fun _ _ => False) e fun r e1 => backM [false, false, false, false, false, false, false, false, false, false, false, true, true] env e1 fun e2 => P r e2 := bBor_m _ (by decide) ..
@[simp ↓] theorem rBor_11_13 (t : TR) (E : EK) (env : Env) (P : Ret → Env → Prop) : rBor [11, 13] t E env P = lendM [false, false, false, false, false, false, false, false, false, false, false, true, false, true] env fun e => t (fun _ _ => False) e fun r e1 => ifp (r.flat = true) <| backM [false, false, false, false, false, false, false, false, false, false, false, true, false, true] env e1 fun e2 => P r e2 := rBor_m _ (by decide) ..
@[simp ↓] theorem bBor_11_13 (t : TB) (E : EK) (env : Env) (P : Bool → Env → Prop) : bBor [11, 13] t E env P = lendM [false, false, false, false, false, false, false, false, false, false, false, true, false, true] env fun e => t (fun _ _ => False) e fun r e1 => backM [false, false, false, false, false, false, false, false, false, false, false, true, false, true] env e1 fun e2 => P r e2 := bBor_m _ (by decide) ..
@[simp ↓] theorem rBor_12_13 (t : TR) (E : EK) (env : Env) (P : Ret → Env → Prop) : rBor [12, 13] t E env P = lendM [false, false, false, false, false, false, false, false, false, false, false, false, true, true] env fun e => t (fun _ _ => False) e fun r e1 => ifp (r.flat = true) <| backM [false, false, false, false, false, false, false, false, false, false, false, false, true, true] env e1 fun e2 => P r e2 := rBor_m _ (by decide) ..
@[simp ↓] theorem bBor_12_13 (t : TB) (E : EK) (env : Env) (P : Bool → Env → Prop) : bBor [12, 13] t E env P = lendM [false, false, false, false, false, false, false, false, false, false, false, false, true, true] env fun e => t (fun _ _ => False) e fun r e1 => backM [false, false, false, false, false, false, false, false, false, false, false, false, true, true] env e1 fun e2 => P r e2 := bBor_m _ (by decide) ..
@[simp ↓] theorem rBor_0_1_2 (t : TR) (E : EK) (env : Env) (P : Ret → Env → Prop) : rBor [0, 1, 2] t E env P = lendM [true, true, true] env fun e => t (fun _ _ => False) e fun r e1 => ifp (r.flat = true) <| backM [true, true, true] env e1 fun e2 => P r e2 := rBor_m _ (by decide) ..
@[simp ↓] theorem bBor_0_1_2 (t : TB) (E : EK) (env : Env) (P : Bool → Env → Prop) : bBor [0, 1, 2] t E env P = lendM [true, true, true] env fun e => t (fun _ _ => False) e fun r e1 => backM [true, true, true] env e1 fun e2 => P r e2 := bBor_m _ (by decide) ..
@[simp ↓] theorem rBor_0_1_3 (t : TR) (E : EK) (env : Env) (P : Ret → Env → Prop) : rBor [0, 1, 3] t E env P = lendM [true, true, false, true] env fun e => t (fun _ _ => False) e fun r e1 => ifp (r.flat = true) <| backM [true, true, false, true] env e1 fun e2 => P r e2 := rBor_m _ (by decide) ..
@[simp ↓] theorem bBor_0_1_3 (t : TB) (E : EK) (env : Env) (P : Bool → Env → Prop) : bBor [0, 1, 3] t E env P = lendM [true, true, false, true] env fun e => t (fun _ _ => False) e fun r e1 => backM [true, true, false, true] env e1 fun e2 => P r e2 := bBor_m _ (by decide) ..
@[simp ↓] theorem rBor_0_1_4 (t : TR) (E : EK) (env : Env) (P : Ret → Env → Prop) : rBor [0, 1, 4] t E env P = lendM [true, true, false, false, true] env fun e => t (fun _ _ => False) e fun r e1 => ifp (r.flat = true) <| backM [true, true, false, false, true] env e1 fun e2 => P r e2 := rBor_m _ (by decide) ..
@[simp ↓] theorem bBor_0_1_4 (t : TB) (E : EK) (env : Env) (P : Bool → Env → Prop) : bBor [0, 1, 4] t E env P = lendM [true, true, false, false, true] env fun e => t (fun _ _ => False) e fun r e1 => backM [true, true, false, false, true] env e1 fun e2 => P r e2 := bBor_m _ (by decide) ..
@[simp ↓] theorem rBor_0_1_5 (t : TR) (E : EK) (env : Env) (P : Ret → Env → Prop) : rBor [0, 1, 5] t E env P = lendM [true, true, false, false, false, true] env fun e => t (fun _ _ => False) e fun r e1 => ifp (r.flat = true) <| backM [true, true, false, false, false, true] env e1 fun e2 => P r e2 := rBor_m _ (by decide) ..
@[simp ↓] theorem bBor_0_1_5 (t : TB) (E : EK) (env : Env) (P : Bool → Env → Prop) : bBor [0, 1, 5] t E env P = lendM [true, true, false, false, false, true] env fun e => t (fun _ _ => False) e fun r e1 => backM [true, true, false, false, false, true] env e1 fun e2 => P r e2 := bBor_m _ (by decide) ..
@[simp ↓] theorem rBor_0_1_6 (t : TR) (E : EK) (env : Env) (P : Ret → Env → Prop) : rBor [0, 1, 6] t E env P = lendM [true, true, false, false, false, false, true] env fun e => t (fun _ _ => False) e fun r e1 => ifp (r.flat = true) <| backM [true, true, false, false, false, false, true] env e1 fun e2 => P r e2 := rBor_m _ (by decide) ..
@[simp ↓] theorem bBor_0_1_6 (t : TB) (E : EK) (env : Env) (P : Bool → Env → Prop) : bBor [0, 1, 6] t E env P = lendM [true, true, false, false, false, false, true] env fun e => t (fun _ _ => False) e fun r e1 => backM [true, true, false, false, false, false, true] env e1 fun e2 => P r e2 := bBor_m _ (by decide) ..
@[simp ↓] theorem rBor_0_1_7 (t : TR) (E : EK) (env : Env) (P : Ret → Env → Prop) : rBor [0, 1, 7] t E env P = lendM [true, true, false, false, false, false, false, true] env fun e => t (fun _ _ => False) e fun r e1 => ifp (r.flat = true) <| backM [true, true, false, false, false, false, false, true] env e1 fun e2 => P r e2 := rBor_m _ (by decide) ..
@[simp ↓] theorem bBor_0_1_7 (t : TB) (E : EK) (env : Env) (P : Bool → Env → Prop) : bBor [0, 1, 7] t E env P = lendM [true, true, false, false, false, false, false, true] env fun e => t (fun _ _ => False) e fun r e1 => backM [true, true, false, false, false, false, false, true] env e1 fun e2 => P r e2 := bBor_m _ (by decide) ..
@[simp ↓] theorem rBor_0_2_3 (t : TR) (E : EK) (env : Env) (P : Ret → Env → Prop) : rBor [0, 2, 3] t E env P = lendM [true, false, true, true] env fun e => t (fun _ _ => False) e fun r e1 => ifp (r.flat = true) <| backM [true, false, true, true] env e1 fun e2 => P r e2 := rBor_m _ (by decide) ..
@[simp ↓] theorem bBor_0_2_3 (t : TB) (E : EK) (env : Env) (P : Bool → Env → Prop) : bBor [0, 2, 3] t E env P = lendM [true, false, true, true] env fun e => t (fun _ _ => False) e fun r e1 => backM [true, false, true, true] env e1 fun e2 => P r e2 := bBor_m _ (by decide) ..
@[simp ↓] theorem rBor_0_2_4 (t : TR) (E : EK) (env : Env) (P : Ret → Env → Prop) : rBor [0, 2, 4] t E env P = lendM [true, false, true, false, true] env fun e => t (fun _ _ => False) e fun r e1 => ifp (r.flat = true) <| backM [true, false, true, false, true] env e1 fun e2 => P r e2 := rBor_m _ (by decide) ..
@[simp ↓] theorem bBor_0_2_4 (t : TB) (E : EK) (env : Env) (P : Bool → Env → Prop) : bBor [0, 2, 4] t E env P = lendM [true, false, true, false, true] env fun e => t (fun _ _ => False) e fun r e1 => backM [true, false, true, false, true] env e1 fun e2 => P r e2 := bBor_m _ (by decide) ..
@[simp ↓] theorem rBor_0_2_5 (t : TR) (E : EK) (env : Env) (P : Ret → Env → Prop) : rBor [0, 2, 5] t E env P = lendM [true, false, true, false, false, true] env fun e => t (fun _ _ => False) e fun r e1 => ifp (r.flat = true) <| backM [true, false, true, false, false, true] env e1 fun e2 => P r e2 := rBor_m _ (by decide) ..
@[simp ↓] theorem bBor_0_2_5 (t : TB) (E : EK) (env : Env) (P : Bool → Env → Prop) : bBor [0, 2, 5] t E env P = lendM [true, false, true, false, false, true] env fun e => t (fun _ _ => False) e fun r e1 => backM [true, false, true, false, false, true] env e1 fun e2 => P r e2 := bBor_m _ (by decide) ..
@[simp ↓] theorem rBor_0_2_6 (t : TR) (E : EK) (env : Env) (P : Ret → Env → Prop) : rBor [0, 2, 6] t E env P = lendM [true, false, true, false, false, false, true] env fun e => t (fun _ _ => False) e fun r e1 => ifp (r.flat = true) <| backM [true, false, true, false, false, false, true] env e1 fun e2 => P r e2 := rBor_m _ (by decide) ..
@[simp ↓] theorem bBor_0_2_6 (t : TB) (E : EK) (env : Env) (P : Bool → Env → Prop) : bBor [0, 2, 6] t E env P = lendM [true, false, true, false, false, false, true] env fun e => t (fun _ _ => False) e fun r e1 => backM [true, false, true, false, false, false, true] env e1 fun e2 => P r e2 := bBor_m _ (by decide) ..
@[simp ↓] theorem rBor_0_2_7 (t : TR) (E : EK) (env : Env) (P : Ret → Env → Prop) : rBor [0, 2, 7] t E env P = lendM [true, false, true, false, false, false, false, true] env fun e => t (fun _ _ => False) e fun r e1 => ifp (r.flat = true) <| backM [true, false, true, false, false, false, false, true] env e1 fun e2 => P r e2 := rBor_m _ (by decide) ..
@[simp ↓] theorem bBor_0_2_7 (t : TB) (E : EK) (env : Env) (P : Bool → Env → Prop) : bBor [0, 2, 7] t E env P = lendM [true, false, true, false, false, false, false, true] env fun e => t (fun _ _ => False) e fun r e1 => backM [true, false, true, false, false, false, false, true] env e1 fun e2 => P r e2 := bBor_m _ (by decide) ..
@[simp ↓] theorem rBor_0_3_4 (t : TR) (E : EK) (env : Env) (P : Ret → Env → Prop) : rBor [0, 3, 4] t E env P = lendM [true, false, false, true, true] env fun e => t (fun _ _ => False) e fun r e1 => ifp (r.flat = true) <| backM [true, false, false, true, true] env e1 fun e2 => P r e2 := rBor_m _ (by decide) ..
@[simp ↓] theorem bBor_0_3_4 (t : TB) (E : EK) (env : Env) (P : Bool → Env → Prop) : bBor [0, 3, 4] t E env P = lendM [true, false, false, true, true] env fun e => t (fun _ _ => False) e fun r e1 => backM [true, false, false, true, true] env e1 fun e2 => P r e2 := bBor_m _ (by decide) ..
@[simp ↓] theorem rBor_0_3_5 (t : TR) (E : EK) (env : Env) (P : Ret → Env → Prop) : rBor [0, 3, 5] t E env P = lendM [true, false, false, true, false, true] env fun e => t (fun _ _ => False) e fun r e1 => ifp (r.flat = true) <| backM [true, false, false, true, false, true] env e1 fun e2 => P r e2 := rBor_m _ (by decide) ..
@[simp ↓] theorem bBor_0_3_5 (t : TB) (E : EK) (env : Env) (P : Bool → Env → Prop) : bBor [0, 3, 5] t E env P = lendM [true, false, false, true, false, true] env fun e => t (fun _ _ => False) e fun r e1 => backM [true, false, false, true, false, true] env e1 fun e2 => P r e2 := bBor_m _ (by decide) ..
@[simp ↓] theorem rBor_0_3_6 (t : TR) (E : EK) (env : Env) (P : Ret → Env → Prop) : rBor [0, 3, 6] t E env P = lendM [true, false, false, true, false, false, true] env fun e => t (fun _ _ => False) e fun r e1 => ifp (r.flat = true) <| backM [true, false, false, true, false, false, true] env e1 fun e2 => P r e2 := rBor_m _ (by decide) ..
@[simp ↓] theorem bBor_0_3_6 (t : TB) (E : EK) (env : Env) (P : Bool → Env → Prop) : bBor [0, 3, 6] t E env P = lendM [true, false, false, true, false, false, true] env fun e => t (fun _ _ => False) e fun r e1 => backM [true, false, false, true, false, false, true] env e1 fun e2 => P r e2 := bBor_m _ (by decide) ..
@[simp ↓] theorem rBor_0_3_7 (t : TR) (E : EK) (env : Env) (P : Ret → Env → Prop) : rBor [0, 3, 7] t E env P = lendM [true, false, false, true, false, false, false, true] env fun e => t (fun _ _ => False) e fun r e1 => ifp (r.flat = true) <| backM [true, false, false, true, false, false, false, true] env e1 fun e2 => P r e2 := rBor_m _ (by decide) ..
@[simp ↓] theorem bBor_0_3_7 (t : TB) (E : EK) (env : Env) (P : Bool → Env → Prop) : bBor [0, 3, 7] t E env P = lendM [true, false, false, true, false, false, false, true] env fun e => t (fun _ _ => False) e fun r e1 => backM [true, false, false, true, false, false, false, true] env e1 fun e2 => P r e2 := bBor_m _ (by decide) ..
@[simp ↓] theorem rBor_0_4_5 (t : TR) (E : EK) (env : Env) (P : Ret → Env → Prop) : rBor [0, 4, 5] t E env P = lendM [true, false, false, false, true, true] env fun e => t (fun _ _ => False) e fun r e1 => ifp (r.flat = true) <| backM [true, false, false, false, true, true] env e1 fun e2 => P r e2 := rBor_m _ (by decide) ..
@[simp ↓] theorem bBor_0_4_5 (t : TB) (E : EK) (env : Env) (P : Bool → Env → Prop) : bBor [0, 4, 5] t E env P = lendM [true, false, false, false, true, true] env fun e => t (fun _ _ => False) e fun r e1 => backM [true, false, false, false, true, true] env e1 fun e2 => P r e2 := bBor_m _ (by decide) ..
@[simp ↓] theorem rBor_0_4_6 (t : TR) (E : EK) (env : Env) (P : Ret → Env → Prop) : rBor [0, 4, 6] t E env P = lendM [true, false, false, false, true, false, true] env fun e => t (fun _ _ => False) e fun r e1 => ifp (r.flat = true) <| backM [true, false, false, false, true, false, true] env e1 fun e2 => P r e2 := rBor_m _ (by decide) ..
@[simp ↓] theorem bBor_0_4_6 (t : TB) (E : EK) (env : Env) (P : Bool → Env → Prop) : bBor [0, 4, 6] t E env P = lendM [true, false, false, false, true, false, true] env fun e => t (fun _ _ => False) e fun r e1 => backM [true, false, false, false, true, false, true] env e1 fun e2 => P r e2 := bBor_m _ (by decide) ..
@[simp ↓] theorem rBor_0_4_7 (t : TR) (E : EK) (env : Env) (P : Ret → Env → Prop) : rBor [0, 4, 7] t E env P = lendM [true, false, false, false, true, false, false, true] env fun e => t (fun _ _ => False) e fun r e1 => ifp (r.flat = true) <| backM [true, false, false, false, true, false, false, true] env e1 fun e2 => P r e2 := rBor_m _ (by decide) ..
@[simp ↓] theorem bBor_0_4_7 (t : TB) (E : EK) (env : Env) (P : Bool → Env → Prop) : bBor [0, 4, 7] t E env P = lendM [true, false, false, false, true, false, false, true] env fun e => t (fun _ _ => False) e fun r e1 => backM [true, false, false, false, true, false, false, true] env e1 fun e2 => P r e2 := bBor_m _ (by decide) ..
@[simp ↓] theorem rBor_0_5_6 (t : TR) (E : EK) (env : Env) (P : Ret → Env → Prop) : rBor [0, 5, 6] t E env P = lendM [true, false, false, false, false, true, true] env fun e => t (fun _ _ => False) e fun r e1 => ifp (r.flat = true) <| backM [true, false, false, false, false, true, true] env e1 fun e2 => P r e2 := rBor_m _ (by decide) ..
@[simp ↓] theorem bBor_0_5_6 (t : TB) (E : EK) (env : Env) (P : Bool → Env → Prop) : bBor [0, 5, 6] t E env P = lendM [true, false, false, false, false, true, true] env fun e => t (fun _ _ => False) e fun r e1 => backM [true, false, false, false, false, true, true] env e1 fun e2 => P r e2 := bBor_m _ (by decide) ..
@[simp ↓] theorem rBor_0_5_7 (t : TR) (E : EK) (env : Env) (P : Ret → Env → Prop) : rBor [0, 5, 7] t E env P = lendM [true, false, false, false, false, true, false, true] env fun e => t (fun _ _ => False) e fun r e1 => ifp (r.flat = true) <| backM [true, false, false, false, false, true, false, true] env e1 fun e2 => P r e2 := rBor_m _ (by decide) ..
@[simp ↓] theorem bBor_0_5_7 (t : TB) (E : EK) (env : Env) (P : Bool → Env → Prop) : bBor [0, 5, 7] t E env P = lendM [true, false, false, false, false, true, false, true] env fun e => t (fun _ _ => False) e fun r e1 => backM [true, false, false, false, false, true, false, true] env e1 fun e2 => P r e2 := bBor_m _ (by decide) ..
@[simp ↓] theorem rBor_0_6_7 (t : TR) (E : EK) (env : Env) (P : Ret → Env → Prop) : rBor [0, 6, 7] t E env P = lendM [true, false, false, false, false, false, true, true] env fun e => t (fun _ _ => False) e fun r e1 => ifp (r.flat = true) <| backM [true, false, false, false, false, false, true, true] env e1 fun e2 => P r e2 := rBor_m _ (by decide) ..
@[simp ↓] theorem bBor_0_6_7 (t : TB) (E : EK) (env : Env) (P : Bool → Env → Prop) : bBor [0, 6, 7] t E env P = lendM [true, false, false, false, false, false, true, true] env fun e => t (fun _ _ => False) e fun r e1 => backM [true, false, false, false, false, false, true, true] env e1 fun e2 => P r e2 := bBor_m _ (by decide) ..
@[simp ↓] theorem rBor_1_2_3 (t : TR) (E : EK) (env : Env) (P : Ret → Env → Prop) : rBor [1, 2, 3] t E env P = lendM [false, true, true, true] env fun e => t (fun _ _ => False) e fun r e1 => ifp (r.flat = true) <| backM [false, true, true, true] env e1 fun e2 => P r e2 := rBor_m _ (by decide) ..
@[simp ↓] theorem bBor_1_2_3 (t : TB) (E : EK) (env : Env) (P : Bool → Env → Prop) : bBor [1, 2, 3] t E env P = lendM [false, true, true, true] env fun e => t (fun _ _ => False) e fun r e1 => backM [false, true, true, true] env e1 fun e2 => P r e2 := bBor_m _ (by decide) ..
@[simp ↓] theorem rBor_1_2_4 (t : TR) (E : EK) (env : Env) (P : Ret → Env → Prop) : rBor [1, 2, 4] t E env P = lendM [false, true, true, false, true] env fun e => t (fun _ _ => False) e fun r e1 => ifp (r.flat = true) <| backM [false, true, true, false, true] env e1 fun e2 => P r e2 := rBor_m _ (by decide) ..
@[simp ↓] theorem bBor_1_2_4 (t : TB) (E : EK) (env : Env) (P : Bool → Env → Prop) : bBor [1, 2, 4] t E env P = lendM [false, true, true, false, true] env fun e => t (fun _ _ => False) e fun r e1 => backM [false, true, true, false, true] env e1 fun e2 => P r e2 := bBor_m _ (by decide) ..
@[simp ↓] theorem rBor_1_2_5 (t : TR) (E : EK) (env : Env) (P : Ret → Env → Prop) : rBor [1, 2, 5] t E env P = lendM [false, true, true, false, false, true] env fun e => t (fun _ _ => False) e fun r e1 => ifp (r.flat = true) <| backM [false, true, true, false, false, true] env e1 fun e2 => P r e2 := rBor_m _ (by decide) ..
@[simp ↓] theorem bBor_1_2_5 (t : TB) (E : EK) (env : Env) (P : Bool → Env → Prop) : bBor [1, 2, 5] t E env P = lendM [false, true, true, false, false, true] env fun e => t (fun _ _ => False) e fun r e1 => backM [false, true, true, false, false, true] env e1 fun e2 => P r e2 := bBor_m _ (by decide) ..
@[simp ↓] theorem rBor_1_2_6 (t : TR) (E : EK) (env : Env) (P : Ret → Env → Prop) : rBor [1, 2, 6] t E env P = lendM [false, true, true, false, false, false, true] env fun e => t (fun _ _ => False) e fun r e1 => ifp (r.flat = true) <| backM [false, true, true, false, false, false, true] env e1 fun e2 => P r e2 := rBor_m _ (by decide) ..
@[simp ↓] theorem bBor_1_2_6 (t : TB) (E : EK) (env : Env) (P : Bool → Env → Prop) : bBor [1, 2, 6] t E env P = lendM [false, true, true, false, false, false, true] env fun e => t (fun _ _ => False) e fun r e1 => backM [false, true, true, false, false, false, true] env e1 fun e2 => P r e2 := bBor_m _ (by decide) ..
@[simp ↓] theorem rBor_1_2_7 (t : TR) (E : EK) (env : Env) (P : Ret → Env → Prop) : rBor [1, 2, 7] t E env P = lendM [false, true, true, false, false, false, false, true] env fun e => t (fun _ _ => False) e fun r e1 => ifp (r.flat = true) <| backM [false, true, true, false, false, false, false, true] env e1 fun e2 => P r e2 := rBor_m _ (by decide) ..
@[simp ↓] theorem bBor_1_2_7 (t : TB) (E : EK) (env : Env) (P : Bool → Env → Prop) : bBor [1, 2, 7] t E env P = lendM [false, true, true, false, false, false, false, true] env fun e => t (fun _ _ => False) e fun r e1 => backM [false, true, true, false, false, false, false, true] env e1 fun e2 => P r e2 := bBor_m _ (by decide) ..
@[simp ↓] theorem rBor_1_3_4 (t : TR) (E : EK) (env : Env) (P : Ret → Env → Prop) : rBor [1, 3, 4] t E env P = lendM [false, true, false, true, true] env fun e => t (fun _ _ => False) e fun r e1 => ifp (r.flat = true) <| backM [false, true, false, true, true] env e1 fun e2 => P r e2 := rBor_m _ (by decide) ..
@[simp ↓] theorem bBor_1_3_4 (t : TB) (E : EK) (env : Env) (P : Bool → Env → Prop) : bBor [1, 3, 4] t E env P = lendM [false, true, false, true, true] env fun e => t (fun _ _ => False) e fun r e1 => backM [false, true, false, true, true] env e1 fun e2 => P r e2 := bBor_m _ (by decide) ..
@[simp ↓] theorem rBor_1_3_5 (t : TR) (E : EK) (env : Env) (P : Ret → Env → Prop) : rBor [1, 3, 5] t E env P = lendM [false, true, false, true, false, true] env fun e => t (fun _ _ => False) e fun r e1 => ifp (r.flat = true) <| backM [false, true, false, true, false, true] env e1 fun e2 => P r e2 := rBor_m _ (by decide) ..
@[simp ↓] theorem bBor_1_3_5 (t : TB) (E : EK) (env : Env) (P : Bool → Env → Prop) : bBor [1, 3, 5] t E env P = lendM [false, true, false, true, false, true] env fun e => t (fun _ _ => False) e fun r e1 => backM [false, true, false, true, false, true] env e1 fun e2 => P r e2 := bBor_m _ (by decide) ..
@[simp ↓] theorem rBor_1_3_6 (t : TR) (E : EK) (env : Env) (P : Ret → Env → Prop) : rBor [1, 3, 6] t E env P = lendM [false, true, false, true, false, false, true] env fun e => t (fun _ _ => False) e fun r e1 => ifp (r.flat = true) <| backM [false, true, false, true, false, false, true] env e1 fun e2 => P r e2 := rBor_m _ (by decide) ..
@[simp ↓] theorem bBor_1_3_6 (t : TB) (E : EK) (env : Env) (P : Bool → Env → Prop) : bBor [1, 3, 6] t E env P = lendM [false, true, false, true, false, false, true] env fun e => t (fun _ _ => False) e fun r e1 => backM [false, true, false, true, false, false, true] env e1 fun e2 => P r e2 := bBor_m _ (by decide) ..
@[simp ↓] theorem rBor_1_3_7 (t : TR) (E : EK) (env : Env) (P : Ret → Env → Prop) : rBor [1, 3, 7] t E env P = lendM [false, true, false, true, false, false, false, true] env fun e => t (fun _ _ => False) e fun r e1 => ifp (r.flat = true) <| backM [false, true, false, true, false, false, false, true] env e1 fun e2 => P r e2 := rBor_m _ (by decide) ..
@[simp ↓] theorem bBor_1_3_7 (t : TB) (E : EK) (env : Env) (P : Bool → Env → Prop) : bBor [1, 3, 7] t E env P = lendM [false, true, false, true, false, false, false, true] env fun e => t (fun _ _ => False) e fun r e1 => backM [false, true, false, true, false, false, false, true] env e1 fun e2 => P r e2 := bBor_m _ (by decide) ..
@[simp ↓] theorem rBor_1_4_5 (t : TR) (E : EK) (env : Env) (P : Ret → Env → Prop) : rBor [1, 4, 5] t E env P = lendM [false, true, false, false, true, true] env fun e => t (fun _ _ => False) e fun r e1 => ifp (r.flat = true) <| backM [false, true, false, false, true, true] env e1 fun e2 => P r e2 := rBor_m _ (by decide) ..
@[simp ↓] theorem bBor_1_4_5 (t : TB) (E : EK) (env : Env) (P : Bool → Env → Prop) : bBor [1, 4, 5] t E env P = lendM [false, true, false, false, true, true] env fun e => t (fun _ _ => False) e fun r e1 => backM [false, true, false, false, true, true] env e1 fun e2 => P r e2 := bBor_m _ (by decide) ..
@[simp ↓] theorem rBor_1_4_6 (t : TR) (E : EK) (env : Env) (P : Ret → Env → Prop) : rBor [1, 4, 6] t E env P = lendM [false, true, false, false, true, false, true] env fun e => t (fun _ _ => False) e fun r e1 => ifp (r.flat = true) <| backM [false, true, false, false, true, false, true] env e1 fun e2 => P r e2 := rBor_m _ (by decide) ..
@[simp ↓] theorem bBor_1_4_6 (t : TB) (E : EK) (env : Env) (P : Bool → Env → Prop) : bBor [1, 4, 6] t E env P = lendM [false, true, false, false, true, false, true] env fun e => t (fun _ _ => False) e fun r e1 => backM [false, true, false, false, true, false, true] env e1 fun e2 => P r e2 := bBor_m _ (by decide) ..
@[simp ↓] theorem rBor_1_4_7 (t : TR) (E : EK) (env : Env) (P : Ret → Env → Prop) : rBor [1, 4, 7] t E env P = lendM [false, true, false, false, true, false, false, true] env fun e => t (fun _ _ => False) e fun r e1 => ifp (r.flat = true) <| backM [false, true, false, false, true, false, false, true] env e1 fun e2 => P r e2 := rBor_m _ (by decide) ..
@[simp ↓] theorem bBor_1_4_7 (t : TB) (E : EK) (env : Env) (P : Bool → Env → Prop) : bBor [1, 4, 7] t E env P = lendM [false, true, false, false, true, false, false, true] env fun e => t (fun _ _ => False) e fun r e1 => backM [false, true, false, false, true, false, false, true] env e1 fun e2 => P r e2 := bBor_m _ (by decide) ..
@[simp ↓] theorem rBor_1_5_6 (t : TR) (E : EK) (env : Env) (P : Ret → Env → Prop) : rBor [1, 5, 6] t E env P = lendM [false, true, false, false, false, true, true] env fun e => t (fun _ _ => False) e fun r e1 => ifp (r.flat = true) <| backM [false, true, false, false, false, true, true] env e1 fun e2 => P r e2 := rBor_m _ (by decide) ..
@[simp ↓] theorem bBor_1_5_6 (t : TB) (E : EK) (env : Env) (P : Bool → Env → Prop) : bBor [1, 5, 6] t E env P = lendM [false, true, false, false, false, true, true] env fun e => t (fun _ _ => False) e fun r e1 => backM [false, true, false, false, false, true, true] env e1 fun e2 => P r e2 := bBor_m _ (by decide) ..
@[simp ↓] theorem rBor_1_5_7 (t : TR) (E : EK) (env : Env) (P : Ret → Env → Prop) : rBor [1, 5, 7] t E env P = lendM [false, true, false, false, false, true, false, true] env fun e => t (fun _ _ => False) e fun r e1 => ifp (r.flat = true) <| backM [false, true, false, false, false, true, false, true] env e1 fun e2 => P r e2 := rBor_m _ (by decide) ..
@[simp ↓] theorem bBor_1_5_7 (t : TB) (E : EK) (env : Env) (P : Bool → Env → Prop) : bBor [1, 5, 7] t E env P = lendM [false, true, false, false, false, true, false, true] env fun e => t (fun _ _ => False) e fun r e1 => backM [false, true, false, false, false, true, false, true] env e1 fun e2 => P r e2 := bBor_m _ (by decide) ..
@[simp ↓] theorem rBor_1_6_7 (t : TR) (E : EK) (env : Env) (P : Ret → Env → Prop) : rBor [1, 6, 7] t E env P = lendM [false, true, false, false, false, false, true, true] env fun e => t (fun _ _ => False) e fun r e1 => ifp (r.flat = true) <| backM [false, true, false, false, false, false, true, true] env e1 fun e2 => P r e2 := rBor_m _ (by decide) ..
@[simp ↓] theorem bBor_1_6_7 (t : TB) (E : EK) (env : Env) (P : Bool → Env → Prop) : bBor [1, 6, 7] t E env P = lendM [false, true, false, false, false, false, true, true] env fun e => t (fun _ _ => False) e fun r e1 => backM [false, true, false, false, false, false, true, true] env e1 fun e2 => P r e2 := bBor_m _ (by decide) ..
@[simp ↓] theorem rBor_2_3_4 (t : TR) (E : EK) (env : Env) (P : Ret → Env → Prop) : rBor [2, 3, 4] t E env P = lendM [false, false, true, true, true] env fun e => t (fun _ _ => False) e fun r e1 => ifp (r.flat = true) <| backM [false, false, true, true, true] env e1 fun e2 => P r e2 := rBor_m _ (by decide) ..
@[simp ↓] theorem bBor_2_3_4 (t : TB) (E : EK) (env : Env) (P : Bool → Env → Prop) : bBor [2, 3, 4] t E env P = lendM [false, false, true, true, true] env fun e => t (fun _ _ => False) e fun r e1 => backM [false, false, true, true, true] env e1 fun e2 => P r e2 := bBor_m _ (by decide) ..
@[simp ↓] theorem rBor_2_3_5 (t : TR) (E : EK) (env : Env) (P : Ret → Env → Prop) : rBor [2, 3, 5] t E env P = lendM [false, false, true, true, false, true] env fun e => t (fun _ _ => False) e fun r e1 => ifp (r.flat = true) <| backM [false, false, true, true, false, true] env e1 fun e2 => P r e2 := rBor_m _ (by decide) ..
@[simp ↓] theorem bBor_2_3_5 (t : TB) (E : EK) (env : Env) (P : Bool → Env → Prop) : bBor [2, 3, 5] t E env P = lendM [false, false, true, true, false, true] env fun e => t (fun _ _ => False) e fun r e1 => backM [false, false, true, true, false, true] env e1 fun e2 => P r e2 := bBor_m _ (by decide) ..
@[simp ↓] theorem rBor_2_3_6 (t : TR) (E : EK) (env : Env) (P : Ret → Env → Prop) : rBor [2, 3, 6] t E env P = lendM [false, false, true, true, false, false, true] env fun e => t (fun _ _ => False) e fun r e1 => ifp (r.flat = true) <| backM [false, false, true, true, false, false, true] env e1 fun e2 => P r e2 := rBor_m _ (by decide) ..
@[simp ↓] theorem bBor_2_3_6 (t : TB) (E : EK) (env : Env) (P : Bool → Env → Prop) : bBor [2, 3, 6] t E env P = lendM [false, false, true, true, false, false, true] env fun e => t (fun _ _ => False) e fun r e1 => backM [false, false, true, true, false, false, true] env e1 fun e2 => P r e2 := bBor_m _ (by decide) ..
@[simp ↓] theorem rBor_2_3_7 (t : TR) (E : EK) (env : Env) (P : Ret → Env → Prop) : rBor [2, 3, 7] t E env P = lendM [false, false, true, true, false, false, false, true] env fun e => t (fun _ _ => False) e fun r e1 => ifp (r.flat = true) <| backM [false, false, true, true, false, false, false, true] env e1 fun e2 => P r e2 := rBor_m _ (by decide) ..
@[simp ↓] theorem bBor_2_3_7 (t : TB) (E : EK) (env : Env) (P : Bool → Env → Prop) : bBor [2, 3, 7] t E env P = lendM [false, false, true, true, false, false, false, true] env fun e => t (fun _ _ => False) e fun r e1 => backM [false, false, true, true, false, false, false, true] env e1 fun e2 => P r e2 := bBor_m _ (by decide) ..
@[simp ↓] theorem rBor_2_4_5 (t : TR) (E : EK) (env : Env) (P : Ret → Env → Prop) : rBor [2, 4, 5] t E env P = lendM [false, false, true, false, true, true] env fun e => t (fun _ _ => False) e fun r e1 => ifp (r.flat = true) <| backM [false, false, true, false, true, true] env e1 fun e2 => P r e2 := rBor_m _ (by decide) ..
@[simp ↓] theorem bBor_2_4_5 (t : TB) (E : EK) (env : Env) (P : Bool → Env → Prop) : bBor [2, 4, 5] t E env P = lendM [false, false, true, false, true, true] env fun e => t (fun _ _ => False) e fun r e1 => backM [false, false, true, false, true, true] env e1 fun e2 => P r e2 := bBor_m _ (by decide) ..
@[simp ↓] theorem rBor_2_4_6 (t : TR) (E : EK) (env : Env) (P : Ret → Env → Prop) : rBor [2, 4, 6] t E env P = lendM [false, false, true, false, true, false, true] env fun e => t (fun _ _ => False) e fun r e1 => ifp (r.flat = true) <| backM [false, false, true, false, true, false, true] env e1 fun e2 => P r e2 := rBor_m _ (by decide) ..
@[simp ↓] theorem bBor_2_4_6 (t : TB) (E : EK) (env : Env) (P : Bool → Env → Prop) : bBor [2, 4, 6] t E env P = lendM [false, false, true, false, true, false, true] env fun e => t (fun _ _ => False) e fun r e1 => backM [false, false, true, false, true, false, true] env e1 fun e2 => P r e2 := bBor_m _ (by decide) ..
@[simp ↓] theorem rBor_2_4_7 (t : TR) (E : EK) (env : Env) (P : Ret → Env → Prop) : rBor [2, 4, 7] t E env P = lendM [false, false, true, false, true, false, false, true] env fun e => t (fun _ _ => False) e fun r e1 => ifp (r.flat = true) <| backM [false, false, true, false, true, false, false, true] env e1 fun e2 => P r e2 := rBor_m _ (by decide) ..
@[simp ↓] theorem bBor_2_4_7 (t : TB) (E : EK) (env : Env) (P : Bool → Env → Prop) : bBor [2, 4, 7] t E env P = lendM [false, false, true, false, true, false, false, true] env fun e => t (fun _ _ => False) e fun r e1 => backM [false, false, true, false, true, false, false, true] env e1 fun e2 => P r e2 := bBor_m _ (by decide) ..
@[simp ↓] theorem rBor_2_5_6 (t : TR) (E : EK) (env : Env) (P : Ret → Env → Prop) : rBor [2, 5, 6] t E env P = lendM [false, false, true, false, false, true, true] env fun e => t (fun _ _ => False) e fun r e1 => ifp (r.flat = true) <| backM [false, false, true, false, false, true, true] env e1 fun e2 => P r e2 := rBor_m _ (by decide) ..
@[simp ↓] theorem bBor_2_5_6 (t : TB) (E : EK) (env : Env) (P : Bool → Env → Prop) : bBor [2, 5, 6] t E env P = lendM [false, false, true, false, false, true, true] env fun e => t (fun _ _ => False) e fun r e1 => backM [false, false, true, false, false, true, true] env e1 fun e2 => P r e2 := bBor_m _ (by decide) ..
@[simp ↓] theorem rBor_2_5_7 (t : TR) (E : EK) (env : Env) (P : Ret → Env → Prop) : rBor [2, 5, 7] t E env P = lendM [false, false, true, false, false, true, false, true] env fun e => t (fun _ _ => False) e fun r e1 => ifp (r.flat = true) <| backM [false, false, true, false, false, true, false, true] env e1 fun e2 => P r e2 := rBor_m _ (by decide) ..
@[simp ↓] theorem bBor_2_5_7 (t : TB) (E : EK) (env : Env) (P : Bool → Env → Prop) : bBor [2, 5, 7] t E env P = lendM [false, false, true, false, false, true, false, true] env fun e => t (fun _ _ => False) e fun r e1 => backM [false, false, true, false, false, true, false, true] env e1 fun e2 => P r e2 := bBor_m _ (by decide) ..
@[simp ↓] theorem rBor_2_6_7 (t : TR) (E : EK) (env : Env) (P : Ret → Env → Prop) : rBor [2, 6, 7] t E env P = lendM [false, false, true, false, false, false, true, true] env fun e => t (fun _ _ => False) e fun r e1 => ifp (r.flat = true) <| backM [false, false, true, false, false, false, true, true] env e1 fun e2 => P r e2 := rBor_m _ (by decide) ..
@[simp ↓] theorem bBor_2_6_7 (t : TB) (E : EK) (env : Env) (P : Bool → Env → Prop) : bBor [2, 6, 7] t E env P = lendM [false, false, true, false, false, false, true, true] env fun e => t (fun _ _ => False) e fun r e1 => backM [false, false, true, false, false, false, true, true] env e1 fun e2 => P r e2 := bBor_m _ (by decide) ..
@[simp ↓] theorem rBor_3_4_5 (t : TR) (E : EK) (env : Env) (P : Ret → Env → Prop) : rBor [3, 4, 5] t E env P = lendM [false, false, false, true, true, true] env fun e => t (fun _ _ => False) e fun r e1 => ifp (r.flat = true) <| backM [false, false, false, true, true, true] env e1 fun e2 => P r e2 := rBor_m _ (by decide) ..
@[simp ↓] theorem bBor_3_4_5 (t : TB) (E : EK) (env : Env) (P : Bool → Env → Prop) : bBor [3, 4, 5] t E env P = lendM [false, false, false, true, true, true] env fun e => t (fun _ _ => False) e fun r e1 => backM [false, false, false, true, true, true] env e1 fun e2 => P r e2 := bBor_m _ (by decide) ..
@[simp ↓] theorem rBor_3_4_6 (t : TR) (E : EK) (env : Env) (P : Ret → Env → Prop) : rBor [3, 4, 6] t E env P = lendM [false, false, false, true, true, false, true] env fun e => t (fun _ _ => False) e fun r e1 => ifp (r.flat = true) <| backM [false, false, false, true, true, false, true] env e1 fun e2 => P r e2 := rBor_m _ (by decide) ..
@[simp ↓] theorem bBor_3_4_6 (t : TB) (E : EK) (env : Env) (P : Bool → Env → Prop) : bBor [3, 4, 6] t E env P = lendM [false, false, false, true, true, false, true] env fun e => t (fun _ _ => False) e fun r e1 => backM [false, false, false, true, true, false, true] env e1 fun e2 => P r e2 := bBor_m _ (by decide) ..
@[simp ↓] theorem rBor_3_4_7 (t : TR) (E : EK) (env : Env) (P : Ret → Env → Prop) : rBor [3, 4, 7] t E env P = lendM [false, false, false, true, true, false, false, true] env fun e => t (fun _ _ => False) e fun r e1 => ifp (r.flat = true) <| backM [false, false, false, true, true, false, false, true] env e1 fun e2 => P r e2 := rBor_m _ (by decide) ..
@[simp ↓] theorem bBor_3_4_7 (t : TB) (E : EK) (env : Env) (P : Bool → Env → Prop) : bBor [3, 4, 7] t E env P = lendM [false, false, false, true, true, false, false, true] env fun e => t (fun _ _ => False) e fun r e1 => backM [false, false, false, true, true, false, false, true] env e1 fun e2 => P r e2 := bBor_m _ (by decide) ..
@[simp ↓] theorem rBor_3_5_6 (t : TR) (E : EK) (env : Env) (P : Ret → Env → Prop) : rBor [3, 5, 6] t E env P = lendM [false, false, false, true, false, true, true] env fun e => t (fun _ _ => False) e fun r e1 => ifp (r.flat = true) <| backM [false, false, false, true, false, true, true] env e1 fun e2 => P r e2 := rBor_m _ (by decide) ..
@[simp ↓] theorem bBor_3_5_6 (t : TB) (E : EK) (env : Env) (P : Bool → Env → Prop) : bBor [3, 5, 6] t E env P = lendM [false, false, false, true, false, true, true] env fun e => t (fun _ _ => False) e fun r e1 => backM [false, false, false, true, false, true, true] env e1 fun e2 => P r e2 := bBor_m _ (by decide) ..
@[simp ↓] theorem rBor_3_5_7 (t : TR) (E : EK) (env : Env) (P : Ret → Env → Prop) : rBor [3, 5, 7] t E env P = lendM [false, false, false, true, false, true, false, true] env fun e => t (fun _ _ => False) e fun r e1 => ifp (r.flat = true) <| backM [false, false, false, true, false, true, false, true] env e1 fun e2 => P r e2 := rBor_m _ (by decide) ..
@[simp ↓] theorem bBor_3_5_7 (t : TB) (E : EK) (env : Env) (P : Bool → Env → Prop) : bBor [3, 5, 7] t E env P = lendM [false, false, false, true, false, true, false, true] env fun e => t (fun _ _ => False) e fun r e1 => backM [false, false, false, true, false, true, false, true] env e1 fun e2 => P r e2 := bBor_m _ (by decide) ..
@[simp ↓] theorem rBor_3_6_7 (t : TR) (E : EK) (env : Env) (P : Ret → Env → Prop) : rBor [3, 6, 7] t E env P = lendM [false, false, false, true, false, false, true, true] env fun e => t (fun _ _ => False) e fun r e1 => ifp (r.flat = true) <| backM [false, false, false, true, false, false, true, true] env e1 fun e2 => P r e2 := rBor_m _ (by decide) ..
@[simp ↓] theorem bBor_3_6_7 (t : TB) (E : EK) (env : Env) (P : Bool → Env → Prop) : bBor [3, 6, 7] t E env P = lendM [false, false, false, true, false, false, true, true] env fun e => t (fun _ _ => False) e fun r e1 => backM [false, false, false, true, false, false, true, true] env e1 fun e2 => P r e2 := bBor_m _ (by decide) ..
@[simp ↓] theorem rBor_4_5_6 (t : TR) (E : EK) (env : Env) (P : Ret → Env → Prop) : rBor [4, 5, 6] t E env P = lendM [false, false, false, false, true, true, true] env fun e => t (fun _ _ => False) e fun r e1 => ifp (r.flat = true) <| backM [false, false, false, false, true, true, true] env e1 fun e2 => P r e2 := rBor_m _ (by decide) ..
@[simp ↓] theorem bBor_4_5_6 (t : TB) (E : EK) (env : Env) (P : Bool → Env → Prop) : bBor [4, 5, 6] t E env P = lendM [false, false, false, false, true, true, true] env fun e => t (fun _ _ => False) e fun r e1 => backM [false, false, false, false, true, true, true] env e1 fun e2 => P r e2 := bBor_m _ (by decide) ..
@[simp ↓] theorem rBor_4_5_7 (t : TR) (E : EK) (env : Env) (P : Ret → Env → Prop) : rBor [4, 5, 7] t E env P = lendM [false, false, false, false, true, true, false, true] env fun e => t (fun _ _ => False) e fun r e1 => ifp (r.flat = true) <| backM [false, false, false, false, true, true, false, true] env e1 fun e2 => P r e2 := rBor_m _ (by decide) ..
@[simp ↓] theorem bBor_4_5_7 (t : TB) (E : EK) (env : Env) (P : Bool → Env → Prop) : bBor [4, 5, 7] t E env P = lendM [false, false, false, false, true, true, false, true] env fun e => t (fun _ _ => False) e fun r e1 => backM [false, false, false, false, true, true, false, true] env e1 fun e2 => P r e2 := bBor_m _ (by decide) ..
@[simp ↓] theorem rBor_4_6_7 (t : TR) (E : EK) (env : Env) (P : Ret → Env → Prop) : rBor [4, 6, 7] t E env P = lendM [false, false, false, false, true, false, true, true] env fun e => t (fun _ _ => False) e fun r e1 => ifp (r.flat = true) <| backM [false, false, false, false, true, false, true, true] env e1 fun e2 => P r e2 := rBor_m _ (by decide) ..
@[simp ↓] theorem bBor_4_6_7 (t : TB) (E : EK) (env : Env) (P : Bool → Env → Prop) : bBor [4, 6, 7] t E env P = lendM [false, false, false, false, true, false, true, true] env fun e => t (fun _ _ => False) e fun r e1 => backM [false, false, false, false, true, false, true, true] env e1 fun e2 => P r e2 := bBor_m _ (by decide) ..
@[simp ↓] theorem rBor_5_6_7 (t : TR) (E : EK) (env : Env) (P : Ret → Env → Prop) : rBor [5, 6, 7] t E env P = lendM [false, false, false, false, false, true, true, true] env fun e => t (fun _ _ => False) e fun r e1 => ifp (r.flat = true) <| backM [false, false, false, false, false, true, true, true] env e1 fun e2 => P r e2 := rBor_m _ (by decide) ..
@[simp ↓] theorem bBor_5_6_7 (t : TB) (E : EK) (env : Env) (P : Bool → Env → Prop) : bBor [5, 6, 7] t E env P = lendM [false, false, false, false, false, true, true, true] env fun e => t (fun _ _ => False) e fun r e1 => backM [false, false, false, false, false, true, true, true] env e1 fun e2 => P r e2 := bBor_m _ (by decide) ..
/-! the readings, one step -/
section
variable (D' : En) (E : EK) (env : Env)
@[simp ↓] theorem sNext_w : sNext D' env = D'.nx env := rfl
@[simp ↓] theorem sSeq_w (t u : TS) : sSeq t u D' env = t { D' with nx := u D' } env := rfl
@[simp ↓] theorem sBreak_w : sBreak D' env = D'.bk env := rfl
@[simp ↓] theorem sCont_w : sCont D' env = D'.ct env := rfl
@[simp ↓] theorem sAsg_w (te : TR) (i : Nat) : sAsg te i D' env = te D'.ex env fun r e1 => put i r.toSl e1 D'.nx := rfl
@[simp ↓] theorem sAsgG_w (te : TR) (g : TG) : sAsgG te g D' env = te D'.ex env fun r e1 => g r.toD e1 D'.nx := rfl
def setC (is : List Nat) (rs : List Ret) (e : Env) (Q : Env → Prop) (_ : Tg Q := ⟨⟩) : Prop := Q (setAll is rs e)
@[simp ↓] theorem setC_nil (rs : List Ret) (Q : Env → Prop) : setC [] rs env Q = Q env := by cases rs <;> rfl
@[simp ↓] theorem setC_cons (i : Nat) (is : List Nat) (r : Ret) (rs : List Ret) (Q : Env → Prop) : setC (i :: is) (r :: rs) env Q = put i r.toSl env fun e => setC is rs e Q := rfl
@[simp ↓] theorem sPar_w (is : List Nat) (ts : List TR) : sPar is ts D' env = parE ts D'.ex env fun rs e1 => setC is rs e1 D'.nx := rfl
@[simp ↓] theorem parE_nil (P : List Ret → Env → Prop) : parE [] E env P = P [] env := rfl
@[simp ↓] theorem parE_cons (t : TR) (ts : List TR) (P : List Ret → Env → Prop) : parE (t :: ts) E env P = t E env fun r e1 => parE ts E e1 fun rs e2 => P (r :: rs) e2 := rfl
@[simp ↓] theorem sDrop_w (te : TR) : sDrop te D' env = te D'.ex env fun _ e1 => D'.nx e1 := rfl
@[simp ↓] theorem sRet_w (te : TR) : sRet te D' env = te D'.ex env D'.rt := rfl
@[simp ↓] theorem sRetN_w : sRetN D' env = D'.rt (.d .none) env := rfl
@[simp ↓] theorem sIf_w (t : TB) (u v : TS) : sIf t u v D' env = t D'.ex env fun b e1 => br b (u D' e1) (v D' e1) := rfl
@[simp ↓] theorem sNever_w : sNever D' env = False := rfl
@[simp ↓] theorem sRaise_w (c : Str) : sRaise c D' env = D'.ex ⟨c, none⟩ env := rfl
@[simp ↓] theorem sAug_w (i : Nat) (r : D → D → Option Ret) (te : TR) : sAug i r te D' env = slE i env (fun x => te D'.ex env fun y e1 => un (r x y.toD) fun z => put i z.toSl e1 D'.nx) (fun _ => False) (fun _ => False) := by
  unfold sAug slE un fz put
  split <;> simp_all
@[simp ↓] theorem rMove_w (i : Nat) (P : Ret → Env → Prop) : rMove i E env P = slE i env (fun x => P (.d x) env) (fun xs => put i .un env fun e => P (.own xs) e) (fun kvs => put i .un env fun e => P (.tab kvs) e) := rfl
@[simp ↓] theorem rVar_w (i : Nat) (P : Ret → Env → Prop) : rVar i E env P = slE i env (fun x => P (.d x) env) (fun xs => put i (.d (.list xs)) env fun e => P (.d (.list xs)) e) (fun kvs => put i (.d (Ret.tab kvs).toD) env fun e => P (.d (Ret.tab kvs).toD) e) := rfl
@[simp ↓] theorem rC_w (x : D) (P : Ret → Env → Prop) : rC x E env P = P (.d x) env := rfl
@[simp ↓] theorem rOp_w (r : D → D → Option Ret) (ta tb : TR) (P : Ret → Env → Prop) : rOp r ta tb E env P = ta E env fun x e1 => tb E e1 fun y e2 => un (r x.toD y.toD) fun z => P z e2 := rfl
@[simp ↓] theorem rUn_w (r : D → Option Ret) (ta : TR) (P : Ret → Env → Prop) : rUn r ta E env P = ta E env fun x e1 => un (r x.toD) fun z => P z e1 := rfl
@[simp ↓] theorem rIs_w (T : String) (ta : TR) (P : Ret → Env → Prop) : rIs T ta E env P = ta E env fun x e1 => un (dIsi T x.toD) fun z => P z e1 := rfl
@[simp ↓] theorem rTix_w (ys : List Str) (ta : TR) (P : Ret → Env → Prop) : rTix ys ta E env P = ta E env fun x e1 => un (tblIx ys x.toD) fun z => P z e1 := rfl
@[simp ↓] theorem rTat_w (kvs : List (Str × D)) (ta : TR) (P : Ret → Env → Prop) : rTat kvs ta E env P = ta E env fun x e1 => un (tblAt kvs x.toD) fun z => P z e1 := rfl
@[simp ↓] theorem rIf_w (t : TB) (ta tb : TR) (P : Ret → Env → Prop) : rIf t ta tb E env P = t E env fun b e1 => br b (ta E e1 P) (tb E e1 P) := rfl
@[simp ↓] theorem aNil_w (P : List D → Env → Prop) : aNil E env P = P [] env := rfl
@[simp ↓] theorem aCons_w (ta : TR) (tr : TA) (P : List D → Env → Prop) : aCons ta tr E env P = ta E env fun x e1 => tr E e1 fun xs e2 => P (x.toD :: xs) e2 := rfl
def len16 (xs : List D) (P : Prop) (_ : Tg P := ⟨⟩) : Prop := xs.length ≤ 16777216 ∧ P
@[simp ↓] theorem len16_nil (P : Prop) : len16 [] P = P := by simp [len16]
@[simp ↓] theorem len16_1 (a : D) (P : Prop) : len16 [a] P = P := by simp [len16]
@[simp ↓] theorem len16_2 (a b : D) (P : Prop) : len16 [a, b] P = P := by simp [len16]
@[simp ↓] theorem len16_3 (a b c : D) (P : Prop) : len16 [a, b, c] P = P := by simp [len16]
@[simp ↓] theorem len16_4 (a b c d : D) (P : Prop) : len16 [a, b, c, d] P = P := by simp [len16]
@[simp ↓] theorem len16_5 (a b c d e : D) (P : Prop) : len16 [a, b, c, d, e] P = P := by simp [len16]
@[simp ↓] theorem len16_6 (a b c d e f : D) (P : Prop) : len16 [a, b, c, d, e, f] P = P := by simp [len16]
@[simp ↓] theorem len16_7 (a b c d e f g : D) (P : Prop) : len16 [a, b, c, d, e, f, g] P = P := by simp [len16]
@[simp ↓] theorem len16_8 (a b c d e f g h : D) (P : Prop) : len16 [a, b, c, d, e, f, g, h] P = P := by simp [len16]
@[simp ↓] theorem len16_9 (a b c d e f g h i : D) (P : Prop) : len16 [a, b, c, d, e, f, g, h, i] P = P := by simp [len16]
@[simp ↓] theorem len16_10 (a b c d e f g h i j : D) (P : Prop) : len16 [a, b, c, d, e, f, g, h, i, j] P = P := by simp [len16]
@[simp ↓] theorem rTup_w (ts : TA) (P : Ret → Env → Prop) : rTup ts E env P = ts E env fun xs e1 => len16 xs (P (.d (.tuple xs)) e1) := rfl
@[simp ↓] theorem rLst_w (ts : TA) (P : Ret → Env → Prop) : rLst ts E env P = ts E env fun xs e1 => len16 xs (P (.own xs) e1) := rfl
@[simp ↓] theorem rDct0_w (P : Ret → Env → Prop) : rDct0 E env P = P (.tab []) env := rfl
@[simp ↓] theorem rAnd_w (ta tb : TR) (P : Ret → Env → Prop) : rAnd ta tb E env P = ta E env fun x e1 => isB x.toD fun c => br c (tb E e1 P) (P (.d (.bool false)) e1) := rfl
@[simp ↓] theorem rOr_w (ta tb : TR) (P : Ret → Env → Prop) : rOr ta tb E env P = ta E env fun x e1 => isB x.toD fun c => br c (P (.d (.bool true)) e1) (tb E e1 P) := rfl
@[simp ↓] theorem rNot_w (ta : TR) (P : Ret → Env → Prop) : rNot ta E env P = ta E env fun x e1 => isB x.toD fun c => P (.d (.bool (!c))) e1 := rfl
@[simp ↓] theorem rChain_w (r r' : D → D → Option Ret) (ta tb tc : TR) (P : Ret → Env → Prop) : rChain r r' ta tb tc E env P = ta E env fun x e1 => tb E e1 fun y e2 => unB (r x.toD y.toD) fun k => br k (tc E e2 fun z e3 => un (r' y.toD z.toD) fun w => P w e3) (P (.d (.bool false)) e2) := rfl
@[simp ↓] theorem rCB_w (r : List D → Option Ret) (ts : TA) (P : Ret → Env → Prop) : rCB r ts E env P = ts E env fun xs e1 => un (r xs) fun z => P z e1 := rfl
def ckS (x : D) (P : Prop) (_ : Tg P := ⟨⟩) : Prop := isStrD x ∧ P
@[simp ↓] theorem ckS_str (s : Str) (P : Prop) : ckS (.str s) P = P := by simp [ckS, isStrD]
def ckL (x : D) (P : Prop) (_ : Tg P := ⟨⟩) : Prop := isLstD x ∧ P
@[simp ↓] theorem ckL_lst (s : List D) (P : Prop) : ckL (.list s) P = P := by simp [ckL, isLstD]
@[simp ↓] theorem rMethS_w (r : D → List D → Option Ret) (to : TR) (ts : TA) (P : Ret → Env → Prop) : rMeth isStrD r to ts E env P = to E env fun x e1 => ckS x.toD (ts E e1 fun ys e2 => un (r x.toD ys) fun z => P z e2) := rfl
@[simp ↓] theorem rMethL_w (r : D → List D → Option Ret) (to : TR) (ts : TA) (P : Ret → Env → Prop) : rMeth isLstD r to ts E env P = to E env fun x e1 => ckL x.toD (ts E e1 fun ys e2 => un (r x.toD ys) fun z => P z e2) := rfl
@[simp ↓] theorem rLenSet_w (te : TR) (P : Ret → Env → Prop) : rLenSet te E env P = te E env fun y e1 => isL y.toD fun xs => un (keysOf xs) fun ks => ifp (ks.length ≤ 4000) <| P (.d (.int ((uniq ks).length : Nat))) e1 := by
  unfold rLenSet fz
  congr 1; funext y e1
  unfold isL un
  apply propext
  constructor
  · rintro ⟨xs, ks, h1, h2, h3, h4⟩; exact ⟨xs, h1, ks, h2, h3, h4⟩
  · rintro ⟨xs, h1, ks, h2, h3, h4⟩; exact ⟨xs, ks, h1, h2, h3, h4⟩
@[simp ↓] theorem oNone_w (P : Option Int → Env → Prop) : oNone E env P = P none env := rfl
@[simp ↓] theorem oSome_w (t : TR) (P : Option Int → Env → Prop) : oSome t E env P = t E env fun x e1 => isI x.toD fun i => P (some i) e1 := rfl
@[simp ↓] theorem rSl_w (r : D → Option Int → Option Int → Option Ret) (te : TR) (tl th : TO) (P : Ret → Env → Prop) : rSl r te tl th E env P = te E env fun x e1 => tl E e1 fun lo e2 => th E e2 fun hi e3 => un (r x.toD lo hi) fun z => P z e3 := rfl
@[simp ↓] theorem bTest_w (ta : TR) (P : Bool → Env → Prop) : bTest ta E env P = ta E env fun x e1 => isB x.toD fun b => P b e1 := rfl
@[simp ↓] theorem bAnd_w (t u : TB) (P : Bool → Env → Prop) : bAnd t u E env P = t E env fun c e1 => br c (u E e1 P) (P false e1) := rfl
@[simp ↓] theorem bOr_w (t u : TB) (P : Bool → Env → Prop) : bOr t u E env P = t E env fun c e1 => br c (P true e1) (u E e1 P) := rfl
@[simp ↓] theorem bNot_w (t : TB) (P : Bool → Env → Prop) : bNot t E env P = t E env fun c e1 => P (!c) e1 := rfl
@[simp ↓] theorem bYes_w (P : Bool → Env → Prop) : bYes E env P = P true env := rfl
@[simp ↓] theorem gName_w (i : Nat) (x : D) (Q : Env → Prop) : gName i x env Q = put i (.d x) env Q := rfl
@[simp ↓] theorem gNil_w (Q : Env → Prop) : gNil [] env Q = Q env := by simp [gNil]
@[simp ↓] theorem gCons_w (t : TG) (u : TGs) (x : D) (r : List D) (Q : Env → Prop) : gCons t u (x :: r) env Q = t x env fun e1 => u r e1 Q := propext ⟨fun ⟨_, _, e, h⟩ => by cases e; exact h, fun h => ⟨_, _, rfl, h⟩⟩
@[simp ↓] theorem gTup_w (n : Nat) (t : TGs) (x : D) (Q : Env → Prop) : gTup n t x env Q = isT x fun xs => ifp (xs.length = n) <| t xs env Q := rfl
@[simp ↓] theorem iAny_w (te : TR) (P : List D → Env → Prop) : iAny te E env P = te E env fun x e1 => un (seqD x.toD) fun xs => P xs e1 := rfl
@[simp ↓] theorem iRange_w (ta tb : TR) (P : List D → Env → Prop) : iRange ta tb E env P = ta E env fun x e1 => tb E e1 fun y e2 => isI x.toD fun i => isI y.toD fun j => ifp (-(2 ^ 62) ≤ i ∧ i < 2 ^ 62 ∧ -(2 ^ 62) ≤ j ∧ j < 2 ^ 62) <| P (rangeD i (j - i).toNat) e2 := by
  unfold iRange fz
  congr 1; funext x e1; dsimp only; congr 1; funext y e2
  unfold isI
  apply propext
  constructor
  · rintro ⟨i, j, h1, h2, h3, h4⟩; exact ⟨i, h1, j, h2, h3, h4⟩
  · rintro ⟨i, h1, j, h2, h3, h4⟩; exact ⟨i, j, h1, h2, h3, h4⟩
@[simp ↓] theorem iRange1_w (tb : TR) (P : List D → Env → Prop) : iRange1 tb E env P = tb E env fun y e2 => isI y.toD fun j => ifp (-(2 ^ 62) ≤ j ∧ j < 2 ^ 62) <| P (rangeD 0 j.toNat) e2 := rfl
@[simp ↓] theorem iEnum_w (te : TR) (P : List D → Env → Prop) : iEnum te E env P = te E env fun x e1 => isL x.toD fun xs => P (enumD 0 xs) e1 := rfl
theorem IsOwn_w (i : Nat) : IsOwn i env = owX i env fun _ _ => True := by unfold IsOwn owX; simp
theorem IsOwn_c (i : Nat) (P : Prop) : (IsOwn i env ∧ P) = owX i env fun _ _ => P := by
  unfold IsOwn owX
  apply propext
  constructor
  · rintro ⟨⟨s, xs, h1, h2⟩, p⟩; exact ⟨s, xs, h1, h2, p⟩
  · rintro ⟨s, xs, h1, h2, p⟩; exact ⟨⟨s, xs, h1, h2⟩, p⟩
@[simp ↓] theorem sApp_w (i : Nat) (te : TR) : sApp i te D' env = owX i env fun _ _ => te D'.ex env fun x e1 => owX i e1 fun xs k => ifp (xs.length < 16777216) <| D'.nx (k (xs ++ [x.toD])) := by rw [← IsOwn_c]; rfl
@[simp ↓] theorem sRev_w (i : Nat) : sRev i D' env = owX i env fun xs k => D'.nx (k xs.reverse) := rfl
@[simp ↓] theorem sClear_w (i : Nat) : sClear i D' env = owX i env fun xs k => D'.nx (k []) := rfl
@[simp ↓] theorem sExt_w (i : Nat) (te : TR) : sExt i te D' env = owX i env fun _ _ => te D'.ex env fun x e1 => owX i e1 fun xs k => isL x.toD fun ys => ifp (xs.length + ys.length ≤ 16777216) <| D'.nx (k (xs ++ ys)) := by
  rw [← IsOwn_c]
  unfold sExt fz
  congr 1; congr 1; funext x e1
  unfold owX isL
  apply propext
  constructor
  · rintro ⟨s, xs, ys, h1, h2, h3, h4, h5⟩; exact ⟨s, xs, h1, h2, ys, h3, h4, h5⟩
  · rintro ⟨s, xs, h1, h2, ys, h3, h4, h5⟩; exact ⟨s, xs, ys, h1, h2, h3, h4, h5⟩
@[simp ↓] theorem sSetI_w (i : Nat) (te tk : TR) : sSetI i te tk D' env = owX i env fun _ _ => te D'.ex env fun x e1 => tk D'.ex e1 fun k e2 => owX i e2 fun xs kk => isI k.toD fun n => un (ixOf n xs.length) fun j => D'.nx (kk (xs.set j x.toD)) := by
  rw [← IsOwn_c]
  unfold sSetI fz
  congr 1; congr 1; funext x e1; dsimp only; congr 1; funext k e2
  unfold owX isI un
  apply propext
  constructor
  · rintro ⟨s, xs, n, j, h1, h2, h3, h4, h5⟩; exact ⟨s, xs, h1, h2, n, h3, j, h4, h5⟩
  · rintro ⟨s, xs, h1, h2, n, h3, j, h4, h5⟩; exact ⟨s, xs, n, j, h1, h2, h3, h4, h5⟩
@[simp ↓] theorem rPop_w (i : Nat) (tk : TR) (P : Ret → Env → Prop) : rPop i tk E env P = owX i env fun _ _ => tk E env fun x e1 => owX i e1 fun xs kk => isI x.toD fun k => ifp (-(2 ^ 63) ≤ k ∧ k < 2 ^ 63) <| un (ixOf k xs.length) fun j => un xs[j]? fun v => P (.d v) (kk (xs.eraseIdx j)) := by
  rw [← IsOwn_c]
  unfold rPop fz
  congr 1; congr 1; funext x e1
  unfold owX isI un
  apply propext
  constructor
  · rintro ⟨s, xs, k, j, v, h1, h2, h3, h4, h5, h6, h7⟩; exact ⟨s, xs, h1, h2, k, h3, h4, j, h5, v, h6, h7⟩
  · rintro ⟨s, xs, h1, h2, k, h3, h4, j, h5, v, h6, h7⟩; exact ⟨s, xs, k, j, v, h1, h2, h3, h4, h5, h6, h7⟩
/-- a def that is a function of values -/
def spF (n : Nat) (f : List D → Option Ret) : Sp := fun as R _ => ∃ xs r, as = xs.map .d ∧ xs.length = n ∧ f xs = some r ∧ ∀ s, R r s
theorem ary_F (n : Nat) (f : List D → Option Ret) : Ary (spF n f) n := by rintro _ _ _ ⟨xs, r, rfl, h, _⟩; simpa using h
theorem map_d_inj : ∀ {xs ys : List D}, xs.map Sl.d = ys.map Sl.d → xs = ys
  | [], [], _ => rfl
  | [], _ :: _, h => by cases h
  | _ :: _, [], h => by cases h
  | x :: xs, y :: ys, h => by simp only [List.map_cons, List.cons.injEq, Sl.d.injEq] at h; rw [h.1, map_d_inj h.2]
def ckN (n : Nat) (xs : List D) (P : Prop) (_ : Tg P := ⟨⟩) : Prop := xs.length = n ∧ P
@[simp ↓] theorem ckN_0 (P : Prop) : ckN 0 [] P = P := by simp [ckN]
@[simp ↓] theorem ckN_1 (a : D) (P : Prop) : ckN 1 [a] P = P := by simp [ckN]
@[simp ↓] theorem ckN_2 (a b : D) (P : Prop) : ckN 2 [a, b] P = P := by simp [ckN]
@[simp ↓] theorem ckN_3 (a b c : D) (P : Prop) : ckN 3 [a, b, c] P = P := by simp [ckN]
@[simp ↓] theorem ckN_4 (a b c d : D) (P : Prop) : ckN 4 [a, b, c, d] P = P := by simp [ckN]
@[simp ↓] theorem ckN_5 (a b c d e : D) (P : Prop) : ckN 5 [a, b, c, d, e] P = P := by simp [ckN]
theorem rCall_F0 (n : Nat) (f : List D → Option Ret) (ds : List D) (ts : TA) (P : Ret → Env → Prop) : rCall (spF n f) ds ts E env P = ts E env fun xs e1 => ckN n (xs ++ ds) (un (f (xs ++ ds)) fun r => P r e1) := by
  unfold rCall spF
  congr 1; funext xs e1
  apply propext
  constructor
  · rintro ⟨ys, r, h1, h2, h3, h4⟩
    cases map_d_inj h1
    exact ⟨h2, r, h3, h4 []⟩
  · rintro ⟨h2, r, h3, h4⟩
    exact ⟨_, r, rfl, h2, h3, fun _ => h4⟩
@[simp ↓] theorem rCall_F (n : Nat) (f : List D → Option Ret) (ts : TA) (P : Ret → Env → Prop) : rCall (spF n f) [] ts E env P = ts E env fun xs e1 => ckN n xs (un (f xs) fun r => P r e1) := by
  rw [rCall_F0]
  congr 1; funext xs e1
  rw [List.append_nil]
/-- one default that fills up -/
def app1 (xs : List D) (d : D) (P : List D → Prop) (_ : Tg P := ⟨⟩) : Prop := P (xs ++ [d])
@[simp ↓] theorem app1_1 (a d : D) (P : List D → Prop) : app1 [a] d P = P [a, d] := rfl
@[simp ↓] theorem app1_2 (a b d : D) (P : List D → Prop) : app1 [a, b] d P = P [a, b, d] := rfl
@[simp ↓] theorem app1_3 (a b c d : D) (P : List D → Prop) : app1 [a, b, c] d P = P [a, b, c, d] := rfl
@[simp ↓] theorem rCall_F1 (n : Nat) (f : List D → Option Ret) (d : D) (ts : TA) (P : Ret → Env → Prop) : rCall (spF n f) [d] ts E env P = ts E env fun xs e1 => app1 xs d fun ys => ckN n ys (un (f ys) fun r => P r e1) := rCall_F0 ..
end
@[simp ↓] theorem bodyEn_nx (n : Nat) (R : Ret → List Sl → Prop) (Ex : EK) (env : Env) : (bodyEn n R Ex).nx env = R (.d .none) (pars n env) := rfl
@[simp ↓] theorem bodyEn_rt (n : Nat) (R : Ret → List Sl → Prop) (Ex : EK) (r : Ret) (env : Env) : (bodyEn n R Ex).rt r env = R r (pars n env) := rfl
@[simp ↓] theorem bodyEn_ex (n : Nat) (R : Ret → List Sl → Prop) (Ex : EK) (x : Exn) (env : Env) : (bodyEn n R Ex).ex x env = Ex x (pars n env) := rfl

@[simp ↓] theorem un_add_i (i j : Int) (P : Ret → Prop) : un (dAdd (.int i) (.int j)) P = (P (.d (.int (i + j)))) := un_some _ _
@[simp ↓] theorem un_add_s (a b : Str) (P : Ret → Prop) : un (dAdd (.str a) (.str b)) P = (ifp (a.length + b.length ≤ 16777216) (P (.d (.str (a ++ b))))) := un_ite _ _ _
@[simp ↓] theorem un_add_l (a b : List D) (P : Ret → Prop) : un (dAdd (.list a) (.list b)) P = (ifp (a.length + b.length ≤ 16777216) (P (.own (a ++ b)))) := un_ite _ _ _
@[simp ↓] theorem un_add_t (a b : List D) (P : Ret → Prop) : un (dAdd (.tuple a) (.tuple b)) P = (ifp (a.length + b.length ≤ 16777216) (P (.d (.tuple (a ++ b))))) := un_ite _ _ _
@[simp ↓] theorem un_iadd_i (i j : Int) (P : Ret → Prop) : un (dIadd (.int i) (.int j)) P = (P (.d (.int (i + j)))) := un_some _ _
@[simp ↓] theorem un_sub_i (i j : Int) (P : Ret → Prop) : un (dSub (.int i) (.int j)) P = (P (.d (.int (i - j)))) := un_some _ _
@[simp ↓] theorem un_mul_i (i j : Int) (P : Ret → Prop) : un (dMul (.int i) (.int j)) P = (ifp (mulOk i j = true) (P (.d (.int (i * j))))) := un_ite _ _ _
@[simp ↓] theorem un_mul_l (a : List D) (j : Int) (P : Ret → Prop) : un (dMul (.list a) (.int j)) P = (ifp (-(2 ^ 63) ≤ j ∧ j < 2 ^ 63 ∧ a.length * j.toNat ≤ 16777216) (P (.own (List.replicate j.toNat a).flatten))) := un_ite _ _ _
@[simp ↓] theorem un_mul_s (a : Str) (j : Int) (P : Ret → Prop) : un (dMul (.str a) (.int j)) P = (ifp (-(2 ^ 63) ≤ j ∧ j < 2 ^ 63 ∧ a.length * j.toNat ≤ 16777216) (P (.d (.str (Txt.mul a j))))) := un_ite _ _ _
@[simp ↓] theorem un_fdiv_i (i j : Int) (P : Ret → Prop) : un (dFdiv (.int i) (.int j)) P = (ifp (divOk i j = true) (P (.d (.int (i / j))))) := un_ite _ _ _
@[simp ↓] theorem un_mod_i (i j : Int) (P : Ret → Prop) : un (dMod (.int i) (.int j)) P = (ifp (decide (0 < j) = true) (P (.d (.int (i % j))))) := un_ite _ _ _
@[simp ↓] theorem un_pow_i (i j : Int) (P : Ret → Prop) : un (dPow (.int i) (.int j)) P = (ifp (powOk i j = true) (P (.d (.int (i ^ j.toNat))))) := un_ite _ _ _
@[simp ↓] theorem un_lt_i (i j : Int) (P : Ret → Prop) : un (dLt (.int i) (.int j)) P = (P (.d (.bool (decide (i < j))))) := un_some _ _
@[simp ↓] theorem unB_lt_i (i j : Int) (P : Bool → Prop) : unB (dLt (.int i) (.int j)) P = P (decide (i < j)) := unB_some _ _
@[simp ↓] theorem un_le_i (i j : Int) (P : Ret → Prop) : un (dLe (.int i) (.int j)) P = (P (.d (.bool (decide (i ≤ j))))) := un_some _ _
@[simp ↓] theorem unB_le_i (i j : Int) (P : Bool → Prop) : unB (dLe (.int i) (.int j)) P = P (decide (i ≤ j)) := unB_some _ _
@[simp ↓] theorem un_gt_i (i j : Int) (P : Ret → Prop) : un (dGt (.int i) (.int j)) P = (P (.d (.bool (decide (j < i))))) := un_some _ _
@[simp ↓] theorem unB_gt_i (i j : Int) (P : Bool → Prop) : unB (dGt (.int i) (.int j)) P = P (decide (j < i)) := unB_some _ _
@[simp ↓] theorem un_ge_i (i j : Int) (P : Ret → Prop) : un (dGe (.int i) (.int j)) P = (P (.d (.bool (decide (j ≤ i))))) := un_some _ _
@[simp ↓] theorem unB_ge_i (i j : Int) (P : Bool → Prop) : unB (dGe (.int i) (.int j)) P = P (decide (j ≤ i)) := unB_some _ _
@[simp ↓] theorem un_eq_i (i j : Int) (P : Ret → Prop) : un (dEq (.int i) (.int j)) P = (P (.d (.bool (decide (i = j))))) := un_some _ _
@[simp ↓] theorem un_ne_i (i j : Int) (P : Ret → Prop) : un (dNe (.int i) (.int j)) P = (P (.d (.bool (!decide (i = j))))) := un_some _ _
@[simp ↓] theorem un_eq_s (i j : Str) (P : Ret → Prop) : un (dEq (.str i) (.str j)) P = (P (.d (.bool (decide (i = j))))) := un_some _ _
@[simp ↓] theorem un_ne_s (i j : Str) (P : Ret → Prop) : un (dNe (.str i) (.str j)) P = (P (.d (.bool (!decide (i = j))))) := un_some _ _
@[simp ↓] theorem un_eq_b (i j : Bool) (P : Ret → Prop) : un (dEq (.bool i) (.bool j)) P = (P (.d (.bool (decide (i = j))))) := un_some _ _
@[simp ↓] theorem un_ne_b (i j : Bool) (P : Ret → Prop) : un (dNe (.bool i) (.bool j)) P = (P (.d (.bool (!decide (i = j))))) := un_some _ _
@[simp ↓] theorem un_is_none  (P : Ret → Prop) : un (dIs .none .none) P = (P (.d (.bool true))) := un_some _ _
@[simp ↓] theorem un_isnt_none  (P : Ret → Prop) : un (dIsNot .none .none) P = (P (.d (.bool false))) := un_some _ _
@[simp ↓] theorem un_is_int (i : Int) (P : Ret → Prop) : un (dIs (.int i) .none) P = (P (.d (.bool false))) := un_some _ _
@[simp ↓] theorem un_isnt_int (i : Int) (P : Ret → Prop) : un (dIsNot (.int i) .none) P = (P (.d (.bool true))) := un_some _ _
@[simp ↓] theorem un_is_bool (i : Bool) (P : Ret → Prop) : un (dIs (.bool i) .none) P = (P (.d (.bool false))) := un_some _ _
@[simp ↓] theorem un_isnt_bool (i : Bool) (P : Ret → Prop) : un (dIsNot (.bool i) .none) P = (P (.d (.bool true))) := un_some _ _
@[simp ↓] theorem un_is_str (i : Str) (P : Ret → Prop) : un (dIs (.str i) .none) P = (P (.d (.bool false))) := un_some _ _
@[simp ↓] theorem un_isnt_str (i : Str) (P : Ret → Prop) : un (dIsNot (.str i) .none) P = (P (.d (.bool true))) := un_some _ _
@[simp ↓] theorem un_is_list (i : List D) (P : Ret → Prop) : un (dIs (.list i) .none) P = (P (.d (.bool false))) := un_some _ _
@[simp ↓] theorem un_isnt_list (i : List D) (P : Ret → Prop) : un (dIsNot (.list i) .none) P = (P (.d (.bool true))) := un_some _ _
@[simp ↓] theorem un_is_tuple (i : List D) (P : Ret → Prop) : un (dIs (.tuple i) .none) P = (P (.d (.bool false))) := un_some _ _
@[simp ↓] theorem un_isnt_tuple (i : List D) (P : Ret → Prop) : un (dIsNot (.tuple i) .none) P = (P (.d (.bool true))) := un_some _ _
@[simp ↓] theorem un_neg (i : Int) (P : Ret → Prop) : un (dNeg (.int i)) P = (P (.d (.int (-i)))) := un_some _ _
theorem atI_nat {xs : List D} {k : Nat} {v : D} (h : xs[k]? = some v) : L2.atI xs (k : Int) = some v := by
  have hk : k < xs.length := (List.getElem?_eq_some_iff.mp h).1
  unfold L2.atI L2.ixN
  rw [if_pos (by omega), if_pos (by omega)]
  simpa using h
theorem ix_l {xs : List D} (k : Nat) {v : D} (h : xs[k]? = some v) : dIx (.list xs) (.int (k : Int)) = some (.d v) := by show (L2.atI xs (k : Int)).map Ret.d = _; rw [atI_nat h]; rfl
theorem ix_t {xs : List D} (k : Nat) {v : D} (h : xs[k]? = some v) : dIx (.tuple xs) (.int (k : Int)) = some (.d v) := by show (L2.atI xs (k : Int)).map Ret.d = _; rw [atI_nat h]; rfl
@[simp ↓] theorem un_ix_l0 (x0 : D) (r : List D) (P : Ret → Prop) : un (dIx (.list (x0 :: r)) (.int 0)) P = P (.d x0) := un_eq (ix_l 0 rfl) P
@[simp ↓] theorem un_ix_t0 (x0 : D) (r : List D) (P : Ret → Prop) : un (dIx (.tuple (x0 :: r)) (.int 0)) P = P (.d x0) := un_eq (ix_t 0 rfl) P
@[simp ↓] theorem un_ix_l1 (x0 x1 : D) (r : List D) (P : Ret → Prop) : un (dIx (.list (x0 :: x1 :: r)) (.int 1)) P = P (.d x1) := un_eq (ix_l 1 rfl) P
@[simp ↓] theorem un_ix_t1 (x0 x1 : D) (r : List D) (P : Ret → Prop) : un (dIx (.tuple (x0 :: x1 :: r)) (.int 1)) P = P (.d x1) := un_eq (ix_t 1 rfl) P
@[simp ↓] theorem un_ix_l2 (x0 x1 x2 : D) (r : List D) (P : Ret → Prop) : un (dIx (.list (x0 :: x1 :: x2 :: r)) (.int 2)) P = P (.d x2) := un_eq (ix_l 2 rfl) P
@[simp ↓] theorem un_ix_t2 (x0 x1 x2 : D) (r : List D) (P : Ret → Prop) : un (dIx (.tuple (x0 :: x1 :: x2 :: r)) (.int 2)) P = P (.d x2) := un_eq (ix_t 2 rfl) P
@[simp ↓] theorem un_ix_l3 (x0 x1 x2 x3 : D) (r : List D) (P : Ret → Prop) : un (dIx (.list (x0 :: x1 :: x2 :: x3 :: r)) (.int 3)) P = P (.d x3) := un_eq (ix_l 3 rfl) P
@[simp ↓] theorem un_ix_t3 (x0 x1 x2 x3 : D) (r : List D) (P : Ret → Prop) : un (dIx (.tuple (x0 :: x1 :: x2 :: x3 :: r)) (.int 3)) P = P (.d x3) := un_eq (ix_t 3 rfl) P
@[simp ↓] theorem un_ix_l4 (x0 x1 x2 x3 x4 : D) (r : List D) (P : Ret → Prop) : un (dIx (.list (x0 :: x1 :: x2 :: x3 :: x4 :: r)) (.int 4)) P = P (.d x4) := un_eq (ix_l 4 rfl) P
@[simp ↓] theorem un_ix_t4 (x0 x1 x2 x3 x4 : D) (r : List D) (P : Ret → Prop) : un (dIx (.tuple (x0 :: x1 :: x2 :: x3 :: x4 :: r)) (.int 4)) P = P (.d x4) := un_eq (ix_t 4 rfl) P
@[simp ↓] theorem un_ix_l5 (x0 x1 x2 x3 x4 x5 : D) (r : List D) (P : Ret → Prop) : un (dIx (.list (x0 :: x1 :: x2 :: x3 :: x4 :: x5 :: r)) (.int 5)) P = P (.d x5) := un_eq (ix_l 5 rfl) P
@[simp ↓] theorem un_ix_t5 (x0 x1 x2 x3 x4 x5 : D) (r : List D) (P : Ret → Prop) : un (dIx (.tuple (x0 :: x1 :: x2 :: x3 :: x4 :: x5 :: r)) (.int 5)) P = P (.d x5) := un_eq (ix_t 5 rfl) P
@[simp ↓] theorem un_len_l (x : List D) (P : Ret → Prop) : un (dLen [.list x]) P = (P (.d (.int x.length))) := un_some _ _
@[simp ↓] theorem un_len_t (x : List D) (P : Ret → Prop) : un (dLen [.tuple x]) P = (P (.d (.int x.length))) := un_some _ _
@[simp ↓] theorem un_len_k (x : List D) (P : Ret → Prop) : un (dLen [.dict [(.none, .list x)]]) P = (P (.d (.int x.length))) := un_some _ _
@[simp ↓] theorem un_len_s (x : Str) (P : Ret → Prop) : un (dLen [.str x]) P = (ifp (x.length ≤ 16777216) (P (.d (.int x.length)))) := un_ite _ _ _
@[simp ↓] theorem un_int_i (i : Int) (P : Ret → Prop) : un (dInt [.int i]) P = (P (.d (.int i))) := un_some _ _
@[simp ↓] theorem un_int_b (b : Bool) (P : Ret → Prop) : un (dInt [.bool b]) P = (P (.d (.int (if b = true then 1 else 0)))) := un_some _ _
@[simp ↓] theorem un_max_i (i j : Int) (P : Ret → Prop) : un (dMax [.int i, .int j]) P = (P (.d (.int (max i j)))) := un_some _ _
@[simp ↓] theorem un_min_i (i j : Int) (P : Ret → Prop) : un (dMin [.int i, .int j]) P = (P (.d (.int (min i j)))) := un_some _ _
@[simp ↓] theorem un_abs_i (i : Int) (P : Ret → Prop) : un (dAbs [.int i]) P = (P (.d (.int i.natAbs))) := un_some _ _
@[simp ↓] theorem un_sl_l (x : List D) (lo hi : Option Int) (P : Ret → Prop) : un (dSl (.list x) lo hi) P = (P (.own (cutD x lo hi))) := un_some _ _
@[simp ↓] theorem un_sl_t (x : List D) (lo hi : Option Int) (P : Ret → Prop) : un (dSl (.tuple x) lo hi) P = (P (.d (.tuple (cutD x lo hi)))) := un_some _ _
@[simp ↓] theorem un_list_l (x : List D) (P : Ret → Prop) : un (dList [.list x]) P = (P (.own x)) := un_some _ _
@[simp ↓] theorem un_list_t (x : List D) (P : Ret → Prop) : un (dList [.tuple x]) P = (P (.own x)) := un_some _ _
@[simp ↓] theorem un_tuple_l (x : List D) (P : Ret → Prop) : un (dTuple [.list x]) P = (P (.d (.tuple x))) := un_some _ _
@[simp ↓] theorem un_sum (ns : List Int) (P : Ret → Prop) : un (dSum [.list (ns.map .int)]) P = P (.d (.int ns.sum)) := un_eq (by simp [dSum, onInts]) P
@[simp ↓] theorem un_all (ns : List Bool) (P : Ret → Prop) : un (dAll [.list (ns.map .bool)]) P = P (.d (.bool (ns.all id))) := un_eq (by simp [dAll, onBools]) P
@[simp ↓] theorem un_any (ns : List Bool) (P : Ret → Prop) : un (dAny [.list (ns.map .bool)]) P = P (.d (.bool (ns.any id))) := un_eq (by simp [dAny, onBools]) P
@[simp ↓] theorem un_sorted (ns : List Int) (P : Ret → Prop) : un (dSorted [.list (ns.map .int)]) P = P (.own ((PySem.W.sortI ns).map .int)) := un_eq (by simp [dSorted, onInts]) P
@[simp ↓] theorem un_seq_l (x : List D) (P : List D → Prop) : un (seqD (.list x)) P = P x := un_some _ _
@[simp ↓] theorem un_seq_t (x : List D) (P : List D → Prop) : un (seqD (.tuple x)) P = P x := un_some _ _
@[simp ↓] theorem un_seq_s (x : Str) (P : List D → Prop) : un (seqD (.str x)) P = P (x.cps.toList.map fun c => .str ⟨#[c]⟩) := un_some _ _
@[simp ↓] theorem un_isi_bool_NoneType (P : Ret → Prop) : un (dIsi "bool" .none) P = P (.d (.bool false)) := un_eq (by rw [show dIsi "bool" .none = (L2.kitB "NoneType" "bool").map fun b => .d (.bool b) from rfl, show L2.kitB "NoneType" "bool" = some false by decide +kernel]; rfl) P
@[simp ↓] theorem un_isi_int_NoneType (P : Ret → Prop) : un (dIsi "int" .none) P = P (.d (.bool false)) := un_eq (by rw [show dIsi "int" .none = (L2.kitB "NoneType" "int").map fun b => .d (.bool b) from rfl, show L2.kitB "NoneType" "int" = some false by decide +kernel]; rfl) P
@[simp ↓] theorem un_isi_str_NoneType (P : Ret → Prop) : un (dIsi "str" .none) P = P (.d (.bool false)) := un_eq (by rw [show dIsi "str" .none = (L2.kitB "NoneType" "str").map fun b => .d (.bool b) from rfl, show L2.kitB "NoneType" "str" = some false by decide +kernel]; rfl) P
@[simp ↓] theorem un_isi_list_NoneType (P : Ret → Prop) : un (dIsi "list" .none) P = P (.d (.bool false)) := un_eq (by rw [show dIsi "list" .none = (L2.kitB "NoneType" "list").map fun b => .d (.bool b) from rfl, show L2.kitB "NoneType" "list" = some false by decide +kernel]; rfl) P
@[simp ↓] theorem un_isi_tuple_NoneType (P : Ret → Prop) : un (dIsi "tuple" .none) P = P (.d (.bool false)) := un_eq (by rw [show dIsi "tuple" .none = (L2.kitB "NoneType" "tuple").map fun b => .d (.bool b) from rfl, show L2.kitB "NoneType" "tuple" = some false by decide +kernel]; rfl) P
@[simp ↓] theorem un_isi_bool_bool (b : Bool) (P : Ret → Prop) : un (dIsi "bool" (.bool b)) P = P (.d (.bool true)) := un_eq (by rw [show dIsi "bool" (.bool b) = (L2.kitB "bool" "bool").map fun b => .d (.bool b) from rfl, show L2.kitB "bool" "bool" = some true by decide +kernel]; rfl) P
@[simp ↓] theorem un_isi_int_bool (b : Bool) (P : Ret → Prop) : un (dIsi "int" (.bool b)) P = P (.d (.bool true)) := un_eq (by rw [show dIsi "int" (.bool b) = (L2.kitB "bool" "int").map fun b => .d (.bool b) from rfl, show L2.kitB "bool" "int" = some true by decide +kernel]; rfl) P
@[simp ↓] theorem un_isi_str_bool (b : Bool) (P : Ret → Prop) : un (dIsi "str" (.bool b)) P = P (.d (.bool false)) := un_eq (by rw [show dIsi "str" (.bool b) = (L2.kitB "bool" "str").map fun b => .d (.bool b) from rfl, show L2.kitB "bool" "str" = some false by decide +kernel]; rfl) P
@[simp ↓] theorem un_isi_list_bool (b : Bool) (P : Ret → Prop) : un (dIsi "list" (.bool b)) P = P (.d (.bool false)) := un_eq (by rw [show dIsi "list" (.bool b) = (L2.kitB "bool" "list").map fun b => .d (.bool b) from rfl, show L2.kitB "bool" "list" = some false by decide +kernel]; rfl) P
@[simp ↓] theorem un_isi_tuple_bool (b : Bool) (P : Ret → Prop) : un (dIsi "tuple" (.bool b)) P = P (.d (.bool false)) := un_eq (by rw [show dIsi "tuple" (.bool b) = (L2.kitB "bool" "tuple").map fun b => .d (.bool b) from rfl, show L2.kitB "bool" "tuple" = some false by decide +kernel]; rfl) P
@[simp ↓] theorem un_isi_bool_int (i : Int) (P : Ret → Prop) : un (dIsi "bool" (.int i)) P = P (.d (.bool false)) := un_eq (by rw [show dIsi "bool" (.int i) = (L2.kitB "int" "bool").map fun b => .d (.bool b) from rfl, show L2.kitB "int" "bool" = some false by decide +kernel]; rfl) P
@[simp ↓] theorem un_isi_int_int (i : Int) (P : Ret → Prop) : un (dIsi "int" (.int i)) P = P (.d (.bool true)) := un_eq (by rw [show dIsi "int" (.int i) = (L2.kitB "int" "int").map fun b => .d (.bool b) from rfl, show L2.kitB "int" "int" = some true by decide +kernel]; rfl) P
@[simp ↓] theorem un_isi_str_int (i : Int) (P : Ret → Prop) : un (dIsi "str" (.int i)) P = P (.d (.bool false)) := un_eq (by rw [show dIsi "str" (.int i) = (L2.kitB "int" "str").map fun b => .d (.bool b) from rfl, show L2.kitB "int" "str" = some false by decide +kernel]; rfl) P
@[simp ↓] theorem un_isi_list_int (i : Int) (P : Ret → Prop) : un (dIsi "list" (.int i)) P = P (.d (.bool false)) := un_eq (by rw [show dIsi "list" (.int i) = (L2.kitB "int" "list").map fun b => .d (.bool b) from rfl, show L2.kitB "int" "list" = some false by decide +kernel]; rfl) P
@[simp ↓] theorem un_isi_tuple_int (i : Int) (P : Ret → Prop) : un (dIsi "tuple" (.int i)) P = P (.d (.bool false)) := un_eq (by rw [show dIsi "tuple" (.int i) = (L2.kitB "int" "tuple").map fun b => .d (.bool b) from rfl, show L2.kitB "int" "tuple" = some false by decide +kernel]; rfl) P
@[simp ↓] theorem un_isi_bool_str (x : Str) (P : Ret → Prop) : un (dIsi "bool" (.str x)) P = P (.d (.bool false)) := un_eq (by rw [show dIsi "bool" (.str x) = (L2.kitB "str" "bool").map fun b => .d (.bool b) from rfl, show L2.kitB "str" "bool" = some false by decide +kernel]; rfl) P
@[simp ↓] theorem un_isi_int_str (x : Str) (P : Ret → Prop) : un (dIsi "int" (.str x)) P = P (.d (.bool false)) := un_eq (by rw [show dIsi "int" (.str x) = (L2.kitB "str" "int").map fun b => .d (.bool b) from rfl, show L2.kitB "str" "int" = some false by decide +kernel]; rfl) P
@[simp ↓] theorem un_isi_str_str (x : Str) (P : Ret → Prop) : un (dIsi "str" (.str x)) P = P (.d (.bool true)) := un_eq (by rw [show dIsi "str" (.str x) = (L2.kitB "str" "str").map fun b => .d (.bool b) from rfl, show L2.kitB "str" "str" = some true by decide +kernel]; rfl) P
@[simp ↓] theorem un_isi_list_str (x : Str) (P : Ret → Prop) : un (dIsi "list" (.str x)) P = P (.d (.bool false)) := un_eq (by rw [show dIsi "list" (.str x) = (L2.kitB "str" "list").map fun b => .d (.bool b) from rfl, show L2.kitB "str" "list" = some false by decide +kernel]; rfl) P
@[simp ↓] theorem un_isi_tuple_str (x : Str) (P : Ret → Prop) : un (dIsi "tuple" (.str x)) P = P (.d (.bool false)) := un_eq (by rw [show dIsi "tuple" (.str x) = (L2.kitB "str" "tuple").map fun b => .d (.bool b) from rfl, show L2.kitB "str" "tuple" = some false by decide +kernel]; rfl) P
@[simp ↓] theorem un_isi_bool_list (l : List D) (P : Ret → Prop) : un (dIsi "bool" (.list l)) P = P (.d (.bool false)) := un_eq (by rw [show dIsi "bool" (.list l) = (L2.kitB "list" "bool").map fun b => .d (.bool b) from rfl, show L2.kitB "list" "bool" = some false by decide +kernel]; rfl) P
@[simp ↓] theorem un_isi_int_list (l : List D) (P : Ret → Prop) : un (dIsi "int" (.list l)) P = P (.d (.bool false)) := un_eq (by rw [show dIsi "int" (.list l) = (L2.kitB "list" "int").map fun b => .d (.bool b) from rfl, show L2.kitB "list" "int" = some false by decide +kernel]; rfl) P
@[simp ↓] theorem un_isi_str_list (l : List D) (P : Ret → Prop) : un (dIsi "str" (.list l)) P = P (.d (.bool false)) := un_eq (by rw [show dIsi "str" (.list l) = (L2.kitB "list" "str").map fun b => .d (.bool b) from rfl, show L2.kitB "list" "str" = some false by decide +kernel]; rfl) P
@[simp ↓] theorem un_isi_list_list (l : List D) (P : Ret → Prop) : un (dIsi "list" (.list l)) P = P (.d (.bool true)) := un_eq (by rw [show dIsi "list" (.list l) = (L2.kitB "list" "list").map fun b => .d (.bool b) from rfl, show L2.kitB "list" "list" = some true by decide +kernel]; rfl) P
@[simp ↓] theorem un_isi_tuple_list (l : List D) (P : Ret → Prop) : un (dIsi "tuple" (.list l)) P = P (.d (.bool false)) := un_eq (by rw [show dIsi "tuple" (.list l) = (L2.kitB "list" "tuple").map fun b => .d (.bool b) from rfl, show L2.kitB "list" "tuple" = some false by decide +kernel]; rfl) P
@[simp ↓] theorem un_isi_bool_tuple (l : List D) (P : Ret → Prop) : un (dIsi "bool" (.tuple l)) P = P (.d (.bool false)) := un_eq (by rw [show dIsi "bool" (.tuple l) = (L2.kitB "tuple" "bool").map fun b => .d (.bool b) from rfl, show L2.kitB "tuple" "bool" = some false by decide +kernel]; rfl) P
@[simp ↓] theorem un_isi_int_tuple (l : List D) (P : Ret → Prop) : un (dIsi "int" (.tuple l)) P = P (.d (.bool false)) := un_eq (by rw [show dIsi "int" (.tuple l) = (L2.kitB "tuple" "int").map fun b => .d (.bool b) from rfl, show L2.kitB "tuple" "int" = some false by decide +kernel]; rfl) P
@[simp ↓] theorem un_isi_str_tuple (l : List D) (P : Ret → Prop) : un (dIsi "str" (.tuple l)) P = P (.d (.bool false)) := un_eq (by rw [show dIsi "str" (.tuple l) = (L2.kitB "tuple" "str").map fun b => .d (.bool b) from rfl, show L2.kitB "tuple" "str" = some false by decide +kernel]; rfl) P
@[simp ↓] theorem un_isi_list_tuple (l : List D) (P : Ret → Prop) : un (dIsi "list" (.tuple l)) P = P (.d (.bool false)) := un_eq (by rw [show dIsi "list" (.tuple l) = (L2.kitB "tuple" "list").map fun b => .d (.bool b) from rfl, show L2.kitB "tuple" "list" = some false by decide +kernel]; rfl) P
@[simp ↓] theorem un_isi_tuple_tuple (l : List D) (P : Ret → Prop) : un (dIsi "tuple" (.tuple l)) P = P (.d (.bool true)) := un_eq (by rw [show dIsi "tuple" (.tuple l) = (L2.kitB "tuple" "tuple").map fun b => .d (.bool b) from rfl, show L2.kitB "tuple" "tuple" = some true by decide +kernel]; rfl) P
@[simp ↓] theorem un_isi_bool_dict (P : Ret → Prop) : un (dIsi "bool" (.dict [])) P = P (.d (.bool false)) := un_eq (by rw [show dIsi "bool" (.dict []) = (L2.kitB "dict" "bool").map fun b => .d (.bool b) from rfl, show L2.kitB "dict" "bool" = some false by decide +kernel]; rfl) P
@[simp ↓] theorem un_isi_int_dict (P : Ret → Prop) : un (dIsi "int" (.dict [])) P = P (.d (.bool false)) := un_eq (by rw [show dIsi "int" (.dict []) = (L2.kitB "dict" "int").map fun b => .d (.bool b) from rfl, show L2.kitB "dict" "int" = some false by decide +kernel]; rfl) P
@[simp ↓] theorem un_isi_str_dict (P : Ret → Prop) : un (dIsi "str" (.dict [])) P = P (.d (.bool false)) := un_eq (by rw [show dIsi "str" (.dict []) = (L2.kitB "dict" "str").map fun b => .d (.bool b) from rfl, show L2.kitB "dict" "str" = some false by decide +kernel]; rfl) P
@[simp ↓] theorem un_isi_list_dict (P : Ret → Prop) : un (dIsi "list" (.dict [])) P = P (.d (.bool false)) := un_eq (by rw [show dIsi "list" (.dict []) = (L2.kitB "dict" "list").map fun b => .d (.bool b) from rfl, show L2.kitB "dict" "list" = some false by decide +kernel]; rfl) P
@[simp ↓] theorem un_isi_tuple_dict (P : Ret → Prop) : un (dIsi "tuple" (.dict [])) P = P (.d (.bool false)) := un_eq (by rw [show dIsi "tuple" (.dict []) = (L2.kitB "dict" "tuple").map fun b => .d (.bool b) from rfl, show L2.kitB "dict" "tuple" = some false by decide +kernel]; rfl) P
/-- a comprehension over xs, the names of its block at ws -/
def lcX (xs : List D) (g : TG) (tc : TB) (te : TR) (ws : List Nat) (e1 : Env) (Q : List D → Env → Prop) (_ : Tg Q := ⟨⟩) : Prop := xs.length ≤ 16777216 ∧ ∃ I : Nat → List D → Env → Prop, I 0 [] (wipe ws e1) ∧
  (∀ i x acc e, xs[i]? = some x → I i acc e → g x e fun e2 => tc (fun _ _ => False) e2 fun b e3 => if b = true then fz te (fun _ _ => False) e3 fun y e4 => I (i + 1) (acc ++ [y]) (wipe ws e4) else I (i + 1) acc (wipe ws e3)) ∧
  (∀ acc e, I xs.length acc e → Q acc (keep ws e1 e))
@[simp ↓] theorem rLc_w (ti : TI) (g : TG) (tc : TB) (te : TR) (ws : List Nat) (E : EK) (env : Env) (P : Ret → Env → Prop) : rLc ti g tc te ws E env P = ti E env fun xs e1 => lcX xs g tc te ws e1 fun acc e2 => P (.own acc) e2 := rfl
theorem wipe_at' : ∀ (ws : List Nat) (env : Env) (j : Nat), (wipe ws env)[j]? = if j ∈ ws then (if j < env.length then some .un else none) else env[j]? := wipeE_at
theorem keep_wipe (ws : List Nat) (env : Env) : keep ws env (wipe ws env) = env := by
  refine List.ext_getElem? fun j => ?_
  rw [keep_at ws env _ j (wipeE_len ws env), wipeE_at]
  split <;> rfl
/-- each item's value by a function; the other slots stay -/
theorem lc_map {xs : List D} {g : TG} {te : TR} {ws : List Nat} {e1 : Env} {Q : List D → Env → Prop} (h : D → D) (hl : xs.length ≤ 16777216)
    (hs : ∀ x, x ∈ xs → g x (wipe ws e1) fun e2 => te (fun _ _ => False) e2 fun y e4 => y.toD = h x ∧ wipe ws e4 = wipe ws e1) (hq : Q (xs.map h) e1) : lcX xs g bYes te ws e1 Q := by
  refine ⟨hl, fun i acc e => e = wipe ws e1 ∧ acc = (xs.take i).map h, ⟨rfl, rfl⟩, fun i x acc e hx ⟨he, ha⟩ => ?_, fun acc e ⟨he, ha⟩ => ?_⟩
  · subst he ha
    have z := hs x (List.mem_of_getElem? hx)
    have et : xs.take (i + 1) = xs.take i ++ [x] := by rw [List.take_add_one, hx]; rfl
    have e0 : (fun y e4 => Ret.toD y = h x ∧ wipe ws e4 = wipe ws e1) = fun y e4 => wipe ws e4 = wipe ws e1 ∧ (xs.take i).map h ++ [Ret.toD y] = (xs.take (i + 1)).map h := by
      funext y e4
      apply propext
      rw [et]
      constructor
      · rintro ⟨a, b⟩; exact ⟨b, by simp [a]⟩
      · rintro ⟨a, b⟩; exact ⟨by simpa using b, a⟩
    rw [e0] at z
    exact z
  · subst he ha
    rw [List.take_length, keep_wipe]
    exact hq
/-- the same over encoded things -/
theorem lc_mapE {α : Type} {l : List α} {enc : α → D} {g : TG} {te : TR} {ws : List Nat} {e1 : Env} {Q : List D → Env → Prop} (h : α → D) (hl : l.length ≤ 16777216)
    (hs : ∀ x, x ∈ l → g (enc x) (wipe ws e1) fun e2 => te (fun _ _ => False) e2 fun y e4 => y.toD = h x ∧ wipe ws e4 = wipe ws e1) (hq : Q (l.map h) e1) : lcX (l.map enc) g bYes te ws e1 Q := by
  refine ⟨by rw [List.length_map]; exact hl, fun i acc e => e = wipe ws e1 ∧ acc = (l.take i).map h, ⟨rfl, rfl⟩, fun i x acc e hx ⟨he, ha⟩ => ?_, fun acc e ⟨he, ha⟩ => ?_⟩
  · subst he ha
    rw [List.getElem?_map] at hx
    cases hx' : l[i]? with
    | none => rw [hx'] at hx; cases hx
    | some a =>
      rw [hx'] at hx; cases hx
      have z := hs a (List.mem_of_getElem? hx')
      have et : l.take (i + 1) = l.take i ++ [a] := by rw [List.take_add_one, hx']; rfl
      have e0 : (fun y e4 => Ret.toD y = h a ∧ wipe ws e4 = wipe ws e1) = fun y e4 => wipe ws e4 = wipe ws e1 ∧ (l.take i).map h ++ [Ret.toD y] = (l.take (i + 1)).map h := by
        funext y e4
        apply propext
        rw [et]
        constructor
        · rintro ⟨a, b⟩; exact ⟨b, by simp [a]⟩
        · rintro ⟨a, b⟩; exact ⟨by simpa using b, a⟩
      rw [e0] at z
      exact z
  · subst he ha
    rw [List.length_map, List.take_length, keep_wipe]
    exact hq
theorem lc_mapB {α : Type} {l : List α} {enc : α → D} {g : TG} {te : TR} {ws : List Nat} {e1 : Env} {Q : List D → Env → Prop} (h : α → Bool) (hl : l.length ≤ 16777216)
    (hs : ∀ x, x ∈ l → g (enc x) (wipe ws e1) fun e2 => te (fun _ _ => False) e2 fun y e4 => y.toD = .bool (h x) ∧ wipe ws e4 = wipe ws e1) (hq : Q ((l.map h).map .bool) e1) : lcX (l.map enc) g bYes te ws e1 Q :=
  lc_mapE (fun x => .bool (h x)) hl hs (by rw [List.map_map] at hq; exact hq)
theorem lc_mapN {α : Type} {l : List α} {enc : α → D} {g : TG} {te : TR} {ws : List Nat} {e1 : Env} {Q : List D → Env → Prop} (h : α → Int) (hl : l.length ≤ 16777216)
    (hs : ∀ x, x ∈ l → g (enc x) (wipe ws e1) fun e2 => te (fun _ _ => False) e2 fun y e4 => y.toD = .int (h x) ∧ wipe ws e4 = wipe ws e1) (hq : Q ((l.map h).map .int) e1) : lcX (l.map enc) g bYes te ws e1 Q :=
  lc_mapE (fun x => .int (h x)) hl hs (by rw [List.map_map] at hq; exact hq)
theorem lc_mapS {α : Type} {l : List α} {enc : α → D} {g : TG} {te : TR} {ws : List Nat} {e1 : Env} {Q : List D → Env → Prop} (h : α → Str) (hl : l.length ≤ 16777216)
    (hs : ∀ x, x ∈ l → g (enc x) (wipe ws e1) fun e2 => te (fun _ _ => False) e2 fun y e4 => y.toD = .str (h x) ∧ wipe ws e4 = wipe ws e1) (hq : Q ((l.map h).map .str) e1) : lcX (l.map enc) g bYes te ws e1 Q :=
  lc_mapE (fun x => .str (h x)) hl hs (by rw [List.map_map] at hq; exact hq)
theorem lc_mapB1 {l : List D} {g : TG} {te : TR} {ws : List Nat} {e1 : Env} {Q : List D → Env → Prop} (h : D → Bool) (hl : l.length ≤ 16777216)
    (hs : ∀ x, x ∈ l → g x (wipe ws e1) fun e2 => te (fun _ _ => False) e2 fun y e4 => y.toD = .bool (h x) ∧ wipe ws e4 = wipe ws e1) (hq : Q ((l.map h).map .bool) e1) : lcX l g bYes te ws e1 Q := by
  have z := lc_mapB (enc := fun x : D => x) (Q := Q) h hl hs hq
  rwa [List.map_id'] at z
/-- with a test -/
theorem lc_filt {α : Type} {l : List α} {enc : α → D} {g : TG} {tc : TB} {te : TR} {ws : List Nat} {e1 : Env} {Q : List D → Env → Prop} (p : α → Bool) (h : α → D) (hl : l.length ≤ 16777216)
    (hs : ∀ x, x ∈ l → ∀ (acc : List D) (N : List D → Prop), (p x = true → N (acc ++ [h x])) → (p x = false → N acc) → g (enc x) (wipe ws e1) fun e2 => tc (fun _ _ => False) e2 fun b e3 => br b (te (fun _ _ => False) e3 fun y e4 => wipe ws e4 = wipe ws e1 ∧ N (acc ++ [y.toD])) (wipe ws e3 = wipe ws e1 ∧ N acc))
    (hq : Q ((l.filter p).map h) e1) : lcX (l.map enc) g tc te ws e1 Q := by
  refine ⟨by rw [List.length_map]; exact hl, fun i acc e => e = wipe ws e1 ∧ acc = ((l.take i).filter p).map h, ⟨rfl, rfl⟩, fun i x acc e hx ⟨he, ha⟩ => ?_, fun acc e ⟨he, ha⟩ => ?_⟩
  · subst he ha
    rw [List.getElem?_map] at hx
    cases hx' : l[i]? with
    | none => rw [hx'] at hx; cases hx
    | some a =>
      rw [hx'] at hx; cases hx
      have et : l.take (i + 1) = l.take i ++ [a] := by rw [List.take_add_one, hx']; rfl
      refine hs a (List.mem_of_getElem? hx') _ (fun zs => zs = ((l.take (i + 1)).filter p).map h) (fun hp => ?_) (fun hp => ?_)
      · rw [et, List.filter_append, List.map_append]; simp [hp]
      · rw [et, List.filter_append, List.map_append]; simp [hp]
  · subst he ha
    rw [List.length_map, List.take_length, keep_wipe]
    exact hq
@[simp] theorem wipe_nil (e : Env) : wipe [] e = e := rfl
@[simp] theorem wipe_cons (i : Nat) (is : List Nat) (e : Env) : wipe (i :: is) e = (wipe is e).set i .un := rfl
@[simp ↓] theorem un_in_sg (c : Nat) (b : Str) (P : Ret → Prop) : un (dIn (.str ⟨#[c]⟩) (.str b)) P = P (.d (.bool (decide (c ∈ b.cps.toList)))) := un_some _ _
theorem meets_of {n m : Nat} {sp : Sp} {t : TS} (h : ∀ as R Ex, sp as R Ex → t (bodyEn n R Ex) (as ++ List.replicate (m - n) .un)) : Meets n m sp t := fun as R Ex _ hs => h as R Ex hs
theorem meets_F {n m : Nat} {f : List D → Option Ret} {t : TS} (h : ∀ xs r (R : Ret → List Sl → Prop) Ex, xs.length = n → f xs = some r → (∀ s, R r s) → t (bodyEn n R Ex) (xs.map .d ++ List.replicate (m - n) .un)) : Meets n m (spF n f) t := fun as R Ex _ ⟨xs, r, e, hl, hf, k⟩ => by subst e; exact h xs r R Ex hl hf k
end PD
end S0_
section S1_
set_option Elab.async false
set_option linter.all false
set_option maxRecDepth 100000
/-! S1: what the defs of batchlimits.items do. -/
namespace PD
open PySem
abbrev c_GREATEST : Int := 1000000000000000000000000000000
abbrev c_LETTERS : Str := "abcdefghijklmnopqrstuvwxyz"
abbrev c_MOST_ITEMS : Int := 40
abbrev c_MOST_LETTERS : Int := 8
def isInt (v : D) (lo : Int) (hi : Option Int) : Bool := match v with
  | .int i => decide (lo ≤ i) && (match hi with
    | none => true
    | some h => decide (i ≤ h))
  | _ => false
def f_is_integer : List D → Option Ret
  | [.dict (_ :: _), _, _] => none
  | [v, .int lo, .none] => some (.d (.bool (isInt v lo none)))
  | [v, .int lo, .int hi] => some (.d (.bool (isInt v lo (some hi))))
  | _ => none
abbrev sp_is_integer : Sp := spF 3 f_is_integer
def t_is_integer : TS := (sSeq (sIf (bOr (bNot (bTest (rIs "int" (rVar 0)))) (bOr (bTest (rIs "bool" (rVar 0))) (bTest (rOp dLt (rVar 0) (rVar 1))))) (sRet (rC (.bool false))) sNext)
    (sRet (rOr (rOp dIs (rVar 2) (rC (.none))) (rOp dLe (rVar 0) (rVar 2)))))
theorem m_is_integer : Meets 3 3 sp_is_integer t_is_integer := meets_F (by
  intro xs r R Ex hl hf k
  unfold f_is_integer at hf
  split at hf
  · cases hf
  · rename_i v lo hv
    cases hf
    show t_is_integer (bodyEn 3 R Ex) [.d v, .d (.int lo), .d .none]
    unfold t_is_integer
    cases v with
    | int i =>
      simp
      refine br_split (fun h => ?_) (fun h => ?_)
      · have e : isInt (.int i) lo none = false := by simp [isInt]; simpa using h
        rw [e] at k; exact k _
      · have e : isInt (.int i) lo none = true := by simp [isInt]; simpa using h
        rw [e] at k; simp; exact k _
    | dict l =>
      cases l with
      | nil => simp; exact k _
      | cons q l => exact (hv _ _ rfl).elim
    | bool b => simp; exact k _
    | _ => simp; exact k _
  · rename_i v lo hi hv
    cases hf
    show t_is_integer (bodyEn 3 R Ex) [.d v, .d (.int lo), .d (.int hi)]
    unfold t_is_integer
    cases v with
    | int i =>
      simp
      refine br_split (fun h => ?_) (fun h => ?_)
      · have e : isInt (.int i) lo (some hi) = false := by simp [isInt]; intro h2; have := of_decide_eq_true h; omega
        rw [e] at k; exact k _
      · have e : isInt (.int i) lo (some hi) = decide (i ≤ hi) := by
          have := of_decide_eq_false h
          have h3 : decide (lo ≤ i) = true := decide_eq_true (by omega)
          simp [isInt, h3]
        rw [e] at k; simp; exact k _
    | dict l =>
      cases l with
      | nil => simp; exact k _
      | cons q l => exact (hv _ _ rfl).elim
    | bool b => simp; exact k _
    | _ => simp; exact k _
  · cases hf)
def isLet (c : Nat) : Bool := decide (c ∈ c_LETTERS.cps.toList)
def isKind (v : D) : Bool := match v with
  | .str z => decide (1 ≤ z.length) && decide (z.length ≤ 8) && z.cps.toList.all isLet
  | _ => false
def f_is_kind : List D → Option Ret
  | [.dict (_ :: _)] => none
  | [.str z] => if z.length ≤ 16777216 then some (.d (.bool (isKind (.str z)))) else none
  | [v] => some (.d (.bool (isKind v)))
  | _ => none
abbrev sp_is_kind : Sp := spF 1 f_is_kind
def t_is_kind : TS := (sSeq (sIf (bOr (bNot (bTest (rIs "str" (rVar 0)))) (bNot (bTest (rChain dLe dLe (rC (.int 1)) (rCB dLen (aCons (rVar 0) aNil)) (rC (.int c_MOST_LETTERS)))))) (sRet (rC (.bool false))) sNext)
    (sRet (rCB dAll (aCons (rLc (iAny (rVar 0)) (gName 1) bYes (rOp dIn (rVar 1) (rC (.str c_LETTERS))) [1]) aNil))))
theorem m_is_kind : Meets 1 2 sp_is_kind t_is_kind := meets_F (by
  intro xs r R Ex hl hf k
  unfold f_is_kind at hf
  split at hf
  · cases hf
  · rename_i z
    split at hf
    · rename_i hz
      cases hf
      show t_is_kind (bodyEn 1 R Ex) [.d (.str z), .un]
      unfold t_is_kind
      simp
      refine ifp_of hz ?_
      simp
      have kf : isKind (.str z) = false → ∀ s, R (.d (.bool false)) s := fun e s => by have := k s; rwa [e] at this
      refine br_split (fun h1 => ?_) (fun h1 => ?_)
      · simp
        refine br_split (fun h2 => kf ?_ _) (fun h2 => ?_)
        · have a2 : ¬ (z.length : Int) ≤ 8 := by simpa using h2
          have : ¬ z.length ≤ 8 := by omega
          show (decide (1 ≤ z.length) && decide (z.length ≤ 8) && z.cps.toList.all isLet) = _
          rw [decide_eq_false this]; simp
        · simp
          refine lc_mapB isLet hz (fun c _ => ?_) ?_
          · simp [isLet]
          · rw [un_all]
            have e : isKind (.str z) = z.cps.toList.all isLet := by
              have a1 : (1 : Int) ≤ z.length := of_decide_eq_true h1
              have a2 : (z.length : Int) ≤ 8 := by simpa using h2
              have a3 : 1 ≤ z.length := by omega
              have a4 : z.length ≤ 8 := by omega
              show (decide (1 ≤ z.length) && decide (z.length ≤ 8) && z.cps.toList.all isLet) = _
              rw [decide_eq_true a3, decide_eq_true a4]; rfl
            rw [e] at k
            rw [List.all_map]
            exact k _
      · simp
        refine kf ?_ _
        have : ¬ (1 ≤ z.length) := by have := of_decide_eq_false h1; omega
        simp [isKind, this]
    · cases hf
  · rename_i v h1 h2
    cases hf
    show t_is_kind (bodyEn 1 R Ex) [.d v, .un]
    unfold t_is_kind
    cases v with
    | str z => exact (h2 _ rfl).elim
    | dict z =>
      cases z with
      | nil => simp; exact k _
      | cons q l => exact (h1 _ _ rfl).elim
    | _ => simp; exact k _
  · cases hf)

/-! tame values: no dict, no text that is too long -/
mutual
def tame : D → Bool
  | .dict kvs => kvs.isEmpty
  | .str z => decide (z.length ≤ 16777216)
  | .list xs => tames xs && decide (xs.length ≤ 16777216)
  | .tuple xs => tames xs && decide (xs.length ≤ 16777216)
  | _ => true
def tames : List D → Bool
  | [] => true
  | x :: xs => tame x && tames xs
end
theorem tames_mem {x : D} : ∀ {xs : List D}, tames xs = true → x ∈ xs → tame x = true
  | y :: ys, h, hm => by
    simp only [tames, Bool.and_eq_true] at h
    rcases List.mem_cons.mp hm with rfl | hm
    · exact h.1
    · exact tames_mem h.2 hm
theorem tames_of : ∀ {xs : List D}, (∀ x ∈ xs, tame x = true) → tames xs = true
  | [], _ => rfl
  | y :: ys, h => by
    simp only [tames, Bool.and_eq_true]
    exact ⟨h y List.mem_cons_self, tames_of fun x hx => h x (List.mem_cons_of_mem _ hx)⟩
theorem int3 {v : D} {lo hi : Int} (h : tame v = true) : f_is_integer [v, .int lo, .int hi] = some (.d (.bool (isInt v lo (some hi)))) := by
  cases v with
  | dict l =>
    cases l with
    | nil => rfl
    | cons q l => cases h
  | _ => rfl
theorem int2 {v : D} {lo : Int} (h : tame v = true) : f_is_integer [v, .int lo, .none] = some (.d (.bool (isInt v lo none))) := by
  cases v with
  | dict l =>
    cases l with
    | nil => rfl
    | cons q l => cases h
  | _ => rfl
theorem kind1 {v : D} (h : tame v = true) : f_is_kind [v] = some (.d (.bool (isKind v))) := by
  cases v with
  | str z =>
    have h : z.length ≤ 16777216 := of_decide_eq_true h
    show (if z.length ≤ 16777216 then some (Ret.d (.bool (isKind (.str z)))) else none) = _
    rw [if_pos h]
  | dict l =>
    cases l with
    | nil => rfl
    | cons q l => cases h
  | _ => rfl
def isBl : D → Bool
  | .bool _ => true
  | _ => false
def isItem (v : D) : Bool := match v with
  | .tuple [p, w, k, m] => isInt p 0 (some c_GREATEST) && isInt w 0 (some c_GREATEST) && (isKind k && isBl m)
  | _ => false
def f_is_item : List D → Option Ret
  | [v] => if tame v = true then some (.d (.bool (isItem v))) else none
  | _ => none
abbrev sp_is_item : Sp := spF 1 f_is_item
def t_is_item : TS := (sSeq (sIf (bOr (bNot (bTest (rIs "tuple" (rVar 0)))) (bTest (rOp dNe (rCB dLen (aCons (rVar 0) aNil)) (rC (.int 4))))) (sRet (rC (.bool false))) sNext)
    (sSeq (sAsgG (rVar 0) (gTup 4 (gCons (gName 1) (gCons (gName 2) (gCons (gName 3) (gCons (gName 4) gNil))))))
    (sSeq (sIf (bOr (bNot (bTest (rCall sp_is_integer [] (aCons (rVar 1) (aCons (rC (.int 0)) (aCons (rC (.int c_GREATEST)) aNil)))))) (bNot (bTest (rCall sp_is_integer [] (aCons (rVar 2) (aCons (rC (.int 0)) (aCons (rC (.int c_GREATEST)) aNil))))))) (sRet (rC (.bool false))) sNext)
    (sRet (rAnd (rCall sp_is_kind [] (aCons (rVar 3) aNil)) (rIs "bool" (rVar 4)))))))
theorem m_is_item : Meets 1 5 sp_is_item t_is_item := meets_F (by
  intro xs r R Ex hl hf k
  unfold f_is_item at hf
  split at hf
  · rename_i v
    split at hf
    · rename_i hv
      cases hf
      show t_is_item (bodyEn 1 R Ex) [.d v, .un, .un, .un, .un]
      unfold t_is_item
      cases v with
      | tuple xs =>
        simp
        refine br_split (fun h1 => ?_) (fun h1 => ?_)
        · have e : isItem (.tuple xs) = false := by
            have h2 : xs.length ≠ 4 := by have : ¬ (xs.length : Int) = 4 := by simpa using h1
                                          omega
            unfold isItem
            split
            · rename_i e; cases e; exact absurd rfl h2
            · rfl
          rw [e] at k; exact k _
        · have h2 : xs.length = 4 := by have : (xs.length : Int) = 4 := by simpa using h1
                                        omega
          match xs, h2, hv with
          | [p, w, q, m], _, hv =>
            simp only [tame, tames, Bool.and_eq_true] at hv
            obtain ⟨⟨hp, hw, hq, hm, _⟩, _⟩ := hv
            simp [un_eq (int3 hp), un_eq (int3 hw), un_eq (kind1 hq)]
            have e : isItem (.tuple [p, w, q, m]) = (isInt p 0 (some c_GREATEST) && isInt w 0 (some c_GREATEST) && (isKind q && isBl m)) := rfl
            rw [e] at k
            refine br_split (fun h1 => ?_) (fun h1 => ?_)
            · have h3 : isInt p 0 (some c_GREATEST) = false := by simpa using h1
              rw [h3] at k; exact k _
            · have h3 : isInt p 0 (some c_GREATEST) = true := by simpa using h1
              rw [h3] at k
              simp [un_eq (int3 hw)]
              refine br_split (fun h1 => ?_) (fun h1 => ?_)
              · have h4 : isInt w 0 (some c_GREATEST) = false := by simpa using h1
                rw [h4] at k; exact k _
              · have h4 : isInt w 0 (some c_GREATEST) = true := by simpa using h1
                rw [h4] at k
                simp [un_eq (kind1 hq)]
                refine br_split (fun h1 => ?_) (fun h1 => ?_)
                · rw [h1] at k
                  cases m with
                  | dict l =>
                    cases l with
                    | nil => simp; exact k _
                    | cons q l => cases hm
                  | _ => simp; exact k _
                · rw [h1] at k; exact k _
      | dict l =>
        cases l with
        | nil => simp; exact k _
        | cons q l => cases hv
      | _ => simp; exact k _
    · cases hf
  · cases hf)
def isTraffic (v : D) : Bool := match v with
  | .list xs => decide (xs.length ≤ 40) && xs.all isItem
  | _ => false
def f_is_traffic : List D → Option Ret
  | [v] => if tame v = true then some (.d (.bool (isTraffic v))) else none
  | _ => none
theorem item1 {v : D} (h : tame v = true) : f_is_item [v] = some (.d (.bool (isItem v))) := by show (if tame v = true then _ else _) = _; rw [if_pos h]
abbrev sp_is_traffic : Sp := spF 1 f_is_traffic
def t_is_traffic : TS := (sRet (rAnd (rIs "list" (rVar 0)) (rAnd (rOp dLe (rCB dLen (aCons (rVar 0) aNil)) (rC (.int c_MOST_ITEMS))) (rCB dAll (aCons (rLc (iAny (rVar 0)) (gName 1) bYes (rCall sp_is_item [] (aCons (rVar 1) aNil)) [1]) aNil)))))
theorem m_is_traffic : Meets 1 2 sp_is_traffic t_is_traffic := meets_F (by
  intro xs r R Ex hl hf k
  unfold f_is_traffic at hf
  split at hf
  · rename_i v
    split at hf
    · rename_i hv
      cases hf
      show t_is_traffic (bodyEn 1 R Ex) [.d v, .un]
      unfold t_is_traffic
      cases v with
      | list xs =>
        simp only [tame, Bool.and_eq_true, decide_eq_true_eq] at hv
        simp
        have e : isTraffic (.list xs) = (decide (xs.length ≤ 40) && xs.all isItem) := rfl
        rw [e] at k
        refine br_split (fun h1 => ?_) (fun h1 => ?_)
        · have h2 : decide (xs.length ≤ 40) = true := by have : (xs.length : Int) ≤ 40 := of_decide_eq_true h1
                                                         exact decide_eq_true (by omega)
          rw [h2, Bool.true_and] at k
          simp
          refine lc_mapB1 isItem hv.2 (fun x hx => ?_) ?_
          · simp [un_eq (item1 (tames_mem hv.1 hx))]
          · rw [un_all, List.all_map]
            exact k _
        · have h2 : decide (xs.length ≤ 40) = false := by have : ¬ (xs.length : Int) ≤ 40 := of_decide_eq_false h1
                                                          exact decide_eq_false (by omega)
          rw [h2, Bool.false_and] at k
          exact k _
      | dict l =>
        cases l with
        | nil => simp; exact k _
        | cons q l => cases hv
      | _ => simp; exact k _
    · cases hf
  · cases hf)
theorem traf1 {v : D} (h : tame v = true) : f_is_traffic [v] = some (.d (.bool (isTraffic v))) := by show (if tame v = true then _ else _) = _; rw [if_pos h]
/-- what is asked of a value, or an error -/
def spReq (n : Nat) (okd : List D → Bool) (p : List D → Bool) (c : Str) : Sp := fun as R Ex => ∃ xs, as = xs.map .d ∧ xs.length = n ∧ okd xs = true ∧ (p xs = true → ∀ s, R (.d .none) s) ∧ (p xs = false → ∀ s, Ex ⟨c, none⟩ s)
theorem ary_Req (n : Nat) (okd : List D → Bool) (p : List D → Bool) (c : Str) : Ary (spReq n okd p c) n := by rintro _ _ _ ⟨xs, rfl, h, _⟩; simpa using h
theorem meets_Req {n m : Nat} {okd p : List D → Bool} {c : Str} {t : TS} (h : ∀ xs (R : Ret → List Sl → Prop) (Ex : EK), xs.length = n → okd xs = true → (p xs = true → ∀ s, R (.d .none) s) → (p xs = false → ∀ s, Ex ⟨c, none⟩ s) → t (bodyEn n R Ex) (xs.map .d ++ List.replicate (m - n) .un)) : Meets n m (spReq n okd p c) t :=
  fun as R Ex _ ⟨xs, e, hl, hk, h1, h2⟩ => by subst e; exact h xs R Ex hl hk h1 h2
abbrev sp_require_traffic : Sp := spReq 1 (fun xs => tames xs) (fun xs => isTraffic (xs.headD .none)) "InvalidTraffic"
def t_require_traffic : TS := (sIf (bNot (bTest (rCall sp_is_traffic [] (aCons (rVar 0) aNil)))) (sRaise "InvalidTraffic") sNext)
theorem m_require_traffic : Meets 1 1 sp_require_traffic t_require_traffic := meets_Req (by
  intro xs R Ex hl hk h1 h2
  match xs, hl with
  | [v], _ =>
    simp only [tames, Bool.and_true] at hk
    show t_require_traffic (bodyEn 1 R Ex) [.d v]
    unfold t_require_traffic
    simp [un_eq (traf1 hk)]
    refine br_split (fun h => ?_) (fun h => ?_)
    · exact h2 (by simpa using h) _
    · exact h1 (by simpa using h) _)
end PD
end S1_
section S2_
set_option Elab.async false
set_option linter.all false
set_option maxRecDepth 100000
/-! S2: more rules (loops, texts in tables), the measures of a stretch. -/
namespace PD
open PySem
/-! for loops -/
def forX (xs : List D) (g : TG) (tb : TS) (D' : En) (e1 : Env) (_ : Tg (xs, g, tb, D') := ⟨⟩) : Prop := ∃ I : Nat → Env → Prop, I 0 e1 ∧
  (∀ i x e, xs[i]? = some x → I i e → g x e fun e2 => tb { D' with nx := I (i + 1), ct := I (i + 1), bk := D'.nx } e2) ∧ (∀ e, I xs.length e → D'.nx e)
@[simp ↓] theorem sFor_w (ti : TI) (g : TG) (tb : TS) (D' : En) (env : Env) : sFor ti g tb D' env = ti D'.ex env fun xs e1 => forX xs g tb D' e1 := rfl
theorem for_inv {xs : List D} {g : TG} {tb : TS} {D' : En} {e1 : Env} (I : Nat → Env → Prop) (h0 : I 0 e1)
    (hs : ∀ i x e, xs[i]? = some x → I i e → g x e fun e2 => tb { D' with nx := I (i + 1), ct := I (i + 1), bk := D'.nx } e2) (hq : ∀ e, I xs.length e → D'.nx e) : forX xs g tb D' e1 := ⟨I, h0, hs, hq⟩
@[simp ↓] theorem en_nx (a : Env → Prop) (b : Ret → Env → Prop) (c d : Env → Prop) (e : EK) : (En.mk a b c d e).nx = a := rfl
@[simp ↓] theorem en_rt (a : Env → Prop) (b : Ret → Env → Prop) (c d : Env → Prop) (e : EK) : (En.mk a b c d e).rt = b := rfl
@[simp ↓] theorem en_bk (a : Env → Prop) (b : Ret → Env → Prop) (c d : Env → Prop) (e : EK) : (En.mk a b c d e).bk = c := rfl
@[simp ↓] theorem en_ct (a : Env → Prop) (b : Ret → Env → Prop) (c d : Env → Prop) (e : EK) : (En.mk a b c d e).ct = d := rfl
@[simp ↓] theorem en_ex (a : Env → Prop) (b : Ret → Env → Prop) (c d : Env → Prop) (e : EK) : (En.mk a b c d e).ex = e := rfl
theorem rangeD_at {lo : Int} {n i : Nat} {x : D} (h : (rangeD lo n)[i]? = some x) : i < n ∧ x = .int (lo + i) := by
  unfold rangeD at h
  rw [List.getElem?_map] at h
  cases q : (List.range n)[i]? with
  | none => rw [q] at h; cases h
  | some j =>
    rw [q] at h; cases h
    have := List.getElem?_eq_some_iff.mp q
    obtain ⟨h1, h2⟩ := this
    rw [List.length_range] at h1
    rw [List.getElem_range] at h2
    subst h2
    exact ⟨h1, rfl⟩
theorem rangeD_len (lo : Int) (n : Nat) : (rangeD lo n).length = n := by simp [rangeD]
/-! comprehensions over plain values -/
section
variable {l : List D} {g : TG} {te : TR} {ws : List Nat} {e1 : Env} {Q : List D → Env → Prop}
theorem lc_map1 (h : D → D) (hl : l.length ≤ 16777216)
    (hs : ∀ x, x ∈ l → g x (wipe ws e1) fun e2 => te (fun _ _ => False) e2 fun y e4 => y.toD = h x ∧ wipe ws e4 = wipe ws e1) (hq : Q (l.map h) e1) : lcX l g bYes te ws e1 Q := lc_map h hl hs hq
theorem lc_mapN1 (h : D → Int) (hl : l.length ≤ 16777216)
    (hs : ∀ x, x ∈ l → g x (wipe ws e1) fun e2 => te (fun _ _ => False) e2 fun y e4 => y.toD = .int (h x) ∧ wipe ws e4 = wipe ws e1) (hq : Q ((l.map h).map .int) e1) : lcX l g bYes te ws e1 Q := lc_map (fun x => .int (h x)) hl hs (by rw [List.map_map] at hq; exact hq)
theorem lc_mapS1 (h : D → Str) (hl : l.length ≤ 16777216)
    (hs : ∀ x, x ∈ l → g x (wipe ws e1) fun e2 => te (fun _ _ => False) e2 fun y e4 => y.toD = .str (h x) ∧ wipe ws e4 = wipe ws e1) (hq : Q ((l.map h).map .str) e1) : lcX l g bYes te ws e1 Q := lc_map (fun x => .str (h x)) hl hs (by rw [List.map_map] at hq; exact hq)
theorem lc_filt1 {tc : TB} (p : D → Bool) (h : D → D) (hl : l.length ≤ 16777216)
    (hs : ∀ x, x ∈ l → ∀ (acc : List D) (N : List D → Prop), (p x = true → N (acc ++ [h x])) → (p x = false → N acc) → g x (wipe ws e1) fun e2 => tc (fun _ _ => False) e2 fun b e3 => br b (te (fun _ _ => False) e3 fun y e4 => wipe ws e4 = wipe ws e1 ∧ N (acc ++ [y.toD])) (wipe ws e3 = wipe ws e1 ∧ N acc))
    (hq : Q ((l.filter p).map h) e1) : lcX l g tc te ws e1 Q := by
  have z := lc_filt (enc := fun x : D => x) (Q := Q) p h hl hs hq
  rwa [List.map_id'] at z
end
/-! texts among texts -/
theorem flS_str (z : Str) : flS (.str z) = true := by rfl
theorem any_str (ys : List Str) (z : Str) : ((ys.map PyData.str).any fun y => PyData.eqv y (.str z)) = decide (z ∈ ys) := by
  induction ys with
  | nil => simp
  | cons y ys ih =>
    rw [List.map_cons, List.any_cons, ih]
    show ((y == z) || _) = _
    by_cases h : y = z
    · simp [h]
    · have : (y == z) = false := by simp [h]
      rw [this]
      simp [show ¬ z = y from fun e => h e.symm]
theorem all_flS (ys : List Str) : (ys.map PyData.str).all flS = true := by induction ys <;> simp_all [flS_str]
theorem in_t (ys : List Str) (z : Str) : dIn (.str z) (.tuple (ys.map .str)) = some (.d (.bool (decide (z ∈ ys)))) := by
  have e : inFl (fun b => b) (.str z) (.tuple (ys.map .str)) = some (.d (.bool (decide (z ∈ ys)))) := by
    unfold inFl
    rw [show itemsD (.tuple (ys.map .str)) = some (ys.map .str) from rfl]
    dsimp only
    rw [if_pos ⟨flS_str z, all_flS ys⟩, any_str]
  unfold dIn orD
  rw [e]
theorem notIn_t (ys : List Str) (z : Str) : dNotIn (.str z) (.tuple (ys.map .str)) = some (.d (.bool (!decide (z ∈ ys)))) := by
  have e : inFl (fun b => !b) (.str z) (.tuple (ys.map .str)) = some (.d (.bool (!decide (z ∈ ys)))) := by
    unfold inFl
    rw [show itemsD (.tuple (ys.map .str)) = some (ys.map .str) from rfl]
    dsimp only
    rw [if_pos ⟨flS_str z, all_flS ys⟩, any_str]
  unfold dNotIn orD
  rw [e]
@[simp ↓] theorem un_in_t (ys : List Str) (z : Str) (P : Ret → Prop) : un (dIn (.str z) (.tuple (ys.map .str))) P = P (.d (.bool (decide (z ∈ ys)))) := un_eq (in_t ys z) P
@[simp ↓] theorem un_in_t2 (a b : Str) (z : Str) (P : Ret → Prop) : un (dIn (.str z) (.tuple [.str a, .str b])) P = P (.d (.bool (decide (z ∈ [a, b])))) := un_eq (in_t [a, b] z) P
@[simp ↓] theorem un_notIn_t2 (a b : Str) (z : Str) (P : Ret → Prop) : un (dNotIn (.str z) (.tuple [.str a, .str b])) P = P (.d (.bool (!decide (z ∈ [a, b])))) := un_eq (notIn_t [a, b] z) P
/-! the parts of an item -/
def pz : D → Int
  | .tuple [.int p, _, _, _] => p
  | _ => 0
def wz : D → Int
  | .tuple [_, .int w, _, _] => w
  | _ => 0
def kz : D → Str
  | .tuple [_, _, .str k, _] => k
  | _ => ""
def mz : D → Bool
  | .tuple [_, _, _, .bool m] => m
  | _ => false
def itemLike : D → Bool
  | .tuple [.int _, .int _, .str _, .bool _] => true
  | _ => false
theorem itemLike_of {v : D} (h : itemLike v = true) : ∃ p w k m, v = .tuple [.int p, .int w, .str k, .bool m] := by
  unfold itemLike at h
  split at h
  · exact ⟨_, _, _, _, rfl⟩
  · cases h
theorem isInt_of {v : D} {lo : Int} {hi : Option Int} (h : isInt v lo hi = true) : ∃ i, v = .int i ∧ lo ≤ i ∧ ∀ x, hi = some x → i ≤ x := by
  unfold isInt at h
  split at h
  · rename_i i
    rw [Bool.and_eq_true] at h
    refine ⟨i, rfl, of_decide_eq_true h.1, fun x e => ?_⟩
    subst e
    exact of_decide_eq_true h.2
  · cases h
theorem isKind_of {v : D} (h : isKind v = true) : ∃ z, v = .str z ∧ 1 ≤ z.length ∧ z.length ≤ 8 ∧ z.cps.toList.all isLet = true := by
  unfold isKind at h
  split at h
  · simp only [Bool.and_eq_true, decide_eq_true_eq] at h
    exact ⟨_, rfl, h.1.1, h.1.2, h.2⟩
  · cases h
theorem isItem_of {v : D} (h : isItem v = true) : ∃ p w k m, v = .tuple [.int p, .int w, .str k, .bool m] ∧ 0 ≤ p ∧ p ≤ c_GREATEST ∧ 0 ≤ w ∧ w ≤ c_GREATEST ∧ isKind (.str k) = true := by
  unfold isItem at h
  split at h
  · rename_i p w k m
    simp only [Bool.and_eq_true] at h
    obtain ⟨⟨h1, h2⟩, h3, h4⟩ := h
    obtain ⟨p, rfl, a1, a2⟩ := isInt_of h1
    obtain ⟨w, rfl, b1, b2⟩ := isInt_of h2
    obtain ⟨k, rfl, _⟩ := isKind_of h3
    cases m <;> simp [isBl] at h4
    exact ⟨_, _, _, _, rfl, a1, a2 _ rfl, b1, b2 _ rfl, h3⟩
  · cases h
theorem itemLike_isItem {v : D} (h : isItem v = true) : itemLike v = true := by
  obtain ⟨p, w, k, m, rfl, _⟩ := isItem_of h; rfl
theorem mem_cutD {ts : List D} {lo hi : Option Int} {x : D} (h : x ∈ cutD ts lo hi) : x ∈ ts := List.mem_of_mem_drop (List.mem_of_mem_take h)
theorem cutD_le (ts : List D) (lo hi : Option Int) : (cutD ts lo hi).length ≤ ts.length := by unfold cutD; simp; omega
def meas (ts : List D) : List Int := [ts.length, (ts.map wz).sum, (ts.map pz).tail.sum, (uniq (ts.map fun t => (Sum.inr (kz t) : KeyD))).length, (ts.filter mz).length]
def f_measures_in : List D → Option Ret
  | [.list ts, .int s, .int e] => if ts.all itemLike = true ∧ ts.length ≤ 4000 then some (.d (.tuple ((meas (cutD ts (some s) (some e))).map .int))) else none
  | _ => none
abbrev sp_measures_in : Sp := spF 3 f_measures_in
theorem cut_1 (ts : List D) : cutD ts (some 1) none = ts.drop 1 := by
  cases ts with
  | nil => rfl
  | cons t ts =>
    unfold cutD
    have e : HT.sIx (t :: ts).length 0 (some 1) = 1 := by
      show HT.sIx (ts.length + 1) 0 (some 1) = 1
      unfold HT.sIx
      simp
    have e2 : HT.sIx (t :: ts).length (t :: ts).length none = (t :: ts).length := rfl
    rw [e, e2]
    simp
theorem keys_str (xs : List D) (h : D → Str) : keysOf ((xs.map h).map .str) = some (xs.map fun x => .inr (h x)) := by
  induction xs with
  | nil => rfl
  | cons x xs ih => simp only [List.map_cons, keysOf, keyOf, ih]
@[simp ↓] theorem un_keys (xs : List D) (h : D → Str) (P : List KeyD → Prop) : un (keysOf ((xs.map h).map .str)) P = P (xs.map fun x => .inr (h x)) := un_eq (keys_str xs h) P
theorem ix_i3 (a b c d : D) : dIx (.tuple [a, b, c, d]) (.int 3) = some (.d d) := ix_t 3 rfl
def t_measures_in : TS := (sSeq (sAsg (rSl dSl (rVar 0) (oSome (rVar 1)) (oSome (rVar 2))) 3)
    (sSeq (sAsg (rCB dSum (aCons (rLc (iAny (rVar 3)) (gName 8) bYes (rOp dIx (rVar 8) (rC (.int 1))) [8]) aNil)) 4)
    (sSeq (sAsg (rCB dSum (aCons (rLc (iAny (rSl dSl (rVar 3) (oSome (rC (.int 1))) oNone)) (gName 8) bYes (rOp dIx (rVar 8) (rC (.int 0))) [8]) aNil)) 5)
    (sSeq (sAsg (rLenSet (rLc (iAny (rVar 3)) (gName 8) bYes (rOp dIx (rVar 8) (rC (.int 2))) [8])) 6)
    (sSeq (sAsg (rCB dLen (aCons (rLc (iAny (rVar 3)) (gName 8) (bTest (rOp dIx (rVar 8) (rC (.int 3)))) (rVar 8) [8]) aNil)) 7)
    (sRet (rTup (aCons (rCB dLen (aCons (rVar 3) aNil)) (aCons (rVar 4) (aCons (rVar 5) (aCons (rVar 6) (aCons (rVar 7) aNil))))))))))))
theorem m_measures_in : Meets 3 9 sp_measures_in t_measures_in := meets_F (by
  intro xs r R Ex hl hf k
  unfold f_measures_in at hf
  split at hf
  · rename_i ts s e
    split at hf
    · rename_i hc
      obtain ⟨h1, h2⟩ := hc
      cases hf
      have hi : ∀ x, x ∈ cutD ts (some s) (some e) → ∃ p w q m, x = .tuple [.int p, .int w, .str q, .bool m] := fun x hx => itemLike_of (List.all_eq_true.mp h1 x (mem_cutD hx))
      have hn : (cutD ts (some s) (some e)).length ≤ 4000 := Nat.le_trans (cutD_le ..) h2
      show t_measures_in (bodyEn 3 R Ex) [.d (.list ts), .d (.int s), .d (.int e), .un, .un, .un, .un, .un, .un]
      unfold t_measures_in
      simp
      generalize cutD ts (some s) (some e) = us at hi hn k ⊢
      refine lc_mapN1 wz (by omega) (fun x hx => ?_) ?_
      · obtain ⟨p, w, q, m, rfl⟩ := hi x hx
        simp [wz]
      · simp
        rw [cut_1]
        refine lc_mapN1 pz (by rw [List.length_drop]; omega) (fun x hx => ?_) ?_
        · obtain ⟨p, w, q, m, rfl⟩ := hi x (List.mem_of_mem_drop hx)
          simp [pz]
        · simp
          refine lc_mapS1 kz (by omega) (fun x hx => ?_) ?_
          · obtain ⟨p, w, q, m, rfl⟩ := hi x hx
            simp [kz]
          · simp
            refine ⟨hn, ?_⟩
            simp
            refine lc_filt1 mz (fun x => x) (by omega) (fun x hx acc N a b => ?_) ?_
            · obtain ⟨p, w, q, m, rfl⟩ := hi x hx
              cases m
              · simp; exact b rfl
              · simp; exact a rfl
            · simp
              exact k _
    · cases hf
  · cases hf)
end PD
end S2_
section S3_
set_option Elab.async false
set_option linter.all false
set_option maxRecDepth 100000
set_option maxHeartbeats 2000000
/-! S3: what the defs of batchlimits.rules do. -/
namespace PD
open PySem
abbrev c_ALL : Str := "all"
abbrev c_ANY : Str := "any"
def ci_GREATEST_BOUNDS : List (Str × Int) := [("items", 40), ("weight", 1000000000000000000000000000000), ("age", 1000000000000000000000000000000), ("kinds", 40), ("marks", 40)]
def c_GREATEST_BOUNDS : List (Str × D) := ci_GREATEST_BOUNDS.map fun q => (q.1, .int q.2)
def c_MEASURES : List Str := ["items", "weight", "age", "kinds", "marks"]
abbrev c_MOST_LIMITS : Int := 6
def greatest (z : Str) : Int := match c_GREATEST_BOUNDS.lookup z with
  | some (.int i) => i
  | _ => 0
def mIx (z : Str) : Nat := (c_MEASURES.findIdx? fun y => decide (y = z)).getD 0
theorem mem_meas {z : Str} (h : z ∈ c_MEASURES) : z = "items" ∨ z = "weight" ∨ z = "age" ∨ z = "kinds" ∨ z = "marks" := by
  unfold c_MEASURES at h; simpa using h
theorem tblAt_meas {z : Str} (h : z ∈ c_MEASURES) : tblAt c_GREATEST_BOUNDS (.str z) = some (.d (.int (greatest z))) := by
  rcases mem_meas h with rfl | rfl | rfl | rfl | rfl <;> rfl
theorem tblIx_meas {z : Str} (h : z ∈ c_MEASURES) : tblIx c_MEASURES (.str z) = some (.d (.int (mIx z))) := by
  rcases mem_meas h with rfl | rfl | rfl | rfl | rfl <;> rfl
theorem mIx_lt {z : Str} (h : z ∈ c_MEASURES) : mIx z < 5 := by
  rcases mem_meas h with rfl | rfl | rfl | rfl | rfl <;> decide
def isLimit (v : D) : Bool := match v with
  | .tuple [.str z, b] => if z ∈ c_MEASURES then isInt b 1 (some (greatest z)) else false
  | _ => false
def f_is_limit : List D → Option Ret
  | [v] => if tame v = true then some (.d (.bool (isLimit v))) else none
  | _ => none
abbrev sp_is_limit : Sp := spF 1 f_is_limit
theorem limit1 {v : D} (h : tame v = true) : f_is_limit [v] = some (.d (.bool (isLimit v))) := by show (if tame v = true then _ else _) = _; rw [if_pos h]
theorem isLimit_len {xs : List D} (h : xs.length ≠ 2) : isLimit (.tuple xs) = false := by
  unfold isLimit
  split
  · rename_i e; cases e; exact absurd rfl h
  · rfl
theorem isLimit_s {a b : D} (h : ∀ z, a ≠ .str z) : isLimit (.tuple [a, b]) = false := by
  unfold isLimit
  split
  · rename_i e; cases e; exact absurd rfl (h _)
  · rfl
def t_is_limit : TS := (sSeq (sIf (bOr (bNot (bTest (rIs "tuple" (rVar 0)))) (bOr (bTest (rOp dNe (rCB dLen (aCons (rVar 0) aNil)) (rC (.int 2)))) (bNot (bTest (rIs "str" (rOp dIx (rVar 0) (rC (.int 0)))))))) (sRet (rC (.bool false))) sNext)
    (sRet (rAnd (rOp dIn (rOp dIx (rVar 0) (rC (.int 0))) (rC (.tuple (c_MEASURES.map .str)))) (rCall sp_is_integer [] (aCons (rOp dIx (rVar 0) (rC (.int 1))) (aCons (rC (.int 1)) (aCons (rTat c_GREATEST_BOUNDS (rOp dIx (rVar 0) (rC (.int 0)))) aNil)))))))
theorem m_is_limit : Meets 1 1 sp_is_limit t_is_limit := meets_F (by
  intro xs r R Ex hl hf k
  unfold f_is_limit at hf
  split at hf
  · rename_i v
    split at hf
    · rename_i hv
      cases hf
      show t_is_limit (bodyEn 1 R Ex) [.d v]
      unfold t_is_limit
      cases v with
      | tuple xs =>
        simp
        refine br_split (fun h1 => ?_) (fun h1 => ?_)
        · have h2 : xs.length ≠ 2 := by intro e; simp [e] at h1
          rw [isLimit_len h2] at k; exact k _
        · have h2 : xs.length = 2 := by have : (xs.length : Int) = 2 := by simpa using h1
                                        omega
          match xs, h2, hv with
          | [a, b], _, hv =>
            simp only [tame, tames, Bool.and_eq_true] at hv
            obtain ⟨⟨ha, hb, _⟩, _⟩ := hv
            cases a with
            | str z =>
              simp
              refine br_split (fun h1 => ?_) (fun h1 => ?_)
              · have hz : z ∈ c_MEASURES := of_decide_eq_true h1
                simp [un_eq (tblAt_meas hz), un_eq (int3 hb)]
                have e : isLimit (.tuple [.str z, b]) = isInt b 1 (some (greatest z)) := by show (if z ∈ c_MEASURES then _ else _) = _; rw [if_pos hz]
                rw [e] at k; exact k _
              · have e : isLimit (.tuple [.str z, b]) = false := by show (if z ∈ c_MEASURES then _ else _) = _; rw [if_neg (of_decide_eq_false h1)]
                rw [e] at k; exact k _
            | dict l =>
              cases l with
              | nil => simp; rw [isLimit_s (fun z e => by cases e)] at k; exact k _
              | cons q l => cases ha
            | _ => simp; rw [isLimit_s (fun z e => by cases e)] at k; exact k _
      | dict l =>
        cases l with
        | nil => simp; exact k _
        | cons q l => cases hv
      | _ => simp; exact k _
    · cases hf
  · cases hf)
/-! the limits of a condition -/
mutual
def limIn : D → Option (List D)
  | .tuple [.str z, v] => if isLimit (.tuple [.str z, v]) = true then some [.tuple [.str z, v]] else if z ∈ [c_ANY, c_ALL] then limL v else none
  | _ => none
def limL : D → Option (List D)
  | .list ps => if 2 ≤ ps.length ∧ ps.length ≤ 6 then limAll ps [] else none
  | _ => none
def limAll : List D → List D → Option (List D)
  | [], acc => some acc
  | p :: ps, acc => match limIn p with
    | none => none
    | some ls => if acc.length + ls.length ≤ 6 then limAll ps (acc ++ ls) else none
end
/-- how deep -/
abbrev dep (v : D) : Nat := v.depth
abbrev deps (xs : List D) : Nat := PyData.depthAll xs
theorem deps_mem {x : D} : ∀ {xs : List D}, x ∈ xs → x.depth ≤ PyData.depthAll xs
  | y :: ys, h => by
    show _ ≤ max y.depth (PyData.depthAll ys)
    rcases List.mem_cons.mp h with rfl | h
    · omega
    · have := deps_mem h; omega
def optOwn : Option (List D) → Ret
  | some ls => .own ls
  | none => .d .none
def f_limits_in (d : Nat) : List D → Option Ret
  | [v] => if tame v = true ∧ dep v < d then some (optOwn (limIn v)) else none
  | _ => none
abbrev sp_limits_in (d : Nat) : Sp := spF 1 (f_limits_in d)
theorem lims1 {v : D} {d : Nat} (h : tame v = true) (h2 : dep v < d) : f_limits_in d [v] = some (optOwn (limIn v)) := by show (if tame v = true ∧ dep v < d then _ else _) = _; rw [if_pos ⟨h, h2⟩]
theorem limIn_len {xs : List D} (h : xs.length ≠ 2) : limIn (.tuple xs) = none := by
  unfold limIn
  split
  · rename_i e; cases e; exact absurd rfl h
  · rfl
theorem limIn_s {a b : D} (h : ∀ z, a ≠ .str z) : limIn (.tuple [a, b]) = none := by
  unfold limIn
  split
  · rename_i e; cases e; exact absurd rfl (h _)
  · rfl
theorem limIn_lim {v : D} (h : isLimit v = true) : limIn v = some [v] := by
  unfold isLimit at h
  split at h
  · rename_i z b
    rw [limIn, if_pos]
    exact h
  · cases h
theorem limIn_no {z : Str} {b : D} (h : isLimit (.tuple [.str z, b]) = false) : limIn (.tuple [.str z, b]) = if z ∈ [c_ANY, c_ALL] then limL b else none := by
  rw [limIn, if_neg (by rw [h]; simp)]
theorem limAll_snoc (p : D) : ∀ (ps acc : List D), limAll (ps ++ [p]) acc = match limAll ps acc with
    | none => none
    | some zs => match limIn p with
      | none => none
      | some ls => if zs.length + ls.length ≤ 6 then some (zs ++ ls) else none
  | [], acc => by
    show limAll [p] acc = _
    simp only [limAll]
  | q :: qs, acc => by
    rw [List.cons_append, limAll, limAll]
    cases limIn q with
    | none => rfl
    | some ls =>
      dsimp only
      by_cases h : acc.length + ls.length ≤ 6
      · rw [if_pos h, if_pos h]; exact limAll_snoc p qs _
      · rw [if_neg h, if_neg h]
theorem limAll_pre : ∀ (ps qs acc zs : List D), limAll (ps ++ qs) acc = some zs → ∃ ys, limAll ps acc = some ys
  | [], qs, acc, zs, _ => ⟨acc, by simp [limAll]⟩
  | q :: ps, qs, acc, zs, h => by
    rw [List.cons_append, limAll] at h
    rw [limAll]
    cases e : limIn q with
    | none => rw [e] at h; cases h
    | some ls =>
      rw [e] at h
      dsimp only at h ⊢
      by_cases h2 : acc.length + ls.length ≤ 6
      · rw [if_pos h2] at h ⊢; exact limAll_pre ps qs _ zs h
      · rw [if_neg h2] at h; cases h
theorem limAll_none : ∀ (ps qs acc : List D), limAll ps acc = none → limAll (ps ++ qs) acc = none := fun ps qs acc h => by
  cases e : limAll (ps ++ qs) acc with
  | none => rfl
  | some zs => obtain ⟨ys, e2⟩ := limAll_pre ps qs acc zs e; rw [h] at e2; cases e2
def t_limits_in (d : Nat) : TS := (sSeq (sIf (bTest (rCall sp_is_limit [] (aCons (rVar 0) aNil))) (sRet (rLst (aCons (rVar 0) aNil))) sNext)
    (sSeq (sIf (bOr (bNot (bTest (rIs "tuple" (rVar 0)))) (bOr (bTest (rOp dNe (rCB dLen (aCons (rVar 0) aNil)) (rC (.int 2)))) (bOr (bNot (bTest (rIs "str" (rOp dIx (rVar 0) (rC (.int 0)))))) (bTest (rOp dNotIn (rOp dIx (rVar 0) (rC (.int 0))) (rTup (aCons (rC (.str c_ANY)) (aCons (rC (.str c_ALL)) aNil)))))))) (sRet (rC (.none))) sNext)
    (sSeq (sIf (bOr (bNot (bTest (rIs "list" (rOp dIx (rVar 0) (rC (.int 1)))))) (bNot (bTest (rChain dLe dLe (rC (.int 2)) (rCB dLen (aCons (rOp dIx (rVar 0) (rC (.int 1))) aNil)) (rC (.int c_MOST_LIMITS)))))) (sRet (rC (.none))) sNext)
    (sSeq (sAsg (rLst aNil) 1)
    (sSeq (sFor (iAny (rOp dIx (rVar 0) (rC (.int 1)))) (gName 2) (sSeq (sAsg (rCall (sp_limits_in d) [] (aCons (rVar 2) aNil)) 3)
    (sSeq (sIf (bBor [1, 3] (bOr (bTest (rOp dIs (rVar 3) (rC (.none)))) (bTest (rOp dGt (rOp dAdd (rCB dLen (aCons (rVar 1) aNil)) (rCB dLen (aCons (rVar 3) aNil))) (rC (.int c_MOST_LIMITS)))))) (sRet (rC (.none))) sNext)
    (sExt 1 (rVar 3)))))
    (sRet (rMove 1)))))))
theorem m_limits_in (d : Nat) : Meets 1 4 (sp_limits_in (d + 1)) (t_limits_in d) := meets_F (by
  intro xs r R Ex hl hf k
  unfold f_limits_in at hf
  split at hf
  · rename_i v
    split at hf
    · rename_i hc
      obtain ⟨hv, hd⟩ := hc
      cases hf
      show t_limits_in d (bodyEn 1 R Ex) [.d v, .un, .un, .un]
      unfold t_limits_in
      simp [un_eq (limit1 hv)]
      refine br_split (fun h1 => ?_) (fun h1 => ?_)
      · rw [limIn_lim h1] at k; simp; exact k _
      · cases v with
        | tuple xs =>
          simp
          refine br_split (fun h1 => ?_) (fun h2 => ?_)
          · have h2 : xs.length ≠ 2 := by intro e; simp [e] at h1
            rw [limIn_len h2] at k; exact k _
          · have h2 : xs.length = 2 := by have : (xs.length : Int) = 2 := by simpa using h2
                                          omega
            match xs, h2, hv, hd, h1 with
            | [a, b], _, hv, hd, h1 =>
              simp only [tame, tames, Bool.and_eq_true] at hv
              obtain ⟨⟨ha, hb, _⟩, _⟩ := hv
              cases a with
              | str z =>
                rw [limIn_no h1] at k
                simp
                refine br_split (fun h3 => ?_) (fun h3 => ?_)
                · have : ¬ z ∈ [c_ANY, c_ALL] := by simpa using h3
                  rw [if_neg this] at k; exact k _
                · have : z ∈ [c_ANY, c_ALL] := by
                    simp at h3
                    by_cases q : z = c_ANY
                    · simp [q]
                    · simp [h3 q]
                  rw [if_pos this] at k
                  cases b with
                  | list ps =>
                    simp
                    have hq : limL (.list ps) = if 2 ≤ ps.length ∧ ps.length ≤ 6 then limAll ps [] else none := by rw [limL]
                    have hm : c_MOST_LIMITS = 6 := rfl
                    refine br_split (fun h4 => ?_) (fun h4 => ?_)
                    · have h5 : 2 ≤ ps.length := by have : (2 : Int) ≤ ps.length := of_decide_eq_true h4
                                                    omega
                      simp
                      refine br_split (fun h6 => ?_) (fun h6 => ?_)
                      · have h7 : ¬ ps.length ≤ 6 := by have h8 : ¬ (ps.length : Int) ≤ c_MOST_LIMITS := by simpa using h6
                                                        rw [hm] at h8; omega
                        rw [hq, if_neg (fun z => h7 z.2)] at k; exact k _
                      · have h7 : ps.length ≤ 6 := by have h8 : (ps.length : Int) ≤ c_MOST_LIMITS := by simpa using h6
                                                      rw [hm] at h8; omega
                        rw [hq, if_pos ⟨h5, h7⟩] at k
                        simp
                        simp only [tame, Bool.and_eq_true] at hb
                        refine for_inv (fun i e => ∃ s1 s2 zs, limAll (ps.take i) [] = some zs ∧ zs.length ≤ 6 ∧ e = [.d (.tuple [.str z, .list ps]), .own zs, s1, s2]) ⟨.un, .un, [], by simp [limAll], by simp, rfl⟩ ?_ ?_
                        · rintro i p e hi ⟨s1, s2, zs, h8, h9, rfl⟩
                          have hp := List.mem_of_getElem? hi
                          have hd2 : p.depth < d := by
                            have := deps_mem hp
                            simp only [dep, PyData.depth, PyData.depthAll] at hd
                            omega
                          have et : ps.take (i + 1) = ps.take i ++ [p] := by rw [List.take_add_one, hi]; rfl
                          have e1 := limAll_snoc p (ps.take i) []
                          rw [← et, h8] at e1
                          dsimp only at e1
                          have bad : limAll (ps.take (i + 1)) [] = none → limAll ps [] = none := fun z => by
                            have := limAll_none _ (ps.drop (i + 1)) _ z
                            rwa [List.take_append_drop] at this
                          simp [un_eq (lims1 (tames_mem hb.1 hp) hd2)]
                          cases e2 : limIn p with
                          | none =>
                            rw [e2] at e1
                            rw [bad e1] at k
                            simp [optOwn]
                            exact k _
                          | some ls =>
                            rw [e2] at e1
                            dsimp only at e1
                            simp [optOwn]
                            refine br_split (fun h10 => ?_) (fun h10 => ?_)
                            · have h11 : ¬ zs.length + ls.length ≤ 6 := by have h12 : c_MOST_LIMITS < (zs.length : Int) + ls.length := of_decide_eq_true h10
                                                                           rw [hm] at h12; omega
                              rw [if_neg h11] at e1
                              rw [bad e1] at k
                              exact k _
                            · have h11 : zs.length + ls.length ≤ 6 := by have h12 : ¬ c_MOST_LIMITS < (zs.length : Int) + ls.length := of_decide_eq_false h10
                                                                         rw [hm] at h12; omega
                              rw [if_pos h11] at e1
                              simp
                              refine ⟨by omega, ?_⟩
                              exact ⟨_, _, _, e1, by rw [List.length_append]; exact h11, rfl⟩
                        · rintro e ⟨s1, s2, zs, h8, h9, rfl⟩
                          rw [List.take_length] at h8
                          rw [h8] at k
                          simp
                          exact k _
                    · have h5 : ¬ 2 ≤ ps.length := by have : ¬ (2 : Int) ≤ ps.length := of_decide_eq_false h4
                                                      omega
                      simp
                      rw [hq, if_neg (fun z => h5 z.1)] at k; exact k _
                  | dict l =>
                    cases l with
                    | nil => simp; first | exact k _ | (simp; exact k _)
                    | cons q l => cases hb
                  | _ => simp; first | exact k _ | (simp; exact k _)
              | dict l =>
                cases l with
                | nil => simp; rw [limIn_s (fun z e => by cases e)] at k; exact k _
                | cons q l => cases ha
              | _ => simp; rw [limIn_s (fun z e => by cases e)] at k; exact k _
        | dict l =>
          cases l with
          | nil => simp; exact k _
          | cons q l => cases hv
        | _ => simp; exact k _
    · cases hf
  · cases hf)
end PD
end S3_
section S4_
set_option Elab.async false
set_option linter.all false
set_option maxRecDepth 100000
set_option maxHeartbeats 2000000
/-! S4: what the other defs of batchlimits.rules do. -/
namespace PD
open PySem
def isCond (v : D) : Bool := (limIn v).isSome
/-- a value that is looked at: no dict, not too deep -/
def okv (v : D) : Bool := tame v && decide (dep v < 20)
theorem okv_of {v : D} (h : okv v = true) : tame v = true ∧ dep v < 20 := by
  unfold okv at h
  rw [Bool.and_eq_true] at h
  exact ⟨h.1, of_decide_eq_true h.2⟩
def f_is_condition : List D → Option Ret
  | [v] => if okv v = true then some (.d (.bool (isCond v))) else none
  | _ => none
abbrev sp_is_condition : Sp := spF 1 f_is_condition
theorem cond1 {v : D} (h : okv v = true) : f_is_condition [v] = some (.d (.bool (isCond v))) := by show (if okv v = true then _ else _) = _; rw [if_pos h]
def t_is_condition : TS := (sRet (rOp dIsNot (rCall (sp_limits_in 20) [] (aCons (rVar 0) aNil)) (rC (.none))))
theorem m_is_condition : Meets 1 1 sp_is_condition t_is_condition := meets_F (by
  intro xs r R Ex hl hf k
  unfold f_is_condition at hf
  split at hf
  · rename_i v
    split at hf
    · rename_i hv
      cases hf
      show t_is_condition (bodyEn 1 R Ex) [.d v]
      unfold t_is_condition
      simp [un_eq (lims1 (okv_of hv).1 (okv_of hv).2)]
      unfold isCond at k
      cases e : limIn v with
      | none => rw [e] at k; simp [optOwn]; exact k _
      | some l => rw [e] at k; simp [optOwn]; exact k _
    · cases hf
  · cases hf)
abbrev sp_require_condition : Sp := spReq 1 (fun xs => okv (xs.headD .none)) (fun xs => isCond (xs.headD .none)) "InvalidCondition"
def t_require_condition : TS := (sIf (bNot (bTest (rCall sp_is_condition [] (aCons (rVar 0) aNil)))) (sRaise "InvalidCondition") sNext)
theorem m_require_condition : Meets 1 1 sp_require_condition t_require_condition := meets_Req (by
  intro xs R Ex hl hk h1 h2
  match xs, hl with
  | [v], _ =>
    have hk : okv v = true := hk
    show t_require_condition (bodyEn 1 R Ex) [.d v]
    unfold t_require_condition
    simp [un_eq (cond1 hk)]
    refine br_split (fun h => ?_) (fun h => ?_)
    · exact h2 (by simpa using h) _
    · exact h1 (by simpa using h) _)
/-- require_gap(traffic, gap, least) -/
def lenD : D → Int
  | .list ts => ts.length
  | _ => 0
def isGap (xs : List D) : Bool := match xs with
  | [.list ts, v, .int lo] => isInt v lo (some ts.length)
  | _ => false
def okGap (xs : List D) : Bool := match xs with
  | [.list _, v, .int _] => tame v
  | _ => false
abbrev sp_require_gap : Sp := spReq 3 okGap isGap "InvalidGap"
def t_require_gap : TS := (sIf (bNot (bTest (rCall sp_is_integer [] (aCons (rVar 1) (aCons (rVar 2) (aCons (rCB dLen (aCons (rVar 0) aNil)) aNil)))))) (sRaise "InvalidGap") sNext)
theorem m_require_gap : Meets 3 3 sp_require_gap t_require_gap := meets_Req (by
  intro xs R Ex hl hk h1 h2
  unfold okGap at hk
  split at hk
  · rename_i ts v lo
    show t_require_gap (bodyEn 3 R Ex) [.d (.list ts), .d v, .d (.int lo)]
    unfold t_require_gap
    simp [un_eq (int3 hk)]
    refine br_split (fun h => ?_) (fun h => ?_)
    · exact h2 (by simpa [isGap] using h) _
    · exact h1 (by simpa [isGap] using h) _
  · cases hk)
/-! reached -/
mutual
def rch (ms : List Int) : D → Bool
  | .tuple [.str z, v] => if z ∈ c_MEASURES then (match v with
      | .int b => decide (b ≤ ms.getD (mIx z) 0)
      | _ => false) else rchV ms z v
  | _ => false
def rchV (ms : List Int) (z : Str) : D → Bool
  | .list ps => if z = c_ALL then (rchL ms ps).all id else (rchL ms ps).any id
  | _ => false
def rchL (ms : List Int) : List D → List Bool
  | [] => []
  | p :: ps => rch ms p :: rchL ms ps
end
theorem rchL_map (ms : List Int) : ∀ ps, rchL ms ps = ps.map (rch ms)
  | [] => rfl
  | p :: ps => by rw [rchL, rchL_map ms ps]; rfl
/-- what is a condition, seen by its parts -/
theorem isCond_of {v : D} (h : isCond v = true) : (∃ z b, v = .tuple [.str z, .int b] ∧ z ∈ c_MEASURES ∧ 1 ≤ b ∧ b ≤ greatest z) ∨
    ∃ z ps, v = .tuple [.str z, .list ps] ∧ ¬ z ∈ c_MEASURES ∧ (z = c_ANY ∨ z = c_ALL) ∧ 2 ≤ ps.length ∧ ps.length ≤ 6 ∧ ∀ p ∈ ps, isCond p = true := by
  unfold isCond at h
  cases e : limIn v with
  | none => rw [e] at h; cases h
  | some ls =>
    unfold limIn at e
    split at e
    · rename_i z b
      split at e
      · rename_i hl
        left
        simp only [isLimit] at hl
        split at hl
        · rename_i hz
          obtain ⟨i, rfl, h1, h2⟩ := isInt_of hl
          exact ⟨z, i, rfl, hz, h1, h2 _ rfl⟩
        · cases hl
      · split at e
        · rename_i hz
          unfold limL at e
          cases b with
          | list ps =>
            dsimp only at e
            split at e
            · rename_i hn
              right
              have hz' : z = c_ANY ∨ z = c_ALL := by simpa using hz
              refine ⟨z, ps, rfl, fun hm => ?_, hz', hn.1, hn.2, fun p hp => ?_⟩
              · rcases mem_meas hm with rfl | rfl | rfl | rfl | rfl <;> revert hz' <;> decide
              · have go : ∀ (qs acc zs : List D), limAll qs acc = some zs → ∀ p ∈ qs, (limIn p).isSome = true := fun qs => by
                  induction qs with
                  | nil => intro _ _ _ p hp; cases hp
                  | cons q qs ih =>
                    intro acc zs hq p hp
                    rw [limAll] at hq
                    cases e2 : limIn q with
                    | none => rw [e2] at hq; cases hq
                    | some l2 =>
                      rw [e2] at hq
                      dsimp only at hq
                      split at hq
                      · rcases List.mem_cons.mp hp with rfl | hp
                        · rw [e2]; rfl
                        · exact ih _ _ hq p hp
                      · cases hq
                exact go _ _ _ e p hp
            · cases e
          | _ => cases e
        · cases e
    · cases e
def f_is_reached (d : Nat) : List D → Option Ret
  | [c, .tuple [.int a, .int b, .int e, .int f, .int g]] => if isCond c = true ∧ dep c < d then some (.d (.bool (rch [a, b, e, f, g] c))) else match c, d with
    | .none, _ + 1 => some (.d (.bool false))
    | _, _ => none
  | _ => none
abbrev sp_is_reached (d : Nat) : Sp := spF 2 (f_is_reached d)
theorem reach1 {c : D} {d : Nat} {ms : List Int} (hm : ms.length = 5) (h : isCond c = true) (hd : dep c < d) : f_is_reached d [c, .tuple (ms.map .int)] = some (.d (.bool (rch ms c))) := by
  match ms, hm with
  | [a, b, e, f, g], _ =>
    show f_is_reached d [c, .tuple [.int a, .int b, .int e, .int f, .int g]] = _
    unfold f_is_reached
    dsimp only
    rw [if_pos ⟨h, hd⟩]
theorem ix_ms {ms : List Int} {i : Nat} (h : i < ms.length) : dIx (.tuple (ms.map .int)) (.int i) = some (.d (.int (ms.getD i 0))) := ix_t i (by simp [h])
def t_is_reached (d : Nat) : TS := (sSeq (sIf (bTest (rOp dIs (rVar 0) (rC (.none)))) (sRet (rC (.bool false))) sNext)
    (sSeq (sAsgG (rVar 0) (gTup 2 (gCons (gName 3) (gCons (gName 4) gNil))))
    (sSeq (sIf (bTest (rOp dIn (rVar 3) (rC (.tuple (c_MEASURES.map .str))))) (sRet (rOp dGe (rOp dIx (rVar 1) (rTix c_MEASURES (rVar 3))) (rVar 4))) sNext)
    (sSeq (sAsg (rLc (iAny (rVar 4)) (gName 5) bYes (rCall (sp_is_reached d) [] (aCons (rVar 5) (aCons (rVar 1) aNil))) [5]) 2)
    (sRet (rIf (bTest (rOp dEq (rVar 3) (rC (.str c_ALL)))) (rCB dAll (aCons (rVar 2) aNil)) (rCB dAny (aCons (rVar 2) aNil))))))))
theorem m_is_reached (d : Nat) : Meets 2 6 (sp_is_reached (d + 1)) (t_is_reached d) := meets_F (by
  intro xs r R Ex hl hf k
  unfold f_is_reached at hf
  split at hf
  · rename_i c m0 m1 m2 m3 m4
    split at hf
    · rename_i hc
      obtain ⟨hc, hd⟩ := hc
      cases hf
      have hms : ∃ ms : List Int, ms = [m0, m1, m2, m3, m4] := ⟨_, rfl⟩
      obtain ⟨ms, em⟩ := hms
      have hlen : ms.length = 5 := by rw [em]; rfl
      have e0 : (.tuple [.int m0, .int m1, .int m2, .int m3, .int m4] : D) = .tuple (ms.map .int) := by rw [em]; rfl
      rw [← em] at k
      rw [e0]
      show t_is_reached d (bodyEn 2 R Ex) [.d c, .d (.tuple (ms.map .int)), .un, .un, .un, .un]
      unfold t_is_reached
      rcases isCond_of hc with ⟨z, b, rfl, hz, h1, h2⟩ | ⟨z, ps, rfl, hz, hz2, h1, h2, h3⟩
      · simp
        refine br_split (fun _ => ?_) (fun h4 => absurd hz (of_decide_eq_false h4))
        simp [un_eq (tblIx_meas hz), un_eq (ix_ms (ms := ms) (i := mIx z) (by rw [hlen]; exact mIx_lt hz))]
        have e : rch ms (.tuple [.str z, .int b]) = decide (b ≤ ms.getD (mIx z) 0) := by rw [rch, if_pos hz]
        rw [e] at k
        simpa using k _
      · simp
        refine br_split (fun h4 => absurd (of_decide_eq_true h4) hz) (fun _ => ?_)
        simp
        have hps : ∀ p ∈ ps, p.depth < d := fun p hp => by
          have := deps_mem hp
          simp only [dep, PyData.depth, PyData.depthAll] at hd
          omega
        refine lc_mapB1 (rch ms) (by omega) (fun p hp => ?_) ?_
        · simp [un_eq (reach1 hlen (h3 p hp) (hps p hp))]
        · simp
          have e : rch ms (.tuple [.str z, .list ps]) = if z = c_ALL then (ps.map (rch ms)).all id else (ps.map (rch ms)).any id := by
            rw [rch, if_neg hz, rchV, rchL_map]
            intro b e; cases e
          rw [e] at k
          refine br_split (fun h5 => ?_) (fun h5 => ?_)
          · rw [if_pos (of_decide_eq_true h5)] at k; simp; simpa using k _
          · rw [if_neg (of_decide_eq_false h5)] at k; simp; simpa using k _
    · cases c with
      | none =>
        cases hf
        show t_is_reached d (bodyEn 2 R Ex) [.d .none, .d _, .un, .un, .un, .un]
        unfold t_is_reached
        simp
        exact k _
      | _ => cases hf
  · cases hf)
/-! the first end -/
def optInt : Option Int → D
  | some i => .int i
  | none => .none
/-- the least end from start + 1 to n by p -/
def leastE (n s : Int) (p : Int → Bool) : Option Int := ((List.range (n - s).toNat).map fun i : Nat => s + 1 + (i : Int)).find? p
def fstE (ts : List D) (c : D) (s : Int) : D := optInt (leastE ts.length s fun e => rch (meas (cutD ts (some s) (some e))) c)
def okC (c : D) : Bool := isCond c && okv c
def f_first_in : List D → Option Ret
  | [.list ts, c, .int s] => if ts.all itemLike = true ∧ ts.length ≤ 4000 ∧ okC c = true ∧ 0 ≤ s ∧ s ≤ ts.length then some (.d (fstE ts c s)) else none
  | _ => none
abbrev sp_first_in : Sp := spF 3 f_first_in
theorem meas_len (ts : List D) : (meas ts).length = 5 := rfl
theorem measures1 {ts : List D} {s e : Int} (h1 : ts.all itemLike = true) (h2 : ts.length ≤ 4000) : f_measures_in [.list ts, .int s, .int e] = some (.d (.tuple ((meas (cutD ts (some s) (some e))).map .int))) := by
  show (if _ then _ else _) = _
  rw [if_pos ⟨h1, h2⟩]
theorem find_take {α : Type} {p : α → Bool} {l : List α} {i : Nat} {x : α} (hi : l[i]? = some x) (hn : (l.take i).find? p = none) : (l.take (i + 1)).find? p = if p x = true then some x else none := by
  have et : l.take (i + 1) = l.take i ++ [x] := by rw [List.take_add_one, hi]; rfl
  rw [et, List.find?_append, hn]
  by_cases h : p x = true <;> simp [h]
theorem find_of_take {α : Type} {p : α → Bool} {l : List α} {i : Nat} {x : α} (h : (l.take i).find? p = some x) : l.find? p = some x := by
  rw [← List.take_append_drop i l, List.find?_append, h]; rfl
def t_first_in : TS := (sSeq (sFor (iRange (rOp dAdd (rVar 2) (rC (.int 1))) (rOp dAdd (rCB dLen (aCons (rVar 0) aNil)) (rC (.int 1)))) (gName 3) (sIf (bTest (rCall (sp_is_reached 20) [] (aCons (rVar 1) (aCons (rCall sp_measures_in [] (aCons (rVar 0) (aCons (rVar 2) (aCons (rVar 3) aNil)))) aNil)))) (sRet (rMove 3)) sNext))
    (sRet (rC (.none))))
theorem m_first_in : Meets 3 4 sp_first_in t_first_in := meets_F (by
  intro xs r R Ex hl hf k
  unfold f_first_in at hf
  split at hf
  · rename_i ts c s
    split at hf
    · rename_i hh
      obtain ⟨h1, h2, h3, h4, h5⟩ := hh
      cases hf
      have hc := Bool.and_eq_true_iff.mp h3
      show t_first_in (bodyEn 3 R Ex) [.d (.list ts), .d c, .d (.int s), .un]
      unfold t_first_in
      simp
      refine ⟨by omega, ?_⟩
      have en : ((ts.length : Int) + 1 - (s + 1)).toNat = ((ts.length : Int) - s).toNat := by congr 1; omega
      rw [en]
      refine for_inv (fun i e => ∃ q, e = [.d (.list ts), .d c, .d (.int s), q] ∧ (((List.range ((ts.length : Int) - s).toNat).map fun i : Nat => s + 1 + (i : Int)).take i).find? (fun e => rch (meas (cutD ts (some s) (some e))) c) = none) ⟨_, rfl, by simp⟩ ?_ ?_
      · rintro i x e hi ⟨q, rfl, hn⟩
        obtain ⟨h6, rfl⟩ := rangeD_at hi
        have hj : ((List.range ((ts.length : Int) - s).toNat).map fun i : Nat => s + 1 + (i : Int))[i]? = some (s + 1 + i) := by simp [h6]
        have e2 := find_take hj hn
        simp [un_eq (measures1 h1 h2), un_eq (reach1 (meas_len _) hc.1 (okv_of hc.2).2)]
        refine br_split (fun h7 => ?_) (fun h7 => ?_)
        · rw [if_pos h7] at e2
          have e3 : fstE ts c s = .int (s + 1 + i) := by
            unfold fstE leastE
            rw [find_of_take e2]; rfl
          rw [e3] at k
          exact k _
        · rw [if_neg (by rw [h7]; simp)] at e2
          exact ⟨_, rfl, e2⟩
      · rintro e ⟨q, rfl, hn⟩
        rw [rangeD_len] at hn
        have e3 : fstE ts c s = .none := by
          unfold fstE leastE
          rw [← List.take_length (l := List.map _ _)]
          rw [List.length_map, List.length_range, hn]; rfl
        rw [e3] at k
        simp
        exact k _
    · cases hf
  · cases hf)
/-- first_reach -/
def f_first_reach : List D → Option Ret
  | [.list ts, c, .int s] => if isTraffic (.list ts) = true ∧ tame (.list ts) = true ∧ okC c = true ∧ 0 ≤ s ∧ s ≤ ts.length then some (.d (fstE ts c s)) else none
  | _ => none
abbrev sp_first_reach : Sp := spF 3 f_first_reach
theorem isTraffic_of {ts : List D} (h : isTraffic (.list ts) = true) : ts.length ≤ 40 ∧ ts.all isItem = true := by
  simp only [isTraffic, Bool.and_eq_true, decide_eq_true_eq] at h; exact h
theorem like_of_items {ts : List D} (h : ts.all isItem = true) : ts.all itemLike = true := List.all_eq_true.mpr fun x hx => itemLike_isItem (List.all_eq_true.mp h x hx)
theorem rCall_Rq0 (n : Nat) (okd p : List D → Bool) (c : Str) (ds : List D) (ts : TA) (E : EK) (env : Env) (P : Ret → Env → Prop) : rCall (spReq n okd p c) ds ts E env P = ts E env fun xs e1 => ckN n (xs ++ ds) (ifp (okd (xs ++ ds) = true) (br (p (xs ++ ds)) (P (.d .none) e1) (E ⟨c, none⟩ e1))) := by
  unfold rCall
  congr 1; funext xs e1
  apply propext
  constructor
  · rintro ⟨ys, h1, h2, h3, h4, h5⟩
    cases map_d_inj h1
    exact ⟨h2, h3, br_split (fun q => h4 q []) (fun q => h5 q [])⟩
  · rintro ⟨h2, h3, h4⟩
    refine ⟨_, rfl, h2, h3, fun q _ => ?_, fun q _ => ?_⟩
    · rwa [br_eq q] at h4
    · rwa [br_ne q] at h4
@[simp ↓] theorem rCall_Rq (n : Nat) (okd p : List D → Bool) (c : Str) (ts : TA) (E : EK) (env : Env) (P : Ret → Env → Prop) : rCall (spReq n okd p c) [] ts E env P = ts E env fun xs e1 => ckN n xs (ifp (okd xs = true) (br (p xs) (P (.d .none) e1) (E ⟨c, none⟩ e1))) := by
  rw [rCall_Rq0]
  congr 1; funext xs e1
  rw [List.append_nil]
@[simp ↓] theorem rCall_Rq1 (n : Nat) (okd p : List D → Bool) (c : Str) (d : D) (ts : TA) (E : EK) (env : Env) (P : Ret → Env → Prop) : rCall (spReq n okd p c) [d] ts E env P = ts E env fun xs e1 => app1 xs d fun ys => ckN n ys (ifp (okd ys = true) (br (p ys) (P (.d .none) e1) (E ⟨c, none⟩ e1))) := rCall_Rq0 ..
theorem first_in1 {ts : List D} {c : D} {s : Int} (h1 : ts.all itemLike = true) (h2 : ts.length ≤ 4000) (h3 : okC c = true) (h4 : 0 ≤ s) (h5 : s ≤ ts.length) : f_first_in [.list ts, c, .int s] = some (.d (fstE ts c s)) := by
  show (if _ then _ else _) = _
  rw [if_pos ⟨h1, h2, h3, h4, h5⟩]
def t_first_reach : TS := (sSeq (sDrop (rCall sp_require_traffic [] (aCons (rVar 0) aNil)))
    (sSeq (sDrop (rCall sp_require_condition [] (aCons (rVar 1) aNil)))
    (sSeq (sDrop (rCall sp_require_gap [.int 0] (aCons (rVar 0) (aCons (rVar 2) aNil))))
    (sRet (rCall sp_first_in [] (aCons (rVar 0) (aCons (rVar 1) (aCons (rVar 2) aNil))))))))
theorem m_first_reach : Meets 3 3 sp_first_reach t_first_reach := meets_F (by
  intro xs r R Ex hl hf k
  unfold f_first_reach at hf
  split at hf
  · rename_i ts c s
    split at hf
    · rename_i hh
      obtain ⟨h1, h2, h3, h4, h5⟩ := hh
      cases hf
      obtain ⟨a1, a2⟩ := isTraffic_of h1
      have hc := Bool.and_eq_true_iff.mp h3
      show t_first_reach (bodyEn 3 R Ex) [.d (.list ts), .d c, .d (.int s)]
      unfold t_first_reach
      simp
      refine ifp_of (by simp [tames, h2]) ?_
      refine br_split (fun _ => ?_) (fun q => absurd (h1.symm.trans q) (by decide))
      simp
      refine ifp_of hc.2 ?_
      refine br_split (fun _ => ?_) (fun q => absurd (hc.1.symm.trans q) (by decide))
      simp
      refine ifp_of rfl ?_
      refine br_split (fun _ => ?_) (fun q => absurd q (by simp [isGap, isInt, h4, h5]))
      simp [un_eq (first_in1 (like_of_items a2) (Nat.le_trans a1 (by decide)) h3 h4 h5)]
      exact k _
    · cases hf
  · cases hf)
end PD
end S4_
section S5_
set_option Elab.async false
set_option linter.all false
set_option maxRecDepth 100000
set_option maxHeartbeats 2000000
/-! S5: what laws share: sources of draws, values that are shown. -/
namespace PD
open PySem
def LIM : Nat := 10 ^ 15
/-- a source of draws: anything, a seed, a counter -/
def Src (src : List D) (N : Nat) : Prop := ∃ a b c : Int, src = [.int a, .int b, .int c] ∧ 0 ≤ b ∧ b ≤ 10 ^ 200 ∧ 0 ≤ c ∧ c ≤ N
theorem Src.mono {src : List D} {N M : Nat} (h : Src src N) (hm : N ≤ M) : Src src M := by
  obtain ⟨a, b, c, h1, h2, h3, h4, h5⟩ := h
  exact ⟨a, b, c, h1, h2, h3, h4, by omega⟩
theorem Src.flat {src : List D} {N : Nat} (h : Src src N) : flats src = true := by
  obtain ⟨a, b, c, rfl, _⟩ := h; rfl
/-- a def that draws, at most K times, from its first argument -/
def spS (K m : Nat) (pre : List D → Prop) (post : List D → Ret → Prop) : Sp := fun as R _ => ∃ src xs N, as = .par src :: xs.map .d ∧ xs.length = m ∧ Src src N ∧ N + K ≤ LIM ∧ pre xs ∧
  ∀ r src' s, Src src' (N + K) → post xs r → s.head? = some (.par src') → R r s
theorem ary_S (K m : Nat) (pre : List D → Prop) (post : List D → Ret → Prop) : Ary (spS K m pre post) (m + 1) := by rintro _ _ _ ⟨src, xs, N, rfl, h, _⟩; simpa using h
def drX (K : Nat) (pre : List D → Prop) (post : List D → Ret → Prop) (ys xs : List D) (Q : Ret → List D → Prop) (_ : Tg Q := ⟨⟩) : Prop := ∃ N, Src ys N ∧ N + K ≤ LIM ∧ pre xs ∧ ∀ r src', Src src' (N + K) → post xs r → Q r src'
@[simp ↓] theorem rCallP_S (K m : Nat) (pre : List D → Prop) (post : List D → Ret → Prop) (i : Nat) (ts : TA) (E : EK) (env : Env) (P : Ret → Env → Prop) :
    rCallP (spS K m pre post) i [] ts E env P = owX i env fun _ _ => ts E env fun xs e1 => owX i e1 fun ys kk => ckN m xs (drX K pre post ys xs fun r zs => P r (kk zs)) := by
  rw [← IsOwn_c]
  unfold rCallP
  congr 1; congr 1; funext xs e1
  unfold owX
  apply propext
  constructor
  · rintro ⟨s, ys, h1, h2, src, xs', N, h3, h4, h5, h6, h7, h8⟩
    rw [List.append_nil] at h3
    have e1 := (List.cons.inj h3).1
    have e2 := map_d_inj (List.cons.inj h3).2
    cases e1
    subst e2
    refine ⟨s, ys, h1, h2, h4, N, h5, h6, h7, fun r src' a b => ?_⟩
    obtain ⟨zs, q1, q2⟩ := h8 r src' [.par src'] a b rfl
    cases q1
    exact q2
  · rintro ⟨s, ys, h1, h2, h4, N, h5, h6, h7, h8⟩
    refine ⟨s, ys, h1, h2, ys, xs, N, by rw [List.append_nil], h4, h5, h6, h7, fun r src' s' a b c => ⟨src', c, h8 r src' a b⟩⟩
theorem meets_S {K m M : Nat} {pre : List D → Prop} {post : List D → Ret → Prop} {t : TS}
    (h : ∀ src xs N (R : Ret → List Sl → Prop) Ex, xs.length = m → Src src N → N + K ≤ LIM → pre xs → (∀ r src' s, Src src' (N + K) → post xs r → s.head? = some (.par src') → R r s) → t (bodyEn (m + 1) R Ex) (.par src :: xs.map .d ++ List.replicate (M - (m + 1)) .un)) : Meets (m + 1) M (spS K m pre post) t :=
  fun as R Ex _ ⟨src, xs, N, e, h1, h2, h3, h4, h5⟩ => by subst e; exact h src xs N R Ex h1 h2 h3 h4 h5
theorem dr_of {K N : Nat} {pre : List D → Prop} {post : List D → Ret → Prop} {ys xs : List D} {Q : Ret → List D → Prop} (hs : Src ys N) (hN : N + K ≤ LIM) (hp : pre xs) (k : ∀ r src', Src src' (N + K) → post xs r → Q r src') : drX K pre post ys xs Q := ⟨N, hs, hN, hp, k⟩
/-- one draw -/
def preDraw (xs : List D) : Prop := ∃ n : Int, xs = [.int n] ∧ 1 ≤ n ∧ n ≤ 10 ^ 50
def postDraw (xs : List D) (r : Ret) : Prop := ∃ n i : Int, xs = [.int n] ∧ r = .d (.int i) ∧ 0 ≤ i ∧ i < n
abbrev spDraw : Sp := spS 1 1 preDraw postDraw
theorem draw_of {N : Nat} {ys : List D} {n : Int} {Q : Ret → List D → Prop} (hs : Src ys N) (hN : N + 1 ≤ LIM) (hn : 1 ≤ n) (hn2 : n ≤ 10 ^ 50) (k : ∀ i src', Src src' (N + 1) → 0 ≤ i → i < n → Q (.d (.int i)) src') : drX 1 preDraw postDraw ys [.int n] Q :=
  ⟨N, hs, hN, ⟨n, rfl, hn, hn2⟩, fun r src' a ⟨m, i, e1, e2, h0, h1⟩ => by cases e1; subst e2; exact k i src' a h0 h1⟩
/-- a list's item at a drawn place -/
theorem atI_mem {α : Type} {xs : List α} {i : Int} (h0 : 0 ≤ i) (h1 : i < xs.length) : ∃ v, L2.atI xs i = some v ∧ v ∈ xs := by
  unfold L2.atI L2.ixN
  rw [if_pos h0, if_pos h1]
  have h2 : i.toNat < xs.length := by omega
  exact ⟨xs[i.toNat], by simp [h2], List.getElem_mem _⟩
theorem pick_of {xs : List D} {i : Int} {P : Ret → Prop} (h0 : 0 ≤ i) (h1 : i < xs.length) (k : ∀ v, v ∈ xs → P (.d v)) : un (dIx (.list xs) (.int i)) P := by
  obtain ⟨v, e, hm⟩ := atI_mem h0 h1
  refine ⟨.d v, ?_, k v hm⟩
  show (L2.atI xs i).map Ret.d = _
  rw [e]; rfl
theorem pickS_of {z : Str} {i : Int} {P : Ret → Prop} (hz : z.length ≤ 16777216) (h0 : 0 ≤ i) (h1 : i < z.cps.toList.length) (k : ∀ c, c ∈ z.cps.toList → P (.d (.str ⟨#[c]⟩))) : un (dIx (.str z) (.int i)) P := by
  obtain ⟨v, e, hm⟩ := atI_mem h0 h1
  refine ⟨.d (.str ⟨#[v]⟩), ?_, k v hm⟩
  show (if z.length ≤ 16777216 then (L2.atI z.cps.toList i).map fun c => Ret.d (.str ⟨#[c]⟩) else none) = _
  rw [if_pos hz, e]; rfl
@[simp] theorem flat_i (i : Int) : (Ret.d (.int i)).flat = true := rfl
@[simp] theorem flat_b (i : Bool) : (Ret.d (.bool i)).flat = true := rfl
@[simp] theorem flat_s (i : Str) : (Ret.d (.str i)).flat = true := rfl
@[simp] theorem flat_n : (Ret.d .none).flat = true := rfl
@[simp] theorem ixOf_03 : ixOf 0 3 = some 0 := by decide
@[simp] theorem ixOf_13 : ixOf 1 3 = some 1 := by decide
@[simp] theorem ixOf_23 : ixOf 2 3 = some 2 := by decide
/-! values that are shown -/
def nice (v : D) : Bool := v.canLay0 && v.showable && v.leavesShort 110
theorem nice_of {v : D} (h : nice v = true) : v.canLay0 = true ∧ v.showable = true ∧ v.leavesShort 110 = true := by
  unfold nice at h
  simpa only [Bool.and_eq_true, and_assoc] using h
theorem nices {xs : List D} (h : ∀ x ∈ xs, nice x = true) : PyData.canLayAll0 xs = true ∧ PyData.showableAll xs = true ∧ PyData.leavesShortAll 110 xs = true := by
  induction xs with
  | nil => exact ⟨rfl, rfl, rfl⟩
  | cons x xs ih =>
    obtain ⟨a, b, c⟩ := nice_of (h x List.mem_cons_self)
    obtain ⟨a', b', c'⟩ := ih fun y hy => h y (List.mem_cons_of_mem _ hy)
    refine ⟨?_, ?_, ?_⟩
    · show (x.canLay0 && _) = true; rw [a, a']; rfl
    · show (x.showable && _) = true; rw [b, b']; rfl
    · show (x.leavesShort 110 && _) = true; rw [c, c']; rfl
theorem nice_list {xs : List D} (h : ∀ x ∈ xs, nice x = true) : nice (.list xs) = true := by
  obtain ⟨a, b, c⟩ := nices h
  show (PyData.canLayAll0 xs && PyData.showableAll xs && PyData.leavesShortAll 110 xs) = true
  rw [a, b, c]; rfl
theorem nice_tup {xs : List D} (h : ∀ x ∈ xs, nice x = true) : nice (.tuple xs) = true := nice_list h
theorem log2_lt_of {n k : Nat} (hk : 0 < k) (h : n < 2 ^ k) : n.log2 < k := by
  by_cases e : n = 0
  · subst e; simpa using hk
  · exact (Nat.log2_lt e).mpr h
theorem nice_int {i : Int} (h0 : 0 ≤ i) (h1 : i < 10 ^ 100) : nice (.int i) = true := by
  have h2 : i.natAbs.log2 < 1920 := by
    have : i.natAbs < 2 ^ 400 := by
      have : i < 2 ^ 400 := Int.lt_trans h1 (by decide)
      omega
    exact Nat.lt_trans (log2_lt_of (by decide) this) (by decide)
  have h3 : (Str.ofString (toString i)).length ≤ 110 := Nat.le_trans (PyProof.Rows.toString_length_le h0 (by decide) h1) (by decide)
  show (true && decide (i.natAbs.log2 < 1920) && decide ((Str.ofString (toString i)).length ≤ 110)) = true
  rw [decide_eq_true h2, decide_eq_true h3]; rfl
theorem weight_int {i : Int} (h0 : 0 ≤ i) (h1 : i < 10 ^ 100) : (PyData.int i).weight ≤ 400 := by
  show (if i == 0 then 0 else i.natAbs.log2 + 1) ≤ _
  split
  · omega
  · have : i.natAbs < 2 ^ 399 := by
      have : i < 2 ^ 399 := Int.lt_trans h1 (by decide)
      omega
    have := log2_lt_of (k := 399) (by decide) this
    omega
theorem nice_bool (b : Bool) : nice (.bool b) = true := rfl
theorem nice_str {z : Str} (h : ∀ c ∈ z.cps.toList, c < 0x110000) : nice (.str z) = true := by
  have h1 : PyData.strOk z = true := by
    show z.cps.all (· < 0x110000) = true
    rw [← Array.all_toList]
    exact List.all_eq_true.mpr fun c hc => decide_eq_true (h c hc)
  have h2 : (z.cps.toList.all fun c => decide (c < 16 ^ 8)) = true := List.all_eq_true.mpr fun c hc => decide_eq_true (Nat.lt_trans (h c hc) (by decide))
  show (PyData.strOk z && true && _) = true
  rw [h1]
  show (z.cps.toList.all fun c => decide (c < 16 ^ 8)) = true
  exact h2
theorem weight_list {xs : List D} {W : Nat} (h : ∀ x ∈ xs, x.weight ≤ W) : (PyData.list xs).weight ≤ (W + 1) * xs.length := by
  show PyData.weightAll xs ≤ _
  induction xs with
  | nil => exact Nat.zero_le _
  | cons x xs ih =>
    have h1 := h x List.mem_cons_self
    have h2 := ih fun y hy => h y (List.mem_cons_of_mem _ hy)
    show x.weight + 1 + PyData.weightAll xs ≤ _
    rw [List.length_cons, Nat.mul_add]
    omega
theorem depth_list {xs : List D} {W : Nat} (h : ∀ x ∈ xs, x.depth ≤ W) : (PyData.list xs).depth ≤ W + 1 := by
  show PyData.depthAll xs + 1 ≤ _
  induction xs with
  | nil => exact Nat.succ_le_succ (Nat.zero_le _)
  | cons x xs ih =>
    have h1 := h x List.mem_cons_self
    have h2 := ih fun y hy => h y (List.mem_cons_of_mem _ hy)
    show max x.depth (PyData.depthAll xs) + 1 ≤ _
    omega
theorem repr_of {v : D} (hq : isSeq v = true) (h : nice v = true) (hd : v.depth ≤ 60) (hw : v.weight ≤ 140000) : dRepr [v] = some (.d (.str v.shown)) := by
  obtain ⟨a, b, c⟩ := nice_of h
  have hl := PyData.shown_le 110 (by decide) v c
  have e : reprOk v = true := by
    unfold reprOk
    rw [hq, b, dictE_no (PyData.hasDict_of_canLay v a), decide_eq_true (show v.depth ≤ 100 by omega), decide_eq_true (show v.shown.length ≤ 16777216 by omega)]
    rfl
  cases v with
  | list xs => show (if _ then _ else _) = _; rw [if_pos e]
  | tuple xs => show (if _ then _ else _) = _; rw [if_pos e]
  | dict l =>
    cases l with
    | nil => show (if reprOk (.dict []) = true then some (Ret.d (.str (PyData.dict []).shown)) else none) = _; rw [if_pos e]
    | cons q l => cases hq
  | _ => cases hq
/-- simp does not go into it -/
def Kp (p : Prop) (_ : Tg p := ⟨⟩) : Prop := p
theorem lc_inv {xs : List D} {g : TG} {te : TR} {ws : List Nat} {e1 : Env} {Q : List D → Env → Prop} (I : Nat → List D → Env → Prop) (hl : xs.length ≤ 16777216) (h0 : I 0 [] (wipe ws e1))
    (hs : ∀ i x acc e, xs[i]? = some x → I i acc e → g x e fun e2 => te (fun _ _ => False) e2 fun y e4 => Kp (I (i + 1) (acc ++ [y.toD]) (wipe ws e4))) (hq : ∀ acc e, I xs.length acc e → Q acc (keep ws e1 e)) : lcX xs g bYes te ws e1 Q := ⟨hl, I, h0, hs, hq⟩
theorem for_iv {xs : List D} {g : TG} {tb : TS} {D' : En} {e1 : Env} (I : Nat → Env → Prop) (h0 : I 0 e1)
    (hs : ∀ i x e, xs[i]? = some x → I i e → g x e fun e2 => tb { D' with nx := fun e => Kp (I (i + 1) e), ct := fun e => Kp (I (i + 1) e), bk := D'.nx } e2) (hq : ∀ e, I xs.length e → D'.nx e) : forX xs g tb D' e1 := ⟨I, h0, hs, hq⟩
theorem un_of {α : Type} {o : Option α} {a : α} {P : α → Prop} (h : o = some a) (k : P a) : un o P := by rw [un_eq h]; exact k
theorem enumD_at' {xs : List D} {lo : Int} {i : Nat} {x : D} (h : (enumD lo xs)[i]? = some x) : ∃ v, x = .tuple [.int (lo + i), v] ∧ xs[i]? = some v := by
  rw [enumD_at] at h
  cases e : xs[i]? with
  | none => rw [e] at h; cases h
  | some v => rw [e] at h; cases h; exact ⟨v, rfl, rfl⟩
/-- a text of drawn signs -/
theorem strsOf_strs (zs : List Str) : strsOf (zs.map PyData.str) = some zs := by
  induction zs with
  | nil => rfl
  | cons c cs ih => simp only [List.map_cons, strsOf, ih]; rfl
theorem app_cps (a b : Str) : (a ++ b).cps.toList = a.cps.toList ++ b.cps.toList := by
  show (a.cps ++ b.cps).toList = _
  exact Array.toList_append
theorem join_signs0 : ∀ cs : List Nat, (Str.join "" (cs.map fun c => ⟨#[c]⟩)).cps.toList = cs
  | [] => rfl
  | [c] => rfl
  | c :: d :: cs => by
    have ih := join_signs0 (d :: cs)
    show ((⟨#[c]⟩ : Str) ++ ("" : Str) ++ Str.join "" ((d :: cs).map fun c => ⟨#[c]⟩)).cps.toList = _
    rw [app_cps, app_cps, ih]; rfl
theorem join_signs (cs : List Nat) : (Txt.join "" (cs.map fun c => ⟨#[c]⟩)).cps.toList = cs := by
  show (Builtin.Str.glued (Str.ofString "") _).cps.toList = _
  rw [StrLaws.glued_eq_join]
  exact join_signs0 cs
theorem len_toList (z : Str) : z.length = z.cps.toList.length := by show z.cps.size = _; simp
theorem join1 (cs : List Nat) (h : cs.length ≤ 4000) : dJoin (.str "") [.list (cs.map fun c => .str ⟨#[c]⟩)] = some (.d (.str (Txt.join "" (cs.map fun c => ⟨#[c]⟩)))) := by
  have e : (cs.map fun c => PyData.str ⟨#[c]⟩) = (cs.map fun c => (⟨#[c]⟩ : Str)).map PyData.str := by rw [List.map_map]; rfl
  have e2 : ((cs.map fun c => (⟨#[c]⟩ : Str)).map (·.length)).sum = cs.length := by
    rw [List.map_map]
    clear h e
    induction cs with
    | nil => rfl
    | cons c cs ih => rw [List.map_cons, List.sum_cons, ih, List.length_cons]; show 1 + _ = _; omega
  unfold dJoin
  rw [e]
  dsimp only
  rw [strsOf_strs]
  dsimp only
  rw [if_pos (by rw [e2]; show _ + _ * 0 ≤ _; omega)]
theorem kind_join {cs : List Nat} (h0 : 1 ≤ cs.length) (h1 : cs.length ≤ 8) (h : ∀ c ∈ cs, isLet c = true) : isKind (.str (Txt.join "" (cs.map fun c => ⟨#[c]⟩))) = true := by
  have e := join_signs cs
  have el : (Txt.join "" (cs.map fun c => (⟨#[c]⟩ : Str))).length = cs.length := by rw [len_toList, e]
  show (decide _ && decide _ && _) = true
  rw [e, el, decide_eq_true h0, decide_eq_true h1, List.all_eq_true.mpr h]
  rfl
theorem cut_ints (vs : List Int) (lo hi : Option Int) : ∃ us : List Int, cutD (vs.map .int) lo hi = us.map .int := by
  unfold cutD
  rw [← List.map_drop, ← List.map_take]
  exact ⟨_, rfl⟩
@[simp ↓] theorem rLr1_w (tb : TR) (E : EK) (env : Env) (P : Ret → Env → Prop) : rLr1 tb E env P = tb E env fun y e2 => isI y.toD fun j => ifp (-(2 ^ 62) ≤ j ∧ j < 2 ^ 24) <| P (.own (rangeD 0 j.toNat)) e2 := rfl
theorem eqv_ints (xs : List Int) : PyData.eqv (.list (xs.map .int)) (.list (xs.map .int)) = true := by
  show PyData.eqvAll (xs.map .int) (xs.map .int) = true
  induction xs with
  | nil => rfl
  | cons x xs ih =>
    show (PyData.eqv (.int x) (.int x) && _) = true
    rw [ih]
    show ((x == x) && true) = true
    simp
theorem shaped_ints (xs : List Int) : SeqAt.shaped (.list (xs.map .int)) = true := by
  have h : PyData.canLayAll0 (xs.map .int) = true ∧ PyData.depthAll (xs.map .int) = 0 := by
    induction xs with
    | nil => exact ⟨rfl, rfl⟩
    | cons x xs ih =>
      refine ⟨?_, ?_⟩
      · show (true && PyData.canLayAll0 (xs.map .int)) = true
        rw [ih.1]; rfl
      · show max 0 (PyData.depthAll (xs.map .int)) = 0
        rw [ih.2]; rfl
  show (PyData.canLayAll0 (xs.map .int) && decide (PyData.depthAll (xs.map .int) + 1 ≤ 64)) = true
  rw [h.1, h.2]; rfl
theorem eq_ints (xs : List Int) : dEq (.list (xs.map .int)) (.list (xs.map .int)) = some (.d (.bool true)) := by
  unfold dEq eqP
  rw [show eqS (.list (xs.map .int)) (.list (xs.map .int)) = none from rfl]
  dsimp only
  rw [show unS (.list (xs.map .int)) = .list (xs.map .int) from rfl, if_pos ⟨shaped_ints xs, shaped_ints xs⟩, eqv_ints]
/-! sizes -/
theorem mulOk_of {i j : Int} (h1 : i.natAbs < 2 ^ 10000) (h2 : j.natAbs < 2 ^ 10000) : mulOk i j = true := by
  have a := log2_lt_of (by decide) h1
  have b := log2_lt_of (by decide) h2
  exact decide_eq_true (by omega)
theorem powOk_of {i j : Int} (h0 : 0 ≤ j) (h1 : j ≤ 100) (h2 : i.natAbs < 2 ^ 10000) : powOk i j = true := by
  have b := log2_lt_of (by decide) h2
  unfold powOk
  rw [decide_eq_true h0, decide_eq_true h1, decide_eq_true (show i.natAbs.log2 < 100000 by omega)]
  rfl
theorem natAbs_lt {i B : Int} (h0 : 0 ≤ i) (h : i < B) (k : Nat) (hb : B ≤ 2 ^ k := by decide) : i.natAbs < 2 ^ k := by
  have : i < 2 ^ k := Int.lt_of_lt_of_le h hb
  have e : ((2 ^ k : Nat) : Int) = 2 ^ k := by norm_cast
  omega
theorem divOk_of {i j : Int} (h0 : 0 < j) (h : j < 2 ^ 8000) : divOk i j = true := by
  unfold divOk
  have e : ((2 ^ 8000 : Nat) : Int) = 2 ^ 8000 := by norm_cast
  have b := log2_lt_of (n := j.natAbs) (k := 8000) (by decide) (by omega)
  rw [decide_eq_true h0, decide_eq_true (show j.natAbs.log2 < 9000 by omega)]
  rfl
@[simp] theorem powOk_10_4 : powOk 10 4 = true := by decide
@[simp] theorem powOk_10_5 : powOk 10 5 = true := by decide
@[simp] theorem powOk_10_6 : powOk 10 6 = true := by decide
@[simp] theorem powOk_10_7 : powOk 10 7 = true := by decide
@[simp] theorem powOk_10_8 : powOk 10 8 = true := by decide
@[simp] theorem powOk_10_9 : powOk 10 9 = true := by decide
@[simp] theorem powOk_10_10 : powOk 10 10 = true := by decide
@[simp] theorem powOk_10_12 : powOk 10 12 = true := by decide
@[simp] theorem powOk_10_15 : powOk 10 15 = true := by decide
@[simp] theorem powOk_10_16 : powOk 10 16 = true := by decide
@[simp] theorem powOk_10_17 : powOk 10 17 = true := by decide
@[simp] theorem powOk_10_18 : powOk 10 18 = true := by decide
@[simp] theorem powOk_10_19 : powOk 10 19 = true := by decide
@[simp] theorem powOk_10_20 : powOk 10 20 = true := by decide
@[simp] theorem powOk_10_24 : powOk 10 24 = true := by decide
@[simp] theorem powOk_10_25 : powOk 10 25 = true := by decide
@[simp] theorem powOk_10_29 : powOk 10 29 = true := by decide
@[simp] theorem powOk_10_30 : powOk 10 30 = true := by decide
@[simp] theorem powOk_10_31 : powOk 10 31 = true := by decide
@[simp] theorem powOk_10_32 : powOk 10 32 = true := by decide
@[simp] theorem powOk_10_33 : powOk 10 33 = true := by decide
@[simp] theorem powOk_10_35 : powOk 10 35 = true := by decide
@[simp] theorem powOk_10_36 : powOk 10 36 = true := by decide
@[simp] theorem powOk_10_37 : powOk 10 37 = true := by decide
@[simp] theorem powOk_10_38 : powOk 10 38 = true := by decide
@[simp] theorem powOk_10_39 : powOk 10 39 = true := by decide
@[simp] theorem powOk_10_40 : powOk 10 40 = true := by decide
@[simp] theorem powOk_10_41 : powOk 10 41 = true := by decide
@[simp] theorem powOk_10_42 : powOk 10 42 = true := by decide
@[simp] theorem divOk_10_5 (i : Int) : divOk i 100000 = true := divOk_of (by decide) (by decide)
@[simp] theorem divOk_10_7 (i : Int) : divOk i 10000000 = true := divOk_of (by decide) (by decide)
@[simp] theorem divOk_2 (i : Int) : divOk i 2 = true := divOk_of (by decide) (by decide)
end PD
end S5_
section S6_
set_option Elab.async false
set_option linter.all false
set_option maxRecDepth 100000
set_option maxHeartbeats 2000000
/-! S6: measures shrink with the stretch: the ends do not descend. -/
namespace PD
open PySem
theorem mem_uniq {α : Type} [DecidableEq α] (xs : List α) : ∀ y, y ∈ uniq xs ↔ y ∈ xs := by
  have go : ∀ (xs acc : List α) (y : α), y ∈ xs.foldl uniqStep acc ↔ y ∈ acc ∨ y ∈ xs := fun xs => by
    induction xs with
    | nil => intro acc y; simp
    | cons x xs ih =>
      intro acc y
      rw [List.foldl_cons, ih]
      unfold uniqStep
      split
      · rename_i h
        have := hasK_iff.mp h
        constructor
        · rintro (h | h)
          · exact .inl h
          · exact .inr (List.mem_cons_of_mem _ h)
        · rintro (h | h)
          · exact .inl h
          · rcases List.mem_cons.mp h with rfl | h
            · exact .inl this
            · exact .inr h
      · simp [or_assoc]
  intro y
  unfold uniq
  rw [go]; simp
theorem nodup_uniq {α : Type} [DecidableEq α] (xs : List α) : (uniq xs).Nodup := by
  have go : ∀ (xs acc : List α), acc.Nodup → (xs.foldl uniqStep acc).Nodup := fun xs => by
    induction xs with
    | nil => intro acc h; exact h
    | cons x xs ih =>
      intro acc h
      rw [List.foldl_cons]
      refine ih _ ?_
      unfold uniqStep
      split
      · exact h
      · rename_i hx
        have : x ∉ acc := fun hm => hx (hasK_iff.mpr hm)
        rw [List.nodup_append]
        refine ⟨h, by simp, fun a ha b hb => ?_⟩
        rw [List.mem_singleton.mp hb]
        rintro rfl
        exact this ha
  exact go xs [] List.nodup_nil
theorem uniq_mono {α : Type} [DecidableEq α] {xs ys : List α} (h : ∀ x ∈ xs, x ∈ ys) : (uniq xs).length ≤ (uniq ys).length :=
  List.Nodup.length_le_of_subset (nodup_uniq xs) fun a ha => (mem_uniq ys a).mpr (h a ((mem_uniq xs a).mp ha))
/-- measures below measures -/
def LeM (a b : List Int) : Prop := ∀ i, a.getD i 0 ≤ b.getD i 0
theorem LeM.refl (a : List Int) : LeM a a := fun _ => Int.le_refl _
theorem LeM.trans {a b c : List Int} (h : LeM a b) (g : LeM b c) : LeM a c := fun i => Int.le_trans (h i) (g i)
theorem leM5 {a b c d e a' b' c' d' e' : Int} (h1 : a ≤ a') (h2 : b ≤ b') (h3 : c ≤ c') (h4 : d ≤ d') (h5 : e ≤ e') : LeM [a, b, c, d, e] [a', b', c', d', e'] := fun i => by
  match i with
  | 0 => exact h1
  | 1 => exact h2
  | 2 => exact h3
  | 3 => exact h4
  | 4 => exact h5
  | n + 5 => simp
/-- items that take time and weigh -/
def pos (ts : List D) : Prop := ∀ t ∈ ts, 0 ≤ pz t ∧ 0 ≤ wz t
theorem meas_cons {t : D} {ts : List D} (h : pos (t :: ts)) : LeM (meas ts) (meas (t :: ts)) := by
  have h0 := h t List.mem_cons_self
  refine leM5 ?_ ?_ ?_ ?_ ?_
  · simp; omega
  · simp; omega
  · rw [List.map_cons, List.tail_cons]
    cases ts with
    | nil => simp
    | cons u us =>
      have h1 := h u (List.mem_cons_of_mem _ List.mem_cons_self)
      simp; omega
  · have := uniq_mono (xs := ts.map fun t => (Sum.inr (kz t) : KeyD)) (ys := (t :: ts).map fun t => (Sum.inr (kz t) : KeyD)) fun x hx => by rw [List.map_cons]; exact List.mem_cons_of_mem _ hx
    omega
  · rw [List.filter_cons]
    split
    · simp; omega
    · exact Int.le_refl _
theorem pos_drop {ts : List D} (h : pos ts) (n : Nat) : pos (ts.drop n) := fun t ht => h t (List.mem_of_mem_drop ht)
theorem pos_take {ts : List D} (h : pos ts) (n : Nat) : pos (ts.take n) := fun t ht => h t (List.mem_of_mem_take ht)
theorem meas_drop : ∀ (n : Nat) {ts : List D}, pos ts → LeM (meas (ts.drop n)) (meas ts)
  | 0, ts, _ => .refl _
  | n + 1, [], _ => .refl _
  | n + 1, t :: ts, h => (meas_drop n fun x hx => h x (List.mem_cons_of_mem _ hx)).trans (meas_cons h)
theorem rch_mono {a b : List Int} (h : LeM a b) : ∀ (n : Nat) (c : D), c.depth < n → isCond c = true → rch a c = true → rch b c = true
  | 0, _, hn, _, _ => absurd hn (Nat.not_lt_zero _)
  | n + 1, c, hn, hc, hr => by
    rcases isCond_of hc with ⟨z, v, rfl, hz, h1, h2⟩ | ⟨z, ps, rfl, hz, hz2, h1, h2, h3⟩
    · rw [rch, if_pos hz] at hr ⊢
      exact decide_eq_true (Int.le_trans (of_decide_eq_true hr) (h _))
    · have e : ∀ ms : List Int, rch ms (.tuple [.str z, .list ps]) = if z = c_ALL then (ps.map (rch ms)).all id else (ps.map (rch ms)).any id := fun ms => by
        rw [rch, if_neg hz, rchV, rchL_map]
        intro b e; cases e
      rw [e] at hr ⊢
      have hp : ∀ p ∈ ps, rch a p = true → rch b p = true := fun p hp => rch_mono h n p (by
        have := deps_mem hp
        simp only [PyData.depth, PyData.depthAll] at hn
        omega) (h3 p hp)
      by_cases hA : z = c_ALL
      · rw [if_pos hA] at hr ⊢
        simp only [List.all_map, List.all_eq_true, Function.comp, id] at hr ⊢
        exact fun p hm => hp p hm (hr p hm)
      · rw [if_neg hA] at hr ⊢
        simp only [List.any_map, List.any_eq_true, Function.comp, id] at hr ⊢
        obtain ⟨p, hm, h4⟩ := hr
        exact ⟨p, hm, hp p hm h4⟩
/-- a cut between two places -/
theorem cut_at (ts : List D) {s e : Nat} (h1 : s ≤ ts.length) (h2 : s ≤ e) : cutD ts (some (s : Int)) (some (e : Int)) = (ts.take e).drop s := by
  unfold cutD
  rw [HT.sIx_nat, HT.sIx_nat, Nat.min_eq_left h1]
  rw [List.drop_take]
  by_cases h : e ≤ ts.length
  · rw [Nat.min_eq_left h]
  · have h' : ts.length ≤ e := by omega
    rw [Nat.min_eq_right h', List.take_of_length_le (by rw [List.length_drop]; omega), List.take_of_length_le (by rw [List.length_drop]; omega)]
theorem fst_range {ts : List D} {c : D} {s e : Int} (h : leastE ts.length s (fun e => rch (meas (cutD ts (some s) (some e))) c) = some e) (h0 : 0 ≤ s) : s < e ∧ e ≤ ts.length ∧ rch (meas (cutD ts (some s) (some e))) c = true := by
  unfold leastE at h
  have h1 := List.find?_some h
  have h2 := List.mem_of_find?_eq_some h
  obtain ⟨i, hi, rfl⟩ := List.mem_map.mp h2
  rw [List.mem_range] at hi
  exact ⟨by omega, by omega, h1⟩
theorem fst_least {n s e : Int} {p : Int → Bool} (h1 : s < e) (h2 : e ≤ n) (hp : p e = true) : ∃ e', leastE n s p = some e' ∧ e' ≤ e := by
  unfold leastE
  have hm : e ∈ ((List.range (n - s).toNat).map fun i : Nat => s + 1 + (i : Int)) := List.mem_map.mpr ⟨(e - s - 1).toNat, by rw [List.mem_range]; omega, by omega⟩
  cases hq : ((List.range (n - s).toNat).map fun i : Nat => s + 1 + (i : Int)).find? p with
  | none =>
    have := List.find?_eq_none.mp hq e hm
    exact absurd hp this
  | some e' =>
    refine ⟨e', rfl, ?_⟩
    -- the first one is the least one
    obtain ⟨hpe, as, bs, hl, hn⟩ := List.find?_eq_some_iff_append.mp hq
    refine Int.not_lt.mp fun hlt => ?_
    have hs : ((List.range (n - s).toNat).map fun i : Nat => s + 1 + (i : Int)).Pairwise (· < ·) := by
      rw [List.pairwise_map]
      exact List.Pairwise.imp (fun h => by omega) List.pairwise_lt_range
    rw [hl] at hs hm
    rcases List.mem_append.mp hm with hm | hm
    · have := hn e hm
      rw [hp] at this; cases this
    · rcases List.mem_cons.mp hm with rfl | hm
      · omega
      · have := (List.pairwise_append.mp hs).2.1
        have := (List.pairwise_cons.mp this).1 e hm
        omega
/-- the end, or one behind the last -/
def endv (ts : List D) (c : D) (s : Int) : Int := (leastE ts.length s fun e => rch (meas (cutD ts (some s) (some e))) c).getD (ts.length + 1)
theorem endv_mono {ts : List D} {c : D} {s s' : Int} (hp : pos ts) (hc : isCond c = true) (h0 : 0 ≤ s) (h1 : s ≤ s') : endv ts c s ≤ endv ts c s' := by
  unfold endv
  cases h : leastE ts.length s' (fun e => rch (meas (cutD ts (some s') (some e))) c) with
  | none =>
    show _ ≤ (ts.length : Int) + 1
    cases h2 : leastE ts.length s (fun e => rch (meas (cutD ts (some s) (some e))) c) with
    | none => exact Int.le_refl _
    | some e => have := (fst_range h2 h0).2.1; show e ≤ _; omega
  | some e =>
    obtain ⟨a, b, g⟩ := fst_range h (by omega)
    have g2 : rch (meas (cutD ts (some s) (some e))) c = true := by
      obtain ⟨m, rfl⟩ : ∃ m : Nat, s = m := ⟨s.toNat, by omega⟩
      obtain ⟨m', rfl⟩ : ∃ m : Nat, s' = m := ⟨s'.toNat, by omega⟩
      obtain ⟨x, rfl⟩ : ∃ m : Nat, e = m := ⟨e.toNat, by omega⟩
      rw [cut_at ts (by omega) (by omega)] at g ⊢
      have ed : (ts.take x).drop m' = ((ts.take x).drop m).drop (m' - m) := by rw [List.drop_drop]; congr 1; omega
      rw [ed] at g
      exact rch_mono (meas_drop _ (pos_drop (pos_take hp _) _)) (c.depth + 1) c (Nat.lt_succ_self _) hc g
    obtain ⟨e', h3, h4⟩ := fst_least (n := ts.length) (s := s) (e := e) (p := fun e => rch (meas (cutD ts (some s) (some e))) c) (by omega) b g2
    rw [h3]
    exact h4
end PD
end S6_
section S7_
set_option Elab.async false
set_option linter.all false
set_option maxRecDepth 100000
set_option maxHeartbeats 2000000
/-! S7: facts about items and traffic; slots of unknown content; stretches. -/
namespace PD
open PySem
theorem item_facts {v : D} (h : isItem v = true) : tame v = true ∧ nice v = true ∧ v.depth ≤ 1 ∧ v.weight ≤ 820 ∧ 0 ≤ pz v ∧ 0 ≤ wz v := by
  obtain ⟨p, w, k, m, rfl, b1, b2, b3, b4, b5⟩ := isItem_of h
  have hg : c_GREATEST = 10 ^ 30 := rfl
  rw [hg] at b2 b4
  obtain ⟨z, ez, k1, k2, k3⟩ := isKind_of b5
  cases ez
  have hk : tame (.str k) = true := decide_eq_true (by omega)
  have w1 := weight_int (i := p) b1 (by omega)
  have w2 := weight_int (i := w) b3 (by omega)
  have hl : ∀ c ∈ k.cps.toList, c < 0x110000 := fun c hc => by
    have := List.all_eq_true.mp k3 c hc
    have hm : c ∈ c_LETTERS.cps.toList := of_decide_eq_true this
    have : c_LETTERS.cps.toList.all (fun c => decide (c < 0x110000)) = true := by decide +kernel
    exact of_decide_eq_true (List.all_eq_true.mp this c hm)
  refine ⟨?_, ?_, ?_, ?_, b1, b3⟩
  · show (true && (true && (tame (.str k) && (true && true))) && _) = true
    rw [hk]; rfl
  · refine nice_tup fun x hx => ?_
    simp only [List.mem_cons, List.not_mem_nil, or_false] at hx
    rcases hx with rfl | rfl | rfl | rfl
    · exact nice_int b1 (by omega)
    · exact nice_int b3 (by omega)
    · exact nice_str hl
    · rfl
  · exact Nat.le_refl 1
  · have e : (PyData.tuple [.int p, .int w, .str k, .bool m]).weight = (PyData.int p).weight + 1 + ((PyData.int w).weight + 1 + (k.length + 1 + (0 + 1 + 0))) := rfl
    rw [e]
    omega
theorem traffic_facts {ts : List D} (h : ts.all isItem = true) (hn : ts.length ≤ 40) : isTraffic (.list ts) = true ∧ tame (.list ts) = true ∧ nice (.list ts) = true ∧ (PyData.list ts).depth ≤ 2 ∧ (PyData.list ts).weight ≤ 33000 ∧ pos ts := by
  have hi : ∀ x ∈ ts, isItem x = true := List.all_eq_true.mp h
  have hw := weight_list (W := 820) fun x hx => (item_facts (hi x hx)).2.2.2.1
  refine ⟨?_, ?_, nice_list fun x hx => (item_facts (hi x hx)).2.1, depth_list (W := 1) fun x hx => (item_facts (hi x hx)).2.2.1, by omega, fun x hx => (item_facts (hi x hx)).2.2.2.2⟩
  · show (decide _ && _) = true; rw [h, decide_eq_true hn]; rfl
  · show (tames ts && decide _) = true
    rw [tames_of fun x hx => (item_facts (hi x hx)).1, decide_eq_true (by omega)]; rfl
theorem ne_nil {ts : List D} (h : nice (.list ts) = true) (hd : (PyData.list ts).depth ≤ 60) : dNe (.list ts) (.list []) = some (.d (.bool (!ts.isEmpty))) := by
  obtain ⟨a, b, c⟩ := nice_of h
  unfold dNe eqP
  rw [show eqS (.list ts) (.list []) = none from rfl]
  dsimp only
  have e1 : SeqAt.shaped (.list ts) = true := by
    show (PyData.canLay0 (.list ts) && decide ((PyData.list ts).depth ≤ 64)) = true
    rw [a, decide_eq_true (by omega)]; rfl
  rw [show unS (.list ts) = .list ts from rfl, show unS (.list []) = .list [] from rfl, if_pos ⟨e1, rfl⟩]
  cases ts <;> rfl
theorem ne_scr (ns : List Int) : dNe (.dict [(.none, .list (ns.map .int))]) (.list []) = some (.d (.bool (!ns.isEmpty))) := by
  unfold dNe eqP
  rw [show eqS (.dict [(.none, .list (ns.map .int))]) (.list []) = none from rfl]
  dsimp only
  rw [show unS (.dict [(.none, .list (ns.map .int))]) = .list (ns.map .int) from rfl, show unS (.list []) = .list [] from rfl, if_pos ⟨shaped_ints ns, rfl⟩]
  cases ns <;> rfl
def ju (s : Sl) : Prop := s = .un ∨ ∃ x, s = .d x
theorem ju_un : ju .un := .inl rfl
theorem ju_d (x : D) : ju (.d x) := .inr ⟨x, rfl⟩
@[simp ↓] theorem backM_ju {s : Sl} (h : ju s) (m : List Bool) (r r' : Env) (Q : Env → Prop) : backM (false :: m) (s :: r) (s :: r') Q = backM m r r' fun e => Q (s :: e) := by
  rcases h with rfl | ⟨x, rfl⟩
  · exact backM_u ..
  · exact backM_d ..
@[simp ↓] theorem backM_ju0 {s : Sl} (h : ju s) (r r' : Env) (Q : Env → Prop) : backM [] (s :: r) (s :: r') Q = backM [] r r' fun e => Q (s :: e) := by
  rcases h with rfl | ⟨x, rfl⟩
  · exact backM_u0 ..
  · exact backM_d0 ..
/-- a slot of unknown content that may stand beside what is lent -/
def jo (s : Sl) : Prop := s = .un ∨ (∃ x, s = .d x) ∨ ∃ xs, s = .own xs ∧ flats xs = true
theorem jo_un : jo .un := .inl rfl
theorem jo_d (x : D) : jo (.d x) := .inr (.inl ⟨x, rfl⟩)
theorem jo_o {xs : List D} (h : flats xs = true) : jo (.own xs) := .inr (.inr ⟨xs, rfl, h⟩)
@[simp ↓] theorem backM_jo {s : Sl} (h : jo s) (m : List Bool) (r r' : Env) (Q : Env → Prop) : backM (false :: m) (s :: r) (s :: r') Q = backM m r r' fun e => Q (s :: e) := by
  rcases h with rfl | ⟨x, rfl⟩ | ⟨x, rfl, h⟩
  · exact backM_u ..
  · exact backM_d ..
  · rw [backM_o]; unfold ifp; rw [h]; simp
@[simp ↓] theorem backM_jo0 {s : Sl} (h : jo s) (r r' : Env) (Q : Env → Prop) : backM [] (s :: r) (s :: r') Q = backM [] r r' fun e => Q (s :: e) := by
  rcases h with rfl | ⟨x, rfl⟩ | ⟨x, rfl, h⟩
  · exact backM_u0 ..
  · exact backM_d0 ..
  · rw [backM_o0]; unfold ifp; rw [h]; simp
def isStretch (xs : List D) : Bool := match xs with
  | [.list ts, a, b] => isInt a 0 (some ts.length) && (match a with
    | .int i => isInt b (i + 1) (some ts.length)
    | _ => false)
  | _ => false
def okStretch (xs : List D) : Bool := match xs with
  | [.list _, a, b] => tame a && tame b
  | _ => false
abbrev sp_require_stretch : Sp := spReq 3 okStretch isStretch "InvalidStretch"
def t_require_stretch : TS := (sIf (bOr (bNot (bTest (rCall sp_is_integer [] (aCons (rVar 1) (aCons (rC (.int 0)) (aCons (rCB dLen (aCons (rVar 0) aNil)) aNil)))))) (bNot (bTest (rCall sp_is_integer [] (aCons (rVar 2) (aCons (rOp dAdd (rVar 1) (rC (.int 1))) (aCons (rCB dLen (aCons (rVar 0) aNil)) aNil))))))) (sRaise "InvalidStretch") sNext)
theorem m_require_stretch : Meets 3 3 sp_require_stretch t_require_stretch := meets_Req (by
  intro xs R Ex hl hk h1 h2
  unfold okStretch at hk
  split at hk
  · rename_i ts a b
    rw [Bool.and_eq_true] at hk
    show t_require_stretch (bodyEn 3 R Ex) [.d (.list ts), .d a, .d b]
    unfold t_require_stretch
    simp -dsimp [un_eq (int3 hk.1)]
    refine br_split (fun h => ?_) (fun h => ?_)
    · have h : isInt a 0 (some ts.length) = false := by simpa using h
      exact h2 (by simp [isStretch, h]) _
    · have h : isInt a 0 (some ts.length) = true := by simpa using h
      obtain ⟨i, rfl, _⟩ := isInt_of h
      simp -dsimp [un_eq (int3 hk.2)]
      refine br_split (fun g => ?_) (fun g => ?_)
      · exact h2 (by simpa [isStretch, h] using g) _
      · exact h1 (by simpa [isStretch, h] using g) _
  · cases hk)
def f_reaches : List D → Option Ret
  | [.list ts, c, .int s, .int e] => if isTraffic (.list ts) = true ∧ tame (.list ts) = true ∧ okC c = true ∧ 0 ≤ s ∧ s < e ∧ e ≤ ts.length then some (.d (.bool (rch (meas (cutD ts (some s) (some e))) c))) else none
  | _ => none
abbrev sp_reaches : Sp := spF 4 f_reaches
theorem reaches1 {ts : List D} {c : D} {s e : Int} (h1 : isTraffic (.list ts) = true) (h2 : tame (.list ts) = true) (h3 : okC c = true) (h4 : 0 ≤ s) (h5 : s < e) (h6 : e ≤ ts.length) : f_reaches [.list ts, c, .int s, .int e] = some (.d (.bool (rch (meas (cutD ts (some s) (some e))) c))) := by
  show (if _ then _ else _) = _
  rw [if_pos ⟨h1, h2, h3, h4, h5, h6⟩]
def t_reaches : TS := (sSeq (sDrop (rCall sp_require_traffic [] (aCons (rVar 0) aNil)))
    (sSeq (sDrop (rCall sp_require_condition [] (aCons (rVar 1) aNil)))
    (sSeq (sDrop (rCall sp_require_stretch [] (aCons (rVar 0) (aCons (rVar 2) (aCons (rVar 3) aNil)))))
    (sRet (rCall (sp_is_reached 20) [] (aCons (rVar 1) (aCons (rCall sp_measures_in [] (aCons (rVar 0) (aCons (rVar 2) (aCons (rVar 3) aNil)))) aNil)))))))
theorem m_reaches : Meets 4 4 sp_reaches t_reaches := meets_F (by
  intro xs r R Ex hl hf k
  unfold f_reaches at hf
  split at hf
  · rename_i ts c s e
    split at hf
    · rename_i hh
      obtain ⟨h1, h2, h3, h4, h5, h6⟩ := hh
      cases hf
      obtain ⟨a1, a2⟩ := isTraffic_of h1
      have hc := Bool.and_eq_true_iff.mp h3
      show t_reaches (bodyEn 4 R Ex) [.d (.list ts), .d c, .d (.int s), .d (.int e)]
      unfold t_reaches
      simp -dsimp
      refine ifp_of (by simp [tames, h2]) ?_
      refine br_split (fun _ => ?_) (fun q => absurd (h1.symm.trans q) (by decide))
      simp -dsimp
      refine ifp_of hc.2 ?_
      refine br_split (fun _ => ?_) (fun q => absurd (hc.1.symm.trans q) (by decide))
      simp -dsimp
      refine ifp_of rfl ?_
      refine br_split (fun _ => ?_) (fun q => absurd q (by simp [isStretch, isInt]; omega))
      simp -dsimp [un_eq (measures1 (like_of_items a2) (show ts.length ≤ 4000 by omega)), un_eq (reach1 (meas_len _) hc.1 (okv_of hc.2).2)]
      exact k _
    · cases hf
  · cases hf)
theorem sum_nonneg {α : Type} {f : α → Int} {xs : List α} (h : ∀ x ∈ xs, 0 ≤ f x) : 0 ≤ (xs.map f).sum := by
  induction xs with
  | nil => simp
  | cons x xs ih =>
    have := h x List.mem_cons_self
    have := ih fun y hy => h y (List.mem_cons_of_mem _ hy)
    simp; omega
theorem meas_app {xs ys : List D} (h : pos (xs ++ ys)) : LeM (meas xs) (meas (xs ++ ys)) := by
  have h1 : 0 ≤ (ys.map wz).sum := sum_nonneg fun x hx => (h x (List.mem_append.mpr (.inr hx))).2
  have h2 : 0 ≤ (ys.map pz).sum := sum_nonneg fun x hx => (h x (List.mem_append.mpr (.inr hx))).1
  refine leM5 ?_ ?_ ?_ ?_ ?_
  · simp; omega
  · simp; omega
  · cases xs with
    | nil =>
      rw [List.nil_append, List.map_nil, ← List.map_tail]
      have : 0 ≤ (ys.tail.map pz).sum := sum_nonneg fun x hx => (h x (List.mem_append.mpr (.inr (List.mem_of_mem_tail hx)))).1
      simpa using this
    | cons x xs => simp; omega
  · have := uniq_mono (xs := xs.map fun t => (Sum.inr (kz t) : KeyD)) (ys := (xs ++ ys).map fun t => (Sum.inr (kz t) : KeyD)) fun x hx => by rw [List.map_append]; exact List.mem_append.mpr (.inl hx)
    omega
  · rw [List.filter_append, List.length_append]; omega
theorem meas_take {ts : List D} (h : pos ts) (n : Nat) : LeM (meas (ts.take n)) (meas ts) := by
  have := meas_app (xs := ts.take n) (ys := ts.drop n) (by rw [List.take_append_drop]; exact h)
  rwa [List.take_append_drop] at this
theorem meas_wider {ts : List D} (h : pos ts) {s e s' e' : Int} (h0 : 0 ≤ s') (h1 : s' ≤ s) (h2 : s ≤ e) (h3 : e ≤ e') (h4 : e ≤ ts.length) : LeM (meas (cutD ts (some s) (some e))) (meas (cutD ts (some s') (some e'))) := by
  obtain ⟨a, rfl⟩ : ∃ m : Nat, s = m := ⟨s.toNat, by omega⟩
  obtain ⟨b, rfl⟩ : ∃ m : Nat, s' = m := ⟨s'.toNat, by omega⟩
  obtain ⟨x, rfl⟩ : ∃ m : Nat, e = m := ⟨e.toNat, by omega⟩
  obtain ⟨y, rfl⟩ : ∃ m : Nat, e' = m := ⟨e'.toNat, by omega⟩
  rw [cut_at ts (by omega) (by omega), cut_at ts (by omega) (by omega)]
  have e1 : (ts.take x).drop a = ((ts.take x).drop b).drop (a - b) := by rw [List.drop_drop]; congr 1; omega
  have e2 : (ts.take x).drop b = ((ts.take y).drop b).take (x - b) := by
    rw [List.drop_take, List.drop_take, List.take_take]; congr 1; omega
  rw [e1]
  refine (meas_drop _ (pos_drop (pos_take h _) _)).trans ?_
  rw [e2]
  exact meas_take (pos_drop (pos_take h _) _) _
theorem repr_bool (b : Bool) : dRepr [.bool b] = some (.d (.str (if b then "True" else "False"))) := rfl
end PD
end S7_
section S8_
set_option Elab.async false
set_option linter.all false
set_option maxRecDepth 100000
set_option maxHeartbeats 2000000
/-! S8: tables, while. -/
namespace PD
open PySem
/-- the table in a slot -/
def tbX (i : Nat) (e : Env) (P : List (KeyD × D) → (List (KeyD × D) → Env) → Prop) (_ : Tg P := ⟨⟩) : Prop := ∃ kvs, e[i]? = some (.tab kvs) ∧ P kvs fun ys => e.set i (.tab ys)
@[simp ↓] theorem tb_0 (xs : List (KeyD × D)) (r : Env) (P : List (KeyD × D) → (List (KeyD × D) → Env) → Prop) : tbX 0 (.tab xs :: r) P = P xs fun ys => .tab ys :: r := by unfold tbX; simp
@[simp ↓] theorem tb_1 (s0 : Sl) (xs : List (KeyD × D)) (r : Env) (P : List (KeyD × D) → (List (KeyD × D) → Env) → Prop) : tbX 1 (s0 :: .tab xs :: r) P = P xs fun ys => s0 :: .tab ys :: r := by unfold tbX; simp
@[simp ↓] theorem tb_2 (s0 s1 : Sl) (xs : List (KeyD × D)) (r : Env) (P : List (KeyD × D) → (List (KeyD × D) → Env) → Prop) : tbX 2 (s0 :: s1 :: .tab xs :: r) P = P xs fun ys => s0 :: s1 :: .tab ys :: r := by unfold tbX; simp
@[simp ↓] theorem tb_3 (s0 s1 s2 : Sl) (xs : List (KeyD × D)) (r : Env) (P : List (KeyD × D) → (List (KeyD × D) → Env) → Prop) : tbX 3 (s0 :: s1 :: s2 :: .tab xs :: r) P = P xs fun ys => s0 :: s1 :: s2 :: .tab ys :: r := by unfold tbX; simp
@[simp ↓] theorem tb_4 (s0 s1 s2 s3 : Sl) (xs : List (KeyD × D)) (r : Env) (P : List (KeyD × D) → (List (KeyD × D) → Env) → Prop) : tbX 4 (s0 :: s1 :: s2 :: s3 :: .tab xs :: r) P = P xs fun ys => s0 :: s1 :: s2 :: s3 :: .tab ys :: r := by unfold tbX; simp
@[simp ↓] theorem tb_5 (s0 s1 s2 s3 s4 : Sl) (xs : List (KeyD × D)) (r : Env) (P : List (KeyD × D) → (List (KeyD × D) → Env) → Prop) : tbX 5 (s0 :: s1 :: s2 :: s3 :: s4 :: .tab xs :: r) P = P xs fun ys => s0 :: s1 :: s2 :: s3 :: s4 :: .tab ys :: r := by unfold tbX; simp
@[simp ↓] theorem tb_6 (s0 s1 s2 s3 s4 s5 : Sl) (xs : List (KeyD × D)) (r : Env) (P : List (KeyD × D) → (List (KeyD × D) → Env) → Prop) : tbX 6 (s0 :: s1 :: s2 :: s3 :: s4 :: s5 :: .tab xs :: r) P = P xs fun ys => s0 :: s1 :: s2 :: s3 :: s4 :: s5 :: .tab ys :: r := by unfold tbX; simp
@[simp ↓] theorem tb_7 (s0 s1 s2 s3 s4 s5 s6 : Sl) (xs : List (KeyD × D)) (r : Env) (P : List (KeyD × D) → (List (KeyD × D) → Env) → Prop) : tbX 7 (s0 :: s1 :: s2 :: s3 :: s4 :: s5 :: s6 :: .tab xs :: r) P = P xs fun ys => s0 :: s1 :: s2 :: s3 :: s4 :: s5 :: s6 :: .tab ys :: r := by unfold tbX; simp
@[simp ↓] theorem tb_8 (s0 s1 s2 s3 s4 s5 s6 s7 : Sl) (xs : List (KeyD × D)) (r : Env) (P : List (KeyD × D) → (List (KeyD × D) → Env) → Prop) : tbX 8 (s0 :: s1 :: s2 :: s3 :: s4 :: s5 :: s6 :: s7 :: .tab xs :: r) P = P xs fun ys => s0 :: s1 :: s2 :: s3 :: s4 :: s5 :: s6 :: s7 :: .tab ys :: r := by unfold tbX; simp
@[simp ↓] theorem tb_9 (s0 s1 s2 s3 s4 s5 s6 s7 s8 : Sl) (xs : List (KeyD × D)) (r : Env) (P : List (KeyD × D) → (List (KeyD × D) → Env) → Prop) : tbX 9 (s0 :: s1 :: s2 :: s3 :: s4 :: s5 :: s6 :: s7 :: s8 :: .tab xs :: r) P = P xs fun ys => s0 :: s1 :: s2 :: s3 :: s4 :: s5 :: s6 :: s7 :: s8 :: .tab ys :: r := by unfold tbX; simp
@[simp ↓] theorem tb_10 (s0 s1 s2 s3 s4 s5 s6 s7 s8 s9 : Sl) (xs : List (KeyD × D)) (r : Env) (P : List (KeyD × D) → (List (KeyD × D) → Env) → Prop) : tbX 10 (s0 :: s1 :: s2 :: s3 :: s4 :: s5 :: s6 :: s7 :: s8 :: s9 :: .tab xs :: r) P = P xs fun ys => s0 :: s1 :: s2 :: s3 :: s4 :: s5 :: s6 :: s7 :: s8 :: s9 :: .tab ys :: r := by unfold tbX; simp
@[simp ↓] theorem tb_11 (s0 s1 s2 s3 s4 s5 s6 s7 s8 s9 s10 : Sl) (xs : List (KeyD × D)) (r : Env) (P : List (KeyD × D) → (List (KeyD × D) → Env) → Prop) : tbX 11 (s0 :: s1 :: s2 :: s3 :: s4 :: s5 :: s6 :: s7 :: s8 :: s9 :: s10 :: .tab xs :: r) P = P xs fun ys => s0 :: s1 :: s2 :: s3 :: s4 :: s5 :: s6 :: s7 :: s8 :: s9 :: s10 :: .tab ys :: r := by unfold tbX; simp
@[simp ↓] theorem tb_12 (s0 s1 s2 s3 s4 s5 s6 s7 s8 s9 s10 s11 : Sl) (xs : List (KeyD × D)) (r : Env) (P : List (KeyD × D) → (List (KeyD × D) → Env) → Prop) : tbX 12 (s0 :: s1 :: s2 :: s3 :: s4 :: s5 :: s6 :: s7 :: s8 :: s9 :: s10 :: s11 :: .tab xs :: r) P = P xs fun ys => s0 :: s1 :: s2 :: s3 :: s4 :: s5 :: s6 :: s7 :: s8 :: s9 :: s10 :: s11 :: .tab ys :: r := by unfold tbX; simp
@[simp ↓] theorem tb_13 (s0 s1 s2 s3 s4 s5 s6 s7 s8 s9 s10 s11 s12 : Sl) (xs : List (KeyD × D)) (r : Env) (P : List (KeyD × D) → (List (KeyD × D) → Env) → Prop) : tbX 13 (s0 :: s1 :: s2 :: s3 :: s4 :: s5 :: s6 :: s7 :: s8 :: s9 :: s10 :: s11 :: s12 :: .tab xs :: r) P = P xs fun ys => s0 :: s1 :: s2 :: s3 :: s4 :: s5 :: s6 :: s7 :: s8 :: s9 :: s10 :: s11 :: s12 :: .tab ys :: r := by unfold tbX; simp
@[simp ↓] theorem tb_14 (s0 s1 s2 s3 s4 s5 s6 s7 s8 s9 s10 s11 s12 s13 : Sl) (xs : List (KeyD × D)) (r : Env) (P : List (KeyD × D) → (List (KeyD × D) → Env) → Prop) : tbX 14 (s0 :: s1 :: s2 :: s3 :: s4 :: s5 :: s6 :: s7 :: s8 :: s9 :: s10 :: s11 :: s12 :: s13 :: .tab xs :: r) P = P xs fun ys => s0 :: s1 :: s2 :: s3 :: s4 :: s5 :: s6 :: s7 :: s8 :: s9 :: s10 :: s11 :: s12 :: s13 :: .tab ys :: r := by unfold tbX; simp
@[simp ↓] theorem tb_15 (s0 s1 s2 s3 s4 s5 s6 s7 s8 s9 s10 s11 s12 s13 s14 : Sl) (xs : List (KeyD × D)) (r : Env) (P : List (KeyD × D) → (List (KeyD × D) → Env) → Prop) : tbX 15 (s0 :: s1 :: s2 :: s3 :: s4 :: s5 :: s6 :: s7 :: s8 :: s9 :: s10 :: s11 :: s12 :: s13 :: s14 :: .tab xs :: r) P = P xs fun ys => s0 :: s1 :: s2 :: s3 :: s4 :: s5 :: s6 :: s7 :: s8 :: s9 :: s10 :: s11 :: s12 :: s13 :: s14 :: .tab ys :: r := by unfold tbX; simp
@[simp ↓] theorem sSetK_w {D' : En} {env : Env} (i : Nat) (te tk : TR) : sSetK i te tk D' env = tbX i env fun _ _ => te D'.ex env fun x e1 => tk D'.ex e1 fun k e2 => tbX i e2 fun kvs kk => un (keyOf k.toD) fun q => ifp (kvs.length < 16777216) <| D'.nx (kk (putK q x.toD kvs)) := by
  unfold sSetK fz tbX un ifp
  apply propext
  constructor
  · rintro ⟨⟨kvs, h⟩, g⟩
    refine ⟨kvs, h, ?_⟩
    have e : (fun (x : Ret) (e1 : Env) => tk D'.ex e1 fun y e2 => ∃ kvs q, e2[i]? = some (.tab kvs) ∧ keyOf y.toD = some q ∧ kvs.length < 16777216 ∧ D'.nx (e2.set i (.tab (putK q x.toD kvs)))) = fun x e1 => tk D'.ex e1 fun k e2 => ∃ kvs, e2[i]? = some (.tab kvs) ∧ ∃ z, keyOf k.toD = some z ∧ kvs.length < 16777216 ∧ D'.nx (e2.set i (.tab (putK z x.toD kvs))) := by
      funext x e1; congr 1; funext k e2
      apply propext
      constructor
      · rintro ⟨kvs, q, a, b, c, d⟩; exact ⟨kvs, a, q, b, c, d⟩
      · rintro ⟨kvs, a, q, b, c, d⟩; exact ⟨kvs, q, a, b, c, d⟩
    rw [← e]; exact g
  · rintro ⟨kvs, h, g⟩
    refine ⟨⟨kvs, h⟩, ?_⟩
    have e : (fun (x : Ret) (e1 : Env) => tk D'.ex e1 fun y e2 => ∃ kvs q, e2[i]? = some (.tab kvs) ∧ keyOf y.toD = some q ∧ kvs.length < 16777216 ∧ D'.nx (e2.set i (.tab (putK q x.toD kvs)))) = fun x e1 => tk D'.ex e1 fun k e2 => ∃ kvs, e2[i]? = some (.tab kvs) ∧ ∃ z, keyOf k.toD = some z ∧ kvs.length < 16777216 ∧ D'.nx (e2.set i (.tab (putK z x.toD kvs))) := by
      funext x e1; congr 1; funext k e2
      apply propext
      constructor
      · rintro ⟨kvs, q, a, b, c, d⟩; exact ⟨kvs, a, q, b, c, d⟩
      · rintro ⟨kvs, a, q, b, c, d⟩; exact ⟨kvs, q, a, b, c, d⟩
    rw [e]; exact g
@[simp ↓] theorem keyOf_int (i : Int) : keyOf (.int i) = some (.inl i) := rfl
@[simp ↓] theorem keyOf_str (i : Str) : keyOf (.str i) = some (.inr i) := rfl
theorem while_iv {t : TB} {tb : TS} {D' : En} {env : Env} (I : Nat → Env → Prop) (m : Nat) (h0 : I m env)
    (hs : ∀ m e, I m e → t D'.ex e fun b e1 => br b (tb { D' with nx := fun e2 => Kp (∃ m', m' < m ∧ I m' e2), ct := fun e2 => Kp (∃ m', m' < m ∧ I m' e2), bk := D'.nx } e1) (D'.nx e1)) : sWhile t tb D' env := ⟨I, ⟨m, h0⟩, hs⟩
theorem putK_keys (q : KeyD) (v : D) (kvs : List (KeyD × D)) : (putK q v kvs).map (·.1) = uniqStep (kvs.map (·.1)) q := by
  have e : (kvs.any fun kv => decide (kv.1 = q)) = hasK (kvs.map (·.1)) q := by
    unfold hasK
    rw [List.any_map]
    congr 1; funext kv
    simp [eq_comm]
  unfold putK uniqStep
  rw [e]
  split
  · rw [List.map_map]
    refine List.map_congr_left fun kv _ => ?_
    show (if kv.1 = q then (kv.1, v) else kv).1 = kv.1
    split <;> rfl
  · rw [List.map_append]; rfl
theorem len_tab (kvs : List (KeyD × D)) : dLenT [(Ret.tab kvs).toD] = some (.d (.int kvs.length)) := by
  unfold dLenT
  have h : (kvs.map fun p => (keyD p.1, p.2)).all (fun q => keyOk q.1) = true := by
    rw [List.all_map]
    refine List.all_eq_true.mpr fun p _ => ?_
    show keyOk (keyD p.1) = true
    cases p.1 <;> rfl
  show (if (kvs.map fun p => (keyD p.1, p.2)).all (fun q => keyOk q.1) = true then some (Ret.d (.int ((kvs.map fun p => (keyD p.1, p.2)).length : Int))) else none) = _
  rw [if_pos h, List.length_map]
def spSrc : Sp := fun as R _ => ∃ (ns : List Int) (i : Int), as = [.d (scrD ns), .d (.int i)] ∧ ns.length ≤ 63 ∧ 0 ≤ i ∧ i ≤ 1000 ∧ ∀ src s, Src src 0 → R (.own src) s
theorem ary_src : Ary spSrc 2 := by rintro _ _ _ ⟨ns, i, rfl, _⟩; rfl
def srcX (xs : List D) (P : List D → Prop) (_ : Tg P := ⟨⟩) : Prop := ∃ (ns : List Int) (i : Int), xs = [scrD ns, .int i] ∧ ns.length ≤ 63 ∧ 0 ≤ i ∧ i ≤ 1000 ∧ ∀ src, Src src 0 → P src
@[simp ↓] theorem rCall_src (ts : TA) (E : EK) (env : Env) (P : Ret → Env → Prop) : rCall spSrc [] ts E env P = ts E env fun xs e1 => srcX xs fun src => P (.own src) e1 := by
  unfold rCall
  congr 1; funext xs e1
  rw [List.append_nil]
  apply propext
  constructor
  · rintro ⟨ns, i, h1, h2, h3, h4, h5⟩
    exact ⟨ns, i, map_d_inj (ys := [scrD ns, .int i]) h1, h2, h3, h4, fun src hs => h5 src [] hs⟩
  · rintro ⟨ns, i, h1, h2, h3, h4, h5⟩
    subst h1
    exact ⟨ns, i, rfl, h2, h3, h4, fun src s hs => h5 src hs⟩
theorem pickK_of {ns : List Int} {i : Int} {P : Ret → Prop} (h0 : 0 ≤ i) (h1 : i < ns.length) (k : ∀ v : Int, P (.d (.int v))) : un (dIx (.dict [(.none, .list (ns.map .int))]) (.int i)) P := by
  obtain ⟨v, e, hm⟩ := atI_mem (xs := ns.map PyData.int) h0 (by simpa using h1)
  obtain ⟨x, _, rfl⟩ := List.mem_map.mp hm
  refine ⟨.d (.int x), ?_, k x⟩
  show (L2.atI (ns.map PyData.int) i).map Ret.d = _
  rw [e]; rfl
@[simp ↓] theorem gLst_w {env : Env} (n : Nat) (t : TGs) (x : D) (Q : Env → Prop) : gLst n t x env Q = isL x fun xs => ifp (xs.length = n) <| t xs env Q := rfl
end PD
end S8_
section K02_
set_option Elab.async false
set_option linter.all false
set_option maxRecDepth 100000
set_option maxHeartbeats 2000000
/-! K02: times and measures; what laws k01 to k04 draw. -/
namespace PD
open PySem
abbrev sp__law_source : Sp := spSrc
def t__law_source_1 : TS := (sRet (rLst (aCons (rCB dMax (aCons (rC (.int 0)) (aCons (rOp dSub (rCB dAbs (aCons (rVar 2) aNil)) (rOp dPow (rC (.int 10)) (rC (.int 18)))) aNil))) (aCons (rOp dAdd (rOp dAdd (rOp dMul (rOp dMod (rCB dAbs (aCons (rVar 2) aNil)) (rOp dAdd (rOp dPow (rC (.int 10)) (rC (.int 37))) (rC (.int 43)))) (rC (.int 96))) (rOp dMul (rC (.int 7)) (rVar 1))) (rC (.int 11))) (aCons (rC (.int 0)) aNil)))))
def t__law_source : TS := (sSeq (sAsg (rIf (bTest (rOp dLt (rVar 1) (rCB dLen (aCons (rVar 0) aNil)))) (rOp dIx (rVar 0) (rVar 1)) (rC (.int 0))) 2)
    t__law_source_1)
theorem m__law_source : Meets 2 3 sp__law_source t__law_source := meets_of (by
  rintro as R Ex ⟨ns, i, rfl, hn, h0, h1, k⟩
  show t__law_source (bodyEn 2 R Ex) [.d (.dict [(.none, .list (ns.map .int))]), .d (.int i), .un]
  unfold t__law_source
  have fin : ∀ cell : Int, t__law_source_1 (bodyEn 2 R Ex) [.d (.dict [(.none, .list (ns.map .int))]), .d (.int i), .d (.int cell)] := fun cell => by
    unfold t__law_source_1
    simp -dsimp
    have a1 := Int.emod_nonneg (cell.natAbs : Int) (show (10000000000000000000000000000000000043 : Int) ≠ 0 by decide)
    have a2 := Int.emod_lt_of_pos (cell.natAbs : Int) (show (0 : Int) < 10000000000000000000000000000000000043 by decide)
    refine ⟨mulOk_of (natAbs_lt (B := 2 ^ 200) (by omega) (by omega) 10000) (by decide), ?_⟩
    simp -dsimp
    refine ⟨mulOk_of (by decide) (natAbs_lt (B := 2 ^ 200) (by omega) (by omega) 10000), ?_⟩
    simp -dsimp
    exact k _ _ ⟨_, _, _, rfl, by omega, by omega, by omega, by omega⟩
  simp -dsimp
  refine br_split (fun h2 => ?_) (fun h2 => ?_)
  · simp
    refine pickK_of h0 (by simpa using h2) fun v => ?_
    simpa using fin v
  · simpa using fin 0)
def t__law_draw : TS := (sSeq (sIf (bBor [0] (bTest (rOp dGt (rOp dIx (rVar 0) (rC (.int 0))) (rC (.int 0))))) (sSeq (sAsg (rBor [0] (rOp dMod (rOp dIx (rVar 0) (rC (.int 0))) (rVar 1))) 3)
    (sSeq (sSetI 0 (rBor [0] (rOp dFdiv (rOp dIx (rVar 0) (rC (.int 0))) (rVar 1))) (rC (.int 0)))
    (sRet (rMove 3)))) sNext)
    (sSeq (sSetI 0 (rBor [0] (rOp dAdd (rOp dIx (rVar 0) (rC (.int 2))) (rC (.int 1)))) (rC (.int 2)))
    (sSeq (sAsg (rBor [0] (rOp dMod (rOp dPow (rOp dAdd (rOp dIx (rVar 0) (rC (.int 1))) (rOp dMul (rC (.int 15485863)) (rOp dIx (rVar 0) (rC (.int 2))))) (rC (.int 3))) (rOp dAdd (rOp dPow (rC (.int 10)) (rC (.int 38))) (rC (.int 133))))) 2)
    (sSeq (sAsg (rBor [0, 2] (rOp dMod (rOp dPow (rOp dAdd (rVar 2) (rOp dMul (rC (.int 32452843)) (rOp dIx (rVar 0) (rC (.int 2))))) (rC (.int 3))) (rOp dAdd (rOp dPow (rC (.int 10)) (rC (.int 40))) (rC (.int 121))))) 2)
    (sRet (rOp dMod (rOp dFdiv (rVar 2) (rC (.int 65537))) (rVar 1)))))))
abbrev sp__law_draw : Sp := spDraw
theorem m__law_draw : Meets 2 4 sp__law_draw t__law_draw := meets_S (by
  rintro src xs N R Ex hl ⟨a, b, c, rfl, b0, b1, c0, c1⟩ hN ⟨n, rfl, hn, hn'⟩ k
  show t__law_draw (bodyEn 2 R Ex) [.par [.int a, .int b, .int c], .d (.int n), .un, .un]
  unfold t__law_draw
  have hn2 : 0 < n := by omega
  have hdv : divOk a n = true := divOk_of (by omega) (Int.lt_of_le_of_lt hn' (by decide))
  unfold LIM at hN
  simp -dsimp
  refine br_split (fun h => ?_) (fun h => ?_)
  · simp -dsimp [hn2, hdv]
    exact k _ _ _ ⟨_, _, _, rfl, b0, b1, c0, by omega⟩ ⟨n, _, rfl, rfl, Int.emod_nonneg _ (by omega), Int.emod_lt_of_pos _ hn2⟩ rfl
  · simp -dsimp
    refine ⟨mulOk_of (by decide) (natAbs_lt (B := 10 ^ 15 + 2) (by omega) (by omega) 10000), ?_⟩
    simp -dsimp
    refine ⟨powOk_of (by decide) (by decide) (natAbs_lt (B := 10 ^ 201) (by omega) (by omega) 10000), ?_⟩
    simp -dsimp
    refine ⟨mulOk_of (by decide) (natAbs_lt (B := 10 ^ 15 + 2) (by omega) (by omega) 10000), ?_⟩
    simp -dsimp
    have a1 := Int.emod_nonneg ((b + 15485863 * (c + 1)) ^ 3) (show (100000000000000000000000000000000000133 : Int) ≠ 0 by decide)
    have a2 := Int.emod_lt_of_pos ((b + 15485863 * (c + 1)) ^ 3) (show (0 : Int) < 100000000000000000000000000000000000133 by decide)
    refine ⟨powOk_of (by decide) (by decide) (natAbs_lt (B := 10 ^ 201) (by omega) (by omega) 10000), ?_⟩
    simp -dsimp [hn2, divOk_of (i := ((((b + 15485863 * (c + 1)) ^ 3 % 100000000000000000000000000000000000133) + 32452843 * (c + 1)) ^ 3 % 10000000000000000000000000000000000000121)) (j := 65537) (by decide) (by decide)]
    exact k _ _ _ ⟨a, b, c + 1, rfl, b0, b1, by omega, by omega⟩ ⟨n, _, rfl, rfl, Int.emod_nonneg _ (by omega), Int.emod_lt_of_pos _ hn2⟩ rfl)
theorem isKind_cps {z : Str} (h0 : 1 ≤ z.cps.toList.length) (h1 : z.cps.toList.length ≤ 8) (h : ∀ c ∈ z.cps.toList, isLet c = true) : isKind (.str z) = true := by
  show (decide _ && decide _ && _) = true
  rw [len_toList, decide_eq_true h0, decide_eq_true h1, List.all_eq_true.mpr h]
  rfl
/-- a kind for each number -/
def t__law_kind_2 : TS := (sSeq (sWhile (bTest (rOp dGt (rVar 1) (rC (.int 1)))) (sSeq (sAsg (rOp dAdd (rOp dIx (rC (.str "ab")) (rOp dMod (rVar 1) (rC (.int 2)))) (rVar 2)) 2)
    (sAsg (rOp dFdiv (rVar 1) (rC (.int 2))) 1)))
    (sRet (rMove 2)))
def t__law_kind_1 : TS := (sSeq (sPar [1, 2] [(rOp dSub (rVar 0) (rC (.int 50))), (rC (.str ""))])
    t__law_kind_2)
def t__law_kind : TS := (sSeq (sIf (bTest (rOp dLt (rVar 0) (rC (.int 52)))) (sRet (rOp dAdd (rOp dMul (rC (.str "abcdefg")) (rOp dFdiv (rVar 0) (rC (.int 26)))) (rOp dIx (rC (.str "abcdefghijklmnopqrstuvwxyz")) (rOp dMod (rVar 0) (rC (.int 26)))))) sNext)
    t__law_kind_1)
def preKind (xs : List D) : Prop := ∃ n : Int, xs = [.int n] ∧ 0 ≤ n ∧ n ≤ 561
def f_kind (xs : List D) (r : Ret) : Prop := ∃ v, r = .d v ∧ isKind v = true
/-- a def with values alone that says something of its result -/
def spV (m : Nat) (pre : List D → Prop) (post : List D → Ret → Prop) : Sp := fun as R _ => ∃ xs : List D, as = xs.map .d ∧ xs.length = m ∧ pre xs ∧ ∀ r s, post xs r → R r s
theorem ary_V (m : Nat) (pre : List D → Prop) (post : List D → Ret → Prop) : Ary (spV m pre post) m := by rintro _ _ _ ⟨xs, rfl, h, _⟩; simpa using h
def vX (pre : List D → Prop) (post : List D → Ret → Prop) (xs : List D) (Q : Ret → Prop) (_ : Tg Q := ⟨⟩) : Prop := pre xs ∧ ∀ r, post xs r → Q r
@[simp ↓] theorem rCall_V (m : Nat) (pre : List D → Prop) (post : List D → Ret → Prop) (ts : TA) (E : EK) (env : Env) (P : Ret → Env → Prop) :
    rCall (spV m pre post) [] ts E env P = ts E env fun xs e1 => ckN m xs (vX pre post xs fun r => P r e1) := by
  unfold rCall
  congr 1; funext xs e1
  rw [List.append_nil]
  apply propext
  constructor
  · rintro ⟨ys, h1, h2, h3, h4⟩
    cases map_d_inj h1
    exact ⟨h2, h3, fun r h => h4 r [] h⟩
  · rintro ⟨h2, h3, h4⟩
    exact ⟨_, rfl, h2, h3, fun r _ h => h4 r h⟩
theorem meets_V {m M : Nat} {pre : List D → Prop} {post : List D → Ret → Prop} {t : TS}
    (h : ∀ xs (R : Ret → List Sl → Prop) Ex, xs.length = m → pre xs → (∀ r s, post xs r → R r s) → t (bodyEn m R Ex) (xs.map .d ++ List.replicate (M - m) .un)) : Meets m M (spV m pre post) t :=
  fun as R Ex _ ⟨xs, e, h1, h2, h3⟩ => by subst e; exact h xs R Ex h1 h2 h3
theorem v_of {pre : List D → Prop} {post : List D → Ret → Prop} {xs : List D} {Q : Ret → Prop} (hp : pre xs) (k : ∀ r, post xs r → Q r) : vX pre post xs Q := ⟨hp, k⟩
abbrev sp__law_kind : Sp := spV 1 preKind f_kind
theorem m__law_kind : Meets 1 3 sp__law_kind t__law_kind := meets_V (by
  rintro xs R Ex hl ⟨n, rfl, n0, n1⟩ k
  show t__law_kind (bodyEn 1 R Ex) [.d (.int n), .un, .un]
  unfold t__law_kind
  simp -dsimp
  refine br_split (fun h => ?_) (fun h => ?_)
  · have h : n < 52 := of_decide_eq_true h
    simp -dsimp
    refine ⟨divOk_of (by decide) (by decide), ?_⟩
    have q0 : 0 ≤ n / 26 := by omega
    have q1 : n / 26 ≤ 1 := by omega
    have fin : ∀ y : Str, y.cps.toList.length ≤ 7 → (∀ c ∈ y.cps.toList, isLet c = true) → ∀ c, c ∈ ("abcdefghijklmnopqrstuvwxyz" : Str).cps.toList → isKind (.str (y ++ ⟨#[c]⟩)) = true := fun y h1 h2 c hc => by
      refine isKind_cps ?_ ?_ fun d hd => ?_
      · rw [app_cps, List.length_append]; show 1 ≤ _ + 1; omega
      · rw [app_cps, List.length_append]; show _ + 1 ≤ 8; omega
      · rw [app_cps] at hd
        rcases List.mem_append.mp hd with hd | hd
        · exact h2 d hd
        · have : d = c := by simpa using hd
          rw [this]; exact decide_eq_true hc
    generalize hq : n / 26 = q at q0 q1
    have hq2 : q = 0 ∨ q = 1 := by omega
    rcases hq2 with rfl | rfl
    · refine un_of (a := .d (.str "")) (by rfl) ?_
      simp -dsimp
      refine pickS_of (by decide) (by omega) (by show _ < ((26 : Nat) : Int); omega) fun c hc => ?_
      simp -dsimp
      exact ⟨by show 0 + 1 ≤ _; decide, k _ _ ⟨_, rfl, fin _ (by decide) (by decide) c hc⟩⟩
    · refine un_of (a := .d (.str "abcdefg")) (by rfl) ?_
      simp -dsimp
      refine pickS_of (by decide) (by omega) (by show _ < ((26 : Nat) : Int); omega) fun c hc => ?_
      simp -dsimp
      exact ⟨by show 7 + 1 ≤ _; decide, k _ _ ⟨_, rfl, fin _ (by decide) (by decide +kernel) c hc⟩⟩
  · have h : ¬ n < 52 := of_decide_eq_false h
    show t__law_kind_1 (bodyEn 1 R Ex) [.d (.int n), .un, .un]
    unfold t__law_kind_1
    simp -dsimp
    show t__law_kind_2 (bodyEn 1 R Ex) [.d (.int n), .d (.int (n - 50)), .d (.str "")]
    unfold t__law_kind_2
    simp -dsimp
    refine while_iv (fun m e => ∃ (r : Int) (z : Str), e = [.d (.int n), .d (.int r), .d (.str z)] ∧ m = r.toNat ∧ 1 ≤ r ∧ r.toNat * 2 ^ z.cps.toList.length < 512 ∧ (2 ≤ r ∨ 1 ≤ z.cps.toList.length) ∧ ∀ c ∈ z.cps.toList, isLet c = true) (n - 50).toNat ⟨n - 50, "", rfl, rfl, by omega, by show (n - 50).toNat * 2 ^ 0 < 512; omega, .inl (by omega), by decide⟩ ?_
    rintro m e ⟨r, z, rfl, rfl, r1, r2, r3, r4⟩
    have hl : z.cps.toList.length ≤ 8 := by
      refine Nat.le_of_not_lt fun h9 => ?_
      have : 2 ^ 9 ≤ 2 ^ z.cps.toList.length := Nat.pow_le_pow_right (by decide) h9
      have h1 : 1 ≤ r.toNat := by omega
      have := Nat.mul_le_mul h1 this
      omega
    simp -dsimp
    refine br_split (fun g => ?_) (fun g => ?_)
    · have g : 1 < r := of_decide_eq_true g
      simp -dsimp
      refine pickS_of (by decide) (by omega) (by show _ < ((2 : Nat) : Int); omega) fun c hc => ?_
      simp -dsimp
      refine ⟨?_, ?_⟩
      · rw [len_toList, len_toList]; show 1 + _ ≤ _; omega
      · have ec : (((⟨#[c]⟩ : Str) ++ z).cps.toList) = c :: z.cps.toList := by rw [app_cps]; rfl
        simp -dsimp
        refine ⟨(r / 2).toNat, by omega, r / 2, _, rfl, rfl, by omega, ?_, .inr ?_, fun d hd => ?_⟩
        · rw [ec, List.length_cons, Nat.pow_succ, Nat.mul_comm (2 ^ _) 2, ← Nat.mul_assoc]
          refine Nat.lt_of_le_of_lt (Nat.mul_le_mul_right _ ?_) r2
          omega
        · rw [ec]; simp
        · rw [ec] at hd
          rcases List.mem_cons.mp hd with rfl | hd
          · exact List.all_eq_true.mp (show ("ab" : Str).cps.toList.all isLet = true by decide +kernel) d hc
          · exact r4 d hd
    · have g : ¬ 1 < r := of_decide_eq_false g
      simp -dsimp
      exact k _ _ ⟨_, rfl, isKind_cps (by omega) hl r4⟩)
def t__law_traffic_3b2 : TS := (sSeq (sPar [10, 11, 12] [(rCallP sp__law_draw 0 [] (aCons (rVar 4) aNil)), (rCallP sp__law_draw 0 [] (aCons (rVar 5) aNil)), (rCall sp__law_kind [] (aCons (rVar 8) aNil))])
    (sApp 2 (rTup (aCons (rVar 10) (aCons (rVar 11) (aCons (rVar 12) (aCons (rOp dEq (rCallP sp__law_draw 0 [] (aCons (rOp dAdd (rVar 7) (rC (.int 1))) aNil)) (rC (.int 0))) aNil)))))))
def t__law_traffic_3b1 : TS := (sSeq (sIf (bTest (rOp dGt (rVar 6) (rC (.int 0)))) (sAsg (rOp dAdd (rOp dMul (rC (.int 52)) (rCB dInt (aCons (rOp dIn (rVar 6) (rLst (aCons (rC (.int 14)) (aCons (rC (.int 510)) aNil)))) aNil))) (rCallP sp__law_draw 0 [] (aCons (rVar 6) aNil))) 8) sNext)
    t__law_traffic_3b2)
def t__law_traffic_3b : TS := (sSeq (sAsg (rVar 3) 8)
    t__law_traffic_3b1)
def t__law_traffic_3 : TS := (sSeq (sFor (iRange1 (rVar 1)) (gName 3) t__law_traffic_3b)
    (sRet (rMove 2)))
def t__law_traffic_2 : TS := (sSeq (sAsg (rLst aNil) 2)
    t__law_traffic_3)
def t__law_traffic_1 : TS := (sSeq (sPar [6, 7] [(rOp dIx (rLst (aCons (rC (.int 1)) (aCons (rC (.int 2)) (aCons (rC (.int 4)) (aCons (rC (.int 40)) (aCons (rC (.int 0)) (aCons (rC (.int 14)) (aCons (rC (.int 510)) aNil)))))))) (rCallP sp__law_draw 0 [] (aCons (rC (.int 7)) aNil))), (rOp dAdd (rC (.int 1)) (rCallP sp__law_draw 0 [] (aCons (rC (.int 5)) aNil)))])
    t__law_traffic_2)
def t__law_traffic : TS := (sSeq (sAsgG (rLc (iRange1 (rC (.int 2))) (gName 9) bYes (rOp dIx (rLst (aCons (rC (.int 2)) (aCons (rC (.int 4)) (aCons (rC (.int 10)) (aCons (rOp dAdd (rOp dPow (rC (.int 10)) (rC (.int 30))) (rC (.int 1))) aNil))))) (rCallP sp__law_draw 0 [] (aCons (rC (.int 4)) aNil))) [9]) (gLst 2 (gCons (gName 4) (gCons (gName 5) gNil))))
    t__law_traffic_1)
def preTrafficN (xs : List D) : Prop := ∃ n : Int, xs = [.int n] ∧ 0 ≤ n ∧ n ≤ 40
def postTrafficN (xs : List D) (r : Ret) : Prop := ∃ n ts, xs = [.int n] ∧ r = .own ts ∧ (ts.length : Int) = n ∧ ts.all isItem = true
abbrev sp__law_traffic : Sp := spS 1000 1 preTrafficN postTrafficN
theorem tr_3b2 {D1 : En} {src ts : List D} {n w1 w2 w j i q : Int} {s10 s11 s12 : Sl} {M : Nat} (hs : Src src M) (hM : M + 10 ≤ LIM) (hl : ts.length ≤ 100) (a1 : 1 ≤ w1) (a2 : w1 ≤ 10 ^ 30 + 1) (b1 : 1 ≤ w2) (b2 : w2 ≤ 10 ^ 30 + 1) (j0 : 0 ≤ j) (j1 : j < 5) (q0 : 0 ≤ q) (q1 : q ≤ 561)
    (h : ∀ src v s10 s11 s12, Src src (M + 9) → isItem v = true → D1.nx [.par src, .d (.int n), .own (ts ++ [v]), .d (.int i), .d (.int w1), .d (.int w2), .d (.int w), .d (.int (1 + j)), .d (.int q), .un, s10, s11, s12]) :
    t__law_traffic_3b2 D1 [.par src, .d (.int n), .own ts, .d (.int i), .d (.int w1), .d (.int w2), .d (.int w), .d (.int (1 + j)), .d (.int q), .un, s10, s11, s12] := by
  unfold t__law_traffic_3b2
  simp -dsimp
  refine draw_of hs (by omega) a1 (by omega) fun p src hs p0 p1 => ?_
  simp -dsimp
  refine draw_of hs (by omega) b1 (by omega) fun p2 src hs c0 c1 => ?_
  simp -dsimp
  refine v_of ⟨q, rfl, q0, q1⟩ fun r ⟨v, er, hv⟩ => ?_
  subst er
  simp -dsimp
  refine draw_of hs (by omega) (by omega) (by omega) fun p3 src hs d0 d1 => ?_
  simp -dsimp
  refine ⟨by omega, ?_⟩
  refine h _ _ _ _ _ (hs.mono (by omega)) ?_
  have hg : c_GREATEST = 10 ^ 30 := rfl
  show (isInt (.int p) 0 (some c_GREATEST) && isInt (.int p2) 0 (some c_GREATEST) && (isKind v && true)) = true
  rw [hv]
  simp [isInt, hg]
  omega
theorem m__law_traffic : Meets 2 13 sp__law_traffic t__law_traffic := meets_S (by
  rintro src xs N R Ex hl hs hN ⟨n, rfl, n0, n1⟩ k
  show t__law_traffic (bodyEn 2 R Ex) [.par src, .d (.int n), .un, .un, .un, .un, .un, .un, .un, .un, .un, .un, .un]
  unfold t__law_traffic
  simp -dsimp
  refine lc_inv (fun i acc e => ∃ src, e = [.par src, .d (.int n), .un, .un, .un, .un, .un, .un, .un, .un, .un, .un, .un] ∧ Src src (N + i) ∧ acc.length = i ∧ ∀ v ∈ acc, ∃ w : Int, v = .int w ∧ 1 ≤ w ∧ w ≤ 10 ^ 30 + 1) (by rw [rangeD_len]; decide) ⟨_, rfl, hs, rfl, by simp⟩ ?_ ?_
  · rintro i x acc e hi ⟨src, rfl, hs, ha, hb⟩
    obtain ⟨e1, rfl⟩ := rangeD_at hi
    have e1 : i < 2 := e1
    simp -dsimp
    refine draw_of hs (by omega) (by omega) (by omega) fun j src hs j0 j1 => ?_
    refine pick_of j0 (by simpa using j1) fun w hw => ?_
    refine ⟨src, rfl, hs.mono (by omega), by simp [ha], fun v hv => ?_⟩
    rcases List.mem_append.mp hv with hv | hv
    · exact hb v hv
    · rw [List.mem_singleton.mp hv]
      simp only [List.mem_cons, List.not_mem_nil, or_false] at hw
      rcases hw with rfl | rfl | rfl | rfl <;> exact ⟨_, rfl, by decide, by decide⟩
  · rintro acc e ⟨src, rfl, hs, ha, hb⟩
    rw [rangeD_len] at hs ha
    match acc, ha with
    | [v1, v2], _ =>
      obtain ⟨w1, rfl, a1, a2⟩ := hb v1 (by simp)
      obtain ⟨w2, rfl, b1, b2⟩ := hb v2 (by simp)
      clear hb
      simp -dsimp [keep]
      show t__law_traffic_1 (bodyEn 2 R Ex) [.par src, .d (.int n), .un, .un, .d (.int w1), .d (.int w2), .un, .un, .un, .un, .un, .un, .un]
      unfold t__law_traffic_1
      simp -dsimp
      refine draw_of hs (by omega) (by omega) (by omega) fun j src hs j0 j1 => ?_
      refine pick_of j0 (by simpa using j1) fun w hw => ?_
      have hw2 : ∃ w' : Int, w = .int w' ∧ (w' = 1 ∨ w' = 2 ∨ w' = 4 ∨ w' = 40 ∨ w' = 0 ∨ w' = 14 ∨ w' = 510) := by
        simp only [List.mem_cons, List.not_mem_nil, or_false] at hw
        rcases hw with rfl | rfl | rfl | rfl | rfl | rfl | rfl <;> exact ⟨_, rfl, by decide⟩
      obtain ⟨w, rfl, hw3⟩ := hw2
      clear hw
      simp -dsimp
      refine draw_of hs (by omega) (by omega) (by omega) fun j src hs j0 j1 => ?_
      simp -dsimp
      show t__law_traffic_2 (bodyEn 2 R Ex) [.par src, .d (.int n), .un, .un, .d (.int w1), .d (.int w2), .d (.int w), .d (.int (1 + j)), .un, .un, .un, .un, .un]
      unfold t__law_traffic_2
      simp -dsimp
      show t__law_traffic_3 (bodyEn 2 R Ex) [.par src, .d (.int n), .own [], .un, .d (.int w1), .d (.int w2), .d (.int w), .d (.int (1 + j)), .un, .un, .un, .un, .un]
      unfold t__law_traffic_3
      simp -dsimp
      refine ⟨by omega, ?_⟩
      refine for_iv (fun i e => ∃ src ts s3 s8 s10 s11 s12, e = [.par src, .d (.int n), .own ts, s3, .d (.int w1), .d (.int w2), .d (.int w), .d (.int (1 + j)), s8, .un, s10, s11, s12] ∧ Src src (N + 4 + 10 * i) ∧ ts.length = i ∧ ts.all isItem = true) ⟨_, [], _, _, _, _, _, rfl, hs, rfl, rfl⟩ ?_ ?_
      · rintro i x e hi ⟨src, ts, s3, s8, s10, s11, s12, rfl, hs, ht, hti⟩
        obtain ⟨e1, rfl⟩ := rangeD_at hi
        rw [Int.zero_add]
        unfold t__law_traffic_3b
        simp -dsimp
        show t__law_traffic_3b1 _ [.par src, .d (.int n), .own ts, .d (.int i), .d (.int w1), .d (.int w2), .d (.int w), .d (.int (1 + j)), .d (.int i), .un, s10, s11, s12]
        unfold t__law_traffic_3b1
        simp -dsimp
        have e40 : i < 40 := by omega
        have fin : ∀ src v (s3 s8 s10 s11 s12 : Sl), Src src (N + 4 + 10 * i + 10) → isItem v = true → ∃ src' ts' t3 t8 t10 t11 t12, [Sl.par src, .d (.int n), .own (ts ++ [v]), s3, .d (.int w1), .d (.int w2), .d (.int w), .d (.int (1 + j)), s8, .un, s10, s11, s12] = [Sl.par src', .d (.int n), .own ts', t3, .d (.int w1), .d (.int w2), .d (.int w), .d (.int (1 + j)), t8, .un, t10, t11, t12] ∧ Src src' (N + 4 + 10 * (i + 1)) ∧ ts'.length = i + 1 ∧ ts'.all isItem = true :=
          fun src v s3 s8 s10 s11 s12 hs hv => ⟨_, _, _, _, _, _, _, rfl, hs.mono (by omega), by simp [ht], by simp [hti, hv]⟩
        refine br_split (fun h => ?_) (fun h => ?_)
        · have h : 0 < w := of_decide_eq_true h
          simp -dsimp
          have hin : ∃ b : Bool, dIn (.int w) (.list [.int 14, .int 510]) = some (.d (.bool b)) ∧ (b = true → w ≤ 510) ∧ (b = false → w ≤ 40) := by
            rcases hw3 with rfl | rfl | rfl | rfl | rfl | rfl | rfl
            · exact ⟨false, by rfl, by decide, by decide⟩
            · exact ⟨false, by rfl, by decide, by decide⟩
            · exact ⟨false, by rfl, by decide, by decide⟩
            · exact ⟨false, by rfl, by decide, by decide⟩
            · omega
            · exact ⟨true, by rfl, by decide, by decide⟩
            · exact ⟨true, by rfl, by decide, by decide⟩
          obtain ⟨b, eb, hb1, hb2⟩ := hin
          refine un_of eb ?_
          cases b with
          | true =>
            have := hb1 rfl
            simp -dsimp
            refine ⟨by decide, ?_⟩
            simp -dsimp
            refine draw_of hs (by omega) (by omega) (by omega) fun p src hs p0 p1 => ?_
            simp -dsimp
            exact tr_3b2 hs (by omega) (by omega) a1 a2 b1 b2 j0 j1 (by omega) (by omega) fun src v s10 s11 s12 hs hv => fin _ _ _ _ _ _ _ (hs.mono (by omega)) hv
          | false =>
            have := hb2 rfl
            simp -dsimp
            refine ⟨by decide, ?_⟩
            simp -dsimp
            refine draw_of hs (by omega) (by omega) (by omega) fun p src hs p0 p1 => ?_
            simp -dsimp
            exact tr_3b2 hs (by omega) (by omega) a1 a2 b1 b2 j0 j1 (by omega) (by omega) fun src v s10 s11 s12 hs hv => fin _ _ _ _ _ _ _ (hs.mono (by omega)) hv
        · exact tr_3b2 hs (by omega) (by omega) a1 a2 b1 b2 j0 j1 (by omega) (by omega) fun src v s10 s11 s12 hs hv => fin _ _ _ _ _ _ _ (hs.mono (by omega)) hv
      · rintro e ⟨src, ts, s3, s8, s10, s11, s12, rfl, hs, ht, hti⟩
        rw [rangeD_len] at hs ht
        simp -dsimp
        exact k _ _ _ (hs.mono (by omega)) ⟨n, ts, rfl, rfl, by omega, hti⟩ rfl)
end PD
end K02_
section K02b_
set_option Elab.async false
set_option linter.all false
set_option maxRecDepth 100000
set_option maxHeartbeats 2000000
/-! K02b: what law k02 adds up. -/
namespace PD
open PySem
/-- times_of -/
def tms (ts : List D) : List Int := (List.range ts.length).map fun i => ((ts.take (i + 1)).map pz).sum
def f_times_of : List D → Option Ret
  | [.list ts] => if isTraffic (.list ts) = true ∧ tame (.list ts) = true then some (.own ((tms ts).map .int)) else none
  | _ => none
abbrev sp_times_of : Sp := spF 1 f_times_of
theorem tms_take {ts : List D} {i : Nat} {x : D} (h : ts[i]? = some x) : tms (ts.take (i + 1)) = tms (ts.take i) ++ [((ts.take (i + 1)).map pz).sum] := by
  have hl : i < ts.length := (List.getElem?_eq_some_iff.mp h).1
  unfold tms
  have e1 : (ts.take (i + 1)).length = i + 1 := by rw [List.length_take]; omega
  have e2 : (ts.take i).length = i := by rw [List.length_take]; omega
  rw [e1, e2, List.range_succ, List.map_append]
  congr 1
  · refine List.map_congr_left fun j hj => ?_
    rw [List.mem_range] at hj
    rw [List.take_take, List.take_take, Nat.min_eq_left (by omega), Nat.min_eq_left (by omega)]
  · simp [List.take_take]
theorem sum_take {ts : List D} {i : Nat} {x : D} (h : ts[i]? = some x) (f : D → Int) : ((ts.take (i + 1)).map f).sum = ((ts.take i).map f).sum + f x := by
  rw [List.take_add_one, h]; simp
def t_times_of_3b : TS := (sSeq (sAug 2 dIadd (rVar 3))
    (sApp 1 (rVar 2)))
def t_times_of_3 : TS := (sSeq (sFor (iAny (rVar 0)) (gTup 4 (gCons (gName 3) (gCons (gName 4) (gCons (gName 5) (gCons (gName 6) gNil))))) t_times_of_3b)
    (sRet (rMove 1)))
def t_times_of_2 : TS := (sSeq (sAsg (rC (.int 0)) 2)
    t_times_of_3)
def t_times_of_1 : TS := (sSeq (sAsg (rLst aNil) 1)
    t_times_of_2)
def t_times_of : TS := (sSeq (sDrop (rCall sp_require_traffic [] (aCons (rVar 0) aNil)))
    t_times_of_1)
theorem m_times_of : Meets 1 7 sp_times_of t_times_of := meets_F (by
  intro xs r R Ex hl hf k
  unfold f_times_of at hf
  split at hf
  · rename_i ts
    split at hf
    · rename_i hh
      obtain ⟨h1, h2⟩ := hh
      cases hf
      obtain ⟨a1, a2⟩ := isTraffic_of h1
      show t_times_of (bodyEn 1 R Ex) [.d (.list ts), .un, .un, .un, .un, .un, .un]
      unfold t_times_of
      simp -dsimp
      refine ifp_of (by simp [tames, h2]) ?_
      refine br_split (fun _ => ?_) (fun q => absurd (h1.symm.trans q) (by decide))
      show t_times_of_1 (bodyEn 1 R Ex) [.d (.list ts), .un, .un, .un, .un, .un, .un]
      unfold t_times_of_1
      simp -dsimp
      show t_times_of_2 (bodyEn 1 R Ex) [.d (.list ts), .own [], .un, .un, .un, .un, .un]
      unfold t_times_of_2
      simp -dsimp
      show t_times_of_3 (bodyEn 1 R Ex) [.d (.list ts), .own [], .d (.int 0), .un, .un, .un, .un]
      unfold t_times_of_3
      simp -dsimp
      refine for_iv (fun i e => ∃ s3 s4 s5 s6, e = [.d (.list ts), .own ((tms (ts.take i)).map .int), .d (.int ((ts.take i).map pz).sum), s3, s4, s5, s6]) ⟨_, _, _, _, rfl⟩ ?_ ?_
      · rintro i x e hi ⟨s3, s4, s5, s6, rfl⟩
        obtain ⟨p, w', q', m', rfl, b1, b2, b3, b4, b5⟩ := isItem_of (List.all_eq_true.mp a2 x (List.mem_of_getElem? hi))
        have hil : i < ts.length := (List.getElem?_eq_some_iff.mp hi).1
        unfold t_times_of_3b
        simp -dsimp
        refine ⟨by rw [show (tms (ts.take i)).length = i by simp [tms]; omega]; omega, .d (.int p), .d (.int w'), .d (.str q'), .d (.bool m'), ?_⟩
        rw [tms_take hi, sum_take hi, List.map_append]
        rfl
      · rintro e ⟨s3, s4, s5, s6, rfl⟩
        rw [List.take_length]
        simp -dsimp
        exact k _
    · cases hf
  · cases hf)
def f_measures_of : List D → Option Ret
  | [.list ts, .int s, .int e] => if isTraffic (.list ts) = true ∧ tame (.list ts) = true ∧ 0 ≤ s ∧ s < e ∧ e ≤ ts.length then some (.d (.tuple ((meas (cutD ts (some s) (some e))).map .int))) else none
  | _ => none
abbrev sp_measures_of : Sp := spF 3 f_measures_of
theorem measof1 {ts : List D} {s e : Int} (h1 : isTraffic (.list ts) = true) (h2 : tame (.list ts) = true) (h4 : 0 ≤ s) (h5 : s < e) (h6 : e ≤ ts.length) : f_measures_of [.list ts, .int s, .int e] = some (.d (.tuple ((meas (cutD ts (some s) (some e))).map .int))) := by
  show (if _ then _ else _) = _
  rw [if_pos ⟨h1, h2, h4, h5, h6⟩]
def t_measures_of : TS := (sSeq (sDrop (rCall sp_require_traffic [] (aCons (rVar 0) aNil)))
    (sSeq (sDrop (rCall sp_require_stretch [] (aCons (rVar 0) (aCons (rVar 1) (aCons (rVar 2) aNil)))))
    (sRet (rCall sp_measures_in [] (aCons (rVar 0) (aCons (rVar 1) (aCons (rVar 2) aNil)))))))
theorem m_measures_of : Meets 3 3 sp_measures_of t_measures_of := meets_F (by
  intro xs r R Ex hl hf k
  unfold f_measures_of at hf
  split at hf
  · rename_i ts s e
    split at hf
    · rename_i hh
      obtain ⟨h1, h2, h4, h5, h6⟩ := hh
      cases hf
      obtain ⟨a1, a2⟩ := isTraffic_of h1
      show t_measures_of (bodyEn 3 R Ex) [.d (.list ts), .d (.int s), .d (.int e)]
      unfold t_measures_of
      simp -dsimp
      refine ifp_of (by simp [tames, h2]) ?_
      refine br_split (fun _ => ?_) (fun q => absurd (h1.symm.trans q) (by decide))
      simp -dsimp
      refine ifp_of rfl ?_
      refine br_split (fun _ => ?_) (fun q => absurd q (by simp [isStretch, isInt]; omega))
      simp -dsimp [un_eq (measures1 (like_of_items a2) (show ts.length ≤ 4000 by omega))]
      exact k _
    · cases hf
  · cases hf)
end PD
end K02b_
section SX_
set_option Elab.async false
set_option linter.all false
set_option maxRecDepth 100000
set_option maxHeartbeats 2000000
/-! SX: promises by a relation, promises that may end by an exception; a try's reading. -/
namespace PD
open PySem
/-- a promise given by a relation between values and result -/
def spP (n : Nat) (P : List D → Ret → Prop) : Sp := fun as R _ => ∃ xs r, as = xs.map .d ∧ xs.length = n ∧ P xs r ∧ ∀ s, R r s
def exP (P : List D → Ret → Prop) (xs : List D) (Q : Ret → Prop) (_ : Tg Q := ⟨⟩) : Prop := ∃ r, P xs r ∧ Q r
theorem exP_of {P : List D → Ret → Prop} {xs : List D} {Q : Ret → Prop} {r : Ret} (h : P xs r) (q : Q r) : exP P xs Q := ⟨r, h, q⟩
theorem ary_P (n : Nat) (P : List D → Ret → Prop) : Ary (spP n P) n := by rintro _ _ _ ⟨xs, r, rfl, h, _⟩; simpa using h
@[simp ↓] theorem rCall_P (n : Nat) (P : List D → Ret → Prop) (ts : TA) (E : EK) (env : Env) (Q : Ret → Env → Prop) : rCall (spP n P) [] ts E env Q = ts E env fun xs e1 => ckN n xs (exP P xs fun r => Q r e1) := by
  unfold rCall
  congr 1; funext xs e1
  rw [List.append_nil]
  unfold ckN
  apply propext
  constructor
  · rintro ⟨ys, r, h1, h2, h3, h4⟩
    cases map_d_inj h1
    exact ⟨h2, r, h3, h4 []⟩
  · rintro ⟨h1, r, h2, h3⟩
    exact ⟨xs, r, rfl, h1, h2, fun s => h3⟩
theorem meets_P {n m : Nat} {P : List D → Ret → Prop} {t : TS} (h : ∀ xs r (R : Ret → List Sl → Prop) Ex, xs.length = n → P xs r → (∀ s, R r s) → t (bodyEn n R Ex) (xs.map .d ++ List.replicate (m - n) .un)) : Meets n m (spP n P) t := fun as R Ex _ ⟨xs, r, e, h1, h2, h3⟩ => by subst e; exact h xs r R Ex h1 h2 h3
/-- a result by a relation, or an exception -/
def spY (n : Nat) (P : List D → Ret → Prop) (PE : List D → Exn → Prop) : Sp := fun as R Ex => ∃ xs, as = xs.map .d ∧ xs.length = n ∧ ((∃ r, P xs r ∧ ∀ s, R r s) ∨ ∃ x, PE xs x ∧ ∀ s, Ex x s)
def exY (P : List D → Ret → Prop) (PE : List D → Exn → Prop) (xs : List D) (Q : Ret → Prop) (E : Exn → Prop) (_ : Tg (Q, E) := ⟨⟩) : Prop := (∃ r, P xs r ∧ Q r) ∨ ∃ x, PE xs x ∧ E x
theorem ary_Y (n : Nat) (P : List D → Ret → Prop) (PE : List D → Exn → Prop) : Ary (spY n P PE) n := by rintro _ _ _ ⟨xs, rfl, h, _⟩; simpa using h
@[simp ↓] theorem rCall_Y (n : Nat) (P : List D → Ret → Prop) (PE : List D → Exn → Prop) (ts : TA) (E : EK) (env : Env) (Q : Ret → Env → Prop) : rCall (spY n P PE) [] ts E env Q = ts E env fun xs e1 => ckN n xs (exY P PE xs (fun r => Q r e1) fun x => E x e1) := by
  unfold rCall
  congr 1; funext xs e1
  rw [List.append_nil]
  unfold ckN
  apply propext
  constructor
  · rintro ⟨ys, h1, h2, h3⟩
    cases map_d_inj h1
    refine ⟨h2, h3.imp ?_ ?_⟩
    · rintro ⟨r, a, b⟩; exact ⟨r, a, b []⟩
    · rintro ⟨x, a, b⟩; exact ⟨x, a, b []⟩
  · rintro ⟨h1, h2⟩
    refine ⟨xs, rfl, h1, h2.imp ?_ ?_⟩
    · rintro ⟨r, a, b⟩; exact ⟨r, a, fun s => b⟩
    · rintro ⟨x, a, b⟩; exact ⟨x, a, fun s => b⟩
theorem meets_Y {n m : Nat} {P : List D → Ret → Prop} {PE : List D → Exn → Prop} {t : TS} (h : ∀ xs (R : Ret → List Sl → Prop) Ex, xs.length = n → ((∃ r, P xs r ∧ ∀ s, R r s) ∨ ∃ x, PE xs x ∧ ∀ s, Ex x s) → t (bodyEn n R Ex) (xs.map .d ++ List.replicate (m - n) .un)) : Meets n m (spY n P PE) t := fun as R Ex _ ⟨xs, e, h1, h2⟩ => by subst e; exact h xs R Ex h1 h2
@[simp ↓] theorem sTryX_w (i j : Nat) (c : Str) (h : Exn → Env → (Ret → Env → Prop) → Prop) (t N : TS) (D' : En) (env : Env) : sTryX i j c h t N D' env = t { D' with nx := N D', ex := fun x e1 => i < e1.length ∧ j < e1.length ∧ x.cls = c ∧ h x ((e1.set i .un).set j .un) D'.rt } env := rfl
end PD
end SX_
section K03b_
set_option Elab.async false
set_option linter.all false
set_option maxRecDepth 100000
set_option maxHeartbeats 2000000
/-! K03b: traffic repeated. -/
namespace PD
open PySem
def f__law_measures : List D → Option Ret
  | [.list ts, .int s, .int e] => if ts.all isItem = true ∧ ts.length ≤ 40 ∧ 0 ≤ s ∧ s ≤ e ∧ e ≤ ts.length then some (.d (.tuple ((meas (cutD ts (some s) (some e))).map .int))) else none
  | _ => none
abbrev sp__law_measures : Sp := spF 3 f__law_measures
theorem lmeas1 {ts : List D} {s e : Int} (h1 : ts.all isItem = true) (h2 : ts.length ≤ 40) (h3 : 0 ≤ s) (h4 : s ≤ e) (h5 : e ≤ ts.length) : f__law_measures [.list ts, .int s, .int e] = some (.d (.tuple ((meas (cutD ts (some s) (some e))).map .int))) := by
  show (if _ then _ else _) = _
  rw [if_pos ⟨h1, h2, h3, h4, h5⟩]
def t__law_measures_1b1 : TS := (sSeq (sAsg (rOp dAdd (rVar 4) (rVar 9)) 4)
    (sSeq (sAsg (rOp dAdd (rVar 5) (rOp dMul (rVar 8) (rCB dInt (aCons (rOp dGt (rVar 3) (rVar 1)) aNil)))) 5)
    (sSeq (sAsg (rOp dAdd (rVar 6) (rCB dInt (aCons (rVar 11) aNil))) 6)
    (sSetK 7 (rC (.bool true)) (rVar 10)))))
def t__law_measures_1b : TS := (sSeq (sAsgG (rOp dIx (rVar 0) (rVar 3)) (gTup 4 (gCons (gName 8) (gCons (gName 9) (gCons (gName 10) (gCons (gName 11) gNil))))))
    t__law_measures_1b1)
def t__law_measures_1 : TS := (sSeq (sFor (iRange (rVar 1) (rVar 2)) (gName 3) t__law_measures_1b)
    (sRet (rTup (aCons (rOp dSub (rVar 2) (rVar 1)) (aCons (rVar 4) (aCons (rVar 5) (aCons (rCB dLenT (aCons (rVar 7) aNil)) (aCons (rVar 6) aNil))))))))
def t__law_measures : TS := (sSeq (sPar [4, 5, 6, 7] [(rC (.int 0)), (rC (.int 0)), (rC (.int 0)), rDct0])
    t__law_measures_1)
theorem m__law_measures : Meets 3 12 sp__law_measures t__law_measures := meets_F (by
  intro xs r R Ex hl hf k
  unfold f__law_measures at hf
  split at hf
  · rename_i ts s e
    split at hf
    · rename_i hh
      obtain ⟨h1, h2, h3, h4, h5⟩ := hh
      cases hf
      show t__law_measures (bodyEn 3 R Ex) [.d (.list ts), .d (.int s), .d (.int e), .un, .un, .un, .un, .un, .un, .un, .un, .un]
      unfold t__law_measures
      simp -dsimp
      unfold t__law_measures_1
      simp -dsimp
      refine ifp_of (by omega) ?_
      obtain ⟨a, rfl⟩ : ∃ a : Nat, s = a := ⟨s.toNat, by omega⟩
      obtain ⟨b, rfl⟩ : ∃ b : Nat, e = b := ⟨e.toNat, by omega⟩
      have ec : cutD ts (some (a : Int)) (some (b : Int)) = (ts.drop a).take (b - a) := by rw [cut_at ts (by omega) (by omega), List.drop_take]
      rw [ec] at k
      have hlen : (ts.drop a).length = ts.length - a := List.length_drop ..
      refine for_iv (fun i e => ∃ (s3 s8 s9 s10 s11 : Sl) (kvs : List (KeyD × D)), e = [.d (.list ts), .d (.int a), .d (.int b), s3, .d (.int ((((ts.drop a).take i).map wz).sum)), .d (.int ((((ts.drop a).take i).map pz).tail.sum)), .d (.int ((((ts.drop a).take i).filter mz).length)), .tab kvs, s8, s9, s10, s11] ∧
        kvs.map (·.1) = uniq (((ts.drop a).take i).map fun t => (Sum.inr (kz t) : KeyD))) ⟨_, _, _, _, _, [], rfl, rfl⟩ ?_ ?_
      · rintro i x e hi ⟨s3, s8, s9, s10, s11, kvs, rfl, hk⟩
        obtain ⟨hi2, rfl⟩ := rangeD_at hi
        have hlt : i < (ts.drop a).length := by omega
        have hx : (ts.drop a)[i]? = some (ts.drop a)[i] := by simp [hlt]
        obtain ⟨p, w, q, m, ex, p0, p1, w0, w1, hq⟩ := isItem_of (List.all_eq_true.mp h1 _ (List.mem_of_mem_drop (List.getElem_mem hlt)))
        have hg : c_GREATEST = 10 ^ 30 := rfl
        rw [hg] at p1 w1
        rw [ex] at hx
        have et : (ts.drop a).take (i + 1) = (ts.drop a).take i ++ [.tuple [.int p, .int w, .str q, .bool m]] := by rw [List.take_add_one, hx]; rfl
        have hix : dIx (.list ts) (.int ((a : Int) + i)) = some (.d (.tuple [.int p, .int w, .str q, .bool m])) := by
          rw [show (a : Int) + (i : Int) = ((a + i : Nat) : Int) by omega]
          refine ix_l _ ?_
          rw [← List.getElem?_drop]; exact hx
        rw [et]
        generalize hUe : (ts.drop a).take i = U at *
        have hU : U.length = i := by rw [← hUe, List.length_take]; omega
        have hkl : kvs.length ≤ 4000 := by
          have h5 := congrArg List.length hk
          rw [List.length_map] at h5
          have := uniq_le (U.map fun t => (Sum.inr (kz t) : KeyD))
          rw [List.length_map] at this
          omega
        have eW : ((U ++ [(.tuple [.int p, .int w, .str q, .bool m] : D)]).map wz).sum = (U.map wz).sum + w := by simp [wz]
        have eM : (((U ++ [(.tuple [.int p, .int w, .str q, .bool m] : D)]).filter mz).length : Int) = (U.filter mz).length + (if m = true then 1 else 0) := by
          rw [List.filter_append, List.length_append, Int.natCast_add]
          congr 1
          cases m <;> rfl
        have eP : ((U ++ [(.tuple [.int p, .int w, .str q, .bool m] : D)]).map pz).tail.sum = (U.map pz).tail.sum + p * (if decide ((a : Int) < a + i) = true then 1 else 0) := by
          cases U with
          | nil => rw [if_neg (by simp at hU; simp; omega)]; simp
          | cons u us => rw [if_pos (by simp at hU; simp; omega)]; simp [pz]
        have eK : ((putK (Sum.inr q) (.bool true) kvs).map fun x => x.fst) = uniq ((U ++ [(.tuple [.int p, .int w, .str q, .bool m] : D)]).map (fun t => (Sum.inr (kz t) : KeyD))) := by
          rw [List.map_append, List.map_singleton, uniq_snoc, ← hk]; exact putK_keys ..
        simp -dsimp
        unfold t__law_measures_1b
        simp -dsimp
        refine un_of hix ?_
        simp -dsimp
        unfold t__law_measures_1b1
        simp -dsimp
        refine ifp_of (mulOk_of (natAbs_lt (B := 10 ^ 30 + 1) p0 (by omega) 10000) (by split <;> decide)) ?_
        simp -dsimp
        refine ifp_of (by omega) ?_
        refine ⟨.d (.int (a + i)), .d (.int p), .d (.int w), .d (.str q), .d (.bool m), putK (.inr q) (.bool true) kvs, ?_, eK⟩
        rw [eW, eP, eM]
      · rintro e ⟨s3, s8, s9, s10, s11, kvs, rfl, hk⟩
        rw [rangeD_len, show ((b : Int) - a).toNat = b - a by omega] at hk ⊢
        have em : meas ((ts.drop a).take (b - a)) = [(b : Int) - a, (((ts.drop a).take (b - a)).map wz).sum, (((ts.drop a).take (b - a)).map pz).tail.sum, (kvs.length : Nat), (((ts.drop a).take (b - a)).filter mz).length] := by
          unfold meas
          have e1 : (((ts.drop a).take (b - a)).length : Int) = b - a := by rw [List.length_take]; omega
          have e2 : (uniq (((ts.drop a).take (b - a)).map fun t => (Sum.inr (kz t) : KeyD))).length = kvs.length := by rw [← hk, List.length_map]
          rw [e1, e2]
        rw [em] at k
        clear em
        generalize (ts.drop a).take (b - a) = U at *
        simp -dsimp
        refine un_of (len_tab kvs) ?_
        simp -dsimp
        exact k _
    · cases hf
  · cases hf)
theorem eqv_ints2 : ∀ xs ys : List Int, PyData.eqvAll (xs.map .int) (ys.map .int) = decide (xs = ys)
  | [], [] => rfl
  | [], _ :: _ => rfl
  | _ :: _, [] => rfl
  | x :: xs, y :: ys => by
    show (PyData.eqv (.int x) (.int y) && PyData.eqvAll (xs.map .int) (ys.map .int)) = _
    rw [eqv_ints2 xs ys]
    show ((x == y) && _) = _
    by_cases h1 : x = y <;> by_cases h2 : xs = ys <;> simp [h1, h2]
theorem eq_ints2 (xs ys : List Int) : dEq (.list (xs.map .int)) (.list (ys.map .int)) = some (.d (.bool (decide (xs = ys)))) := by
  unfold dEq eqP
  rw [show eqS (.list (xs.map .int)) (.list (ys.map .int)) = none from rfl]
  dsimp only
  rw [show unS (.list (xs.map .int)) = .list (xs.map .int) from rfl, show unS (.list (ys.map .int)) = .list (ys.map .int) from rfl, if_pos ⟨shaped_ints xs, shaped_ints ys⟩, show PyData.eqv (.list (xs.map .int)) (.list (ys.map .int)) = PyData.eqvAll (xs.map .int) (ys.map .int) from rfl, eqv_ints2]
theorem ne_ints2 (xs ys : List Int) : dNe (.list (xs.map .int)) (.list (ys.map .int)) = some (.d (.bool (!decide (xs = ys)))) := by
  unfold dNe eqP
  rw [show eqS (.list (xs.map .int)) (.list (ys.map .int)) = none from rfl]
  dsimp only
  rw [show unS (.list (xs.map .int)) = .list (xs.map .int) from rfl, show unS (.list (ys.map .int)) = .list (ys.map .int) from rfl, if_pos ⟨shaped_ints xs, shaped_ints ys⟩, show PyData.eqv (.list (xs.map .int)) (.list (ys.map .int)) = PyData.eqvAll (xs.map .int) (ys.map .int) from rfl, eqv_ints2]
theorem timesof1 {ts : List D} (h1 : isTraffic (.list ts) = true) (h2 : tame (.list ts) = true) : f_times_of [.list ts] = some (.own ((tms ts).map .int)) := by
  show (if _ then _ else _) = _
  rw [if_pos ⟨h1, h2⟩]
theorem ne_tupsame (ns : List Int) : dNe (.tuple (ns.map .int)) (.tuple (ns.map .int)) = some (.d (.bool false)) := by
  have h : SeqAt.shaped (.tuple (ns.map .int)) = true := shaped_ints ns
  unfold dNe eqP
  rw [show eqS (.tuple (ns.map .int)) (.tuple (ns.map .int)) = none from rfl]
  dsimp only
  rw [show unS (.tuple (ns.map .int)) = .tuple (ns.map .int) from rfl, if_pos ⟨h, h⟩, show PyData.eqv (.tuple (ns.map .int)) (.tuple (ns.map .int)) = PyData.eqvAll (ns.map .int) (ns.map .int) from rfl, eqv_ints2]
  simp
namespace R3
/-- the items so many times -/
def rep (ts : List D) (t : Int) : List D := if ts = [] then [] else (List.replicate t.toNat ts).flatten
theorem flat_len (ts : List D) : ∀ n : Nat, (List.replicate n ts).flatten.length = n * ts.length
  | 0 => by simp
  | n + 1 => by
    rw [List.replicate_succ, List.flatten_cons, List.length_append, flat_len ts n, Nat.succ_mul]; omega
theorem flat_nil : ∀ n : Nat, (List.replicate n ([] : List D)).flatten = []
  | 0 => rfl
  | n + 1 => by rw [List.replicate_succ, List.flatten_cons, flat_nil n]; rfl
theorem rep_flat (ts : List D) (t : Int) : rep ts t = (List.replicate t.toNat ts).flatten := by
  unfold rep
  split
  · rename_i h; rw [h, flat_nil]
  · rfl
theorem rep_len (ts : List D) {t : Int} (h : 0 ≤ t) : ((rep ts t).length : Int) = ts.length * t := by
  rw [rep_flat, flat_len, Int.natCast_mul, Int.mul_comm, Int.toNat_of_nonneg h]
theorem flat_all {ts : List D} (h : ts.all isItem = true) : ∀ n : Nat, (List.replicate n ts).flatten.all isItem = true
  | 0 => rfl
  | n + 1 => by rw [List.replicate_succ, List.flatten_cons, List.all_append, h, flat_all h n]; rfl
theorem rep_all {ts : List D} (h : ts.all isItem = true) (t : Int) : (rep ts t).all isItem = true := by rw [rep_flat]; exact flat_all h _
theorem flat_sum (ts : List D) : ∀ n : Nat, ((List.replicate n ts).flatten.map pz).sum = (ts.map pz).sum * n
  | 0 => by simp
  | n + 1 => by
    rw [List.replicate_succ, List.flatten_cons, List.map_append, List.sum_append, flat_sum ts n, Int.natCast_add, Int.mul_add]
    omega
theorem rep_sum (ts : List D) {t : Int} (h : 0 ≤ t) : ((rep ts t).map pz).sum = (ts.map pz).sum * t := by
  rw [rep_flat, flat_sum, Int.toNat_of_nonneg h]
structure RepH (ts : List D) (t : Int) : Prop where
  it : ts.all isItem = true
  len : ts.length ≤ 40
  t0 : 0 ≤ t
  t1 : t ≤ 10 ^ 30
end R3
open R3
def pRep (xs : List D) (r : Ret) : Prop := ∃ ts t, xs = [.list ts, .int t] ∧ RepH ts t ∧ ts.length * t ≤ 40 ∧ r = .own (rep ts t)
def pRepE (xs : List D) (x : Exn) : Prop := ∃ ts t, xs = [.list ts, .int t] ∧ RepH ts t ∧ 40 < ts.length * t ∧ x = ⟨"TooLarge", some ("limit", .int 40)⟩
abbrev sp_repeated : Sp := spY 2 pRep pRepE
theorem shapedX {ts : List D} (h : ts.all isItem = true) (hn : ts.length ≤ 40) : SeqAt.shaped (.list ts) = true := by
  obtain ⟨f1, f2, f3, f4, f5, f6⟩ := traffic_facts h hn
  show ((PyData.list ts).canLay0 && decide ((PyData.list ts).depth ≤ 64)) = true
  rw [(nice_of f3).1, decide_eq_true (by omega)]; rfl
theorem ne_nilX {ts : List D} (h : ts.all isItem = true) (hn : ts.length ≤ 40) : dNe (.list ts) (.list []) = some (.d (.bool (!ts.isEmpty))) := by
  unfold dNe eqP
  rw [show eqS (.list ts) (.list []) = none from rfl]
  dsimp only
  rw [show unS (.list ts) = .list ts from rfl, show unS (.list []) = .list [] from rfl, if_pos ⟨shapedX h hn, rfl⟩]
  cases ts <;> rfl
def t_repeated_3 : TS := (sRet (rIf (bTest (rOp dNe (rVar 0) (rLst aNil))) (rOp dMul (rVar 0) (rVar 1)) (rLst aNil)))
def t_repeated_2 : TS := (sSeq (sIf (bTest (rOp dGt (rOp dMul (rCB dLen (aCons (rVar 0) aNil)) (rVar 1)) (rC (.int c_MOST_ITEMS)))) (sRaiseF "TooLarge" "limit" (rC (.int c_MOST_ITEMS))) sNext)
    t_repeated_3)
def t_repeated_1 : TS := (sSeq (sIf (bNot (bTest (rCall sp_is_integer [.none] (aCons (rVar 1) (aCons (rC (.int 0)) aNil))))) (sRaise "InvalidNumber") sNext)
    t_repeated_2)
def t_repeated : TS := (sSeq (sDrop (rCall sp_require_traffic [] (aCons (rVar 0) aNil)))
    t_repeated_1)
theorem m_repeated : Meets 2 2 sp_repeated t_repeated := meets_Y (by
  rintro xs R Ex hl hh
  have main : ∀ ts t, RepH ts t → (ts.length * t ≤ 40 → ∀ s, R (.own (rep ts t)) s) → (40 < ts.length * t → ∀ s, Ex ⟨"TooLarge", some ("limit", .int 40)⟩ s) → t_repeated (bodyEn 2 R Ex) [.d (.list ts), .d (.int t)] := fun ts t h k1 k2 => by
    obtain ⟨f1, f2, f3, f4, f5, f6⟩ := traffic_facts h.it h.len
    have t0 := h.t0
    have t1 := h.t1
    have hlen := h.len
    unfold t_repeated
    simp -dsimp
    refine ifp_of (by simp [tames, f2]) ?_
    refine br_split (fun _ => ?_) (fun q => absurd (f1.symm.trans q) (by decide))
    simp -dsimp
    unfold t_repeated_1
    simp -dsimp
    refine un_of (int2 rfl) ?_
    rw [show isInt (.int t) 0 none = true by simp [isInt, t0]]
    simp -dsimp
    unfold t_repeated_2
    simp -dsimp
    refine ifp_of (mulOk_of (natAbs_lt (B := 41) (by omega) (by omega) 10000) (natAbs_lt (B := 10 ^ 30 + 1) t0 (by omega) 10000)) ?_
    simp -dsimp
    refine br_split (fun hc => ?_) (fun hc => ?_)
    · have hc : 40 < (ts.length : Int) * t := of_decide_eq_true hc
      exact k2 hc _
    · have hc : ¬ 40 < (ts.length : Int) * t := of_decide_eq_false hc
      have k1 := k1 (by omega)
      simp -dsimp
      unfold t_repeated_3
      simp -dsimp
      refine un_of (ne_nilX h.it h.len) ?_
      simp -dsimp
      refine br_split (fun hne => ?_) (fun hn => ?_)
      · have hz : ts ≠ [] := fun z => by rw [z] at hne; cases hne
        have l1 : 1 ≤ ts.length := by have := List.length_pos_iff.mpr hz; omega
        have t40 : t ≤ 40 := by
          have : 1 * t ≤ (ts.length : Int) * t := Int.mul_le_mul_of_nonneg_right (by omega) t0
          omega
        have hm : ts.length * t.toNat ≤ 40 := by
          have e : ((ts.length * t.toNat : Nat) : Int) = ts.length * t := by rw [Int.natCast_mul, Int.toNat_of_nonneg t0]
          omega
        simp -dsimp
        refine ifp_of ⟨by omega, by omega, by omega⟩ ?_
        rw [rep_flat] at k1
        exact k1 _
      · have hz : ts = [] := by cases ts with | nil => rfl | cons x xs => cases hn
        subst hz
        simp -dsimp
        exact k1 _
  rcases hh with ⟨r, ⟨ts, t, rfl, h, hk, rfl⟩, k⟩ | ⟨x, ⟨ts, t, rfl, h, hk, rfl⟩, k⟩
  · exact main ts t h (fun _ => k) fun q => absurd q (by omega)
  · exact main ts t h (fun q => absurd q (by omega)) fun _ => k)
def pLimit (xs : List D) (r : Ret) : Prop := ∃ ts t, xs = [.list ts, .int t] ∧ RepH ts t ∧ 40 < ts.length * t ∧ r = .d (.int 40)
abbrev sp__law_limit_of : Sp := spP 2 pLimit
def t__law_limit_of : TS := (sSeq (sAsg (rC (.none)) 2)
    (sTryX 3 2 "TooLarge" (hFld "limit") (sDrop (rCall sp_repeated [] (aCons (rVar 0) (aCons (rVar 1) aNil)))) (sRet (rIf (bTest (rOp dIs (rVar 2) (rC (.none)))) (rC (.none)) rNever))))
theorem m__law_limit_of : Meets 2 4 sp__law_limit_of t__law_limit_of := meets_P (by
  rintro xs r R Ex hl ⟨ts, t, rfl, h, hk, rfl⟩ k
  show t__law_limit_of (bodyEn 2 R Ex) [.d (.list ts), .d (.int t), .un, .un]
  unfold t__law_limit_of
  simp -dsimp
  refine .inr ⟨_, ⟨ts, t, rfl, h, hk, rfl⟩, ?_⟩
  exact ⟨by show 3 < 4; decide, by show 2 < 4; decide, rfl, _, rfl, k _⟩)
def pWrit (xs : List D) (r : Ret) : Prop := ∃ ts t, xs = [.list ts, .int t] ∧ 0 ≤ t ∧ t ≤ 50 ∧ ts.length ≤ 40 ∧ r = .own (rep ts t)
abbrev sp__law_written : Sp := spP 2 pWrit
def t__law_written_1b : TS := (sFor (iAny (rVar 0)) (gName 4) (sApp 2 (rVar 4)))
def t__law_written_1 : TS := (sSeq (sFor (iRange1 (rVar 1)) (gName 3) t__law_written_1b)
    (sRet (rMove 2)))
def t__law_written : TS := (sSeq (sAsg (rLst aNil) 2)
    t__law_written_1)
theorem m__law_written : Meets 2 5 sp__law_written t__law_written := meets_P (by
  rintro xs r R Ex hl ⟨ts, t, rfl, t0, t1, hl2, rfl⟩ k
  show t__law_written (bodyEn 2 R Ex) [.d (.list ts), .d (.int t), .un, .un, .un]
  unfold t__law_written
  simp -dsimp
  unfold t__law_written_1
  simp -dsimp
  refine ifp_of (by omega) ?_
  refine for_iv (fun i e => ∃ s3 s4 : Sl, e = [.d (.list ts), .d (.int t), .own (List.replicate i ts).flatten, s3, s4]) ⟨_, _, rfl⟩ ?_ ?_
  · rintro i x e hi ⟨s3, s4, rfl⟩
    obtain ⟨hi2, rfl⟩ := rangeD_at hi
    have hfl := flat_len ts i
    have hm : i * ts.length ≤ 50 * 40 := Nat.mul_le_mul (by omega) hl2
    simp -dsimp
    unfold t__law_written_1b
    simp -dsimp
    refine for_iv (fun j e => ∃ s4 : Sl, e = [.d (.list ts), .d (.int t), .own ((List.replicate i ts).flatten ++ ts.take j), .d (.int i), s4]) ⟨_, by rw [List.take_zero, List.append_nil]⟩ ?_ ?_
    · rintro j x e hj ⟨s4, rfl⟩
      have hj2 := (List.getElem?_eq_some_iff.mp hj).1
      simp -dsimp
      refine ifp_of (by omega) ?_
      refine ⟨.d x, ?_⟩
      rw [List.take_add_one, hj, ← List.append_assoc]; rfl
    · rintro e ⟨s4, rfl⟩
      refine ⟨.d (.int i), s4, ?_⟩
      rw [List.take_length, List.replicate_succ', List.flatten_append]
      simp
  · rintro e ⟨s3, s4, rfl⟩
    rw [rangeD_len]
    rw [rep_flat] at k
    simp -dsimp
    exact k _)
end PD
end K03b_
section K03c_
set_option Elab.async false
set_option linter.all false
set_option maxRecDepth 100000
set_option maxHeartbeats 2000000
/-! K03c: law_right. -/
namespace PD
open PySem
open R3
theorem cut_end (ys : List D) : cutD ys (some (-1)) none = ys.drop (ys.length - 1) := by
  unfold cutD
  rw [HT.sIx_none]
  have e : HT.sIx ys.length 0 (some (-1)) = ys.length - 1 := by
    show (if (-1 : Int) < 0 then ((-1 : Int) + (ys.length : Int)).toNat else min (-1 : Int).toNat ys.length) = _
    rw [if_pos (by decide)]; omega
  rw [e]
  exact List.take_of_length_le (by rw [List.length_drop]; omega)
theorem at_endX (ys : List D) (y : D) : dIx (.list (ys ++ [y])) (.int (-1)) = some (.d y) := by
  show (L2.atI (ys ++ [y]) (-1)).map Ret.d = _
  unfold L2.atI L2.ixN
  rw [List.length_append, List.length_singleton, if_neg (by decide), if_pos (by omega), show (-1 + ((ys.length + 1 : Nat) : Int)).toNat = ys.length by omega]
  simp
theorem tms_end {ts : List D} (h : ts ≠ []) : ∃ zs : List Int, tms ts = zs ++ [(ts.map pz).sum] := by
  obtain ⟨n, hn⟩ : ∃ n, ts.length = n + 1 := ⟨ts.length - 1, by have := List.length_pos_iff.mpr h; omega⟩
  refine ⟨(List.range n).map fun i => ((ts.take (i + 1)).map pz).sum, ?_⟩
  unfold tms
  rw [hn, List.range_succ, List.map_append]
  show _ ++ [((ts.take (n + 1)).map pz).sum] = _
  rw [List.take_of_length_le (by omega)]
theorem items_shown {ts : List D} (h : ts.all isItem = true) (hn : ts.length ≤ 40) : dRepr [.list ts] = some (.d (.str (PyData.list ts).shown)) := by
  obtain ⟨f1, f2, f3, f4, f5, f6⟩ := traffic_facts h hn
  exact repr_of rfl f3 (by omega) (by omega)
theorem flats_itemsX {ts : List D} (h : ts.all isItem = true) : flats ts = true := by
  induction ts with
  | nil => rfl
  | cons x xs ih =>
    rw [List.all_cons, Bool.and_eq_true] at h
    obtain ⟨p, w, q, b, rfl, _⟩ := isItem_of h.1
    show (true && flats xs) = true
    rw [ih h.2]; rfl
@[simp ↓] theorem bBor_24 (t : TB) (E : EK) (env : Env) (P : Bool → Env → Prop) : bBor [2, 4] t E env P = lendM [false, false, true, false, true] env fun e => t (fun _ _ => False) e fun r e1 => backM [false, false, true, false, true] env e1 fun e2 => P r e2 := bBor_m _ (by decide) ..
def pR3 (xs : List D) (r : Ret) : Prop := ∃ ts t, xs = [.list ts, .int t] ∧ RepH ts t ∧ ts.length * t ≤ 40 ∧ t ≤ 50 ∧ r = .d (.bool true)
theorem ix0 (x : D) (xs : List D) : dIx (.list (x :: xs)) (.int 0) = some (.d x) := by
  show (L2.atI (x :: xs) 0).map Ret.d = _
  unfold L2.atI L2.ixN
  rw [if_pos (by decide), if_pos (by rw [List.length_cons]; omega)]
  rfl
theorem pz_sum : ∀ {ts : List D}, ts.all isItem = true → 0 ≤ (ts.map pz).sum ∧ (ts.map pz).sum ≤ ts.length * 10 ^ 30
  | [], _ => ⟨by simp, by simp⟩
  | x :: ts, h => by
    rw [List.all_cons, Bool.and_eq_true] at h
    obtain ⟨p, w, q, b, rfl, p0, p1, _⟩ := isItem_of h.1
    have hg : c_GREATEST = 10 ^ 30 := rfl
    rw [hg] at p1
    obtain ⟨i1, i2⟩ := pz_sum h.2
    rw [List.map_cons, List.sum_cons, List.length_cons]
    show 0 ≤ p + _ ∧ p + _ ≤ _
    omega
namespace X03
abbrev sp__law_right : Sp := spP 2 pR3
def t__law_right_7 : TS := (sRet (rAnd (rOp dEq (rCB dRepr (aCons (rCall sp_repeated [] (aCons (rVar 0) (aCons (rVar 1) aNil))) aNil)) (rCB dRepr (aCons (rVar 4) aNil))) (rOp dEq (rCB dRepr (aCons (rVar 0) aNil)) (rVar 3))))
def t__law_right_6 : TS := (sSeq (sRev 2)
    t__law_right_7)
def t__law_right_5 : TS := (sSeq (sApp 2 (rIf (bTest (rOp dNe (rVar 0) (rLst aNil))) (rOp dIx (rVar 0) (rC (.int 0))) (rTup (aCons (rC (.int 0)) (aCons (rC (.int 0)) (aCons (rC (.str "a")) (aCons (rC (.bool false)) aNil)))))))
    t__law_right_6)
def t__law_right_4 : TS := (sSeq (sIf (bBor [2, 4] (bTest (rOp dNe (rSl dSl (rCall sp_times_of [] (aCons (rVar 2) aNil)) (oSome (rUn dNeg (rC (.int 1)))) oNone) (rLc (iAny (rSl dSl (rVar 4) (oSome (rUn dNeg (rC (.int 1)))) oNone)) (gName 5) bYes (rOp dMul (rOp dIx (rCall sp_times_of [] (aCons (rVar 0) aNil)) (rUn dNeg (rC (.int 1)))) (rVar 1)) [5])))) (sRet (rC (.bool false))) sNext)
    t__law_right_5)
def t__law_right_3 : TS := (sSeq (sIf (bBor [2, 4] (bAnd (bTest (rOp dNe (rVar 4) (rLst aNil))) (bTest (rOp dNe (rCall sp_measures_of [] (aCons (rVar 2) (aCons (rC (.int 0)) (aCons (rCB dLen (aCons (rVar 2) aNil)) aNil)))) (rCall sp__law_measures [] (aCons (rVar 4) (aCons (rC (.int 0)) (aCons (rCB dLen (aCons (rVar 4) aNil)) aNil)))))))) (sRet (rC (.bool false))) sNext)
    t__law_right_4)
def t__law_right_2 : TS := (sSeq (sIf (bBor [2, 4] (bOr (bTest (rOp dNe (rCB dRepr (aCons (rVar 2) aNil)) (rCB dRepr (aCons (rVar 4) aNil)))) (bTest (rOp dNe (rCB dRepr (aCons (rVar 0) aNil)) (rVar 3))))) (sRet (rC (.bool false))) sNext)
    t__law_right_3)
def t__law_right_1 : TS := (sSeq (sAsg (rCall sp_repeated [] (aCons (rVar 0) (aCons (rVar 1) aNil))) 2)
    t__law_right_2)
def t__law_right : TS := (sSeq (sPar [3, 4] [(rCB dRepr (aCons (rVar 0) aNil)), (rCall sp__law_written [] (aCons (rVar 0) (aCons (rVar 1) aNil)))])
    t__law_right_1)
theorem m__law_right : Meets 2 6 sp__law_right t__law_right := meets_P (by
  rintro xs r R Ex hl ⟨ts, t, rfl, h, h40, t50, rfl⟩ k
  have t0 := h.t0
  have hlen := h.len
  have wl := rep_len ts t0
  have wa := rep_all h.it t
  have ws := rep_sum ts t0
  have s1 := items_shown h.it h.len
  have s2 := items_shown wa (by omega)
  have wfl := flats_itemsX wa
  have w0 : rep ts t ≠ [] → ts ≠ [] := fun z q => z (by unfold rep; rw [if_pos q])
  have hr : ∀ (Q : Ret → Prop) (E : Exn → Prop), Q (.own (rep ts t)) → exY pRep pRepE [.list ts, .int t] Q E := fun Q E q => .inl ⟨_, ⟨ts, t, rfl, h, h40, rfl⟩, q⟩
  obtain ⟨g1, g2, g3, g4, g5, g6⟩ := traffic_facts wa (by omega)
  obtain ⟨f1, f2, f3, f4, f5, f6⟩ := traffic_facts h.it h.len
  show t__law_right (bodyEn 2 R Ex) [.d (.list ts), .d (.int t), .un, .un, .un, .un]
  unfold t__law_right
  simp -dsimp
  refine un_of s1 ?_
  simp -dsimp
  refine exP_of ⟨ts, t, rfl, t0, t50, hlen, rfl⟩ ?_
  simp -dsimp
  unfold t__law_right_1
  simp -dsimp
  refine hr _ _ ?_
  simp -dsimp
  unfold t__law_right_2
  simp -dsimp
  refine un_of s2 ?_
  refine un_of s2 ?_
  simp -dsimp
  refine un_of s1 ?_
  simp -dsimp
  have st7 : ∀ us : List D, t__law_right_7 (bodyEn 2 R Ex) [.d (.list ts), .d (.int t), .own us, .d (.str (PyData.list ts).shown), .own (rep ts t), .un] := fun us => by
    unfold t__law_right_7
    simp -dsimp
    refine hr _ _ ?_
    refine un_of s2 ?_
    refine un_of s2 ?_
    simp -dsimp
    refine un_of s1 ?_
    simp -dsimp
    exact k _
  have st5 : t__law_right_5 (bodyEn 2 R Ex) [.d (.list ts), .d (.int t), .own (rep ts t), .d (.str (PyData.list ts).shown), .own (rep ts t), .un] := by
    unfold t__law_right_5
    simp -dsimp
    refine un_of (ne_nilX h.it h.len) ?_
    simp -dsimp
    refine br_split (fun hne => ?_) (fun _ => ?_)
    · obtain ⟨v, us, rfl⟩ : ∃ v us, ts = v :: us := by
        cases ts with
        | nil => cases hne
        | cons v us => exact ⟨v, us, rfl⟩
      refine un_of (ix0 v us) ?_
      simp -dsimp
      refine ifp_of (by omega) ?_
      unfold t__law_right_6
      simp -dsimp
      exact st7 _
    · simp -dsimp
      refine ifp_of (by omega) ?_
      unfold t__law_right_6
      simp -dsimp
      exact st7 _
  have hd : cutD (rep ts t) (some (0 : Int)) (some ((rep ts t).length : Int)) = rep ts t := by
    rw [show (0 : Int) = ((0 : Nat) : Int) from rfl, cut_at (rep ts t) (by omega) (by omega), List.take_length, List.drop_zero]
  have htm : dNe (.list (cutD ((tms (rep ts t)).map .int) (some (-1)) none)) (.list (((rep ts t).drop ((rep ts t).length - 1)).map fun _ => PyData.int ((ts.map pz).sum * t))) = some (.d (.bool false)) := by
    rw [cut_end, List.length_map]
    by_cases hz : rep ts t = []
    · rw [hz]
      exact (ne_ints2 [] []).trans rfl
    · obtain ⟨zs, e1⟩ := tms_end hz
      have e2 : (tms (rep ts t)).length = (rep ts t).length := by simp [tms]
      have l1 : zs.length + 1 = (rep ts t).length := by rw [← e2, e1]; simp
      have e3 : ∃ y, (rep ts t).drop ((rep ts t).length - 1) = [y] := by
        have : ((rep ts t).drop ((rep ts t).length - 1)).length = 1 := by rw [List.length_drop]; omega
        exact List.length_eq_one_iff.mp this
      obtain ⟨y, e3⟩ := e3
      rw [e3, e1, List.map_append, List.length_append, List.length_singleton, Nat.add_sub_cancel]
      have : ((zs.map PyData.int ++ [(((rep ts t).map pz).sum)].map PyData.int).drop zs.length) = [((rep ts t).map pz).sum].map PyData.int := by
        rw [List.drop_append_of_le_length (by simp), List.drop_of_length_le (by simp)]; rfl
      rw [this, ws]
      show dNe (.list ([((ts.map pz).sum * t)].map .int)) (.list ([((ts.map pz).sum * t)].map .int)) = _
      rw [ne_ints2]; simp
  obtain ⟨p0, p1⟩ := pz_sum h.it
  have hmul : mulOk (ts.map pz).sum t = true := mulOk_of (natAbs_lt (B := 10 ^ 32) p0 (by omega) 10000) (natAbs_lt (B := 10 ^ 31) t0 (by omega) 10000)
  have st4 : t__law_right_4 (bodyEn 2 R Ex) [.d (.list ts), .d (.int t), .own (rep ts t), .d (.str (PyData.list ts).shown), .own (rep ts t), .un] := by
    unfold t__law_right_4
    simp -dsimp
    refine un_of (timesof1 g1 g2) ?_
    simp -dsimp
    rw [cut_end (rep ts t)]
    refine lc_map (fun _ => .int ((ts.map pz).sum * t)) (by rw [List.length_drop]; omega) (fun x hx => ?_) ?_
    · have hne : rep ts t ≠ [] := fun z => by rw [z] at hx; cases hx
      obtain ⟨zs, e1⟩ := tms_end (w0 hne)
      simp -dsimp
      refine un_of (timesof1 f1 f2) ?_
      simp -dsimp
      rw [e1, List.map_append]
      refine un_of (at_endX _ _) ?_
      simp -dsimp
      refine ifp_of hmul ?_
      simp -dsimp
    · refine un_of htm ?_
      simp -dsimp
      exact st5
  have st3 : t__law_right_3 (bodyEn 2 R Ex) [.d (.list ts), .d (.int t), .own (rep ts t), .d (.str (PyData.list ts).shown), .own (rep ts t), .un] := by
    unfold t__law_right_3
    simp -dsimp
    refine un_of (ne_nilX wa (by omega)) ?_
    simp -dsimp
    refine br_split (fun hne => ?_) (fun _ => ?_)
    · have l1 : 1 ≤ (rep ts t).length := by
        cases hq : rep ts t with
        | nil => rw [hq] at hne; cases hne
        | cons x xs => simp
      simp -dsimp
      have e7 := measof1 (ts := rep ts t) (s := 0) (e := ((rep ts t).length : Int)) g1 g2 (by decide) (by omega) (Int.le_refl _)
      have e8 := lmeas1 (ts := rep ts t) (s := 0) (e := ((rep ts t).length : Int)) wa (by omega) (by decide) (by omega) (Int.le_refl _)
      refine un_of e7 ?_
      simp -dsimp
      refine un_of e8 ?_
      have e9 := ne_tupsame (meas (cutD (rep ts t) (some (0 : Int)) (some ((rep ts t).length : Int))))
      refine un_of e9 ?_
      simp -dsimp
      exact st4
    · simp -dsimp
      exact st4
  exact st3)
end X03
end PD
end K03c_
section K03d_
set_option Elab.async false
set_option linter.all false
set_option maxRecDepth 100000
set_option maxHeartbeats 2000000
/-! K03d: law. -/
namespace PD
open PySem
open R3
@[simp ↓] theorem rPop0_wX (i : Nat) (P : Ret → Env → Prop) (E : EK) (env : Env) : rPop0 i E env P = owX i env fun xs kk => un xs.getLast? fun v => P (.d v) (kk xs.dropLast) := by
  unfold rPop0 owX un
  apply propext
  constructor
  · rintro ⟨s, xs, v, a, b, c, d⟩; exact ⟨s, xs, a, b, v, c, d⟩
  · rintro ⟨s, xs, a, b, v, c, d⟩; exact ⟨s, xs, v, a, b, c, d⟩
theorem ixOf_natX {i : Int} {n : Nat} (h0 : 0 ≤ i) (h1 : i < n) : ixOf i n = some i.toNat := by
  unfold ixOf
  rw [if_pos h0, if_pos h1]
theorem ne_nil0X : dNe (.list []) (.list []) = some (.d (.bool false)) := by
  unfold dNe eqP
  rw [show eqS (.list []) (.list []) = none from rfl]
  dsimp only
  rw [if_pos ⟨rfl, rfl⟩]; rfl
theorem eq_nil0X : dEq (.list []) (.list []) = some (.d (.bool true)) := by
  unfold dEq eqP
  rw [show eqS (.list []) (.list []) = none from rfl]
  dsimp only
  rw [if_pos ⟨rfl, rfl⟩]; rfl
@[simp ↓] theorem bBor_45 (t : TB) (E : EK) (env : Env) (P : Bool → Env → Prop) : bBor [4, 5] t E env P = lendM [false, false, false, false, true, true] env fun e => t (fun _ _ => False) e fun r e1 => backM [false, false, false, false, true, true] env e1 fun e2 => P r e2 := bBor_m _ (by decide) ..
theorem rangeN (n : Nat) : rangeD 0 n = (List.range n).map fun i : Nat => .int (i : Int) := by
  unfold rangeD
  refine List.map_congr_left fun i _ => ?_
  rw [Int.zero_add]
namespace X03
theorem rightP {ts : List D} {t : Int} (h : ts.all isItem = true) (hl : ts.length ≤ 40) (t0 : 0 ≤ t) (t1 : t ≤ 50) (h40 : ts.length * t ≤ 40) {Q : Ret → Prop} (q : Q (.d (.bool true))) : exP pR3 [.list ts, .int t] Q :=
  exP_of ⟨ts, t, rfl, ⟨h, hl, t0, by omega⟩, h40, t1, rfl⟩ q
def t_law_0b1b3b : TS := (sIf (bBor [4, 5] (bAnd (bTest (rOp dGt (rOp dMul (rVar 6) (rVar 4)) (rC (.int 40)))) (bTest (rOp dNe (rCall sp__law_limit_of [] (aCons (rVar 5) (aCons (rVar 6) aNil))) (rC (.int 40)))))) (sRet (rC (.bool false))) sNext)
def t_law_0b1b7 : TS := (sIf (bBor [4, 5] (bOr (bNot (bTest (rCall sp__law_right [] (aCons (rVar 5) (aCons (rC (.int 1)) aNil))))) (bNot (bTest (rCall sp__law_right [] (aCons (rVar 5) (aCons (rOp dFdiv (rC (.int 40)) (rVar 4)) aNil))))))) (sRet (rC (.bool false))) sNext)
def t_law_0b1b6 : TS := (sSeq (sDrop (rPop0 5))
    t_law_0b1b7)
def t_law_0b2 : TS := (sIf (bOr (bTest (rOp dNe (rCall sp_repeated [] (aCons (rLst aNil) (aCons (rCallP sp__law_draw 2 [] (aCons (rOp dPow (rC (.int 10)) (rC (.int 30))) aNil)) aNil))) (rLst aNil))) (bNot (bTest (rCall sp__law_right [] (aCons (rLst aNil) (aCons (rCallP sp__law_draw 2 [] (aCons (rC (.int 50)) aNil)) aNil)))))) (sRet (rC (.bool false))) sNext)
def t_law_1 : TS := (sRet (rAnd (rOp dEq (rCall sp_repeated [] (aCons (rLst aNil) (aCons (rOp dPow (rC (.int 10)) (rC (.int 30))) aNil))) (rLst aNil)) (rOp dEq (rCall sp__law_limit_of [] (aCons (rLst (aCons (rTup (aCons (rC (.int 0)) (aCons (rC (.int 0)) (aCons (rC (.str "a")) (aCons (rC (.bool false)) aNil))))) aNil)) (aCons (rC (.int 41)) aNil))) (rC (.int 40)))))
def t_law_0b1b5 : TS := (sSeq (sIf (bBor [4, 5] (bNot (bTest (rCall sp__law_right [] (aCons (rVar 5) (aCons (rOp dFdiv (rC (.int 40)) (rVar 4)) aNil)))))) (sRet (rC (.bool false))) sNext)
    t_law_0b1b6)
def t_law_0b1b4 : TS := (sSeq (sSetI 5 (rTup (aCons (rC (.int 7)) (aCons (rOp dPow (rC (.int 10)) (rC (.int 30))) (aCons (rC (.str "zz")) (aCons (rC (.bool true)) aNil))))) (rCallP sp__law_draw 2 [] (aCons (rVar 4) aNil)))
    t_law_0b1b5)
def t_law_0b1b3 : TS := (sSeq (sFor (iAny (rLst (aCons (rOp dAdd (rOp dFdiv (rC (.int 40)) (rVar 4)) (rC (.int 1))) (aCons (rOp dAdd (rOp dFdiv (rC (.int 40)) (rVar 4)) (rC (.int 2))) (aCons (rC (.int 41)) (aCons (rOp dPow (rC (.int 10)) (rC (.int 29))) aNil)))))) (gName 6) t_law_0b1b3b)
    t_law_0b1b4)
def t_law_0b1b2 : TS := (sSeq (sIf (bBor [4, 5] (bTest (rOp dNe (rLc (iRange1 (rOp dAdd (rOp dFdiv (rC (.int 40)) (rVar 4)) (rC (.int 1)))) (gName 6) (bNot (bTest (rCall sp__law_right [] (aCons (rVar 5) (aCons (rVar 6) aNil))))) (rVar 6) [6]) (rLst aNil)))) (sRet (rC (.bool false))) sNext)
    t_law_0b1b3)
def t_law_0b1b1 : TS := (sSeq (sAsg (rCallP sp__law_traffic 2 [] (aCons (rVar 4) aNil)) 5)
    t_law_0b1b2)
def t_law_0b1b : TS := (sSeq (sAsg (rOp dAdd (rC (.int 1)) (rCallP sp__law_draw 2 [] (aCons (rOp dIx (rLst (aCons (rC (.int 5)) (aCons (rC (.int 13)) (aCons (rC (.int 40)) aNil)))) (rCallP sp__law_draw 2 [] (aCons (rC (.int 3)) aNil))) aNil))) 4)
    t_law_0b1b1)
def t_law_0b1 : TS := (sSeq (sFor (iRange1 (rC (.int 3))) (gName 3) t_law_0b1b)
    t_law_0b2)
def t_law_0b : TS := (sSeq (sAsg (rCall sp__law_source [] (aCons (rVar 0) (aCons (rVar 1) aNil))) 2)
    t_law_0b1)
def t_law : TS := (sSeq (sFor (iRange1 (rCB dMax (aCons (rC (.int 1)) (aCons (rCB dMin (aCons (rC (.int 6)) (aCons (rCB dLen (aCons (rVar 0) aNil)) aNil))) aNil)))) (gName 1) t_law_0b)
    t_law_1)
theorem m_law : Meets 1 7 (spLaw 63) t_law := meets_of (by
  rintro as R Ex ⟨ns, hn, rfl, k⟩
  show t_law (bodyEn 1 R Ex) [.d (.dict [(.none, .list (ns.map .int))]), .un, .un, .un, .un, .un, .un]
  unfold t_law
  simp -dsimp
  refine ifp_of (by omega) ?_
  refine for_iv (fun i e => ∃ s1 s2 s3 s4 s5 s6, jo s1 ∧ jo s2 ∧ jo s3 ∧ jo s4 ∧ jo s5 ∧ jo s6 ∧ e = [.d (.dict [(.none, .list (ns.map .int))]), s1, s2, s3, s4, s5, s6]) ⟨_, _, _, _, _, _, jo_un, jo_un, jo_un, jo_un, jo_un, jo_un, rfl⟩ ?_ ?_
  · rintro i x e hi ⟨s1, s2, s3, s4, s5, s6, j1, j2, j3, j4, j5, j6, rfl⟩
    obtain ⟨hi2, rfl⟩ := rangeD_at hi
    have hi3 : i < 6 := by omega
    simp -dsimp
    unfold t_law_0b
    simp -dsimp
    refine ⟨ns, i, rfl, hn, by omega, by omega, fun src hs => ?_⟩
    simp -dsimp
    unfold t_law_0b1
    simp -dsimp
    refine for_iv (fun j e => ∃ src s3 s4 s5 s6, jo s3 ∧ jo s4 ∧ jo s5 ∧ jo s6 ∧ e = [.d (.dict [(.none, .list (ns.map .int))]), .d (.int i), .own src, s3, s4, s5, s6] ∧ Src src (j * 2000)) ⟨src, _, _, _, _, j3, j4, j5, j6, rfl, by rw [Nat.zero_mul]; exact hs⟩ ?_ ?_
    · clear hs j2 j3 j4 j5 j6
      rintro j x y hj ⟨src, s3, s4, s5, s6, j3, j4, j5, j6, rfl, hs⟩
      obtain ⟨hj2, rfl⟩ := rangeD_at hj
      have hj2 : j < 3 := hj2
      simp -dsimp
      unfold t_law_0b1b
      simp -dsimp
      refine draw_of hs (by show _ ≤ 10 ^ 15; omega) (by omega) (by omega) fun a src hs a0 a1 => ?_
      refine pick_of a0 (by simpa using a1) fun w hw => ?_
      obtain ⟨w, rfl, w1, w2⟩ : ∃ w' : Int, w = .int w' ∧ 1 ≤ w' ∧ w' ≤ 40 := by
        simp only [List.mem_cons, List.not_mem_nil, or_false] at hw
        rcases hw with rfl | rfl | rfl <;> exact ⟨_, rfl, by decide, by decide⟩
      clear hw
      simp -dsimp
      refine draw_of hs (by show _ ≤ 10 ^ 15; omega) (by omega) (by omega) fun b src hs b0 b1 => ?_
      simp -dsimp
      obtain ⟨m, hm⟩ : ∃ m : Int, m = 1 + b := ⟨_, rfl⟩
      have m1 : 1 ≤ m := by omega
      have m40 : m ≤ 40 := by omega
      rw [← hm]
      clear hm b0 b1
      unfold t_law_0b1b1
      simp -dsimp
      refine dr_of hs (by show _ ≤ 10 ^ 15; omega) ⟨m, rfl, by omega, by omega⟩ fun r src hs ⟨m', ts, em, er, tl, tt⟩ => ?_
      cases em
      subst er
      have q1 : 40 / m * m ≤ 40 := Int.ediv_mul_le 40 (by omega)
      have q2 : 40 < (40 / m + 1) * m := Int.lt_ediv_add_one_mul_self 40 (by omega)
      have q0 : 0 ≤ 40 / m := Int.ediv_nonneg (by decide) (by omega)
      have q40 : 40 / m ≤ 40 := by
        have : 40 / m * 1 ≤ 40 / m * m := Int.mul_le_mul_of_nonneg_left m1 q0
        omega
      have hdv : divOk 40 m = true := divOk_of (by omega) (Int.lt_of_le_of_lt m40 (by decide))
      have lend : ∀ (us : List D) (t : Int), 0 ≤ t → t ≤ 40 / m → (us.length : Int) ≤ m → (us.length : Int) * t ≤ 40 := fun us t h0 h1 h2 => by
        have a := Int.mul_le_mul_of_nonneg_right h2 h0
        have b := Int.mul_le_mul_of_nonneg_left h1 (show 0 ≤ m by omega)
        rw [Int.mul_comm m (40 / m)] at b
        omega
      have st7 : ∀ (D1 : En) (src us : List D) (s6 : Sl), jo s6 → us.all isItem = true → (us.length : Int) ≤ m → Src src ((j + 1) * 2000) → (∀ src s3 s4 s5 s6, jo s3 → jo s4 → jo s5 → jo s6 → Src src ((j + 1) * 2000) → D1.nx [.d (.dict [(.none, .list (ns.map .int))]), .d (.int i), .own src, s3, s4, s5, s6]) → t_law_0b1b7 D1 [.d (.dict [(.none, .list (ns.map .int))]), .d (.int i), .own src, .d (.int j), .d (.int m), .own us, s6] := fun D1 src us s6 j6 ut ul hs hnx => by
        unfold t_law_0b1b7
        have ufl := flats_itemsX ut
        have t1 : (us.length : Int) * 1 ≤ 40 := by omega
        simp -dsimp [j6]
        refine rightP ut (by omega) (by decide) (by decide) t1 ?_
        simp -dsimp [j6]
        refine ifp_of hdv ?_
        simp -dsimp [j6]
        refine rightP ut (by omega) q0 (by omega) (lend _ _ q0 (Int.le_refl _) ul) ?_
        simp -dsimp [j6]
        refine ifp_of hs.flat ?_
        simp -dsimp [j6]
        exact hnx _ _ _ _ _ (jo_d _) (jo_d _) (jo_o ufl) j6 hs
      have st5 : ∀ (D1 : En) (src us : List D) (s6 : Sl), jo s6 → us.all isItem = true → (us.length : Int) = m → Src src ((j + 1) * 2000) → (∀ src s3 s4 s5 s6, jo s3 → jo s4 → jo s5 → jo s6 → Src src ((j + 1) * 2000) → D1.nx [.d (.dict [(.none, .list (ns.map .int))]), .d (.int i), .own src, s3, s4, s5, s6]) → t_law_0b1b5 D1 [.d (.dict [(.none, .list (ns.map .int))]), .d (.int i), .own src, .d (.int j), .d (.int m), .own us, s6] := fun D1 src us s6 j6 ut ul hs hnx => by
        unfold t_law_0b1b5
        have ufl := flats_itemsX ut
        simp -dsimp [j6]
        refine ifp_of hdv ?_
        simp -dsimp [j6]
        refine rightP ut (by omega) q0 (by omega) (lend _ _ q0 (Int.le_refl _) (by omega)) ?_
        simp -dsimp [j6]
        refine ifp_of hs.flat ?_
        simp -dsimp [j6]
        unfold t_law_0b1b6
        simp -dsimp [j6]
        obtain ⟨v, hv⟩ : ∃ v, us.getLast? = some v := by
          cases hq : us.getLast? with
          | none => rw [List.getLast?_eq_none_iff.mp hq] at ul; simp at ul; omega
          | some v => exact ⟨v, rfl⟩
        refine un_of hv ?_
        refine st7 D1 src _ s6 j6 (List.all_eq_true.mpr fun x hx => List.all_eq_true.mp ut x ((List.dropLast_sublist us).subset hx)) (by rw [List.length_dropLast]; omega) hs hnx
      have st4 : ∀ (D1 : En) (src us : List D) (s6 : Sl), jo s6 → us.all isItem = true → (us.length : Int) = m → Src src (j * 2000 + 1500) → (∀ src s3 s4 s5 s6, jo s3 → jo s4 → jo s5 → jo s6 → Src src ((j + 1) * 2000) → D1.nx [.d (.dict [(.none, .list (ns.map .int))]), .d (.int i), .own src, s3, s4, s5, s6]) → t_law_0b1b4 D1 [.d (.dict [(.none, .list (ns.map .int))]), .d (.int i), .own src, .d (.int j), .d (.int m), .own us, s6] := fun D1 src us s6 j6 ut ul hs hnx => by
        unfold t_law_0b1b4
        simp -dsimp [j6]
        refine draw_of hs (by show _ ≤ 10 ^ 15; omega) m1 (by omega) fun d src hs d0 d1 => ?_
        simp -dsimp [j6]
        refine un_of (ixOf_natX d0 (by omega)) ?_
        refine st5 D1 src _ s6 j6 (List.all_eq_true.mpr fun x hx => ?_) (by rw [List.length_set]; exact ul) (hs.mono (by omega)) hnx
        rcases List.mem_or_eq_of_mem_set hx with hx | rfl
        · exact List.all_eq_true.mp ut x hx
        · decide +kernel
      have st3 : ∀ (D1 : En) (src us : List D) (s6 : Sl), jo s6 → us.all isItem = true → (us.length : Int) = m → Src src (j * 2000 + 1500) → (∀ src s3 s4 s5 s6, jo s3 → jo s4 → jo s5 → jo s6 → Src src ((j + 1) * 2000) → D1.nx [.d (.dict [(.none, .list (ns.map .int))]), .d (.int i), .own src, s3, s4, s5, s6]) → t_law_0b1b3 D1 [.d (.dict [(.none, .list (ns.map .int))]), .d (.int i), .own src, .d (.int j), .d (.int m), .own us, s6] := fun D1 src us s6 j6 ut ul hs hnx => by
        unfold t_law_0b1b3
        have ufl := flats_itemsX ut
        simp -dsimp [j6]
        refine ifp_of hdv ?_
        simp -dsimp [j6]
        refine ifp_of hdv ?_
        simp -dsimp [j6]
        refine for_iv (fun i' e => ∃ s6, jo s6 ∧ e = [.d (.dict [(.none, .list (ns.map .int))]), .d (.int i), .own src, .d (.int j), .d (.int m), .own us, s6]) ⟨_, j6, rfl⟩ ?_ ?_
        · clear j6
          rintro i' x e hx ⟨s6, j6, rfl⟩
          obtain ⟨t, rfl, t0, t1⟩ : ∃ t : Int, x = .int t ∧ 0 ≤ t ∧ t ≤ 10 ^ 30 := by
            have := List.mem_of_getElem? hx
            simp only [List.mem_cons, List.not_mem_nil, or_false] at this
            rcases this with rfl | rfl | rfl | rfl
            · exact ⟨40 / m + 1, rfl, by omega, by omega⟩
            · exact ⟨40 / m + 2, rfl, by omega, by omega⟩
            · exact ⟨41, rfl, by omega, by omega⟩
            · exact ⟨10 ^ 29, rfl, by omega, by omega⟩
          simp -dsimp [j6]
          unfold t_law_0b1b3b
          simp -dsimp [j6]
          refine ifp_of (mulOk_of (natAbs_lt (B := 10 ^ 30 + 1) t0 (by omega) 10000) (natAbs_lt (B := 41) (by omega) (by omega) 10000)) ?_
          simp -dsimp [j6]
          refine br_split (fun h => ?_) (fun h => ?_)
          · have h : 40 < t * m := of_decide_eq_true h
            simp -dsimp [j6]
            refine exP_of ⟨us, t, rfl, ⟨ut, by omega, t0, t1⟩, by rw [ul, Int.mul_comm]; exact h, rfl⟩ ?_
            simp -dsimp [j6]
            refine ifp_of hs.flat ?_
            simp -dsimp [j6]
            exact ⟨_, jo_d _, rfl⟩
          · simp -dsimp [j6]
            refine ifp_of hs.flat ?_
            simp -dsimp [j6]
            exact ⟨_, jo_d _, rfl⟩
        · rintro e ⟨s6, j6, rfl⟩
          exact st4 D1 src us s6 j6 ut ul hs hnx
      have st2 : ∀ (D1 : En) (src us : List D) (s6 : Sl), jo s6 → us.all isItem = true → (us.length : Int) = m → Src src (j * 2000 + 1500) → (∀ src s3 s4 s5 s6, jo s3 → jo s4 → jo s5 → jo s6 → Src src ((j + 1) * 2000) → D1.nx [.d (.dict [(.none, .list (ns.map .int))]), .d (.int i), .own src, s3, s4, s5, s6]) → t_law_0b1b2 D1 [.d (.dict [(.none, .list (ns.map .int))]), .d (.int i), .own src, .d (.int j), .d (.int m), .own us, s6] := fun D1 src us s6 j6 ut ul hs hnx => by
        unfold t_law_0b1b2
        have ufl := flats_itemsX ut
        simp -dsimp [j6]
        refine ifp_of hdv ?_
        simp -dsimp [j6]
        refine ifp_of (by omega) ?_
        rw [rangeN]
        refine lc_filt (l := List.range (40 / m + 1).toNat) (enc := fun i : Nat => .int (i : Int)) (fun _ => false) (fun i => .int (i : Int)) (by rw [List.length_range]; omega) (fun t ht acc N a b => ?_) ?_
        · have ht := List.mem_range.mp ht
          simp -dsimp [j6, wipe]
          refine rightP ut (by omega) (by omega) (by omega) (lend _ _ (by omega) (by omega) (by omega)) ?_
          simp -dsimp [j6, wipe]
          first | exact b rfl | exact ⟨rfl, b rfl⟩
        · have e0 : ((List.range (40 / m + 1).toNat).filter fun _ => false) = [] := by simp
          rw [e0]
          simp -dsimp [j6]
          refine un_of ne_nil0X ?_
          simp -dsimp [j6]
          refine ifp_of hs.flat ?_
          simp -dsimp [j6]
          exact st3 D1 src us s6 j6 ut ul hs hnx
      refine st2 _ _ _ _ j6 tt tl (hs.mono (by omega)) fun src s3 s4 s5 s6 a b c d e => ?_
      exact ⟨_, _, _, _, _, a, b, c, d, rfl, e⟩
    · rintro e ⟨src, s3, s4, s5, s6, j3, j4, j5, j6, rfl, hs⟩
      have hs : Src src (3 * 2000) := hs
      unfold t_law_0b2
      simp -dsimp [j3, j4, j5, j6]
      refine draw_of hs (by show _ ≤ 10 ^ 15; omega) (by omega) (by omega) fun a src hs a0 a1 => ?_
      simp -dsimp [j3, j4, j5, j6]
      refine .inl ⟨_, ⟨[], a, rfl, ⟨rfl, by decide, a0, by omega⟩, by simp, rfl⟩, ?_⟩
      simp -dsimp [j3, j4, j5, j6]
      refine un_of ne_nil0X ?_
      simp -dsimp [j3, j4, j5, j6]
      refine draw_of hs (by show _ ≤ 10 ^ 15; omega) (by omega) (by omega) fun a src hs a0 a1 => ?_
      simp -dsimp [j3, j4, j5, j6]
      refine rightP rfl (by decide) a0 (by omega) (by simp) ?_
      simp -dsimp [j3, j4, j5, j6]
      exact ⟨_, _, _, _, _, _, jo_d _, jo_o hs.flat, j3, j4, j5, j6, rfl⟩
  · rintro e ⟨s1, s2, s3, s4, s5, s6, j1, j2, j3, j4, j5, j6, rfl⟩
    unfold t_law_1
    simp -dsimp
    refine .inl ⟨_, ⟨[], 10 ^ 30, rfl, ⟨rfl, by decide, by decide, by decide⟩, by simp, rfl⟩, ?_⟩
    simp -dsimp
    refine un_of eq_nil0X ?_
    simp -dsimp
    refine exP_of ⟨[.tuple [.int 0, .int 0, .str "a", .bool false]], 41, rfl, ⟨by decide +kernel, by decide, by decide, by decide⟩, by decide, rfl⟩ ?_
    simp -dsimp
    exact k _)
theorem a__law_right : Ary sp__law_right 2 := ary_P _ _
end X03
theorem a_repeated : Ary sp_repeated 2 := ary_Y _ _ _
theorem a__law_limit_of : Ary sp__law_limit_of 2 := ary_P _ _
theorem a__law_written : Ary sp__law_written 2 := ary_P _ _
theorem a__law_source : Ary sp__law_source 2 := ary_src
theorem a__law_kind : Ary sp__law_kind 1 := ary_V _ _ _
end PD
end K03d_
section L03_
set_option Elab.async false
set_option linter.all false
set_option maxRecDepth 100000
set_option maxHeartbeats 4000000
namespace LT
open PySem PySem.Spec PyProof.Rows L2 PD
structure Kn (w : World) (K : Fr) (mg : Str → Option Value) : Prop where
  e_InvalidNumber : Exk K mg "InvalidNumber"
  e_InvalidStretch : Exk K mg "InvalidStretch"
  e_InvalidTraffic : Exk K mg "InvalidTraffic"
  f_TooLarge : FldK K mg "TooLarge" "limit"
  g_GREATEST : ∃ t, mg "GREATEST" = some (.int c_GREATEST t)
  g_LETTERS : ∃ t, mg "LETTERS" = some (.str c_LETTERS t)
  g_MOST_ITEMS : ∃ t, mg "MOST_ITEMS" = some (.int c_MOST_ITEMS t)
  g_MOST_LETTERS : ∃ t, mg "MOST_LETTERS" = some (.int c_MOST_LETTERS t)
  n_abs : mg "abs" = none
  n_all : mg "all" = none
  n_bool : mg "bool" = none
  n_int : mg "int" = none
  n_isinstance : mg "isinstance" = none
  n_len : mg "len" = none
  n_list : mg "list" = none
  n_max : mg "max" = none
  n_min : mg "min" = none
  n_range : mg "range" = none
  n_repr : mg "repr" = none
  n_set : mg "set" = none
  n_str : mg "str" = none
  n_sum : mg "sum" = none
  n_tuple : mg "tuple" = none
  sysm : sysIn K = true
theorem kn_of {w : World} {K : Fr} {h : Heap} {mg : Str → Option Value} (X : K.In h) (G : h.Ns mainGlobals mg) (c : SaysP fa fn ts ex w K) : Kn w K mg := ⟨⟨He.glo_ok X G (c.fact 19 (f := .glo "InvalidNumber") rfl), c.fact 20 (f := .exc "InvalidNumber") rfl⟩, ⟨He.glo_ok X G (c.fact 21 (f := .glo "InvalidStretch") rfl), c.fact 22 (f := .exc "InvalidStretch") rfl⟩, ⟨He.glo_ok X G (c.fact 23 (f := .glo "InvalidTraffic") rfl), c.fact 24 (f := .exc "InvalidTraffic") rfl⟩, fldK_of (He.glo_ok X G (c.fact 25 (f := .glo "TooLarge") rfl)) (c.ck 0 (f := fldB "TooLarge" "limit") rfl), He.int_ok X G (c.fact 27 (f := .int "GREATEST" 1000000000000000000000000000000) rfl), He.str_ok X G (c.fact 28 (f := .str "LETTERS" "abcdefghijklmnopqrstuvwxyz") rfl), He.int_ok X G (c.fact 29 (f := .int "MOST_ITEMS" 40) rfl), He.int_ok X G (c.fact 30 (f := .int "MOST_LETTERS" 8) rfl), He.free_ok X G (c.fact 31 (f := .free "abs") rfl), He.free_ok X G (c.fact 32 (f := .free "all") rfl), He.free_ok X G (c.fact 33 (f := .free "bool") rfl), He.free_ok X G (c.fact 34 (f := .free "int") rfl), He.free_ok X G (c.fact 35 (f := .free "isinstance") rfl), He.free_ok X G (c.fact 36 (f := .free "len") rfl), He.free_ok X G (c.fact 37 (f := .free "list") rfl), He.free_ok X G (c.fact 38 (f := .free "max") rfl), He.free_ok X G (c.fact 39 (f := .free "min") rfl), He.free_ok X G (c.fact 40 (f := .free "range") rfl), He.free_ok X G (c.fact 41 (f := .free "repr") rfl), He.free_ok X G (c.fact 42 (f := .free "set") rfl), He.free_ok X G (c.fact 43 (f := .free "str") rfl), He.free_ok X G (c.fact 44 (f := .free "sum") rfl), He.free_ok X G (c.fact 45 (f := .free "tuple") rfl), c.ck 2 (f := sysIn) rfl⟩

theorem fnG_false {P : Program} {w : World} {K : Fr} {mg : Str → Option Value} {base : Heap} {k : Nat} {f : Addr} {fd : FuncData} {ps : List Str} {sp : PD.Sp} (h : ∀ as R Ex, ¬ sp as R Ex) : FnG P w K mg base k f fd ps (spD K mg sp) :=
  ⟨fun vs H Q E ⟨_, _, _, _, _, _, _, a4, _⟩ => (h _ _ _ a4).elim, fun A outer s H args us vs Q E hr he hb hv ⟨_, _, _, _, _, _, _, a4, _⟩ => (h _ _ _ a4).elim⟩
theorem nd_is_integer : (["value", "least", "greatest"] : List Str).Nodup := by decide +kernel
theorem d_is_integer {P : Program} {w : World} {K : Fr} {mg : Str → Option Value} {base : Heap} {k : Nat} (kn : Kn w K mg)
    {f : Addr} {cdv : Value} {A : Around} {outer : List PySem.Env} {s : Shared} {H : Hp} {E : XK} (hr : RoomG k (bx P w K mg base ["value", "least", "greatest"] "is_integer" (defScope (top 11)) f cdv A outer s H E).A)
    (hp : PassesOwn (model P w) (bx P w K mg base ["value", "least", "greatest"] "is_integer" (defScope (top 11)) f cdv A outer s H E).A (bx P w K mg base ["value", "least", "greatest"] "is_integer" (defScope (top 11)) f cdv A outer s H E).env (bx P w K mg base ["value", "least", "greatest"] "is_integer" (defScope (top 11)) f cdv A outer s H E).xe)
    (tk : Takes (bx P w K mg base ["value", "least", "greatest"] "is_integer" (defScope (top 11)) f cdv A outer s H E) (wx E)) : PSsd (bx P w K mg base ["value", "least", "greatest"] "is_integer" (defScope (top 11)) f cdv A outer s H E) (wx E) (defBody (top 11)) t_is_integer :=
  have nd := nd_is_integer
  (sd_cons (sd_if (pb_w (pb_or (pb_not (pb_val (pr_isi rfl kn.n_isinstance rfl kn.n_int boot_int (vv 0)))) (pb_or (pb_val (pr_isi rfl kn.n_isinstance rfl kn.n_bool boot_bool (vv 0))) (pb_or1 (pb_cmp od_lt (vv 0) (vv 1) rfl))))) (sd_one (sd_ret pr_bl)) sd_nil)
    (sd_one (sd_ret (pr_or (pr_cmp od_is (vv 2) pr_non rfl) (pr_one (pr_cmp od_le (vv 0) (vv 2) rfl))))))
theorem ok_is_integer {P : Program} {w : World} {K : Fr} {mg : Str → Option Value} {base : Heap} {k : Nat} (kn : Kn w K mg)
    {fa : Addr} {fd : FuncData} (F : FunD K "is_integer" "is_integer" (defArgs (top 11)) (defBody (top 11)) (defScope (top 11)) [.non] [] fa fd) : FnG P w K mg base (k + 1) fa fd ["value", "least", "greatest"] (spD K mg sp_is_integer) :=
  fnG_body (N := ["value", "least", "greatest"]) (n := 3) F ⟨rfl, rfl, rfl, by decide +kernel, rfl, by decide +kernel, by decide +kernel⟩ rfl (by first | exact ary_F _ _ | exact ary_S _ _ _ _ | exact ary_V _ _ _ | exact ary_Req _ _ _ _ | exact ary_law _ | exact a_is_integer) (fun cdv A outer s H E hr hp tk => d_is_integer kn  hr hp tk) m_is_integer
theorem nd_is_kind : (["value", "letter"] : List Str).Nodup := by decide +kernel
theorem d_is_kind {P : Program} {w : World} {K : Fr} {mg : Str → Option Value} {base : Heap} {k : Nat} (kn : Kn w K mg)
    {f : Addr} {cdv : Value} {A : Around} {outer : List PySem.Env} {s : Shared} {H : Hp} {E : XK} (hr : RoomG k (bx P w K mg base ["value", "letter"] "is_kind" (defScope (top 12)) f cdv A outer s H E).A)
    (hp : PassesOwn (model P w) (bx P w K mg base ["value", "letter"] "is_kind" (defScope (top 12)) f cdv A outer s H E).A (bx P w K mg base ["value", "letter"] "is_kind" (defScope (top 12)) f cdv A outer s H E).env (bx P w K mg base ["value", "letter"] "is_kind" (defScope (top 12)) f cdv A outer s H E).xe)
    (tk : Takes (bx P w K mg base ["value", "letter"] "is_kind" (defScope (top 12)) f cdv A outer s H E) (wx E)) : PSsd (bx P w K mg base ["value", "letter"] "is_kind" (defScope (top 12)) f cdv A outer s H E) (wx E) (defBody (top 12)) t_is_kind :=
  have nd := nd_is_kind
  (sd_cons (sd_if (pb_w (pb_or (pb_not (pb_val (pr_isi rfl kn.n_isinstance rfl kn.n_str boot_str (vv 0)))) (pb_or1 (pb_not (pb_chain od_le od_le pr_int (pr_callB cd_len rfl kn.n_len boot_len (pad_cons (vv 0) pad_nil)) (pr_gi kn.g_MOST_LETTERS)))))) (sd_one (sd_ret pr_bl)) sd_nil)
    (sd_one (sd_ret (pr_callB (cd_all rfl) rfl kn.n_all boot_all (pad_cons (pr_lc rfl nd (id_any (vv 0)) (own := [("letter", 1)]) (blk_ok (by rfl)) rfl (fun _ _ _ _ _ => (gv 1 nd)) (fun _ _ _ _ _ => ptd_nil) (fun _ _ _ _ _ => (pr_cmp (od_in (hu hr)) (vv 1) (pr_gs kn.g_LETTERS) rfl))) pad_nil)))))
theorem ok_is_kind {P : Program} {w : World} {K : Fr} {mg : Str → Option Value} {base : Heap} {k : Nat} (kn : Kn w K mg)
    {fa : Addr} {fd : FuncData} (F : FunD K "is_kind" "is_kind" (defArgs (top 12)) (defBody (top 12)) (defScope (top 12)) [] [] fa fd) : FnG P w K mg base (k + 1) fa fd ["value"] (spD K mg sp_is_kind) :=
  fnG_body (N := ["value", "letter"]) (n := 1) F ⟨rfl, rfl, rfl, by decide +kernel, rfl, by decide +kernel, by decide +kernel⟩ rfl (by first | exact ary_F _ _ | exact ary_S _ _ _ _ | exact ary_V _ _ _ | exact ary_Req _ _ _ _ | exact ary_law _ | exact a_is_kind) (fun cdv A outer s H E hr hp tk => d_is_kind kn  hr hp tk) m_is_kind
theorem nd_is_item : (["value", "pause", "weight", "kind", "marked"] : List Str).Nodup := by decide +kernel
theorem d_is_item {P : Program} {w : World} {K : Fr} {mg : Str → Option Value} {base : Heap} {k : Nat} (kn : Kn w K mg)
    (C_is_integer_3 : Cal P w K mg base k "is_integer" [] sp_is_integer)
    (C_is_kind : Cal P w K mg base k "is_kind" [] sp_is_kind)
    {f : Addr} {cdv : Value} {A : Around} {outer : List PySem.Env} {s : Shared} {H : Hp} {E : XK} (hr : RoomG k (bx P w K mg base ["value", "pause", "weight", "kind", "marked"] "is_item" (defScope (top 13)) f cdv A outer s H E).A)
    (hp : PassesOwn (model P w) (bx P w K mg base ["value", "pause", "weight", "kind", "marked"] "is_item" (defScope (top 13)) f cdv A outer s H E).A (bx P w K mg base ["value", "pause", "weight", "kind", "marked"] "is_item" (defScope (top 13)) f cdv A outer s H E).env (bx P w K mg base ["value", "pause", "weight", "kind", "marked"] "is_item" (defScope (top 13)) f cdv A outer s H E).xe)
    (tk : Takes (bx P w K mg base ["value", "pause", "weight", "kind", "marked"] "is_item" (defScope (top 13)) f cdv A outer s H E) (wx E)) : PSsd (bx P w K mg base ["value", "pause", "weight", "kind", "marked"] "is_item" (defScope (top 13)) f cdv A outer s H E) (wx E) (defBody (top 13)) t_is_item :=
  have nd := nd_is_item
  (sd_cons (sd_if (pb_w (pb_or (pb_not (pb_val (pr_isi rfl kn.n_isinstance rfl kn.n_tuple boot_tuple (vv 0)))) (pb_or1 (pb_cmp (od_ne (hu hr)) (pr_callB cd_len rfl kn.n_len boot_len (pad_cons (vv 0) pad_nil)) pr_int rfl)))) (sd_one (sd_ret pr_bl)) sd_nil)
    (sd_cons (sd_asgG (ws := [1, 2, 3, 4]) (vv 0) (gd_tup rfl (gsd_cons (gv 1 nd) (gsd_cons (gv 2 nd) (gsd_cons (gv 3 nd) (gsd_cons (gv 4 nd) gsd_nil))))))
    (sd_cons (sd_if (pb_w (pb_or (pb_not (pb_val (cc C_is_integer_3 hr tk (pad_cons (vv 1) (pad_cons pr_int (pad_cons (pr_gi kn.g_GREATEST) pad_nil)))))) (pb_or1 (pb_not (pb_val (cc C_is_integer_3 hr tk (pad_cons (vv 2) (pad_cons pr_int (pad_cons (pr_gi kn.g_GREATEST) pad_nil))))))))) (sd_one (sd_ret pr_bl)) sd_nil)
    (sd_one (sd_ret (pr_and (cc C_is_kind hr tk (pad_cons (vv 3) pad_nil)) (pr_one (pr_isi rfl kn.n_isinstance rfl kn.n_bool boot_bool (vv 4)))))))))
theorem ok_is_item {P : Program} {w : World} {K : Fr} {mg : Str → Option Value} {base : Heap} {k : Nat} (kn : Kn w K mg)
    (C_is_integer_3 : Cal P w K mg base k "is_integer" [] sp_is_integer)
    (C_is_kind : Cal P w K mg base k "is_kind" [] sp_is_kind)
    {fa : Addr} {fd : FuncData} (F : FunD K "is_item" "is_item" (defArgs (top 13)) (defBody (top 13)) (defScope (top 13)) [] [] fa fd) : FnG P w K mg base (k + 1) fa fd ["value"] (spD K mg sp_is_item) :=
  fnG_body (N := ["value", "pause", "weight", "kind", "marked"]) (n := 1) F ⟨rfl, rfl, rfl, by decide +kernel, rfl, by decide +kernel, by decide +kernel⟩ rfl (by first | exact ary_F _ _ | exact ary_S _ _ _ _ | exact ary_V _ _ _ | exact ary_Req _ _ _ _ | exact ary_law _ | exact a_is_item) (fun cdv A outer s H E hr hp tk => d_is_item kn C_is_integer_3 C_is_kind hr hp tk) m_is_item
theorem nd_is_traffic : (["value", "item"] : List Str).Nodup := by decide +kernel
theorem d_is_traffic {P : Program} {w : World} {K : Fr} {mg : Str → Option Value} {base : Heap} {k : Nat} (kn : Kn w K mg)
    (C_is_item : Cal P w K mg base k "is_item" [] sp_is_item)
    {f : Addr} {cdv : Value} {A : Around} {outer : List PySem.Env} {s : Shared} {H : Hp} {E : XK} (hr : RoomG k (bx P w K mg base ["value", "item"] "is_traffic" (defScope (top 14)) f cdv A outer s H E).A)
    (hp : PassesOwn (model P w) (bx P w K mg base ["value", "item"] "is_traffic" (defScope (top 14)) f cdv A outer s H E).A (bx P w K mg base ["value", "item"] "is_traffic" (defScope (top 14)) f cdv A outer s H E).env (bx P w K mg base ["value", "item"] "is_traffic" (defScope (top 14)) f cdv A outer s H E).xe)
    (tk : Takes (bx P w K mg base ["value", "item"] "is_traffic" (defScope (top 14)) f cdv A outer s H E) (wx E)) : PSsd (bx P w K mg base ["value", "item"] "is_traffic" (defScope (top 14)) f cdv A outer s H E) (wx E) (defBody (top 14)) t_is_traffic :=
  have nd := nd_is_traffic
  (sd_one (sd_ret (pr_and (pr_isi rfl kn.n_isinstance rfl kn.n_list boot_list (vv 0)) (pr_and (pr_cmp od_le (pr_callB cd_len rfl kn.n_len boot_len (pad_cons (vv 0) pad_nil)) (pr_gi kn.g_MOST_ITEMS) rfl) (pr_one (pr_callB (cd_all rfl) rfl kn.n_all boot_all (pad_cons (pr_lc rfl nd (id_any (vv 0)) (own := [("item", 1)]) (blk_ok (by rfl)) rfl (fun _ _ _ _ _ => (gv 1 nd)) (fun _ _ _ _ _ => ptd_nil) (fun _ _ _ _ _ => (cc C_is_item hr takes0 (pad_cons (vv 1) pad_nil)))) pad_nil)))))))
theorem ok_is_traffic {P : Program} {w : World} {K : Fr} {mg : Str → Option Value} {base : Heap} {k : Nat} (kn : Kn w K mg)
    (C_is_item : Cal P w K mg base k "is_item" [] sp_is_item)
    {fa : Addr} {fd : FuncData} (F : FunD K "is_traffic" "is_traffic" (defArgs (top 14)) (defBody (top 14)) (defScope (top 14)) [] [] fa fd) : FnG P w K mg base (k + 1) fa fd ["value"] (spD K mg sp_is_traffic) :=
  fnG_body (N := ["value", "item"]) (n := 1) F ⟨rfl, rfl, rfl, by decide +kernel, rfl, by decide +kernel, by decide +kernel⟩ rfl (by first | exact ary_F _ _ | exact ary_S _ _ _ _ | exact ary_V _ _ _ | exact ary_Req _ _ _ _ | exact ary_law _ | exact a_is_traffic) (fun cdv A outer s H E hr hp tk => d_is_traffic kn C_is_item hr hp tk) m_is_traffic
theorem nd_require_traffic : (["value"] : List Str).Nodup := by decide +kernel
theorem d_require_traffic {P : Program} {w : World} {K : Fr} {mg : Str → Option Value} {base : Heap} {k : Nat} (kn : Kn w K mg)
    (C_is_traffic : Cal P w K mg base k "is_traffic" [] sp_is_traffic)
    {f : Addr} {cdv : Value} {A : Around} {outer : List PySem.Env} {s : Shared} {H : Hp} {E : XK} (hr : RoomG k (bx P w K mg base ["value"] "require_traffic" (defScope (top 15)) f cdv A outer s H E).A)
    (hp : PassesOwn (model P w) (bx P w K mg base ["value"] "require_traffic" (defScope (top 15)) f cdv A outer s H E).A (bx P w K mg base ["value"] "require_traffic" (defScope (top 15)) f cdv A outer s H E).env (bx P w K mg base ["value"] "require_traffic" (defScope (top 15)) f cdv A outer s H E).xe)
    (tk : Takes (bx P w K mg base ["value"] "require_traffic" (defScope (top 15)) f cdv A outer s H E) (wx E)) : PSsd (bx P w K mg base ["value"] "require_traffic" (defScope (top 15)) f cdv A outer s H E) (wx E) (defBody (top 15)) t_require_traffic :=
  have nd := nd_require_traffic
  (sd_one (sd_if (pb_not (pb_val (cc C_is_traffic hr tk (pad_cons (vv 0) pad_nil)))) (sd_one (sd_raise kn.e_InvalidTraffic rfl tk)) sd_nil))
theorem ok_require_traffic {P : Program} {w : World} {K : Fr} {mg : Str → Option Value} {base : Heap} {k : Nat} (kn : Kn w K mg)
    (C_is_traffic : Cal P w K mg base k "is_traffic" [] sp_is_traffic)
    {fa : Addr} {fd : FuncData} (F : FunD K "require_traffic" "require_traffic" (defArgs (top 15)) (defBody (top 15)) (defScope (top 15)) [] [] fa fd) : FnG P w K mg base (k + 1) fa fd ["value"] (spD K mg sp_require_traffic) :=
  fnG_body (N := ["value"]) (n := 1) F ⟨rfl, rfl, rfl, by decide +kernel, rfl, by decide +kernel, by decide +kernel⟩ rfl (by first | exact ary_F _ _ | exact ary_S _ _ _ _ | exact ary_V _ _ _ | exact ary_Req _ _ _ _ | exact ary_law _ | exact a_require_traffic) (fun cdv A outer s H E hr hp tk => d_require_traffic kn C_is_traffic hr hp tk) m_require_traffic
theorem nd_require_stretch : (["traffic", "start", "end"] : List Str).Nodup := by decide +kernel
theorem d_require_stretch {P : Program} {w : World} {K : Fr} {mg : Str → Option Value} {base : Heap} {k : Nat} (kn : Kn w K mg)
    (C_is_integer_3 : Cal P w K mg base k "is_integer" [] sp_is_integer)
    {f : Addr} {cdv : Value} {A : Around} {outer : List PySem.Env} {s : Shared} {H : Hp} {E : XK} (hr : RoomG k (bx P w K mg base ["traffic", "start", "end"] "require_stretch" (defScope (top 16)) f cdv A outer s H E).A)
    (hp : PassesOwn (model P w) (bx P w K mg base ["traffic", "start", "end"] "require_stretch" (defScope (top 16)) f cdv A outer s H E).A (bx P w K mg base ["traffic", "start", "end"] "require_stretch" (defScope (top 16)) f cdv A outer s H E).env (bx P w K mg base ["traffic", "start", "end"] "require_stretch" (defScope (top 16)) f cdv A outer s H E).xe)
    (tk : Takes (bx P w K mg base ["traffic", "start", "end"] "require_stretch" (defScope (top 16)) f cdv A outer s H E) (wx E)) : PSsd (bx P w K mg base ["traffic", "start", "end"] "require_stretch" (defScope (top 16)) f cdv A outer s H E) (wx E) (defBody (top 16)) t_require_stretch :=
  have nd := nd_require_stretch
  (sd_one (sd_if (pb_w (pb_or (pb_not (pb_val (cc C_is_integer_3 hr tk (pad_cons (vv 1) (pad_cons pr_int (pad_cons (pr_callB cd_len rfl kn.n_len boot_len (pad_cons (vv 0) pad_nil)) pad_nil)))))) (pb_or1 (pb_not (pb_val (cc C_is_integer_3 hr tk (pad_cons (vv 2) (pad_cons (pr_op od_add (vv 1) pr_int) (pad_cons (pr_callB cd_len rfl kn.n_len boot_len (pad_cons (vv 0) pad_nil)) pad_nil))))))))) (sd_one (sd_raise kn.e_InvalidStretch rfl tk)) sd_nil))
theorem ok_require_stretch {P : Program} {w : World} {K : Fr} {mg : Str → Option Value} {base : Heap} {k : Nat} (kn : Kn w K mg)
    (C_is_integer_3 : Cal P w K mg base k "is_integer" [] sp_is_integer)
    {fa : Addr} {fd : FuncData} (F : FunD K "require_stretch" "require_stretch" (defArgs (top 16)) (defBody (top 16)) (defScope (top 16)) [] [] fa fd) : FnG P w K mg base (k + 1) fa fd ["traffic", "start", "end"] (spD K mg sp_require_stretch) :=
  fnG_body (N := ["traffic", "start", "end"]) (n := 3) F ⟨rfl, rfl, rfl, by decide +kernel, rfl, by decide +kernel, by decide +kernel⟩ rfl (by first | exact ary_F _ _ | exact ary_S _ _ _ _ | exact ary_V _ _ _ | exact ary_Req _ _ _ _ | exact ary_law _ | exact a_require_stretch) (fun cdv A outer s H E hr hp tk => d_require_stretch kn C_is_integer_3 hr hp tk) m_require_stretch
theorem nd_measures_in : (["traffic", "start", "end", "items", "weight", "age", "kinds", "marks", "item"] : List Str).Nodup := by decide +kernel
theorem d_measures_in {P : Program} {w : World} {K : Fr} {mg : Str → Option Value} {base : Heap} {k : Nat} (kn : Kn w K mg)
    {f : Addr} {cdv : Value} {A : Around} {outer : List PySem.Env} {s : Shared} {H : Hp} {E : XK} (hr : RoomG k (bx P w K mg base ["traffic", "start", "end", "items", "weight", "age", "kinds", "marks", "item"] "measures_in" (defScope (top 17)) f cdv A outer s H E).A)
    (hp : PassesOwn (model P w) (bx P w K mg base ["traffic", "start", "end", "items", "weight", "age", "kinds", "marks", "item"] "measures_in" (defScope (top 17)) f cdv A outer s H E).A (bx P w K mg base ["traffic", "start", "end", "items", "weight", "age", "kinds", "marks", "item"] "measures_in" (defScope (top 17)) f cdv A outer s H E).env (bx P w K mg base ["traffic", "start", "end", "items", "weight", "age", "kinds", "marks", "item"] "measures_in" (defScope (top 17)) f cdv A outer s H E).xe)
    (tk : Takes (bx P w K mg base ["traffic", "start", "end", "items", "weight", "age", "kinds", "marks", "item"] "measures_in" (defScope (top 17)) f cdv A outer s H E) (wx E)) : PSsd (bx P w K mg base ["traffic", "start", "end", "items", "weight", "age", "kinds", "marks", "item"] "measures_in" (defScope (top 17)) f cdv A outer s H E) (wx E) (defBody (top 17)) t_measures_in :=
  have nd := nd_measures_in
  (sd_cons (sd_set nd rfl (by first | exact Or.inl rfl | exact Or.inr rfl) (pr_sl sld (vv 0) (od_some (vv 1)) (od_some (vv 2))))
    (sd_cons (sd_set nd rfl (by first | exact Or.inl rfl | exact Or.inr rfl) (pr_callB (cd_sum rfl) rfl kn.n_sum bt_sum (pad_cons (pr_lc rfl nd (id_any (vv 3)) (own := [("item", 8)]) (blk_ok (by rfl)) rfl (fun _ _ _ _ _ => (gv 8 nd)) (fun _ _ _ _ _ => ptd_nil) (fun _ _ _ _ _ => (pr_ix xd (vv 8) pr_int plainIx))) pad_nil)))
    (sd_cons (sd_set nd rfl (by first | exact Or.inl rfl | exact Or.inr rfl) (pr_callB (cd_sum rfl) rfl kn.n_sum bt_sum (pad_cons (pr_lc rfl nd (id_any (pr_sl sld (vv 3) (od_some pr_int) od_none)) (own := [("item", 8)]) (blk_ok (by rfl)) rfl (fun _ _ _ _ _ => (gv 8 nd)) (fun _ _ _ _ _ => ptd_nil) (fun _ _ _ _ _ => (pr_ix xd (vv 8) pr_int plainIx))) pad_nil)))
    (sd_cons (sd_set nd rfl (by first | exact Or.inl rfl | exact Or.inr rfl) (pr_lenSet rfl rfl kn.n_len rfl kn.n_set (pr_lc rfl nd (id_any (vv 3)) (own := [("item", 8)]) (blk_ok (by rfl)) rfl (fun _ _ _ _ _ => (gv 8 nd)) (fun _ _ _ _ _ => ptd_nil) (fun _ _ _ _ _ => (pr_ix xd (vv 8) pr_int plainIx)))))
    (sd_cons (sd_set nd rfl (by first | exact Or.inl rfl | exact Or.inr rfl) (pr_callB cd_len rfl kn.n_len boot_len (pad_cons (pr_lc rfl nd (id_any (vv 3)) (own := [("item", 8)]) (blk_ok (by rfl)) rfl (fun _ _ _ _ _ => (gv 8 nd)) (fun _ _ _ _ _ => (ptd_one (pb_val (pr_ix xd (vv 8) pr_int plainIx)) rfl)) (fun _ _ _ _ _ => (vv 8))) pad_nil)))
    (sd_one (sd_ret (pr_tup (pad_cons (pr_callB cd_len rfl kn.n_len boot_len (pad_cons (vv 3) pad_nil)) (pad_cons (vv 4) (pad_cons (vv 5) (pad_cons (vv 6) (pad_cons (vv 7) pad_nil)))))))))))))
theorem ok_measures_in {P : Program} {w : World} {K : Fr} {mg : Str → Option Value} {base : Heap} {k : Nat} (kn : Kn w K mg)
    {fa : Addr} {fd : FuncData} (F : FunD K "measures_in" "measures_in" (defArgs (top 17)) (defBody (top 17)) (defScope (top 17)) [] [] fa fd) : FnG P w K mg base (k + 1) fa fd ["traffic", "start", "end"] (spD K mg sp_measures_in) :=
  fnG_body (N := ["traffic", "start", "end", "items", "weight", "age", "kinds", "marks", "item"]) (n := 3) F ⟨rfl, rfl, rfl, by decide +kernel, rfl, by decide +kernel, by decide +kernel⟩ rfl (by first | exact ary_F _ _ | exact ary_S _ _ _ _ | exact ary_V _ _ _ | exact ary_Req _ _ _ _ | exact ary_law _ | exact a_measures_in) (fun cdv A outer s H E hr hp tk => d_measures_in kn  hr hp tk) m_measures_in
theorem nd_times_of : (["traffic", "times", "now", "pause", "weight", "kind", "marked"] : List Str).Nodup := by decide +kernel
theorem d_times_of {P : Program} {w : World} {K : Fr} {mg : Str → Option Value} {base : Heap} {k : Nat} (kn : Kn w K mg)
    (C_require_traffic : Cal P w K mg base k "require_traffic" [] sp_require_traffic)
    {f : Addr} {cdv : Value} {A : Around} {outer : List PySem.Env} {s : Shared} {H : Hp} {E : XK} (hr : RoomG k (bx P w K mg base ["traffic", "times", "now", "pause", "weight", "kind", "marked"] "times_of" (defScope (top 18)) f cdv A outer s H E).A)
    (hp : PassesOwn (model P w) (bx P w K mg base ["traffic", "times", "now", "pause", "weight", "kind", "marked"] "times_of" (defScope (top 18)) f cdv A outer s H E).A (bx P w K mg base ["traffic", "times", "now", "pause", "weight", "kind", "marked"] "times_of" (defScope (top 18)) f cdv A outer s H E).env (bx P w K mg base ["traffic", "times", "now", "pause", "weight", "kind", "marked"] "times_of" (defScope (top 18)) f cdv A outer s H E).xe)
    (tk : Takes (bx P w K mg base ["traffic", "times", "now", "pause", "weight", "kind", "marked"] "times_of" (defScope (top 18)) f cdv A outer s H E) (wx E)) : PSsd (bx P w K mg base ["traffic", "times", "now", "pause", "weight", "kind", "marked"] "times_of" (defScope (top 18)) f cdv A outer s H E) (wx E) (defBody (top 18)) t_times_of :=
  have nd := nd_times_of
  (sd_cons (sd_drop (cc C_require_traffic hr tk (pad_cons (vv 0) pad_nil)))
    (sd_cons (sd_set nd rfl (by first | exact Or.inl rfl | exact Or.inr rfl) (pr_lst pad_nil))
    (sd_cons (sd_set nd rfl (by first | exact Or.inl rfl | exact Or.inr rfl) pr_int)
    (sd_cons (sd_for (ws := [3, 4, 5, 6]) hp rfl (id_any (vv 0)) (gd_tup rfl (gsd_cons (gv 3 nd) (gsd_cons (gv 4 nd) (gsd_cons (gv 5 nd) (gsd_cons (gv 6 nd) gsd_nil))))) (sd_cons (sd_aug nd rfl (by first | exact Or.inl rfl | exact Or.inr rfl) (vv 3) od_iadd)
    (sd_one (sd_app (pv 1) (vv 2)))))
    (sd_one (sd_ret (mv 1)))))))
theorem ok_times_of {P : Program} {w : World} {K : Fr} {mg : Str → Option Value} {base : Heap} {k : Nat} (kn : Kn w K mg)
    (C_require_traffic : Cal P w K mg base k "require_traffic" [] sp_require_traffic)
    {fa : Addr} {fd : FuncData} (F : FunD K "times_of" "times_of" (defArgs (top 18)) (defBody (top 18)) (defScope (top 18)) [] [] fa fd) : FnG P w K mg base (k + 1) fa fd ["traffic"] (spD K mg sp_times_of) :=
  fnG_body (N := ["traffic", "times", "now", "pause", "weight", "kind", "marked"]) (n := 1) F ⟨rfl, rfl, rfl, by decide +kernel, rfl, by decide +kernel, by decide +kernel⟩ rfl (by first | exact ary_F _ _ | exact ary_S _ _ _ _ | exact ary_V _ _ _ | exact ary_Req _ _ _ _ | exact ary_law _ | exact a_times_of) (fun cdv A outer s H E hr hp tk => d_times_of kn C_require_traffic hr hp tk) m_times_of
theorem nd_measures_of : (["traffic", "start", "end"] : List Str).Nodup := by decide +kernel
theorem d_measures_of {P : Program} {w : World} {K : Fr} {mg : Str → Option Value} {base : Heap} {k : Nat} (kn : Kn w K mg)
    (C_measures_in : Cal P w K mg base k "measures_in" [] sp_measures_in)
    (C_require_stretch : Cal P w K mg base k "require_stretch" [] sp_require_stretch)
    (C_require_traffic : Cal P w K mg base k "require_traffic" [] sp_require_traffic)
    {f : Addr} {cdv : Value} {A : Around} {outer : List PySem.Env} {s : Shared} {H : Hp} {E : XK} (hr : RoomG k (bx P w K mg base ["traffic", "start", "end"] "measures_of" (defScope (top 19)) f cdv A outer s H E).A)
    (hp : PassesOwn (model P w) (bx P w K mg base ["traffic", "start", "end"] "measures_of" (defScope (top 19)) f cdv A outer s H E).A (bx P w K mg base ["traffic", "start", "end"] "measures_of" (defScope (top 19)) f cdv A outer s H E).env (bx P w K mg base ["traffic", "start", "end"] "measures_of" (defScope (top 19)) f cdv A outer s H E).xe)
    (tk : Takes (bx P w K mg base ["traffic", "start", "end"] "measures_of" (defScope (top 19)) f cdv A outer s H E) (wx E)) : PSsd (bx P w K mg base ["traffic", "start", "end"] "measures_of" (defScope (top 19)) f cdv A outer s H E) (wx E) (defBody (top 19)) t_measures_of :=
  have nd := nd_measures_of
  (sd_cons (sd_drop (cc C_require_traffic hr tk (pad_cons (vv 0) pad_nil)))
    (sd_cons (sd_drop (cc C_require_stretch hr tk (pad_cons (vv 0) (pad_cons (vv 1) (pad_cons (vv 2) pad_nil)))))
    (sd_one (sd_ret (cc C_measures_in hr tk (pad_cons (vv 0) (pad_cons (vv 1) (pad_cons (vv 2) pad_nil))))))))
theorem ok_measures_of {P : Program} {w : World} {K : Fr} {mg : Str → Option Value} {base : Heap} {k : Nat} (kn : Kn w K mg)
    (C_measures_in : Cal P w K mg base k "measures_in" [] sp_measures_in)
    (C_require_stretch : Cal P w K mg base k "require_stretch" [] sp_require_stretch)
    (C_require_traffic : Cal P w K mg base k "require_traffic" [] sp_require_traffic)
    {fa : Addr} {fd : FuncData} (F : FunD K "measures_of" "measures_of" (defArgs (top 19)) (defBody (top 19)) (defScope (top 19)) [] [] fa fd) : FnG P w K mg base (k + 1) fa fd ["traffic", "start", "end"] (spD K mg sp_measures_of) :=
  fnG_body (N := ["traffic", "start", "end"]) (n := 3) F ⟨rfl, rfl, rfl, by decide +kernel, rfl, by decide +kernel, by decide +kernel⟩ rfl (by first | exact ary_F _ _ | exact ary_S _ _ _ _ | exact ary_V _ _ _ | exact ary_Req _ _ _ _ | exact ary_law _ | exact a_measures_of) (fun cdv A outer s H E hr hp tk => d_measures_of kn C_measures_in C_require_stretch C_require_traffic hr hp tk) m_measures_of
theorem nd_repeated : (["traffic", "times"] : List Str).Nodup := by decide +kernel
theorem d_repeated {P : Program} {w : World} {K : Fr} {mg : Str → Option Value} {base : Heap} {k : Nat} (kn : Kn w K mg)
    (C_TooLarge : ExkC P w K mg base k "TooLarge" "limit")
    (C_is_integer_2 : Cal P w K mg base k "is_integer" [.none] sp_is_integer)
    (C_require_traffic : Cal P w K mg base k "require_traffic" [] sp_require_traffic)
    {f : Addr} {cdv : Value} {A : Around} {outer : List PySem.Env} {s : Shared} {H : Hp} {E : XK} (hr : RoomG k (bx P w K mg base ["traffic", "times"] "repeated" (defScope (top 20)) f cdv A outer s H E).A)
    (hp : PassesOwn (model P w) (bx P w K mg base ["traffic", "times"] "repeated" (defScope (top 20)) f cdv A outer s H E).A (bx P w K mg base ["traffic", "times"] "repeated" (defScope (top 20)) f cdv A outer s H E).env (bx P w K mg base ["traffic", "times"] "repeated" (defScope (top 20)) f cdv A outer s H E).xe)
    (tk : Takes (bx P w K mg base ["traffic", "times"] "repeated" (defScope (top 20)) f cdv A outer s H E) (wx E)) : PSsd (bx P w K mg base ["traffic", "times"] "repeated" (defScope (top 20)) f cdv A outer s H E) (wx E) (defBody (top 20)) t_repeated :=
  have nd := nd_repeated
  (sd_cons (sd_drop (cc C_require_traffic hr tk (pad_cons (vv 0) pad_nil)))
    (sd_cons (sd_if (pb_not (pb_val (cc C_is_integer_2 hr tk (pad_cons (vv 1) (pad_cons pr_int pad_nil))))) (sd_one (sd_raise kn.e_InvalidNumber rfl tk)) sd_nil)
    (sd_cons (sd_if (pb_cmp od_gt (pr_op od_mul (pr_callB cd_len rfl kn.n_len boot_len (pad_cons (vv 0) pad_nil)) (vv 1)) (pr_gi kn.g_MOST_ITEMS) rfl) (sd_one (sd_raiseC C_TooLarge hr tk (pr_gi kn.g_MOST_ITEMS))) sd_nil)
    (sd_one (sd_ret (pr_ifExp (pb_cmp (od_ne (hu hr)) (vv 0) (pr_lst pad_nil) rfl) (pr_op od_mul (vv 0) (vv 1)) (pr_lst pad_nil)))))))
theorem ok_repeated {P : Program} {w : World} {K : Fr} {mg : Str → Option Value} {base : Heap} {k : Nat} (kn : Kn w K mg)
    (C_TooLarge : ExkC P w K mg base k "TooLarge" "limit")
    (C_is_integer_2 : Cal P w K mg base k "is_integer" [.none] sp_is_integer)
    (C_require_traffic : Cal P w K mg base k "require_traffic" [] sp_require_traffic)
    {fa : Addr} {fd : FuncData} (F : FunD K "repeated" "repeated" (defArgs (top 20)) (defBody (top 20)) (defScope (top 20)) [] [] fa fd) : FnG P w K mg base (k + 1) fa fd ["traffic", "times"] (spD K mg sp_repeated) :=
  fnG_body (N := ["traffic", "times"]) (n := 2) F ⟨rfl, rfl, rfl, by decide +kernel, rfl, by decide +kernel, by decide +kernel⟩ rfl (by first | exact ary_F _ _ | exact ary_S _ _ _ _ | exact ary_V _ _ _ | exact ary_Req _ _ _ _ | exact ary_law _ | exact a_repeated) (fun cdv A outer s H E hr hp tk => d_repeated kn C_TooLarge C_is_integer_2 C_require_traffic hr hp tk) m_repeated
theorem nd__law_source : (["script", "k", "cell"] : List Str).Nodup := by decide +kernel
theorem d__law_source {P : Program} {w : World} {K : Fr} {mg : Str → Option Value} {base : Heap} {k : Nat} (kn : Kn w K mg)
    {f : Addr} {cdv : Value} {A : Around} {outer : List PySem.Env} {s : Shared} {H : Hp} {E : XK} (hr : RoomG k (bx P w K mg base ["script", "k", "cell"] "_law_source" (defScope (top 22)) f cdv A outer s H E).A)
    (hp : PassesOwn (model P w) (bx P w K mg base ["script", "k", "cell"] "_law_source" (defScope (top 22)) f cdv A outer s H E).A (bx P w K mg base ["script", "k", "cell"] "_law_source" (defScope (top 22)) f cdv A outer s H E).env (bx P w K mg base ["script", "k", "cell"] "_law_source" (defScope (top 22)) f cdv A outer s H E).xe)
    (tk : Takes (bx P w K mg base ["script", "k", "cell"] "_law_source" (defScope (top 22)) f cdv A outer s H E) (wx E)) : PSsd (bx P w K mg base ["script", "k", "cell"] "_law_source" (defScope (top 22)) f cdv A outer s H E) (wx E) (defBody (top 22)) t__law_source :=
  have nd := nd__law_source
  (sd_cons (sd_set nd rfl (by first | exact Or.inl rfl | exact Or.inr rfl) (pr_ifExp (pb_cmp od_lt (vv 1) (pr_callB cd_len rfl kn.n_len boot_len (pad_cons (vv 0) pad_nil)) rfl) (pr_ix xd (vv 0) (vv 1) plainIx) pr_int))
    (sd_one (sd_ret (pr_lst (pad_cons (pr_callB (cd_max rfl) rfl kn.n_max boot_max (pad_cons pr_int (pad_cons (pr_op od_sub (pr_callB cd_abs rfl kn.n_abs boot_abs (pad_cons (vv 2) pad_nil)) (pr_op od_pow pr_int pr_int)) pad_nil))) (pad_cons (pr_op od_add (pr_op od_add (pr_op od_mul (pr_op od_mod (pr_callB cd_abs rfl kn.n_abs boot_abs (pad_cons (vv 2) pad_nil)) (pr_op od_add (pr_op od_pow pr_int pr_int) pr_int)) pr_int) (pr_op od_mul pr_int (vv 1))) pr_int) (pad_cons pr_int pad_nil)))))))
theorem ok__law_source {P : Program} {w : World} {K : Fr} {mg : Str → Option Value} {base : Heap} {k : Nat} (kn : Kn w K mg)
    {fa : Addr} {fd : FuncData} (F : FunD K "_law_source" "_law_source" (defArgs (top 22)) (defBody (top 22)) (defScope (top 22)) [] [] fa fd) : FnG P w K mg base (k + 1) fa fd ["script", "k"] (spD K mg sp__law_source) :=
  fnG_body (N := ["script", "k", "cell"]) (n := 2) F ⟨rfl, rfl, rfl, by decide +kernel, rfl, by decide +kernel, by decide +kernel⟩ rfl (by first | exact ary_F _ _ | exact ary_S _ _ _ _ | exact ary_V _ _ _ | exact ary_Req _ _ _ _ | exact ary_law _ | exact a__law_source) (fun cdv A outer s H E hr hp tk => d__law_source kn  hr hp tk) m__law_source
theorem nd__law_draw : (["source", "many", "mixed", "drawn"] : List Str).Nodup := by decide +kernel
theorem d__law_draw {P : Program} {w : World} {K : Fr} {mg : Str → Option Value} {base : Heap} {k : Nat} (kn : Kn w K mg)
    {f : Addr} {cdv : Value} {A : Around} {outer : List PySem.Env} {s : Shared} {H : Hp} {E : XK} (hr : RoomG k (bx P w K mg base ["source", "many", "mixed", "drawn"] "_law_draw" (defScope (top 23)) f cdv A outer s H E).A)
    (hp : PassesOwn (model P w) (bx P w K mg base ["source", "many", "mixed", "drawn"] "_law_draw" (defScope (top 23)) f cdv A outer s H E).A (bx P w K mg base ["source", "many", "mixed", "drawn"] "_law_draw" (defScope (top 23)) f cdv A outer s H E).env (bx P w K mg base ["source", "many", "mixed", "drawn"] "_law_draw" (defScope (top 23)) f cdv A outer s H E).xe)
    (tk : Takes (bx P w K mg base ["source", "many", "mixed", "drawn"] "_law_draw" (defScope (top 23)) f cdv A outer s H E) (wx E)) : PSsd (bx P w K mg base ["source", "many", "mixed", "drawn"] "_law_draw" (defScope (top 23)) f cdv A outer s H E) (wx E) (defBody (top 23)) t__law_draw :=
  have nd := nd__law_draw
  (sd_cons (sd_if (pb_bor [0] (pb_cmp od_gt (pr_ix xd (vv 0) pr_int plainIx) pr_int rfl)) (sd_cons (sd_set nd rfl (by first | exact Or.inl rfl | exact Or.inr rfl) (pr_bor [0] (pr_op od_mod (pr_ix xd (vv 0) pr_int plainIx) (vv 1))))
    (sd_cons (sd_setI (pv 0) (pr_bor [0] (pr_op od_fdiv (pr_ix xd (vv 0) pr_int plainIx) (vv 1))) pr_int)
    (sd_one (sd_ret (mv 3))))) sd_nil)
    (sd_cons (sd_setI (pv 0) (pr_bor [0] (pr_op od_add (pr_ix xd (vv 0) pr_int plainIx) pr_int)) pr_int)
    (sd_cons (sd_set nd rfl (by first | exact Or.inl rfl | exact Or.inr rfl) (pr_bor [0] (pr_op od_mod (pr_op od_pow (pr_op od_add (pr_ix xd (vv 0) pr_int plainIx) (pr_op od_mul pr_int (pr_ix xd (vv 0) pr_int plainIx))) pr_int) (pr_op od_add (pr_op od_pow pr_int pr_int) pr_int))))
    (sd_cons (sd_set nd rfl (by first | exact Or.inl rfl | exact Or.inr rfl) (pr_bor [0, 2] (pr_op od_mod (pr_op od_pow (pr_op od_add (vv 2) (pr_op od_mul pr_int (pr_ix xd (vv 0) pr_int plainIx))) pr_int) (pr_op od_add (pr_op od_pow pr_int pr_int) pr_int))))
    (sd_one (sd_ret (pr_op od_mod (pr_op od_fdiv (vv 2) pr_int) (vv 1))))))))
theorem ok__law_draw {P : Program} {w : World} {K : Fr} {mg : Str → Option Value} {base : Heap} {k : Nat} (kn : Kn w K mg)
    {fa : Addr} {fd : FuncData} (F : FunD K "_law_draw" "_law_draw" (defArgs (top 23)) (defBody (top 23)) (defScope (top 23)) [] [] fa fd) : FnG P w K mg base (k + 1) fa fd ["source", "many"] (spD K mg sp__law_draw) :=
  fnG_body (N := ["source", "many", "mixed", "drawn"]) (n := 2) F ⟨rfl, rfl, rfl, by decide +kernel, rfl, by decide +kernel, by decide +kernel⟩ rfl (by first | exact ary_F _ _ | exact ary_S _ _ _ _ | exact ary_V _ _ _ | exact ary_Req _ _ _ _ | exact ary_law _ | exact a__law_draw) (fun cdv A outer s H E hr hp tk => d__law_draw kn  hr hp tk) m__law_draw
theorem nd__law_kind : (["number", "rest", "found"] : List Str).Nodup := by decide +kernel
theorem d__law_kind {P : Program} {w : World} {K : Fr} {mg : Str → Option Value} {base : Heap} {k : Nat} (kn : Kn w K mg)
    {f : Addr} {cdv : Value} {A : Around} {outer : List PySem.Env} {s : Shared} {H : Hp} {E : XK} (hr : RoomG k (bx P w K mg base ["number", "rest", "found"] "_law_kind" (defScope (top 24)) f cdv A outer s H E).A)
    (hp : PassesOwn (model P w) (bx P w K mg base ["number", "rest", "found"] "_law_kind" (defScope (top 24)) f cdv A outer s H E).A (bx P w K mg base ["number", "rest", "found"] "_law_kind" (defScope (top 24)) f cdv A outer s H E).env (bx P w K mg base ["number", "rest", "found"] "_law_kind" (defScope (top 24)) f cdv A outer s H E).xe)
    (tk : Takes (bx P w K mg base ["number", "rest", "found"] "_law_kind" (defScope (top 24)) f cdv A outer s H E) (wx E)) : PSsd (bx P w K mg base ["number", "rest", "found"] "_law_kind" (defScope (top 24)) f cdv A outer s H E) (wx E) (defBody (top 24)) t__law_kind :=
  have nd := nd__law_kind
  (sd_cons (sd_if (pb_cmp od_lt (vv 0) pr_int rfl) (sd_one (sd_ret (pr_op od_add (pr_op od_mul pr_str (pr_op od_fdiv (vv 0) pr_int)) (pr_ix xd pr_str (pr_op od_mod (vv 0) pr_int) plainIx)))) sd_nil)
    (sd_cons (by first | exact sd_par2 rfl nd rfl rfl (by decide) rfl rfl (par_cons (pr_op od_sub (vv 0) pr_int) (par_cons pr_str par_nil)) rfl rfl | exact sd_parN rfl (par_cons (pr_op od_sub (vv 0) pr_int) (par_cons pr_str par_nil)) (gns_cons (pg_name nd (i := 1) rfl (by first | exact Or.inl rfl | exact Or.inr rfl) (by first | exact Or.inl rfl | exact Or.inr rfl)) (gns_cons (pg_name nd (i := 2) rfl (by first | exact Or.inl rfl | exact Or.inr rfl) (by first | exact Or.inl rfl | exact Or.inr rfl)) gns_nil)) rfl (by decide))
    (sd_cons (sd_while hp (pb_cmp od_gt (vv 1) pr_int rfl) (sd_cons (sd_set nd rfl (by first | exact Or.inl rfl | exact Or.inr rfl) (pr_op od_add (pr_ix xd pr_str (pr_op od_mod (vv 1) pr_int) plainIx) (vv 2)))
    (sd_one (sd_set nd rfl (by first | exact Or.inl rfl | exact Or.inr rfl) (pr_op od_fdiv (vv 1) pr_int)))))
    (sd_one (sd_ret (mv 2))))))
theorem ok__law_kind {P : Program} {w : World} {K : Fr} {mg : Str → Option Value} {base : Heap} {k : Nat} (kn : Kn w K mg)
    {fa : Addr} {fd : FuncData} (F : FunD K "_law_kind" "_law_kind" (defArgs (top 24)) (defBody (top 24)) (defScope (top 24)) [] [] fa fd) : FnG P w K mg base (k + 1) fa fd ["number"] (spD K mg sp__law_kind) :=
  fnG_body (N := ["number", "rest", "found"]) (n := 1) F ⟨rfl, rfl, rfl, by decide +kernel, rfl, by decide +kernel, by decide +kernel⟩ rfl (by first | exact ary_F _ _ | exact ary_S _ _ _ _ | exact ary_V _ _ _ | exact ary_Req _ _ _ _ | exact ary_law _ | exact a__law_kind) (fun cdv A outer s H E hr hp tk => d__law_kind kn  hr hp tk) m__law_kind
theorem nd__law_traffic : (["source", "many", "found", "spot", "pauses", "weights", "wide", "rare", "number", "turn", "pause", "weight", "kind"] : List Str).Nodup := by decide +kernel
theorem d__law_traffic {P : Program} {w : World} {K : Fr} {mg : Str → Option Value} {base : Heap} {k : Nat} (kn : Kn w K mg)
    (C__law_draw : Cal P w K mg base k "_law_draw" [] sp__law_draw)
    (C__law_kind : Cal P w K mg base k "_law_kind" [] sp__law_kind)
    {f : Addr} {cdv : Value} {A : Around} {outer : List PySem.Env} {s : Shared} {H : Hp} {E : XK} (hr : RoomG k (bx P w K mg base ["source", "many", "found", "spot", "pauses", "weights", "wide", "rare", "number", "turn", "pause", "weight", "kind"] "_law_traffic" (defScope (top 25)) f cdv A outer s H E).A)
    (hp : PassesOwn (model P w) (bx P w K mg base ["source", "many", "found", "spot", "pauses", "weights", "wide", "rare", "number", "turn", "pause", "weight", "kind"] "_law_traffic" (defScope (top 25)) f cdv A outer s H E).A (bx P w K mg base ["source", "many", "found", "spot", "pauses", "weights", "wide", "rare", "number", "turn", "pause", "weight", "kind"] "_law_traffic" (defScope (top 25)) f cdv A outer s H E).env (bx P w K mg base ["source", "many", "found", "spot", "pauses", "weights", "wide", "rare", "number", "turn", "pause", "weight", "kind"] "_law_traffic" (defScope (top 25)) f cdv A outer s H E).xe)
    (tk : Takes (bx P w K mg base ["source", "many", "found", "spot", "pauses", "weights", "wide", "rare", "number", "turn", "pause", "weight", "kind"] "_law_traffic" (defScope (top 25)) f cdv A outer s H E) (wx E)) : PSsd (bx P w K mg base ["source", "many", "found", "spot", "pauses", "weights", "wide", "rare", "number", "turn", "pause", "weight", "kind"] "_law_traffic" (defScope (top 25)) f cdv A outer s H E) (wx E) (defBody (top 25)) t__law_traffic :=
  have nd := nd__law_traffic
  (sd_cons (sd_asgG (ws := [4, 5]) (pr_lc rfl nd (id_range1 rfl kn.n_range pr_int) (own := [("turn", 9)]) (blk_ok (by rfl)) rfl (fun _ _ _ _ _ => (gv 9 nd)) (fun _ _ _ _ _ => ptd_nil) (fun _ _ _ _ _ => (pr_ix xd (pr_lst (pad_cons pr_int (pad_cons pr_int (pad_cons pr_int (pad_cons (pr_op od_add (pr_op od_pow pr_int pr_int) pr_int) pad_nil))))) (ccP 0 C__law_draw hr takes0 (pad_cons pr_int pad_nil)) plainIx))) (gd_lst rfl (gsd_cons (gv 4 nd) (gsd_cons (gv 5 nd) gsd_nil))))
    (sd_cons (by first | exact sd_par2 rfl nd rfl rfl (by decide) rfl rfl (par_cons (pr_ix xd (pr_lst (pad_cons pr_int (pad_cons pr_int (pad_cons pr_int (pad_cons pr_int (pad_cons pr_int (pad_cons pr_int (pad_cons pr_int pad_nil)))))))) (ccP 0 C__law_draw hr tk (pad_cons pr_int pad_nil)) plainIx) (par_cons (pr_op od_add pr_int (ccP 0 C__law_draw hr tk (pad_cons pr_int pad_nil))) par_nil)) rfl rfl | exact sd_parN rfl (par_cons (pr_ix xd (pr_lst (pad_cons pr_int (pad_cons pr_int (pad_cons pr_int (pad_cons pr_int (pad_cons pr_int (pad_cons pr_int (pad_cons pr_int pad_nil)))))))) (ccP 0 C__law_draw hr tk (pad_cons pr_int pad_nil)) plainIx) (par_cons (pr_op od_add pr_int (ccP 0 C__law_draw hr tk (pad_cons pr_int pad_nil))) par_nil)) (gns_cons (pg_name nd (i := 6) rfl (by first | exact Or.inl rfl | exact Or.inr rfl) (by first | exact Or.inl rfl | exact Or.inr rfl)) (gns_cons (pg_name nd (i := 7) rfl (by first | exact Or.inl rfl | exact Or.inr rfl) (by first | exact Or.inl rfl | exact Or.inr rfl)) gns_nil)) rfl (by decide))
    (sd_cons (sd_set nd rfl (by first | exact Or.inl rfl | exact Or.inr rfl) (pr_lst pad_nil))
    (sd_cons (sd_for (ws := [3]) hp rfl (id_range1 rfl kn.n_range (vv 1)) (gv 3 nd) (sd_cons (sd_set nd rfl (by first | exact Or.inl rfl | exact Or.inr rfl) (vv 3))
    (sd_cons (sd_if (pb_cmp od_gt (vv 6) pr_int rfl) (sd_one (sd_set nd rfl (by first | exact Or.inl rfl | exact Or.inr rfl) (pr_op od_add (pr_op od_mul pr_int (pr_callTy cd_int rfl kn.n_int boot_int (pad_cons (pr_cmp (od_in (hu hr)) (vv 6) (pr_lst (pad_cons pr_int (pad_cons pr_int pad_nil))) rfl) pad_nil))) (ccP 0 C__law_draw hr tk (pad_cons (vv 6) pad_nil))))) sd_nil)
    (sd_cons (by first | exact sd_par3 rfl nd rfl rfl rfl (by decide) (by decide) (by decide) rfl rfl rfl (par_cons (ccP 0 C__law_draw hr tk (pad_cons (vv 4) pad_nil)) (par_cons (ccP 0 C__law_draw hr tk (pad_cons (vv 5) pad_nil)) (par_cons (cc C__law_kind hr tk (pad_cons (vv 8) pad_nil)) par_nil))) rfl rfl | exact sd_parN rfl (par_cons (ccP 0 C__law_draw hr tk (pad_cons (vv 4) pad_nil)) (par_cons (ccP 0 C__law_draw hr tk (pad_cons (vv 5) pad_nil)) (par_cons (cc C__law_kind hr tk (pad_cons (vv 8) pad_nil)) par_nil))) (gns_cons (pg_name nd (i := 10) rfl (by first | exact Or.inl rfl | exact Or.inr rfl) (by first | exact Or.inl rfl | exact Or.inr rfl)) (gns_cons (pg_name nd (i := 11) rfl (by first | exact Or.inl rfl | exact Or.inr rfl) (by first | exact Or.inl rfl | exact Or.inr rfl)) (gns_cons (pg_name nd (i := 12) rfl (by first | exact Or.inl rfl | exact Or.inr rfl) (by first | exact Or.inl rfl | exact Or.inr rfl)) gns_nil))) rfl (by decide))
    (sd_one (sd_app (pv 2) (pr_tup (pad_cons (vv 10) (pad_cons (vv 11) (pad_cons (vv 12) (pad_cons (pr_cmp (od_eq (hu hr)) (ccP 0 C__law_draw hr tk (pad_cons (pr_op od_add (vv 7) pr_int) pad_nil)) pr_int rfl) pad_nil)))))))))))
    (sd_one (sd_ret (mv 2)))))))
theorem ok__law_traffic {P : Program} {w : World} {K : Fr} {mg : Str → Option Value} {base : Heap} {k : Nat} (kn : Kn w K mg)
    (C__law_draw : Cal P w K mg base k "_law_draw" [] sp__law_draw)
    (C__law_kind : Cal P w K mg base k "_law_kind" [] sp__law_kind)
    {fa : Addr} {fd : FuncData} (F : FunD K "_law_traffic" "_law_traffic" (defArgs (top 25)) (defBody (top 25)) (defScope (top 25)) [] [] fa fd) : FnG P w K mg base (k + 1) fa fd ["source", "many"] (spD K mg sp__law_traffic) :=
  fnG_body (N := ["source", "many", "found", "spot", "pauses", "weights", "wide", "rare", "number", "turn", "pause", "weight", "kind"]) (n := 2) F ⟨rfl, rfl, rfl, by decide +kernel, rfl, by decide +kernel, by decide +kernel⟩ rfl (by first | exact ary_F _ _ | exact ary_S _ _ _ _ | exact ary_V _ _ _ | exact ary_Req _ _ _ _ | exact ary_law _ | exact a__law_traffic) (fun cdv A outer s H E hr hp tk => d__law_traffic kn C__law_draw C__law_kind hr hp tk) m__law_traffic
theorem nd__law_measures : (["traffic", "start", "end", "spot", "weight", "age", "marks", "kinds", "pause", "heavy", "kind", "marked"] : List Str).Nodup := by decide +kernel
theorem d__law_measures {P : Program} {w : World} {K : Fr} {mg : Str → Option Value} {base : Heap} {k : Nat} (kn : Kn w K mg)
    {f : Addr} {cdv : Value} {A : Around} {outer : List PySem.Env} {s : Shared} {H : Hp} {E : XK} (hr : RoomG k (bx P w K mg base ["traffic", "start", "end", "spot", "weight", "age", "marks", "kinds", "pause", "heavy", "kind", "marked"] "_law_measures" (defScope (top 26)) f cdv A outer s H E).A)
    (hp : PassesOwn (model P w) (bx P w K mg base ["traffic", "start", "end", "spot", "weight", "age", "marks", "kinds", "pause", "heavy", "kind", "marked"] "_law_measures" (defScope (top 26)) f cdv A outer s H E).A (bx P w K mg base ["traffic", "start", "end", "spot", "weight", "age", "marks", "kinds", "pause", "heavy", "kind", "marked"] "_law_measures" (defScope (top 26)) f cdv A outer s H E).env (bx P w K mg base ["traffic", "start", "end", "spot", "weight", "age", "marks", "kinds", "pause", "heavy", "kind", "marked"] "_law_measures" (defScope (top 26)) f cdv A outer s H E).xe)
    (tk : Takes (bx P w K mg base ["traffic", "start", "end", "spot", "weight", "age", "marks", "kinds", "pause", "heavy", "kind", "marked"] "_law_measures" (defScope (top 26)) f cdv A outer s H E) (wx E)) : PSsd (bx P w K mg base ["traffic", "start", "end", "spot", "weight", "age", "marks", "kinds", "pause", "heavy", "kind", "marked"] "_law_measures" (defScope (top 26)) f cdv A outer s H E) (wx E) (defBody (top 26)) t__law_measures :=
  have nd := nd__law_measures
  (sd_cons (by first | exact sd_parN rfl (par_cons pr_int (par_cons pr_int (par_cons pr_int (par_cons pr_dct0 par_nil)))) (gns_cons (pg_name nd (i := 4) rfl (by first | exact Or.inl rfl | exact Or.inr rfl) (by first | exact Or.inl rfl | exact Or.inr rfl)) (gns_cons (pg_name nd (i := 5) rfl (by first | exact Or.inl rfl | exact Or.inr rfl) (by first | exact Or.inl rfl | exact Or.inr rfl)) (gns_cons (pg_name nd (i := 6) rfl (by first | exact Or.inl rfl | exact Or.inr rfl) (by first | exact Or.inl rfl | exact Or.inr rfl)) (gns_cons (pg_name nd (i := 7) rfl (by first | exact Or.inl rfl | exact Or.inr rfl) (by first | exact Or.inl rfl | exact Or.inr rfl)) gns_nil)))) rfl (by decide))
    (sd_cons (sd_for (ws := [3]) hp rfl (id_range2 rfl kn.n_range (vv 1) (vv 2)) (gv 3 nd) (sd_cons (sd_asgG (ws := [8, 9, 10, 11]) (pr_ix xd (vv 0) (vv 3) plainIx) (gd_tup rfl (gsd_cons (gv 8 nd) (gsd_cons (gv 9 nd) (gsd_cons (gv 10 nd) (gsd_cons (gv 11 nd) gsd_nil))))))
    (sd_cons (sd_set nd rfl (by first | exact Or.inl rfl | exact Or.inr rfl) (pr_op od_add (vv 4) (vv 9)))
    (sd_cons (sd_set nd rfl (by first | exact Or.inl rfl | exact Or.inr rfl) (pr_op od_add (vv 5) (pr_op od_mul (vv 8) (pr_callTy cd_int rfl kn.n_int boot_int (pad_cons (pr_cmp od_gt (vv 3) (vv 1) rfl) pad_nil)))))
    (sd_cons (sd_set nd rfl (by first | exact Or.inl rfl | exact Or.inr rfl) (pr_op od_add (vv 6) (pr_callTy cd_int rfl kn.n_int boot_int (pad_cons (vv 11) pad_nil))))
    (sd_one (sd_setK (hu hr) (pv 7) pr_bl (vv 10))))))))
    (sd_one (sd_ret (pr_tup (pad_cons (pr_op od_sub (vv 2) (vv 1)) (pad_cons (vv 4) (pad_cons (vv 5) (pad_cons (pr_callB cd_lenT rfl kn.n_len boot_len (pad_cons (vv 7) pad_nil)) (pad_cons (vv 6) pad_nil))))))))))
theorem ok__law_measures {P : Program} {w : World} {K : Fr} {mg : Str → Option Value} {base : Heap} {k : Nat} (kn : Kn w K mg)
    {fa : Addr} {fd : FuncData} (F : FunD K "_law_measures" "_law_measures" (defArgs (top 26)) (defBody (top 26)) (defScope (top 26)) [] [] fa fd) : FnG P w K mg base (k + 1) fa fd ["traffic", "start", "end"] (spD K mg sp__law_measures) :=
  fnG_body (N := ["traffic", "start", "end", "spot", "weight", "age", "marks", "kinds", "pause", "heavy", "kind", "marked"]) (n := 3) F ⟨rfl, rfl, rfl, by decide +kernel, rfl, by decide +kernel, by decide +kernel⟩ rfl (by first | exact ary_F _ _ | exact ary_S _ _ _ _ | exact ary_V _ _ _ | exact ary_Req _ _ _ _ | exact ary_law _ | exact a__law_measures) (fun cdv A outer s H E hr hp tk => d__law_measures kn  hr hp tk) m__law_measures
theorem nd__law_limit_of : (["traffic", "times", "caught", "e"] : List Str).Nodup := by decide +kernel
theorem d__law_limit_of {P : Program} {w : World} {K : Fr} {mg : Str → Option Value} {base : Heap} {k : Nat} (kn : Kn w K mg)
    (C_repeated : Cal P w K mg base k "repeated" [] sp_repeated)
    {f : Addr} {cdv : Value} {A : Around} {outer : List PySem.Env} {s : Shared} {H : Hp} {E : XK} (hr : RoomG k (bx P w K mg base ["traffic", "times", "caught", "e"] "_law_limit_of" (defScope (top 27)) f cdv A outer s H E).A)
    (hp : PassesOwn (model P w) (bx P w K mg base ["traffic", "times", "caught", "e"] "_law_limit_of" (defScope (top 27)) f cdv A outer s H E).A (bx P w K mg base ["traffic", "times", "caught", "e"] "_law_limit_of" (defScope (top 27)) f cdv A outer s H E).env (bx P w K mg base ["traffic", "times", "caught", "e"] "_law_limit_of" (defScope (top 27)) f cdv A outer s H E).xe)
    (tk : Takes (bx P w K mg base ["traffic", "times", "caught", "e"] "_law_limit_of" (defScope (top 27)) f cdv A outer s H E) (wx E)) : PSsd (bx P w K mg base ["traffic", "times", "caught", "e"] "_law_limit_of" (defScope (top 27)) f cdv A outer s H E) (wx E) (defBody (top 27)) t__law_limit_of :=
  have nd := nd__law_limit_of
  (sd_cons (sd_set nd rfl (by first | exact Or.inl rfl | exact Or.inr rfl) pr_non)
    (ssd_tryF kn.f_TooLarge nd (fun W pn xe tk hp => (sd_one (sd_drop (cc C_repeated hr tk (pad_cons (vv 0) (pad_cons (vv 1) pad_nil)))))) (sd_ret (pr_ifExp (pb_cmp od_is (vv 2) pr_non rfl) pr_non pr_never))))
theorem ok__law_limit_of {P : Program} {w : World} {K : Fr} {mg : Str → Option Value} {base : Heap} {k : Nat} (kn : Kn w K mg)
    (C_repeated : Cal P w K mg base k "repeated" [] sp_repeated)
    {fa : Addr} {fd : FuncData} (F : FunD K "_law_limit_of" "_law_limit_of" (defArgs (top 27)) (defBody (top 27)) (defScope (top 27)) [] [] fa fd) : FnG P w K mg base (k + 1) fa fd ["traffic", "times"] (spD K mg sp__law_limit_of) :=
  fnG_body (N := ["traffic", "times", "caught", "e"]) (n := 2) F ⟨rfl, rfl, rfl, by decide +kernel, rfl, by decide +kernel, by decide +kernel⟩ rfl (by first | exact ary_F _ _ | exact ary_S _ _ _ _ | exact ary_V _ _ _ | exact ary_Req _ _ _ _ | exact ary_law _ | exact a__law_limit_of) (fun cdv A outer s H E hr hp tk => d__law_limit_of kn C_repeated hr hp tk) m__law_limit_of
theorem nd__law_written : (["traffic", "times", "found", "turn", "item"] : List Str).Nodup := by decide +kernel
theorem d__law_written {P : Program} {w : World} {K : Fr} {mg : Str → Option Value} {base : Heap} {k : Nat} (kn : Kn w K mg)
    {f : Addr} {cdv : Value} {A : Around} {outer : List PySem.Env} {s : Shared} {H : Hp} {E : XK} (hr : RoomG k (bx P w K mg base ["traffic", "times", "found", "turn", "item"] "_law_written" (defScope (top 28)) f cdv A outer s H E).A)
    (hp : PassesOwn (model P w) (bx P w K mg base ["traffic", "times", "found", "turn", "item"] "_law_written" (defScope (top 28)) f cdv A outer s H E).A (bx P w K mg base ["traffic", "times", "found", "turn", "item"] "_law_written" (defScope (top 28)) f cdv A outer s H E).env (bx P w K mg base ["traffic", "times", "found", "turn", "item"] "_law_written" (defScope (top 28)) f cdv A outer s H E).xe)
    (tk : Takes (bx P w K mg base ["traffic", "times", "found", "turn", "item"] "_law_written" (defScope (top 28)) f cdv A outer s H E) (wx E)) : PSsd (bx P w K mg base ["traffic", "times", "found", "turn", "item"] "_law_written" (defScope (top 28)) f cdv A outer s H E) (wx E) (defBody (top 28)) t__law_written :=
  have nd := nd__law_written
  (sd_cons (sd_set nd rfl (by first | exact Or.inl rfl | exact Or.inr rfl) (pr_lst pad_nil))
    (sd_cons (sd_for (ws := [3]) hp rfl (id_range1 rfl kn.n_range (vv 1)) (gv 3 nd) (sd_one (sd_for (ws := [4]) hp rfl (id_any (vv 0)) (gv 4 nd) (sd_one (sd_app (pv 2) (vv 4))))))
    (sd_one (sd_ret (mv 2)))))
theorem ok__law_written {P : Program} {w : World} {K : Fr} {mg : Str → Option Value} {base : Heap} {k : Nat} (kn : Kn w K mg)
    {fa : Addr} {fd : FuncData} (F : FunD K "_law_written" "_law_written" (defArgs (top 28)) (defBody (top 28)) (defScope (top 28)) [] [] fa fd) : FnG P w K mg base (k + 1) fa fd ["traffic", "times"] (spD K mg sp__law_written) :=
  fnG_body (N := ["traffic", "times", "found", "turn", "item"]) (n := 2) F ⟨rfl, rfl, rfl, by decide +kernel, rfl, by decide +kernel, by decide +kernel⟩ rfl (by first | exact ary_F _ _ | exact ary_S _ _ _ _ | exact ary_V _ _ _ | exact ary_Req _ _ _ _ | exact ary_law _ | exact a__law_written) (fun cdv A outer s H E hr hp tk => d__law_written kn  hr hp tk) m__law_written
theorem nd__law_right : (["traffic", "times", "told", "kept", "due", "one"] : List Str).Nodup := by decide +kernel
theorem d__law_right {P : Program} {w : World} {K : Fr} {mg : Str → Option Value} {base : Heap} {k : Nat} (kn : Kn w K mg)
    (C__law_measures : Cal P w K mg base k "_law_measures" [] sp__law_measures)
    (C__law_written : Cal P w K mg base k "_law_written" [] sp__law_written)
    (C_measures_of : Cal P w K mg base k "measures_of" [] sp_measures_of)
    (C_repeated : Cal P w K mg base k "repeated" [] sp_repeated)
    (C_times_of : Cal P w K mg base k "times_of" [] sp_times_of)
    {f : Addr} {cdv : Value} {A : Around} {outer : List PySem.Env} {s : Shared} {H : Hp} {E : XK} (hr : RoomG k (bx P w K mg base ["traffic", "times", "told", "kept", "due", "one"] "_law_right" (defScope (top 29)) f cdv A outer s H E).A)
    (hp : PassesOwn (model P w) (bx P w K mg base ["traffic", "times", "told", "kept", "due", "one"] "_law_right" (defScope (top 29)) f cdv A outer s H E).A (bx P w K mg base ["traffic", "times", "told", "kept", "due", "one"] "_law_right" (defScope (top 29)) f cdv A outer s H E).env (bx P w K mg base ["traffic", "times", "told", "kept", "due", "one"] "_law_right" (defScope (top 29)) f cdv A outer s H E).xe)
    (tk : Takes (bx P w K mg base ["traffic", "times", "told", "kept", "due", "one"] "_law_right" (defScope (top 29)) f cdv A outer s H E) (wx E)) : PSsd (bx P w K mg base ["traffic", "times", "told", "kept", "due", "one"] "_law_right" (defScope (top 29)) f cdv A outer s H E) (wx E) (defBody (top 29)) X03.t__law_right :=
  have nd := nd__law_right
  (sd_cons (by first | exact sd_par2 rfl nd rfl rfl (by decide) rfl rfl (par_cons (pr_callB (cd_repr hr.gd (hu hr) kn.sysm) rfl kn.n_repr boot_repr (pad_cons (vv 0) pad_nil)) (par_cons (cc C__law_written hr tk (pad_cons (vv 0) (pad_cons (vv 1) pad_nil))) par_nil)) rfl rfl | exact sd_parN rfl (par_cons (pr_callB (cd_repr hr.gd (hu hr) kn.sysm) rfl kn.n_repr boot_repr (pad_cons (vv 0) pad_nil)) (par_cons (cc C__law_written hr tk (pad_cons (vv 0) (pad_cons (vv 1) pad_nil))) par_nil)) (gns_cons (pg_name nd (i := 3) rfl (by first | exact Or.inl rfl | exact Or.inr rfl) (by first | exact Or.inl rfl | exact Or.inr rfl)) (gns_cons (pg_name nd (i := 4) rfl (by first | exact Or.inl rfl | exact Or.inr rfl) (by first | exact Or.inl rfl | exact Or.inr rfl)) gns_nil)) rfl (by decide))
    (sd_cons (sd_set nd rfl (by first | exact Or.inl rfl | exact Or.inr rfl) (cc C_repeated hr tk (pad_cons (vv 0) (pad_cons (vv 1) pad_nil))))
    (sd_cons (sd_if (pb_bor [2, 4] (pb_w (pb_or (pb_cmp (od_ne (hu hr)) (pr_callB (cd_repr hr.gd (hu hr) kn.sysm) rfl kn.n_repr boot_repr (pad_cons (vv 2) pad_nil)) (pr_callB (cd_repr hr.gd (hu hr) kn.sysm) rfl kn.n_repr boot_repr (pad_cons (vv 4) pad_nil)) rfl) (pb_or1 (pb_cmp (od_ne (hu hr)) (pr_callB (cd_repr hr.gd (hu hr) kn.sysm) rfl kn.n_repr boot_repr (pad_cons (vv 0) pad_nil)) (vv 3) rfl))))) (sd_one (sd_ret pr_bl)) sd_nil)
    (sd_cons (sd_if (pb_bor [2, 4] (pb_w (pb_and (pb_cmp (od_ne (hu hr)) (vv 4) (pr_lst pad_nil) rfl) (pb_and1 (pb_cmp (od_ne (hu hr)) (cc C_measures_of hr tk (pad_cons (vv 2) (pad_cons pr_int (pad_cons (pr_callB cd_len rfl kn.n_len boot_len (pad_cons (vv 2) pad_nil)) pad_nil)))) (cc C__law_measures hr tk (pad_cons (vv 4) (pad_cons pr_int (pad_cons (pr_callB cd_len rfl kn.n_len boot_len (pad_cons (vv 4) pad_nil)) pad_nil)))) rfl))))) (sd_one (sd_ret pr_bl)) sd_nil)
    (sd_cons (sd_if (pb_bor [2, 4] (pb_cmp (od_ne (hu hr)) (pr_sl sld (cc C_times_of hr tk (pad_cons (vv 2) pad_nil)) (od_some (pr_un ud_neg pr_int)) od_none) (pr_lc rfl nd (id_any (pr_sl sld (vv 4) (od_some (pr_un ud_neg pr_int)) od_none)) (own := [("one", 5)]) (blk_ok (by rfl)) rfl (fun _ _ _ _ _ => (gv 5 nd)) (fun _ _ _ _ _ => ptd_nil) (fun _ _ _ _ _ => (pr_op od_mul (pr_ix xd (cc C_times_of hr takes0 (pad_cons (vv 0) pad_nil)) (pr_un ud_neg pr_int) plainIx) (vv 1)))) rfl)) (sd_one (sd_ret pr_bl)) sd_nil)
    (sd_cons (sd_app (pv 2) (pr_ifExp (pb_cmp (od_ne (hu hr)) (vv 0) (pr_lst pad_nil) rfl) (pr_ix xd (vv 0) pr_int plainIx) (pr_tup (pad_cons pr_int (pad_cons pr_int (pad_cons pr_str (pad_cons pr_bl pad_nil)))))))
    (sd_cons (sd_rev (pv 2))
    (sd_one (sd_ret (pr_and (pr_cmp (od_eq (hu hr)) (pr_callB (cd_repr hr.gd (hu hr) kn.sysm) rfl kn.n_repr boot_repr (pad_cons (cc C_repeated hr tk (pad_cons (vv 0) (pad_cons (vv 1) pad_nil))) pad_nil)) (pr_callB (cd_repr hr.gd (hu hr) kn.sysm) rfl kn.n_repr boot_repr (pad_cons (vv 4) pad_nil)) rfl) (pr_one (pr_cmp (od_eq (hu hr)) (pr_callB (cd_repr hr.gd (hu hr) kn.sysm) rfl kn.n_repr boot_repr (pad_cons (vv 0) pad_nil)) (vv 3) rfl))))))))))))
theorem ok__law_right {P : Program} {w : World} {K : Fr} {mg : Str → Option Value} {base : Heap} {k : Nat} (kn : Kn w K mg)
    (C__law_measures : Cal P w K mg base k "_law_measures" [] sp__law_measures)
    (C__law_written : Cal P w K mg base k "_law_written" [] sp__law_written)
    (C_measures_of : Cal P w K mg base k "measures_of" [] sp_measures_of)
    (C_repeated : Cal P w K mg base k "repeated" [] sp_repeated)
    (C_times_of : Cal P w K mg base k "times_of" [] sp_times_of)
    {fa : Addr} {fd : FuncData} (F : FunD K "_law_right" "_law_right" (defArgs (top 29)) (defBody (top 29)) (defScope (top 29)) [] [] fa fd) : FnG P w K mg base (k + 1) fa fd ["traffic", "times"] (spD K mg X03.sp__law_right) :=
  fnG_body (N := ["traffic", "times", "told", "kept", "due", "one"]) (n := 2) F ⟨rfl, rfl, rfl, by decide +kernel, rfl, by decide +kernel, by decide +kernel⟩ rfl (by first | exact ary_F _ _ | exact ary_S _ _ _ _ | exact ary_V _ _ _ | exact ary_Req _ _ _ _ | exact ary_law _ | exact X03.a__law_right) (fun cdv A outer s H E hr hp tk => d__law_right kn C__law_measures C__law_written C_measures_of C_repeated C_times_of hr hp tk) X03.m__law_right
theorem nd_law : (["script", "k", "source", "turn", "many", "traffic", "times"] : List Str).Nodup := by decide +kernel
theorem d_law {P : Program} {w : World} {K : Fr} {mg : Str → Option Value} {base : Heap} {k : Nat} (kn : Kn w K mg)
    (C__law_draw : Cal P w K mg base k "_law_draw" [] sp__law_draw)
    (C__law_limit_of : Cal P w K mg base k "_law_limit_of" [] sp__law_limit_of)
    (C__law_right : Cal P w K mg base k "_law_right" [] X03.sp__law_right)
    (C__law_source : Cal P w K mg base k "_law_source" [] sp__law_source)
    (C__law_traffic : Cal P w K mg base k "_law_traffic" [] sp__law_traffic)
    (C_repeated : Cal P w K mg base k "repeated" [] sp_repeated)
    {f : Addr} {cdv : Value} {A : Around} {outer : List PySem.Env} {s : Shared} {H : Hp} {E : XK} (hr : RoomG k (bx P w K mg base ["script", "k", "source", "turn", "many", "traffic", "times"] "law" (defScope (top 30)) f cdv A outer s H E).A)
    (hp : PassesOwn (model P w) (bx P w K mg base ["script", "k", "source", "turn", "many", "traffic", "times"] "law" (defScope (top 30)) f cdv A outer s H E).A (bx P w K mg base ["script", "k", "source", "turn", "many", "traffic", "times"] "law" (defScope (top 30)) f cdv A outer s H E).env (bx P w K mg base ["script", "k", "source", "turn", "many", "traffic", "times"] "law" (defScope (top 30)) f cdv A outer s H E).xe)
    (tk : Takes (bx P w K mg base ["script", "k", "source", "turn", "many", "traffic", "times"] "law" (defScope (top 30)) f cdv A outer s H E) (wx E)) : PSsd (bx P w K mg base ["script", "k", "source", "turn", "many", "traffic", "times"] "law" (defScope (top 30)) f cdv A outer s H E) (wx E) (defBody (top 30)) X03.t_law :=
  have nd := nd_law
  (sd_cons (sd_for (ws := [1]) hp rfl (id_range1 rfl kn.n_range (pr_callB (cd_max rfl) rfl kn.n_max boot_max (pad_cons pr_int (pad_cons (pr_callB (cd_min rfl) rfl kn.n_min boot_min (pad_cons pr_int (pad_cons (pr_callB cd_len rfl kn.n_len boot_len (pad_cons (vv 0) pad_nil)) pad_nil))) pad_nil)))) (gv 1 nd) (sd_cons (sd_set nd rfl (by first | exact Or.inl rfl | exact Or.inr rfl) (cc C__law_source hr tk (pad_cons (vv 0) (pad_cons (vv 1) pad_nil))))
    (sd_cons (sd_for (ws := [3]) hp rfl (id_range1 rfl kn.n_range pr_int) (gv 3 nd) (sd_cons (sd_set nd rfl (by first | exact Or.inl rfl | exact Or.inr rfl) (pr_op od_add pr_int (ccP 2 C__law_draw hr tk (pad_cons (pr_ix xd (pr_lst (pad_cons pr_int (pad_cons pr_int (pad_cons pr_int pad_nil)))) (ccP 2 C__law_draw hr tk (pad_cons pr_int pad_nil)) plainIx) pad_nil))))
    (sd_cons (sd_set nd rfl (by first | exact Or.inl rfl | exact Or.inr rfl) (ccP 2 C__law_traffic hr tk (pad_cons (vv 4) pad_nil)))
    (sd_cons (sd_if (pb_bor [4, 5] (pb_cmp (od_ne (hu hr)) (pr_lc rfl nd (id_range1 rfl kn.n_range (pr_op od_add (pr_op od_fdiv pr_int (vv 4)) pr_int)) (own := [("times", 6)]) (blk_ok (by rfl)) rfl (fun _ _ _ _ _ => (gv 6 nd)) (fun _ _ _ _ _ => (ptd_one (pb_not (pb_val (cc C__law_right hr takes0 (pad_cons (vv 5) (pad_cons (vv 6) pad_nil))))) rfl)) (fun _ _ _ _ _ => (vv 6))) (pr_lst pad_nil) rfl)) (sd_one (sd_ret pr_bl)) sd_nil)
    (sd_cons (sd_for (ws := [6]) hp rfl (id_any (pr_lst (pad_cons (pr_op od_add (pr_op od_fdiv pr_int (vv 4)) pr_int) (pad_cons (pr_op od_add (pr_op od_fdiv pr_int (vv 4)) pr_int) (pad_cons pr_int (pad_cons (pr_op od_pow pr_int pr_int) pad_nil)))))) (gv 6 nd) (sd_one (sd_if (pb_bor [4, 5] (pb_w (pb_and (pb_cmp od_gt (pr_op od_mul (vv 6) (vv 4)) pr_int rfl) (pb_and1 (pb_cmp (od_ne (hu hr)) (cc C__law_limit_of hr tk (pad_cons (vv 5) (pad_cons (vv 6) pad_nil))) pr_int rfl))))) (sd_one (sd_ret pr_bl)) sd_nil)))
    (sd_cons (sd_setI (pv 5) (pr_tup (pad_cons pr_int (pad_cons (pr_op od_pow pr_int pr_int) (pad_cons pr_str (pad_cons pr_bl pad_nil))))) (ccP 2 C__law_draw hr tk (pad_cons (vv 4) pad_nil)))
    (sd_cons (sd_if (pb_bor [4, 5] (pb_not (pb_val (cc C__law_right hr tk (pad_cons (vv 5) (pad_cons (pr_op od_fdiv pr_int (vv 4)) pad_nil)))))) (sd_one (sd_ret pr_bl)) sd_nil)
    (sd_cons (sd_drop (pr_pop0 (pv 5)))
    (sd_one (sd_if (pb_bor [4, 5] (pb_w (pb_or (pb_not (pb_val (cc C__law_right hr tk (pad_cons (vv 5) (pad_cons pr_int pad_nil))))) (pb_or1 (pb_not (pb_val (cc C__law_right hr tk (pad_cons (vv 5) (pad_cons (pr_op od_fdiv pr_int (vv 4)) pad_nil))))))))) (sd_one (sd_ret pr_bl)) sd_nil))))))))))
    (sd_one (sd_if (pb_w (pb_or (pb_cmp (od_ne (hu hr)) (cc C_repeated hr tk (pad_cons (pr_lst pad_nil) (pad_cons (ccP 2 C__law_draw hr tk (pad_cons (pr_op od_pow pr_int pr_int) pad_nil)) pad_nil))) (pr_lst pad_nil) rfl) (pb_or1 (pb_not (pb_val (cc C__law_right hr tk (pad_cons (pr_lst pad_nil) (pad_cons (ccP 2 C__law_draw hr tk (pad_cons pr_int pad_nil)) pad_nil)))))))) (sd_one (sd_ret pr_bl)) sd_nil)))))
    (sd_one (sd_ret (pr_and (pr_cmp (od_eq (hu hr)) (cc C_repeated hr tk (pad_cons (pr_lst pad_nil) (pad_cons (pr_op od_pow pr_int pr_int) pad_nil))) (pr_lst pad_nil) rfl) (pr_one (pr_cmp (od_eq (hu hr)) (cc C__law_limit_of hr tk (pad_cons (pr_lst (pad_cons (pr_tup (pad_cons pr_int (pad_cons pr_int (pad_cons pr_str (pad_cons pr_bl pad_nil))))) pad_nil)) (pad_cons pr_int pad_nil))) pr_int rfl))))))
theorem ok_law {P : Program} {w : World} {K : Fr} {mg : Str → Option Value} {base : Heap} {k : Nat} (kn : Kn w K mg)
    (C__law_draw : Cal P w K mg base k "_law_draw" [] sp__law_draw)
    (C__law_limit_of : Cal P w K mg base k "_law_limit_of" [] sp__law_limit_of)
    (C__law_right : Cal P w K mg base k "_law_right" [] X03.sp__law_right)
    (C__law_source : Cal P w K mg base k "_law_source" [] sp__law_source)
    (C__law_traffic : Cal P w K mg base k "_law_traffic" [] sp__law_traffic)
    (C_repeated : Cal P w K mg base k "repeated" [] sp_repeated)
    {fa : Addr} {fd : FuncData} (F : FunD K "law" "law" (defArgs (top 30)) (defBody (top 30)) (defScope (top 30)) [] [] fa fd) : FnG P w K mg base (k + 1) fa fd ["script"] (spD K mg (spLaw 63)) :=
  fnG_body (N := ["script", "k", "source", "turn", "many", "traffic", "times"]) (n := 1) F ⟨rfl, rfl, rfl, by decide +kernel, rfl, by decide +kernel, by decide +kernel⟩ rfl (by first | exact ary_F _ _ | exact ary_S _ _ _ _ | exact ary_V _ _ _ | exact ary_Req _ _ _ _ | exact ary_law _ | exact X03.a_law) (fun cdv A outer s H E hr hp tk => d_law kn C__law_draw C__law_limit_of C__law_right C__law_source C__law_traffic C_repeated hr hp tk) X03.m_law
theorem facts {P : Program} {w : World} {K : Fr} {h : Heap} {mg : Str → Option Value} {f : Addr} (X : K.In h) (G : h.Ns mainGlobals mg) (hfa : mg ("law" : Str) = some (.ref f)) (c : SaysP fa fn ts ex w K) :
    ∃ fd : FuncData, (∀ (s : Shared) (v : Value), BindsTo s fd ⟨[v], []⟩ [("script", v)]) ∧ ∀ base : Heap, K.In base → base.Ns mainGlobals mg → FnG P w K mg base 7 f fd ["script"] (spD K mg (spLaw 63)) := by
  have kn : Kn w K mg := kn_of X G c
  obtain ⟨fd_is_integer, F_is_integer⟩ := c.def_ 0 rfl
  obtain ⟨fd_is_kind, F_is_kind⟩ := c.def_ 1 rfl
  obtain ⟨fd_is_item, F_is_item⟩ := c.def_ 2 rfl
  obtain ⟨fd_is_traffic, F_is_traffic⟩ := c.def_ 3 rfl
  obtain ⟨fd_require_traffic, F_require_traffic⟩ := c.def_ 4 rfl
  obtain ⟨fd_require_stretch, F_require_stretch⟩ := c.def_ 5 rfl
  obtain ⟨fd_measures_in, F_measures_in⟩ := c.def_ 6 rfl
  obtain ⟨fd_times_of, F_times_of⟩ := c.def_ 7 rfl
  obtain ⟨fd_measures_of, F_measures_of⟩ := c.def_ 8 rfl
  obtain ⟨fd_repeated, F_repeated⟩ := c.def_ 9 rfl
  obtain ⟨fd__law_source, F__law_source⟩ := c.def_ 10 rfl
  obtain ⟨fd__law_draw, F__law_draw⟩ := c.def_ 11 rfl
  obtain ⟨fd__law_kind, F__law_kind⟩ := c.def_ 12 rfl
  obtain ⟨fd__law_traffic, F__law_traffic⟩ := c.def_ 13 rfl
  obtain ⟨fd__law_measures, F__law_measures⟩ := c.def_ 14 rfl
  obtain ⟨fd__law_limit_of, F__law_limit_of⟩ := c.def_ 15 rfl
  obtain ⟨fd__law_written, F__law_written⟩ := c.def_ 16 rfl
  obtain ⟨fd__law_right, F__law_right⟩ := c.def_ 17 rfl
  obtain ⟨fd_law, F_law⟩ := c.def_ 18 rfl
  obtain ⟨fd_TooLarge, F_TooLarge⟩ := c.def_ 19 rfl
  have e := hfa.symm.trans (He.glo_ok X G (c.fact 18 (f := .glo "law") rfl))
  cases e
  have b := FunD.bindsA (ps := ["script"]) F_law fun _ _ _ _ _ _ us hl => match us, hl with | [_], _ => rfl
  refine ⟨fd_law, fun s v => b s [v] rfl, fun base _ _ => ?_⟩
  have C_TooLarge : ExkC P w K mg base 2 "TooLarge" "limit" := exkC_of (s := "self") (y := "limit") F_TooLarge (He.glo_ok X G (c.fact 25 (f := .glo "TooLarge") rfl)) (He.glo_ok X G (c.fact 26 (f := .glo "BatchError") rfl)) (c.ck 1 (f := exkB "TooLarge" "BatchError" "limit") rfl)
    ⟨rfl, rfl, rfl, by decide +kernel, rfl, by decide +kernel, by decide +kernel⟩ (FunD.bindsN (ps := ["self", "limit"]) F_TooLarge fun _ _ _ _ _ _ us hl => match us, hl with | [_, _], _ => rfl)
    fun TB TC no cdv A outer sh H0 E a v H Q ha kq => by
      show ∃ t, PSs _ [.Expr (.Call (.Attribute (.Name "BatchError" _) "__init__" _) [.Name "self" _, .Constant (.str _) _ _] [] _) _, .Assign [.Attribute (.Name "self" _) "limit" _] (.Name "limit" _) _] t ∧ _
      refine pss_keep (CB := He.ga K "BatchError") (pl := ?pl) ?_ (He.glo_ok X G (c.fact 26 (f := .glo "BatchError") rfl)) TB TC no ?_ ?_ ?_ ?_ ?_ ?_ ?_ ?_ ?_ ?_ ?_ ?_ ?_ ?_ ha kq
      any_goals first | rfl | exact .inl rfl | decide
  have C_is_integer_2 : Cal P w K mg base 1 "is_integer" [.none] sp_is_integer := (let ⟨_, hv, hb⟩ := FunD.binds1 (ps := ["value", "least", "greatest"]) F_is_integer 2 0 (by first | exact List.cons_ne_nil _ _ | (simp; done)) rfl fun _ _ _ _ _ _ _ us its hu hi => match us, its, hu, hi with | [_, _], [_], _, _ => ⟨_, rfl, rfl⟩; cal_of (He.glo_ok X G (c.fact 0 (f := .glo "is_integer") rfl)) F_is_integer.kp hb hv (fun _ => (.cons .non .nil)) (ok_is_integer (k := 0) kn  F_is_integer))
  have C_is_integer_3 : Cal P w K mg base 1 "is_integer" [] sp_is_integer := (let ⟨_, hv, hb⟩ := FunD.binds1 (ps := ["value", "least", "greatest"]) F_is_integer 3 1 (by first | exact List.cons_ne_nil _ _ | (simp; done)) rfl fun _ _ _ _ _ _ _ us its hu hi => match us, its, hu, hi with | [_, _, _], [_], _, _ => ⟨_, rfl, rfl⟩; cal_of (He.glo_ok X G (c.fact 0 (f := .glo "is_integer") rfl)) F_is_integer.kp hb hv (fun _ =>  .nil) (ok_is_integer (k := 0) kn  F_is_integer))
  have C_is_kind : Cal P w K mg base 1 "is_kind" [] sp_is_kind := cal_of (He.glo_ok X G (c.fact 1 (f := .glo "is_kind") rfl)) F_is_kind.kp (FunD.bindsN (ps := ["value"]) F_is_kind fun _ _ _ _ _ _ us hl => match us, hl with | [_], _ => rfl) .nil (fun _ => .nil) (ok_is_kind (k := 0) kn  F_is_kind)
  have C_is_item : Cal P w K mg base 2 "is_item" [] sp_is_item := cal_of (He.glo_ok X G (c.fact 2 (f := .glo "is_item") rfl)) F_is_item.kp (FunD.bindsN (ps := ["value"]) F_is_item fun _ _ _ _ _ _ us hl => match us, hl with | [_], _ => rfl) .nil (fun _ => .nil) (ok_is_item (k := 1) kn (C_is_integer_3.mono (by omega)) (C_is_kind.mono (by omega)) F_is_item)
  have C_is_traffic : Cal P w K mg base 3 "is_traffic" [] sp_is_traffic := cal_of (He.glo_ok X G (c.fact 3 (f := .glo "is_traffic") rfl)) F_is_traffic.kp (FunD.bindsN (ps := ["value"]) F_is_traffic fun _ _ _ _ _ _ us hl => match us, hl with | [_], _ => rfl) .nil (fun _ => .nil) (ok_is_traffic (k := 2) kn (C_is_item.mono (by omega)) F_is_traffic)
  have C_require_traffic : Cal P w K mg base 4 "require_traffic" [] sp_require_traffic := cal_of (He.glo_ok X G (c.fact 4 (f := .glo "require_traffic") rfl)) F_require_traffic.kp (FunD.bindsN (ps := ["value"]) F_require_traffic fun _ _ _ _ _ _ us hl => match us, hl with | [_], _ => rfl) .nil (fun _ => .nil) (ok_require_traffic (k := 3) kn (C_is_traffic.mono (by omega)) F_require_traffic)
  have C_require_stretch : Cal P w K mg base 2 "require_stretch" [] sp_require_stretch := cal_of (He.glo_ok X G (c.fact 5 (f := .glo "require_stretch") rfl)) F_require_stretch.kp (FunD.bindsN (ps := ["traffic", "start", "end"]) F_require_stretch fun _ _ _ _ _ _ us hl => match us, hl with | [_, _, _], _ => rfl) .nil (fun _ => .nil) (ok_require_stretch (k := 1) kn (C_is_integer_3.mono (by omega)) F_require_stretch)
  have C_measures_in : Cal P w K mg base 1 "measures_in" [] sp_measures_in := cal_of (He.glo_ok X G (c.fact 6 (f := .glo "measures_in") rfl)) F_measures_in.kp (FunD.bindsN (ps := ["traffic", "start", "end"]) F_measures_in fun _ _ _ _ _ _ us hl => match us, hl with | [_, _, _], _ => rfl) .nil (fun _ => .nil) (ok_measures_in (k := 0) kn  F_measures_in)
  have C_times_of : Cal P w K mg base 5 "times_of" [] sp_times_of := cal_of (He.glo_ok X G (c.fact 7 (f := .glo "times_of") rfl)) F_times_of.kp (FunD.bindsN (ps := ["traffic"]) F_times_of fun _ _ _ _ _ _ us hl => match us, hl with | [_], _ => rfl) .nil (fun _ => .nil) (ok_times_of (k := 4) kn (C_require_traffic.mono (by omega)) F_times_of)
  have C_measures_of : Cal P w K mg base 5 "measures_of" [] sp_measures_of := cal_of (He.glo_ok X G (c.fact 8 (f := .glo "measures_of") rfl)) F_measures_of.kp (FunD.bindsN (ps := ["traffic", "start", "end"]) F_measures_of fun _ _ _ _ _ _ us hl => match us, hl with | [_, _, _], _ => rfl) .nil (fun _ => .nil) (ok_measures_of (k := 4) kn (C_measures_in.mono (by omega)) (C_require_stretch.mono (by omega)) (C_require_traffic.mono (by omega)) F_measures_of)
  have C_repeated : Cal P w K mg base 5 "repeated" [] sp_repeated := cal_of (He.glo_ok X G (c.fact 9 (f := .glo "repeated") rfl)) F_repeated.kp (FunD.bindsN (ps := ["traffic", "times"]) F_repeated fun _ _ _ _ _ _ us hl => match us, hl with | [_, _], _ => rfl) .nil (fun _ => .nil) (ok_repeated (k := 4) kn (C_TooLarge.mono (by omega)) (C_is_integer_2.mono (by omega)) (C_require_traffic.mono (by omega)) F_repeated)
  have C__law_source : Cal P w K mg base 1 "_law_source" [] sp__law_source := cal_of (He.glo_ok X G (c.fact 10 (f := .glo "_law_source") rfl)) F__law_source.kp (FunD.bindsN (ps := ["script", "k"]) F__law_source fun _ _ _ _ _ _ us hl => match us, hl with | [_, _], _ => rfl) .nil (fun _ => .nil) (ok__law_source (k := 0) kn  F__law_source)
  have C__law_draw : Cal P w K mg base 1 "_law_draw" [] sp__law_draw := cal_of (He.glo_ok X G (c.fact 11 (f := .glo "_law_draw") rfl)) F__law_draw.kp (FunD.bindsN (ps := ["source", "many"]) F__law_draw fun _ _ _ _ _ _ us hl => match us, hl with | [_, _], _ => rfl) .nil (fun _ => .nil) (ok__law_draw (k := 0) kn  F__law_draw)
  have C__law_kind : Cal P w K mg base 1 "_law_kind" [] sp__law_kind := cal_of (He.glo_ok X G (c.fact 12 (f := .glo "_law_kind") rfl)) F__law_kind.kp (FunD.bindsN (ps := ["number"]) F__law_kind fun _ _ _ _ _ _ us hl => match us, hl with | [_], _ => rfl) .nil (fun _ => .nil) (ok__law_kind (k := 0) kn  F__law_kind)
  have C__law_traffic : Cal P w K mg base 2 "_law_traffic" [] sp__law_traffic := cal_of (He.glo_ok X G (c.fact 13 (f := .glo "_law_traffic") rfl)) F__law_traffic.kp (FunD.bindsN (ps := ["source", "many"]) F__law_traffic fun _ _ _ _ _ _ us hl => match us, hl with | [_, _], _ => rfl) .nil (fun _ => .nil) (ok__law_traffic (k := 1) kn (C__law_draw.mono (by omega)) (C__law_kind.mono (by omega)) F__law_traffic)
  have C__law_measures : Cal P w K mg base 1 "_law_measures" [] sp__law_measures := cal_of (He.glo_ok X G (c.fact 14 (f := .glo "_law_measures") rfl)) F__law_measures.kp (FunD.bindsN (ps := ["traffic", "start", "end"]) F__law_measures fun _ _ _ _ _ _ us hl => match us, hl with | [_, _, _], _ => rfl) .nil (fun _ => .nil) (ok__law_measures (k := 0) kn  F__law_measures)
  have C__law_limit_of : Cal P w K mg base 6 "_law_limit_of" [] sp__law_limit_of := cal_of (He.glo_ok X G (c.fact 15 (f := .glo "_law_limit_of") rfl)) F__law_limit_of.kp (FunD.bindsN (ps := ["traffic", "times"]) F__law_limit_of fun _ _ _ _ _ _ us hl => match us, hl with | [_, _], _ => rfl) .nil (fun _ => .nil) (ok__law_limit_of (k := 5) kn (C_repeated.mono (by omega)) F__law_limit_of)
  have C__law_written : Cal P w K mg base 1 "_law_written" [] sp__law_written := cal_of (He.glo_ok X G (c.fact 16 (f := .glo "_law_written") rfl)) F__law_written.kp (FunD.bindsN (ps := ["traffic", "times"]) F__law_written fun _ _ _ _ _ _ us hl => match us, hl with | [_, _], _ => rfl) .nil (fun _ => .nil) (ok__law_written (k := 0) kn  F__law_written)
  have C__law_right : Cal P w K mg base 6 "_law_right" [] X03.sp__law_right := cal_of (He.glo_ok X G (c.fact 17 (f := .glo "_law_right") rfl)) F__law_right.kp (FunD.bindsN (ps := ["traffic", "times"]) F__law_right fun _ _ _ _ _ _ us hl => match us, hl with | [_, _], _ => rfl) .nil (fun _ => .nil) (ok__law_right (k := 5) kn (C__law_measures.mono (by omega)) (C__law_written.mono (by omega)) (C_measures_of.mono (by omega)) (C_repeated.mono (by omega)) (C_times_of.mono (by omega)) F__law_right)
  exact ok_law (k := 6) kn (C__law_draw.mono (by omega)) (C__law_limit_of.mono (by omega)) (C__law_right.mono (by omega)) (C__law_source.mono (by omega)) (C__law_traffic.mono (by omega)) (C_repeated.mono (by omega)) F_law
end LT
open PySem PySem.W PySem.Calls PyProof.Rows
theorem PySem.Challenge.cw_batchlimits_k03_traffic_repeated_holds : PySem.Challenge.rw_batchlimits_k03_traffic_repeated.Holds := by
  w_on; o_law
  refine HandSHeadRun.head_any (r := OpenLaw.row PySem.Challenge.rw_batchlimits_k03_traffic_repeated) (q := view (OpenLaw.row PySem.Challenge.rw_batchlimits_k03_traffic_repeated).prog [30]) (H := LT.hk) (ob := LT.ob) (M := 20000) (loose := LT.names) (d := HandSHeadRun.topDef (OpenLaw.row PySem.Challenge.rw_batchlimits_k03_traffic_repeated).prog 30) (kwd := []) LT.ob_eq
    (by kernel_rfl) (fun s => by kernel_rfl) LT.run (by kernel_rfl) (by kernel_rfl) (by kernel_rfl) (by rfl) (by first | assumption | decide +kernel) (by decide +kernel) ⟨rfl, rfl, rfl, rfl, rfl, by decide +kernel⟩ ?hw ?hc
  case hw => w_witness2
  case hc =>
    refine PD.walk_ofG (l := PySem.Challenge.rw_batchlimits_k03_traffic_repeated) (n := 63) (k := 7) (x := "script") rfl (by decide) (by kernel_rfl) ⟨⟨rfl, by decide, by decide⟩, rfl⟩ ?F
    intro w mg fa h Y G hmg0
    obtain ⟨K, KX, c⟩ := Y
    have hmg : mg ("law" : PySem.Str) = some (.ref fa) := by
      have e : (HandSHeadRun.topDef (OpenLaw.row PySem.Challenge.rw_batchlimits_k03_traffic_repeated).prog 30).name = ("law" : PySem.Str) := by kernel_rfl
      rw [← e]
      exact hmg0
    obtain ⟨fd, hb, hF⟩ := LT.facts (P := (PySem.Challenge.rw_batchlimits_k03_traffic_repeated).prog) (w := w) KX G hmg c
    exact ⟨K, fd, KX, hb, hF⟩
end L03_
