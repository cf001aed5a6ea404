import PyProof.Rows.All
import Wide.All
import OpenK.AllK
import Wide.FinOn
import HandS.ForMost
import PySem.Challenge.RW_holekinds_k02_names_and_kinds_of_anythin
import HandS.Small
import HandS.Conv
import HandS.StrMore
import KE.DataEq
import KE.OsSortAny
import HandS.TupAny
import HandS.Deep
import HandS.IsInst
import HandS.RaiseMore
import KE.KDictPairs
import HandS.DictTup
import HandS.SortOrd
import HandS.Keys
import KE.GoesMore
import PyProof.EnumMake
import PyProof.EnumFor
import HandS.More
import HandS.RaiseOp
import HandS.WrittenGet
import HandS.Style
import HandS.Sort
import HandS.Star
import HandS.List
import KE.SortData
import PyProof.StrLawsChain
import PyProof.StrLawsIn
import PyProof.StrLawsLast
import PyProof.StrLawsRepr
import PyProof.ReprText
import PyProof.FitsInt
/-! text DLCore -/
set_option Elab.async false
set_option linter.all false
set_option maxRecDepth 100000
/-! Data, slots, a store of changeable objects; what Python constructs ask, over data alone. -/
namespace DL
open PySem
/-- what a slot or an expression has: frozen data, a changeable object, a def, the script -/
inductive DV where
  | d (x : PyData)
  | loc (n : Nat)
  | fn (f : Str)
  | scr (ns : List Int)
/-- a changeable object (its parts are data), or one that is frozen -/
inductive Cell where
  | lst (xs : List PyData)
  | dct (kvs : List (PyData × PyData))
  | frz (x : PyData)
  | ins (c : Str) (fs : List (Str × DV))
abbrev Env := List (Option DV)
abbrev Store := List Cell
structure Exn where
  cls : Str
  fs : List (Str × DV)
abbrev RK := DV → Store → Prop
abbrev EK := Exn → Store → Prop
abbrev WE := Env → Store → RK → Prop
abbrev WT := Env → Store → (Bool → Store → Prop) → Prop
abbrev WA := Env → Store → (List DV → Store → Prop) → Prop
structure Fin where
  nx : Env → Store → Prop
  rt : RK
  bk : Env → Store → Prop
  ct : Env → Store → Prop
abbrev WS := Fin → Env → Store → Prop
abbrev SpD := List DV → Store → RK → EK → Prop
abbrev WG := DV → Env → Store → (Env → Store → Prop) → Prop
def optK {α : Type} (o : Option α) (k : α → Prop) : Prop := match o with
  | some a => k a
  | none => False
theorem optK_some {α : Type} {a : α} {k : α → Prop} : optK (some a) k = k a := rfl
theorem optK_elim {α : Type} {o : Option α} {k : α → Prop} (h : optK o k) : ∃ a, o = some a ∧ k a := by
  cases o with
  | none => exact h.elim
  | some a => exact ⟨a, rfl, h⟩
theorem optK_intro {α : Type} {o : Option α} {k : α → Prop} {a : α} (e : o = some a) (h : k a) : optK o k := by
  subst e; exact h
/-- the data that a thing is just now -/
def rd (st : Store) : DV → Option PyData
  | .d x => some x
  | .loc n => match st[n]? with
    | some (.lst xs) => some (.list xs)
    | some (.dct kvs) => some (.dict kvs)
    | some (.frz x) => some x
    | _ => none
  | _ => none
/-- several at once -/
def rds (st : Store) : List DV → Option (List PyData)
  | [] => some []
  | v :: r => match rd st v, rds st r with
    | some x, some xs => some (x :: xs)
    | _, _ => none
/-- frozen data alone -/
def frs : List DV → Option (List PyData)
  | [] => some []
  | .d x :: r => match frs r with
    | some xs => some (x :: xs)
    | none => none
  | _ :: _ => none
def lim : Nat := 16777216
/-- rows of a book: pairs, each led by a text that begins with a capital -/
def bookRow : PyData → Bool
  | .tuple [.str n, _] => (match n.cps.toList with
    | c :: _ => decide (65 ≤ c) && decide (c ≤ 90)
    | [] => false)
  | _ => false
def bookish (_ : List PyData) : Bool := false
/-! ### expressions -/
def wVar (i : Nat) : WE := fun env st Q => match env[i]? with
  | some (some v) => Q v st
  | _ => False
def wC (x : PyData) : WE := fun _ st Q => Q (.d x) st
def wFn (f : Str) : WE := fun _ st Q => Q (.fn f) st
abbrev B2 := PyData → PyData → Option PyData
abbrev B1 := PyData → Option PyData
def wBin (op : B2) (fa fb : WE) : WE := fun env st Q => fa env st fun r1 st1 => fb env st1 fun r2 st2 =>
  optK (rd st2 r1) fun a => optK (rd st2 r2) fun b => optK (op a b) fun c => Q (.d c) st2
def wUn (op : B1) (fa : WE) : WE := fun env st Q => fa env st fun r1 st1 => optK (rd st1 r1) fun a => optK (op a) fun c => Q (.d c) st1
/-- a built-in function or method of frozen answers: several arguments -/
def wOpN (op : List PyData → Option PyData) (fs : WA) : WE := fun env st Q => fs env st fun rs st1 => optK (rds st1 rs) fun xs => optK (op xs) fun c => Q (.d c) st1
def wNil : WA := fun _ st Q => Q [] st
def wCons (fa : WE) (fr : WA) : WA := fun env st Q => fa env st fun r st1 => fr env st1 fun rs st2 => Q (r :: rs) st2
def wTup (fs : WA) : WE := fun env st Q => fs env st fun rs st1 => optK (DL.frs rs) fun xs => xs.length ≤ lim ∧ Q (.d (.tuple xs)) st1
def wLst (fs : WA) : WE := fun env st Q => fs env st fun rs st1 => optK (DL.frs rs) fun xs => xs.length ≤ lim ∧ Q (.d (.list xs)) st1
/-- a list that will be changed -/
def wLstM (fs : WA) : WE := fun env st Q => fs env st fun rs st1 => optK (DL.frs rs) fun xs => xs.length ≤ lim ∧ Q (.loc st1.length) (st1 ++ [.lst xs])
def wDctM : WE := fun _ st Q => Q (.loc st.length) (st ++ [.dct []])
/-- a changeable object is not changed any more -/
def frzC : Cell → Cell
  | .lst xs => .frz (.list xs)
  | .dct kvs => .frz (.dict kvs)
  | c => c
def wFrz (fa : WE) : WE := fun env st Q => fa env st fun r st1 => match r with
  | .loc n => optK (rd st1 (.loc n)) fun x => Q (.d x) (st1.modify n frzC)
  | v => Q v st1
def wIfE (t : WT) (fa fb : WE) : WE := fun env st Q => t env st fun b st1 => if b = true then fa env st1 Q else fb env st1 Q
def wCall (sp : SpD) (E : EK) (fs : WA) : WE := fun env st Q => fs env st fun rs st1 => sp rs st1 Q E
def asB : PyData → Option Bool
  | .bool b => some b
  | _ => none
def oNot : B1 := fun x => (asB x).map fun b => .bool (!b)
def wAndV (fa fb : WE) : WE := fun env st Q => fa env st fun r st1 => optK (rd st1 r) fun x => optK (asB x) fun b => if b = true then fb env st1 Q else Q (.d (.bool false)) st1
def wOrV (fa fb : WE) : WE := fun env st Q => fa env st fun r st1 => optK (rd st1 r) fun x => optK (asB x) fun b => if b = true then Q (.d (.bool true)) st1 else fb env st1 Q
/-- a op b op' c -/
def wChain (op op' : B2) (fa fb fc : WE) : WE := fun env st Q => fa env st fun r1 st1 => fb env st1 fun r2 st2 => optK (rd st2 r1) fun a => optK (rd st2 r2) fun b => optK (op a b) fun x => optK (asB x) fun k =>
  if k = true then fc env st2 fun r3 st3 => optK (rd st3 r2) fun b' => optK (rd st3 r3) fun c => optK (op' b' c) fun y => Q (.d y) st3 else Q (.d (.bool false)) st2
/-- the script may be looked at, too -/
def rdS (st : Store) : DV → Option PyData
  | .scr ns => some (.list (ns.map .int))
  | v => rd st v
def wBinS (op : B2) (fa fb : WE) : WE := fun env st Q => fa env st fun r1 st1 => fb env st1 fun r2 st2 =>
  optK (rdS st2 r1) fun a => optK (rd st2 r2) fun b => optK (op a b) fun c => Q (.d c) st2
def wUnS (op : B1) (fa : WE) : WE := fun env st Q => fa env st fun r1 st1 => optK (rdS st1 r1) fun a => optK (op a) fun c => Q (.d c) st1
/-- x[lo:hi] -/
abbrev WO := Env → Store → (Option Int → Store → Prop) → Prop
def wON : WO := fun _ st Q => Q none st
def asI : PyData → Option Int
  | .int i => some i
  | _ => none
def wOS (fa : WE) : WO := fun env st Q => fa env st fun r st1 => optK (rd st1 r) fun x => optK (asI x) fun i => Q (some i) st1
def wSl (op : PyData → Option Int → Option Int → Option PyData) (fa : WE) (lo hi : WO) : WE := fun env st Q => fa env st fun r st1 => lo env st1 fun l st2 => hi env st2 fun h st3 => optK (rdS st3 r) fun a => optK (op a l h) fun c => Q (.d c) st3
/-- o.m(..) of a frozen answer -/
def wMt (op : PyData → List PyData → Option PyData) (fa : WE) (fs : WA) : WE := fun env st Q => fa env st fun r st1 => fs env st1 fun rs st2 => optK (rd st2 r) fun a => optK (rds st2 rs) fun xs => optK (op a xs) fun c => Q (.d c) st2
/-- o.m(..) that changes o, a list -/
def isL : PyData → Bool
  | .list _ => true
  | _ => false
def wMtM (op : Cell → List PyData → Option (PyData × Cell)) (fa : WE) (fs : WA) : WE := fun env st Q => fa env st fun r st1 => optK (rd st1 r) fun a0 => isL a0 = true ∧ fs env st1 fun rs st2 => match r with
  | .loc n => optK st2[n]? fun c => optK (DL.frs rs) fun xs => optK (op c xs) fun p => Q (.d p.1) (st2.set n p.2)
  | _ => False
/-! ### tests -/
def wT (fa : WE) : WT := fun env st Q => fa env st fun r st1 => optK (rd st1 r) fun x => optK (asB x) fun b => Q b st1
def truthOf : PyData → Option Bool
  | .none => some false
  | .bool b => some b
  | .int i => some (i != 0)
  | .str x => some (x.length != 0)
  | .list xs => some (!xs.isEmpty)
  | .tuple xs => some (!xs.isEmpty)
  | .dict xs => some (!xs.isEmpty)
def wTr (fa : WE) : WT := fun env st Q => fa env st fun r st1 => optK (rd st1 r) fun x => optK (truthOf x) fun b => Q b st1
def wNot (t : WT) : WT := fun env st Q => t env st fun b st1 => Q (!b) st1
def wAnd (t u : WT) : WT := fun env st Q => t env st fun b st1 => if b = true then u env st1 Q else Q false st1
def wOr (t u : WT) : WT := fun env st Q => t env st fun b st1 => if b = true then Q true st1 else u env st1 Q
def wYes : WT := fun _ st Q => Q true st
/-! ### targets -/
def gN (i : Nat) : WG := fun v env st Q => Q (env.set i (some v)) st
abbrev WGs := List PyData → Env → Store → (Env → Store → Prop) → Prop
def gNil : WGs := fun xs env st Q => match xs with
  | [] => Q env st
  | _ => False
def gCons (g : WG) (gs : WGs) : WGs := fun xs env st Q => match xs with
  | x :: r => g (.d x) env st fun env1 st1 => gs r env1 st1 Q
  | [] => False
/-- a tuple (or list) of frozen things taken apart -/
def gTup (gs : WGs) : WG := fun v env st Q => optK (rd st v) fun x => match x with
  | .tuple xs => gs xs env st Q
  | _ => False
/-- .. of m parts -/
def gTupN (m : Nat) (gs : WGs) : WG := fun v env st Q => optK (rd st v) fun x => match x with
  | .tuple xs => xs.length = m ∧ gs xs env st Q
  | _ => False
/-- the cell at n becomes c -/
def putC (st : Store) (n : Nat) (c : Cell) : Store := st.set n c
/-- keys alike (ints and texts) -/
def keyEq : PyData → PyData → Bool
  | .int i, .int j => i == j
  | .str x, .str y => x == y
  | _, _ => false
def isKey : PyData → Bool
  | .int _ => true
  | .str _ => true
  | _ => false
def lookK (kvs : List (PyData × PyData)) (k : PyData) : Option PyData := match kvs with
  | [] => none
  | p :: r => if keyEq p.1 k = true then some p.2 else lookK r k
def putK (kvs : List (PyData × PyData)) (k v : PyData) : List (PyData × PyData) :=
  if (kvs.any fun p => keyEq p.1 k) = true then kvs.map (fun p => if keyEq p.1 k = true then (p.1, v) else p) else kvs ++ [(k, v)]
/-- o[i] = v -/
def setAt (st : Store) (o : DV) (i v : PyData) : Option Store := match o with
  | .loc n => match st[n]?, i with
    | some (.lst xs), .int j => (L2.ixN xs.length j).map fun k => st.set n (.lst (xs.set k v))
    | some (.dct kvs), k => if isKey k = true ∧ kvs.length < lim then some (st.set n (.dct (putK kvs k v))) else none
    | _, _ => none
  | _ => none
def gSub (fo fi : WE) : WG := fun v env st Q => fo env st fun o st1 => fi env st1 fun i st2 => match v with
  | .d x => optK (rd st2 i) fun k => optK (setAt st2 o k x) fun st3 => Q env st3
  | _ => False
/-! ### statements -/
def wSkip : WS := fun D env st => D.nx env st
def wSeq (t u : WS) : WS := fun D env st => t { D with nx := u D } env st
def wExpr (fa : WE) : WS := fun D env st => fa env st fun _ st1 => D.nx env st1
def wRet (fa : WE) : WS := fun D env st => fa env st D.rt
def wRetN : WS := fun D _ st => D.rt (.d .none) st
def wAsg (fa : WE) (g : WG) : WS := fun D env st => fa env st fun r st1 => g r env st1 D.nx
def wIf (t : WT) (a b : WS) : WS := fun D env st => t env st fun c st1 => if c = true then a D env st1 else b D env st1
def wBrk : WS := fun D env st => D.bk env st
def wCnt : WS := fun D env st => D.ct env st
def wNever : WS := fun _ _ _ => False
/-- name, name = x, y -/
def wPar (i j : Nat) (fa fb : WE) : WS := fun D env st => fa env st fun r st1 => fb env st1 fun q st2 => D.nx ((env.set i (some r)).set j (some q)) st2
/-- for target in items: body -/
def forGo (g : WG) (body : WS) (D : Fin) : List DV → Env → Store → Prop
  | [], env, st => D.nx env st
  | x :: xs, env, st => g x env st fun env1 st1 => body { D with nx := forGo g body D xs, ct := forGo g body D xs, bk := D.nx } env1 st1
/-- what is walked: the items, told once -/
abbrev WI := Env → Store → (List DV → Store → Prop) → Prop
def wFor (wi : WI) (g : WG) (body : WS) : WS := fun D env st => wi env st fun xs st1 => forGo g body D xs env st1
def wWhile (t : WT) (body : WS) : WS := fun D env st => ∃ W : Nat → Env → Store → Prop, (∃ m, W m env st) ∧ ∀ m env st, W m env st →
  t env st fun b st1 => if b = true then body { D with nx := fun e s => ∃ m', m' < m ∧ W m' e s, ct := fun e s => ∃ m', m' < m ∧ W m' e s, bk := D.nx } env st1 else D.nx env st1
/-- items of a frozen (or owned) list or tuple -/
def itemsOf : PyData → Option (List PyData)
  | .list xs => some xs
  | .tuple xs => some xs
  | _ => none
def iSeq (fa : WE) : WI := fun env st Q => fa env st fun r st1 => match r with
  | .d x => optK (itemsOf x) fun xs => Q (xs.map DV.d) st1
  | _ => False
/-! ### comprehensions -/
def wipeE (env : Env) : List Nat → Env
  | [] => env
  | i :: r => (wipeE env r).set i none
def lcGo (g : WG) (tt : WT) (te : WE) (env : Env) (Q : List PyData → Store → Prop) : List DV → List PyData → Store → Prop
  | [], acc, st => Q acc st
  | x :: xs, acc, st => g x env st fun env1 st1 => tt env1 st1 fun b st2 => if b = true then te env1 st2 fun r st3 => (match r with
      | .d y => lcGo g tt te env Q xs (acc ++ [y]) st3
      | _ => False) else lcGo g tt te env Q xs acc st2
def wLc (wi : WI) (g : WG) (tt : WT) (te : WE) (own : List Nat) : WE := fun env st Q => wi env st fun xs st1 => lcGo g tt te (wipeE env own) (fun ys st2 => Q (.d (.list ys)) st2) xs [] st1
/-! ### defs -/
def startE (n : Nat) (args : List DV) : Env := args.map some ++ List.replicate (n - args.length) none
def retK (n0 : Nat) (Q : RK) : RK := fun r st => match r with
  | .loc m => if m < n0 then Q (.loc m) (st.take n0) else optK st[m]? fun c => Q (.loc n0) (st.take n0 ++ [c])
  | v => Q v (st.take n0)
def finOf (n0 : Nat) (Q : RK) : Fin := ⟨fun _ st => retK n0 Q (.d .none) st, retK n0 Q, fun _ _ => False, fun _ _ => False⟩
/-- a body (n slots) keeps a promise -/
def Keeps (n : Nat) (sp : SpD) (body : EK → WS) : Prop := ∀ args st Q E, sp args st Q E → body E (finOf st.length Q) (startE n args) st
end DL
/-! text DLSound -/
set_option maxHeartbeats 4000000
/-! What the data of DL is in the heap; the rules of DL's words over the hand layer. -/
namespace DL
open PySem PySem.Spec PyProof.Rows L2
def keyD : Key → PyData
  | .inl i => .int i
  | .inr x => .str x
/-- a plain tuple: no dict of its own -/
def PlT (K : PySem.W.Frag) (F : Hp) (a : Addr) : Prop := ∃ o : Obj, o.dict = none ∧ ((∃ u, F a = some (.frz o (.tup u))) ∨ K.lookup a = some o)
structure SqB (K : PySem.W.Frag) (F : Hp) (a : Addr) (xs : List V) (ds : List PyData) : Prop where
  sq : SqT K F a xs
  pt : bookish ds = true → PlT K F a
mutual
inductive Rp (K : PySem.W.Frag) (F : Hp) : V → PyData → Prop
  | non : Rp K F .non .none
  | bl (b : Bool) : Rp K F (.bl b) (.bool b)
  | int (i : Int) : Rp K F (.int i) (.int i)
  | str (x : Str) : Rp K F (.str x) (.str x)
  | lst {a : Addr} {xs : List V} {ds : List PyData} : F a = some (.lst xs) → RpAll K F xs ds → Rp K F (.ref a) (.list ds)
  | tup {a : Addr} {xs : List V} {ds : List PyData} : SqB K F a xs ds → RpAll K F xs ds → Rp K F (.ref a) (.tuple ds)
  | dct {a : Addr} {kvs : List (Key × V)} {ds : List (PyData × PyData)} : F a = some (.dK kvs) → RpKv K F kvs ds → Rp K F (.ref a) (.dict ds)
inductive RpAll (K : PySem.W.Frag) (F : Hp) : List V → List PyData → Prop
  | nil : RpAll K F [] []
  | cons {v : V} {vs : List V} {d : PyData} {ds : List PyData} : Rp K F v d → RpAll K F vs ds → RpAll K F (v :: vs) (d :: ds)
inductive RpKv (K : PySem.W.Frag) (F : Hp) : List (Key × V) → List (PyData × PyData) → Prop
  | nil : RpKv K F [] []
  | cons {k : Key} {v : V} {r : List (Key × V)} {e : PyData} {rs : List (PyData × PyData)} : Rp K F v e → RpKv K F r rs → RpKv K F ((k, v) :: r) ((keyD k, e) :: rs)
end
abbrev LeH (F F' : Hp) : Prop := ∀ a u, F a = some u → F' a = some u
theorem LeH.refl (F : Hp) : LeH F F := fun _ _ h => h
theorem LeH.trans {F F1 F2 : Hp} (a : LeH F F1) (b : LeH F1 F2) : LeH F F2 := fun x u h => b x u (a x u h)
theorem sqL_keep {K : PySem.W.Frag} {H H' : Hp} (k : LeH H H') {a : Addr} {xs : List V} (h : SqL K H a xs) : SqL K H' a xs := by
  rcases h with (h | ⟨o, h⟩) | h
  · exact .inl (.inl (k _ _ h))
  · exact .inl (.inr ⟨o, k _ _ h⟩)
  · exact .inr h
theorem sqT_le {K : PySem.W.Frag} {F F' : Hp} (le : LeH F F') {a : Addr} {xs : List V} (h : SqT K F a xs) : SqT K F' a xs := by
  rcases h with (h | ⟨o, h⟩) | h
  · exact .inl (.inl (le _ _ h))
  · exact .inl (.inr ⟨o, le _ _ h⟩)
  · exact .inr h
theorem PlT.le {K : PySem.W.Frag} {F F' : Hp} {a : Addr} (le : LeH F F') (h : PlT K F a) : PlT K F' a :=
  let ⟨o, d, h⟩ := h
  ⟨o, d, h.elim (fun ⟨u, z⟩ => .inl ⟨u, le _ _ z⟩) .inr⟩
theorem sqB_le {K : PySem.W.Frag} {F F' : Hp} (le : LeH F F') {a : Addr} {xs : List V} {ds : List PyData} (h : SqB K F a xs ds) : SqB K F' a xs ds := ⟨sqT_le le h.sq, fun z => (h.pt z).le le⟩
theorem SqB.no {K : PySem.W.Frag} {F : Hp} {a : Addr} {xs : List V} {ds : List PyData} (h : SqT K F a xs) (b : bookish ds = false) : SqB K F a xs ds := ⟨h, fun z => by rw [b] at z; cases z⟩
mutual
theorem Rp.le {K : PySem.W.Frag} {F F' : Hp} (le : LeH F F') : ∀ (d : PyData) (v : V), Rp K F v d → Rp K F' v d
  | .none, _, h => by cases h; exact .non
  | .bool _, _, h => by cases h; exact .bl _
  | .int _, _, h => by cases h; exact .int _
  | .str _, _, h => by cases h; exact .str _
  | .list ds, _, h => by
    cases h with
    | lst e r => exact .lst (le _ _ e) (RpAll.le le ds _ r)
  | .tuple ds, _, h => by
    cases h with
    | tup e r => exact .tup (sqB_le le e) (RpAll.le le ds _ r)
  | .dict ds, _, h => by
    cases h with
    | dct e r => exact .dct (le _ _ e) (RpKv.le le ds _ r)
theorem RpAll.le {K : PySem.W.Frag} {F F' : Hp} (le : LeH F F') : ∀ (ds : List PyData) (vs : List V), RpAll K F vs ds → RpAll K F' vs ds
  | [], _, h => by cases h; exact .nil
  | d :: ds, _, h => by
    cases h with
    | cons r rs => exact .cons (Rp.le le d _ r) (RpAll.le le ds _ rs)
theorem RpKv.le {K : PySem.W.Frag} {F F' : Hp} (le : LeH F F') : ∀ (ds : List (PyData × PyData)) (vs : List (Key × V)), RpKv K F vs ds → RpKv K F' vs ds
  | [], _, h => by cases h; exact .nil
  | (_, e) :: ds, _, h => by
    cases h with
    | cons r rs => exact .cons (Rp.le le e _ r) (RpKv.le le ds _ rs)
end
theorem RpAll.length {K : PySem.W.Frag} {F : Hp} : ∀ {ds : List PyData} {vs : List V}, RpAll K F vs ds → vs.length = ds.length
  | [], _, h => by cases h; rfl
  | _ :: _, _, h => by
    cases h with
    | cons r rs => simp [RpAll.length rs]
theorem RpKv.length {K : PySem.W.Frag} {F : Hp} : ∀ {ds : List (PyData × PyData)} {vs : List (Key × V)}, RpKv K F vs ds → vs.length = ds.length
  | [], _, h => by cases h; rfl
  | _ :: _, _, h => by
    cases h with
    | cons r rs => simp [RpKv.length rs]
theorem RpAll.get {K : PySem.W.Frag} {F : Hp} : ∀ {ds : List PyData} {vs : List V} {i : Nat} {x : PyData}, RpAll K F vs ds → ds[i]? = some x → ∃ v, vs[i]? = some v ∧ Rp K F v x
  | [], _, _, _, _, e => by simp at e
  | d :: ds, _, 0, x, h, e => by
    cases h with
    | cons r rs => simp at e; subst e; exact ⟨_, rfl, r⟩
  | d :: ds, _, i + 1, x, h, e => by
    cases h with
    | cons r rs =>
      obtain ⟨v, h1, h2⟩ := RpAll.get (i := i) rs (by simpa using e)
      exact ⟨v, by simpa using h1, h2⟩
theorem RpAll.append {K : PySem.W.Frag} {F : Hp} : ∀ {ds es : List PyData} {vs us : List V}, RpAll K F vs ds → RpAll K F us es → RpAll K F (vs ++ us) (ds ++ es)
  | [], _, _, _, h, g => by cases h; exact g
  | _ :: _, _, _, _, h, g => by
    cases h with
    | cons r rs => exact .cons r (RpAll.append rs g)
theorem RpAll.take {K : PySem.W.Frag} {F : Hp} : ∀ {ds : List PyData} {vs : List V} (n : Nat), RpAll K F vs ds → RpAll K F (vs.take n) (ds.take n)
  | _, _, 0, _ => .nil
  | [], _, _ + 1, h => by cases h; exact .nil
  | _ :: _, _, n + 1, h => by
    cases h with
    | cons r rs => exact .cons r (RpAll.take n rs)
theorem RpAll.drop {K : PySem.W.Frag} {F : Hp} : ∀ {ds : List PyData} {vs : List V} (n : Nat), RpAll K F vs ds → RpAll K F (vs.drop n) (ds.drop n)
  | _, _, 0, h => h
  | [], _, _ + 1, h => by cases h; exact .nil
  | _ :: _, _, n + 1, h => by
    cases h with
    | cons r rs => exact RpAll.drop n rs
theorem RpAll.set {K : PySem.W.Frag} {F : Hp} {v : V} {d : PyData} (q : Rp K F v d) : ∀ {ds : List PyData} {vs : List V} (n : Nat), RpAll K F vs ds → RpAll K F (vs.set n v) (ds.set n d)
  | [], _, _, h => by cases h; exact .nil
  | _ :: _, _, 0, h => by
    cases h with
    | cons r rs => exact .cons q rs
  | _ :: _, _, n + 1, h => by
    cases h with
    | cons r rs => exact .cons r (RpAll.set q n rs)
/-! ### the heap's state -/
/-- what is frozen stands (a dict may be walked just now) -/
def FLe (F H : Hp) : Prop := ∀ a u, F a = some u → H a = some u ∨ ∃ kvs o, u = .dK kvs ∧ H a = some (.frz o u)
def DVR (K : PySem.W.Frag) (mg : Str → Option Value) (F : Hp) (ad : List Addr) (v : V) : DV → Prop
  | .d x => Rp K F v x
  | .loc n => ∃ a, v = .ref a ∧ ad[n]? = some a
  | .fn f => ∃ a, v = .ref a ∧ mg f = some (.ref a)
  | .scr ns => ∃ a, v = .ref a ∧ SqL K F a (ns.map V.int)
def CellR (K : PySem.W.Frag) (mg : Str → Option Value) (F H : Hp) (ad : List Addr) (a : Addr) : Cell → Prop
  | .lst xs => F a = none ∧ ∃ vs, H a = some (.lst vs) ∧ RpAll K F vs xs
  | .dct kvs => F a = none ∧ ∃ vs, H a = some (.dK vs) ∧ RpKv K F vs kvs
  | .frz x => Rp K F (.ref a) x
  | .ins _ _ => True
structure Rel (K : PySem.W.Frag) (mg : Str → Option Value) (F H : Hp) (ad : List Addr) (st : Store) : Prop where
  fl : FLe F H
  len : ad.length = st.length
  nd : ad.Nodup
  live : ∀ a ∈ ad, H a ≠ none
  cell : ∀ (i : Nat) (a : Addr) (c : Cell), ad[i]? = some a → st[i]? = some c → CellR K mg F H ad a c
structure Ext (F H : Hp) (ad : List Addr) (F' H' : Hp) (ad' : List Addr) : Prop where
  le : LeH F F'
  new : ∀ a, F' a ≠ none → F a ≠ none ∨ H a = none ∨ a ∈ ad
  app : ∃ more, ad' = ad ++ more ∧ ∀ a ∈ more, H a = none
  keep : ∀ a o, H a = some o → a ∉ ad ∨ F a ≠ none → H' a = some o ∨ (F a = some o ∧ ∃ kvs ob, o = .dK kvs ∧ H' a = some (.frz ob o))
  there : ∀ a, H' a = none → H a = none
def EnvR (K : PySem.W.Frag) (mg : Str → Option Value) (F : Hp) (ad : List Addr) (σ : L2.St) (env : Env) : Prop :=
  env.length = σ.length ∧ ∀ (i : Nat) (dv : DV), env[i]? = some (some dv) → ∃ v, σ[i]? = some (some v) ∧ DVR K mg F ad v dv
structure Now (K : PySem.W.Frag) (mg : Str → Option Value) (σ : L2.St) (F H : Hp) (ad : List Addr) (env : Env) (st : Store) : Prop where
  rel : Rel K mg F H ad st
  env : EnvR K mg F ad σ env
section
variable {K : PySem.W.Frag} {mg : Str → Option Value} {F H F' H' F1 H1 : Hp} {ad ad' ad1 : List Addr} {st st' : Store} {σ : L2.St} {env : Env}
theorem Ext.refl (F H : Hp) (ad : List Addr) : Ext F H ad F H ad := ⟨LeH.refl F, fun _ h => .inl h, ⟨[], by simp, fun _ h => by simp at h⟩, fun _ _ h _ => .inl h, fun _ h => h⟩
theorem Ext.trans (x : Ext F H ad F1 H1 ad1) (y : Ext F1 H1 ad1 F' H' ad') : Ext F H ad F' H' ad' := by
  obtain ⟨m1, e1, f1⟩ := x.app
  obtain ⟨m2, e2, f2⟩ := y.app
  have nin : ∀ a, H a ≠ none → a ∉ ad → a ∉ ad1 := fun a hn ha => by
    rw [e1]; intro hm
    rcases List.mem_append.mp hm with h | h
    · exact ha h
    · exact hn (f1 a h)
  refine ⟨x.le.trans y.le, fun a h => ?_, ⟨m1 ++ m2, by rw [e2, e1, List.append_assoc], fun a h => ?_⟩, fun a o h ha => ?_, fun a h => x.there a (y.there a h)⟩
  · by_cases hH : H a = none
    · exact .inr (.inl hH)
    · by_cases ha : a ∈ ad
      · exact .inr (.inr ha)
      · rcases y.new a h with z | z | z
        · rcases x.new a z with w | w | w
          · exact .inl w
          · exact .inr (.inl w)
          · exact .inr (.inr w)
        · exact absurd (x.there a z) hH
        · exact absurd z (nin a hH ha)
  · rcases List.mem_append.mp h with h | h
    · exact f1 a h
    · exact x.there a (f2 a h)
  · have nn : a ∉ ad1 ∨ F1 a ≠ none := by
      rcases ha with ha | ha
      · exact .inl (nin a (by rw [h]; simp) ha)
      · obtain ⟨o', ho'⟩ := Option.ne_none_iff_exists'.mp ha
        exact .inr (by rw [x.le a o' ho']; simp)
    rcases x.keep a o h ha with h1 | ⟨fa, kvs, ob, ek, h1⟩
    · rcases y.keep a o h1 nn with h2 | ⟨fa, kvs, ob, ek, h2⟩
      · exact .inl h2
      · refine .inr ⟨?_, kvs, ob, ek, h2⟩
        have z : F a ≠ none := by
          rcases x.new a (by rw [fa]; simp) with z | z | z
          · exact z
          · rw [h] at z; cases z
          · rcases ha with ha | ha
            · exact absurd z ha
            · exact ha
        obtain ⟨o', ho'⟩ := Option.ne_none_iff_exists'.mp z
        rw [x.le a o' ho'] at fa
        cases fa
        exact ho'
    · rcases y.keep a _ h1 nn with h2 | ⟨_, _, _, z, _⟩
      · exact .inr ⟨fa, kvs, ob, ek, h2⟩
      · cases z
theorem Ext.adGet (x : Ext F H ad F' H' ad') {n : Nat} {a : Addr} (h : ad[n]? = some a) : ad'[n]? = some a := by
  obtain ⟨m, e, _⟩ := x.app
  rw [e, List.getElem?_append_left (List.getElem?_eq_some_iff.mp h).1]
  exact h
theorem DVR.ext (x : Ext F H ad F' H' ad') {v : V} {r : DV} (h : DVR K mg F ad v r) : DVR K mg F' ad' v r := by
  cases r with
  | d y => exact Rp.le x.le y v h
  | loc n => obtain ⟨a, e, h⟩ := h; exact ⟨a, e, x.adGet h⟩
  | fn f => exact h
  | scr ns => obtain ⟨a, e, h⟩ := h; exact ⟨a, e, sqL_keep x.le h⟩
theorem EnvR.ext (x : Ext F H ad F' H' ad') (h : EnvR K mg F ad σ env) : EnvR K mg F' ad' σ env :=
  ⟨h.1, fun i dv e => let ⟨v, e1, r⟩ := h.2 i dv e; ⟨v, e1, r.ext x⟩⟩
theorem EnvR.set {i : Nat} {v : V} {r : DV} (h : EnvR K mg F ad σ env) (q : DVR K mg F ad v r) : EnvR K mg F ad (σ.set i (some v)) (env.set i (some r)) := by
  refine ⟨by simp [h.1], fun j dv e => ?_⟩
  by_cases hj : i = j
  · subst hj
    have hl : i < env.length := by
      have := (List.getElem?_eq_some_iff.mp e).1
      simpa using this
    rw [List.getElem?_set_self hl] at e
    cases e
    exact ⟨v, List.getElem?_set_self (by rw [← h.1]; exact hl), q⟩
  · rw [List.getElem?_set_ne hj] at e
    rw [List.getElem?_set_ne hj]
    exact h.2 j dv e
theorem EnvR.unset {i : Nat} (h : EnvR K mg F ad σ env) : EnvR K mg F ad (σ.set i none) (env.set i none) := by
  refine ⟨by simp [h.1], fun j dv e => ?_⟩
  by_cases hj : i = j
  · subst hj
    have hl : i < env.length := by
      have := (List.getElem?_eq_some_iff.mp e).1
      simpa using this
    rw [List.getElem?_set_self hl] at e
    cases e
  · rw [List.getElem?_set_ne hj] at e
    rw [List.getElem?_set_ne hj]
    exact h.2 j dv e
theorem EnvR.wipe (h : EnvR K mg F ad σ env) : ∀ vs : List Nat, EnvR K mg F ad (L2.wipe σ vs) (wipeE env vs)
  | [] => h
  | v :: vs => (EnvR.wipe h vs).unset
/-! ### what is seen just now -/
inductive Vw (K : PySem.W.Frag) (F H : Hp) : V → PyData → Prop
  | non : Vw K F H .non .none
  | bl (b : Bool) : Vw K F H (.bl b) (.bool b)
  | int (i : Int) : Vw K F H (.int i) (.int i)
  | str (x : Str) : Vw K F H (.str x) (.str x)
  | lst {a : Addr} {xs : List V} {ds : List PyData} : H a = some (.lst xs) → RpAll K F xs ds → Vw K F H (.ref a) (.list ds)
  | tup {a : Addr} {xs : List V} {ds : List PyData} : SqB K F a xs ds → RpAll K F xs ds → Vw K F H (.ref a) (.tuple ds)
  | dct {a : Addr} {kvs : List (Key × V)} {ds : List (PyData × PyData)} : Rd H a (.dK kvs) → RpKv K F kvs ds → Vw K F H (.ref a) (.dict ds)
theorem FLe.seqT (fl : FLe F H) {a : Addr} {xs : List V} (h : SqT K F a xs) : SqT K H a xs := by
  rcases h with (h | ⟨o, h⟩) | h
  · rcases fl _ _ h with z | ⟨_, _, z, _⟩
    · exact .inl (.inl z)
    · cases z
  · rcases fl _ _ h with z | ⟨_, _, z, _⟩
    · exact .inl (.inr ⟨o, z⟩)
    · cases z
  · exact .inr h
theorem Rp.vw (fl : FLe F H) {v : V} {d : PyData} (h : Rp K F v d) : Vw K F H v d := by
  cases h with
  | non => exact .non
  | bl b => exact .bl b
  | int i => exact .int i
  | str x => exact .str x
  | lst e r =>
    rcases fl _ _ e with z | ⟨_, _, z, _⟩
    · exact .lst z r
    · cases z
  | tup e r => exact .tup e r
  | dct e r =>
    rcases fl _ _ e with z | ⟨_, o, z, q⟩
    · exact .dct (.inl z) r
    · exact .dct (.inr ⟨o, q⟩) r
theorem Rel.vw (R : Rel K mg F H ad st) {v : V} {r : DV} {d : PyData} (h : DVR K mg F ad v r) (e : rd st r = some d) : Vw K F H v d := by
  cases r with
  | d x => cases e; exact Rp.vw R.fl h
  | fn f => cases e
  | scr ns => cases e
  | loc n =>
    obtain ⟨a, rfl, ha⟩ := h
    cases hc : st[n]? with
    | none => simp [rd, hc] at e
    | some c =>
      have q := R.cell n a c ha hc
      cases c with
      | lst xs =>
        simp [rd, hc] at e; subst e
        obtain ⟨_, vs, h1, h2⟩ := q
        exact .lst h1 h2
      | dct kvs =>
        simp [rd, hc] at e; subst e
        obtain ⟨_, vs, h1, h2⟩ := q
        exact .dct (.inl h1) h2
      | frz x =>
        simp [rd, hc] at e; subst e
        exact Rp.vw R.fl q
      | ins c fs => simp [rd, hc] at e
end
end DL
/-! text DLExpr -/
namespace DL
open PySem PySem.Spec PyProof.Rows L2
/-! ### readings -/
def tE (K : PySem.W.Frag) (mg : Str → Option Value) (f : WE) : TE := fun σ H Q => ∃ F ad env st P, Now K mg σ F H ad env st ∧ f env st P ∧
  ∀ r st' v F' ad' H', P r st' → Ext F H ad F' H' ad' → Now K mg σ F' H' ad' env st' → DVR K mg F' ad' v r → Q v H'
def tT (K : PySem.W.Frag) (mg : Str → Option Value) (f : WT) : TT := fun σ H Q => ∃ F ad env st P, Now K mg σ F H ad env st ∧ f env st P ∧
  ∀ b st' F' ad' H', P b st' → Ext F H ad F' H' ad' → Now K mg σ F' H' ad' env st' → Q b H'
inductive DVRs (K : PySem.W.Frag) (mg : Str → Option Value) (F : Hp) (ad : List Addr) : List V → List DV → Prop
  | nil : DVRs K mg F ad [] []
  | cons {v : V} {vs : List V} {r : DV} {rs : List DV} : DVR K mg F ad v r → DVRs K mg F ad vs rs → DVRs K mg F ad (v :: vs) (r :: rs)
def tA (K : PySem.W.Frag) (mg : Str → Option Value) (f : WA) : TA := fun σ H Q => ∃ F ad env st P, Now K mg σ F H ad env st ∧ f env st P ∧
  ∀ rs st' vs F' ad' H', P rs st' → Ext F H ad F' H' ad' → Now K mg σ F' H' ad' env st' → DVRs K mg F' ad' vs rs → Q vs H'
def tS (K : PySem.W.Frag) (mg : Str → Option Value) (w : WS) : TS := fun D σ H => ∃ F ad env st P, Now K mg σ F H ad env st ∧ w P env st ∧
  (∀ env' st' σ' F' ad' H', P.nx env' st' → Ext F H ad F' H' ad' → Now K mg σ' F' H' ad' env' st' → D.nx σ' H') ∧
  (∀ r st' v F' ad' H', P.rt r st' → Ext F H ad F' H' ad' → Rel K mg F' H' ad' st' → DVR K mg F' ad' v r → D.rt v H') ∧
  (∀ env' st' σ' F' ad' H', P.bk env' st' → Ext F H ad F' H' ad' → Now K mg σ' F' H' ad' env' st' → D.bk σ' H') ∧
  (∀ env' st' σ' F' ad' H', P.ct env' st' → Ext F H ad F' H' ad' → Now K mg σ' F' H' ad' env' st' → D.ct σ' H')
/-- the slots in W alone may be other ones -/
def Only (W : List Nat) (σ σ' : L2.St) : Prop := σ'.length = σ.length ∧ ∀ i : Nat, i ∉ W → σ'[i]? = σ[i]?
def tG (K : PySem.W.Frag) (mg : Str → Option Value) (W : List Nat) (g : WG) : TG := fun v σ H Q => ∃ F ad env st r P, Now K mg σ F H ad env st ∧ DVR K mg F ad v r ∧ g r env st P ∧
  ∀ env' st' σ' F' ad' H', P env' st' → Ext F H ad F' H' ad' → Now K mg σ' F' H' ad' env' st' → Only W σ σ' → Q σ' H'
section
variable {X : Cx} {K : PySem.W.Frag} {mg : Str → Option Value} {F H F' H' : Hp} {ad ad' : List Addr} {env : Env} {st : Store} {σ : L2.St}
theorem pe_weak {e : Expr} {t t' : TE} (h : PE X e t) (w : ∀ σ H Q, t' σ H Q → t σ H Q) : PE X e t' := ⟨fun pins s σ H Q I q => h.run pins s σ H Q I (w σ H Q q)⟩
theorem pt_weak {e : Expr} {t t' : TT} (h : PT X e t) (w : ∀ σ H Q, t' σ H Q → t σ H Q) : PT X e t' := ⟨fun pins s σ H Q I q => h.run pins s σ H Q I (w σ H Q q)⟩
theorem pa_weak {e : List Expr} {t t' : TA} (h : PA X e t) (w : ∀ σ H Q, t' σ H Q → t σ H Q) : PA X e t' := ⟨fun pos pins s σ H Q I q => h.run pos pins s σ H Q I (w σ H Q q)⟩
theorem ps_weak {e : Stmt} {t t' : TS} (h : PS X e t) (w : ∀ D σ H, t' D σ H → t D σ H) : PS X e t' := ⟨fun pins s σ H D I q => h.run pins s σ H D I (w D σ H q)⟩
theorem pss_weak {e : List Stmt} {t t' : TS} (h : PSs X e t) (w : ∀ D σ H, t' D σ H → t D σ H) : PSs X e t' := ⟨fun pins s σ H D I q => h.run pins s σ H D I (w D σ H q)⟩
theorem pg_weak {e : Expr} {t t' : TG} (h : PG X e t) (w : ∀ v σ H Q, t' v σ H Q → t v σ H Q) : PG X e t' := ⟨fun pins s σ H v u Q I r q => h.run pins s σ H v u Q I r (w v σ H Q q)⟩
theorem pw_weak {e : Expr} {t t' : TT} (h : PW X e t) (w : ∀ σ H Q, t' σ H Q → t σ H Q) : PW X e t' := ⟨fun wh pins s σ H Q I q => h.run wh pins s σ H Q I (w σ H Q q)⟩
/-- one expression's reading, gone on from -/
theorem tE_go {f : WE} {Q : VK} {P : RK} (n : Now K mg σ F H ad env st) (h : f env st P) (k : ∀ r st' v F' ad' H', P r st' → Ext F H ad F' H' ad' → Now K mg σ F' H' ad' env st' → DVR K mg F' ad' v r → Q v H') : tE K mg f σ H Q :=
  ⟨F, ad, env, st, P, n, h, k⟩
theorem tT_go {f : WT} {Q : Bool → Hp → Prop} {P : Bool → Store → Prop} (n : Now K mg σ F H ad env st) (h : f env st P) (k : ∀ b st' F' ad' H', P b st' → Ext F H ad F' H' ad' → Now K mg σ F' H' ad' env st' → Q b H') : tT K mg f σ H Q :=
  ⟨F, ad, env, st, P, n, h, k⟩
/-! ### names, constants -/
theorem de_var (i : Nat) {x : Str} {pos : Pos} (hN : X.N[i]? = some x := by rfl) (hv : Vis X.env.scope x := by first | exact Or.inl rfl | exact Or.inr (Or.inl rfl) | exact Or.inr (Or.inr rfl)) (hd : (x == ("__debug__" : Str)) = false := by decide)
    (hcd : (x == ("__classdict__" : Str)) = false := by decide) : PE X (.Name x pos) (tE K mg (wVar i)) := by
  refine pe_weak (pe_var hN hv hd hcd) fun σ H Q ⟨F, ad, env, st, P, n, h, k⟩ => ?_
  unfold wVar at h
  cases e : env[i]? with
  | none => rw [e] at h; exact h.elim
  | some o =>
    cases o with
    | none => rw [e] at h; exact h.elim
    | some dv =>
      rw [e] at h
      obtain ⟨v, e1, r⟩ := n.env.2 i dv e
      exact ⟨v, e1, k dv st v F ad H h (Ext.refl _ _ _) n r⟩
theorem de_c {e : Expr} {v : V} {x : PyData} (h : PE X e (tC v)) (r : ∀ F, Rp K F v x) : PE X e (tE K mg (wC x)) := by
  refine pe_weak h fun σ H Q ⟨F, ad, env, st, P, n, h, k⟩ => ?_
  exact k (.d x) st v F ad H h (Ext.refl _ _ _) n (r F)
theorem de_int {i : Int} {j pos} : PE X (.Constant (.int i) j pos) (tE K mg (wC (.int i))) := de_c pe_int fun _ => .int i
theorem de_bl {b : Bool} {j pos} : PE X (.Constant (.bool b) j pos) (tE K mg (wC (.bool b))) := de_c pe_bl fun _ => .bl b
theorem de_non {j pos} : PE X (.Constant .none j pos) (tE K mg (wC .none)) := de_c pe_non fun _ => .non
theorem de_str {x : Str} {j pos} : PE X (.Constant (.str x) j pos) (tE K mg (wC (.str x))) := de_c pe_str fun _ => .str x
theorem de_glob {x : Str} {v : V} {u : Value} {y : PyData} {pos : Pos} (hm : X.mg x = some u) (r : RelV v u) (q : ∀ F, Rp K F v y) (hg : Gl X x := by rfl) (hd : (x == ("__debug__" : Str)) = false := by decide) : PE X (.Name x pos) (tE K mg (wC y)) :=
  de_c (pe_glob hg hm r hd) q
theorem de_fn {x : Str} {a : Addr} {pos : Pos} (hm : X.mg x = some (.ref a)) (hmg : mg = X.mg) (hg : Gl X x := by rfl) (hd : (x == ("__debug__" : Str)) = false := by decide) : PE X (.Name x pos) (tE K mg (wFn x)) := by
  refine pe_weak (pe_glob (v := .ref a) hg hm rfl hd) fun σ H Q ⟨F, ad, env, st, P, n, h, k⟩ => ?_
  exact k (.fn x) st (.ref a) F ad H h (Ext.refl _ _ _) n ⟨a, rfl, by rw [hmg]; exact hm⟩
/-! ### operators -/
/-- a heap that grows: new objects, new frozen ones -/
structure Grow (F H F' H' : Hp) : Prop where
  le : LeH F F'
  fl : FLe F' H'
  keep : ∀ a o, H a = some o → H' a = some o
  new : ∀ a, F' a ≠ none → F a ≠ none ∨ H a = none
theorem Grow.refl (fl : FLe F H) : Grow F H F H := ⟨LeH.refl F, fl, fun _ _ h => h, fun _ h => .inl h⟩
theorem Grow.ext (g : Grow F H F' H') (ad : List Addr) : Ext F H ad F' H' ad :=
  ⟨g.le, fun a h => (g.new a h).elim .inl fun z => .inr (.inl z), ⟨[], by simp, fun _ h => by simp at h⟩, fun a o h _ => .inl (g.keep a o h), fun a h => by
    cases q : H a with
    | none => rfl
    | some o => rw [g.keep a o q] at h; cases h⟩
theorem Now.grow (n : Now K mg σ F H ad env st) (g : Grow F H F' H') : Now K mg σ F' H' ad env st := by
  have nw : ∀ a, F a = none → H a ≠ none → F' a = none := fun a h1 h2 => by
    cases q : F' a with
    | none => rfl
    | some u =>
      rcases g.new a (by rw [q]; simp) with z | z
      · exact absurd h1 z
      · exact absurd z h2
  refine ⟨⟨g.fl, n.rel.len, n.rel.nd, fun a h e => n.rel.live a h ((g.ext []).there a e), fun i a c h1 h2 => ?_⟩, n.env.ext (g.ext ad)⟩
  have q := n.rel.cell i a c h1 h2
  cases c with
  | lst xs =>
    obtain ⟨z, vs, e, r⟩ := q
    exact ⟨nw a z (by rw [e]; simp), vs, g.keep _ _ e, RpAll.le g.le _ _ r⟩
  | dct kvs =>
    obtain ⟨z, vs, e, r⟩ := q
    exact ⟨nw a z (by rw [e]; simp), vs, g.keep _ _ e, RpKv.le g.le _ _ r⟩
  | frz x => exact Rp.le g.le _ _ q
  | ins _ _ => trivial
/-- an operator's question, by data -/
def rB (K : PySem.W.Frag) (op : B2) : R2 := fun x y H Q => ∃ F a b c, FLe F H ∧ Vw K F H x a ∧ Vw K F H y b ∧ op a b = some c ∧ ∀ z F' H', Grow F H F' H' → Rp K F' z c → Q z H'
def rU1 (K : PySem.W.Frag) (op : B1) : V → Hp → VK → Prop := fun x H Q => ∃ F a c, FLe F H ∧ Vw K F H x a ∧ op a = some c ∧ ∀ z F' H', Grow F H F' H' → Rp K F' z c → Q z H'
theorem w_bin {op : B2} {fa fb : WE} {σ : L2.St} {H : Hp} {Q : VK} (h : tE K mg (wBin op fa fb) σ H Q) : tOp (rB K op) (tE K mg fa) (tE K mg fb) σ H Q := by
  obtain ⟨F, ad, env, st, P, n, h, k⟩ := h
  refine tE_go n h fun r1 st1 v1 F1 ad1 H1 p1 x1 n1 d1 => ?_
  refine tE_go n1 p1 fun r2 st2 v2 F2 ad2 H2 p2 x2 n2 d2 => ?_
  obtain ⟨a, ea, p3⟩ := optK_elim p2
  obtain ⟨b, eb, p4⟩ := optK_elim p3
  obtain ⟨c, ec, p5⟩ := optK_elim p4
  refine ⟨F2, a, b, c, n2.rel.fl, n2.rel.vw (d1.ext x2) ea, n2.rel.vw d2 eb, ec, fun z F' H' g q => ?_⟩
  exact k (.d c) st2 z F' ad2 H' p5 ((x1.trans x2).trans (g.ext ad2)) (n2.grow g) q
theorem w_un {op : B1} {fa : WE} {σ : L2.St} {H : Hp} {Q : VK} (h : tE K mg (wUn op fa) σ H Q) : tUn (rU1 K op) (tE K mg fa) σ H Q := by
  obtain ⟨F, ad, env, st, P, n, h, k⟩ := h
  refine tE_go n h fun r1 st1 v1 F1 ad1 H1 p1 x1 n1 d1 => ?_
  obtain ⟨a, ea, p3⟩ := optK_elim p1
  obtain ⟨c, ec, p5⟩ := optK_elim p3
  refine ⟨F1, a, c, n1.rel.fl, n1.rel.vw d1 ea, ec, fun z F' H' g q => ?_⟩
  exact k (.d c) st1 z F' ad1 H' p5 (x1.trans (g.ext ad1)) (n1.grow g) q
variable {a b : Expr} {fa fb : WE} {pos : Pos}
theorem de_op {op : Operator} {o : B2} (ho : OpR X (binaryOp op) (rB K o)) (ha : PE X a (tE K mg fa)) (hb : PE X b (tE K mg fb)) : PE X (.BinOp a op b pos) (tE K mg (wBin o fa fb)) :=
  pe_weak (pe_op ho ha hb) fun _ _ _ h => w_bin h
theorem de_un {op : UnaryOp} {o : B1} (ho : UnR X (unaryOp op) (rU1 K o)) (ha : PE X a (tE K mg fa)) : PE X (.UnaryOp op a pos) (tE K mg (wUn o fa)) :=
  pe_weak (pe_un ho ha) fun _ _ _ h => w_un h
theorem de_cmp {op : CmpOp} {o : B2} (ho : OpR X (compareOp op) (rB K o)) (ha : PE X a (tE K mg fa)) (hb : PE X b (tE K mg fb)) (hm : behindInMarks op b = false := by first | exact nobehind _ (by decide) (by decide) | rfl) : PE X (.Compare a [op] [b] pos) (tE K mg (wBin o fa fb)) :=
  pe_weak (pe_cmpR ho ha hb hm) fun _ _ _ h => w_bin h
/-- a value that is True or False, as a test -/
theorem w_t {f : WE} {σ : L2.St} {H : Hp} {Q : Bool → Hp → Prop} (h : tT K mg (wT f) σ H Q) : tE K mg f σ H fun x H1 => ∃ c, x = .bl c ∧ Q c H1 := by
  obtain ⟨F, ad, env, st, P, n, h, k⟩ := h
  refine tE_go n h fun r1 st1 v1 F1 ad1 H1 p1 x1 n1 d1 => ?_
  obtain ⟨x, ex, p2⟩ := optK_elim p1
  obtain ⟨b, eb, p3⟩ := optK_elim p2
  have q := n1.rel.vw d1 ex
  cases x <;> simp [asB] at eb
  subst eb
  cases q
  exact ⟨_, rfl, k _ st1 F1 ad1 H1 p3 x1 n1⟩
theorem dt_cmp {op : CmpOp} {o : B2} (ho : OpR X (compareOp op) (rB K o)) (ha : PE X a (tE K mg fa)) (hb : PE X b (tE K mg fb)) (hm : behindInMarks op b = false := by first | exact nobehind _ (by decide) (by decide) | rfl) : PT X (.Compare a [op] [b] pos) (tT K mg (wT (wBin o fa fb))) :=
  pt_weak (pt_cmpR ho ha hb hm) fun σ H Q h => by
    obtain ⟨F, ad, env, st, P, n, h, k⟩ := w_t h
    exact w_bin ⟨F, ad, env, st, P, n, h, k⟩
theorem dt_val {e : Expr} {f : WE} (h : PE X e (tE K mg f)) (he : ∀ whole, isTrue e X.env whole = (do let v ← whole; standAt e.pos; holding [v] (truthy v)) := by intro _; rfl) : PT X e (tT K mg (wT f)) :=
  pt_weak (pt_val h he) fun _ _ _ h => w_t h
/-! ### and, or, not -/
variable {t u : WT} {rest : List Expr} {c : Expr}
theorem dt_and1 (ha : PT X a (tT K mg t)) : PW X (.BoolOp .And [a] pos) (tT K mg t) := pw_and1 ha
theorem dt_or1 (ha : PT X a (tT K mg t)) : PW X (.BoolOp .Or [a] pos) (tT K mg t) := pw_or1 ha
theorem dt_and (ha : PT X a (tT K mg t)) (hb : PW X (.BoolOp .And (b :: rest) pos) (tT K mg u)) : PW X (.BoolOp .And (a :: b :: rest) pos) (tT K mg (wAnd t u)) :=
  pw_weak (pw_and ha hb) fun σ H Q ⟨F, ad, env, st, P, n, h, k⟩ => by
    refine tT_go n h fun c st1 F1 ad1 H1 p1 x1 n1 => ?_
    cases c with
    | true => exact tT_go n1 p1 fun c2 st2 F2 ad2 H2 p2 x2 n2 => k c2 st2 F2 ad2 H2 p2 (x1.trans x2) n2
    | false => exact k false st1 F1 ad1 H1 p1 x1 n1
theorem dt_or (ha : PT X a (tT K mg t)) (hb : PW X (.BoolOp .Or (b :: rest) pos) (tT K mg u)) : PW X (.BoolOp .Or (a :: b :: rest) pos) (tT K mg (wOr t u)) :=
  pw_weak (pw_or ha hb) fun σ H Q ⟨F, ad, env, st, P, n, h, k⟩ => by
    refine tT_go n h fun c st1 F1 ad1 H1 p1 x1 n1 => ?_
    cases c with
    | false => exact tT_go n1 p1 fun c2 st2 F2 ad2 H2 p2 x2 n2 => k c2 st2 F2 ad2 H2 p2 (x1.trans x2) n2
    | true => exact k true st1 F1 ad1 H1 p1 x1 n1
theorem dt_not (ha : PT X a (tT K mg t)) : PT X (.UnaryOp .Not a pos) (tT K mg (wNot t)) :=
  pt_weak (pt_not ha) fun σ H Q ⟨F, ad, env, st, P, n, h, k⟩ => tT_go n h fun c st1 F1 ad1 H1 p1 x1 n1 => k (!c) st1 F1 ad1 H1 p1 x1 n1
theorem de_one {op} {f : WE} (h : PE X a (tE K mg f)) : PE X (.BoolOp op [a] pos) (tE K mg f) := pe_one h
theorem asB_vw {v : V} {x : PyData} {c : Bool} (q : Vw K F H v x) (e : asB x = some c) : v = .bl c := by
  cases x <;> simp [asB] at e
  subst e
  cases q
  rfl
theorem de_and (ha : PE X a (tE K mg fa)) (hb : PE X (.BoolOp .And (b :: rest) pos) (tE K mg fb)) : PE X (.BoolOp .And (a :: b :: rest) pos) (tE K mg (wAndV fa fb)) :=
  pe_weak (pe_and ha hb) fun σ H Q ⟨F, ad, env, st, P, n, h, k⟩ => by
    refine tE_go n h fun r1 st1 v1 F1 ad1 H1 p1 x1 n1 d1 => ?_
    obtain ⟨x, ex, p2⟩ := optK_elim p1
    obtain ⟨c, ec, p3⟩ := optK_elim p2
    refine ⟨c, asB_vw (n1.rel.vw d1 ex) ec, ?_⟩
    cases c with
    | true => exact tE_go n1 p3 fun r2 st2 v2 F2 ad2 H2 p4 x2 n2 d2 => k r2 st2 v2 F2 ad2 H2 p4 (x1.trans x2) n2 d2
    | false => exact k _ st1 _ F1 ad1 H1 p3 x1 n1 (Rp.bl _)
theorem de_or (ha : PE X a (tE K mg fa)) (hb : PE X (.BoolOp .Or (b :: rest) pos) (tE K mg fb)) : PE X (.BoolOp .Or (a :: b :: rest) pos) (tE K mg (wOrV fa fb)) :=
  pe_weak (pe_or ha hb) fun σ H Q ⟨F, ad, env, st, P, n, h, k⟩ => by
    refine tE_go n h fun r1 st1 v1 F1 ad1 H1 p1 x1 n1 d1 => ?_
    obtain ⟨x, ex, p2⟩ := optK_elim p1
    obtain ⟨c, ec, p3⟩ := optK_elim p2
    refine ⟨c, asB_vw (n1.rel.vw d1 ex) ec, ?_⟩
    cases c with
    | false => exact tE_go n1 p3 fun r2 st2 v2 F2 ad2 H2 p4 x2 n2 d2 => k r2 st2 v2 F2 ad2 H2 p4 (x1.trans x2) n2 d2
    | true => exact k _ st1 _ F1 ad1 H1 p3 x1 n1 (Rp.bl _)
theorem w_not {f : WE} {σ : L2.St} {H : Hp} {Q : VK} (h : tE K mg (wUn oNot f) σ H Q) : tNotV (tE K mg f) σ H Q := by
  obtain ⟨F, ad, env, st, P, n, h, k⟩ := h
  refine tE_go n h fun r1 st1 v1 F1 ad1 H1 p1 x1 n1 d1 => ?_
  obtain ⟨x, ex, p2⟩ := optK_elim p1
  obtain ⟨c, ec, p3⟩ := optK_elim p2
  unfold oNot at ec
  cases e : asB x with
  | none => rw [e] at ec; cases ec
  | some b =>
    rw [e] at ec; cases ec
    exact ⟨b, asB_vw (n1.rel.vw d1 ex) e, k _ st1 _ F1 ad1 H1 p3 x1 n1 (Rp.bl _)⟩
theorem de_not (ha : PE X a (tE K mg fa)) : PE X (.UnaryOp .Not a pos) (tE K mg (wUn oNot fa)) := pe_weak (pe_not ha) fun _ _ _ h => w_not h
theorem de_if (hc : PT X c (tT K mg t)) (ha : PE X a (tE K mg fa)) (hb : PE X b (tE K mg fb)) : PE X (.IfExp c a b pos) (tE K mg (wIfE t fa fb)) :=
  pe_weak (pe_ifExp hc ha hb) fun σ H Q ⟨F, ad, env, st, P, n, h, k⟩ => by
    refine tT_go n h fun c st1 F1 ad1 H1 p1 x1 n1 => ?_
    cases c with
    | true => exact tE_go n1 p1 fun r2 st2 v2 F2 ad2 H2 p4 x2 n2 d2 => k r2 st2 v2 F2 ad2 H2 p4 (x1.trans x2) n2 d2
    | false => exact tE_go n1 p1 fun r2 st2 v2 F2 ad2 H2 p4 x2 n2 d2 => k r2 st2 v2 F2 ad2 H2 p4 (x1.trans x2) n2 d2
/-! ### argument lists, displays -/
theorem da_nil : PA X [] (tA K mg wNil) := pa_weak pa_nil fun σ H Q ⟨F, ad, env, st, P, n, h, k⟩ => k [] st [] F ad H h (Ext.refl _ _ _) n .nil
theorem da_cons {e : Expr} {es : List Expr} {f : WE} {fs : WA} (ha : PE X e (tE K mg f)) (hr : PA X es (tA K mg fs)) (hs : starEach (e :: es) X.env = (false, eval e X.env) :: starEach es X.env := by rfl) : PA X (e :: es) (tA K mg (wCons f fs)) :=
  pa_weak (pa_cons ha hr hs) fun σ H Q ⟨F, ad, env, st, P, n, h, k⟩ => by
    refine tE_go n h fun r1 st1 v1 F1 ad1 H1 p1 x1 n1 d1 => ?_
    exact ⟨F1, ad1, env, st1, _, n1, p1, fun rs st2 vs F2 ad2 H2 p2 x2 n2 d2 => k (r1 :: rs) st2 (v1 :: vs) F2 ad2 H2 p2 (x1.trans x2) n2 (.cons (d1.ext x2) d2)⟩
theorem frs_rp {F : Hp} {ad : List Addr} : ∀ {rs : List DV} {vs : List V} {xs : List PyData}, DVRs K mg F ad vs rs → DL.frs rs = some xs → RpAll K F vs xs
  | [], _, _, h, e => by cases h; cases e; exact .nil
  | .d x :: rs, _, xs, h, e => by
    cases h with
    | cons r q =>
      cases e2 : DL.frs rs with
      | none => simp [DL.frs, e2] at e
      | some ys =>
        simp [DL.frs, e2] at e
        subst e
        exact .cons r (frs_rp q e2)
  | .loc _ :: _, _, _, _, e => by cases e
  | .fn _ :: _, _, _, _, e => by cases e
  | .scr _ :: _, _, _, _, e => by cases e
theorem lim_eq : lim = sizeLine := by rw [sizeLine_eq]; rfl
theorem grow_new {p : Addr} {o : HO} (fl : FLe F H) (hp : H p = none) (hF : F p = none) : Grow F H (upd F p o) (upd H p o) := by
  refine ⟨fun a u e => ?_, fun a u e => ?_, fun a u e => ?_, fun a h => ?_⟩
  · rw [upd_ne (ne_of_none e hF)]; exact e
  · by_cases ha : a = p
    · subst ha
      rw [upd_same] at e; rw [upd_same]; exact .inl e
    · rw [upd_ne ha] at e; rw [upd_ne ha]; exact fl a u e
  · rw [upd_ne (ne_of_none e hp)]; exact e
  · by_cases ha : a = p
    · subst ha; exact .inr hp
    · rw [upd_ne ha] at h; exact .inl h
theorem FLe.none {p : Addr} (fl : FLe F H) (hp : H p = none) : F p = none := by
  cases e : F p with
  | none => rfl
  | some u =>
    rcases fl p u e with z | ⟨_, _, _, z⟩
    · rw [hp] at z; cases z
    · rw [hp] at z; cases z
/-- a tuple's display, the object told -/
def tTupF (t : TA) : TE := fun σ H Q => t σ H fun xs H1 => xs.length ≤ sizeLine ∧ ∀ (p : Addr) (o : Obj), H1 p = none → o.dict = none → Q (.ref p) (upd H1 p (.frz o (.tup xs)))
theorem pe_tupF {X : Cx} {es : List Expr} {t : TA} {x1 pos} (h : PA X es t) : PE X (.Tuple es x1 pos) (tTupF t) := by
  refine ⟨fun pins s σ H Q I hq => ?_⟩
  refine wpAny_Tuple_spliced (thn (h.run pos pins s σ H _ I hq) fun us s1 ⟨xs, H1, I1, r, z, q⟩ => ⟨by rw [← r.length]; exact z, ?_⟩)
  have hf : H1 s1.heap.objs.size = none := I1.hok.fresh (Nat.le_refl _)
  refine ⟨.ref s1.heap.objs.size, _, I1.laid (o := .frz _ (.tup xs)) (t' := s1.toks) (fun b u e => Heap.get?_push_of_some _ e) (Nat.le_refl _) ⟨Heap.get?_push_size _ rfl, z, us, r, ⟨_, Heap.get?_push_size _ rfl, rfl, _, rfl⟩⟩, rfl, q _ _ hf rfl⟩
theorem de_tup {es : List Expr} {k : Nat} {fs : WA} (h : PA X es (tA K mg fs)) : PE X (.Tuple es k pos) (tE K mg (wTup fs)) :=
  pe_weak (pe_tupF h) fun σ H Q ⟨F, ad, env, st, P, n, h, k⟩ => by
    refine ⟨F, ad, env, st, _, n, h, fun rs st1 vs F1 ad1 H1 p1 x1 n1 d1 => ?_⟩
    obtain ⟨xs, ex, l, p2⟩ := optK_elim p1
    have rp := frs_rp d1 ex
    refine ⟨by rw [rp.length, ← lim_eq]; exact l, fun p o hp ho => ?_⟩
    have g := grow_new (o := .frz o (.tup vs)) n1.rel.fl hp (n1.rel.fl.none hp)
    exact k _ st1 _ _ ad1 _ p2 (x1.trans (g.ext ad1)) (n1.grow g) (Rp.tup ⟨.inl (.inr ⟨o, upd_same⟩), fun _ => ⟨o, ho, .inl ⟨vs, upd_same⟩⟩⟩ (RpAll.le g.le _ _ rp))
theorem de_lst {es : List Expr} {fs : WA} (h : PA X es (tA K mg fs)) : PE X (.List es pos) (tE K mg (wLst fs)) :=
  pe_weak (pe_lst h) fun σ H Q ⟨F, ad, env, st, P, n, h, k⟩ => by
    refine ⟨F, ad, env, st, _, n, h, fun rs st1 vs F1 ad1 H1 p1 x1 n1 d1 => ?_⟩
    obtain ⟨xs, ex, l, p2⟩ := optK_elim p1
    have rp := frs_rp d1 ex
    refine ⟨by rw [rp.length, ← lim_eq]; exact l, fun p hp => ?_⟩
    have g := grow_new (o := .lst vs) n1.rel.fl hp (n1.rel.fl.none hp)
    exact k _ st1 _ _ ad1 _ p2 (x1.trans (g.ext ad1)) (n1.grow g) (Rp.lst upd_same (RpAll.le g.le _ _ rp))
/-- a new changeable object -/
theorem now_new {p : Addr} {o : HO} {c : Cell} (n : Now K mg σ F H ad env st) (hp : H p = none) (hc : CellR K mg F (upd H p o) (ad ++ [p]) p c) (hi : ∀ n fs, c ≠ .ins n fs) :
    Ext F H ad F (upd H p o) (ad ++ [p]) ∧ Now K mg σ F (upd H p o) (ad ++ [p]) env (st ++ [c]) := by
  have x : Ext F H ad F (upd H p o) (ad ++ [p]) := ⟨LeH.refl F, fun _ h => .inl h, ⟨[p], rfl, fun a h => by simp at h; subst h; exact hp⟩, fun a u e _ => .inl (by rw [upd_ne (ne_of_none e hp)]; exact e), fun a e => by
    by_cases ha : a = p
    · subst ha; exact hp
    · rw [upd_ne ha] at e; exact e⟩
  have hn : p ∉ ad := fun h => n.rel.live p h hp
  refine ⟨x, ⟨⟨fun a u e => ?_, by simp [n.rel.len], ?_, fun a h e => ?_, fun i a c' h1 h2 => ?_⟩, n.env.ext x⟩⟩
  · have ha : a ≠ p := fun z => by rw [z, n.rel.fl.none hp] at e; cases e
    rw [upd_ne ha]; exact n.rel.fl a u e
  · rw [List.nodup_append]
    refine ⟨n.rel.nd, by simp, fun a h b hb => ?_⟩
    simp at hb; subst hb
    exact fun z => hn (z ▸ h)
  · rcases List.mem_append.mp h with h | h
    · exact n.rel.live a h (x.there a e)
    · simp at h; subst h; rw [upd_same] at e; cases e
  · by_cases hl : i < ad.length
    · rw [List.getElem?_append_left hl] at h1
      rw [List.getElem?_append_left (by rw [← n.rel.len]; exact hl)] at h2
      have q := n.rel.cell i a c' h1 h2
      have ha : a ≠ p := fun z => hn (z ▸ List.mem_of_getElem? h1)
      cases c' with
      | lst xs => obtain ⟨z, vs, e, r⟩ := q; exact ⟨z, vs, by rw [upd_ne ha]; exact e, r⟩
      | dct xs => obtain ⟨z, vs, e, r⟩ := q; exact ⟨z, vs, by rw [upd_ne ha]; exact e, r⟩
      | frz y => exact q
      | ins _ _ => trivial
    · have e1 : i = ad.length := by
        have := (List.getElem?_eq_some_iff.mp h1).1
        simp at this; omega
      subst e1
      rw [List.getElem?_append_right (Nat.le_refl _), Nat.sub_self] at h1
      rw [List.getElem?_append_right (by rw [n.rel.len]; exact Nat.le_refl _), n.rel.len, Nat.sub_self] at h2
      cases h1
      cases h2
      exact hc
theorem de_lstM {es : List Expr} {fs : WA} (h : PA X es (tA K mg fs)) : PE X (.List es pos) (tE K mg (wLstM fs)) :=
  pe_weak (pe_lst h) fun σ H Q ⟨F, ad, env, st, P, n, h, k⟩ => by
    refine ⟨F, ad, env, st, _, n, h, fun rs st1 vs F1 ad1 H1 p1 x1 n1 d1 => ?_⟩
    obtain ⟨xs, ex, l, p2⟩ := optK_elim p1
    have rp := frs_rp d1 ex
    refine ⟨by rw [rp.length, ← lim_eq]; exact l, fun p hp => ?_⟩
    obtain ⟨x2, n2⟩ := now_new (o := .lst vs) (c := .lst xs) n1 hp ⟨n1.rel.fl.none hp, vs, upd_same, rp⟩ (fun _ _ z => by cases z)
    exact k _ _ _ _ _ _ p2 (x1.trans x2) n2 ⟨p, rfl, by rw [← n1.rel.len]; simp⟩
theorem de_dctM {pos} : PE X (.Dict [] [] pos) (tE K mg wDctM) :=
  pe_weak pe_dnewK fun σ H Q ⟨F, ad, env, st, P, n, h, k⟩ => by
    intro p hp
    obtain ⟨x2, n2⟩ := now_new (o := .dK []) (c := .dct []) n hp ⟨n.rel.fl.none hp, [], upd_same, .nil⟩ (fun _ _ z => by cases z)
    exact k _ _ _ _ _ _ h x2 n2 ⟨p, rfl, by rw [← n.rel.len]; simp⟩
/-- freezing -/
theorem rel_frz {i : Nat} {a : Addr} {x : PyData} (n : Now K mg σ F H ad env st) (ha : ad[i]? = some a) (e : rd st (.loc i) = some x) :
    ∃ F', Ext F H ad F' H ad ∧ Now K mg σ F' H ad env (st.modify i frzC) ∧ Rp K F' (.ref a) x := by
  cases hc : st[i]? with
  | none => simp [rd, hc] at e
  | some c =>
    have key : ∀ (o : HO), F a = none → H a = some o → frzC c = .frz x → (∀ F', LeH F F' → F' a = some o → Rp K F' (.ref a) x) → ∃ F', Ext F H ad F' H ad ∧ Now K mg σ F' H ad env (st.modify i frzC) ∧ Rp K F' (.ref a) x := by
      intro o hF hH hz mk
      have le : LeH F (upd F a o) := fun b u eb => by rw [upd_ne (ne_of_none eb hF)]; exact eb
      have rp := mk (upd F a o) le upd_same
      have x1 : Ext F H ad (upd F a o) H ad := ⟨le, fun b hb => by
        by_cases hba : b = a
        · subst hba; exact .inr (.inr (List.mem_of_getElem? ha))
        · rw [upd_ne hba] at hb; exact .inl hb, ⟨[], by simp, fun _ h => by simp at h⟩, fun _ _ h _ => .inl h, fun _ h => h⟩
      refine ⟨upd F a o, x1, ⟨⟨fun b u eb => ?_, by simp [n.rel.len], n.rel.nd, n.rel.live, fun j b c' h1 h2 => ?_⟩, n.env.ext x1⟩, rp⟩
      · by_cases hba : b = a
        · subst hba; rw [upd_same] at eb; cases eb; exact .inl hH
        · rw [upd_ne hba] at eb; exact n.rel.fl b u eb
      · rw [List.getElem?_modify] at h2
        by_cases hji : i = j
        · subst hji
          rw [ha] at h1; cases h1
          rw [hc] at h2
          simp [hz] at h2
          subst h2
          exact rp
        · simp [hji] at h2
          have q := n.rel.cell j b c' h1 h2
          have hba : b ≠ a := fun z => by
            subst z
            exact hji ((List.getElem?_inj (List.getElem?_eq_some_iff.mp ha).1 n.rel.nd).mp (ha.trans h1.symm))
          cases c' with
          | lst xs => obtain ⟨z, vs, e, r⟩ := q; exact ⟨by rw [upd_ne hba]; exact z, vs, e, RpAll.le le _ _ r⟩
          | dct xs => obtain ⟨z, vs, e, r⟩ := q; exact ⟨by rw [upd_ne hba]; exact z, vs, e, RpKv.le le _ _ r⟩
          | frz y => exact Rp.le le _ _ q
          | ins _ _ => trivial
    have q := n.rel.cell i a c ha hc
    cases c with
    | lst xs =>
      simp [rd, hc] at e; subst e
      obtain ⟨z, vs, h1, h2⟩ := q
      exact key _ z h1 rfl fun F' le e => .lst e (RpAll.le le _ _ h2)
    | dct xs =>
      simp [rd, hc] at e; subst e
      obtain ⟨z, vs, h1, h2⟩ := q
      exact key _ z h1 rfl fun F' le e => .dct e (RpKv.le le _ _ h2)
    | frz y =>
      simp [rd, hc] at e; subst e
      refine ⟨F, Ext.refl _ _ _, ?_, q⟩
      have em : st.modify i frzC = st := by
        apply List.ext_getElem?
        intro j
        rw [List.getElem?_modify]
        by_cases hji : i = j
        · subst hji; rw [hc]; simp [frzC]
        · simp [hji]
      rw [em]; exact n
    | ins _ _ => simp [rd, hc] at e
theorem de_frz {e : Expr} {f : WE} (h : PE X e (tE K mg f)) : PE X e (tE K mg (wFrz f)) :=
  pe_weak h fun σ H Q ⟨F, ad, env, st, P, n, h, k⟩ => by
    refine tE_go n h fun r1 st1 v1 F1 ad1 H1 p1 x1 n1 d1 => ?_
    cases r1 with
    | loc i =>
      obtain ⟨x, ex, p2⟩ := optK_elim p1
      obtain ⟨a, rfl, ha⟩ := d1
      obtain ⟨F2, x2, n2, rp⟩ := rel_frz n1 ha ex
      exact k _ _ _ F2 ad1 H1 p2 (x1.trans x2) n2 rp
    | d y => exact k _ _ _ F1 ad1 H1 p1 x1 n1 d1
    | fn y => exact k _ _ _ F1 ad1 H1 p1 x1 n1 d1
    | scr y => exact k _ _ _ F1 ad1 H1 p1 x1 n1 d1
end
end DL
/-! text DLStmt -/
namespace DL
open PySem PySem.Spec PyProof.Rows L2
section
variable {X : Cx} {K : PySem.W.Frag} {mg : Str → Option Value} {F H F' H' : Hp} {ad ad' : List Addr} {env : Env} {st : Store} {σ : L2.St} {pos : Pos} {e : Expr} {f : WE} {w u : WS} {s1 : Stmt} {rest : List Stmt}
/-- what is wanted behind, told from a later state -/
structure Posts (K : PySem.W.Frag) (mg : Str → Option Value) (P : Fin) (F H : Hp) (ad : List Addr) (D : Ends) : Prop where
  nx : ∀ env' st' σ' F' ad' H', P.nx env' st' → Ext F H ad F' H' ad' → Now K mg σ' F' H' ad' env' st' → D.nx σ' H'
  rt : ∀ r st' v F' ad' H', P.rt r st' → Ext F H ad F' H' ad' → Rel K mg F' H' ad' st' → DVR K mg F' ad' v r → D.rt v H'
  bk : ∀ env' st' σ' F' ad' H', P.bk env' st' → Ext F H ad F' H' ad' → Now K mg σ' F' H' ad' env' st' → D.bk σ' H'
  ct : ∀ env' st' σ' F' ad' H', P.ct env' st' → Ext F H ad F' H' ad' → Now K mg σ' F' H' ad' env' st' → D.ct σ' H'
theorem Posts.ext {P : Fin} {D : Ends} {F1 H1 : Hp} {ad1 : List Addr} (p : Posts K mg P F H ad D) (x : Ext F H ad F1 H1 ad1) : Posts K mg P F1 H1 ad1 D :=
  ⟨fun _ _ _ _ _ _ a b c => p.nx _ _ _ _ _ _ a (x.trans b) c, fun _ _ _ _ _ _ a b c d => p.rt _ _ _ _ _ _ a (x.trans b) c d, fun _ _ _ _ _ _ a b c => p.bk _ _ _ _ _ _ a (x.trans b) c, fun _ _ _ _ _ _ a b c => p.ct _ _ _ _ _ _ a (x.trans b) c⟩
theorem tS_go {D : Ends} {P : Fin} (n : Now K mg σ F H ad env st) (h : w P env st) (p : Posts K mg P F H ad D) : tS K mg w D σ H := ⟨F, ad, env, st, P, n, h, p.nx, p.rt, p.bk, p.ct⟩
theorem tS_open {D : Ends} (h : tS K mg w D σ H) : ∃ F ad env st P, Now K mg σ F H ad env st ∧ w P env st ∧ Posts K mg P F H ad D := by
  obtain ⟨F, ad, env, st, P, n, h, a, b, c, d⟩ := h
  exact ⟨F, ad, env, st, P, n, h, a, b, c, d⟩
theorem ds_mk {t : TS} (h : PS X s1 t) (k : ∀ D σ H F ad env st P, Now K mg σ F H ad env st → w P env st → Posts K mg P F H ad D → t D σ H) : PS X s1 (tS K mg w) :=
  ps_weak h fun D σ H q => by
    obtain ⟨F, ad, env, st, P, n, q, p⟩ := tS_open q
    exact k D σ H F ad env st P n q p
theorem dss_mk {t : TS} {ss : List Stmt} (h : PSs X ss t) (k : ∀ D σ H F ad env st P, Now K mg σ F H ad env st → w P env st → Posts K mg P F H ad D → t D σ H) : PSs X ss (tS K mg w) :=
  pss_weak h fun D σ H q => by
    obtain ⟨F, ad, env, st, P, n, q, p⟩ := tS_open q
    exact k D σ H F ad env st P n q p
theorem ds_nil : PSs X [] (tS K mg wSkip) := dss_mk pss_nil fun D σ H F ad env st P n h p => p.nx _ _ _ _ _ _ h (Ext.refl _ _ _) n
theorem ds_cons (h1 : PS X s1 (tS K mg w)) (h2 : PSs X rest (tS K mg u)) : PSs X (s1 :: rest) (tS K mg (wSeq w u)) :=
  dss_mk (pss_cons h1 h2) fun D σ H F ad env st P n h p => by
    refine tS_go (P := { P with nx := u P }) n h ⟨fun env' st' σ' F' ad' H' q x n' => ?_, p.rt, p.bk, p.ct⟩
    exact tS_go n' q (p.ext x)
theorem ds_last (h1 : PS X s1 (tS K mg w)) : PSs X [s1] (tS K mg w) := pss_one h1
theorem ds_expr (he : PE X e (tE K mg f)) (hs : swapsWith e none pos.line X.env = pure false := by rfl) : PS X (.Expr e pos) (tS K mg (wExpr f)) :=
  ds_mk (ps_expr he hs) fun D σ H F ad env st P n h p => tE_go n h fun r st1 v F1 ad1 H1 q x n1 _ => p.nx _ _ _ _ _ _ q x n1
theorem ds_doc {x j pos'} : PS X (.Expr (.Constant (.str x) j pos) pos') (tS K mg wSkip) := ds_mk ps_doc fun D σ H F ad env st P n h p => p.nx _ _ _ _ _ _ h (Ext.refl _ _ _) n
theorem ds_pass : PS X (.Pass pos) (tS K mg wSkip) := ds_mk ps_pass fun D σ H F ad env st P n h p => p.nx _ _ _ _ _ _ h (Ext.refl _ _ _) n
theorem ds_brk : PS X (.Break pos) (tS K mg wBrk) := ds_mk ps_break fun D σ H F ad env st P n h p => p.bk _ _ _ _ _ _ h (Ext.refl _ _ _) n
theorem ds_cnt : PS X (.Continue pos) (tS K mg wCnt) := ds_mk ps_continue fun D σ H F ad env st P n h p => p.ct _ _ _ _ _ _ h (Ext.refl _ _ _) n
theorem ds_ret (he : PE X e (tE K mg f)) : PS X (.Return (some e) pos) (tS K mg (wRet f)) :=
  ds_mk (ps_ret he) fun D σ H F ad env st P n h p => tE_go n h fun r st1 v F1 ad1 H1 q x n1 d => p.rt _ _ _ _ _ _ q x n1.rel d
theorem ds_retN : PS X (.Return none pos) (tS K mg wRetN) := ds_mk ps_retN fun D σ H F ad env st P n h p => p.rt _ _ _ _ _ _ h (Ext.refl _ _ _) n.rel Rp.non
theorem ds_never : PS X s1 (tS K mg wNever) := ds_mk ps_never fun D σ H F ad env st P n h p => h.elim
theorem ds_if {c : Expr} {a b : List Stmt} {t : WT} (hc : PT X c (tT K mg t)) (ha : PSs X a (tS K mg w)) (hb : PSs X b (tS K mg u)) : PS X (.If c a b pos) (tS K mg (wIf t w u)) :=
  ds_mk (ps_if hc ha hb) fun D σ H F ad env st P n h p => by
    refine tT_go n h fun c st1 F1 ad1 H1 q x n1 => ?_
    cases c with
    | true => exact tS_go n1 q (p.ext x)
    | false => exact tS_go n1 q (p.ext x)
/-! ### targets -/
variable {tg : Expr} {g : WG} {W W' : List Nat}
theorem Only.refl (σ : L2.St) : DL.Only W σ σ := ⟨rfl, fun _ _ => rfl⟩
theorem Only.set {i : Nat} {v : Option V} (σ : L2.St) : DL.Only [i] σ (σ.set i v) := ⟨by simp, fun j hj => by
  have : i ≠ j := fun z => hj (by simp [z])
  rw [List.getElem?_set_ne this]⟩
theorem Only.trans {σ σ1 σ2 : L2.St} (a : DL.Only W σ σ1) (b : DL.Only W' σ1 σ2) : DL.Only (W ++ W') σ σ2 := ⟨b.1.trans a.1, fun i hi => by
  rw [b.2 i (fun z => hi (List.mem_append_right _ z)), a.2 i (fun z => hi (List.mem_append_left _ z))]⟩
theorem wipe_get {σ : L2.St} : ∀ {vs : List Nat} {i : Nat}, (L2.wipe σ vs)[i]? = if i ∈ vs ∧ i < σ.length then some none else σ[i]?
  | [], i => by simp [L2.wipe]
  | v :: vs, i => by
    unfold L2.wipe
    rw [List.getElem?_set, wipe_length, wipe_get]
    by_cases h1 : v = i
    · subst h1
      by_cases h2 : v < σ.length
      · simp [h2]
      · have : σ[v]? = none := List.getElem?_eq_none (by omega)
        simp [h2, this]
    · simp [h1, Ne.symm h1]
theorem Only.wipe {σ σ' : L2.St} {vs : List Nat} (h : DL.Only W (L2.wipe σ vs) σ') (hw : ∀ i ∈ W, i ∈ vs) : L2.wipe σ' vs = L2.wipe σ vs := by
  apply List.ext_getElem?
  intro i
  have hl : σ'.length = σ.length := by rw [h.1, wipe_length]
  rw [wipe_get, wipe_get, hl]
  by_cases hi : i ∈ vs
  · by_cases h2 : i < σ.length
    · simp [hi, h2]
    · have e1 : σ[i]? = none := List.getElem?_eq_none (by omega)
      have e2 : σ'[i]? = none := List.getElem?_eq_none (by omega)
      simp [hi, h2, e1, e2]
  · have := h.2 i (fun z => hi (hw i z))
    rw [wipe_get] at this
    simp [hi] at this
    simp [hi, this]
theorem dg_name (i : Nat) {x : Str} (hN : X.N.Nodup) (hi : X.N[i]? = some x := by rfl) (hx : Loc X.env.scope x := by first | exact Or.inl rfl | exact Or.inr rfl) (hf : X.fn x = true ∨ X.env.scope.names.lookup x = some .local := by first | exact .inl rfl | exact .inr rfl | assumption) : PG X (.Name x pos) (tG K mg [i] (gN i)) :=
  pg_weak (pg_name hN hi hx hf) fun v σ H Q ⟨F, ad, env, st, r, P, n, d, h, k⟩ => k _ _ _ _ _ _ h (Ext.refl _ _ _) ⟨n.rel, n.env.set d⟩ (Only.set _)
def tGs (K : PySem.W.Frag) (mg : Str → Option Value) (W : List Nat) (g : WGs) : TGs := fun vs σ H Q => ∃ F ad env st xs P, Now K mg σ F H ad env st ∧ RpAll K F vs xs ∧ g xs env st P ∧
  ∀ env' st' σ' F' ad' H', P env' st' → Ext F H ad F' H' ad' → Now K mg σ' F' H' ad' env' st' → DL.Only W σ σ' → Q σ' H'
theorem pgs_weak {es : List Expr} {t t' : TGs} (h : PGs X es t) (w : ∀ vs σ H Q, t' vs σ H Q → t vs σ H Q) : PGs X es t' := ⟨fun pins s σ H vs us Q I r q => h.run pins s σ H vs us Q I r (w vs σ H Q q)⟩
theorem dgs_nil : PGs X [] (tGs K mg [] gNil) := pgs_weak pgs_nil fun vs σ H Q ⟨F, ad, env, st, xs, P, n, d, h, k⟩ => by
  cases d with
  | nil => exact ⟨rfl, k _ _ _ _ _ _ h (Ext.refl _ _ _) n (Only.refl _)⟩
  | cons _ _ => exact h.elim
theorem dgs_cons {es : List Expr} {gs : WGs} (h1 : PG X tg (tG K mg W g)) (h2 : PGs X es (tGs K mg W' gs)) (hs : (assignEach (tg :: es) X.env).map (·.2) = assign tg X.env :: (assignEach es X.env).map (·.2) := by rfl) : PGs X (tg :: es) (tGs K mg (W ++ W') (DL.gCons g gs)) :=
  pgs_weak (pgs_cons h1 h2 hs) fun vs σ H Q ⟨F, ad, env, st, xs, P, n, d, h, k⟩ => by
    cases d with
    | nil => exact h.elim
    | cons r rs =>
      refine ⟨_, _, rfl, F, ad, env, st, .d _, _, n, r, h, fun env1 st1 σ1 F1 ad1 H1 q x n1 o1 => ?_⟩
      exact ⟨F1, ad1, env1, st1, _, _, n1, RpAll.le x.le _ _ rs, q, fun env2 st2 σ2 F2 ad2 H2 q2 x2 n2 o2 => k _ _ _ _ _ _ q2 (x.trans x2) n2 (o1.trans o2)⟩
/-- how many a taking apart asks -/
theorem dg_tup {es : List Expr} {k : Nat} {gs : WGs} {m : Nat} (hc : X.calm = true) (h : PGs X es (tGs X.K mg W gs)) (hl : ∀ xs env st Q, gs xs env st Q → xs.length = m)
    (hn : (assignEach es X.env).length = m := by rfl) (hst : (assignEach es X.env).findIdx? (·.1) = none := by rfl) : PG X (.Tuple es k pos) (tG X.K mg W (DL.gTup gs)) :=
  pg_weak (pg_tup hc h hn hst) fun v σ H Q ⟨F, ad, env, st, r, P, n, d, h, k⟩ => by
    obtain ⟨x, ex, q⟩ := optK_elim h
    have vw := n.rel.vw d ex
    cases x with
    | tuple xs =>
      cases vw with
      | tup hs ra =>
        exact ⟨_, _, rfl, n.rel.fl.seqT hs.sq, by rw [ra.length]; exact hl _ _ _ _ q, F, ad, env, st, xs, P, n, ra, q, k⟩
    | _ => exact q.elim
theorem dg_tupN {es : List Expr} {k : Nat} {gs : WGs} {m : Nat} (hc : X.calm = true) (h : PGs X es (tGs X.K mg W gs))
    (hn : (assignEach es X.env).length = m := by rfl) (hst : (assignEach es X.env).findIdx? (·.1) = none := by rfl) : PG X (.Tuple es k pos) (tG X.K mg W (DL.gTupN m gs)) :=
  pg_weak (pg_tup hc h hn hst) fun v σ H Q ⟨F, ad, env, st, r, P, n, d, h, k⟩ => by
    obtain ⟨x, ex, q⟩ := optK_elim h
    have vw := n.rel.vw d ex
    cases x with
    | tuple xs =>
      obtain ⟨hl, q⟩ := q
      cases vw with
      | tup hs ra =>
        exact ⟨_, _, rfl, n.rel.fl.seqT hs.sq, by rw [ra.length]; exact hl, F, ad, env, st, xs, P, n, ra, q, k⟩
    | _ => exact q.elim
theorem gn_nil (xs : List PyData) (env : Env) (st : Store) (Q : Env → Store → Prop) (h : DL.gNil xs env st Q) : xs.length = 0 := by
  cases xs with
  | nil => rfl
  | cons _ _ => exact h.elim
theorem ds_asg (he : PE X e (tE K mg f)) (hg : PG X tg (tG K mg W g)) (hs : swapsWithSole [tg] e pos.line X.env = pure false := by rfl) (hw : swappedStores [tg] e X.env = pure none := by rfl)
    (h1 : (assignEach [tg] X.env).map (·.2) = [assign tg X.env] := by rfl) : PS X (.Assign [tg] e pos) (tS K mg (wAsg f g)) :=
  ds_mk (ps_asg he hg hs hw h1) fun D σ H F ad env st P n h p => by
    refine tE_go n h fun r st1 v F1 ad1 H1 q x n1 d => ?_
    exact ⟨F1, ad1, env, st1, r, _, n1, d, q, fun env' st' σ' F' ad' H' q2 x2 n2 _ => p.nx _ _ _ _ _ _ q2 (x.trans x2) n2⟩
theorem ds_set (i : Nat) {x : Str} {pos' : Pos} (hN : X.N.Nodup) (he : PE X e (tE K mg f)) (hi : X.N[i]? = some x := by rfl) (hx : Loc X.env.scope x := by first | exact Or.inl rfl | exact Or.inr rfl) (hs : swapsWith e (some (.Name x pos')) pos.line X.env = pure false := by rfl) (hf : X.fn x = true ∨ X.env.scope.names.lookup x = some .local := by first | exact .inl rfl | exact .inr rfl | assumption) :
    PS X (.Assign [.Name x pos'] e pos) (tS K mg (wAsg f (gN i))) :=
  ds_mk (ps_set hN hi hx he hs hf) fun D σ H F ad env st P n h p => tE_go n h fun r st1 v F1 ad1 H1 q x n1 d => p.nx _ _ _ _ _ _ q x ⟨n1.rel, n1.env.set d⟩
theorem ds_par (i j : Nat) {x y : Str} {a b : Expr} {fa fb : WE} {px py pt : Pos} {kt k2 pt2} (hc : X.calm = true) (hN : X.N.Nodup) (ha : PE X a (tE K mg fa)) (hb : PE X b (tE K mg fb))
    (hw : swappedStores [.Tuple [.Name x px, .Name y py] kt pt] (.Tuple [a, b] k2 pt2) X.env = pure (some [x, y])) (hij : i ≠ j := by decide) (hi : X.N[i]? = some x := by rfl) (hj : X.N[j]? = some y := by rfl)
    (hx : X.env.scope.names.lookup x = some .local := by rfl) (hy : X.env.scope.names.lookup y = some .local := by rfl)
    (hs : swapsWithSole [.Tuple [.Name x px, .Name y py] kt pt] (.Tuple [a, b] k2 pt2) pos.line X.env = pure false := by rfl)
    (h0 : starEach (a :: [b]) X.env = (false, eval a X.env) :: starEach [b] X.env := by rfl) (h1 : starEach (b :: []) X.env = (false, eval b X.env) :: starEach [] X.env := by rfl) :
    PS X (.Assign [.Tuple [.Name x px, .Name y py] kt pt] (.Tuple [a, b] k2 pt2) pos) (tS K mg (wPar i j fa fb)) :=
  ds_mk (ps_par hc hN hi hj hij hx hy (pa_cons ha (pa_cons hb pa_nil h1) h0) hw hs) fun D σ H F ad env st P n h p => by
    refine tE_go n h fun r st1 v F1 ad1 H1 q x n1 d => ?_
    refine tE_go n1 q fun r2 st2 v2 F2 ad2 H2 q2 x2 n2 d2 => ?_
    exact ⟨_, _, rfl, p.nx _ _ _ _ _ _ q2 (x.trans x2) ⟨n2.rel, (n2.env.set (d.ext x2)).set d2⟩⟩
/-! ### what is walked -/
structure ItOk (K : PySem.W.Frag) (mg : Str → Option Value) (J : It) (xs : List DV) (F H : Hp) (ad : List Addr) : Prop where
  len : xs.length ≤ sizeLine
  go : ∀ F1 H1 ad1 st1 (i : Nat) (x : DV), Ext F H ad F1 H1 ad1 → Rel K mg F1 H1 ad1 st1 → xs[i]? = some x → J.go i H1
  yld : ∀ F1 H1 ad1 st1 (i : Nat) (x : DV), Ext F H ad F1 H1 ad1 → Rel K mg F1 H1 ad1 st1 → xs[i]? = some x → ∀ v H2, J.yld i H1 v H2 → ∃ F2, Ext F1 H1 ad1 F2 H2 ad1 ∧ (∀ σ env, Now K mg σ F1 H1 ad1 env st1 → Now K mg σ F2 H2 ad1 env st1) ∧ DVR K mg F2 ad1 v x
  stop : ∀ F1 H1 ad1 st1 (i : Nat), Ext F H ad F1 H1 ad1 → Rel K mg F1 H1 ad1 st1 → xs.length ≤ i → J.stop i H1
def tWI (K : PySem.W.Frag) (mg : Str → Option Value) (f : WI) : TI := fun σ H R => ∃ F ad env st P, Now K mg σ F H ad env st ∧ f env st P ∧
  ∀ xs st' J F' ad' H', P xs st' → Ext F H ad F' H' ad' → Now K mg σ F' H' ad' env st' → ItOk K mg J xs F' H' ad' → R J H'
theorem drop_cons {α : Type} {l : List α} {i : Nat} (h : i < l.length) : ∃ x, l[i]? = some x ∧ l.drop i = x :: l.drop (i + 1) := ⟨l[i], List.getElem?_eq_getElem h, List.drop_eq_getElem_cons h⟩
theorem ds_for {iter : Expr} {body : List Stmt} {wi : WI} (hp : PassesOwn (model X.prog X.w) X.A X.env X.xe) (hc : X.calm = true) (hi : PI X tg iter (tWI K mg wi)) (hg : PG X tg (tG K mg W g)) (hb : PSs X body (tS K mg w))
    (hs : ∀ x, foldedSetIterable iter X.env x = pure x := by intro _; rfl) : PS X (.For tg iter body [] pos) (tS K mg (DL.wFor wi g w)) :=
  ds_mk (ps_for hp hc hi hg hb hs) fun D σ H F ad env st P n h p => by
    refine ⟨F, ad, env, st, _, n, h, fun xs st1 J F1 ad1 H1 q x n1 ok => ?_⟩
    refine ⟨fun i m σ3 H3 => m = xs.length - i ∧ i ≤ xs.length ∧ ∃ F3 ad3 env3 st3, Ext F1 H1 ad1 F3 H3 ad3 ∧ Now K mg σ3 F3 H3 ad3 env3 st3 ∧ forGo g w P (xs.drop i) env3 st3, ⟨xs.length, by simp, Nat.zero_le _, F1, ad1, env, st1, Ext.refl _ _ _, n1, q⟩, ?_⟩
    rintro i m σ3 H3 ⟨rfl, hi3, F3, ad3, env3, st3, x3, n3, q3⟩
    by_cases hl : i < xs.length
    · obtain ⟨y, ey, ed⟩ := drop_cons hl
      rw [ed] at q3
      refine .inr ⟨ok.go F3 H3 ad3 st3 i y x3 n3.rel ey, fun σ' H' => ∃ F4 ad4 env4 st4, Ext F1 H1 ad1 F4 H' ad4 ∧ Now K mg σ' F4 H' ad4 env4 st4 ∧ forGo g w P (xs.drop (i + 1)) env4 st4, fun σ' H' ⟨F4, ad4, env4, st4, a, b, c⟩ => ⟨xs.length - (i + 1), by omega, rfl, hl, F4, ad4, env4, st4, a, b, c⟩, fun v H4 hy => ?_⟩
      obtain ⟨F4, x4, n4, d4⟩ := ok.yld F3 H3 ad3 st3 i y x3 n3.rel ey v H4 hy
      refine ⟨F4, ad3, env3, st3, y, _, n4 _ _ n3, d4, q3, fun env5 st5 σ5 F5 ad5 H5 q5 x5 n5 _ => ?_⟩
      have x35 := (x3.trans x4).trans x5
      refine tS_go n5 q5 ⟨fun env6 st6 σ6 F6 ad6 H6 q6 x6 n6 => ⟨F6, ad6, env6, st6, x35.trans x6, n6, q6⟩, fun r st6 v6 F6 ad6 H6 q6 x6 n6 d6 => p.rt _ _ _ _ _ _ q6 ((x.trans x35).trans x6) n6 d6, fun env6 st6 σ6 F6 ad6 H6 q6 x6 n6 => p.nx _ _ _ _ _ _ q6 ((x.trans x35).trans x6) n6, fun env6 st6 σ6 F6 ad6 H6 q6 x6 n6 => ⟨F6, ad6, env6, st6, x35.trans x6, n6, q6⟩⟩
    · have e : i = xs.length := by omega
      subst e
      rw [List.drop_length] at q3
      exact .inl ⟨ok.stop F3 H3 ad3 st3 _ x3 n3.rel (Nat.le_refl _), p.nx _ _ _ _ _ _ q3 (x.trans x3) n3⟩
/-! ### comprehensions -/
theorem upd_apart {D : Addr} {o : HO} (n : Now K mg σ F H ad env st) (hD : D ∉ ad) (hF : F D = none) : Now K mg σ F (upd H D o) ad env st := by
  refine ⟨⟨fun a u e => ?_, n.rel.len, n.rel.nd, fun a ha e => ?_, fun i a c h1 h2 => ?_⟩, n.env⟩
  · have ha : a ≠ D := fun z => by rw [z, hF] at e; cases e
    rw [upd_ne ha]; exact n.rel.fl a u e
  · have hd : a ≠ D := fun z => hD (z ▸ ha)
    rw [upd_ne hd] at e
    exact n.rel.live a ha e
  · have q := n.rel.cell i a c h1 h2
    have hd : a ≠ D := fun z => hD (z ▸ List.mem_of_getElem? h1)
    cases c with
    | lst xs => obtain ⟨z, vs, e, r⟩ := q; exact ⟨z, vs, by rw [upd_ne hd]; exact e, r⟩
    | dct xs => obtain ⟨z, vs, e, r⟩ := q; exact ⟨z, vs, by rw [upd_ne hd]; exact e, r⟩
    | frz y => exact q
    | ins _ _ => trivial
/-- a list that is being made: D is apart from all else -/
theorem ext_upd {D : Addr} {o : HO} {F0 H0 : Hp} {ad0 : List Addr} (x : Ext F0 H0 ad0 F H ad) (h0 : H0 D = none) : Ext F0 H0 ad0 F (upd H D o) ad := by
  refine ⟨x.le, x.new, x.app, fun a o e ha => ?_, fun a e => ?_⟩
  · rw [upd_ne (ne_of_none e h0)]; exact x.keep a o e ha
  · by_cases hd : a = D
    · subst hd; exact h0
    · rw [upd_ne hd] at e; exact x.there a e
/-- what stays apart through a step -/
theorem apart_ext {D : Addr} {o : HO} (x : Ext F H ad F' H' ad') (hD : D ∉ ad) (hF : F D = none) (h : H D = some o) : D ∉ ad' ∧ F' D = none ∧ H' D = some o := by
  have hk : H' D = some o := (x.keep D o h (.inl hD)).elim (fun z => z) fun ⟨z, _⟩ => by rw [hF] at z; cases z
  obtain ⟨m, e, f⟩ := x.app
  refine ⟨?_, ?_, hk⟩
  · rw [e]; intro z
    rcases List.mem_append.mp z with z | z
    · exact hD z
    · rw [f D z] at h; cases h
  · cases q : F' D with
    | none => rfl
    | some u =>
      rcases x.new D (by rw [q]; simp) with z | z | z
      · exact absurd hF z
      · rw [h] at z; cases z
      · exact absurd z hD
theorem w_lc {g : WG} {tt : WT} {te : WE} {wi : WI} {own : List Nat} {σ : L2.St} {H : Hp} {Q : VK} (hW : ∀ i ∈ W, i ∈ own)
    (h : tE K mg (DL.wLc wi g tt te own) σ H Q) : L2.tLc (tWI K mg wi) (tG K mg W g) (tT K mg tt) (tE K mg te) own σ H Q := by
  obtain ⟨F, ad, env, st, P, n, h, k⟩ := h
  refine ⟨F, ad, env, st, _, n, h, fun xs st1 J F1 ad1 H1 q x n1 ok D hD => ?_⟩
  have dn : D ∉ ad1 := fun z => n1.rel.live D z hD
  have fn := n1.rel.fl.none hD
  refine ⟨fun i m H3 => m = xs.length - i ∧ i ≤ xs.length ∧ ∃ F3 ad3 st3 acc vs, Ext F1 H1 ad1 F3 H3 ad3 ∧ Now K mg σ F3 H3 ad3 env st3 ∧ H3 D = some (.lst vs) ∧ D ∉ ad3 ∧ F3 D = none ∧ RpAll K F3 vs acc ∧ acc.length ≤ i ∧ lcGo g tt te (wipeE env own) (fun ys st2 => P (.d (.list ys)) st2) (xs.drop i) acc st3,
    ⟨xs.length, by simp, Nat.zero_le _, F1, ad1, st1, [], [], ext_upd (Ext.refl _ _ _) hD, upd_apart n1 dn fn, upd_same, dn, fn, .nil, Nat.le_refl _, q⟩, ?_⟩
  rintro i m H3 ⟨rfl, hi3, F3, ad3, st3, acc, vs, x3, n3, hd3, da3, df3, ra3, hl3, q3⟩
  by_cases hl : i < xs.length
  · obtain ⟨y, ey, ed⟩ := drop_cons hl
    rw [ed] at q3
    refine .inr ⟨ok.go F3 H3 ad3 st3 i y x3 n3.rel ey, fun H' => ∃ F4 ad4 st4 acc vs, Ext F1 H1 ad1 F4 H' ad4 ∧ Now K mg σ F4 H' ad4 env st4 ∧ H' D = some (.lst vs) ∧ D ∉ ad4 ∧ F4 D = none ∧ RpAll K F4 vs acc ∧ acc.length ≤ i + 1 ∧ lcGo g tt te (wipeE env own) (fun ys st2 => P (.d (.list ys)) st2) (xs.drop (i + 1)) acc st4,
      fun H' z => ⟨xs.length - (i + 1), by omega, rfl, hl, z⟩, fun v H4 hy => ?_⟩
    obtain ⟨F4, x4, n4, d4⟩ := ok.yld F3 H3 ad3 st3 i y x3 n3.rel ey v H4 hy
    have n4w := n4 (L2.wipe σ own) (wipeE env own) ⟨n3.rel, n3.env.wipe own⟩
    obtain ⟨a4, b4, c4⟩ := apart_ext x4 da3 df3 hd3
    refine ⟨F4, ad3, wipeE env own, st3, y, _, n4w, d4, q3, fun env5 st5 σ5 F5 ad5 H5 q5 x5 n5 o5 => ⟨o5.wipe hW, ?_⟩⟩
    obtain ⟨a5, b5, c5⟩ := apart_ext x5 a4 b4 c4
    refine tT_go n5 q5 fun b st6 F6 ad6 H6 q6 x6 n6 => ?_
    obtain ⟨a6, b6, c6⟩ := apart_ext x6 a5 b5 c5
    have x36 := (x4.trans x5).trans x6
    cases b with
    | false =>
      exact ⟨F6, ad6, st6, acc, vs, x3.trans x36, ⟨n6.rel, n3.env.ext x36⟩, c6, a6, b6, RpAll.le x36.le _ _ ra3, Nat.le_succ_of_le hl3, q6⟩
    | true =>
      refine tE_go n6 q6 fun r st7 v7 F7 ad7 H7 q7 x7 n7 d7 => ?_
      obtain ⟨a7, b7, c7⟩ := apart_ext x7 a6 b6 c6
      have x37 := x36.trans x7
      cases r with
      | d y7 =>
        have hlen : vs.length < sizeLine := by
          rw [ra3.length]
          exact Nat.lt_of_le_of_lt hl3 (Nat.lt_of_lt_of_le hl ok.len)
        exact ⟨vs, c7, hlen, F7, ad7, st7, acc ++ [y7], vs ++ [v7], ext_upd (x3.trans x37) hD, upd_apart ⟨n7.rel, n3.env.ext x37⟩ a7 b7, upd_same, a7, b7, (RpAll.le x37.le _ _ ra3).append (.cons d7 .nil), by simp; exact hl3, q7⟩
      | loc _ => exact q7.elim
      | fn _ => exact q7.elim
      | scr _ => exact q7.elim
  · have e : i = xs.length := by omega
    subst e
    rw [List.drop_length] at q3
    refine .inl ⟨ok.stop F3 H3 ad3 st3 _ x3 n3.rel (Nat.le_refl _), ?_⟩
    have le : LeH F3 (upd F3 D (.lst vs)) := fun b u eb => by rw [upd_ne (ne_of_none eb df3)]; exact eb
    have hn : H D = none := x.there D hD
    have x13 := x.trans x3
    have xx : Ext F H ad (upd F3 D (.lst vs)) H3 ad3 := ⟨x13.le.trans le, fun b hb => by
      by_cases hbd : b = D
      · subst hbd; exact .inr (.inl hn)
      · rw [upd_ne hbd] at hb; exact x13.new b hb, x13.app, x13.keep, x13.there⟩
    refine k (.d (.list acc)) st3 (.ref D) (upd F3 D (.lst vs)) ad3 H3 q3 xx ⟨⟨fun b u eb => ?_, n3.rel.len, n3.rel.nd, n3.rel.live, fun j b c h1 h2 => ?_⟩, n.env.ext xx⟩ (Rp.lst upd_same (RpAll.le le _ _ ra3))
    · by_cases hbd : b = D
      · subst hbd; rw [upd_same] at eb; cases eb; exact .inl hd3
      · rw [upd_ne hbd] at eb; exact n3.rel.fl b u eb
    · have q := n3.rel.cell j b c h1 h2
      have hbd : b ≠ D := fun z => da3 (z ▸ List.mem_of_getElem? h1)
      cases c with
      | lst xs => obtain ⟨z, vs, e, r⟩ := q; exact ⟨by rw [upd_ne hbd]; exact z, vs, e, RpAll.le le _ _ r⟩
      | dct xs => obtain ⟨z, vs, e, r⟩ := q; exact ⟨by rw [upd_ne hbd]; exact z, vs, e, RpKv.le le _ _ r⟩
      | frz y => exact Rp.le le _ _ q
      | ins _ _ => trivial
theorem de_lc {elt iter : Expr} {ifs : List Expr} {scope : Scope} {own : List (Str × Nat)} {wi : WI} {tt : WT} {te : WE} (hc : X.calm = true) (hN : X.N.Nodup) (hi : PI X tg iter (tWI K mg wi)) (ok : blkC X.N X.env.scope scope own = true)
    (hg : ∀ (s : Shared) (H : Hp) (C : Addr) (cl : List (Str × Addr)) (fp : List Addr), PG (X.blk s H scope (compEnvC scope cl C X.env) fp) tg (tG K mg W g)) (ht : ∀ (s : Shared) (H : Hp) (C : Addr) (cl : List (Str × Addr)) (fp : List Addr), PTs (X.blk s H scope (compEnvC scope cl C X.env) fp) ifs (tT K mg tt))
    (he : ∀ (s : Shared) (H : Hp) (C : Addr) (cl : List (Str × Addr)) (fp : List Addr), PE (X.blk s H scope (compEnvC scope cl C X.env) fp) elt (tE K mg te)) (hW : ∀ i ∈ W, i ∈ own.map (·.2) := by decide) (hs : ∀ x, foldedSetIterable iter X.env x = pure x := by intro _; rfl) :
    PE X (.ListComp elt [⟨tg, iter, ifs, 0⟩] scope pos) (tE K mg (DL.wLc wi g tt te (own.map (·.2)))) :=
  pe_weak (pe_lc hc hN hi (blkOk_by ok) hg ht he hs) fun _ _ _ h => w_lc hW h
theorem dts_nil : PTs X [] (tT K mg wYes) := ⟨fun pins s σ H Q I ⟨F, ad, env, st, P, n, h, k⟩ => pts_nil.run pins s σ H Q I (k true st F ad H h (Ext.refl _ _ _) n)⟩
theorem dts_one {c : Expr} {t : WT} (h : PT X c (tT K mg t)) : PTs X [c] (tT K mg t) := pts_one h
end
end DL
/-! text DLCall -/
namespace DL
open PySem PySem.Spec PyProof.Rows L2
/-- room for k calls one in another; nothing that guards a repr runs -/
structure Room1 (k : Nat) (A : Around) : Prop where
  hd : A.handled = none
  gd : A.guards = some []
  dp : A.depth + k + 10 < recursionLimit
  un : A.units + 4 * k + 300 < cLine
theorem Room1.mono {j k : Nat} {A : Around} (r : Room1 k A) (h : j ≤ k) : Room1 j A := ⟨r.hd, r.gd, by have := r.dp; omega, by have := r.un; omega⟩
theorem Room1.deeper {k : Nat} {A : Around} (r : Room1 (k + 1) A) (env : PySem.Env) : Room1 k (A.deeper env) :=
  ⟨r.hd, by first | exact r.gd | (simpa [Around.deeper, Around.under, Code.guards, pushGuards] using r.gd), by have := r.dp; show A.depth + 1 + k + 10 < _; omega, by have := r.un; show A.units + 3 + 4 * k + 300 < _; omega⟩
theorem Room1.u (n : Nat) {k : Nat} {A : Around} (r : Room1 k A) (h : n ≤ 300 := by decide) : A.units + n < cLine := by have := r.un; omega
/-- a def's promise, where Room1 is -/
structure FnG (P : Program) (w : World) (K : PySem.W.Frag) (mg : Str → Option Value) (base : Heap) (CX : CXT) (k : Nat) (f : Addr) (fd : FuncData) (ps : List Str) (sp : Sp) : Prop where
  len : ∀ vs H Q E, sp vs H Q E → vs.length = ps.length
  run : ∀ (A : Around) (outer : List PySem.Env) (s : Shared) (H : Hp) (args : Args) (us : List Value) (vs : List V) (Q : VK) (E : XK), Room1 k A → Env0 P w K mg base A outer s H →
    BindsTo s fd args (ps.zip us) → Vals vs us → sp vs H Q E → codeAny (model P w) A (.call (.ref f) args) (CR CX outer P w H s Q E) s
theorem FnG.mono {P : Program} {w : World} {K : PySem.W.Frag} {mg : Str → Option Value} {base : Heap} {CX : CXT} {j k : Nat} {f : Addr} {fd : FuncData} {ps : List Str} {sp : Sp} (G : FnG P w K mg base CX j f fd ps sp) (h : j ≤ k) : FnG P w K mg base CX k f fd ps sp :=
  ⟨G.len, fun A outer s H args us vs Q E hr => G.run A outer s H args us vs Q E (hr.mono h)⟩
/-- an exception, by data -/
def FldsR (K : PySem.W.Frag) (mg : Str → Option Value) (F : Hp) (ad : List Addr) : List (Str × V) → List (Str × DV) → Prop
  | [], [] => True
  | p :: r, q :: t => p.1 = q.1 ∧ DVR K mg F ad p.2 q.2 ∧ FldsR K mg F ad r t
  | _, _ => False
def ExnR (K : PySem.W.Frag) (mg : Str → Option Value) (F H : Hp) (ad : List Addr) (cls : Value) (d : Option Addr) (x : Exn) : Prop :=
  ∃ C dd fs, mg x.cls = some (.ref C) ∧ cls = .ref C ∧ d = some dd ∧ H dd = some (.xd fs) ∧ F dd = none ∧ dd ∉ ad ∧ FldsR K mg F ad fs x.fs
def spV (K : PySem.W.Frag) (mg : Str → Option Value) (n : Nat) (sp : SpD) : Sp := fun vs H Q E => ∃ F ad st args P PE, args.length = n ∧ Rel K mg F H ad st ∧ DVRs K mg F ad vs args ∧ sp args st P PE ∧
  (∀ r st' v F' ad' H', P r st' → Ext F H ad F' H' ad' → Rel K mg F' H' ad' st' → DVR K mg F' ad' v r → Q v H') ∧
  ∀ x st' cls d F' ad' H', PE x st' → Ext F H ad F' H' ad' → Rel K mg F' H' ad' st' → ExnR K mg F' H' ad' cls d x → E cls d H'
theorem DVRs.length {K : PySem.W.Frag} {mg : Str → Option Value} {F : Hp} {ad : List Addr} : ∀ {vs : List V} {rs : List DV}, DVRs K mg F ad vs rs → vs.length = rs.length
  | _, _, .nil => rfl
  | _, _, .cons _ t => by simp [DVRs.length t]
theorem DVRs.append {K : PySem.W.Frag} {mg : Str → Option Value} {F : Hp} {ad : List Addr} : ∀ {vs us : List V} {rs ts : List DV}, DVRs K mg F ad vs rs → DVRs K mg F ad us ts → DVRs K mg F ad (vs ++ us) (rs ++ ts)
  | _, _, _, _, .nil, h => h
  | _, _, _, _, .cons r t, h => .cons r (DVRs.append t h)
theorem DVRs.get {K : PySem.W.Frag} {mg : Str → Option Value} {F : Hp} {ad : List Addr} : ∀ {vs : List V} {rs : List DV} {i : Nat} {x : DV}, DVRs K mg F ad vs rs → rs[i]? = some x → ∃ v, vs[i]? = some v ∧ DVR K mg F ad v x
  | _, _, _, _, .nil, e => by simp at e
  | _, _, 0, _, .cons r _, e => by simp at e; subst e; exact ⟨_, rfl, r⟩
  | _, _, i + 1, _, .cons _ t, e => by
    obtain ⟨v, h1, h2⟩ := DVRs.get (i := i) t (by simpa using e)
    exact ⟨v, by simpa using h1, h2⟩
section
variable {X : Cx} {CX : CXT} {k : Nat} {f : Addr} {fd : FuncData} {ps : List Str} {x : Str} {p pos : Pos} {e : Expr} {es : List Expr} {fs : WA} {sp : SpD} {ds : List Value} {dvs : List V} {dd : List DV}
/-- the callee, at a call -/
theorem runG {pins : List (Addr × Obj)} {σ : L2.St} {H : Hp} {s : Shared} {Q : VK} {us : List Value} {vs : List V} {spx : Sp} {E : XK} (G : FnG X.prog X.w X.K X.mg X.base CX k f fd ps spx) (hr : Room1 k X.A)
    (hb : Binds X.K fd ps ds) (hd : Vals dvs ds) (hx : Passes CX X E) (I : Inv X pins σ H s) (r : Vals vs us) (h : spx (vs ++ dvs) H Q E) :
    wpAny (model X.prog X.w) X.A (call (.ref f) us) (EP X pins σ Q) X.xe s := by
  have rv : Vals (vs ++ dvs) (us ++ ds) := Vals.append r hd
  have ln : (us ++ ds).length = ps.length := (rv.length).symm.trans (G.len _ _ _ _ h)
  have go := G.run X.A X.stack s H ⟨us, []⟩ (us ++ ds) (vs ++ dvs) Q E hr I.env0 (hb s us I.kIn ln) rv h
  refine wpAny_call (codeAny_mono go fun res s' q => ?_)
  match res, q with
  | .error er, q => exact hx pins σ H s er s' I q
  | .ok (.ret u), q => exact I.after q
  | .ok .next, q => exact q.elim
  | .ok .brk, q => exact q.elim
  | .ok .cont, q => exact q.elim
/-- the promise, by data, of a call's arguments -/
theorem w_call {E : EK} {EX : XK} {n : Nat} {σ : L2.St} {H : Hp} {Q : VK} {t : TA} (hn : ∀ args st P PE, sp args st P PE → args.length = n) (hdd : ∀ F ad, DVRs X.K X.mg F ad dvs dd)
    (hE : ∀ x st' cls d F' ad' H', E x st' → Rel X.K X.mg F' H' ad' st' → ExnR X.K X.mg F' H' ad' cls d x → EX cls d H')
    (ht : ∀ σ H Q, tA X.K X.mg fs σ H Q → t σ H Q)
    (h : tE X.K X.mg (wCall (fun as st P PE => sp (as ++ dd) st P PE) E fs) σ H Q) : t σ H fun vs H1 => spV X.K X.mg n sp (vs ++ dvs) H1 Q EX := by
  obtain ⟨F, ad, env, st, P, nw, h, kk⟩ := h
  refine ht _ _ _ ⟨F, ad, env, st, _, nw, h, fun rs st1 vs F1 ad1 H1 p1 x1 n1 d1 => ?_⟩
  refine ⟨F1, ad1, st1, rs ++ dd, P, E, hn _ _ _ _ p1, n1.rel, d1.append (hdd _ _), p1, fun r st2 v F2 ad2 H2 p2 x2 r2 d2 => ?_, fun xx st2 cls d F2 ad2 H2 p2 x2 r2 d2 => hE _ _ _ _ _ _ _ p2 r2 d2⟩
  exact kk r st2 v F2 ad2 H2 p2 (x1.trans x2) ⟨r2, n1.env.ext x2⟩ d2
/-- f(e, ..), some defaults filled up -/
theorem de_callX {E : EK} {EX : XK} {n : Nat} (G : FnG X.prog X.w X.K X.mg X.base CX k f fd ps (spV X.K X.mg n sp)) (hr : Room1 k X.A) (hm : X.mg x = some (.ref f)) (hk : PySem.W.keepIn X.K (.ref f) = true)
    (hn : ∀ args st P PE, sp args st P PE → args.length = n) (hb : Binds X.K fd ps ds) (hd : Vals dvs ds) (hdd : ∀ F ad, DVRs X.K X.mg F ad dvs dd) (hx : Passes CX X EX)
    (hE : ∀ x st' cls d F' ad' H', E x st' → Rel X.K X.mg F' H' ad' st' → ExnR X.K X.mg F' H' ad' cls d x → EX cls d H')
    (ha : PA X (e :: es) (tA X.K X.mg fs)) (hg : Gl X x := by rfl) (hdb : (x == ("__debug__" : Str)) = false := by decide)
    (he : starEach (e :: es) X.env = (false, eval e X.env) :: starEach es X.env := by rfl) (hpl : (backTo pos (starEach es X.env)).any (·.1) = false := by rfl) :
    PE X (.Call (.Name x p) (e :: es) [] pos) (tE X.K X.mg (wCall (fun as st P PE => sp (as ++ dd) st P PE) E fs)) := by
  refine ⟨fun pins s σ H Q I h => wpAny_Call_Name_kw (ld_glob I hg hm ?_ hdb)⟩
  have h2 : (tA X.K X.mg fs) σ H fun vs H1 => spV X.K X.mg n sp (vs ++ dvs) H1 Q EX := w_call (t := tA X.K X.mg fs) hn hdd hE (fun _ _ _ z => z) h
  refine PySem.W.callWith_K (h₀ := X.base) I.ok.mod.kin hk ?_ he hpl
  refine thn (ha.run pos pins s σ H _ I h2) ?_
  rintro us s1 ⟨vs, H1, I1, r, q⟩
  exact ⟨I1.kIn, runG G hr hb hd hx I1 r q⟩
/-- f() of no arguments -/
theorem de_call0 {E : EK} {EX : XK} (G : FnG X.prog X.w X.K X.mg X.base CX k f fd ps (spV X.K X.mg 0 sp)) (hr : Room1 k X.A) (hm : X.mg x = some (.ref f)) (hk : PySem.W.keepIn X.K (.ref f) = true)
    (hn : ∀ args st P PE, sp args st P PE → args.length = 0) (hb : Binds X.K fd ps []) (hx : Passes CX X EX)
    (hE : ∀ x st' cls d F' ad' H', E x st' → Rel X.K X.mg F' H' ad' st' → ExnR X.K X.mg F' H' ad' cls d x → EX cls d H')
    (hg : Gl X x := by rfl) (hdb : (x == ("__debug__" : Str)) = false := by decide) :
    PE X (.Call (.Name x p) [] [] pos) (tE X.K X.mg (wCall sp E wNil)) := by
  refine ⟨fun pins s σ H Q I h => wpAny_Call_Name_kw (ld_glob I hg hm ?_ hdb)⟩
  obtain ⟨F, ad, env, st, P, nw, h, kk⟩ := h
  refine PySem.W.callWith_K0 I.kIn hk (runG (us := []) (vs := []) G hr hb (.nil) hx I .nil ?_)
  exact ⟨F, ad, st, [], P, E, rfl, nw.rel, .nil, h, fun r st2 v F2 ad2 H2 p2 x2 r2 d2 => kk r st2 v F2 ad2 H2 p2 x2 ⟨r2, nw.env.ext x2⟩ d2, fun xx st2 cls d F2 ad2 H2 p2 x2 r2 d2 => hE _ _ _ _ _ _ _ p2 r2 d2⟩
end
/-! ### a def -/
section
variable {P : Program} {w : World} {K : PySem.W.Frag} {mg : Str → Option Value} {base : Heap} {CX : CXT}
/-- the rule of a def, by its body -/
theorem fnG_of {k : Nat} {f : Addr} {name qual : Str} {params : Arguments} {body : List Stmt} {scope : Scope} {dV kV doc pm cdv ct oc : Value} {an od : Option Addr} {osl : Array (Option Value)} {N ps : List Str} {sp : Sp}
    (lk : K.lookup f = some ⟨oc, od, .func (PySem.W.fnOf name qual params body scope dV kV doc pm an cdv ct), osl⟩) (hcd : PySem.W.codeIn K cdv qual = true) (S : FnScope N ps scope)
    (len : ∀ vs H Q E, sp vs H Q E → vs.length = ps.length)
    (hbody : ∀ (A : Around) (outer : List PySem.Env) (s : Shared) (H : Hp) (vs : List V) (Q : VK) (E : XK), Room1 k (A.deeper (envOfC qual scope s.heap.objs.size f cdv)) → sp vs H Q E →
      ∃ t, PSs (cxOf CX P w K mg base N qual scope f cdv A outer s H E) body t ∧ t { nx := fun _ H' => Q .non H', rt := Q } (start N vs) H) :
    FnG P w K mg base CX (k + 1) f (PySem.W.fnOf name qual params body scope dV kV doc pm an cdv ct) ps sp := by
  constructor
  · exact len
  intro A outer s H args us vs Q E hr e0 hb r hsp
  have up : ∀ b o, base.get? b = some o → s.heap.get? b = some o := fun b o z => (e0.bs b o z).1
  have kin : K.In s.heap := e0.mod.kin.keeps up
  have nol := e0.mod.nolimit.keeps up
  have kinds : ∀ y ∈ ps.zip us, scope.names.lookup y.1 = some .local ∨ (scope.names.lookup y.1 = some .cell ∧ ((cellsFrom (s.heap.objs.size + 1) scope.names []).lookup y.1).isSome = true) := by
    rintro ⟨nm, v⟩ hy
    cases S.par nm (List.of_mem_zip hy).1 with
    | inl q => exact .inl q
    | inr q => exact .inr ⟨q, PySem.W.cellsFrom_some _ _ _ (.inl q)⟩
  have dep : A.depth < recursionLimit := by have := hr.dp; omega
  refine codeAny_call_function dep (kin _ _ lk) rfl S.co S.gen rfl (PySem.W.codeRec_of kin hcd) (hb _ _ _ _ ?_)
  refine wpAny_newFunctionEnv_cells S.kind kinds fun env1 he s1 xx => ?_
  subst he
  refine ⟨nol.keeps xx.toInCall.keep, codeAny_func ?_⟩
  have lnv := len _ _ _ _ hsp
  obtain ⟨t, ht, hq⟩ := hbody A outer s H vs Q E (hr.deeper _) hsp
  have I0 := inv_start (CX := CX) (P := P) (w := w) (K := K) (mg := mg) (base := base) (E := E) S hr.hd e0 lnv r xx
  refine wpAny_mono (ht.run [] s1 (start N vs) H _ I0 hq) ?_ fun _ _ z => z
  intro fl s' hs
  match fl, hs with
  | .ret u, hs =>
    obtain ⟨v, σ', H', J, rv, q⟩ := hs
    exact ⟨v, H', J.os, J.bare, J.base, J.hok, rv, q⟩
  | .next, hs =>
    obtain ⟨σ', H', J, q⟩ := hs
    exact ⟨.non, H', J.os, J.bare, J.base, J.hok, rfl, q⟩
  | .brk, hs => exact hs.elim fun _ z => z.elim fun _ z => z.2.elim
  | .cont, hs => exact hs.elim fun _ z => z.elim fun _ z => z.2.elim
theorem envR_start {N : List Str} {F : Hp} {ad : List Addr} {vs : List V} {args : List DV} (h : DVRs K mg F ad vs args) : EnvR K mg F ad (L2.start N vs) (startE N.length args) := by
  have hl := h.length
  refine ⟨by simp [L2.start, startE, hl], fun i dv e => ?_⟩
  unfold startE at e
  by_cases hi : i < args.length
  · rw [List.getElem?_append_left (by simpa using hi), List.getElem?_map] at e
    cases q : args[i]? with
    | none => rw [q] at e; cases e
    | some x =>
      rw [q] at e; cases e
      obtain ⟨v, h1, h2⟩ := h.get q
      refine ⟨v, ?_, h2⟩
      unfold L2.start
      rw [List.getElem?_append_left (by simp [hl]; exact hi), List.getElem?_map, h1]
      rfl
  · rw [List.getElem?_append_right (by simpa using hi), List.getElem?_replicate] at e
    split at e <;> cases e
/-- what a def's changeable objects leave: those of the entry, and the answer's own -/
theorem rel_take {F H F' H' : Hp} {ad ad' : List Addr} {st st' : Store} (n : Rel K mg F H ad st) (x : Ext F H ad F' H' ad') (r : Rel K mg F' H' ad' st') : Ext F H ad F' H' ad ∧ Rel K mg F' H' ad (st'.take st.length) := by
  obtain ⟨m, e, fr⟩ := x.app
  refine ⟨⟨x.le, x.new, ⟨[], by simp, fun _ h => by simp at h⟩, x.keep, x.there⟩, ⟨r.fl, ?_, ?_, fun a h => r.live a (by rw [e]; exact List.mem_append_left _ h), fun i a c h1 h2 => ?_⟩⟩
  · have h1 := r.len
    have h2 := n.len
    rw [e, List.length_append] at h1
    rw [List.length_take]; omega
  · have := r.nd
    rw [e] at this
    exact (List.nodup_append.mp this).1
  · have hi := (List.getElem?_eq_some_iff.mp h1).1
    rw [List.getElem?_take_of_lt (by rw [← n.len]; exact hi)] at h2
    have q := r.cell i a c (by rw [e, List.getElem?_append_left hi]; exact h1) h2
    cases c with
    | lst _ => exact q
    | dct _ => exact q
    | frz _ => exact q
    | ins _ _ => exact q
theorem rel_one {F H F' H' : Hp} {ad ad' : List Addr} {st st' : Store} {i : Nat} {a : Addr} {c : Cell} (n : Rel K mg F H ad st) (x : Ext F H ad F' H' ad') (r : Rel K mg F' H' ad' st') (hi : st.length ≤ i) (ha : ad'[i]? = some a) (hc : st'[i]? = some c) :
    Ext F H ad F' H' (ad ++ [a]) ∧ Rel K mg F' H' (ad ++ [a]) (st'.take st.length ++ [c]) := by
  obtain ⟨x0, r0⟩ := rel_take n x r
  obtain ⟨m, e, fr⟩ := x.app
  have am : a ∈ m := by
    have h2 := n.len
    rw [e, List.getElem?_append_right (by omega)] at ha
    exact List.mem_of_getElem? ha
  have an : a ∉ ad := fun z => n.live a z (fr a am)
  refine ⟨⟨x.le, x.new, ⟨[a], rfl, fun b h => by simp at h; subst h; exact fr b am⟩, x.keep, x.there⟩, ⟨r.fl, by simp [r0.len], ?_, fun b h => ?_, fun j b c' h1 h2 => ?_⟩⟩
  · rw [List.nodup_append]
    refine ⟨n.nd, by simp, fun b h d hd => ?_⟩
    simp at hd; subst hd
    exact fun z => an (z ▸ h)
  · rcases List.mem_append.mp h with h | h
    · exact r0.live b h
    · simp at h; subst h; exact r.live b (List.mem_of_getElem? ha)
  · by_cases hj : j < ad.length
    · rw [List.getElem?_append_left hj] at h1
      rw [List.getElem?_append_left (by rw [← r0.len]; exact hj)] at h2
      have q := r0.cell j b c' h1 h2
      cases c' with
      | lst _ => exact q
      | dct _ => exact q
      | frz _ => exact q
      | ins _ _ => exact q
    · have e1 : j = ad.length := by
        have := (List.getElem?_eq_some_iff.mp h1).1
        simp at this; omega
      subst e1
      rw [List.getElem?_append_right (Nat.le_refl _), Nat.sub_self] at h1
      rw [List.getElem?_append_right (by rw [r0.len]; exact Nat.le_refl _), r0.len, Nat.sub_self] at h2
      cases h1
      cases h2
      have q := r.cell i a c ha hc
      cases c with
      | lst _ => exact q
      | dct _ => exact q
      | frz _ => exact q
      | ins _ _ => exact q
/-- what is wanted at a def's end -/
theorem ret_post {F H : Hp} {ad : List Addr} {st : Store} {PD : RK} {Q : VK} (n : Rel K mg F H ad st)
    (hk : ∀ r st' v F' ad' H', PD r st' → Ext F H ad F' H' ad' → Rel K mg F' H' ad' st' → DVR K mg F' ad' v r → Q v H')
    {r : DV} {st' : Store} {v : V} {F' H' : Hp} {ad' : List Addr} (q : retK st.length PD r st') (x : Ext F H ad F' H' ad') (rl : Rel K mg F' H' ad' st') (d : DVR K mg F' ad' v r) : Q v H' := by
  cases r with
  | loc m =>
    obtain ⟨a, rfl, ha⟩ := d
    unfold retK at q
    by_cases hm : m < st.length
    · simp only [if_pos hm] at q
      obtain ⟨x0, r0⟩ := rel_take n x rl
      refine hk _ _ _ F' ad H' q x0 r0 ⟨a, rfl, ?_⟩
      obtain ⟨mm, e, _⟩ := x.app
      rw [e, List.getElem?_append_left (by rw [n.len]; exact hm)] at ha
      exact ha
    · simp only [if_neg hm] at q
      obtain ⟨c, hc, q⟩ := optK_elim q
      obtain ⟨x1, r1⟩ := rel_one n x rl (Nat.le_of_not_lt hm) ha hc
      exact hk _ _ _ F' _ H' q x1 r1 ⟨a, rfl, by rw [← n.len]; simp⟩
  | d y => obtain ⟨x0, r0⟩ := rel_take n x rl; exact hk _ _ _ F' ad H' q x0 r0 d
  | fn y => obtain ⟨x0, r0⟩ := rel_take n x rl; exact hk _ _ _ F' ad H' q x0 r0 d
  | scr y => obtain ⟨x0, r0⟩ := rel_take n x rl; exact hk _ _ _ F' ad H' q x0 r0 d
/-- THE RULE: a def whose body's words keep the promise keeps it (nothing is raised) -/
theorem fn_keep {x qual : Str} {st : Stmt} {f : Addr} {fd : FuncData} {N ps : List Str} {k : Nat} {sp : SpD} {body : EK → WS} (Fu : Fun K x qual st f fd) (S : FnScope N ps (defScope st)) (hn : ∀ args st P PE, sp args st P PE → args.length = ps.length)
    (hk : Keeps N.length sp body)
    (hd : ∀ (cdv : Value) (A : Around) (outer : List PySem.Env) (s : Shared) (H : Hp) (E : XK) (EE : EK), Room1 k (A.deeper (envOfC qual (defScope st) s.heap.objs.size f cdv)) →
      PSs (cxOf CX0 P w K mg base N qual (defScope st) f cdv A outer s H E).nox (defBody st) (tS K mg (body EE))) : FnG P w K mg base CX0 (k + 1) f fd ps (spV K mg ps.length sp) := by
  obtain ⟨oc, od, kV, doc, pm, an, cdv, ct, osl, rfl, lk, hcd⟩ := Fu.ex
  refine fnG_of lk hcd S (fun vs H Q E ⟨_, _, _, args, _, _, hl, _, hv, _⟩ => hv.length.trans hl) fun A outer s H vs Q E hr hsp => ?_
  obtain ⟨F, ad, st0, args, PD, PE, hl, rl, dv, h, k1, k2⟩ := hsp
  refine ⟨_, (hd cdv A outer s H E PE hr).nox, F, ad, startE N.length args, st0, finOf st0.length PD, ⟨rl, envR_start dv⟩, hk args st0 PD PE h, ?_, ?_, ?_, ?_⟩
  · intro env' st' σ' F' ad' H' q x n'
    exact ret_post (r := .d .none) (st' := st') (v := V.non) rl k1 q x n'.rel Rp.non
  · intro r st' v F' ad' H' q x r' d'
    exact ret_post rl k1 q x r' d'
  · intro _ _ _ _ _ _ q; exact q.elim
  · intro _ _ _ _ _ _ q; exact q.elim
/-! ### the law's call -/
/-- from a heap that tracks the script alone (or nothing) -/
theorem law_core {k : Nat} {fa a : Addr} {fd : FuncData} {x : Str} {sp : SpD} {s1 : Shared} {mb : Str → Option Value} {ns : List Int} {H : Hp} {its : Array Value}
    (hk : K.In s1.heap) (hns : s1.heap.Ns mainGlobals mg) (hb : s1.heap.Ns builtinsNs mb) (hbb : ∀ y : Str, y ≠ "__name__" → mb y = bootBuiltins y) (hlim : s1.heap.NoLimit) (hg : s1.gens = #[])
    (hobj : ∀ o, s1.heap.get? a = some o → ∃ n, o.data = .seq its n) (hr : Room1 k callerA)
    (G : ∀ base : Heap, K.In base → base.Ns mainGlobals mg → FnG P w K mg base CX0 k fa fd [x] (spV K mg 1 sp)) (hbind : ∀ (s : Shared) (u : Value), BindsTo s fd ⟨[u], []⟩ [(x, u)])
    (hsp : ∀ PE, sp [.scr ns] [] (fun r _ => r = .d (.bool true)) PE)
    (hf : ∀ b u, H b = some u → b = a ∧ ∃ o xs, u = .frz o (.lst xs)) (hS : SqL K H a (ns.map V.int)) (hok : HOk P w H s1.heap) (hK : H a ≠ none → K.lookup a = none) :
    codeAny (model P w) callerA (.call (.ref fa) ⟨[.ref a], []⟩) (fun r s' => r = .ok (.ret (.bool true)) ∧ OldK s1.heap s'.heap ∧ s'.os = s1.os ∧ AllBare s'.gens) s1 := by
  -- the heap without the script
  have bs : ∀ {b : Addr} {o : Obj}, s1.heap.get? b = some o → H b = none → (hidT s1.heap H).get? b = some o := fun z q => hidT_get z q
  have off : ∀ {b : Addr} {o : Obj} {es : Array DictEntry} {ep : Nat}, s1.heap.get? b = some o → o.data = .dict es ep → H b = none := fun {b o es ep} z q => by
    cases hh : H b with
    | none => rfl
    | some u =>
      obtain ⟨rfl, _⟩ := hf b u hh
      obtain ⟨m, e⟩ := hobj o z
      rw [e] at q; cases q
  have spaces : ∀ {b : Addr} {m : Str → Option Value}, s1.heap.Ns b m → (hidT s1.heap H).Ns b m := fun ⟨o, es, ep, z, q, rest⟩ => ⟨o, es, ep, bs z (off z q), q, rest⟩
  have kb : K.In (hidT s1.heap H) := fun b o z => bs (hk b o z) (by
    cases hh : H b with
    | none => rfl
    | some u =>
      obtain ⟨rfl, _⟩ := hf b u hh
      rw [hK (by rw [hh]; simp)] at z; cases z)
  have md : Mod K mg (hidT s1.heap H) := by
    refine ⟨kb, spaces hns, ⟨mb, spaces hb, hbb⟩, ?_⟩
    obtain ⟨mc, z1, z2⟩ := hlim
    exact ⟨mc, spaces z1, z2⟩
  have en : Env0 P w K mg (hidT s1.heap H) callerA [] s1 H := by
    refine ⟨rfl, md, fun b o z => of_hidT z, Nat.le_of_eq (hidT_size _ _), trivial, ?_, hok, .of_eq hg⟩
    intro b hb2
    exact (List.not_mem_nil hb2).elim
  have pr : spV K mg 1 sp [.ref a] H (fun v _ => v = .bl true) (fun _ _ _ => True) := by
    refine ⟨H, [], [], [.scr ns], _, fun _ _ => True, rfl, ⟨fun b u z => .inl z, rfl, List.nodup_nil, fun b z => (List.not_mem_nil z).elim, fun i b c z => by simp at z⟩, .cons ⟨a, rfl, hS⟩ .nil, hsp _, ?_, fun _ _ _ _ _ _ _ _ _ _ _ => trivial⟩
    intro r st' v F' ad' H' q _ _ d
    subst q
    cases d
    rfl
  refine codeAny_mono ((G _ kb (spaces hns)).run callerA [] s1 H ⟨[.ref a], []⟩ [.ref a] [.ref a] _ _ hr en (hbind s1 (.ref a)) (.cons rfl .nil) pr) fun res s' q => ?_
  match res, q with
  | .error er, q => exact q.elim
  | .ok .next, q => exact q.elim
  | .ok .brk, q => exact q.elim
  | .ok .cont, q => exact q.elim
  | .ok (.ret u), q =>
    obtain ⟨v, H', os, bare, un, ok', rv, ev⟩ := q
    have ev' : v = .bl true := ev
    subst ev'
    have eu : u = Value.bool true := rv
    subst eu
    refine ⟨rfl, OldK.of_keep fun b o z => ?_, os, bare⟩
    cases hh : H b with
    | none => exact un.keep b o z hh (fun y => (List.not_mem_nil y).elim) (fun y => (List.not_mem_nil y).elim)
    | some u =>
      obtain ⟨_, oo, xs, rfl⟩ := hf b u hh
      have h2 := ok' b _ (un.frzs b oo _ hh)
      have h1 := hok b _ hh
      have e1 : s1.heap.get? b = some oo := h1.1
      have e2 : s'.heap.get? b = some oo := h2.1
      rw [z] at e1; cases e1
      exact e2
end
theorem walkD {l : PySem.W.OpenLaw} {n k : Nat} {q : Program} {loose : List Str} {XP : (Str → Option Value) → Heap → Prop} {YP : World → Heap → Prop} {d : DefRec} {K : Params → PySem.W.Frag} {sp : SpD} {x : Str}
    (hn : l.most = some n) (hn2 : n ≤ sizeLine) (hdf : d.params.defaults = []) (hr : Room1 k callerA) (hY : ∀ (w : World) (h : Heap), YP w h → (K w.params).In h)
    (G : ∀ (w : World) (mg : Str → Option Value) (fa : Addr) (h : Heap), (K w.params).In h → h.Ns mainGlobals mg → mg d.name = some (.ref fa) →
      ∃ fd : FuncData, (∀ (s : Shared) (u : Value), BindsTo s fd ⟨[u], []⟩ [(x, u)]) ∧
        ∀ base : Heap, (K w.params).In base → base.Ns mainGlobals mg → FnG l.prog w (K w.params) mg base CX0 k fa fd [x] (spV (K w.params) mg 1 sp))
    (hsp : ∀ ns PE, ns.length ≤ n → sp [.scr ns] [] (fun r _ => r = .d (.bool true)) PE) : PySem.W.WalkO q loose XP YP l.row.toRowW d [] (fun f vs => PySem.call f vs) := by
  refine Att.attach_call hn hdf ?_
  intro w s0 s1 mg mb fa o pm cd doc a vs ns Gr Y ho hd hcd hmg hobj hints hlen hg
  have kx := hY w _ Y
  obtain ⟨fd, hb, hG⟩ := G w mg fa _ kx Gr.T.g hmg
  have rv : Vals (ns.map V.int) vs := vals_ints hints
  have lv := hints.length
  have ls : ns.length ≤ sizeLine := Nat.le_trans hlen hn2
  have ob : ∀ o, s1.heap.get? a = some o → ∃ n, o.data = .seq vs.toArray n := fun o z => by rw [hobj] at z; cases z; exact ⟨_, rfl⟩
  cases hl : (K w.params).lookup a with
  | some oo =>
    have e := kx a oo hl
    rw [hobj] at e; cases e
    refine law_core (H := fun _ => none) (its := vs.toArray) kx Gr.T.g Gr.T.b Gr.T.builtins Gr.T.nolimit hg ob hr hG hb (fun PE => hsp ns PE hlen) (fun b u z => nomatch z) ?_ (fun b u z => nomatch z) fun z => absurd rfl z
    exact .inr ⟨_, vs.toArray, _, hl, rfl, rfl, rfl, by rw [List.size_toArray, lv]; exact ls, by simpa using rv⟩
  | none =>
    have ea : (fun b : Addr => if b = a then some (HO.frz { cls := .type "list", data := .seq vs.toArray } (.lst (ns.map V.int))) else none) a = some (HO.frz { cls := .type "list", data := .seq vs.toArray } (.lst (ns.map V.int))) := if_pos rfl
    refine law_core (H := fun b => if b = a then some (.frz { cls := .type "list", data := .seq vs.toArray } (.lst (ns.map V.int))) else none) (its := vs.toArray) kx Gr.T.g Gr.T.b Gr.T.builtins Gr.T.nolimit hg ob hr hG hb (fun PE => hsp ns PE hlen) (fun b u z => ?_) (.inl (.inr ⟨_, ea⟩)) (fun b u z => ?_) fun _ => hl
    · by_cases hba : b = a
      · subst hba
        exact ⟨rfl, _, _, (Option.some.inj (ea.symm.trans z)).symm⟩
      · simp only [if_neg hba] at z; cases z
    · by_cases hba : b = a
      · subst hba
        have := Option.some.inj (ea.symm.trans z)
        subst this
        exact ⟨hobj, by rw [List.length_map]; exact ls, vs, _, rv, hobj⟩
      · simp only [if_neg hba] at z; cases z
end DL
/-! text DLOps -/
/-! Operators and built-ins, by data. -/
namespace DL
open PySem PySem.Spec PyProof.Rows L2
/-! ### what they tell -/
def oAdd : B2
  | .int i, .int j => some (.int (i + j))
  | .str s, .str t => if s.length + t.length ≤ lim then some (.str (s ++ t)) else none
  | .tuple xs, .tuple ys => if xs.length + ys.length ≤ lim ∧ bookish (xs ++ ys) = false then some (.tuple (xs ++ ys)) else none
  | .list xs, .list ys => if xs.length + ys.length ≤ lim then some (.list (xs ++ ys)) else none
  | _, _ => none
def oSub : B2
  | .int i, .int j => some (.int (i - j))
  | _, _ => none
def small64 (i : Int) : Bool := decide (-(2 ^ 64) < i) && decide (i < 2 ^ 64)
def oMul : B2
  | .int i, .int j => if small64 i = true ∨ small64 j = true then some (.int (i * j)) else none
  | .str s, .int j => none
  | _, _ => none
def oMod : B2
  | .int i, .int j => if 0 < j then some (.int (i % j)) else none
  | _, _ => none
def oDiv : B2
  | .int i, .int j => if 0 < j ∧ j < 1073741824 then some (.int (i / j)) else none
  | _, _ => none
def oPow : B2
  | .int i, .int j => if 0 ≤ j ∧ j ≤ 1000000 ∧ i.natAbs < 2 ^ 64 then some (.int (i ^ j.toNat)) else none
  | _, _ => none
def oNeg : B1
  | .int i => some (.int (-i))
  | _ => none
def okEq (a b : PyData) : Bool := a.plain && b.plain && decide (min a.depth b.depth ≤ 200)
def okIn (x : PyData) (ys : List PyData) : Bool := PyData.plainAll ys && x.plain && decide (min (PyData.depthAll ys) x.depth ≤ 200)
def oEq : B2 := fun a b => if okEq a b = true then some (.bool (PyData.eqv a b)) else none
def oNe : B2 := fun a b => if okEq a b = true then some (.bool (!PyData.eqv a b)) else none
def oLt : B2
  | .int i, .int j => some (.bool (decide (i < j)))
  | .str s, .str t => some (.bool (decide (s.cps.toList < t.cps.toList)))
  | _, _ => none
def oLe : B2
  | .int i, .int j => some (.bool (decide (i ≤ j)))
  | .str s, .str t => some (.bool (!decide (t.cps.toList < s.cps.toList)))
  | _, _ => none
def oGt : B2
  | .int i, .int j => some (.bool (decide (j < i)))
  | .str s, .str t => some (.bool (decide (t.cps.toList < s.cps.toList)))
  | _, _ => none
def oGe : B2
  | .int i, .int j => some (.bool (decide (j ≤ i)))
  | .str s, .str t => some (.bool (!decide (s.cps.toList < t.cps.toList)))
  | _, _ => none
def inStr (s t : Str) : Bool := !(Builtin.Str.occurrences t s 0 t.length 1).isEmpty
def hasK (kvs : List (PyData × PyData)) (k : PyData) : Bool := (lookK kvs k).isSome
def oIn : B2
  | .str s, .str t => some (.bool (inStr s t))
  | k, .dict kvs => if isKey k = true then some (.bool (hasK kvs k)) else none
  | x, .list ys => if okIn x ys = true then some (.bool (ys.any fun z => PyData.eqv z x)) else none
  | x, .tuple ys => if okIn x ys = true then some (.bool (ys.any fun z => PyData.eqv z x)) else none
  | _, _ => none
def oNotIn : B2 := fun a b => (oIn a b).bind oNot
def oIsN : B2
  | x, .none => some (.bool (match x with | .none => true | _ => false))
  | _, _ => none
def oNotN : B2
  | x, .none => some (.bool (match x with | .none => false | _ => true))
  | _, _ => none
def oIx : B2
  | .tuple xs, .int i => atI xs i
  | .list xs, .int i => atI xs i
  | .str z, .int i => if z.length ≤ lim then (atI z.cps.toList i).map fun c => .str ⟨#[c]⟩ else none
  | .dict kvs, k => if isKey k = true then lookK kvs k else none
  | _, _ => none
section
variable {X : Cx} {K : PySem.W.Frag} {F H : Hp} {v : V} {d : PyData}
theorem vw_int {i : Int} (h : Vw K F H v (.int i)) : v = .int i := by cases h; rfl
theorem vw_str {s : Str} (h : Vw K F H v (.str s)) : v = .str s := by cases h; rfl
theorem vw_bl {b : Bool} (h : Vw K F H v (.bool b)) : v = .bl b := by cases h; rfl
theorem vw_non (h : Vw K F H v .none) : v = .non := by cases h; rfl
/-- an operator on two ints -/
theorem op_ii {f : Value → Value → Sem Value} {C : Int → Int → Prop} {g : Int → Int → V} {o : B2} (ho : OpR X f (rI C g)) (hc : ∀ a b c, o a b = some c → ∃ i j, a = .int i ∧ b = .int j ∧ C i j ∧ ∀ F, Rp X.K F (g i j) c) : OpR X f (rB X.K o) := by
  intro pins s σ H x y v u Q I rx ry ⟨F, a, b, c, fl, va, vb, e, k⟩
  obtain ⟨i, j, rfl, rfl, h1, h2⟩ := hc a b c e
  exact ho pins s σ H x y v u Q I rx ry ⟨i, j, vw_int va, vw_int vb, h1, k _ F H (Grow.refl fl) (h2 F)⟩
theorem op_ii0 {f : Value → Value → Sem Value} {g : Int → Int → V} {o : B2} (ho : OpR X f (rI0 g)) (hc : ∀ a b c, o a b = some c → ∃ i j, a = .int i ∧ b = .int j ∧ ∀ F, Rp X.K F (g i j) c) : OpR X f (rB X.K o) := by
  intro pins s σ H x y v u Q I rx ry ⟨F, a, b, c, fl, va, vb, e, k⟩
  obtain ⟨i, j, rfl, rfl, h2⟩ := hc a b c e
  exact ho pins s σ H x y v u Q I rx ry ⟨i, j, vw_int va, vw_int vb, k _ F H (Grow.refl fl) (h2 F)⟩
theorem do_sub : OpR X (binaryOp .Sub) (rB X.K oSub) := op_ii0 op_sub fun a b c e => by
  cases a <;> cases b <;> simp [oSub] at e
  subst e
  exact ⟨_, _, rfl, rfl, fun _ => .int _⟩
theorem do_mul : OpR X (binaryOp .Mult) (rB X.K oMul) := op_ii op_mul fun a b c e => by
  cases a <;> cases b <;> simp [oMul, small64] at e
  obtain ⟨h, rfl⟩ := e
  exact ⟨_, _, rfl, rfl, h, fun _ => .int _⟩
theorem do_mod : OpR X (binaryOp .Mod) (rB X.K oMod) := op_ii op_mod fun a b c e => by
  cases a <;> cases b <;> simp [oMod] at e
  obtain ⟨h, rfl⟩ := e
  exact ⟨_, _, rfl, rfl, h, fun _ => .int _⟩
theorem do_div : OpR X (binaryOp .FloorDiv) (rB X.K oDiv) := op_ii op_fdiv fun a b c e => by
  cases a <;> cases b <;> simp [oDiv] at e
  obtain ⟨h, rfl⟩ := e
  exact ⟨_, _, rfl, rfl, h, fun _ => .int _⟩
theorem do_pow : OpR X (binaryOp .Pow) (rB X.K oPow) := op_ii op_pow fun a b c e => by
  cases a <;> cases b <;> simp [oPow] at e
  obtain ⟨h, rfl⟩ := e
  exact ⟨_, _, rfl, rfl, h, fun _ => .int _⟩
theorem do_neg : UnR X (unaryOp .USub) (rU1 X.K oNeg) := by
  intro pins s σ H x v Q I rx ⟨F, a, c, fl, va, e, k⟩
  cases a <;> simp [oNeg] at e
  subst e
  exact un_neg pins s σ H x v Q I rx ⟨_, vw_int va, k _ F H (Grow.refl fl) (.int _)⟩
theorem do_add : OpR X (binaryOp .Add) (rB X.K oAdd) := by
  intro pins s σ H x y v u Q I rx ry ⟨F, a, b, c, fl, va, vb, e, k⟩
  cases a <;> cases b <;> simp [oAdd] at e
  · subst e
    exact op_add pins s σ H x y v u Q I rx ry ⟨_, _, vw_int va, vw_int vb, k _ F H (Grow.refl fl) (.int _)⟩
  · obtain ⟨h, rfl⟩ := e
    exact op_add_str pins s σ H x y v u Q I rx ry ⟨_, _, vw_str va, vw_str vb, by rw [← lim_eq]; exact h, k _ F H (Grow.refl fl) (.str _)⟩
  · obtain ⟨h, rfl⟩ := e
    cases va with
    | lst ha ra =>
      cases vb with
      | lst hb rb =>
        refine op_cat pins s σ H _ _ v u Q I rx ry ⟨_, _, _, _, rfl, rfl, ha, hb, by rw [ra.length, rb.length, ← lim_eq]; exact h, fun p hp => ?_⟩
        have g := fun l => grow_new (o := .lst l) fl hp (fl.none hp)
        exact k _ _ _ (g _) (.lst upd_same ((RpAll.le (g _).le _ _ ra).append (RpAll.le (g _).le _ _ rb)))
  · obtain ⟨h, rfl⟩ := e
    cases va with
    | tup ha ra =>
      cases vb with
      | tup hb rb =>
        refine op_catA pins s σ H _ _ v u Q I rx ry ⟨_, _, _, _, rfl, rfl, fl.seqT ha.sq, fl.seqT hb.sq, by rw [ra.length, rb.length, ← lim_eq]; exact h.1, fun z => ?_, fun _ z => ?_, fun _ _ p hp => ?_⟩
        · subst z
          cases ra
          exact k _ F H (Grow.refl fl) (.tup hb rb)
        · subst z
          cases rb
          rw [List.append_nil] at k
          exact k _ F H (Grow.refl fl) (.tup ha ra)
        · have g := fun l => grow_new (o := .tup l) fl hp (fl.none hp)
          exact k _ _ _ (g _) (.tup (.no (.inl (.inl upd_same)) h.2) ((RpAll.le (g _).le _ _ ra).append (RpAll.le (g _).le _ _ rb)))
/-! ### == and != -/
mutual
theorem Rp.reads {pins : List (Addr × Obj)} {s : Shared} {σ : L2.St} (I : L2.Inv X pins σ H s) (fl : FLe F H) : ∀ (d : PyData) (v : V) (u : Value), d.plain = true → Rp X.K F v d → RelV v u → ∃ as, Reads s.heap u d as
  | .none, _, _, _, h, r => by cases h; cases r; exact ⟨_, .none⟩
  | .bool b, _, _, _, h, r => by cases h; cases r; exact ⟨_, .bool b⟩
  | .int i, _, _, _, h, r => by cases h; obtain ⟨t, rfl⟩ := r; exact ⟨_, .int i t⟩
  | .str z, _, _, _, h, r => by cases h; obtain ⟨t, rfl⟩ := r; exact ⟨_, .str z t⟩
  | .list ds, _, _, p, h, r => by
    cases h with
    | lst e ra =>
      cases r
      have hl : SqL X.K H _ _ := .inl (.inl ((fl _ _ e).elim id fun ⟨_, _, z, _⟩ => nomatch z))
      obtain ⟨its, rv, ⟨o, n, ho, hc, _, hd⟩, _⟩ := I.list hl
      obtain ⟨as, hr⟩ := RpAll.reads I fl ds _ its (by simpa [PyData.plain] using p) ra rv
      exact ⟨_, .list ho hc hd hr⟩
  | .tuple ds, _, _, p, h, r => by
    cases h with
    | tup e ra =>
      cases r
      obtain ⟨its, rv, ⟨o, ho, hc, n, hd⟩, _⟩ := I.tuple (fl.seqT e.sq)
      obtain ⟨as, hr⟩ := RpAll.reads I fl ds _ its (by simpa [PyData.plain] using p) ra rv
      exact ⟨_, .tuple ho hc hd hr⟩
  | .dict kvs, _, _, p, h, r => by simp [PyData.plain] at p
theorem RpAll.reads {pins : List (Addr × Obj)} {s : Shared} {σ : L2.St} (I : L2.Inv X pins σ H s) (fl : FLe F H) : ∀ (ds : List PyData) (vs : List V) (us : List Value), PyData.plainAll ds = true → RpAll X.K F vs ds → Vals vs us → ∃ as, ReadsAll s.heap us ds as
  | [], _, _, _, h, r => by cases h; cases r; exact ⟨_, .nil⟩
  | d :: ds, _, _, p, h, r => by
    have p' : d.plain = true ∧ PyData.plainAll ds = true := by simpa [PyData.plainAll] using p
    cases h with
    | cons h1 h2 =>
      cases r with
      | cons r1 r2 =>
        obtain ⟨as, q1⟩ := Rp.reads I fl d _ _ p'.1 h1 r1
        obtain ⟨bs, q2⟩ := RpAll.reads I fl ds _ _ p'.2 h2 r2
        exact ⟨_, .cons q1 q2⟩
end
theorem Vw.reads {pins : List (Addr × Obj)} {s : Shared} {σ : L2.St} {u : Value} (I : L2.Inv X pins σ H s) (fl : FLe F H) (p : d.plain = true) (h : Vw X.K F H v d) (r : RelV v u) : ∃ as, Reads s.heap u d as := by
  cases h with
  | non => exact Rp.reads I fl _ _ _ p .non r
  | bl b => exact Rp.reads I fl _ _ _ p (.bl b) r
  | int i => exact Rp.reads I fl _ _ _ p (.int i) r
  | str x => exact Rp.reads I fl _ _ _ p (.str x) r
  | lst e ra =>
    cases r
    obtain ⟨its, rv, ⟨o, n, ho, hc, _, hd⟩, _⟩ := I.list (.inl (.inl e))
    obtain ⟨as, hr⟩ := RpAll.reads I fl _ _ its (by simpa [PyData.plain] using p) ra rv
    exact ⟨_, .list ho hc hd hr⟩
  | tup e ra => exact Rp.reads I fl _ _ _ p (.tup e ra) r
  | dct e ra => simp [PyData.plain] at p
theorem okEq_of {a b : PyData} (h : okEq a b = true) : a.plain = true ∧ b.plain = true ∧ min a.depth b.depth ≤ 200 := by
  simpa [okEq, and_assoc] using h
theorem do_eq (hu : X.A.units + 300 < cLine) : OpR X (compareOp .Eq) (rB X.K oEq) := by
  intro pins s σ H x y v u Q I rx ry ⟨F, a, b, c, fl, va, vb, e, k⟩
  unfold oEq at e
  split at e
  · rename_i h
    cases e
    obtain ⟨p1, p2, p3⟩ := okEq_of h
    obtain ⟨as, r1⟩ := va.reads I fl p1 rx
    obtain ⟨bs, r2⟩ := vb.reads I fl p2 ry
    exact SeqAt.eq_plain r1 r2 p1 p2 (by omega) ⟨.bl _, H, I, rfl, k _ F H (Grow.refl fl) (.bl _)⟩
  · cases e
theorem do_ne (hu : X.A.units + 300 < cLine) : OpR X (compareOp .NotEq) (rB X.K oNe) := by
  intro pins s σ H x y v u Q I rx ry ⟨F, a, b, c, fl, va, vb, e, k⟩
  unfold oNe at e
  split at e
  · rename_i h
    cases e
    obtain ⟨p1, p2, p3⟩ := okEq_of h
    obtain ⟨as, r1⟩ := va.reads I fl p1 rx
    obtain ⟨bs, r2⟩ := vb.reads I fl p2 ry
    exact SeqAt.ne_plain r1 r2 p1 p2 (by omega) ⟨.bl _, H, I, rfl, k _ F H (Grow.refl fl) (.bl _)⟩
  · cases e
theorem do_lt : OpR X (compareOp .Lt) (rB X.K oLt) := by
  intro pins s σ H x y v u Q I rx ry ⟨F, a, b, c, fl, va, vb, e, k⟩
  cases a <;> cases b <;> cases e
  · exact op_lt pins s σ H x y v u Q I rx ry ⟨_, _, vw_int va, vw_int vb, k _ F H (Grow.refl fl) (.bl _)⟩
  · exact op_lt_str pins s σ H x y v u Q I rx ry ⟨_, _, vw_str va, vw_str vb, k _ F H (Grow.refl fl) (.bl _)⟩
theorem do_le : OpR X (compareOp .LtE) (rB X.K oLe) := by
  intro pins s σ H x y v u Q I rx ry ⟨F, a, b, c, fl, va, vb, e, k⟩
  cases a <;> cases b <;> cases e
  · exact op_le pins s σ H x y v u Q I rx ry ⟨_, _, vw_int va, vw_int vb, k _ F H (Grow.refl fl) (.bl _)⟩
  · exact op_le_str pins s σ H x y v u Q I rx ry ⟨_, _, vw_str va, vw_str vb, k _ F H (Grow.refl fl) (.bl _)⟩
theorem do_gt : OpR X (compareOp .Gt) (rB X.K oGt) := by
  intro pins s σ H x y v u Q I rx ry ⟨F, a, b, c, fl, va, vb, e, k⟩
  cases a <;> cases b <;> cases e
  · exact op_gt pins s σ H x y v u Q I rx ry ⟨_, _, vw_int va, vw_int vb, k _ F H (Grow.refl fl) (.bl _)⟩
  · exact op_gt_str pins s σ H x y v u Q I rx ry ⟨_, _, vw_str va, vw_str vb, k _ F H (Grow.refl fl) (.bl _)⟩
theorem do_ge : OpR X (compareOp .GtE) (rB X.K oGe) := by
  intro pins s σ H x y v u Q I rx ry ⟨F, a, b, c, fl, va, vb, e, k⟩
  cases a <;> cases b <;> cases e
  · exact op_ge pins s σ H x y v u Q I rx ry ⟨_, _, vw_int va, vw_int vb, k _ F H (Grow.refl fl) (.bl _)⟩
  · exact op_ge_str pins s σ H x y v u Q I rx ry ⟨_, _, vw_str va, vw_str vb, k _ F H (Grow.refl fl) (.bl _)⟩
/-! ### keys -/
theorem isKey_key {k : PyData} (h : isKey k = true) : ∃ q : Key, k = keyD q := by
  cases k <;> simp [isKey] at h
  · exact ⟨.inl _, rfl⟩
  · exact ⟨.inr _, rfl⟩
theorem keyEq_iff (p q : Key) : keyEq (keyD p) (keyD q) = decide (p = q) := by
  cases p <;> cases q
  · rename_i a b
    by_cases h : a = b <;> simp [keyEq, keyD, h]
  · simp [keyEq, keyD]
  · simp [keyEq, keyD]
  · rename_i a b
    by_cases h : a = b <;> simp [keyEq, keyD, h]
theorem vw_key {q : Key} (h : Vw K F H v (keyD q)) : v = kV q := by
  cases q with
  | inl i => exact vw_int h
  | inr x => exact vw_str h
theorem RpKv.look (q : Key) : ∀ {kvs : List (Key × V)} {ds : List (PyData × PyData)}, RpKv K F kvs ds → (lookK ds (keyD q) = none ∧ valV kvs q = none) ∨ ∃ x v, lookK ds (keyD q) = some x ∧ valV kvs q = some v ∧ Rp K F v x
  | _, [], h => by cases h; exact .inl ⟨rfl, rfl⟩
  | _, _ :: ds, h => by
    cases h with
    | cons r rs =>
      rename_i k v t e
      unfold lookK
      simp only
      rw [keyEq_iff]
      by_cases hk : k = q
      · subst hk
        rw [valV_pos rfl]
        exact .inr ⟨_, _, if_pos (decide_eq_true rfl), rfl, r⟩
      · rw [valV_neg hk, if_neg (by simpa using hk)]
        exact RpKv.look q rs
theorem hasK_of (q : Key) {kvs : List (Key × V)} {ds : List (PyData × PyData)} (r1 : RpKv K F kvs ds) : hasK ds (keyD q) = (valV kvs q).isSome := by
  unfold hasK
  rcases RpKv.look q r1 with ⟨h1, h2⟩ | ⟨x, v, h1, h2, _⟩
  · rw [h1, h2]; rfl
  · rw [h1, h2]; rfl
theorem dget_of {a : Addr} {kvs : List (Key × V)} {q : Key} (e : Rd H a (.dK kvs)) : DGet H a (kV q) (valV kvs q) := .inl ⟨kvs, q, e, rfl, rfl⟩
theorem do_in (hu : X.A.units + 300 < cLine) : OpR X (compareOp .In) (rB X.K oIn) := by
  intro pins s σ H x y v u Q I rx ry ⟨F, a, b, c, fl, va, vb, e, k⟩
  have dk : ∀ kvs, b = .dict kvs → isKey a = true → c = .bool (hasK kvs a) → wpAny (model X.prog X.w) X.A (compareOp .In v u) (EP X pins σ Q) X.xe s := by
    intro kvs hb ha hc
    subst hb; subst hc
    obtain ⟨q, rfl⟩ := isKey_key ha
    cases vb with
    | dct e1 r1 =>
      cases ry
      have hx := vw_key va
      subst hx
      refine d_in (o := _) (by omega) I (dget_of e1) rx fun s' I' => ⟨.bl _, H, I', rfl, ?_⟩
      refine k _ F H (Grow.refl fl) ?_
      rw [hasK_of q r1]
      exact .bl _
  have ls : ∀ ys, b = .list ys → okIn a ys = true → c = .bool (ys.any fun z => PyData.eqv z a) → wpAny (model X.prog X.w) X.A (compareOp .In v u) (EP X pins σ Q) X.xe s := by
    intro ys hb ho hc
    subst hb; subst hc
    have ho' : PyData.plainAll ys = true ∧ a.plain = true ∧ min (PyData.depthAll ys) a.depth ≤ 200 := by simpa [okIn, and_assoc] using ho
    obtain ⟨as, r1⟩ := va.reads I fl ho'.2.1 rx
    obtain ⟨bs, r2⟩ := vb.reads I fl (by simpa [PyData.plain] using ho'.1) ry
    exact SeqAt.in_list_data r2 r1 ho'.1 ho'.2.1 (by omega) ⟨.bl _, H, I, rfl, k _ F H (Grow.refl fl) (.bl _)⟩
  have ts : ∀ ys, b = .tuple ys → okIn a ys = true → c = .bool (ys.any fun z => PyData.eqv z a) → wpAny (model X.prog X.w) X.A (compareOp .In v u) (EP X pins σ Q) X.xe s := by
    intro ys hb ho hc
    subst hb; subst hc
    have ho' : PyData.plainAll ys = true ∧ a.plain = true ∧ min (PyData.depthAll ys) a.depth ≤ 200 := by simpa [okIn, and_assoc] using ho
    obtain ⟨as, r1⟩ := va.reads I fl ho'.2.1 rx
    obtain ⟨bs, r2⟩ := vb.reads I fl (by simpa [PyData.plain] using ho'.1) ry
    exact SeqAt.in_tuple_data r2 r1 ho'.1 ho'.2.1 (by omega) ⟨.bl _, H, I, rfl, k _ F H (Grow.refl fl) (.bl _)⟩
  cases b with
  | dict kvs =>
    have : isKey a = true ∧ c = .bool (hasK kvs a) := by
      cases a <;> simp [oIn] at e <;> exact ⟨e.1, e.2.symm⟩
    exact dk kvs rfl this.1 this.2
  | list ys =>
    have : okIn a ys = true ∧ c = .bool (ys.any fun z => PyData.eqv z a) := by
      cases a <;> simp [oIn] at e <;> exact ⟨e.1, e.2.symm⟩
    exact ls ys rfl this.1 this.2
  | tuple ys =>
    have : okIn a ys = true ∧ c = .bool (ys.any fun z => PyData.eqv z a) := by
      cases a <;> simp [oIn] at e <;> exact ⟨e.1, e.2.symm⟩
    exact ts ys rfl this.1 this.2
  | str t =>
    cases a <;> simp [oIn] at e
    subst e
    exact op_in_str pins s σ H x y v u Q I rx ry ⟨_, _, vw_str va, vw_str vb, k _ F H (Grow.refl fl) (.bl _)⟩
  | none => cases a <;> simp [oIn] at e
  | bool _ => cases a <;> simp [oIn] at e
  | int _ => cases a <;> simp [oIn] at e
theorem do_isN : OpR X (compareOp .Is) (rB X.K oIsN) := by
  intro pins s σ H x y v u Q I rx ry ⟨F, a, b, c, fl, va, vb, e, k⟩
  cases b <;> simp [oIsN] at e
  subst e
  refine op_isN pins s σ H x y v u Q I rx ry ⟨vw_non vb, k _ F H (Grow.refl fl) ?_⟩
  cases va <;> exact .bl _
theorem do_notN : OpR X (compareOp .IsNot) (rB X.K oNotN) := by
  intro pins s σ H x y v u Q I rx ry ⟨F, a, b, c, fl, va, vb, e, k⟩
  cases b <;> simp [oNotN] at e
  subst e
  refine op_notN pins s σ H x y v u Q I rx ry ⟨vw_non vb, k _ F H (Grow.refl fl) ?_⟩
  cases va <;> exact .bl _
end
end DL
/-! text DLOps2 -/
namespace DL
open PySem PySem.Spec PyProof.Rows L2
/-! ### subscripts, slices, len -/
def cutG {α : Type} (xs : List α) (lo hi : Option Int) : List α := (xs.drop (HT.sIx xs.length 0 lo)).take (HT.sIx xs.length xs.length hi - HT.sIx xs.length 0 lo)
def oSl : PyData → Option Int → Option Int → Option PyData
  | .tuple xs, lo, hi => if bookish (cutG xs lo hi) = false then some (.tuple (cutG xs lo hi)) else none
  | .list xs, lo, hi => some (.list (cutG xs lo hi))
  | .str z, lo, hi => if z.length ≤ lim then some (.str (cutS z lo hi)) else none
  | _, _, _ => none
def lenOf : PyData → Option Nat
  | .tuple xs => some xs.length
  | .list xs => some xs.length
  | .str z => if z.length ≤ lim then some z.length else none
  | .dict kvs => some kvs.length
  | _ => none
def oLen : B1 := fun x => (lenOf x).map fun n => .int n
/-- what is seen, the script too -/
inductive VwS (K : PySem.W.Frag) (F H : Hp) : V → PyData → Prop
  | vw {v : V} {d : PyData} : Vw K F H v d → VwS K F H v d
  | scr {a : Addr} {ns : List Int} : SqL K H a (ns.map V.int) → VwS K F H (.ref a) (.list (ns.map PyData.int))
section
variable {X : Cx} {K : PySem.W.Frag} {mg : Str → Option Value} {F H F' H' : Hp} {ad ad' : List Addr} {env : Env} {st : Store} {σ : L2.St} {v : V} {d : PyData} {a b : Expr} {fa fb : WE} {pos : Pos}
theorem FLe.seqL (fl : FLe F H) {a : Addr} {xs : List V} (h : SqL K F a xs) : SqL K H a xs := by
  rcases h with (h | ⟨o, h⟩) | h
  · rcases fl _ _ h with z | ⟨_, _, z, _⟩
    · exact .inl (.inl z)
    · cases z
  · rcases fl _ _ h with z | ⟨_, _, z, _⟩
    · exact .inl (.inr ⟨o, z⟩)
    · cases z
  · exact .inr h
theorem Rel.vwS (R : Rel K mg F H ad st) {r : DV} (h : DVR K mg F ad v r) (e : rdS st r = some d) : VwS K F H v d := by
  cases r with
  | scr ns =>
    cases e
    obtain ⟨a, rfl, q⟩ := h
    exact .scr (R.fl.seqL q)
  | d x => exact .vw (R.vw h e)
  | loc n => exact .vw (R.vw h e)
  | fn f => cases e
def rBS (K : PySem.W.Frag) (op : B2) : R2 := fun x y H Q => ∃ F a b c, FLe F H ∧ VwS K F H x a ∧ Vw K F H y b ∧ op a b = some c ∧ ∀ z F' H', Grow F H F' H' → Rp K F' z c → Q z H'
theorem w_binS {op : B2} {σ : L2.St} {H : Hp} {Q : VK} (h : tE K mg (wBinS op fa fb) σ H Q) : tOp (rBS K op) (tE K mg fa) (tE K mg fb) σ H Q := by
  obtain ⟨F, ad, env, st, P, n, h, k⟩ := h
  refine tE_go n h fun r1 st1 v1 F1 ad1 H1 p1 x1 n1 d1 => ?_
  refine tE_go n1 p1 fun r2 st2 v2 F2 ad2 H2 p2 x2 n2 d2 => ?_
  obtain ⟨a, ea, p3⟩ := optK_elim p2
  obtain ⟨b, eb, p4⟩ := optK_elim p3
  obtain ⟨c, ec, p5⟩ := optK_elim p4
  refine ⟨F2, a, b, c, n2.rel.fl, n2.rel.vwS (d1.ext x2) ea, n2.rel.vw d2 eb, ec, fun z F' H' g q => ?_⟩
  exact k (.d c) st2 z F' ad2 H' p5 ((x1.trans x2).trans (g.ext ad2)) (n2.grow g) q
theorem atI_rp {xs : List V} {ds : List PyData} {i : Int} {x : PyData} (r : RpAll K F xs ds) (e : atI ds i = some x) : ∃ v, atI xs i = some v ∧ Rp K F v x := by
  unfold atI at e ⊢
  rw [r.length]
  cases q : ixN ds.length i with
  | none => rw [q] at e; cases e
  | some j =>
    rw [q] at e
    exact r.get e
theorem atI_map {α β : Type} (f : α → β) (xs : List α) (i : Int) : atI (xs.map f) i = (atI xs i).map f := by
  unfold atI
  rw [List.length_map]
  cases q : ixN xs.length i with
  | none => rfl
  | some j => simp
theorem ix_dictD (hu : X.A.units + 1 < cLine) : IxR X (fun x y H Q => ∃ a v, x = .ref a ∧ DGet H a y (some v) ∧ Q v H) := by
  intro value slice pins s σ H x y v u Q I rx ry ⟨a, w, ex, g, q⟩ hs
  subst ex
  cases rx
  have ty := dict_typeIs I g
  unfold subscriptTail
  refine wpAny_bind ?_
  rw [getitemInPython_of_ne ty.not_modules]
  refine wpAny_bind (wpAny_specialOf ty PySem.F.slot_dict_getitem.lookup ?_)
  have go : wpAny (model X.prog X.w) X.A (subscripted slice false (.ref a) u) (fun r s3 => wpAny (model X.prog X.w) X.A (letTemporaryGo value (.ref a) r >>= fun _ => pure r) (EP X pins σ Q) X.xe s3) X.xe s := by
    rw [hs]
    exact wpAny_operating (d_getItem hu I g ry fun w' s3 I3 rw' => wpAny_bind (wpAny_letTemporaryGo (wpAny_pure ⟨w, H, I3, rw', q⟩)))
  first | exact wpAny_pure (wpAny_bind go) | exact wpAny_bind (wpAny_pure (wpAny_bind go)) | exact wpAny_bind go
theorem do_ix (hu : X.A.units + 300 < cLine) : IxR X (rBS X.K oIx) := by
  intro value slice pins s σ H x y v u Q I rx ry ⟨F, a, b, c, fl, va, vb, e, k⟩ hs
  cases va with
  | scr hl =>
    cases b <;> simp [oIx] at e
    rw [atI_map] at e
    cases q : atI _ _ with
    | none => rw [q] at e; cases e
    | some n =>
      rw [q] at e
      cases e
      refine ix_list value slice pins s σ H _ _ v u Q I rx ry ⟨_, _, _, .int n, rfl, vw_int vb, hl, by rw [atI_map, q]; rfl, k _ F H (Grow.refl fl) (.int n)⟩ hs
  | vw va =>
    cases va with
    | non => cases b <;> simp [oIx] at e
    | bl _ => cases b <;> simp [oIx] at e
    | int _ => cases b <;> simp [oIx] at e
    | str z =>
      cases b <;> simp [oIx] at e
      obtain ⟨hz, c', ec, rfl⟩ := e
      exact ix_str value slice pins s σ H _ _ v u Q I rx ry ⟨z, _, c', rfl, vw_int vb, by rw [← lim_eq]; exact hz, ec, k _ F H (Grow.refl fl) (.str _)⟩ hs
    | lst ea ra =>
      cases b <;> simp [oIx] at e
      obtain ⟨w, ew, rw'⟩ := atI_rp ra e
      exact ix_list value slice pins s σ H _ _ v u Q I rx ry ⟨_, _, _, w, rfl, vw_int vb, .inl (.inl ea), ew, k _ F H (Grow.refl fl) rw'⟩ hs
    | tup ea ra =>
      cases b <;> simp [oIx] at e
      obtain ⟨w, ew, rw'⟩ := atI_rp ra e
      exact ix_tup value slice pins s σ H _ _ v u Q I rx ry ⟨_, _, _, w, rfl, vw_int vb, fl.seqT ea.sq, ew, k _ F H (Grow.refl fl) rw'⟩ hs
    | @dct a' kvs' ds' ea ra =>
      have e' : isKey b = true ∧ lookK ds' b = some c := by
        first
          | (cases b <;> simp [oIx, isKey] at e <;> exact ⟨rfl, e⟩)
          | (cases b <;> simp [oIx, isKey] at e ⊢ <;> exact e)
      obtain ⟨q, rfl⟩ := isKey_key e'.1
      have hy := vw_key vb
      subst hy
      rcases RpKv.look q ra with ⟨h1, _⟩ | ⟨x', v', h1, h2, h3⟩
      · rw [h1] at e'; cases e'.2
      · have hc : x' = c := Option.some.inj (h1.symm.trans e'.2)
        subst hc
        refine ix_dictD (by omega) value slice pins s σ H _ _ v u Q I rx ry ⟨_, v', rfl, ?_, k _ F H (Grow.refl fl) h3⟩ hs
        rw [← h2]
        exact dget_of ea
theorem de_ix (hu : X.A.units + 300 < cLine) (ha : PE X a (tE X.K mg fa)) (hb : PE X b (tE X.K mg fb)) (hs : PlainIx b := by exact fun _ _ => rfl) : PE X (.Subscript a b pos) (tE X.K mg (wBinS oIx fa fb)) :=
  pe_weak (pe_ix (do_ix hu) ha hb hs) fun _ _ _ h => w_binS h
end
end DL
/-! text DLOps3 -/
namespace DL
open PySem PySem.Spec PyProof.Rows L2
/-! ### several arguments, a frozen answer -/
inductive VwAll (K : PySem.W.Frag) (F H : Hp) : List V → List PyData → Prop
  | nil : VwAll K F H [] []
  | cons {v : V} {vs : List V} {d : PyData} {ds : List PyData} : Vw K F H v d → VwAll K F H vs ds → VwAll K F H (v :: vs) (d :: ds)
def rCN (K : PySem.W.Frag) (op : List PyData → Option PyData) : List V → Hp → VK → Prop := fun vs H Q => ∃ F ds c, FLe F H ∧ VwAll K F H vs ds ∧ op ds = some c ∧ ∀ z F' H', Grow F H F' H' → Rp K F' z c → Q z H'
def rMN (K : PySem.W.Frag) (op : PyData → List PyData → Option PyData) : V → List V → Hp → VK → Prop := fun v vs H Q => ∃ F d ds c, FLe F H ∧ Vw K F H v d ∧ VwAll K F H vs ds ∧ op d ds = some c ∧ ∀ z F' H', Grow F H F' H' → Rp K F' z c → Q z H'
/-- an operator of one argument, as one of several -/
def on1 (op : B1) : List PyData → Option PyData
  | [x] => op x
  | _ => none
def on2 (op : B2) : List PyData → Option PyData
  | [x, y] => op x y
  | _ => none
section
variable {X : Cx} {K : PySem.W.Frag} {mg : Str → Option Value} {F H F' H' : Hp} {ad ad' : List Addr} {env : Env} {st : Store} {σ : L2.St} {v : V} {d : PyData} {a b e : Expr} {es : List Expr} {f fa fb : WE} {fs : WA} {pos p : Pos} {x : Str} {id : String}
theorem Rel.vwAll (R : Rel K mg F H ad st) : ∀ {vs : List V} {rs : List DV} {ds : List PyData}, DVRs K mg F ad vs rs → rds st rs = some ds → VwAll K F H vs ds
  | _, _, _, .nil, e => by cases e; exact .nil
  | _, _, ds, .cons (r := r) (rs := rs) h t, e => by
    unfold rds at e
    cases q : rd st r with
    | none => rw [q] at e; cases e
    | some y =>
      cases q2 : rds st rs with
      | none => rw [q, q2] at e; cases e
      | some ys =>
        rw [q, q2] at e; cases e
        exact .cons (R.vw h q) (R.vwAll t q2)
theorem w_opN {op : List PyData → Option PyData} {σ : L2.St} {H : Hp} {Q : VK} (h : tE K mg (wOpN op fs) σ H Q) : tA K mg fs σ H fun vs H1 => rCN K op vs H1 Q := by
  obtain ⟨F, ad, env, st, P, n, h, k⟩ := h
  refine ⟨F, ad, env, st, _, n, h, fun rs st1 vs F1 ad1 H1 p1 x1 n1 d1 => ?_⟩
  obtain ⟨ds, ed, p2⟩ := optK_elim p1
  obtain ⟨c, ec, p3⟩ := optK_elim p2
  exact ⟨F1, ds, c, n1.rel.fl, n1.rel.vwAll d1 ed, ec, fun z F' H' g q => k _ _ _ _ _ _ p3 (x1.trans (g.ext ad1)) (n1.grow g) q⟩
/-- a built-in function by its name -/
theorem de_b {op : List PyData → Option PyData} (hc : CallR X (.builtin id) (rCN X.K op)) (hm : X.mg x = none) (hv : bootBuiltins x = some (.builtin id)) (ha : PA X (e :: es) (tA X.K mg fs)) (hg : Gl X x := by rfl) (hn : x ≠ "__name__" := by decide) (hdb : (x == ("__debug__" : Str)) = false := by decide)
    (he : starEach (e :: es) X.env = (false, eval e X.env) :: starEach es X.env := by rfl) (hpl : (backTo pos (starEach es X.env)).any (·.1) = false := by rfl) : PE X (.Call (.Name x p) (e :: es) [] pos) (tE X.K mg (wOpN op fs)) :=
  pe_weak (pe_callB hc hg hm hv ha hn hdb he hpl) fun _ _ _ h => w_opN h
/-- a built-in class by its name -/
theorem de_ty {op : List PyData → Option PyData} (hc : CallR X (.type id) (rCN X.K op)) (hm : X.mg x = none) (hv : bootBuiltins x = some (.type id)) (ha : PA X (e :: es) (tA X.K mg fs)) (hg : Gl X x := by rfl) (hn : x ≠ "__name__" := by decide) (hdb : (x == ("__debug__" : Str)) = false := by decide)
    (he : starEach (e :: es) X.env = (false, eval e X.env) :: starEach es X.env := by rfl) (hpl : (backTo pos (starEach es X.env)).any (·.1) = false := by rfl) : PE X (.Call (.Name x p) (e :: es) [] pos) (tE X.K mg (wOpN op fs)) :=
  pe_weak (pe_callTy hc hg hm hv ha hn hdb he hpl) fun _ _ _ h => w_opN h
/-! ### len -/
theorem vwS_len {v : V} {d : PyData} {n : Nat} (fl : FLe F H) (h : VwS K F H v d) (e : lenOf d = some n) (nd : ∀ kvs, d ≠ .dict kvs) : LenV K v H n := by
  cases h with
  | scr hl => cases e; exact .inl ⟨_, hl, by simp⟩
  | vw h =>
    cases h with
    | non => cases e
    | bl _ => cases e
    | int _ => cases e
    | str z =>
      have e' : (if z.length ≤ lim then some z.length else none) = some n := e
      by_cases hz : z.length ≤ lim
      · rw [if_pos hz] at e'
        cases e'
        exact ⟨by rw [← lim_eq]; exact hz, rfl⟩
      · rw [if_neg hz] at e'; cases e'
    | lst ea ra => cases e; exact .inl ⟨_, .inl (.inl ea), by rw [ra.length]⟩
    | tup ea ra => cases e; exact .inr ⟨_, fl.seqT ea.sq, by rw [ra.length]⟩
    | dct ea ra => exact absurd rfl (nd _)
theorem call_lenD {v : V} {d : PyData} {n : Nat} {pins : List (Addr × Obj)} {s : Shared} {σ : L2.St} {u : Value} {Q : VK} (I : L2.Inv X pins σ H s) (fl : FLe F H) (h : VwS X.K F H v d) (e : lenOf d = some n) (r : RelV v u) (q : Q (.int n) H) :
    wpAny (model X.prog X.w) X.A (call (.builtin "len") [u]) (EP X pins σ Q) X.xe s := by
  by_cases nd : ∀ kvs, d ≠ .dict kvs
  · exact call_len pins s σ H [v] [u] Q I (.cons r .nil) ⟨v, n, rfl, vwS_len fl h e nd, q⟩
  · have ⟨kvs, hk⟩ : ∃ kvs, d = .dict kvs := by
      cases d with
      | dict kvs => exact ⟨kvs, rfl⟩
      | _ => exact absurd (fun kvs z => nomatch z) nd
    subst hk
    cases h with
    | vw h =>
      cases h with
      | dct ea ra =>
        cases e
        cases r
        exact d_len I ea fun t s' I' => ⟨.int kvs.length, H, I', ⟨t, by rw [ra.length]⟩, q⟩
def rCS (K : PySem.W.Frag) (op : B1) : List V → Hp → VK → Prop := fun vs H Q => ∃ F v d c, vs = [v] ∧ FLe F H ∧ VwS K F H v d ∧ op d = some c ∧ ∀ z F' H', Grow F H F' H' → Rp K F' z c → Q z H'
theorem dc_len : CallR X (.builtin "len") (rCS X.K oLen) := by
  intro pins s σ H xs us Q I r ⟨F, v, d, c, ex, fl, h, e, k⟩
  subst ex
  cases r with
  | cons r1 r2 =>
    cases r2
    unfold oLen at e
    cases q : lenOf d with
    | none => rw [q] at e; cases e
    | some n =>
      rw [q] at e; cases e
      exact call_lenD I fl h q r1 (k _ F H (Grow.refl fl) (.int _))
theorem w_unS {op : B1} {σ : L2.St} {H : Hp} {Q : VK} (h : tE K mg (wUnS op fa) σ H Q) : tCB (rCS K op) (L2.tCons (tE K mg fa) L2.tNil) σ H Q := by
  obtain ⟨F, ad, env, st, P, n, h, k⟩ := h
  refine tE_go n h fun r1 st1 v1 F1 ad1 H1 p1 x1 n1 d1 => ?_
  obtain ⟨a, ea, p3⟩ := optK_elim p1
  obtain ⟨c, ec, p5⟩ := optK_elim p3
  exact ⟨F1, v1, a, c, rfl, n1.rel.fl, n1.rel.vwS d1 ea, ec, fun z F' H' g q => k (.d c) st1 z F' ad1 H' p5 (x1.trans (g.ext ad1)) (n1.grow g) q⟩
theorem de_len (ha : PE X e (tE X.K mg fa)) (hm : X.mg "len" = none) (hg : Gl X "len" := by rfl)
    (he : starEach (e :: []) X.env = (false, eval e X.env) :: starEach [] X.env := by rfl) (hpl : (backTo pos (starEach [] X.env)).any (·.1) = false := by rfl) : PE X (.Call (.Name "len" p) [e] [] pos) (tE X.K mg (wUnS oLen fa)) :=
  pe_weak (pe_callB dc_len hg hm PySem.boot_len (L2.pa_cons ha L2.pa_nil he) (by decide) (by decide) he hpl) fun _ _ _ h => w_unS h
/-! ### slices -/
theorem RpAll.cut {xs : List V} {ds : List PyData} (lo hi : Option Int) (r : RpAll K F xs ds) : RpAll K F (cutV xs lo hi) (cutG ds lo hi) := by
  unfold cutV cutG
  rw [r.length]
  exact (r.drop _).take _
theorem cutG_map {α β : Type} (f : α → β) (xs : List α) (lo hi : Option Int) : cutG (xs.map f) lo hi = (cutG xs lo hi).map f := by
  unfold cutG
  rw [List.length_map, List.map_take, List.map_drop]
theorem rpAll_ints (ns : List Int) : RpAll K F (ns.map V.int) (ns.map PyData.int) := by
  induction ns with
  | nil => exact .nil
  | cons n ns ih => exact .cons (.int n) ih
def rSlD (K : PySem.W.Frag) (op : PyData → Option Int → Option Int → Option PyData) : V → Option Int → Option Int → Hp → VK → Prop := fun x lo hi H Q => ∃ F a c, FLe F H ∧ VwS K F H x a ∧ op a lo hi = some c ∧ ∀ z F' H', Grow F H F' H' → Rp K F' z c → Q z H'
theorem cut_whole {α : Type} {xs : List α} {lo hi : Option Int} (h : HT.sIx xs.length 0 lo = 0 ∧ HT.sIx xs.length xs.length hi = xs.length) : cutG xs lo hi = xs := by
  unfold cutG
  rw [h.1, h.2]
  simp
theorem do_sl : SlR X (rSlD X.K oSl) := by
  intro pins s σ H x v vl vu lo hi sl Q I rx hs pl pu ⟨F, a, c, fl, va, e, k⟩
  cases va with
  | scr hl =>
    cases e
    refine sl_list pins s σ H _ v vl vu lo hi sl Q I rx hs pl pu ⟨_, _, rfl, hl, fun p hp => ?_⟩
    have g := fun l => grow_new (o := .lst l) fl hp (fl.none hp)
    exact k _ _ _ (g _) (.lst upd_same ((rpAll_ints _).cut lo hi))
  | vw va =>
    cases va with
    | non => cases e
    | bl _ => cases e
    | int _ => cases e
    | dct _ _ => cases e
    | str z =>
      have e' : (if z.length ≤ lim then some (PyData.str (cutS z lo hi)) else none) = some c := e
      by_cases hz : z.length ≤ lim
      · rw [if_pos hz] at e'
        cases e'
        exact sl_str pins s σ H _ v vl vu lo hi sl Q I rx hs pl pu ⟨z, rfl, by rw [← lim_eq]; exact hz, k _ F H (Grow.refl fl) (.str _)⟩
      · rw [if_neg hz] at e'; cases e'
    | lst ea ra =>
      cases e
      refine sl_list pins s σ H _ v vl vu lo hi sl Q I rx hs pl pu ⟨_, _, rfl, .inl (.inl ea), fun p hp => ?_⟩
      have g := fun l => grow_new (o := .lst l) fl hp (fl.none hp)
      exact k _ _ _ (g _) (.lst upd_same (RpAll.le (g _).le _ _ (ra.cut lo hi)))
    | @tup a' vs' ds' ea ra =>
      have e' : (if bookish (cutG ds' lo hi) = false then some (PyData.tuple (cutG ds' lo hi)) else none) = some c := e
      by_cases hbk : bookish (cutG ds' lo hi) = false
      case neg => rw [if_neg hbk] at e'; cases e'
      rw [if_pos hbk] at e'
      cases e'
      refine sl_tupA pins s σ H _ v vl vu lo hi sl Q I rx hs pl pu ⟨_, _, rfl, fl.seqT ea.sq, fun w => ?_, fun _ p hp => ?_⟩
      · refine k _ F H (Grow.refl fl) ?_
        rw [ra.length] at w
        rw [cut_whole w]
        exact .tup ea ra
      · have g := fun l => grow_new (o := .tup l) fl hp (fl.none hp)
        exact k _ _ _ (g _) (.tup (.no (.inl (.inl upd_same)) hbk) (RpAll.le (g _).le _ _ (ra.cut lo hi)))
def tO (K : PySem.W.Frag) (mg : Str → Option Value) (f : WO) : TO := fun σ H Q => ∃ F ad env st P, Now K mg σ F H ad env st ∧ f env st P ∧
  ∀ o st' F' ad' H', P o st' → Ext F H ad F' H' ad' → Now K mg σ F' H' ad' env st' → Q o H'
theorem po_weak {e : Option Expr} {t t' : TO} (h : PO X e t) (w : ∀ σ H Q, t' σ H Q → t σ H Q) : PO X e t' := ⟨fun pins s σ H Q I q => h.run pins s σ H Q I (w σ H Q q)⟩
theorem dp_n : PO X none (tO K mg wON) := po_weak po_none fun σ H Q ⟨F, ad, env, st, P, n, h, k⟩ => k none st F ad H h (Ext.refl _ _ _) n
theorem dp_s (ha : PE X e (tE K mg fa)) : PO X (some e) (tO K mg (wOS fa)) := po_weak (po_some ha) fun σ H Q ⟨F, ad, env, st, P, n, h, k⟩ => by
  refine tE_go n h fun r1 st1 v1 F1 ad1 H1 p1 x1 n1 d1 => ?_
  obtain ⟨a, ea, p3⟩ := optK_elim p1
  obtain ⟨i, ei, p5⟩ := optK_elim p3
  have q := n1.rel.vw d1 ea
  cases a <;> simp [asI] at ei
  subst ei
  exact ⟨_, vw_int q, k _ _ _ _ _ p5 x1 n1⟩
theorem de_sl {lo hi : Option Expr} {fl fh : WO} {p2 : Pos} (he : PE X e (tE X.K mg f)) (hl : PO X lo (tO X.K mg fl)) (hu : PO X hi (tO X.K mg fh)) : PE X (.Subscript e (.Slice lo hi none p2) pos) (tE X.K mg (wSl oSl f fl fh)) :=
  pe_weak (pe_slice do_sl he hl hu) fun σ H Q ⟨F, ad, env, st, P, n, h, k⟩ => by
    refine tE_go n h fun r1 st1 v1 F1 ad1 H1 p1 x1 n1 d1 => ?_
    refine ⟨F1, ad1, env, st1, _, n1, p1, fun l st2 F2 ad2 H2 p2 x2 n2 => ?_⟩
    refine ⟨F2, ad2, env, st2, _, n2, p2, fun u st3 F3 ad3 H3 p3 x3 n3 => ?_⟩
    obtain ⟨a, ea, p4⟩ := optK_elim p3
    obtain ⟨c, ec, p5⟩ := optK_elim p4
    exact ⟨F3, a, c, n3.rel.fl, n3.rel.vwS (d1.ext (x2.trans x3)) ea, ec, fun z F' H' g q => k _ _ _ _ _ _ p5 (((x1.trans x2).trans x3).trans (g.ext ad3)) (n3.grow g) q⟩
/-! ### built-ins -/
theorem vw1 {op : B1} {vs : List V} {ds : List PyData} {c : PyData} (h : VwAll K F H vs ds) (e : on1 op ds = some c) : ∃ v d, vs = [v] ∧ Vw K F H v d ∧ op d = some c := by
  cases h with
  | nil => cases e
  | cons h1 t =>
    cases t with
    | nil => exact ⟨_, _, rfl, h1, e⟩
    | cons _ _ => cases e
theorem vw2 {op : B2} {vs : List V} {ds : List PyData} {c : PyData} (h : VwAll K F H vs ds) (e : on2 op ds = some c) : ∃ v d v' d', vs = [v, v'] ∧ Vw K F H v d ∧ Vw K F H v' d' ∧ op d d' = some c := by
  cases h with
  | nil => cases e
  | cons h1 t =>
    cases t with
    | nil => cases e
    | cons h2 t =>
      cases t with
      | nil => exact ⟨_, _, _, _, rfl, h1, h2, e⟩
      | cons _ _ => cases e
def oAbs : B1
  | .int i => some (.int (if i < 0 then -i else i))
  | _ => none
def oInt : B1
  | .int i => some (.int i)
  | .bool k => some (.int (if k then 1 else 0))
  | _ => none
def oMax : B2
  | .int i, .int j => some (.int (if j > i then j else i))
  | _, _ => none
def oMin : B2
  | .int i, .int j => some (.int (if j < i then j else i))
  | _, _ => none
def oDivmod : B2
  | .int i, .int j => if 0 < j ∧ j < 1073741824 then some (.tuple [.int (i / j), .int (i % j)]) else none
  | _, _ => none
theorem dc_abs : CallR X (.builtin "abs") (rCN X.K (on1 oAbs)) := by
  intro pins s σ H xs us Q I r ⟨F, ds, c, fl, h, e, k⟩
  obtain ⟨v, d, rfl, h1, e1⟩ := vw1 h e
  cases d <;> cases e1
  exact call_abs pins s σ H _ us Q I r ⟨_, by rw [vw_int h1], k _ F H (Grow.refl fl) (.int _)⟩
theorem dc_int : CallR X (.type "int") (rCN X.K (on1 oInt)) := by
  intro pins s σ H xs us Q I r ⟨F, ds, c, fl, h, e, k⟩
  obtain ⟨v, d, rfl, h1, e1⟩ := vw1 h e
  cases d <;> cases e1
  · exact call_int1 pins s σ H _ us Q I r (.inr ⟨_, by rw [vw_bl h1], k _ F H (Grow.refl fl) (.int _)⟩)
  · exact call_int1 pins s σ H _ us Q I r (.inl ⟨_, by rw [vw_int h1], k _ F H (Grow.refl fl) (.int _)⟩)
theorem dc_max2 (hc : X.calm = true) : CallR X (.builtin "max") (rCN X.K (on2 oMax)) := by
  intro pins s σ H xs us Q I r ⟨F, ds, c, fl, h, e, k⟩
  obtain ⟨v, d, v', d', rfl, h1, h2, e1⟩ := vw2 h e
  cases d <;> cases d' <;> cases e1
  exact call_max2 hc pins s σ H _ us Q I r ⟨_, _, by rw [vw_int h1, vw_int h2], k _ F H (Grow.refl fl) (.int _)⟩
theorem dc_min2 (hc : X.calm = true) : CallR X (.builtin "min") (rCN X.K (on2 oMin)) := by
  intro pins s σ H xs us Q I r ⟨F, ds, c, fl, h, e, k⟩
  obtain ⟨v, d, v', d', rfl, h1, h2, e1⟩ := vw2 h e
  cases d <;> cases d' <;> cases e1
  exact call_min2 hc pins s σ H _ us Q I r ⟨_, _, by rw [vw_int h1, vw_int h2], k _ F H (Grow.refl fl) (.int _)⟩
theorem dc_divmod : CallR X (.builtin "divmod") (rCN X.K (on2 oDivmod)) := by
  intro pins s σ H xs us Q I r ⟨F, ds, c, fl, h, e, k⟩
  obtain ⟨v, d, v', d', rfl, h1, h2, e1⟩ := vw2 h e
  cases d <;> cases d' <;> try cases e1
  rename_i i j
  unfold oDivmod at e1
  simp only at e1
  split at e1
  · rename_i hj
    cases e1
    refine call_divmod pins s σ H _ us Q I r ⟨_, _, by rw [vw_int h1, vw_int h2], hj, fun p hp => ?_⟩
    have g := fun l => grow_new (o := .tup l) fl hp (fl.none hp)
    exact k _ _ _ (g _) (.tup (.no (.inl (.inl upd_same)) rfl) (.cons (.int _) (.cons (.int _) .nil)))
  · cases e1
def tyName : PyData → String
  | .none => "NoneType"
  | .bool _ => "bool"
  | .int _ => "int"
  | .str _ => "str"
  | .list _ => "list"
  | .tuple _ => "tuple"
  | .dict _ => "dict"
/-- isinstance of a built-in class: bool stands under int -/
def oIs (T : String) : B1 := fun d => some (.bool (tyName d == T || (T == "int" && tyName d == "bool")))
end
end DL
/-! text DLOps4 -/
namespace DL
open PySem PySem.Spec PyProof.Rows L2
/-! ### isinstance -/
theorem kit_tab : (["NoneType", "bool", "int", "str", "list", "tuple", "dict"].all fun n => ["str", "tuple", "int", "bool", "list", "dict"].all fun T => decide (kitB n T = some (n == T || (T == "int" && n == "bool")))) = true := by decide +kernel
theorem ty_mem (d : PyData) : tyName d ∈ ["NoneType", "bool", "int", "str", "list", "tuple", "dict"] := by cases d <;> simp [tyName]
theorem kit_names (d : PyData) (T : String) (h : T ∈ ["str", "tuple", "int", "bool", "list", "dict"]) : kitB (tyName d) T = some (tyName d == T || (T == "int" && tyName d == "bool")) := by
  have h1 := List.all_eq_true.mp kit_tab _ (ty_mem d)
  have h2 := List.all_eq_true.mp h1 _ h
  exact of_decide_eq_true h2
section
variable {X : Cx} {K : PySem.W.Frag} {mg : Str → Option Value} {F H F' H' : Hp} {ad ad' : List Addr} {env : Env} {st : Store} {σ : L2.St} {v : V} {d : PyData} {a b e : Expr} {es : List Expr} {f fa fb : WE} {fs : WA} {pos p p2 : Pos} {x : Str} {id : String}
theorem vw_ty (fl : FLe F H) (h : Vw K F H v d) : TyX K H v (.type (tyName d)) := by
  cases h with
  | non => exact .base .non
  | bl b => exact .base (.bl b)
  | int i => exact .base (.int i)
  | str x => exact .base (.str x)
  | lst e r => exact .base (.lst e)
  | tup e r =>
    rcases fl.seqT e.sq with (h | ⟨o, h⟩) | ⟨o, _, _, h, c, _⟩
    · exact .base (.tup h)
    · exact .fTuple h
    · exact .kTuple h c
  | dct e r =>
    rcases e with h | ⟨o, h⟩
    · exact .base (.dK h)
    · exact .fDict h
theorem de_isi {T : String} {y : Str} (hT : T ∈ ["str", "tuple", "int", "bool", "list", "dict"]) (ha : PE X e (tE X.K mg fa)) (hm : X.mg "isinstance" = none) (hmT : X.mg y = none) (hvT : bootBuiltins y = some (.type T)) (hv : bootBuiltins "isinstance" = some (.builtin "isinstance") := by exact PyProof.Rows.boot_isinstance)
    (hg : Gl X "isinstance" := by rfl) (hgT : Gl X y := by rfl) (hnT : y ≠ "__name__" := by decide) (hdT : (y == ("__debug__" : Str)) = false := by decide)
    (he : starEach (e :: [.Name y p2]) X.env = (false, eval e X.env) :: starEach [.Name y p2] X.env := by rfl) (he2 : starEach (.Name y p2 :: []) X.env = (false, eval (.Name y p2) X.env) :: starEach [] X.env := by rfl) (hpl : (backTo pos (starEach [.Name y p2] X.env)).any (·.1) = false := by rfl) :
    PE X (.Call (.Name "isinstance" p) [e, .Name y p2] [] pos) (tE X.K mg (wUn (oIs T) fa)) :=
  pe_weak (pe_callB call_isi hg hm hv (L2.pa_cons ha (L2.pa_cons (pe_bltn (v := .ty T) hgT hmT hvT rfl hnT hdT) L2.pa_nil he2) he) (by decide) (by decide) he hpl) fun σ H Q ⟨F, ad, env, st, P, n, h, k⟩ => by
    refine tE_go n h fun r1 st1 v1 F1 ad1 H1 p1 x1 n1 d1 => ?_
    obtain ⟨a, ea, p3⟩ := optK_elim p1
    obtain ⟨c, ec, p5⟩ := optK_elim p3
    cases ec
    exact ⟨v1, .ty T, _, .type T, _, rfl, .ty T, vw_ty n1.rel.fl (n1.rel.vw d1 ea), kit_ty (kit_names a T hT), k _ _ _ _ _ _ p5 x1 n1 (.bl _)⟩
/-! ### repr -/
mutual
theorem plain_noDict : ∀ d : PyData, d.plain = true → d.hasDict = false
  | .none, _ => by simp only [PyData.hasDict]
  | .bool _, _ => by simp only [PyData.hasDict]
  | .int _, _ => by simp only [PyData.hasDict]
  | .str _, _ => by simp only [PyData.hasDict]
  | .list xs, h => by
    simp only [PyData.hasDict]
    exact plainAll_noDict xs (by simpa [PyData.plain] using h)
  | .tuple xs, h => by
    simp only [PyData.hasDict]
    exact plainAll_noDict xs (by simpa [PyData.plain] using h)
  | .dict _, h => by simp [PyData.plain] at h
theorem plainAll_noDict : ∀ xs : List PyData, PyData.plainAll xs = true → PyData.hasDictAll xs = false
  | [], _ => by simp only [PyData.hasDictAll]
  | x :: xs, h => by
    have h' : x.plain = true ∧ PyData.plainAll xs = true := by simpa [PyData.plainAll] using h
    simp only [PyData.hasDictAll, plain_noDict x h'.1, plainAll_noDict xs h'.2, Bool.or_self]
end
def okRepr (d : PyData) : Bool := d.plain && d.showable && decide (d.depth ≤ 200) && decide (d.shown.length ≤ lim)
def oRepr : B1 := fun d => if okRepr d = true then some (.str d.shown) else none
theorem dc_repr (hu : X.A.units + 300 < cLine) (hg : X.A.guards = some []) : CallR X (.builtin "repr") (rCN X.K (on1 oRepr)) := by
  intro pins s σ H xs us Q I r ⟨F, ds, c, fl, h, e, k⟩
  obtain ⟨v, d, rfl, h1, e1⟩ := vw1 h e
  cases r with
  | cons r1 r2 =>
    rename_i u us'
    cases r2
    unfold oRepr at e1
    split at e1
    · rename_i ok
      cases e1
      have ok' : d.plain = true ∧ d.showable = true ∧ d.depth ≤ 200 ∧ d.shown.length ≤ lim := by simpa [okRepr, and_assoc] using ok
      obtain ⟨p1, p2, p3, p4⟩ := ok'
      rw [lim_eq] at p4
      have fin := k _ F H (Grow.refl fl) (.str _)
      obtain ⟨as, rr⟩ := h1.reads I fl p1 r1
      cases d with
      | none =>
        cases h1; cases r1
        exact PySem.P.repr_of_none ⟨.str _, H, I.tok _, ⟨_, rfl⟩, by simpa only [PyData.shown] using fin⟩
      | bool b =>
        cases h1; cases r1
        exact PySem.P.repr_of_bool ⟨.str _, H, I.tok _, ⟨_, rfl⟩, by simpa only [PyData.shown] using fin⟩
      | int i =>
        cases h1
        obtain ⟨t, rfl⟩ := r1
        exact PySem.P.repr_of_int (by simpa [PyData.showable] using p2) ⟨.str _, H, I.tok _, ⟨_, rfl⟩, by simpa only [PyData.shown] using fin⟩
      | str z =>
        cases h1
        obtain ⟨t, rfl⟩ := r1
        exact PySem.P.repr_of_str ⟨.str _, H, I.tok _, ⟨_, rfl⟩, by simpa only [PyData.shown] using fin⟩ (by simpa only [PyData.shown] using p4)
      | list xs =>
        cases rr with
        | list a1 a2 a3 a4 => exact repr_of_reads' (.list a1 a2 a3 a4) p2 (PyData.noDict_hsm (plain_noDict _ p1)) hg (by omega) (fun _ _ z => z) (fun h' u tk hk => ⟨.str _, H, I.kept hk, ⟨_, rfl⟩, fin⟩) p4
      | tuple xs =>
        cases rr with
        | tuple a1 a2 a3 a4 => exact repr_of_reads' (.tuple a1 a2 a3 a4) p2 (PyData.noDict_hsm (plain_noDict _ p1)) hg (by omega) (fun _ _ z => z) (fun h' u tk hk => ⟨.str _, H, I.kept hk, ⟨_, rfl⟩, fin⟩) p4
      | dict kvs => simp [PyData.plain] at p1
    · cases e1
/-! ### list(), tuple(), all, any, sum -/
def oList : B1
  | .list xs => some (.list xs)
  | .tuple xs => some (.list xs)
  | _ => none
def oTuple : B1
  | .list xs => some (.tuple xs)
  | .tuple xs => some (.tuple xs)
  | _ => none
theorem dc_list : CallR X (.type "list") (rCN X.K (on1 oList)) := by
  intro pins s σ H xs us Q I r ⟨F, ds, c, fl, h, e, k⟩
  obtain ⟨v, d, rfl, h1, e1⟩ := vw1 h e
  cases d <;> cases e1
  · cases h1 with
    | lst ea ra =>
      refine call_list_of pins s σ H _ us Q I r ⟨_, _, rfl, .inl (.inl (.inl ea)), fun p hp => ?_⟩
      have g := fun l => grow_new (o := .lst l) fl hp (fl.none hp)
      exact k _ _ _ (g _) (.lst upd_same (RpAll.le (g _).le _ _ ra))
  · cases h1 with
    | tup ea ra =>
      refine call_list_of pins s σ H _ us Q I r ⟨_, _, rfl, .inr (fl.seqT ea.sq), fun p hp => ?_⟩
      have g := fun l => grow_new (o := .lst l) fl hp (fl.none hp)
      exact k _ _ _ (g _) (.lst upd_same (RpAll.le (g _).le _ _ ra))
/-- tuple(list), the object told -/
theorem call_tupleF : CallR X (.type "tuple") (fun xs H Q => ∃ p ys, xs = [.ref p] ∧ SqL X.K H p ys ∧ ∀ (l : Addr) (o : Obj), H l = none → o.dict = none → Q (.ref l) (upd H l (.frz o (.tup ys)))) := by
  intro pins s σ H xs us Q I r h
  obtain ⟨p, ys, rfl, hq, q⟩ := h
  obtain ⟨u, rfl, rx⟩ := vals1 r
  cases rx
  obtain ⟨its, r', pl, hz⟩ := I.list hq
  have hlen := r'.length
  refine call_tuple_list pl.isList (fun h' kp => ?_) (by simp only [List.size_toArray] <;> omega)
  have I1 : L2.Inv X pins σ H { s with heap := h' } := I.kept (t' := s.toks) kp
  have I2 := I1.laid (h' := h'.push { cls := .type "tuple", data := .seq its.toArray }) (a := h'.objs.size) (o := .frz { cls := .type "tuple", data := .seq its.toArray } (.tup ys)) (t' := s.toks) (fun b o e => Heap.get?_push_of_some _ e) (Nat.le_refl _) ⟨Heap.get?_push_size _ rfl, hz, its, r', IsTup.new _ _⟩
  exact ⟨.ref h'.objs.size, _, I2, rfl, q _ _ (I1.hok.fresh (Nat.le_refl _)) rfl⟩
theorem dc_tuple : CallR X (.type "tuple") (rCN X.K (on1 oTuple)) := by
  intro pins s σ H xs us Q I r ⟨F, ds, c, fl, h, e, k⟩
  obtain ⟨v, d, rfl, h1, e1⟩ := vw1 h e
  cases d <;> cases e1
  · cases h1 with
    | lst ea ra =>
      refine call_tupleF pins s σ H _ us Q I r ⟨_, _, rfl, .inl (.inl ea), fun p o hp ho => ?_⟩
      have g := fun l => grow_new (o := .frz o (.tup l)) fl hp (fl.none hp)
      exact k _ _ _ (g _) (.tup ⟨.inl (.inr ⟨o, upd_same⟩), fun _ => ⟨o, ho, .inl ⟨_, upd_same⟩⟩⟩ (RpAll.le (g _).le _ _ ra))
  · cases h1 with
    | tup ea ra => exact call_tuple_of pins s σ H _ us Q I r ⟨_, _, rfl, .inr ⟨fl.seqT ea.sq, k _ F H (Grow.refl fl) (.tup ea ra)⟩⟩
def boolsOf : List PyData → Option (List Bool)
  | [] => some []
  | .bool b :: r => (boolsOf r).map (b :: ·)
  | _ => none
def numsOf : List PyData → Option (List Int)
  | [] => some []
  | .int b :: r => (numsOf r).map (b :: ·)
  | _ => none
def oAll : B1
  | .list xs => (boolsOf xs).map fun bs => .bool (bs.all _root_.id)
  | _ => none
def oAny : B1
  | .list xs => (boolsOf xs).map fun bs => .bool (bs.any _root_.id)
  | _ => none
def oSum : B1
  | .list xs => (numsOf xs).map fun ns => .int ns.sum
  | _ => none
theorem boolsOf_rp : ∀ {xs : List PyData} {vs : List V} {bs : List Bool}, RpAll K F vs xs → boolsOf xs = some bs → vs = bs.map V.bl
  | [], _, _, h, e => by cases h; cases e; rfl
  | x :: xs, _, _, h, e => by
    cases h with
    | cons r rs =>
      cases x <;> try cases e
      rename_i b
      unfold boolsOf at e
      cases q : boolsOf xs with
      | none => rw [q] at e; cases e
      | some bs =>
        rw [q] at e; cases e
        cases r
        rw [boolsOf_rp rs q]; rfl
theorem numsOf_rp : ∀ {xs : List PyData} {vs : List V} {bs : List Int}, RpAll K F vs xs → numsOf xs = some bs → vs = bs.map V.int
  | [], _, _, h, e => by cases h; cases e; rfl
  | x :: xs, _, _, h, e => by
    cases h with
    | cons r rs =>
      cases x <;> try cases e
      rename_i b
      unfold numsOf at e
      cases q : numsOf xs with
      | none => rw [q] at e; cases e
      | some bs =>
        rw [q] at e; cases e
        cases r
        rw [numsOf_rp rs q]; rfl
theorem dc_all (hc : X.calm = true) : CallR X (.builtin "all") (rCN X.K (on1 oAll)) := by
  intro pins s σ H xs us Q I r ⟨F, ds, c, fl, h, e, k⟩
  obtain ⟨v, d, rfl, h1, e1⟩ := vw1 h e
  cases d <;> try cases e1
  rename_i ys
  unfold oAll at e1
  cases q : boolsOf ys with
  | none => simp only [q] at e1; cases e1
  | some bs =>
    simp only [q] at e1; cases e1
    cases h1 with
    | lst ea ra =>
      rw [boolsOf_rp ra q] at ea
      exact cr_all hc pins s σ H _ us Q I r ⟨_, bs, rfl, .inl (.inl ea), k _ F H (Grow.refl fl) (.bl _)⟩
theorem dc_any (hc : X.calm = true) : CallR X (.builtin "any") (rCN X.K (on1 oAny)) := by
  intro pins s σ H xs us Q I r ⟨F, ds, c, fl, h, e, k⟩
  obtain ⟨v, d, rfl, h1, e1⟩ := vw1 h e
  cases d <;> try cases e1
  rename_i ys
  unfold oAny at e1
  cases q : boolsOf ys with
  | none => simp only [q] at e1; cases e1
  | some bs =>
    simp only [q] at e1; cases e1
    cases h1 with
    | lst ea ra =>
      rw [boolsOf_rp ra q] at ea
      exact cr_any hc pins s σ H _ us Q I r ⟨_, bs, rfl, .inl (.inl ea), k _ F H (Grow.refl fl) (.bl _)⟩
theorem dc_sum (hc : X.calm = true) : CallR X (.builtin "sum") (rCN X.K (on1 oSum)) := by
  intro pins s σ H xs us Q I r ⟨F, ds, c, fl, h, e, k⟩
  obtain ⟨v, d, rfl, h1, e1⟩ := vw1 h e
  cases d <;> try cases e1
  rename_i ys
  unfold oSum at e1
  cases q : numsOf ys with
  | none => simp only [q] at e1; cases e1
  | some bs =>
    simp only [q] at e1; cases e1
    cases h1 with
    | lst ea ra =>
      rw [numsOf_rp ra q] at ea
      exact cr_sum hc pins s σ H _ us Q I r ⟨_, bs, rfl, .inl (.inl ea), k _ F H (Grow.refl fl) (.int _)⟩
/-! ### built-ins by name -/
variable (ha : PA X (e :: es) (tA X.K mg fs)) (he : starEach (e :: es) X.env = (false, eval e X.env) :: starEach es X.env) (hpl : (backTo pos (starEach es X.env)).any (·.1) = false)
theorem de_repr (hu : X.A.units + 300 < cLine) (hgd : X.A.guards = some []) (ha : PA X (e :: es) (tA X.K mg fs)) (hm : X.mg "repr" = none) (hg : Gl X "repr" := by rfl) (he : starEach (e :: es) X.env = (false, eval e X.env) :: starEach es X.env := by rfl) (hpl : (backTo pos (starEach es X.env)).any (·.1) = false := by rfl) :
    PE X (.Call (.Name "repr" p) (e :: es) [] pos) (tE X.K mg (wOpN (on1 oRepr) fs)) := de_b (dc_repr hu hgd) hm PyProof.Rows.boot_repr ha hg (by decide) (by decide) he hpl
theorem de_abs (ha : PA X (e :: es) (tA X.K mg fs)) (hm : X.mg "abs" = none) (hg : Gl X "abs" := by rfl) (he : starEach (e :: es) X.env = (false, eval e X.env) :: starEach es X.env := by rfl) (hpl : (backTo pos (starEach es X.env)).any (·.1) = false := by rfl) :
    PE X (.Call (.Name "abs" p) (e :: es) [] pos) (tE X.K mg (wOpN (on1 oAbs) fs)) := de_b dc_abs hm PyProof.Rows.boot_abs ha hg (by decide) (by decide) he hpl
theorem de_intc (ha : PA X (e :: es) (tA X.K mg fs)) (hm : X.mg "int" = none) (hg : Gl X "int" := by rfl) (he : starEach (e :: es) X.env = (false, eval e X.env) :: starEach es X.env := by rfl) (hpl : (backTo pos (starEach es X.env)).any (·.1) = false := by rfl) :
    PE X (.Call (.Name "int" p) (e :: es) [] pos) (tE X.K mg (wOpN (on1 oInt) fs)) := de_ty dc_int hm PyProof.Rows.boot_int ha hg (by decide) (by decide) he hpl
theorem de_max2 (hc : X.calm = true) (ha : PA X (e :: es) (tA X.K mg fs)) (hm : X.mg "max" = none) (hg : Gl X "max" := by rfl) (he : starEach (e :: es) X.env = (false, eval e X.env) :: starEach es X.env := by rfl) (hpl : (backTo pos (starEach es X.env)).any (·.1) = false := by rfl) :
    PE X (.Call (.Name "max" p) (e :: es) [] pos) (tE X.K mg (wOpN (on2 oMax) fs)) := de_b (dc_max2 hc) hm PyProof.Rows.boot_max ha hg (by decide) (by decide) he hpl
theorem de_min2 (hc : X.calm = true) (ha : PA X (e :: es) (tA X.K mg fs)) (hm : X.mg "min" = none) (hg : Gl X "min" := by rfl) (he : starEach (e :: es) X.env = (false, eval e X.env) :: starEach es X.env := by rfl) (hpl : (backTo pos (starEach es X.env)).any (·.1) = false := by rfl) :
    PE X (.Call (.Name "min" p) (e :: es) [] pos) (tE X.K mg (wOpN (on2 oMin) fs)) := de_b (dc_min2 hc) hm PyProof.Rows.boot_min ha hg (by decide) (by decide) he hpl
theorem de_divmod (ha : PA X (e :: es) (tA X.K mg fs)) (hm : X.mg "divmod" = none) (hg : Gl X "divmod" := by rfl) (he : starEach (e :: es) X.env = (false, eval e X.env) :: starEach es X.env := by rfl) (hpl : (backTo pos (starEach es X.env)).any (·.1) = false := by rfl) :
    PE X (.Call (.Name "divmod" p) (e :: es) [] pos) (tE X.K mg (wOpN (on2 oDivmod) fs)) := de_b dc_divmod hm PyProof.Rows.boot_divmod ha hg (by decide) (by decide) he hpl
theorem de_list (ha : PA X (e :: es) (tA X.K mg fs)) (hm : X.mg "list" = none) (hg : Gl X "list" := by rfl) (he : starEach (e :: es) X.env = (false, eval e X.env) :: starEach es X.env := by rfl) (hpl : (backTo pos (starEach es X.env)).any (·.1) = false := by rfl) :
    PE X (.Call (.Name "list" p) (e :: es) [] pos) (tE X.K mg (wOpN (on1 oList) fs)) := de_ty dc_list hm PyProof.Rows.boot_list ha hg (by decide) (by decide) he hpl
theorem de_tuplec (ha : PA X (e :: es) (tA X.K mg fs)) (hm : X.mg "tuple" = none) (hg : Gl X "tuple" := by rfl) (he : starEach (e :: es) X.env = (false, eval e X.env) :: starEach es X.env := by rfl) (hpl : (backTo pos (starEach es X.env)).any (·.1) = false := by rfl) :
    PE X (.Call (.Name "tuple" p) (e :: es) [] pos) (tE X.K mg (wOpN (on1 oTuple) fs)) := de_ty dc_tuple hm PyProof.Rows.boot_tuple ha hg (by decide) (by decide) he hpl
theorem de_all (hc : X.calm = true) (ha : PA X (e :: es) (tA X.K mg fs)) (hm : X.mg "all" = none) (hg : Gl X "all" := by rfl) (he : starEach (e :: es) X.env = (false, eval e X.env) :: starEach es X.env := by rfl) (hpl : (backTo pos (starEach es X.env)).any (·.1) = false := by rfl) :
    PE X (.Call (.Name "all" p) (e :: es) [] pos) (tE X.K mg (wOpN (on1 oAll) fs)) := de_b (dc_all hc) hm PyProof.Rows.boot_all ha hg (by decide) (by decide) he hpl
theorem de_any (hc : X.calm = true) (ha : PA X (e :: es) (tA X.K mg fs)) (hm : X.mg "any" = none) (hg : Gl X "any" := by rfl) (he : starEach (e :: es) X.env = (false, eval e X.env) :: starEach es X.env := by rfl) (hpl : (backTo pos (starEach es X.env)).any (·.1) = false := by rfl) :
    PE X (.Call (.Name "any" p) (e :: es) [] pos) (tE X.K mg (wOpN (on1 oAny) fs)) := de_b (dc_any hc) hm PyProof.Rows.boot_any ha hg (by decide) (by decide) he hpl
theorem de_sum (hc : X.calm = true) (ha : PA X (e :: es) (tA X.K mg fs)) (hm : X.mg "sum" = none) (hg : Gl X "sum" := by rfl) (he : starEach (e :: es) X.env = (false, eval e X.env) :: starEach es X.env := by rfl) (hpl : (backTo pos (starEach es X.env)).any (·.1) = false := by rfl) :
    PE X (.Call (.Name "sum" p) (e :: es) [] pos) (tE X.K mg (wOpN (on1 oSum) fs)) := de_b (dc_sum hc) hm PyProof.Rows.boot_sum ha hg (by decide) (by decide) he hpl
end
end DL
/-! text DLIter -/
namespace DL
open PySem PySem.Spec PyProof.Rows L2
/-! ### what is walked, by data -/
def iStrD (fa : WE) : WI := fun env st Q => fa env st fun r st1 => match r with
  | .d (.str x) => x.length ≤ lim ∧ Q (x.cps.toList.map fun c => .d (.str ⟨#[c]⟩)) st1
  | _ => False
def rngL (lo : Int) (n : Nat) : List DV := (List.range n).map fun (i : Nat) => .d (.int (lo + (i : Int)))
def iRng1D (fa : WE) : WI := fun env st Q => fa env st fun r st1 => optK (rd st1 r) fun x => optK (asI x) fun j => (-(2 ^ 62) ≤ j ∧ j < 2 ^ 62) ∧ j.toNat ≤ lim ∧ Q (rngL 0 j.toNat) st1
def iRng2D (fa fb : WE) : WI := fun env st Q => fa env st fun r st1 => fb env st1 fun q st2 => optK (rd st2 r) fun x => optK (rd st2 q) fun y => optK (asI x) fun i => optK (asI y) fun j =>
  (-(2 ^ 62) ≤ i ∧ i < 2 ^ 62 ∧ -(2 ^ 62) ≤ j ∧ j < 2 ^ 62) ∧ (j - i).toNat ≤ lim ∧ Q (rngL i (j - i).toNat) st2
def iItemsD (fa : WE) : WI := fun env st Q => fa env st fun r st1 => match r with
  | .d (.dict kvs) => kvs.length ≤ lim ∧ Q (kvs.map fun p => .d (.tuple [p.1, p.2])) st1
  | _ => False
def iKeysD (fa : WE) : WI := fun env st Q => fa env st fun r st1 => match r with
  | .d (.dict kvs) => kvs.length ≤ lim ∧ Q (kvs.map fun p => .d p.1) st1
  | _ => False
def iValsD (fa : WE) : WI := fun env st Q => fa env st fun r st1 => match r with
  | .d (.dict kvs) => kvs.length ≤ lim ∧ Q (kvs.map fun p => .d p.2) st1
  | _ => False
def enumL (n : Nat) : List PyData → List DV
  | [] => []
  | x :: r => .d (.tuple [.int n, x]) :: enumL (n + 1) r
def iEnumD (fa : WE) : WI := fun env st Q => fa env st fun r st1 => match r with
  | .d x => optK (itemsOf x) fun xs => Q (enumL 0 xs) st1
  | _ => False
section
variable {X : Cx} {K : PySem.W.Frag} {mg : Str → Option Value} {F H F' H' : Hp} {ad ad' : List Addr} {env : Env} {st : Store} {σ : L2.St} {v : V} {d : PyData} {a b e tg : Expr} {f fa fb : WE} {pos p : Pos}
theorem pi_weak {wi wi' : TI} (h : PI X tg e wi) (w : ∀ σ H R, wi' σ H R → wi σ H R) : PI X tg e wi' := ⟨fun pins s σ H R I q => h.run pins s σ H R I (w σ H R q)⟩
/-! #### lists and tuples -/
def iSq (K : PySem.W.Frag) (tl : TE) : TI := fun σ H R => tl σ H fun x H1 => ∃ a xs, x = .ref a ∧ ((SqL K H1 a xs ∧ (xs.length ≤ sizeLine → R (Itl K a) H1)) ∨ (SqT K H1 a xs ∧ (xs.length ≤ sizeLine → R (Itt K a) H1)))
theorem pi_sq {tl : TE} (hl : PE X e tl) : PI X tg e (iSq X.K tl) := by
  refine ⟨fun pins s σ H R I h => thn (hl.run pins s σ H _ I h) ?_⟩
  rintro v s1 ⟨x, H1, I1, r1, a, xs, rfl, q⟩
  cases r1
  have nf : H1 s1.heap.objs.size = none := I1.hok.fresh (Nat.le_refl _)
  rcases q with ⟨hq, q⟩ | ⟨hq, q⟩
  · obtain ⟨its, rv, pl, hz⟩ := I1.list hq
    refine wpAny_pyIter_list pl.isList ⟨s1.heap.objs.size, [s1.heap.objs.size], _, _, H1, rfl, I1.kept (t' := s1.toks) fun b o z => Heap.get?_push_of_some _ z, turn_list a _, ⟨_, Heap.get?_push_size _ rfl, rfl, rfl⟩, ?_, q hz⟩
    intro b hb
    simp only [List.mem_singleton] at hb
    subst hb
    exact I1.fpOk (Nat.le_refl _) nf
  · obtain ⟨its, rv, pl, hz⟩ := I1.tuple hq
    refine wpAny_pyIter_tuple (show s1.heap.IsTuple a its.toArray from pl) ⟨s1.heap.objs.size, [s1.heap.objs.size], _, _, H1, rfl, I1.kept (t' := s1.toks) fun b o z => Heap.get?_push_of_some _ z, turn_tuple a _, ⟨_, Heap.get?_push_size _ rfl, rfl, rfl⟩, ?_, q hz⟩
    intro b hb
    simp only [List.mem_singleton] at hb
    subst hb
    exact I1.fpOk (Nat.le_refl _) nf
theorem map_d_get {xs : List PyData} {i : Nat} {x : DV} (h : (xs.map DV.d)[i]? = some x) : ∃ y, xs[i]? = some y ∧ x = .d y := by
  rw [List.getElem?_map] at h
  cases q : xs[i]? with
  | none => rw [q] at h; cases h
  | some y => rw [q] at h; exact ⟨y, rfl, (Option.some.inj h).symm⟩
theorem itok_list {a : Addr} {vs : List V} {xs : List PyData} (h : F a = some (.lst vs)) (r : RpAll K F vs xs) (hz : vs.length ≤ sizeLine) : ItOk K mg (Itl K a) (xs.map DV.d) F H ad := by
  have at_ : ∀ {F1 H1 : Hp}, LeH F F1 → FLe F1 H1 → H1 a = some (.lst vs) := fun le fl => by
    rcases fl _ _ (le _ _ h) with z | ⟨_, _, z, _⟩
    · exact z
    · cases z
  have inj : ∀ {H1 : Hp} {ys : List V}, H1 a = some (.lst vs) → SqL K H1 a vs := fun z => .inl (.inl z)
  refine ⟨by rw [List.length_map, ← r.length]; exact hz, fun F1 H1 ad1 st1 i x le R e => ?_, fun F1 H1 ad1 st1 i x le R e v H2 hy => ?_, fun F1 H1 ad1 st1 i le R e => ?_⟩
  · obtain ⟨y, ey, rfl⟩ := map_d_get e
    obtain ⟨w, ew, _⟩ := r.get ey
    exact ⟨vs, w, .inl (.inl (at_ le.le R.fl)), ew⟩
  · obtain ⟨y, ey, rfl⟩ := map_d_get e
    obtain ⟨w, ew, rw'⟩ := r.get ey
    obtain ⟨rfl, hv⟩ := hy
    have := hv vs (.inl (.inl (at_ le.le R.fl)))
    rw [ew] at this
    cases this
    exact ⟨F1, Ext.refl _ _ _, fun _ _ z => z, Rp.le le.le _ _ rw'⟩
  · exact ⟨vs, .inl (.inl (at_ le.le R.fl)), by rw [List.length_map, ← r.length] at e; exact e⟩
theorem itok_tup {a : Addr} {vs : List V} {xs : List PyData} (h : SqT K F a vs) (r : RpAll K F vs xs) (hz : vs.length ≤ sizeLine) : ItOk K mg (Itt K a) (xs.map DV.d) F H ad := by
  have at_ : ∀ {F1 H1 : Hp}, LeH F F1 → FLe F1 H1 → SqT K H1 a vs := fun le fl => fl.seqT (sqT_le le h)
  refine ⟨by rw [List.length_map, ← r.length]; exact hz, fun F1 H1 ad1 st1 i x le R e => ?_, fun F1 H1 ad1 st1 i x le R e v H2 hy => ?_, fun F1 H1 ad1 st1 i le R e => ?_⟩
  · obtain ⟨y, ey, rfl⟩ := map_d_get e
    obtain ⟨w, ew, _⟩ := r.get ey
    exact ⟨vs, w, at_ le.le R.fl, ew⟩
  · obtain ⟨y, ey, rfl⟩ := map_d_get e
    obtain ⟨w, ew, rw'⟩ := r.get ey
    obtain ⟨rfl, hv⟩ := hy
    have := hv vs (at_ le.le R.fl)
    rw [ew] at this
    cases this
    exact ⟨F1, Ext.refl _ _ _, fun _ _ z => z, Rp.le le.le _ _ rw'⟩
  · exact ⟨vs, at_ le.le R.fl, by rw [List.length_map, ← r.length] at e; exact e⟩
theorem di_seq (he : PE X e (tE X.K mg f)) : PI X tg e (tWI X.K mg (iSeq f)) :=
  pi_weak (pi_sq he) fun σ H R ⟨F, ad, env, st, P, n, h, k⟩ => by
    refine tE_go n h fun r st1 v F1 ad1 H1 q x n1 d1 => ?_
    cases r with
    | d y =>
      obtain ⟨xs, ex, q⟩ := optK_elim q
      have d1' : Rp X.K F1 v y := d1
      cases y with
      | list ys =>
        cases ex
        cases d1' with
        | @lst a vs _ ea ra =>
          have hl : H1 a = some (.lst vs) := (n1.rel.fl _ _ ea).elim (fun z => z) fun ⟨_, _, z, _⟩ => nomatch z
          exact ⟨a, vs, rfl, .inl ⟨.inl (.inl hl), fun hz => k _ _ _ _ _ _ q x n1 (itok_list ea ra hz)⟩⟩
      | tuple ys =>
        cases ex
        cases d1' with
        | @tup a vs _ ea ra => exact ⟨a, vs, rfl, .inr ⟨n1.rel.fl.seqT ea.sq, fun hz => k _ _ _ _ _ _ q x n1 (itok_tup ea.sq ra hz)⟩⟩
      | _ => cases ex
    | loc _ => exact q.elim
    | fn _ => exact q.elim
    | scr _ => exact q.elim
/-! #### texts, ranges -/
theorem di_str (he : PE X e (tE X.K mg f)) : PI X tg e (tWI X.K mg (iStrD f)) :=
  pi_weak (pi_str he) fun σ H R ⟨F, ad, env, st, P, n, h, k⟩ => by
    refine tE_go n h fun r st1 v F1 ad1 H1 q x n1 d1 => ?_
    match r, q, d1 with
    | .d (.str z), q, d1 =>
      obtain ⟨hz, q⟩ := q
      have d1' : Rp X.K F1 v (.str z) := d1
      cases d1'
      have hz' : z.cps.size ≤ sizeLine := by rw [← lim_eq]; exact hz
      refine ⟨z, rfl, k _ _ _ _ _ _ q x n1 ⟨by simpa using hz', fun F2 H2 ad2 st2 i y le R e => ?_, fun F2 H2 ad2 st2 i y le R e v H3 hy => ?_, fun F2 H2 ad2 st2 i le R e => (by simpa using e : z.cps.size ≤ i)⟩⟩
      · have := (List.getElem?_eq_some_iff.mp e).1
        exact (by simpa using this : i < z.cps.size)
      · obtain ⟨rfl, c, hc, rfl⟩ := hy
        rw [List.getElem?_map, Array.getElem?_toList, hc] at e
        cases e
        exact ⟨F2, Ext.refl _ _ _, fun _ _ z => z, Rp.str _⟩
theorem itok_rng (lo : Int) (n : Nat) (hz : n ≤ lim) : ItOk K mg (Itr lo n) (rngL lo n) F H ad := by
  refine ⟨by simpa [rngL, lim_eq] using hz, fun F2 H2 ad2 st2 i y le R e => ?_, fun F2 H2 ad2 st2 i y le R e v H3 hy => ?_, fun F2 H2 ad2 st2 i le R e => (by simpa [rngL] using e : n ≤ i)⟩
  · have := (List.getElem?_eq_some_iff.mp e).1
    exact (by simpa [rngL] using this : i < n)
  · obtain ⟨rfl, rfl⟩ := hy
    have hi := (List.getElem?_eq_some_iff.mp e).1
    have hi' : i < n := by simpa [rngL] using hi
    unfold rngL at e
    rw [List.getElem?_map, List.getElem?_range hi'] at e
    cases e
    exact ⟨F2, Ext.refl _ _ _, fun _ _ z => z, Rp.int _⟩
theorem vw_asI {v : V} {x : PyData} {i : Int} (h : Vw K F H v x) (e : asI x = some i) : v = .int i := by
  cases x <;> simp [asI] at e
  subst e
  exact vw_int h
theorem di_rng1 (ha : PE X a (tE X.K mg fa)) (hm : X.mg "range" = none) (hg : Gl X "range" := by rfl) (hs0 : starEach (a :: []) X.env = (false, eval a X.env) :: starEach [] X.env := by rfl) (hs : starEach [a] X.env = [(false, eval a X.env)] := by rfl) : PI X tg (.Call (.Name "range" p) [a] [] pos) (tWI X.K mg (iRng1D fa)) :=
  pi_weak (pi_range1 hg hm (L2.pa_cons ha L2.pa_nil hs0) hs) fun σ H R ⟨F, ad, env, st, P, n, h, k⟩ => by
    refine tE_go n h fun r st1 v F1 ad1 H1 q x n1 d1 => ?_
    obtain ⟨y, ey, q⟩ := optK_elim q
    obtain ⟨j, ej, hj, hl, q⟩ := optK_elim q
    have hv := vw_asI (n1.rel.vw d1 ey) ej
    subst hv
    exact ⟨j, rfl, hj.1, hj.2, k _ _ _ _ _ _ q x n1 (itok_rng 0 _ hl)⟩
theorem di_rng2 (ha : PE X a (tE X.K mg fa)) (hb : PE X b (tE X.K mg fb)) (hm : X.mg "range" = none) (hg : Gl X "range" := by rfl) (h0 : starEach (a :: [b]) X.env = (false, eval a X.env) :: starEach [b] X.env := by rfl) (h1 : starEach (b :: []) X.env = (false, eval b X.env) :: starEach [] X.env := by rfl)
    (hs : starEach [a, b] X.env = [(false, eval a X.env), (false, eval b X.env)] := by rfl) (hs2 : starEach [b] X.env = [(false, eval b X.env)] := by rfl) : PI X tg (.Call (.Name "range" p) [a, b] [] pos) (tWI X.K mg (iRng2D fa fb)) :=
  pi_weak (pi_range2 hg hm (L2.pa_cons ha (L2.pa_cons hb L2.pa_nil h1) h0) hs hs2) fun σ H R ⟨F, ad, env, st, P, n, h, k⟩ => by
    refine tE_go n h fun r st1 v F1 ad1 H1 q x n1 d1 => ?_
    refine tE_go n1 q fun r2 st2 v2 F2 ad2 H2 q x2 n2 d2 => ?_
    obtain ⟨y, ey, q⟩ := optK_elim q
    obtain ⟨y2, ey2, q⟩ := optK_elim q
    obtain ⟨i, ei, q⟩ := optK_elim q
    obtain ⟨j, ej, hj, hl, q⟩ := optK_elim q
    have hv := vw_asI (n2.rel.vw (d1.ext x2) ey) ei
    have hv2 := vw_asI (n2.rel.vw d2 ey2) ej
    subst hv; subst hv2
    exact ⟨i, j, rfl, hj, k _ _ _ _ _ _ q (x.trans x2) n2 (itok_rng i _ hl)⟩
/-! #### dicts: what is walked is locked, for good (it is frozen) -/
theorem pe_lock1 {t : TE} (h : PE X e t) : PE X e (fun σ H Q => t σ H fun x H1 => ∃ d kvs, x = .ref d ∧ ((∃ o, H1 d = some (.frz o (.dK kvs))) ∧ Q x H1 ∨ H1 d = some (.dK kvs) ∧ ∀ od, Q x (upd H1 d (.frz od (.dK kvs))))) := by
  refine ⟨fun pins s σ H Q I q => thn (h.run pins s σ H _ I q) ?_⟩
  rintro u s1 ⟨x, H1, I1, r, d, kvs, rfl, q⟩
  rcases q with ⟨_, q⟩ | ⟨hd, q⟩
  · exact ⟨_, H1, I1, r, q⟩
  · obtain ⟨od, I2⟩ := I1.lock hd trivial
    exact ⟨_, _, I2, r, q od⟩
/-- the locked dict of a frozen value -/
theorem lock_now {d : Addr} {kvs : List (Key × V)} {od : Obj} (n : Now K mg σ F H ad env st) (hF : F d = some (.dK kvs)) (hd : H d = some (.dK kvs)) : Ext F H ad F (upd H d (.frz od (.dK kvs))) ad ∧ Now K mg σ F (upd H d (.frz od (.dK kvs))) ad env st := by
  have x : Ext F H ad F (upd H d (.frz od (.dK kvs))) ad := by
    refine ⟨LeH.refl F, fun _ h => .inl h, ⟨[], by simp, fun _ h => by simp at h⟩, fun a o e _ => ?_, fun a e => ?_⟩
    · by_cases ha : a = d
      · subst ha
        rw [hd] at e; cases e
        exact .inr ⟨hF, kvs, od, rfl, upd_same⟩
      · rw [upd_ne ha]; exact .inl e
    · by_cases ha : a = d
      · subst ha; rw [upd_same] at e; cases e
      · rw [upd_ne ha] at e; exact e
  refine ⟨x, ⟨⟨fun a u e => ?_, n.rel.len, n.rel.nd, fun a h e => n.rel.live a h (x.there a e), fun i a c h1 h2 => ?_⟩, n.env⟩⟩
  · by_cases ha : a = d
    · subst ha
      rw [hF] at e; cases e
      exact .inr ⟨kvs, od, rfl, upd_same⟩
    · rw [upd_ne ha]; exact n.rel.fl a u e
  · have q := n.rel.cell i a c h1 h2
    cases c with
    | lst xs =>
      obtain ⟨z, vs, e, r⟩ := q
      have ha : a ≠ d := fun w => by rw [w, hF] at z; cases z
      exact ⟨z, vs, by rw [upd_ne ha]; exact e, r⟩
    | dct xs =>
      obtain ⟨z, vs, e, r⟩ := q
      have ha : a ≠ d := fun w => by rw [w, hF] at z; cases z
      exact ⟨z, vs, by rw [upd_ne ha]; exact e, r⟩
    | frz y => exact q
    | ins _ _ => trivial
/-- a frozen dict's locked state -/
theorem dict_lk {J : Addr → Obj → List (Key × V) → It} {R : It → Hp → Prop} {d : Addr} {kvs : List (PyData × PyData)} (n : Now K mg σ F H ad env st) (h : Rp K F (.ref d) (.dict kvs))
    (q : ∀ vs od F' H', Ext F H ad F' H' ad → Now K mg σ F' H' ad env st → F' d = some (.dK vs) → RpKv K F' vs kvs → H' d = some (.frz od (.dK vs)) → R (J d od vs) H') :
    ∃ d' kvs', V.ref d = .ref d' ∧ ((∃ o, H d' = some (.frz o (.dK kvs'))) ∧ (∃ d2 o k2, V.ref d = .ref d2 ∧ H d2 = some (.frz o (.dK k2)) ∧ R (J d2 o k2) H) ∨
      H d' = some (.dK kvs') ∧ ∀ od, ∃ d2 o k2, V.ref d = .ref d2 ∧ (upd H d' (.frz od (.dK kvs'))) d2 = some (.frz o (.dK k2)) ∧ R (J d2 o k2) (upd H d' (.frz od (.dK kvs')))) := by
  cases h with
  | @dct a vs _ ea ra =>
    rcases n.rel.fl _ _ ea with z | ⟨_, o, e, z⟩
    · refine ⟨d, vs, rfl, .inr ⟨z, fun od => ⟨d, od, vs, rfl, upd_same, ?_⟩⟩⟩
      obtain ⟨x2, n2⟩ := lock_now (od := od) n ea z
      exact q vs od F _ x2 n2 ea ra upd_same
    · cases e
      exact ⟨d, _, rfl, .inl ⟨⟨o, z⟩, d, o, _, rfl, z, q _ o F H (Ext.refl _ _ _) n ea ra z⟩⟩
theorem lk_at {F1 H1 : Hp} {d : Addr} {vs : List (Key × V)} {od : Obj} {ad1 : List Addr} {F2 H2 : Hp} {ad2 : List Addr} (h : H1 d = some (.frz od (.dK vs))) (x : Ext F1 H1 ad1 F2 H2 ad2) (hd : d ∉ ad1 ∨ F1 d ≠ none) : H2 d = some (.frz od (.dK vs)) := by
  rcases x.keep d _ h hd with z | ⟨_, _, _, z, _⟩
  · exact z
  · cases z
theorem map_get {α : Type} {g : α → DV} {xs : List α} {i : Nat} {x : DV} (h : (xs.map g)[i]? = some x) : ∃ y, xs[i]? = some y ∧ x = g y := by
  rw [List.getElem?_map] at h
  cases q : xs[i]? with
  | none => rw [q] at h; cases h
  | some y => rw [q] at h; exact ⟨y, rfl, (Option.some.inj h).symm⟩
theorem RpKv.get : ∀ {ds : List (PyData × PyData)} {vs : List (Key × V)} {i : Nat} {p : PyData × PyData}, RpKv K F vs ds → ds[i]? = some p → ∃ k v, vs[i]? = some (k, v) ∧ p.1 = keyD k ∧ Rp K F v p.2
  | [], _, _, _, _, e => by simp at e
  | d :: ds, _, 0, x, h, e => by
    cases h with
    | cons r rs => simp at e; subst e; exact ⟨_, _, rfl, rfl, r⟩
  | d :: ds, _, i + 1, x, h, e => by
    cases h with
    | cons r rs =>
      obtain ⟨k, v, h1, h2⟩ := RpKv.get (i := i) rs (by simpa using e)
      exact ⟨k, v, by simpa using h1, h2⟩
theorem rp_key (k : Key) : Rp K F (kV k) (keyD k) := by
  cases k with
  | inl i => exact .int i
  | inr x => exact .str x
theorem itok_items {d : Addr} {vs : List (Key × V)} {od : Obj} {kvs : List (PyData × PyData)} (hF : F d = some (.dK vs)) (hH : H d = some (.frz od (.dK vs))) (r : RpKv K F vs kvs) (hz : kvs.length ≤ sizeLine) :
    ItOk K mg (Iti d od vs) (kvs.map fun p => .d (.tuple [p.1, p.2])) F H ad := by
  have at_ : ∀ {F1 H1 : Hp} {ad1 : List Addr}, Ext F H ad F1 H1 ad1 → H1 d = some (.frz od (.dK vs)) := fun x => lk_at hH x (.inr (by rw [hF]; simp))
  refine ⟨by simpa using hz, fun F1 H1 ad1 st1 i x le R e => ?_, fun F1 H1 ad1 st1 i x le R e v H2 hy => ?_, fun F1 H1 ad1 st1 i le R e => ?_⟩
  · have := (List.getElem?_eq_some_iff.mp e).1
    exact ⟨at_ le, by rw [r.length]; simpa using this⟩
  · obtain ⟨p, ep, rfl⟩ := map_get e
    obtain ⟨k, w, ew, ek, rw'⟩ := r.get ep
    obtain ⟨T, k', v', ew', rfl, hT, rfl⟩ := hy
    rw [ew] at ew'
    cases ew'
    have g := grow_new (o := .tup [kV k, w]) R.fl hT (R.fl.none hT)
    refine ⟨_, g.ext ad1, fun _ _ z => z.grow g, ?_⟩
    rw [ek]
    exact Rp.tup (.no (.inl (.inl upd_same)) (by cases k <;> rfl)) (.cons (rp_key k) (.cons (Rp.le (le.le.trans g.le) _ _ rw') .nil))
  · exact ⟨at_ le, by rw [r.length]; simpa using e⟩
theorem itok_keys {d : Addr} {vs : List (Key × V)} {od : Obj} {kvs : List (PyData × PyData)} (hF : F d = some (.dK vs)) (hH : H d = some (.frz od (.dK vs))) (r : RpKv K F vs kvs) (hz : kvs.length ≤ sizeLine) :
    ItOk K mg (Itk d od vs) (kvs.map fun p => .d p.1) F H ad := by
  have at_ : ∀ {F1 H1 : Hp} {ad1 : List Addr}, Ext F H ad F1 H1 ad1 → H1 d = some (.frz od (.dK vs)) := fun x => lk_at hH x (.inr (by rw [hF]; simp))
  refine ⟨by simpa using hz, fun F1 H1 ad1 st1 i x le R e => ?_, fun F1 H1 ad1 st1 i x le R e v H2 hy => ?_, fun F1 H1 ad1 st1 i le R e => ?_⟩
  · have := (List.getElem?_eq_some_iff.mp e).1
    exact ⟨at_ le, by rw [r.length]; simpa using this⟩
  · obtain ⟨p, ep, rfl⟩ := map_get e
    obtain ⟨k, w, ew, ek, rw'⟩ := r.get ep
    obtain ⟨rfl, k', v', ew', rfl⟩ := hy
    rw [ew] at ew'
    cases ew'
    refine ⟨F1, Ext.refl _ _ _, fun _ _ z => z, ?_⟩
    rw [ek]
    exact rp_key k
  · exact ⟨at_ le, by rw [r.length]; simpa using e⟩
theorem itok_vals {d : Addr} {vs : List (Key × V)} {od : Obj} {kvs : List (PyData × PyData)} (hF : F d = some (.dK vs)) (hH : H d = some (.frz od (.dK vs))) (r : RpKv K F vs kvs) (hz : kvs.length ≤ sizeLine) :
    ItOk K mg (Itd d od vs) (kvs.map fun p => .d p.2) F H ad := by
  have at_ : ∀ {F1 H1 : Hp} {ad1 : List Addr}, Ext F H ad F1 H1 ad1 → H1 d = some (.frz od (.dK vs)) := fun x => lk_at hH x (.inr (by rw [hF]; simp))
  refine ⟨by simpa using hz, fun F1 H1 ad1 st1 i x le R e => ?_, fun F1 H1 ad1 st1 i x le R e v H2 hy => ?_, fun F1 H1 ad1 st1 i le R e => ?_⟩
  · have := (List.getElem?_eq_some_iff.mp e).1
    exact ⟨at_ le, by rw [r.length]; simpa using this⟩
  · obtain ⟨p, ep, rfl⟩ := map_get e
    obtain ⟨k, w, ew, ek, rw'⟩ := r.get ep
    obtain ⟨rfl, k', ew'⟩ := hy
    rw [ew] at ew'
    cases ew'
    exact ⟨F1, Ext.refl _ _ _, fun _ _ z => z, Rp.le le.le _ _ rw'⟩
  · exact ⟨at_ le, by rw [r.length]; simpa using e⟩
variable {elts : List Expr} {kk : Nat} {tpos apos cpos : Pos}
theorem di_items (he : PE X e (tE X.K mg f)) (hbase : attributeBase e "items" X.env (eval e X.env) = eval e X.env := by rfl) (hline : (apos.endLine == cpos.line) = true := by rfl) :
    PI X (.Tuple elts kk tpos) (.Call (.Attribute e "items" apos) [] [] cpos) (tWI X.K mg (iItemsD f)) :=
  pi_weak (pi_items (pe_lock1 he) hbase hline) fun σ H R ⟨F, ad, env, st, P, n, h, k⟩ => by
    refine tE_go n h fun r st1 v F1 ad1 H1 q x n1 d1 => ?_
    match r, q, d1 with
    | .d (.dict kvs), q, d1 =>
      obtain ⟨hz, q⟩ := q
      have d1' : Rp X.K F1 v (.dict kvs) := d1
      obtain ⟨d, rfl⟩ : ∃ d, v = .ref d := by cases d1'; exact ⟨_, rfl⟩
      exact dict_lk n1 d1' fun vs od F' H' x2 n2 a b c => k _ _ _ _ _ _ q (x.trans x2) n2 (itok_items a c b (by rw [← lim_eq]; exact hz))
theorem di_values (he : PE X e (tE X.K mg f)) (hbase : attributeBase e "values" X.env (eval e X.env) = eval e X.env := by rfl) (hline : (apos.endLine == cpos.line) = true := by rfl) :
    PI X tg (.Call (.Attribute e "values" apos) [] [] cpos) (tWI X.K mg (iValsD f)) :=
  pi_weak (pi_values (pe_lock1 he) hbase hline) fun σ H R ⟨F, ad, env, st, P, n, h, k⟩ => by
    refine tE_go n h fun r st1 v F1 ad1 H1 q x n1 d1 => ?_
    match r, q, d1 with
    | .d (.dict kvs), q, d1 =>
      obtain ⟨hz, q⟩ := q
      have d1' : Rp X.K F1 v (.dict kvs) := d1
      obtain ⟨d, rfl⟩ : ∃ d, v = .ref d := by cases d1'; exact ⟨_, rfl⟩
      exact dict_lk n1 d1' fun vs od F' H' x2 n2 a b c => k _ _ _ _ _ _ q (x.trans x2) n2 (itok_vals a c b (by rw [← lim_eq]; exact hz))
theorem di_keys (he : PE X e (tE X.K mg f)) : PI X tg e (tWI X.K mg (iKeysD f)) :=
  pi_weak (pi_keys (pe_lock1 he)) fun σ H R ⟨F, ad, env, st, P, n, h, k⟩ => by
    refine tE_go n h fun r st1 v F1 ad1 H1 q x n1 d1 => ?_
    match r, q, d1 with
    | .d (.dict kvs), q, d1 =>
      obtain ⟨hz, q⟩ := q
      have d1' : Rp X.K F1 v (.dict kvs) := d1
      obtain ⟨d, rfl⟩ : ∃ d, v = .ref d := by cases d1'; exact ⟨_, rfl⟩
      obtain ⟨d', kvs', e1, q⟩ := dict_lk (J := Itk) n1 d1' fun vs od F' H' x2 n2 a b c => k _ _ _ _ _ _ q (x.trans x2) n2 (itok_keys a c b (by rw [← lim_eq]; exact hz))
      refine ⟨d', kvs', e1, ?_⟩
      rcases q with ⟨a, d2, o, k2, z1, z2, z3⟩ | ⟨a, q⟩
      · exact .inl ⟨a, d2, o, z1, .inl ⟨k2, z2, z3⟩⟩
      · refine .inr ⟨a, fun od => ?_⟩
        obtain ⟨d2, o, k2, z1, z2, z3⟩ := q od
        exact ⟨d2, o, z1, .inl ⟨k2, z2, z3⟩⟩
end
end DL
/-! text DLOps5 -/
namespace DL
open PySem PySem.Spec PyProof.Rows L2
/-! ### a def of the text, with its promise -/
structure Has (P : Program) (w : World) (K : PySem.W.Frag) (mg : Str → Option Value) (base : Heap) (k : Nat) (x : Str) (ps : List Str) (sp : SpD) : Prop where
  ex : ∃ f fd, mg x = some (.ref f) ∧ PySem.W.keepIn K (.ref f) = true ∧ Binds K fd ps [] ∧ FnG P w K mg base CX0 k f fd ps (spV K mg ps.length sp)
  ar : ∀ args st P PE, sp args st P PE → args.length = ps.length
theorem Has.mono {P : Program} {w : World} {K : PySem.W.Frag} {mg : Str → Option Value} {base : Heap} {j k : Nat} {x : Str} {ps : List Str} {sp : SpD} (h : Has P w K mg base j x ps sp) (hk : j ≤ k) : Has P w K mg base k x ps sp :=
  ⟨let ⟨f, fd, a, b, c, d⟩ := h.ex; ⟨f, fd, a, b, c, d.mono hk⟩, h.ar⟩
/-- a def as it stands in the written part -/
def Fn1 (K : PySem.W.Frag) (mg : Str → Option Value) (x : Str) (st : Stmt) : Prop := ∃ f fd, mg x = some (.ref f) ∧ Fun K x x st f fd
theorem has_of {P : Program} {w : World} {K : PySem.W.Frag} {mg : Str → Option Value} {base : Heap} {x : Str} {st : Stmt} {N ps : List Str} {k : Nat} {sp : SpD} {body : EK → WS} (h : Fn1 K mg x st) (S : FnScope N ps (defScope st))
    (hb : ∀ (kV doc pm : Value) (an : Option Addr) (cdv ct : Value) (us : List Value), us.length = ps.length → bindArgs (PySem.W.fnOf x x (defArgs st) (defBody st) (defScope st) .none kV doc pm an cdv ct) ⟨us, []⟩ = pure (ps.zip us))
    (ar : ∀ args st P PE, sp args st P PE → args.length = ps.length) (hk : Keeps N.length sp body)
    (hd : ∀ (f : Addr) (cdv : Value) (A : Around) (outer : List PySem.Env) (s : Shared) (H : Hp) (E : XK) (EE : EK), Room1 k (A.deeper (envOfC x (defScope st) s.heap.objs.size f cdv)) →
      PSs (cxOf CX0 P w K mg base N x (defScope st) f cdv A outer s H E).nox (defBody st) (tS K mg (body EE))) : Has P w K mg base (k + 1) x ps sp := by
  obtain ⟨f, fd, hm, Fu⟩ := h
  exact ⟨⟨f, fd, hm, Fu.kp, Fu.binds hb, fn_keep Fu S ar hk (hd f)⟩, ar⟩
/-- a constant of the module -/
def GlobD (K : PySem.W.Frag) (mg : Str → Option Value) (x : Str) (d : PyData) : Prop := ∃ u v, mg x = some u ∧ RelV v u ∧ ∀ F, Rp K F v d
section
variable {X : Cx} {K : PySem.W.Frag} {mg : Str → Option Value} {F H F' H' : Hp} {ad ad' : List Addr} {env : Env} {st : Store} {σ : L2.St} {v : V} {d : PyData} {a b c e tg o i : Expr} {es : List Expr} {f fa fb fc fo fi : WE} {fs : WA} {pos pos' p apos cpos : Pos} {x : Str} {W : List Nat}
theorem de_callH {k : Nat} {ps : List Str} {sp : SpD} {E : EK} (h : Has X.prog X.w X.K X.mg X.base k x ps sp) (hr : Room1 k X.A) (ha : PA X (e :: es) (tA X.K X.mg fs)) (hg : Gl X x := by rfl) (hdb : (x == ("__debug__" : Str)) = false := by decide)
    (he : starEach (e :: es) X.env = (false, eval e X.env) :: starEach es X.env := by rfl) (hpl : (backTo pos (starEach es X.env)).any (·.1) = false := by rfl) : PE X (.Call (.Name x p) (e :: es) [] pos) (tE X.K X.mg (wCall sp E fs)) := by
  obtain ⟨f, fd, hm, hk, hb, G⟩ := h.ex
  have := de_callX (p := p) (dd := []) (dvs := []) (ds := []) (E := E) (EX := fun _ _ _ => True) G hr hm hk h.ar hb .nil (fun _ _ => .nil) (fun _ _ _ _ _ _ _ z => z.elim) (fun _ _ _ _ _ _ _ _ _ _ => trivial) ha hg hdb he hpl
  refine pe_weak this fun σ H Q ⟨F, ad, env, st, P, n, h, k⟩ => ⟨F, ad, env, st, P, n, ?_, k⟩
  unfold wCall at h ⊢
  simpa using h
theorem de_globD (h : GlobD X.K X.mg x d) (hg : Gl X x := by rfl) (hd : (x == ("__debug__" : Str)) = false := by decide) : PE X (.Name x pos) (tE X.K mg (wC d)) := by
  obtain ⟨u, v, hm, r, q⟩ := h
  exact de_c (pe_glob hg hm r hd) q
/-- a op b op' c -/
theorem w_chain {op op' : B2} {σ : L2.St} {H : Hp} {Q : VK} (h : tE K mg (wChain op op' fa fb fc) σ H Q) : tChain (rB K op) (rB K op') (tE K mg fa) (tE K mg fb) (tE K mg fc) σ H Q := by
  obtain ⟨F, ad, env, st, P, n, h, k⟩ := h
  refine tE_go n h fun r1 st1 v1 F1 ad1 H1 p1 x1 n1 d1 => ?_
  refine tE_go n1 p1 fun r2 st2 v2 F2 ad2 H2 p2 x2 n2 d2 => ?_
  obtain ⟨a, ea, p3⟩ := optK_elim p2
  obtain ⟨b, eb, p4⟩ := optK_elim p3
  obtain ⟨c, ec, p5⟩ := optK_elim p4
  obtain ⟨q, eq, p6⟩ := optK_elim p5
  refine ⟨F2, a, b, c, n2.rel.fl, n2.rel.vw (d1.ext x2) ea, n2.rel.vw d2 eb, ec, fun z F' H' g rz => ?_⟩
  have hz : z = .bl q := by
    cases c <;> simp [asB] at eq
    subst eq
    cases rz
    rfl
  have ng := n2.grow g
  refine ⟨q, hz, ?_⟩
  cases q with
  | false => exact k _ _ _ _ _ _ p6 ((x1.trans x2).trans (g.ext ad2)) ng (Rp.bl _)
  | true =>
    refine tE_go ng p6 fun r3 st3 v3 F3 ad3 H3 p7 x3 n3 d3 => ?_
    obtain ⟨b', eb', p8⟩ := optK_elim p7
    obtain ⟨c', ec', p9⟩ := optK_elim p8
    obtain ⟨y, ey, p10⟩ := optK_elim p9
    exact ⟨F3, b', c', y, n3.rel.fl, n3.rel.vw (d2.ext ((g.ext ad2).trans x3)) eb', n3.rel.vw d3 ec', ey, fun z2 F4 H4 g2 rz2 => k _ _ _ _ _ _ p10 ((((x1.trans x2).trans (g.ext ad2)).trans x3).trans (g2.ext ad3)) (n3.grow g2) rz2⟩
theorem de_chain {op op' : CmpOp} {q q' : B2} (ho : OpR X (compareOp op) (rB K q)) (ho' : OpR X (compareOp op') (rB K q')) (ha : PE X a (tE K mg fa)) (hb : PE X b (tE K mg fb)) (hc : PE X c (tE K mg fc))
    (hm : lastMarks [op, op'] [b, c] = false := by with_unfolding_all rfl) : PE X (.Compare a [op, op'] [b, c] pos) (tE K mg (wChain q q' fa fb fc)) :=
  pe_weak (pe_chain ho ho' ha hb hc hm) fun _ _ _ h => w_chain h
theorem dt_chain {op op' : CmpOp} {q q' : B2} (ho : OpR X (compareOp op) (rB K q)) (ho' : OpR X (compareOp op') (rB K q')) (ha : PE X a (tE K mg fa)) (hb : PE X b (tE K mg fb)) (hc : PE X c (tE K mg fc))
    (hm : lastMarks [op, op'] [b, c] = false := by with_unfolding_all rfl) : PT X (.Compare a [op, op'] [b, c] pos) (tT K mg (wT (wChain q q' fa fb fc))) :=
  pt_weak (pt_chain ho ho' ha hb hc hm) fun σ H Q h => by
    obtain ⟨F, ad, env, st, P, n, h, k⟩ := w_t h
    exact w_chain ⟨F, ad, env, st, P, n, h, k⟩
/-- name = [..] -/
theorem ds_setLc {i : Nat} {y : Str} {py spos : Pos} {elt iter : Expr} {ifs : List Expr} {scope : Scope} {own : List (Str × Nat)} {wi : WI} {g : WG} {tt : WT} {te : WE} (hc : X.calm = true) (hN : X.N.Nodup) (hi : PI X tg iter (tWI K mg wi)) (ok : blkC X.N X.env.scope scope own = true)
    (hg : ∀ (s : Shared) (H : Hp) (C : Addr) (cl : List (Str × Addr)) (fp : List Addr), PG (X.blk s H scope (compEnvC scope cl C X.env) fp) tg (tG K mg W g)) (ht : ∀ (s : Shared) (H : Hp) (C : Addr) (cl : List (Str × Addr)) (fp : List Addr), PTs (X.blk s H scope (compEnvC scope cl C X.env) fp) ifs (tT K mg tt))
    (he : ∀ (s : Shared) (H : Hp) (C : Addr) (cl : List (Str × Addr)) (fp : List Addr), PE (X.blk s H scope (compEnvC scope cl C X.env) fp) elt (tE K mg te))
    (hsw : swapsWith (.ListComp elt [⟨tg, iter, ifs, 0⟩] scope pos) (some (.Name y py)) spos.line X.env = pure true) (hy : X.N[i]? = some y := by rfl) (hyl : X.env.scope.names.lookup y = some .local := by rfl)
    (hW : ∀ i ∈ W, i ∈ own.map (·.2) := by decide) (hs : ∀ x, foldedSetIterable iter X.env x = pure x := by intro _; rfl) :
    PS X (.Assign [.Name y py] (.ListComp elt [⟨tg, iter, ifs, 0⟩] scope pos) spos) (tS K mg (wAsg (DL.wLc wi g tt te (own.map (·.2))) (gN i))) :=
  ds_mk (ps_setLc hc hN hy hyl hsw hi (blkOk_by ok) hg ht he hs) fun D σ H F ad env st P n h p => w_lc hW (tE_go n h fun r st1 v F1 ad1 H1 q x n1 d => p.nx _ _ _ _ _ _ q x ⟨n1.rel, n1.env.set d⟩)
/-! ### what is changed -/
theorem rel_write {n : Nat} {ar : Addr} {c c' : Cell} {o' : HO} (N : Now K mg σ F H ad env st) (ha : ad[n]? = some ar) (hc : st[n]? = some c) (hF : F ar = none) (new : CellR K mg F (upd H ar o') ad ar c') :
    Ext F H ad F (upd H ar o') ad ∧ Now K mg σ F (upd H ar o') ad env (st.set n c') := by
  have x : Ext F H ad F (upd H ar o') ad := by
    refine ⟨LeH.refl F, fun _ h => .inl h, ⟨[], by simp, fun _ h => by simp at h⟩, fun b u e hb => ?_, fun b e => ?_⟩
    · have hne : b ≠ ar := by
        intro z
        subst z
        rcases hb with hb | hb
        · exact hb (List.mem_of_getElem? ha)
        · exact hb hF
      rw [upd_ne hne]; exact .inl e
    · by_cases hb : b = ar
      · subst hb; rw [upd_same] at e; cases e
      · rw [upd_ne hb] at e; exact e
  refine ⟨x, ⟨⟨fun b u e => ?_, by simp [N.rel.len], N.rel.nd, fun b h e => N.rel.live b h (x.there b e), fun j b q h1 h2 => ?_⟩, N.env⟩⟩
  · have hne : b ≠ ar := fun z => by rw [z, hF] at e; cases e
    rw [upd_ne hne]; exact N.rel.fl b u e
  · by_cases hj : n = j
    · subst hj
      rw [ha] at h1; cases h1
      have hl : n < st.length := (List.getElem?_eq_some_iff.mp hc).1
      rw [List.getElem?_set_self hl] at h2; cases h2
      exact new
    · rw [List.getElem?_set_ne hj] at h2
      have z := N.rel.cell j b q h1 h2
      have hne : b ≠ ar := fun w => by
        subst w
        exact hj ((List.getElem?_inj (List.getElem?_eq_some_iff.mp ha).1 N.rel.nd).mp (ha.trans h1.symm))
      cases q with
      | lst xs => obtain ⟨z, vs, e, r⟩ := z; exact ⟨z, vs, by rw [upd_ne hne]; exact e, r⟩
      | dct xs => obtain ⟨z, vs, e, r⟩ := z; exact ⟨z, vs, by rw [upd_ne hne]; exact e, r⟩
      | frz y => exact z
      | ins _ _ => trivial
/-! #### list methods -/
def oAppend : Cell → List PyData → Option (PyData × Cell)
  | .lst xs, [y] => if xs.length < lim then some (.none, .lst (xs ++ [y])) else none
  | _, _ => none
def oPop : Cell → List PyData → Option (PyData × Cell)
  | .lst xs, [] => (xs[xs.length - 1]?).map fun y => (y, .lst xs.dropLast)
  | _, _ => none
theorem isL_ty {v : V} {d : PyData} (h : Vw K F H v d) (e : isL d = true) : tyV K "list" v H := by
  cases h <;> try cases e
  rename_i a xs ds e1 r1
  exact .inl ⟨rfl, xs, .inl (.inl e1)⟩
theorem frs1 {vs : List V} {rs : List DV} {y : PyData} (h : DVRs K mg F ad vs rs) (e : DL.frs rs = some [y]) : ∃ w, vs = [w] ∧ Rp K F w y := by
  have q := frs_rp h e
  cases q with
  | cons r rs => cases rs; exact ⟨_, rfl, r⟩
theorem frs0 {vs : List V} {rs : List DV} (h : DVRs K mg F ad vs rs) (e : DL.frs rs = some []) : vs = [] := by
  have q := frs_rp h e
  cases q
  rfl
theorem w_append {σ : L2.St} {H : Hp} {Q : VK} (h : tE K mg (wMtM oAppend fo fs) σ H Q) : tBM K "list" rAppend (tE K mg fo) (tA K mg fs) σ H Q := by
  obtain ⟨F, ad, env, st, P, n, h, k⟩ := h
  refine tE_go n h fun r1 st1 v1 F1 ad1 H1 p1 x1 n1 d1 => ?_
  obtain ⟨a0, e0, ty, p1⟩ := optK_elim p1
  refine ⟨isL_ty (n1.rel.vw d1 e0) ty, F1, ad1, env, st1, _, n1, p1, fun rs st2 vs F2 ad2 H2 p2 x2 n2 d2 => ?_⟩
  match r1, p2, d1 with
  | .loc i, p2, d1 =>
    obtain ⟨ar, ev, ha⟩ := d1
    obtain ⟨c, hc, p3⟩ := optK_elim p2
    obtain ⟨xs, ex, p4⟩ := optK_elim p3
    obtain ⟨q, eq, p5⟩ := optK_elim p4
    have ha2 := x2.adGet ha
    have cr := n2.rel.cell i ar c ha2 hc
    cases c with
    | lst ys =>
      match xs, eq, ex with
      | [y], eq, ex =>
        unfold oAppend at eq
        simp only at eq
        split at eq
        · rename_i hl
          cases eq
          obtain ⟨hF, ws, hH, rw'⟩ := cr
          obtain ⟨w, ew, rp⟩ := frs1 d2 ex
          obtain ⟨x3, n3⟩ := rel_write (o' := .lst (ws ++ [w])) (c' := .lst (ys ++ [y])) n2 ha2 hc hF ⟨hF, _, upd_same, rw'.append (.cons rp .nil)⟩
          exact ⟨ar, ws, w, ev, ew, hH, by rw [rw'.length, ← lim_eq]; exact hl, k _ _ _ _ _ _ p5 ((x1.trans x2).trans x3) n3 Rp.non⟩
        · cases eq
      | [], eq, _ => cases eq
      | _ :: _ :: _, eq, _ => cases eq
    | dct _ => cases eq
    | frz _ => cases eq
    | ins _ _ => cases eq
theorem de_append (ho : PE X o (tE X.K mg fo)) (ha : PA X (e :: es) (tA X.K mg fs))
    (hbase : attributeBase o "append" X.env (eval o X.env) = eval o X.env := by rfl)
    (hfew : ((backTo cpos (starEach (e :: es) X.env)).all (fun x => !x.1) && (backToKw cpos (keywordEach [] X.env)).all (fun x => x.1.isSome)
      && decide ((e :: es).length + ([] : List Keyword).length + (if ([] : List Keyword).isEmpty then 0 else 1) < 30)) = true := by rfl)
    (hline : (apos.endLine == cpos.line) = true := by rfl) (hs : starEach (e :: es) X.env = (false, eval e X.env) :: starEach es X.env := by rfl) (hpl : (backTo cpos (starEach es X.env)).any (·.1) = false := by rfl) :
    PE X (.Call (.Attribute o "append" apos) (e :: es) [] cpos) (tE X.K mg (wMtM oAppend fo fs)) :=
  pe_weak (pe_bm PySem.F.plainAttrs_list PySem.F.slot_list_append PySem.F.type_list_append mt_append ho ha hbase hfew hline hs hpl) fun _ _ _ h => w_append h
end
end DL
/-! text DLOps6 -/
set_option maxHeartbeats 400000
namespace DL
open PySem PySem.Spec PyProof.Rows L2
/-! ### what a thing is -/
def isD (r : DV) (k : PyData → Prop) : Prop := match r with
  | .d x => k x
  | _ => False
def isSt (r : DV) (k : Str → Prop) : Prop := isD r fun x => match x with
  | .str z => k z
  | _ => False
def isDc (r : DV) (k : List (PyData × PyData) → Prop) : Prop := isD r fun x => match x with
  | .dict z => k z
  | _ => False
theorem isD_elim {r : DV} {k : PyData → Prop} (h : isD r k) : ∃ x, r = .d x ∧ k x := by
  cases r with
  | d x => exact ⟨x, rfl, h⟩
  | loc _ => exact h.elim
  | fn _ => exact h.elim
  | scr _ => exact h.elim
theorem isSt_elim {r : DV} {k : Str → Prop} (h : isSt r k) : ∃ x, r = .d (.str x) ∧ k x := by
  obtain ⟨x, rfl, h⟩ := isD_elim h
  cases x with
  | str z => exact ⟨z, rfl, h⟩
  | _ => exact h.elim
theorem isDc_elim {r : DV} {k : List (PyData × PyData) → Prop} (h : isDc r k) : ∃ x, r = .d (.dict x) ∧ k x := by
  obtain ⟨x, rfl, h⟩ := isD_elim h
  cases x with
  | dict z => exact ⟨z, rfl, h⟩
  | _ => exact h.elim
theorem gl_nil (xs : List PyData) (env : Env) (st : Store) (Q : Env → Store → Prop) (h : DL.gNil xs env st Q) : xs.length = 0 := gn_nil xs env st Q h
/-- a target asks nothing of the length but through what is behind -/
theorem gl_last {g : WG} (hg : ∀ v env st Q, g v env st Q → ∃ e s, Q e s) (xs : List PyData) (env : Env) (st : Store) (Q : Env → Store → Prop) (h : DL.gCons g DL.gNil xs env st Q) : xs.length = 1 := by
  cases xs with
  | nil => exact h.elim
  | cons x r =>
    obtain ⟨e, s, h2⟩ := hg _ _ _ _ h
    have := gn_nil r e s Q h2
    simp [this]
section
variable {X : Cx} {K : PySem.W.Frag} {mg : Str → Option Value} {F H F' H' : Hp} {ad ad' : List Addr} {env : Env} {st : Store} {σ : L2.St} {v : V} {d : PyData} {a b c e tg o i : Expr} {es : List Expr} {f fa fb fc fo fi : WE} {fs : WA} {pos pos' p apos cpos : Pos} {x : Str} {W : List Nat}
theorem do_notIn (hu : X.A.units + 300 < cLine) : OpR X (compareOp .NotIn) (rB X.K oNotIn) := by
  intro pins s σ H x y v u Q I rx ry ⟨F, a, b, c0, fl, va, vb, e0, k⟩
  obtain ⟨c, e, hc0⟩ : ∃ c, oIn a b = some c ∧ oNot c = some c0 := by
    unfold oNotIn at e0
    cases q : oIn a b with
    | none => rw [q] at e0; cases e0
    | some c => rw [q] at e0; exact ⟨c, rfl, e0⟩
  have dk : ∀ kvs, b = .dict kvs → isKey a = true → c = .bool (hasK kvs a) → wpAny (model X.prog X.w) X.A (compareOp .NotIn v u) (EP X pins σ Q) X.xe s := by
    intro kvs hb ha hc
    subst hb; subst hc
    cases hc0
    obtain ⟨q, rfl⟩ := isKey_key ha
    cases vb with
    | dct e1 r1 =>
      cases ry
      have hx := vw_key va
      subst hx
      refine d_notIn (o := _) (by omega) I (dget_of e1) rx fun s' I' => ⟨.bl _, H, I', rfl, ?_⟩
      refine k _ F H (Grow.refl fl) ?_
      rw [hasK_of q r1]
      exact .bl _
  have ls : ∀ ys, b = .list ys → okIn a ys = true → c = .bool (ys.any fun z => PyData.eqv z a) → wpAny (model X.prog X.w) X.A (compareOp .NotIn v u) (EP X pins σ Q) X.xe s := by
    intro ys hb ho hc
    subst hb; subst hc
    cases hc0
    have ho' : PyData.plainAll ys = true ∧ a.plain = true ∧ min (PyData.depthAll ys) a.depth ≤ 200 := by simpa [okIn, and_assoc] using ho
    obtain ⟨as, r1⟩ := va.reads I fl ho'.2.1 rx
    obtain ⟨bs, r2⟩ := vb.reads I fl (by simpa [PyData.plain] using ho'.1) ry
    exact SeqAt.notIn_list_data r2 r1 ho'.1 ho'.2.1 (by omega) ⟨.bl _, H, I, rfl, k _ F H (Grow.refl fl) (.bl _)⟩
  have ts : ∀ ys, b = .tuple ys → okIn a ys = true → c = .bool (ys.any fun z => PyData.eqv z a) → wpAny (model X.prog X.w) X.A (compareOp .NotIn v u) (EP X pins σ Q) X.xe s := by
    intro ys hb ho hc
    subst hb; subst hc
    cases hc0
    have ho' : PyData.plainAll ys = true ∧ a.plain = true ∧ min (PyData.depthAll ys) a.depth ≤ 200 := by simpa [okIn, and_assoc] using ho
    obtain ⟨as, r1⟩ := va.reads I fl ho'.2.1 rx
    obtain ⟨bs, r2⟩ := vb.reads I fl (by simpa [PyData.plain] using ho'.1) ry
    exact SeqAt.notIn_tuple_data r2 r1 ho'.1 ho'.2.1 (by omega) ⟨.bl _, H, I, rfl, k _ F H (Grow.refl fl) (.bl _)⟩
  cases b with
  | dict kvs =>
    have : isKey a = true ∧ c = .bool (hasK kvs a) := by
      cases a <;> simp [oIn] at e <;> exact ⟨e.1, e.2.symm⟩
    exact dk kvs rfl this.1 this.2
  | list ys =>
    have : okIn a ys = true ∧ c = .bool (ys.any fun z => PyData.eqv z a) := by
      cases a <;> simp [oIn] at e <;> exact ⟨e.1, e.2.symm⟩
    exact ls ys rfl this.1 this.2
  | tuple ys =>
    have : okIn a ys = true ∧ c = .bool (ys.any fun z => PyData.eqv z a) := by
      cases a <;> simp [oIn] at e <;> exact ⟨e.1, e.2.symm⟩
    exact ts ys rfl this.1 this.2
  | str t =>
    cases a <;> simp [oIn] at e
    subst e
    cases hc0
    exact L2.op_notIn_str pins s σ H x y v u Q I rx ry ⟨_, _, vw_str va, vw_str vb, k _ F H (Grow.refl fl) (.bl _)⟩
  | none => cases a <;> simp [oIn] at e
  | bool _ => cases a <;> simp [oIn] at e
  | int _ => cases a <;> simp [oIn] at e
/-! ### o[i] = v -/
theorem RpKv.any (q : Key) : ∀ {kvs : List (Key × V)} {ds : List (PyData × PyData)}, RpKv K F kvs ds → (ds.any fun p => keyEq p.1 (keyD q)) = kvs.any fun kv => decide (kv.1 = q)
  | _, [], h => by cases h; rfl
  | _, _ :: ds, h => by
    cases h with
    | cons r rs =>
      rw [List.any_cons, List.any_cons, RpKv.any q rs, keyEq_iff]
theorem RpKv.repl (q : Key) {x : PyData} (rx : Rp K F v x) : ∀ {kvs : List (Key × V)} {ds : List (PyData × PyData)}, RpKv K F kvs ds →
    RpKv K F (kvs.map fun kv => if kv.1 = q then (kv.1, v) else kv) (ds.map fun p => if keyEq p.1 (keyD q) = true then (p.1, x) else p)
  | _, [], h => by cases h; exact .nil
  | _, _ :: ds, h => by
    cases h with
    | cons r rs =>
      rename_i k w t e
      rw [List.map_cons, List.map_cons]
      simp only [keyEq_iff]
      by_cases hk : k = q
      · simp only [hk, decide_true, if_true]
        exact .cons rx (by simpa only [keyEq_iff] using RpKv.repl q rx rs)
      · simp only [hk, decide_false, if_false]
        exact .cons r (by simpa only [keyEq_iff] using RpKv.repl q rx rs)
theorem RpKv.append : ∀ {kvs kvs' : List (Key × V)} {ds ds' : List (PyData × PyData)}, RpKv K F kvs ds → RpKv K F kvs' ds' → RpKv K F (kvs ++ kvs') (ds ++ ds')
  | _, _, [], _, h, g => by cases h; exact g
  | _, _, _ :: _, _, h, g => by
    cases h with
    | cons r rs => exact .cons r (RpKv.append rs g)
theorem RpKv.put (q : Key) {x : PyData} (rx : Rp K F v x) {kvs : List (Key × V)} {ds : List (PyData × PyData)} (h : RpKv K F kvs ds) : RpKv K F (L2.putK kvs q v) (DL.putK ds (keyD q) x) := by
  unfold L2.putK DL.putK
  rw [h.any q]
  by_cases e : (kvs.any fun kv => decide (kv.1 = q)) = true
  · rw [if_pos e, if_pos e]
    exact h.repl q rx
  · rw [if_neg e, if_neg e]
    exact h.append (.cons rx .nil)
theorem do_set (hu : X.A.units + 1 < cLine) : PSet X (fun o i v H Q => rSetL o i v H Q ∨ rSetD o i v H Q) := by
  intro pins s σ H o i v ov iv u Q I ro ri rv h
  rcases h with h | h
  · exact set_list pins s σ H o i v ov iv u Q I ro ri rv h
  · exact set_dict hu pins s σ H o i v ov iv u Q I ro ri rv h
theorem dg_sub (hu : X.A.units + 300 < cLine) (ho : PE X o (tE K mg fo)) (hi : PE X i (tE K mg fi))
    (ha : ∀ v, assign (.Subscript o i pos) X.env v = (do
      let ov ← holding [v] (eval o X.env)
      let iv ← holding [v, ov] (eval i X.env)
      standAt pos
      holding [v, ov, iv] (setItem ov iv v)
      release [v, ov, iv] []) := by intro _; rfl) : PG X (.Subscript o i pos) (tG K mg [] (DL.gSub fo fi)) :=
  pg_weak (pg_sub ho hi (do_set (by omega)) ha) fun v σ H Q ⟨F, ad, env, st, r, P, n, d, h, k⟩ => by
    unfold DL.gSub at h
    refine tE_go n h fun r1 st1 v1 F1 ad1 H1 q x n1 d1 => ?_
    refine tE_go n1 q fun r2 st2 v2 F2 ad2 H2 q2 x2 n2 d2 => ?_
    match r, d, q2 with
    | .d y, d, q2 =>
      obtain ⟨kk, ek, q3⟩ := optK_elim q2
      obtain ⟨st3, es, q4⟩ := optK_elim q3
      have dy : Rp K F2 v y := Rp.le (x.trans x2).le _ _ d
      match r1, d1, es with
      | .loc m, d1, es =>
        obtain ⟨ar, rfl, har⟩ := d1
        have ha2 := x2.adGet har
        have vk := n2.rel.vw d2 ek
        unfold setAt at es
        cases hc : st2[m]? with
        | none => simp [hc] at es
        | some cc =>
          have cr := n2.rel.cell m ar cc ha2 hc
          cases cc with
          | lst xs =>
            cases kk <;> simp [hc] at es
            rename_i jj _
            obtain ⟨j, ej, rfl⟩ := es
            obtain ⟨hF, ws, hH, rw'⟩ := cr
            obtain ⟨x3, n3⟩ := rel_write (o' := .lst (ws.set j v)) (c' := .lst (xs.set j y)) n2 ha2 hc hF ⟨hF, _, upd_same, rw'.set dy j⟩
            exact .inl ⟨ar, ws, jj, j, rfl, vw_int vk, hH, by rw [rw'.length]; exact ej, k _ _ _ _ _ _ q4 ((x.trans x2).trans x3) n3 (Only.refl _)⟩
          | dct kvs =>
            have es' : isKey kk = true ∧ kvs.length < lim ∧ st3 = st2.set m (.dct (DL.putK kvs kk y)) := by
              cases kk <;> simp [hc, isKey] at es <;> exact ⟨rfl, es.1, es.2.symm⟩
            obtain ⟨e1, e2, rfl⟩ := es'
            obtain ⟨q, rfl⟩ := isKey_key e1
            have hv2 := vw_key vk
            subst hv2
            obtain ⟨hF, ws, hH, rw'⟩ := cr
            obtain ⟨x3, n3⟩ := rel_write (o' := .dK (L2.putK ws q v)) (c' := .dct (DL.putK kvs (keyD q) y)) n2 ha2 hc hF ⟨hF, _, upd_same, rw'.put q dy⟩
            exact .inr ⟨ar, _, rfl, .inl ⟨ws, q, hH, rfl, by rw [rw'.length, ← lim_eq]; exact e2, rfl⟩, k _ _ _ _ _ _ q4 ((x.trans x2).trans x3) n3 (Only.refl _)⟩
          | frz z => cases kk <;> simp [hc] at es
          | ins z w => cases kk <;> simp [hc] at es
      | .d _, _, es => cases es
      | .fn _, _, es => cases es
      | .scr _, _, es => cases es
    | .loc _, _, q2 => exact q2.elim
    | .fn _, _, q2 => exact q2.elim
    | .scr _, _, q2 => exact q2.elim
/-! ### dicts -/
def wDct0 : WE := fun _ st Q => Q (.d (.dict [])) st
theorem de_dct0 {pos} : PE X (.Dict [] [] pos) (tE K mg wDct0) :=
  pe_weak pe_dnewK fun σ H Q ⟨F, ad, env, st, P, n, h, k⟩ => by
    intro p hp
    have g := grow_new (o := .dK []) n.rel.fl hp (n.rel.fl.none hp)
    exact k _ st _ _ ad _ h (g.ext ad) (n.grow g) (Rp.dct upd_same .nil)
abbrev WPs := Env → Store → (List (PyData × PyData) → Store → Prop) → Prop
def wPN : WPs := fun _ st Q => Q [] st
def wPC (fa fb : WE) (fr : WPs) : WPs := fun env st Q => fa env st fun r1 st1 => fb env st1 fun r2 st2 => fr env st2 fun ps st3 => match r1 with
  | .d k => (match r2 with
    | .d x => isKey k = true ∧ Q ((k, x) :: ps) st3
    | _ => False)
  | _ => False
def putsK (acc : List (PyData × PyData)) (ps : List (PyData × PyData)) : List (PyData × PyData) := ps.foldl (fun a p => DL.putK a p.1 p.2) acc
def wDisp (fp : WPs) : WE := fun env st Q => fp env st fun ps st1 => ps.length ≤ 15 ∧ Q (.d (.dict (putsK [] ps))) st1
inductive RpPs (K : PySem.W.Frag) (F : Hp) : List (V × V) → List (PyData × PyData) → Prop
  | nil : RpPs K F [] []
  | cons {v w : V} {vs : List (V × V)} {k x : PyData} {ds : List (PyData × PyData)} : Rp K F v k → isKey k = true → Rp K F w x → RpPs K F vs ds → RpPs K F ((v, w) :: vs) ((k, x) :: ds)
def tPs (K : PySem.W.Frag) (mg : Str → Option Value) (f : WPs) (σ : L2.St) (H : Hp) (Q : List (V × V) → Hp → Prop) : Prop := ∃ F ad env st P, Now K mg σ F H ad env st ∧ f env st P ∧
  ∀ ps st' vs F' ad' H', P ps st' → Ext F H ad F' H' ad' → Now K mg σ F' H' ad' env st' → RpPs K F' vs ps → Q vs H'
def DPs (X : Cx) (K : PySem.W.Frag) (mg : Str → Option Value) (pos : Pos) (ks : List (Option Expr)) (vs : List Expr) (f : WPs) : Prop := ∃ trs, PPs X pos ks vs trs ∧ ∀ σ H Q, tPs K mg f σ H Q → tPairs trs σ H Q
theorem dpp_nil : DPs X K mg pos [] [] wPN := ⟨[], pps_nil, fun σ H Q ⟨F, ad, env, st, P, n, h, k⟩ => k [] st [] F ad H h (Ext.refl _ _ _) n .nil⟩
theorem dpp_cons {ks : List (Option Expr)} {vs : List Expr} {fr : WPs} (ha : PE X a (tE K mg fa)) (hb : PE X b (tE K mg fb)) (hr : DPs X K mg pos ks vs fr) : DPs X K mg pos (some a :: ks) (b :: vs) (wPC fa fb fr) := by
  obtain ⟨trs, h1, h2⟩ := hr
  refine ⟨_, pps_cons ha hb h1, fun σ H Q ⟨F, ad, env, st, P, n, h, k⟩ => ?_⟩
  refine tE_go n h fun r1 st1 v1 F1 ad1 H1 q1 x1 n1 d1 => ?_
  refine tE_go n1 q1 fun r2 st2 v2 F2 ad2 H2 q2 x2 n2 d2 => ?_
  refine h2 _ _ _ ⟨F2, ad2, env, st2, _, n2, q2, fun ps st3 vs F3 ad3 H3 q3 x3 n3 r3 => ?_⟩
  cases r1 with
  | d y1 =>
    cases r2 with
    | d y2 => exact k _ _ _ _ _ _ q3.2 ((x1.trans x2).trans x3) n3 (.cons (Rp.le (x2.trans x3).le _ _ d1) q3.1 (Rp.le x3.le _ _ d2) r3)
    | loc _ => exact q3.elim
    | fn _ => exact q3.elim
    | scr _ => exact q3.elim
  | loc _ => exact q3.elim
  | fn _ => exact q3.elim
  | scr _ => exact q3.elim
theorem RpPs.keys : ∀ {vs : List (V × V)} {ds : List (PyData × PyData)}, RpPs K F vs ds → ∃ kvs : List (Key × V), vs = kvs.map (fun kv => (kV kv.1, kv.2)) ∧ RpKv K F kvs ds
  | [], _, h => by cases h; exact ⟨[], rfl, .nil⟩
  | _ :: vs, _, h => by
    cases h with
    | cons r hk w rs =>
      obtain ⟨kvs, e, q⟩ := RpPs.keys rs
      obtain ⟨kk, rfl⟩ := isKey_key hk
      refine ⟨(kk, _) :: kvs, ?_, .cons w q⟩
      rw [List.map_cons, ← e]
      have : kV kk = _ := (vw_key (H := F) (Rp.vw (fun a u z => .inl z) r)).symm
      simp only [this]
theorem RpKv.merge : ∀ {more : List (Key × V)} {ms : List (PyData × PyData)} {kvs : List (Key × V)} {ds : List (PyData × PyData)}, RpKv K F more ms → RpKv K F kvs ds → RpKv K F (mergeK kvs more) (putsK ds ms)
  | [], _, _, _, h, g => by cases h; exact g
  | _ :: more, _, _, _, h, g => by
    cases h with
    | cons r rs =>
      rename_i kk vv ee rr
      have z := RpKv.merge rs (g.put kk r)
      exact z
theorem de_disp {ks : List (Option Expr)} {vs : List Expr} {fp : WPs} (h : DPs X K mg pos ks vs fp) (hall : ks.all (·.isSome) = true := by rfl) (hl : ks.length = vs.length := by rfl) (h0 : ks ≠ [] := by exact fun z => nomatch z) (h15 : ks.length ≤ 15 := by decide) : PE X (.Dict ks vs pos) (tE K mg (wDisp fp)) := by
  obtain ⟨trs, h1, h2⟩ := h
  refine pe_weak (pe_disp h1 hall hl h0 h15) fun σ H Q ⟨F, ad, env, st, P, n, h, k⟩ => ?_
  intro p hp
  have dn : p ∉ ad := fun z => n.rel.live p z hp
  have fn := n.rel.fl.none hp
  refine h2 _ _ _ ⟨F, ad, env, st, _, upd_apart n dn fn, h, fun ps st1 vs F1 ad1 H1 q x n1 r1 => ?_⟩
  obtain ⟨a1, b1, c1⟩ := apart_ext x dn fn upd_same
  obtain ⟨kvs, ek, rk⟩ := r1.keys
  refine ⟨c1, kvs, ek, by rw [rk.length]; exact q.1, ?_⟩
  have rm := RpKv.merge rk (kvs := []) .nil
  have x0 : Ext F H ad F1 H1 ad1 := ⟨x.le, fun z hz => (x.new z hz).elim .inl fun w => w.elim (fun w => by
      by_cases hzp : z = p
      · subst hzp; exact .inr (.inl hp)
      · rw [upd_ne hzp] at w; exact .inr (.inl w)) (fun w => .inr (.inr w)),
    let ⟨m, e, f⟩ := x.app; ⟨m, e, fun z hz => by
      have := f z hz
      by_cases hzp : z = p
      · subst hzp; exact hp
      · rw [upd_ne hzp] at this; exact this⟩,
    fun z o e hz => x.keep z o (by rw [upd_ne (ne_of_none e hp)]; exact e) hz, fun z e => by
      have := x.there z e
      by_cases hzp : z = p
      · subst hzp; exact hp
      · rw [upd_ne hzp] at this; exact this⟩
  have le : LeH F1 (upd F1 p (.dK (mergeK [] kvs))) := fun b u eb => by rw [upd_ne (ne_of_none eb b1)]; exact eb
  have x1 : Ext F H ad (upd F1 p (.dK (mergeK [] kvs))) (upd H1 p (.dK (mergeK [] kvs))) ad1 := by
    refine ⟨x0.le.trans le, fun z hz => ?_, x0.app, fun z o e hz => ?_, fun z e => ?_⟩
    · by_cases hzp : z = p
      · subst hzp; exact .inr (.inl hp)
      · rw [upd_ne hzp] at hz; exact x0.new z hz
    · rw [upd_ne (ne_of_none e hp)]; exact x0.keep z o e hz
    · by_cases hzp : z = p
      · subst hzp; exact hp
      · rw [upd_ne hzp] at e; exact x0.there z e
  refine k _ _ _ _ _ _ q.2 x1 ⟨⟨fun z u e => ?_, n1.rel.len, n1.rel.nd, fun z hz e => ?_, fun j z c h1 h2 => ?_⟩, n.env.ext x1⟩ (Rp.dct upd_same (RpKv.le le _ _ rm))
  · by_cases hzp : z = p
    · subst hzp; rw [upd_same] at e; rw [upd_same]; exact .inl e
    · rw [upd_ne hzp] at e; rw [upd_ne hzp]; exact n1.rel.fl z u e
  · have hzp : z ≠ p := fun w => a1 (w ▸ hz)
    rw [upd_ne hzp] at e; exact n1.rel.live z hz e
  · have hzp : z ≠ p := fun w => a1 (w ▸ List.mem_of_getElem? h1)
    have w := n1.rel.cell j z c h1 h2
    cases c with
    | lst xs => obtain ⟨y, vs, e, r⟩ := w; exact ⟨by rw [upd_ne hzp]; exact y, vs, by rw [upd_ne hzp]; exact e, RpAll.le le _ _ r⟩
    | dct xs => obtain ⟨y, vs, e, r⟩ := w; exact ⟨by rw [upd_ne hzp]; exact y, vs, by rw [upd_ne hzp]; exact e, RpKv.le le _ _ r⟩
    | frz y => exact Rp.le le _ _ w
    | ins _ _ => trivial
end
end DL
/-! text DLOps8 -/
namespace DL
open PySem PySem.Spec PyProof.Rows L2
section
variable {X : Cx} {K : PySem.W.Frag} {mg : Str → Option Value} {F H F' H' : Hp} {ad ad' : List Addr} {env : Env} {st : Store} {σ : L2.St} {v : V} {d : PyData} {a b c e tg o i : Expr} {es : List Expr} {f fa fb fc fo fi : WE} {fs : WA} {pos pos' p apos cpos : Pos} {x : Str} {W : List Nat}
/-! ### methods of texts -/
def wMs (op : Str → PyData → Option PyData) (fa fb : WE) : WE := fun env st Q => fa env st fun r st1 => isSt r fun z => fb env st1 fun q st2 => isD q fun y => optK (op z y) fun c => Q (.d c) st2
def oSplit : Str → PyData → Option PyData
  | z, .str y => if (y.length == 0) = false ∧ z.length + 2 ≤ lim then some (.list ((Txt.split z y).map .str)) else none
  | _, _ => none
def oRindex : Str → PyData → Option PyData
  | z, .str y => (Builtin.Str.lastOccurrence z y 0 z.length).map fun k => .int (k : Nat)
  | _, _ => none
def rMs (K : PySem.W.Frag) (op : Str → PyData → Option PyData) : V → List V → Hp → VK → Prop := fun x xs H Q => ∃ F z y c u, x = .str z ∧ xs = [u] ∧ FLe F H ∧ Rp K F u y ∧ op z y = some c ∧ ∀ z F' H', Grow F H F' H' → Rp K F' z c → Q z H'
theorem rpAll_strs (ys : List Str) : RpAll K F (ys.map V.str) (ys.map PyData.str) := by
  induction ys with
  | nil => exact .nil
  | cons n ns ih => exact .cons (.str n) ih
theorem dm_split : MtR X "str.split" (rMs X.K oSplit) := by
  intro pins s σ H x xs v us Q I rx rs ⟨F, z, y, c, u, ex, exs, fl, ru, e, k⟩
  cases y <;> try cases e
  rename_i y
  unfold oSplit at e
  simp only at e
  split at e
  · rename_i hh
    cases e
    cases ru
    refine mt_split pins s σ H x xs v us Q I rx rs ⟨z, y, ex, exs, hh.1, by rw [← lim_eq]; exact hh.2, fun p hp => ?_⟩
    have g := fun l => grow_new (o := .lst l) fl hp (fl.none hp)
    exact k _ _ _ (g _) (.lst upd_same (rpAll_strs _))
  · cases e
theorem dm_rindex : MtR X "str.rindex" (rMs X.K oRindex) := by
  intro pins s σ H x xs v us Q I rx rs ⟨F, z, y, c, u, ex, exs, fl, ru, e, k⟩
  cases y <;> try cases e
  rename_i y
  cases ru
  subst ex; subst exs
  cases q : Builtin.Str.lastOccurrence z y 0 z.length with
  | none =>
    have e2 : (Builtin.Str.lastOccurrence z y 0 z.length).map (fun k => PyData.int (k : Nat)) = some c := e
    rw [q] at e2; cases e2
  | some j =>
    have e2 : (Builtin.Str.lastOccurrence z y 0 z.length).map (fun k => PyData.int (k : Nat)) = some c := e
    rw [q] at e2; cases e2
    obtain ⟨t, rfl⟩ := rx
    cases rs with
    | cons r1 rs =>
      cases rs
      obtain ⟨w, rfl⟩ := r1
      exact call_gives PySem.F.slot_str_rindex (typeIs_str _ _ _) PySem.F.entry_str_rindex (PySem.F.args_str_rindex_2 _ _) (gives_str_rindex z y t w j q) ⟨.int (j : Nat), H, I.tok _, ⟨_, rfl⟩, k _ F H (Grow.refl fl) (.int _)⟩
theorem w_ms {op : Str → PyData → Option PyData} {σ : L2.St} {H : Hp} {Q : VK} (h : tE K mg (wMs op fa fb) σ H Q) : tM1 (rMs K op) (tE K mg fa) (tE K mg fb) σ H Q := by
  obtain ⟨F, ad, env, st, P, n, h, k⟩ := h
  refine tE_go n h fun r1 st1 v1 F1 ad1 H1 q x n1 d1 => ?_
  obtain ⟨z, rfl, q⟩ := isSt_elim q
  have d1' : Rp K F1 v1 (.str z) := d1
  cases d1'
  refine ⟨⟨z, rfl⟩, ?_⟩
  refine tE_go n1 q fun r2 st2 v2 F2 ad2 H2 q2 x2 n2 d2 => ?_
  obtain ⟨y, rfl, q2⟩ := isD_elim q2
  obtain ⟨c, ec, q3⟩ := optK_elim q2
  exact ⟨F2, z, y, c, v2, rfl, rfl, n2.rel.fl, d2, ec, fun w F' H' g r => k _ _ _ _ _ _ q3 ((x.trans x2).trans (g.ext ad2)) (n2.grow g) r⟩
theorem de_split (ho : PE X o (tE X.K mg fo)) (ha : PE X a (tE X.K mg fa)) (hs : starEach [a] X.env = [(false, eval a X.env)] := by rfl) (hbase : attributeBase o "split" X.env (eval o X.env) = eval o X.env := by rfl) (hline : (apos.endLine == pos.line) = true := by rfl) :
    PE X (.Call (.Attribute o "split" apos) [a] [] pos) (tE X.K mg (wMs oSplit fo fa)) :=
  pe_weak (pe_m1 PySem.F.slot_str_split PySem.F.type_str_split dm_split ho ha hs hbase hline) fun _ _ _ h => w_ms h
theorem de_rindex (ho : PE X o (tE X.K mg fo)) (ha : PE X a (tE X.K mg fa)) (hs : starEach [a] X.env = [(false, eval a X.env)] := by rfl) (hbase : attributeBase o "rindex" X.env (eval o X.env) = eval o X.env := by rfl) (hline : (apos.endLine == pos.line) = true := by rfl) :
    PE X (.Call (.Attribute o "rindex" apos) [a] [] pos) (tE X.K mg (wMs oRindex fo fa)) :=
  pe_weak (pe_m1 PySem.F.slot_str_rindex PySem.F.type_str_rindex dm_rindex ho ha hs hbase hline) fun _ _ _ h => w_ms h
end
end DL
/-! text DLStar -/
namespace PySem
open Builtin
section
variable {prog : Program} {w : World} {K : Type} [DecidableEq K] {knd : KeyKind prog w K} {A : Around} {E : Value → Shared → Prop} {s : Shared}
theorem dl_dictPut {d : Addr} {kvs : List (K × Value)} {k : K} {key v : Value} {Q : Unit → Shared → Prop} (hkey : knd.is k key = true) (hm : s.heap.DictOf knd d kvs)
    (hQ : ∀ h', h'.DictOf knd d (stored kvs k v) → Heap.SameBut d s.heap h' → Q () { s with heap := h' })
    (hsz : kvs.length ≤ sizeLine) :
    wpAny (model prog w) A (dictPut d (knd.hash k) key v) Q E s := by
  obtain ⟨o, es, ep, ho, hc, hd, hk, hp, hn⟩ := hm
  have hes : es.size ≤ sizeLine := by
    have e1 := hp.length
    have e2 : es.toList.length = es.size := by simp
    omega
  unfold dictPut
  refine wpAny_bind (wpAny_dictFind_of hkey ho hd hk ?_)
  have hidx : (es.findIdx? fun e => knd.is k e.key) = kvs.findIdx? fun kv => decide (kv.1 = k) := by
    rw [← hp.findIdx k]; obtain ⟨l⟩ := es; simp
  cases hi : es.findIdx? fun e => knd.is k e.key with
  | some i =>
    refine wpAny_updateDict ho hd (hQ _ ⟨_, _, ep, Heap.get?_update_self _ ho (Obj.isFreed_of_dict (Obj.data_mapDict hd _)),
      hc.mapDict _, Obj.data_mapDict hd _, hk.modify _ _, ?_, ?_⟩ (Heap.SameBut.update ..))
    · rw [stored, if_pos (any_of_findIdx_some (hidx ▸ hi))]
      have hl : (es.toList.findIdx? fun e => knd.is k e.key) = some i := by rw [← hi]; obtain ⟨l⟩ := es; simp
      have := hp.modify hn hl v
      obtain ⟨l⟩ := es
      simpa using this
    · rw [stored, if_pos (any_of_findIdx_some (hidx ▸ hi)), keys_map_store]; exact hn
  | none =>
    have hnot : k ∉ kvs.map (·.1) := not_mem_of_findIdx_none (hidx ▸ hi)
    have hany : ¬ (kvs.any fun kv => decide (kv.1 = k)) = true := by
      rw [List.any_eq_true]; rintro ⟨kv, hkv, he⟩
      exact hnot (List.mem_map.mpr ⟨kv, hkv, of_decide_eq_true he⟩)
    refine wpAny_updateDictKeys (hz := hes) ho hd (hQ _ ⟨_, _, ep + 1, Heap.get?_update_self _ ho (Obj.isFreed_of_dict (Obj.data_mapDictKeys hd _)),
      hc.mapDictKeys _, Obj.data_mapDictKeys hd _, hk.push hkey _, ?_, ?_⟩ (Heap.SameBut.update ..))
    · rw [stored, if_neg hany]
      have := hp.append hkey (knd.hash k) v
      obtain ⟨l⟩ := es
      simpa using this
    · rw [stored, if_neg hany, List.map_append, List.nodup_append]
      refine ⟨hn, by simp, ?_⟩
      intro a ha b hb
      simp only [List.map_cons, List.map_nil, List.mem_singleton] at hb
      subst hb
      exact fun e => hnot (e ▸ ha)
theorem dl_merge {d o : Addr} {kvs more : List (K × Value)} {Q : Unit → Shared → Prop} (hnr : ∀ k v, knd.is k v = true → ∀ a, v ≠ .ref a) (hdo : d ≠ o) (hoS : (o == sysModules) = false)
    (hd : s.heap.DictOf knd d kvs) (ho : s.heap.DictOf knd o more)
    (hQ : ∀ h', h'.DictOf knd d (merged kvs more) → Heap.SameBut d s.heap h' → Q () { s with heap := h' })
    (hsz : kvs.length + more.length ≤ sizeLine) :
    wpAny (model prog w) A (mergeMapping d (.ref o) false) Q E s := by
  obtain ⟨od, esd, epd, hod, hcd, hdd, hkd, hpd, hnd⟩ := id hd
  obtain ⟨oo, eso, epo, hoo, hco, hdo', hko, hpo, hno⟩ := id ho
  have hlen : more.length = eso.size := by rw [← hpo.length]; simp
  unfold mergeMapping
  refine wpAny_bind (wpAny_isInstance ho.typeIs isSubtype_dict_dict ?_)
  dsimp only
  rw [if_pos rfl]
  refine wpAny_bind (wpAny_specialOf ho.typeIs F.slot_dict_iter.lookup ?_)
  rw [beq_self_eq_true]
  refine wpAny_bind (wpAny_pure ?_)
  dsimp only
  rw [if_neg (by rw [hoS]; exact Bool.false_ne_true)]
  have loop : wpAny (model prog w) A (do
      let l ← dictEntries o
      let epoch ← dictEpoch o
      forIn (List.range l.size) PUnit.unit fun i (_ : PUnit) => (do
          let l' ← dictEntries o
          match l'[i]? with
            | some e => do
              holding [e.key, e.val] (dictPut d e.hash e.key e.val)
              let ep' ← dictEpoch o
              if (ep' != epoch) = true then do
                  (unsupported "dict.changed-during-merge" : Sem PUnit)
                  pure (ForInStep.yield PUnit.unit)
                else pure (ForInStep.yield PUnit.unit)
            | _ => do
              (unsupported "dict.changed-during-merge" : Sem PUnit)
              pure (ForInStep.yield PUnit.unit) : Sem (ForInStep PUnit))
      pure ()) Q E s := by
    refine wpAny_bind (wpAny_dictEntries hoo hdo' ?_)
    refine wpAny_bind (wpAny_dictEpoch hoo hdo' ?_)
    refine wpAny_bind ?_
    rw [List.range_eq_range']
    refine wpAny_forIn_list _
      (fun rest _ s' => ∃ h' i, s' = { s with heap := h' } ∧ rest = List.range' i (eso.size - i) ∧ i ≤ eso.size ∧ h'.DictOf knd d (merged kvs (more.take i)) ∧ h'.get? o = some oo ∧ Heap.SameBut d s.heap h')
      _ ?_ ?_ _ _ ⟨s.heap, 0, rfl, by simp, Nat.zero_le _, by simpa [merged] using hd, hoo, Heap.SameBut.refl _ _⟩
    · rintro x rest b s' ⟨h', i, rfl, hr, hi, hd', hoo', hs'⟩
      have hlt : i < eso.size := by
        rcases Nat.lt_or_ge i eso.size with h | h
        · exact h
        · rw [Nat.sub_eq_zero_of_le h] at hr; simp at hr
      obtain ⟨rfl, hrest⟩ : x = i ∧ rest = List.range' (i + 1) (eso.size - (i + 1)) := by
        have e : eso.size - i = (eso.size - (i + 1)) + 1 := by omega
        rw [e, List.range'_succ] at hr
        injection hr with h1 h2
        exact ⟨h1, h2⟩
      refine wpAny_bind (wpAny_dictEntries hoo' hdo' ?_)
      rw [Array.getElem?_eq_getElem hlt]
      obtain ⟨kv, hkv⟩ : ∃ kv, more[x]? = some kv := ⟨more[x]'(by rw [hlen]; exact hlt), List.getElem?_eq_getElem _⟩
      obtain ⟨k, v⟩ := kv
      obtain ⟨hkey, hval⟩ := hpo.get? (e := eso[x]) (by simp [hlt]) hkv
      obtain ⟨k', hkey', hhash⟩ := hko eso[x] (Array.getElem_mem hlt)
      obtain rfl : k' = k := knd.inj _ _ _ hkey' hkey
      show wpAny _ _ (holding [eso[x].key, eso[x].val] (dictPut d eso[x].hash eso[x].key eso[x].val) >>= _) _ _ _
      rw [hhash, hval]
      have hmx : (merged kvs (more.take x)).length ≤ sizeLine := by
        have e1 := merged_length_le kvs (more.take x)
        have e2 : (more.take x).length ≤ more.length := by rw [List.length_take]; omega
        omega
      refine wpAny_bind (wpAny_holding (dl_dictPut (hsz := hmx) hkey hd' fun h'' hd'' hs'' => ?_))
      have hoo'' : h''.get? o = some oo := (hs''.2 o (Ne.symm hdo)).trans hoo'
      refine wpAny_bind (wpAny_dictEpoch hoo'' hdo' ?_)
      rw [if_neg (by simp)]
      exact wpAny_pure ⟨h'', x + 1, rfl, hrest, hlt, by rw [merged_take_succ kvs more x (k', v) hkv]; exact hd'', hoo'', hs'.trans hs''⟩
    · rintro b s' ⟨h', i, rfl, hr, hi, hd', hoo', hs'⟩
      have hin : i = eso.size := by
        rcases Nat.lt_or_ge i eso.size with h | h
        · have e : eso.size - i = (eso.size - (i + 1)) + 1 := by omega
          rw [e, List.range'_succ] at hr; exact nomatch hr
        · exact Nat.le_antisymm hi h
      refine wpAny_pure (hQ h' ?_ hs')
      rw [hin, ← hlen, List.take_length] at hd'; exact hd'
  refine wpAny_bind (wpAny_dictEntries hod hdd ?_)
  split
  · refine wpAny_bind (wpAny_dictEntries hoo hdo' ?_)
    refine wpAny_bind ?_
    rw [← Array.forIn_toList]
    refine wpAny_forIn_list _ (fun rest _ s' => s' = s ∧ ∀ e ∈ rest, e ∈ eso.toList) _ ?_ ?_ _ _ ⟨rfl, fun _ z => z⟩
    · rintro x rest b s' ⟨rfl, hr⟩
      obtain ⟨k', hkey', _⟩ := hko x (Array.mem_toList_iff.mp (hr x (List.mem_cons_self ..)))
      have hn := hnr _ _ hkey'
      cases q : x.key with
      | ref a => exact absurd q (hn a)
      | _ => exact wpAny_pure ⟨rfl, fun e he => hr e (List.mem_cons_of_mem _ he)⟩
    · rintro b s' ⟨rfl, _⟩
      exact loop
  · exact loop
end
end PySem
/-! text DLStar2 -/
namespace DL
open PySem PySem.Spec PyProof.Rows L2
theorem mix_noref {P : Program} {w : World} {k : Key} {v : Value} (h : (mixKind P w).is k v = true) (a : Addr) : v ≠ .ref a := by
  intro z
  subst z
  rcases keyIs_shape h with ⟨i, t, h1, h2⟩ | ⟨x, t, h1, h2⟩
  · cases h1 <;> cases h2
  · cases h1 <;> cases h2
/-- {**x, **y} -/
def tStar2 (ta tb : TE) : TE := fun σ H Q => ∀ p, H p = none → ta σ (upd H p (.dK [])) fun x H1 => ∃ pa ka, x = .ref pa ∧ Rd H1 pa (.dK ka) ∧ pa ≠ p ∧ H1 p = some (.dK []) ∧ ka.length ≤ sizeLine ∧
  tb σ (upd H1 p (.dK (mergeK [] ka))) fun y H2 => ∃ pb kb, y = .ref pb ∧ Rd H2 pb (.dK kb) ∧ pb ≠ p ∧ H2 p = some (.dK (mergeK [] ka)) ∧ (mergeK [] ka).length + kb.length ≤ sizeLine ∧ Q (.ref p) (upd H2 p (.dK (mergeK (mergeK [] ka) kb)))
section
variable {X : Cx} {pos : Pos} {a b : Expr} {ta tb : TE}
/-- one part of a display, merged -/
theorem star_part {pins : List (Addr × Obj)} {σ : L2.St} {H : Hp} {s : Shared} {d o : Addr} {kv kvs : List (Key × V)} {E : Value → Shared → Prop} {Q : Unit → Shared → Prop} (I : L2.Inv X pins σ H s) (hne : o ≠ d) (ho : Rd H o (.dK kv)) (hd : H d = some (.dK kvs)) (hsz : kvs.length + kv.length ≤ sizeLine)
    (h : ∀ s', L2.Inv X pins σ (upd H d (.dK (mergeK kvs kv))) s' → Q () s') : wpAny (model X.prog X.w) X.A (mergeMapping d (.ref o) false) Q E s := by
  obtain ⟨z1, d1, vs1, r1, dd1⟩ := dk_of I.hok hd
  obtain ⟨z2, d2, vs2, r2, dd2⟩ := dk_rd I.hok ho
  refine dl_merge (knd := mixKind X.prog X.w) (fun k v => mix_noref) (Ne.symm hne) d2 dd1 dd2 (fun h' dd' hs => ?_) (by rw [← r1.length, ← r2.length]; exact hsz)
  have he : ∃ q, h'.get? d = some q := let ⟨q, _, _, hq, _⟩ := dd'; ⟨q, hq⟩
  have hz : (mergeK kvs kv).length ≤ sizeLine := Nat.le_trans (length_mergeK kv kvs) hsz
  exact h _ (d_write (t' := s.toks) I (by rw [hd]; exact True.intro) hs he (dk_new hz d1 (r2.merge r1) dd'))
theorem pe_star2 (ha : PE X a ta) (hb : PE X b tb) : PE X (.Dict [none, none] [a, b] pos) (tStar2 ta tb) := by
  refine ⟨fun pins s σ H Q I q => ?_⟩
  have hn := I.hok.fresh (Nat.le_refl s.heap.objs.size)
  have I1 := I.laid (a := s.heap.objs.size) (o := .dK []) (h' := s.heap.push { cls := .type "dict", data := .dict #[] }) (t' := s.toks) (fun _ _ q => Heap.get?_push_of_some _ q) (Nat.le_refl _) (dk_empty s.heap I.big)
  rw [arm_eval_Dict]
  refine wpAny_bind (wpAny_standAt ?_)
  show wpAny (model X.prog X.w) X.A (dictDisplay [(none, do let x ← eval a X.env; standAt pos; pure x), (none, do let x ← eval b X.env; standAt pos; pure x)]) _ _ _
  unfold dictDisplay
  simp only [List.forIn_cons, List.forIn_nil, List.isEmpty_nil, if_true, pure_bind]
  refine wpAny_bind ?_
  refine wpAny_bind ?_
  refine wpAny_bind (wpAny_alloc ?_)
  refine wpAny_bind (wpAny_holding (wpAny_bind (thn (ha.run pins _ σ _ _ I1 (q _ hn)) fun u s1 ⟨x, H1, I2, rx, pa, ka, ex, hR, hne, hP, hz, q1⟩ => ?_)))
  subst ex
  cases rx
  refine wpAny_bind (wpAny_standAt (wpAny_pure ?_))
  refine wpAny_bind (wpAny_onRaise (wpAny_tryCatch (wpAny_onRaise (wpAny_holding (star_part I2 hne hR hP (by simpa using hz) fun s2 I3 => ?_)))))
  refine wpAny_pure ?_
  refine wpAny_bind ?_
  refine wpAny_bind ?_
  simp only [List.isEmpty_nil, if_true]
  refine wpAny_pure ?_
  refine wpAny_bind (wpAny_holding (wpAny_bind (thn (hb.run pins _ σ _ _ I3 q1) fun u2 s3 ⟨y, H3, I4, ry, pb, kb, ey, hR2, hne2, hP2, hz2, q2⟩ => ?_)))
  subst ey
  cases ry
  refine wpAny_bind (wpAny_standAt (wpAny_pure ?_))
  refine wpAny_bind (wpAny_onRaise (wpAny_tryCatch (wpAny_onRaise (wpAny_holding (star_part I4 hne2 hR2 hP2 hz2 fun s4 I5 => ?_)))))
  refine wpAny_pure ?_
  refine wpAny_pure ?_
  refine wpAny_bind ?_
  simp only [List.isEmpty_nil, if_true]
  exact wpAny_pure (wpAny_pure ⟨.ref s.heap.objs.size, _, I5, rfl, q2⟩)
end
section
variable {X : Cx} {K : PySem.W.Frag} {mg : Str → Option Value} {F H F' H' F1 H1 : Hp} {ad ad' ad1 : List Addr} {env : Env} {st st1 : Store} {σ : L2.St} {a b : Expr} {fa fb : WE} {pos : Pos}
/-- an object that was being made apart is frozen -/
theorem apart_done {p : Addr} {o : HO} {d : PyData} (x : Ext F H ad F1 H1 ad1) (hp : H p = none) (n1 : Now K mg σ F1 H1 ad1 env st1) (a1 : p ∉ ad1) (b1 : F1 p = none) (rp : ∀ F', LeH F1 F' → F' p = some o → Rp K F' (.ref p) d) :
    ∃ F2, Ext F H ad F2 (upd H1 p o) ad1 ∧ Now K mg σ F2 (upd H1 p o) ad1 env st1 ∧ Rp K F2 (.ref p) d := by
  have le : LeH F1 (upd F1 p o) := fun b u eb => by rw [upd_ne (ne_of_none eb b1)]; exact eb
  have x0 := ext_upd (o := o) x hp
  have x1 : Ext F H ad (upd F1 p o) (upd H1 p o) ad1 := by
    refine ⟨x.le.trans le, fun z hz => ?_, x.app, x0.keep, x0.there⟩
    by_cases hzp : z = p
    · subst hzp; exact .inr (.inl hp)
    · rw [upd_ne hzp] at hz; exact x.new z hz
  have n2 := upd_apart (o := o) n1 a1 b1
  refine ⟨upd F1 p o, x1, ⟨⟨fun z u e => ?_, n2.rel.len, n2.rel.nd, n2.rel.live, fun j z c h1 h2 => ?_⟩, ?_⟩, rp _ le upd_same⟩
  · by_cases hzp : z = p
    · subst hzp; rw [upd_same] at e; rw [upd_same]; exact .inl e
    · rw [upd_ne hzp] at e; exact n2.rel.fl z u e
  · have hzp : z ≠ p := fun w => a1 (w ▸ List.mem_of_getElem? h1)
    have w := n2.rel.cell j z c h1 h2
    cases c with
    | lst xs => obtain ⟨y, vs, e, r⟩ := w; exact ⟨by rw [upd_ne hzp]; exact y, vs, e, RpAll.le le _ _ r⟩
    | dct xs => obtain ⟨y, vs, e, r⟩ := w; exact ⟨by rw [upd_ne hzp]; exact y, vs, e, RpKv.le le _ _ r⟩
    | frz y => exact Rp.le le _ _ w
    | ins _ _ => trivial
  · refine ⟨n1.env.1, fun i dv e => ?_⟩
    obtain ⟨v, e1, r⟩ := n1.env.2 i dv e
    refine ⟨v, e1, ?_⟩
    cases dv with
    | d y => exact Rp.le le y v r
    | loc n => exact r
    | fn f => exact r
    | scr ns => obtain ⟨q, e, h⟩ := r; exact ⟨q, e, sqL_keep le h⟩
def wDctS (fa fb : WE) : WE := fun env st Q => fa env st fun r st1 => isDc r fun ka => ka.length ≤ lim ∧ fb env st1 fun r2 st2 => isDc r2 fun kb => (putsK [] ka).length + kb.length ≤ lim ∧ Q (.d (.dict (putsK (putsK [] ka) kb))) st2
theorem de_dctS (ha : PE X a (tE K mg fa)) (hb : PE X b (tE K mg fb)) : PE X (.Dict [none, none] [a, b] pos) (tE K mg (wDctS fa fb)) :=
  pe_weak (pe_star2 ha hb) fun σ H Q ⟨F, ad, env, st, P, n, h, k⟩ => by
    intro p hp
    have dn : p ∉ ad := fun z => n.rel.live p z hp
    have fn := n.rel.fl.none hp
    have xx := ext_upd (o := .dK []) (Ext.refl F H ad) hp
    refine tE_go (upd_apart n dn fn) h fun r1 st1 v1 F1 ad1 H1 q x n1 d1 => ?_
    obtain ⟨ka, rfl, hl, q⟩ := isDc_elim q
    obtain ⟨a1, b1, c1⟩ := apart_ext x dn fn upd_same
    have w1 := Rp.vw n1.rel.fl d1
    have d1' : Rp K F1 v1 (.dict ka) := d1
    obtain ⟨pa, va, rfl, hR, ra, hFa⟩ : ∃ pa va, v1 = .ref pa ∧ Rd H1 pa (.dK va) ∧ RpKv K F1 va ka ∧ F1 pa = some (.dK va) := by
      cases d1' with
      | @dct a' kvs' _ e r =>
        cases w1 with
        | dct e2 r2 =>
          refine ⟨_, _, rfl, ?_, r, e⟩
          rcases n1.rel.fl _ _ e with z | ⟨_, o, z, q⟩
          · exact .inl z
          · exact .inr ⟨o, q⟩
    have hne : pa ≠ p := fun z => by rw [z, b1] at hFa; cases hFa
    refine ⟨pa, va, rfl, hR, hne, c1, by rw [ra.length, ← lim_eq]; exact hl, ?_⟩
    have x01 := xx.trans x
    have xm := ext_upd (o := .dK (mergeK [] va)) x01 hp
    refine tE_go (upd_apart n1 a1 b1) q fun r2 st2 v2 F2 ad2 H2 q2 x2 n2 d2 => ?_
    obtain ⟨kb, rfl, hl2, q2⟩ := isDc_elim q2
    obtain ⟨a2, b2, c2⟩ := apart_ext x2 a1 b1 upd_same
    have d2' : Rp K F2 v2 (.dict kb) := d2
    obtain ⟨pb, vb, rfl, hR2, rb, hFb⟩ : ∃ pa va, v2 = .ref pa ∧ Rd H2 pa (.dK va) ∧ RpKv K F2 va kb ∧ F2 pa = some (.dK va) := by
      cases d2' with
      | @dct a' kvs' _ e r =>
        refine ⟨_, _, rfl, ?_, r, e⟩
        rcases n2.rel.fl _ _ e with z | ⟨_, o, z, q⟩
        · exact .inl z
        · exact .inr ⟨o, q⟩
    have hne2 : pb ≠ p := fun z => by rw [z, b2] at hFb; cases hFb
    have rm1 := RpKv.merge (RpKv.le x2.le _ _ ra) (kvs := []) .nil
    have rm2 := RpKv.merge rb rm1
    refine ⟨pb, vb, rfl, hR2, hne2, c2, by rw [rm1.length, rb.length, ← lim_eq]; exact hl2, ?_⟩
    obtain ⟨F3, x3, n3, r3⟩ := apart_done (o := .dK (mergeK (mergeK [] va) vb)) (xm.trans x2) hp n2 a2 b2 (d := .dict (putsK (putsK [] ka) kb)) fun F' le e => .dct e (RpKv.le le _ _ rm2)
    exact k _ _ _ _ _ _ q2 x3 n3 r3
end
end DL
/-! text DLOps7 -/
namespace DL
open PySem PySem.Spec PyProof.Rows L2
section
variable {X : Cx} {K : PySem.W.Frag} {mg : Str → Option Value} {F H F' H' : Hp} {ad ad' : List Addr} {env : Env} {st : Store} {σ : L2.St} {v : V} {d : PyData} {a b c e tg o i : Expr} {es : List Expr} {f fa fb fc fo fi : WE} {fs : WA} {pos pos' p apos cpos : Pos} {x : Str} {W : List Nat}
/-! ### d.get(k), d.get(k, x): the dict is frozen -/
def wGet1 (fo fa : WE) : WE := fun env st Q => fo env st fun r st1 => isDc r fun kvs => fa env st1 fun q st2 => isD q fun k => isKey k = true ∧ Q (.d ((lookK kvs k).getD .none)) st2
def wGet2 (fo fa fb : WE) : WE := fun env st Q => fo env st fun r st1 => isDc r fun kvs => fa env st1 fun q st2 => isD q fun k => fb env st2 fun q2 st3 => isD q2 fun y => isKey k = true ∧ Q (.d ((lookK kvs k).getD y)) st3
theorem rp_dct_at {F1 H1 : Hp} {ad1 : List Addr} {kvs : List (PyData × PyData)} (fl : FLe F1 H1) (h : Rp K F1 v (.dict kvs)) : ∃ p ws, v = .ref p ∧ Rd H1 p (.dK ws) ∧ RpKv K F1 ws kvs := by
  have := Rp.vw fl h
  cases this with
  | dct e r => exact ⟨_, _, rfl, e, r⟩
theorem de_get1 (hu : X.A.units + 300 < cLine) (ho : PE X o (tE X.K mg fo)) (ha : PE X a (tE X.K mg fa)) (m : M1 X o "get" apos a cpos := by exact ⟨rfl, rfl, rfl, rfl⟩) : PE X (.Call (.Attribute o "get" apos) [a] [] cpos) (tE X.K mg (wGet1 fo fa)) :=
  pe_weak (pe_dget1 (by omega) ho ha m) fun σ H Q ⟨F, ad, env, st, P, n, h, k⟩ => by
    refine tE_go n h fun r1 st1 v1 F1 ad1 H1 q x n1 d1 => ?_
    obtain ⟨kvs, rfl, q⟩ := isDc_elim q
    obtain ⟨p, ws, rfl, hR, rw'⟩ := rp_dct_at (ad1 := ad1) n1.rel.fl d1
    refine ⟨p, rfl, .inl ⟨_, hR⟩, ?_⟩
    refine tE_go n1 q fun r2 st2 v2 F2 ad2 H2 q2 x2 n2 d2 => ?_
    obtain ⟨y, rfl, hk, q2⟩ := isD_elim q2
    obtain ⟨kk, rfl⟩ := isKey_key hk
    have e2 := vw_key (Rp.vw n2.rel.fl d2)
    subst e2
    obtain ⟨p', ws', ep, hR', rw2⟩ := rp_dct_at (ad1 := ad2) n2.rel.fl (Rp.le x2.le _ _ d1)
    cases ep
    refine ⟨valV ws' kk, dget_of hR', ?_⟩
    rcases RpKv.look kk rw2 with ⟨h1, h2⟩ | ⟨y, w, h1, h2, h3⟩
    · rw [h1] at q2; rw [h2]
      exact k _ _ _ _ _ _ q2 (x.trans x2) n2 Rp.non
    · rw [h1] at q2; rw [h2]
      exact k _ _ _ _ _ _ q2 (x.trans x2) n2 h3
theorem de_get2 (hu : X.A.units + 300 < cLine) (ho : PE X o (tE X.K mg fo)) (ha : PE X a (tE X.K mg fa)) (hb : PE X b (tE X.K mg fb)) (m : M2 X o "get" apos a b cpos := by exact ⟨rfl, rfl, rfl, rfl⟩) : PE X (.Call (.Attribute o "get" apos) [a, b] [] cpos) (tE X.K mg (wGet2 fo fa fb)) :=
  pe_weak (pe_dget2 (by omega) ho ha hb m) fun σ H Q ⟨F, ad, env, st, P, n, h, k⟩ => by
    refine tE_go n h fun r1 st1 v1 F1 ad1 H1 q x n1 d1 => ?_
    obtain ⟨kvs, rfl, q⟩ := isDc_elim q
    obtain ⟨p, ws, rfl, hR, rw'⟩ := rp_dct_at (ad1 := ad1) n1.rel.fl d1
    refine ⟨p, rfl, .inl ⟨_, hR⟩, ?_⟩
    refine tE_go n1 q fun r2 st2 v2 F2 ad2 H2 q2 x2 n2 d2 => ?_
    obtain ⟨y, rfl, q2⟩ := isD_elim q2
    refine tE_go n2 q2 fun r3 st3 v3 F3 ad3 H3 q3 x3 n3 d3 => ?_
    obtain ⟨z, rfl, hk, q3⟩ := isD_elim q3
    obtain ⟨kk, rfl⟩ := isKey_key hk
    have e2 := vw_key (Rp.vw n2.rel.fl d2)
    subst e2
    obtain ⟨p', ws', ep, hR', rw2⟩ := rp_dct_at (ad1 := ad3) n3.rel.fl (Rp.le (x2.trans x3).le _ _ d1)
    cases ep
    refine ⟨valV ws' kk, dget_of hR', ?_⟩
    rcases RpKv.look kk rw2 with ⟨h1, h2⟩ | ⟨y, w, h1, h2, h3⟩
    · rw [h1] at q3; rw [h2]
      exact k _ _ _ _ _ _ q3 ((x.trans x2).trans x3) n3 d3
    · rw [h1] at q3; rw [h2]
      exact k _ _ _ _ _ _ q3 ((x.trans x2).trans x3) n3 h3
end
end DL
/-! text DLDict -/
namespace DL
open PySem PySem.Spec PyProof.Rows L2
def pairsD : List PyData → Option (List (PyData × PyData))
  | [] => some []
  | .tuple [k, x] :: r => if isKey k = true then (pairsD r).map ((k, x) :: ·) else none
  | _ => none
def oDict : B1
  | .tuple xs => if bookish xs = true then (pairsD xs).map fun ps => .dict (putsK [] ps) else none
  | .list xs => (pairsD xs).map fun ps => .dict (putsK [] ps)
  | .dict kvs => some (.dict kvs)
  | _ => none
theorem pairsD_cons {x : PyData} {r : List PyData} {ps : List (PyData × PyData)} (h : pairsD (x :: r) = some ps) : ∃ k y qs, x = .tuple [k, y] ∧ isKey k = true ∧ pairsD r = some qs ∧ ps = (k, y) :: qs := by
  unfold pairsD at h
  split at h
  · rename_i e; cases e
  · rename_i k y r' e
    cases e
    split at h
    · rename_i hk
      cases q : pairsD r with
      | none => rw [q] at h; cases h
      | some qs => rw [q] at h; cases h; exact ⟨_, _, qs, rfl, hk, rfl, rfl⟩
    · cases h
  · cases h
section
variable {X : Cx} {K : PySem.W.Frag} {mg : Str → Option Value} {F H F' H' : Hp} {ad ad' : List Addr} {env : Env} {st : Store} {σ : L2.St} {v : V} {d : PyData} {a b c e tg o i : Expr} {es : List Expr} {f fa fb fc fo fi : WE} {fs : WA} {pos pos' p apos cpos : Pos} {x : Str} {W : List Nat}
theorem rp_keyV {q : Key} (h : Rp K F v (keyD q)) : v = kV q := by
  cases q with
  | inl i => cases h; rfl
  | inr z => cases h; rfl
theorem vals_two {x y : V} {us : List Value} (h : Vals [x, y] us) : ∃ u w, us = [u, w] ∧ RelV x u ∧ RelV y w := by
  cases h with
  | cons h1 h =>
    cases h with
    | cons h2 h => cases h; exact ⟨_, _, rfl, h1, h2⟩
theorem rp_two {vs : List V} {x y : PyData} (h : RpAll K F vs [x, y]) : ∃ u w, vs = [u, w] ∧ Rp K F u x ∧ Rp K F w y := by
  cases h with
  | cons h1 h =>
    cases h with
    | cons h2 h => cases h; exact ⟨_, _, rfl, h1, h2⟩
theorem pairs_at {pins : List (Addr × Obj)} {s : Shared} (I : L2.Inv X pins σ H s) (fl : FLe F H) : ∀ (xs : List PyData) (vs : List V) (its : List Value) (ps : List (PyData × PyData)), RpAll X.K F vs xs → Vals vs its → pairsD xs = some ps →
    ∃ (kvs : List (Key × V)) (trip : List (Key × Value × Value)), RpKv X.K F kvs ps ∧ KV kvs (trip.map fun t => (t.1, t.2.2)) ∧ trip.length = its.length ∧
      ∀ (j : Nat) t, trip[j]? = some t → (mixKind X.prog X.w).is t.1 t.2.1 = true ∧ ∃ a, its[j]? = some (.ref a) ∧ PairAt s.heap a t.2.1 t.2.2
  | [], _, _, _, h, r, e => by
    cases h; cases r; cases e
    exact ⟨[], [], .nil, .nil, rfl, fun j t z => by simp at z⟩
  | x :: xs, _, _, ps, h, r, e => by
    obtain ⟨k, y, qs, rfl, hk, e2, rfl⟩ := pairsD_cons e
    obtain ⟨q, rfl⟩ := isKey_key hk
    cases h with
    | cons h1 h2 =>
      cases r with
      | cons r1 r2 =>
        obtain ⟨kvs, trip, z1, z2, z3, z4⟩ := pairs_at I fl xs _ _ qs h2 r2 e2
        cases h1 with
        | tup ea ra =>
          cases r1
          obtain ⟨its2, rv, ⟨ob, ho, hc, n, hd⟩, _⟩ := I.tuple (fl.seqT ea.sq)
          obtain ⟨wk, wv, rfl, ra1, ra2⟩ := rp_two ra
          obtain ⟨uk, uv, rfl, rv1, rv2⟩ := vals_two rv
          have ek := rp_keyV ra1
          subst ek
          refine ⟨(q, _) :: kvs, (q, uk, uv) :: trip, .cons ra2 z1, .cons ⟨rfl, rv2⟩ z2, by simp [z3], fun j t z => ?_⟩
          cases j with
          | zero =>
            simp at z
            subst z
            exact ⟨kV_is rv1, _, rfl, .inl ⟨ob, ho, hc, n, hd⟩⟩
          | succ j =>
            obtain ⟨w1, a, w2, w3⟩ := z4 j t (by simpa using z)
            exact ⟨w1, a, by simpa using w2, w3⟩
/-- a plain tuple's object -/
theorem plain_tup {pins : List (Addr × Obj)} {s : Shared} {p : Addr} {its : Array Value} (I : L2.Inv X pins σ H s) (fl : FLe F H) (h : PlT X.K F p) (t : IsTup s.heap p its) : PlainSeq "tuple" s.heap p its := by
  obtain ⟨o, hd, h⟩ := h
  obtain ⟨o2, ho2, hc, n, hdt⟩ := t
  have e : s.heap.get? p = some o := by
    rcases h with ⟨u, h⟩ | h
    · rcases fl _ _ h with z | ⟨_, _, z, _⟩
      · exact (I.hok p _ z).1
      · cases z
    · exact I.kIn p o h
  rw [e] at ho2
  cases ho2
  exact ⟨o, n, e, hc, hd, hdt⟩
theorem dc_dict (hc : X.calm = true) : CallR X (.type "dict") (rCN X.K (on1 oDict)) := by
  intro pins s σ H xs us Q I r ⟨F, ds, c, fl, h, e, k⟩
  obtain ⟨v, d, rfl, h1, e1⟩ := vw1 h e
  -- behind the pairs
  have go : ∀ (p : Addr) (xs : List PyData) (vs : List V) (its : List Value) (ps : List (PyData × PyData)) (T : String), RpAll X.K F vs xs → Vals vs its → pairsD xs = some ps → its.length ≤ sizeLine → c = .dict (putsK [] ps) →
      (∀ (Ts : Nat → Addr) (vps : List (Value × Value)), PairItems s.heap its.toArray Ts vps → ∃ (fp wr : List Addr) (OK : Heap → Prop), PairArg X.prog X.w T p fp wr vps.length (PairRel vps) OK ∧ OK s.heap ∧ wr = []) →
      wpAny (model X.prog X.w) X.A (call (.type "dict") [.ref p]) (EP X pins σ Q) X.xe s := by
    intro p xs vs its ps T ra rv ep hz hc' hP
    subst hc'
    obtain ⟨kvs, trip, z1, z2, z3, z4⟩ := pairs_at I fl xs vs its ps ra rv ep
    obtain ⟨fp, wr, OK, P, ok, ew⟩ := hP (fun j => match its[j]? with | some (.ref t) => t | _ => 0) (trip.map fun t => (t.2.1, t.2.2)) ⟨by simp [z3], fun j kk vv z => by
      rw [List.getElem?_map] at z
      cases q : trip[j]? with
      | none => rw [q] at z; cases z
      | some t =>
        rw [q] at z
        cases z
        obtain ⟨_, a, w2, w3⟩ := z4 j t q
        have e2 : its.toArray[j]? = some (.ref a) := by simpa using w2
        exact ⟨by rw [e2]; simp [w2], by simpa [w2] using w3⟩⟩
    have hl : (trip.map fun t => (t.2.1, t.2.2)).length = its.length := by simp [z3]
    refine call_dict_pairs (knd := mixKind X.prog X.w) (kvs := trip.map fun t => (t.1, t.2.2)) P (I.ok.hd hc) ok ⟨by simp, fun j kk vv z => ?_⟩ (by rw [hl]; exact hz) fun h' tk dd hk => ?_
    · have z' : (trip.map fun t => (t.2.1, t.2.2))[j]? = some (kk, vv) := z
      rw [List.getElem?_map] at z'
      cases q : trip[j]? with
      | none => rw [q] at z'; cases z'
      | some t =>
        rw [q] at z'
        cases z'
        exact ⟨t.1, by rw [List.getElem?_map, q]; rfl, (z4 j t q).1⟩
    · subst ew
      have hp : H s.heap.objs.size = none := I.hok.fresh (Nat.le_refl _)
      have hz2 : (mergeK [] kvs).length ≤ sizeLine := by
        have h1 := length_mergeK kvs []
        have h2 := z2.length
        simp at h1 h2
        omega
      have I2 := I.laid (a := s.heap.objs.size) (o := .dK (mergeK [] kvs)) (h' := h') (t' := tk) (fun b o e => hk b o (by simp) e) (Nat.le_refl _) (dk_new hz2 (beq_eq_false_iff_ne.mpr (Ne.symm (Nat.ne_of_lt I.big))) (z2.merge .nil) dd)
      have g := grow_new (o := .dK (mergeK [] kvs)) fl hp (fl.none hp)
      exact ⟨.ref s.heap.objs.size, _, I2, rfl, k _ _ _ g (.dct upd_same (RpKv.le g.le _ _ (RpKv.merge z1 .nil)))⟩
  have e1' : oDict d = some c := e1
  cases h1 with
  | non => cases e1'
  | bl _ => cases e1'
  | int _ => cases e1'
  | str _ => cases e1'
  | @lst p vs xs ea ra =>
    cases r with
    | cons r1 r =>
      cases r
      cases r1
      obtain ⟨its, rv, pl, hz⟩ := I.list (.inl (.inl ea))
      have e2 : (pairsD xs).map (fun ps => PyData.dict (putsK [] ps)) = some c := e1'
      cases q : pairsD xs with
      | none => rw [q] at e2; cases e2
      | some ps =>
        rw [q] at e2
        cases e2
        exact go p xs vs its ps "list" ra rv q (by rw [← rv.length]; exact hz) rfl fun Ts vps hI => ⟨_, _, _, PairArg.list p its.toArray Ts vps, ⟨pl, hI⟩, rfl⟩
  | @tup p vs xs ea ra =>
    cases r with
    | cons r1 r =>
      cases r
      cases r1
      obtain ⟨its, rv, tt, hz⟩ := I.tuple (fl.seqT ea.sq)
      have e2 : (if bookish xs = true then (pairsD xs).map (fun ps => PyData.dict (putsK [] ps)) else none) = some c := e1'
      by_cases hb : bookish xs = true
      · rw [if_pos hb] at e2
        cases q : pairsD xs with
        | none => rw [q] at e2; cases e2
        | some ps =>
          rw [q] at e2
          cases e2
          exact go p xs vs its ps "tuple" ra rv q (by rw [← rv.length]; exact hz) rfl fun Ts vps hI => ⟨_, _, _, PairArg.tuple p its.toArray Ts vps, ⟨plain_tup I fl (ea.pt hb) tt, hI⟩, rfl⟩
      · rw [if_neg hb] at e2; cases e2
  | @dct p kvs ds ea ra =>
    cases r with
    | cons r1 r =>
      cases r
      cases r1
      cases e1'
      refine d_copyOf I ea fun q s' hp I' => ?_
      have g := grow_new (o := .dK kvs) fl hp (fl.none hp)
      exact ⟨.ref q, _, I', rfl, k _ _ _ g (.dct upd_same (RpKv.le g.le _ _ ra))⟩
theorem de_dictc (hc : X.calm = true) (ha : PA X (e :: es) (tA X.K mg fs)) (hm : X.mg "dict" = none) (hg : Gl X "dict" := by rfl) (he : starEach (e :: es) X.env = (false, eval e X.env) :: starEach es X.env := by rfl) (hpl : (backTo pos (starEach es X.env)).any (·.1) = false := by rfl) :
    PE X (.Call (.Name "dict" p) (e :: es) [] pos) (tE X.K mg (wOpN (on1 oDict) fs)) := de_ty (dc_dict hc) hm PyProof.Rows.boot_dict ha hg (by decide) (by decide) he hpl
/-- a copy that will be changed -/
def wDctC (fa : WE) : WE := fun env st Q => fa env st fun r st1 => isDc r fun kvs => Q (.loc st1.length) (st1 ++ [.dct kvs])
theorem dc_copyM : CallR X (.type "dict") (fun vs H Q => ∃ a kvs, vs = [.ref a] ∧ Rd H a (.dK kvs) ∧ ∀ p, H p = none → Q (.ref p) (upd H p (.dK kvs))) := by
  intro pins s σ H xs us Q I r ⟨a, kvs, ex, hR, k⟩
  subst ex
  cases r with
  | cons r1 r =>
    cases r
    cases r1
    exact d_copyOf I hR fun q s' hp I' => ⟨.ref q, _, I', rfl, k q hp⟩
theorem de_dctC (ha : PE X e (tE X.K mg fa)) (hm : X.mg "dict" = none) (hg : Gl X "dict" := by rfl) (he : starEach (e :: []) X.env = (false, eval e X.env) :: starEach [] X.env := by rfl) (hpl : (backTo pos (starEach [] X.env)).any (·.1) = false := by rfl) :
    PE X (.Call (.Name "dict" p) [e] [] pos) (tE X.K mg (wDctC fa)) :=
  pe_weak (pe_callTy dc_copyM hg hm PyProof.Rows.boot_dict (L2.pa_cons ha L2.pa_nil he) (by decide) (by decide) he hpl) fun σ H Q ⟨F, ad, env, st, P, n, h, k⟩ => by
    refine tE_go n h fun r1 st1 v1 F1 ad1 H1 q x n1 d1 => ?_
    obtain ⟨kvs, rfl, q⟩ := isDc_elim q
    obtain ⟨pa, ws, rfl, hR, rw'⟩ := rp_dct_at (ad1 := ad1) n1.rel.fl d1
    refine ⟨pa, ws, rfl, hR, fun p hp => ?_⟩
    obtain ⟨x2, n2⟩ := now_new (o := .dK ws) (c := .dct kvs) n1 hp ⟨n1.rel.fl.none hp, ws, upd_same, rw'⟩ (fun _ _ z => by cases z)
    exact k _ _ _ _ _ _ q (x.trans x2) n2 ⟨p, rfl, by rw [← n1.rel.len]; simp⟩
/-- a dict that is changed here -/
def isLD (st : Store) (r : DV) (k : List (PyData × PyData) → Prop) : Prop := match r with
  | .loc n => (match st[n]? with
    | some (.dct kvs) => k kvs
    | _ => False)
  | _ => False
theorem isLD_elim {st : Store} {r : DV} {k : List (PyData × PyData) → Prop} (h : isLD st r k) : ∃ n kvs, r = .loc n ∧ st[n]? = some (.dct kvs) ∧ k kvs := by
  cases r with
  | loc n =>
    unfold isLD at h
    cases q : st[n]? with
    | none => simp [q] at h
    | some c =>
      cases c with
      | dct kvs => simp [q] at h; exact ⟨n, kvs, rfl, q, h⟩
      | lst _ => simp [q] at h
      | frz _ => simp [q] at h
      | ins _ _ => simp [q] at h
  | d _ => exact h.elim
  | fn _ => exact h.elim
  | scr _ => exact h.elim
def wListK (fa : WE) : WE := fun env st Q => fa env st fun r st1 => isLD st1 r fun kvs => Q (.d (.list (kvs.map (·.1)))) st1
theorem rpKv_keys : ∀ {kvs : List (PyData × PyData)} {ws : List (Key × V)}, RpKv K F ws kvs → RpAll K F (ws.map fun kv => kV kv.1) (kvs.map (·.1))
  | [], _, h => by cases h; exact .nil
  | _ :: _, _, h => by
    cases h with
    | cons r rs => exact .cons (rp_key _) (rpKv_keys rs)
theorem de_listK (hc : X.calm = true) (ha : PE X e (tE X.K mg fa)) (hm : X.mg "list" = none) (hg : Gl X "list" := by rfl) (he : starEach (e :: []) X.env = (false, eval e X.env) :: starEach [] X.env := by rfl) (hpl : (backTo pos (starEach [] X.env)).any (·.1) = false := by rfl) :
    PE X (.Call (.Name "list" p) [e] [] pos) (tE X.K mg (wListK fa)) :=
  pe_weak (pe_callTy (call_list_dK hc) hg hm PyProof.Rows.boot_list (L2.pa_cons ha L2.pa_nil he) (by decide) (by decide) he hpl) fun σ H Q ⟨F, ad, env, st, P, n, h, k⟩ => by
    refine tE_go n h fun r1 st1 v1 F1 ad1 H1 q x n1 d1 => ?_
    obtain ⟨m, kvs, rfl, hs, q⟩ := isLD_elim q
    obtain ⟨ar, rfl, har⟩ := d1
    obtain ⟨hF, ws, hH, rw'⟩ := n1.rel.cell m ar _ har hs
    refine ⟨ar, ws, rfl, hH, fun p hp => ?_⟩
    have g := grow_new (o := .lst (ws.map fun kv => kV kv.1)) n1.rel.fl hp (n1.rel.fl.none hp)
    exact k _ _ _ _ ad1 _ q (x.trans (g.ext ad1)) (n1.grow g) (Rp.lst upd_same (RpAll.le g.le _ _ (rpKv_keys rw')))
end
end DL
/-! text DLSort -/
namespace DL
open PySem PySem.Spec PyProof.Rows L2
/-! ### the order of texts -/
def leT (a b : Str) : Bool := decide (a.cps.toList ≤ b.cps.toList)
theorem leT_trans (x y z : Str) (h1 : leT x y = true) (h2 : leT y z = true) : leT x z = true := by
  unfold leT at *
  simp only [decide_eq_true_eq] at *
  exact List.le_trans h1 h2
theorem leT_total (x y : Str) : (leT x y || leT y x) = true := by
  unfold leT
  rcases List.le_total x.cps.toList y.cps.toList with h | h
  · simp [h]
  · simp [h]
theorem leT_anti (x y : Str) (h1 : leT x y = true) (h2 : leT y x = true) : x = y := by
  unfold leT at *
  simp only [decide_eq_true_eq] at *
  have := List.le_antisymm h1 h2
  cases x; cases y
  simp at this
  simp [this]
theorem leT_not (x y : Str) : leT x y = !decide (y.cps.toList < x.cps.toList) := by
  unfold leT
  by_cases h : y.cps.toList < x.cps.toList
  · have : ¬ x.cps.toList ≤ y.cps.toList := List.not_le.mpr h
    simp [h, this]
  · have : x.cps.toList ≤ y.cps.toList := List.not_lt.mp h
    simp [h, this]
def sortT (l : List Str) : List Str := l.mergeSort leT
theorem rising_le : ∀ (p : Str) (l : List Str), risingS p l = true → (p :: l).Pairwise fun x y => leT x y = true
  | p, [], _ => List.pairwise_singleton _ _
  | p, x :: r, h => by
    unfold risingS at h
    rw [Bool.and_eq_true, ltCps_eq] at h
    have h1 : leT p x = true := by rw [leT_not]; exact h.1
    have h2 := rising_le x r h.2
    rw [List.pairwise_cons]
    refine ⟨fun y hy => ?_, h2⟩
    rcases List.mem_cons.mp hy with rfl | hy
    · exact h1
    · exact leT_trans p x y h1 ((List.pairwise_cons.mp h2).1 y hy)
theorem sortedS_le (l : List Str) (h : sortedS l = true) : l.Pairwise fun x y => leT x y = true := by
  cases l with
  | nil => exact .nil
  | cons x r => exact rising_le x r h
theorem sortT_of {a l : List Str} (hp : a.Perm l) (ha : a.Pairwise fun x y => leT x y = true) : a = sortT l :=
  PySem.W.Srt.the_of_perm leT leT_trans leT_total leT_anti hp ha
def textsOf : List PyData → Option (List Str)
  | [] => some []
  | .str z :: r => (textsOf r).map (z :: ·)
  | _ => none
theorem textsOf_map (l : List Str) : textsOf (l.map .str) = some l := by
  induction l with
  | nil => rfl
  | cons x l ih => rw [List.map_cons, textsOf, ih]; rfl
def oSorted : B1
  | .list xs => (textsOf xs).bind fun ss => if ss.length < 64 then some (.list ((sortT ss).map .str)) else none
  | _ => none
section
variable {X : Cx} {K : PySem.W.Frag} {mg : Str → Option Value} {F H F' H' : Hp} {ad ad' : List Addr} {env : Env} {st : Store} {σ : L2.St} {v : V} {d : PyData} {a b c e tg o i : Expr} {es : List Expr} {f fa fb fc fo fi : WE} {fs : WA} {pos pos' p apos cpos : Pos} {x : Str} {W : List Nat}
theorem textsOf_rp : ∀ {xs : List PyData} {vs : List V} {ss : List Str}, RpAll K F vs xs → textsOf xs = some ss → vs = ss.map V.str
  | [], _, _, h, e => by cases h; cases e; rfl
  | x :: xs, _, ss, h, e => by
    cases h with
    | cons r rs =>
      cases x <;> try cases e
      rename_i z
      unfold textsOf at e
      cases q : textsOf xs with
      | none => rw [q] at e; cases e
      | some t =>
        rw [q] at e; cases e
        cases r
        rw [textsOf_rp rs q]; rfl
theorem dc_sorted : CallR X (.builtin "sorted") (rCN X.K (on1 oSorted)) := by
  intro pins s σ H xs us Q I r ⟨F, ds, c, fl, h, e, k⟩
  obtain ⟨v, d, rfl, h1, e1⟩ := vw1 h e
  cases h1 <;> try cases e1
  rename_i a vs xs ea ra
  have e2 : ((textsOf xs).bind fun ss => if ss.length < 64 then some (PyData.list ((sortT ss).map .str)) else none) = some c := e1
  cases q : textsOf xs with
  | none => rw [q] at e2; cases e2
  | some ss =>
    rw [q] at e2
    have e3 : (if ss.length < 64 then some (PyData.list ((sortT ss).map .str)) else none) = some c := e2
    by_cases hl : ss.length < 64
    · rw [if_pos hl] at e3
      cases e3
      have ev := textsOf_rp ra q
      subst ev
      refine cr_sortedS pins s σ H _ us Q I r ⟨a, ss, rfl, .inl (.inl ea), hl, fun ys p hp hs hn => ?_⟩
      have ey := sortT_of hp (sortedS_le ys hs)
      subst ey
      have g := grow_new (o := .lst ((sortT ss).map V.str)) fl hn (fl.none hn)
      exact k _ _ _ g (.lst upd_same (rpAll_strs _))
    · rw [if_neg hl] at e3; cases e3
theorem de_sorted (hu : X.A.units + 300 < cLine) (ha : PA X (e :: es) (tA X.K mg fs)) (hm : X.mg "sorted" = none) (hg : Gl X "sorted" := by rfl) (he : starEach (e :: es) X.env = (false, eval e X.env) :: starEach es X.env := by rfl) (hpl : (backTo pos (starEach es X.env)).any (·.1) = false := by rfl) :
    PE X (.Call (.Name "sorted" p) (e :: es) [] pos) (tE X.K mg (wOpN (on1 oSorted) fs)) := de_b dc_sorted hm PyProof.Rows.boot_sorted ha hg (by decide) (by decide) he hpl
end
end DL
/-! text DLSortI -/
namespace DL
open PySem PySem.Spec PyProof.Rows L2 SrtO
/-! ### sorted(d.items()), the keys texts -/
def IsPairT (h : Heap) (v : Value) (k : Str) (u : Value) : Prop := ∃ a o t n, v = .ref a ∧ h.get? a = some o ∧ o.cls = .type "tuple" ∧ o.data = .seq #[.str k t, u] n
def ltK (k : Value → Str × Value) (v u : Value) : Bool := decide ((k v).1.cps.toList < (k u).1.cps.toList)
theorem ltK_no {k : Value → Str × Value} {v u : Value} : ltK k v u = false ↔ (k u).1.cps.toList ≤ (k v).1.cps.toList := by
  unfold ltK
  rw [decide_eq_false_iff_not]
  exact List.not_lt
theorem swo_ltK (k : Value → Str × Value) : Swo (ltK k) := by
  refine ⟨fun x y h => ?_, fun x y z h1 h2 => ?_⟩
  · have h' : (k x).1.cps.toList < (k y).1.cps.toList := by simpa [ltK] using h
    rw [ltK_no]
    rcases List.le_total (k x).1.cps.toList (k y).1.cps.toList with q | q
    · exact q
    · exact absurd h' (List.not_lt.mpr q)
  · rw [ltK_no] at *
    exact List.le_trans h1 h2
section
variable {prog : Program} {w : World} {A : Around} {E : Value → Shared → Prop} {s : Shared}
theorem pairT_cmp {vs : List Value} {k : Value → Str × Value} (hp : ∀ v ∈ vs, IsPairT s.heap v (k v).1 (k v).2) (hd : ∀ v ∈ vs, ∀ u ∈ vs, (k v).1 = (k u).1 → v = u) : SrtO.Cmp prog w A s (tuples' true) (fun p => p.1 ∈ vs) (lt2 (ltK k)) := by
  intro p q hm hm'
  have h1 := hp _ hm
  have h2 := hp _ hm'
  have h3 := hd _ hm _ hm'
  show wpAny (model prog w) A (keyLt' (tuples' true) p.1 q.1) (fun r s' => s' = s ∧ r = ltK k p.1 q.1) (fun _ _ => False) s
  unfold ltK
  generalize hx : (k p.1).1 = x at h1 h3 ⊢
  generalize hy : (k p.1).2 = y at h1 ⊢
  generalize hx' : (k q.1).1 = x' at h2 h3 ⊢
  generalize hy' : (k q.1).2 = y' at h2 ⊢
  obtain ⟨a, o, t, n, e, ho, hc, hd⟩ := h1
  obtain ⟨a', o', t', n', e', ho', hc', hd'⟩ := h2
  rw [e, e'] at h3 ⊢
  refine PySem.W.kat_lt ho hd ho' hd' ?_
  show PySem.W.KatLex prog w A true (decide (2 < 2)) _ [(.str x t, .str x' t'), (y, y')] 0 s
  refine PySem.W.kat_cons (SeqAt.EqAt.str_str x t x' t' prog w _ _ ?_)
  refine PySem.W.kat_go (fun e1 => ?_) (fun e1 => ?_)
  · have ex : x = x' := by simpa using e1
    have ea := h3 ex
    cases ea
    rw [ho] at ho'
    cases ho'
    rw [hd] at hd'
    cases hd'
    refine PySem.W.kat_yes (PySem.W.kat_cons (SeqAt.EqAt.same y prog w _ _ ?_))
    refine PySem.W.kat_go (fun e2 => ?_) (fun e2 => ?_)
    · refine PySem.W.kat_yes (PySem.W.kat_nil ⟨rfl, ?_⟩)
      have : ¬ x.cps.toList < x.cps.toList := List.not_lt.mpr (List.le_refl _)
      simp [this]
    · cases e2
  · exact PySem.W.kat_no (oneLt_str ⟨rfl, rfl⟩)
theorem firstsT : ∀ {h : Heap} {vs : List Value} {k : Value → Str × Value}, (∀ v ∈ vs, IsPairT h v (k v).1 (k v).2) → ∃ fs : List Value, PySem.W.KatTups h vs fs ∧ fs.length = vs.length ∧ ∀ f ∈ fs, ∃ z t, f = .str z t
  | h, [], k, _ => ⟨[], trivial, rfl, fun _ z => by simp at z⟩
  | h, v :: vs, k, hp => by
    obtain ⟨fs, h1, h2, h3⟩ := firstsT (h := h) (vs := vs) (k := k) fun u hu => hp u (List.mem_cons_of_mem _ hu)
    obtain ⟨a, o, t, n, rfl, ho, hc, hd⟩ := hp v (List.mem_cons_self ..)
    exact ⟨.str (k (.ref a)).1 t :: fs, .cons ho hc hd rfl h1, by simp [h2], fun f hf => by
      rcases List.mem_cons.mp hf with rfl | hf
      · exact ⟨_, _, rfl⟩
      · exact h3 f hf⟩
theorem pairsT_sortable {a : Addr} {vs : List Value} {k : Value → Str × Value} (h0 : 0 < vs.length) (hp : ∀ v ∈ vs, IsPairT s.heap v (k v).1 (k v).2) (hd : ∀ v ∈ vs, ∀ u ∈ vs, (k v).1 = (k u).1 → v = u) (ha : ∀ o, s.heap.get? a = some o → o.cls ≠ .type "tuple") : SortableO prog w A s a vs (ltK k) := by
  intro h' keep
  have hp' : ∀ v ∈ vs, IsPairT h' v (k v).1 (k v).2 := fun v hm => by
    obtain ⟨b, o, t, n, e, ho, hc, hdt⟩ := hp v hm
    exact ⟨b, o, t, n, e, keep b o (fun z => by subst z; exact ha o ho hc) ho, hc, hdt⟩
  obtain ⟨fs, h1, h2, h3⟩ := firstsT hp'
  refine ⟨tuples' true, fun Q E hq => ?_, pairT_cmp hp' hd⟩
  refine PySem.W.kat_kind (T := .type "str") h1 (by omega) (fun f hm => ?_) (by rfl) ?_
  · obtain ⟨x, t, rfl⟩ := h3 f hm
    exact PySem.W.Looks.now
  · have e : (Value.type "str" != Value.type "tuple") = true := by first | decide +kernel | rfl | decide
    rw [e]
    exact hq
end
def keyTx : Key → Str
  | .inr x => x
  | .inl _ => ⟨#[]⟩
def rSortK : List V → Hp → VK → Prop := fun vs H Q => ∃ (p a : Addr) (kvs : List (Key × V)), vs = [.ref p] ∧ H p = some (L2.DX.itemsO p a) ∧ Rd H a (.dK kvs) ∧ (∀ e ∈ kvs, ∃ x, e.1 = .inr x) ∧
  ∀ (H' : Hp) (l : Addr) (ps : List (Addr × Key × V)), (∀ b o, H b = some o → H' b = some o) → (ps.map (·.2)).Perm kvs → (ps.map (·.2)).Pairwise (fun e f => leT (keyTx e.1) (keyTx f.1) = true) → H' l = some (.lst (ps.map fun z => V.ref z.1)) → H l = none →
    (∀ z ∈ ps, H z.1 = none ∧ H' z.1 = some (.tup [kV z.2.1, z.2.2])) → Q (.ref l) H'
theorem zip_refs {γ : Type} : ∀ (as : List Addr) (ks : List γ), as.length = ks.length → (as.zip ks).map (fun z => Value.ref z.1) = as.map Value.ref
  | [], _, _ => rfl
  | a :: as, [], h => by simp at h
  | a :: as, k :: ks, h => by
    have := zip_refs as ks (by simpa using h)
    simp only [List.zip_cons_cons, List.map_cons, this]
theorem cr_sortK {X : Cx} (hc : X.calm = true) : CallR X (.builtin "sorted") rSortK := by
  intro pins s σ H xs us Q I r h
  obtain ⟨p, a, kvs, rfl, hp, ha, htx, q⟩ := h
  obtain rfl := Vals.ref1 r
  have view : s.heap.IsItemsView p a := (show ObjOk X.prog X.w H s.heap p (L2.DX.itemsO p a) from I.hok p _ hp).1
  obtain ⟨z, hsm, vs, rel, dd⟩ := dk_rd I.hok ha
  obtain ⟨o, es, ep, ho, hx, hdat, hke, hpe, hnd⟩ := dd
  have l1 : kvs.length = vs.length := KV.length rel
  have l2 : vs.length = es.size := by rw [← hpe.length]; simp
  have hh : X.A.handled = none := I.ok.hd hc
  have ndk : (kvs.map (·.1)).Nodup := by rw [KV.keys rel]; exact hnd
  refine _root_.DT.sortedI (es := es) (ep := ep) hh view ⟨o, ho, hx, hdat⟩ (by omega) fun h' tk as hk hlt hl hG => ?_
  have lak : as.length = kvs.length := by omega
  have nd : as.Nodup := List.Pairwise.imp (fun h => Nat.ne_of_lt h) hG.rise
  have pr : ∀ (j : Nat) (b : Addr), as[j]? = some b → ∃ (x : Str) (v : V) (u : Value) (t : Tok), kvs[j]? = some (.inr x, v) ∧ RelV v u ∧ h'.get? b = some { cls := .type "tuple", data := .seq #[Value.str x t, u] } := by
    intro j b hj
    obtain ⟨en, he, hg⟩ := hG.pairs j b hj
    have hjl : j < vs.length := by
      have := (List.getElem?_eq_some_iff.mp hj).1
      omega
    obtain ⟨kk, u, e1⟩ : ∃ kk u, vs[j] = (kk, u) := ⟨_, _, rfl⟩
    have hv : vs[j]? = some (kk, u) := by rw [List.getElem?_eq_getElem hjl, e1]
    obtain ⟨hkey, hval⟩ := hpe.get? (e := en) (by simpa using he) hv
    have hjk : j < kvs.length := by omega
    obtain ⟨k2, v2, e2⟩ : ∃ k2 v2, kvs[j] = (k2, v2) := ⟨_, _, rfl⟩
    have hkv : kvs[j]? = some (k2, v2) := by rw [List.getElem?_eq_getElem hjk, e2]
    have hr : k2 = kk ∧ RelV v2 u := by
      have : ∀ {as : List (Key × V)} {bs : List (Key × Value)} {j : Nat} {x : Key × V} {y : Key × Value}, KV as bs → as[j]? = some x → bs[j]? = some y → x.1 = y.1 ∧ RelV x.2 y.2 := by
        intro as bs j x y hab
        unfold KV at hab
        induction hab generalizing j with
        | nil => intro h; simp at h
        | cons h t ih =>
          intro h1 h2
          cases j with
          | zero => simp at h1 h2; subst h1; subst h2; exact h
          | succ j => exact ih (by simpa using h1) (by simpa using h2)
      exact this rel hkv hv
    obtain ⟨rfl, ru⟩ := hr
    obtain ⟨x, ex⟩ := htx (k2, v2) (List.mem_of_getElem? hkv)
    have ex' : k2 = .inr x := ex
    subst ex'
    have hkey' : keyIs (.inr x) en.key = true := hkey
    rcases keyIs_shape hkey' with ⟨i, t, w1, w2⟩ | ⟨y, t, w1, w2⟩
    · cases w1
    · cases w1
      exact ⟨x, v2, u, t, hkv, ru, by rw [hg, w2, hval]⟩
  -- the heap of the sort
  have hob : (h'.push { cls := .type "list", data := .seq (as.map Value.ref).toArray }).get? h'.objs.size = some (seqObj "list" (as.map Value.ref).toArray 0) := Heap.get?_push_size _ rfl
  have ne0 : ∀ b o, h'.get? b = some o → b ≠ h'.objs.size := fun b o e => Nat.ne_of_lt (Heap.lt_size e)
  have kb : ∀ b o, s.heap.get? b = some o → (h'.push { cls := .type "list", data := .seq (as.map Value.ref).toArray }).get? b = some o := fun b o e => Heap.get?_push_of_some _ (hk b o e)
  generalize hh2 : h'.push { cls := .type "list", data := .seq (as.map Value.ref).toArray } = h2 at hob kb ⊢
  have ka : ∀ b o, h'.get? b = some o → h2.get? b = some o := fun b o e => by rw [← hh2]; exact Heap.get?_push_of_some _ e
  have hex : ∀ v ∈ as.map Value.ref, ∃ pq : Str × Value, IsPairT h2 v pq.1 pq.2 := by
    intro v hv
    obtain ⟨b, hb, rfl⟩ := List.mem_map.mp hv
    obtain ⟨j, hj⟩ := List.mem_iff_getElem?.mp hb
    obtain ⟨x, v, u, t, _, _, hg⟩ := pr j b hj
    exact ⟨(x, u), b, _, t, 0, rfl, ka _ _ hg, rfl, rfl⟩
  obtain ⟨k, hkk⟩ : ∃ k : Value → Str × Value, ∀ v ∈ as.map Value.ref, IsPairT h2 v (k v).1 (k v).2 := by
    classical
    refine ⟨fun v => if hv : v ∈ as.map Value.ref then (hex v hv).choose else (⟨#[]⟩, .none), fun v hv => ?_⟩
    simp only [dif_pos hv]
    exact (hex v hv).choose_spec
  have kat : ∀ (j : Nat) (b : Addr) (e : Key × V), as[j]? = some b → kvs[j]? = some e → e.1 = .inr (k (.ref b)).1 := by
    intro j b e hj he
    obtain ⟨x, v, u, t, h1, _, hg⟩ := pr j b hj
    obtain ⟨b', o', t', n', e1, h3, _, h4⟩ := hkk (.ref b) (List.mem_map.mpr ⟨b, List.mem_of_getElem? hj, rfl⟩)
    cases e1
    rw [ka _ _ hg] at h3
    cases h3
    rw [h1] at he
    cases he
    have h5 : (#[Value.str x t, u] : Array Value) = #[.str (k (.ref b)).1 t', (k (.ref b)).2] := by
      injection h4
    have h6 : Value.str x t = .str (k (.ref b)).1 t' := by
      have := congrArg (fun z : Array Value => z[0]?) h5
      simpa using this
    injection h6 with h7
    rw [← h7]
  have at_ : ∀ v ∈ as.map Value.ref, ∃ (j : Nat) (b : Addr) (e : Key × V), v = .ref b ∧ as[j]? = some b ∧ kvs[j]? = some e := by
    intro v hv'
    obtain ⟨b, hb, rfl⟩ := List.mem_map.mp hv'
    obtain ⟨j, hj⟩ := List.mem_iff_getElem?.mp hb
    obtain ⟨x, v, _, _, he, _⟩ := pr j b hj
    exact ⟨j, b, _, rfl, hj, he⟩
  have hdis : ∀ v ∈ as.map Value.ref, ∀ u ∈ as.map Value.ref, (k v).1 = (k u).1 → v = u := by
    intro v hv u hu heq
    obtain ⟨j, b, e, rfl, hj, he⟩ := at_ v hv
    obtain ⟨j2, b2, e2, rfl, hj2, he2⟩ := at_ u hu
    have a1 := kat j b e hj he
    have a2 := kat j2 b2 e2 hj2 he2
    rw [heq, ← a2] at a1
    have m1 : (kvs.map (·.1))[j]? = some e.1 := by rw [List.getElem?_map, he]; rfl
    have m2 : (kvs.map (·.1))[j2]? = some e.1 := by rw [List.getElem?_map, he2, a1]; rfl
    have ej : j = j2 := (List.getElem?_inj (List.getElem?_eq_some_iff.mp m1).1 ndk).mp (m1.trans m2.symm)
    subst ej
    rw [hj] at hj2
    cases hj2
    rfl
  have hlsz : (as.map Value.ref).length ≤ sizeLine := by rw [List.length_map]; omega
  refine wpAny_call_entry PyProof.Rows.slot_list_sort ⟨_, hob, rfl⟩ PyProof.Rows.entry_list_sort
    (list_sort_ord (s := { s with heap := h2, toks := tk }) (swo_ltK k) hob hlsz (fun h22 => pairsT_sortable (by omega) hkk hdis fun o e => by
      have e' : some o = some (seqObj "list" (as.map Value.ref).toArray 0) := e.symm.trans hob
      cases e'
      intro c
      exact absurd (Value.type.inj c) (by decide)) fun out hs hb => ⟨.none, rfl, ?_⟩) (PyProof.Rows.args_list_sort _)
  show EP X pins σ Q (.ref h'.objs.size) { s with heap := sortedHeap h2 h'.objs.size (as.map Value.ref) out.toArray, toks := tk }
  obtain ⟨zs, pz, ez⟩ := L2.perm_lift (fun z : Addr × Key × V => Value.ref z.1) hb.perm (as.zip kvs) (zip_refs as kvs lak)
  have idx : ∀ z ∈ zs, ∃ j : Nat, as[j]? = some z.1 ∧ kvs[j]? = some z.2 := by
    intro z' hz'
    obtain ⟨j, hj⟩ := List.mem_iff_getElem?.mp (pz.mem_iff.mp hz')
    exact ⟨j, List.getElem?_zip_eq_some.mp hj⟩
  have hperm : (zs.map (·.2)).Perm kvs := by
    have e := pz.map (·.2)
    have m2 : (as.zip kvs).map (·.2) = kvs := List.map_snd_zip (by rw [lak]; exact Nat.le_refl _)
    rw [m2] at e
    exact e
  have hsort : (zs.map (·.2)).Pairwise (fun e f => leT (keyTx e.1) (keyTx f.1) = true) := by
    have hs2 : out.Pairwise (fun x y => ltK k y x = false) := hs
    rw [← ez, List.pairwise_map] at hs2
    rw [List.pairwise_map]
    refine List.Pairwise.imp_of_mem (fun {x y} hx hy h => ?_) hs2
    obtain ⟨j, j1, j2⟩ := idx x hx
    obtain ⟨i, i1, i2⟩ := idx y hy
    have a1 := kat j _ _ j1 j2
    have a2 := kat i _ _ i1 i2
    rw [a1, a2]
    have := ltK_no.mp h
    exact decide_eq_true this
  have kF : ∀ b o, b ≠ h'.objs.size → h2.get? b = some o → (sortedHeap h2 h'.objs.size (as.map Value.ref) out.toArray).get? b = some o := fun b o hb e => (PyProof.Rows.sortedHeap_old hb (Heap.lt_size e)).trans e
  have kS : ∀ b o, s.heap.get? b = some o → (sortedHeap h2 h'.objs.size (as.map Value.ref) out.toArray).get? b = some o := fun b o e => kF b o (ne0 _ _ (hk b o e)) (kb b o e)
  obtain ⟨eF, heF⟩ := PyProof.Rows.sortedHeap_at (vs := as.map Value.ref) (out := out.toArray) hob
  have I1 : L2.Inv X pins σ H { s with heap := sortedHeap h2 h'.objs.size (as.map Value.ref) out.toArray, toks := tk } := I.kept (t' := tk) kS
  have hn0 : H h'.objs.size = none := I.hok.fresh (Nat.le_of_lt hlt)
  have hlen : (zs.map fun z => V.ref z.1).length ≤ sizeLine := by
    have e := hperm.length_eq
    rw [List.length_map] at e
    rw [List.length_map]
    omega
  have hout : out = zs.map fun z => Value.ref z.1 := ez.symm
  have rv : Vals (zs.map fun z => V.ref z.1) out := by
    rw [hout]
    exact vals_maps (fun z : Addr × Key × V => V.ref z.1) (fun z => Value.ref z.1) zs fun _ _ => rfl
  have I2 : L2.Inv X pins σ (upd H h'.objs.size (.lst (zs.map fun z => V.ref z.1))) { s with heap := sortedHeap h2 h'.objs.size (as.map Value.ref) out.toArray, toks := tk } :=
    I1.take (h' := sortedHeap h2 h'.objs.size (as.map Value.ref) out.toArray) (t' := tk) (fun b ob _ e => e) (I.fpOk (Nat.le_of_lt hlt) hn0) ⟨hlen, out, eF, rv, heF⟩
  obtain ⟨H2, I3, g, qt⟩ := L2.DX.takeT (P := fun b vs => ∃ (j : Nat) (x : Str) (v : V), as[j]? = some b ∧ kvs[j]? = some (.inr x, v) ∧ vs = [V.str x, v]) I as _ I2 nd fun b hb => by
    obtain ⟨j, hj⟩ := List.mem_iff_getElem?.mp hb
    obtain ⟨x, v, u, t, he, ru, hg⟩ := pr j b hj
    have hbl : s.heap.objs.size ≤ b := Nat.le_of_lt (hG.above b hb)
    refine ⟨hbl, ?_, [.str x, v], ⟨j, x, v, hj, he, rfl⟩, fun H3 => ⟨(by rw [sizeLine_eq]; show 2 ≤ 16777216; omega), [Value.str x t, u], .cons ⟨t, rfl⟩ (.cons ru .nil), ⟨_, kF _ _ (ne0 _ _ hg) (ka _ _ hg), rfl, 0, rfl⟩⟩⟩
    rw [upd_ne (ne0 _ _ hg)]
    exact I.hok.fresh hbl
  have gr : ∀ b o, H b = some o → H2 b = some o := fun b o e => g b o (by rw [upd_ne (ne_of_none e hn0)]; exact e)
  refine ⟨.ref h'.objs.size, H2, I3, rfl, q H2 h'.objs.size zs gr hperm hsort (g _ _ upd_same) hn0 fun z' hz' => ?_⟩
  obtain ⟨i, i1, i2⟩ := idx z' hz'
  refine ⟨I.hok.fresh (Nat.le_of_lt (hG.above _ (List.mem_of_getElem? i1))), ?_⟩
  obtain ⟨vs, ⟨j, x, v, j1, j2, ev⟩, hH⟩ := qt z'.1 (List.mem_of_getElem? i1)
  have eij : i = j := (List.getElem?_inj (List.getElem?_eq_some_iff.mp i1).1 nd).mp (i1.trans j1.symm)
  subst eij
  have ee : (.inr x, v) = z'.2 := Option.some.inj (j2.symm.trans i2)
  rw [ev] at hH
  rw [← ee]
  exact hH
end DL
/-! text DLSortI2 -/
namespace DL
open PySem PySem.Spec PyProof.Rows L2
def txOf : PyData → Str
  | .str z => z
  | _ => ⟨#[]⟩
def wSortI (fa : WE) : WE := fun env st Q => fa env st fun r st1 => isDc r fun kvs => (∀ e ∈ kvs, ∃ z, e.1 = .str z) ∧ ∀ ps : List (PyData × PyData), ps.Perm kvs → ps.Pairwise (fun e f => leT (txOf e.1) (txOf f.1) = true) → Q (.d (.list (ps.map fun p => .tuple [p.1, p.2]))) st1
section
variable {X : Cx} {K : PySem.W.Frag} {mg : Str → Option Value} {F H F' H' : Hp} {ad ad' : List Addr} {env : Env} {st : Store} {σ : L2.St} {v : V} {d : PyData} {e : Expr} {f : WE} {pos p apos cpos : Pos} {td : TE}
theorem pe_itemsV (he : PE X e td) (hbase : attributeBase e "items" X.env (eval e X.env) = eval e X.env := by rfl) (hline : (apos.endLine == cpos.line) = true := by rfl) :
    PE X (.Call (.Attribute e "items" apos) [] [] cpos) (fun σ H Q => td σ H fun x H1 => ∃ d kvs, x = .ref d ∧ Rd H1 d (.dK kvs) ∧ ∀ p, H1 p = none → Q (.ref p) (upd H1 p (L2.DX.itemsO p d))) := by
  refine ⟨fun pins s σ H Q I h => ?_⟩
  refine wpAny_Call_method (T := "dict") (id := "dict.items") hbase rfl hline PySem.F.plainAttrs_dict PySem.F.slot_dict_items PySem.F.type_dict_items (thn (he.run pins s σ H _ I h) fun u s1 ⟨x, H1, I1, rx, d, kvs, ex, hd, q⟩ => ?_)
  subst ex
  obtain rfl : u = Value.ref d := rx
  obtain ⟨z, hs, vs, rel, dd⟩ := dk_rd I1.hok hd
  refine ⟨dd.typeIs, dd.mapOf.noDict, ?_⟩
  have hf : H1 s1.heap.objs.size = none := I1.hok.fresh (Nat.le_refl _)
  have fin : EP X pins σ Q (.ref s1.heap.objs.size) { s1 with heap := s1.heap.push { cls := .type "dict_items", data := .fields #[.ref d] } } :=
    ⟨.ref s1.heap.objs.size, upd H1 s1.heap.objs.size (L2.DX.itemsO s1.heap.objs.size d), I1.laid (t' := s1.toks) (fun b u e => Heap.get?_push_of_some _ e) (Nat.le_refl _) (L2.DX.itemsO_ok (Heap.get?_push_size _ rfl)), rfl, q _ hf⟩
  show wpAny _ _ (callWith cpos (.builtin "dict.items") [.ref d] [] []) _ X.xe s1
  exact method_meetsIn PySem.F.slot_dict_items PySem.F.entry_dict_items rfl (PySem.evalArgs_none ⟨rfl, dd.typeIs, PySem.F.args_dict_items_1 _, _, meets_dict_items (mixKind X.prog X.w) d hs, ⟨vs, dd⟩, fin⟩)
theorem rp_pairs {F2 : Hp} : ∀ (ps : List (Addr × Key × V)) (l : List ((Key × V) × (PyData × PyData))), ps.map (·.2) = l.map (·.1) → (∀ z ∈ ps, F2 z.1 = some (.tup [kV z.2.1, z.2.2])) → (∀ q ∈ l, q.2.1 = keyD q.1.1 ∧ Rp K F2 q.1.2 q.2.2 ∧ ∃ z, q.2.1 = .str z) →
    RpAll K F2 (ps.map fun z => V.ref z.1) ((l.map (·.2)).map fun p => PyData.tuple [p.1, p.2])
  | [], [], _, _, _ => .nil
  | [], _ :: _, e, _, _ => by simp at e
  | _ :: _, [], e, _, _ => by simp at e
  | z :: ps, q :: l, e, h1, h2 => by
    simp only [List.map_cons, List.cons.injEq] at e
    obtain ⟨e1, e2, x, e3⟩ := h2 q (List.mem_cons_self ..)
    have hz := h1 z (List.mem_cons_self ..)
    refine .cons (.tup (.no (.inl (.inl hz)) ?_) (.cons ?_ (.cons ?_ .nil))) (rp_pairs ps l e.2 (fun y hy => h1 y (List.mem_cons_of_mem _ hy)) fun y hy => h2 y (List.mem_cons_of_mem _ hy))
    · rw [e3]; rfl
    · rw [e1, e.1]; exact rp_key _
    · rw [e.1]; exact e2
theorem rpKv_zip : ∀ {kvs : List (Key × V)} {ds : List (PyData × PyData)}, RpKv K F kvs ds → ∀ q ∈ kvs.zip ds, q.2.1 = keyD q.1.1 ∧ Rp K F q.1.2 q.2.2
  | [], _, h => by cases h; intro q hq; simp at hq
  | _ :: _, _, h => by
    cases h with
    | cons r rs =>
      intro q hq
      rcases List.mem_cons.mp hq with rfl | hq
      · exact ⟨rfl, r⟩
      · exact rpKv_zip rs q hq
theorem de_sortI (hc : X.calm = true) (ha : PE X e (tE X.K mg f)) (hm : X.mg "sorted" = none) (hbase : attributeBase e "items" X.env (eval e X.env) = eval e X.env := by rfl) (hline : (apos.endLine == cpos.line) = true := by rfl) (hg : Gl X "sorted" := by rfl)
    (he : starEach ((.Call (.Attribute e "items" apos) [] [] cpos) :: []) X.env = (false, eval (.Call (.Attribute e "items" apos) [] [] cpos) X.env) :: starEach [] X.env := by rfl) (hpl : (backTo pos (starEach [] X.env)).any (·.1) = false := by rfl) :
    PE X (.Call (.Name "sorted" p) [.Call (.Attribute e "items" apos) [] [] cpos] [] pos) (tE X.K mg (wSortI f)) :=
  pe_weak (pe_callB (cr_sortK hc) hg hm PyProof.Rows.boot_sorted (L2.pa_cons (pe_itemsV ha hbase hline) L2.pa_nil he) (by decide) (by decide) he hpl) fun σ H Q ⟨F, ad, env, st, P, n, h, k⟩ => by
    refine tE_go n h fun r1 st1 v1 F1 ad1 H1 q x n1 d1 => ?_
    obtain ⟨ds, rfl, htx, q⟩ := isDc_elim q
    obtain ⟨pa, ws, rfl, hR, rw'⟩ := rp_dct_at (ad1 := ad1) n1.rel.fl d1
    refine ⟨pa, ws, rfl, hR, fun p hp => ?_⟩
    have hpa : pa ≠ p := fun w => by
      rcases hR with h | ⟨o, h⟩
      · rw [w, hp] at h; cases h
      · rw [w, hp] at h; cases h
    have zz := rpKv_zip rw'
    have hlen : ws.length = ds.length := rw'.length
    have keys : ∀ e ∈ ws, ∃ z, e.1 = .inr z := by
      intro e he
      obtain ⟨i, hi⟩ := List.mem_iff_getElem?.mp he
      have hil : i < ds.length := by have := (List.getElem?_eq_some_iff.mp hi).1; omega
      have hm : (e, ds[i]) ∈ ws.zip ds := by
        refine List.mem_iff_getElem?.mpr ⟨i, ?_⟩
        rw [List.getElem?_zip_eq_some]
        exact ⟨hi, List.getElem?_eq_getElem hil⟩
      obtain ⟨e1, _⟩ := zz _ hm
      obtain ⟨z, ez⟩ := htx ds[i] (List.getElem_mem hil)
      have e1' : ds[i].1 = keyD e.1 := e1
      rw [ez] at e1'
      cases h : e.1 with
      | inl i => rw [h] at e1'; cases e1'
      | inr z => exact ⟨z, rfl⟩
    refine ⟨p, pa, ws, rfl, upd_same, ?_, keys, fun H2 l ps gr hperm hsort hl hln hps => ?_⟩
    · rcases hR with h | ⟨o, h⟩
      · exact .inl (by rw [upd_ne hpa]; exact h)
      · exact .inr ⟨o, by rw [upd_ne hpa]; exact h⟩
    have gr1 : ∀ b o, H1 b = some o → H2 b = some o := fun b o e => gr b o (by rw [upd_ne (ne_of_none e hp)]; exact e)
    let F2 : Hp := fun b => match F1 b with | some u => some u | none => match H1 b with | none => H2 b | some _ => none
    have F2n : ∀ b, H1 b = none → F2 b = H2 b := fun b hb => by
      have : F1 b = none := n1.rel.fl.none hb
      show (match F1 b with | some u => some u | none => match H1 b with | none => H2 b | some _ => none) = _
      rw [this, hb]
    have g : Grow F1 H1 F2 H2 := by
      refine ⟨fun b u e => ?_, fun b u e => ?_, gr1, fun b hb => ?_⟩
      · show (match F1 b with | some u => some u | none => match H1 b with | none => H2 b | some _ => none) = _
        rw [e]
      · by_cases hf : F1 b = none
        · by_cases hH : H1 b = none
          · rw [F2n b hH] at e; exact .inl e
          · have e' : (match F1 b with | some u => some u | none => match H1 b with | none => H2 b | some _ => none) = some u := e
            obtain ⟨w, hw⟩ := Option.ne_none_iff_exists'.mp hH
            rw [hf, hw] at e'; cases e'
        · obtain ⟨w, hw⟩ := Option.ne_none_iff_exists'.mp hf
          have e' : (match F1 b with | some u => some u | none => match H1 b with | none => H2 b | some _ => none) = some u := e
          rw [hw] at e'
          cases e'
          rcases n1.rel.fl b _ hw with z | ⟨kv, o, ez, z⟩
          · exact .inl (gr1 _ _ z)
          · exact .inr ⟨kv, o, ez, gr1 _ _ z⟩
      · by_cases hH : H1 b = none
        · exact .inr hH
        · refine .inl fun hf => hb ?_
          obtain ⟨w, hw⟩ := Option.ne_none_iff_exists'.mp hH
          show (match F1 b with | some u => some u | none => match H1 b with | none => H2 b | some _ => none) = _
          rw [hf, hw]
    have nH : ∀ b, upd H1 p (L2.DX.itemsO p pa) b = none → H1 b = none := fun b e => by
      by_cases hbp : b = p
      · subst hbp; exact hp
      · rw [upd_ne hbp] at e; exact e
    obtain ⟨l2, pl, el⟩ := L2.perm_lift (fun q : (Key × V) × (PyData × PyData) => q.1) hperm (ws.zip ds) (List.map_fst_zip (by omega))
    have hmem : ∀ q ∈ l2, q.2.1 = keyD q.1.1 ∧ Rp X.K F1 q.1.2 q.2.2 ∧ ∃ z, q.2.1 = .str z := fun q hq => by
      have hq' := pl.mem_iff.mp hq
      obtain ⟨e1, e2⟩ := zz q hq'
      have : q.2 ∈ ds := (List.of_mem_zip (a := q.1) (b := q.2) hq').2
      exact ⟨e1, e2, htx _ this⟩
    have rp : Rp X.K F2 (.ref l) (.list ((l2.map (·.2)).map fun p => PyData.tuple [p.1, p.2])) := by
      refine .lst (by rw [F2n l (nH l hln)]; exact hl) (rp_pairs ps l2 el.symm (fun z hz => ?_) fun q hq => ?_)
      · obtain ⟨a1, a2⟩ := hps z hz
        rw [F2n _ (nH _ a1)]; exact a2
      · obtain ⟨a1, a2, a3⟩ := hmem q hq
        exact ⟨a1, Rp.le g.le _ _ a2, a3⟩
    have hpd : (l2.map (·.2)).Perm ds := by
      have := pl.map (·.2)
      rwa [List.map_snd_zip (by omega)] at this
    have hso : (l2.map (·.2)).Pairwise (fun e f => leT (txOf e.1) (txOf f.1) = true) := by
      rw [← el, List.pairwise_map] at hsort
      rw [List.pairwise_map]
      refine List.Pairwise.imp_of_mem (fun {a b} ha hb h => ?_) hsort
      obtain ⟨a1, _, z1, a3⟩ := hmem a ha
      obtain ⟨b1, _, z2, b3⟩ := hmem b hb
      have ea : keyTx a.1.1 = txOf a.2.1 := by
        rw [a3] at a1 ⊢
        cases hk : a.1.1 with
        | inl i => rw [hk] at a1; cases a1
        | inr w => rw [hk] at a1; cases a1; rfl
      have eb : keyTx b.1.1 = txOf b.2.1 := by
        rw [b3] at b1 ⊢
        cases hk : b.1.1 with
        | inl i => rw [hk] at b1; cases b1
        | inr w => rw [hk] at b1; cases b1; rfl
      rw [← ea, ← eb]; exact h
    exact k _ _ _ F2 ad1 H2 (q _ hpd hso) (x.trans (g.ext ad1)) (n1.grow g) rp
end
end DL
/-! text DLEnum -/
namespace PySem
open Sem (wp)
open AutoSeq1 (wpAny_loadPart')
theorem dl_enum_newT (l : Addr) (items : Array Value) (n : Nat) (dct : Option Addr) (sl : Array (Option Value)) :
    Meets (Builtin.«enumerate.__new__» ⟨[.type "enumerate", .ref l], []⟩) (fun _ R s => s.heap.get? l = some { cls := .type "tuple", dict := dct, data := .seq items n, slots := sl } ∧
      R (.ok (.ret (.ref (s.heap.push { cls := .type "tuple_iterator", data := .fields #[.ref l, .int 0 0] }).objs.size)))
        { s with heap := (s.heap.push { cls := .type "tuple_iterator", data := .fields #[.ref l, .int 0 0] }).push { cls := .type "enumerate", data := .fields #[.none, .bool false, .ref s.heap.objs.size, rawInt 0, .none, .none] } }) :=
  .of_wp fun prog w A R s h => by
    obtain ⟨hp, g, d, tk, os⟩ := s; obtain ⟨hl, h⟩ := h
    have hsub := sub_enumerate
    have hL : Heap.IsTuple (Shared.heap ⟨hp, g, d, tk, os⟩) l items := ⟨_, hl, rfl, n, rfl⟩
    wp_walk using wpAny_loadPart' hl
    refine wpAny_stack_any fun st => wpAny_pure ?_
    split
    · rename_i c _ _ _ _ _
      cases (c == Value.type "enumerate")
      · wp_walk using wpAny_loadPart' hl, wpAny_pyIter_tuple hL
        exact ⟨_, rfl, h⟩
      · wp_walk using wpAny_loadPart' hl, wpAny_pyIter_tuple hL
        exact ⟨_, rfl, h⟩
    · wp_walk using wpAny_loadPart' hl, wpAny_pyIter_tuple hL
      exact ⟨_, rfl, h⟩
section
variable {prog : Program} {w : World} {A : Around} {E : Value → Shared → Prop} {s : Shared}
theorem dl_call_enumT {l : Addr} {items : Array Value} {Q : Value → Shared → Prop} (hL : s.heap.IsTuple l items)
    (h : ∀ h', IsEnum h' (s.heap.objs.size + 1) s.heap.objs.size 0 .none → h'.IsTupleIter s.heap.objs.size l 0 → h'.objs.size = s.heap.objs.size + 2 →
      (∀ b o, s.heap.get? b = some o → h'.get? b = some o) → Q (.ref (s.heap.objs.size + 1)) { s with heap := h' }) :
    wpAny (model prog w) A (call (.type "enumerate") [.ref l]) Q E s := by
  obtain ⟨⟨c, dct, dt, sl⟩, hl, hc, n, hd⟩ := hL
  replace hc : c = .type "tuple" := hc
  replace hd : dt = .seq items n := hd
  subst hc hd
  refine callType_new F.called_enumerate (by decide) (F.typeCall_enumerate_1 _) (F.newCall_enumerate_1 _) (fun obj => F.args_object_init_2 obj _) F.entry_enumerate_new
    (dl_enum_newT l items n dct sl) ⟨hl, ?_⟩
  have hz : (s.heap.push { cls := .type "tuple_iterator", data := .fields #[.ref l, .int 0 0] }).objs.size = s.heap.objs.size + 1 := Heap.size_push ..
  show _ ∧ _
  rw [hz]
  have he : IsEnum ((s.heap.push { cls := .type "tuple_iterator", data := .fields #[.ref l, .int 0 0] }).push
      { cls := .type "enumerate", data := .fields #[.none, .bool false, .ref s.heap.objs.size, rawInt 0, .none, .none] }) (s.heap.objs.size + 1) s.heap.objs.size 0 .none := by
    have := Heap.get?_push_size (s.heap.push { cls := .type "tuple_iterator", data := .fields #[.ref l, .int 0 0] })
      (o := { cls := .type "enumerate", data := .fields #[.none, .bool false, .ref s.heap.objs.size, rawInt 0, .none, .none] }) rfl
    rw [hz] at this; exact this
  refine ⟨⟨_, he, rfl⟩, h _ he ⟨_, Heap.get?_push_of_some _ (Heap.get?_push_size _ rfl), rfl, rfl⟩ (by rw [Heap.size_push, hz]) fun b o x => Heap.get?_push_of_some _ (Heap.get?_push_of_some _ x)⟩
end
end PySem
namespace DL
open PySem PySem.Spec PyProof.Rows L2
/-- a tuple's items, numbered -/
def ItNT (K : PySem.W.Frag) (a : Addr) : It :=
  ⟨fun i H => ∃ (xs : List V) (x : V), SqT K H a xs ∧ xs[i]? = some x, fun i H v H' => ∃ T x, v = .ref T ∧ H T = none ∧ H' = upd H T (.tup [.int (i : Nat), x]) ∧ ∀ xs, SqT K H a xs → xs[i]? = some x, fun i H => ∃ xs : List V, SqT K H a xs ∧ xs.length ≤ i⟩
theorem turn_numT {P : Program} {w : World} {K : PySem.W.Frag} {elts : List Expr} {kk : Nat} {tpos : Pos} (a e it : Addr) (hai : a ≠ it) (hea : e ≠ a) :
    Turn P w K (.Tuple elts kk tpos) (ItNT K a) [e, it] e (fun i h => (∃ old, IsEnum h e it ((i : Nat) : Int) old) ∧ h.IsTupleIter it a i ∧ e ≠ it) where
  mem := by simp
  obj := fun i h st b hb => by
    obtain ⟨⟨old, he⟩, ⟨o, ho, hc, hd⟩, _⟩ := st
    have e' : b = e ∨ b = it := by simpa using hb
    rcases e' with z | z
    · rw [z]; exact ⟨_, he, fun v q => nomatch q⟩
    · rw [z]; exact ⟨o, ho, fun v q => by rw [hd] at q; cases q⟩
  keep := fun i h h' st k => let ⟨⟨old, he⟩, hi, hne⟩ := st; ⟨⟨old, k e (by simp) _ he⟩, hi.at fun o q => k it (by simp) o q, hne⟩
  item := by
    intro X hP hw hK hc i pins s σ H E I hf st hg
    subst hP hw hK
    obtain ⟨⟨old, he⟩, hit, hne⟩ := st
    obtain ⟨xs, x, hq, hx⟩ := hg
    obtain ⟨its, rv, p, hz⟩ := I.tuple hq
    obtain ⟨u, hu, ru⟩ := rv.get hx
    have hel : e < s.heap.objs.size := Heap.lt_size he
    have hil : it < s.heap.objs.size := by obtain ⟨_, q, _⟩ := hit; exact Heap.lt_size q
    have hi : i < its.toArray.size := by
      have := (List.getElem?_eq_some_iff.mp hu).1
      simpa using this
    refine wpAny_pyNext_enum_itemD (Draws.tuple (prog := X.prog) (w := X.w) (A := X.A.in1) (I.ok.hd hc) it a hai its.toArray) he ⟨hit, p⟩ hi hne (by simp; exact ⟨hne, hea⟩) fun x0 h' tk hp ho hst hT hsz hk => ?_
    have ex : x0 = u := by
      have h1 : its.toArray[i]? = some x0 := hp
      have h2 : its.toArray[i]? = some u := by simpa using hu
      rw [h1] at h2; exact Option.some.inj h2
    subst ex
    refine ⟨_, rfl, wpAny_letOwnedTupleGo_enum (s := { s with heap := h', toks := tk + 1 }) ho fun h'' he' sb => ?_⟩
    have hT2 : h''.get? s.heap.objs.size = some { cls := .type "tuple", data := .seq #[.int i tk, x0] } := (sb.2 _ (Nat.ne_of_gt hel)).trans hT
    have new : ObjOk X.prog X.w (upd H s.heap.objs.size (.tup [.int (i : Nat), x])) h'' s.heap.objs.size (.tup [.int (i : Nat), x]) :=
      ⟨by show 2 ≤ sizeLine; decide, [.int i tk, x0], .cons ⟨_, rfl⟩ (.cons ru .nil), ⟨_, hT2, rfl, _, rfl⟩⟩
    have I1 : L2.Inv X pins σ (upd H s.heap.objs.size (.tup [.int (i : Nat), x])) { s with heap := h'', toks := tk + 1 } :=
      I.turnedNew (ch := [e, it]) (fun b ob hb q => (sb.2 b (fun z => hb (by simp [z]))).trans (hk b ob (fun z => hb (by simp [z])) (fun z => hb (by simp [z])) q)) hf (Nat.le_refl _) new
    refine ⟨.ref s.heap.objs.size, _, I1, rfl, ⟨_, x, rfl, I.hok.fresh (Nat.le_refl _), rfl, fun ys hy => by rw [I.tuple_inj hy hq]; exact hx⟩, ⟨⟨x0, ?_⟩, hst.1.at fun o q => (sb.2 it (Ne.symm hne)).trans q, hne⟩, fun b hb => ?_⟩
    · have e1 : ((i + 1 : Nat) : Int) = (i : Int) + 1 := by omega
      rw [e1]; exact he'
    · have hb' : b < s.heap.objs.size := by
        have e' : b = e ∨ b = it := by simpa using hb
        rcases e' with z | z
        · rw [z]; exact hel
        · rw [z]; exact hil
      rw [upd_ne (Nat.ne_of_lt hb')]
      exact (hf b hb).1
  done := by
    intro X hP hw hK hc i pins s σ H E I hf st hg
    subst hP hw hK
    obtain ⟨⟨old, he⟩, hit, hne⟩ := st
    obtain ⟨xs, hq, hx⟩ := hg
    obtain ⟨its, rv, p, hz⟩ := I.tuple hq
    obtain ⟨f0, f1, f2, f3, f4, f5⟩ := hf it (by simp)
    have hl := rv.length
    have hT : s.TypeIs (.ref e) "enumerate" := ⟨_, he, rfl⟩
    unfold pyNext
    refine wpAny_bind (wpAny_attempt (wpAny_callSpecial?_slot (name := Str.ofString "__next__") hT PySem.F.slot_enumerate_next
      (wpAny_call_entry PySem.F.slot_enumerate_next hT PySem.F.entry_enumerate_next ?_ (PySem.F.args_enumerate_next_1 _))))
    show wpAny _ _ (field (.ref e) 2 >>= _) _ _ _
    refine wpAny_bind (wpAny_field he rfl (x := .ref it) rfl ?_)
    refine wpAny_bind (wpAny_nextOf_tuple_end (I.ok.hd hc) hit (show s.heap.IsTuple a its.toArray from p) (by simp; omega) fun h' x he' hx' => ?_)
    obtain ⟨o, ho, hc'⟩ := hx'
    refine wpAny_bind (wpAny_isInstance (T := "StopIteration") (b := true) ⟨o, ho, hc'⟩ isSubtype_stop ?_)
    exact wpAny_pure ⟨rfl, I.turned (t' := s.toks) (fun b o hb q => he' b o hb q) f0 f1 f3 f4 f5⟩
  self := fun A i s Q E st h => let ⟨⟨_, he⟩, _⟩ := st; wpAny_pyIter_enum he h
/-- enumerate(list or tuple) -/
def iNum (K : PySem.W.Frag) (ta : TA) : TI := fun σ H R => ta σ H fun vs H1 => ∃ a xs, vs = [.ref a] ∧ ((SqL K H1 a xs ∧ (xs.length ≤ sizeLine → R (Ite K a) H1)) ∨ (SqT K H1 a xs ∧ (xs.length ≤ sizeLine → R (ItNT K a) H1)))
theorem pi_num {X : Cx} {e : Expr} {ta : TA} {p pos tpos : Pos} {elts : List Expr} {kk : Nat} (hg : Gl X "enumerate") (hm : X.mg "enumerate" = none) (ha : PA X [e] ta) (hs : starEach [e] X.env = [(false, eval e X.env)] := by rfl) :
    PI X (.Tuple elts kk tpos) (.Call (.Name "enumerate" p) [e] [] pos) (iNum X.K ta) := by
  refine ⟨fun pins s σ H R I h => ?_⟩
  refine wpAny_Call_Name_kw (ld_blt I hg hm boot_enumerate (PyProof.Rows.callWith_type1 (thn (ha.run pos pins s σ H _ I h) fun us s1 ⟨vs, H1, I1, r1, q1⟩ => ?_) hs rfl))
  obtain ⟨a, xs, ex, q⟩ := q1
  subst ex
  cases r1 with
  | cons r rr =>
    cases rr
    cases r
    have fresh2 : ∀ b ∈ [s1.heap.objs.size + 1, s1.heap.objs.size], s1.heap.objs.size ≤ b := fun b hb => by
      have e' : b = s1.heap.objs.size + 1 ∨ b = s1.heap.objs.size := by simpa using hb
      rcases e' with z | z
      · rw [z]; exact Nat.le_add_right _ _
      · rw [z]; exact Nat.le_refl _
    rcases q with ⟨hq, q⟩ | ⟨hq, q⟩
    · obtain ⟨its, rv, p', hz⟩ := I1.list hq
      refine call_enumerate_list p'.isList fun h' he hit hsz hk => wpAny_pyIter_enum he ?_
      have I2 : L2.Inv X pins σ H1 { s1 with heap := h' } := I1.kept (t' := s1.toks) hk
      exact ⟨s1.heap.objs.size + 1, [s1.heap.objs.size + 1, s1.heap.objs.size], _, _, H1, rfl, I2, turn_enum a (s1.heap.objs.size + 1) s1.heap.objs.size, ⟨⟨.none, he⟩, hit, Nat.succ_ne_self _⟩, fun b hb => I1.fpOk (fresh2 b hb) (I1.hok.fresh (fresh2 b hb)), q hz⟩
    · obtain ⟨its, rv, p', hz⟩ := I1.tuple hq
      have hlt : a < s1.heap.objs.size := by obtain ⟨o, ho, _⟩ := p'; exact Heap.lt_size ho
      refine dl_call_enumT (show s1.heap.IsTuple a its.toArray from p') fun h' he hit hsz hk => wpAny_pyIter_enum he ?_
      have I2 : L2.Inv X pins σ H1 { s1 with heap := h' } := I1.kept (t' := s1.toks) hk
      exact ⟨s1.heap.objs.size + 1, [s1.heap.objs.size + 1, s1.heap.objs.size], _, _, H1, rfl, I2, turn_numT a (s1.heap.objs.size + 1) s1.heap.objs.size (Nat.ne_of_lt hlt) (Nat.ne_of_gt (Nat.lt_succ_of_lt hlt)), ⟨⟨.none, he⟩, hit, Nat.succ_ne_self _⟩, fun b hb => I1.fpOk (fresh2 b hb) (I1.hok.fresh (fresh2 b hb)), q hz⟩
section
variable {X : Cx} {K : PySem.W.Frag} {mg : Str → Option Value} {F H F' H' : Hp} {ad ad' : List Addr} {env : Env} {st : Store} {σ : L2.St} {e : Expr} {f : WE} {pos p : Pos}
theorem enumL_get : ∀ {xs : List PyData} {m i : Nat} {x : DV}, (enumL m xs)[i]? = some x → ∃ y, xs[i]? = some y ∧ x = .d (.tuple [.int ((m + i : Nat) : Int), y])
  | [], _, _, _, h => by simp [enumL] at h
  | y :: ys, m, 0, x, h => by
    simp [enumL] at h
    exact ⟨y, rfl, by rw [← h]; simp⟩
  | y :: ys, m, i + 1, x, h => by
    have h' : (enumL (m + 1) ys)[i]? = some x := by simpa [enumL] using h
    obtain ⟨z, e1, e2⟩ := enumL_get h'
    refine ⟨z, by simpa using e1, ?_⟩
    rw [e2]
    have : m + 1 + i = m + (i + 1) := by omega
    rw [this]
theorem enumL_len : ∀ (xs : List PyData) (m : Nat), (enumL m xs).length = xs.length
  | [], _ => rfl
  | _ :: ys, m => by simp [enumL, enumL_len ys]
theorem numPair {F1 H1 : Hp} {T : Addr} {w : V} {y : PyData} {i : Nat} (fl : FLe F1 H1) (hT : H1 T = none) (r : Rp K F1 w y) : Grow F1 H1 (upd F1 T (.tup [.int (i : Nat), w])) (upd H1 T (.tup [.int (i : Nat), w])) ∧ Rp K (upd F1 T (.tup [.int (i : Nat), w])) (.ref T) (.tuple [.int ((0 + i : Nat) : Int), y]) := by
  have g := grow_new (o := .tup [.int (i : Nat), w]) fl hT (fl.none hT)
  refine ⟨g, ?_⟩
  rw [Nat.zero_add]
  exact Rp.tup (.no (.inl (.inl upd_same)) rfl) (.cons (.int _) (.cons (Rp.le g.le _ _ r) .nil))
theorem itok_numL {a : Addr} {vs : List V} {xs : List PyData} (h : F a = some (.lst vs)) (r : RpAll K F vs xs) (hz : vs.length ≤ sizeLine) : ItOk K mg (Ite K a) (enumL 0 xs) F H ad := by
  have at_ : ∀ {F1 H1 : Hp}, LeH F F1 → FLe F1 H1 → H1 a = some (.lst vs) := fun le fl => by
    rcases fl _ _ (le _ _ h) with z | ⟨_, _, z, _⟩
    · exact z
    · cases z
  refine ⟨by rw [enumL_len, ← r.length]; exact hz, fun F1 H1 ad1 st1 i x le R e => ?_, fun F1 H1 ad1 st1 i x le R e v H2 hy => ?_, fun F1 H1 ad1 st1 i le R e => ?_⟩
  · obtain ⟨y, ey, rfl⟩ := enumL_get e
    obtain ⟨w, ew, _⟩ := r.get ey
    exact ⟨vs, w, .inl (.inl (at_ le.le R.fl)), ew⟩
  · obtain ⟨y, ey, rfl⟩ := enumL_get e
    obtain ⟨w, ew, rw'⟩ := r.get ey
    obtain ⟨T, w2, rfl, hT, rfl, hv⟩ := hy
    have := hv vs (.inl (.inl (at_ le.le R.fl)))
    rw [ew] at this
    cases this
    obtain ⟨g, rp⟩ := numPair (i := i) R.fl hT (Rp.le le.le _ _ rw')
    exact ⟨_, g.ext ad1, fun _ _ z => z.grow g, rp⟩
  · exact ⟨vs, .inl (.inl (at_ le.le R.fl)), by rw [enumL_len, ← r.length] at e; exact e⟩
theorem itok_numT {a : Addr} {vs : List V} {xs : List PyData} (h : SqT K F a vs) (r : RpAll K F vs xs) (hz : vs.length ≤ sizeLine) : ItOk K mg (ItNT K a) (enumL 0 xs) F H ad := by
  have at_ : ∀ {F1 H1 : Hp}, LeH F F1 → FLe F1 H1 → SqT K H1 a vs := fun le fl => fl.seqT (sqT_le le h)
  refine ⟨by rw [enumL_len, ← r.length]; exact hz, fun F1 H1 ad1 st1 i x le R e => ?_, fun F1 H1 ad1 st1 i x le R e v H2 hy => ?_, fun F1 H1 ad1 st1 i le R e => ?_⟩
  · obtain ⟨y, ey, rfl⟩ := enumL_get e
    obtain ⟨w, ew, _⟩ := r.get ey
    exact ⟨vs, w, at_ le.le R.fl, ew⟩
  · obtain ⟨y, ey, rfl⟩ := enumL_get e
    obtain ⟨w, ew, rw'⟩ := r.get ey
    obtain ⟨T, w2, rfl, hT, rfl, hv⟩ := hy
    have := hv vs (at_ le.le R.fl)
    rw [ew] at this
    cases this
    obtain ⟨g, rp⟩ := numPair (i := i) R.fl hT (Rp.le le.le _ _ rw')
    exact ⟨_, g.ext ad1, fun _ _ z => z.grow g, rp⟩
  · exact ⟨vs, at_ le.le R.fl, by rw [enumL_len, ← r.length] at e; exact e⟩
theorem di_enum {elts : List Expr} {kk : Nat} {tpos : Pos} (he : PE X e (tE X.K mg f)) (hm : X.mg "enumerate" = none) (hg : Gl X "enumerate" := by rfl) (hs0 : starEach (e :: []) X.env = (false, eval e X.env) :: starEach [] X.env := by rfl) (hs : starEach [e] X.env = [(false, eval e X.env)] := by rfl) :
    PI X (.Tuple elts kk tpos) (.Call (.Name "enumerate" p) [e] [] pos) (tWI X.K mg (iEnumD f)) :=
  pi_weak (pi_num hg hm (L2.pa_cons he L2.pa_nil hs0) hs) fun σ H R ⟨F, ad, env, st, P, n, h, k⟩ => by
    refine tE_go n h fun r st1 v F1 ad1 H1 q x n1 d1 => ?_
    cases r with
    | d y =>
      obtain ⟨xs, ex, q⟩ := optK_elim q
      have d1' : Rp X.K F1 v y := d1
      cases y with
      | list ys =>
        cases ex
        cases d1' with
        | @lst a vs _ ea ra =>
          have hl : H1 a = some (.lst vs) := (n1.rel.fl _ _ ea).elim (fun z => z) fun ⟨_, _, z, _⟩ => nomatch z
          exact ⟨a, vs, rfl, .inl ⟨.inl (.inl hl), fun hz => k _ _ _ _ _ _ q x n1 (itok_numL ea ra hz)⟩⟩
      | tuple ys =>
        cases ex
        cases d1' with
        | @tup a vs _ ea ra => exact ⟨a, vs, rfl, .inr ⟨n1.rel.fl.seqT ea.sq, fun hz => k _ _ _ _ _ _ q x n1 (itok_numT ea.sq ra hz)⟩⟩
      | _ => cases ex
    | loc _ => exact q.elim
    | fn _ => exact q.elim
    | scr _ => exact q.elim
end
end DL
/-! text DLKw -/
namespace DL
open PySem PySem.Spec PyProof.Rows L2
/-- f(k = a, ..) alone: which value goes where -/
def pick {α : Type} (π : List Nat) (l : List α) : List α := π.filterMap fun i => l[i]?
theorem pick_vals {vs : List V} {us : List Value} (h : Vals vs us) : ∀ π : List Nat, Vals (pick π vs) (pick π us)
  | [] => .nil
  | i :: π => by
    have ih := pick_vals h π
    have hl := h.length
    unfold pick at *
    rw [List.filterMap_cons, List.filterMap_cons]
    cases q : vs[i]? with
    | none =>
      have : us[i]? = none := by
        rw [List.getElem?_eq_none_iff] at q ⊢
        omega
      rw [this]; exact ih
    | some v =>
      obtain ⟨u, hu, r⟩ := h.get q
      rw [hu]
      exact .cons r ih
theorem pick_dvrs {K : PySem.W.Frag} {mg : Str → Option Value} {F : Hp} {ad : List Addr} {vs : List V} {rs : List DV} (h : DVRs K mg F ad vs rs) : ∀ π : List Nat, DVRs K mg F ad (pick π vs) (pick π rs)
  | [] => .nil
  | i :: π => by
    have ih := pick_dvrs h π
    have hl := h.length
    unfold pick at *
    rw [List.filterMap_cons, List.filterMap_cons]
    cases q : rs[i]? with
    | none =>
      have : vs[i]? = none := by
        rw [List.getElem?_eq_none_iff] at q ⊢
        omega
      rw [this]; exact ih
    | some v =>
      obtain ⟨u, hu, r⟩ := h.get q
      rw [hu]
      exact .cons r ih
def wCallK (sp : SpD) (π : List Nat) (E : EK) (fs : WA) : WE := fun env st Q => fs env st fun rs st1 => sp (pick π rs) st1 Q E
structure HasK (P : Program) (w : World) (K : PySem.W.Frag) (mg : Str → Option Value) (base : Heap) (k : Nat) (x : Str) (ps : List Str) (sp : SpD) (ks : List Str) (π : List Nat) : Prop where
  ex : ∃ f fd, mg x = some (.ref f) ∧ PySem.W.keepIn K (.ref f) = true ∧ (∀ (s : Shared) (ws : List Value), ws.length = ks.length → BindsTo s fd ⟨[], ks.zip ws⟩ (ps.zip (pick π ws))) ∧ FnG P w K mg base CX0 k f fd ps (spV K mg ps.length sp)
  ar : ∀ args st P PE, sp args st P PE → args.length = ps.length
theorem HasK.mono {P : Program} {w : World} {K : PySem.W.Frag} {mg : Str → Option Value} {base : Heap} {j k : Nat} {x : Str} {ps ks : List Str} {sp : SpD} {π : List Nat} (h : HasK P w K mg base j x ps sp ks π) (hk : j ≤ k) : HasK P w K mg base k x ps sp ks π :=
  ⟨let ⟨f, fd, a, b, c, d⟩ := h.ex; ⟨f, fd, a, b, c, d.mono hk⟩, h.ar⟩
theorem hasKw_of {P : Program} {w : World} {K : PySem.W.Frag} {mg : Str → Option Value} {base : Heap} {x : Str} {st : Stmt} {N ps ks : List Str} {k : Nat} {sp : SpD} {body : EK → WS} {π : List Nat} (h : Fn1 K mg x st) (S : FnScope N ps (defScope st))
    (hb : ∀ (kV doc pm : Value) (an : Option Addr) (cdv ct : Value) (ws : List Value), ws.length = ks.length → bindArgs (PySem.W.fnOf x x (defArgs st) (defBody st) (defScope st) .none kV doc pm an cdv ct) ⟨[], ks.zip ws⟩ = pure (ps.zip (pick π ws)))
    (ar : ∀ args st P PE, sp args st P PE → args.length = ps.length) (hk : Keeps N.length sp body)
    (hd : ∀ (f : Addr) (cdv : Value) (A : Around) (outer : List PySem.Env) (s : Shared) (H : Hp) (E : XK) (EE : EK), Room1 k (A.deeper (envOfC x (defScope st) s.heap.objs.size f cdv)) →
      PSs (cxOf CX0 P w K mg base N x (defScope st) f cdv A outer s H E).nox (defBody st) (tS K mg (body EE))) : HasK P w K mg base (k + 1) x ps sp ks π := by
  obtain ⟨f, fd, hm, Fu⟩ := h
  refine ⟨⟨f, fd, hm, Fu.kp, fun s ws hl => ?_, fn_keep Fu S ar hk (hd f)⟩, ar⟩
  obtain ⟨oc, od, kV, doc, pm, an, cdv, ct, osl, rfl, lk, hcd⟩ := Fu.ex
  exact .of_eq (hb kV doc pm an cdv ct ws hl)
section
variable {X : Cx} {K : PySem.W.Frag} {mg : Str → Option Value} {x : Str} {p pos kpos : Pos} {e : Expr} {kws : List Keyword} {f : WE} {fs : WA} {nm : Option Str}
theorem pk_weak {t t' : TA} (h : PK X kws t) (w : ∀ σ H Q, t' σ H Q → t σ H Q) : PK X kws t' := ⟨fun pos pins s σ H Q I q => h.run pos pins s σ H Q I (w σ H Q q)⟩
/-- the values of m arguments -/
def tAn (K : PySem.W.Frag) (mg : Str → Option Value) (m : Nat) (f : WA) : TA := fun σ H Q => ∃ F ad env st P, Now K mg σ F H ad env st ∧ f env st P ∧
  ∀ rs st' vs F' ad' H', P rs st' → Ext F H ad F' H' ad' → Now K mg σ F' H' ad' env st' → DVRs K mg F' ad' vs rs → rs.length = m → Q vs H'
theorem dk_nil : PK X [] (tAn K mg 0 wNil) := pk_weak pk_nil fun σ H Q ⟨F, ad, env, st, P, n, h, k⟩ => k [] st [] F ad H h (Ext.refl _ _ _) n .nil rfl
theorem dk_cons {m : Nat} (ha : PE X e (tE K mg f)) (hr : PK X kws (tAn K mg m fs)) : PK X (⟨nm, e, kpos⟩ :: kws) (tAn K mg (m + 1) (wCons f fs)) :=
  pk_weak (pk_cons ha hr) fun σ H Q ⟨F, ad, env, st, P, n, h, k⟩ => by
    refine tE_go n h fun r1 st1 v1 F1 ad1 H1 p1 x1 n1 d1 => ?_
    exact ⟨F1, ad1, env, st1, _, n1, p1, fun rs st2 vs F2 ad2 H2 p2 x2 n2 d2 l2 => k (r1 :: rs) st2 (v1 :: vs) F2 ad2 H2 p2 (x1.trans x2) n2 (.cons (d1.ext x2) d2) (by simp [l2])⟩
theorem de_callK {k : Nat} {ps ks : List Str} {sp : SpD} {E : EK} {π : List Nat} (h : HasK X.prog X.w X.K X.mg X.base k x ps sp ks π) (hr : Room1 k X.A) (hkw : PK X kws (tAn X.K X.mg ks.length fs)) (hg : Gl X x := by rfl)
    (hall : (backToKw pos (keywordEach kws X.env)).all (·.1.isSome) = true := by rfl) (hks : (backToKw pos (keywordEach kws X.env)).filterMap (·.1) = ks := by rfl) (hdb : (x == ("__debug__" : Str)) = false := by decide)
    (hpl : ((backTo pos (starEach [] X.env)).any (·.1) || (backToKw pos (keywordEach kws X.env)).any (·.1.isNone)) = false := by rfl) : PE X (.Call (.Name x p) [] kws pos) (tE X.K X.mg (wCallK sp π E fs)) := by
  obtain ⟨f, fd, hm, hk, hb, G⟩ := h.ex
  refine ⟨fun pins s σ H Q I hh => wpAny_Call_Name_kw (ld_glob I hg hm ?_ hdb)⟩
  refine PySem.W.callWith_KW0 (h₀ := X.base) I.ok.mod.kin hk hall ?_ hpl
  obtain ⟨F, ad, env, st, P, n, hh, kk⟩ := hh
  have h2 : (tAn X.K X.mg ks.length fs) σ H fun vs H1 => vs.length = ks.length ∧ spV X.K X.mg ps.length sp (pick π vs) H1 Q fun _ _ _ => True := by
    refine ⟨F, ad, env, st, _, n, hh, fun rs st1 vs F1 ad1 H1 p1 x1 n1 d1 l1 => ⟨by rw [d1.length]; exact l1, F1, ad1, st1, pick π rs, P, E, h.ar _ _ _ _ p1, n1.rel, pick_dvrs d1 π, p1, fun r st2 v F2 ad2 H2 p2 x2 r2 d2 => ?_, fun _ _ _ _ _ _ _ _ _ _ _ => trivial⟩⟩
    exact kk r st2 v F2 ad2 H2 p2 (x1.trans x2) ⟨r2, n1.env.ext x2⟩ d2
  refine thn (hkw.run pos pins s σ H _ I h2) fun ws s2 ⟨zs, H2, I2, rz, hl, q2⟩ => ⟨I2.kIn, ?_⟩
  rw [hks]
  have rv := pick_vals rz π
  have go := G.run X.A X.stack s2 H2 ⟨[], ks.zip ws⟩ (pick π ws) (pick π zs) Q (fun _ _ _ => True) hr I2.env0 (hb s2 ws (by rw [← rz.length]; exact hl)) rv q2
  refine wpAny_call (codeAny_mono go fun res s' q => ?_)
  match res, q with
  | .error er, q => exact q.elim
  | .ok (.ret u), q => exact I2.after q
  | .ok .next, q => exact q.elim
  | .ok .brk, q => exact q.elim
  | .ok .cont, q => exact q.elim
end
end DL
/-! text DLKd -/
namespace DL
open PySem PySem.Spec PyProof.Rows L2
/-- a written dict of the module, its keys texts -/
def KDat (K : PySem.W.Frag) (w : World) (mg : Str → Option Value) (x : Str) (kvs : List (PyData × PyData)) : Prop :=
  ∃ d es n, mg x = some (.ref d) ∧ KDict K w d es n ∧ ∀ z : Str, (∃ y u v, lookK kvs (.str z) = some y ∧ PySem.W.nsIn K d z = some (some u) ∧ RelV v u ∧ ∀ F, Rp K F v y) ∨ (lookK kvs (.str z) = none ∧ PySem.W.nsIn K d z = some none)
def wKIn (neg : Bool) (kvs : List (PyData × PyData)) (fa : WE) : WE := fun env st Q => fa env st fun r st1 => isSt r fun z => Q (.d (.bool (if neg = true then !hasK kvs (.str z) else hasK kvs (.str z)))) st1
def wKIx (kvs : List (PyData × PyData)) (fa : WE) : WE := fun env st Q => fa env st fun r st1 => isSt r fun z => optK (lookK kvs (.str z)) fun y => Q (.d y) st1
section
variable {X : Cx} {mg : Str → Option Value} {a : Expr} {fa : WE} {pos p : Pos} {x : Str} {kvs : List (PyData × PyData)}
theorem do_kIn (neg : Bool) {d : Addr} {es : Array DictEntry} {n : Nat} (D : KDict X.K X.w d es n) :
    OpR X (compareOp (if neg = true then .NotIn else .In)) (fun x y H Q => ∃ (z : Str) (r : Option Value), x = .str z ∧ y = .ref d ∧ PySem.W.nsIn X.K d z = some r ∧ Q (.bl (if neg = true then !r.isSome else r.isSome)) H) := by
  cases neg with
  | true => exact op_notIn_kd D
  | false => exact op_in_kd D
theorem w_kIn (neg : Bool) {d : Addr} {σ : L2.St} {H : Hp} {Q : VK}
    (hz : ∀ z : Str, (∃ y u v, lookK kvs (.str z) = some y ∧ PySem.W.nsIn X.K d z = some (some u) ∧ RelV v u ∧ ∀ F, Rp X.K F v y) ∨ (lookK kvs (.str z) = none ∧ PySem.W.nsIn X.K d z = some none))
    (h : tE X.K mg (wKIn neg kvs fa) σ H Q) : tOp (fun x y H Q => ∃ (z : Str) (r : Option Value), x = .str z ∧ y = .ref d ∧ PySem.W.nsIn X.K d z = some r ∧ Q (.bl (if neg = true then !r.isSome else r.isSome)) H) (tE X.K mg fa) (tC (.ref d)) σ H Q := by
  obtain ⟨F, ad, env, st, P, n, h, k⟩ := h
  refine tE_go n h fun r1 st1 v1 F1 ad1 H1 q x n1 d1 => ?_
  obtain ⟨z, rfl, q2⟩ := isSt_elim q
  have d1' : Rp X.K F1 v1 (.str z) := d1
  cases d1'
  rcases hz z with ⟨y, u, v, e1, e2, _⟩ | ⟨e1, e2⟩
  · refine ⟨z, some u, rfl, rfl, e2, ?_⟩
    have : hasK kvs (.str z) = true := by unfold hasK; rw [e1]; rfl
    rw [this] at q2
    exact k _ _ _ _ _ _ q2 x n1 (by cases neg <;> exact Rp.bl _)
  · refine ⟨z, none, rfl, rfl, e2, ?_⟩
    have : hasK kvs (.str z) = false := by unfold hasK; rw [e1]; rfl
    rw [this] at q2
    exact k _ _ _ _ _ _ q2 x n1 (by cases neg <;> exact Rp.bl _)
theorem de_kNotIn (h : KDat X.K X.w X.mg x kvs) (ha : PE X a (tE X.K mg fa)) (hg : Gl X x := by rfl) (hd : (x == ("__debug__" : Str)) = false := by decide) (hm : behindInMarks .NotIn (.Name x p) = false := by rfl) : PE X (.Compare a [.NotIn] [.Name x p] pos) (tE X.K mg (wKIn true kvs fa)) := by
  obtain ⟨d, es, n, hm0, D, hz⟩ := h
  exact pe_weak (pe_cmpR (do_kIn true D) ha (pe_glob (v := .ref d) hg hm0 rfl hd) hm) fun _ _ _ h => w_kIn true hz h
theorem dt_kNotIn (h : KDat X.K X.w X.mg x kvs) (ha : PE X a (tE X.K mg fa)) (hg : Gl X x := by rfl) (hd : (x == ("__debug__" : Str)) = false := by decide) (hm : behindInMarks .NotIn (.Name x p) = false := by rfl) : PT X (.Compare a [.NotIn] [.Name x p] pos) (tT X.K mg (wT (wKIn true kvs fa))) := by
  obtain ⟨d, es, n, hm0, D, hz⟩ := h
  exact pt_weak (pt_cmpR (do_kIn true D) ha (pe_glob (v := .ref d) hg hm0 rfl hd) hm) fun σ H Q h => by
    obtain ⟨F, ad, env, st, P, n, h, k⟩ := w_t h
    exact w_kIn true hz ⟨F, ad, env, st, P, n, h, k⟩
theorem de_kIx (h : KDat X.K X.w X.mg x kvs) (ha : PE X a (tE X.K mg fa)) (hg : Gl X x := by rfl) (hd : (x == ("__debug__" : Str)) = false := by decide) (hs : PlainIx a := by exact fun _ _ => rfl) : PE X (.Subscript (.Name x p) a pos) (tE X.K mg (wKIx kvs fa)) := by
  obtain ⟨d, es, nn, hm0, D, hz⟩ := h
  refine pe_weak (pe_ix (ix_kdict) (pe_glob (v := .ref d) hg hm0 rfl hd) ha hs) fun σ H Q h => ?_
  obtain ⟨F, ad, env, st, P, n, h, k⟩ := h
  refine tE_go n h fun r1 st1 v1 F1 ad1 H1 q x n1 d1 => ?_
  obtain ⟨z, rfl, q⟩ := isSt_elim q
  obtain ⟨y, ey, q⟩ := optK_elim q
  have d1' : Rp X.K F1 v1 (.str z) := d1
  cases d1'
  rcases hz z with ⟨y', u, v, e1, e2, e3, e4⟩ | ⟨e1, e2⟩
  · rw [ey] at e1
    cases e1
    exact ⟨d, z, v, rfl, rfl, ⟨es, nn, u, D.at_, D.lit, e2, e3⟩, k _ _ _ _ _ _ q x n1 (e4 F1)⟩
  · rw [ey] at e1; cases e1
end
end DL
/-! text DLPar -/
namespace DL
open PySem PySem.Spec PyProof.Rows L2
/-- x, y, z = a, b, c -/
def wPar3 (i j l : Nat) (fa fb fc : WE) : WS := fun D env st => fa env st fun r st1 => fb env st1 fun q st2 => fc env st2 fun u st3 => D.nx (((env.set i (some r)).set j (some q)).set l (some u)) st3
section
variable {X : Cx} {K : PySem.W.Frag} {mg : Str → Option Value} {a b c : Expr} {fa fb fc : WE} {pos : Pos}
theorem ds_par3 (i j l : Nat) {x y z : Str} {px py pz pt : Pos} {kt k2 pt2} (hc : X.calm = true) (hN : X.N.Nodup) (ha : PE X a (tE K mg fa)) (hb : PE X b (tE K mg fb)) (hcc : PE X c (tE K mg fc))
    (hw : swappedStores [.Tuple [.Name x px, .Name y py, .Name z pz] kt pt] (.Tuple [a, b, c] k2 pt2) X.env = pure (some [x, y, z])) (hij : i ≠ j := by decide) (hil : i ≠ l := by decide) (hjl : j ≠ l := by decide) (hi : X.N[i]? = some x := by rfl) (hj : X.N[j]? = some y := by rfl) (hl : X.N[l]? = some z := by rfl)
    (hx : X.env.scope.names.lookup x = some .local := by rfl) (hy : X.env.scope.names.lookup y = some .local := by rfl) (hz : X.env.scope.names.lookup z = some .local := by rfl)
    (hs : swapsWithSole [.Tuple [.Name x px, .Name y py, .Name z pz] kt pt] (.Tuple [a, b, c] k2 pt2) pos.line X.env = pure false := by rfl)
    (h0 : starEach (a :: [b, c]) X.env = (false, eval a X.env) :: starEach [b, c] X.env := by rfl) (h1 : starEach (b :: [c]) X.env = (false, eval b X.env) :: starEach [c] X.env := by rfl) (h2 : starEach (c :: []) X.env = (false, eval c X.env) :: starEach [] X.env := by rfl) :
    PS X (.Assign [.Tuple [.Name x px, .Name y py, .Name z pz] kt pt] (.Tuple [a, b, c] k2 pt2) pos) (tS K mg (wPar3 i j l fa fb fc)) :=
  ds_mk (ps_par3 hc hN hi hj hl hij hil hjl hx hy hz (pa_cons ha (pa_cons hb (pa_cons hcc pa_nil h2) h1) h0) hw hs) fun D σ H F ad env st P n h p => by
    refine tE_go n h fun r st1 v F1 ad1 H1 q x n1 d => ?_
    refine tE_go n1 q fun r2 st2 v2 F2 ad2 H2 q2 x2 n2 d2 => ?_
    refine tE_go n2 q2 fun r3 st3 v3 F3 ad3 H3 q3 x3 n3 d3 => ?_
    exact ⟨_, _, _, rfl, p.nx _ _ _ _ _ _ q3 ((x.trans x2).trans x3) ⟨n3.rel, ((n3.env.set (d.ext (x2.trans x3))).set (d2.ext x3)).set d3⟩⟩
end
end DL
/-! text DLAll -/

/-! text DLVals -/
namespace DL
open PySem PySem.Spec PyProof.Rows L2
section
variable {X : Cx} {K : PySem.W.Frag} {mg : Str → Option Value} {F H F' H' : Hp} {ad ad' : List Addr} {env : Env} {st : Store} {σ : L2.St} {v : V} {d : PyData} {o e : Expr} {f fa fb : WE} {pos p apos mpos : Pos} {td : TE}
/-- list(o.values()) -/
def tListVals (td : TE) : TE := fun σ H Q => td σ H fun x H1 => ∃ a kvs, x = V.ref a ∧ H1 a = some (.dK kvs) ∧ ∀ q, H1 q = none → Q (.ref q) (upd H1 q (.lst (kvs.map (·.2))))
theorem pe_listVals (hc : X.calm = true) (hg : Gl X "list") (hm : X.mg "list" = none) (hd : PE X o td) (hbase : attributeBase o "values" X.env (eval o X.env) = eval o X.env := by rfl) (hline : (apos.endLine == mpos.line) = true := by rfl)
    (hse : starEach [Expr.Call (.Attribute o "values" apos) [] [] mpos] X.env = [(false, eval (Expr.Call (.Attribute o "values" apos) [] [] mpos) X.env)] := by rfl) :
    PE X (.Call (.Name "list" p) [.Call (.Attribute o "values" apos) [] [] mpos] [] pos) (tListVals td) := by
  refine ⟨fun pins s σ H Q I h => ?_⟩
  refine wpAny_Call_Name_kw (ld_blt I hg hm PyProof.Rows.boot_list ?_ (by first | decide +kernel | decide) (by first | decide +kernel | decide))
  rw [hse]
  refine PySem.callWith_type1 (wpAny_Call_method0_late hbase hline (thn (hd.run pins s σ H _ I h) fun v s1 ⟨x, H1, I1, r1, a, kvs, ex, ha, q⟩ => ?_))
  subst ex
  obtain rfl : v = Value.ref a := r1
  obtain ⟨_, hsys, vs, rel, dof⟩ := dk_of I1.hok ha
  obtain ⟨z, _⟩ := (show ObjOk X.prog X.w H1 s1.heap a (.dK kvs) from I1.hok a _ ha)
  obtain ⟨ep, dat⟩ := dof.dictAt
  have dat' := dat
  obtain ⟨ob, es, ho, ex, hdat, hko, hpr, hnd⟩ := dat'
  refine ⟨"dict", "dict.values", F.plainAttrs_dict, F.slot_dict_values, F.type_dict_values, ⟨ob, ho, ex.1⟩, fun b e => ?_, Calls.callWith_builtin rfl (PySem.evalArgs_none ?_)⟩
  · cases e
    exact ⟨ob, ho, ex.2.1⟩
  refine call_meetsIn F.slot_dict_values ⟨ob, ho, ex.1⟩ F.entry_dict_values (F.args_dict_values_1 _) (meets_dict_values (mixKind X.prog X.w) a hsys) ⟨⟨vs, dof⟩, ?_⟩
  have k1 : ∀ b u, s1.heap.get? b = some u → (s1.heap.push { cls := .type "dict_values", data := .fields #[.ref a] }).get? b = some u := fun b u e => Heap.get?_push_of_some _ e
  have dat1 : (s1.heap.push { cls := .type "dict_values", data := .fields #[.ref a] }).DictAt (mixKind X.prog X.w) a vs ep := dat.keep k1
  have hl : kvs.length = vs.length := Paired.length rel
  have I2 := fun t => I1.kept (t' := t) k1
  refine PySem.W.kdl_call (PySem.W.kdl_values (r := s1.heap.objs.size) (d := a) (knd := mixKind X.prog X.w) (kvs := vs) (ep := ep)) (I.ok.hd hc) ⟨⟨_, Heap.get?_push_size _ rfl, rfl, rfl⟩, dat1⟩ (by rw [← hl]; exact z) fun h' tk acc' c' hkeep hS hacc => ?_
  have hsz : (s1.heap.push { cls := .type "dict_values", data := .fields #[.ref a] }).objs.size = s1.heap.objs.size + 1 := Heap.size_push _ _
  refine ⟨.ref (s1.heap.push { cls := .type "dict_values", data := .fields #[.ref a] }).objs.size, upd H1 (s1.heap.push { cls := .type "dict_values", data := .fields #[.ref a] }).objs.size (.lst (kvs.map (·.2))), I1.laid (fun b o e => hkeep b o (k1 b o e)) (by rw [hsz]; exact Nat.le_succ _) (show ObjOk X.prog X.w _ _ _ (.lst (kvs.map (·.2))) from ⟨?_, acc'.toList, c', ?_, ?_⟩), rfl, q _ (I1.hok.fresh (by rw [hsz]; exact Nat.le_succ _))⟩
  · rw [List.length_map]; exact z
  · have el : acc'.toList.length = acc'.size := by simp
    refine vals_of_at (by rw [List.length_map, el, hacc.1, hl]) fun j x w h1 h2 => ?_
    obtain ⟨k, hky⟩ := hacc.2 j w (by rw [← Array.getElem?_toList]; exact h2)
    obtain ⟨y, h3, h4⟩ := KV.at' rel hky
    rw [List.getElem?_map, h3] at h1
    cases h1
    exact h4
  · rw [Array.toArray_toList]; exact hS
/-- list(o.values()) of an own dict -/
def wListV (fa : WE) : WE := fun env st Q => fa env st fun r st1 => isLD st1 r fun kvs => Q (.d (.list (kvs.map (·.2)))) st1
theorem rpKv_vals : ∀ {kvs : List (PyData × PyData)} {ws : List (Key × V)}, RpKv K F ws kvs → RpAll K F (ws.map (·.2)) (kvs.map (·.2))
  | [], _, h => by cases h; exact .nil
  | _ :: _, _, h => by
    cases h with
    | cons r rs => exact .cons r (rpKv_vals rs)
theorem de_listV (hc : X.calm = true) (ha : PE X o (tE X.K mg fa)) (hm : X.mg "list" = none) (hg : Gl X "list" := by rfl) (hbase : attributeBase o "values" X.env (eval o X.env) = eval o X.env := by rfl) (hline : (apos.endLine == mpos.line) = true := by rfl)
    (hse : starEach [Expr.Call (.Attribute o "values" apos) [] [] mpos] X.env = [(false, eval (Expr.Call (.Attribute o "values" apos) [] [] mpos) X.env)] := by rfl) :
    PE X (.Call (.Name "list" p) [.Call (.Attribute o "values" apos) [] [] mpos] [] pos) (tE X.K mg (wListV fa)) :=
  pe_weak (pe_listVals hc hg hm ha hbase hline hse) fun σ H Q ⟨F, ad, env, st, P, n, h, k⟩ => by
    refine tE_go n h fun r1 st1 v1 F1 ad1 H1 q x n1 d1 => ?_
    obtain ⟨m, kvs, rfl, hs, q⟩ := isLD_elim q
    obtain ⟨ar, rfl, har⟩ := d1
    obtain ⟨hF, ws, hH, rw'⟩ := n1.rel.cell m ar _ har hs
    refine ⟨ar, ws, rfl, hH, fun p hp => ?_⟩
    have g := grow_new (o := .lst (ws.map (·.2))) n1.rel.fl hp (n1.rel.fl.none hp)
    exact k _ _ _ _ ad1 _ q (x.trans (g.ext ad1)) (n1.grow g) (Rp.lst upd_same (RpAll.le g.le _ _ (rpKv_vals rw')))
/-! ### a def that came as an argument -/
def lookSp : List (Str × SpD) → Str → Option SpD
  | [], _ => none
  | p :: r, x => if p.1 == x then some p.2 else lookSp r x
def wCallV (i : Nat) (tb : List (Str × SpD)) (E : EK) (fs : WA) : WE := fun env st Q => match env[i]? with
  | some (some (.fn g)) => (match lookSp tb g with
    | some sp => fs env st fun rs st1 => sp rs st1 Q E
    | none => False)
  | _ => False
def TbOk (P : Program) (w : World) (K : PySem.W.Frag) (mg : Str → Option Value) (base : Heap) (k : Nat) (tb : List (Str × SpD)) : Prop := ∀ g sp, lookSp tb g = some sp → ∃ ps, Has P w K mg base k g ps sp
theorem tb_nil {P : Program} {w : World} {base : Heap} {k : Nat} : TbOk P w K mg base k [] := fun _ _ h => nomatch h
theorem tb_cons {P : Program} {w : World} {base : Heap} {k : Nat} {x : Str} {ps : List Str} {sp : SpD} {tb : List (Str × SpD)} (h : Has P w K mg base k x ps sp) (t : TbOk P w K mg base k tb) : TbOk P w K mg base k ((x, sp) :: tb) := fun g sq e => by
  unfold lookSp at e
  by_cases q : (x == g) = true
  · rw [if_pos q] at e
    cases e
    have : x = g := by simpa using q
    exact ⟨ps, this ▸ h⟩
  · rw [if_neg q] at e
    exact t g sq e
theorem de_fnF {x : Str} {st : Stmt} (h : Fn1 X.K X.mg x st) (hg : Gl X x := by rfl) (hd : (x == ("__debug__" : Str)) = false := by decide) : PE X (.Name x pos) (tE X.K X.mg (wFn x)) := by
  obtain ⟨f, fd, hm, _⟩ := h
  exact de_fn hm rfl hg hd
theorem de_callV {k : Nat} {x : Str} {es : List Expr} {fs : WA} {tb : List (Str × SpD)} {E : EK} (i : Nat) (h : TbOk X.prog X.w X.K X.mg X.base k tb) (hr : Room1 k X.A) (ha : PA X (e :: es) (tA X.K X.mg fs))
    (hN : X.N[i]? = some x := by rfl) (hv : Vis X.env.scope x := by first | exact Or.inl rfl | exact Or.inr (Or.inl rfl) | exact Or.inr (Or.inr rfl)) (hd : (x == ("__debug__" : Str)) = false := by decide)
    (hcd : (x == ("__classdict__" : Str)) = false := by decide)
    (he : starEach (e :: es) X.env = (false, eval e X.env) :: starEach es X.env := by rfl) (hpl : (backTo pos (starEach es X.env)).any (·.1) = false := by rfl) : PE X (.Call (.Name x p) (e :: es) [] pos) (tE X.K X.mg (wCallV i tb E fs)) := by
  refine ⟨fun pins s σ H Q I hh => wpAny_Call_Name_kw ?_⟩
  obtain ⟨F, ad, env, st, P, n, hw, kk⟩ := hh
  unfold wCallV at hw
  cases e1 : env[i]? with
  | none => rw [e1] at hw; exact hw.elim
  | some o =>
    cases o with
    | none => rw [e1] at hw; exact hw.elim
    | some dv =>
      cases dv with
      | d _ => rw [e1] at hw; exact hw.elim
      | loc _ => rw [e1] at hw; exact hw.elim
      | scr _ => rw [e1] at hw; exact hw.elim
      | fn g =>
        rw [e1] at hw
        cases e2 : lookSp tb g with
        | none => simp only [e2] at hw
        | some sp =>
          simp only [e2] at hw
          obtain ⟨ps, hps⟩ := h g sp e2
          obtain ⟨f, fd, hm, hk, hb, G⟩ := hps.ex
          obtain ⟨v, e3, a, rfl, hma⟩ := n.env.2 i _ e1
          have hfa : f = a := by
            rw [hm] at hma
            cases hma
            rfl
          subst hfa
          refine thn ((pe_var hN hv hd hcd).run pins s σ H (fun v1 H1 => v1 = V.ref f ∧ H1 = H) I ⟨_, e3, rfl, rfl⟩) ?_
          rintro u s1 ⟨v1, H1, I1, r1, rfl, rfl⟩
          obtain rfl : u = Value.ref f := r1
          have hw2 : tE X.K X.mg (wCall (fun as st P PE => sp (as ++ []) st P PE) E fs) σ H1 Q := ⟨F, ad, env, st, P, n, (by
            show fs env st fun rs st1 => sp (rs ++ []) st1 P E
            simp only [List.append_nil]
            exact hw), kk⟩
          have h2 := w_call (X := X) (fs := fs) (sp := sp) (dvs := []) (dd := []) (E := E) (EX := fun _ _ _ => True) (t := tA X.K X.mg fs) hps.ar (fun _ _ => .nil) (fun _ _ _ _ _ _ _ _ _ _ => trivial) (fun _ _ _ z => z) hw2
          refine PySem.W.callWith_K (h₀ := X.base) I1.ok.mod.kin hk ?_ he hpl
          refine thn (ha.run pos pins s1 σ H1 _ I1 h2) ?_
          rintro us s2 ⟨vs, H2, I2, r, q⟩
          exact ⟨I2.kIn, runG G hr hb .nil (fun _ _ _ _ _ _ _ z => z.elim) I2 r q⟩
/-! ### (.., *x) -/
def wStar (fa : WE) (fr : WA) : WA := fun env st Q => fa env st fun r st1 => match r with
  | .d x => optK (itemsOf x) fun xs => fr env st1 fun rs st2 => Q (xs.map DV.d ++ rs) st2
  | _ => False
theorem dvrs_of {ad : List Addr} : ∀ {vs : List V} {xs : List PyData}, RpAll K F vs xs → DVRs K mg F ad vs (xs.map DV.d)
  | _, _, .nil => .nil
  | _, _, .cons r t => .cons r (dvrs_of t)
theorem dvrs_ext {vs : List V} {rs : List DV} (h : DVRs K mg F ad vs rs) (x : Ext F H ad F' H' ad') : DVRs K mg F' ad' vs rs := by
  induction h with
  | nil => exact .nil
  | cons r _ ih => exact .cons (DVR.ext x r) ih
theorem da_star {es : List Expr} {fs : WA} (ha : PE X e (tE X.K mg f)) (hr : PA X es (tA X.K mg fs)) (hs : starEach (.Starred e p :: es) X.env = (true, eval e X.env) :: starEach es X.env := by rfl) : PA X (.Starred e p :: es) (tA X.K mg (wStar f fs)) :=
  pa_weak (StX.pa_star ha hr hs) fun σ H Q ⟨F, ad, env, st, P, n, h, k⟩ => by
    refine tE_go n h fun r1 st1 v1 F1 ad1 H1 p1 x1 n1 d1 => ?_
    cases r1 with
    | d y =>
      obtain ⟨xs, ex, q⟩ := optK_elim p1
      have d1' : Rp X.K F1 v1 y := d1
      cases y with
      | list ys =>
        cases ex
        cases d1' with
        | @lst a vs _ ea ra =>
          have hl : H1 a = some (.lst vs) := (n1.rel.fl _ _ ea).elim (fun z => z) fun ⟨_, _, z, _⟩ => nomatch z
          refine ⟨a, vs, rfl, .inr (.inl (.inl hl)), F1, ad1, env, st1, _, n1, q, fun rs st2 us F2 ad2 H2 p2 x2 n2 d2 => ?_⟩
          exact k _ st2 _ F2 ad2 H2 p2 (x1.trans x2) n2 (DVRs.append (dvrs_ext (dvrs_of ra) x2) d2)
      | tuple ys =>
        cases ex
        cases d1' with
        | @tup a vs _ ea ra =>
          refine ⟨a, vs, rfl, .inl (n1.rel.fl.seqT ea.sq), F1, ad1, env, st1, _, n1, q, fun rs st2 us F2 ad2 H2 p2 x2 n2 d2 => ?_⟩
          exact k _ st2 _ F2 ad2 H2 p2 (x1.trans x2) n2 (DVRs.append (dvrs_ext (dvrs_of ra) x2) d2)
      | _ => cases ex
    | loc _ => exact p1.elim
    | fn _ => exact p1.elim
    | scr _ => exact p1.elim
/-! ### while -/
theorem ds_while {c : Expr} {body : List Stmt} {t : WT} {w : WS} (hp : PassesOwn (model X.prog X.w) X.A X.env X.xe) (hc : PT X c (tT K mg t)) (hb : PSs X body (tS K mg w)) : PS X (.While c body [] pos) (tS K mg (DL.wWhile t w)) :=
  ds_mk (ps_while hp hc hb) fun D σ H F ad env st P n h p => by
    obtain ⟨W, ⟨m0, w0⟩, turn⟩ := h
    refine ⟨fun m σ3 H3 => ∃ F3 ad3 env3 st3, Ext F H ad F3 H3 ad3 ∧ Now K mg σ3 F3 H3 ad3 env3 st3 ∧ W m env3 st3, ⟨m0, F, ad, env, st, Ext.refl _ _ _, n, w0⟩, ?_⟩
    rintro m σ3 H3 ⟨F3, ad3, env3, st3, x3, n3, w3⟩
    refine tT_go n3 (turn m env3 st3 w3) fun b st4 F4 ad4 H4 q x4 n4 => ?_
    have x34 := x3.trans x4
    cases b with
    | true =>
      rw [if_pos rfl]
      refine ⟨fun σ' H' => ∃ F5 ad5 env5 st5, Ext F H ad F5 H' ad5 ∧ Now K mg σ' F5 H' ad5 env5 st5 ∧ ∃ m', m' < m ∧ W m' env5 st5, fun σ' H' ⟨F5, ad5, env5, st5, a, b, m', l, c⟩ => ⟨m', l, F5, ad5, env5, st5, a, b, c⟩, ?_⟩
      rw [if_pos rfl] at q
      exact tS_go n4 q ⟨fun env6 st6 σ6 F6 ad6 H6 q6 x6 n6 => ⟨F6, ad6, env6, st6, x34.trans x6, n6, q6⟩, fun r st6 v6 F6 ad6 H6 q6 x6 n6 d6 => p.rt _ _ _ _ _ _ q6 (x34.trans x6) n6 d6, fun env6 st6 σ6 F6 ad6 H6 q6 x6 n6 => p.nx _ _ _ _ _ _ q6 (x34.trans x6) n6, fun env6 st6 σ6 F6 ad6 H6 q6 x6 n6 => ⟨F6, ad6, env6, st6, x34.trans x6, n6, q6⟩⟩
    | false =>
      rw [if_neg (by decide)]
      rw [if_neg (by decide)] at q
      exact p.nx _ _ _ _ _ _ q x34 n4
end
end DL
/-! text DLRep -/
namespace DL
open PySem PySem.Spec PyProof.Rows L2
section
variable {X : Cx} {K : PySem.W.Frag} {mg : Str → Option Value} {F H F' H' : Hp} {ad ad' : List Addr} {env : Env} {st : Store} {σ : L2.St} {v : V} {d : PyData} {o e : Expr} {f fa fb : WE} {pos p apos mpos : Pos}
/-- [..] * n -/
def oRep : B2
  | .list xs, .int k => if -(2 ^ 63) ≤ k ∧ k < 2 ^ 63 ∧ xs.length * k.toNat ≤ lim then some (.list (List.replicate k.toNat xs).flatten) else none
  | _, _ => none
theorem rep_rp {vs : List V} {xs : List PyData} (h : RpAll K F vs xs) : ∀ n : Nat, RpAll K F (List.replicate n vs).flatten (List.replicate n xs).flatten
  | 0 => .nil
  | n + 1 => by
    rw [List.replicate_succ, List.replicate_succ, List.flatten_cons, List.flatten_cons]
    exact h.append (rep_rp h n)
theorem do_rep : OpR X (binaryOp .Mult) (rB X.K oRep) := by
  intro pins s σ H x y v u Q I rx ry ⟨F, a, b, c, fl, va, vb, e, k⟩
  cases a <;> cases b <;> simp only [oRep] at e <;> try cases e
  rename_i xs n
  split at e
  · rename_i h
    cases e
    cases va with
    | lst ha ra =>
      have hb := vw_int vb
      refine op_rep pins s σ H _ _ v u Q I rx ry ⟨_, n, _, rfl, hb, ha, h.1, h.2.1, by rw [ra.length, ← lim_eq]; exact h.2.2, fun p hp => ?_⟩
      have g := fun l => grow_new (o := .lst l) fl hp (fl.none hp)
      exact k _ _ _ (g _) (.lst upd_same (rep_rp (RpAll.le (g _).le _ _ ra) _))
  · cases e
end
end DL
/-! text DLEmp -/
namespace DL
open PySem PySem.Spec PyProof.Rows L2
/-! ### data with empty dicts: repr, == () -/
mutual
def plE : PyData → Bool
  | .none | .bool _ | .int _ | .str _ => true
  | .list xs | .tuple xs => plEAll xs
  | .dict kvs => kvs.isEmpty
def plEAll : List PyData → Bool
  | [] => true
  | x :: xs => plE x && plEAll xs
end
section
variable {X : Cx} {K : PySem.W.Frag} {mg : Str → Option Value} {F H F' H' : Hp} {ad ad' : List Addr} {env : Env} {st : Store} {σ : L2.St} {v : V} {d : PyData} {a b e : Expr} {es : List Expr} {f fa fb : WE} {fs : WA} {pos p p2 : Pos} {x : Str} {id : String}
theorem dct0_reads {pins : List (Addr × Obj)} {s : Shared} (I : L2.Inv X pins σ H s) {a : Addr} (e : Rd H a (.dK [])) : ∃ o n, s.heap.get? a = some o ∧ o.cls = .type "dict" ∧ o.data = .dict #[] n ∧ (a == sysModules) = false := by
  obtain ⟨_, h1, vs, kv, o, es, ep, h2, h3, h4, _, h6, _⟩ := dk_rd I.hok e
  cases kv
  have : es.toList = [] := by cases h : es.toList with
    | nil => rfl
    | cons y r => rw [h] at h6; cases h6
  have e0 : es = #[] := by simpa using this
  subst e0
  exact ⟨o, ep, h2, h3.1, h4, h1⟩
mutual
theorem rpE {pins : List (Addr × Obj)} {s : Shared} {prog : Program} {w : World} (I : L2.Inv X pins σ H s) (fl : FLe F H) : ∀ (d : PyData) (v : V) (u : Value), plE d = true → d.showable = true → d.shown.length ≤ sizeLine → Rp X.K F v d → RelV v u → (∃ as, Reads s.heap u d as) ∧ ∃ bs, ReadAtMost s.heap d.depth bs ∧ ReprK prog w bs s.heap d.depth u d.shown
  | .none, _, _, _, _, _, h, r => by cases h; cases r; exact ⟨⟨_, .none⟩, [], (fun _ h => nomatch h), by simp only [PyData.shown]; exact .of_is ReprIs.none _ _ _⟩
  | .bool b, _, _, _, _, _, h, r => by cases h; cases r; exact ⟨⟨_, .bool b⟩, [], (fun _ h => nomatch h), by simp only [PyData.shown]; exact .of_is (ReprIs.bool b) _ _ _⟩
  | .int i, _, _, _, hs, _, h, r => by cases h; obtain ⟨t, rfl⟩ := r; exact ⟨⟨_, .int i t⟩, [], (fun _ h => nomatch h), by simp only [PyData.shown]; exact .of_is (ReprIs.int t (by simpa [PyData.showable] using hs)) _ _ _⟩
  | .str z, _, _, _, _, hz, h, r => by cases h; obtain ⟨t, rfl⟩ := r; exact ⟨⟨_, .str z t⟩, [], (fun _ h => nomatch h), by simp only [PyData.shown]; exact .of_is (ReprIs.str z t (by simpa only [PyData.shown] using hz)) _ _ _⟩
  | .list ds, _, _, p, hs, hz, h, r => by
    have hz' : (listText (PyData.shownAll ds)).length ≤ sizeLine := by simpa only [PyData.shown] using hz
    cases h with
    | lst e ra =>
      cases r
      have hl : SqL X.K H _ _ := .inl (.inl ((fl _ _ e).elim _root_.id fun ⟨_, _, z, _⟩ => nomatch z))
      obtain ⟨its, rv, ⟨o, n, ho, hc, _, hd⟩, _⟩ := I.list hl
      obtain ⟨⟨as, hr⟩, bs, hb, hk⟩ := rpEAll I fl ds _ its (by simpa [plE] using p) (by simpa [PyData.showable] using hs) (fun t ht => Nat.le_trans (listText_mem_le ht) hz') ra rv
      have rd := Reads.list ho hc hd hr
      have hna := not_mem_of_deeper rd (n := PyData.depthAll ds) (by simp only [PyData.depth]; omega) hb
      refine ⟨⟨_, rd⟩, _ :: bs, ReadAtMost.cons rd (by simp only [PyData.depth]; omega) hb, ?_⟩
      simp only [PyData.depth, PyData.shown]
      cases its with
      | nil =>
        cases hr
        simp only [PyData.shownAll, listText_nil]
        exact ReprK.listEmpty ho hc hd
      | cons x l => exact ReprK.list ho hc hd hna (by simpa using hk.length_eq) (fun i y e => hk.item i y (by simpa using e))
  | .tuple ds, _, _, p, hs, hz, h, r => by
    have hz' : (tupleText (PyData.shownAll ds)).length ≤ sizeLine := by simpa only [PyData.shown] using hz
    cases h with
    | tup e ra =>
      cases r
      obtain ⟨its, rv, ⟨o, ho, hc, n, hd⟩, _⟩ := I.tuple (fl.seqT e.sq)
      obtain ⟨⟨as, hr⟩, bs, hb, hk⟩ := rpEAll I fl ds _ its (by simpa [plE] using p) (by simpa [PyData.showable] using hs) (fun t ht => Nat.le_trans (tupleText_mem_le ht) hz') ra rv
      have rd := Reads.tuple ho hc hd hr
      have hna := not_mem_of_deeper rd (n := PyData.depthAll ds) (by simp only [PyData.depth]; omega) hb
      refine ⟨⟨_, rd⟩, _ :: bs, ReadAtMost.cons rd (by simp only [PyData.depth]; omega) hb, ?_⟩
      simp only [PyData.depth, PyData.shown]
      exact ReprK.tuple ho hc hd hna (by simpa using hk)
  | .dict kvs, _, _, p, hs, hz, h, r => by
    have hk : kvs = [] := by simpa [plE] using p
    subst hk
    cases h with
    | @dct a' kvs' _ e ra =>
      cases ra
      cases r
      have e' : Rd H a' (.dK []) := by
        rcases fl _ _ e with z | ⟨_, o, z, q⟩
        · exact .inl z
        · cases z; exact .inr ⟨o, q⟩
      obtain ⟨o, n, ho, hc, hd, hsys⟩ := dct0_reads I e'
      have rd : Reads s.heap (.ref a') (.dict []) _ := Reads.dict ho hc hd .nil .nil
      refine ⟨⟨_, rd⟩, [a'], ReadAtMost.cons (n := 0) rd (by simp only [PyData.depth]; omega) (fun _ h => nomatch h), ?_⟩
      simp only [PyData.depth, PyData.shown, PyData.shownKv]
      exact ReprK.dict ho hc hd hsys (by simp) .nil
theorem rpEAll {pins : List (Addr × Obj)} {s : Shared} {prog : Program} {w : World} (I : L2.Inv X pins σ H s) (fl : FLe F H) : ∀ (ds : List PyData) (vs : List V) (us : List Value), plEAll ds = true → PyData.showableAll ds = true → (∀ t ∈ PyData.shownAll ds, t.length ≤ sizeLine) → RpAll X.K F vs ds → Vals vs us → (∃ as, ReadsAll s.heap us ds as) ∧
    ∃ bs, ReadAtMost s.heap (PyData.depthAll ds) bs ∧ ReprAllK prog w bs s.heap (PyData.depthAll ds) us (PyData.shownAll ds)
  | [], _, _, _, _, _, h, r => by cases h; cases r; exact ⟨⟨_, .nil⟩, [], (fun _ h => nomatch h), by simp only [PyData.shownAll]; exact .nil⟩
  | d :: ds, _, _, p, hs, hz, h, r => by
    have p' : plE d = true ∧ plEAll ds = true := by simpa [plEAll] using p
    have hs' : d.showable = true ∧ PyData.showableAll ds = true := by simpa [PyData.showableAll] using hs
    cases h with
    | cons h1 h2 =>
      cases r with
      | cons r1 r2 =>
        obtain ⟨⟨as, q1⟩, b1, hb1, k1⟩ := rpE I fl d _ _ p'.1 hs'.1 (hz _ (by simp only [PyData.shownAll]; exact List.mem_cons_self ..)) h1 r1
        obtain ⟨⟨bs, q2⟩, b2, hb2, k2⟩ := rpEAll I fl ds _ _ p'.2 hs'.2 (fun t ht => hz t (by simp only [PyData.shownAll]; exact List.mem_cons_of_mem _ ht)) h2 r2
        refine ⟨⟨_, .cons q1 q2⟩, b1 ++ b2, ?_, ?_⟩
        · intro b hm
          simp only [PyData.depthAll]
          rcases List.mem_append.mp hm with hm | hm
          · obtain ⟨d', as', r', hd'⟩ := hb1 b hm
            exact ⟨d', as', r', Nat.le_trans hd' (Nat.le_max_left _ _)⟩
          · obtain ⟨d', as', r', hd'⟩ := hb2 b hm
            exact ⟨d', as', r', Nat.le_trans hd' (Nat.le_max_right _ _)⟩
        · simp only [PyData.depthAll, PyData.shownAll]
          exact .cons ((k1.more fun b hb => List.mem_append_left _ hb).level_le (Nat.le_max_left _ _)) (k2.more_le (fun b hb => List.mem_append_right _ hb) (Nat.le_max_right _ _))
end
theorem showsE {pins : List (Addr × Obj)} {s : Shared} {prog : Program} {w : World} (I : L2.Inv X pins σ H s) (fl : FLe F H) {d : PyData} {v : V} {a : Addr} (p : plE d = true) (hs : d.showable = true) (hz : d.shown.length ≤ sizeLine) (h : Vw X.K F H v d) (r : RelV v (.ref a)) : ∃ T idr, ShowsBy prog w s.heap a d T idr := by
  cases h with
  | non => cases r
  | bl b => cases r
  | int i => obtain ⟨t, e⟩ := r; cases e
  | str x => obtain ⟨t, e⟩ := r; cases e
  | @lst a' xs ds e ra =>
    cases r
    have hz' : (listText (PyData.shownAll ds)).length ≤ sizeLine := by simpa only [PyData.shown] using hz
    obtain ⟨its, rv, ⟨o, n, h1, h2, _, h3⟩, _⟩ := I.list (.inl (.inl e))
    obtain ⟨⟨as, hr⟩, bs, hb, hk⟩ := rpEAll (prog := prog) (w := w) I fl ds _ its (by simpa [plE] using p) (by simpa [PyData.showable] using hs) (fun t ht => Nat.le_trans (listText_mem_le ht) hz') ra rv
    have rd := Reads.list h1 h2 h3 hr
    have hna := not_mem_of_deeper rd (n := PyData.depthAll ds) (by simp only [PyData.depth]; omega) hb
    refine ⟨"list", "list.__repr__", PySem.F.slot_list_repr.toG, PySem.F.slot_list_str, PySem.F.slot_list_format, fun s hk0 => ⟨o, hk0 _ _ h1, h2⟩, fun A E s Q hg hu hk0 hQ => ?_⟩
    simp only [PyData.depth] at hu
    simp only [PyData.shown] at hQ
    cases its with
    | nil =>
      cases hr
      simp only [PyData.shownAll, listText_nil] at hQ
      exact call_list_repr_empty ⟨o, hk0 _ _ h1, h2⟩ (hk0 _ _ h1) h3 (hQ s.heap _ _ fun _ _ e => e)
    | cons x l =>
      exact call_list_reprK h1 h2 h3 hna (by simpa using hk.length_eq) (fun i y e => hk.item i y (by simpa using e)) hg (fun b _ => Clear.nil b) hu hk0 hQ hz'
  | @tup a' xs ds e ra =>
    cases r
    have hz' : (tupleText (PyData.shownAll ds)).length ≤ sizeLine := by simpa only [PyData.shown] using hz
    obtain ⟨its, rv, ⟨o, h1, h2, n, h3⟩, _⟩ := I.tuple (fl.seqT e.sq)
    obtain ⟨⟨as, hr⟩, bs, hb, hk⟩ := rpEAll (prog := prog) (w := w) I fl ds _ its (by simpa [plE] using p) (by simpa [PyData.showable] using hs) (fun t ht => Nat.le_trans (tupleText_mem_le ht) hz') ra rv
    have rd := Reads.tuple h1 h2 h3 hr
    have hna := not_mem_of_deeper rd (n := PyData.depthAll ds) (by simp only [PyData.depth]; omega) hb
    refine ⟨"tuple", "tuple.__repr__", PySem.F.slot_tuple_repr, PySem.F.slot_tuple_str, PySem.F.slot_tuple_format, fun s hk0 => ⟨o, hk0 _ _ h1, h2⟩, fun A E s Q hg hu hk0 hQ => ?_⟩
    simp only [PyData.depth] at hu
    simp only [PyData.shown] at hQ
    exact call_tuple_reprK h1 h2 h3 hna (by simpa using hk) hg (fun b _ => Clear.nil b) hu hk0 hQ hz'
  | @dct a' kvs ds e ra =>
    have hk : ds = [] := by simpa [plE] using p
    subst hk
    cases ra
    cases r
    obtain ⟨o, n, h1, h2, h3, hsys⟩ := dct0_reads I e
    refine ⟨"dict", "dict.__repr__", PySem.F.slot_dict_repr, PySem.F.slot_dict_str, PySem.F.slot_dict_format, fun s hk0 => ⟨o, hk0 _ _ h1, h2⟩, fun A E s Q hg hu hk0 hQ => ?_⟩
    simp only [PyData.depth] at hu
    simp only [PyData.shown, PyData.shownKv] at hQ
    exact call_dict_reprK (ps := []) h1 h2 h3 hsys (as := []) (by simp) (.nil) hg (fun b _ => Clear.nil b) hu hk0 hQ (by simpa only [PyData.shown, PyData.shownKv] using hz)
def okReprE (d : PyData) : Bool := plE d && d.showable && decide (d.depth ≤ 200) && decide (d.shown.length ≤ lim)
def oReprE : B1 := fun d => if okReprE d = true then some (.str d.shown) else none
theorem dc_reprE (hu : X.A.units + 300 < cLine) (hg : X.A.guards = some []) : CallR X (.builtin "repr") (rCN X.K (on1 oReprE)) := by
  intro pins s σ H xs us Q I r ⟨F, ds, c, fl, h, e, k⟩
  obtain ⟨v, d, rfl, h1, e1⟩ := vw1 h e
  cases r with
  | cons r1 r2 =>
    rename_i u us'
    cases r2
    unfold oReprE at e1
    split at e1
    · rename_i ok
      cases e1
      have ok' : plE d = true ∧ d.showable = true ∧ d.depth ≤ 200 ∧ d.shown.length ≤ lim := by simpa [okReprE, and_assoc] using ok
      obtain ⟨p1, p2, p3, p4⟩ := ok'
      rw [lim_eq] at p4
      have fin := k _ F H (Grow.refl fl) (.str _)
      have go : ∀ a : Addr, u = .ref a → wpAny (model X.prog X.w) X.A (call (.builtin "repr") [u]) (EP X pins σ Q) X.xe s := fun a ea => by
        subst ea
        obtain ⟨T, idr, S⟩ := showsE (prog := X.prog) (w := X.w) I fl p1 p2 p4 h1 r1
        exact call_repr_slot (by omega) (S.typeIs s fun _ _ z => z) S.slotRepr (S.call X.A.in1 X.xe s _ hg (by show X.A.units + 1 + d.depth < cLine; omega) (fun _ _ z => z) fun h' u tk hk => ⟨_, _, rfl, .str _, H, I.kept hk, ⟨_, rfl⟩, fin⟩)
      cases d with
      | none =>
        cases h1; cases r1
        exact PySem.P.repr_of_none ⟨.str _, H, I.tok _, ⟨_, rfl⟩, by simpa only [PyData.shown] using fin⟩
      | bool b =>
        cases h1; cases r1
        exact PySem.P.repr_of_bool ⟨.str _, H, I.tok _, ⟨_, rfl⟩, by simpa only [PyData.shown] using fin⟩
      | int i =>
        cases h1
        obtain ⟨t, rfl⟩ := r1
        exact PySem.P.repr_of_int (by simpa [PyData.showable] using p2) ⟨.str _, H, I.tok _, ⟨_, rfl⟩, by simpa only [PyData.shown] using fin⟩
      | str z =>
        cases h1
        obtain ⟨t, rfl⟩ := r1
        exact PySem.P.repr_of_str ⟨.str _, H, I.tok _, ⟨_, rfl⟩, by simpa only [PyData.shown] using fin⟩ (by simpa only [PyData.shown] using p4)
      | list xs => cases h1; cases r1; exact go _ rfl
      | tuple xs => cases h1; cases r1; exact go _ rfl
      | dict xs => cases h1; cases r1; exact go _ rfl
    · cases e1
theorem de_reprE (hu : X.A.units + 300 < cLine) (hgd : X.A.guards = some []) (ha : PA X (e :: es) (tA X.K mg fs)) (hm : X.mg "repr" = none) (hg : Gl X "repr" := by rfl) (he : starEach (e :: es) X.env = (false, eval e X.env) :: starEach es X.env := by rfl) (hpl : (backTo pos (starEach es X.env)).any (·.1) = false := by rfl) :
    PE X (.Call (.Name "repr" p) (e :: es) [] pos) (tE X.K mg (wOpN (on1 oReprE) fs)) := de_b (dc_reprE hu hgd) hm PyProof.Rows.boot_repr ha hg (by decide) (by decide) he hpl
/-! ### == (): nothing is asked of what stands in the tuple -/
def oEqE : B2
  | .tuple xs, .tuple [] => some (.bool xs.isEmpty)
  | a, b => oEq a b
theorem do_eqE (hu : X.A.units + 300 < cLine) : OpR X (compareOp .Eq) (rB X.K oEqE) := by
  intro pins s σ H x y v u Q I rx ry ⟨F, a, b, c, fl, va, vb, e, k⟩
  by_cases hc : ∃ xs, a = .tuple xs ∧ b = .tuple []
  · obtain ⟨xs, rfl, rfl⟩ := hc
    cases e
    cases va with
    | tup ea ra =>
      cases vb with
      | tup eb rb =>
        cases rx; cases ry; cases rb
        obtain ⟨its, rv, h1, _⟩ := I.tuple (fl.seqT ea.sq)
        obtain ⟨its2, rv2, h2, _⟩ := I.tuple (fl.seqT eb.sq)
        cases rv2
        have q : SeqAt.RcAt X.A s _ _ _ := SeqAt.RcAt.tuples (e := fun _ => true) h1 h2 (by omega) (fun j _ j2 => absurd j2 (by simp))
        refine q X.prog X.w X.xe _ ?_
        have hl := rv.length
        rw [ra.length] at hl
        have ev : ((List.range (min its.toArray.size (List.toArray ([] : List Value)).size)).all (fun _ => true) && its.toArray.size == (List.toArray ([] : List Value)).size) = xs.isEmpty := by
          cases its with
          | nil => cases xs with
            | nil => rfl
            | cons _ _ => simp at hl
          | cons _ _ => cases xs with
            | nil => simp at hl
            | cons _ _ => simp
        rw [ev]
        exact ⟨.bl _, H, I, rfl, k _ F H (Grow.refl fl) (.bl _)⟩
  · have e' : oEq a b = some c := by
      rw [← e]
      unfold oEqE
      split
      · exact absurd ⟨_, rfl, rfl⟩ hc
      · rfl
    exact do_eq hu pins s σ H x y v u Q I rx ry ⟨F, a, b, c, fl, va, vb, e', k⟩
end
end DL
/-! text DLEmp2 -/
namespace DL
open PySem PySem.Spec PyProof.Rows L2
section
variable {X : Cx} {K : PySem.W.Frag} {mg : Str → Option Value} {F H F' H' : Hp} {ad ad' : List Addr} {env : Env} {st : Store} {σ : L2.St} {v : V} {d : PyData} {a b e : Expr} {es : List Expr} {f fa fb : WE} {fs : WA} {pos p p1 p2 p3 : Pos} {x : Str} {id : String}
/-! ### a text n times -/
def repS (s : Str) (j : Int) : Str := if j < 1 then Str.empty else if (j == 1 || s.length == 0) = true then s else ⟨(List.replicate j.toNat s.cps).foldl (· ++ ·) #[]⟩
def oMulS : B2
  | .str s, .int j => if -1000 ≤ j ∧ j ≤ 1000 ∧ s.length ≤ 1000 then some (.str (repS s j)) else none
  | a, b => oMul a b
theorem fold_rep (xs : Array Nat) : ∀ (n : Nat) (acc : Array Nat), ((List.replicate n xs).foldl (· ++ ·) acc).toList = acc.toList ++ (List.replicate n xs.toList).flatten
  | 0, acc => by simp
  | n + 1, acc => by
    rw [List.replicate_succ, List.foldl_cons, fold_rep xs n, List.replicate_succ, List.flatten_cons]
    simp
theorem repS_cps (s : Str) (j : Int) : (repS s j).cps.toList = (List.replicate j.toNat s.cps.toList).flatten := by
  unfold repS
  split
  · rename_i h
    have : j.toNat = 0 := by omega
    rw [this]
    rfl
  · split
    · rename_i h
      simp at h
      rcases h with rfl | h
      · simp
      · have e : s.cps.toList = [] := by
          have : s.cps.size = 0 := h
          simpa using this
        rw [e]
        simp
    · have := fold_rep s.cps j.toNat #[]
      simpa using this
theorem repS_len (s : Str) (j : Int) : (repS s j).length = j.toNat * s.length := by
  have h : (repS s j).length = (repS s j).cps.toList.length := by simp [Str.length]
  have h2 : s.length = s.cps.toList.length := by simp [Str.length]
  rw [h, repS_cps, List.length_flatten, List.map_replicate, List.sum_replicate_nat, h2]
theorem do_mulS : OpR X (binaryOp .Mult) (rB X.K oMulS) := by
  intro pins s σ H x y v u Q I rx ry ⟨F, a, b, c, fl, va, vb, e, k⟩
  by_cases hc : ∃ z j, a = .str z ∧ b = .int j
  · obtain ⟨z, j, rfl, rfl⟩ := hc
    have e' : (if -1000 ≤ j ∧ j ≤ 1000 ∧ z.length ≤ 1000 then some (PyData.str (repS z j)) else none) = some c := e
    split at e'
    · rename_i h
      cases e'
      rw [vw_str va] at rx
      rw [vw_int vb] at ry
      obtain ⟨t, rfl⟩ := rx
      obtain ⟨t', rfl⟩ := ry
      have hl : (repS z j).length ≤ sizeLine := by
        rw [repS_len, ← lim_eq]
        have : j.toNat * z.length ≤ 1000 * 1000 := Nat.mul_le_mul (by omega) h.2.2
        unfold lim
        omega
      have fin : ∀ t2 k2, EP X pins σ Q (.str (repS z j) t2) { s with toks := k2 } := fun t2 k2 => ⟨.str _, H, I.tok _, ⟨_, rfl⟩, k _ F H (Grow.refl fl) (.str _)⟩
      refine P.mul_str (by
        rw [decide_eq_false (by omega), decide_eq_false (by omega)]; rfl) (fun h1 h2 => ?_) (fun h1 h2 => ?_) ?_
      · have h3 : (1000 : Int) ≤ (2 ^ 63 - 1) / j := by
          refine Int.le_ediv_of_mul_le (by omega) ?_
          omega
        omega
      · have h3 : z.length * j.toNat ≤ 1000 * 1000 := Nat.mul_le_mul h.2.2 (by omega)
        first
        | exact decide_eq_false (by rw [sizeLine_eq]; omega)
        | (unfold tooLong; exact decide_eq_false (by rw [sizeLine_eq]; omega))
        | (simp [tooLong]; rw [sizeLine_eq]; omega)
      · have hl' := hl
        unfold repS at hl' fin
        split
        · rename_i h1
          rw [if_pos h1] at hl'
          simp only [if_pos h1] at fin
          exact ⟨hl', fin _ _⟩
        · rename_i h1
          rw [if_neg h1] at hl'
          simp only [if_neg h1] at fin
          split
          · rename_i h2
            simp only [if_pos h2] at fin
            exact fin _ _
          · rename_i h2
            rw [if_neg h2] at hl'
            simp only [if_neg h2] at fin
            exact ⟨hl', fin _ _⟩
    · cases e'
  · have e' : oMul a b = some c := by
      rw [← e]
      unfold oMulS
      split
      · exact absurd ⟨_, _, rfl, rfl⟩ hc
      · rfl
    exact do_mul pins s σ H x y v u Q I rx ry ⟨F, a, b, c, fl, va, vb, e', k⟩
/-! ### sorted of any number of texts, of a dict's texts -/
def keysT : List (PyData × PyData) → Option (List Str)
  | [] => some []
  | (.str z, _) :: r => (keysT r).map (z :: ·)
  | _ => none
def oSortedN : B1
  | .list xs => (textsOf xs).bind fun ss => if ss.length ≤ lim then some (.list ((sortT ss).map .str)) else none
  | .dict kvs => (keysT kvs).bind fun ss => if ss.length < 64 then some (.list ((sortT ss).map .str)) else none
  | _ => none
theorem each_strs : ∀ {us : List Value} {ss : List Str}, Vals (ss.map V.str) us → PySem.W.EachIs (fun u (z : Str) => ∃ t, u = .str z t) us ss
  | _, [], r => by cases r; exact .nil
  | _, s :: ss, r => by
    cases r with
    | cons r1 r2 => exact .cons r1 (each_strs r2)
theorem vals_each : ∀ {us : List Value} {ss : List Str}, PySem.W.EachIs (fun u (z : Str) => ∃ t, u = .str z t) us ss → Vals (ss.map V.str) us
  | _, _, .nil => .nil
  | _, _, .cons h t => .cons h (vals_each t)
theorem each_reads {h : Heap} : ∀ {us : List Value} {ss : List Str}, PySem.W.EachIs (fun u (z : Str) => ∃ t, u = .str z t) us ss → PySem.W.EachIs (fun u (z : Str) => ∃ as, Reads h u (.str z) as) us ss
  | _, _, .nil => .nil
  | _, _, .cons ⟨t, e⟩ r => .cons ⟨[], e ▸ Reads.str _ t⟩ (each_reads r)
theorem cr_sortedN (hu : X.A.units + 300 < cLine) : CallR X (.builtin "sorted") (fun vs H Q => ∃ (a : Addr) (ss : List Str), vs = [V.ref a] ∧ SqL X.K H a (ss.map V.str) ∧ ∀ p, H p = none → Q (.ref p) (upd H p (.lst ((sortT ss).map V.str)))) := by
  intro pins s σ H vs us Q I r h
  obtain ⟨a, ss, rfl, hs, q⟩ := h
  obtain ⟨its, rv, hl, hz⟩ := I.list hs
  rw [Vals.ref1 r]
  have ei := each_strs rv
  refine PySem.W.sorted_data (R := fun u (z : Str) => ∃ t, u = .str z t) (enc := fun z => PyData.str z) hl.isList ei (each_reads ei) (PySem.W.AllAlike.of fun _ _ => rfl) (PySem.W.Sortable.others fun _ => ⟨(by intro h; cases h), (by intro _ h; cases h)⟩) (by simpa using hz) (fun b _ => by simp only [PyData.depth]; omega) fun out ho eo => ?_
  have ev : ss.mergeSort (PySem.W.dataLe false fun z => PyData.str z) = sortT ss := by
    rw [PySem.W.dataLe_str (fun z : Str => z)]
    rfl
  rw [ev] at eo
  obtain ⟨ep, he'⟩ := PyProof.Rows.sortedAll_at s.heap its out.toArray
  have hlen : ((sortT ss).map V.str).length ≤ sizeLine := by
    have : (sortT ss).length = ss.length := (List.mergeSort_perm ss leT).length_eq
    rw [List.length_map, this]
    simpa using hz
  exact ⟨.ref _, upd H (s.heap.objs.size + 1) (.lst ((sortT ss).map V.str)), I.laid (t' := s.toks) (fun _ _ => PyProof.Rows.sortedAll_old) (Nat.le_succ _) ⟨hlen, out, ep, vals_each eo, he'⟩, rfl, q _ (I.hok.fresh (Nat.le_succ _))⟩
theorem keysT_rp : ∀ {kvs : List (PyData × PyData)} {ks : List (Key × V)} {ss : List Str}, RpKv K F ks kvs → keysT kvs = some ss → ks.map (·.1) = ss.map Sum.inr
  | [], _, _, h, e => by cases h; cases e; rfl
  | (k, v) :: r, _, ss, h, e => by
    cases h with
    | @cons k' v' r' e' rs h1 h2 =>
      cases k' with
      | inl i => cases e
      | inr z =>
        have e2 : (keysT r).map (z :: ·) = some ss := e
        cases q : keysT r with
        | none => rw [q] at e2; cases e2
        | some t =>
          rw [q] at e2; cases e2
          rw [List.map_cons, List.map_cons, keysT_rp h2 q]
theorem dc_sortedN (hc : X.calm = true) (hu : X.A.units + 300 < cLine) : CallR X (.builtin "sorted") (rCN X.K (on1 oSortedN)) := by
  intro pins s σ H xs us Q I r ⟨F, ds, c, fl, h, e, k⟩
  obtain ⟨v, d, rfl, h1, e1⟩ := vw1 h e
  cases h1 <;> try cases e1
  · rename_i a vs xs ea ra
    have e2 : ((textsOf xs).bind fun ss => if ss.length ≤ lim then some (PyData.list ((sortT ss).map .str)) else none) = some c := e1
    cases q : textsOf xs with
    | none => rw [q] at e2; cases e2
    | some ss =>
      rw [q] at e2
      have e3 : (if ss.length ≤ lim then some (PyData.list ((sortT ss).map .str)) else none) = some c := e2
      by_cases hl : ss.length ≤ lim
      · rw [if_pos hl] at e3
        cases e3
        have ev := textsOf_rp ra q
        subst ev
        refine cr_sortedN hu pins s σ H _ us Q I r ⟨a, ss, rfl, .inl (.inl ea), fun p hn => ?_⟩
        have g := grow_new (o := .lst ((sortT ss).map V.str)) fl hn (fl.none hn)
        exact k _ _ _ g (.lst upd_same (rpAll_strs _))
      · rw [if_neg hl] at e3; cases e3
  · rename_i a vs kvs ea ra
    have e2 : ((keysT kvs).bind fun ss => if ss.length < 64 then some (PyData.list ((sortT ss).map .str)) else none) = some c := e1
    cases q : keysT kvs with
    | none => rw [q] at e2; cases e2
    | some ss =>
      rw [q] at e2
      have e3 : (if ss.length < 64 then some (PyData.list ((sortT ss).map .str)) else none) = some c := e2
      by_cases hl : ss.length < 64
      · rw [if_pos hl] at e3
        cases e3
        refine call_sortedD hc pins s σ H _ us Q I r ⟨a, vs, ss, rfl, ea, keysT_rp ra q, hl, fun ys p hp hs hn => ?_⟩
        have ey := sortT_of hp (sortedS_le ys hs)
        subst ey
        have g := grow_new (o := .lst ((sortT ss).map V.str)) fl hn (fl.none hn)
        exact k _ _ _ g (.lst upd_same (rpAll_strs _))
      · rw [if_neg hl] at e3; cases e3
theorem de_sortedN (hc : X.calm = true) (hu : X.A.units + 300 < cLine) (ha : PA X (e :: es) (tA X.K mg fs)) (hm : X.mg "sorted" = none) (hg : Gl X "sorted" := by rfl) (he : starEach (e :: es) X.env = (false, eval e X.env) :: starEach es X.env := by rfl) (hpl : (backTo pos (starEach es X.env)).any (·.1) = false := by rfl) :
    PE X (.Call (.Name "sorted" p) (e :: es) [] pos) (tE X.K mg (wOpN (on1 oSortedN) fs)) := de_b (dc_sortedN hc hu) hm PyProof.Rows.boot_sorted ha hg (by decide) (by decide) he hpl
end
end DL
/-! text DLEmp3 -/
namespace DL
open PySem PySem.Spec PyProof.Rows L2 HT
/-! ### xs[::-1] of a list or a tuple -/
section
variable {prog : Program} {w : World} {A : Around} {E : Value → Shared → Prop} {s : Shared}
theorem adjust_back (n : Nat) : Builtin.Slice.sliceAdjust none none (-1) (n : Int) = ((n : Int) - 1, -1) := by
  unfold Builtin.Slice.sliceAdjust
  first | rfl | simp
theorem places_back (n : Nat) : Builtin.Slice.slicePlaces ((n : Int) - 1) (-1) (-1) = n := by
  unfold Builtin.Slice.slicePlaces
  have h1 : ¬ ((-1 : Int) > 0) := by omega
  simp only [h1, if_false]
  rw [show (-(-1) : Int) = 1 by decide, Int.ediv_one]
  split <;> omega
theorem applied_back {sl : Addr} {vs : Value} {n : Nat} {Q : Int × Int × Nat → Shared → Prop} (hs : s.heap.IsSliceOf sl .none .none vs) (ps : IsPart vs (some (-1)))
    (h : Q ((n : Int) - 1, -1, n) s) : wpAny (model prog w) A (Builtin.Slice.sliceApplied (.ref sl) (pure (n : Int))) Q E s := by
  obtain ⟨os, hos, hcs, hds⟩ := id hs
  unfold Builtin.Slice.sliceApplied Builtin.Slice.sliceFields
  refine wpAny_bind (wpAny_bind (wpAny_field hos hds (x := .none) rfl (wpAny_bind (wpAny_field hos hds (x := .none) rfl (wpAny_bind (wpAny_field hos hds (x := vs) rfl (wpAny_pure ?_)))))))
  refine wpAny_bind (slicePart_ ps ?_)
  show wpAny _ _ (if ((-1 : Int) == 0) = true then _ else _) _ _ s
  rw [if_neg (by decide)]
  refine wpAny_bind (slicePart_none (wpAny_bind (slicePart_none (wpAny_bind (wpAny_pure ?_)))))
  show wpAny _ _ (match Builtin.Slice.sliceAdjust none none (-1) (n : Int) with | (lo, hi) => pure (lo, (-1 : Int), Builtin.Slice.slicePlaces lo hi (-1))) _ _ s
  rw [adjust_back]
  show wpAny _ _ (pure ((n : Int) - 1, (-1 : Int), Builtin.Slice.slicePlaces ((n : Int) - 1) (-1) (-1))) _ _ s
  rw [places_back]
  exact wpAny_pure h
theorem fm_congr {α β : Type} {f g : α → Option β} : ∀ (l : List α), (∀ x ∈ l, f x = g x) → l.filterMap f = l.filterMap g
  | [], _ => rfl
  | x :: l, h => by
    rw [List.filterMap_cons, List.filterMap_cons, h x (List.mem_cons_self ..), fm_congr l fun y hy => h y (List.mem_cons_of_mem _ hy)]
theorem pick_back (xs : Array Value) : ((List.range xs.size).filterMap fun (m : Nat) => xs[(((xs.size : Int) - 1) + (m : Int) * (-1)).toNat]?) = xs.toList.reverse := by
  have e : ((List.range xs.size).filterMap fun (m : Nat) => xs[(((xs.size : Int) - 1) + (m : Int) * (-1)).toNat]?) = ((List.range xs.size).map fun k => xs.size - 1 - k).filterMap (xs[·]?) := by
    rw [List.filterMap_map]
    refine fm_congr _ fun m hm => ?_
    have hm' := List.mem_range.mp hm
    show xs[(((xs.size : Int) - 1) + (m : Int) * (-1)).toNat]? = xs[xs.size - 1 - m]?
    have : (((xs.size : Int) - 1) + (m : Int) * (-1)).toNat = xs.size - 1 - m := by omega
    rw [this]
  rw [e, PySem.W.krv_range, List.filterMap_reverse, PySem.W.krv_all]
theorem getItem_tuple_back {t sl : Addr} {items : Array Value} {vs : Value} {Q : Value → Shared → Prop} (ht : IsTup s.heap t items) (hs : s.heap.IsSliceOf sl .none .none vs) (ps : IsPart vs (some (-1)))
    (h : Q (.ref s.heap.objs.size) { s with heap := s.heap.push { cls := .type "tuple", data := .seq items.toList.reverse.toArray } })
    (hsz : items.size ≤ sizeLine) : wpAny (model prog w) A (getItem (.ref t) (.ref sl)) Q E s := by
  have htake : sizeOk (.seq items.toList.reverse.toArray) := by
    show items.toList.reverse.toArray.size ≤ sizeLine
    rw [List.size_toArray, List.length_reverse, Array.length_toList]
    exact hsz
  obtain ⟨os, hos, hcs, hds⟩ := id hs
  have hTs : s.TypeIs (.ref sl) "slice" := ⟨os, hos, hcs⟩
  unfold getItem
  try with_reducible refine wpAny_holding ?_
  first | refine wpAny_bind (wpAny_pure ?_) | skip
  refine wpAny_bind (wpAny_sequenceKey ht.typeIs (by decide) ?_)
  refine wpAny_bind (wpAny_callSpecial?_slot (name := Str.ofString "__getitem__") ht.typeIs PyProof.Rows.slot_tuple_getitem
    (wpAny_call_entry PyProof.Rows.slot_tuple_getitem ht.typeIs PyProof.Rows.entry_tuple_getitem ?_ (PyProof.Rows.args_tuple_getitem _ _)))
  show wpAny _ _ (Builtin.Tuple.tupleItemsOf (.ref t) >>= _) _ _ s
  refine wpAny_bind (tupleItemsOf_ ht ?_)
  refine wpAny_bind (wpAny_typeOf hTs ?_)
  rw [if_pos (by decide)]
  refine wpAny_bind (applied_back hs ps ?_)
  have hno : ¬ (((items.size : Int) - 1 == 0 && (-1 : Int) == 1 && items.size == items.size) = true) := by
    intro q
    rw [Bool.and_eq_true, Bool.and_eq_true] at q
    exact absurd q.1.2 (by decide)
  show wpAny _ _ (if ((items.size : Int) - 1 == 0 && (-1 : Int) == 1 && items.size == items.size) = true then _ else _) _ _ s
  rw [if_neg hno, pick_back]
  first
    | exact wpAny_bind (m := Builtin.Tuple.tupleExact _) (wpAny_newObj_type (wpAny_pure ⟨_, rfl, wpAny_pure h⟩) htake)
    | exact wpAny_bind (m := Builtin.Tuple.tupleExact _) (wpAny_newObj_type (wpAny_bind (wpAny_pure (wpAny_pure ⟨_, rfl, wpAny_pure h⟩))) htake)
    | exact wpAny_bind (wpAny_bind (m := Builtin.Tuple.tupleExact _) (wpAny_newObj_type (wpAny_pure (wpAny_pure ⟨_, rfl, wpAny_pure h⟩)) htake))
    | exact wpAny_bind (wpAny_bind (m := Builtin.Tuple.tupleExact _) (wpAny_newObj_type (wpAny_pure ⟨_, rfl, wpAny_pure h⟩) htake))
end
section
variable {X : Cx} {K : PySem.W.Frag} {mg : Str → Option Value} {F H F' H' : Hp} {ad ad' : List Addr} {env : Env} {st : Store} {σ : L2.St} {v : V} {d : PyData} {a b e : Expr} {es : List Expr} {f fa fb : WE} {fs : WA} {p1 p2 p3 pos pos' : Pos} {x : Str} {id : String}
def tRevA (K : PySem.W.Frag) (te : TE) : TE := fun σ H Q => te σ H fun x H1 => ∃ a xs, x = .ref a ∧ ((SqL K H1 a xs ∧ ∀ p, H1 p = none → Q (.ref p) (upd H1 p (.lst xs.reverse))) ∨ (SqT K H1 a xs ∧ ∀ p, H1 p = none → Q (.ref p) (upd H1 p (.tup xs.reverse))))
theorem pe_revA {e : Expr} {te : TE} {k : Nat} {p1 p2 p3 pos : Pos} (he : PE X e te) : PE X (.Subscript e (.Slice none none (some (.UnaryOp .USub (.Constant (.int 1) k p1) p2)) p3) pos) (tRevA X.K te) := by
  refine ⟨fun pins s σ H Q I h => ?_⟩
  refine Subscript_ (thn (he.run pins s σ H _ I h) fun v s1 ⟨x, H1, I1, r1, q1⟩ => ?_)
  obtain ⟨a, xs, ex, q1⟩ := q1
  subst ex
  cases r1
  have hst : PO X (some (.UnaryOp .USub (.Constant (.int 1) k p1) p2)) (tPart (tUn (rU fun i => .int (-i)) (tC (.int 1)))) := po_some (pe_un un_neg pe_int)
  refine wpAny_Slice (thn (po_none.run pins s1 σ H1 (fun o H2 => o = none ∧ H2 = H1) I1 ⟨rfl, rfl⟩) fun vl s2 ⟨l, H2, I2, pl, el, e2⟩ => ?_)
  subst el e2
  refine thn (po_none.run pins s2 σ H2 (fun o H3 => o = none ∧ H3 = H2) I2 ⟨rfl, rfl⟩) fun vu s3 ⟨u, H3, I3, pu, eu, e3⟩ => ?_
  subst eu e3
  refine thn (hst.run pins s3 σ H3 (fun o H4 => o = some (-1) ∧ H4 = H3) I3 ⟨1, rfl, -1, rfl, rfl, rfl⟩) fun vs s4 ⟨o, H4, I4, ps, eo, e4⟩ => ?_
  subst eo e4
  have I5 : Inv X pins σ H4 { s4 with heap := s4.heap.push { cls := .type "slice", data := .fields #[vl, vu, vs] } } := I4.kept (t' := s4.toks) fun b ob q => Heap.get?_push_of_some _ q
  show wpAny (model X.prog X.w) X.A (subscriptTail e (.Slice none none (some (.UnaryOp .USub (.Constant (.int 1) k p1) p2)) p3) (.ref a) (.ref s4.heap.objs.size)) (EP X pins σ Q) X.xe { s4 with heap := s4.heap.push { cls := .type "slice", data := .fields #[vl, vu, vs] } }
  rcases q1 with ⟨hx, q⟩ | ⟨hx, q⟩
  · obtain ⟨its, r, ht, hz⟩ := I5.list hx
    have hlen := r.length
    refine tail_any (ops := [.ref a, .ref s4.heap.objs.size]) ht.isList.typeIs (PySem.slot_list_getitem.lookup) ?_ (by with_unfolding_all rfl)
    refine wpAny_getItem_list_slice ht.isList (Heap.IsSliceOf.new _ vl vu vs) pl pu ps (by decide) ?_ (by rw [List.size_toArray]; omega)
    rw [PySem.W.krv_pick]
    refine ⟨.ref _, _, I5.laid (t' := s4.toks) (o := .lst xs.reverse) (fun b ob q => Heap.get?_push_of_some _ q) (Nat.le_refl _) ?_, rfl, q _ (I5.hok.fresh (Nat.le_refl _))⟩
    exact ⟨by rw [List.length_reverse]; exact hz, _, 0, r.reverse, Heap.get?_push_size _ rfl⟩
  · obtain ⟨its, r, ht, hz⟩ := I5.tuple hx
    have hlen := r.length
    refine tail_any (ops := [.ref a, .ref s4.heap.objs.size]) ht.typeIs (PyProof.Rows.slot_tuple_getitem.lookup) ?_ (by with_unfolding_all rfl)
    cases pl
    cases pu
    refine getItem_tuple_back ht (Heap.IsSliceOf.new _ _ _ vs) ps ?_ (by rw [List.size_toArray]; omega)
    refine ⟨.ref _, _, I5.laid (t' := s4.toks) (o := .tup xs.reverse) (fun b ob q => Heap.get?_push_of_some _ q) (Nat.le_refl _) ?_, rfl, q _ (I5.hok.fresh (Nat.le_refl _))⟩
    refine ⟨by rw [List.length_reverse]; exact hz, _, r.reverse, ?_⟩
    exact ⟨_, Heap.get?_push_size _ rfl, rfl, _, rfl⟩
def oRev : B1
  | .list xs => some (.list xs.reverse)
  | .tuple xs => if bookish xs.reverse = false then some (.tuple xs.reverse) else none
  | _ => none
theorem RpAll.rev : ∀ {ds : List PyData} {vs : List V}, RpAll K F vs ds → RpAll K F vs.reverse ds.reverse
  | [], _, h => by cases h; exact .nil
  | _ :: _, _, h => by
    cases h with
    | cons r rs =>
      rw [List.reverse_cons, List.reverse_cons]
      exact (RpAll.rev rs).append (.cons r .nil)
theorem de_rev {k : Nat} (ha : PE X e (tE X.K mg fa)) : PE X (.Subscript e (.Slice none none (some (.UnaryOp .USub (.Constant (.int 1) k p1) p2)) p3) pos) (tE X.K mg (wUn oRev fa)) :=
  pe_weak (pe_revA ha) fun σ H Q ⟨F, ad, env, st, P, n, h, k⟩ => by
    refine tE_go n h fun r1 st1 v1 F1 ad1 H1 p1 x1 n1 d1 => ?_
    obtain ⟨a, ea, p3⟩ := optK_elim p1
    obtain ⟨c, ec, p5⟩ := optK_elim p3
    have va := n1.rel.vw d1 ea
    have fl := n1.rel.fl
    have fin : ∀ z F' H', Grow F1 H1 F' H' → Rp X.K F' z c → Q z H' := fun z F' H' g q => k _ _ _ _ _ _ p5 (x1.trans (g.ext ad1)) (n1.grow g) q
    cases va with
    | non => cases ec
    | bl _ => cases ec
    | int _ => cases ec
    | str _ => cases ec
    | dct _ _ => cases ec
    | @lst a' xs ds e r =>
      cases ec
      refine ⟨_, _, rfl, .inl ⟨.inl (.inl e), fun p hp => ?_⟩⟩
      have g := grow_new (o := .lst xs.reverse) fl hp (fl.none hp)
      exact fin _ _ _ g (.lst upd_same (RpAll.le g.le _ _ (RpAll.rev r)))
    | @tup a' xs ds e r =>
      have e' : (if bookish ds.reverse = false then some (PyData.tuple ds.reverse) else none) = some c := ec
      split at e'
      · rename_i hb
        cases e'
        refine ⟨_, _, rfl, .inr ⟨fl.seqT e.sq, fun p hp => ?_⟩⟩
        have g := grow_new (o := .tup xs.reverse) fl hp (fl.none hp)
        exact fin _ _ _ g (.tup (.no (.inl (.inl upd_same)) hb) (RpAll.le g.le _ _ (RpAll.rev r)))
      · cases e'
/-! ### max of a list -/
def maxI : List Int → Int
  | [] => 0
  | [x] => x
  | x :: r => max x (maxI r)
theorem maxI_mem : ∀ {l : List Int}, l ≠ [] → maxI l ∈ l
  | [], h => absurd rfl h
  | [x], _ => by simp [maxI]
  | x :: y :: r, _ => by
    have := maxI_mem (l := y :: r) (by simp)
    show max x (maxI (y :: r)) ∈ _
    rcases Int.le_total x (maxI (y :: r)) with h | h
    · rw [Int.max_eq_right h]; exact List.mem_cons_of_mem _ this
    · rw [Int.max_eq_left h]; exact List.mem_cons_self ..
theorem maxI_le : ∀ {l : List Int} {y : Int}, y ∈ l → y ≤ maxI l
  | [x], y, h => by
    have : y = x := by simpa using h
    subst this
    exact Int.le_refl _
  | x :: z :: r, y, h => by
    show y ≤ max x (maxI (z :: r))
    rcases List.mem_cons.mp h with rfl | h
    · exact Int.le_max_left _ _
    · exact Int.le_trans (maxI_le h) (Int.le_max_right _ _)
def oMaxL : B1
  | .list xs => (numsOf xs).bind fun ns => if ns.isEmpty = true then none else some (.int (maxI ns))
  | _ => none
theorem dc_max1 (hc : X.calm = true) : CallR X (.builtin "max") (rCN X.K (on1 oMaxL)) := by
  intro pins s σ H xs us Q I r ⟨F, ds, c, fl, h, e, k⟩
  obtain ⟨v, d, rfl, h1, e1⟩ := vw1 h e
  cases d <;> try cases e1
  rename_i ys
  have e2 : ((numsOf ys).bind fun ns => if ns.isEmpty = true then none else some (PyData.int (maxI ns))) = some c := e1
  cases q : numsOf ys with
  | none => rw [q] at e2; cases e2
  | some ns =>
    rw [q] at e2
    have e3 : (if ns.isEmpty = true then none else some (PyData.int (maxI ns))) = some c := e2
    by_cases hn : ns.isEmpty = true
    · rw [if_pos hn] at e3; cases e3
    · rw [if_neg hn] at e3; cases e3
      have hne : ns ≠ [] := by intro z; rw [z] at hn; exact hn rfl
      cases h1 with
      | lst ea ra =>
        rw [numsOf_rp ra q] at ea
        refine cr_max hc pins s σ H _ us Q I r ⟨_, ns, rfl, .inl (.inl ea), List.length_pos_iff.mpr hne, fun m h1 h2 => ?_⟩
        have : m = maxI ns := Int.le_antisymm (maxI_le h1) (h2 _ (maxI_mem hne))
        subst this
        exact k _ F H (Grow.refl fl) (.int _)
theorem de_max1 (hc : X.calm = true) (ha : PA X (e :: es) (tA X.K mg fs)) (hm : X.mg "max" = none) (hg : Gl X "max" := by rfl) (he : starEach (e :: es) X.env = (false, eval e X.env) :: starEach es X.env := by rfl) (hpl : (backTo pos (starEach es X.env)).any (·.1) = false := by rfl) :
    PE X (.Call (.Name "max" pos') (e :: es) [] pos) (tE X.K mg (wOpN (on1 oMaxL) fs)) := de_b (dc_max1 hc) hm PyProof.Rows.boot_max ha hg (by decide) (by decide) he hpl
end
end DL
/-! text DLEmp4 -/
namespace DL
open PySem PySem.Spec PyProof.Rows L2
/-! ### list + list, a list that will be changed -/
def isLs (x : PyData) (k : List PyData → Prop) : Prop := match x with
  | .list xs => k xs
  | _ => False
def wCatM (fa fb : WE) : WE := fun env st Q => fa env st fun r1 st1 => fb env st1 fun r2 st2 => optK (rd st2 r1) fun a => optK (rd st2 r2) fun b => isLs a fun xs => isLs b fun ys =>
  xs.length + ys.length ≤ lim ∧ Q (.loc st2.length) (st2 ++ [.lst (xs ++ ys)])
section
variable {X : Cx} {K : PySem.W.Frag} {mg : Str → Option Value} {F H F' H' : Hp} {ad ad' : List Addr} {env : Env} {st : Store} {σ : L2.St} {v : V} {d : PyData} {a b e : Expr} {fa fb : WE} {pos : Pos}
theorem de_catM (ha : PE X a (tE K mg fa)) (hb : PE X b (tE K mg fb)) : PE X (.BinOp a .Add b pos) (tE K mg (wCatM fa fb)) :=
  pe_weak (pe_op op_cat ha hb) fun σ H Q ⟨F, ad, env, st, P, n, h, k⟩ => by
    refine tE_go n h fun r1 st1 v1 F1 ad1 H1 p1 x1 n1 d1 => ?_
    refine tE_go n1 p1 fun r2 st2 v2 F2 ad2 H2 p2 x2 n2 d2 => ?_
    obtain ⟨x, ea, p3⟩ := optK_elim p2
    obtain ⟨y, eb, p4⟩ := optK_elim p3
    have va := n2.rel.vw (d1.ext x2) ea
    have vb := n2.rel.vw d2 eb
    cases va with
    | @lst l xs ds e1 r1 =>
      cases vb with
      | @lst l2 ys es e2 r2 =>
        obtain ⟨hl, p5⟩ : ds.length + es.length ≤ lim ∧ P (DV.loc st2.length) (st2 ++ [Cell.lst (ds ++ es)]) := p4
        refine ⟨l, l2, xs, ys, rfl, rfl, e1, e2, by rw [r1.length, r2.length, ← lim_eq]; exact hl, fun p hp => ?_⟩
        obtain ⟨x3, n3⟩ := now_new (o := .lst (xs ++ ys)) (c := .lst (ds ++ es)) n2 hp ⟨n2.rel.fl.none hp, _, upd_same, r1.append r2⟩ (fun _ _ z => by cases z)
        exact k _ _ _ _ _ _ p5 ((x1.trans x2).trans x3) n3 ⟨p, rfl, by rw [← n2.rel.len]; simp⟩
      | _ => exact (p4 : False).elim
    | _ => exact (p4 : False).elim
end
end DL
/-! text K02B -/
set_option maxHeartbeats 1000000
namespace DL.K02
open PySem PySem.Spec PyProof.Rows L2 DL 
/-! ### the words of each body (printed by gen.py) -/
def g_SMALL : PyData := (.str "abcdefghijklmnopqrstuvwxyz")
def g_FIGURES : PyData := (.str "0123456789")
def g_CAPITALS : PyData := (.str "ABCDEFGHIJKLMNOPQRSTUVWXYZ")
def g_MOST_SIGNS : PyData := (.int 8)
def g_MOST_NAME : PyData := (.int 60)
def g_MOST_PARTS : PyData := (.int 2000)
def g_MOST_DEEP : PyData := (.int 30)
def k_KIND_SIZES : List (PyData × PyData) := [((.str "thing"), (.int 0)), ((.str "none"), (.int 0)), ((.str "unit"), (.int 0)), ((.str "pair"), (.int 2)), ((.str "either"), (.int 2))]
def b_is_written_name (EE : EK) : WS :=
  (wSeq (wIf (wOr (wNot (wT (wChain oLe oLe (wC (.int 1)) (wUnS oLen (wVar 0)) (wC g_MOST_SIGNS)))) (wT (wBin oNotIn (wBinS oIx (wVar 0) (wC (.int 0))) (wC g_CAPITALS)))) (wRet (wC (.bool false))) wSkip)
    (wRet (wOpN (on1 oAll) (wCons (DL.wLc (iStrD (wSl oSl (wVar 0) (wOS (wC (.int 1))) wON)) (gN 1) wYes (wBin oIn (wVar 1) (wBin oAdd (wC g_SMALL) (wC g_FIGURES))) [1]) wNil))))
def b_is_named (s_is_written_name : SpD) (EE : EK) : WS :=
  (wSeq (wIf (wOr (wNot (wT (wUn (oIs "str") (wVar 0)))) (wT (wBin oGt (wUnS oLen (wVar 0)) (wC g_MOST_NAME)))) (wRet (wC (.bool false))) wSkip)
    (wSeq (wAsg (wMs oSplit (wVar 0) (wC (.str "'"))) (gN 1))
    (wRet (wAndV (wCall s_is_written_name EE (wCons (wBinS oIx (wVar 1) (wC (.int 0))) wNil)) (wOpN (on1 oAll) (wCons (DL.wLc (iSeq (wSl oSl (wVar 1) (wOS (wC (.int 1))) wON)) (gN 2) wYes (wOrV (wBin oEq (wVar 2) (wC (.str ""))) (wCall s_is_written_name EE (wCons (wVar 2) wNil))) [2]) wNil))))))
def b_is_kind_formed (s_is_kind_formed s_is_named : SpD) (EE : EK) : WS :=
  (wSeq (wIf (wOr (wT (wBin oEq (wVar 1) (wC (.int 0)))) (wOr (wNot (wT (wUn (oIs "tuple") (wVar 0)))) (wOr (wT (wBin oEqE (wVar 0) (wTup wNil))) (wNot (wT (wUn (oIs "str") (wBinS oIx (wVar 0) (wC (.int 0))))))))) (wRet (wC (.bool false))) wSkip)
    (wSeq (wIf (wT (wBin oEq (wBinS oIx (wVar 0) (wC (.int 0))) (wC (.str "name")))) (wRet (wAndV (wBin oEq (wUnS oLen (wVar 0)) (wC (.int 2))) (wCall s_is_named EE (wCons (wBinS oIx (wVar 0) (wC (.int 1))) wNil)))) wSkip)
    (wSeq (wIf (wOr (wT (wKIn true k_KIND_SIZES (wBinS oIx (wVar 0) (wC (.int 0))))) (wT (wBin oNe (wUnS oLen (wVar 0)) (wBin oAdd (wC (.int 1)) (wKIx k_KIND_SIZES (wBinS oIx (wVar 0) (wC (.int 0)))))))) (wRet (wC (.bool false))) wSkip)
    (wRet (wOpN (on1 oAll) (wCons (DL.wLc (iSeq (wSl oSl (wVar 0) (wOS (wC (.int 1))) wON)) (gN 2) wYes (wCall s_is_kind_formed EE (wCons (wVar 2) (wCons (wBin oSub (wVar 1) (wC (.int 1))) wNil))) [2]) wNil))))))
def b_kinds_in (EE : EK) : WS :=
  (wRet (wIfE (wT (wBin oEq (wBinS oIx (wVar 0) (wC (.int 0))) (wC (.str "name")))) (wTup wNil) (wSl oSl (wVar 0) (wOS (wC (.int 1))) wON)))
def b_kind_depth (s_kinds_in s_kind_depth : SpD) (EE : EK) : WS :=
  (wRet (wBin oAdd (wC (.int 1)) (wOpN (on1 oMaxL) (wCons (wBin oAdd (wLst (wCons (wC (.int 0)) wNil)) (DL.wLc (iSeq (wCall s_kinds_in EE (wCons (wVar 0) wNil))) (gN 1) wYes (wCall s_kind_depth EE (wCons (wVar 1) wNil)) [1])) wNil))))
def b_count_kinds (s_kinds_in s_count_kinds : SpD) (EE : EK) : WS :=
  (wRet (wBin oAdd (wC (.int 1)) (wOpN (on1 oSum) (wCons (DL.wLc (iSeq (wCall s_kinds_in EE (wCons (wVar 0) wNil))) (gN 1) wYes (wCall s_count_kinds EE (wCons (wVar 1) wNil)) [1]) wNil))))
def b_is_kinded (s_count_kinds s_is_kind_formed : SpD) (EE : EK) : WS :=
  (wRet (wAndV (wCall s_is_kind_formed EE (wCons (wVar 0) (wCons (wC g_MOST_DEEP) wNil))) (wBin oLe (wCall s_count_kinds EE (wCons (wVar 0) wNil)) (wC g_MOST_PARTS))))
def b_names_by (s_kinds_in s_names_by : SpD) (EE : EK) : WS :=
  (wSeq (wIf (wT (wBin oEq (wBinS oIx (wVar 0) (wC (.int 0))) (wC (.str "name")))) (wRet (wDisp (wPC (wBinS oIx (wVar 0) (wC (.int 1))) (wC (.bool true)) wPN))) wSkip)
    (wSeq (wAsg wDct0 (gN 1))
    (wSeq (DL.wFor (iSeq (wCall s_kinds_in EE (wCons (wVar 0) wNil))) (gN 2) (wAsg (wDctS (wVar 1) (wCall s_names_by EE (wCons (wVar 2) wNil))) (gN 1)))
    (wRet (wVar 1)))))
def b_check_kind (s_is_kinded : SpD) (EE : EK) : WS :=
  (wIf (wNot (wT (wCall s_is_kinded EE (wCons (wVar 0) wNil)))) wNever wSkip)
def b_is_name (s_is_named : SpD) (EE : EK) : WS :=
  (wRet (wCall s_is_named EE (wCons (wVar 0) wNil)))
def b_is_kind (s_is_kinded : SpD) (EE : EK) : WS :=
  (wRet (wCall s_is_kinded EE (wCons (wVar 0) wNil)))
def b_depth_of_kind (s_kind_depth s_check_kind : SpD) (EE : EK) : WS :=
  (wSeq (wExpr (wCall s_check_kind EE (wCons (wVar 0) wNil)))
    (wRet (wCall s_kind_depth EE (wCons (wVar 0) wNil))))
def b_parts_of_kind (s_count_kinds s_check_kind : SpD) (EE : EK) : WS :=
  (wSeq (wExpr (wCall s_check_kind EE (wCons (wVar 0) wNil)))
    (wRet (wCall s_count_kinds EE (wCons (wVar 0) wNil))))
def b_names_in (s_names_by s_check_kind : SpD) (EE : EK) : WS :=
  (wSeq (wExpr (wCall s_check_kind EE (wCons (wVar 0) wNil)))
    (wRet (wOpN (on1 oTuple) (wCons (wOpN (on1 oSortedN) (wCons (wCall s_names_by EE (wCons (wVar 0) wNil)) wNil)) wNil))))
def b_law_well (EE : EK) : WS :=
  (wSeq (wAsg (wBin oAdd (wC (.int 910027)) (wBin oMul (wC (.int 6007)) (wVar 1))) (gN 2))
    (wSeq (DL.wFor (iSeq (wSl oSl (wVar 0) wON (wOS (wC (.int 10))))) (gN 3) (wAsg (wBin oMod (wOpN (on1 oInt) (wCons (wBin oAdd (wBin oAdd (wBin oMul (wVar 2) (wC (.int 47221))) (wBin oMod (wOpN (on1 oInt) (wCons (wVar 3) wNil)) (wC (.int 2147483477)))) (wC (.int 7))) wNil)) (wC (.int 2147483423))) (gN 2)))
    (wSeq (wAsg (wIfE (wT (wBin oLt (wVar 1) (wUnS oLen (wVar 0)))) (wOpN (on1 oInt) (wCons (wBinS oIx (wVar 0) (wVar 1)) wNil)) (wC (.int 0))) (gN 4))
    (wSeq (wAsg (wBin oMod (wOpN (on1 oInt) (wCons (wBin oAdd (wBin oAdd (wBin oMul (wVar 2) (wC (.int 53))) (wBin oMul (wBin oMod (wOpN (on1 oInt) (wCons (wVar 4) wNil)) (wC (.int 2147483477))) (wC (.int 15013)))) (wC (.int 3))) wNil)) (wC (.int 2147483423))) (gN 2))
    (wRet (wLstM (wCons (wIfE (wOr (wT (wBin oLt (wVar 4) (wC (.int 0)))) (wT (wBin oGe (wVar 4) (wBin oPow (wC (.int 10)) (wC (.int 14)))))) (wOpN (on1 oAbs) (wCons (wVar 4) wNil)) (wC (.int 0))) (wCons (wVar 2) (wCons (wC (.int 0)) wNil)))))))))
def b_law_draw (EE : EK) : WS :=
  (wSeq (wIf (wT (wBin oGt (wBinS oIx (wVar 0) (wC (.int 0))) (wC (.int 0)))) (wSeq (wAsg (wOpN (on2 oDivmod) (wCons (wBinS oIx (wVar 0) (wC (.int 0))) (wCons (wVar 1) wNil))) (DL.gTupN 2 (DL.gCons (gSub (wVar 0) (wC (.int 0))) (DL.gCons (gN 2) DL.gNil))))
    (wRet (wVar 2))) wSkip)
    (wSeq (wAsg (wBin oAdd (wBinS oIx (wVar 0) (wC (.int 2))) (wC (.int 1))) (gSub (wVar 0) (wC (.int 2))))
    (wSeq (wAsg (wBin oMod (wOpN (on1 oInt) (wCons (wBin oAdd (wBinS oIx (wVar 0) (wC (.int 1))) (wBin oMul (wC (.int 50021)) (wBinS oIx (wVar 0) (wC (.int 2))))) wNil)) (wC (.int 2147483423))) (gN 3))
    (wSeq (wAsg (wBin oMod (wOpN (on1 oInt) (wCons (wBin oAdd (wBin oMul (wVar 3) (wBin oAdd (wBin oMod (wOpN (on1 oInt) (wCons (wVar 3) wNil)) (wC (.int 4001))) (wC (.int 30011)))) (wBin oMul (wC (.int 29)) (wBinS oIx (wVar 0) (wC (.int 2))))) wNil)) (wC (.int 2147483423))) (gSub (wVar 0) (wC (.int 1))))
    (wRet (wBin oMod (wOpN (on1 oInt) (wCons (wBin oDiv (wBinS oIx (wVar 0) (wC (.int 1))) (wC (.int 547))) wNil)) (wVar 1)))))))
def b_law_pick (s_law_draw : SpD) (EE : EK) : WS :=
  (wRet (wBinS oIx (wVar 1) (wCall s_law_draw EE (wCons (wVar 0) (wCons (wUnS oLen (wVar 1)) wNil)))))
def b_law_same (EE : EK) : WS :=
  (wRet (wBin oEq (wOpN (on1 oReprE) (wCons (wVar 0) wNil)) (wOpN (on1 oReprE) (wCons (wVar 1) wNil))))
def b_law_odd (s_law_pick : SpD) (EE : EK) : WS :=
  (wSeq (wAsg (wTup (wCons (wC .none) (wCons (wC (.bool true)) (wCons (wC (.bool false)) (wCons (wC (.int 0)) (wCons (wC (.int 1)) (wCons (wUn oNeg (wC (.int 1))) (wCons (wC (.int 12)) (wCons (wBin oPow (wC (.int 10)) (wC (.int 30))) (wCons (wC (.str "")) (wCons (wC (.str "thing")) (wCons (wC (.str "Row")) (wCons (wC (.str "Row'")) (wCons (wC (.str "Row'Tree")) (wCons (wC (.str "row")) (wCons (wC (.str "left")) (wCons (wTup wNil) (wCons (wTup (wCons (wC (.int 0)) wNil)) wNil)))))))))))))))))) (gN 1))
    (wSeq (wAsg (wTup (wCons (wTup (wCons (wC (.str "thing")) wNil)) (wCons (wTup (wCons (wC (.str "thing")) (wCons (wTup wNil) wNil))) (wCons (wTup (wCons (wC (.str "none")) wNil)) (wCons (wTup (wCons (wC (.str "name")) (wCons (wC (.str "Row")) wNil))) (wCons (wTup (wCons (wC (.str "name")) (wCons (wC (.str "row")) wNil))) (wCons (wTup (wCons (wC (.str "unit")) (wCons (wC (.int 1)) wNil))) (wCons (wTup (wCons (wC (.str "pair")) (wCons (wTup (wCons (wC (.str "thing")) wNil)) wNil))) wNil)))))))) (gN 2))
    (wSeq (wAsg (wTup (wCons (wTup (wCons (wC (.str "pair")) (wCons (wC (.int 5)) (wCons (wC (.int 6)) wNil)))) (wCons (wTup (wCons (wC (.str "either")) (wCons (wTup (wCons (wC (.str "unit")) wNil)) (wCons (wTup (wCons (wC (.str "thing")) wNil)) wNil)))) (wCons (wTup (wCons (wC (.str "left")) (wCons (wTup wNil) wNil))) (wCons (wTup (wCons (wC (.str "right")) (wCons (wC (.bool true)) wNil))) (wCons (wLst wNil) (wCons (wLst (wCons (wC (.str "thing")) wNil)) (wCons wDct0 (wCons (wTup (wCons (wTup wNil) wNil)) wNil))))))))) (gN 3))
    (wSeq (wAsg (wTup (wCons (wTup (wCons (wC (.int 1)) (wCons (wC (.int 2)) wNil))) (wCons (wTup (wCons (wC (.int 1)) (wCons (wC (.bool true)) wNil))) (wCons (wTup (wCons (wC (.str "next")) wNil)) (wCons (wTup (wCons (wC (.str "put")) (wCons (wC (.int 3)) wNil))) (wCons (wTup (wCons (wTup (wCons (wC (.str "Row")) (wCons (wTup (wCons (wC (.str "unit")) wNil)) wNil))) wNil)) (wCons (wTup (wCons (wTup (wCons (wC (.str "unit")) wNil)) wNil)) (wCons (wTup (wCons (wC .none) wNil)) (wCons (wTup (wCons (wC (.str "left")) (wCons (wC (.int 1)) (wCons (wC (.int 2)) wNil)))) wNil))))))))) (gN 4))
    (wRet (wCall s_law_pick EE (wCons (wVar 0) (wCons (wBin oAdd (wBin oAdd (wBin oAdd (wVar 1) (wVar 2)) (wVar 3)) (wVar 4)) wNil))))))))
def b_law_written (s_law_pick s_law_draw : SpD) (EE : EK) : WS :=
  (wSeq (wIf (wT (wBin oEq (wCall s_law_draw EE (wCons (wVar 0) (wCons (wC (.int 2)) wNil))) (wC (.int 0)))) (wRet (wCall s_law_pick EE (wCons (wVar 0) (wCons (wTup (wCons (wC (.str "Row")) (wCons (wC (.str "Tree")) (wCons (wC (.str "R")) (wCons (wC (.str "Rowa")) (wCons (wC (.str "Ro")) (wCons (wC (.str "X1")) (wCons (wC (.str "Y")) (wCons (wC (.str "Rows")) wNil))))))))) wNil)))) wSkip)
    (wSeq (wAsg (wCall s_law_pick EE (wCons (wVar 0) (wCons (wC (.str "ABCDEFGHIJKLMNOPQRSTUVWXYZ")) wNil))) (gN 1))
    (wSeq (DL.wFor (iRng1D (wCall s_law_pick EE (wCons (wVar 0) (wCons (wTup (wCons (wC (.int 0)) (wCons (wC (.int 0)) (wCons (wC (.int 1)) (wCons (wC (.int 2)) (wCons (wC (.int 3)) (wCons (wC (.int 6)) (wCons (wC (.int 7)) wNil)))))))) wNil)))) (gN 2) (wAsg (wBin oAdd (wVar 1) (wCall s_law_pick EE (wCons (wVar 0) (wCons (wC (.str "abcdefghijklmnopqrstuvwxyz0123456789")) wNil)))) (gN 1)))
    (wRet (wVar 1)))))
def b_law_long_name (s_law_draw s_law_pick s_law_written : SpD) (EE : EK) : WS :=
  (wSeq (wAsg (wCall s_law_written EE (wCons (wVar 0) wNil)) (gN 1))
    (wSeq (DL.wFor (iRng1D (wCall s_law_pick EE (wCons (wVar 0) (wCons (wTup (wCons (wC (.int 0)) (wCons (wC (.int 0)) (wCons (wC (.int 1)) (wCons (wC (.int 1)) (wCons (wC (.int 2)) (wCons (wC (.int 4)) wNil))))))) wNil)))) (gN 2) (wAsg (wBin oAdd (wBin oAdd (wVar 1) (wC (.str "'"))) (wIfE (wT (wBin oEq (wCall s_law_draw EE (wCons (wVar 0) (wCons (wC (.int 2)) wNil))) (wC (.int 0)))) (wCall s_law_written EE (wCons (wVar 0) wNil)) (wC (.str "")))) (gN 1)))
    (wRet (wIfE (wAnd (wT (wBin oEq (wCall s_law_draw EE (wCons (wVar 0) (wCons (wC (.int 9)) wNil))) (wC (.int 8)))) (wT (wBin oLt (wUnS oLen (wVar 1)) (wC (.int 60))))) (wBin oAdd (wVar 1) (wBin oMulS (wC (.str "'")) (wBin oSub (wC (.int 60)) (wUnS oLen (wVar 1))))) (wVar 1)))))
def b_law_kind (s_law_kind s_law_pick s_law_draw : SpD) (EE : EK) : WS :=
  (wSeq (wAsg (wIfE (wT (wBin oGt (wVar 2) (wC (.int 1)))) (wCall s_law_draw EE (wCons (wVar 0) (wCons (wC (.int 11)) wNil))) (wCall s_law_draw EE (wCons (wVar 0) (wCons (wC (.int 5)) wNil)))) (gN 3))
    (wSeq (wIf (wAnd (wT (wBin oLt (wVar 3) (wC (.int 2)))) (wT (wBin oGt (wUnS oLen (wVar 1)) (wC (.int 0))))) (wRet (wTup (wCons (wC (.str "name")) (wCons (wCall s_law_pick EE (wCons (wVar 0) (wCons (wVar 1) wNil))) wNil)))) wSkip)
    (wSeq (wIf (wT (wBin oLt (wVar 3) (wC (.int 5)))) (wRet (wTup (wCons (wIfE (wT (wBin oEq (wVar 3) (wC (.int 4)))) (wCall s_law_pick EE (wCons (wVar 0) (wCons (wTup (wCons (wC (.str "unit")) (wCons (wC (.str "unit")) (wCons (wC (.str "unit")) (wCons (wC (.str "none")) wNil))))) wNil))) (wC (.str "thing"))) wNil))) wSkip)
    (wSeq (wAsg (wCall s_law_kind EE (wCons (wVar 0) (wCons (wVar 1) (wCons (wBin oSub (wVar 2) (wC (.int 1))) wNil)))) (gN 4))
    (wRet (wTup (wCons (wIfE (wT (wBin oLt (wVar 3) (wC (.int 8)))) (wC (.str "pair")) (wC (.str "either"))) (wCons (wVar 4) (wCons (wCall s_law_kind EE (wCons (wVar 0) (wCons (wVar 1) (wCons (wBin oSub (wVar 2) (wC (.int 1))) wNil)))) wNil)))))))))
def b_law_is_written (EE : EK) : WS :=
  (wSeq (wIf (wOr (wT (wBin oLt (wUnS oLen (wVar 0)) (wC (.int 1)))) (wOr (wT (wBin oGt (wUnS oLen (wVar 0)) (wC (.int 8)))) (wT (wBin oNotIn (wBinS oIx (wVar 0) (wC (.int 0))) (wC (.str "ABCDEFGHIJKLMNOPQRSTUVWXYZ")))))) (wRet (wC (.bool false))) wSkip)
    (wRet (wBin oEq (DL.wLc (iStrD (wSl oSl (wVar 0) (wOS (wC (.int 1))) wON)) (gN 1) (wT (wBin oNotIn (wVar 1) (wC (.str "abcdefghijklmnopqrstuvwxyz0123456789")))) (wVar 1) [1]) (wLst wNil))))
def b_law_is_name (s_law_is_written : SpD) (EE : EK) : WS :=
  (wSeq (wIf (wOr (wNot (wT (wUn (oIs "str") (wVar 0)))) (wT (wBin oGt (wUnS oLen (wVar 0)) (wC (.int 60))))) (wRet (wC (.bool false))) wSkip)
    (wSeq (wAsg (wMs oSplit (wVar 0) (wC (.str "'"))) (gN 1))
    (wSeq (wAsg (DL.wLc (iSeq (wSl oSl (wVar 1) (wOS (wC (.int 1))) wON)) (gN 3) (wAnd (wT (wBin oNe (wVar 3) (wC (.str "")))) (wNot (wT (wCall s_law_is_written EE (wCons (wVar 3) wNil))))) (wVar 3) [3]) (gN 2))
    (wRet (wAndV (wCall s_law_is_written EE (wCons (wBinS oIx (wVar 1) (wC (.int 0))) wNil)) (wBin oEq (wVar 2) (wLst wNil)))))))
def b_law_is_headed (EE : EK) : WS :=
  (wSeq (wIf (wOr (wNot (wT (wUn (oIs "tuple") (wVar 0)))) (wT (wBin oNe (wUnS oLen (wVar 0)) (wVar 1)))) (wRet (wC (.bool false))) wSkip)
    (wRet (wAndV (wUn (oIs "str") (wBinS oIx (wVar 0) (wC (.int 0)))) (wBin oIn (wBinS oIx (wVar 0) (wC (.int 0))) (wVar 2)))))
def b_law_is_formed (s_law_is_name s_law_is_headed s_law_is_formed : SpD) (EE : EK) : WS :=
  (wSeq (wIf (wT (wCall s_law_is_headed EE (wCons (wVar 0) (wCons (wC (.int 1)) (wCons (wTup (wCons (wC (.str "thing")) (wCons (wC (.str "none")) (wCons (wC (.str "unit")) wNil)))) wNil))))) (wRet (wC (.bool true))) wSkip)
    (wSeq (wIf (wT (wCall s_law_is_headed EE (wCons (wVar 0) (wCons (wC (.int 3)) (wCons (wTup (wCons (wC (.str "pair")) (wCons (wC (.str "either")) wNil))) wNil))))) (wRet (wAndV (wCall s_law_is_formed EE (wCons (wBinS oIx (wVar 0) (wC (.int 1))) wNil)) (wCall s_law_is_formed EE (wCons (wBinS oIx (wVar 0) (wC (.int 2))) wNil)))) wSkip)
    (wRet (wAndV (wCall s_law_is_headed EE (wCons (wVar 0) (wCons (wC (.int 2)) (wCons (wTup (wCons (wC (.str "name")) wNil)) wNil)))) (wCall s_law_is_name EE (wCons (wBinS oIx (wVar 0) (wC (.int 1))) wNil))))))
def b_law_measures (s_law_measures : SpD) (EE : EK) : WS :=
  (wSeq (wIf (wT (wBin oNotIn (wBinS oIx (wVar 0) (wC (.int 0))) (wTup (wCons (wC (.str "pair")) (wCons (wC (.str "either")) wNil))))) (wRet (wTup (wCons (wC (.int 1)) (wCons (wC (.int 1)) (wCons (wIfE (wT (wBin oEq (wBinS oIx (wVar 0) (wC (.int 0))) (wC (.str "name")))) (wLst (wCons (wBinS oIx (wVar 0) (wC (.int 1))) wNil)) (wLst wNil)) wNil))))) wSkip)
    (wSeq (wPar 1 2 (wCall s_law_measures EE (wCons (wBinS oIx (wVar 0) (wC (.int 1))) wNil)) (wCall s_law_measures EE (wCons (wBinS oIx (wVar 0) (wC (.int 2))) wNil)))
    (wRet (wTup (wCons (wBin oAdd (wOpN (on2 oMax) (wCons (wBinS oIx (wVar 1) (wC (.int 0))) (wCons (wBinS oIx (wVar 2) (wC (.int 0))) wNil))) (wC (.int 1))) (wCons (wBin oAdd (wBin oAdd (wBinS oIx (wVar 1) (wC (.int 1))) (wBinS oIx (wVar 2) (wC (.int 1)))) (wC (.int 1))) (wCons (wBin oAdd (wBinS oIx (wVar 1) (wC (.int 2))) (wBinS oIx (wVar 2) (wC (.int 2)))) wNil)))))))
def b_law_is_kind (s_law_measures s_law_is_formed : SpD) (EE : EK) : WS :=
  (wSeq (wIf (wNot (wT (wCall s_law_is_formed EE (wCons (wVar 0) wNil)))) (wRet (wC (.bool false))) wSkip)
    (wSeq (wAsg (wCall s_law_measures EE (wCons (wVar 0) wNil)) (gN 1))
    (wRet (wAndV (wBin oLe (wBinS oIx (wVar 1) (wC (.int 0))) (wC (.int 30))) (wBin oLe (wBinS oIx (wVar 1) (wC (.int 1))) (wC (.int 2000)))))))
def b_law_bent (s_law_odd s_law_draw s_law_pick : SpD) (EE : EK) : WS :=
  (wSeq (wAsg (wCall s_law_draw EE (wCons (wVar 0) (wCons (wC (.int 9)) wNil))) (gN 2))
    (wSeq (wIf (wAnd (wT (wBin oLt (wVar 2) (wC (.int 2)))) (wAnd (wT (wUn (oIs "int") (wVar 1))) (wNot (wT (wUn (oIs "bool") (wVar 1)))))) (wRet (wBin oSub (wBin oAdd (wVar 1) (wBin oMul (wC (.int 2)) (wVar 2))) (wC (.int 1)))) wSkip)
    (wSeq (wIf (wAnd (wT (wBin oLt (wVar 2) (wC (.int 6)))) (wT (wUn (oIs "str") (wVar 1)))) (wRet (wCall s_law_pick EE (wCons (wVar 0) (wCons (wTup (wCons (wC (.str "pair")) (wCons (wC (.str "either")) (wCons (wC (.str "thing")) (wCons (wC (.str "none")) (wCons (wC (.str "name")) (wCons (wC (.str "left")) (wCons (wC (.str "right")) (wCons (wC (.str "Row")) (wCons (wBin oAdd (wVar 1) (wC (.str "'"))) wNil)))))))))) wNil)))) wSkip)
    (wSeq (wIf (wOr (wT (wBin oLt (wVar 2) (wC (.int 4)))) (wOr (wNot (wT (wUn (oIs "tuple") (wVar 1)))) (wT (wBin oEq (wUnS oLen (wVar 1)) (wC (.int 0)))))) (wRet (wCall s_law_odd EE (wCons (wVar 0) wNil))) wSkip)
    (wSeq (wAsg (wCall s_law_draw EE (wCons (wVar 0) (wCons (wUnS oLen (wVar 1)) wNil))) (gN 3))
    (wSeq (wIf (wT (wBin oEq (wVar 2) (wC (.int 4)))) (wRet (wBin oAdd (wSl oSl (wVar 1) wON (wOS (wVar 3))) (wSl oSl (wVar 1) (wOS (wBin oAdd (wVar 3) (wC (.int 1)))) wON))) wSkip)
    (wSeq (wIf (wT (wBin oEq (wVar 2) (wC (.int 5)))) (wRet (wBin oAdd (wBin oAdd (wSl oSl (wVar 1) wON (wOS (wVar 3))) (wTup (wCons (wBinS oIx (wVar 1) (wVar 3)) wNil))) (wSl oSl (wVar 1) (wOS (wVar 3)) wON))) wSkip)
    (wSeq (wIf (wT (wBin oEq (wVar 2) (wC (.int 6)))) (wRet (wBin oAdd (wVar 1) (wTup (wCons (wCall s_law_odd EE (wCons (wVar 0) wNil)) wNil)))) wSkip)
    (wRet (wIfE (wT (wBin oEq (wVar 2) (wC (.int 7)))) (wUn oRev (wVar 1)) (wOpN (on1 oList) (wCons (wVar 1) wNil))))))))))))
def b_law_spoilt (s_law_bent s_law_draw : SpD) (EE : EK) : WS :=
  (wSeq (wPar 2 3 (wLstM wNil) (wVar 1))
    (wSeq (DL.wFor (iRng1D (wCall s_law_draw EE (wCons (wVar 0) (wCons (wC (.int 7)) wNil)))) (gN 4) (wSeq (wIf (wOr (wNot (wT (wUn (oIs "tuple") (wVar 3)))) (wT (wBin oEq (wUnS oLen (wVar 3)) (wC (.int 0))))) wBrk wSkip)
    (wSeq (wAsg (wCall s_law_draw EE (wCons (wVar 0) (wCons (wUnS oLen (wVar 3)) wNil))) (gN 5))
    (wSeq (wExpr (wMtM oAppend (wVar 2) (wCons (wTup (wCons (wVar 3) (wCons (wVar 5) wNil))) wNil)))
    (wAsg (wBinS oIx (wVar 3) (wVar 5)) (gN 3))))))
    (wSeq (wAsg (wCall s_law_bent EE (wCons (wVar 0) (wCons (wVar 3) wNil))) (gN 3))
    (wSeq (DL.wFor (iSeq (wUn oRev (wVar 2))) (DL.gTupN 2 (DL.gCons (gN 6) (DL.gCons (gN 5) DL.gNil))) (wAsg (wBin oAdd (wBin oAdd (wSl oSl (wVar 6) wON (wOS (wVar 5))) (wTup (wCons (wVar 3) wNil))) (wSl oSl (wVar 6) (wOS (wBin oAdd (wVar 5) (wC (.int 1)))) wON)) (gN 3)))
    (wRet (wVar 3))))))
def b_law_near_name (s_law_draw s_law_pick : SpD) (EE : EK) : WS :=
  (wSeq (wPar 2 3 (wCall s_law_draw EE (wCons (wVar 0) (wCons (wBin oAdd (wUnS oLen (wVar 1)) (wC (.int 1))) wNil))) (wCall s_law_draw EE (wCons (wVar 0) (wCons (wC (.int 8)) wNil))))
    (wSeq (wAsg (wCall s_law_pick EE (wCons (wVar 0) (wCons (wC (.str "AZaz09'_ -.bR")) wNil))) (gN 4))
    (wSeq (wIf (wT (wBin oEq (wVar 3) (wC (.int 0)))) (wRet (wBin oAdd (wSl oSl (wVar 1) wON (wOS (wVar 2))) (wSl oSl (wVar 1) (wOS (wBin oAdd (wVar 2) (wC (.int 1)))) wON))) wSkip)
    (wSeq (wIf (wT (wBin oLt (wVar 3) (wC (.int 4)))) (wRet (wBin oAdd (wBin oAdd (wSl oSl (wVar 1) wON (wOS (wVar 2))) (wVar 4)) (wSl oSl (wVar 1) (wOS (wVar 2)) wON))) wSkip)
    (wSeq (wIf (wT (wBin oLt (wVar 3) (wC (.int 6)))) (wRet (wBin oAdd (wBin oAdd (wSl oSl (wVar 1) wON (wOS (wVar 2))) (wVar 4)) (wSl oSl (wVar 1) (wOS (wBin oAdd (wVar 2) (wC (.int 1)))) wON))) wSkip)
    (wSeq (wIf (wT (wBin oEq (wVar 3) (wC (.int 6)))) (wRet (wBin oAdd (wVar 1) (wBin oMulS (wC (.str "'")) (wOpN (on2 oMax) (wCons (wC (.int 1)) (wCons (wBin oSub (wC (.int 61)) (wUnS oLen (wVar 1))) wNil)))))) wSkip)
    (wRet (wBin oAdd (wVar 1) (wSl oSl (wC (.str "abcdefgh")) wON (wOS (wCall s_law_draw EE (wCons (wVar 0) (wCons (wC (.int 9)) wNil)))))))))))))
def b_law_tower (s_law_pick s_law_kind s_law_long_name : SpD) (EE : EK) : WS :=
  (wSeq (wPar 1 2 (wCall s_law_kind EE (wCons (wVar 0) (wCons (wLst (wCons (wCall s_law_long_name EE (wCons (wVar 0) wNil)) wNil)) (wCons (wC (.int 1)) wNil)))) (wCall s_law_kind EE (wCons (wVar 0) (wCons (wLst (wCons (wC (.str "Row")) (wCons (wC (.str "A'")) wNil))) (wCons (wC (.int 2)) wNil)))))
    (wSeq (wAsg (wCall s_law_pick EE (wCons (wVar 0) (wCons (wTup (wCons (wC (.str "pair")) (wCons (wC (.str "either")) wNil))) wNil))) (gN 3))
    (wSeq (DL.wFor (iRng1D (wCall s_law_pick EE (wCons (wVar 0) (wCons (wTup (wCons (wC (.int 27)) (wCons (wC (.int 28)) (wCons (wC (.int 29)) (wCons (wC (.int 30)) (wCons (wC (.int 89)) wNil)))))) wNil)))) (gN 4) (wAsg (wIfE (wT (wBin oGt (wBin oMod (wOpN (on1 oInt) (wCons (wVar 4) wNil)) (wC (.int 3))) (wC (.int 0)))) (wTup (wCons (wVar 3) (wCons (wVar 1) (wCons (wVar 2) wNil)))) (wTup (wCons (wVar 3) (wCons (wVar 2) (wCons (wVar 1) wNil))))) (gN 1)))
    (wRet (wVar 1)))))
def b_law_spread (s_law_spread : SpD) (EE : EK) : WS :=
  (wSeq (wIf (wT (wBin oEq (wVar 1) (wC (.int 1)))) (wRet (wBinS oIx (wVar 0) (wC (.int 0)))) wSkip)
    (wSeq (wAsg (wCall s_law_spread EE (wCons (wBin oAdd (wSl oSl (wVar 0) (wOS (wC (.int 1))) wON) (wSl oSl (wVar 0) wON (wOS (wC (.int 1))))) (wCons (wBin oDiv (wVar 1) (wC (.int 2))) wNil))) (gN 2))
    (wRet (wTup (wCons (wIfE (wT (wBin oGt (wBin oMod (wOpN (on1 oInt) (wCons (wVar 1) wNil)) (wC (.int 3))) (wC (.int 0)))) (wC (.str "pair")) (wC (.str "either"))) (wCons (wVar 2) (wCons (wCall s_law_spread EE (wCons (wVar 0) (wCons (wBin oSub (wVar 1) (wBin oDiv (wVar 1) (wC (.int 2)))) wNil))) wNil)))))))
def b_law_wide (s_law_spread s_law_pick s_law_kind s_law_long_name : SpD) (EE : EK) : WS :=
  (wSeq (wAsg (wLst (wCons (wTup (wCons (wC (.str "name")) (wCons (wCall s_law_long_name EE (wCons (wVar 0) wNil)) wNil))) (wCons (wCall s_law_kind EE (wCons (wVar 0) (wCons (wLst (wCons (wC (.str "X")) wNil)) (wCons (wC (.int 1)) wNil)))) (wCons (wTup (wCons (wC (.str "unit")) wNil)) wNil)))) (gN 1))
    (wRet (wCall s_law_spread EE (wCons (wVar 1) (wCons (wCall s_law_pick EE (wCons (wVar 0) (wCons (wTup (wCons (wC (.int 500)) (wCons (wC (.int 999)) (wCons (wC (.int 1000)) (wCons (wC (.int 1001)) (wCons (wC (.int 1002)) wNil)))))) wNil))) wNil)))))
def b_law_is_judged (s_law_same s_is_kind s_is_name s_law_is_kind s_law_is_name : SpD) (EE : EK) : WS :=
  (wSeq (wPar 2 3 (wLst (wCons (wCall s_law_is_name EE (wCons (wVar 0) wNil)) (wCons (wCall s_law_is_kind EE (wCons (wVar 0) wNil)) wNil))) (wOpN (on1 oReprE) (wCons (wVar 0) wNil)))
    (wSeq (wAsg (wIfE (wT (wVar 1)) (wLst (wCons (wCallK s_is_name [0] EE (wCons (wVar 0) wNil)) (wCons (wCallK s_is_kind [0] EE (wCons (wVar 0) wNil)) wNil))) (wLst (wCons (wCall s_is_name EE (wCons (wVar 0) wNil)) (wCons (wCall s_is_kind EE (wCons (wVar 0) wNil)) wNil)))) (gN 4))
    (wRet (wAndV (wCall s_law_same EE (wCons (wVar 4) (wCons (wVar 2) wNil))) (wBin oEq (wOpN (on1 oReprE) (wCons (wVar 0) wNil)) (wVar 3))))))
def b_law_is_told (s_law_same s_names_in s_parts_of_kind s_depth_of_kind s_law_measures : SpD) (EE : EK) : WS :=
  (wSeq (wAsg (wCall s_law_measures EE (wCons (wVar 0) wNil)) (DL.gTupN 3 (DL.gCons (gN 1) (DL.gCons (gN 2) (DL.gCons (gN 3) DL.gNil)))))
    (wSeq (wAsg (wLstM wNil) (gN 4))
    (wSeq (DL.wFor (iSeq (wOpN (on1 oSortedN) (wCons (wVar 3) wNil))) (gN 5) (wIf (wT (wBin oNotIn (wVar 5) (wVar 4))) (wExpr (wMtM oAppend (wVar 4) (wCons (wVar 5) wNil))) wSkip))
    (wSeq (wAsg (wLst (wCons (wVar 1) (wCons (wVar 2) (wCons (wOpN (on1 oTuple) (wCons (wVar 4) wNil)) wNil)))) (gN 6))
    (wSeq (wAsg (wLst (wCons (wCallK s_depth_of_kind [0] EE (wCons (wVar 0) wNil)) (wCons (wCallK s_parts_of_kind [0] EE (wCons (wVar 0) wNil)) (wCons (wCallK s_names_in [0] EE (wCons (wVar 0) wNil)) wNil)))) (gN 7))
    (wRet (wAndV (wCall s_law_same EE (wCons (wLst (wCons (wCall s_depth_of_kind EE (wCons (wVar 0) wNil)) (wCons (wCall s_parts_of_kind EE (wCons (wVar 0) wNil)) (wCons (wCall s_names_in EE (wCons (wVar 0) wNil)) wNil)))) (wCons (wVar 6) wNil))) (wCall s_law_same EE (wCons (wVar 7) (wCons (wVar 6) wNil))))))))))
def b_law_names_right (s_law_near_name s_law_is_judged s_law_draw s_law_long_name : SpD) (EE : EK) : WS :=
  (wSeq (wAsg (wCall s_law_long_name EE (wCons (wVar 0) wNil)) (gN 1))
    (wSeq (wAsg (wCall s_law_near_name EE (wCons (wVar 0) (wCons (wVar 1) wNil))) (gN 2))
    (wSeq (DL.wFor (iSeq (wLst (wCons (wVar 1) (wCons (wVar 2) (wCons (wCall s_law_near_name EE (wCons (wVar 0) (wCons (wVar 2) wNil))) (wCons (wTup (wCons (wC (.str "name")) (wCons (wVar 1) wNil))) (wCons (wTup (wCons (wC (.str "name")) (wCons (wVar 2) wNil))) wNil))))))) (gN 3) (wIf (wNot (wT (wCall s_law_is_judged EE (wCons (wVar 3) (wCons (wBin oEq (wCall s_law_draw EE (wCons (wVar 0) (wCons (wC (.int 2)) wNil))) (wC (.int 0))) wNil))))) (wRet (wC (.bool false))) wSkip))
    (wRet (wC (.bool true))))))
def b_law_right (s_law_odd s_law_spoilt s_law_is_judged s_law_draw s_law_is_told s_law_is_kind s_law_names_right s_law_kind s_law_pick s_law_written s_law_long_name s_law_tower s_law_wide : SpD) (EE : EK) : WS :=
  (wSeq (wAsg (wCatM (wLst (wCons (wCall s_law_tower EE (wCons (wVar 0) wNil)) wNil)) (wIfE (wT (wBin oEq (wCall s_law_draw EE (wCons (wVar 0) (wCons (wC (.int 6)) wNil))) (wC (.int 0)))) (wLst (wCons (wCall s_law_wide EE (wCons (wVar 0) wNil)) wNil)) (wLst wNil))) (gN 1))
    (wSeq (DL.wFor (iRng1D (wC (.int 3))) (gN 2) (wSeq (wAsg (wLst (wCons (wCall s_law_long_name EE (wCons (wVar 0) wNil)) (wCons (wCall s_law_written EE (wCons (wVar 0) wNil)) wNil))) (gN 3))
    (wSeq (wExpr (wMtM oAppend (wVar 1) (wCons (wCall s_law_kind EE (wCons (wVar 0) (wCons (wVar 3) (wCons (wCall s_law_pick EE (wCons (wVar 0) (wCons (wTup (wCons (wC (.int 1)) (wCons (wC (.int 2)) (wCons (wC (.int 4)) (wCons (wC (.int 6)) wNil))))) wNil))) wNil)))) wNil)))
    (wIf (wNot (wT (wCall s_law_names_right EE (wCons (wVar 0) wNil)))) (wRet (wC (.bool false))) wSkip))))
    (wSeq (DL.wFor (iSeq (wBin oAdd (wVar 1) (wSl oSl (wVar 1) (wOS (wUn oNeg (wC (.int 1)))) wON))) (gN 4) (wSeq (wIf (wNot (wT (wCall s_law_is_judged EE (wCons (wVar 4) (wCons (wBin oEq (wCall s_law_draw EE (wCons (wVar 0) (wCons (wC (.int 2)) wNil))) (wC (.int 0))) wNil))))) (wRet (wC (.bool false))) wSkip)
    (wSeq (wIf (wAnd (wT (wCall s_law_is_kind EE (wCons (wVar 4) wNil))) (wNot (wT (wCall s_law_is_told EE (wCons (wVar 4) wNil))))) (wRet (wC (.bool false))) wSkip)
    (wSeq (wAsg (wCall s_law_spoilt EE (wCons (wVar 0) (wCons (wVar 4) wNil))) (gN 5))
    (DL.wFor (iSeq (wLst (wCons (wVar 5) (wCons (wCall s_law_spoilt EE (wCons (wVar 0) (wCons (wVar 5) wNil))) (wCons (wCall s_law_odd EE (wCons (wVar 0) wNil)) wNil))))) (gN 6) (wIf (wNot (wT (wCall s_law_is_judged EE (wCons (wVar 6) (wCons (wBin oEq (wCall s_law_draw EE (wCons (wVar 0) (wCons (wC (.int 2)) wNil))) (wC (.int 0))) wNil))))) (wRet (wC (.bool false))) wSkip))))))
    (wRet (wC (.bool true))))))
def b_law (s_law_right s_law_well : SpD) (EE : EK) : WS :=
  (wRet (wOpN (on1 oAll) (wCons (DL.wLc (iRng1D (wOpN (on2 oMax) (wCons (wC (.int 1)) (wCons (wOpN (on2 oMin) (wCons (wUnS oLen (wVar 0)) (wCons (wC (.int 2)) wNil))) wNil)))) (gN 1) wYes (wCall s_law_right EE (wCons (wCall s_law_well EE (wCons (wVar 0) (wCons (wVar 1) wNil))) wNil)) [1]) wNil)))
end DL.K02
/-! text K02D -/
namespace DL.K02
open PySem PySem.Spec PyProof.Rows L2 DL 
/-! ### the text, by places (printed by gen.py) -/
def topS (i : Nat) : Stmt := PySem.Challenge.pw_holekinds_k02_names_and_kinds_of_anythin.main.body.getD i (.Pass ⟨0, 0, 0, 0⟩)
abbrev t_is_written_name : Stmt := topS 9
abbrev n_is_written_name : List Str := ["value", "sign"]
abbrev p_is_written_name : List Str := ["value"]
theorem S_is_written_name : FnScope n_is_written_name p_is_written_name (defScope t_is_written_name) := ⟨rfl, rfl, rfl, by decide +kernel, rfl, by decide +kernel, by decide +kernel⟩
abbrev t_is_named : Stmt := topS 10
abbrev n_is_named : List Str := ["value", "pieces", "each"]
abbrev p_is_named : List Str := ["value"]
theorem S_is_named : FnScope n_is_named p_is_named (defScope t_is_named) := ⟨rfl, rfl, rfl, by decide +kernel, rfl, by decide +kernel, by decide +kernel⟩
abbrev t_is_kind_formed : Stmt := topS 11
abbrev n_is_kind_formed : List Str := ["value", "deep", "each"]
abbrev p_is_kind_formed : List Str := ["value", "deep"]
theorem S_is_kind_formed : FnScope n_is_kind_formed p_is_kind_formed (defScope t_is_kind_formed) := ⟨rfl, rfl, rfl, by decide +kernel, rfl, by decide +kernel, by decide +kernel⟩
abbrev t_kinds_in : Stmt := topS 12
abbrev n_kinds_in : List Str := ["kind"]
abbrev p_kinds_in : List Str := ["kind"]
theorem S_kinds_in : FnScope n_kinds_in p_kinds_in (defScope t_kinds_in) := ⟨rfl, rfl, rfl, by decide +kernel, rfl, by decide +kernel, by decide +kernel⟩
abbrev t_kind_depth : Stmt := topS 13
abbrev n_kind_depth : List Str := ["kind", "each"]
abbrev p_kind_depth : List Str := ["kind"]
theorem S_kind_depth : FnScope n_kind_depth p_kind_depth (defScope t_kind_depth) := ⟨rfl, rfl, rfl, by decide +kernel, rfl, by decide +kernel, by decide +kernel⟩
abbrev t_count_kinds : Stmt := topS 14
abbrev n_count_kinds : List Str := ["kind", "each"]
abbrev p_count_kinds : List Str := ["kind"]
theorem S_count_kinds : FnScope n_count_kinds p_count_kinds (defScope t_count_kinds) := ⟨rfl, rfl, rfl, by decide +kernel, rfl, by decide +kernel, by decide +kernel⟩
abbrev t_is_kinded : Stmt := topS 15
abbrev n_is_kinded : List Str := ["value"]
abbrev p_is_kinded : List Str := ["value"]
theorem S_is_kinded : FnScope n_is_kinded p_is_kinded (defScope t_is_kinded) := ⟨rfl, rfl, rfl, by decide +kernel, rfl, by decide +kernel, by decide +kernel⟩
abbrev t_names_by : Stmt := topS 16
abbrev n_names_by : List Str := ["kind", "found", "each"]
abbrev p_names_by : List Str := ["kind"]
theorem S_names_by : FnScope n_names_by p_names_by (defScope t_names_by) := ⟨rfl, rfl, rfl, by decide +kernel, rfl, by decide +kernel, by decide +kernel⟩
abbrev t_check_kind : Stmt := topS 21
abbrev n_check_kind : List Str := ["value"]
abbrev p_check_kind : List Str := ["value"]
theorem S_check_kind : FnScope n_check_kind p_check_kind (defScope t_check_kind) := ⟨rfl, rfl, rfl, by decide +kernel, rfl, by decide +kernel, by decide +kernel⟩
abbrev t_is_name : Stmt := topS 23
abbrev n_is_name : List Str := ["value"]
abbrev p_is_name : List Str := ["value"]
theorem S_is_name : FnScope n_is_name p_is_name (defScope t_is_name) := ⟨rfl, rfl, rfl, by decide +kernel, rfl, by decide +kernel, by decide +kernel⟩
abbrev t_is_kind : Stmt := topS 24
abbrev n_is_kind : List Str := ["value"]
abbrev p_is_kind : List Str := ["value"]
theorem S_is_kind : FnScope n_is_kind p_is_kind (defScope t_is_kind) := ⟨rfl, rfl, rfl, by decide +kernel, rfl, by decide +kernel, by decide +kernel⟩
abbrev t_depth_of_kind : Stmt := topS 25
abbrev n_depth_of_kind : List Str := ["kind"]
abbrev p_depth_of_kind : List Str := ["kind"]
theorem S_depth_of_kind : FnScope n_depth_of_kind p_depth_of_kind (defScope t_depth_of_kind) := ⟨rfl, rfl, rfl, by decide +kernel, rfl, by decide +kernel, by decide +kernel⟩
abbrev t_parts_of_kind : Stmt := topS 26
abbrev n_parts_of_kind : List Str := ["kind"]
abbrev p_parts_of_kind : List Str := ["kind"]
theorem S_parts_of_kind : FnScope n_parts_of_kind p_parts_of_kind (defScope t_parts_of_kind) := ⟨rfl, rfl, rfl, by decide +kernel, rfl, by decide +kernel, by decide +kernel⟩
abbrev t_names_in : Stmt := topS 27
abbrev n_names_in : List Str := ["kind"]
abbrev p_names_in : List Str := ["kind"]
theorem S_names_in : FnScope n_names_in p_names_in (defScope t_names_in) := ⟨rfl, rfl, rfl, by decide +kernel, rfl, by decide +kernel, by decide +kernel⟩
abbrev t_law_well : Stmt := topS 29
abbrev n_law_well : List Str := ["script", "turn", "mixed", "cell", "own"]
abbrev p_law_well : List Str := ["script", "turn"]
theorem S_law_well : FnScope n_law_well p_law_well (defScope t_law_well) := ⟨rfl, rfl, rfl, by decide +kernel, rfl, by decide +kernel, by decide +kernel⟩
abbrev t_law_draw : Stmt := topS 30
abbrev n_law_draw : List Str := ["well", "many", "figure", "seed"]
abbrev p_law_draw : List Str := ["well", "many"]
theorem S_law_draw : FnScope n_law_draw p_law_draw (defScope t_law_draw) := ⟨rfl, rfl, rfl, by decide +kernel, rfl, by decide +kernel, by decide +kernel⟩
abbrev t_law_pick : Stmt := topS 31
abbrev n_law_pick : List Str := ["well", "some"]
abbrev p_law_pick : List Str := ["well", "some"]
theorem S_law_pick : FnScope n_law_pick p_law_pick (defScope t_law_pick) := ⟨rfl, rfl, rfl, by decide +kernel, rfl, by decide +kernel, by decide +kernel⟩
abbrev t_law_same : Stmt := topS 32
abbrev n_law_same : List Str := ["told", "due"]
abbrev p_law_same : List Str := ["told", "due"]
theorem S_law_same : FnScope n_law_same p_law_same (defScope t_law_same) := ⟨rfl, rfl, rfl, by decide +kernel, rfl, by decide +kernel, by decide +kernel⟩
abbrev t_law_odd : Stmt := topS 33
abbrev n_law_odd : List Str := ["well", "some", "more", "ends", "last"]
abbrev p_law_odd : List Str := ["well"]
theorem S_law_odd : FnScope n_law_odd p_law_odd (defScope t_law_odd) := ⟨rfl, rfl, rfl, by decide +kernel, rfl, by decide +kernel, by decide +kernel⟩
abbrev t_law_written : Stmt := topS 34
abbrev n_law_written : List Str := ["well", "made", "turn"]
abbrev p_law_written : List Str := ["well"]
theorem S_law_written : FnScope n_law_written p_law_written (defScope t_law_written) := ⟨rfl, rfl, rfl, by decide +kernel, rfl, by decide +kernel, by decide +kernel⟩
abbrev t_law_long_name : Stmt := topS 35
abbrev n_law_long_name : List Str := ["well", "made", "turn"]
abbrev p_law_long_name : List Str := ["well"]
theorem S_law_long_name : FnScope n_law_long_name p_law_long_name (defScope t_law_long_name) := ⟨rfl, rfl, rfl, by decide +kernel, rfl, by decide +kernel, by decide +kernel⟩
abbrev t_law_kind : Stmt := topS 36
abbrev n_law_kind : List Str := ["well", "names", "deep", "branch", "one"]
abbrev p_law_kind : List Str := ["well", "names", "deep"]
theorem S_law_kind : FnScope n_law_kind p_law_kind (defScope t_law_kind) := ⟨rfl, rfl, rfl, by decide +kernel, rfl, by decide +kernel, by decide +kernel⟩
abbrev t_law_is_written : Stmt := topS 37
abbrev n_law_is_written : List Str := ["text", "sign"]
abbrev p_law_is_written : List Str := ["text"]
theorem S_law_is_written : FnScope n_law_is_written p_law_is_written (defScope t_law_is_written) := ⟨rfl, rfl, rfl, by decide +kernel, rfl, by decide +kernel, by decide +kernel⟩
abbrev t_law_is_name : Stmt := topS 38
abbrev n_law_is_name : List Str := ["thing", "parts", "wrong", "each"]
abbrev p_law_is_name : List Str := ["thing"]
theorem S_law_is_name : FnScope n_law_is_name p_law_is_name (defScope t_law_is_name) := ⟨rfl, rfl, rfl, by decide +kernel, rfl, by decide +kernel, by decide +kernel⟩
abbrev t_law_is_headed : Stmt := topS 39
abbrev n_law_is_headed : List Str := ["thing", "many", "words"]
abbrev p_law_is_headed : List Str := ["thing", "many", "words"]
theorem S_law_is_headed : FnScope n_law_is_headed p_law_is_headed (defScope t_law_is_headed) := ⟨rfl, rfl, rfl, by decide +kernel, rfl, by decide +kernel, by decide +kernel⟩
abbrev t_law_is_formed : Stmt := topS 40
abbrev n_law_is_formed : List Str := ["thing"]
abbrev p_law_is_formed : List Str := ["thing"]
theorem S_law_is_formed : FnScope n_law_is_formed p_law_is_formed (defScope t_law_is_formed) := ⟨rfl, rfl, rfl, by decide +kernel, rfl, by decide +kernel, by decide +kernel⟩
abbrev t_law_measures : Stmt := topS 41
abbrev n_law_measures : List Str := ["kind", "one", "two"]
abbrev p_law_measures : List Str := ["kind"]
theorem S_law_measures : FnScope n_law_measures p_law_measures (defScope t_law_measures) := ⟨rfl, rfl, rfl, by decide +kernel, rfl, by decide +kernel, by decide +kernel⟩
abbrev t_law_is_kind : Stmt := topS 42
abbrev n_law_is_kind : List Str := ["thing", "found"]
abbrev p_law_is_kind : List Str := ["thing"]
theorem S_law_is_kind : FnScope n_law_is_kind p_law_is_kind (defScope t_law_is_kind) := ⟨rfl, rfl, rfl, by decide +kernel, rfl, by decide +kernel, by decide +kernel⟩
abbrev t_law_bent : Stmt := topS 43
abbrev n_law_bent : List Str := ["well", "thing", "way", "at"]
abbrev p_law_bent : List Str := ["well", "thing"]
theorem S_law_bent : FnScope n_law_bent p_law_bent (defScope t_law_bent) := ⟨rfl, rfl, rfl, by decide +kernel, rfl, by decide +kernel, by decide +kernel⟩
abbrev t_law_spoilt : Stmt := topS 44
abbrev n_law_spoilt : List Str := ["well", "thing", "path", "here", "turn", "at", "whole"]
abbrev p_law_spoilt : List Str := ["well", "thing"]
theorem S_law_spoilt : FnScope n_law_spoilt p_law_spoilt (defScope t_law_spoilt) := ⟨rfl, rfl, rfl, by decide +kernel, rfl, by decide +kernel, by decide +kernel⟩
abbrev t_law_near_name : Stmt := topS 45
abbrev n_law_near_name : List Str := ["well", "name", "at", "way", "sign"]
abbrev p_law_near_name : List Str := ["well", "name"]
theorem S_law_near_name : FnScope n_law_near_name p_law_near_name (defScope t_law_near_name) := ⟨rfl, rfl, rfl, by decide +kernel, rfl, by decide +kernel, by decide +kernel⟩
abbrev t_law_tower : Stmt := topS 46
abbrev n_law_tower : List Str := ["well", "kind", "part", "word", "turn"]
abbrev p_law_tower : List Str := ["well"]
theorem S_law_tower : FnScope n_law_tower p_law_tower (defScope t_law_tower) := ⟨rfl, rfl, rfl, by decide +kernel, rfl, by decide +kernel, by decide +kernel⟩
abbrev t_law_spread : Stmt := topS 47
abbrev n_law_spread : List Str := ["kinds", "many", "one"]
abbrev p_law_spread : List Str := ["kinds", "many"]
theorem S_law_spread : FnScope n_law_spread p_law_spread (defScope t_law_spread) := ⟨rfl, rfl, rfl, by decide +kernel, rfl, by decide +kernel, by decide +kernel⟩
abbrev t_law_wide : Stmt := topS 48
abbrev n_law_wide : List Str := ["well", "kinds"]
abbrev p_law_wide : List Str := ["well"]
theorem S_law_wide : FnScope n_law_wide p_law_wide (defScope t_law_wide) := ⟨rfl, rfl, rfl, by decide +kernel, rfl, by decide +kernel, by decide +kernel⟩
abbrev t_law_is_judged : Stmt := topS 49
abbrev n_law_is_judged : List Str := ["thing", "by_name", "due", "shown", "found"]
abbrev p_law_is_judged : List Str := ["thing", "by_name"]
theorem S_law_is_judged : FnScope n_law_is_judged p_law_is_judged (defScope t_law_is_judged) := ⟨rfl, rfl, rfl, by decide +kernel, rfl, by decide +kernel, by decide +kernel⟩
abbrev t_law_is_told : Stmt := topS 50
abbrev n_law_is_told : List Str := ["kind", "deep", "many", "names", "ascending", "name", "due", "found"]
abbrev p_law_is_told : List Str := ["kind"]
theorem S_law_is_told : FnScope n_law_is_told p_law_is_told (defScope t_law_is_told) := ⟨rfl, rfl, rfl, by decide +kernel, rfl, by decide +kernel, by decide +kernel⟩
abbrev t_law_names_right : Stmt := topS 51
abbrev n_law_names_right : List Str := ["well", "name", "near", "thing"]
abbrev p_law_names_right : List Str := ["well"]
theorem S_law_names_right : FnScope n_law_names_right p_law_names_right (defScope t_law_names_right) := ⟨rfl, rfl, rfl, by decide +kernel, rfl, by decide +kernel, by decide +kernel⟩
abbrev t_law_right : Stmt := topS 52
abbrev n_law_right : List Str := ["well", "kinds", "turn", "names", "kind", "once", "thing"]
abbrev p_law_right : List Str := ["well"]
theorem S_law_right : FnScope n_law_right p_law_right (defScope t_law_right) := ⟨rfl, rfl, rfl, by decide +kernel, rfl, by decide +kernel, by decide +kernel⟩
abbrev t_law : Stmt := topS 53
abbrev n_law : List Str := ["script", "turn"]
abbrev p_law : List Str := ["script"]
theorem S_law : FnScope n_law p_law (defScope t_law) := ⟨rfl, rfl, rfl, by decide +kernel, rfl, by decide +kernel, by decide +kernel⟩
/-- what the top has written -/
structure Txt (K : PySem.W.Frag) (w : World) (mg : Str → Option Value) : Prop where
  f_is_written_name : Fn1 K mg "is_written_name" t_is_written_name
  f_is_named : Fn1 K mg "is_named" t_is_named
  f_is_kind_formed : Fn1 K mg "is_kind_formed" t_is_kind_formed
  f_kinds_in : Fn1 K mg "kinds_in" t_kinds_in
  f_kind_depth : Fn1 K mg "kind_depth" t_kind_depth
  f_count_kinds : Fn1 K mg "count_kinds" t_count_kinds
  f_is_kinded : Fn1 K mg "is_kinded" t_is_kinded
  f_names_by : Fn1 K mg "names_by" t_names_by
  f_check_kind : Fn1 K mg "check_kind" t_check_kind
  f_is_name : Fn1 K mg "is_name" t_is_name
  f_is_kind : Fn1 K mg "is_kind" t_is_kind
  f_depth_of_kind : Fn1 K mg "depth_of_kind" t_depth_of_kind
  f_parts_of_kind : Fn1 K mg "parts_of_kind" t_parts_of_kind
  f_names_in : Fn1 K mg "names_in" t_names_in
  f_law_well : Fn1 K mg "_law_well" t_law_well
  f_law_draw : Fn1 K mg "_law_draw" t_law_draw
  f_law_pick : Fn1 K mg "_law_pick" t_law_pick
  f_law_same : Fn1 K mg "_law_same" t_law_same
  f_law_odd : Fn1 K mg "_law_odd" t_law_odd
  f_law_written : Fn1 K mg "_law_written" t_law_written
  f_law_long_name : Fn1 K mg "_law_long_name" t_law_long_name
  f_law_kind : Fn1 K mg "_law_kind" t_law_kind
  f_law_is_written : Fn1 K mg "_law_is_written" t_law_is_written
  f_law_is_name : Fn1 K mg "_law_is_name" t_law_is_name
  f_law_is_headed : Fn1 K mg "_law_is_headed" t_law_is_headed
  f_law_is_formed : Fn1 K mg "_law_is_formed" t_law_is_formed
  f_law_measures : Fn1 K mg "_law_measures" t_law_measures
  f_law_is_kind : Fn1 K mg "_law_is_kind" t_law_is_kind
  f_law_bent : Fn1 K mg "_law_bent" t_law_bent
  f_law_spoilt : Fn1 K mg "_law_spoilt" t_law_spoilt
  f_law_near_name : Fn1 K mg "_law_near_name" t_law_near_name
  f_law_tower : Fn1 K mg "_law_tower" t_law_tower
  f_law_spread : Fn1 K mg "_law_spread" t_law_spread
  f_law_wide : Fn1 K mg "_law_wide" t_law_wide
  f_law_is_judged : Fn1 K mg "_law_is_judged" t_law_is_judged
  f_law_is_told : Fn1 K mg "_law_is_told" t_law_is_told
  f_law_names_right : Fn1 K mg "_law_names_right" t_law_names_right
  f_law_right : Fn1 K mg "_law_right" t_law_right
  f_law : Fn1 K mg "law" t_law
  no_all : mg "all" = none
  no_len : mg "len" = none
  no_isinstance : mg "isinstance" = none
  no_str : mg "str" = none
  no_tuple : mg "tuple" = none
  no_max : mg "max" = none
  no_sum : mg "sum" = none
  no_sorted : mg "sorted" = none
  no_abs : mg "abs" = none
  no_int : mg "int" = none
  no_divmod : mg "divmod" = none
  no_repr : mg "repr" = none
  no_range : mg "range" = none
  no_list : mg "list" = none
  no_bool : mg "bool" = none
  no_min : mg "min" = none
  k_KIND_SIZES : KDat K w mg "KIND_SIZES" k_KIND_SIZES
  g_SMALL : GlobD K mg "SMALL" g_SMALL
  g_FIGURES : GlobD K mg "FIGURES" g_FIGURES
  g_CAPITALS : GlobD K mg "CAPITALS" g_CAPITALS
  g_MOST_SIGNS : GlobD K mg "MOST_SIGNS" g_MOST_SIGNS
  g_MOST_NAME : GlobD K mg "MOST_NAME" g_MOST_NAME
  g_MOST_PARTS : GlobD K mg "MOST_PARTS" g_MOST_PARTS
  g_MOST_DEEP : GlobD K mg "MOST_DEEP" g_MOST_DEEP
section
variable {P : Program} {w : World} {K : PySem.W.Frag} {mg : Str → Option Value} {base : Heap}
theorem d_is_written_name (T : Txt K w mg) {k : Nat}  (f : Addr) (cdv : Value) (A : Around) (outer : List PySem.Env) (s : Shared) (H : Hp) (E : XK) (EE : EK)
    (hr : Room1 k (A.deeper (envOfC "is_written_name" (defScope t_is_written_name) s.heap.objs.size f cdv))) :
    PSs (cxOf CX0 P w K mg base n_is_written_name "is_written_name" (defScope t_is_written_name) f cdv A outer s H E).nox (defBody t_is_written_name) (tS K mg (b_is_written_name EE)) :=
  (ds_cons (ds_if (PW.pt (dt_or (dt_not (dt_chain do_le do_le de_int (de_len (de_var 0) T.no_len) (de_globD T.g_MOST_SIGNS))) (dt_or1 (dt_cmp (do_notIn (hr.u 300)) (de_ix (hr.u 300) (de_var 0) de_int) (de_globD T.g_CAPITALS))))) (ds_last (ds_ret de_bl)) ds_nil)
    (ds_last (ds_ret (de_all rfl (da_cons (de_lc (own := [("sign", 1)]) rfl S_is_written_name.nd (di_str (de_sl (de_var 0) (dp_s de_int) dp_n)) (by first | rfl | kernel_rfl) (fun _ _ _ _ _ => (dg_name 1 S_is_written_name.nd)) (fun _ _ _ _ _ => dts_nil) (fun _ _ _ _ _ => (de_cmp (do_in (hr.u 300)) (de_var 1) (de_op do_add (de_globD T.g_SMALL) (de_globD T.g_FIGURES))))) da_nil) T.no_all))))
theorem d_is_named (T : Txt K w mg) {k : Nat} {s_is_written_name : SpD} (h_is_written_name : Has P w K mg base k "is_written_name" p_is_written_name s_is_written_name) (f : Addr) (cdv : Value) (A : Around) (outer : List PySem.Env) (s : Shared) (H : Hp) (E : XK) (EE : EK)
    (hr : Room1 k (A.deeper (envOfC "is_named" (defScope t_is_named) s.heap.objs.size f cdv))) :
    PSs (cxOf CX0 P w K mg base n_is_named "is_named" (defScope t_is_named) f cdv A outer s H E).nox (defBody t_is_named) (tS K mg (b_is_named s_is_written_name EE)) :=
  (ds_cons (ds_if (PW.pt (dt_or (dt_not (dt_val (de_isi (T := "str") (by decide) (de_var 0) T.no_isinstance T.no_str PyProof.Rows.boot_str))) (dt_or1 (dt_cmp do_gt (de_len (de_var 0) T.no_len) (de_globD T.g_MOST_NAME))))) (ds_last (ds_ret de_bl)) ds_nil)
    (ds_cons (ds_set 1 S_is_named.nd (de_split (de_var 0) de_str))
    (ds_last (ds_ret (de_and (de_callH h_is_written_name hr (da_cons (de_ix (hr.u 300) (de_var 1) de_int) da_nil)) (de_one (de_all rfl (da_cons (de_lc (own := [("each", 2)]) rfl S_is_named.nd (di_seq (de_sl (de_var 1) (dp_s de_int) dp_n)) (by first | rfl | kernel_rfl) (fun _ _ _ _ _ => (dg_name 2 S_is_named.nd)) (fun _ _ _ _ _ => dts_nil) (fun _ _ _ _ _ => (de_or (de_cmp (do_eq (hr.u 300)) (de_var 2) de_str) (de_one (de_callH h_is_written_name hr (da_cons (de_var 2) da_nil)))))) da_nil) T.no_all)))))))
theorem d_is_kind_formed (T : Txt K w mg) {k : Nat} {s_is_kind_formed s_is_named : SpD} (h_is_kind_formed : Has P w K mg base k "is_kind_formed" p_is_kind_formed s_is_kind_formed) (h_is_named : Has P w K mg base k "is_named" p_is_named s_is_named) (f : Addr) (cdv : Value) (A : Around) (outer : List PySem.Env) (s : Shared) (H : Hp) (E : XK) (EE : EK)
    (hr : Room1 k (A.deeper (envOfC "is_kind_formed" (defScope t_is_kind_formed) s.heap.objs.size f cdv))) :
    PSs (cxOf CX0 P w K mg base n_is_kind_formed "is_kind_formed" (defScope t_is_kind_formed) f cdv A outer s H E).nox (defBody t_is_kind_formed) (tS K mg (b_is_kind_formed s_is_kind_formed s_is_named EE)) :=
  (ds_cons (ds_if (PW.pt (dt_or (dt_cmp (do_eq (hr.u 300)) (de_var 1) de_int) (dt_or (dt_not (dt_val (de_isi (T := "tuple") (by decide) (de_var 0) T.no_isinstance T.no_tuple PyProof.Rows.boot_tuple))) (dt_or (dt_cmp (do_eqE (hr.u 300)) (de_var 0) (de_tup da_nil)) (dt_or1 (dt_not (dt_val (de_isi (T := "str") (by decide) (de_ix (hr.u 300) (de_var 0) de_int) T.no_isinstance T.no_str PyProof.Rows.boot_str)))))))) (ds_last (ds_ret de_bl)) ds_nil)
    (ds_cons (ds_if (dt_cmp (do_eq (hr.u 300)) (de_ix (hr.u 300) (de_var 0) de_int) de_str) (ds_last (ds_ret (de_and (de_cmp (do_eq (hr.u 300)) (de_len (de_var 0) T.no_len) de_int) (de_one (de_callH h_is_named hr (da_cons (de_ix (hr.u 300) (de_var 0) de_int) da_nil)))))) ds_nil)
    (ds_cons (ds_if (PW.pt (dt_or (dt_kNotIn T.k_KIND_SIZES (de_ix (hr.u 300) (de_var 0) de_int)) (dt_or1 (dt_cmp (do_ne (hr.u 300)) (de_len (de_var 0) T.no_len) (de_op do_add de_int (de_kIx T.k_KIND_SIZES (de_ix (hr.u 300) (de_var 0) de_int))))))) (ds_last (ds_ret de_bl)) ds_nil)
    (ds_last (ds_ret (de_all rfl (da_cons (de_lc (own := [("each", 2)]) rfl S_is_kind_formed.nd (di_seq (de_sl (de_var 0) (dp_s de_int) dp_n)) (by first | rfl | kernel_rfl) (fun _ _ _ _ _ => (dg_name 2 S_is_kind_formed.nd)) (fun _ _ _ _ _ => dts_nil) (fun _ _ _ _ _ => (de_callH h_is_kind_formed hr (da_cons (de_var 2) (da_cons (de_op do_sub (de_var 1) de_int) da_nil))))) da_nil) T.no_all))))))
theorem d_kinds_in (T : Txt K w mg) {k : Nat}  (f : Addr) (cdv : Value) (A : Around) (outer : List PySem.Env) (s : Shared) (H : Hp) (E : XK) (EE : EK)
    (hr : Room1 k (A.deeper (envOfC "kinds_in" (defScope t_kinds_in) s.heap.objs.size f cdv))) :
    PSs (cxOf CX0 P w K mg base n_kinds_in "kinds_in" (defScope t_kinds_in) f cdv A outer s H E).nox (defBody t_kinds_in) (tS K mg (b_kinds_in EE)) :=
  (ds_last (ds_ret (de_if (dt_cmp (do_eq (hr.u 300)) (de_ix (hr.u 300) (de_var 0) de_int) de_str) (de_tup da_nil) (de_sl (de_var 0) (dp_s de_int) dp_n))))
theorem d_kind_depth (T : Txt K w mg) {k : Nat} {s_kinds_in s_kind_depth : SpD} (h_kinds_in : Has P w K mg base k "kinds_in" p_kinds_in s_kinds_in) (h_kind_depth : Has P w K mg base k "kind_depth" p_kind_depth s_kind_depth) (f : Addr) (cdv : Value) (A : Around) (outer : List PySem.Env) (s : Shared) (H : Hp) (E : XK) (EE : EK)
    (hr : Room1 k (A.deeper (envOfC "kind_depth" (defScope t_kind_depth) s.heap.objs.size f cdv))) :
    PSs (cxOf CX0 P w K mg base n_kind_depth "kind_depth" (defScope t_kind_depth) f cdv A outer s H E).nox (defBody t_kind_depth) (tS K mg (b_kind_depth s_kinds_in s_kind_depth EE)) :=
  (ds_last (ds_ret (de_op do_add de_int (de_max1 rfl (da_cons (de_op do_add (de_lst (da_cons de_int da_nil)) (de_lc (own := [("each", 1)]) rfl S_kind_depth.nd (di_seq (de_callH h_kinds_in hr (da_cons (de_var 0) da_nil))) (by first | rfl | kernel_rfl) (fun _ _ _ _ _ => (dg_name 1 S_kind_depth.nd)) (fun _ _ _ _ _ => dts_nil) (fun _ _ _ _ _ => (de_callH h_kind_depth hr (da_cons (de_var 1) da_nil))))) da_nil) T.no_max))))
theorem d_count_kinds (T : Txt K w mg) {k : Nat} {s_kinds_in s_count_kinds : SpD} (h_kinds_in : Has P w K mg base k "kinds_in" p_kinds_in s_kinds_in) (h_count_kinds : Has P w K mg base k "count_kinds" p_count_kinds s_count_kinds) (f : Addr) (cdv : Value) (A : Around) (outer : List PySem.Env) (s : Shared) (H : Hp) (E : XK) (EE : EK)
    (hr : Room1 k (A.deeper (envOfC "count_kinds" (defScope t_count_kinds) s.heap.objs.size f cdv))) :
    PSs (cxOf CX0 P w K mg base n_count_kinds "count_kinds" (defScope t_count_kinds) f cdv A outer s H E).nox (defBody t_count_kinds) (tS K mg (b_count_kinds s_kinds_in s_count_kinds EE)) :=
  (ds_last (ds_ret (de_op do_add de_int (de_sum rfl (da_cons (de_lc (own := [("each", 1)]) rfl S_count_kinds.nd (di_seq (de_callH h_kinds_in hr (da_cons (de_var 0) da_nil))) (by first | rfl | kernel_rfl) (fun _ _ _ _ _ => (dg_name 1 S_count_kinds.nd)) (fun _ _ _ _ _ => dts_nil) (fun _ _ _ _ _ => (de_callH h_count_kinds hr (da_cons (de_var 1) da_nil)))) da_nil) T.no_sum))))
theorem d_is_kinded (T : Txt K w mg) {k : Nat} {s_count_kinds s_is_kind_formed : SpD} (h_count_kinds : Has P w K mg base k "count_kinds" p_count_kinds s_count_kinds) (h_is_kind_formed : Has P w K mg base k "is_kind_formed" p_is_kind_formed s_is_kind_formed) (f : Addr) (cdv : Value) (A : Around) (outer : List PySem.Env) (s : Shared) (H : Hp) (E : XK) (EE : EK)
    (hr : Room1 k (A.deeper (envOfC "is_kinded" (defScope t_is_kinded) s.heap.objs.size f cdv))) :
    PSs (cxOf CX0 P w K mg base n_is_kinded "is_kinded" (defScope t_is_kinded) f cdv A outer s H E).nox (defBody t_is_kinded) (tS K mg (b_is_kinded s_count_kinds s_is_kind_formed EE)) :=
  (ds_last (ds_ret (de_and (de_callH h_is_kind_formed hr (da_cons (de_var 0) (da_cons (de_globD T.g_MOST_DEEP) da_nil))) (de_one (de_cmp do_le (de_callH h_count_kinds hr (da_cons (de_var 0) da_nil)) (de_globD T.g_MOST_PARTS))))))
theorem d_names_by (T : Txt K w mg) {k : Nat} {s_kinds_in s_names_by : SpD} (h_kinds_in : Has P w K mg base k "kinds_in" p_kinds_in s_kinds_in) (h_names_by : Has P w K mg base k "names_by" p_names_by s_names_by) (f : Addr) (cdv : Value) (A : Around) (outer : List PySem.Env) (s : Shared) (H : Hp) (E : XK) (EE : EK)
    (hr : Room1 k (A.deeper (envOfC "names_by" (defScope t_names_by) s.heap.objs.size f cdv))) :
    PSs (cxOf CX0 P w K mg base n_names_by "names_by" (defScope t_names_by) f cdv A outer s H E).nox (defBody t_names_by) (tS K mg (b_names_by s_kinds_in s_names_by EE)) :=
  (ds_cons (ds_if (dt_cmp (do_eq (hr.u 300)) (de_ix (hr.u 300) (de_var 0) de_int) de_str) (ds_last (ds_ret (de_disp (dpp_cons (de_ix (hr.u 300) (de_var 0) de_int) de_bl dpp_nil)))) ds_nil)
    (ds_cons (ds_set 1 S_names_by.nd de_dct0)
    (ds_cons (ds_for PassesOwn.never rfl (di_seq (de_callH h_kinds_in hr (da_cons (de_var 0) da_nil))) (dg_name 2 S_names_by.nd) (ds_last (ds_set 1 S_names_by.nd (de_dctS (de_var 1) (de_callH h_names_by hr (da_cons (de_var 2) da_nil))))))
    (ds_last (ds_ret (de_var 1))))))
theorem d_check_kind (T : Txt K w mg) {k : Nat} {s_is_kinded : SpD} (h_is_kinded : Has P w K mg base k "is_kinded" p_is_kinded s_is_kinded) (f : Addr) (cdv : Value) (A : Around) (outer : List PySem.Env) (s : Shared) (H : Hp) (E : XK) (EE : EK)
    (hr : Room1 k (A.deeper (envOfC "check_kind" (defScope t_check_kind) s.heap.objs.size f cdv))) :
    PSs (cxOf CX0 P w K mg base n_check_kind "check_kind" (defScope t_check_kind) f cdv A outer s H E).nox (defBody t_check_kind) (tS K mg (b_check_kind s_is_kinded EE)) :=
  (ds_last (ds_if (dt_not (dt_val (de_callH h_is_kinded hr (da_cons (de_var 0) da_nil)))) (ds_last ds_never) ds_nil))
theorem d_is_name (T : Txt K w mg) {k : Nat} {s_is_named : SpD} (h_is_named : Has P w K mg base k "is_named" p_is_named s_is_named) (f : Addr) (cdv : Value) (A : Around) (outer : List PySem.Env) (s : Shared) (H : Hp) (E : XK) (EE : EK)
    (hr : Room1 k (A.deeper (envOfC "is_name" (defScope t_is_name) s.heap.objs.size f cdv))) :
    PSs (cxOf CX0 P w K mg base n_is_name "is_name" (defScope t_is_name) f cdv A outer s H E).nox (defBody t_is_name) (tS K mg (b_is_name s_is_named EE)) :=
  (ds_last (ds_ret (de_callH h_is_named hr (da_cons (de_var 0) da_nil))))
theorem d_is_kind (T : Txt K w mg) {k : Nat} {s_is_kinded : SpD} (h_is_kinded : Has P w K mg base k "is_kinded" p_is_kinded s_is_kinded) (f : Addr) (cdv : Value) (A : Around) (outer : List PySem.Env) (s : Shared) (H : Hp) (E : XK) (EE : EK)
    (hr : Room1 k (A.deeper (envOfC "is_kind" (defScope t_is_kind) s.heap.objs.size f cdv))) :
    PSs (cxOf CX0 P w K mg base n_is_kind "is_kind" (defScope t_is_kind) f cdv A outer s H E).nox (defBody t_is_kind) (tS K mg (b_is_kind s_is_kinded EE)) :=
  (ds_last (ds_ret (de_callH h_is_kinded hr (da_cons (de_var 0) da_nil))))
theorem d_depth_of_kind (T : Txt K w mg) {k : Nat} {s_kind_depth s_check_kind : SpD} (h_kind_depth : Has P w K mg base k "kind_depth" p_kind_depth s_kind_depth) (h_check_kind : Has P w K mg base k "check_kind" p_check_kind s_check_kind) (f : Addr) (cdv : Value) (A : Around) (outer : List PySem.Env) (s : Shared) (H : Hp) (E : XK) (EE : EK)
    (hr : Room1 k (A.deeper (envOfC "depth_of_kind" (defScope t_depth_of_kind) s.heap.objs.size f cdv))) :
    PSs (cxOf CX0 P w K mg base n_depth_of_kind "depth_of_kind" (defScope t_depth_of_kind) f cdv A outer s H E).nox (defBody t_depth_of_kind) (tS K mg (b_depth_of_kind s_kind_depth s_check_kind EE)) :=
  (ds_cons (ds_expr (de_callH h_check_kind hr (da_cons (de_var 0) da_nil)))
    (ds_last (ds_ret (de_callH h_kind_depth hr (da_cons (de_var 0) da_nil)))))
theorem d_parts_of_kind (T : Txt K w mg) {k : Nat} {s_count_kinds s_check_kind : SpD} (h_count_kinds : Has P w K mg base k "count_kinds" p_count_kinds s_count_kinds) (h_check_kind : Has P w K mg base k "check_kind" p_check_kind s_check_kind) (f : Addr) (cdv : Value) (A : Around) (outer : List PySem.Env) (s : Shared) (H : Hp) (E : XK) (EE : EK)
    (hr : Room1 k (A.deeper (envOfC "parts_of_kind" (defScope t_parts_of_kind) s.heap.objs.size f cdv))) :
    PSs (cxOf CX0 P w K mg base n_parts_of_kind "parts_of_kind" (defScope t_parts_of_kind) f cdv A outer s H E).nox (defBody t_parts_of_kind) (tS K mg (b_parts_of_kind s_count_kinds s_check_kind EE)) :=
  (ds_cons (ds_expr (de_callH h_check_kind hr (da_cons (de_var 0) da_nil)))
    (ds_last (ds_ret (de_callH h_count_kinds hr (da_cons (de_var 0) da_nil)))))
theorem d_names_in (T : Txt K w mg) {k : Nat} {s_names_by s_check_kind : SpD} (h_names_by : Has P w K mg base k "names_by" p_names_by s_names_by) (h_check_kind : Has P w K mg base k "check_kind" p_check_kind s_check_kind) (f : Addr) (cdv : Value) (A : Around) (outer : List PySem.Env) (s : Shared) (H : Hp) (E : XK) (EE : EK)
    (hr : Room1 k (A.deeper (envOfC "names_in" (defScope t_names_in) s.heap.objs.size f cdv))) :
    PSs (cxOf CX0 P w K mg base n_names_in "names_in" (defScope t_names_in) f cdv A outer s H E).nox (defBody t_names_in) (tS K mg (b_names_in s_names_by s_check_kind EE)) :=
  (ds_cons (ds_expr (de_callH h_check_kind hr (da_cons (de_var 0) da_nil)))
    (ds_last (ds_ret (de_tuplec (da_cons (de_sortedN rfl (hr.u 300) (da_cons (de_callH h_names_by hr (da_cons (de_var 0) da_nil)) da_nil) T.no_sorted) da_nil) T.no_tuple))))
theorem d_law_well (T : Txt K w mg) {k : Nat}  (f : Addr) (cdv : Value) (A : Around) (outer : List PySem.Env) (s : Shared) (H : Hp) (E : XK) (EE : EK)
    (hr : Room1 k (A.deeper (envOfC "_law_well" (defScope t_law_well) s.heap.objs.size f cdv))) :
    PSs (cxOf CX0 P w K mg base n_law_well "_law_well" (defScope t_law_well) f cdv A outer s H E).nox (defBody t_law_well) (tS K mg (b_law_well EE)) :=
  (ds_cons (ds_set 2 S_law_well.nd (de_op do_add de_int (de_op do_mul de_int (de_var 1))))
    (ds_cons (ds_for PassesOwn.never rfl (di_seq (de_sl (de_var 0) dp_n (dp_s de_int))) (dg_name 3 S_law_well.nd) (ds_last (ds_set 2 S_law_well.nd (de_op do_mod (de_intc (da_cons (de_op do_add (de_op do_add (de_op do_mul (de_var 2) de_int) (de_op do_mod (de_intc (da_cons (de_var 3) da_nil) T.no_int) de_int)) de_int) da_nil) T.no_int) de_int))))
    (ds_cons (ds_set 4 S_law_well.nd (de_if (dt_cmp do_lt (de_var 1) (de_len (de_var 0) T.no_len)) (de_intc (da_cons (de_ix (hr.u 300) (de_var 0) (de_var 1)) da_nil) T.no_int) de_int))
    (ds_cons (ds_set 2 S_law_well.nd (de_op do_mod (de_intc (da_cons (de_op do_add (de_op do_add (de_op do_mul (de_var 2) de_int) (de_op do_mul (de_op do_mod (de_intc (da_cons (de_var 4) da_nil) T.no_int) de_int) de_int)) de_int) da_nil) T.no_int) de_int))
    (ds_last (ds_ret (de_lstM (da_cons (de_if (PW.pt (dt_or (dt_cmp do_lt (de_var 4) de_int) (dt_or1 (dt_cmp do_ge (de_var 4) (de_op do_pow de_int de_int))))) (de_abs (da_cons (de_var 4) da_nil) T.no_abs) de_int) (da_cons (de_var 2) (da_cons de_int da_nil))))))))))
theorem d_law_draw (T : Txt K w mg) {k : Nat}  (f : Addr) (cdv : Value) (A : Around) (outer : List PySem.Env) (s : Shared) (H : Hp) (E : XK) (EE : EK)
    (hr : Room1 k (A.deeper (envOfC "_law_draw" (defScope t_law_draw) s.heap.objs.size f cdv))) :
    PSs (cxOf CX0 P w K mg base n_law_draw "_law_draw" (defScope t_law_draw) f cdv A outer s H E).nox (defBody t_law_draw) (tS K mg (b_law_draw EE)) :=
  (ds_cons (ds_if (dt_cmp do_gt (de_ix (hr.u 300) (de_var 0) de_int) de_int) (ds_cons (ds_asg (de_divmod (da_cons (de_ix (hr.u 300) (de_var 0) de_int) (da_cons (de_var 1) da_nil)) T.no_divmod) (dg_tupN rfl (dgs_cons (dg_sub (hr.u 300) (de_var 0) de_int) (dgs_cons (dg_name 2 S_law_draw.nd) dgs_nil))))
    (ds_last (ds_ret (de_var 2)))) ds_nil)
    (ds_cons (ds_asg (de_op do_add (de_ix (hr.u 300) (de_var 0) de_int) de_int) (dg_sub (hr.u 300) (de_var 0) de_int))
    (ds_cons (ds_set 3 S_law_draw.nd (de_op do_mod (de_intc (da_cons (de_op do_add (de_ix (hr.u 300) (de_var 0) de_int) (de_op do_mul de_int (de_ix (hr.u 300) (de_var 0) de_int))) da_nil) T.no_int) de_int))
    (ds_cons (ds_asg (de_op do_mod (de_intc (da_cons (de_op do_add (de_op do_mul (de_var 3) (de_op do_add (de_op do_mod (de_intc (da_cons (de_var 3) da_nil) T.no_int) de_int) de_int)) (de_op do_mul de_int (de_ix (hr.u 300) (de_var 0) de_int))) da_nil) T.no_int) de_int) (dg_sub (hr.u 300) (de_var 0) de_int))
    (ds_last (ds_ret (de_op do_mod (de_intc (da_cons (de_op do_div (de_ix (hr.u 300) (de_var 0) de_int) de_int) da_nil) T.no_int) (de_var 1))))))))
theorem d_law_pick (T : Txt K w mg) {k : Nat} {s_law_draw : SpD} (h_law_draw : Has P w K mg base k "_law_draw" p_law_draw s_law_draw) (f : Addr) (cdv : Value) (A : Around) (outer : List PySem.Env) (s : Shared) (H : Hp) (E : XK) (EE : EK)
    (hr : Room1 k (A.deeper (envOfC "_law_pick" (defScope t_law_pick) s.heap.objs.size f cdv))) :
    PSs (cxOf CX0 P w K mg base n_law_pick "_law_pick" (defScope t_law_pick) f cdv A outer s H E).nox (defBody t_law_pick) (tS K mg (b_law_pick s_law_draw EE)) :=
  (ds_last (ds_ret (de_ix (hr.u 300) (de_var 1) (de_callH h_law_draw hr (da_cons (de_var 0) (da_cons (de_len (de_var 1) T.no_len) da_nil))))))
theorem d_law_same (T : Txt K w mg) {k : Nat}  (f : Addr) (cdv : Value) (A : Around) (outer : List PySem.Env) (s : Shared) (H : Hp) (E : XK) (EE : EK)
    (hr : Room1 k (A.deeper (envOfC "_law_same" (defScope t_law_same) s.heap.objs.size f cdv))) :
    PSs (cxOf CX0 P w K mg base n_law_same "_law_same" (defScope t_law_same) f cdv A outer s H E).nox (defBody t_law_same) (tS K mg (b_law_same EE)) :=
  (ds_last (ds_ret (de_cmp (do_eq (hr.u 300)) (de_reprE (hr.u 300) hr.gd (da_cons (de_var 0) da_nil) T.no_repr) (de_reprE (hr.u 300) hr.gd (da_cons (de_var 1) da_nil) T.no_repr))))
theorem d_law_odd (T : Txt K w mg) {k : Nat} {s_law_pick : SpD} (h_law_pick : Has P w K mg base k "_law_pick" p_law_pick s_law_pick) (f : Addr) (cdv : Value) (A : Around) (outer : List PySem.Env) (s : Shared) (H : Hp) (E : XK) (EE : EK)
    (hr : Room1 k (A.deeper (envOfC "_law_odd" (defScope t_law_odd) s.heap.objs.size f cdv))) :
    PSs (cxOf CX0 P w K mg base n_law_odd "_law_odd" (defScope t_law_odd) f cdv A outer s H E).nox (defBody t_law_odd) (tS K mg (b_law_odd s_law_pick EE)) :=
  (ds_cons (ds_set 1 S_law_odd.nd (de_tup (da_cons de_non (da_cons de_bl (da_cons de_bl (da_cons de_int (da_cons de_int (da_cons (de_un do_neg de_int) (da_cons de_int (da_cons (de_op do_pow de_int de_int) (da_cons de_str (da_cons de_str (da_cons de_str (da_cons de_str (da_cons de_str (da_cons de_str (da_cons de_str (da_cons (de_tup da_nil) (da_cons (de_tup (da_cons de_int da_nil)) da_nil)))))))))))))))))))
    (ds_cons (ds_set 2 S_law_odd.nd (de_tup (da_cons (de_tup (da_cons de_str da_nil)) (da_cons (de_tup (da_cons de_str (da_cons (de_tup da_nil) da_nil))) (da_cons (de_tup (da_cons de_str da_nil)) (da_cons (de_tup (da_cons de_str (da_cons de_str da_nil))) (da_cons (de_tup (da_cons de_str (da_cons de_str da_nil))) (da_cons (de_tup (da_cons de_str (da_cons de_int da_nil))) (da_cons (de_tup (da_cons de_str (da_cons (de_tup (da_cons de_str da_nil)) da_nil))) da_nil)))))))))
    (ds_cons (ds_set 3 S_law_odd.nd (de_tup (da_cons (de_tup (da_cons de_str (da_cons de_int (da_cons de_int da_nil)))) (da_cons (de_tup (da_cons de_str (da_cons (de_tup (da_cons de_str da_nil)) (da_cons (de_tup (da_cons de_str da_nil)) da_nil)))) (da_cons (de_tup (da_cons de_str (da_cons (de_tup da_nil) da_nil))) (da_cons (de_tup (da_cons de_str (da_cons de_bl da_nil))) (da_cons (de_lst da_nil) (da_cons (de_lst (da_cons de_str da_nil)) (da_cons de_dct0 (da_cons (de_tup (da_cons (de_tup da_nil) da_nil)) da_nil))))))))))
    (ds_cons (ds_set 4 S_law_odd.nd (de_tup (da_cons (de_tup (da_cons de_int (da_cons de_int da_nil))) (da_cons (de_tup (da_cons de_int (da_cons de_bl da_nil))) (da_cons (de_tup (da_cons de_str da_nil)) (da_cons (de_tup (da_cons de_str (da_cons de_int da_nil))) (da_cons (de_tup (da_cons (de_tup (da_cons de_str (da_cons (de_tup (da_cons de_str da_nil)) da_nil))) da_nil)) (da_cons (de_tup (da_cons (de_tup (da_cons de_str da_nil)) da_nil)) (da_cons (de_tup (da_cons de_non da_nil)) (da_cons (de_tup (da_cons de_str (da_cons de_int (da_cons de_int da_nil)))) da_nil))))))))))
    (ds_last (ds_ret (de_callH h_law_pick hr (da_cons (de_var 0) (da_cons (de_op do_add (de_op do_add (de_op do_add (de_var 1) (de_var 2)) (de_var 3)) (de_var 4)) da_nil)))))))))
theorem d_law_written (T : Txt K w mg) {k : Nat} {s_law_pick s_law_draw : SpD} (h_law_pick : Has P w K mg base k "_law_pick" p_law_pick s_law_pick) (h_law_draw : Has P w K mg base k "_law_draw" p_law_draw s_law_draw) (f : Addr) (cdv : Value) (A : Around) (outer : List PySem.Env) (s : Shared) (H : Hp) (E : XK) (EE : EK)
    (hr : Room1 k (A.deeper (envOfC "_law_written" (defScope t_law_written) s.heap.objs.size f cdv))) :
    PSs (cxOf CX0 P w K mg base n_law_written "_law_written" (defScope t_law_written) f cdv A outer s H E).nox (defBody t_law_written) (tS K mg (b_law_written s_law_pick s_law_draw EE)) :=
  (ds_cons (ds_if (dt_cmp (do_eq (hr.u 300)) (de_callH h_law_draw hr (da_cons (de_var 0) (da_cons de_int da_nil))) de_int) (ds_last (ds_ret (de_callH h_law_pick hr (da_cons (de_var 0) (da_cons (de_tup (da_cons de_str (da_cons de_str (da_cons de_str (da_cons de_str (da_cons de_str (da_cons de_str (da_cons de_str (da_cons de_str da_nil))))))))) da_nil))))) ds_nil)
    (ds_cons (ds_set 1 S_law_written.nd (de_callH h_law_pick hr (da_cons (de_var 0) (da_cons de_str da_nil))))
    (ds_cons (ds_for PassesOwn.never rfl (di_rng1 (de_callH h_law_pick hr (da_cons (de_var 0) (da_cons (de_tup (da_cons de_int (da_cons de_int (da_cons de_int (da_cons de_int (da_cons de_int (da_cons de_int (da_cons de_int da_nil)))))))) da_nil))) T.no_range) (dg_name 2 S_law_written.nd) (ds_last (ds_set 1 S_law_written.nd (de_op do_add (de_var 1) (de_callH h_law_pick hr (da_cons (de_var 0) (da_cons de_str da_nil)))))))
    (ds_last (ds_ret (de_var 1))))))
theorem d_law_long_name (T : Txt K w mg) {k : Nat} {s_law_draw s_law_pick s_law_written : SpD} (h_law_draw : Has P w K mg base k "_law_draw" p_law_draw s_law_draw) (h_law_pick : Has P w K mg base k "_law_pick" p_law_pick s_law_pick) (h_law_written : Has P w K mg base k "_law_written" p_law_written s_law_written) (f : Addr) (cdv : Value) (A : Around) (outer : List PySem.Env) (s : Shared) (H : Hp) (E : XK) (EE : EK)
    (hr : Room1 k (A.deeper (envOfC "_law_long_name" (defScope t_law_long_name) s.heap.objs.size f cdv))) :
    PSs (cxOf CX0 P w K mg base n_law_long_name "_law_long_name" (defScope t_law_long_name) f cdv A outer s H E).nox (defBody t_law_long_name) (tS K mg (b_law_long_name s_law_draw s_law_pick s_law_written EE)) :=
  (ds_cons (ds_set 1 S_law_long_name.nd (de_callH h_law_written hr (da_cons (de_var 0) da_nil)))
    (ds_cons (ds_for PassesOwn.never rfl (di_rng1 (de_callH h_law_pick hr (da_cons (de_var 0) (da_cons (de_tup (da_cons de_int (da_cons de_int (da_cons de_int (da_cons de_int (da_cons de_int (da_cons de_int da_nil))))))) da_nil))) T.no_range) (dg_name 2 S_law_long_name.nd) (ds_last (ds_set 1 S_law_long_name.nd (de_op do_add (de_op do_add (de_var 1) de_str) (de_if (dt_cmp (do_eq (hr.u 300)) (de_callH h_law_draw hr (da_cons (de_var 0) (da_cons de_int da_nil))) de_int) (de_callH h_law_written hr (da_cons (de_var 0) da_nil)) de_str)))))
    (ds_last (ds_ret (de_if (PW.pt (dt_and (dt_cmp (do_eq (hr.u 300)) (de_callH h_law_draw hr (da_cons (de_var 0) (da_cons de_int da_nil))) de_int) (dt_and1 (dt_cmp do_lt (de_len (de_var 1) T.no_len) de_int)))) (de_op do_add (de_var 1) (de_op do_mulS de_str (de_op do_sub de_int (de_len (de_var 1) T.no_len)))) (de_var 1))))))
theorem d_law_kind (T : Txt K w mg) {k : Nat} {s_law_kind s_law_pick s_law_draw : SpD} (h_law_kind : Has P w K mg base k "_law_kind" p_law_kind s_law_kind) (h_law_pick : Has P w K mg base k "_law_pick" p_law_pick s_law_pick) (h_law_draw : Has P w K mg base k "_law_draw" p_law_draw s_law_draw) (f : Addr) (cdv : Value) (A : Around) (outer : List PySem.Env) (s : Shared) (H : Hp) (E : XK) (EE : EK)
    (hr : Room1 k (A.deeper (envOfC "_law_kind" (defScope t_law_kind) s.heap.objs.size f cdv))) :
    PSs (cxOf CX0 P w K mg base n_law_kind "_law_kind" (defScope t_law_kind) f cdv A outer s H E).nox (defBody t_law_kind) (tS K mg (b_law_kind s_law_kind s_law_pick s_law_draw EE)) :=
  (ds_cons (ds_set 3 S_law_kind.nd (de_if (dt_cmp do_gt (de_var 2) de_int) (de_callH h_law_draw hr (da_cons (de_var 0) (da_cons de_int da_nil))) (de_callH h_law_draw hr (da_cons (de_var 0) (da_cons de_int da_nil)))))
    (ds_cons (ds_if (PW.pt (dt_and (dt_cmp do_lt (de_var 3) de_int) (dt_and1 (dt_cmp do_gt (de_len (de_var 1) T.no_len) de_int)))) (ds_last (ds_ret (de_tup (da_cons de_str (da_cons (de_callH h_law_pick hr (da_cons (de_var 0) (da_cons (de_var 1) da_nil))) da_nil))))) ds_nil)
    (ds_cons (ds_if (dt_cmp do_lt (de_var 3) de_int) (ds_last (ds_ret (de_tup (da_cons (de_if (dt_cmp (do_eq (hr.u 300)) (de_var 3) de_int) (de_callH h_law_pick hr (da_cons (de_var 0) (da_cons (de_tup (da_cons de_str (da_cons de_str (da_cons de_str (da_cons de_str da_nil))))) da_nil))) de_str) da_nil)))) ds_nil)
    (ds_cons (ds_set 4 S_law_kind.nd (de_callH h_law_kind hr (da_cons (de_var 0) (da_cons (de_var 1) (da_cons (de_op do_sub (de_var 2) de_int) da_nil)))))
    (ds_last (ds_ret (de_tup (da_cons (de_if (dt_cmp do_lt (de_var 3) de_int) de_str de_str) (da_cons (de_var 4) (da_cons (de_callH h_law_kind hr (da_cons (de_var 0) (da_cons (de_var 1) (da_cons (de_op do_sub (de_var 2) de_int) da_nil)))) da_nil))))))))))
theorem d_law_is_written (T : Txt K w mg) {k : Nat}  (f : Addr) (cdv : Value) (A : Around) (outer : List PySem.Env) (s : Shared) (H : Hp) (E : XK) (EE : EK)
    (hr : Room1 k (A.deeper (envOfC "_law_is_written" (defScope t_law_is_written) s.heap.objs.size f cdv))) :
    PSs (cxOf CX0 P w K mg base n_law_is_written "_law_is_written" (defScope t_law_is_written) f cdv A outer s H E).nox (defBody t_law_is_written) (tS K mg (b_law_is_written EE)) :=
  (ds_cons (ds_if (PW.pt (dt_or (dt_cmp do_lt (de_len (de_var 0) T.no_len) de_int) (dt_or (dt_cmp do_gt (de_len (de_var 0) T.no_len) de_int) (dt_or1 (dt_cmp (do_notIn (hr.u 300)) (de_ix (hr.u 300) (de_var 0) de_int) de_str))))) (ds_last (ds_ret de_bl)) ds_nil)
    (ds_last (ds_ret (de_cmp (do_eq (hr.u 300)) (de_lc (own := [("sign", 1)]) rfl S_law_is_written.nd (di_str (de_sl (de_var 0) (dp_s de_int) dp_n)) (by first | rfl | kernel_rfl) (fun _ _ _ _ _ => (dg_name 1 S_law_is_written.nd)) (fun _ _ _ _ _ => (dts_one (dt_cmp (do_notIn (hr.u 300)) (de_var 1) de_str))) (fun _ _ _ _ _ => (de_var 1))) (de_lst da_nil)))))
theorem d_law_is_name (T : Txt K w mg) {k : Nat} {s_law_is_written : SpD} (h_law_is_written : Has P w K mg base k "_law_is_written" p_law_is_written s_law_is_written) (f : Addr) (cdv : Value) (A : Around) (outer : List PySem.Env) (s : Shared) (H : Hp) (E : XK) (EE : EK)
    (hr : Room1 k (A.deeper (envOfC "_law_is_name" (defScope t_law_is_name) s.heap.objs.size f cdv))) :
    PSs (cxOf CX0 P w K mg base n_law_is_name "_law_is_name" (defScope t_law_is_name) f cdv A outer s H E).nox (defBody t_law_is_name) (tS K mg (b_law_is_name s_law_is_written EE)) :=
  (ds_cons (ds_if (PW.pt (dt_or (dt_not (dt_val (de_isi (T := "str") (by decide) (de_var 0) T.no_isinstance T.no_str PyProof.Rows.boot_str))) (dt_or1 (dt_cmp do_gt (de_len (de_var 0) T.no_len) de_int)))) (ds_last (ds_ret de_bl)) ds_nil)
    (ds_cons (ds_set 1 S_law_is_name.nd (de_split (de_var 0) de_str))
    (ds_cons (ds_setLc (i := 2) (own := [("each", 3)]) rfl S_law_is_name.nd (di_seq (de_sl (de_var 1) (dp_s de_int) dp_n)) (by first | rfl | kernel_rfl) (fun _ _ _ _ _ => (dg_name 3 S_law_is_name.nd)) (fun _ _ _ _ _ => (dts_one (PW.pt (dt_and (dt_cmp (do_ne (hr.u 300)) (de_var 3) de_str) (dt_and1 (dt_not (dt_val (de_callH h_law_is_written hr (da_cons (de_var 3) da_nil))))))))) (fun _ _ _ _ _ => (de_var 3)) (sw_true rfl rfl rfl (by decide +kernel)))
    (ds_last (ds_ret (de_and (de_callH h_law_is_written hr (da_cons (de_ix (hr.u 300) (de_var 1) de_int) da_nil)) (de_one (de_cmp (do_eq (hr.u 300)) (de_var 2) (de_lst da_nil)))))))))
theorem d_law_is_headed (T : Txt K w mg) {k : Nat}  (f : Addr) (cdv : Value) (A : Around) (outer : List PySem.Env) (s : Shared) (H : Hp) (E : XK) (EE : EK)
    (hr : Room1 k (A.deeper (envOfC "_law_is_headed" (defScope t_law_is_headed) s.heap.objs.size f cdv))) :
    PSs (cxOf CX0 P w K mg base n_law_is_headed "_law_is_headed" (defScope t_law_is_headed) f cdv A outer s H E).nox (defBody t_law_is_headed) (tS K mg (b_law_is_headed EE)) :=
  (ds_cons (ds_if (PW.pt (dt_or (dt_not (dt_val (de_isi (T := "tuple") (by decide) (de_var 0) T.no_isinstance T.no_tuple PyProof.Rows.boot_tuple))) (dt_or1 (dt_cmp (do_ne (hr.u 300)) (de_len (de_var 0) T.no_len) (de_var 1))))) (ds_last (ds_ret de_bl)) ds_nil)
    (ds_last (ds_ret (de_and (de_isi (T := "str") (by decide) (de_ix (hr.u 300) (de_var 0) de_int) T.no_isinstance T.no_str PyProof.Rows.boot_str) (de_one (de_cmp (do_in (hr.u 300)) (de_ix (hr.u 300) (de_var 0) de_int) (de_var 2)))))))
theorem d_law_is_formed (T : Txt K w mg) {k : Nat} {s_law_is_name s_law_is_headed s_law_is_formed : SpD} (h_law_is_name : Has P w K mg base k "_law_is_name" p_law_is_name s_law_is_name) (h_law_is_headed : Has P w K mg base k "_law_is_headed" p_law_is_headed s_law_is_headed) (h_law_is_formed : Has P w K mg base k "_law_is_formed" p_law_is_formed s_law_is_formed) (f : Addr) (cdv : Value) (A : Around) (outer : List PySem.Env) (s : Shared) (H : Hp) (E : XK) (EE : EK)
    (hr : Room1 k (A.deeper (envOfC "_law_is_formed" (defScope t_law_is_formed) s.heap.objs.size f cdv))) :
    PSs (cxOf CX0 P w K mg base n_law_is_formed "_law_is_formed" (defScope t_law_is_formed) f cdv A outer s H E).nox (defBody t_law_is_formed) (tS K mg (b_law_is_formed s_law_is_name s_law_is_headed s_law_is_formed EE)) :=
  (ds_cons (ds_if (dt_val (de_callH h_law_is_headed hr (da_cons (de_var 0) (da_cons de_int (da_cons (de_tup (da_cons de_str (da_cons de_str (da_cons de_str da_nil)))) da_nil))))) (ds_last (ds_ret de_bl)) ds_nil)
    (ds_cons (ds_if (dt_val (de_callH h_law_is_headed hr (da_cons (de_var 0) (da_cons de_int (da_cons (de_tup (da_cons de_str (da_cons de_str da_nil))) da_nil))))) (ds_last (ds_ret (de_and (de_callH h_law_is_formed hr (da_cons (de_ix (hr.u 300) (de_var 0) de_int) da_nil)) (de_one (de_callH h_law_is_formed hr (da_cons (de_ix (hr.u 300) (de_var 0) de_int) da_nil)))))) ds_nil)
    (ds_last (ds_ret (de_and (de_callH h_law_is_headed hr (da_cons (de_var 0) (da_cons de_int (da_cons (de_tup (da_cons de_str da_nil)) da_nil)))) (de_one (de_callH h_law_is_name hr (da_cons (de_ix (hr.u 300) (de_var 0) de_int) da_nil))))))))
theorem d_law_measures (T : Txt K w mg) {k : Nat} {s_law_measures : SpD} (h_law_measures : Has P w K mg base k "_law_measures" p_law_measures s_law_measures) (f : Addr) (cdv : Value) (A : Around) (outer : List PySem.Env) (s : Shared) (H : Hp) (E : XK) (EE : EK)
    (hr : Room1 k (A.deeper (envOfC "_law_measures" (defScope t_law_measures) s.heap.objs.size f cdv))) :
    PSs (cxOf CX0 P w K mg base n_law_measures "_law_measures" (defScope t_law_measures) f cdv A outer s H E).nox (defBody t_law_measures) (tS K mg (b_law_measures s_law_measures EE)) :=
  (ds_cons (ds_if (dt_cmp (do_notIn (hr.u 300)) (de_ix (hr.u 300) (de_var 0) de_int) (de_tup (da_cons de_str (da_cons de_str da_nil)))) (ds_last (ds_ret (de_tup (da_cons de_int (da_cons de_int (da_cons (de_if (dt_cmp (do_eq (hr.u 300)) (de_ix (hr.u 300) (de_var 0) de_int) de_str) (de_lst (da_cons (de_ix (hr.u 300) (de_var 0) de_int) da_nil)) (de_lst da_nil)) da_nil)))))) ds_nil)
    (ds_cons (ds_par 1 2 rfl S_law_measures.nd (de_callH h_law_measures hr (da_cons (de_ix (hr.u 300) (de_var 0) de_int) da_nil)) (de_callH h_law_measures hr (da_cons (de_ix (hr.u 300) (de_var 0) de_int) da_nil)) rfl)
    (ds_last (ds_ret (de_tup (da_cons (de_op do_add (de_max2 rfl (da_cons (de_ix (hr.u 300) (de_var 1) de_int) (da_cons (de_ix (hr.u 300) (de_var 2) de_int) da_nil)) T.no_max) de_int) (da_cons (de_op do_add (de_op do_add (de_ix (hr.u 300) (de_var 1) de_int) (de_ix (hr.u 300) (de_var 2) de_int)) de_int) (da_cons (de_op do_add (de_ix (hr.u 300) (de_var 1) de_int) (de_ix (hr.u 300) (de_var 2) de_int)) da_nil))))))))
theorem d_law_is_kind (T : Txt K w mg) {k : Nat} {s_law_measures s_law_is_formed : SpD} (h_law_measures : Has P w K mg base k "_law_measures" p_law_measures s_law_measures) (h_law_is_formed : Has P w K mg base k "_law_is_formed" p_law_is_formed s_law_is_formed) (f : Addr) (cdv : Value) (A : Around) (outer : List PySem.Env) (s : Shared) (H : Hp) (E : XK) (EE : EK)
    (hr : Room1 k (A.deeper (envOfC "_law_is_kind" (defScope t_law_is_kind) s.heap.objs.size f cdv))) :
    PSs (cxOf CX0 P w K mg base n_law_is_kind "_law_is_kind" (defScope t_law_is_kind) f cdv A outer s H E).nox (defBody t_law_is_kind) (tS K mg (b_law_is_kind s_law_measures s_law_is_formed EE)) :=
  (ds_cons (ds_if (dt_not (dt_val (de_callH h_law_is_formed hr (da_cons (de_var 0) da_nil)))) (ds_last (ds_ret de_bl)) ds_nil)
    (ds_cons (ds_set 1 S_law_is_kind.nd (de_callH h_law_measures hr (da_cons (de_var 0) da_nil)))
    (ds_last (ds_ret (de_and (de_cmp do_le (de_ix (hr.u 300) (de_var 1) de_int) de_int) (de_one (de_cmp do_le (de_ix (hr.u 300) (de_var 1) de_int) de_int)))))))
theorem d_law_bent (T : Txt K w mg) {k : Nat} {s_law_odd s_law_draw s_law_pick : SpD} (h_law_odd : Has P w K mg base k "_law_odd" p_law_odd s_law_odd) (h_law_draw : Has P w K mg base k "_law_draw" p_law_draw s_law_draw) (h_law_pick : Has P w K mg base k "_law_pick" p_law_pick s_law_pick) (f : Addr) (cdv : Value) (A : Around) (outer : List PySem.Env) (s : Shared) (H : Hp) (E : XK) (EE : EK)
    (hr : Room1 k (A.deeper (envOfC "_law_bent" (defScope t_law_bent) s.heap.objs.size f cdv))) :
    PSs (cxOf CX0 P w K mg base n_law_bent "_law_bent" (defScope t_law_bent) f cdv A outer s H E).nox (defBody t_law_bent) (tS K mg (b_law_bent s_law_odd s_law_draw s_law_pick EE)) :=
  (ds_cons (ds_set 2 S_law_bent.nd (de_callH h_law_draw hr (da_cons (de_var 0) (da_cons de_int da_nil))))
    (ds_cons (ds_if (PW.pt (dt_and (dt_cmp do_lt (de_var 2) de_int) (dt_and (dt_val (de_isi (T := "int") (by decide) (de_var 1) T.no_isinstance T.no_int PyProof.Rows.boot_int)) (dt_and1 (dt_not (dt_val (de_isi (T := "bool") (by decide) (de_var 1) T.no_isinstance T.no_bool PyProof.Rows.boot_bool))))))) (ds_last (ds_ret (de_op do_sub (de_op do_add (de_var 1) (de_op do_mul de_int (de_var 2))) de_int))) ds_nil)
    (ds_cons (ds_if (PW.pt (dt_and (dt_cmp do_lt (de_var 2) de_int) (dt_and1 (dt_val (de_isi (T := "str") (by decide) (de_var 1) T.no_isinstance T.no_str PyProof.Rows.boot_str))))) (ds_last (ds_ret (de_callH h_law_pick hr (da_cons (de_var 0) (da_cons (de_tup (da_cons de_str (da_cons de_str (da_cons de_str (da_cons de_str (da_cons de_str (da_cons de_str (da_cons de_str (da_cons de_str (da_cons (de_op do_add (de_var 1) de_str) da_nil)))))))))) da_nil))))) ds_nil)
    (ds_cons (ds_if (PW.pt (dt_or (dt_cmp do_lt (de_var 2) de_int) (dt_or (dt_not (dt_val (de_isi (T := "tuple") (by decide) (de_var 1) T.no_isinstance T.no_tuple PyProof.Rows.boot_tuple))) (dt_or1 (dt_cmp (do_eq (hr.u 300)) (de_len (de_var 1) T.no_len) de_int))))) (ds_last (ds_ret (de_callH h_law_odd hr (da_cons (de_var 0) da_nil)))) ds_nil)
    (ds_cons (ds_set 3 S_law_bent.nd (de_callH h_law_draw hr (da_cons (de_var 0) (da_cons (de_len (de_var 1) T.no_len) da_nil))))
    (ds_cons (ds_if (dt_cmp (do_eq (hr.u 300)) (de_var 2) de_int) (ds_last (ds_ret (de_op do_add (de_sl (de_var 1) dp_n (dp_s (de_var 3))) (de_sl (de_var 1) (dp_s (de_op do_add (de_var 3) de_int)) dp_n)))) ds_nil)
    (ds_cons (ds_if (dt_cmp (do_eq (hr.u 300)) (de_var 2) de_int) (ds_last (ds_ret (de_op do_add (de_op do_add (de_sl (de_var 1) dp_n (dp_s (de_var 3))) (de_tup (da_cons (de_ix (hr.u 300) (de_var 1) (de_var 3)) da_nil))) (de_sl (de_var 1) (dp_s (de_var 3)) dp_n)))) ds_nil)
    (ds_cons (ds_if (dt_cmp (do_eq (hr.u 300)) (de_var 2) de_int) (ds_last (ds_ret (de_op do_add (de_var 1) (de_tup (da_cons (de_callH h_law_odd hr (da_cons (de_var 0) da_nil)) da_nil))))) ds_nil)
    (ds_last (ds_ret (de_if (dt_cmp (do_eq (hr.u 300)) (de_var 2) de_int) (de_rev (de_var 1)) (de_list (da_cons (de_var 1) da_nil) T.no_list))))))))))))
theorem d_law_spoilt (T : Txt K w mg) {k : Nat} {s_law_bent s_law_draw : SpD} (h_law_bent : Has P w K mg base k "_law_bent" p_law_bent s_law_bent) (h_law_draw : Has P w K mg base k "_law_draw" p_law_draw s_law_draw) (f : Addr) (cdv : Value) (A : Around) (outer : List PySem.Env) (s : Shared) (H : Hp) (E : XK) (EE : EK)
    (hr : Room1 k (A.deeper (envOfC "_law_spoilt" (defScope t_law_spoilt) s.heap.objs.size f cdv))) :
    PSs (cxOf CX0 P w K mg base n_law_spoilt "_law_spoilt" (defScope t_law_spoilt) f cdv A outer s H E).nox (defBody t_law_spoilt) (tS K mg (b_law_spoilt s_law_bent s_law_draw EE)) :=
  (ds_cons (ds_par 2 3 rfl S_law_spoilt.nd (de_lstM da_nil) (de_var 1) rfl)
    (ds_cons (ds_for PassesOwn.never rfl (di_rng1 (de_callH h_law_draw hr (da_cons (de_var 0) (da_cons de_int da_nil))) T.no_range) (dg_name 4 S_law_spoilt.nd) (ds_cons (ds_if (PW.pt (dt_or (dt_not (dt_val (de_isi (T := "tuple") (by decide) (de_var 3) T.no_isinstance T.no_tuple PyProof.Rows.boot_tuple))) (dt_or1 (dt_cmp (do_eq (hr.u 300)) (de_len (de_var 3) T.no_len) de_int)))) (ds_last ds_brk) ds_nil)
    (ds_cons (ds_set 5 S_law_spoilt.nd (de_callH h_law_draw hr (da_cons (de_var 0) (da_cons (de_len (de_var 3) T.no_len) da_nil))))
    (ds_cons (ds_expr (de_append (de_var 2) (da_cons (de_tup (da_cons (de_var 3) (da_cons (de_var 5) da_nil))) da_nil)))
    (ds_last (ds_set 3 S_law_spoilt.nd (de_ix (hr.u 300) (de_var 3) (de_var 5))))))))
    (ds_cons (ds_set 3 S_law_spoilt.nd (de_callH h_law_bent hr (da_cons (de_var 0) (da_cons (de_var 3) da_nil))))
    (ds_cons (ds_for PassesOwn.never rfl (di_seq (de_rev (de_var 2))) (dg_tupN rfl (dgs_cons (dg_name 6 S_law_spoilt.nd) (dgs_cons (dg_name 5 S_law_spoilt.nd) dgs_nil))) (ds_last (ds_set 3 S_law_spoilt.nd (de_op do_add (de_op do_add (de_sl (de_var 6) dp_n (dp_s (de_var 5))) (de_tup (da_cons (de_var 3) da_nil))) (de_sl (de_var 6) (dp_s (de_op do_add (de_var 5) de_int)) dp_n)))))
    (ds_last (ds_ret (de_var 3)))))))
theorem d_law_near_name (T : Txt K w mg) {k : Nat} {s_law_draw s_law_pick : SpD} (h_law_draw : Has P w K mg base k "_law_draw" p_law_draw s_law_draw) (h_law_pick : Has P w K mg base k "_law_pick" p_law_pick s_law_pick) (f : Addr) (cdv : Value) (A : Around) (outer : List PySem.Env) (s : Shared) (H : Hp) (E : XK) (EE : EK)
    (hr : Room1 k (A.deeper (envOfC "_law_near_name" (defScope t_law_near_name) s.heap.objs.size f cdv))) :
    PSs (cxOf CX0 P w K mg base n_law_near_name "_law_near_name" (defScope t_law_near_name) f cdv A outer s H E).nox (defBody t_law_near_name) (tS K mg (b_law_near_name s_law_draw s_law_pick EE)) :=
  (ds_cons (ds_par 2 3 rfl S_law_near_name.nd (de_callH h_law_draw hr (da_cons (de_var 0) (da_cons (de_op do_add (de_len (de_var 1) T.no_len) de_int) da_nil))) (de_callH h_law_draw hr (da_cons (de_var 0) (da_cons de_int da_nil))) rfl)
    (ds_cons (ds_set 4 S_law_near_name.nd (de_callH h_law_pick hr (da_cons (de_var 0) (da_cons de_str da_nil))))
    (ds_cons (ds_if (dt_cmp (do_eq (hr.u 300)) (de_var 3) de_int) (ds_last (ds_ret (de_op do_add (de_sl (de_var 1) dp_n (dp_s (de_var 2))) (de_sl (de_var 1) (dp_s (de_op do_add (de_var 2) de_int)) dp_n)))) ds_nil)
    (ds_cons (ds_if (dt_cmp do_lt (de_var 3) de_int) (ds_last (ds_ret (de_op do_add (de_op do_add (de_sl (de_var 1) dp_n (dp_s (de_var 2))) (de_var 4)) (de_sl (de_var 1) (dp_s (de_var 2)) dp_n)))) ds_nil)
    (ds_cons (ds_if (dt_cmp do_lt (de_var 3) de_int) (ds_last (ds_ret (de_op do_add (de_op do_add (de_sl (de_var 1) dp_n (dp_s (de_var 2))) (de_var 4)) (de_sl (de_var 1) (dp_s (de_op do_add (de_var 2) de_int)) dp_n)))) ds_nil)
    (ds_cons (ds_if (dt_cmp (do_eq (hr.u 300)) (de_var 3) de_int) (ds_last (ds_ret (de_op do_add (de_var 1) (de_op do_mulS de_str (de_max2 rfl (da_cons de_int (da_cons (de_op do_sub de_int (de_len (de_var 1) T.no_len)) da_nil)) T.no_max))))) ds_nil)
    (ds_last (ds_ret (de_op do_add (de_var 1) (de_sl de_str dp_n (dp_s (de_callH h_law_draw hr (da_cons (de_var 0) (da_cons de_int da_nil))))))))))))))
theorem d_law_tower (T : Txt K w mg) {k : Nat} {s_law_pick s_law_kind s_law_long_name : SpD} (h_law_pick : Has P w K mg base k "_law_pick" p_law_pick s_law_pick) (h_law_kind : Has P w K mg base k "_law_kind" p_law_kind s_law_kind) (h_law_long_name : Has P w K mg base k "_law_long_name" p_law_long_name s_law_long_name) (f : Addr) (cdv : Value) (A : Around) (outer : List PySem.Env) (s : Shared) (H : Hp) (E : XK) (EE : EK)
    (hr : Room1 k (A.deeper (envOfC "_law_tower" (defScope t_law_tower) s.heap.objs.size f cdv))) :
    PSs (cxOf CX0 P w K mg base n_law_tower "_law_tower" (defScope t_law_tower) f cdv A outer s H E).nox (defBody t_law_tower) (tS K mg (b_law_tower s_law_pick s_law_kind s_law_long_name EE)) :=
  (ds_cons (ds_par 1 2 rfl S_law_tower.nd (de_callH h_law_kind hr (da_cons (de_var 0) (da_cons (de_lst (da_cons (de_callH h_law_long_name hr (da_cons (de_var 0) da_nil)) da_nil)) (da_cons de_int da_nil)))) (de_callH h_law_kind hr (da_cons (de_var 0) (da_cons (de_lst (da_cons de_str (da_cons de_str da_nil))) (da_cons de_int da_nil)))) rfl)
    (ds_cons (ds_set 3 S_law_tower.nd (de_callH h_law_pick hr (da_cons (de_var 0) (da_cons (de_tup (da_cons de_str (da_cons de_str da_nil))) da_nil))))
    (ds_cons (ds_for PassesOwn.never rfl (di_rng1 (de_callH h_law_pick hr (da_cons (de_var 0) (da_cons (de_tup (da_cons de_int (da_cons de_int (da_cons de_int (da_cons de_int (da_cons de_int da_nil)))))) da_nil))) T.no_range) (dg_name 4 S_law_tower.nd) (ds_last (ds_set 1 S_law_tower.nd (de_if (dt_cmp do_gt (de_op do_mod (de_intc (da_cons (de_var 4) da_nil) T.no_int) de_int) de_int) (de_tup (da_cons (de_var 3) (da_cons (de_var 1) (da_cons (de_var 2) da_nil)))) (de_tup (da_cons (de_var 3) (da_cons (de_var 2) (da_cons (de_var 1) da_nil))))))))
    (ds_last (ds_ret (de_var 1))))))
theorem d_law_spread (T : Txt K w mg) {k : Nat} {s_law_spread : SpD} (h_law_spread : Has P w K mg base k "_law_spread" p_law_spread s_law_spread) (f : Addr) (cdv : Value) (A : Around) (outer : List PySem.Env) (s : Shared) (H : Hp) (E : XK) (EE : EK)
    (hr : Room1 k (A.deeper (envOfC "_law_spread" (defScope t_law_spread) s.heap.objs.size f cdv))) :
    PSs (cxOf CX0 P w K mg base n_law_spread "_law_spread" (defScope t_law_spread) f cdv A outer s H E).nox (defBody t_law_spread) (tS K mg (b_law_spread s_law_spread EE)) :=
  (ds_cons (ds_if (dt_cmp (do_eq (hr.u 300)) (de_var 1) de_int) (ds_last (ds_ret (de_ix (hr.u 300) (de_var 0) de_int))) ds_nil)
    (ds_cons (ds_set 2 S_law_spread.nd (de_callH h_law_spread hr (da_cons (de_op do_add (de_sl (de_var 0) (dp_s de_int) dp_n) (de_sl (de_var 0) dp_n (dp_s de_int))) (da_cons (de_op do_div (de_var 1) de_int) da_nil))))
    (ds_last (ds_ret (de_tup (da_cons (de_if (dt_cmp do_gt (de_op do_mod (de_intc (da_cons (de_var 1) da_nil) T.no_int) de_int) de_int) de_str de_str) (da_cons (de_var 2) (da_cons (de_callH h_law_spread hr (da_cons (de_var 0) (da_cons (de_op do_sub (de_var 1) (de_op do_div (de_var 1) de_int)) da_nil))) da_nil))))))))
theorem d_law_wide (T : Txt K w mg) {k : Nat} {s_law_spread s_law_pick s_law_kind s_law_long_name : SpD} (h_law_spread : Has P w K mg base k "_law_spread" p_law_spread s_law_spread) (h_law_pick : Has P w K mg base k "_law_pick" p_law_pick s_law_pick) (h_law_kind : Has P w K mg base k "_law_kind" p_law_kind s_law_kind) (h_law_long_name : Has P w K mg base k "_law_long_name" p_law_long_name s_law_long_name) (f : Addr) (cdv : Value) (A : Around) (outer : List PySem.Env) (s : Shared) (H : Hp) (E : XK) (EE : EK)
    (hr : Room1 k (A.deeper (envOfC "_law_wide" (defScope t_law_wide) s.heap.objs.size f cdv))) :
    PSs (cxOf CX0 P w K mg base n_law_wide "_law_wide" (defScope t_law_wide) f cdv A outer s H E).nox (defBody t_law_wide) (tS K mg (b_law_wide s_law_spread s_law_pick s_law_kind s_law_long_name EE)) :=
  (ds_cons (ds_set 1 S_law_wide.nd (de_lst (da_cons (de_tup (da_cons de_str (da_cons (de_callH h_law_long_name hr (da_cons (de_var 0) da_nil)) da_nil))) (da_cons (de_callH h_law_kind hr (da_cons (de_var 0) (da_cons (de_lst (da_cons de_str da_nil)) (da_cons de_int da_nil)))) (da_cons (de_tup (da_cons de_str da_nil)) da_nil)))))
    (ds_last (ds_ret (de_callH h_law_spread hr (da_cons (de_var 1) (da_cons (de_callH h_law_pick hr (da_cons (de_var 0) (da_cons (de_tup (da_cons de_int (da_cons de_int (da_cons de_int (da_cons de_int (da_cons de_int da_nil)))))) da_nil))) da_nil))))))
theorem d_law_is_judged (T : Txt K w mg) {k : Nat} {s_law_same s_is_kind s_is_name s_law_is_kind s_law_is_name : SpD} (h_law_same : Has P w K mg base k "_law_same" p_law_same s_law_same) (h_is_kind : Has P w K mg base k "is_kind" p_is_kind s_is_kind) (h_is_name : Has P w K mg base k "is_name" p_is_name s_is_name) (h_law_is_kind : Has P w K mg base k "_law_is_kind" p_law_is_kind s_law_is_kind) (h_law_is_name : Has P w K mg base k "_law_is_name" p_law_is_name s_law_is_name) (hk_is_kind : HasK P w K mg base k "is_kind" p_is_kind s_is_kind ["value"] [0]) (hk_is_name : HasK P w K mg base k "is_name" p_is_name s_is_name ["value"] [0]) (f : Addr) (cdv : Value) (A : Around) (outer : List PySem.Env) (s : Shared) (H : Hp) (E : XK) (EE : EK)
    (hr : Room1 k (A.deeper (envOfC "_law_is_judged" (defScope t_law_is_judged) s.heap.objs.size f cdv))) :
    PSs (cxOf CX0 P w K mg base n_law_is_judged "_law_is_judged" (defScope t_law_is_judged) f cdv A outer s H E).nox (defBody t_law_is_judged) (tS K mg (b_law_is_judged s_law_same s_is_kind s_is_name s_law_is_kind s_law_is_name EE)) :=
  (ds_cons (ds_par 2 3 rfl S_law_is_judged.nd (de_lst (da_cons (de_callH h_law_is_name hr (da_cons (de_var 0) da_nil)) (da_cons (de_callH h_law_is_kind hr (da_cons (de_var 0) da_nil)) da_nil))) (de_reprE (hr.u 300) hr.gd (da_cons (de_var 0) da_nil) T.no_repr) rfl)
    (ds_cons (ds_set 4 S_law_is_judged.nd (de_if (dt_val (de_var 1)) (de_lst (da_cons (de_callK hk_is_name hr (dk_cons (de_var 0) dk_nil)) (da_cons (de_callK hk_is_kind hr (dk_cons (de_var 0) dk_nil)) da_nil))) (de_lst (da_cons (de_callH h_is_name hr (da_cons (de_var 0) da_nil)) (da_cons (de_callH h_is_kind hr (da_cons (de_var 0) da_nil)) da_nil)))))
    (ds_last (ds_ret (de_and (de_callH h_law_same hr (da_cons (de_var 4) (da_cons (de_var 2) da_nil))) (de_one (de_cmp (do_eq (hr.u 300)) (de_reprE (hr.u 300) hr.gd (da_cons (de_var 0) da_nil) T.no_repr) (de_var 3))))))))
theorem d_law_is_told (T : Txt K w mg) {k : Nat} {s_law_same s_names_in s_parts_of_kind s_depth_of_kind s_law_measures : SpD} (h_law_same : Has P w K mg base k "_law_same" p_law_same s_law_same) (h_names_in : Has P w K mg base k "names_in" p_names_in s_names_in) (h_parts_of_kind : Has P w K mg base k "parts_of_kind" p_parts_of_kind s_parts_of_kind) (h_depth_of_kind : Has P w K mg base k "depth_of_kind" p_depth_of_kind s_depth_of_kind) (h_law_measures : Has P w K mg base k "_law_measures" p_law_measures s_law_measures) (hk_names_in : HasK P w K mg base k "names_in" p_names_in s_names_in ["kind"] [0]) (hk_parts_of_kind : HasK P w K mg base k "parts_of_kind" p_parts_of_kind s_parts_of_kind ["kind"] [0]) (hk_depth_of_kind : HasK P w K mg base k "depth_of_kind" p_depth_of_kind s_depth_of_kind ["kind"] [0]) (f : Addr) (cdv : Value) (A : Around) (outer : List PySem.Env) (s : Shared) (H : Hp) (E : XK) (EE : EK)
    (hr : Room1 k (A.deeper (envOfC "_law_is_told" (defScope t_law_is_told) s.heap.objs.size f cdv))) :
    PSs (cxOf CX0 P w K mg base n_law_is_told "_law_is_told" (defScope t_law_is_told) f cdv A outer s H E).nox (defBody t_law_is_told) (tS K mg (b_law_is_told s_law_same s_names_in s_parts_of_kind s_depth_of_kind s_law_measures EE)) :=
  (ds_cons (ds_asg (de_callH h_law_measures hr (da_cons (de_var 0) da_nil)) (dg_tupN rfl (dgs_cons (dg_name 1 S_law_is_told.nd) (dgs_cons (dg_name 2 S_law_is_told.nd) (dgs_cons (dg_name 3 S_law_is_told.nd) dgs_nil)))))
    (ds_cons (ds_set 4 S_law_is_told.nd (de_lstM da_nil))
    (ds_cons (ds_for PassesOwn.never rfl (di_seq (de_sortedN rfl (hr.u 300) (da_cons (de_var 3) da_nil) T.no_sorted)) (dg_name 5 S_law_is_told.nd) (ds_last (ds_if (dt_cmp (do_notIn (hr.u 300)) (de_var 5) (de_var 4)) (ds_last (ds_expr (de_append (de_var 4) (da_cons (de_var 5) da_nil)))) ds_nil)))
    (ds_cons (ds_set 6 S_law_is_told.nd (de_lst (da_cons (de_var 1) (da_cons (de_var 2) (da_cons (de_tuplec (da_cons (de_var 4) da_nil) T.no_tuple) da_nil)))))
    (ds_cons (ds_set 7 S_law_is_told.nd (de_lst (da_cons (de_callK hk_depth_of_kind hr (dk_cons (de_var 0) dk_nil)) (da_cons (de_callK hk_parts_of_kind hr (dk_cons (de_var 0) dk_nil)) (da_cons (de_callK hk_names_in hr (dk_cons (de_var 0) dk_nil)) da_nil)))))
    (ds_last (ds_ret (de_and (de_callH h_law_same hr (da_cons (de_lst (da_cons (de_callH h_depth_of_kind hr (da_cons (de_var 0) da_nil)) (da_cons (de_callH h_parts_of_kind hr (da_cons (de_var 0) da_nil)) (da_cons (de_callH h_names_in hr (da_cons (de_var 0) da_nil)) da_nil)))) (da_cons (de_var 6) da_nil))) (de_one (de_callH h_law_same hr (da_cons (de_var 7) (da_cons (de_var 6) da_nil))))))))))))
theorem d_law_names_right (T : Txt K w mg) {k : Nat} {s_law_near_name s_law_is_judged s_law_draw s_law_long_name : SpD} (h_law_near_name : Has P w K mg base k "_law_near_name" p_law_near_name s_law_near_name) (h_law_is_judged : Has P w K mg base k "_law_is_judged" p_law_is_judged s_law_is_judged) (h_law_draw : Has P w K mg base k "_law_draw" p_law_draw s_law_draw) (h_law_long_name : Has P w K mg base k "_law_long_name" p_law_long_name s_law_long_name) (f : Addr) (cdv : Value) (A : Around) (outer : List PySem.Env) (s : Shared) (H : Hp) (E : XK) (EE : EK)
    (hr : Room1 k (A.deeper (envOfC "_law_names_right" (defScope t_law_names_right) s.heap.objs.size f cdv))) :
    PSs (cxOf CX0 P w K mg base n_law_names_right "_law_names_right" (defScope t_law_names_right) f cdv A outer s H E).nox (defBody t_law_names_right) (tS K mg (b_law_names_right s_law_near_name s_law_is_judged s_law_draw s_law_long_name EE)) :=
  (ds_cons (ds_set 1 S_law_names_right.nd (de_callH h_law_long_name hr (da_cons (de_var 0) da_nil)))
    (ds_cons (ds_set 2 S_law_names_right.nd (de_callH h_law_near_name hr (da_cons (de_var 0) (da_cons (de_var 1) da_nil))))
    (ds_cons (ds_for PassesOwn.never rfl (di_seq (de_lst (da_cons (de_var 1) (da_cons (de_var 2) (da_cons (de_callH h_law_near_name hr (da_cons (de_var 0) (da_cons (de_var 2) da_nil))) (da_cons (de_tup (da_cons de_str (da_cons (de_var 1) da_nil))) (da_cons (de_tup (da_cons de_str (da_cons (de_var 2) da_nil))) da_nil))))))) (dg_name 3 S_law_names_right.nd) (ds_last (ds_if (dt_not (dt_val (de_callH h_law_is_judged hr (da_cons (de_var 3) (da_cons (de_cmp (do_eq (hr.u 300)) (de_callH h_law_draw hr (da_cons (de_var 0) (da_cons de_int da_nil))) de_int) da_nil))))) (ds_last (ds_ret de_bl)) ds_nil)))
    (ds_last (ds_ret de_bl)))))
theorem d_law_right (T : Txt K w mg) {k : Nat} {s_law_odd s_law_spoilt s_law_is_judged s_law_draw s_law_is_told s_law_is_kind s_law_names_right s_law_kind s_law_pick s_law_written s_law_long_name s_law_tower s_law_wide : SpD} (h_law_odd : Has P w K mg base k "_law_odd" p_law_odd s_law_odd) (h_law_spoilt : Has P w K mg base k "_law_spoilt" p_law_spoilt s_law_spoilt) (h_law_is_judged : Has P w K mg base k "_law_is_judged" p_law_is_judged s_law_is_judged) (h_law_draw : Has P w K mg base k "_law_draw" p_law_draw s_law_draw) (h_law_is_told : Has P w K mg base k "_law_is_told" p_law_is_told s_law_is_told) (h_law_is_kind : Has P w K mg base k "_law_is_kind" p_law_is_kind s_law_is_kind) (h_law_names_right : Has P w K mg base k "_law_names_right" p_law_names_right s_law_names_right) (h_law_kind : Has P w K mg base k "_law_kind" p_law_kind s_law_kind) (h_law_pick : Has P w K mg base k "_law_pick" p_law_pick s_law_pick) (h_law_written : Has P w K mg base k "_law_written" p_law_written s_law_written) (h_law_long_name : Has P w K mg base k "_law_long_name" p_law_long_name s_law_long_name) (h_law_tower : Has P w K mg base k "_law_tower" p_law_tower s_law_tower) (h_law_wide : Has P w K mg base k "_law_wide" p_law_wide s_law_wide) (f : Addr) (cdv : Value) (A : Around) (outer : List PySem.Env) (s : Shared) (H : Hp) (E : XK) (EE : EK)
    (hr : Room1 k (A.deeper (envOfC "_law_right" (defScope t_law_right) s.heap.objs.size f cdv))) :
    PSs (cxOf CX0 P w K mg base n_law_right "_law_right" (defScope t_law_right) f cdv A outer s H E).nox (defBody t_law_right) (tS K mg (b_law_right s_law_odd s_law_spoilt s_law_is_judged s_law_draw s_law_is_told s_law_is_kind s_law_names_right s_law_kind s_law_pick s_law_written s_law_long_name s_law_tower s_law_wide EE)) :=
  (ds_cons (ds_set 1 S_law_right.nd (de_catM (de_lst (da_cons (de_callH h_law_tower hr (da_cons (de_var 0) da_nil)) da_nil)) (de_if (dt_cmp (do_eq (hr.u 300)) (de_callH h_law_draw hr (da_cons (de_var 0) (da_cons de_int da_nil))) de_int) (de_lst (da_cons (de_callH h_law_wide hr (da_cons (de_var 0) da_nil)) da_nil)) (de_lst da_nil))))
    (ds_cons (ds_for PassesOwn.never rfl (di_rng1 de_int T.no_range) (dg_name 2 S_law_right.nd) (ds_cons (ds_set 3 S_law_right.nd (de_lst (da_cons (de_callH h_law_long_name hr (da_cons (de_var 0) da_nil)) (da_cons (de_callH h_law_written hr (da_cons (de_var 0) da_nil)) da_nil))))
    (ds_cons (ds_expr (de_append (de_var 1) (da_cons (de_callH h_law_kind hr (da_cons (de_var 0) (da_cons (de_var 3) (da_cons (de_callH h_law_pick hr (da_cons (de_var 0) (da_cons (de_tup (da_cons de_int (da_cons de_int (da_cons de_int (da_cons de_int da_nil))))) da_nil))) da_nil)))) da_nil)))
    (ds_last (ds_if (dt_not (dt_val (de_callH h_law_names_right hr (da_cons (de_var 0) da_nil)))) (ds_last (ds_ret de_bl)) ds_nil)))))
    (ds_cons (ds_for PassesOwn.never rfl (di_seq (de_op do_add (de_var 1) (de_sl (de_var 1) (dp_s (de_un do_neg de_int)) dp_n))) (dg_name 4 S_law_right.nd) (ds_cons (ds_if (dt_not (dt_val (de_callH h_law_is_judged hr (da_cons (de_var 4) (da_cons (de_cmp (do_eq (hr.u 300)) (de_callH h_law_draw hr (da_cons (de_var 0) (da_cons de_int da_nil))) de_int) da_nil))))) (ds_last (ds_ret de_bl)) ds_nil)
    (ds_cons (ds_if (PW.pt (dt_and (dt_val (de_callH h_law_is_kind hr (da_cons (de_var 4) da_nil))) (dt_and1 (dt_not (dt_val (de_callH h_law_is_told hr (da_cons (de_var 4) da_nil))))))) (ds_last (ds_ret de_bl)) ds_nil)
    (ds_cons (ds_set 5 S_law_right.nd (de_callH h_law_spoilt hr (da_cons (de_var 0) (da_cons (de_var 4) da_nil))))
    (ds_last (ds_for PassesOwn.never rfl (di_seq (de_lst (da_cons (de_var 5) (da_cons (de_callH h_law_spoilt hr (da_cons (de_var 0) (da_cons (de_var 5) da_nil))) (da_cons (de_callH h_law_odd hr (da_cons (de_var 0) da_nil)) da_nil))))) (dg_name 6 S_law_right.nd) (ds_last (ds_if (dt_not (dt_val (de_callH h_law_is_judged hr (da_cons (de_var 6) (da_cons (de_cmp (do_eq (hr.u 300)) (de_callH h_law_draw hr (da_cons (de_var 0) (da_cons de_int da_nil))) de_int) da_nil))))) (ds_last (ds_ret de_bl)) ds_nil))))))))
    (ds_last (ds_ret de_bl)))))
theorem d_law (T : Txt K w mg) {k : Nat} {s_law_right s_law_well : SpD} (h_law_right : Has P w K mg base k "_law_right" p_law_right s_law_right) (h_law_well : Has P w K mg base k "_law_well" p_law_well s_law_well) (f : Addr) (cdv : Value) (A : Around) (outer : List PySem.Env) (s : Shared) (H : Hp) (E : XK) (EE : EK)
    (hr : Room1 k (A.deeper (envOfC "law" (defScope t_law) s.heap.objs.size f cdv))) :
    PSs (cxOf CX0 P w K mg base n_law "law" (defScope t_law) f cdv A outer s H E).nox (defBody t_law) (tS K mg (b_law s_law_right s_law_well EE)) :=
  (ds_last (ds_ret (de_all rfl (da_cons (de_lc (own := [("turn", 1)]) rfl S_law.nd (di_rng1 (de_max2 rfl (da_cons de_int (da_cons (de_min2 rfl (da_cons (de_len (de_var 0) T.no_len) (da_cons de_int da_nil)) T.no_min) da_nil)) T.no_max) T.no_range) (by first | rfl | kernel_rfl) (fun _ _ _ _ _ => (dg_name 1 S_law.nd)) (fun _ _ _ _ _ => dts_nil) (fun _ _ _ _ _ => (de_callH h_law_right hr (da_cons (de_callH h_law_well hr (da_cons (de_var 0) (da_cons (de_var 1) da_nil))) da_nil)))) da_nil) T.no_all)))
end
end DL.K02
/-! text K02J -/
namespace DL.K02
open PySem PySem.Spec PyProof.Rows L2 DL 
theorem kdat_KIND_SIZES {K : PySem.W.Frag} {d : Addr} {n : Nat} {dh0_0 : Int} {dt0_0 du0_0 : Tok} {dh0_1 : Int} {dt0_1 du0_1 : Tok} {dh0_2 : Int} {dt0_2 du0_2 : Tok} {dh0_3 : Int} {dt0_3 du0_3 : Tok} {dh0_4 : Int} {dt0_4 du0_4 : Tok} (h : K.lookup d = some ⟨.type "dict", none, .dict #[⟨dh0_0, .str "thing" dt0_0, .int 0 du0_0⟩, ⟨dh0_1, .str "none" dt0_1, .int 0 du0_1⟩, ⟨dh0_2, .str "unit" dt0_2, .int 0 du0_2⟩, ⟨dh0_3, .str "pair" dt0_3, .int 2 du0_3⟩, ⟨dh0_4, .str "either" dt0_4, .int 2 du0_4⟩] n, #[]⟩) (z : Str) :
    (∃ y u v, lookK k_KIND_SIZES (.str z) = some y ∧ PySem.W.nsIn K d z = some (some u) ∧ RelV v u ∧ ∀ F, Rp K F v y) ∨ (lookK k_KIND_SIZES (.str z) = none ∧ PySem.W.nsIn K d z = some none) := by
  unfold PySem.W.nsIn
  rw [h]
  simp only [k_KIND_SIZES, lookK, keyEq, List.find?_cons, List.find?_nil]
  by_cases q0 : ("thing" : Str) = z
  · subst q0
    refine .inl ⟨.int 0, .int 0 du0_0, .int 0, ?_, ?_, ⟨_, rfl⟩, fun F => .int _⟩ <;> rfl
  by_cases q1 : ("none" : Str) = z
  · subst q1
    refine .inl ⟨.int 0, .int 0 du0_1, .int 0, ?_, ?_, ⟨_, rfl⟩, fun F => .int _⟩ <;> rfl
  by_cases q2 : ("unit" : Str) = z
  · subst q2
    refine .inl ⟨.int 0, .int 0 du0_2, .int 0, ?_, ?_, ⟨_, rfl⟩, fun F => .int _⟩ <;> rfl
  by_cases q3 : ("pair" : Str) = z
  · subst q3
    refine .inl ⟨.int 2, .int 2 du0_3, .int 2, ?_, ?_, ⟨_, rfl⟩, fun F => .int _⟩ <;> rfl
  by_cases q4 : ("either" : Str) = z
  · subst q4
    refine .inl ⟨.int 2, .int 2 du0_4, .int 2, ?_, ?_, ⟨_, rfl⟩, fun F => .int _⟩ <;> rfl
  have r0 : (("thing" : Str) == z) = false := by simpa using q0
  have r1 : (("none" : Str) == z) = false := by simpa using q1
  have r2 : (("unit" : Str) == z) = false := by simpa using q2
  have r3 : (("pair" : Str) == z) = false := by simpa using q3
  have r4 : (("either" : Str) == z) = false := by simpa using q4
  refine .inr ⟨?_, ?_⟩
  · simp [q0, q1, q2, q3, q4]
  · simp [Value.isStr, DictEntry.refKey, r0, r1, r2, r3, r4]
/-! ### the text from the heap (printed by gen.py) -/
section
open PySem.W
theorem txt_mk {K : Frag} {w : World} {mg : Str → Option Value} {h : Heap} (X : K.In h) (G : h.Ns mainGlobals mg)
    {fa0 : Addr} {od0 an0 : Option Addr} {sl0 : Array (Option Value)} {oc0 kV0 dc0 pm0 cd0 ct0 : Value}
    {fa1 : Addr} {od1 an1 : Option Addr} {sl1 : Array (Option Value)} {oc1 kV1 dc1 pm1 cd1 ct1 : Value}
    {fa2 : Addr} {od2 an2 : Option Addr} {sl2 : Array (Option Value)} {oc2 kV2 dc2 pm2 cd2 ct2 : Value}
    {fa3 : Addr} {od3 an3 : Option Addr} {sl3 : Array (Option Value)} {oc3 kV3 dc3 pm3 cd3 ct3 : Value}
    {fa4 : Addr} {od4 an4 : Option Addr} {sl4 : Array (Option Value)} {oc4 kV4 dc4 pm4 cd4 ct4 : Value}
    {fa5 : Addr} {od5 an5 : Option Addr} {sl5 : Array (Option Value)} {oc5 kV5 dc5 pm5 cd5 ct5 : Value}
    {fa6 : Addr} {od6 an6 : Option Addr} {sl6 : Array (Option Value)} {oc6 kV6 dc6 pm6 cd6 ct6 : Value}
    {fa7 : Addr} {od7 an7 : Option Addr} {sl7 : Array (Option Value)} {oc7 kV7 dc7 pm7 cd7 ct7 : Value}
    {fa8 : Addr} {od8 an8 : Option Addr} {sl8 : Array (Option Value)} {oc8 kV8 dc8 pm8 cd8 ct8 : Value}
    {fa9 : Addr} {od9 an9 : Option Addr} {sl9 : Array (Option Value)} {oc9 kV9 dc9 pm9 cd9 ct9 : Value}
    {fa10 : Addr} {od10 an10 : Option Addr} {sl10 : Array (Option Value)} {oc10 kV10 dc10 pm10 cd10 ct10 : Value}
    {fa11 : Addr} {od11 an11 : Option Addr} {sl11 : Array (Option Value)} {oc11 kV11 dc11 pm11 cd11 ct11 : Value}
    {fa12 : Addr} {od12 an12 : Option Addr} {sl12 : Array (Option Value)} {oc12 kV12 dc12 pm12 cd12 ct12 : Value}
    {fa13 : Addr} {od13 an13 : Option Addr} {sl13 : Array (Option Value)} {oc13 kV13 dc13 pm13 cd13 ct13 : Value}
    {fa14 : Addr} {od14 an14 : Option Addr} {sl14 : Array (Option Value)} {oc14 kV14 dc14 pm14 cd14 ct14 : Value}
    {fa15 : Addr} {od15 an15 : Option Addr} {sl15 : Array (Option Value)} {oc15 kV15 dc15 pm15 cd15 ct15 : Value}
    {fa16 : Addr} {od16 an16 : Option Addr} {sl16 : Array (Option Value)} {oc16 kV16 dc16 pm16 cd16 ct16 : Value}
    {fa17 : Addr} {od17 an17 : Option Addr} {sl17 : Array (Option Value)} {oc17 kV17 dc17 pm17 cd17 ct17 : Value}
    {fa18 : Addr} {od18 an18 : Option Addr} {sl18 : Array (Option Value)} {oc18 kV18 dc18 pm18 cd18 ct18 : Value}
    {fa19 : Addr} {od19 an19 : Option Addr} {sl19 : Array (Option Value)} {oc19 kV19 dc19 pm19 cd19 ct19 : Value}
    {fa20 : Addr} {od20 an20 : Option Addr} {sl20 : Array (Option Value)} {oc20 kV20 dc20 pm20 cd20 ct20 : Value}
    {fa21 : Addr} {od21 an21 : Option Addr} {sl21 : Array (Option Value)} {oc21 kV21 dc21 pm21 cd21 ct21 : Value}
    {fa22 : Addr} {od22 an22 : Option Addr} {sl22 : Array (Option Value)} {oc22 kV22 dc22 pm22 cd22 ct22 : Value}
    {fa23 : Addr} {od23 an23 : Option Addr} {sl23 : Array (Option Value)} {oc23 kV23 dc23 pm23 cd23 ct23 : Value}
    {fa24 : Addr} {od24 an24 : Option Addr} {sl24 : Array (Option Value)} {oc24 kV24 dc24 pm24 cd24 ct24 : Value}
    {fa25 : Addr} {od25 an25 : Option Addr} {sl25 : Array (Option Value)} {oc25 kV25 dc25 pm25 cd25 ct25 : Value}
    {fa26 : Addr} {od26 an26 : Option Addr} {sl26 : Array (Option Value)} {oc26 kV26 dc26 pm26 cd26 ct26 : Value}
    {fa27 : Addr} {od27 an27 : Option Addr} {sl27 : Array (Option Value)} {oc27 kV27 dc27 pm27 cd27 ct27 : Value}
    {fa28 : Addr} {od28 an28 : Option Addr} {sl28 : Array (Option Value)} {oc28 kV28 dc28 pm28 cd28 ct28 : Value}
    {fa29 : Addr} {od29 an29 : Option Addr} {sl29 : Array (Option Value)} {oc29 kV29 dc29 pm29 cd29 ct29 : Value}
    {fa30 : Addr} {od30 an30 : Option Addr} {sl30 : Array (Option Value)} {oc30 kV30 dc30 pm30 cd30 ct30 : Value}
    {fa31 : Addr} {od31 an31 : Option Addr} {sl31 : Array (Option Value)} {oc31 kV31 dc31 pm31 cd31 ct31 : Value}
    {fa32 : Addr} {od32 an32 : Option Addr} {sl32 : Array (Option Value)} {oc32 kV32 dc32 pm32 cd32 ct32 : Value}
    {fa33 : Addr} {od33 an33 : Option Addr} {sl33 : Array (Option Value)} {oc33 kV33 dc33 pm33 cd33 ct33 : Value}
    {fa34 : Addr} {od34 an34 : Option Addr} {sl34 : Array (Option Value)} {oc34 kV34 dc34 pm34 cd34 ct34 : Value}
    {fa35 : Addr} {od35 an35 : Option Addr} {sl35 : Array (Option Value)} {oc35 kV35 dc35 pm35 cd35 ct35 : Value}
    {fa36 : Addr} {od36 an36 : Option Addr} {sl36 : Array (Option Value)} {oc36 kV36 dc36 pm36 cd36 ct36 : Value}
    {fa37 : Addr} {od37 an37 : Option Addr} {sl37 : Array (Option Value)} {oc37 kV37 dc37 pm37 cd37 ct37 : Value}
    {fa38 : Addr} {od38 an38 : Option Addr} {sl38 : Array (Option Value)} {oc38 kV38 dc38 pm38 cd38 ct38 : Value}
    {dd0 : Addr} {dn0 : Nat} {dh0_0 : Int} {dt0_0 du0_0 : Tok} {dh0_1 : Int} {dt0_1 du0_1 : Tok} {dh0_2 : Int} {dt0_2 du0_2 : Tok} {dh0_3 : Int} {dt0_3 du0_3 : Tok} {dh0_4 : Int} {dt0_4 du0_4 : Tok}
    {gt0 : Tok}
    {gt1 : Tok}
    {gt2 : Tok}
    {gt3 : Tok}
    {gt4 : Tok}
    {gt5 : Tok}
    {gt6 : Tok}
    (a0 : nsIn K mainGlobals "is_written_name" = some (some (.ref fa0)))
    (l0 : K.lookup fa0 = some ⟨oc0, od0, .func (fnOf "is_written_name" "is_written_name" (defArgs t_is_written_name) (defBody t_is_written_name) (defScope t_is_written_name) .none kV0 dc0 pm0 an0 cd0 ct0), sl0⟩)
    (c0 : codeIn K cd0 "is_written_name" = true)
    (k0 : keepIn K (.ref fa0) = true)
    (a1 : nsIn K mainGlobals "is_named" = some (some (.ref fa1)))
    (l1 : K.lookup fa1 = some ⟨oc1, od1, .func (fnOf "is_named" "is_named" (defArgs t_is_named) (defBody t_is_named) (defScope t_is_named) .none kV1 dc1 pm1 an1 cd1 ct1), sl1⟩)
    (c1 : codeIn K cd1 "is_named" = true)
    (k1 : keepIn K (.ref fa1) = true)
    (a2 : nsIn K mainGlobals "is_kind_formed" = some (some (.ref fa2)))
    (l2 : K.lookup fa2 = some ⟨oc2, od2, .func (fnOf "is_kind_formed" "is_kind_formed" (defArgs t_is_kind_formed) (defBody t_is_kind_formed) (defScope t_is_kind_formed) .none kV2 dc2 pm2 an2 cd2 ct2), sl2⟩)
    (c2 : codeIn K cd2 "is_kind_formed" = true)
    (k2 : keepIn K (.ref fa2) = true)
    (a3 : nsIn K mainGlobals "kinds_in" = some (some (.ref fa3)))
    (l3 : K.lookup fa3 = some ⟨oc3, od3, .func (fnOf "kinds_in" "kinds_in" (defArgs t_kinds_in) (defBody t_kinds_in) (defScope t_kinds_in) .none kV3 dc3 pm3 an3 cd3 ct3), sl3⟩)
    (c3 : codeIn K cd3 "kinds_in" = true)
    (k3 : keepIn K (.ref fa3) = true)
    (a4 : nsIn K mainGlobals "kind_depth" = some (some (.ref fa4)))
    (l4 : K.lookup fa4 = some ⟨oc4, od4, .func (fnOf "kind_depth" "kind_depth" (defArgs t_kind_depth) (defBody t_kind_depth) (defScope t_kind_depth) .none kV4 dc4 pm4 an4 cd4 ct4), sl4⟩)
    (c4 : codeIn K cd4 "kind_depth" = true)
    (k4 : keepIn K (.ref fa4) = true)
    (a5 : nsIn K mainGlobals "count_kinds" = some (some (.ref fa5)))
    (l5 : K.lookup fa5 = some ⟨oc5, od5, .func (fnOf "count_kinds" "count_kinds" (defArgs t_count_kinds) (defBody t_count_kinds) (defScope t_count_kinds) .none kV5 dc5 pm5 an5 cd5 ct5), sl5⟩)
    (c5 : codeIn K cd5 "count_kinds" = true)
    (k5 : keepIn K (.ref fa5) = true)
    (a6 : nsIn K mainGlobals "is_kinded" = some (some (.ref fa6)))
    (l6 : K.lookup fa6 = some ⟨oc6, od6, .func (fnOf "is_kinded" "is_kinded" (defArgs t_is_kinded) (defBody t_is_kinded) (defScope t_is_kinded) .none kV6 dc6 pm6 an6 cd6 ct6), sl6⟩)
    (c6 : codeIn K cd6 "is_kinded" = true)
    (k6 : keepIn K (.ref fa6) = true)
    (a7 : nsIn K mainGlobals "names_by" = some (some (.ref fa7)))
    (l7 : K.lookup fa7 = some ⟨oc7, od7, .func (fnOf "names_by" "names_by" (defArgs t_names_by) (defBody t_names_by) (defScope t_names_by) .none kV7 dc7 pm7 an7 cd7 ct7), sl7⟩)
    (c7 : codeIn K cd7 "names_by" = true)
    (k7 : keepIn K (.ref fa7) = true)
    (a8 : nsIn K mainGlobals "check_kind" = some (some (.ref fa8)))
    (l8 : K.lookup fa8 = some ⟨oc8, od8, .func (fnOf "check_kind" "check_kind" (defArgs t_check_kind) (defBody t_check_kind) (defScope t_check_kind) .none kV8 dc8 pm8 an8 cd8 ct8), sl8⟩)
    (c8 : codeIn K cd8 "check_kind" = true)
    (k8 : keepIn K (.ref fa8) = true)
    (a9 : nsIn K mainGlobals "is_name" = some (some (.ref fa9)))
    (l9 : K.lookup fa9 = some ⟨oc9, od9, .func (fnOf "is_name" "is_name" (defArgs t_is_name) (defBody t_is_name) (defScope t_is_name) .none kV9 dc9 pm9 an9 cd9 ct9), sl9⟩)
    (c9 : codeIn K cd9 "is_name" = true)
    (k9 : keepIn K (.ref fa9) = true)
    (a10 : nsIn K mainGlobals "is_kind" = some (some (.ref fa10)))
    (l10 : K.lookup fa10 = some ⟨oc10, od10, .func (fnOf "is_kind" "is_kind" (defArgs t_is_kind) (defBody t_is_kind) (defScope t_is_kind) .none kV10 dc10 pm10 an10 cd10 ct10), sl10⟩)
    (c10 : codeIn K cd10 "is_kind" = true)
    (k10 : keepIn K (.ref fa10) = true)
    (a11 : nsIn K mainGlobals "depth_of_kind" = some (some (.ref fa11)))
    (l11 : K.lookup fa11 = some ⟨oc11, od11, .func (fnOf "depth_of_kind" "depth_of_kind" (defArgs t_depth_of_kind) (defBody t_depth_of_kind) (defScope t_depth_of_kind) .none kV11 dc11 pm11 an11 cd11 ct11), sl11⟩)
    (c11 : codeIn K cd11 "depth_of_kind" = true)
    (k11 : keepIn K (.ref fa11) = true)
    (a12 : nsIn K mainGlobals "parts_of_kind" = some (some (.ref fa12)))
    (l12 : K.lookup fa12 = some ⟨oc12, od12, .func (fnOf "parts_of_kind" "parts_of_kind" (defArgs t_parts_of_kind) (defBody t_parts_of_kind) (defScope t_parts_of_kind) .none kV12 dc12 pm12 an12 cd12 ct12), sl12⟩)
    (c12 : codeIn K cd12 "parts_of_kind" = true)
    (k12 : keepIn K (.ref fa12) = true)
    (a13 : nsIn K mainGlobals "names_in" = some (some (.ref fa13)))
    (l13 : K.lookup fa13 = some ⟨oc13, od13, .func (fnOf "names_in" "names_in" (defArgs t_names_in) (defBody t_names_in) (defScope t_names_in) .none kV13 dc13 pm13 an13 cd13 ct13), sl13⟩)
    (c13 : codeIn K cd13 "names_in" = true)
    (k13 : keepIn K (.ref fa13) = true)
    (a14 : nsIn K mainGlobals "_law_well" = some (some (.ref fa14)))
    (l14 : K.lookup fa14 = some ⟨oc14, od14, .func (fnOf "_law_well" "_law_well" (defArgs t_law_well) (defBody t_law_well) (defScope t_law_well) .none kV14 dc14 pm14 an14 cd14 ct14), sl14⟩)
    (c14 : codeIn K cd14 "_law_well" = true)
    (k14 : keepIn K (.ref fa14) = true)
    (a15 : nsIn K mainGlobals "_law_draw" = some (some (.ref fa15)))
    (l15 : K.lookup fa15 = some ⟨oc15, od15, .func (fnOf "_law_draw" "_law_draw" (defArgs t_law_draw) (defBody t_law_draw) (defScope t_law_draw) .none kV15 dc15 pm15 an15 cd15 ct15), sl15⟩)
    (c15 : codeIn K cd15 "_law_draw" = true)
    (k15 : keepIn K (.ref fa15) = true)
    (a16 : nsIn K mainGlobals "_law_pick" = some (some (.ref fa16)))
    (l16 : K.lookup fa16 = some ⟨oc16, od16, .func (fnOf "_law_pick" "_law_pick" (defArgs t_law_pick) (defBody t_law_pick) (defScope t_law_pick) .none kV16 dc16 pm16 an16 cd16 ct16), sl16⟩)
    (c16 : codeIn K cd16 "_law_pick" = true)
    (k16 : keepIn K (.ref fa16) = true)
    (a17 : nsIn K mainGlobals "_law_same" = some (some (.ref fa17)))
    (l17 : K.lookup fa17 = some ⟨oc17, od17, .func (fnOf "_law_same" "_law_same" (defArgs t_law_same) (defBody t_law_same) (defScope t_law_same) .none kV17 dc17 pm17 an17 cd17 ct17), sl17⟩)
    (c17 : codeIn K cd17 "_law_same" = true)
    (k17 : keepIn K (.ref fa17) = true)
    (a18 : nsIn K mainGlobals "_law_odd" = some (some (.ref fa18)))
    (l18 : K.lookup fa18 = some ⟨oc18, od18, .func (fnOf "_law_odd" "_law_odd" (defArgs t_law_odd) (defBody t_law_odd) (defScope t_law_odd) .none kV18 dc18 pm18 an18 cd18 ct18), sl18⟩)
    (c18 : codeIn K cd18 "_law_odd" = true)
    (k18 : keepIn K (.ref fa18) = true)
    (a19 : nsIn K mainGlobals "_law_written" = some (some (.ref fa19)))
    (l19 : K.lookup fa19 = some ⟨oc19, od19, .func (fnOf "_law_written" "_law_written" (defArgs t_law_written) (defBody t_law_written) (defScope t_law_written) .none kV19 dc19 pm19 an19 cd19 ct19), sl19⟩)
    (c19 : codeIn K cd19 "_law_written" = true)
    (k19 : keepIn K (.ref fa19) = true)
    (a20 : nsIn K mainGlobals "_law_long_name" = some (some (.ref fa20)))
    (l20 : K.lookup fa20 = some ⟨oc20, od20, .func (fnOf "_law_long_name" "_law_long_name" (defArgs t_law_long_name) (defBody t_law_long_name) (defScope t_law_long_name) .none kV20 dc20 pm20 an20 cd20 ct20), sl20⟩)
    (c20 : codeIn K cd20 "_law_long_name" = true)
    (k20 : keepIn K (.ref fa20) = true)
    (a21 : nsIn K mainGlobals "_law_kind" = some (some (.ref fa21)))
    (l21 : K.lookup fa21 = some ⟨oc21, od21, .func (fnOf "_law_kind" "_law_kind" (defArgs t_law_kind) (defBody t_law_kind) (defScope t_law_kind) .none kV21 dc21 pm21 an21 cd21 ct21), sl21⟩)
    (c21 : codeIn K cd21 "_law_kind" = true)
    (k21 : keepIn K (.ref fa21) = true)
    (a22 : nsIn K mainGlobals "_law_is_written" = some (some (.ref fa22)))
    (l22 : K.lookup fa22 = some ⟨oc22, od22, .func (fnOf "_law_is_written" "_law_is_written" (defArgs t_law_is_written) (defBody t_law_is_written) (defScope t_law_is_written) .none kV22 dc22 pm22 an22 cd22 ct22), sl22⟩)
    (c22 : codeIn K cd22 "_law_is_written" = true)
    (k22 : keepIn K (.ref fa22) = true)
    (a23 : nsIn K mainGlobals "_law_is_name" = some (some (.ref fa23)))
    (l23 : K.lookup fa23 = some ⟨oc23, od23, .func (fnOf "_law_is_name" "_law_is_name" (defArgs t_law_is_name) (defBody t_law_is_name) (defScope t_law_is_name) .none kV23 dc23 pm23 an23 cd23 ct23), sl23⟩)
    (c23 : codeIn K cd23 "_law_is_name" = true)
    (k23 : keepIn K (.ref fa23) = true)
    (a24 : nsIn K mainGlobals "_law_is_headed" = some (some (.ref fa24)))
    (l24 : K.lookup fa24 = some ⟨oc24, od24, .func (fnOf "_law_is_headed" "_law_is_headed" (defArgs t_law_is_headed) (defBody t_law_is_headed) (defScope t_law_is_headed) .none kV24 dc24 pm24 an24 cd24 ct24), sl24⟩)
    (c24 : codeIn K cd24 "_law_is_headed" = true)
    (k24 : keepIn K (.ref fa24) = true)
    (a25 : nsIn K mainGlobals "_law_is_formed" = some (some (.ref fa25)))
    (l25 : K.lookup fa25 = some ⟨oc25, od25, .func (fnOf "_law_is_formed" "_law_is_formed" (defArgs t_law_is_formed) (defBody t_law_is_formed) (defScope t_law_is_formed) .none kV25 dc25 pm25 an25 cd25 ct25), sl25⟩)
    (c25 : codeIn K cd25 "_law_is_formed" = true)
    (k25 : keepIn K (.ref fa25) = true)
    (a26 : nsIn K mainGlobals "_law_measures" = some (some (.ref fa26)))
    (l26 : K.lookup fa26 = some ⟨oc26, od26, .func (fnOf "_law_measures" "_law_measures" (defArgs t_law_measures) (defBody t_law_measures) (defScope t_law_measures) .none kV26 dc26 pm26 an26 cd26 ct26), sl26⟩)
    (c26 : codeIn K cd26 "_law_measures" = true)
    (k26 : keepIn K (.ref fa26) = true)
    (a27 : nsIn K mainGlobals "_law_is_kind" = some (some (.ref fa27)))
    (l27 : K.lookup fa27 = some ⟨oc27, od27, .func (fnOf "_law_is_kind" "_law_is_kind" (defArgs t_law_is_kind) (defBody t_law_is_kind) (defScope t_law_is_kind) .none kV27 dc27 pm27 an27 cd27 ct27), sl27⟩)
    (c27 : codeIn K cd27 "_law_is_kind" = true)
    (k27 : keepIn K (.ref fa27) = true)
    (a28 : nsIn K mainGlobals "_law_bent" = some (some (.ref fa28)))
    (l28 : K.lookup fa28 = some ⟨oc28, od28, .func (fnOf "_law_bent" "_law_bent" (defArgs t_law_bent) (defBody t_law_bent) (defScope t_law_bent) .none kV28 dc28 pm28 an28 cd28 ct28), sl28⟩)
    (c28 : codeIn K cd28 "_law_bent" = true)
    (k28 : keepIn K (.ref fa28) = true)
    (a29 : nsIn K mainGlobals "_law_spoilt" = some (some (.ref fa29)))
    (l29 : K.lookup fa29 = some ⟨oc29, od29, .func (fnOf "_law_spoilt" "_law_spoilt" (defArgs t_law_spoilt) (defBody t_law_spoilt) (defScope t_law_spoilt) .none kV29 dc29 pm29 an29 cd29 ct29), sl29⟩)
    (c29 : codeIn K cd29 "_law_spoilt" = true)
    (k29 : keepIn K (.ref fa29) = true)
    (a30 : nsIn K mainGlobals "_law_near_name" = some (some (.ref fa30)))
    (l30 : K.lookup fa30 = some ⟨oc30, od30, .func (fnOf "_law_near_name" "_law_near_name" (defArgs t_law_near_name) (defBody t_law_near_name) (defScope t_law_near_name) .none kV30 dc30 pm30 an30 cd30 ct30), sl30⟩)
    (c30 : codeIn K cd30 "_law_near_name" = true)
    (k30 : keepIn K (.ref fa30) = true)
    (a31 : nsIn K mainGlobals "_law_tower" = some (some (.ref fa31)))
    (l31 : K.lookup fa31 = some ⟨oc31, od31, .func (fnOf "_law_tower" "_law_tower" (defArgs t_law_tower) (defBody t_law_tower) (defScope t_law_tower) .none kV31 dc31 pm31 an31 cd31 ct31), sl31⟩)
    (c31 : codeIn K cd31 "_law_tower" = true)
    (k31 : keepIn K (.ref fa31) = true)
    (a32 : nsIn K mainGlobals "_law_spread" = some (some (.ref fa32)))
    (l32 : K.lookup fa32 = some ⟨oc32, od32, .func (fnOf "_law_spread" "_law_spread" (defArgs t_law_spread) (defBody t_law_spread) (defScope t_law_spread) .none kV32 dc32 pm32 an32 cd32 ct32), sl32⟩)
    (c32 : codeIn K cd32 "_law_spread" = true)
    (k32 : keepIn K (.ref fa32) = true)
    (a33 : nsIn K mainGlobals "_law_wide" = some (some (.ref fa33)))
    (l33 : K.lookup fa33 = some ⟨oc33, od33, .func (fnOf "_law_wide" "_law_wide" (defArgs t_law_wide) (defBody t_law_wide) (defScope t_law_wide) .none kV33 dc33 pm33 an33 cd33 ct33), sl33⟩)
    (c33 : codeIn K cd33 "_law_wide" = true)
    (k33 : keepIn K (.ref fa33) = true)
    (a34 : nsIn K mainGlobals "_law_is_judged" = some (some (.ref fa34)))
    (l34 : K.lookup fa34 = some ⟨oc34, od34, .func (fnOf "_law_is_judged" "_law_is_judged" (defArgs t_law_is_judged) (defBody t_law_is_judged) (defScope t_law_is_judged) .none kV34 dc34 pm34 an34 cd34 ct34), sl34⟩)
    (c34 : codeIn K cd34 "_law_is_judged" = true)
    (k34 : keepIn K (.ref fa34) = true)
    (a35 : nsIn K mainGlobals "_law_is_told" = some (some (.ref fa35)))
    (l35 : K.lookup fa35 = some ⟨oc35, od35, .func (fnOf "_law_is_told" "_law_is_told" (defArgs t_law_is_told) (defBody t_law_is_told) (defScope t_law_is_told) .none kV35 dc35 pm35 an35 cd35 ct35), sl35⟩)
    (c35 : codeIn K cd35 "_law_is_told" = true)
    (k35 : keepIn K (.ref fa35) = true)
    (a36 : nsIn K mainGlobals "_law_names_right" = some (some (.ref fa36)))
    (l36 : K.lookup fa36 = some ⟨oc36, od36, .func (fnOf "_law_names_right" "_law_names_right" (defArgs t_law_names_right) (defBody t_law_names_right) (defScope t_law_names_right) .none kV36 dc36 pm36 an36 cd36 ct36), sl36⟩)
    (c36 : codeIn K cd36 "_law_names_right" = true)
    (k36 : keepIn K (.ref fa36) = true)
    (a37 : nsIn K mainGlobals "_law_right" = some (some (.ref fa37)))
    (l37 : K.lookup fa37 = some ⟨oc37, od37, .func (fnOf "_law_right" "_law_right" (defArgs t_law_right) (defBody t_law_right) (defScope t_law_right) .none kV37 dc37 pm37 an37 cd37 ct37), sl37⟩)
    (c37 : codeIn K cd37 "_law_right" = true)
    (k37 : keepIn K (.ref fa37) = true)
    (a38 : nsIn K mainGlobals "law" = some (some (.ref fa38)))
    (l38 : K.lookup fa38 = some ⟨oc38, od38, .func (fnOf "law" "law" (defArgs t_law) (defBody t_law) (defScope t_law) .none kV38 dc38 pm38 an38 cd38 ct38), sl38⟩)
    (c38 : codeIn K cd38 "law" = true)
    (k38 : keepIn K (.ref fa38) = true)
    (z0 : nsIn K mainGlobals "all" = some none)
    (z1 : nsIn K mainGlobals "len" = some none)
    (z2 : nsIn K mainGlobals "isinstance" = some none)
    (z3 : nsIn K mainGlobals "str" = some none)
    (z4 : nsIn K mainGlobals "tuple" = some none)
    (z5 : nsIn K mainGlobals "max" = some none)
    (z6 : nsIn K mainGlobals "sum" = some none)
    (z7 : nsIn K mainGlobals "sorted" = some none)
    (z8 : nsIn K mainGlobals "abs" = some none)
    (z9 : nsIn K mainGlobals "int" = some none)
    (z10 : nsIn K mainGlobals "divmod" = some none)
    (z11 : nsIn K mainGlobals "repr" = some none)
    (z12 : nsIn K mainGlobals "range" = some none)
    (z13 : nsIn K mainGlobals "list" = some none)
    (z14 : nsIn K mainGlobals "bool" = some none)
    (z15 : nsIn K mainGlobals "min" = some none)
    (da0 : nsIn K mainGlobals "KIND_SIZES" = some (some (.ref dd0)))
    (dl0 : K.lookup dd0 = some ⟨.type "dict", none, .dict #[⟨dh0_0, .str "thing" dt0_0, .int 0 du0_0⟩, ⟨dh0_1, .str "none" dt0_1, .int 0 du0_1⟩, ⟨dh0_2, .str "unit" dt0_2, .int 0 du0_2⟩, ⟨dh0_3, .str "pair" dt0_3, .int 2 du0_3⟩, ⟨dh0_4, .str "either" dt0_4, .int 2 du0_4⟩] dn0, #[]⟩)
    (dq0 : KeysLit w.params [⟨dh0_0, .str "thing" dt0_0, .int 0 du0_0⟩, ⟨dh0_1, .str "none" dt0_1, .int 0 du0_1⟩, ⟨dh0_2, .str "unit" dt0_2, .int 0 du0_2⟩, ⟨dh0_3, .str "pair" dt0_3, .int 2 du0_3⟩, ⟨dh0_4, .str "either" dt0_4, .int 2 du0_4⟩])
    (ds0 : (dd0 == sysModules) = false)
    (gg0 : nsIn K mainGlobals "SMALL" = some (some (.str "abcdefghijklmnopqrstuvwxyz" gt0)))
    (gg1 : nsIn K mainGlobals "FIGURES" = some (some (.str "0123456789" gt1)))
    (gg2 : nsIn K mainGlobals "CAPITALS" = some (some (.str "ABCDEFGHIJKLMNOPQRSTUVWXYZ" gt2)))
    (gg3 : nsIn K mainGlobals "MOST_SIGNS" = some (some (.int 8 gt3)))
    (gg4 : nsIn K mainGlobals "MOST_NAME" = some (some (.int 60 gt4)))
    (gg5 : nsIn K mainGlobals "MOST_PARTS" = some (some (.int 2000 gt5)))
    (gg6 : nsIn K mainGlobals "MOST_DEEP" = some (some (.int 30 gt6))) : Txt K w mg :=
  ⟨⟨_, _, mg_of X G a0, fun_mk (st := t_is_written_name) l0 c0 k0⟩,
   ⟨_, _, mg_of X G a1, fun_mk (st := t_is_named) l1 c1 k1⟩,
   ⟨_, _, mg_of X G a2, fun_mk (st := t_is_kind_formed) l2 c2 k2⟩,
   ⟨_, _, mg_of X G a3, fun_mk (st := t_kinds_in) l3 c3 k3⟩,
   ⟨_, _, mg_of X G a4, fun_mk (st := t_kind_depth) l4 c4 k4⟩,
   ⟨_, _, mg_of X G a5, fun_mk (st := t_count_kinds) l5 c5 k5⟩,
   ⟨_, _, mg_of X G a6, fun_mk (st := t_is_kinded) l6 c6 k6⟩,
   ⟨_, _, mg_of X G a7, fun_mk (st := t_names_by) l7 c7 k7⟩,
   ⟨_, _, mg_of X G a8, fun_mk (st := t_check_kind) l8 c8 k8⟩,
   ⟨_, _, mg_of X G a9, fun_mk (st := t_is_name) l9 c9 k9⟩,
   ⟨_, _, mg_of X G a10, fun_mk (st := t_is_kind) l10 c10 k10⟩,
   ⟨_, _, mg_of X G a11, fun_mk (st := t_depth_of_kind) l11 c11 k11⟩,
   ⟨_, _, mg_of X G a12, fun_mk (st := t_parts_of_kind) l12 c12 k12⟩,
   ⟨_, _, mg_of X G a13, fun_mk (st := t_names_in) l13 c13 k13⟩,
   ⟨_, _, mg_of X G a14, fun_mk (st := t_law_well) l14 c14 k14⟩,
   ⟨_, _, mg_of X G a15, fun_mk (st := t_law_draw) l15 c15 k15⟩,
   ⟨_, _, mg_of X G a16, fun_mk (st := t_law_pick) l16 c16 k16⟩,
   ⟨_, _, mg_of X G a17, fun_mk (st := t_law_same) l17 c17 k17⟩,
   ⟨_, _, mg_of X G a18, fun_mk (st := t_law_odd) l18 c18 k18⟩,
   ⟨_, _, mg_of X G a19, fun_mk (st := t_law_written) l19 c19 k19⟩,
   ⟨_, _, mg_of X G a20, fun_mk (st := t_law_long_name) l20 c20 k20⟩,
   ⟨_, _, mg_of X G a21, fun_mk (st := t_law_kind) l21 c21 k21⟩,
   ⟨_, _, mg_of X G a22, fun_mk (st := t_law_is_written) l22 c22 k22⟩,
   ⟨_, _, mg_of X G a23, fun_mk (st := t_law_is_name) l23 c23 k23⟩,
   ⟨_, _, mg_of X G a24, fun_mk (st := t_law_is_headed) l24 c24 k24⟩,
   ⟨_, _, mg_of X G a25, fun_mk (st := t_law_is_formed) l25 c25 k25⟩,
   ⟨_, _, mg_of X G a26, fun_mk (st := t_law_measures) l26 c26 k26⟩,
   ⟨_, _, mg_of X G a27, fun_mk (st := t_law_is_kind) l27 c27 k27⟩,
   ⟨_, _, mg_of X G a28, fun_mk (st := t_law_bent) l28 c28 k28⟩,
   ⟨_, _, mg_of X G a29, fun_mk (st := t_law_spoilt) l29 c29 k29⟩,
   ⟨_, _, mg_of X G a30, fun_mk (st := t_law_near_name) l30 c30 k30⟩,
   ⟨_, _, mg_of X G a31, fun_mk (st := t_law_tower) l31 c31 k31⟩,
   ⟨_, _, mg_of X G a32, fun_mk (st := t_law_spread) l32 c32 k32⟩,
   ⟨_, _, mg_of X G a33, fun_mk (st := t_law_wide) l33 c33 k33⟩,
   ⟨_, _, mg_of X G a34, fun_mk (st := t_law_is_judged) l34 c34 k34⟩,
   ⟨_, _, mg_of X G a35, fun_mk (st := t_law_is_told) l35 c35 k35⟩,
   ⟨_, _, mg_of X G a36, fun_mk (st := t_law_names_right) l36 c36 k36⟩,
   ⟨_, _, mg_of X G a37, fun_mk (st := t_law_right) l37 c37 k37⟩,
   ⟨_, _, mg_of X G a38, fun_mk (st := t_law) l38 c38 k38⟩,
   mg_none_of X G z0,
   mg_none_of X G z1,
   mg_none_of X G z2,
   mg_none_of X G z3,
   mg_none_of X G z4,
   mg_none_of X G z5,
   mg_none_of X G z6,
   mg_none_of X G z7,
   mg_none_of X G z8,
   mg_none_of X G z9,
   mg_none_of X G z10,
   mg_none_of X G z11,
   mg_none_of X G z12,
   mg_none_of X G z13,
   mg_none_of X G z14,
   mg_none_of X G z15,
   ⟨dd0, _, _, mg_of X G da0, ⟨dl0, dq0, ds0⟩, kdat_KIND_SIZES dl0⟩,
   ⟨_, .str _, mg_of X G gg0, ⟨_, rfl⟩, fun F => .str _⟩,
   ⟨_, .str _, mg_of X G gg1, ⟨_, rfl⟩, fun F => .str _⟩,
   ⟨_, .str _, mg_of X G gg2, ⟨_, rfl⟩, fun F => .str _⟩,
   ⟨_, .int _, mg_of X G gg3, ⟨_, rfl⟩, fun F => .int _⟩,
   ⟨_, .int _, mg_of X G gg4, ⟨_, rfl⟩, fun F => .int _⟩,
   ⟨_, .int _, mg_of X G gg5, ⟨_, rfl⟩, fun F => .int _⟩,
   ⟨_, .int _, mg_of X G gg6, ⟨_, rfl⟩, fun F => .int _⟩⟩
end
end DL.K02
/-! text DLKind -/
namespace DL
open PySem
/-! ### kinds, by data -/
inductive Kd where
  | thing
  | non
  | unit
  | name (n : Str)
  | pair (a b : Kd)
  | either (a b : Kd)
namespace Kd
def enc : Kd → PyData
  | .thing => .tuple [.str "thing"]
  | .non => .tuple [.str "none"]
  | .unit => .tuple [.str "unit"]
  | .name n => .tuple [.str "name", .str n]
  | .pair a b => .tuple [.str "pair", enc a, enc b]
  | .either a b => .tuple [.str "either", enc a, enc b]
def head : Kd → Str
  | .thing => "thing"
  | .non => "none"
  | .unit => "unit"
  | .name _ => "name"
  | .pair _ _ => "pair"
  | .either _ _ => "either"
def dep : Kd → Nat
  | .pair a b => max (dep a) (dep b) + 1
  | .either a b => max (dep a) (dep b) + 1
  | _ => 1
def parts : Kd → Nat
  | .pair a b => parts a + parts b + 1
  | .either a b => parts a + parts b + 1
  | _ => 1
def names : Kd → List Str
  | .name n => [n]
  | .pair a b => names a ++ names b
  | .either a b => names a ++ names b
  | _ => []
theorem enc_plain : ∀ k : Kd, k.enc.plain = true
  | .thing | .non | .unit | .name _ => rfl
  | .pair a b => by simp [enc, PyData.plain, PyData.plainAll, enc_plain a, enc_plain b]
  | .either a b => by simp [enc, PyData.plain, PyData.plainAll, enc_plain a, enc_plain b]
theorem enc_depth : ∀ k : Kd, k.enc.depth = k.dep
  | .thing | .non | .unit | .name _ => rfl
  | .pair a b => by simp [enc, dep, PyData.depth, PyData.depthAll, enc_depth a, enc_depth b]
  | .either a b => by simp [enc, dep, PyData.depth, PyData.depthAll, enc_depth a, enc_depth b]
theorem dep_pos (k : Kd) : 1 ≤ k.dep := by cases k <;> simp [dep]
theorem parts_pos (k : Kd) : 1 ≤ k.parts := by cases k <;> simp [parts]
theorem str_ne {s t : Str} (h : (s == t) = false) : s ≠ t := fun z => by subst z; simp at h
/-- == of two kinds -/
theorem e_tt (xs ys : List PyData) : PyData.eqv (.tuple xs) (.tuple ys) = PyData.eqvAll xs ys := by rw [PyData.eqv]
theorem e_ss (x y : Str) : PyData.eqv (.str x) (.str y) = (x == y) := by rw [PyData.eqv]
theorem e_cc (x y : PyData) (xs ys : List PyData) : PyData.eqvAll (x :: xs) (y :: ys) = (PyData.eqv x y && PyData.eqvAll xs ys) := by rw [PyData.eqvAll]
theorem e_nn : PyData.eqvAll [] [] = true := by rw [PyData.eqvAll]
theorem eqv_head {h h' : Str} {xs ys : List PyData} (e : (h == h') = false) : PyData.eqv (.tuple (.str h :: xs)) (.tuple (.str h' :: ys)) = false := by
  rw [e_tt, e_cc, e_ss, e, Bool.false_and]
theorem eqv_none {a b : Kd} (h : PyData.eqv a.enc b.enc = false) (n : a ≠ b) : PyData.eqv a.enc b.enc = true ↔ a = b := by
  rw [h]
  exact ⟨fun z => (Bool.false_ne_true z).elim, fun z => (n z).elim⟩
theorem eqv_enc (a : Kd) : ∀ b : Kd, PyData.eqv a.enc b.enc = true ↔ a = b := by
  induction a with
  | thing =>
    intro b
    cases b with
    | thing =>
      simp only [enc, e_tt, e_cc, e_ss, e_nn, beq_self_eq_true, Bool.and_true]
    | non =>
      exact eqv_none (eqv_head (by decide)) (fun z => nomatch z)
    | unit =>
      exact eqv_none (eqv_head (by decide)) (fun z => nomatch z)
    | name m =>
      exact eqv_none (eqv_head (by decide)) (fun z => nomatch z)
    | pair b1 b2 =>
      exact eqv_none (eqv_head (by decide)) (fun z => nomatch z)
    | either b1 b2 =>
      exact eqv_none (eqv_head (by decide)) (fun z => nomatch z)
  | non =>
    intro b
    cases b with
    | thing =>
      exact eqv_none (eqv_head (by decide)) (fun z => nomatch z)
    | non =>
      simp only [enc, e_tt, e_cc, e_ss, e_nn, beq_self_eq_true, Bool.and_true]
    | unit =>
      exact eqv_none (eqv_head (by decide)) (fun z => nomatch z)
    | name m =>
      exact eqv_none (eqv_head (by decide)) (fun z => nomatch z)
    | pair b1 b2 =>
      exact eqv_none (eqv_head (by decide)) (fun z => nomatch z)
    | either b1 b2 =>
      exact eqv_none (eqv_head (by decide)) (fun z => nomatch z)
  | unit =>
    intro b
    cases b with
    | thing =>
      exact eqv_none (eqv_head (by decide)) (fun z => nomatch z)
    | non =>
      exact eqv_none (eqv_head (by decide)) (fun z => nomatch z)
    | unit =>
      simp only [enc, e_tt, e_cc, e_ss, e_nn, beq_self_eq_true, Bool.and_true]
    | name m =>
      exact eqv_none (eqv_head (by decide)) (fun z => nomatch z)
    | pair b1 b2 =>
      exact eqv_none (eqv_head (by decide)) (fun z => nomatch z)
    | either b1 b2 =>
      exact eqv_none (eqv_head (by decide)) (fun z => nomatch z)
  | name n =>
    intro b
    cases b with
    | thing =>
      exact eqv_none (eqv_head (by decide)) (fun z => nomatch z)
    | non =>
      exact eqv_none (eqv_head (by decide)) (fun z => nomatch z)
    | unit =>
      exact eqv_none (eqv_head (by decide)) (fun z => nomatch z)
    | name m =>
      simp only [enc, e_tt, e_cc, e_ss, e_nn, beq_self_eq_true, Bool.and_true, Bool.true_and, beq_iff_eq, name.injEq]
    | pair b1 b2 =>
      exact eqv_none (eqv_head (by decide)) (fun z => nomatch z)
    | either b1 b2 =>
      exact eqv_none (eqv_head (by decide)) (fun z => nomatch z)
  | pair a1 a2 h1 h2 =>
    intro b
    cases b with
    | thing =>
      exact eqv_none (eqv_head (by decide)) (fun z => nomatch z)
    | non =>
      exact eqv_none (eqv_head (by decide)) (fun z => nomatch z)
    | unit =>
      exact eqv_none (eqv_head (by decide)) (fun z => nomatch z)
    | name m =>
      exact eqv_none (eqv_head (by decide)) (fun z => nomatch z)
    | pair b1 b2 =>
      simp only [enc, e_tt, e_cc, e_ss, e_nn, beq_self_eq_true, Bool.and_true, Bool.true_and, Bool.and_eq_true, h1 b1, h2 b2, pair.injEq]
    | either b1 b2 =>
      exact eqv_none (eqv_head (by decide)) (fun z => nomatch z)
  | either a1 a2 h1 h2 =>
    intro b
    cases b with
    | thing =>
      exact eqv_none (eqv_head (by decide)) (fun z => nomatch z)
    | non =>
      exact eqv_none (eqv_head (by decide)) (fun z => nomatch z)
    | unit =>
      exact eqv_none (eqv_head (by decide)) (fun z => nomatch z)
    | name m =>
      exact eqv_none (eqv_head (by decide)) (fun z => nomatch z)
    | pair b1 b2 =>
      exact eqv_none (eqv_head (by decide)) (fun z => nomatch z)
    | either b1 b2 =>
      simp only [enc, e_tt, e_cc, e_ss, e_nn, beq_self_eq_true, Bool.and_true, Bool.true_and, Bool.and_eq_true, h1 b1, h2 b2, either.injEq]
end Kd
instance : DecidableEq Kd := fun a b => if h : PyData.eqv a.enc b.enc = true then .isTrue ((Kd.eqv_enc a b).mp h) else .isFalse fun z => h ((Kd.eqv_enc a b).mpr z)
theorem Kd.eqv_dec (a b : Kd) : PyData.eqv a.enc b.enc = decide (a = b) := by
  by_cases h : a = b
  · simp [h, (Kd.eqv_enc b b).mpr rfl]
  · simp only [h, decide_false]
    cases q : PyData.eqv a.enc b.enc with
    | false => rfl
    | true => exact absurd ((Kd.eqv_enc a b).mp q) h
/-- a kind is no row of a book -/
theorem Kd.noRow (k : Kd) : bookRow k.enc = false := by cases k <;> rfl
theorem bookish_kd (k : Kd) (r : List PyData) : bookish (k.enc :: r) = false := rfl
end DL
/-! text DLEval -/
namespace DL
open PySem
/-! ### words and operators, evaluated -/
theorem optK_none' {α : Type} {k : α → Prop} : optK none k = False := rfl
theorem oAdd_ii (i j : Int) : oAdd (.int i) (.int j) = some (.int (i + j)) := rfl
theorem oAdd_ss {s t : Str} (h : s.length + t.length ≤ lim) : oAdd (.str s) (.str t) = some (.str (s ++ t)) := if_pos h
theorem oSub_ii (i j : Int) : oSub (.int i) (.int j) = some (.int (i - j)) := rfl
theorem oEq_of {a b : PyData} (h : okEq a b = true) : oEq a b = some (.bool (PyData.eqv a b)) := if_pos h
theorem oNe_of {a b : PyData} (h : okEq a b = true) : oNe a b = some (.bool (!PyData.eqv a b)) := if_pos h
theorem okEq_ii (i j : Int) : okEq (.int i) (.int j) = true := rfl
theorem okEq_ss (i j : Str) : okEq (.str i) (.str j) = true := rfl
theorem okEq_kk {a b : Kd} (h : min a.dep b.dep ≤ 200) : okEq a.enc b.enc = true := by
  simp only [okEq, Kd.enc_plain, Kd.enc_depth, Bool.true_and]
  exact decide_eq_true h
theorem eqv_ii (i j : Int) : PyData.eqv (.int i) (.int j) = (i == j) := by rw [PyData.eqv]
theorem oEq_ss (s t : Str) : oEq (.str s) (.str t) = some (.bool (s == t)) := by rw [oEq_of (okEq_ss s t), Kd.e_ss]
theorem oNe_ss (s t : Str) : oNe (.str s) (.str t) = some (.bool (!(s == t))) := by rw [oNe_of (okEq_ss s t), Kd.e_ss]
theorem oEq_ii (s t : Int) : oEq (.int s) (.int t) = some (.bool (s == t)) := by rw [oEq_of (okEq_ii s t), eqv_ii]
theorem oNe_ii (s t : Int) : oNe (.int s) (.int t) = some (.bool (!(s == t))) := by rw [oNe_of (okEq_ii s t), eqv_ii]
theorem oEq_kk {a b : Kd} (h : min a.dep b.dep ≤ 200) : oEq a.enc b.enc = some (.bool (decide (a = b))) := by rw [oEq_of (okEq_kk h), Kd.eqv_dec]
theorem ix_0 (x : PyData) (r : List PyData) : oIx (.tuple (x :: r)) (.int 0) = some x := by
  show L2.atI (x :: r) 0 = some x
  exact L2.atI_nat (j := 0) rfl
theorem ix_1 (x y : PyData) (r : List PyData) : oIx (.tuple (x :: y :: r)) (.int 1) = some y := by
  show L2.atI (x :: y :: r) 1 = some y
  exact L2.atI_nat (j := 1) rfl
theorem ix_2 (x y z : PyData) (r : List PyData) : oIx (.tuple (x :: y :: z :: r)) (.int 2) = some z := by
  show L2.atI (x :: y :: z :: r) 2 = some z
  exact L2.atI_nat (j := 2) rfl
theorem ix_k0 (k : Kd) : oIx k.enc (.int 0) = some (.str k.head) := by
  cases k <;> exact ix_0 _ _
/-- frozen data in, frozen data out -/
def spF (pre : List PyData → PyData → Prop) : SpD := fun args st Q _ => ∃ xs y, args = xs.map .d ∧ pre xs y ∧ Q (.d y) st
theorem spF_go {pre : List PyData → PyData → Prop} {xs : List PyData} {y : PyData} {st : Store} {Q : RK} {E : EK} (h : pre xs y) (q : Q (.d y) st) : spF pre (xs.map .d) st Q E := ⟨xs, y, rfl, h, q⟩
def gapT : Kd → Str
  | .name m => m
  | _ => ""
def isGap (g : Kd) : Prop := g = .thing ∨ ∃ m, g = .name m ∧ m.length ≤ 100
def nameBy (n : Str) (g : Kd) : Str := n ++ "'" ++ gapT g
def byK : Kd → Kd → Kd
  | .name n, g => if Kd.name n = g then .either .unit (.name (nameBy n g)) else .name (nameBy n g)
  | .either a b, g => .either (byK a g) (byK b g)
  | .pair a b, g => .either (.pair (byK a g) b) (.pair a (byK b g))
  | .thing, g => if Kd.thing = g then .unit else .non
  | .unit, _ => .non
  | .non, _ => .non
theorem isGap_dep {g : Kd} (h : isGap g) : g.dep = 1 := by
  rcases h with rfl | ⟨m, rfl, _⟩ <;> rfl
theorem len1 : ("'" : Str).length = 1 := rfl
theorem len0 : ("" : Str).length = 0 := rfl
theorem str_len_append (s t : Str) : (s ++ t).length = s.length + t.length := by
  show (s.cps ++ t.cps).size = _
  rw [Array.size_append]
  rfl
theorem ix_n1 (n : Str) : oIx (Kd.name n).enc (.int 1) = some (.str n) := ix_1 _ _ _
theorem ix_p1 (a b : Kd) : oIx (Kd.pair a b).enc (.int 1) = some a.enc := ix_1 _ _ _
theorem ix_p2 (a b : Kd) : oIx (Kd.pair a b).enc (.int 2) = some b.enc := ix_2 _ _ _ _
theorem ix_e1 (a b : Kd) : oIx (Kd.either a b).enc (.int 1) = some a.enc := ix_1 _ _ _
theorem ix_e2 (a b : Kd) : oIx (Kd.either a b).enc (.int 2) = some b.enc := ix_2 _ _ _ _
theorem set0 (x y : Option DV) (r : Env) : (x :: r).set 0 y = y :: r := rfl
theorem setS (x y : Option DV) (r : Env) (i : Nat) : (x :: r).set (i + 1) y = x :: r.set i y := rfl
theorem get0 (x : Option DV) (r : Env) : (x :: r)[0]? = some x := rfl
theorem getS (x : Option DV) (r : Env) (i : Nat) : (x :: r)[i + 1]? = r[i]? := rfl
theorem asB_b (b : Bool) : asB (.bool b) = some b := rfl
theorem rd_d (st : Store) (x : PyData) : rd st (.d x) = some x := rfl
theorem rdS_d (st : Store) (x : PyData) : rdS st (.d x) = some x := rfl
theorem frs_nil : DL.frs [] = some [] := rfl
theorem frs_d (x : PyData) (r : List DV) : DL.frs (.d x :: r) = (DL.frs r).map (x :: ·) := by
  show (match DL.frs r with | some xs => some (x :: xs) | none => none) = _
  cases DL.frs r <;> rfl
theorem rds_nil (st : Store) : rds st [] = some [] := rfl
theorem rds_d (st : Store) (x : PyData) (r : List DV) : rds st (.d x :: r) = (rds st r).map (x :: ·) := by
  show (match rd st (.d x), rds st r with | some x, some xs => some (x :: xs) | _, _ => none) = _
  rw [rd_d]
  cases rds st r <;> rfl
theorem lim_of {n : Nat} (h : n ≤ 10000000) : n ≤ lim := by unfold lim; omega
/-- a frozen answer leaves the store as it was -/
theorem ret_d {n0 : Nat} {Q : RK} {x : PyData} {st : Store} (h : st.length = n0) : retK n0 Q (.d x) st = Q (.d x) st := by
  show Q (.d x) (st.take n0) = _
  rw [← h, List.take_length]
theorem fin_rt (n0 : Nat) (Q : RK) : (finOf n0 Q).rt = retK n0 Q := rfl
theorem fin_nx (n0 : Nat) (Q : RK) (e : Env) (st : Store) : (finOf n0 Q).nx e st = retK n0 Q (.d .none) st := rfl
theorem start_eq (n : Nat) (args : List DV) : startE n args = args.map some ++ List.replicate (n - args.length) none := rfl
theorem lit0 : (0 ≤ lim) = True := eq_true (by decide)
theorem lit1 : (0 + 1 ≤ lim) = True := eq_true (by decide)
theorem lit2 : (0 + 1 + 1 ≤ lim) = True := eq_true (by decide)
theorem lit3 : (0 + 1 + 1 + 1 ≤ lim) = True := eq_true (by decide)
theorem lit4 : (0 + 1 + 1 + 1 + 1 ≤ lim) = True := eq_true (by decide)
theorem lit5 : (0 + 1 + 1 + 1 + 1 + 1 ≤ lim) = True := eq_true (by decide)
theorem lit6 : (0 + 1 + 1 + 1 + 1 + 1 + 1 ≤ lim) = True := eq_true (by decide)
theorem lit7 : (0 + 1 + 1 + 1 + 1 + 1 + 1 + 1 ≤ lim) = True := eq_true (by decide)
theorem lit8 : (0 + 1 + 1 + 1 + 1 + 1 + 1 + 1 + 1 ≤ lim) = True := eq_true (by decide)
theorem lit9 : (0 + 1 + 1 + 1 + 1 + 1 + 1 + 1 + 1 + 1 ≤ lim) = True := eq_true (by decide)
theorem lit10 : (0 + 1 + 1 + 1 + 1 + 1 + 1 + 1 + 1 + 1 + 1 ≤ lim) = True := eq_true (by decide)
theorem by_same_name (m : Str) : byK (.name m) (.name m) = .either .unit (.name (nameBy m (.name m))) := if_pos rfl
theorem by_same_thing : byK .thing .thing = .unit := if_pos rfl
theorem by_name {n : Str} {g : Kd} (h : Kd.name n ≠ g) : byK (.name n) g = .name (nameBy n g) := if_neg h
theorem by_thing {g : Kd} (h : Kd.thing ≠ g) : byK .thing g = .non := if_neg h
theorem hd1 : Kd.thing.head = "thing" := rfl
theorem hd2 : Kd.non.head = "none" := rfl
theorem hd3 : Kd.unit.head = "unit" := rfl
theorem hd4 (n : Str) : (Kd.name n).head = "name" := rfl
theorem hd5 (a b : Kd) : (Kd.pair a b).head = "pair" := rfl
theorem hd6 (a b : Kd) : (Kd.either a b).head = "either" := rfl
end DL
local macro_rules
  | `(tactic| push_cast [$xs,*]) => `(tactic| simp only [DL.wSeq, DL.wIf, DL.wRet, DL.wRetN, DL.wAsg, DL.wExpr, DL.wSkip, DL.wBrk, DL.wCnt, DL.wVar, DL.wC, DL.wBin, DL.wUn, DL.wIfE, DL.wT, DL.wTr, DL.wNot, DL.wAnd, DL.wOr, DL.wAndV, DL.wOrV, DL.wChain, DL.wBinS, DL.wUnS, DL.wOpN, DL.wTup, DL.wLst, DL.wCons, DL.wNil, DL.wCall, DL.wMs, DL.wPar, DL.wPar3, DL.gN, DL.gTupN, DL.gCons, DL.gNil, DL.isD, DL.isSt, DL.isDc, DL.optK_some, DL.rd_d, DL.rdS_d, DL.frs_nil, DL.frs_d, DL.rds_nil, DL.rds_d, DL.on1, DL.on2, DL.asB_b, DL.set0, DL.setS, DL.get0, DL.getS, DL.startE, List.map_cons, List.map_nil, List.length_cons, List.length_nil, List.replicate, List.cons_append, List.nil_append, List.append_nil, Option.map_some, Option.map_none, Option.bind_some, DL.oEq_ss, DL.oNe_ss, DL.oEq_ii, DL.oNe_ii, DL.oAdd_ii, DL.oSub_ii, DL.ix_0, DL.ix_1, DL.ix_2, DL.ix_k0, DL.ix_n1, DL.ix_p1, DL.ix_p2, DL.ix_e1, DL.ix_e2, DL.hd1, DL.hd2, DL.hd3, DL.hd4, DL.hd5, DL.hd6, DL.fin_rt, DL.fin_nx, DL.ret_d, if_true, if_false, Bool.false_eq_true, Bool.true_eq_false, Bool.not_true, Bool.not_false, beq_self_eq_true, decide_true, decide_false, true_and, and_true, DL.lit0, DL.lit1, DL.lit2, DL.lit3, DL.lit4, DL.lit5, DL.lit6, DL.lit7, DL.lit8, DL.lit9, DL.lit10, DL.wYes, $xs,*])
/-! text DLText -/
namespace DL
open PySem PySem.Builtin.Str
/-! ### texts in pieces -/
theorem cut_same {c : Nat} : ∀ (x y A B : List Nat), c ∉ x → c ∉ y → x ++ c :: A = y ++ c :: B → x = y ∧ A = B
  | [], [], A, B, _, _, h => ⟨rfl, by simpa using h⟩
  | [], b :: y, A, B, _, hy, h => by
    simp at h
    exact absurd (by rw [h.1]; exact List.mem_cons_self ..) hy
  | a :: x, [], A, B, hx, _, h => by
    simp at h
    exact absurd (by rw [← h.1]; exact List.mem_cons_self ..) hx
  | a :: x, b :: y, A, B, hx, hy, h => by
    simp at h
    obtain ⟨h1, h2⟩ := cut_same x y A B (fun z => hx (List.mem_cons_of_mem _ z)) (fun z => hy (List.mem_cons_of_mem _ z)) h.2
    exact ⟨by rw [h.1, h1], h2⟩
theorem str_app (s t : Str) : (s ++ t).cps.toList = s.cps.toList ++ t.cps.toList := by
  show (s.cps ++ t.cps).toList = _
  simp
theorem str_ext {s t : Str} (h : s.cps.toList = t.cps.toList) : s = t := by
  cases s; cases t
  simp at h
  simp [h]
abbrev tick : Str := "'"
theorem tick_cps : tick.cps.toList = [39] := rfl
theorem tick_eq : tick = ⟨#[39]⟩ := rfl
theorem join1 (x : Str) : Str.join tick [x] = x := rfl
theorem join2 (x y : Str) (r : List Str) : Str.join tick (x :: y :: r) = x ++ tick ++ Str.join tick (y :: r) := rfl
def free (x : Str) : Prop := 39 ∉ x.cps.toList
theorem join_inj : ∀ (xs ys : List Str), xs ≠ [] → ys ≠ [] → (∀ x ∈ xs, free x) → (∀ y ∈ ys, free y) → Str.join tick xs = Str.join tick ys → xs = ys
  | [], _, h, _, _, _, _ => absurd rfl h
  | _, [], _, h, _, _, _ => absurd rfl h
  | [x], [y], _, _, _, _, h => by rw [join1, join1] at h; rw [h]
  | [x], y :: y2 :: r, _, _, hx, _, h => by
    rw [join1, join2] at h
    refine absurd ?_ (hx x (List.mem_cons_self ..))
    rw [h, str_app, str_app, tick_cps]
    simp
  | x :: x2 :: r, [y], _, _, _, hy, h => by
    rw [join1, join2] at h
    refine absurd ?_ (hy y (List.mem_cons_self ..))
    rw [← h, str_app, str_app, tick_cps]
    simp
  | x :: x2 :: r, y :: y2 :: s, _, _, hx, hy, h => by
    rw [join2, join2] at h
    have h' := congrArg (fun z : Str => z.cps.toList) h
    simp only [str_app, tick_cps, List.append_assoc, List.cons_append, List.nil_append] at h'
    obtain ⟨e1, e2⟩ := cut_same _ _ _ _ (hx x (List.mem_cons_self ..)) (hy y (List.mem_cons_self ..)) h'
    have e3 := join_inj (x2 :: r) (y2 :: s) (by simp) (by simp) (fun z hz => hx z (List.mem_cons_of_mem _ hz)) (fun z hz => hy z (List.mem_cons_of_mem _ hz)) (str_ext e2)
    rw [str_ext e1, e3]
theorem split_join (xs : List Str) (h0 : xs ≠ []) (hf : ∀ x ∈ xs, free x) : Txt.split (Str.join tick xs) tick = xs := by
  have hs := StrLaws.split_free (Str.join tick xs) 39
  refine join_inj _ _ ?_ h0 (fun x hx => hs x hx) hf (StrLaws.join_split _ _)
  intro z
  have := PyProof.Rows.split_pos (Str.join tick xs) tick
  rw [z] at this
  simp at this
theorem join_snoc : ∀ (xs : List Str) (t : Str), xs ≠ [] → Str.join tick (xs ++ [t]) = Str.join tick xs ++ tick ++ t
  | [], _, h => absurd rfl h
  | [x], t, _ => by show Str.join tick [x, t] = _; rw [join2, join1, join1]
  | x :: y :: r, t, _ => by
    show Str.join tick (x :: y :: (r ++ [t])) = _
    have ih := join_snoc (y :: r) t (by simp)
    rw [join2, join2]
    have e : y :: (r ++ [t]) = (y :: r) ++ [t] := rfl
    rw [e, ih]
    apply str_ext
    simp only [str_app, List.append_assoc]
/-- the last tick -/
theorem rindex_snoc (a t : Str) (ht : free t) : lastOccurrence (a ++ tick ++ t) tick 0 (a ++ tick ++ t).length = some a.length := by
  have at_ : ∀ i, StrLaws.At (a ++ tick ++ t) tick (a ++ tick ++ t).length i ↔ (a ++ tick ++ t).cps.toList[i]? = some 39 := fun i => StrLaws.subAt_one _ 39 i
  have la : a.cps.toList.length = a.length := by simp [Str.length]
  have here : (a ++ tick ++ t).cps.toList[a.length]? = some 39 := by
    rw [str_app, str_app, tick_cps, List.append_assoc, ← la]
    simp
  rcases StrLaws.last_spec (a ++ tick ++ t) tick with ⟨_, h⟩ | ⟨i, h1, h2, h3⟩
  · exact absurd ((at_ _).mpr here) (h _)
  · rw [h1]
    have hi : ¬ i < a.length := fun z => h3 _ z ((at_ _).mpr here)
    have h4 := (at_ i).mp h2
    by_cases hlt : a.length < i
    · exfalso
      rw [str_app, str_app, tick_cps, List.append_assoc, List.getElem?_append_right (by omega)] at h4
      obtain ⟨j, rfl⟩ : ∃ j, i = a.length + 1 + j := ⟨i - a.length - 1, by omega⟩
      have e : a.length + 1 + j - a.cps.toList.length = j + 1 := by omega
      rw [e] at h4
      have : t.cps.toList[j]? = some 39 := by simpa using h4
      exact ht (List.mem_of_getElem? this)
    · have : i = a.length := by omega
      rw [this]
theorem in_sign (c : Nat) (z : Str) : oIn (.str ⟨#[c]⟩) (.str z) = some (.bool (decide (c ∈ z.cps.toList))) := by
  show some (PyData.bool (inStr ⟨#[c]⟩ z)) = _
  unfold inStr
  rw [StrLaws.found_one]
theorem notin_sign (c : Nat) (z : Str) : oNotIn (.str ⟨#[c]⟩) (.str z) = some (.bool (!decide (c ∈ z.cps.toList))) := by
  unfold oNotIn
  rw [in_sign]
  rfl
end DL
/-! text DLName -/
namespace DL
open PySem PySem.Builtin.Str
def lowT : Str := ⟨#[97,98,99,100,101,102,103,104,105,106,107,108,109,110,111,112,113,114,115,116,117,118,119,120,121,122]⟩
/-- a written name: a capital, then at most seven small letters and figures -/
def sign2 (x : Nat) : Prop := (97 ≤ x ∧ x ≤ 122) ∨ (48 ≤ x ∧ x ≤ 57)
def wname (s : Str) : Prop := ∃ c r, s.cps.toList = c :: r ∧ 65 ≤ c ∧ c ≤ 90 ∧ (∀ x ∈ r, sign2 x) ∧ r.length ≤ 7
theorem wname_free {s : Str} (h : wname s) : free s := by
  obtain ⟨c, r, e, h1, h2, h3, _⟩ := h
  unfold free
  rw [e]
  intro z
  rcases List.mem_cons.mp z with z | z
  · omega
  · have := h3 _ z
    unfold sign2 at this
    omega
theorem wname_len {s : Str} (h : wname s) : 1 ≤ s.length ∧ s.length ≤ 8 := by
  obtain ⟨c, r, e, _, _, _, h4⟩ := h
  have : s.length = s.cps.toList.length := by simp [Str.length]
  rw [this, e]
  simp
  omega
theorem wname_ne {s : Str} (h : wname s) : s ≠ "" := fun z => by
  have := (wname_len h).1
  rw [z] at this
  exact absurd this (by decide)
def tailOk (t : Str) : Prop := t = "" ∨ wname t
theorem tail_free {t : Str} (h : tailOk t) : free t := by
  rcases h with rfl | h
  · intro z; exact absurd z (by decide)
  · exact wname_free h
theorem tail_len {t : Str} (h : tailOk t) : t.length ≤ 8 := by
  rcases h with rfl | h
  · decide
  · exact (wname_len h).2
/-- a name made of its pieces; j: at most so many tails -/
def nmOk (j : Nat) (n : Str) : Prop := ∃ b ts, n = Str.join tick (b :: ts) ∧ wname b ∧ (∀ t ∈ ts, tailOk t) ∧ ts.length ≤ j
theorem nmOk_len {j : Nat} {n : Str} (h : nmOk j n) : 1 ≤ n.length ∧ n.length ≤ 8 + 9 * j := by
  obtain ⟨b, ts, rfl, hb, ht, hl⟩ := h
  have hb2 := wname_len hb
  clear hb
  induction ts generalizing b j with
  | nil => rw [join1]; omega
  | cons t ts ih =>
    rw [join2, str_len_append, str_len_append, len1]
    simp only [List.length_cons] at hl
    have : (Str.join tick (t :: ts)).length ≤ 8 + 9 * (j - 1) := by
      have hts := ht t (List.mem_cons_self ..)
      cases ts with
      | nil => rw [join1]; have := tail_len hts; omega
      | cons t2 ts2 =>
        -- the pieces behind
        have gen : ∀ (us : List Str) (u : Str), u.length ≤ 8 → (∀ t ∈ us, tailOk t) → (Str.join tick (u :: us)).length ≤ 8 + 9 * us.length := by
          intro us
          induction us with
          | nil => intro u hu _; rw [join1]; simp; exact hu
          | cons w ws ihw =>
            intro u hu hw
            rw [join2, str_len_append, str_len_append, len1]
            have := ihw w (tail_len (hw w (List.mem_cons_self ..))) fun z hz => hw z (List.mem_cons_of_mem _ hz)
            simp only [List.length_cons]
            omega
        have := gen (t2 :: ts2) t (tail_len hts) fun z hz => ht z (List.mem_cons_of_mem _ hz)
        simp only [List.length_cons] at this hl ⊢
        omega
    omega
theorem nmOk_mono {j k : Nat} {n : Str} (h : nmOk j n) (hk : j ≤ k) : nmOk k n :=
  let ⟨b, ts, e, a, c, d⟩ := h; ⟨b, ts, e, a, c, Nat.le_trans d hk⟩
theorem nmOk_by {j : Nat} {n t : Str} (h : nmOk j n) (ht : tailOk t) : nmOk (j + 1) (n ++ tick ++ t) := by
  obtain ⟨b, ts, rfl, hb, hts, hl⟩ := h
  refine ⟨b, ts ++ [t], ?_, hb, fun x hx => ?_, by simp; exact hl⟩
  · rw [← List.cons_append, join_snoc _ _ (by simp)]
  · rcases List.mem_append.mp hx with h | h
    · exact hts x h
    · simp at h; subst h; exact ht
theorem nmOk_split {j : Nat} {n : Str} (h : nmOk j n) : ∃ b ts, Txt.split n tick = b :: ts ∧ wname b ∧ ∀ t ∈ ts, tailOk t := by
  obtain ⟨b, ts, rfl, hb, hts, _⟩ := h
  refine ⟨b, ts, split_join _ (by simp) fun x hx => ?_, hb, hts⟩
  rcases List.mem_cons.mp hx with rfl | hx
  · exact wname_free hb
  · exact tail_free (hts x hx)
/-! ### indices and slices of texts -/
theorem ix_s0 {z : Str} {c : Nat} {r : List Nat} (e : z.cps.toList = c :: r) (h : z.length ≤ 10000000) : oIx (.str z) (.int 0) = some (.str ⟨#[c]⟩) := by
  show (if z.length ≤ lim then (L2.atI z.cps.toList 0).map fun c => PyData.str ⟨#[c]⟩ else none) = _
  rw [if_pos (lim_of h), e, show L2.atI (c :: r) 0 = some c from L2.atI_nat (j := 0) rfl]
  rfl
theorem sl_s1 {z : Str} {c : Nat} {r : List Nat} (e : z.cps.toList = c :: r) (h : z.length ≤ 10000000) : oSl (.str z) (some 1) none = some (.str ⟨r.toArray⟩) := by
  show (if z.length ≤ lim then some (PyData.str (L2.cutS z (some 1) none)) else none) = _
  rw [if_pos (lim_of h)]
  have hl : z.length = r.length + 1 := by
    have : z.length = z.cps.toList.length := by simp [Str.length]
    rw [this, e]; rfl
  have : L2.cutS z (some 1) none = ⟨r.toArray⟩ := by
    unfold L2.cutS
    rw [show HT.sIx z.length 0 (some 1) = min 1 z.length from HT.sIx_nat z.length 0 1, HT.sIx_none, e, hl]
    have e1 : min 1 (r.length + 1) = 1 := by omega
    rw [e1]
    simp
  rw [this]
theorem lenOf_s {z : Str} (h : z.length ≤ 10000000) : oLen (.str z) = some (.int (z.length : Nat)) := by
  show ((if z.length ≤ lim then some z.length else none).map fun n => PyData.int n) = _
  rw [if_pos (lim_of h)]
  rfl
/-! ### comprehensions -/
/-- each turn keeps or leaves its item -/
theorem lc_go {g : WG} {tt : WT} {te : WE} {env : Env} {Q : List PyData → Store → Prop} {st : Store} (p : DV → Bool) (f : DV → PyData) : ∀ (xs : List DV) (acc : List PyData),
    (∀ x ∈ xs, ∀ (K1 : PyData → Store → Prop) (K2 : Store → Prop), (if p x = true then K1 (f x) st else K2 st) →
      g x env st fun env1 st1 => tt env1 st1 fun b st2 => if b = true then te env1 st2 fun r st3 => (match r with | .d y => K1 y st3 | _ => False) else K2 st2) →
    Q (acc ++ (xs.filter p).map f) st → lcGo g tt te env Q xs acc st
  | [], acc, _, q => by
    show Q acc st
    simpa using q
  | x :: xs, acc, h, q => by
    have h1 := h x (List.mem_cons_self ..) (fun y st3 => lcGo g tt te env Q xs (acc ++ [y]) st3) (fun st2 => lcGo g tt te env Q xs acc st2)
    refine h1 ?_
    by_cases hp : p x = true
    · rw [if_pos hp]
      refine lc_go p f xs _ (fun y hy => h y (List.mem_cons_of_mem _ hy)) ?_
      rw [List.filter_cons_of_pos hp] at q
      simpa using q
    · rw [if_neg hp]
      refine lc_go p f xs _ (fun y hy => h y (List.mem_cons_of_mem _ hy)) ?_
      rw [List.filter_cons_of_neg hp] at q
      exact q
theorem all_true {α : Type} (xs : List α) : oAll (.list (xs.map fun _ => PyData.bool true)) = some (.bool true) := by
  have h : boolsOf (xs.map fun _ => PyData.bool true) = some (xs.map fun _ => true) := by
    induction xs with
    | nil => rfl
    | cons x xs ih => rw [List.map_cons, boolsOf, ih]; rfl
  show ((boolsOf (xs.map fun _ => PyData.bool true)).map fun bs => PyData.bool (bs.all _root_.id)) = _
  rw [h]
  simp
theorem filter_all {α : Type} (xs : List α) : xs.filter (fun _ => true) = xs := by simp
end DL
/-! text K02P1 -/
namespace DL.K02
open PySem DL
theorem caps_mem (c : Nat) (h1 : 65 ≤ c) (h2 : c ≤ 90) : c ∈ ("ABCDEFGHIJKLMNOPQRSTUVWXYZ" : Str).cps.toList := by
  have : ∀ n : Nat, n ≤ 25 → (65 + n) ∈ ("ABCDEFGHIJKLMNOPQRSTUVWXYZ" : Str).cps.toList := by
    intro n hn
    match n, hn with
    | 0, _ | 1, _ | 2, _ | 3, _ | 4, _ | 5, _ | 6, _ | 7, _ | 8, _ | 9, _ | 10, _ | 11, _ | 12, _ | 13, _ | 14, _ | 15, _ | 16, _ | 17, _ | 18, _ | 19, _ | 20, _ | 21, _ | 22, _ | 23, _ | 24, _ | 25, _ => decide
    | n + 26, h => omega
  have := this (c - 65) (by omega)
  rwa [show 65 + (c - 65) = c by omega] at this
theorem low_mem (c : Nat) (h : sign2 c) : c ∈ (("abcdefghijklmnopqrstuvwxyz" : Str) ++ ("0123456789" : Str)).cps.toList := by
  rw [str_app]
  rcases h with ⟨h1, h2⟩ | ⟨h1, h2⟩
  · refine List.mem_append_left _ ?_
    have : ∀ n : Nat, n ≤ 25 → (97 + n) ∈ ("abcdefghijklmnopqrstuvwxyz" : Str).cps.toList := by
      intro n hn
      match n, hn with
      | 0, _ | 1, _ | 2, _ | 3, _ | 4, _ | 5, _ | 6, _ | 7, _ | 8, _ | 9, _ | 10, _ | 11, _ | 12, _ | 13, _ | 14, _ | 15, _ | 16, _ | 17, _ | 18, _ | 19, _ | 20, _ | 21, _ | 22, _ | 23, _ | 24, _ | 25, _ => decide
      | n + 26, h => omega
    have := this (c - 97) (by omega)
    rwa [show 97 + (c - 97) = c by omega] at this
  · refine List.mem_append_right _ ?_
    have : ∀ n : Nat, n ≤ 9 → (48 + n) ∈ ("0123456789" : Str).cps.toList := by
      intro n hn
      match n, hn with
      | 0, _ | 1, _ | 2, _ | 3, _ | 4, _ | 5, _ | 6, _ | 7, _ | 8, _ | 9, _ => decide
      | n + 10, h => omega
    have := this (c - 48) (by omega)
    rwa [show 48 + (c - 48) = c by omega] at this
theorem oLe_ii (i j : Int) : oLe (.int i) (.int j) = some (.bool (decide (i ≤ j))) := rfl
theorem oLt_ii (i j : Int) : oLt (.int i) (.int j) = some (.bool (decide (i < j))) := rfl
theorem oGt_ii (i j : Int) : oGt (.int i) (.int j) = some (.bool (decide (j < i))) := rfl
theorem oGe_ii (i j : Int) : oGe (.int i) (.int j) = some (.bool (decide (j ≤ i))) := rfl
theorem ret_tk {n0 : Nat} {Q : RK} {x : PyData} {st : Store} : retK n0 Q (.d x) st = Q (.d x) (st.take n0) := rfl
theorem take_app (st : Store) (c : Cell) : (st ++ [c]).take st.length = st := by simp
/-! ### springs -/
abbrev spr (a b c : Int) : Cell := .lst [.int a, .int b, .int c]
def Spr (st : Store) (i : Nat) : Prop := ∃ a b c, st[i]? = some (spr a b c)
def SpTo (st : Store) (i : Nat) (st' : Store) : Prop := ∃ a b c, st' = st.set i (spr a b c)
theorem Spr.lt {st : Store} {i : Nat} (h : Spr st i) : i < st.length := let ⟨_, _, _, h⟩ := h; (List.getElem?_eq_some_iff.mp h).1
theorem SpTo.spr {st st' : Store} {i : Nat} (h : Spr st i) (t : SpTo st i st') : Spr st' i := by
  obtain ⟨a, b, c, rfl⟩ := t
  exact ⟨a, b, c, List.getElem?_set_self h.lt⟩
theorem SpTo.trans {st st1 st2 : Store} {i : Nat} (h : SpTo st i st1) (t : SpTo st1 i st2) : SpTo st i st2 := by
  obtain ⟨a, b, c, rfl⟩ := h
  obtain ⟨a', b', c', rfl⟩ := t
  exact ⟨a', b', c', by rw [List.set_set]⟩
theorem SpTo.len {st st' : Store} {i : Nat} (t : SpTo st i st') : st'.length = st.length := by
  obtain ⟨a, b, c, rfl⟩ := t
  simp
theorem SpTo.other {st st' : Store} {i j : Nat} (t : SpTo st i st') (h : j ≠ i) : st'[j]? = st[j]? := by
  obtain ⟨a, b, c, rfl⟩ := t
  rw [List.getElem?_set_ne (Ne.symm h)]
theorem Spr.self {st : Store} {i : Nat} (h : Spr st i) : SpTo st i st := by
  obtain ⟨a, b, c, h⟩ := h
  refine ⟨a, b, c, ?_⟩
  apply List.ext_getElem?
  intro j
  by_cases hj : i = j
  · subst hj; rw [h, List.getElem?_set_self (List.getElem?_eq_some_iff.mp h).1]
  · rw [List.getElem?_set_ne hj]
/-- a def that draws: the answer, and a turned spring -/
def spS (pre : Store → Nat → List DV → (PyData → Prop) → Prop) : SpD := fun args st Q _ => ∃ i rest R, args = .loc i :: rest ∧ Spr st i ∧ pre st i rest R ∧ ∀ y st', R y → SpTo st i st' → Q (.d y) st'
theorem spS_go {pre : Store → Nat → List DV → (PyData → Prop) → Prop} {st : Store} {Q : RK} {E : EK} {i : Nat} {rest : List DV} {R : PyData → Prop} (h : Spr st i) (p : pre st i rest R) (q : ∀ y st', R y → SpTo st i st' → Q (.d y) st') : spS pre (.loc i :: rest) st Q E := ⟨i, rest, R, rfl, h, p, q⟩
theorem rd_at {st : Store} {i : Nat} {xs : List PyData} (h : st[i]? = some (.lst xs)) : rd st (.loc i) = some (.list xs) := by
  unfold rd
  simp only [h]
theorem rdS_at {st : Store} {i : Nat} {xs : List PyData} (h : st[i]? = some (.lst xs)) : rdS st (.loc i) = some (.list xs) := rd_at h
theorem rdS_set {st : Store} {i : Nat} {xs : List PyData} (h : i < st.length) : rdS (st.set i (.lst xs)) (.loc i) = some (.list xs) := rd_at (List.getElem?_set_self h)
theorem setAt_at {st : Store} {i : Nat} {xs ys : List PyData} {z : Int} (h : st[i]? = some (.lst xs)) (k : Nat) (v : PyData) (hk : k < xs.length) (hz : z = ((k : Nat) : Int)) (hy : xs.set k v = ys) : setAt st (.loc i) (.int z) v = some (st.set i (.lst ys)) := by
  subst hz
  subst hy
  unfold setAt
  simp only [h]
  have e : L2.ixN xs.length ((k : Nat) : Int) = some k := by
    unfold L2.ixN
    rw [if_pos (by omega), if_pos (by omega)]
    simp
  rw [e]
  rfl
theorem setAt_set {st : Store} {i : Nat} {xs ys : List PyData} {z : Int} (h : i < st.length) (k : Nat) (v : PyData) (hk : k < xs.length) (hz : z = ((k : Nat) : Int)) (hy : xs.set k v = ys) : setAt (st.set i (.lst xs)) (.loc i) (.int z) v = some (st.set i (.lst ys)) := by
  rw [setAt_at (List.getElem?_set_self h) k v hk hz hy, List.set_set]
theorem ixl0 (x : PyData) (r : List PyData) : oIx (.list (x :: r)) (.int 0) = some x := L2.atI_nat (j := 0) rfl
theorem ixl1 (x y : PyData) (r : List PyData) : oIx (.list (x :: y :: r)) (.int 1) = some y := L2.atI_nat (j := 1) rfl
theorem ixl2 (x y z : PyData) (r : List PyData) : oIx (.list (x :: y :: z :: r)) (.int 2) = some z := L2.atI_nat (j := 2) rfl
theorem ret_len {st st' : Store} {Q : RK} {x : PyData} (h : st'.length = st.length) : retK st.length Q (.d x) st' = Q (.d x) st' := by
  rw [ret_tk, ← h, List.take_length]
theorem oMul_l {i j : Int} (h : small64 i = true) : oMul (.int i) (.int j) = some (.int (i * j)) := if_pos (.inl h)
theorem oMul_r {i j : Int} (h : small64 j = true) : oMul (.int i) (.int j) = some (.int (i * j)) := if_pos (.inr h)
theorem oMod_p {i j : Int} (h : 0 < j) : oMod (.int i) (.int j) = some (.int (i % j)) := if_pos h
theorem oDiv_p {i j : Int} (h : 0 < j ∧ j < 1073741824) : oDiv (.int i) (.int j) = some (.int (i / j)) := if_pos h
theorem oInt_i (i : Int) : oInt (.int i) = some (.int i) := rfl
theorem oDm {i j : Int} (h : 0 < j ∧ j < 1073741824) : oDivmod (.int i) (.int j) = some (.tuple [.int (i / j), .int (i % j)]) := if_pos h
theorem small_of {i : Int} (h1 : -1000000 < i) (h2 : i < 1000000) : small64 i = true := by
  unfold small64
  simp only [Bool.and_eq_true, decide_eq_true_eq]
  have e : (2 : Int) ^ 64 = 18446744073709551616 := rfl
  rw [e]
  omega
def pDr (st : Store) (i : Nat) (rest : List DV) (R : PyData → Prop) : Prop := ∃ top : Int, rest = [.d (.int top)] ∧ 0 < top ∧ top < 1073741824 ∧ R = fun y => ∃ r : Int, y = .int r ∧ 0 ≤ r ∧ r < top
/-- a value told at once -/
def Pv (f : WE) (env : Env) (st : Store) (a : PyData) : Prop := ∀ Q : RK, Q (.d a) st → f env st Q
theorem pv_c {env : Env} {st : Store} {x : PyData} : Pv (wC x) env st x := fun Q q => q
theorem pv_var {env : Env} {st : Store} {x : PyData} {i : Nat} (h : env[i]? = some (some (.d x))) : Pv (wVar i) env st x := fun Q q => by
  unfold wVar
  rw [h]
  exact q
theorem pv_bin {env : Env} {st : Store} {a b c : PyData} {fa fb : WE} {op : B2} (ha : Pv fa env st a) (hb : Pv fb env st b) (h : op a b = some c) : Pv (wBin op fa fb) env st c := fun Q q => ha _ (hb _ (by
  simp only [rd_d, optK_some, h]
  exact q))
theorem pv_int {env : Env} {st : Store} {i : Int} {f : WE} (h : Pv f env st (.int i)) : Pv (wOpN (on1 oInt) (wCons f wNil)) env st (.int i) := fun Q q => h _ q
theorem pv_sp {env : Env} {st : Store} {j n : Nat} {l x : PyData} {k : Int} (h0 : env[n]? = some (some (.loc j))) (h1 : rdS st (.loc j) = some l) (h2 : oIx l (.int k) = some x) : Pv (wBinS oIx (wVar n) (wC (.int k))) env st x := fun Q q => by
  unfold wBinS wVar
  rw [h0]
  show optK (rdS st (.loc j)) _
  rw [h1]
  show optK (oIx l (.int k)) _
  rw [h2]
  exact q
theorem asg_sub {f : WE} {env : Env} {st st' : Store} {D : DL.Fin} {a : PyData} {j n : Nat} {k : Int} (h : Pv f env st a) (h0 : env[n]? = some (some (.loc j))) (hs : setAt st (.loc j) (.int k) a = some st') (q : D.nx env st') : wAsg f (DL.gSub (wVar n) (wC (.int k))) D env st := h _ (by
  unfold DL.gSub wVar
  rw [h0]
  simp only [wC, rd_d, optK_some, hs]
  exact q)
theorem seq_intro {t u : WS} {D : DL.Fin} {env : Env} {st : Store} (h : ∀ N, N = u D → t { D with nx := N } env st) : wSeq t u D env st := h _ rfl
/-- a list as a def sees it: frozen, or one of its caller's -/
def LsAt (st : Store) (i : Nat) (r : DV) (xs : List PyData) : Prop := r = .d (.list xs) ∨ ∃ j, r = .loc j ∧ j ≠ i ∧ st[j]? = some (.lst xs)
theorem LsAt.to {st st' : Store} {i : Nat} {r : DV} {xs : List PyData} (h : LsAt st i r xs) (t : SpTo st i st') : LsAt st' i r xs := by
  rcases h with h | ⟨j, e, hj, h⟩
  · exact .inl h
  · exact .inr ⟨j, e, hj, by rw [t.other hj]; exact h⟩
theorem LsAt.rd {st : Store} {i : Nat} {r : DV} {xs : List PyData} (h : LsAt st i r xs) : rd st r = some (.list xs) := by
  rcases h with rfl | ⟨j, rfl, _, h⟩
  · rfl
  · exact rd_at h
theorem LsAt.rdS {st : Store} {i : Nat} {r : DV} {xs : List PyData} (h : LsAt st i r xs) : rdS st r = some (.list xs) := by
  rcases h with rfl | ⟨j, rfl, _, h⟩
  · rfl
  · exact rdS_at h
theorem ret_to {st st' : Store} {i : Nat} {Q : RK} {x : PyData} (t : SpTo st i st') : retK st.length Q (.d x) st' = Q (.d x) st' := ret_len t.len
/-! ### tests told at once -/
def Tv (t : WT) (env : Env) (st : Store) (c : Bool) : Prop := ∀ Q : Bool → Store → Prop, Q c st → t env st Q
theorem tv_t {f : WE} {env : Env} {st : Store} {c : Bool} (h : Pv f env st (.bool c)) : Tv (wT f) env st c := fun Q q => h _ (by
  simp only [rd_d, optK_some, asB_b]
  exact q)
theorem tv_or {t u : WT} {env : Env} {st : Store} {a b : Bool} (ha : Tv t env st a) (hb : Tv u env st b) : Tv (wOr t u) env st (a || b) := fun Q q => ha _ (by
  cases a with
  | true => exact q
  | false => exact hb _ q)
theorem if_t {t : WT} {a b : WS} {D : DL.Fin} {env : Env} {st : Store} {c : Bool} (h : Tv t env st c) (hc : c = true) (q : a D env st) : wIf t a b D env st := h _ (by
  subst hc
  exact q)
theorem if_f {t : WT} {a b : WS} {D : DL.Fin} {env : Env} {st : Store} {c : Bool} (h : Tv t env st c) (hc : c = false) (q : b D env st) : wIf t a b D env st := h _ (by
  subst hc
  exact q)
theorem asg_n {f : WE} {env : Env} {st : Store} {D : DL.Fin} {a : PyData} {i : Nat} (h : Pv f env st a) (q : D.nx (env.set i (some (.d a))) st) : wAsg f (gN i) D env st := h _ q
theorem pv_if {t : WT} {a b : WE} {env : Env} {st : Store} {c : Bool} {x y : PyData} (h : Tv t env st c) (ha : c = true → Pv a env st x) (hb : c = false → Pv b env st y) : Pv (wIfE t a b) env st (if c = true then x else y) := fun Q q => h _ (by
  cases c with
  | true => exact ha rfl _ q
  | false => exact hb rfl _ q)
theorem pv_lenS {env : Env} {st : Store} {ns : List Int} (h : env[0]? = some (some (.scr ns))) : Pv (wUnS oLen (wVar 0)) env st (.int (ns.length : Nat)) := fun Q q => by
  unfold wUnS wVar
  rw [h]
  have e : rdS st (.scr ns) = some (.list (ns.map .int)) := rfl
  have e2 : oLen (.list (ns.map .int)) = some (.int (ns.length : Nat)) := by
    show some (PyData.int ((ns.map PyData.int).length : Nat)) = _
    rw [List.length_map]
  simp only [e, optK_some, e2]
  exact q
/-- an answer told by a relation -/
def spR (pre : List PyData → Prop) (R : List PyData → PyData → Prop) : SpD := fun args st Q _ => ∃ xs, args = xs.map .d ∧ pre xs ∧ ∀ y, R xs y → Q (.d y) st
theorem spR_go {pre : List PyData → Prop} {R : List PyData → PyData → Prop} {xs : List PyData} {st : Store} {Q : RK} {E : EK} (h : pre xs) (q : ∀ y, R xs y → Q (.d y) st) : spR pre R (xs.map .d) st Q E := ⟨xs, rfl, h, q⟩
end DL.K02
/-! text K02P2 -/
namespace DL.K02
open PySem DL
/-! ### names, told of any text -/
def capB (c : Nat) : Bool := decide (c ∈ ("ABCDEFGHIJKLMNOPQRSTUVWXYZ" : Str).cps.toList)
def lowT9 : Str := "abcdefghijklmnopqrstuvwxyz0123456789"
def lowB (c : Nat) : Bool := decide (c ∈ lowT9.cps.toList)
def wnB (s : Str) : Bool := match s.cps.toList with
  | [] => false
  | c :: r => decide (r.length ≤ 7) && (capB c && r.all lowB)
def nmS (s : Str) : Bool := decide (s.length ≤ 60) && (wnB (Txt.split s tick).head! && (Txt.split s tick).tail.all fun t => t == "" || wnB t)
def nmB : PyData → Bool
  | .str s => nmS s
  | _ => false
theorem low_eq : (("abcdefghijklmnopqrstuvwxyz" : Str) ++ ("0123456789" : Str)) = lowT9 := by decide
theorem bools_map {α : Type} (g : α → Bool) : ∀ xs : List α, boolsOf (xs.map fun x => PyData.bool (g x)) = some (xs.map g)
  | [] => rfl
  | x :: xs => by rw [List.map_cons, boolsOf, bools_map g xs]; rfl
theorem oAll_map {α : Type} (g : α → Bool) (xs : List α) : oAll (.list (xs.map fun x => PyData.bool (g x))) = some (.bool (xs.all g)) := by
  show ((boolsOf _).map fun bs => PyData.bool (bs.all _root_.id)) = _
  rw [bools_map]
  simp [List.all_map]
  try congr 1
theorem sum_len (s : Str) : s.length = s.cps.toList.length := by simp [Str.length]
def pWn (xs : List PyData) (y : PyData) : Prop := ∃ s, xs = [.str s] ∧ s.length ≤ 100000 ∧ y = .bool (wnB s)
def lowS : DV → Bool
  | .d (.str s) => match s.cps.toList with
    | [c] => lowB c
    | _ => false
  | _ => false
theorem keeps_is_written_name : Keeps 2 (spF pWn) b_is_written_name := by
  rintro args st Q E ⟨xs, y, rfl, ⟨s, rfl, hl, rfl⟩, q⟩
  cases hs : s.cps.toList with
  | nil =>
    have h0 : s.length = 0 := by rw [sum_len, hs]; rfl
    have hw : wnB s = false := by unfold wnB; rw [hs]
    rw [hw] at q
    push_cast [b_is_written_name, lenOf_s (z := s) (by omega), oLe_ii, h0, g_MOST_SIGNS, show decide ((1 : Int) ≤ ((0 : Nat) : Int)) = false from rfl]
    exact q
  | cons c r =>
    have h0 : s.length = r.length + 1 := by rw [sum_len, hs]; rfl
    have d1 : decide ((1 : Int) ≤ (s.length : Nat)) = true := decide_eq_true (by omega)
    by_cases h8 : r.length ≤ 7
    · have d2 : decide (((s.length : Nat) : Int) ≤ 8) = true := decide_eq_true (by omega)
      have hw : wnB s = (capB c && r.all lowB) := by unfold wnB; rw [hs]; simp [h8]
      cases hc : capB c with
      | false =>
        rw [hw, hc] at q
        have hc' : decide (c ∈ ("ABCDEFGHIJKLMNOPQRSTUVWXYZ" : Str).cps.toList) = false := hc
        push_cast [b_is_written_name, lenOf_s (z := s) (by omega), oLe_ii, d1, d2, g_MOST_SIGNS, ix_s0 hs (by omega), notin_sign, g_CAPITALS, hc']
        exact q
      | true =>
        rw [hw, hc] at q
        have hc' : decide (c ∈ ("ABCDEFGHIJKLMNOPQRSTUVWXYZ" : Str).cps.toList) = true := hc
        push_cast [b_is_written_name, lenOf_s (z := s) (by omega), oLe_ii, d1, d2, g_MOST_SIGNS, ix_s0 hs (by omega), notin_sign, g_CAPITALS, hc', wSl, wOS, wON, asI, sl_s1 hs (by omega), wLc, iStrD, wYes, wipeE, g_SMALL, g_FIGURES]
        refine ⟨?_, ?_⟩
        · show r.toArray.size ≤ lim
          rw [List.size_toArray]
          exact lim_of (by omega)
        refine lc_go (fun _ => true) (fun v => .bool (lowS v)) _ [] (fun x hx K1 K2 hk => ?_) ?_
        · obtain ⟨d, hd, rfl⟩ := List.mem_map.mp hx
          have hl3 : (("abcdefghijklmnopqrstuvwxyz" : Str)).length + ("0123456789" : Str).length ≤ lim := by decide
          have hk' : K1 (.bool (lowS (.d (.str ⟨#[d]⟩)))) st := by simpa using hk
          push_cast [oAdd_ss hl3, low_eq, in_sign]
          exact hk'
        · push_cast [filter_all, List.nil_append, oAll_map]
          have e : (List.map (fun c => DV.d (PyData.str ⟨#[c]⟩)) r).all lowS = r.all lowB := by
            rw [List.all_map]
            rfl
          have q' := q
          simp only [Bool.true_and] at q'
          rw [← e] at q'
          exact q'
    · have d2 : decide (((s.length : Nat) : Int) ≤ 8) = false := decide_eq_false (by omega)
      have hw : wnB s = false := by unfold wnB; rw [hs]; simp [h8]
      rw [hw] at q
      push_cast [b_is_written_name, lenOf_s (z := s) (by omega), oLe_ii, d1, d2, g_MOST_SIGNS]
      exact q
theorem eq_nil (ss : List Str) : oEq (.list (ss.map .str)) (.list []) = some (.bool ss.isEmpty) := by
  have hp : PyData.plainAll (ss.map PyData.str) = true := by
    induction ss with
    | nil => rfl
    | cons s ss ih => rw [List.map_cons, PyData.plainAll, ih]; rfl
  have h : okEq (.list (ss.map .str)) (.list []) = true := by
    simp only [okEq, PyData.plain, hp, PyData.plainAll, PyData.depth, PyData.depthAll, Bool.true_and]
    exact decide_eq_true (by omega)
  rw [oEq_of h]
  cases ss with
  | nil => rfl
  | cons s ss => rw [List.map_cons, PyData.eqv, PyData.eqvAll]; rfl
def datV : DV → PyData
  | .d x => x
  | _ => .none
theorem keeps_law_is_written : Keeps 2 (spF pWn) b_law_is_written := by
  rintro args st Q E ⟨xs, y, rfl, ⟨s, rfl, hl, rfl⟩, q⟩
  cases hs : s.cps.toList with
  | nil =>
    have h0 : s.length = 0 := by rw [sum_len, hs]; rfl
    have hw : wnB s = false := by unfold wnB; rw [hs]
    rw [hw] at q
    push_cast [b_law_is_written, lenOf_s (z := s) (by omega), oLt_ii, h0, show decide (((0 : Nat) : Int) < 1) = true from rfl]
    exact q
  | cons c r =>
    have h0 : s.length = r.length + 1 := by rw [sum_len, hs]; rfl
    have d1 : decide (((s.length : Nat) : Int) < 1) = false := decide_eq_false (by omega)
    by_cases h8 : r.length ≤ 7
    · have d2 : decide ((8 : Int) < ((s.length : Nat) : Int)) = false := decide_eq_false (by omega)
      have hw : wnB s = (capB c && r.all lowB) := by unfold wnB; rw [hs]; simp [h8]
      cases hc : capB c with
      | false =>
        rw [hw, hc] at q
        have hc' : decide (c ∈ ("ABCDEFGHIJKLMNOPQRSTUVWXYZ" : Str).cps.toList) = false := hc
        push_cast [b_law_is_written, lenOf_s (z := s) (by omega), oLt_ii, oGt_ii, d1, d2, ix_s0 hs (by omega), notin_sign, hc']
        exact q
      | true =>
        rw [hw, hc] at q
        have hc' : decide (c ∈ ("ABCDEFGHIJKLMNOPQRSTUVWXYZ" : Str).cps.toList) = true := hc
        push_cast [b_law_is_written, lenOf_s (z := s) (by omega), oLt_ii, oGt_ii, d1, d2, ix_s0 hs (by omega), notin_sign, hc', wSl, wOS, wON, asI, sl_s1 hs (by omega), wLc, iStrD, wYes, wipeE]
        refine ⟨?_, ?_⟩
        · show r.toArray.size ≤ lim
          rw [List.size_toArray]
          exact lim_of (by omega)
        refine lc_go (fun v => !lowS v) datV _ [] (fun x hx K1 K2 hk => ?_) ?_
        · obtain ⟨d, hd, rfl⟩ := List.mem_map.mp hx
          have hin : oNotIn (.str ⟨#[d]⟩) (.str "abcdefghijklmnopqrstuvwxyz0123456789") = some (.bool (!lowB d)) := notin_sign d _
          have hk' : if (!lowB d) = true then K1 (.str ⟨#[d]⟩) st else K2 st := hk
          push_cast [hin]
          cases hb : lowB d with
          | true => rw [hb] at hk'; simpa using hk'
          | false => rw [hb] at hk'; simpa using hk'
        · have e : (List.filter (fun v => !lowS v) (List.map (fun c => DV.d (PyData.str ⟨#[c]⟩)) r)).map datV = ((r.filter fun c => !lowB c).map fun c => (⟨#[c]⟩ : Str)).map PyData.str := by
            rw [List.filter_map, List.map_map, List.map_map]
            rfl
          simp only [List.nil_append]
          rw [e]
          push_cast [eq_nil]
          have ef : ((r.filter fun c => !lowB c).map fun c => (⟨#[c]⟩ : Str)).isEmpty = r.all lowB := by
            rw [List.isEmpty_map]
            clear hs h0 d1 h8 d2 hw q e hl
            induction r with
            | nil => rfl
            | cons x r ih =>
              rw [List.all_cons, List.filter_cons]
              cases hx : lowB x with
              | true => simpa using ih
              | false => simp
          rw [ef]
          simpa using q
    · have d2 : decide ((8 : Int) < ((s.length : Nat) : Int)) = true := decide_eq_true (by omega)
      have hw : wnB s = false := by unfold wnB; rw [hs]; simp [h8]
      rw [hw] at q
      push_cast [b_law_is_written, lenOf_s (z := s) (by omega), oLt_ii, oGt_ii, d1, d2]
      exact q
end DL.K02
/-! text K02P3 -/
namespace DL.K02
open PySem DL
/-! ### names -/
theorem split_ne (s : Str) : Txt.split s tick ≠ [] := by
  intro z
  have := PyProof.Rows.split_pos s tick
  rw [z] at this
  simp at this
theorem split_cons (s : Str) : ∃ b ts, Txt.split s tick = b :: ts := by
  cases h : Txt.split s tick with
  | nil => exact absurd h (split_ne s)
  | cons b ts => exact ⟨b, ts, rfl⟩
theorem join_len : ∀ (xs : List Str), ∀ x ∈ xs, x.length ≤ (Str.join tick xs).length
  | [], x, h => by simp at h
  | [a], x, h => by
    have : x = a := by simpa using h
    subst this
    rw [join1]
    exact Nat.le_refl _
  | a :: b :: r, x, h => by
    rw [join2, str_len_append, str_len_append]
    rcases List.mem_cons.mp h with rfl | h
    · omega
    · have := join_len (b :: r) x h
      omega
theorem split_len {s x : Str} (h : x ∈ Txt.split s tick) : x.length ≤ s.length := by
  have := join_len _ x h
  rwa [show Str.join tick (Txt.split s tick) = s from StrLaws.join_split _ _] at this
theorem oSplit_tick {s : Str} (h : s.length ≤ 100000) : oSplit s (.str "'") = some (.list ((Txt.split s tick).map .str)) := by
  show (if (tick.length == 0) = false ∧ s.length + 2 ≤ lim then some (PyData.list ((Txt.split s tick).map .str)) else none) = _
  rw [if_pos ⟨rfl, lim_of (by omega)⟩]
theorem sl_tail (x : PyData) (r : List PyData) : oSl (.list (x :: r)) (some 1) none = some (.list r) := by
  show some (PyData.list (cutG (x :: r) (some 1) none)) = _
  have : cutG (x :: r) (some 1) none = r := by
    unfold cutG
    rw [show HT.sIx (x :: r).length 0 (some 1) = min 1 (x :: r).length from HT.sIx_nat _ 0 1, HT.sIx_none]
    simp only [List.length_cons]
    rw [show min 1 (r.length + 1) = 1 by omega, List.drop_succ_cons, List.drop_zero]
    exact List.take_of_length_le (by simp)
  rw [this]
theorem sl_tailT (x : PyData) (r : List PyData) : oSl (.tuple (x :: r)) (some 1) none = some (.tuple r) := by
  show (if bookish (cutG (x :: r) (some 1) none) = false then some (PyData.tuple (cutG (x :: r) (some 1) none)) else none) = _
  have : cutG (x :: r) (some 1) none = r := by
    unfold cutG
    rw [show HT.sIx (x :: r).length 0 (some 1) = min 1 (x :: r).length from HT.sIx_nat _ 0 1, HT.sIx_none]
    simp only [List.length_cons]
    rw [show min 1 (r.length + 1) = 1 by omega, List.drop_succ_cons, List.drop_zero]
    exact List.take_of_length_le (by simp)
  rw [this]
  rfl
def strOk (d : PyData) : Prop := ∀ s, d = .str s → s.length ≤ 100000
def pNm (xs : List PyData) (y : PyData) : Prop := ∃ d, xs = [d] ∧ strOk d ∧ y = .bool (nmB d)
def tailB : DV → Bool
  | .d (.str t) => t == "" || wnB t
  | _ => false
theorem is_str (d : PyData) : (∃ s, d = .str s) ∨ (oIs "str" d = some (.bool false) ∧ nmB d = false) := by
  cases d with
  | str s => exact .inl ⟨s, rfl⟩
  | _ => exact .inr ⟨rfl, rfl⟩
theorem keeps_is_named : Keeps 3 (spF pNm) (b_is_named (spF pWn)) := by
  rintro args st Q E ⟨xs, y, rfl, ⟨d, rfl, hd, rfl⟩, q⟩
  rcases is_str d with ⟨s, rfl⟩ | ⟨h1, h2⟩
  · have hl := hd s rfl
    have e0 : nmB (.str s) = nmS s := rfl
    rw [e0] at q
    by_cases h60 : s.length ≤ 60
    · have d1 : decide ((60 : Int) < (s.length : Nat)) = false := decide_eq_false (by omega)
      obtain ⟨b, ts, e⟩ := split_cons s
      have hb : b.length ≤ 100000 := by have := split_len (s := s) (x := b) (by rw [e]; exact List.mem_cons_self ..); omega
      have hq : nmS s = (wnB b && ts.all fun t : Str => t == ("" : Str) || wnB t) := by
        unfold nmS
        rw [e, decide_eq_true h60]
        rfl
      rw [hq] at q
      have h0 : oIx (.list (PyData.str b :: ts.map .str)) (.int 0) = some (.str b) := L2.atI_nat (j := 0) rfl
      push_cast [b_is_named, show oIs "str" (.str s) = some (.bool true) from rfl, lenOf_s (z := s) (by omega), oGt_ii, g_MOST_NAME, d1, oSplit_tick hl, e, h0]
      refine spF_go (xs := [.str b]) ⟨b, rfl, hb, rfl⟩ ?_
      push_cast [DL.lit0]
      cases hw : wnB b with
      | false =>
        rw [hw] at q
        push_cast [DL.lit0]
        exact q
      | true =>
        rw [hw] at q
        push_cast [wSl, wOS, wON, asI, sl_tail, wLc, iSeq, itemsOf, wipeE]
        refine lc_go (fun _ => true) (fun v => .bool (tailB v)) _ [] (fun x hx K1 K2 hk => ?_) ?_
        · obtain ⟨d, hd', rfl⟩ := List.mem_map.mp hx
          obtain ⟨t, ht, rfl⟩ := List.mem_map.mp hd'
          have ht' : t.length ≤ 100000 := by have := split_len (s := s) (x := t) (by rw [e]; exact List.mem_cons_of_mem _ ht); omega
          have hk' : K1 (.bool (tailB (.d (.str t)))) st := by simpa using hk
          by_cases hte : t = ""
          · subst hte
            push_cast [DL.lit0]
            exact hk'
          · have hne : (t == ("" : Str)) = false := by simpa using hte
            push_cast [hne]
            refine spF_go (xs := [.str t]) ⟨t, rfl, ht', rfl⟩ ?_
            push_cast [DL.lit0]
            have : tailB (.d (.str t)) = wnB t := by show (t == "" || wnB t) = _; rw [hne]; rfl
            rw [this] at hk'
            cases hw2 : wnB t with
            | true => rw [hw2] at hk'; exact hk'
            | false => rw [hw2] at hk'; exact hk'
        · push_cast [filter_all, List.nil_append, oAll_map]
          have e2 : (List.map DV.d (List.map PyData.str ts)).all tailB = ts.all fun t : Str => t == ("" : Str) || wnB t := by
            rw [List.all_map, List.all_map]
            rfl
          simp only [Bool.true_and] at q
          rw [← e2] at q
          exact q
    · have d1 : decide ((60 : Int) < (s.length : Nat)) = true := decide_eq_true (by omega)
      have hq : nmS s = false := by unfold nmS; rw [decide_eq_false h60]; rfl
      rw [hq] at q
      push_cast [b_is_named, show oIs "str" (.str s) = some (.bool true) from rfl, lenOf_s (z := s) (by omega), oGt_ii, g_MOST_NAME, d1]
      exact q
  · rw [h2] at q
    push_cast [b_is_named, h1]
    exact q
def badB : DV → Bool
  | .d (.str t) => !(t == "") && !wnB t
  | _ => false
theorem ef_all : ∀ ts : List Str, (ts.filter fun t : Str => !(t == ("" : Str)) && !wnB t).isEmpty = ts.all fun t : Str => t == ("" : Str) || wnB t
  | [] => rfl
  | x :: r => by
    rw [List.all_cons, List.filter_cons, ← ef_all r]
    cases hx : x == ("" : Str) <;> cases hy : wnB x <;> simp
theorem keeps_law_is_name : Keeps 4 (spF pNm) (b_law_is_name (spF pWn)) := by
  rintro args st Q E ⟨xs, y, rfl, ⟨d, rfl, hd, rfl⟩, q⟩
  rcases is_str d with ⟨s, rfl⟩ | ⟨h1, h2⟩
  · have hl := hd s rfl
    have e0 : nmB (.str s) = nmS s := rfl
    rw [e0] at q
    by_cases h60 : s.length ≤ 60
    · have d1 : decide ((60 : Int) < (s.length : Nat)) = false := decide_eq_false (by omega)
      obtain ⟨b, ts, e⟩ := split_cons s
      have hb : b.length ≤ 100000 := by have := split_len (s := s) (x := b) (by rw [e]; exact List.mem_cons_self ..); omega
      have hq : nmS s = (wnB b && ts.all fun t : Str => t == ("" : Str) || wnB t) := by
        unfold nmS
        rw [e, decide_eq_true h60]
        rfl
      rw [hq] at q
      have h0 : oIx (.list (PyData.str b :: ts.map .str)) (.int 0) = some (.str b) := L2.atI_nat (j := 0) rfl
      push_cast [b_law_is_name, show oIs "str" (.str s) = some (.bool true) from rfl, lenOf_s (z := s) (by omega), oGt_ii, d1, oSplit_tick hl, e, wSl, wOS, wON, asI, sl_tail, wLc, iSeq, itemsOf, wipeE]
      refine lc_go badB datV _ [] (fun x hx K1 K2 hk => ?_) ?_
      · obtain ⟨d, hd', rfl⟩ := List.mem_map.mp hx
        obtain ⟨t, ht, rfl⟩ := List.mem_map.mp hd'
        have ht' : t.length ≤ 100000 := by have := split_len (s := s) (x := t) (by rw [e]; exact List.mem_cons_of_mem _ ht); omega
        by_cases hte : t = ""
        · subst hte
          push_cast [DL.lit0]
          exact hk
        · have hne : (t == ("" : Str)) = false := by simpa using hte
          push_cast [hne]
          refine spF_go (xs := [.str t]) ⟨t, rfl, ht', rfl⟩ ?_
          have hbb : badB (.d (.str t)) = !wnB t := by show (!(t == "") && !wnB t) = _; rw [hne]; rfl
          rw [hbb] at hk
          push_cast [DL.lit0]
          cases hw2 : wnB t with
          | true => rw [hw2] at hk; exact hk
          | false => rw [hw2] at hk; exact hk
      · have e2 : (List.filter badB (List.map DV.d (List.map PyData.str ts))).map datV = (ts.filter fun t : Str => !(t == ("" : Str)) && !wnB t).map PyData.str := by
          rw [List.filter_map, List.filter_map, List.map_map, List.map_map]
          rfl
        simp only [List.nil_append]
        rw [e2]
        push_cast [h0]
        refine spF_go (xs := [.str b]) ⟨b, rfl, hb, rfl⟩ ?_
        push_cast [DL.lit0]
        cases hw : wnB b with
        | false =>
          rw [hw] at q
          push_cast [DL.lit0]
          exact q
        | true =>
          rw [hw] at q
          push_cast [eq_nil]
          have ef := ef_all ts
          rw [ef]
          simpa using q
    · have d1 : decide ((60 : Int) < (s.length : Nat)) = true := decide_eq_true (by omega)
      have hq : nmS s = false := by unfold nmS; rw [decide_eq_false h60]; rfl
      rw [hq] at q
      push_cast [b_law_is_name, show oIs "str" (.str s) = some (.bool true) from rfl, lenOf_s (z := s) (by omega), oGt_ii, d1]
      exact q
  · rw [h2] at q
    push_cast [b_law_is_name, h1]
    exact q
end DL.K02
/-! text K02P4 -/
namespace DL.K02
open PySem DL
/-! ### any data, bounded -/
mutual
def okD (B : Nat) : PyData → Prop
  | .int i => i.natAbs ≤ 10 ^ 30 + B
  | .str s => s.length ≤ 200 + B ∧ ∀ c ∈ s.cps.toList, c < 200
  | .list xs => okA B xs
  | .tuple xs => okA B xs
  | .dict kvs => kvs.isEmpty = true
  | .none => True
  | .bool _ => True
def okA (B : Nat) : List PyData → Prop
  | [] => True
  | x :: xs => okD B x ∧ okA B xs
end
mutual
def wt : PyData → Nat
  | .int _ => 40
  | .str s => 10 * s.length + 2
  | .list xs => 3 + wtA xs
  | .tuple xs => 3 + wtA xs
  | _ => 5
def wtA : List PyData → Nat
  | [] => 0
  | x :: xs => wt x + 2 + wtA xs
end
theorem okA_mem {B : Nat} : ∀ {xs : List PyData}, okA B xs ↔ ∀ x ∈ xs, okD B x
  | [] => by simp [okA]
  | x :: xs => by
    rw [okA, okA_mem (xs := xs)]
    simp
theorem int_len {i : Int} (h : i.natAbs ≤ 10 ^ 30 + 1000) : (PyData.int i).shown.length ≤ 40 ∧ (PyData.int i).showable = true := by
  have h31 : (10 : Nat) ^ 30 + 1000 ≤ 10 ^ 31 := by decide
  have h35 : i.natAbs < 10 ^ 35 := Nat.lt_of_le_of_lt (Nat.le_trans h h31) (Nat.pow_lt_pow_right (by decide) (by decide))
  constructor
  · have := int_text_length_le10 (a := i) (k := 35) (by decide) h35
    rw [PyData.shown]
    show (Str.ofString (toString i)).length ≤ 40
    rw [ofString_length]
    omega
  · rw [PyData.showable]
    refine decide_eq_true ?_
    by_cases h0 : i.natAbs = 0
    · rw [h0]; decide
    · refine (Nat.log2_lt h0).mpr (Nat.lt_of_lt_of_le h35 ?_)
      have e1 : (10 : Nat) ^ 35 ≤ (2 ^ 4) ^ 35 := Nat.pow_le_pow_left (by decide) 35
      rw [← Nat.pow_mul] at e1
      exact Nat.le_trans e1 (Nat.pow_le_pow_right (by decide) (by decide))
theorem shown_all_len (xs : List PyData) : (PyData.shownAll xs).length = xs.length := by
  induction xs with
  | nil => rfl
  | cons x xs ih => rw [PyData.shownAll]; simp [ih]
theorem seq_len (xs : List PyData) (n : Nat) (hh : ((PyData.shownAll xs).map (·.length)).sum + 2 * xs.length ≤ n) : (PyData.shown (.tuple xs)).length ≤ 3 + n ∧ (PyData.shown (.list xs)).length ≤ 3 + n := by
  have hj := StrLaws.join_length_le ", " (PyData.shownAll xs)
  have l2 : (", " : Str).length = 2 := rfl
  rw [l2, shown_all_len] at hj
  constructor
  · rw [PyData.shown]
    show (("(" : Str) ++ Str.join ", " (PyData.shownAll xs) ++ (if (PyData.shownAll xs).length == 1 then ",)" else ")" : String)).length ≤ 3 + n
    rw [str_len_append, str_len_append]
    have : ((if (PyData.shownAll xs).length == 1 then ",)" else ")" : String) : Str).length ≤ 2 := by split <;> decide
    have h1 : ("(" : Str).length = 1 := rfl
    omega
  · rw [PyData.shown, listText_eq_join]
    rw [str_len_append, str_len_append]
    have h1 : ("[" : Str).length = 1 := rfl
    have h2 : ("]" : Str).length = 1 := rfl
    omega
mutual
theorem ok_shown {B : Nat} (hB : B ≤ 1000) : ∀ d : PyData, okD B d → plE d = true ∧ d.showable = true ∧ d.shown.length ≤ wt d
  | .none, _ => ⟨rfl, by simp [PyData.showable], by decide⟩
  | .bool b, _ => ⟨rfl, by simp [PyData.showable], by cases b <;> decide⟩
  | .int i, h => by
    have h' : i.natAbs ≤ 10 ^ 30 + B := h
    obtain ⟨a, b⟩ := int_len (i := i) (by omega)
    exact ⟨rfl, b, a⟩
  | .str s, h => by
    have h' : s.length ≤ 200 + B ∧ ∀ c ∈ s.cps.toList, c < 200 := h
    refine ⟨rfl, by simp [PyData.showable], ?_⟩
    rw [PyData.shown]
    refine StrLaws.reprText_len s fun c hc => ?_
    have := h'.2 c hc
    have e : (200 : Nat) ≤ 16 ^ 8 := by decide
    omega
  | .list xs, h => by
    obtain ⟨a, b, c⟩ := ok_shownA hB xs h
    exact ⟨by simpa [plE] using a, by simpa [PyData.showable] using b, (seq_len xs _ c).2⟩
  | .tuple xs, h => by
    obtain ⟨a, b, c⟩ := ok_shownA hB xs h
    exact ⟨by simpa [plE] using a, by simpa [PyData.showable] using b, (seq_len xs _ c).1⟩
  | .dict kvs, h => by
    have h' : kvs.isEmpty = true := h
    have : kvs = [] := by simpa using h'
    subst this
    exact ⟨rfl, by simp [PyData.showable, PyData.showableKv], by decide⟩
theorem ok_shownA {B : Nat} (hB : B ≤ 1000) : ∀ xs : List PyData, okA B xs → plEAll xs = true ∧ PyData.showableAll xs = true ∧ ((PyData.shownAll xs).map (·.length)).sum + 2 * xs.length ≤ wtA xs
  | [], _ => ⟨rfl, rfl, by simp [PyData.shownAll, wtA]⟩
  | x :: xs, h => by
    have h' : okD B x ∧ okA B xs := h
    obtain ⟨a, b, c⟩ := ok_shown hB x h'.1
    obtain ⟨a2, b2, c2⟩ := ok_shownA hB xs h'.2
    refine ⟨by rw [plEAll, a, a2]; rfl, by rw [PyData.showableAll, b, b2]; rfl, ?_⟩
    rw [PyData.shownAll, wtA]
    simp only [List.map_cons, List.sum_cons, List.length_cons]
    omega
end
structure Ok (B D W : Nat) (d : PyData) : Prop where
  ok : okD B d
  dp : d.depth ≤ D
  w : wt d ≤ W
theorem Ok.mono {B D W B' D' W' : Nat} {d : PyData} (h : Ok B D W d) (hb : B ≤ B') (hd : D ≤ D') (hw : W ≤ W') : Ok B' D' W' d := by
  refine ⟨?_, Nat.le_trans h.dp hd, Nat.le_trans h.w hw⟩
  have go : ∀ d : PyData, okD B d → okD B' d := by
    intro d
    exact PyData.rec (motive_1 := fun d => okD B d → okD B' d) (motive_2 := fun xs => okA B xs → okA B' xs) (motive_3 := fun _ => True) (motive_4 := fun _ => True)
      (fun _ => trivial) (fun _ _ => trivial) (fun i h => by have h' : i.natAbs ≤ 10 ^ 30 + B := h; show i.natAbs ≤ 10 ^ 30 + B'; omega)
      (fun s h => by have h' : s.length ≤ 200 + B ∧ ∀ c ∈ s.cps.toList, c < 200 := h; exact ⟨by omega, h'.2⟩)
      (fun xs ih h => ih h) (fun xs ih h => ih h) (fun kvs _ h => h) (fun _ => trivial) (fun x xs h1 h2 h => ⟨h1 h.1, h2 h.2⟩) trivial (fun _ _ _ _ => trivial) (fun _ _ _ _ => trivial) d
  exact go d h.ok
theorem Ok.repr {B D W : Nat} {d : PyData} (h : Ok B D W d) (hb : B ≤ 1000) (hd : D ≤ 200) (hw : W ≤ 10000000) : oReprE d = some (.str d.shown) := by
  obtain ⟨a, b, c⟩ := ok_shown hb d h.ok
  have := h.dp
  have := h.w
  refine if_pos ?_
  unfold okReprE
  rw [a, b, decide_eq_true (show d.depth ≤ 200 by omega), decide_eq_true (lim_of (show d.shown.length ≤ 10000000 by omega))]
  rfl
theorem depthAll_le {D : Nat} : ∀ {xs : List PyData}, PyData.depthAll xs ≤ D ↔ ∀ x ∈ xs, x.depth ≤ D
  | [] => by simp [PyData.depthAll]
  | x :: xs => by
    rw [PyData.depthAll, Nat.max_le, depthAll_le (xs := xs)]
    simp
theorem wtA_app (xs ys : List PyData) : wtA (xs ++ ys) = wtA xs + wtA ys := by
  induction xs with
  | nil => simp [wtA]
  | cons x xs ih => rw [List.cons_append, wtA, wtA, ih]; omega
theorem wtA_mem : ∀ {xs : List PyData} {x : PyData}, x ∈ xs → wt x + 2 ≤ wtA xs
  | y :: ys, x, h => by
    rw [wtA]
    rcases List.mem_cons.mp h with rfl | h
    · omega
    · have := wtA_mem h
      omega
theorem Ok.mem {B D W : Nat} {xs : List PyData} (h : Ok B (D + 1) W (.tuple xs)) : ∀ x ∈ xs, Ok B D W x := fun x hx => by
  have hd : PyData.depthAll xs + 1 ≤ D + 1 := h.dp
  have hw : 3 + wtA xs ≤ W := h.w
  have := wtA_mem hx
  exact ⟨okA_mem.mp h.ok x hx, depthAll_le.mp (by omega) x hx, by omega⟩
theorem Ok.dpos {B D W : Nat} {xs : List PyData} (h : Ok B D W (.tuple xs)) : 1 ≤ D := by
  have hd : PyData.depthAll xs + 1 ≤ D := h.dp
  omega
theorem Ok.str {B D W : Nat} {d : PyData} (h : Ok B D W d) (hb : B ≤ 1000) : strOk d := fun s e => by
  subst e
  have h' : s.length ≤ 200 + B ∧ ∀ c ∈ s.cps.toList, c < 200 := h.ok
  omega
end DL.K02
/-! text K02P5 -/
namespace DL.K02
open PySem DL
/-! ### what is a kind -/
def kOk (k : Kd) : Prop := ∀ m ∈ k.names, nmS m = true
def isKn (n : Nat) (d : PyData) : Prop := ∃ k : Kd, d = k.enc ∧ kOk k ∧ k.dep ≤ n
open Classical in
noncomputable def bK (n : Nat) (d : PyData) : Bool := decide (isKn n d)
open Classical in
theorem bK_t {n : Nat} {d : PyData} (h : isKn n d) : bK n d = true := decide_eq_true h
open Classical in
theorem bK_f {n : Nat} {d : PyData} (h : ¬ isKn n d) : bK n d = false := decide_eq_false h
theorem isKn_0 (d : PyData) : ¬ isKn 0 d := fun ⟨k, _, _, h⟩ => by have := Kd.dep_pos k; omega
theorem isKn_head {n : Nat} {d : PyData} (h : isKn n d) : ∃ w r, d = .tuple (.str w :: r) := by
  obtain ⟨k, rfl, _⟩ := h
  cases k <;> exact ⟨_, _, rfl⟩
theorem isKn_name {n : Nat} {r : List PyData} : isKn (n + 1) (.tuple (.str "name" :: r)) ↔ ∃ x, r = [x] ∧ nmB x = true := by
  constructor
  · rintro ⟨k, e, hk, _⟩
    cases k with
    | name m =>
      simp only [Kd.enc, PyData.tuple.injEq, List.cons.injEq, true_and] at e
      exact ⟨.str m, e, hk m (by simp [Kd.names])⟩
    | thing => simp only [Kd.enc, PyData.tuple.injEq, List.cons.injEq, PyData.str.injEq] at e; exact absurd e.1 (by decide)
    | non => simp only [Kd.enc, PyData.tuple.injEq, List.cons.injEq, PyData.str.injEq] at e; exact absurd e.1 (by decide)
    | unit => simp only [Kd.enc, PyData.tuple.injEq, List.cons.injEq, PyData.str.injEq] at e; exact absurd e.1 (by decide)
    | pair a b => simp only [Kd.enc, PyData.tuple.injEq, List.cons.injEq, PyData.str.injEq] at e; exact absurd e.1 (by decide)
    | either a b => simp only [Kd.enc, PyData.tuple.injEq, List.cons.injEq, PyData.str.injEq] at e; exact absurd e.1 (by decide)
  · rintro ⟨x, rfl, hx⟩
    cases x with
    | str m => exact ⟨.name m, rfl, fun z hz => by simp [Kd.names] at hz; subst hz; exact hx, by simp [Kd.dep]⟩
    | _ => cases hx
theorem isKn_leaf {n : Nat} {w : Str} {r : List PyData} (hw : w = "thing" ∨ w = "none" ∨ w = "unit") : isKn (n + 1) (.tuple (.str w :: r)) ↔ r.length = 0 ∧ ∀ x ∈ r, isKn n x := by
  have h0 : (r.length = 0 ∧ ∀ x ∈ r, isKn n x) ↔ r = [] := by
    constructor
    · rintro ⟨h, _⟩; exact List.eq_nil_of_length_eq_zero h
    · rintro rfl; exact ⟨rfl, fun x h => by simp at h⟩
  rw [h0]
  constructor
  · rintro ⟨k, e, hk, _⟩
    cases k with
    | thing => simp only [Kd.enc, PyData.tuple.injEq, List.cons.injEq] at e; exact e.2
    | non => simp only [Kd.enc, PyData.tuple.injEq, List.cons.injEq] at e; exact e.2
    | unit => simp only [Kd.enc, PyData.tuple.injEq, List.cons.injEq] at e; exact e.2
    | name m => simp only [Kd.enc, PyData.tuple.injEq, List.cons.injEq, PyData.str.injEq] at e; rcases hw with rfl | rfl | rfl <;> exact absurd e.1 (by decide)
    | pair a b => simp only [Kd.enc, PyData.tuple.injEq, List.cons.injEq, PyData.str.injEq] at e; rcases hw with rfl | rfl | rfl <;> exact absurd e.1 (by decide)
    | either a b => simp only [Kd.enc, PyData.tuple.injEq, List.cons.injEq, PyData.str.injEq] at e; rcases hw with rfl | rfl | rfl <;> exact absurd e.1 (by decide)
  · rintro rfl
    rcases hw with rfl | rfl | rfl
    · exact ⟨.thing, rfl, fun z hz => by simp [Kd.names] at hz, by simp [Kd.dep]⟩
    · exact ⟨.non, rfl, fun z hz => by simp [Kd.names] at hz, by simp [Kd.dep]⟩
    · exact ⟨.unit, rfl, fun z hz => by simp [Kd.names] at hz, by simp [Kd.dep]⟩
theorem isKn_two {n : Nat} {w : Str} {r : List PyData} (hw : w = "pair" ∨ w = "either") : isKn (n + 1) (.tuple (.str w :: r)) ↔ r.length = 2 ∧ ∀ x ∈ r, isKn n x := by
  constructor
  · rintro ⟨k, e, hk, hd⟩
    cases k with
    | thing => simp only [Kd.enc, PyData.tuple.injEq, List.cons.injEq, PyData.str.injEq] at e; rcases hw with rfl | rfl <;> exact absurd e.1 (by decide)
    | non => simp only [Kd.enc, PyData.tuple.injEq, List.cons.injEq, PyData.str.injEq] at e; rcases hw with rfl | rfl <;> exact absurd e.1 (by decide)
    | unit => simp only [Kd.enc, PyData.tuple.injEq, List.cons.injEq, PyData.str.injEq] at e; rcases hw with rfl | rfl <;> exact absurd e.1 (by decide)
    | name m => simp only [Kd.enc, PyData.tuple.injEq, List.cons.injEq, PyData.str.injEq] at e; rcases hw with rfl | rfl <;> exact absurd e.1 (by decide)
    | pair a b =>
      simp only [Kd.enc, PyData.tuple.injEq, List.cons.injEq] at e
      obtain ⟨_, rfl⟩ := e
      simp only [Kd.dep] at hd
      refine ⟨rfl, fun x hx => ?_⟩
      rcases List.mem_cons.mp hx with rfl | hx
      · exact ⟨a, rfl, fun m hm => hk m (List.mem_append_left _ hm), by omega⟩
      · simp at hx; subst hx; exact ⟨b, rfl, fun m hm => hk m (List.mem_append_right _ hm), by omega⟩
    | either a b =>
      simp only [Kd.enc, PyData.tuple.injEq, List.cons.injEq] at e
      obtain ⟨_, rfl⟩ := e
      simp only [Kd.dep] at hd
      refine ⟨rfl, fun x hx => ?_⟩
      rcases List.mem_cons.mp hx with rfl | hx
      · exact ⟨a, rfl, fun m hm => hk m (List.mem_append_left _ hm), by omega⟩
      · simp at hx; subst hx; exact ⟨b, rfl, fun m hm => hk m (List.mem_append_right _ hm), by omega⟩
  · rintro ⟨h2, h⟩
    match r, h2 with
    | [a, b], _ =>
      obtain ⟨ka, rfl, oa, da⟩ := h a (by simp)
      obtain ⟨kb, rfl, ob, db⟩ := h b (by simp)
      have hn : ∀ z, z ∈ ka.names ++ kb.names → nmS z = true := fun z hz => (List.mem_append.mp hz).elim (oa z) (ob z)
      rcases hw with rfl | rfl
      · exact ⟨.pair ka kb, rfl, hn, by simp only [Kd.dep]; omega⟩
      · exact ⟨.either ka kb, rfl, hn, by simp only [Kd.dep]; omega⟩
theorem isKn_else {n : Nat} {w : Str} {r : List PyData} (h1 : w ≠ "thing") (h2 : w ≠ "none") (h3 : w ≠ "unit") (h4 : w ≠ "pair") (h5 : w ≠ "either") (h6 : w ≠ "name") : ¬ isKn n (.tuple (.str w :: r)) := by
  rintro ⟨k, e, _, _⟩
  cases k <;> simp only [Kd.enc, PyData.tuple.injEq, List.cons.injEq, PyData.str.injEq] at e
  · exact h1 e.1
  · exact h2 e.1
  · exact h3 e.1
  · exact h6 e.1
  · exact h4 e.1
  · exact h5 e.1
theorem sizes (w : Str) : ((w = "thing" ∨ w = "none" ∨ w = "unit") ∧ hasK k_KIND_SIZES (.str w) = true ∧ lookK k_KIND_SIZES (.str w) = some (.int ((0 : Nat) : Int))) ∨
    ((w = "pair" ∨ w = "either") ∧ hasK k_KIND_SIZES (.str w) = true ∧ lookK k_KIND_SIZES (.str w) = some (.int ((2 : Nat) : Int))) ∨
    (w ≠ "thing" ∧ w ≠ "none" ∧ w ≠ "unit" ∧ w ≠ "pair" ∧ w ≠ "either" ∧ hasK k_KIND_SIZES (.str w) = false) := by
  by_cases h1 : w = "thing"
  · subst h1; exact .inl ⟨.inl rfl, by decide, rfl⟩
  by_cases h2 : w = "none"
  · subst h2; exact .inl ⟨.inr (.inl rfl), by decide, rfl⟩
  by_cases h3 : w = "unit"
  · subst h3; exact .inl ⟨.inr (.inr rfl), by decide, rfl⟩
  by_cases h4 : w = "pair"
  · subst h4; exact .inr (.inl ⟨.inl rfl, by decide, rfl⟩)
  by_cases h5 : w = "either"
  · subst h5; exact .inr (.inl ⟨.inr rfl, by decide, rfl⟩)
  refine .inr (.inr ⟨h1, h2, h3, h4, h5, ?_⟩)
  have hq : ∀ t : Str, w ≠ t → (t == w) = false := fun t h => by
    have := Ne.symm h
    simpa using this
  simp only [hasK, k_KIND_SIZES, lookK, keyEq, hq _ h1, hq _ h2, hq _ h3, hq _ h4, hq _ h5]
  rfl
def pKf (l : Nat) (xs : List PyData) (y : PyData) : Prop := ∃ (d : PyData) (n B : Nat), xs = [d, .int (n : Nat)] ∧ n < l ∧ okD B d ∧ B ≤ 1000 ∧ y = .bool (bK n d)
theorem okD_str {B : Nat} {d : PyData} (h : okD B d) (hb : B ≤ 1000) : strOk d := fun s e => by
  subst e
  have h' : s.length ≤ 200 + B ∧ ∀ c ∈ s.cps.toList, c < 200 := h
  omega
theorem is_tup (d : PyData) : (∃ xs, d = .tuple xs) ∨ (oIs "tuple" d = some (.bool false) ∧ ∀ xs, d ≠ .tuple xs) := by
  cases d with
  | tuple xs => exact .inl ⟨xs, rfl⟩
  | _ => exact .inr ⟨rfl, fun xs h => nomatch h⟩
theorem is_str' (d : PyData) : (∃ s, d = .str s) ∨ (oIs "str" d = some (.bool false) ∧ ∀ s, d ≠ .str s) := by
  cases d with
  | str s => exact .inl ⟨s, rfl⟩
  | _ => exact .inr ⟨rfl, fun s h => nomatch h⟩
theorem eqE_nil (xs : List PyData) : oEqE (.tuple xs) (.tuple []) = some (.bool xs.isEmpty) := rfl
theorem len_t (xs : List PyData) : oLen (.tuple xs) = some (.int (xs.length : Nat)) := rfl
noncomputable def bKv (n : Nat) : DV → Bool
  | .d x => bK n x
  | _ => false
theorem keeps_is_kind_formed (l : Nat) : Keeps 3 (spF (pKf (l + 1))) (b_is_kind_formed (spF (pKf l)) (spF pNm)) := by
  rintro args st Q E ⟨xs, y, rfl, ⟨d, n, B, rfl, hn, hok, hB, rfl⟩, q⟩
  cases n with
  | zero =>
    rw [bK_f (isKn_0 d)] at q
    push_cast [b_is_kind_formed, show (((0 : Nat) : Int) == 0) = true from rfl]
    exact q
  | succ n =>
    have z0 : (((n + 1 : Nat) : Int) == 0) = false := by
      have : ((n + 1 : Nat) : Int) ≠ 0 := by omega
      simpa using this
    rcases is_tup d with ⟨r0, rfl⟩ | ⟨ht, hne⟩
    case inr =>
      rw [bK_f (fun h => by obtain ⟨w, r, e⟩ := isKn_head h; exact hne _ e)] at q
      push_cast [b_is_kind_formed, z0, ht]
      exact q
    cases r0 with
    | nil =>
      rw [bK_f (fun h => by obtain ⟨w, r, e⟩ := isKn_head h; cases e)] at q
      push_cast [b_is_kind_formed, z0, show oIs "tuple" (.tuple ([] : List PyData)) = some (.bool true) from rfl, eqE_nil, List.isEmpty_nil]
      exact q
    | cons x r =>
      have hoA : okA B (x :: r) := hok
      rcases is_str' x with ⟨w, rfl⟩ | ⟨hs, hne⟩
      case inr =>
        rw [bK_f (fun h => by obtain ⟨w, r', e⟩ := isKn_head h; cases e; exact hne _ rfl)] at q
        push_cast [b_is_kind_formed, z0, show oIs "tuple" (.tuple (x :: r)) = some (.bool true) from rfl, eqE_nil, List.isEmpty_cons, hs]
        exact q
      by_cases hw : w = "name"
      · subst hw
        match r, hoA, q with
        | [], _, q =>
          rw [bK_f (fun h => by obtain ⟨x, e, _⟩ := isKn_name.mp h; cases e)] at q
          push_cast [b_is_kind_formed, z0, show oIs "tuple" (.tuple [PyData.str "name"]) = some (.bool true) from rfl, eqE_nil, List.isEmpty_cons, show oIs "str" (.str "name") = some (.bool true) from rfl, len_t, show (((0 + 1 : Nat) : Int) == 2) = false from rfl]
          exact q
        | [x], hoA, q =>
          have e : bK (n + 1) (.tuple [.str "name", x]) = nmB x := by
            cases hx : nmB x with
            | true => exact bK_t (isKn_name.mpr ⟨x, rfl, hx⟩)
            | false => exact bK_f fun h => by obtain ⟨z, e, hz⟩ := isKn_name.mp h; cases e; rw [hx] at hz; cases hz
          rw [e] at q
          push_cast [b_is_kind_formed, z0, show oIs "tuple" (.tuple [PyData.str "name", x]) = some (.bool true) from rfl, eqE_nil, List.isEmpty_cons, show oIs "str" (.str "name") = some (.bool true) from rfl, len_t, show (((0 + 1 + 1 : Nat) : Int) == 2) = true from rfl]
          refine spF_go (xs := [x]) ⟨x, rfl, okD_str (B := B) hoA.2.1 hB, rfl⟩ ?_
          push_cast [DL.lit0]
          exact q
        | x :: z :: r, _, q =>
          rw [bK_f (fun h => by obtain ⟨x, e, _⟩ := isKn_name.mp h; cases e)] at q
          have e3 : (((r.length + 1 + 1 + 1 : Nat) : Int) == 2) = false := by
            have : ((r.length + 1 + 1 + 1 : Nat) : Int) ≠ 2 := by omega
            simpa using this
          push_cast [b_is_kind_formed, z0, show oIs "tuple" (.tuple (PyData.str "name" :: x :: z :: r)) = some (.bool true) from rfl, eqE_nil, List.isEmpty_cons, show oIs "str" (.str "name") = some (.bool true) from rfl, len_t, e3]
          exact q
      · have hw' : (w == ("name" : Str)) = false := by simpa using hw
        have go : ∀ m : Nat, hasK k_KIND_SIZES (.str w) = true → lookK k_KIND_SIZES (.str w) = some (.int (m : Nat)) → (isKn (n + 1) (.tuple (.str w :: r)) ↔ r.length = m ∧ ∀ x ∈ r, isKn n x) → b_is_kind_formed (spF (pKf l)) (spF pNm) E (finOf st.length Q) (startE 3 [.d (.tuple (.str w :: r)), .d (.int ((n + 1 : Nat) : Int))]) st := fun m h1 h2 h3 => by
          by_cases hm : r.length = m
          · have e1 : ((((r.length + 1 : Nat) : Int)) == 1 + ((m : Nat) : Int)) = true := by
              have : ((r.length + 1 : Nat) : Int) = 1 + ((m : Nat) : Int) := by omega
              simpa using this
            push_cast [b_is_kind_formed, z0, show oIs "tuple" (.tuple (PyData.str w :: r)) = some (.bool true) from rfl, eqE_nil, List.isEmpty_cons, show oIs "str" (.str w) = some (.bool true) from rfl, hw', wKIn, wKIx, h1, h2, len_t, e1, wSl, wOS, wON, asI, sl_tailT, wLc, iSeq, itemsOf, wipeE]
            refine lc_go (fun _ => true) (fun v => .bool (bKv n v)) _ [] (fun x hx K1 K2 hk1 => ?_) ?_
            · obtain ⟨x, hx', rfl⟩ := List.mem_map.mp hx
              have hk' : K1 (.bool (bKv n (.d x))) st := by simpa using hk1
              push_cast [DL.lit0]
              have ed : ((n + 1 : Nat) : Int) - 1 = ((n : Nat) : Int) := by omega
              rw [ed]
              refine spF_go (xs := [x, .int ((n : Nat) : Int)]) ⟨x, n, B, rfl, by omega, okA_mem.mp hoA.2 x hx', hB, rfl⟩ ?_
              push_cast [DL.lit0]
              exact hk'
            · push_cast [filter_all, List.nil_append, oAll_map]
              have e2 : (List.map DV.d r).all (bKv n) = bK (n + 1) (.tuple (.str w :: r)) := by
                rw [List.all_map]
                by_cases hh : ∀ x ∈ r, isKn n x
                · rw [bK_t (h3.mpr ⟨hm, hh⟩), List.all_eq_true]
                  exact fun x hx => bK_t (hh x hx)
                · rw [bK_f (fun z => hh (h3.mp z).2)]
                  apply Bool.eq_false_iff.mpr
                  intro z
                  rw [List.all_eq_true] at z
                  refine hh fun x hx => ?_
                  have := z x hx
                  by_cases hc : isKn n x
                  · exact hc
                  · have e : bK n x = true := this
                    rw [bK_f hc] at e
                    cases e
              rw [e2]
              exact q
          · have e1 : ((((r.length + 1 : Nat) : Int)) == 1 + ((m : Nat) : Int)) = false := by
              have : ((r.length + 1 : Nat) : Int) ≠ 1 + ((m : Nat) : Int) := by omega
              simpa using this
            rw [bK_f (fun z => hm (h3.mp z).1)] at q
            push_cast [b_is_kind_formed, z0, show oIs "tuple" (.tuple (PyData.str w :: r)) = some (.bool true) from rfl, eqE_nil, List.isEmpty_cons, show oIs "str" (.str w) = some (.bool true) from rfl, hw', wKIn, wKIx, h1, h2, len_t, e1]
            exact q
        rcases sizes w with ⟨h1, h2, h3⟩ | ⟨h1, h2, h3⟩ | ⟨h1, h2, h3, h4, h5, h6⟩
        · exact go 0 h2 h3 (isKn_leaf h1)
        · exact go 2 h2 h3 (isKn_two h1)
        · rw [bK_f (isKn_else h1 h2 h3 h4 h5 hw)] at q
          push_cast [b_is_kind_formed, z0, show oIs "tuple" (.tuple (PyData.str w :: r)) = some (.bool true) from rfl, eqE_nil, List.isEmpty_cons, show oIs "str" (.str w) = some (.bool true) from rfl, hw', wKIn, h6]
          exact q
end DL.K02
/-! text K02P6 -/
namespace DL.K02
open PySem DL
def subs : Kd → List PyData
  | .pair a b => [a.enc, b.enc]
  | .either a b => [a.enc, b.enc]
  | _ => []
def pKI (xs : List PyData) (y : PyData) : Prop := ∃ k : Kd, xs = [k.enc] ∧ y = .tuple (subs k)
theorem sl_k (k : Kd) (h : k.head ≠ "name") : oSl k.enc (some 1) none = some (.tuple (subs k)) := by
  cases k with
  | thing => rfl
  | non => rfl
  | unit => rfl
  | name n => exact absurd rfl h
  | pair a b =>
    have e : cutG [PyData.str "pair", a.enc, b.enc] (some 1) none = [a.enc, b.enc] := rfl
    show (if bookish (cutG [PyData.str "pair", a.enc, b.enc] (some 1) none) = false then some (PyData.tuple (cutG [PyData.str "pair", a.enc, b.enc] (some 1) none)) else none) = _
    rw [e, if_pos (bookish_kd a _)]
    rfl
  | either a b =>
    have e : cutG [PyData.str "either", a.enc, b.enc] (some 1) none = [a.enc, b.enc] := rfl
    show (if bookish (cutG [PyData.str "either", a.enc, b.enc] (some 1) none) = false then some (PyData.tuple (cutG [PyData.str "either", a.enc, b.enc] (some 1) none)) else none) = _
    rw [e, if_pos (bookish_kd a _)]
    rfl
theorem head_ne {k : Kd} (h : ∀ n, k ≠ .name n) : (k.head == ("name" : Str)) = false ∧ k.head ≠ "name" := by
  cases k with
  | name n => exact absurd rfl (h n)
  | thing => exact ⟨by decide, by decide⟩
  | non => exact ⟨by decide, by decide⟩
  | unit => exact ⟨by decide, by decide⟩
  | pair _ _ => exact ⟨show (("pair" : Str) == ("name" : Str)) = false by decide, show ("pair" : Str) ≠ ("name" : Str) by decide⟩
  | either _ _ => exact ⟨show (("either" : Str) == ("name" : Str)) = false by decide, show ("either" : Str) ≠ ("name" : Str) by decide⟩
theorem keeps_kinds_in : Keeps 1 (spF pKI) b_kinds_in := by
  rintro args st Q E ⟨xs, y, rfl, ⟨k, rfl, rfl⟩, q⟩
  by_cases hn : ∃ n, k = .name n
  · obtain ⟨n, rfl⟩ := hn
    push_cast [b_kinds_in]
    exact q
  · have hh := head_ne (k := k) fun n e => hn ⟨n, e⟩
    push_cast [b_kinds_in, hh.1, wSl, wOS, wON, asI, sl_k k hh.2]
    exact q
def pCK (l : Nat) (xs : List PyData) (y : PyData) : Prop := ∃ k : Kd, xs = [k.enc] ∧ k.dep ≤ l ∧ y = .int (k.parts : Nat)
theorem keeps_count_kinds (l : Nat) : Keeps 2 (spF (pCK (l + 1))) (b_count_kinds (spF pKI) (spF (pCK l))) := by
  rintro args st Q E ⟨xs, y, rfl, ⟨k, rfl, hk, rfl⟩, q⟩
  push_cast [b_count_kinds, wLc, iSeq]
  refine spF_go (xs := [k.enc]) ⟨k, rfl, rfl⟩ ?_
  push_cast [itemsOf]
  cases k with
  | either a b =>
    have ha : a.dep ≤ l := by simp only [Kd.dep] at hk; omega
    have hb : b.dep ≤ l := by simp only [Kd.dep] at hk; omega
    push_cast [subs, lcGo, wipeE, wYes]
    refine spF_go (xs := [a.enc]) ⟨a, rfl, ha, rfl⟩ ?_
    push_cast [lcGo]
    refine spF_go (xs := [b.enc]) ⟨b, rfl, hb, rfl⟩ ?_
    push_cast [lcGo, oSum, numsOf, List.sum_cons, List.sum_nil]
    have e : (1 : Int) + ((a.parts : Nat) + ((b.parts : Nat) + 0)) = ((a.parts + b.parts + 1 : Nat) : Int) := by omega
    rw [e]
    exact q
  | pair a b =>
    have ha : a.dep ≤ l := by simp only [Kd.dep] at hk; omega
    have hb : b.dep ≤ l := by simp only [Kd.dep] at hk; omega
    push_cast [subs, lcGo, wipeE, wYes]
    refine spF_go (xs := [a.enc]) ⟨a, rfl, ha, rfl⟩ ?_
    push_cast [lcGo]
    refine spF_go (xs := [b.enc]) ⟨b, rfl, hb, rfl⟩ ?_
    push_cast [lcGo, oSum, numsOf, List.sum_cons, List.sum_nil]
    have e : (1 : Int) + ((a.parts : Nat) + ((b.parts : Nat) + 0)) = ((a.parts + b.parts + 1 : Nat) : Int) := by omega
    rw [e]
    exact q
  | thing => push_cast [subs, lcGo, oSum, numsOf, List.sum_nil]; exact q
  | non => push_cast [subs, lcGo, oSum, numsOf, List.sum_nil]; exact q
  | unit => push_cast [subs, lcGo, oSum, numsOf, List.sum_nil]; exact q
  | name n => push_cast [subs, lcGo, oSum, numsOf, List.sum_nil]; exact q
def subsK : Kd → List Kd
  | .pair a b => [a, b]
  | .either a b => [a, b]
  | _ => []
theorem subs_eq (k : Kd) : subs k = (subsK k).map Kd.enc := by cases k <;> rfl
theorem subs_dep {k x : Kd} (h : x ∈ subsK k) : x.dep + 1 ≤ k.dep ∧ (∀ n ∈ x.names, n ∈ k.names) ∧ x.parts + 1 ≤ k.parts := by
  cases k with
  | pair a b =>
    simp only [subsK, List.mem_cons, List.not_mem_nil, or_false] at h
    rcases h with rfl | rfl
    · exact ⟨by simp only [Kd.dep]; omega, fun n hn => List.mem_append_left _ hn, by simp only [Kd.parts]; omega⟩
    · exact ⟨by simp only [Kd.dep]; omega, fun n hn => List.mem_append_right _ hn, by simp only [Kd.parts]; omega⟩
  | either a b =>
    simp only [subsK, List.mem_cons, List.not_mem_nil, or_false] at h
    rcases h with rfl | rfl
    · exact ⟨by simp only [Kd.dep]; omega, fun n hn => List.mem_append_left _ hn, by simp only [Kd.parts]; omega⟩
    · exact ⟨by simp only [Kd.dep]; omega, fun n hn => List.mem_append_right _ hn, by simp only [Kd.parts]; omega⟩
  | thing => simp [subsK] at h
  | non => simp [subsK] at h
  | unit => simp [subsK] at h
  | name n => simp [subsK] at h
theorem oAdd_ll {xs ys : List PyData} (h : xs.length + ys.length ≤ 10000000) : oAdd (.list xs) (.list ys) = some (.list (xs ++ ys)) := if_pos (lim_of h)
def pKD (l : Nat) (xs : List PyData) (y : PyData) : Prop := ∃ k : Kd, xs = [k.enc] ∧ k.dep ≤ l ∧ y = .int (k.dep : Nat)
theorem max2 (a b : Nat) : (1 : Int) + maxI [0, (a : Nat), (b : Nat)] = ((max a b + 1 : Nat) : Int) := by
  simp only [maxI]
  omega
theorem keeps_kind_depth (l : Nat) : Keeps 2 (spF (pKD (l + 1))) (b_kind_depth (spF pKI) (spF (pKD l))) := by
  rintro args st Q E ⟨xs, y, rfl, ⟨k, rfl, hk, rfl⟩, q⟩
  have h1 : oAdd (.list [.int 0]) (.list []) = some (.list [.int 0]) := oAdd_ll (by simp)
  have h1' : oMaxL (.list [.int 0]) = some (.int 0) := rfl
  push_cast [b_kind_depth, wLc, iSeq]
  refine spF_go (xs := [k.enc]) ⟨k, rfl, rfl⟩ ?_
  push_cast [itemsOf]
  cases k with
  | either a b =>
    have ha : a.dep ≤ l := by simp only [Kd.dep] at hk; omega
    have hb : b.dep ≤ l := by simp only [Kd.dep] at hk; omega
    push_cast [subs, lcGo, wipeE, wYes]
    refine spF_go (xs := [a.enc]) ⟨a, rfl, ha, rfl⟩ ?_
    push_cast [lcGo]
    refine spF_go (xs := [b.enc]) ⟨b, rfl, hb, rfl⟩ ?_
    have h2 : oAdd (.list [.int 0]) (.list [.int (a.dep : Nat), .int (b.dep : Nat)]) = some (.list [.int 0, .int (a.dep : Nat), .int (b.dep : Nat)]) := oAdd_ll (by simp)
    have h3 : oMaxL (.list [.int 0, .int (a.dep : Nat), .int (b.dep : Nat)]) = some (.int (maxI [0, (a.dep : Nat), (b.dep : Nat)])) := rfl
    push_cast [lcGo, h2, h3, max2]
    exact q
  | pair a b =>
    have ha : a.dep ≤ l := by simp only [Kd.dep] at hk; omega
    have hb : b.dep ≤ l := by simp only [Kd.dep] at hk; omega
    push_cast [subs, lcGo, wipeE, wYes]
    refine spF_go (xs := [a.enc]) ⟨a, rfl, ha, rfl⟩ ?_
    push_cast [lcGo]
    refine spF_go (xs := [b.enc]) ⟨b, rfl, hb, rfl⟩ ?_
    have h2 : oAdd (.list [.int 0]) (.list [.int (a.dep : Nat), .int (b.dep : Nat)]) = some (.list [.int 0, .int (a.dep : Nat), .int (b.dep : Nat)]) := oAdd_ll (by simp)
    have h3 : oMaxL (.list [.int 0, .int (a.dep : Nat), .int (b.dep : Nat)]) = some (.int (maxI [0, (a.dep : Nat), (b.dep : Nat)])) := rfl
    push_cast [lcGo, h2, h3, max2]
    exact q
  | thing => push_cast [subs, lcGo, h1, h1']; exact q
  | non => push_cast [subs, lcGo, h1, h1']; exact q
  | unit => push_cast [subs, lcGo, h1, h1']; exact q
  | name n => push_cast [subs, lcGo, h1, h1']; exact q
/-! ### is it a kind -/
def isKd (d : PyData) : Prop := ∃ k : Kd, d = k.enc ∧ kOk k ∧ k.dep ≤ 30 ∧ k.parts ≤ 2000
open Classical in
noncomputable def bKd (d : PyData) : Bool := decide (isKd d)
open Classical in
theorem bKd_t {d : PyData} (h : isKd d) : bKd d = true := decide_eq_true h
open Classical in
theorem bKd_f {d : PyData} (h : ¬ isKd d) : bKd d = false := decide_eq_false h
open Classical in
theorem bKd_iff {d : PyData} : bKd d = true ↔ isKd d := decide_eq_true_iff
open Classical in
theorem bK_iff {n : Nat} {d : PyData} : bK n d = true ↔ isKn n d := decide_eq_true_iff
theorem enc_inj {a b : Kd} (h : a.enc = b.enc) : a = b := (Kd.eqv_enc a b).mp (by rw [h]; exact (Kd.eqv_enc b b).mpr rfl)
def pKd (xs : List PyData) (y : PyData) : Prop := ∃ (d : PyData) (B : Nat), xs = [d] ∧ okD B d ∧ B ≤ 1000 ∧ y = .bool (bKd d)
theorem keeps_is_kinded : Keeps 1 (spF pKd) (b_is_kinded (spF (pCK 30)) (spF (pKf 31))) := by
  rintro args st Q E ⟨xs, y, rfl, ⟨d, B, rfl, ho, hB, rfl⟩, q⟩
  push_cast [b_is_kinded, g_MOST_DEEP, g_MOST_PARTS]
  refine spF_go (xs := [d, .int ((30 : Nat) : Int)]) ⟨d, 30, B, rfl, by omega, ho, hB, rfl⟩ ?_
  by_cases h : isKn 30 d
  · rw [bK_t h]
    obtain ⟨k, rfl, hk, hd⟩ := h
    push_cast [DL.lit0]
    refine spF_go (xs := [k.enc]) ⟨k, rfl, hd, rfl⟩ ?_
    push_cast [oLe_ii]
    have e : bKd k.enc = decide (((k.parts : Nat) : Int) ≤ 2000) := by
      by_cases hp : k.parts ≤ 2000
      · rw [bKd_t ⟨k, rfl, hk, hd, hp⟩, decide_eq_true (by omega)]
      · rw [bKd_f (fun ⟨k', e, _, _, z⟩ => hp (by rw [enc_inj e]; exact z)), decide_eq_false (by omega)]
    rw [e] at q
    exact q
  · rw [bK_f h]
    rw [bKd_f (fun ⟨k, e, a, b, _⟩ => h ⟨k, e, a, b⟩)] at q
    push_cast [DL.lit0]
    exact q
theorem keeps_is_name : Keeps 1 (spF pNm) (b_is_name (spF pNm)) := by
  rintro args st Q E ⟨xs, y, rfl, ⟨d, rfl, hd, rfl⟩, q⟩
  push_cast [b_is_name]
  refine spF_go (xs := [d]) ⟨d, rfl, hd, rfl⟩ ?_
  push_cast [DL.lit0]
  exact q
theorem keeps_is_kind : Keeps 1 (spF pKd) (b_is_kind (spF pKd)) := by
  rintro args st Q E ⟨xs, y, rfl, ⟨d, B, rfl, ho, hB, rfl⟩, q⟩
  push_cast [b_is_kind]
  refine spF_go (xs := [d]) ⟨d, B, rfl, ho, hB, rfl⟩ ?_
  push_cast [DL.lit0]
  exact q
/-! ### a kind is checked, measured -/
def gK (B : Nat) (k : Kd) : Prop := okD B k.enc ∧ B ≤ 1000 ∧ kOk k ∧ k.dep ≤ 30 ∧ k.parts ≤ 2000
def pCh (xs : List PyData) (y : PyData) : Prop := ∃ (k : Kd) (B : Nat), xs = [k.enc] ∧ gK B k ∧ y = .none
theorem keeps_check_kind : Keeps 1 (spF pCh) (b_check_kind (spF pKd)) := by
  rintro args st Q E ⟨xs, y, rfl, ⟨k, B, rfl, ⟨h1, h2, h3, h4, h5⟩, rfl⟩, q⟩
  push_cast [b_check_kind]
  refine spF_go (xs := [k.enc]) ⟨k.enc, B, rfl, h1, h2, rfl⟩ ?_
  push_cast [bKd_t ⟨k, rfl, h3, h4, h5⟩]
  exact q
def pDk (xs : List PyData) (y : PyData) : Prop := ∃ (k : Kd) (B : Nat), xs = [k.enc] ∧ gK B k ∧ y = .int (k.dep : Nat)
theorem keeps_depth_of_kind : Keeps 1 (spF pDk) (b_depth_of_kind (spF (pKD 30)) (spF pCh)) := by
  rintro args st Q E ⟨xs, y, rfl, ⟨k, B, rfl, h, rfl⟩, q⟩
  push_cast [b_depth_of_kind]
  refine spF_go (xs := [k.enc]) ⟨k, B, rfl, h, rfl⟩ ?_
  refine spF_go (xs := [k.enc]) ⟨k, rfl, h.2.2.2.1, rfl⟩ ?_
  push_cast [DL.lit0]
  exact q
def pPk' (xs : List PyData) (y : PyData) : Prop := ∃ (k : Kd) (B : Nat), xs = [k.enc] ∧ gK B k ∧ y = .int (k.parts : Nat)
theorem keeps_parts_of_kind : Keeps 1 (spF pPk') (b_parts_of_kind (spF (pCK 30)) (spF pCh)) := by
  rintro args st Q E ⟨xs, y, rfl, ⟨k, B, rfl, h, rfl⟩, q⟩
  push_cast [b_parts_of_kind]
  refine spF_go (xs := [k.enc]) ⟨k, B, rfl, h, rfl⟩ ?_
  refine spF_go (xs := [k.enc]) ⟨k, rfl, h.2.2.2.1, rfl⟩ ?_
  push_cast [DL.lit0]
  exact q
end DL.K02
/-! text K02P7 -/
namespace DL.K02
open PySem DL
/-! ### the names of a kind -/
def okN (ks : List Str) (kvs : List (PyData × PyData)) : Prop := keysT kvs = some ks ∧ ks.Nodup
theorem keysT_len : ∀ {kvs : List (PyData × PyData)} {ks : List Str}, keysT kvs = some ks → kvs.length = ks.length
  | [], _, h => by cases h; rfl
  | (k, v) :: r, ks, h => by
    cases k with
    | str z =>
      have h2 : (keysT r).map (z :: ·) = some ks := h
      cases q : keysT r with
      | none => rw [q] at h2; cases h2
      | some t => rw [q] at h2; cases h2; simp [keysT_len q]
    | _ => cases h
theorem keysT_app : ∀ {kvs ms : List (PyData × PyData)} {ks js : List Str}, keysT kvs = some ks → keysT ms = some js → keysT (kvs ++ ms) = some (ks ++ js)
  | [], _, _, _, h, g => by cases h; exact g
  | (k, v) :: r, ms, ks, js, h, g => by
    cases k with
    | str z =>
      have h2 : (keysT r).map (z :: ·) = some ks := h
      cases q : keysT r with
      | none => rw [q] at h2; cases h2
      | some t =>
        rw [q] at h2; cases h2
        show (keysT (r ++ ms)).map (z :: ·) = _
        rw [keysT_app q g]
        rfl
    | _ => cases h
theorem keysT_any : ∀ {kvs : List (PyData × PyData)} {ks : List Str} (z : Str), keysT kvs = some ks → ((kvs.any fun p => keyEq p.1 (.str z)) = true ↔ z ∈ ks)
  | [], _, z, h => by cases h; simp
  | (k, v) :: r, ks, z, h => by
    cases k with
    | str w =>
      have h2 : (keysT r).map (w :: ·) = some ks := h
      cases q : keysT r with
      | none => rw [q] at h2; cases h2
      | some t =>
        rw [q] at h2; cases h2
        rw [List.any_cons, Bool.or_eq_true, keysT_any z q]
        show (w == z) = true ∨ z ∈ t ↔ z ∈ w :: t
        rw [List.mem_cons]
        constructor
        · rintro (h | h)
          · exact .inl (beq_iff_eq.mp h).symm
          · exact .inr h
        · rintro (h | h)
          · exact .inl (by simp [h])
          · exact .inr h
    | _ => cases h
theorem keysT_map (z : Str) (v : PyData) : ∀ {kvs : List (PyData × PyData)} {ks : List Str}, keysT kvs = some ks → keysT (kvs.map fun p => if keyEq p.1 (.str z) = true then (p.1, v) else p) = some ks
  | [], _, h => by cases h; rfl
  | (k, u) :: r, ks, h => by
    cases k with
    | str w =>
      have h2 : (keysT r).map (w :: ·) = some ks := h
      cases q : keysT r with
      | none => rw [q] at h2; cases h2
      | some t =>
        rw [q] at h2; cases h2
        rw [List.map_cons]
        have : ∀ x : PyData, keysT ((PyData.str w, x) :: r.map fun p => if keyEq p.1 (.str z) = true then (p.1, v) else p) = some (w :: t) := fun x => by
          show (keysT (r.map _)).map (w :: ·) = _
          rw [keysT_map z v q]
          rfl
        by_cases hk : keyEq (.str w) (.str z) = true
        · simp only [hk, if_true]; exact this v
        · simp only [hk]; exact this u
    | _ => cases h
theorem putK_keys {ks : List Str} {kvs : List (PyData × PyData)} {z : Str} {v : PyData} (h : okN ks kvs) : ∃ ks', okN ks' (putK kvs (.str z) v) ∧ (∀ x, x ∈ ks' ↔ x ∈ ks ∨ x = z) ∧ ks'.length ≤ ks.length + 1 := by
  unfold putK
  by_cases hz : (kvs.any fun p => keyEq p.1 (.str z)) = true
  · rw [if_pos hz]
    have hm := (keysT_any z h.1).mp hz
    refine ⟨ks, ⟨keysT_map z v h.1, h.2⟩, fun x => ⟨.inl, fun hx => hx.elim _root_.id fun e => by subst e; exact hm⟩, by omega⟩
  · rw [if_neg hz]
    have hm : z ∉ ks := fun hx => hz ((keysT_any z h.1).mpr hx)
    refine ⟨ks ++ [z], ⟨keysT_app h.1 rfl, ?_⟩, fun x => by simp, by simp⟩
    rw [List.nodup_append]
    refine ⟨h.2, by simp, fun a ha b hb => ?_⟩
    simp at hb
    subst hb
    intro e
    subst e
    exact hm ha
theorem putsK_keys : ∀ {js : List Str} {more : List (PyData × PyData)} {ks : List Str} {kvs : List (PyData × PyData)}, okN ks kvs → keysT more = some js → ∃ ks', okN ks' (putsK kvs more) ∧ (∀ x, x ∈ ks' ↔ x ∈ ks ∨ x ∈ js) ∧ ks'.length ≤ ks.length + js.length
  | js, [], ks, kvs, h, g => by
    cases g
    exact ⟨ks, h, fun x => by simp, by simp⟩
  | js, (k, v) :: r, ks, kvs, h, g => by
    cases k with
    | str z =>
      have h2 : (keysT r).map (z :: ·) = some js := g
      cases q : keysT r with
      | none => rw [q] at h2; cases h2
      | some t =>
        rw [q] at h2; cases h2
        obtain ⟨k1, a, b, c⟩ := putK_keys (z := z) (v := v) h
        obtain ⟨k2, a2, b2, c2⟩ := putsK_keys a q
        refine ⟨k2, a2, fun x => ?_, by simp; omega⟩
        rw [b2, b, List.mem_cons]
        constructor
        · rintro ((h | h) | h)
          · exact .inl h
          · exact .inr (.inl h)
          · exact .inr (.inr h)
        · rintro (h | h | h)
          · exact .inl (.inl h)
          · exact .inl (.inr h)
          · exact .inr h
    | _ => cases g
def spR' := spR
def preNB (l : Nat) (xs : List PyData) : Prop := ∃ k : Kd, xs = [k.enc] ∧ k.dep ≤ l ∧ k.parts ≤ 100000
def relNB (xs : List PyData) (y : PyData) : Prop := ∀ k : Kd, xs = [k.enc] → ∃ kvs ks, y = .dict kvs ∧ okN ks kvs ∧ (∀ z, z ∈ ks ↔ z ∈ k.names) ∧ ks.length ≤ k.parts
theorem nb_loop {l : Nat} {E : EK} {v0 : Option DV} {st : Store} {D : Fin} {N : Nat} (hN : N ≤ 100000) : ∀ (ks : List Kd) (acc : List (PyData × PyData)) (S : List Str) (v2 : Option DV),
    okN S acc → (∀ k ∈ ks, k.dep ≤ l ∧ k.parts ≤ 100000) → S.length + (ks.map Kd.parts).sum ≤ N →
    (∀ kvs S' v2, okN S' kvs → (∀ z, z ∈ S' ↔ z ∈ S ∨ ∃ k ∈ ks, z ∈ k.names) → S'.length ≤ N → D.nx [v0, some (.d (.dict kvs)), v2] st) →
    forGo (gN 2) (wAsg (wDctS (wVar 1) (wCall (spR (preNB l) relNB) E (wCons (wVar 2) wNil))) (gN 1)) D ((ks.map Kd.enc).map DV.d) [v0, some (.d (.dict acc)), v2] st
  | [], acc, S, v2, h, _, hl, q => q acc S v2 h (fun z => by simp) (by simpa using hl)
  | k :: ks, acc, S, v2, h, hk, hl, q => by
    obtain ⟨h1, h2⟩ := hk k (List.mem_cons_self ..)
    simp only [List.map_cons, List.sum_cons] at hl
    have la := keysT_len h.1
    push_cast [List.map_cons, forGo, wDctS]
    refine ⟨lim_of (by omega), ?_⟩
    refine spR_go (xs := [k.enc]) ⟨k, rfl, h1, h2⟩ fun y hy => ?_
    obtain ⟨kvs, js, rfl, ho, hjn, hkl⟩ := hy k rfl
    obtain ⟨s1, a1, b1, c1⟩ := putsK_keys (ks := []) (kvs := []) ⟨rfl, List.nodup_nil⟩ h.1
    obtain ⟨s2, a2, b2, c2⟩ := putsK_keys a1 ho.1
    have l1 := keysT_len a1.1
    have l2 := keysT_len ho.1
    simp only [List.length_nil, Nat.zero_add] at c1
    push_cast [DL.lit0]
    refine ⟨lim_of (by omega), ?_⟩
    refine nb_loop hN ks _ s2 _ a2 (fun k hk' => hk k (List.mem_cons_of_mem _ hk')) (by omega) fun kvs S' v2 h1 h2 h3 => q kvs S' v2 h1 (fun z => ?_) h3
    rw [h2, b2, b1, hjn]
    constructor
    · rintro (((h | h) | h) | ⟨x, hx, h⟩)
      · simp at h
      · exact .inl h
      · exact .inr ⟨k, List.mem_cons_self .., h⟩
      · exact .inr ⟨x, List.mem_cons_of_mem _ hx, h⟩
    · rintro (h | ⟨x, hx, h⟩)
      · exact .inl (.inl (.inr h))
      · rcases List.mem_cons.mp hx with rfl | hx
        · exact .inl (.inr h)
        · exact .inr ⟨x, hx, h⟩
theorem parts_sum (k : Kd) : ((subsK k).map Kd.parts).sum + 1 ≤ k.parts := by
  cases k <;> simp [subsK, Kd.parts]
theorem names_subs {k : Kd} (h : ∀ n, k ≠ .name n) (z : Str) : (∃ x ∈ subsK k, z ∈ x.names) ↔ z ∈ k.names := by
  cases k with
  | name n => exact absurd rfl (h n)
  | pair a b => simp [subsK, Kd.names]
  | either a b => simp [subsK, Kd.names]
  | thing => simp [subsK, Kd.names]
  | non => simp [subsK, Kd.names]
  | unit => simp [subsK, Kd.names]
theorem keeps_names_by (l : Nat) : Keeps 3 (spR (preNB (l + 1)) relNB) (b_names_by (spF pKI) (spR (preNB l) relNB)) := by
  rintro args st Q E ⟨xs, rfl, ⟨k, rfl, hk, hp⟩, q⟩
  by_cases hname : ∃ n, k = .name n
  · obtain ⟨n, rfl⟩ := hname
    push_cast [b_names_by, wDisp, wPC, wPN, isKey, putsK, List.foldl_cons, List.foldl_nil, putK, List.any_nil]
    refine ⟨by decide, q _ fun k' e => ?_⟩
    have := enc_inj (a := k') (b := .name n) (by simpa using (List.cons.inj e).1.symm)
    subst this
    exact ⟨_, [n], rfl, ⟨rfl, by simp⟩, fun z => by simp [Kd.names], by simp [Kd.parts]⟩
  · have hh := head_ne (k := k) fun n e => hname ⟨n, e⟩
    push_cast [b_names_by, hh.1, wDct0, wFor, iSeq]
    refine spF_go (xs := [k.enc]) ⟨k, rfl, rfl⟩ ?_
    push_cast [itemsOf, subs_eq]
    have hps := parts_sum k
    refine nb_loop (N := k.parts) hp (subsK k) [] [] none ⟨rfl, List.nodup_nil⟩ (fun x hx => ?_) ?_ fun kvs S' v2 ho hm hl => ?_
    · obtain ⟨s1, s2, s3⟩ := subs_dep hx
      exact ⟨by omega, by omega⟩
    · simp only [List.length_nil]; omega
    · push_cast [DL.lit0]
      refine q _ fun k' e => ?_
      have := enc_inj (a := k') (b := k) (by simpa using (List.cons.inj e).1.symm)
      subst this
      refine ⟨kvs, S', rfl, ho, fun z => ?_, hl⟩
      rw [hm, ← names_subs (k := k') (fun n e => hname ⟨n, e⟩) z]
      simp
/-- so many texts at most -/
theorem nodup_le : ∀ {ks S : List Str}, ks.Nodup → (∀ z ∈ ks, z ∈ S) → ks.length ≤ S.length
  | [], _, _, _ => Nat.zero_le _
  | k :: ks, S, h, hs => by
    have hk := hs k (List.mem_cons_self ..)
    rw [List.nodup_cons] at h
    have := nodup_le (ks := ks) (S := S.erase k) h.2 fun z hz => (List.mem_erase_of_ne (fun e => h.1 (by rw [← e]; exact hz))).mpr (hs z (List.mem_cons_of_mem _ hz))
    rw [List.length_erase_of_mem hk] at this
    have hp := List.length_pos_of_mem hk
    simp only [List.length_cons]
    omega
def pNi (xs : List PyData) : Prop := ∃ (k : Kd) (B : Nat) (S : List Str), xs = [k.enc] ∧ gK B k ∧ S.length < 64 ∧ ∀ z ∈ k.names, z ∈ S
def rNi (xs : List PyData) (y : PyData) : Prop := ∀ k : Kd, xs = [k.enc] → ∃ ks : List Str, y = .tuple ((sortT ks).map .str) ∧ ks.Nodup ∧ ∀ z, z ∈ ks ↔ z ∈ k.names
theorem keeps_names_in : Keeps 1 (spR pNi rNi) (b_names_in (spR (preNB 30) relNB) (spF pCh)) := by
  rintro args st Q E ⟨xs, rfl, ⟨k, B, S, rfl, h, hS, hn⟩, q⟩
  push_cast [b_names_in]
  refine spF_go (xs := [k.enc]) ⟨k, B, rfl, h, rfl⟩ ?_
  refine spR_go (xs := [k.enc]) ⟨k, rfl, h.2.2.2.1, by have := h.2.2.2.2; omega⟩ fun y hy => ?_
  obtain ⟨kvs, ks, rfl, ho, hm, hl⟩ := hy k rfl
  have h64 : ks.length < 64 := Nat.lt_of_le_of_lt (nodup_le ho.2 fun z hz => hn z ((hm z).mp hz)) hS
  have hs : oSortedN (.dict kvs) = some (.list ((sortT ks).map .str)) := by
    show ((keysT kvs).bind fun ss => if ss.length < 64 then some (PyData.list ((sortT ss).map .str)) else none) = _
    rw [ho.1]
    exact if_pos h64
  push_cast [hs, show oTuple (.list ((sortT ks).map .str)) = some (.tuple ((sortT ks).map .str)) from rfl]
  refine q _ fun k' e => ?_
  have := enc_inj (a := k') (b := k) (by simpa using (List.cons.inj e).1.symm)
  subst this
  exact ⟨ks, rfl, ho.2, hm⟩
end DL.K02
/-! text K02P8 -/
namespace DL.K02
open PySem DL
/-! ### the law's own look at a thing -/
def hdB (d : PyData) (n : Nat) (ws : List Str) : Bool := match d with
  | .tuple (.str w :: r) => decide (r.length + 1 = n) && ws.any fun z => z == w
  | _ => false
def pHd (xs : List PyData) (y : PyData) : Prop := ∃ (d : PyData) (n : Nat) (ws : List Str), xs = [d, .int (n : Nat), .tuple (ws.map .str)] ∧ 1 ≤ n ∧ y = .bool (hdB d n ws)
theorem in_strs (w : Str) (ws : List Str) : oIn (.str w) (.tuple (ws.map .str)) = some (.bool (ws.any fun z => z == w)) := by
  have hp : PyData.plainAll (ws.map PyData.str) = true := by
    induction ws with
    | nil => rfl
    | cons s ss ih => rw [List.map_cons, PyData.plainAll, ih]; rfl
  have h : okIn (.str w) (ws.map .str) = true := by
    simp only [okIn, hp, PyData.plain, PyData.depth, Bool.true_and]
    exact decide_eq_true (by omega)
  show (if okIn (.str w) (ws.map .str) = true then some (PyData.bool ((ws.map PyData.str).any fun z => PyData.eqv z (.str w))) else none) = _
  rw [if_pos h, List.any_map]
  have e : (fun z => PyData.eqv z (.str w)) ∘ PyData.str = fun z => z == w := by
    funext z
    show PyData.eqv (.str z) (.str w) = _
    rw [Kd.e_ss]
  rw [e]
theorem keeps_law_is_headed : Keeps 3 (spF pHd) b_law_is_headed := by
  rintro args st Q E ⟨xs, y, rfl, ⟨d, n, ws, rfl, hn, rfl⟩, q⟩
  rcases is_tup d with ⟨r0, rfl⟩ | ⟨ht, hne⟩
  case inr =>
    have e : hdB d n ws = false := by
      cases d with
      | tuple xs => exact absurd rfl (hne xs)
      | _ => rfl
    rw [e] at q
    push_cast [b_law_is_headed, ht]
    exact q
  by_cases hl : r0.length = n
  · have e1 : (((r0.length : Nat) : Int) == ((n : Nat) : Int)) = true := by rw [hl]; simp
    match r0, hl, q, e1 with
    | [], hl, _, _ => exfalso; simp at hl; omega
    | x :: r, hl, q, e1 =>
      rcases is_str' x with ⟨w, rfl⟩ | ⟨hs, hne⟩
      · have e : hdB (.tuple (.str w :: r)) n ws = ws.any fun z => z == w := by
          show (decide (r.length + 1 = n) && _) = _
          rw [decide_eq_true (by simpa using hl)]
          rfl
        rw [e] at q
        simp only [List.length_cons] at e1
        push_cast [b_law_is_headed, show oIs "tuple" (.tuple (PyData.str w :: r)) = some (.bool true) from rfl, len_t, e1, show oIs "str" (.str w) = some (.bool true) from rfl, in_strs]
        exact q
      · have e : hdB (.tuple (x :: r)) n ws = false := by
          cases x with
          | str w => exact absurd rfl (hne w)
          | _ => rfl
        rw [e] at q
        simp only [List.length_cons] at e1
        push_cast [b_law_is_headed, show oIs "tuple" (.tuple (x :: r)) = some (.bool true) from rfl, len_t, e1, hs]
        exact q
  · have e1 : (((r0.length : Nat) : Int) == ((n : Nat) : Int)) = false := by
      have : ((r0.length : Nat) : Int) ≠ ((n : Nat) : Int) := by omega
      simpa using this
    have e : hdB (.tuple r0) n ws = false := by
      match r0, hl with
      | [], _ => rfl
      | x :: r, hl =>
        cases x with
        | str w =>
          show (decide (r.length + 1 = n) && _) = _
          rw [decide_eq_false (by simpa using hl)]
          rfl
        | _ => rfl
    rw [e] at q
    push_cast [b_law_is_headed, show oIs "tuple" (.tuple r0) = some (.bool true) from rfl, len_t, e1]
    exact q
def isK (d : PyData) : Prop := ∃ k : Kd, d = k.enc ∧ kOk k
open Classical in
noncomputable def bF (d : PyData) : Bool := decide (isK d)
open Classical in
theorem bF_t {d : PyData} (h : isK d) : bF d = true := decide_eq_true h
open Classical in
theorem bF_f {d : PyData} (h : ¬ isK d) : bF d = false := decide_eq_false h
theorem isK_n {d : PyData} : isK d ↔ ∃ n, isKn n d := ⟨fun ⟨k, a, b⟩ => ⟨k.dep, k, a, b, Nat.le_refl _⟩, fun ⟨_, k, a, b, _⟩ => ⟨k, a, b⟩⟩
def pFd (l : Nat) (xs : List PyData) (y : PyData) : Prop := ∃ (d : PyData) (B : Nat), xs = [d] ∧ d.depth < l ∧ okD B d ∧ B ≤ 1000 ∧ y = .bool (bF d)
theorem hd_some {d : PyData} {n : Nat} {ws : List Str} (h : hdB d n ws = true) : ∃ w r, d = .tuple (.str w :: r) ∧ r.length + 1 = n ∧ w ∈ ws := by
  match d, h with
  | .tuple (.str w :: r), h =>
    have h' : (decide (r.length + 1 = n) && ws.any fun z => z == w) = true := h
    rw [Bool.and_eq_true] at h'
    refine ⟨w, r, rfl, of_decide_eq_true h'.1, ?_⟩
    obtain ⟨z, hz, e⟩ := List.any_eq_true.mp h'.2
    have : z = w := beq_iff_eq.mp e
    subst this
    exact hz
theorem hd_t {w : Str} {r : List PyData} {n : Nat} {ws : List Str} (h1 : r.length + 1 = n) (h2 : w ∈ ws) : hdB (.tuple (.str w :: r)) n ws = true := by
  show (decide (r.length + 1 = n) && ws.any fun z => z == w) = true
  rw [decide_eq_true h1, Bool.true_and]
  exact List.any_eq_true.mpr ⟨w, h2, by simp⟩
theorem isK_name {x : PyData} : isK (.tuple [.str "name", x]) ↔ nmB x = true := by
  constructor
  · intro h
    obtain ⟨n, h⟩ := isK_n.mp h
    cases n with
    | zero => exact absurd h (isKn_0 _)
    | succ n =>
      obtain ⟨z, e, hz⟩ := isKn_name.mp h
      cases e
      exact hz
  · exact fun hx => isK_n.mpr ⟨1, isKn_name.mpr ⟨x, rfl, hx⟩⟩
theorem keeps_law_is_formed (l : Nat) : Keeps 1 (spF (pFd (l + 1))) (b_law_is_formed (spF pNm) (spF pHd) (spF (pFd l))) := by
  rintro args st Q E ⟨xs, y, rfl, ⟨d, B, rfl, hd, ho, hB, rfl⟩, q⟩
  push_cast [b_law_is_formed]
  refine spF_go (xs := [d, .int ((1 : Nat) : Int), .tuple (List.map PyData.str ["thing", "none", "unit"])]) ⟨d, 1, ["thing", "none", "unit"], rfl, by omega, rfl⟩ ?_
  cases h1 : hdB d 1 ["thing", "none", "unit"] with
  | true =>
    obtain ⟨w, r, rfl, hl, hw⟩ := hd_some h1
    have hr : r = [] := List.eq_nil_of_length_eq_zero (by omega)
    subst hr
    have : isK (.tuple [.str w]) := isK_n.mpr ⟨1, (isKn_leaf (by simpa using hw)).mpr ⟨rfl, fun x h => by simp at h⟩⟩
    rw [bF_t this] at q
    push_cast [DL.lit0]
    exact q
  | false =>
    push_cast [DL.lit0]
    refine spF_go (xs := [d, .int ((3 : Nat) : Int), .tuple (List.map PyData.str ["pair", "either"])]) ⟨d, 3, ["pair", "either"], rfl, by omega, rfl⟩ ?_
    cases h3 : hdB d 3 ["pair", "either"] with
    | true =>
      obtain ⟨w, r, rfl, hl, hw⟩ := hd_some h3
      match r, hl with
      | [a, b], _ =>
        have hdd : PyData.depthAll [.str w, a, b] + 1 < l + 1 := hd
        have hm : ∀ x ∈ [.str w, a, b], x.depth < l := fun x hx => Nat.lt_of_le_of_lt (depthAll_le.mp (Nat.le_refl (PyData.depthAll [.str w, a, b])) x hx) (by omega)
        have hoA : okA B [.str w, a, b] := ho
        have hk : isK (.tuple [.str w, a, b]) ↔ isK a ∧ isK b := by
          have hw' : w = "pair" ∨ w = "either" := by simpa using hw
          constructor
          · intro h
            obtain ⟨n, h⟩ := isK_n.mp h
            cases n with
            | zero => exact absurd h (isKn_0 _)
            | succ n =>
              have := ((isKn_two hw').mp h).2
              exact ⟨isK_n.mpr ⟨n, this a (by simp)⟩, isK_n.mpr ⟨n, this b (by simp)⟩⟩
          · rintro ⟨ha, hb⟩
            obtain ⟨n, k, rfl, h2, h3⟩ := isK_n.mp ha
            obtain ⟨m, k', rfl, h2', h3'⟩ := isK_n.mp hb
            refine isK_n.mpr ⟨max n m + 1, (isKn_two hw').mpr ⟨rfl, fun x hx => ?_⟩⟩
            simp at hx
            rcases hx with rfl | rfl
            · exact ⟨k, rfl, h2, by omega⟩
            · exact ⟨k', rfl, h2', by omega⟩
        push_cast [DL.lit0]
        refine spF_go (xs := [a]) ⟨a, B, rfl, hm a (by simp), hoA.2.1, hB, rfl⟩ ?_
        by_cases ha : isK a
        · rw [bF_t ha]
          push_cast [DL.lit0]
          refine spF_go (xs := [b]) ⟨b, B, rfl, hm b (by simp), hoA.2.2.1, hB, rfl⟩ ?_
          push_cast [DL.lit0]
          by_cases hb : isK b
          · rw [bF_t hb]
            rw [bF_t (hk.mpr ⟨ha, hb⟩)] at q
            exact q
          · rw [bF_f hb]
            rw [bF_f (fun z => hb (hk.mp z).2)] at q
            exact q
        · rw [bF_f ha]
          rw [bF_f (fun z => ha (hk.mp z).1)] at q
          push_cast [DL.lit0]
          exact q
    | false =>
      push_cast [DL.lit0]
      refine spF_go (xs := [d, .int ((2 : Nat) : Int), .tuple (List.map PyData.str ["name"])]) ⟨d, 2, ["name"], rfl, by omega, rfl⟩ ?_
      cases h2 : hdB d 2 ["name"] with
      | true =>
        obtain ⟨w, r, rfl, hl, hw⟩ := hd_some h2
        have hw' : w = "name" := by simpa using hw
        subst hw'
        match r, hl with
        | [x], _ =>
          have hoA : okA B [.str "name", x] := ho
          have e : bF (.tuple [.str "name", x]) = nmB x := by
            cases hx : nmB x with
            | true => exact bF_t (isK_name.mpr hx)
            | false => exact bF_f (fun h => by rw [isK_name.mp h] at hx; cases hx)
          rw [e] at q
          push_cast [DL.lit0]
          refine spF_go (xs := [x]) ⟨x, rfl, okD_str (B := B) hoA.2.1 hB, rfl⟩ ?_
          push_cast [DL.lit0]
          exact q
      | false =>
        have : ¬ isK d := fun h => by
          obtain ⟨k, rfl, hk⟩ := h
          cases k with
          | thing => rw [show Kd.thing.enc = .tuple [.str "thing"] from rfl, hd_t (by rfl) (by simp)] at h1; cases h1
          | non => rw [show Kd.non.enc = .tuple [.str "none"] from rfl, hd_t (by rfl) (by simp)] at h1; cases h1
          | unit => rw [show Kd.unit.enc = .tuple [.str "unit"] from rfl, hd_t (by rfl) (by simp)] at h1; cases h1
          | name m => rw [show (Kd.name m).enc = .tuple [.str "name", .str m] from rfl, hd_t (by rfl) (by simp)] at h2; cases h2
          | pair a b => rw [show (Kd.pair a b).enc = .tuple [.str "pair", a.enc, b.enc] from rfl, hd_t (by rfl) (by simp)] at h3; cases h3
          | either a b => rw [show (Kd.either a b).enc = .tuple [.str "either", a.enc, b.enc] from rfl, hd_t (by rfl) (by simp)] at h3; cases h3
        rw [bF_f this] at q
        push_cast [DL.lit0]
        exact q
end DL.K02
/-! text K02P9 -/
namespace DL.K02
open PySem DL
/-! ### measures -/
def msr (k : Kd) : PyData := .tuple [.int (k.dep : Nat), .int (k.parts : Nat), .list (k.names.map .str)]
def pMs (l : Nat) (xs : List PyData) (y : PyData) : Prop := ∃ k : Kd, xs = [k.enc] ∧ k.dep ≤ l ∧ k.parts ≤ 1000000 ∧ y = msr k
theorem names_len : ∀ k : Kd, k.names.length ≤ k.parts
  | .thing | .non | .unit => by simp [Kd.names]
  | .name _ => by simp [Kd.names, Kd.parts]
  | .pair a b => by
    have := names_len a
    have := names_len b
    simp only [Kd.names, Kd.parts, List.length_append]
    omega
  | .either a b => by
    have := names_len a
    have := names_len b
    simp only [Kd.names, Kd.parts, List.length_append]
    omega
theorem notin2 (k : Kd) : oNotIn (.str k.head) (.tuple [.str "pair", .str "either"]) = some (.bool (match k with | .pair _ _ => false | .either _ _ => false | _ => true)) := by
  cases k <;> rfl
theorem oMax_ii (i j : Int) : oMax (.int i) (.int j) = some (.int (max i j)) := by
  show some (PyData.int (if j > i then j else i)) = _
  congr 2
  split <;> omega
theorem ret3 {f0 f1 f2 : WE} {env : Env} {st : Store} {D : DL.Fin} {x0 x1 x2 : PyData} (d0 : Pv f0 env st x0) (d1 : Pv f1 env st x1) (d2 : Pv f2 env st x2) (q : D.rt (.d (.tuple [x0, x1, x2])) st) :
    wRet (wTup (wCons f0 (wCons f1 (wCons f2 wNil)))) D env st := by
  show f0 env st _
  refine d0 _ ?_
  show f1 env st _
  refine d1 _ ?_
  show f2 env st _
  refine d2 _ ?_
  simp only [wNil, frs_d, frs_nil, Option.map_some, optK_some, List.length_cons, List.length_nil, lit3, true_and]
  exact q
theorem msr_ret {D : DL.Fin} {v0 : Option DV} {st : Store} {i1 j1 i2 j2 m : Int} {l1 l2 l3 : List PyData} (hm : oMax (.int i1) (.int i2) = some (.int m)) (hx : oAdd (.list l1) (.list l2) = some (.list l3)) (q : D.rt (.d (.tuple [.int (m + 1), .int (j1 + j2 + 1), .list l3])) st) :
    wRet (wTup (wCons (wBin oAdd (wOpN (on2 oMax) (wCons (wBinS oIx (wVar 1) (wC (.int 0))) (wCons (wBinS oIx (wVar 2) (wC (.int 0))) wNil))) (wC (.int 1))) (wCons (wBin oAdd (wBin oAdd (wBinS oIx (wVar 1) (wC (.int 1))) (wBinS oIx (wVar 2) (wC (.int 1)))) (wC (.int 1))) (wCons (wBin oAdd (wBinS oIx (wVar 1) (wC (.int 2))) (wBinS oIx (wVar 2) (wC (.int 2)))) wNil)))) D
      [v0, some (.d (.tuple [.int i1, .int j1, .list l1])), some (.d (.tuple [.int i2, .int j2, .list l2]))] st := by
  have a0 : Pv (wBinS oIx (wVar 1) (wC (.int 0))) [v0, some (.d (.tuple [.int i1, .int j1, .list l1])), some (.d (.tuple [.int i2, .int j2, .list l2]))] st (.int i1) := fun Q q => by simp only [wBinS, wVar, wC, get0, getS, rdS_d, rd_d, optK_some, ix_0]; exact q
  have a1 : Pv (wBinS oIx (wVar 1) (wC (.int 1))) [v0, some (.d (.tuple [.int i1, .int j1, .list l1])), some (.d (.tuple [.int i2, .int j2, .list l2]))] st (.int j1) := fun Q q => by simp only [wBinS, wVar, wC, get0, getS, rdS_d, rd_d, optK_some, ix_1]; exact q
  have a2 : Pv (wBinS oIx (wVar 1) (wC (.int 2))) [v0, some (.d (.tuple [.int i1, .int j1, .list l1])), some (.d (.tuple [.int i2, .int j2, .list l2]))] st (.list l1) := fun Q q => by simp only [wBinS, wVar, wC, get0, getS, rdS_d, rd_d, optK_some, ix_2]; exact q
  have b0 : Pv (wBinS oIx (wVar 2) (wC (.int 0))) [v0, some (.d (.tuple [.int i1, .int j1, .list l1])), some (.d (.tuple [.int i2, .int j2, .list l2]))] st (.int i2) := fun Q q => by simp only [wBinS, wVar, wC, get0, getS, rdS_d, rd_d, optK_some, ix_0]; exact q
  have b1 : Pv (wBinS oIx (wVar 2) (wC (.int 1))) [v0, some (.d (.tuple [.int i1, .int j1, .list l1])), some (.d (.tuple [.int i2, .int j2, .list l2]))] st (.int j2) := fun Q q => by simp only [wBinS, wVar, wC, get0, getS, rdS_d, rd_d, optK_some, ix_1]; exact q
  have b2 : Pv (wBinS oIx (wVar 2) (wC (.int 2))) [v0, some (.d (.tuple [.int i1, .int j1, .list l1])), some (.d (.tuple [.int i2, .int j2, .list l2]))] st (.list l2) := fun Q q => by simp only [wBinS, wVar, wC, get0, getS, rdS_d, rd_d, optK_some, ix_2]; exact q
  have c0 : Pv (wOpN (on2 oMax) (wCons (wBinS oIx (wVar 1) (wC (.int 0))) (wCons (wBinS oIx (wVar 2) (wC (.int 0))) wNil))) [v0, some (.d (.tuple [.int i1, .int j1, .list l1])), some (.d (.tuple [.int i2, .int j2, .list l2]))] st (.int m) := fun Q q => by
    unfold wOpN wCons
    refine a0 _ ?_
    refine b0 _ ?_
    simp only [wNil]
    show optK (rds st [.d (.int i1), .d (.int i2)]) _
    rw [rds_d, rds_d, rds_nil]
    simp only [Option.map_some, optK_some]
    show optK (oMax (.int i1) (.int i2)) _
    rw [hm]
    exact q
  have d0 : Pv (wBin oAdd (wOpN (on2 oMax) (wCons (wBinS oIx (wVar 1) (wC (.int 0))) (wCons (wBinS oIx (wVar 2) (wC (.int 0))) wNil))) (wC (.int 1))) [v0, some (.d (.tuple [.int i1, .int j1, .list l1])), some (.d (.tuple [.int i2, .int j2, .list l2]))] st (.int (m + 1)) := pv_bin c0 pv_c (oAdd_ii _ _)
  have d1 : Pv (wBin oAdd (wBin oAdd (wBinS oIx (wVar 1) (wC (.int 1))) (wBinS oIx (wVar 2) (wC (.int 1)))) (wC (.int 1))) [v0, some (.d (.tuple [.int i1, .int j1, .list l1])), some (.d (.tuple [.int i2, .int j2, .list l2]))] st (.int (j1 + j2 + 1)) := pv_bin (pv_bin a1 b1 (oAdd_ii _ _)) pv_c (oAdd_ii _ _)
  have d2 : Pv (wBin oAdd (wBinS oIx (wVar 1) (wC (.int 2))) (wBinS oIx (wVar 2) (wC (.int 2)))) [v0, some (.d (.tuple [.int i1, .int j1, .list l1])), some (.d (.tuple [.int i2, .int j2, .list l2]))] st (.list l3) := pv_bin a2 b2 hx
  exact ret3 d0 d1 d2 q
theorem keeps_law_measures (l : Nat) : Keeps 3 (spF (pMs (l + 1))) (b_law_measures (spF (pMs l))) := by
  rintro args st Q E ⟨xs, y, rfl, ⟨k, rfl, hk, hp, rfl⟩, q⟩
  have h2 := notin2 k
  have two : ∀ a b : Kd, a.dep ≤ l → b.dep ≤ l → a.parts + b.parts + 1 ≤ 1000000 → ∃ x, oAdd (.list (a.names.map .str)) (.list (b.names.map .str)) = some x ∧ x = .list ((a.names ++ b.names).map .str) := fun a b _ _ h => by
    refine ⟨_, oAdd_ll ?_, by rw [List.map_append]⟩
    have := names_len a
    have := names_len b
    simp only [List.length_map]
    omega
  cases k with
  | thing =>
    simp only [hd1, hd2, hd3, hd4, hd5, hd6] at h2
    unfold b_law_measures
    refine seq_intro fun N hN => ?_
    push_cast [h2, show (("thing" : Str) == ("name" : Str)) = false by decide]
    exact q
  | non =>
    simp only [hd1, hd2, hd3, hd4, hd5, hd6] at h2
    unfold b_law_measures
    refine seq_intro fun N hN => ?_
    push_cast [h2, show (("none" : Str) == ("name" : Str)) = false by decide]
    exact q
  | unit =>
    simp only [hd1, hd2, hd3, hd4, hd5, hd6] at h2
    unfold b_law_measures
    refine seq_intro fun N hN => ?_
    push_cast [h2, show (("unit" : Str) == ("name" : Str)) = false by decide]
    exact q
  | name n =>
    simp only [hd1, hd2, hd3, hd4, hd5, hd6] at h2
    unfold b_law_measures
    refine seq_intro fun N hN => ?_
    push_cast [h2]
    exact q
  | pair a b =>
    simp only [hd1, hd2, hd3, hd4, hd5, hd6] at h2
    have hpa : a.parts + b.parts + 1 ≤ 1000000 := by simp only [Kd.parts] at hp; exact hp
    have ha : a.dep ≤ l := by simp only [Kd.dep] at hk; omega
    have hb : b.dep ≤ l := by simp only [Kd.dep] at hk; omega
    obtain ⟨x, hx, ex⟩ := two a b ha hb hpa
    subst ex
    unfold b_law_measures
    refine seq_intro fun N hN => ?_
    push_cast [h2]
    rw [hN]
    refine seq_intro fun N hN => ?_
    unfold wPar
    push_cast [DL.lit0]
    refine spF_go (xs := [a.enc]) ⟨a, rfl, ha, by omega, rfl⟩ ?_
    refine spF_go (xs := [b.enc]) ⟨b, rfl, hb, by omega, rfl⟩ ?_
    show N [some (.d (Kd.pair a b).enc), some (.d (msr a)), some (.d (msr b))] st
    rw [hN]
    have e1 : max ((a.dep : Nat) : Int) ((b.dep : Nat) : Int) + 1 = (((Kd.pair a b).dep : Nat) : Int) := by simp only [Kd.dep]; omega
    have e2 : ((a.parts : Nat) : Int) + ((b.parts : Nat) : Int) + 1 = (((Kd.pair a b).parts : Nat) : Int) := by simp only [Kd.parts]; omega
    refine msr_ret (oMax_ii _ _) hx ?_
    rw [e1, e2]
    simp only [fin_rt, ret_d]
    exact q
  | either a b =>
    simp only [hd1, hd2, hd3, hd4, hd5, hd6] at h2
    have hpa : a.parts + b.parts + 1 ≤ 1000000 := by simp only [Kd.parts] at hp; exact hp
    have ha : a.dep ≤ l := by simp only [Kd.dep] at hk; omega
    have hb : b.dep ≤ l := by simp only [Kd.dep] at hk; omega
    obtain ⟨x, hx, ex⟩ := two a b ha hb hpa
    subst ex
    unfold b_law_measures
    refine seq_intro fun N hN => ?_
    push_cast [h2]
    rw [hN]
    refine seq_intro fun N hN => ?_
    unfold wPar
    push_cast [DL.lit0]
    refine spF_go (xs := [a.enc]) ⟨a, rfl, ha, by omega, rfl⟩ ?_
    refine spF_go (xs := [b.enc]) ⟨b, rfl, hb, by omega, rfl⟩ ?_
    show N [some (.d (Kd.either a b).enc), some (.d (msr a)), some (.d (msr b))] st
    rw [hN]
    have e1 : max ((a.dep : Nat) : Int) ((b.dep : Nat) : Int) + 1 = (((Kd.either a b).dep : Nat) : Int) := by simp only [Kd.dep]; omega
    have e2 : ((a.parts : Nat) : Int) + ((b.parts : Nat) : Int) + 1 = (((Kd.either a b).parts : Nat) : Int) := by simp only [Kd.parts]; omega
    refine msr_ret (oMax_ii _ _) hx ?_
    rw [e1, e2]
    simp only [fin_rt, ret_d]
    exact q
end DL.K02
/-! text K02P10 -/
namespace DL.K02
open PySem DL
def pLk (xs : List PyData) (y : PyData) : Prop := ∃ (d : PyData) (B W : Nat), xs = [d] ∧ Ok B 110 W d ∧ B ≤ 1000 ∧ W ≤ 10000000 ∧ y = .bool (bKd d)
theorem parts_wt : ∀ k : Kd, 10 * k.parts ≤ wt k.enc
  | .thing => by
    have : ("thing" : Str).length = 5 := rfl
    simp only [Kd.parts, Kd.enc, wt, wtA, this]
    omega
  | .non => by
    have : ("none" : Str).length = 4 := rfl
    simp only [Kd.parts, Kd.enc, wt, wtA, this]
    omega
  | .unit => by
    have : ("unit" : Str).length = 4 := rfl
    simp only [Kd.parts, Kd.enc, wt, wtA, this]
    omega
  | .name n => by
    have : ("name" : Str).length = 4 := rfl
    simp only [Kd.parts, Kd.enc, wt, wtA, this]
    omega
  | .pair a b => by
    have := parts_wt a
    have := parts_wt b
    have : ("pair" : Str).length = 4 := rfl
    simp only [Kd.parts, Kd.enc, wt, wtA, this]
    omega
  | .either a b => by
    have := parts_wt a
    have := parts_wt b
    have : ("either" : Str).length = 6 := rfl
    simp only [Kd.parts, Kd.enc, wt, wtA, this]
    omega
theorem p1 (x : DV) : pick [0] [x] = [x] := rfl
theorem msr_0 (k : Kd) : oIx (msr k) (.int 0) = some (.int (k.dep : Nat)) := ix_0 _ _
theorem msr_1 (k : Kd) : oIx (msr k) (.int 1) = some (.int (k.parts : Nat)) := ix_1 _ _ _
theorem msr_2 (k : Kd) : oIx (msr k) (.int 2) = some (.list (k.names.map .str)) := ix_2 _ _ _ _
theorem keeps_law_is_kind : Keeps 2 (spF pLk) (b_law_is_kind (spF (pMs 110)) (spF (pFd 111))) := by
  rintro args st Q E ⟨xs, y, rfl, ⟨d, B, W, rfl, ho, hB, hW, rfl⟩, q⟩
  unfold b_law_is_kind
  refine seq_intro fun N hN => ?_
  push_cast [DL.lit0]
  refine spF_go (xs := [d]) ⟨d, B, rfl, Nat.lt_succ_of_le ho.dp, ho.ok, hB, rfl⟩ ?_
  by_cases h : isK d
  · rw [bF_t h]
    obtain ⟨k, rfl, hk⟩ := h
    have hdep : k.dep ≤ 110 := by rw [← Kd.enc_depth]; exact ho.dp
    have hpar : k.parts ≤ 1000000 := by
      have := parts_wt k
      have := ho.w
      omega
    push_cast [DL.lit0]
    rw [hN]
    refine seq_intro fun N hN => ?_
    push_cast [DL.lit0]
    refine spF_go (xs := [k.enc]) ⟨k, rfl, hdep, hpar, rfl⟩ ?_
    show N [some (.d k.enc), some (.d (msr k))] st
    rw [hN]
    push_cast [msr_0, msr_1, oLe_ii]
    by_cases h1 : k.dep ≤ 30
    · rw [decide_eq_true (show ((k.dep : Nat) : Int) ≤ 30 by omega)]
      simp only [if_true]
      have e : bKd k.enc = decide (((k.parts : Nat) : Int) ≤ 2000) := by
        by_cases hp : k.parts ≤ 2000
        · rw [bKd_t ⟨k, rfl, hk, h1, hp⟩, decide_eq_true (by omega)]
        · rw [bKd_f (fun ⟨k', e, _, _, z⟩ => hp (by rw [enc_inj e]; exact z)), decide_eq_false (by omega)]
      rw [e] at q
      exact q
    · rw [decide_eq_false (show ¬ ((k.dep : Nat) : Int) ≤ 30 by omega)]
      rw [bKd_f (fun ⟨k', e, _, z, _⟩ => h1 (by rw [enc_inj e]; exact z))] at q
      exact q
  · rw [bF_f h]
    rw [bKd_f (fun ⟨k, e, a, _, _⟩ => h ⟨k, e, a⟩)] at q
    push_cast [DL.lit0]
    exact q
/-! ### comparing -/
def pSm (xs : List PyData) (y : PyData) : Prop := ∃ a, xs = [a, a] ∧ (∃ s, oReprE a = some (.str s)) ∧ y = .bool true
theorem keeps_law_same : Keeps 2 (spF pSm) b_law_same := by
  rintro args st Q E ⟨xs, y, rfl, ⟨a, rfl, ⟨s, hs⟩, rfl⟩, q⟩
  push_cast [b_law_same, hs]
  exact q
def pJd (xs : List PyData) (y : PyData) : Prop := ∃ (d : PyData) (b : Bool) (B W : Nat), xs = [d, .bool b] ∧ Ok B 110 W d ∧ B ≤ 1000 ∧ W ≤ 10000000 ∧ y = .bool true
theorem ok_bools (a b : Bool) : oReprE (.list [.bool a, .bool b]) = some (.str (PyData.list [.bool a, .bool b]).shown) := by
  have h : Ok 0 2 100 (.list [.bool a, .bool b]) := ⟨⟨trivial, trivial, trivial⟩, by simp [PyData.depth, PyData.depthAll], by simp [wt, wtA]⟩
  exact h.repr (by omega) (by omega) (by omega)
theorem keeps_law_is_judged : Keeps 5 (spF pJd) (b_law_is_judged (spF pSm) (spF pKd) (spF pNm) (spF pLk) (spF pNm)) := by
  rintro args st Q E ⟨xs, y, rfl, ⟨d, b, B, W, rfl, ho, hB, hW, rfl⟩, q⟩
  have hr := ho.repr hB (by omega) hW
  have hso := okD_str ho.ok hB
  unfold b_law_is_judged
  refine seq_intro fun N hN => ?_
  unfold wPar
  push_cast [hr]
  refine spF_go (xs := [d]) ⟨d, rfl, hso, rfl⟩ ?_
  push_cast [DL.lit0]
  refine spF_go (xs := [d]) ⟨d, B, W, rfl, ho, hB, hW, rfl⟩ ?_
  push_cast [hr]
  rw [hN]
  refine seq_intro fun N hN => ?_
  have goal : N [some (.d d), some (.d (.bool b)), some (.d (.list [.bool (nmB d), .bool (bKd d)])), some (.d (.str d.shown)), some (.d (.list [.bool (nmB d), .bool (bKd d)]))] st := by
    rw [hN]
    push_cast [hr]
    refine spF_go (xs := [.list [.bool (nmB d), .bool (bKd d)], .list [.bool (nmB d), .bool (bKd d)]]) ⟨_, rfl, ⟨_, ok_bools _ _⟩, rfl⟩ ?_
    push_cast [hr]
    exact q
  cases b with
  | true =>
    push_cast [wCallK, p1]
    refine spF_go (xs := [d]) ⟨d, rfl, hso, rfl⟩ ?_
    push_cast [wCallK, p1]
    refine spF_go (xs := [d]) ⟨d, B, rfl, ho.ok, hB, rfl⟩ ?_
    push_cast [DL.lit0]
    exact goal
  | false =>
    push_cast [DL.lit0]
    refine spF_go (xs := [d]) ⟨d, rfl, hso, rfl⟩ ?_
    push_cast [DL.lit0]
    refine spF_go (xs := [d]) ⟨d, B, rfl, ho.ok, hB, rfl⟩ ?_
    push_cast [DL.lit0]
    exact goal
end DL.K02
/-! text K02P11 -/
namespace DL.K02
open PySem DL
def addT (acc : List Str) (x : Str) : List Str := if x ∈ acc then acc else acc ++ [x]
theorem addT_all : ∀ (xs acc : List Str), (acc ++ xs).Pairwise (fun x y => leT x y = true) → acc.Nodup →
    (xs.foldl addT acc).Pairwise (fun x y => leT x y = true) ∧ (xs.foldl addT acc).Nodup ∧ ∀ z, z ∈ xs.foldl addT acc ↔ z ∈ acc ∨ z ∈ xs
  | [], acc, h, hn => ⟨by simpa using h, hn, fun z => by simp⟩
  | x :: xs, acc, h, hn => by
    rw [List.foldl_cons]
    by_cases hx : x ∈ acc
    · rw [show addT acc x = acc from if_pos hx]
      have h' : (acc ++ xs).Pairwise (fun x y => leT x y = true) := by
        rw [List.pairwise_append] at h ⊢
        refine ⟨h.1, (List.pairwise_cons.mp h.2.1).2, fun a ha b hb => h.2.2 a ha b (List.mem_cons_of_mem _ hb)⟩
      obtain ⟨a, b, c⟩ := addT_all xs acc h' hn
      refine ⟨a, b, fun z => ?_⟩
      rw [c, List.mem_cons]
      constructor
      · rintro (h | h)
        · exact .inl h
        · exact .inr (.inr h)
      · rintro (h | h | h)
        · exact .inl h
        · subst h; exact .inl hx
        · exact .inr h
    · rw [show addT acc x = acc ++ [x] from if_neg hx]
      obtain ⟨a, b, c⟩ := addT_all xs (acc ++ [x]) (by rw [List.append_assoc]; exact h) (by
        rw [List.nodup_append]
        refine ⟨hn, by simp, fun a ha b hb => ?_⟩
        simp at hb
        subst hb
        intro e
        subst e
        exact hx ha)
      refine ⟨a, b, fun z => ?_⟩
      rw [c, List.mem_append, List.mem_singleton, List.mem_cons, or_assoc]
theorem addT_sort {names ks : List Str} (hk : ks.Nodup) (hm : ∀ z, z ∈ ks ↔ z ∈ names) : (sortT names).foldl addT [] = sortT ks := by
  have hs : (sortT names).Pairwise fun x y => leT x y = true := List.pairwise_mergeSort leT_trans leT_total names
  obtain ⟨a, b, c⟩ := addT_all (sortT names) [] (by simpa using hs) List.nodup_nil
  refine sortT_of ((List.perm_ext_iff_of_nodup b hk).mpr fun z => ?_) a
  rw [c, hm]
  have : z ∈ sortT names ↔ z ∈ names := (List.mergeSort_perm names leT).mem_iff
  rw [this]
  simp
theorem notin_strsL (w : Str) (ws : List Str) : oNotIn (.str w) (.list (ws.map .str)) = some (.bool (!decide (w ∈ ws))) := by
  have hp : PyData.plainAll (ws.map PyData.str) = true := by
    induction ws with
    | nil => rfl
    | cons s ss ih => rw [List.map_cons, PyData.plainAll, ih]; rfl
  have h : okIn (.str w) (ws.map .str) = true := by
    simp only [okIn, hp, PyData.plain, PyData.depth, Bool.true_and]
    exact decide_eq_true (by omega)
  have e : (fun z => PyData.eqv z (.str w)) ∘ PyData.str = fun z => z == w := by
    funext z
    show PyData.eqv (.str z) (.str w) = _
    rw [Kd.e_ss]
  have e2 : (ws.any fun z => z == w) = decide (w ∈ ws) := by
    by_cases hw : w ∈ ws
    · rw [decide_eq_true hw]
      exact List.any_eq_true.mpr ⟨w, hw, by simp⟩
    · rw [decide_eq_false hw]
      apply Bool.eq_false_iff.mpr
      intro z
      obtain ⟨y, hy, q⟩ := List.any_eq_true.mp z
      exact hw (by rw [← beq_iff_eq.mp q]; exact hy)
  have q : oIn (.str w) (.list (ws.map .str)) = some (.bool (decide (w ∈ ws))) := by
    show (if okIn (.str w) (ws.map .str) = true then some (PyData.bool ((ws.map PyData.str).any fun z => PyData.eqv z (.str w))) else none) = _
    rw [if_pos h, List.any_map, e, e2]
  unfold oNotIn
  rw [q]
  rfl
theorem names_ok {B : Nat} : ∀ {k : Kd}, okD B k.enc → ∀ n ∈ k.names, okD B (.str n)
  | .thing, _, n, h => by simp [Kd.names] at h
  | .non, _, n, h => by simp [Kd.names] at h
  | .unit, _, n, h => by simp [Kd.names] at h
  | .name m, h, n, hn => by
    simp [Kd.names] at hn
    subst hn
    have h' : okA B [.str "name", .str n] := h
    exact h'.2.1
  | .pair a b, h, n, hn => by
    have h' : okA B [.str "pair", a.enc, b.enc] := h
    exact (List.mem_append.mp hn).elim (names_ok h'.2.1 n) (names_ok h'.2.2.1 n)
  | .either a b, h, n, hn => by
    have h' : okA B [.str "either", a.enc, b.enc] := h
    exact (List.mem_append.mp hn).elim (names_ok h'.2.1 n) (names_ok h'.2.2.1 n)
theorem strs_ok {B : Nat} (hB : B ≤ 1000) : ∀ (ss : List Str), (∀ s ∈ ss, okD B (.str s)) → okA B (ss.map .str) ∧ PyData.depthAll (ss.map PyData.str) ≤ 0 + 1 ∧ wtA (ss.map .str) ≤ 12004 * ss.length
  | [], _ => ⟨trivial, by simp [PyData.depthAll], by simp [wtA]⟩
  | s :: ss, h => by
    obtain ⟨a, b, c⟩ := strs_ok hB ss fun x hx => h x (List.mem_cons_of_mem _ hx)
    have hs := h s (List.mem_cons_self ..)
    have hs' : s.length ≤ 200 + B ∧ ∀ c ∈ s.cps.toList, c < 200 := hs
    refine ⟨⟨hs, a⟩, ?_, ?_⟩
    · rw [List.map_cons, PyData.depthAll]
      simp only [PyData.depth]
      omega
    · rw [List.map_cons, wtA, wt, List.length_cons]
      omega
def tld (k : Kd) (ks : List Str) : PyData := .list [.int (k.dep : Nat), .int (k.parts : Nat), .tuple ((sortT ks).map .str)]
theorem tld_repr {k : Kd} {ks : List Str} {B : Nat} (hB : B ≤ 1000) (hd : k.dep ≤ 30) (hp : k.parts ≤ 2000) (h : ∀ n ∈ ks, okD B (.str n)) (hl : ks.length < 64) : ∃ s, oReprE (tld k ks) = some (.str s) := by
  have hl2 : (sortT ks).length = ks.length := (List.mergeSort_perm ks leT).length_eq
  obtain ⟨a, b, c⟩ := strs_ok hB (sortT ks) fun s hs => h s ((List.mergeSort_perm ks leT).mem_iff.mp hs)
  have i1 : ((k.dep : Nat) : Int).natAbs ≤ 10 ^ 30 + B := by
    have : (30 : Nat) ≤ 10 ^ 30 := by decide
    show k.dep ≤ _
    omega
  have i2 : ((k.parts : Nat) : Int).natAbs ≤ 10 ^ 30 + B := by
    have : (2000 : Nat) ≤ 10 ^ 30 := by decide
    show k.parts ≤ _
    omega
  have hh : Ok B 10 1000000 (tld k ks) := by
    refine ⟨⟨i1, i2, a, trivial⟩, ?_, ?_⟩
    · simp only [tld, PyData.depth, PyData.depthAll]
      omega
    · simp only [tld, wt, wtA]
      omega
  exact ⟨_, hh.repr hB (by omega) (by omega)⟩
def pTd (xs : List PyData) (y : PyData) : Prop := ∃ (k : Kd) (B : Nat) (S : List Str), xs = [k.enc] ∧ gK B k ∧ S.length < 64 ∧ (∀ z ∈ k.names, z ∈ S) ∧ y = .bool true
theorem td_loop {v0 v1 v2 v3 v6 v7 : Option DV} {st : Store} {D : DL.Fin} {n : Nat} (hn : n = st.length) : ∀ (xs acc : List Str) (v5 : Option DV), acc.length + xs.length ≤ 1000000 →
    (∀ v5, D.nx [v0, v1, v2, v3, some (.loc n), v5, v6, v7] (st ++ [.lst ((xs.foldl addT acc).map .str)])) →
    forGo (gN 5) (wIf (wT (wBin oNotIn (wVar 5) (wVar 4))) (wExpr (wMtM oAppend (wVar 4) (wCons (wVar 5) wNil))) wSkip) D ((xs.map PyData.str).map DV.d) [v0, v1, v2, v3, some (.loc n), v5, v6, v7] (st ++ [.lst (acc.map .str)])
  | [], acc, v5, _, q => q v5
  | x :: xs, acc, v5, hl, q => by
    simp only [List.length_cons] at hl
    have hg : (st ++ [Cell.lst (acc.map .str)])[n]? = some (.lst (acc.map .str)) := by subst hn; simp
    have hrd := rd_at hg
    push_cast [List.map_cons, forGo, hrd, notin_strsL]
    by_cases hx : x ∈ acc
    · rw [decide_eq_true hx]
      push_cast [DL.lit0]
      refine td_loop hn xs acc _ (by omega) fun v5 => ?_
      have := q v5
      rw [List.foldl_cons, show addT acc x = acc from if_pos hx] at this
      exact this
    · rw [decide_eq_false hx]
      push_cast [wMtM, hrd, isL, hg, oAppend]
      have hlim : (acc.map PyData.str).length < lim := by
        rw [List.length_map]
        unfold lim
        omega
      rw [if_pos hlim]
      simp only [optK_some]
      have he : (st ++ [Cell.lst (acc.map .str)]).set n (.lst (acc.map .str ++ [.str x])) = st ++ [.lst ((acc ++ [x]).map .str)] := by
        subst hn
        simp
      rw [he]
      refine td_loop hn xs (acc ++ [x]) _ (by simp; omega) fun v5 => ?_
      have := q v5
      rw [List.foldl_cons, show addT acc x = acc ++ [x] from if_neg hx] at this
      exact this
theorem keeps_law_is_told : Keeps 8 (spF pTd) (b_law_is_told (spF pSm) (spR pNi rNi) (spF pPk') (spF pDk) (spF (pMs 110))) := by
  rintro args st Q E ⟨xs, y, rfl, ⟨k, B, S, rfl, hg, hS, hn, rfl⟩, q⟩
  have hg' := hg
  obtain ⟨ho, hB, hk, hd, hp⟩ := hg
  unfold b_law_is_told
  refine seq_intro fun N hN => ?_
  push_cast [DL.lit0]
  refine spF_go (xs := [k.enc]) ⟨k, rfl, by omega, by omega, rfl⟩ ?_
  push_cast [msr]
  rw [hN]
  refine seq_intro fun N hN => ?_
  unfold wAsg wLstM
  simp only [wNil, frs_nil, optK_some, List.length_nil, gN]
  refine ⟨by decide, ?_⟩
  simp only [set0, setS]
  rw [hN]
  refine seq_intro fun N hN => ?_
  have hnl : k.names.length ≤ 2000 := Nat.le_trans (names_len k) hp
  have hsl : (sortT k.names).length = k.names.length := (List.mergeSort_perm k.names leT).length_eq
  have hso : oSortedN (.list (k.names.map .str)) = some (.list ((sortT k.names).map .str)) := by
    show ((textsOf (k.names.map .str)).bind fun ss => if ss.length ≤ lim then some (PyData.list ((sortT ss).map .str)) else none) = _
    rw [textsOf_map]
    exact if_pos (lim_of (by omega))
  push_cast [wFor, iSeq, hso, itemsOf]
  refine td_loop (n := st.length) rfl (sortT k.names) [] none (by simp; omega) fun v5 => ?_
  have key : ∃ ks : List Str, (sortT k.names).foldl addT [] = sortT ks ∧ ks.length < 64 ∧ (∀ z, z ∈ ks ↔ z ∈ k.names) ∧ ks.Nodup := by
    have hs : (sortT k.names).Pairwise fun x y => leT x y = true := List.pairwise_mergeSort leT_trans leT_total k.names
    obtain ⟨a, b, c⟩ := addT_all (sortT k.names) [] (by simpa using hs) List.nodup_nil
    have hm : ∀ z, z ∈ (sortT k.names).foldl addT [] ↔ z ∈ k.names := fun z => by
      rw [c]
      have : z ∈ sortT k.names ↔ z ∈ k.names := (List.mergeSort_perm k.names leT).mem_iff
      rw [this]
      simp
    exact ⟨_, addT_sort b hm, Nat.lt_of_le_of_lt (nodup_le b fun z hz => hn z ((hm z).mp hz)) hS, hm, b⟩
  obtain ⟨ks, e, h64, hm, hnd⟩ := key
  rw [e]
  have same : ∀ js : List Str, js.Nodup → (∀ z, z ∈ js ↔ z ∈ k.names) → sortT js = sortT ks := fun js h1 h2 => by
    rw [← addT_sort h1 h2, e]
  obtain ⟨rs, hr⟩ := tld_repr hB hd hp (fun n h => names_ok ho n ((hm n).mp h)) h64
  show N _ _
  rw [hN]
  refine seq_intro fun N hN => ?_
  have hgt : (st ++ [Cell.lst ((sortT ks).map .str)])[st.length]? = some (.lst ((sortT ks).map .str)) := by simp
  have hrd := rd_at hgt
  have hrds : rds (st ++ [Cell.lst ((sortT ks).map .str)]) [.loc st.length] = some [.list ((sortT ks).map .str)] := by
    show (match rd _ (.loc st.length), rds _ [] with | some x, some xs => some (x :: xs) | _, _ => none) = _
    rw [hrd]
    rfl
  push_cast [hrds, show oTuple (.list ((sortT ks).map .str)) = some (.tuple ((sortT ks).map .str)) from rfl]
  rw [hN]
  refine seq_intro fun N hN => ?_
  push_cast [wCallK, p1]
  refine spF_go (xs := [k.enc]) ⟨k, B, rfl, hg', rfl⟩ ?_
  push_cast [p1]
  refine spF_go (xs := [k.enc]) ⟨k, B, rfl, hg', rfl⟩ ?_
  push_cast [p1]
  refine spR_go (xs := [k.enc]) ⟨k, B, S, rfl, hg', hS, hn⟩ fun y hy => ?_
  obtain ⟨js, rfl, hj1, hj2⟩ := hy k rfl
  rw [same js hj1 hj2]
  push_cast [DL.lit0]
  rw [hN]
  push_cast [DL.lit0]
  refine spF_go (xs := [k.enc]) ⟨k, B, rfl, hg', rfl⟩ ?_
  push_cast [DL.lit0]
  refine spF_go (xs := [k.enc]) ⟨k, B, rfl, hg', rfl⟩ ?_
  push_cast [DL.lit0]
  refine spR_go (xs := [k.enc]) ⟨k, B, S, rfl, hg', hS, hn⟩ fun y hy => ?_
  obtain ⟨js2, rfl, hj3, hj4⟩ := hy k rfl
  rw [same js2 hj3 hj4]
  push_cast [DL.lit0]
  refine spF_go (xs := [tld k ks, tld k ks]) ⟨_, rfl, ⟨_, hr⟩, rfl⟩ ?_
  push_cast [DL.lit0]
  refine spF_go (xs := [tld k ks, tld k ks]) ⟨_, rfl, ⟨_, hr⟩, rfl⟩ ?_
  rw [ret_tk, take_app]
  exact q
end DL.K02
/-! text K02P12 -/
namespace DL.K02
open PySem DL
theorem keeps_law_draw : Keeps 4 (spS pDr) b_law_draw := by
  rintro args st Q E ⟨i, rest, R, rfl, hs, ⟨top, rfl, h0, h1, rfl⟩, q⟩
  obtain ⟨a, b, c, h⟩ := hs
  have hl := (List.getElem?_eq_some_iff.mp h).1
  have hd := oDm (i := a) ⟨h0, h1⟩
  by_cases ha : (0 : Int) < a
  · have s0' : setAt st (.loc i) (.int 0) (.int (a / top)) = some (st.set i (.lst [.int (a / top), .int b, .int c])) := setAt_at h 0 _ (by simp) (by omega) rfl
    unfold b_law_draw
    refine seq_intro fun N hN => ?_
    push_cast [rdS_at h, ixl0, oGt_ii, decide_eq_true ha, hd, gSub, s0']
    rw [ret_len (by simp)]
    exact q (.int (a % top)) (st.set i (spr (a / top) b c)) ⟨a % top, rfl, Int.emod_nonneg _ (by omega), Int.emod_lt_of_pos _ h0⟩ ⟨_, _, _, rfl⟩
  · have s2 : setAt st (.loc i) (.int 2) (.int (c + 1)) = some (st.set i (.lst [.int a, .int b, .int (c + 1)])) := setAt_at h 2 _ (by simp) (by omega) rfl
    have s1 : ∀ v, setAt (st.set i (.lst [.int a, .int b, .int (c + 1)])) (.loc i) (.int 1) v = some (st.set i (.lst [.int a, v, .int (c + 1)])) := fun v => setAt_set hl 1 v (by simp) (by omega) rfl
    have sm : ∀ x : Int, small64 (x % 4001 + 30011) = true := fun x => by
      have g1 := Int.emod_nonneg x (b := 4001) (by decide)
      have g2 := Int.emod_lt_of_pos x (b := 4001) (by decide)
      exact small_of (by omega) (by omega)
    have m1 : ∀ x : Int, oMul (.int 50021) (.int x) = some (.int (50021 * x)) := fun x => oMul_l (small_of (by omega) (by omega))
    have m2 : ∀ x : Int, oMul (.int 29) (.int x) = some (.int (29 * x)) := fun x => oMul_l (small_of (by omega) (by omega))
    have m3 : ∀ y x : Int, oMul (.int y) (.int (x % 4001 + 30011)) = some (.int (y * (x % 4001 + 30011))) := fun y x => oMul_r (sm x)
    have m4 : ∀ x : Int, oMod (.int x) (.int 2147483423) = some (.int (x % 2147483423)) := fun x => oMod_p (by omega)
    have m5 : ∀ x : Int, oMod (.int x) (.int 4001) = some (.int (x % 4001)) := fun x => oMod_p (by omega)
    have m6 : ∀ x : Int, oDiv (.int x) (.int 547) = some (.int (x / 547)) := fun x => oDiv_p ⟨by omega, by omega⟩
    have m7 : ∀ x : Int, oMod (.int x) (.int top) = some (.int (x % top)) := fun x => oMod_p h0
    unfold b_law_draw
    refine seq_intro fun N hN => ?_
    push_cast [rdS_at h, ixl0, oGt_ii, decide_eq_false ha]
    rw [hN]
    refine seq_intro fun N hN => ?_
    push_cast [rdS_at h, ixl2, gSub, s2]
    rw [hN]
    refine seq_intro fun N hN => ?_
    push_cast [rdS_set hl, ixl1, ixl2, m1, m4, oInt_i]
    rw [hN]
    refine seq_intro fun N hN => ?_
    generalize (b + 50021 * (c + 1)) % 2147483423 = sd
    have rs := rdS_set (xs := [PyData.int a, .int b, .int (c + 1)]) hl
    have e2 : Pv (wBinS oIx (wVar 0) (wC (.int 2))) [some (.loc i), some (.d (.int top)), none, some (.d (.int sd))] (st.set i (.lst [.int a, .int b, .int (c + 1)])) (.int (c + 1)) := pv_sp rfl rs (ixl2 _ _ _ _)
    have e3 : ∀ st1, Pv (wVar 3) [some (.loc i), some (.d (.int top)), none, some (.d (.int sd))] st1 (.int sd) := fun st1 => pv_var rfl
    refine asg_sub (pv_bin (pv_int (pv_bin (pv_bin (e3 _) (pv_bin (pv_bin (pv_int (e3 _)) pv_c (m5 sd)) pv_c (oAdd_ii _ _)) (m3 sd sd)) (pv_bin pv_c e2 (m2 _)) (oAdd_ii _ _))) pv_c (m4 _)) rfl (s1 _) ?_
    show N _ _
    rw [hN]
    generalize (sd * (sd % 4001 + 30011) + 29 * (c + 1)) % 2147483423 = w3
    push_cast [rdS_set hl, ixl1, oInt_i, m6, m7]
    rw [ret_len (by simp)]
    refine q (.int (w3 / 547 % top)) (st.set i (spr a w3 (c + 1))) ⟨w3 / 547 % top, rfl, Int.emod_nonneg _ (by omega), Int.emod_lt_of_pos _ h0⟩ ?_
    exact ⟨_, _, _, rfl⟩
/-- an item of a list, or of a tuple, of at least one -/
def pPk (st : Store) (i : Nat) (rest : List DV) (R : PyData → Prop) : Prop := ∃ r xs, rest = [r] ∧ (LsAt st i r xs ∨ r = .d (.tuple xs) ∨ ∃ z : Str, r = .d (.str z) ∧ z.length ≤ 100000 ∧ xs = z.cps.toList.map fun c => .str ⟨#[c]⟩) ∧ xs ≠ [] ∧ xs.length < 1000000 ∧ R = fun y => y ∈ xs
theorem keeps_law_pick : Keeps 2 (spS pPk) (b_law_pick (spS pDr)) := by
  rintro args st Q E ⟨i, rest, R, rfl, hs, ⟨r, xs, rfl, hr, h0, hl, rfl⟩, q⟩
  have hpos : 0 < xs.length := List.length_pos_iff.mpr h0
  have hrd : ∃ d, rdS st r = some d ∧ (∀ st', SpTo st i st' → rdS st' r = some d) ∧ oLen d = some (.int (xs.length : Nat)) ∧ ∀ k : Int, 0 ≤ k → k < xs.length → ∃ y ∈ xs, oIx d (.int k) = some y := by
    have at_ : ∀ k : Int, 0 ≤ k → k < xs.length → ∃ y ∈ xs, L2.atI xs k = some y := fun k h1 h2 => by
      obtain ⟨n, rfl⟩ : ∃ n : Nat, k = n := ⟨k.toNat, by omega⟩
      have hn : n < xs.length := by omega
      exact ⟨xs[n], List.getElem_mem hn, L2.atI_nat (List.getElem?_eq_getElem hn)⟩
    rcases hr with hr | rfl | ⟨z, rfl, hz, rfl⟩
    · exact ⟨.list xs, hr.rdS, fun st' t => (hr.to t).rdS, rfl, at_⟩
    · exact ⟨.tuple xs, rfl, fun _ _ => rfl, rfl, at_⟩
    · refine ⟨.str z, rfl, fun _ _ => rfl, ?_, fun k h1 h2 => ?_⟩
      · rw [lenOf_s (by omega), sum_len, List.length_map]
      · obtain ⟨n, rfl⟩ : ∃ n : Nat, k = n := ⟨k.toNat, by omega⟩
        have hn : n < z.cps.toList.length := by
          rw [List.length_map] at h2
          omega
        refine ⟨.str ⟨#[z.cps.toList[n]]⟩, List.mem_map.mpr ⟨_, List.getElem_mem hn, rfl⟩, ?_⟩
        show (if z.length ≤ lim then (L2.atI z.cps.toList ((n : Nat) : Int)).map fun c => PyData.str ⟨#[c]⟩ else none) = _
        rw [if_pos (lim_of (by omega)), L2.atI_nat (List.getElem?_eq_getElem hn)]
        rfl
  obtain ⟨d, e1, e2, e3, e4⟩ := hrd
  push_cast [b_law_pick, e1, e3]
  refine spS_go hs ⟨(xs.length : Nat), rfl, by omega, by omega, rfl⟩ ?_
  rintro y st' ⟨k, rfl, k0, k1⟩ t
  obtain ⟨y, hy, e5⟩ := e4 k k0 k1
  push_cast [e2 st' t, e5]
  rw [ret_to t]
  exact q y st' hy t
end DL.K02
/-! text K02P13 -/
namespace DL.K02
open PySem DL
/-! ### the well -/
def sp_well : SpD := fun args st Q _ => ∃ (ns : List Int) (lap : Int), args = [.scr ns, .d (.int lap)] ∧ 0 ≤ lap ∧ lap ≤ 10 ∧ ns.length ≤ 63 ∧ ∀ a b c, Q (.loc st.length) (st ++ [spr a b c])
theorem well_loop {v0 v1 v4 : Option DV} {st : Store} {D : DL.Fin} : ∀ (ns : List Int) (sd : Int) (v3 : Option DV), (∀ sd v3, D.nx [v0, v1, some (.d (.int sd)), v3, v4] st) →
    forGo (gN 3) (wAsg (wBin oMod (wOpN (on1 oInt) (wCons (wBin oAdd (wBin oAdd (wBin oMul (wVar 2) (wC (.int 47221))) (wBin oMod (wOpN (on1 oInt) (wCons (wVar 3) wNil)) (wC (.int 2147483477)))) (wC (.int 7))) wNil)) (wC (.int 2147483423))) (gN 2)) D ((ns.map PyData.int).map DV.d) [v0, v1, some (.d (.int sd)), v3, v4] st
  | [], sd, v3, q => q sd v3
  | n :: ns, sd, v3, q => by
    show wAsg _ _ _ [v0, v1, some (.d (.int sd)), some (.d (.int n)), v4] st
    refine asg_n (pv_bin (pv_int (pv_bin (pv_bin (pv_bin (pv_var rfl) pv_c (oMul_r (small_of (by omega) (by omega)))) (pv_bin (pv_int (pv_var rfl)) pv_c (oMod_p (by omega))) (oAdd_ii _ _)) pv_c (oAdd_ii _ _))) pv_c (oMod_p (by omega))) ?_
    exact well_loop ns _ _ q
theorem sl_10 (ns : List Int) : oSl (.list (ns.map .int)) none (some 10) = some (.list ((ns.take (min 10 ns.length)).map .int)) := by
  show some (PyData.list (cutG (ns.map .int) none (some 10))) = _
  have : cutG (ns.map PyData.int) none (some 10) = (ns.take (min 10 ns.length)).map .int := by
    unfold cutG
    rw [HT.sIx_none, show HT.sIx (ns.map PyData.int).length (ns.map PyData.int).length (some 10) = min 10 (ns.map PyData.int).length from HT.sIx_nat _ _ 10]
    rw [List.drop_zero, List.length_map, Nat.sub_zero, List.map_take]
  rw [this]
theorem keeps_law_well : Keeps 5 sp_well b_law_well := by
  rintro args st Q E ⟨ns, lap, rfl, h0, h1, h2, q⟩
  unfold b_law_well
  refine seq_intro fun N hN => ?_
  refine asg_n (pv_bin pv_c (pv_bin pv_c (pv_var rfl) (oMul_l (small_of (by omega) (by omega)))) (oAdd_ii _ _)) ?_
  show N [some (.scr ns), some (.d (.int lap)), some (.d (.int _)), none, none] st
  rw [hN]
  refine seq_intro fun N hN => ?_
  have erd : rdS st (.scr ns) = some (.list (ns.map .int)) := rfl
  unfold wFor iSeq
  simp only [wSl, wON, wOS, wVar, get0, erd, optK_some, wC, rd_d, asI, sl_10 ns, itemsOf]
  refine well_loop _ _ none fun sd v3 => ?_
  show N _ _
  rw [hN]
  refine seq_intro fun N hN => ?_
  have own : ∃ o : Int, Pv (wIfE (wT (wBin oLt (wVar 1) (wUnS oLen (wVar 0)))) (wOpN (on1 oInt) (wCons (wBinS oIx (wVar 0) (wVar 1)) wNil)) (wC (.int 0))) [some (.scr ns), some (.d (.int lap)), some (.d (.int sd)), v3, none] st (.int o) := by
    have tv : Tv (wT (wBin oLt (wVar 1) (wUnS oLen (wVar 0)))) [some (.scr ns), some (.d (.int lap)), some (.d (.int sd)), v3, none] st (decide (lap < ((ns.length : Nat) : Int))) := tv_t (pv_bin (pv_var rfl) (pv_lenS rfl) (oLt_ii _ _))
    by_cases hl : lap < ((ns.length : Nat) : Int)
    · obtain ⟨n, rfl⟩ : ∃ n : Nat, lap = n := ⟨lap.toNat, by omega⟩
      have hn : n < ns.length := by omega
      have hix : oIx (.list (ns.map .int)) (.int ((n : Nat) : Int)) = some (.int ns[n]) := L2.atI_nat (by rw [List.getElem?_map, List.getElem?_eq_getElem hn]; rfl)
      refine ⟨ns[n], ?_⟩
      have := pv_if (x := .int ns[n]) (y := .int ns[n]) tv (fun _ => pv_int (f := wBinS oIx (wVar 0) (wVar 1)) (i := ns[n]) fun Q q => by
        have e : rdS st (.scr ns) = some (.list (ns.map .int)) := rfl
        push_cast [e, hix]
        exact q) (a := wOpN (on1 oInt) (wCons (wBinS oIx (wVar 0) (wVar 1)) wNil)) (b := wC (.int 0)) (fun hc => by rw [decide_eq_true hl] at hc; cases hc)
      simpa using this
    · refine ⟨0, ?_⟩
      have := pv_if (x := .int 0) (y := .int 0) tv (a := wOpN (on1 oInt) (wCons (wBinS oIx (wVar 0) (wVar 1)) wNil)) (b := wC (.int 0)) (fun hc => by rw [decide_eq_false hl] at hc; cases hc) (fun _ => pv_c)
      simpa using this
  obtain ⟨o, ho⟩ := own
  refine asg_n ho ?_
  show N [some (.scr ns), some (.d (.int lap)), some (.d (.int sd)), v3, some (.d (.int o))] st
  rw [hN]
  refine seq_intro fun N hN => ?_
  refine asg_n (pv_bin (pv_int (pv_bin (pv_bin (pv_bin (pv_var rfl) pv_c (oMul_r (small_of (by omega) (by omega)))) (pv_bin (pv_bin (pv_int (pv_var rfl)) pv_c (oMod_p (by omega))) pv_c (oMul_r (small_of (by omega) (by omega)))) (oAdd_ii _ _)) pv_c (oAdd_ii _ _))) pv_c (oMod_p (by omega))) ?_
  show N _ _
  rw [hN]
  generalize (sd * 53 + o % 2147483477 * 15013 + 3) % 2147483423 = sd2
  show wRet _ _ [some (.scr ns), some (.d (.int lap)), some (.d (.int sd2)), v3, some (.d (.int o))] st
  have first : ∃ a : Int, Pv (wIfE (wOr (wT (wBin oLt (wVar 4) (wC (.int 0)))) (wT (wBin oGe (wVar 4) (wBin oPow (wC (.int 10)) (wC (.int 14)))))) (wOpN (on1 oAbs) (wCons (wVar 4) wNil)) (wC (.int 0))) [some (.scr ns), some (.d (.int lap)), some (.d (.int sd2)), v3, some (.d (.int o))] st (.int a) := by
    have hp : oPow (.int 10) (.int 14) = some (.int 100000000000000) := rfl
    have tv : Tv (wOr (wT (wBin oLt (wVar 4) (wC (.int 0)))) (wT (wBin oGe (wVar 4) (wBin oPow (wC (.int 10)) (wC (.int 14)))))) [some (.scr ns), some (.d (.int lap)), some (.d (.int sd2)), v3, some (.d (.int o))] st (decide (o < 0) || decide (100000000000000 ≤ o)) :=
      tv_or (tv_t (pv_bin (pv_var rfl) pv_c (oLt_ii _ _))) (tv_t (pv_bin (pv_var rfl) (pv_bin pv_c pv_c hp) (oGe_ii _ _)))
    have pa : Pv (wOpN (on1 oAbs) (wCons (wVar 4) wNil)) [some (.scr ns), some (.d (.int lap)), some (.d (.int sd2)), v3, some (.d (.int o))] st (.int (if o < 0 then -o else o)) := fun Q q => by
      have e : oAbs (.int o) = some (.int (if o < 0 then -o else o)) := rfl
      push_cast [e]
      exact q
    cases hc : (decide (o < 0) || decide (100000000000000 ≤ o)) with
    | true => rw [hc] at tv; exact ⟨_, pv_if (x := .int (if o < 0 then -o else o)) (y := .int 0) tv (fun _ => pa) fun z => nomatch z⟩
    | false => rw [hc] at tv; exact ⟨_, pv_if (x := .int (if o < 0 then -o else o)) (y := .int 0) tv (fun z => nomatch z) fun _ => pv_c⟩
  obtain ⟨a, ha⟩ := first
  unfold wRet wLstM wCons
  refine ha _ ?_
  simp only [wVar, wC, wNil, set0, setS, get0, getS]
  show optK (DL.frs [.d (.int a), .d (.int sd2), .d (.int 0)]) _
  rw [show DL.frs [.d (.int a), .d (.int sd2), .d (.int 0)] = some [PyData.int a, .int sd2, .int 0] from rfl]
  refine ⟨show 3 ≤ lim by decide, ?_⟩
  have hg : (st ++ [spr a sd2 0])[st.length]? = some (spr a sd2 0) := by simp
  show retK st.length Q (.loc st.length) (st ++ [spr a sd2 0])
  unfold retK
  simp only [Nat.lt_irrefl, if_false, hg, optK_some, take_app]
  exact q a sd2 0
/-! ### texts drawn -/
def okS (n : Nat) (s : Str) : Prop := s.length ≤ n ∧ ∀ c ∈ s.cps.toList, c < 200
theorem okS_app {n m : Nat} {s t : Str} (h : okS n s) (g : okS m t) : okS (n + m) (s ++ t) := by
  refine ⟨by rw [str_len_append]; have := h.1; have := g.1; omega, fun c hc => ?_⟩
  rw [str_app] at hc
  exact (List.mem_append.mp hc).elim (h.2 c) (g.2 c)
theorem okS_mono {n m : Nat} {s : Str} (h : okS n s) (hm : n ≤ m) : okS m s := ⟨Nat.le_trans h.1 hm, h.2⟩
theorem okS_lit {s : Str} {n : Nat} (h : (decide (s.length ≤ n) && s.cps.toList.all fun c => decide (c < 200)) = true) : okS n s := by
  rw [Bool.and_eq_true] at h
  refine ⟨of_decide_eq_true h.1, fun c hc => ?_⟩
  exact of_decide_eq_true (List.all_eq_true.mp h.2 c hc)
def pWr (st : Store) (i : Nat) (rest : List DV) (R : PyData → Prop) : Prop := rest = [] ∧ R = fun y => ∃ s, y = .str s ∧ okS 20 s
theorem pick_sign {z : Str} (hz : ∀ c ∈ z.cps.toList, c < 200) {y : PyData} (h : y ∈ z.cps.toList.map fun c => PyData.str ⟨#[c]⟩) : ∃ s, y = .str s ∧ okS 1 s := by
  obtain ⟨c, hc, rfl⟩ := List.mem_map.mp h
  exact ⟨_, rfl, Nat.le_refl _, fun x hx => by simp at hx; subst hx; exact hz _ hc⟩
theorem lit_str {ss : List Str} {n : Nat} (h : ss.all (fun s => decide (s.length ≤ n) && s.cps.toList.all fun c => decide (c < 200)) = true) {y : PyData} (hy : y ∈ ss.map .str) : ∃ s, y = .str s ∧ okS n s := by
  obtain ⟨s, hs, rfl⟩ := List.mem_map.mp hy
  exact ⟨s, rfl, okS_lit (List.all_eq_true.mp h s hs)⟩
end DL.K02
/-! text K02P14 -/
namespace DL.K02
open PySem DL
mutual
def okDb : PyData → Bool
  | .int i => decide (i.natAbs ≤ 1000000000000000000000000000000)
  | .str s => decide (s.length ≤ 200) && s.cps.toList.all fun c => decide (c < 200)
  | .list xs => okAb xs
  | .tuple xs => okAb xs
  | .dict kvs => kvs.isEmpty
  | .none => true
  | .bool _ => true
def okAb : List PyData → Bool
  | [] => true
  | x :: xs => okDb x && okAb xs
end
mutual
theorem okDb_ok : ∀ d : PyData, okDb d = true → okD 0 d
  | .none, _ => trivial
  | .bool _, _ => trivial
  | .int i, h => by
    have h' := of_decide_eq_true (p := i.natAbs ≤ 1000000000000000000000000000000) h
    show i.natAbs ≤ 10 ^ 30 + 0
    exact h'
  | .str s, h => by
    have h' : (decide (s.length ≤ 200) && s.cps.toList.all fun c => decide (c < 200)) = true := h
    rw [Bool.and_eq_true] at h'
    exact ⟨of_decide_eq_true h'.1, fun c hc => of_decide_eq_true (List.all_eq_true.mp h'.2 c hc)⟩
  | .list xs, h => okAb_ok xs h
  | .tuple xs, h => okAb_ok xs h
  | .dict kvs, h => h
theorem okAb_ok : ∀ xs : List PyData, okAb xs = true → okA 0 xs
  | [], _ => trivial
  | x :: xs, h => by
    have h' : (okDb x && okAb xs) = true := h
    rw [Bool.and_eq_true] at h'
    exact ⟨okDb_ok x h'.1, okAb_ok xs h'.2⟩
end
def chk (d : PyData) : Bool := okDb d && (decide (d.depth ≤ 4) && decide (wt d ≤ 300))
theorem chk_ok {d : PyData} (h : chk d = true) : Ok 0 4 300 d := by
  unfold chk at h
  rw [Bool.and_eq_true, Bool.and_eq_true] at h
  exact ⟨okDb_ok d h.1, of_decide_eq_true h.2.1, of_decide_eq_true h.2.2⟩
def odd1 : List PyData := [.none, .bool true, .bool false, .int 0, .int 1, .int (-1), .int 12, .int 1000000000000000000000000000000, .str "", .str "thing", .str "Row", .str "Row'", .str "Row'Tree", .str "row", .str "left", .tuple [], .tuple [.int 0]]
def odd2 : List PyData := [.tuple [.str "thing"], .tuple [.str "thing", .tuple []], .tuple [.str "none"], .tuple [.str "name", .str "Row"], .tuple [.str "name", .str "row"], .tuple [.str "unit", .int 1], .tuple [.str "pair", .tuple [.str "thing"]]]
def odd3 : List PyData := [.tuple [.str "pair", .int 5, .int 6], .tuple [.str "either", .tuple [.str "unit"], .tuple [.str "thing"]], .tuple [.str "left", .tuple []], .tuple [.str "right", .bool true], .list [], .list [.str "thing"], .dict [], .tuple [.tuple []]]
def odd4 : List PyData := [.tuple [.int 1, .int 2], .tuple [.int 1, .bool true], .tuple [.str "next"], .tuple [.str "put", .int 3], .tuple [.tuple [.str "Row", .tuple [.str "unit"]]], .tuple [.tuple [.str "unit"]], .tuple [.none], .tuple [.str "left", .int 1, .int 2]]
def odds : List PyData := odd1 ++ odd2 ++ odd3 ++ odd4
theorem odds_chk : odds.all chk = true := by decide
theorem oAdd_tt {xs ys : List PyData} (h : xs.length + ys.length ≤ 10000000) : oAdd (.tuple xs) (.tuple ys) = some (.tuple (xs ++ ys)) := if_pos ⟨lim_of h, rfl⟩
def pOd (st : Store) (i : Nat) (rest : List DV) (R : PyData → Prop) : Prop := rest = [] ∧ R = fun y => Ok 0 4 300 y
theorem keeps_law_odd : Keeps 5 (spS pOd) (b_law_odd (spS pPk)) := by
  rintro args st Q E ⟨i, rest, R, rfl, hs, ⟨rfl, rfl⟩, q⟩
  have hp : oPow (.int 10) (.int 30) = some (.int 1000000000000000000000000000000) := rfl
  have hn : oNeg (.int 1) = some (.int (-1)) := rfl
  have l17 : (0 + 1 + 1 + 1 + 1 + 1 + 1 + 1 + 1 + 1 + 1 + 1 + 1 + 1 + 1 + 1 + 1 + 1 ≤ lim) = True := eq_true (by decide)
  unfold b_law_odd
  refine seq_intro fun N hN => ?_
  refine asg_n (a := .tuple odd1) (fun Q q => by push_cast [hp, hn, l17]; exact q) ?_
  show N _ _
  rw [hN]
  refine seq_intro fun N hN => ?_
  refine asg_n (a := .tuple odd2) (fun Q q => by push_cast [DL.lit0]; exact q) ?_
  show N _ _
  rw [hN]
  refine seq_intro fun N hN => ?_
  refine asg_n (a := .tuple odd3) (fun Q q => by push_cast [wDct0]; exact q) ?_
  show N _ _
  rw [hN]
  refine seq_intro fun N hN => ?_
  refine asg_n (a := .tuple odd4) (fun Q q => by push_cast [DL.lit0]; exact q) ?_
  show N [some (.loc i), some (.d (.tuple odd1)), some (.d (.tuple odd2)), some (.d (.tuple odd3)), some (.d (.tuple odd4))] st
  rw [hN]
  have a1 : oAdd (.tuple odd1) (.tuple odd2) = some (.tuple (odd1 ++ odd2)) := oAdd_tt (by decide)
  have a2 : oAdd (.tuple (odd1 ++ odd2)) (.tuple odd3) = some (.tuple (odd1 ++ odd2 ++ odd3)) := oAdd_tt (by decide)
  have a3 : oAdd (.tuple (odd1 ++ odd2 ++ odd3)) (.tuple odd4) = some (.tuple odds) := oAdd_tt (by decide)
  push_cast [a1, a2, a3]
  refine spS_go hs ⟨_, odds, rfl, .inr (.inl rfl), by decide, by decide, rfl⟩ ?_
  rintro y st' hy t
  rw [ret_to t]
  exact q y st' (chk_ok (List.all_eq_true.mp odds_chk y hy)) t
/-! ### texts drawn -/
def lowL : Str := "abcdefghijklmnopqrstuvwxyz0123456789"
theorem rng_len (n : Nat) : (rngL 0 n).length = n := by simp [rngL]
theorem wr_loop {st0 : Store} {i : Nat} {D : DL.Fin} {E : EK} : ∀ (xs : List DV) (n : Nat) (s : Str) (v2 : Option DV) (st : Store), okS n s → n + xs.length ≤ 1000 → Spr st i → SpTo st0 i st →
    (∀ s v2 st, okS (n + xs.length) s → Spr st i → SpTo st0 i st → D.nx [some (.loc i), some (.d (.str s)), v2] st) →
    forGo (gN 2) (wAsg (wBin oAdd (wVar 1) (wCall (spS pPk) E (wCons (wVar 0) (wCons (wC (.str "abcdefghijklmnopqrstuvwxyz0123456789")) wNil)))) (gN 1)) D xs [some (.loc i), some (.d (.str s)), v2] st
  | [], n, s, v2, st, h, _, hs, t, q => q s v2 st h hs t
  | x :: xs, n, s, v2, st, h, hl, hs, t, q => by
    simp only [List.length_cons] at hl
    push_cast [forGo]
    refine spS_go hs ⟨_, lowL.cps.toList.map fun c => .str ⟨#[c]⟩, rfl, .inr (.inr ⟨lowL, rfl, by decide, rfl⟩), by decide, by decide, rfl⟩ ?_
    rintro y st' hy t'
    obtain ⟨z, rfl, hz⟩ := pick_sign (z := lowL) (okS_lit (s := lowL) (n := 100) (by decide)).2 hy
    have ha : oAdd (.str s) (.str z) = some (.str (s ++ z)) := oAdd_ss (lim_of (by have := h.1; have := hz.1; omega))
    push_cast [ha]
    refine wr_loop xs (n + 1) (s ++ z) _ st' (okS_app h hz) (by omega) (t'.spr hs) (t.trans t') fun s v2 st h => q s v2 st (by
      have e : n + 1 + xs.length = n + (x :: xs).length := by simp; omega
      rw [← e]
      exact h)
theorem keeps_law_written : Keeps 3 (spS pWr) (b_law_written (spS pPk) (spS pDr)) := by
  rintro args st Q E ⟨i, rest, R, rfl, hs, ⟨rfl, rfl⟩, q⟩
  unfold b_law_written
  refine seq_intro fun N hN => ?_
  push_cast [DL.lit0]
  refine spS_go hs ⟨2, rfl, by omega, by omega, rfl⟩ ?_
  rintro y st1 ⟨k, rfl, k0, k1⟩ t
  by_cases hk : k = 0
  · subst hk
    push_cast [DL.lit0]
    refine spS_go (t.spr hs) ⟨_, (["Row", "Tree", "R", "Rowa", "Ro", "X1", "Y", "Rows"] : List Str).map PyData.str, rfl, .inr (.inl rfl), by decide, by decide, rfl⟩ ?_
    rintro y st2 hy t2
    obtain ⟨s, rfl, h⟩ := lit_str (ss := (["Row", "Tree", "R", "Rowa", "Ro", "X1", "Y", "Rows"] : List Str)) (n := 20) (by decide) hy
    rw [ret_to (t.trans t2)]
    exact q _ _ ⟨s, rfl, h⟩ (t.trans t2)
  · have hk' : (k == 0) = false := by simpa using hk
    push_cast [hk']
    rw [hN]
    refine seq_intro fun N hN => ?_
    push_cast [DL.lit0]
    refine spS_go (t.spr hs) ⟨_, ("ABCDEFGHIJKLMNOPQRSTUVWXYZ" : Str).cps.toList.map fun c => .str ⟨#[c]⟩, rfl, .inr (.inr ⟨"ABCDEFGHIJKLMNOPQRSTUVWXYZ", rfl, by decide, rfl⟩), by decide, by decide, rfl⟩ ?_
    rintro y st2 hy t2
    obtain ⟨s, rfl, h⟩ := pick_sign (okS_lit (s := "ABCDEFGHIJKLMNOPQRSTUVWXYZ") (n := 100) (by decide)).2 hy
    show N _ _
    rw [hN]
    refine seq_intro fun N hN => ?_
    unfold wFor iRng1D
    push_cast [DL.lit0]
    refine spS_go (t2.spr (t.spr hs)) ⟨_, [.int 0, .int 0, .int 1, .int 2, .int 3, .int 6, .int 7], rfl, .inr (.inl rfl), by decide, by decide, rfl⟩ ?_
    rintro y st3 hy t3
    have : ∃ n : Nat, y = .int (n : Nat) ∧ n ≤ 7 := by
      simp at hy
      rcases hy with rfl | rfl | rfl | rfl | rfl | rfl
      · exact ⟨0, rfl, by omega⟩
      · exact ⟨1, rfl, by omega⟩
      · exact ⟨2, rfl, by omega⟩
      · exact ⟨3, rfl, by omega⟩
      · exact ⟨6, rfl, by omega⟩
      · exact ⟨7, rfl, by omega⟩
    obtain ⟨n, rfl, hn⟩ := this
    have tt := (t.trans t2).trans t3
    simp only [rd_d, optK_some, asI, Int.toNat_natCast]
    refine ⟨⟨by omega, by omega⟩, lim_of (by omega), ?_⟩
    refine wr_loop (st0 := st) _ 1 s none st3 h (by rw [rng_len]; omega) (t3.spr (t2.spr (t.spr hs))) tt fun s v2 st4 h hs4 t4 => ?_
    rw [rng_len] at h
    show N _ _
    rw [hN]
    push_cast [DL.lit0]
    rw [ret_to t4]
    exact q _ _ ⟨s, rfl, okS_mono h (by omega)⟩ t4
end DL.K02
/-! text K02P15 -/
namespace DL.K02
open PySem DL
theorem cutS_ok {n : Nat} {z : Str} (h : okS n z) (lo hi : Option Int) : okS n (L2.cutS z lo hi) := by
  have e : ∃ a b, (L2.cutS z lo hi).cps.toList = (z.cps.toList.drop a).take b := ⟨HT.sIx z.length 0 lo, HT.sIx z.length z.length hi - HT.sIx z.length 0 lo, by unfold L2.cutS; simp⟩
  obtain ⟨a, b, e⟩ := e
  constructor
  · rw [sum_len, e, List.length_take, List.length_drop]
    have h1 := h.1
    rw [sum_len] at h1
    omega
  · intro c hc
    rw [e] at hc
    exact h.2 c (List.mem_of_mem_drop (List.mem_of_mem_take hc))
theorem sl_str {z : Str} (h : z.length ≤ 100000) (lo hi : Option Int) : oSl (.str z) lo hi = some (.str (L2.cutS z lo hi)) := if_pos (lim_of (by omega))
theorem rep_ok {j : Int} {n : Nat} (h : j ≤ n) : okS n (repS "'" j) := by
  have l1 : ("'" : Str).length = 1 := rfl
  refine ⟨by rw [repS_len, l1]; omega, fun c hc => ?_⟩
  rw [repS_cps] at hc
  obtain ⟨l, hl, hc⟩ := List.mem_flatten.mp hc
  have := (List.mem_replicate.mp hl).2
  subst this
  have : c = 39 := by simpa using (show c ∈ [39] from hc)
  omega
theorem oMulS_t {j : Int} (h1 : -1000 ≤ j) (h2 : j ≤ 1000) : oMulS (.str "'") (.int j) = some (.str (repS "'" j)) := if_pos ⟨h1, h2, by decide⟩
def pLn (st : Store) (i : Nat) (rest : List DV) (R : PyData → Prop) : Prop := rest = [] ∧ R = fun y => ∃ s, y = .str s ∧ okS 164 s
theorem ln_loop {st0 : Store} {i : Nat} {D : DL.Fin} {E : EK} : ∀ (xs : List DV) (n : Nat) (s : Str) (v2 : Option DV) (st : Store), okS n s → n + 21 * xs.length ≤ 1000 → Spr st i → SpTo st0 i st →
    (∀ s v2 st, okS (n + 21 * xs.length) s → Spr st i → SpTo st0 i st → D.nx [some (.loc i), some (.d (.str s)), v2] st) →
    forGo (gN 2) (wAsg (wBin oAdd (wBin oAdd (wVar 1) (wC (.str "'"))) (wIfE (wT (wBin oEq (wCall (spS pDr) E (wCons (wVar 0) (wCons (wC (.int 2)) wNil))) (wC (.int 0)))) (wCall (spS pWr) E (wCons (wVar 0) wNil)) (wC (.str "")))) (gN 1)) D xs [some (.loc i), some (.d (.str s)), v2] st
  | [], n, s, v2, st, h, _, hs, t, q => q s v2 st h hs t
  | x :: xs, n, s, v2, st, h, hl, hs, t, q => by
    simp only [List.length_cons] at hl q
    have l1 : ("'" : Str).length = 1 := rfl
    have ht : okS 1 ("'" : Str) := okS_lit (by decide)
    have ha : oAdd (.str s) (.str "'") = some (.str (s ++ ("'" : Str))) := oAdd_ss (lim_of (by have := h.1; omega))
    have hst : okS (n + 1) (s ++ ("'" : Str)) := okS_app h ht
    have fin : ∀ (z : Str) (st' : Store), okS 20 z → Spr st' i → SpTo st0 i st' → forGo (gN 2) (wAsg (wBin oAdd (wBin oAdd (wVar 1) (wC (.str "'"))) (wIfE (wT (wBin oEq (wCall (spS pDr) E (wCons (wVar 0) (wCons (wC (.int 2)) wNil))) (wC (.int 0)))) (wCall (spS pWr) E (wCons (wVar 0) wNil)) (wC (.str "")))) (gN 1)) D xs [some (.loc i), some (.d (.str (s ++ ("'" : Str) ++ z))), some x] st' := fun z st' hz hs' t' =>
      ln_loop xs (n + 21) _ _ st' (okS_mono (okS_app hst hz) (by omega)) (by omega) hs' t' fun s v2 st h => q s v2 st (by
        have e : n + 21 + 21 * xs.length = n + 21 * (xs.length + 1) := by omega
        rw [← e]
        exact h)
    push_cast [forGo, ha]
    refine spS_go hs ⟨2, rfl, by omega, by omega, rfl⟩ ?_
    rintro y st1 ⟨k, rfl, k0, k1⟩ t1
    by_cases hk : k = 0
    · subst hk
      push_cast [DL.lit0]
      refine spS_go (t1.spr hs) ⟨rfl, rfl⟩ ?_
      rintro y st2 ⟨z, rfl, hz⟩ t2
      have hb : oAdd (.str (s ++ ("'" : Str))) (.str z) = some (.str (s ++ ("'" : Str) ++ z)) := oAdd_ss (lim_of (by have := hst.1; have := hz.1; omega))
      push_cast [hb]
      exact fin z st2 hz (t2.spr (t1.spr hs)) ((t.trans t1).trans t2)
    · have hk' : (k == 0) = false := by simpa using hk
      have hb : oAdd (.str (s ++ ("'" : Str))) (.str "") = some (.str (s ++ ("'" : Str) ++ ("" : Str))) := oAdd_ss (lim_of (by have := hst.1; have : ("" : Str).length = 0 := rfl; omega))
      push_cast [hk', hb]
      exact fin "" st1 (okS_lit (by decide)) (t1.spr hs) (t.trans t1)
theorem keeps_law_long_name : Keeps 3 (spS pLn) (b_law_long_name (spS pDr) (spS pPk) (spS pWr)) := by
  rintro args st Q E ⟨i, rest, R, rfl, hs, ⟨rfl, rfl⟩, q⟩
  unfold b_law_long_name
  refine seq_intro fun N hN => ?_
  push_cast [DL.lit0]
  refine spS_go hs ⟨rfl, rfl⟩ ?_
  rintro y st1 ⟨s, rfl, h⟩ t1
  show N _ _
  rw [hN]
  refine seq_intro fun N hN => ?_
  unfold wFor iRng1D
  push_cast [DL.lit0]
  refine spS_go (t1.spr hs) ⟨_, [.int 0, .int 0, .int 1, .int 1, .int 2, .int 4], rfl, .inr (.inl rfl), by decide, by decide, rfl⟩ ?_
  rintro y st2 hy t2
  have : ∃ n : Nat, y = .int (n : Nat) ∧ n ≤ 4 := by
    simp at hy
    rcases hy with rfl | rfl | rfl | rfl
    · exact ⟨0, rfl, by omega⟩
    · exact ⟨1, rfl, by omega⟩
    · exact ⟨2, rfl, by omega⟩
    · exact ⟨4, rfl, by omega⟩
  obtain ⟨n, rfl, hn⟩ := this
  simp only [rd_d, optK_some, asI, Int.toNat_natCast]
  refine ⟨⟨by omega, by omega⟩, lim_of (by omega), ?_⟩
  refine ln_loop (st0 := st) _ 20 s none st2 h (by rw [rng_len]; omega) (t2.spr (t1.spr hs)) (t1.trans t2) fun s v2 st3 h hs3 t3 => ?_
  rw [rng_len] at h
  have h104 : okS 104 s := okS_mono h (by omega)
  have hl := h104.1
  show N _ _
  rw [hN]
  push_cast [DL.lit0]
  refine spS_go hs3 ⟨9, rfl, by omega, by omega, rfl⟩ ?_
  rintro y st4 ⟨k, rfl, k0, k1⟩ t4
  have tt := t3.trans t4
  have e0 : ∀ b : Bool, (b = false → okS 164 s) := fun _ _ => okS_mono h104 (by omega)
  by_cases hk : k = 8
  · subst hk
    push_cast [lenOf_s (z := s) (by omega), oLt_ii]
    by_cases h60 : s.length < 60
    · have hj : oMulS (.str "'") (.int ((60 : Int) - ((s.length : Nat) : Int))) = some (.str (repS "'" (60 - ((s.length : Nat) : Int)))) := oMulS_t (by omega) (by omega)
      have hr : okS 60 (repS "'" (60 - ((s.length : Nat) : Int))) := rep_ok (by omega)
      have ha : oAdd (.str s) (.str (repS "'" (60 - ((s.length : Nat) : Int)))) = some (.str (s ++ repS "'" (60 - ((s.length : Nat) : Int)))) := oAdd_ss (lim_of (by have := hr.1; omega))
      rw [decide_eq_true (show ((s.length : Nat) : Int) < 60 by omega)]
      push_cast [oMul, hj, ha]
      rw [ret_to tt]
      exact q _ _ ⟨_, rfl, okS_app h104 hr⟩ tt
    · rw [decide_eq_false (show ¬ ((s.length : Nat) : Int) < 60 by omega)]
      push_cast [DL.lit0]
      rw [ret_to tt]
      exact q _ _ ⟨_, rfl, okS_mono h104 (by omega)⟩ tt
  · have hk' : (k == 8) = false := by simpa using hk
    push_cast [hk']
    rw [ret_to tt]
    exact q _ _ ⟨_, rfl, okS_mono h104 (by omega)⟩ tt
def pNn (st : Store) (i : Nat) (rest : List DV) (R : PyData → Prop) : Prop := ∃ s : Str, rest = [.d (.str s)] ∧ okS 240 s ∧ R = fun y => ∃ z, y = .str z ∧ okS 320 z ∧ z.length ≤ s.length + 64
theorem keeps_law_near_name : Keeps 5 (spS pNn) (b_law_near_name (spS pDr) (spS pPk)) := by
  rintro args st Q E ⟨i, rest, R, rfl, hs, ⟨s, rfl, h, rfl⟩, q⟩
  have hl := h.1
  unfold b_law_near_name
  refine seq_intro fun N hN => ?_
  unfold wPar
  push_cast [lenOf_s (z := s) (by omega)]
  refine spS_go hs ⟨((s.length : Nat) : Int) + 1, rfl, by omega, by omega, rfl⟩ ?_
  rintro y st1 ⟨a, rfl, a0, a1⟩ t1
  refine spS_go (t1.spr hs) ⟨8, rfl, by omega, by omega, rfl⟩ ?_
  rintro y st2 ⟨w, rfl, w0, w1⟩ t2
  show N _ _
  rw [hN]
  refine seq_intro fun N hN => ?_
  have t12 := t1.trans t2
  show wAsg (wCall (spS pPk) E (wCons (wVar 0) (wCons (wC (.str "AZaz09'_ -.bR")) wNil))) (gN 4) _ [some (.loc i), some (.d (.str s)), some (.d (.int a)), some (.d (.int w)), none] st2
  push_cast [DL.lit0]
  refine spS_go (t12.spr hs) ⟨_, ("AZaz09'_ -.bR" : Str).cps.toList.map fun c => .str ⟨#[c]⟩, rfl, .inr (.inr ⟨"AZaz09'_ -.bR", rfl, by decide, rfl⟩), by decide, by decide, rfl⟩ ?_
  rintro y st3 hy t3
  obtain ⟨g, rfl, hg⟩ := pick_sign (okS_lit (s := "AZaz09'_ -.bR") (n := 100) (by decide)).2 hy
  have tt := t12.trans t3
  have hs3 := tt.spr hs
  show N [some (.loc i), some (.d (.str s)), some (.d (.int a)), some (.d (.int w)), some (.d (.str g))] st3
  rw [hN]
  have c1 := cutS_ok h none (some a)
  have c2 := cutS_ok h (some (a + 1)) none
  have c3 := cutS_ok h (some a) none
  have sl1 := sl_str (z := s) (by omega) none (some a)
  have sl2 := sl_str (z := s) (by omega) (some (a + 1)) none
  have sl3 := sl_str (z := s) (by omega) (some a) none
  have cl : ∀ lo hi, (L2.cutS s lo hi).length ≤ s.length := fun lo hi => (cutS_ok ⟨Nat.le_refl _, h.2⟩ lo hi).1
  have both : (L2.cutS s none (some a)).length + (L2.cutS s (some a) none).length ≤ s.length ∧ (L2.cutS s none (some a)).length + (L2.cutS s (some (a + 1)) none).length ≤ s.length := by
    obtain ⟨n, rfl⟩ : ∃ n : Nat, a = n := ⟨a.toNat, by omega⟩
    have e1 : HT.sIx s.length s.length (some (n : Int)) = min n s.length := HT.sIx_nat _ _ n
    have e2 : HT.sIx s.length 0 (some (n : Int)) = min n s.length := HT.sIx_nat _ _ n
    have e3 : HT.sIx s.length 0 (some ((n : Int) + 1)) = min (n + 1) s.length := HT.sIx_nat _ _ (n + 1)
    have ls : s.cps.toList.length = s.length := (sum_len s).symm
    have f1 : (L2.cutS s none (some (n : Int))).length = min n s.length := by
      rw [sum_len]
      unfold L2.cutS
      rw [HT.sIx_none, e1]
      simp only [List.length_take, List.length_drop, ls]
      omega
    have f2 : (L2.cutS s (some (n : Int)) none).length = s.length - min n s.length := by
      rw [sum_len]
      unfold L2.cutS
      rw [HT.sIx_none, e2]
      simp only [List.length_take, List.length_drop, ls]
      omega
    have f3 : (L2.cutS s (some ((n : Int) + 1)) none).length = s.length - min (n + 1) s.length := by
      rw [sum_len]
      unfold L2.cutS
      rw [HT.sIx_none, e3]
      simp only [List.length_take, List.length_drop, ls]
      omega
    rw [f1, f2, f3]
    omega
  have fin : ∀ z : Str, okS 320 z → z.length ≤ s.length + 64 → retK st.length Q (.d (.str z)) st3 := fun z hz hz2 => by
    rw [ret_to tt]
    exact q _ _ ⟨z, rfl, hz, hz2⟩ tt
  have len_app := str_len_append
  have d0 : ((w == 0) = true ∨ (w == 0) = false) := by cases w == 0 <;> simp
  have chr : ∀ {x y : Str}, (∀ c ∈ x.cps.toList, c < 200) → (∀ c ∈ y.cps.toList, c < 200) → ∀ c ∈ (x ++ y).cps.toList, c < 200 := fun hx hy c hc => by
    rw [str_app] at hc
    exact (List.mem_append.mp hc).elim (hx c) (hy c)
  refine seq_intro fun N hN => ?_
  by_cases hw0 : w = 0
  · subst hw0
    have ha : oAdd (.str (L2.cutS s none (some a))) (.str (L2.cutS s (some (a + 1)) none)) = some (.str (L2.cutS s none (some a) ++ L2.cutS s (some (a + 1)) none)) := oAdd_ss (lim_of (by omega))
    push_cast [wSl, wOS, wON, asI, sl1, sl2, ha]
    exact fin _ ⟨by rw [len_app]; omega, chr c1.2 c2.2⟩ (by rw [len_app]; omega)
  · have e0 : (w == 0) = false := by simpa using hw0
    push_cast [e0]
    rw [hN]
    refine seq_intro fun N hN => ?_
    by_cases hw4 : w < 4
    · have ha : oAdd (.str (L2.cutS s none (some a))) (.str g) = some (.str (L2.cutS s none (some a) ++ g)) := oAdd_ss (lim_of (by have := hg.1; omega))
      have hb : oAdd (.str (L2.cutS s none (some a) ++ g)) (.str (L2.cutS s (some a) none)) = some (.str (L2.cutS s none (some a) ++ g ++ L2.cutS s (some a) none)) := oAdd_ss (lim_of (by rw [len_app]; have := hg.1; omega))
      push_cast [oLt_ii, decide_eq_true hw4, wSl, wOS, wON, asI, sl1, sl3, ha, hb]
      have := hg.1
      exact fin _ ⟨by rw [len_app, len_app]; omega, chr (chr c1.2 hg.2) c3.2⟩ (by rw [len_app, len_app]; omega)
    · push_cast [oLt_ii, decide_eq_false hw4]
      rw [hN]
      refine seq_intro fun N hN => ?_
      by_cases hw6 : w < 6
      · have ha : oAdd (.str (L2.cutS s none (some a))) (.str g) = some (.str (L2.cutS s none (some a) ++ g)) := oAdd_ss (lim_of (by have := hg.1; omega))
        have hb : oAdd (.str (L2.cutS s none (some a) ++ g)) (.str (L2.cutS s (some (a + 1)) none)) = some (.str (L2.cutS s none (some a) ++ g ++ L2.cutS s (some (a + 1)) none)) := oAdd_ss (lim_of (by rw [len_app]; have := hg.1; omega))
        push_cast [oLt_ii, decide_eq_true hw6, wSl, wOS, wON, asI, sl1, sl2, ha, hb]
        have := hg.1
        exact fin _ ⟨by rw [len_app, len_app]; omega, chr (chr c1.2 hg.2) c2.2⟩ (by rw [len_app, len_app]; omega)
      · push_cast [oLt_ii, decide_eq_false hw6]
        rw [hN]
        refine seq_intro fun N hN => ?_
        by_cases hw6' : w = 6
        · subst hw6'
          have hj : oMulS (.str "'") (.int (max 1 (61 - ((s.length : Nat) : Int)))) = some (.str (repS "'" (max 1 (61 - ((s.length : Nat) : Int))))) := oMulS_t (by omega) (by omega)
          have hr : okS 61 (repS "'" (max 1 (61 - ((s.length : Nat) : Int)))) := rep_ok (by omega)
          have hr1 := hr.1
          have ha : oAdd (.str s) (.str (repS "'" (max 1 (61 - ((s.length : Nat) : Int))))) = some (.str (s ++ repS "'" (max 1 (61 - ((s.length : Nat) : Int))))) := oAdd_ss (lim_of (by omega))
          push_cast [lenOf_s (z := s) (by omega), oMax_ii, hj, ha]
          exact fin _ ⟨by rw [len_app]; omega, chr h.2 hr.2⟩ (by rw [len_app]; omega)
        · have e6 : (w == 6) = false := by simpa using hw6'
          push_cast [e6]
          rw [hN]
          push_cast [wSl, wON, wOS]
          refine spS_go hs3 ⟨9, rfl, by omega, by omega, rfl⟩ ?_
          rintro y st4 ⟨k, rfl, k0, k1⟩ t4
          have hlit : okS 8 ("abcdefgh" : Str) := okS_lit (by decide)
          have sl4 := sl_str (z := "abcdefgh") (by decide) none (some k)
          have c4 := cutS_ok hlit none (some k)
          have c4l := c4.1
          have ha : oAdd (.str s) (.str (L2.cutS "abcdefgh" none (some k))) = some (.str (s ++ L2.cutS "abcdefgh" none (some k))) := oAdd_ss (lim_of (by omega))
          push_cast [asI, sl4, ha]
          rw [ret_to (tt.trans t4)]
          exact q _ _ ⟨_, rfl, ⟨by rw [len_app]; omega, chr h.2 c4.2⟩, by rw [len_app]; omega⟩ (tt.trans t4)
end DL.K02
/-! text K02P16 -/
namespace DL.K02
open PySem DL
def pLK (l : Nat) (st : Store) (i : Nat) (rest : List DV) (R : PyData → Prop) : Prop := ∃ (r : DV) (ns : List Str) (deep : Nat), rest = [r, .d (.int (deep : Nat))] ∧ LsAt st i r (ns.map .str) ∧ ns.length ≤ 1000 ∧ 1 ≤ deep ∧ deep ≤ l ∧
  R = fun y => ∃ k : Kd, y = k.enc ∧ k.dep ≤ deep ∧ ∀ n ∈ k.names, n ∈ ns
theorem keeps_law_kind (l : Nat) : Keeps 5 (spS (pLK (l + 1))) (b_law_kind (spS (pLK l)) (spS pPk) (spS pDr)) := by
  rintro args st Q E ⟨i, rest, R, rfl, hs, ⟨r, ns, deep, rfl, hr, hn, hd1, hdl, rfl⟩, q⟩
  unfold b_law_kind
  refine seq_intro fun N hN => ?_
  have go : ∀ (b : Int) (st1 : Store), 0 ≤ b → b < 11 → (deep ≤ 1 → b < 5) → SpTo st i st1 → N [some (.loc i), some r, some (.d (.int (deep : Nat))), some (.d (.int b)), none] st1 := fun b st1 b0 b1 bd t => by
    have hs1 := t.spr hs
    have hr1 := hr.to t
    rw [hN]
    refine seq_intro fun N hN => ?_
    have rest2 : N [some (.loc i), some r, some (.d (.int (deep : Nat))), some (.d (.int b)), none] st1 := by
      rw [hN]
      refine seq_intro fun N hN => ?_
      by_cases h5 : b < 5
      · by_cases h4 : b = 4
        · subst h4
          push_cast [oLt_ii, decide_eq_true (show (4 : Int) < 5 by omega)]
          refine spS_go hs1 ⟨_, [.str "unit", .str "unit", .str "unit", .str "none"], rfl, .inr (.inl rfl), by decide, by decide, rfl⟩ ?_
          rintro y st2 hy t2
          have : ∃ k : Kd, PyData.tuple [y] = k.enc ∧ k.dep = 1 ∧ k.names = [] := by
            simp at hy
            rcases hy with rfl | rfl
            · exact ⟨.unit, rfl, rfl, rfl⟩
            · exact ⟨.non, rfl, rfl, rfl⟩
          obtain ⟨k, ek, dk, nk⟩ := this
          push_cast [DL.lit0]
          rw [ret_to (t.trans t2)]
          exact q _ _ ⟨k, ek, by omega, fun n h => by rw [nk] at h; simp at h⟩ (t.trans t2)
        · have e4 : (b == 4) = false := by simpa using h4
          push_cast [oLt_ii, decide_eq_true h5, e4]
          rw [ret_to t]
          exact q _ _ ⟨.thing, rfl, by simp only [Kd.dep]; omega, fun n h => by simp [Kd.names] at h⟩ t
      · have hdeep : 2 ≤ deep := by
          by_cases h : deep ≤ 1
          · exact absurd (bd h) h5
          · omega
        push_cast [oLt_ii, decide_eq_false h5]
        rw [hN]
        refine seq_intro fun N hN => ?_
        have ed : ((deep : Nat) : Int) - 1 = ((deep - 1 : Nat) : Int) := by omega
        push_cast [ed]
        refine spS_go hs1 ⟨r, ns, deep - 1, rfl, hr1, hn, by omega, by omega, rfl⟩ ?_
        rintro y st2 ⟨k1, rfl, d1, n1⟩ t2
        show N [some (.loc i), some r, some (.d (.int (deep : Nat))), some (.d (.int b)), some (.d k1.enc)] st2
        rw [hN]
        have hs2 := t2.spr hs1
        have hr2 := hr1.to t2
        by_cases h8 : b < 8
        · push_cast [oLt_ii, decide_eq_true h8, ed]
          refine spS_go hs2 ⟨r, ns, deep - 1, rfl, hr2, hn, by omega, by omega, rfl⟩ ?_
          rintro y st3 ⟨k2, rfl, d2, n2⟩ t3
          push_cast [DL.lit0]
          have tt := (t.trans t2).trans t3
          rw [ret_to tt]
          exact q _ _ ⟨.pair k1 k2, rfl, by simp only [Kd.dep]; omega, fun n h => (List.mem_append.mp h).elim (n1 n) (n2 n)⟩ tt
        · push_cast [oLt_ii, decide_eq_false h8, ed]
          refine spS_go hs2 ⟨r, ns, deep - 1, rfl, hr2, hn, by omega, by omega, rfl⟩ ?_
          rintro y st3 ⟨k2, rfl, d2, n2⟩ t3
          push_cast [DL.lit0]
          have tt := (t.trans t2).trans t3
          rw [ret_to tt]
          exact q _ _ ⟨.either k1 k2, rfl, by simp only [Kd.dep]; omega, fun n h => (List.mem_append.mp h).elim (n1 n) (n2 n)⟩ tt
    have hlen : oLen (.list (ns.map .str)) = some (.int (ns.length : Nat)) := by
      show some (PyData.int ((ns.map PyData.str).length : Nat)) = _
      rw [List.length_map]
    by_cases h2 : b < 2
    · by_cases h0 : 0 < ns.length
      · push_cast [oLt_ii, decide_eq_true h2, hr1.rdS, hlen, oGt_ii, decide_eq_true (show (0 : Int) < ((ns.length : Nat) : Int) by omega)]
        refine spS_go hs1 ⟨r, ns.map .str, rfl, .inl hr1, by intro z; rw [List.map_eq_nil_iff] at z; rw [z] at h0; simp at h0, by rw [List.length_map]; omega, rfl⟩ ?_
        rintro y st2 hy t2
        obtain ⟨m, hm, rfl⟩ := List.mem_map.mp hy
        push_cast [DL.lit0]
        rw [ret_to (t.trans t2)]
        exact q _ _ ⟨.name m, rfl, by simp only [Kd.dep]; omega, fun n h => by simp [Kd.names] at h; subst h; exact hm⟩ (t.trans t2)
      · push_cast [oLt_ii, decide_eq_true h2, hr1.rdS, hlen, oGt_ii, decide_eq_false (show ¬ (0 : Int) < ((ns.length : Nat) : Int) by omega)]
        exact rest2
    · push_cast [oLt_ii, decide_eq_false h2]
      exact rest2
  by_cases hd : 1 < deep
  · push_cast [oGt_ii, decide_eq_true (show (1 : Int) < ((deep : Nat) : Int) by omega)]
    refine spS_go hs ⟨11, rfl, by omega, by omega, rfl⟩ ?_
    rintro y st1 ⟨b, rfl, b0, b1⟩ t
    exact go b st1 b0 b1 (fun h => by omega) t
  · push_cast [oGt_ii, decide_eq_false (show ¬ (1 : Int) < ((deep : Nat) : Int) by omega)]
    refine spS_go hs ⟨5, rfl, by omega, by omega, rfl⟩ ?_
    rintro y st1 ⟨b, rfl, b0, b1⟩ t
    exact go b st1 b0 (by omega) (fun h => by omega) t
/-! ### kinds of a size -/
theorem kd_wt : ∀ {k : Kd}, (∀ n ∈ k.names, okS 164 n) → okD 0 k.enc ∧ wt k.enc ≤ 900 * k.parts + 800
  | .thing, _ => ⟨okDb_ok _ (by decide), by decide⟩
  | .non, _ => ⟨okDb_ok _ (by decide), by decide⟩
  | .unit, _ => ⟨okDb_ok _ (by decide), by decide⟩
  | .name m, h => by
    have hm := h m (by simp [Kd.names])
    have h1 := hm.1
    have h4 : ("name" : Str).length = 4 := rfl
    refine ⟨⟨okDb_ok (.str "name") (by decide), ⟨by omega, hm.2⟩, trivial⟩, ?_⟩
    simp only [Kd.enc, wt, wtA, Kd.parts, h4]
    omega
  | .pair a b, h => by
    obtain ⟨a1, a2⟩ := kd_wt (k := a) fun n hn => h n (List.mem_append_left _ hn)
    obtain ⟨b1, b2⟩ := kd_wt (k := b) fun n hn => h n (List.mem_append_right _ hn)
    have h4 : ("pair" : Str).length = 4 := rfl
    refine ⟨⟨okDb_ok (.str "pair") (by decide), a1, b1, trivial⟩, ?_⟩
    simp only [Kd.enc, wt, wtA, Kd.parts, h4]
    omega
  | .either a b, h => by
    obtain ⟨a1, a2⟩ := kd_wt (k := a) fun n hn => h n (List.mem_append_left _ hn)
    obtain ⟨b1, b2⟩ := kd_wt (k := b) fun n hn => h n (List.mem_append_right _ hn)
    have h4 : ("either" : Str).length = 6 := rfl
    refine ⟨⟨okDb_ok (.str "either") (by decide), a1, b1, trivial⟩, ?_⟩
    simp only [Kd.enc, wt, wtA, Kd.parts, h4]
    omega
structure Gk (k : Kd) : Prop where
  dep : k.dep ≤ 92
  parts : k.parts ≤ 2003
  names : ∃ S : List Str, S.length < 64 ∧ (∀ n ∈ k.names, n ∈ S) ∧ ∀ n ∈ S, okS 164 n
theorem Gk.ok {k : Kd} (h : Gk k) : Ok 0 92 1900000 k.enc := by
  obtain ⟨S, _, h1, h2⟩ := h.names
  obtain ⟨a, b⟩ := kd_wt (k := k) fun n hn => h2 n (h1 n hn)
  have := h.parts
  exact ⟨a, by rw [Kd.enc_depth]; exact h.dep, by omega⟩
theorem dep_parts : ∀ k : Kd, k.parts + 1 ≤ 2 ^ k.dep
  | .thing | .non | .unit | .name _ => by simp [Kd.parts, Kd.dep]
  | .pair a b => by
    have ha := dep_parts a
    have hb := dep_parts b
    have h1 : 2 ^ a.dep ≤ 2 ^ (max a.dep b.dep) := Nat.pow_le_pow_right (by omega) (by omega)
    have h2 : 2 ^ b.dep ≤ 2 ^ (max a.dep b.dep) := Nat.pow_le_pow_right (by omega) (by omega)
    simp only [Kd.parts, Kd.dep, Nat.pow_succ]
    omega
  | .either a b => by
    have ha := dep_parts a
    have hb := dep_parts b
    have h1 : 2 ^ a.dep ≤ 2 ^ (max a.dep b.dep) := Nat.pow_le_pow_right (by omega) (by omega)
    have h2 : 2 ^ b.dep ≤ 2 ^ (max a.dep b.dep) := Nat.pow_le_pow_right (by omega) (by omega)
    simp only [Kd.parts, Kd.dep, Nat.pow_succ]
    omega
theorem gk_small {k : Kd} {n : Nat} {S : List Str} (hd : k.dep ≤ n) (hn : n ≤ 6) (hS : S.length < 64) (h1 : ∀ n ∈ k.names, n ∈ S) (h2 : ∀ n ∈ S, okS 164 n) : Gk k := by
  refine ⟨by omega, ?_, S, hS, h1, h2⟩
  have := dep_parts k
  have h3 : 2 ^ k.dep ≤ 2 ^ 6 := Nat.pow_le_pow_right (by omega) (by omega)
  have h4 : (2 : Nat) ^ 6 = 64 := rfl
  omega
end DL.K02
/-! text K02P17 -/
namespace DL.K02
open PySem DL
def pGk (st : Store) (i : Nat) (rest : List DV) (R : PyData → Prop) : Prop := rest = [] ∧ R = fun y => ∃ k : Kd, y = k.enc ∧ Gk k
theorem tw_loop {st : Store} {i : Nat} {D : DL.Fin} {S : List Str} {p : Kd} {w : Str} (hw : w = "pair" ∨ w = "either") (hpd : p.dep ≤ 2) (hpp : p.parts ≤ 3) (hpn : ∀ n ∈ p.names, n ∈ S) : ∀ (xs : List Int) (k : Kd) (v4 : Option DV), (∀ n ∈ k.names, n ∈ S) → 2 ≤ k.dep + 1 →
    (∀ (k' : Kd) v4, (∀ n ∈ k'.names, n ∈ S) → k'.dep ≤ max k.dep 2 + xs.length → k'.parts ≤ k.parts + 4 * xs.length → D.nx [some (.loc i), some (.d k'.enc), some (.d p.enc), some (.d (.str w)), v4] st) →
    forGo (gN 4) (wAsg (wIfE (wT (wBin oGt (wBin oMod (wOpN (on1 oInt) (wCons (wVar 4) wNil)) (wC (.int 3))) (wC (.int 0)))) (wTup (wCons (wVar 3) (wCons (wVar 1) (wCons (wVar 2) wNil)))) (wTup (wCons (wVar 3) (wCons (wVar 2) (wCons (wVar 1) wNil))))) (gN 1)) D (xs.map fun j => .d (.int j)) [some (.loc i), some (.d k.enc), some (.d p.enc), some (.d (.str w)), v4] st
  | [], k, v4, hk, hk2, q => q k v4 hk (by simp; omega) (by simp)
  | x :: xs, k, v4, hk, hk2, q => by
    have key : ∀ k' : Kd, (∀ n ∈ k'.names, n ∈ S) → k'.dep ≤ max k.dep 2 + 1 → k'.parts ≤ k.parts + 4 → forGo (gN 4) (wAsg (wIfE (wT (wBin oGt (wBin oMod (wOpN (on1 oInt) (wCons (wVar 4) wNil)) (wC (.int 3))) (wC (.int 0)))) (wTup (wCons (wVar 3) (wCons (wVar 1) (wCons (wVar 2) wNil)))) (wTup (wCons (wVar 3) (wCons (wVar 2) (wCons (wVar 1) wNil))))) (gN 1)) D (xs.map fun j => .d (.int j)) [some (.loc i), some (.d k'.enc), some (.d p.enc), some (.d (.str w)), some (.d (.int x))] st := fun k' h1 h2 h3 =>
      tw_loop hw hpd hpp hpn xs k' _ h1 (by have := Kd.dep_pos k'; omega) fun k2 v4 a b c => q k2 v4 a (by simp only [List.length_cons]; omega) (by simp only [List.length_cons]; omega)
    have hm : oMod (.int x) (.int 3) = some (.int (x % 3)) := oMod_p (by omega)
    push_cast [List.map_cons, forGo, oInt_i, hm, oGt_ii]
    have hn1 : ∀ n, n ∈ k.names ++ p.names → n ∈ S := fun n h => (List.mem_append.mp h).elim (hk n) (hpn n)
    have hn2 : ∀ n, n ∈ p.names ++ k.names → n ∈ S := fun n h => (List.mem_append.mp h).elim (hpn n) (hk n)
    cases decide (0 < x % 3) with
    | true =>
      push_cast [DL.lit0]
      rcases hw with rfl | rfl
      · exact key (.pair k p) hn1 (by simp only [Kd.dep]; omega) (by simp only [Kd.parts]; omega)
      · exact key (.either k p) hn1 (by simp only [Kd.dep]; omega) (by simp only [Kd.parts]; omega)
    | false =>
      push_cast [DL.lit0]
      rcases hw with rfl | rfl
      · exact key (.pair p k) hn2 (by simp only [Kd.dep]; omega) (by simp only [Kd.parts]; omega)
      · exact key (.either p k) hn2 (by simp only [Kd.dep]; omega) (by simp only [Kd.parts]; omega)
theorem keeps_law_tower : Keeps 5 (spS pGk) (b_law_tower (spS pPk) (spS (pLK 6)) (spS pLn)) := by
  rintro args st Q E ⟨i, rest, R, rfl, hs, ⟨rfl, rfl⟩, q⟩
  unfold b_law_tower
  refine seq_intro fun N hN => ?_
  unfold wPar
  try push_cast [DL.lit0]
  refine spS_go hs ⟨rfl, rfl⟩ ?_
  rintro y st1 ⟨s, rfl, h⟩ t1
  try push_cast [DL.lit0]
  refine spS_go (t1.spr hs) ⟨_, [s], 1, rfl, .inl rfl, by simp, by omega, by omega, rfl⟩ ?_
  rintro y st2 ⟨k, rfl, kd, kn⟩ t2
  have t12 := t1.trans t2
  try push_cast [DL.lit0]
  refine spS_go (t12.spr hs) ⟨_, ["Row", "A'"], 2, rfl, .inl rfl, by simp, by omega, by omega, rfl⟩ ?_
  rintro y st3 ⟨p, rfl, pd, pn⟩ t3
  have t13 := t12.trans t3
  show N [some (.loc i), some (.d k.enc), some (.d p.enc), none, none] st3
  rw [hN]
  refine seq_intro fun N hN => ?_
  try push_cast [DL.lit0]
  refine spS_go (t13.spr hs) ⟨_, [.str "pair", .str "either"], rfl, .inr (.inl rfl), by decide, by decide, rfl⟩ ?_
  rintro y st4 hy t4
  have : ∃ w : Str, y = .str w ∧ (w = "pair" ∨ w = "either") := by
    simp at hy
    rcases hy with rfl | rfl
    · exact ⟨"pair", rfl, .inl rfl⟩
    · exact ⟨"either", rfl, .inr rfl⟩
  obtain ⟨w, rfl, hw⟩ := this
  have t14 := t13.trans t4
  show N [some (.loc i), some (.d k.enc), some (.d p.enc), some (.d (.str w)), none] st4
  rw [hN]
  refine seq_intro fun N hN => ?_
  unfold wFor iRng1D
  try push_cast [DL.lit0]
  refine spS_go (t14.spr hs) ⟨_, [.int 27, .int 28, .int 29, .int 30, .int 89], rfl, .inr (.inl rfl), by decide, by decide, rfl⟩ ?_
  rintro y st5 hy t5
  have : ∃ n : Nat, y = .int (n : Nat) ∧ n ≤ 89 := by
    simp at hy
    rcases hy with rfl | rfl | rfl | rfl | rfl
    · exact ⟨27, rfl, by omega⟩
    · exact ⟨28, rfl, by omega⟩
    · exact ⟨29, rfl, by omega⟩
    · exact ⟨30, rfl, by omega⟩
    · exact ⟨89, rfl, by omega⟩
  obtain ⟨n, rfl, hn⟩ := this
  have t15 := t14.trans t5
  simp only [rd_d, optK_some, asI, Int.toNat_natCast]
  refine ⟨⟨by omega, by omega⟩, lim_of (by omega), ?_⟩
  have er : rngL 0 n = ((List.range n).map fun (j : Nat) => (0 : Int) + (j : Int)).map fun j => DV.d (.int j) := by
    unfold rngL
    rw [List.map_map]
    rfl
  rw [er]
  have kp := dep_parts k
  have pp := dep_parts p
  have p1' : 2 ^ k.dep ≤ 2 ^ 1 := Nat.pow_le_pow_right (by omega) (by omega)
  have p2' : 2 ^ p.dep ≤ 2 ^ 2 := Nat.pow_le_pow_right (by omega) (by omega)
  refine tw_loop (S := [s, "Row", "A'"]) hw (by omega) (by omega) (fun n h => ?_) _ k none (fun n h => ?_) (by have := Kd.dep_pos k; omega) fun k' v4 a b c => ?_
  · have := pn n h
    simp at this
    simp [this]
  · have := kn n h
    simp at this
    simp [this]
  · rw [List.length_map, List.length_range] at b c
    show N _ _
    rw [hN]
    push_cast [DL.lit0]
    rw [ret_to t15]
    refine q _ _ ⟨k', rfl, by omega, by omega, [s, "Row", "A'"], by simp, a, fun n hn => ?_⟩ t15
    simp at hn
    rcases hn with rfl | rfl | rfl
    · exact h
    · exact okS_lit (by decide)
    · exact okS_lit (by decide)
/-! ### wide kinds -/
def pSp (l : Nat) (xs : List PyData) : Prop := ∃ (ks : List Kd) (m : Nat), xs = [.list (ks.map Kd.enc), .int (m : Nat)] ∧ ks ≠ [] ∧ ks.length ≤ 10 ∧ 1 ≤ m ∧ 1 ≤ l ∧ m ≤ 2 ^ (l - 1) ∧ ∀ k ∈ ks, k.dep = 1 ∧ k.parts = 1
def rSp (l : Nat) (xs : List PyData) (y : PyData) : Prop := ∀ (ks : List Kd) (m : Nat), xs = [.list (ks.map Kd.enc), .int (m : Nat)] → ∃ k : Kd, y = k.enc ∧ k.dep ≤ l + 1 ∧ k.parts + 1 ≤ 2 * m ∧ ∀ n ∈ k.names, ∃ x ∈ ks, n ∈ x.names
theorem map_enc_inj : ∀ {ks js : List Kd}, ks.map Kd.enc = js.map Kd.enc → ks = js
  | [], [], _ => rfl
  | [], j :: js, h => by simp at h
  | k :: ks, [], h => by simp at h
  | k :: ks, j :: js, h => by
    simp only [List.map_cons, List.cons.injEq] at h
    rw [enc_inj h.1, map_enc_inj h.2]
theorem sp_args {ks js : List Kd} {m n : Nat} (h : [PyData.list (ks.map Kd.enc), .int (m : Nat)] = [.list (js.map Kd.enc), .int (n : Nat)]) : ks = js ∧ m = n := by
  simp only [List.cons.injEq, PyData.list.injEq, PyData.int.injEq] at h
  exact ⟨map_enc_inj h.1, by omega⟩
theorem keeps_law_spread (l : Nat) : Keeps 3 (spR (pSp (l + 1)) (rSp (l + 1))) (b_law_spread (spR (pSp l) (rSp l))) := by
  rintro args st Q E ⟨xs, rfl, ⟨ks, m, rfl, h0, h10, hm1, _, hm2', hks⟩, q⟩
  have hm2 : m ≤ 2 ^ l := hm2'
  match ks, h0, h10, hks, q with
  | k :: ks, _, h10, hks, q =>
    unfold b_law_spread
    refine seq_intro fun N hN => ?_
    by_cases h1 : m = 1
    · subst h1
      have e1 : (((1 : Nat) : Int) == 1) = true := rfl
      push_cast [e1, ixl0]
      refine q _ fun js n e => ?_
      obtain ⟨rfl, rfl⟩ := sp_args e
      have := hks k (List.mem_cons_self ..)
      exact ⟨k, rfl, by omega, by omega, fun n hn => ⟨k, List.mem_cons_self .., hn⟩⟩
    · have e1 : (((m : Nat) : Int) == 1) = false := by
        have : ((m : Nat) : Int) ≠ 1 := by omega
        simpa using this
      push_cast [e1]
      rw [hN]
      refine seq_intro fun N hN => ?_
      have s1 := sl_tail k.enc (ks.map Kd.enc)
      have s2 : oSl (.list (k.enc :: ks.map Kd.enc)) none (some 1) = some (.list [k.enc]) := by
        show some (PyData.list (cutG (k.enc :: ks.map Kd.enc) none (some 1))) = _
        have : cutG (k.enc :: ks.map Kd.enc) none (some 1) = [k.enc] := by
          unfold cutG
          rw [HT.sIx_none, show HT.sIx (k.enc :: ks.map Kd.enc).length (k.enc :: ks.map Kd.enc).length (some 1) = min 1 (k.enc :: ks.map Kd.enc).length from HT.sIx_nat _ _ 1]
          simp only [List.length_cons]
          rw [show min 1 ((ks.map Kd.enc).length + 1) = 1 by omega]
          rfl
        rw [this]
      have hl : (ks.map Kd.enc).length = ks.length := List.length_map ..
      simp only [List.length_cons] at h10
      have s3 : oAdd (.list (ks.map Kd.enc)) (.list [k.enc]) = some (.list ((ks ++ [k]).map Kd.enc)) := by
        rw [List.map_append]
        exact oAdd_ll (by simp; omega)
      have s4 : oDiv (.int (m : Nat)) (.int 2) = some (.int ((m / 2 : Nat) : Int)) := by
        rw [oDiv_p ⟨by omega, by omega⟩]
        congr 2
      push_cast [wSl, wOS, wON, asI, s1, s2, s3, s4]
      have hl1 : 1 ≤ l := by
        cases l with
        | zero => simp at hm2; omega
        | succ l => omega
      have hp : (2 : Nat) ^ l = 2 * 2 ^ (l - 1) := by
        obtain ⟨j, rfl⟩ : ∃ j, l = j + 1 := ⟨l - 1, by omega⟩
        rw [Nat.pow_succ, Nat.add_sub_cancel]; omega
      refine spR_go (xs := [.list ((ks ++ [k]).map Kd.enc), .int ((m / 2 : Nat) : Int)]) ⟨ks ++ [k], m / 2, rfl, by simp, by simp; omega, by omega, hl1, by omega, fun x hx => hks x (by
        rcases List.mem_append.mp hx with hx | hx
        · exact List.mem_cons_of_mem _ hx
        · simp at hx; subst hx; exact List.mem_cons_self ..)⟩ fun y hy => ?_
      obtain ⟨a, rfl, da, pa, na⟩ := hy _ _ rfl
      show N [some (.d (.list ((k :: ks).map Kd.enc))), some (.d (.int (m : Nat))), some (.d a.enc)] st
      rw [hN]
      have hmod : oMod (.int (m : Nat)) (.int 3) = some (.int (((m : Nat) : Int) % 3)) := oMod_p (by omega)
      have e2 : ((m : Nat) : Int) - ((m / 2 : Nat) : Int) = ((m - m / 2 : Nat) : Int) := by omega
      have fin : ∀ b : Kd, b.dep ≤ l + 1 → b.parts + 1 ≤ 2 * (m - m / 2) → (∀ n ∈ b.names, ∃ x ∈ k :: ks, n ∈ x.names) → ∀ w : Kd, (w = .pair a b ∨ w = .either a b) → rSp (l + 1) [.list ((k :: ks).map Kd.enc), .int (m : Nat)] w.enc := fun b db pb nb w hw js n e => by
        obtain ⟨rfl, rfl⟩ := sp_args e
        have nn : ∀ z, z ∈ a.names ++ b.names → ∃ x ∈ k :: ks, z ∈ x.names := fun z hz => by
          rcases List.mem_append.mp hz with hz | hz
          · obtain ⟨x, hx, h⟩ := na z hz
            refine ⟨x, ?_, h⟩
            rcases List.mem_append.mp hx with hx | hx
            · exact List.mem_cons_of_mem _ hx
            · simp at hx; subst hx; exact List.mem_cons_self ..
          · exact nb z hz
        rcases hw with rfl | rfl
        · exact ⟨_, rfl, by simp only [Kd.dep]; omega, by simp only [Kd.parts]; omega, nn⟩
        · exact ⟨_, rfl, by simp only [Kd.dep]; omega, by simp only [Kd.parts]; omega, nn⟩
      push_cast [oInt_i, hmod, oGt_ii]
      cases decide (0 < ((m : Nat) : Int) % 3) with
      | true =>
        push_cast [s4, e2]
        refine spR_go (xs := [.list ((k :: ks).map Kd.enc), .int ((m - m / 2 : Nat) : Int)]) ⟨k :: ks, m - m / 2, rfl, by simp, by simp; omega, by omega, hl1, by omega, hks⟩ fun y hy => ?_
        obtain ⟨b, rfl, db, pb, nb⟩ := hy _ _ rfl
        push_cast [DL.lit0]
        exact q _ (fin b db pb nb (.pair a b) (.inl rfl))
      | false =>
        push_cast [s4, e2]
        refine spR_go (xs := [.list ((k :: ks).map Kd.enc), .int ((m - m / 2 : Nat) : Int)]) ⟨k :: ks, m - m / 2, rfl, by simp, by simp; omega, by omega, hl1, by omega, hks⟩ fun y hy => ?_
        obtain ⟨b, rfl, db, pb, nb⟩ := hy _ _ rfl
        push_cast [DL.lit0]
        exact q _ (fin b db pb nb (.either a b) (.inr rfl))
end DL.K02
/-! text K02P18 -/
namespace DL.K02
open PySem DL
theorem keeps_law_wide : Keeps 2 (spS pGk) (b_law_wide (spR (pSp 11) (rSp 11)) (spS pPk) (spS (pLK 6)) (spS pLn)) := by
  rintro args st Q E ⟨i, rest, R, rfl, hs, ⟨rfl, rfl⟩, q⟩
  unfold b_law_wide
  refine seq_intro fun N hN => ?_
  push_cast [DL.lit0]
  refine spS_go hs ⟨rfl, rfl⟩ ?_
  rintro y st1 ⟨s, rfl, h⟩ t1
  try push_cast [DL.lit0]
  refine spS_go (t1.spr hs) ⟨_, ["X"], 1, rfl, .inl rfl, by simp, by omega, by omega, rfl⟩ ?_
  rintro y st2 ⟨k, rfl, kd, kn⟩ t2
  have t12 := t1.trans t2
  try push_cast [DL.lit0]
  show N [some (.loc i), some (.d (.list [(Kd.name s).enc, k.enc, Kd.unit.enc]))] st2
  rw [hN]
  push_cast [DL.lit0]
  refine spS_go (t12.spr hs) ⟨_, [.int 500, .int 999, .int 1000, .int 1001, .int 1002], rfl, .inr (.inl rfl), by decide, by decide, rfl⟩ ?_
  rintro y st3 hy t3
  have : ∃ n : Nat, y = .int (n : Nat) ∧ n ≤ 1002 ∧ 1 ≤ n := by
    simp at hy
    rcases hy with rfl | rfl | rfl | rfl | rfl
    · exact ⟨500, rfl, by omega, by omega⟩
    · exact ⟨999, rfl, by omega, by omega⟩
    · exact ⟨1000, rfl, by omega, by omega⟩
    · exact ⟨1001, rfl, by omega, by omega⟩
    · exact ⟨1002, rfl, by omega, by omega⟩
  obtain ⟨n, rfl, hn, hn1⟩ := this
  have t13 := t12.trans t3
  have hp : (2 : Nat) ^ 10 = 1024 := rfl
  have kdp := Kd.dep_pos k
  have kpp := Kd.parts_pos k
  have kp := dep_parts k
  have p1' : 2 ^ k.dep ≤ 2 ^ 1 := Nat.pow_le_pow_right (by omega) (by omega)
  refine spR_go (xs := [.list ([Kd.name s, k, .unit].map Kd.enc), .int ((n : Nat) : Int)]) ⟨[Kd.name s, k, .unit], n, rfl, by simp, by simp, hn1, by omega, (show n ≤ 2 ^ 10 by omega), fun x hx => ?_⟩ fun y hy => ?_
  · simp at hx
    rcases hx with rfl | rfl | rfl
    · exact ⟨rfl, rfl⟩
    · exact ⟨by omega, by omega⟩
    · exact ⟨rfl, rfl⟩
  obtain ⟨w, rfl, wd, wp, wn⟩ := hy _ _ rfl
  rw [ret_to t13]
  refine q _ _ ⟨w, rfl, by omega, by omega, [s, "X"], by simp, fun z hz => ?_, fun z hz => ?_⟩ t13
  · obtain ⟨x, hx, hz⟩ := wn z hz
    simp at hx
    rcases hx with rfl | rfl | rfl
    · simp [Kd.names] at hz; simp [hz]
    · have := kn z hz; simp at this; simp [this]
    · simp [Kd.names] at hz
  · simp at hz
    rcases hz with rfl | rfl
    · exact h
    · exact okS_lit (by decide)
/-! ### a thing bent -/
theorem okD_mono {B B' : Nat} {d : PyData} (h : okD B d) (hb : B ≤ B') : okD B' d := (Ok.mono (D := d.depth) (W := wt d) ⟨h, Nat.le_refl _, Nat.le_refl _⟩ hb (Nat.le_refl _) (Nat.le_refl _)).ok
def Bn (B : Nat) (d y : PyData) : Prop := okD (B + 1) y ∧ y.depth ≤ d.depth + 5 ∧ wt y ≤ 2 * wt d + 310
def pBn (st : Store) (i : Nat) (rest : List DV) (R : PyData → Prop) : Prop := ∃ (d : PyData) (B : Nat), rest = [.d d] ∧ okD B d ∧ B ≤ 900 ∧ wt d ≤ 10000000 ∧ R = fun y => Bn B d y
theorem wtA_len : ∀ xs : List PyData, 4 * xs.length ≤ wtA xs
  | [] => by simp [wtA]
  | x :: xs => by
    have := wtA_len xs
    have h2 : 2 ≤ wt x := by cases x <;> simp [wt] <;> omega
    rw [wtA, List.length_cons]
    omega
theorem wt_pos (d : PyData) : 2 ≤ wt d := by cases d <;> simp [wt] <;> omega
theorem Bn_odd {B : Nat} {d y : PyData} (h : Ok 0 4 300 y) : Bn B d y := ⟨okD_mono h.ok (by omega), by have := h.dp; omega, by have := h.w; omega⟩
theorem wtA_rev (xs : List PyData) : wtA xs.reverse = wtA xs := by
  induction xs with
  | nil => rfl
  | cons x xs ih => rw [List.reverse_cons, wtA_app, ih, wtA, wtA, wtA]; omega
theorem wtA_take (n : Nat) (xs : List PyData) : wtA (xs.take n) + wtA (xs.drop n) = wtA xs := by
  rw [← wtA_app, List.take_append_drop]
theorem Bn_tup {B : Nat} {xs ys : List PyData} (h : okD B (.tuple xs)) (hy : ∀ y ∈ ys, y ∈ xs ∨ Ok 0 4 300 y) (hw : wtA ys ≤ 2 * wtA xs + 302) : Bn B (.tuple xs) (.tuple ys) := by
  refine ⟨okA_mem.mpr fun y hy' => ?_, ?_, ?_⟩
  · rcases hy y hy' with h1 | h1
    · exact okD_mono (okA_mem.mp h y h1) (by omega)
    · exact okD_mono h1.ok (by omega)
  · have : PyData.depthAll ys ≤ PyData.depthAll xs + 4 := depthAll_le.mpr fun y hy' => by
      rcases hy y hy' with h1 | h1
      · have := depthAll_le.mp (Nat.le_refl (PyData.depthAll xs)) y h1
        omega
      · have := h1.dp
        omega
    simp only [PyData.depth]
    omega
  · simp only [wt]
    omega
end DL.K02
/-! text K02P19 -/
namespace DL.K02
open PySem DL
theorem sl_take (xs : List PyData) (n : Nat) : oSl (.tuple xs) none (some ((n : Nat) : Int)) = some (.tuple (xs.take n)) := by
  show some (PyData.tuple (cutG xs none (some ((n : Nat) : Int)))) = _
  have : cutG xs none (some ((n : Nat) : Int)) = xs.take n := by
    unfold cutG
    rw [HT.sIx_none, show HT.sIx xs.length xs.length (some ((n : Nat) : Int)) = min n xs.length from HT.sIx_nat _ _ n, List.drop_zero, Nat.sub_zero]
    by_cases h : n ≤ xs.length
    · rw [Nat.min_eq_left h]
    · rw [Nat.min_eq_right (by omega), List.take_length, List.take_of_length_le (by omega)]
  rw [this]
theorem sl_drop (xs : List PyData) (n : Nat) : oSl (.tuple xs) (some ((n : Nat) : Int)) none = some (.tuple (xs.drop n)) := by
  show some (PyData.tuple (cutG xs (some ((n : Nat) : Int)) none)) = _
  have : cutG xs (some ((n : Nat) : Int)) none = xs.drop n := by
    unfold cutG
    rw [HT.sIx_none, show HT.sIx xs.length 0 (some ((n : Nat) : Int)) = min n xs.length from HT.sIx_nat _ _ n]
    by_cases h : n ≤ xs.length
    · rw [Nat.min_eq_left h]
      exact List.take_of_length_le (by rw [List.length_drop]; exact Nat.le_refl _)
    · rw [Nat.min_eq_right (by omega), List.drop_of_length_le (Nat.le_refl _), List.drop_of_length_le (by omega)]
      simp
  rw [this]
theorem keeps_law_bent : Keeps 4 (spS pBn) (b_law_bent (spS pOd) (spS pDr) (spS pPk)) := by
  rintro args st Q E ⟨i, rest, R, rfl, hs, ⟨d, B, rfl, ho, hB, hW, rfl⟩, q⟩
  unfold b_law_bent
  refine seq_intro fun N hN => ?_
  push_cast [DL.lit0]
  refine spS_go hs ⟨9, rfl, by omega, by omega, rfl⟩ ?_
  rintro y st1 ⟨w, rfl, w0, w1⟩ t1
  have hs1 := t1.spr hs
  show N [some (.loc i), some (.d d), some (.d (.int w)), none] st1
  rw [hN]
  refine seq_intro fun N hN => ?_
  by_cases h1 : w < 2 ∧ ∃ j, d = .int j
  · obtain ⟨hw, j, rfl⟩ := h1
    have hm : oMul (.int 2) (.int w) = some (.int (2 * w)) := oMul_l (small_of (by omega) (by omega))
    push_cast [oLt_ii, decide_eq_true hw, show oIs "int" (.int j) = some (.bool true) from rfl, show oIs "bool" (.int j) = some (.bool false) from rfl, hm]
    rw [ret_to t1]
    refine q _ _ ⟨?_, by simp only [PyData.depth]; omega, by simp only [wt]; omega⟩ t1
    have hj : j.natAbs ≤ 10 ^ 30 + B := ho
    show (j + 2 * w - 1).natAbs ≤ 10 ^ 30 + (B + 1)
    omega
  have c1 : ∃ b : Bool, Tv (wAnd (wT (wBin oLt (wVar 2) (wC (.int 2)))) (wAnd (wT (wUn (oIs "int") (wVar 1))) (wNot (wT (wUn (oIs "bool") (wVar 1)))))) [some (.loc i), some (.d d), some (.d (.int w)), none] st1 b ∧ b = false := by
    refine ⟨false, fun Q' q' => ?_, rfl⟩
    push_cast [oLt_ii]
    by_cases hw : w < 2
    · rw [decide_eq_true hw]
      simp only [if_true]
      cases d with
      | int j => exact absurd ⟨hw, j, rfl⟩ h1
      | _ => exact q'
    · rw [decide_eq_false hw]
      exact q'
  obtain ⟨b1, c1, rfl⟩ := c1
  refine if_f c1 rfl ?_
  show N [some (.loc i), some (.d d), some (.d (.int w)), none] st1
  rw [hN]
  refine seq_intro fun N hN => ?_
  by_cases h2 : w < 6 ∧ ∃ s, d = .str s
  · obtain ⟨hw, s, rfl⟩ := h2
    have hs' : s.length ≤ 200 + B ∧ ∀ c ∈ s.cps.toList, c < 200 := ho
    have l1 : ("'" : Str).length = 1 := rfl
    have ha : oAdd (.str s) (.str "'") = some (.str (s ++ ("'" : Str))) := oAdd_ss (lim_of (by omega))
    push_cast [oLt_ii, decide_eq_true hw, show oIs "str" (.str s) = some (.bool true) from rfl, ha]
    refine spS_go hs1 ⟨_, [.str "pair", .str "either", .str "thing", .str "none", .str "name", .str "left", .str "right", .str "Row", .str (s ++ ("'" : Str))], rfl, .inr (.inl rfl), by simp, by simp, rfl⟩ ?_
    rintro y st2 hy t2
    have lit : ∀ z : PyData, chk z = true → Bn B (.str s) z := fun z hz => Bn_odd (chk_ok hz)
    have hyy : Bn B (.str s) y := by
      simp only [List.mem_cons, List.not_mem_nil, or_false] at hy
      rcases hy with rfl | rfl | rfl | rfl | rfl | rfl | rfl | rfl | rfl
      · exact lit _ (by decide)
      · exact lit _ (by decide)
      · exact lit _ (by decide)
      · exact lit _ (by decide)
      · exact lit _ (by decide)
      · exact lit _ (by decide)
      · exact lit _ (by decide)
      · exact lit _ (by decide)
      · refine ⟨⟨by rw [str_len_append, l1]; omega, fun c hc => ?_⟩, by simp only [PyData.depth]; omega, by simp only [wt]; rw [str_len_append, l1]; omega⟩
        rw [str_app] at hc
        rcases List.mem_append.mp hc with hc | hc
        · exact hs'.2 c hc
        · have : c = 39 := by simpa using (show c ∈ [39] from hc)
          omega
    rw [ret_to (t1.trans t2)]
    exact q _ _ hyy (t1.trans t2)
  have c2 : ∃ b : Bool, Tv (wAnd (wT (wBin oLt (wVar 2) (wC (.int 6)))) (wT (wUn (oIs "str") (wVar 1)))) [some (.loc i), some (.d d), some (.d (.int w)), none] st1 b ∧ b = false := by
    refine ⟨false, fun Q' q' => ?_, rfl⟩
    push_cast [oLt_ii]
    by_cases hw : w < 6
    · rw [decide_eq_true hw]
      simp only [if_true]
      cases d with
      | str j => exact absurd ⟨hw, j, rfl⟩ h2
      | _ => exact q'
    · rw [decide_eq_false hw]
      exact q'
  obtain ⟨b2, c2, rfl⟩ := c2
  refine if_f c2 rfl ?_
  show N [some (.loc i), some (.d d), some (.d (.int w)), none] st1
  rw [hN]
  refine seq_intro fun N hN => ?_
  by_cases h3 : w < 4 ∨ ∀ xs, d = .tuple xs → xs = []
  · have c3 : Tv (wOr (wT (wBin oLt (wVar 2) (wC (.int 4)))) (wOr (wNot (wT (wUn (oIs "tuple") (wVar 1)))) (wT (wBin oEq (wUnS oLen (wVar 1)) (wC (.int 0)))))) [some (.loc i), some (.d d), some (.d (.int w)), none] st1 true := fun Q' q' => by
      push_cast [oLt_ii]
      by_cases hw : w < 4
      · rw [decide_eq_true hw]
        exact q'
      · rw [decide_eq_false hw]
        rcases is_tup d with ⟨xs, rfl⟩ | ⟨ht, _⟩
        · have hx := (h3.resolve_left hw) xs rfl
          subst hx
          exact q'
        · push_cast [ht]
          exact q'
    refine if_t c3 rfl ?_
    push_cast [DL.lit0]
    refine spS_go hs1 ⟨rfl, rfl⟩ ?_
    rintro y st2 hy t2
    rw [ret_to (t1.trans t2)]
    exact q _ _ (Bn_odd hy) (t1.trans t2)
  have hx : ∃ xs, d = .tuple xs ∧ xs ≠ [] := by
    rcases is_tup d with ⟨xs, rfl⟩ | ⟨_, hne⟩
    · refine ⟨xs, rfl, fun e => h3 (.inr fun ys h => ?_)⟩
      cases h
      exact e
    · exact absurd (.inr fun xs e => absurd e (hne xs)) h3
  obtain ⟨xs, rfl, hne⟩ := hx
  have hw4 : ¬ w < 4 := fun h => h3 (.inl h)
  have hpos : 0 < xs.length := List.length_pos_iff.mpr hne
  have hwt : 3 + wtA xs ≤ 10000000 := hW
  have hlen := wtA_len xs
  have el : (((xs.length : Nat) : Int) == 0) = false := by
    have : ((xs.length : Nat) : Int) ≠ 0 := by omega
    simpa using this
  have c3 : Tv (wOr (wT (wBin oLt (wVar 2) (wC (.int 4)))) (wOr (wNot (wT (wUn (oIs "tuple") (wVar 1)))) (wT (wBin oEq (wUnS oLen (wVar 1)) (wC (.int 0)))))) [some (.loc i), some (.d (.tuple xs)), some (.d (.int w)), none] st1 false := fun Q q => by
    push_cast [oLt_ii, decide_eq_false hw4, show oIs "tuple" (.tuple xs) = some (.bool true) from rfl, len_t, el]
    exact q
  refine if_f c3 rfl ?_
  show N [some (.loc i), some (.d (.tuple xs)), some (.d (.int w)), none] st1
  rw [hN]
  refine seq_intro fun N hN => ?_
  push_cast [len_t]
  refine spS_go hs1 ⟨((xs.length : Nat) : Int), rfl, by omega, by omega, rfl⟩ ?_
  rintro y st2 ⟨a, rfl, a0, a1⟩ t2
  have t12 := t1.trans t2
  obtain ⟨n, rfl⟩ : ∃ n : Nat, a = n := ⟨a.toNat, by omega⟩
  have hn : n < xs.length := by omega
  show N [some (.loc i), some (.d (.tuple xs)), some (.d (.int w)), some (.d (.int (n : Nat)))] st2
  rw [hN]
  have s1 := sl_take xs n
  have s2 := sl_drop xs (n + 1)
  have s3 := sl_drop xs n
  have e1 : ((n : Nat) : Int) + 1 = ((n + 1 : Nat) : Int) := by omega
  have w1 := wtA_take n xs
  have w2 := wtA_take (n + 1) xs
  have lt : (xs.take n).length ≤ xs.length := by rw [List.length_take]; omega
  have ld : ∀ m, (xs.drop m).length ≤ xs.length := fun m => by rw [List.length_drop]; omega
  have ix : oIx (.tuple xs) (.int ((n : Nat) : Int)) = some xs[n] := L2.atI_nat (List.getElem?_eq_getElem hn)
  have hmem : xs[n] ∈ xs := List.getElem_mem hn
  have fin : ∀ y, Bn B (.tuple xs) y → retK st.length Q (.d y) st2 := fun y hy => by
    rw [ret_to t12]
    exact q _ _ hy t12
  refine seq_intro fun N hN => ?_
  by_cases w4 : w = 4
  · subst w4
    have ha : oAdd (.tuple (xs.take n)) (.tuple (xs.drop (n + 1))) = some (.tuple (xs.take n ++ xs.drop (n + 1))) := oAdd_tt (by have := ld (n + 1); omega)
    push_cast [e1, wSl, wOS, wON, asI, s1, s2, ha]
    refine fin _ (Bn_tup ho (fun y hy => .inl ?_) ?_)
    · exact (List.mem_append.mp hy).elim List.mem_of_mem_take List.mem_of_mem_drop
    · rw [wtA_app]; omega
  have e4 : (w == 4) = false := by simpa using w4
  push_cast [e4]
  rw [hN]
  refine seq_intro fun N hN => ?_
  by_cases w5 : w = 5
  · subst w5
    have ha : oAdd (.tuple (xs.take n)) (.tuple [xs[n]]) = some (.tuple (xs.take n ++ [xs[n]])) := oAdd_tt (by simp only [List.length_cons, List.length_nil]; omega)
    have hb : oAdd (.tuple (xs.take n ++ [xs[n]])) (.tuple (xs.drop n)) = some (.tuple (xs.take n ++ [xs[n]] ++ xs.drop n)) := oAdd_tt (by have := ld n; simp only [List.length_append, List.length_cons, List.length_nil]; omega)
    push_cast [wSl, wOS, wON, asI, s1, s3, ix, ha, hb]
    refine fin _ (Bn_tup ho (fun y hy => .inl ?_) ?_)
    · rcases List.mem_append.mp hy with hy | hy
      · rcases List.mem_append.mp hy with hy | hy
        · exact List.mem_of_mem_take hy
        · simp at hy; subst hy; exact hmem
      · exact List.mem_of_mem_drop hy
    · have := wtA_mem hmem
      rw [wtA_app, wtA_app, wtA, wtA]; omega
  have e5 : (w == 5) = false := by simpa using w5
  push_cast [e5]
  rw [hN]
  refine seq_intro fun N hN => ?_
  by_cases w6 : w = 6
  · subst w6
    push_cast [DL.lit0]
    refine spS_go (t12.spr hs) ⟨rfl, rfl⟩ ?_
    rintro y st3 hy t3
    have ha : oAdd (.tuple xs) (.tuple [y]) = some (.tuple (xs ++ [y])) := oAdd_tt (by simp only [List.length_cons, List.length_nil]; omega)
    push_cast [ha]
    rw [ret_to (t12.trans t3)]
    refine q _ _ (Bn_tup ho (fun z hz => ?_) ?_) (t12.trans t3)
    · rcases List.mem_append.mp hz with hz | hz
      · exact .inl hz
      · simp at hz; subst hz; exact .inr hy
    · have := hy.w
      rw [wtA_app, wtA, wtA]; omega
  have e6 : (w == 6) = false := by simpa using w6
  push_cast [e6]
  rw [hN]
  by_cases w7 : w = 7
  · subst w7
    have hr : oRev (.tuple xs) = some (.tuple xs.reverse) := rfl
    push_cast [hr]
    refine fin _ (Bn_tup ho (fun y hy => .inl (List.mem_reverse.mp hy)) ?_)
    rw [wtA_rev]; omega
  have e7 : (w == 7) = false := by simpa using w7
  have hl : oList (.tuple xs) = some (.list xs) := rfl
  push_cast [e7, hl]
  refine fin _ ⟨okD_mono (d := .tuple xs) ho (by omega), by simp only [PyData.depth]; omega, by simp only [wt]; omega⟩
end DL.K02
/-! text K02P20 -/
namespace DL.K02
open PySem DL
inductive Ch (t : PyData) : List (List PyData × Nat) → PyData → Prop
  | nil : Ch t [] t
  | snoc {ps : List (List PyData × Nat)} {xs : List PyData} {a : Nat} {x : PyData} : Ch t ps (.tuple xs) → xs[a]? = some x → Ch t (ps ++ [(xs, a)]) x
def encP (p : List PyData × Nat) : PyData := .tuple [.tuple p.1, .int (p.2 : Nat)]
theorem Ch_ok {B : Nat} {t h : PyData} {ps : List (List PyData × Nat)} (ht : okD B t) (hc : Ch t ps h) : okD B h ∧ wt h ≤ wt t := by
  induction hc with
  | nil => exact ⟨ht, Nat.le_refl _⟩
  | @snoc ps xs a x _ hx ih =>
    obtain ⟨h1, h2⟩ := ih
    have hm := List.mem_of_getElem? hx
    have := wtA_mem hm
    simp only [wt] at h2
    exact ⟨okA_mem.mp h1 x hm, by omega⟩
theorem sp_app {st s : Store} {i : Nat} {c : Cell} (h : Spr st i) (t : SpTo (st ++ [c]) i s) : ∃ st2, s = st2 ++ [c] ∧ SpTo st i st2 := by
  obtain ⟨a, b, d, rfl⟩ := t
  exact ⟨st.set i (spr a b d), by rw [List.set_append_left _ _ h.lt], a, b, d, rfl⟩
theorem spr_app {st : Store} {i : Nat} {c : Cell} (h : Spr st i) : Spr (st ++ [c]) i := by
  obtain ⟨a, b, d, e⟩ := h
  exact ⟨a, b, d, by rw [List.getElem?_append_left (List.getElem?_eq_some_iff.mp e).1]; exact e⟩
theorem so_loop {B : Nat} {t : PyData} {st0 : Store} {i : Nat} {D : DL.Fin} {E : EK} {v1 v6 : Option DV} (hsp : Spr st0 i) (ht : okD B t) (hB : B ≤ 900) (hW : wt t ≤ 10000000) : ∀ (xs : List DV) (ps : List (List PyData × Nat)) (h : PyData) (v4 v5 : Option DV) (st : Store), Ch t ps h → ps.length + xs.length ≤ 1000 → SpTo st0 i st →
    (∀ ps h v4 v5 st, Ch t ps h → SpTo st0 i st → D.nx [some (.loc i), v1, some (.loc st0.length), some (.d h), v4, v5, v6] (st ++ [.lst (ps.map encP)])) →
    forGo (gN 4) (wSeq (wIf (wOr (wNot (wT (wUn (oIs "tuple") (wVar 3)))) (wT (wBin oEq (wUnS oLen (wVar 3)) (wC (.int 0))))) wBrk wSkip)
    (wSeq (wAsg (wCall (spS pDr) E (wCons (wVar 0) (wCons (wUnS oLen (wVar 3)) wNil))) (gN 5))
    (wSeq (wExpr (wMtM oAppend (wVar 2) (wCons (wTup (wCons (wVar 3) (wCons (wVar 5) wNil))) wNil)))
    (wAsg (wBinS oIx (wVar 3) (wVar 5)) (gN 3))))) D xs [some (.loc i), v1, some (.loc st0.length), some (.d h), v4, v5, v6] (st ++ [.lst (ps.map encP)])
  | [], ps, h, v4, v5, st, hc, _, tt, q => q ps h v4 v5 st hc tt
  | x :: xs, ps, h, v4, v5, st, hc, hl, tt, q => by
    simp only [List.length_cons] at hl
    have hlen := tt.len
    have hg : (st ++ [Cell.lst (ps.map encP)])[st0.length]? = some (.lst (ps.map encP)) := by rw [← hlen]; simp
    have hrd := rd_at hg
    simp only [forGo, gN, set0, setS]
    refine seq_intro fun N hN => ?_
    rcases is_tup h with ⟨ys, rfl⟩ | ⟨hne, _⟩
    case inr =>
      push_cast [hne]
      exact q _ _ _ _ _ hc tt
    cases ys with
    | nil =>
      push_cast [show oIs "tuple" (.tuple ([] : List PyData)) = some (.bool true) from rfl, len_t, show (((0 : Nat) : Int) == 0) = true from rfl]
      exact q _ _ _ _ _ hc tt
    | cons y ys =>
      have el : (((ys.length + 1 : Nat) : Int) == 0) = false := by
        have : ((ys.length + 1 : Nat) : Int) ≠ 0 := by omega
        simpa using this
      have hwt := (Ch_ok ht hc).2
      have hwl := wtA_len (y :: ys)
      simp only [wt, List.length_cons] at hwt hwl
      push_cast [show oIs "tuple" (.tuple (y :: ys)) = some (.bool true) from rfl, len_t, el]
      rw [hN]
      refine seq_intro fun N hN => ?_
      push_cast [len_t]
      refine spS_go (spr_app (tt.spr hsp)) ⟨((ys.length + 1 : Nat) : Int), rfl, by omega, by omega, rfl⟩ ?_
      rintro z s2 ⟨a, rfl, a0, a1⟩ t2'
      obtain ⟨st2, rfl, t2⟩ := sp_app (tt.spr hsp) t2'
      have tt2 := tt.trans t2
      have hlen2 := tt2.len
      obtain ⟨n, rfl⟩ : ∃ n : Nat, a = n := ⟨a.toNat, by omega⟩
      have hn : n < (y :: ys).length := by simp only [List.length_cons]; omega
      have hg2 : (st2 ++ [Cell.lst (ps.map encP)])[st0.length]? = some (.lst (ps.map encP)) := by rw [← hlen2]; simp
      have hrd2 := rd_at hg2
      show N _ _
      rw [hN]
      refine seq_intro fun N hN => ?_
      have hlim : (ps.map encP).length < lim := by
        rw [List.length_map]
        unfold lim
        omega
      have hap : oAppend (.lst (ps.map encP)) [PyData.tuple [.tuple (y :: ys), .int ((n : Nat) : Int)]] = some (.none, .lst (ps.map encP ++ [PyData.tuple [.tuple (y :: ys), .int ((n : Nat) : Int)]])) := if_pos hlim
      have he : (st2 ++ [Cell.lst (ps.map encP)]).set st0.length (.lst (ps.map encP ++ [PyData.tuple [.tuple (y :: ys), .int ((n : Nat) : Int)]])) = st2 ++ [.lst ((ps ++ [(y :: ys, n)]).map encP)] := by
        rw [← hlen2]
        simp [encP]
      push_cast [wMtM, hrd2, isL, hg2, hap, he]
      rw [hN]
      have ix : oIx (.tuple (y :: ys)) (.int ((n : Nat) : Int)) = some (y :: ys)[n] := L2.atI_nat (List.getElem?_eq_getElem hn)
      push_cast [ix]
      exact so_loop hsp ht hB hW xs (ps ++ [(y :: ys, n)]) _ _ _ st2 (.snoc hc (List.getElem?_eq_getElem hn)) (by simp; omega) tt2 q
def Rl (B D : Nat) (h y : PyData) : Prop := okD (B + 1) y ∧ y.depth ≤ h.depth + 5 ∧ wt y ≤ wt h + D
theorem rl_step {B D : Nat} {xs : List PyData} {a : Nat} {x y : PyData} (ho : okD B (.tuple xs)) (hx : xs[a]? = some x) (h : Rl B D x y) : Rl B D (.tuple xs) (.tuple (xs.take a ++ [y] ++ xs.drop (a + 1))) := by
  have hlt := (List.getElem?_eq_some_iff.mp hx).1
  have hxe := (List.getElem?_eq_some_iff.mp hx).2
  have hsplit : xs = xs.take a ++ x :: xs.drop (a + 1) := by
    rw [← hxe, List.getElem_cons_drop hlt, List.take_append_drop]
  have hm := List.mem_of_getElem? hx
  refine ⟨okA_mem.mpr fun z hz => ?_, ?_, ?_⟩
  · rcases List.mem_append.mp hz with hz | hz
    · rcases List.mem_append.mp hz with hz | hz
      · exact okD_mono (okA_mem.mp ho z (List.mem_of_mem_take hz)) (by omega)
      · simp at hz; subst hz; exact h.1
    · exact okD_mono (okA_mem.mp ho z (List.mem_of_mem_drop hz)) (by omega)
  · have hall := depthAll_le.mp (Nat.le_refl (PyData.depthAll xs))
    have : PyData.depthAll (xs.take a ++ [y] ++ xs.drop (a + 1)) ≤ PyData.depthAll xs + 5 := depthAll_le.mpr fun z hz => by
      rcases List.mem_append.mp hz with hz | hz
      · rcases List.mem_append.mp hz with hz | hz
        · have := hall z (List.mem_of_mem_take hz); omega
        · simp at hz; subst hz; have := hall x hm; have := h.2.1; omega
      · have := hall z (List.mem_of_mem_drop hz); omega
    simp only [PyData.depth]
    omega
  · have e : wtA xs = wtA (xs.take a) + (wt x + 2 + wtA (xs.drop (a + 1))) := by
      have := congrArg wtA hsplit
      rw [wtA_app, wtA] at this
      exact this
    have := h.2.2
    simp only [wt]
    rw [wtA_app, wtA_app, wtA, wtA]
    omega
theorem bk_loop {B DD : Nat} {t : PyData} {D : DL.Fin} {v0 v1 v2 v4 : Option DV} {st : Store} (ht : okD B t) (hW : wt t ≤ 10000000) {ps : List (List PyData × Nat)} {h : PyData} (hc : Ch t ps h) : ∀ (y : PyData) (v5 v6 : Option DV), Rl B DD h y →
    (∀ y v5 v6, Rl B DD t y → D.nx [v0, v1, v2, some (.d y), v4, v5, v6] st) →
    forGo (DL.gTupN 2 (DL.gCons (gN 6) (DL.gCons (gN 5) DL.gNil))) (wAsg (wBin oAdd (wBin oAdd (wSl oSl (wVar 6) wON (wOS (wVar 5))) (wTup (wCons (wVar 3) wNil))) (wSl oSl (wVar 6) (wOS (wBin oAdd (wVar 5) (wC (.int 1)))) wON)) (gN 3)) D ((ps.map encP).reverse.map DV.d) [v0, v1, v2, some (.d y), v4, v5, v6] st := by
  induction hc with
  | nil => exact fun y v5 v6 hr q => q y v5 v6 hr
  | @snoc ps xs a x hc hx ih =>
    intro y v5 v6 hr q
    obtain ⟨ho, hw⟩ := Ch_ok ht hc
    have hlt := (List.getElem?_eq_some_iff.mp hx).1
    have hwl := wtA_len xs
    simp only [wt] at hw
    have s1 := sl_take xs a
    have s2 := sl_drop xs (a + 1)
    have e1 : ((a : Nat) : Int) + 1 = ((a + 1 : Nat) : Int) := by omega
    have lt : (xs.take a).length ≤ xs.length := by rw [List.length_take]; omega
    have ld : (xs.drop (a + 1)).length ≤ xs.length := by rw [List.length_drop]; omega
    have ha : oAdd (.tuple (xs.take a)) (.tuple [y]) = some (.tuple (xs.take a ++ [y])) := oAdd_tt (by simp only [List.length_cons, List.length_nil]; omega)
    have hb : oAdd (.tuple (xs.take a ++ [y])) (.tuple (xs.drop (a + 1))) = some (.tuple (xs.take a ++ [y] ++ xs.drop (a + 1))) := oAdd_tt (by simp only [List.length_append, List.length_cons, List.length_nil]; omega)
    rw [List.map_append, List.reverse_append]
    push_cast [List.map_cons, List.map_nil, List.reverse_cons, List.reverse_nil, List.nil_append, List.cons_append, forGo, encP, wSl, wOS, wON, asI, e1, s1, s2, ha, hb]
    exact ih _ _ _ (rl_step ho hx hr) q
theorem keeps_law_spoilt : Keeps 7 (spS pBn) (b_law_spoilt (spS pBn) (spS pDr)) := by
  rintro args st Q E ⟨i, rest, R, rfl, hs, ⟨d, B, rfl, ho, hB, hW, rfl⟩, q⟩
  unfold b_law_spoilt
  refine seq_intro fun N hN => ?_
  unfold wPar wLstM
  simp only [wNil, frs_nil, optK_some, List.length_nil]
  refine ⟨by decide, ?_⟩
  show N [some (.loc i), some (.d d), some (.loc st.length), some (.d d), none, none, none] (st ++ [.lst []])
  rw [hN]
  refine seq_intro fun N hN => ?_
  unfold wFor iRng1D
  push_cast [DL.lit0]
  refine spS_go (spr_app hs) ⟨7, rfl, by omega, by omega, rfl⟩ ?_
  rintro y s1 ⟨k, rfl, k0, k1⟩ t1'
  obtain ⟨st1, rfl, t1⟩ := sp_app hs t1'
  obtain ⟨n, rfl⟩ : ∃ n : Nat, k = n := ⟨k.toNat, by omega⟩
  simp only [rd_d, optK_some, asI, Int.toNat_natCast]
  refine ⟨⟨by omega, by omega⟩, lim_of (by omega), ?_⟩
  refine so_loop (t := d) (st0 := st) (B := B) hs ho (by omega) hW _ [] d none none st1 .nil (by rw [rng_len]; simp; omega) t1 fun ps h v4 v5 st2 hc t2 => ?_
  obtain ⟨oh, wh⟩ := Ch_ok ho hc
  show N _ _
  rw [hN]
  refine seq_intro fun N hN => ?_
  push_cast [DL.lit0]
  refine spS_go (spr_app (t2.spr hs)) ⟨h, B, rfl, oh, hB, by omega, rfl⟩ ?_
  rintro y s3 ⟨b1, b2, b3⟩ t3'
  obtain ⟨st3, rfl, t3⟩ := sp_app (t2.spr hs) t3'
  have t13 := t2.trans t3
  have hlen3 := t13.len
  show N [some (.loc i), some (.d d), some (.loc st.length), some (.d y), v4, v5, none] (st3 ++ [.lst (ps.map encP)])
  rw [hN]
  refine seq_intro fun N hN => ?_
  have hg : (st3 ++ [Cell.lst (ps.map encP)])[st.length]? = some (.lst (ps.map encP)) := by rw [← hlen3]; simp
  have hrd := rd_at hg
  unfold wFor iSeq
  push_cast [hrd, oRev, itemsOf]
  refine bk_loop (B := B) (DD := wt d + 310) (t := d) ho hW hc y v5 none ⟨b1, b2, by omega⟩ fun y v5 v6 hr => ?_
  show N _ _
  rw [hN]
  push_cast [DL.lit0]
  rw [ret_tk, ← hlen3, take_app]
  exact q _ _ ⟨hr.1, hr.2.1, by have := hr.2.2; omega⟩ t13
end DL.K02
/-! text K02P21 -/
namespace DL.K02
open PySem DL
theorem jd4 {B : Nat} {i : Nat} {D : DL.Fin} {E : EK} {v1 v2 : Option DV} {st0 : Store} (hsp : Spr st0 i) (hB : B ≤ 1000) : ∀ (xs : List PyData) (v3 : Option DV) (st : Store), (∀ x ∈ xs, Ok B 110 10000000 x) → SpTo st0 i st → (∀ v3 st, SpTo st0 i st → D.nx [some (.loc i), v1, v2, v3] st) →
    forGo (gN 3) (wIf (wNot (wT (wCall (spF pJd) E (wCons (wVar 3) (wCons (wBin oEq (wCall (spS pDr) E (wCons (wVar 0) (wCons (wC (.int 2)) wNil))) (wC (.int 0))) wNil))))) (wRet (wC (.bool false))) wSkip) D (xs.map DV.d) [some (.loc i), v1, v2, v3] st
  | [], v3, st, _, t, q => q v3 st t
  | x :: xs, v3, st, h, t, q => by
    push_cast [List.map_cons, forGo]
    refine spS_go (t.spr hsp) ⟨2, rfl, by omega, by omega, rfl⟩ ?_
    rintro y st1 ⟨k, rfl, k0, k1⟩ t1
    push_cast [DL.lit0]
    refine spF_go (xs := [x, .bool (k == 0)]) ⟨x, _, B, 10000000, rfl, h x (List.mem_cons_self ..), hB, by omega, rfl⟩ ?_
    push_cast [DL.lit0]
    exact jd4 hsp hB xs _ st1 (fun z hz => h z (List.mem_cons_of_mem _ hz)) (t.trans t1) q
def pRt (st : Store) (i : Nat) (rest : List DV) (R : PyData → Prop) : Prop := rest = [] ∧ R = fun y => y = .bool true
theorem ok_s {n : Nat} {s : Str} (h : okS n s) (hn : n ≤ 400) : Ok 200 110 10000000 (.str s) := ⟨⟨by have := h.1; omega, h.2⟩, by simp [PyData.depth], by have := h.1; simp only [wt]; omega⟩
theorem ok_ns {n : Nat} {s : Str} (h : okS n s) (hn : n ≤ 400) : Ok 200 110 10000000 (.tuple [.str "name", .str s]) := by
  have h4 : ("name" : Str).length = 4 := rfl
  refine ⟨⟨okD_mono (okDb_ok (.str "name") (by decide)) (by omega), (ok_s h hn).ok, trivial⟩, by simp [PyData.depth, PyData.depthAll], ?_⟩
  have := h.1
  simp only [wt, wtA, h4]
  omega
theorem keeps_law_names_right : Keeps 4 (spS pRt) (b_law_names_right (spS pNn) (spF pJd) (spS pDr) (spS pLn)) := by
  rintro args st Q E ⟨i, rest, R, rfl, hs, ⟨rfl, rfl⟩, q⟩
  unfold b_law_names_right
  refine seq_intro fun N hN => ?_
  push_cast [DL.lit0]
  refine spS_go hs ⟨rfl, rfl⟩ ?_
  rintro y st1 ⟨s, rfl, h⟩ t1
  show N [some (.loc i), some (.d (.str s)), none, none] st1
  rw [hN]
  refine seq_intro fun N hN => ?_
  push_cast [DL.lit0]
  refine spS_go (t1.spr hs) ⟨s, rfl, okS_mono h (by omega), rfl⟩ ?_
  rintro y st2 ⟨z, rfl, hz, hz2⟩ t2
  have t12 := t1.trans t2
  have hl := h.1
  show N [some (.loc i), some (.d (.str s)), some (.d (.str z)), none] st2
  rw [hN]
  refine seq_intro fun N hN => ?_
  unfold wFor iSeq
  push_cast [DL.lit0]
  refine spS_go (t12.spr hs) ⟨z, rfl, ⟨by omega, hz.2⟩, rfl⟩ ?_
  rintro y st3 ⟨u, rfl, hu, hu2⟩ t3
  have t13 := t12.trans t3
  push_cast [itemsOf]
  refine jd4 (B := 200) (st0 := st) hs (by omega) [.str s, .str z, .str u, .tuple [.str "name", .str s], .tuple [.str "name", .str z]] none st3 (fun x hx => ?_) t13 fun v3 st4 t4 => ?_
  · simp only [List.mem_cons, List.not_mem_nil, or_false] at hx
    rcases hx with rfl | rfl | rfl | rfl | rfl
    · exact ok_s h (by omega)
    · exact ok_s hz (by omega)
    · exact ok_s hu (by omega)
    · exact ok_ns h (by omega)
    · exact ok_ns hz (by omega)
  · show N _ _
    rw [hN]
    push_cast [DL.lit0]
    rw [ret_to t4]
    exact q _ _ rfl t4
/-! ### a round -/
def isG (x : PyData) : Prop := ∃ k : Kd, x = k.enc ∧ Gk k
theorem jd7 {B : Nat} {i : Nat} {D : DL.Fin} {E : EK} {v1 v2 v3 v4 v5 : Option DV} {st0 : Store} {c : Cell} (hsp : Spr st0 i) (hB : B ≤ 1000) : ∀ (xs : List PyData) (v6 : Option DV) (st : Store), (∀ x ∈ xs, Ok B 110 10000000 x) → SpTo st0 i st → (∀ v6 st, SpTo st0 i st → D.nx [some (.loc i), v1, v2, v3, v4, v5, v6] (st ++ [c])) →
    forGo (gN 6) (wIf (wNot (wT (wCall (spF pJd) E (wCons (wVar 6) (wCons (wBin oEq (wCall (spS pDr) E (wCons (wVar 0) (wCons (wC (.int 2)) wNil))) (wC (.int 0))) wNil))))) (wRet (wC (.bool false))) wSkip) D (xs.map DV.d) [some (.loc i), v1, v2, v3, v4, v5, v6] (st ++ [c])
  | [], v6, st, _, t, q => q v6 st t
  | x :: xs, v6, st, h, t, q => by
    push_cast [List.map_cons, forGo]
    refine spS_go (spr_app (t.spr hsp)) ⟨2, rfl, by omega, by omega, rfl⟩ ?_
    rintro y s1 ⟨k, rfl, k0, k1⟩ t1'
    obtain ⟨st1, rfl, t1⟩ := sp_app (t.spr hsp) t1'
    push_cast [DL.lit0]
    refine spF_go (xs := [x, .bool (k == 0)]) ⟨x, _, B, 10000000, rfl, h x (List.mem_cons_self ..), hB, by omega, rfl⟩ ?_
    push_cast [DL.lit0]
    exact jd7 hsp hB xs _ st1 (fun z hz => h z (List.mem_cons_of_mem _ hz)) (t.trans t1) q
theorem kd_loop {i : Nat} {D : DL.Fin} {E : EK} {v1 v2 v3 : Option DV} {st0 : Store} {c : Cell} (hsp : Spr st0 i) : ∀ (xs : List PyData) (v4 v5 v6 : Option DV) (st : Store), (∀ x ∈ xs, isG x) → SpTo st0 i st → (∀ v4 v5 v6 st, SpTo st0 i st → D.nx [some (.loc i), v1, v2, v3, v4, v5, v6] (st ++ [c])) →
    forGo (gN 4) (wSeq (wIf (wNot (wT (wCall (spF pJd) E (wCons (wVar 4) (wCons (wBin oEq (wCall (spS pDr) E (wCons (wVar 0) (wCons (wC (.int 2)) wNil))) (wC (.int 0))) wNil))))) (wRet (wC (.bool false))) wSkip)
    (wSeq (wIf (wAnd (wT (wCall (spF pLk) E (wCons (wVar 4) wNil))) (wNot (wT (wCall (spF pTd) E (wCons (wVar 4) wNil))))) (wRet (wC (.bool false))) wSkip)
    (wSeq (wAsg (wCall (spS pBn) E (wCons (wVar 0) (wCons (wVar 4) wNil))) (gN 5))
    (DL.wFor (iSeq (wLst (wCons (wVar 5) (wCons (wCall (spS pBn) E (wCons (wVar 0) (wCons (wVar 5) wNil))) (wCons (wCall (spS pOd) E (wCons (wVar 0) wNil)) wNil))))) (gN 6) (wIf (wNot (wT (wCall (spF pJd) E (wCons (wVar 6) (wCons (wBin oEq (wCall (spS pDr) E (wCons (wVar 0) (wCons (wC (.int 2)) wNil))) (wC (.int 0))) wNil))))) (wRet (wC (.bool false))) wSkip))))) D (xs.map DV.d) [some (.loc i), v1, v2, v3, v4, v5, v6] (st ++ [c])
  | [], v4, v5, v6, st, _, t, q => q v4 v5 v6 st t
  | x :: xs, v4, v5, v6, st, h, t, q => by
    obtain ⟨k, rfl, hg⟩ := h _ (List.mem_cons_self ..)
    have hok := hg.ok
    simp only [List.map_cons, forGo, gN, set0, setS]
    refine seq_intro fun N hN => ?_
    push_cast [DL.lit0]
    refine spS_go (spr_app (t.spr hsp)) ⟨2, rfl, by omega, by omega, rfl⟩ ?_
    rintro y s1 ⟨m, rfl, k0, k1⟩ t1'
    obtain ⟨st1, rfl, t1⟩ := sp_app (t.spr hsp) t1'
    push_cast [DL.lit0]
    refine spF_go (xs := [k.enc, .bool (m == 0)]) ⟨k.enc, _, 0, 1900000, rfl, hok.mono (by omega) (by omega) (by omega), by omega, by omega, rfl⟩ ?_
    push_cast [DL.lit0]
    rw [hN]
    refine seq_intro fun N hN => ?_
    have tt1 := t.trans t1
    have go : N [some (.loc i), v1, v2, v3, some (.d k.enc), v5, v6] (st1 ++ [c]) := by
      rw [hN]
      refine seq_intro fun N hN => ?_
      push_cast [DL.lit0]
      refine spS_go (spr_app (tt1.spr hsp)) ⟨k.enc, 0, rfl, hok.ok, by omega, by have := hok.w; omega, rfl⟩ ?_
      rintro y s2 ⟨a1, a2, a3⟩ t2'
      obtain ⟨st2, rfl, t2⟩ := sp_app (tt1.spr hsp) t2'
      have tt2 := tt1.trans t2
      have hdp := hok.dp
      have hw := hok.w
      show N [some (.loc i), v1, v2, v3, some (.d k.enc), some (.d y), v6] (st2 ++ [c])
      rw [hN]
      unfold wFor iSeq
      push_cast [DL.lit0]
      refine spS_go (spr_app (tt2.spr hsp)) ⟨y, 1, rfl, a1, by omega, by omega, rfl⟩ ?_
      rintro z s3 ⟨b1, b2, b3⟩ t3'
      obtain ⟨st3, rfl, t3⟩ := sp_app (tt2.spr hsp) t3'
      have tt3 := tt2.trans t3
      push_cast [DL.lit0]
      refine spS_go (spr_app (tt3.spr hsp)) ⟨rfl, rfl⟩ ?_
      rintro u s4 hu t4'
      obtain ⟨st4, rfl, t4⟩ := sp_app (tt3.spr hsp) t4'
      have tt4 := tt3.trans t4
      push_cast [itemsOf]
      refine jd7 (B := 2) (st0 := st0) hsp (by omega) [y, z, u] _ st4 (fun x hx => ?_) tt4 fun v6 st5 t5 => ?_
      · simp only [List.mem_cons, List.not_mem_nil, or_false] at hx
        rcases hx with rfl | rfl | rfl
        · exact ⟨okD_mono a1 (by omega), by omega, by omega⟩
        · exact ⟨okD_mono b1 (by omega), by omega, by omega⟩
        · exact hu.mono (by omega) (by omega) (by omega)
      · exact kd_loop hsp xs _ _ _ st5 (fun z hz => h z (List.mem_cons_of_mem _ hz)) t5 q
    push_cast [DL.lit0]
    refine spF_go (xs := [k.enc]) ⟨k.enc, 0, 1900000, rfl, hok.mono (by omega) (by omega) (by omega), by omega, by omega, rfl⟩ ?_
    cases hb : bKd k.enc with
    | false =>
      push_cast [DL.lit0]
      exact go
    | true =>
      obtain ⟨k', e, c1, c2, c3⟩ := bKd_iff.mp hb
      have := enc_inj e
      subst this
      obtain ⟨S, s1, s2, s3⟩ := hg.names
      push_cast [DL.lit0]
      refine spF_go (xs := [k.enc]) ⟨k, 0, S, rfl, ⟨hok.ok, by omega, c1, c2, c3⟩, s1, s2, rfl⟩ ?_
      push_cast [DL.lit0]
      exact go
end DL.K02
/-! text K02P22 -/
namespace DL.K02
open PySem DL
theorem mk_loop {i : Nat} {D : DL.Fin} {E : EK} {v4 v5 v6 : Option DV} {st0 : Store} (hsp : Spr st0 i) : ∀ (rs : List DV) (ks : List PyData) (v2 v3 : Option DV) (st : Store), (∀ x ∈ ks, isG x) → ks.length + rs.length ≤ 100 → SpTo st0 i st →
    (∀ ks v2 v3 st, (∀ x ∈ ks, isG x) → ks.length ≤ 100 → SpTo st0 i st → D.nx [some (.loc i), some (.loc st0.length), v2, v3, v4, v5, v6] (st ++ [.lst ks])) →
    forGo (gN 2) (wSeq (wAsg (wLst (wCons (wCall (spS pLn) E (wCons (wVar 0) wNil)) (wCons (wCall (spS pWr) E (wCons (wVar 0) wNil)) wNil))) (gN 3))
    (wSeq (wExpr (wMtM oAppend (wVar 1) (wCons (wCall (spS (pLK 6)) E (wCons (wVar 0) (wCons (wVar 3) (wCons (wCall (spS pPk) E (wCons (wVar 0) (wCons (wTup (wCons (wC (.int 1)) (wCons (wC (.int 2)) (wCons (wC (.int 4)) (wCons (wC (.int 6)) wNil))))) wNil))) wNil)))) wNil)))
    (wIf (wNot (wT (wCall (spS pRt) E (wCons (wVar 0) wNil)))) (wRet (wC (.bool false))) wSkip))) D rs [some (.loc i), some (.loc st0.length), v2, v3, v4, v5, v6] (st ++ [.lst ks])
  | [], ks, v2, v3, st, hk, hl, t, q => q ks v2 v3 st hk (by simpa using hl) t
  | r :: rs, ks, v2, v3, st, hk, hl, t, q => by
    simp only [List.length_cons] at hl
    simp only [forGo, gN, set0, setS]
    refine seq_intro fun N hN => ?_
    push_cast [DL.lit0]
    refine spS_go (spr_app (t.spr hsp)) ⟨rfl, rfl⟩ ?_
    rintro y s1 ⟨s, rfl, h⟩ t1'
    obtain ⟨st1, rfl, t1⟩ := sp_app (t.spr hsp) t1'
    have tt1 := t.trans t1
    push_cast [DL.lit0]
    refine spS_go (spr_app (tt1.spr hsp)) ⟨rfl, rfl⟩ ?_
    rintro y s2 ⟨z, rfl, hz⟩ t2'
    obtain ⟨st2, rfl, t2⟩ := sp_app (tt1.spr hsp) t2'
    have tt2 := tt1.trans t2
    push_cast [DL.lit0]
    rw [hN]
    refine seq_intro fun N hN => ?_
    have hlen2 := tt2.len
    have hg2 : (st2 ++ [Cell.lst ks])[st0.length]? = some (.lst ks) := by rw [← hlen2]; simp
    have hrd2 := rd_at hg2
    push_cast [wMtM, hrd2, isL]
    refine spS_go (spr_app (tt2.spr hsp)) ⟨_, [.int 1, .int 2, .int 4, .int 6], rfl, .inr (.inl rfl), by decide, by decide, rfl⟩ ?_
    rintro y s3 hy t3'
    obtain ⟨st3, rfl, t3⟩ := sp_app (tt2.spr hsp) t3'
    have tt3 := tt2.trans t3
    have : ∃ n : Nat, y = .int (n : Nat) ∧ 1 ≤ n ∧ n ≤ 6 := by
      simp at hy
      rcases hy with rfl | rfl | rfl | rfl
      · exact ⟨1, rfl, by omega, by omega⟩
      · exact ⟨2, rfl, by omega, by omega⟩
      · exact ⟨4, rfl, by omega, by omega⟩
      · exact ⟨6, rfl, by omega, by omega⟩
    obtain ⟨n, rfl, n1, n6⟩ := this
    try push_cast [DL.lit0]
    refine spS_go (spr_app (tt3.spr hsp)) ⟨_, [s, z], n, rfl, .inl rfl, by simp, n1, n6, rfl⟩ ?_
    rintro y s4 ⟨k, rfl, kd, kn⟩ t4'
    obtain ⟨st4, rfl, t4⟩ := sp_app (tt3.spr hsp) t4'
    have tt4 := tt3.trans t4
    have hlen4 := tt4.len
    have hg4 : (st4 ++ [Cell.lst ks])[st0.length]? = some (.lst ks) := by rw [← hlen4]; simp
    have hap : oAppend (.lst ks) [k.enc] = some (.none, .lst (ks ++ [k.enc])) := if_pos (by unfold lim; omega)
    have he : (st4 ++ [Cell.lst ks]).set st0.length (.lst (ks ++ [k.enc])) = st4 ++ [.lst (ks ++ [k.enc])] := by
      rw [← hlen4]
      simp
    have hgk : isG k.enc := ⟨k, rfl, gk_small kd n6 (S := [s, z]) (by simp) kn fun m hm => by
      simp at hm
      rcases hm with rfl | rfl
      · exact h
      · exact okS_mono hz (by omega)⟩
    push_cast [hg4, hap, he]
    rw [hN]
    push_cast [DL.lit0]
    refine spS_go (spr_app (tt4.spr hsp)) ⟨rfl, rfl⟩ ?_
    rintro y s5 rfl t5'
    obtain ⟨st5, rfl, t5⟩ := sp_app (tt4.spr hsp) t5'
    push_cast [DL.lit0]
    refine mk_loop hsp rs (ks ++ [k.enc]) _ _ st5 (fun x hx => ?_) (by simp; omega) (tt4.trans t5) q
    rcases List.mem_append.mp hx with hx | hx
    · exact hk x hx
    · simp at hx; subst hx; exact hgk
theorem keeps_law_right : Keeps 7 (spS pRt) (b_law_right (spS pOd) (spS pBn) (spF pJd) (spS pDr) (spF pTd) (spF pLk) (spS pRt) (spS (pLK 6)) (spS pPk) (spS pWr) (spS pLn) (spS pGk) (spS pGk)) := by
  rintro args st Q E ⟨i, rest, R, rfl, hs, ⟨rfl, rfl⟩, q⟩
  unfold b_law_right
  refine seq_intro fun N hN => ?_
  have go : ∀ (ks : List PyData) (st1 : Store), (∀ x ∈ ks, isG x) → ks.length ≤ 2 → SpTo st i st1 → N [some (.loc i), some (.loc st.length), none, none, none, none, none] (st1 ++ [.lst ks]) := fun ks st1 hk hl t1 => by
    rw [hN]
    refine seq_intro fun N hN => ?_
    unfold wFor iRng1D
    simp only [wC, rd_d, optK_some, asI]
    refine ⟨⟨by omega, by omega⟩, by decide, ?_⟩
    refine mk_loop (st0 := st) hs _ ks none none st1 hk (by rw [rng_len]; show ks.length + 3 ≤ 100; omega) t1 fun ks v2 v3 st2 hk hl t2 => ?_
    show N _ _
    rw [hN]
    refine seq_intro fun N hN => ?_
    have hlen := t2.len
    have hg : (st2 ++ [Cell.lst ks])[st.length]? = some (.lst ks) := by rw [← hlen]; simp
    have hrd := rd_at hg
    have hrdS := rdS_at hg
    have hn : oNeg (.int 1) = some (.int (-1)) := rfl
    have hsl : ∃ ls, oSl (.list ks) (some (-1)) none = some (.list ls) ∧ (∀ x ∈ ls, x ∈ ks) ∧ ls.length ≤ ks.length := by
      refine ⟨cutG ks (some (-1)) none, rfl, fun x hx => ?_, ?_⟩
      · unfold cutG at hx
        exact List.mem_of_mem_drop (List.mem_of_mem_take hx)
      · unfold cutG
        rw [List.length_take, List.length_drop]
        omega
    obtain ⟨ls, e1, e2, e3⟩ := hsl
    have ha : oAdd (.list ks) (.list ls) = some (.list (ks ++ ls)) := oAdd_ll (by omega)
    unfold wFor iSeq
    push_cast [wSl, wOS, wON, hrd, hrdS, hn, asI, e1, ha, itemsOf]
    refine kd_loop (st0 := st) hs (ks ++ ls) none none none st2 (fun x hx => ?_) t2 fun v4 v5 v6 st3 t3 => ?_
    · exact (List.mem_append.mp hx).elim (hk x) fun h => hk x (e2 x h)
    · show N _ _
      rw [hN]
      push_cast [DL.lit0]
      rw [ret_tk, ← t3.len, take_app]
      exact q _ _ rfl t3
  unfold wAsg wCatM
  push_cast [DL.lit0]
  refine spS_go hs ⟨rfl, rfl⟩ ?_
  rintro y st1 ⟨k, rfl, hg⟩ t1
  push_cast [DL.lit0]
  refine spS_go (t1.spr hs) ⟨6, rfl, by omega, by omega, rfl⟩ ?_
  rintro y st2 ⟨m, rfl, m0, m1⟩ t2
  have t12 := t1.trans t2
  by_cases hm : m = 0
  · subst hm
    push_cast [DL.lit0]
    refine spS_go (t12.spr hs) ⟨rfl, rfl⟩ ?_
    rintro y st3 ⟨k2, rfl, hg2⟩ t3
    have t13 := t12.trans t3
    push_cast [isLs]
    rw [t13.len]
    refine go [k.enc, k2.enc] st3 (fun x hx => ?_) (by simp) t13
    simp at hx
    rcases hx with rfl | rfl
    · exact ⟨k, rfl, hg⟩
    · exact ⟨k2, rfl, hg2⟩
  · have em : (m == 0) = false := by simpa using hm
    push_cast [em, isLs]
    rw [t12.len]
    refine go [k.enc] st2 (fun x hx => ?_) (by simp) t12
    simp at hx
    subst hx
    exact ⟨k, rfl, hg⟩
end DL.K02
/-! text K02P23 -/
namespace DL.K02
open PySem DL
def sp_law : SpD := fun args st Q E => ∃ ns : List Int, args = [.scr ns] ∧ ns.length ≤ 63 ∧ ∀ st', Q (.d (.bool true)) st'
theorem lw_loop {E : EK} {Q : List PyData → Store → Prop} {ns : List Int} (hn : ns.length ≤ 63) (q : ∀ (acc : List PyData) (st : Store), (∀ y ∈ acc, y = .bool true) → Q acc st) : ∀ (xs : List Int) (acc : List PyData) (st : Store), (∀ x ∈ xs, 0 ≤ x ∧ x ≤ 10) → (∀ y ∈ acc, y = .bool true) →
    lcGo (gN 1) wYes (wCall (spS pRt) E (wCons (wCall sp_well E (wCons (wVar 0) (wCons (wVar 1) wNil))) wNil)) [some (.scr ns), none] Q (xs.map fun x => DV.d (.int x)) acc st
  | [], acc, st, _, ha => q acc st ha
  | x :: xs, acc, st, hx, ha => by
    obtain ⟨x0, x1⟩ := hx x (List.mem_cons_self ..)
    simp only [List.map_cons, lcGo, gN, set0, setS, wYes, wCall, wCons, wNil, wVar, get0, getS, if_true]
    refine ⟨ns, x, rfl, x0, x1, hn, fun a b c => ?_⟩
    refine spS_go ⟨a, b, c, by simp⟩ ⟨rfl, rfl⟩ ?_
    rintro y st' rfl _
    refine lw_loop hn q xs _ st' (fun z hz => hx z (List.mem_cons_of_mem _ hz)) fun y hy => ?_
    rcases List.mem_append.mp hy with hy | hy
    · exact ha y hy
    · simpa using hy
theorem keeps_law : Keeps 2 sp_law (b_law (spS pRt) sp_well) := by
  rintro args st Q E ⟨ns, rfl, hn, q⟩
  unfold b_law
  have e1 : oLen (.list (ns.map .int)) = some (.int (ns.length : Nat)) := by
    show some (PyData.int ((ns.map PyData.int).length : Nat)) = _
    rw [List.length_map]
  have erd : rdS st (.scr ns) = some (.list (ns.map .int)) := rfl
  have e2 : ∀ i j : Int, oMin (.int i) (.int j) = some (.int (if j < i then j else i)) := fun _ _ => rfl
  have e3 : ∀ i j : Int, oMax (.int i) (.int j) = some (.int (if j > i then j else i)) := fun _ _ => rfl
  unfold wRet wOpN wCons wLc iRng1D
  push_cast [erd, e1, e2, e3, asI]
  generalize hk : (if (if (2 : Int) < ((ns.length : Nat) : Int) then (2 : Int) else ((ns.length : Nat) : Int)) > 1 then (if (2 : Int) < ((ns.length : Nat) : Int) then (2 : Int) else ((ns.length : Nat) : Int)) else 1) = kk
  have hb : 1 ≤ kk ∧ kk ≤ 2 := by
    subst hk
    split <;> split <;> omega
  refine ⟨⟨by omega, by omega⟩, lim_of (by omega), ?_⟩
  have er : rngL 0 kk.toNat = ((List.range kk.toNat).map fun (i : Nat) => (0 : Int) + (i : Int)).map fun x => DV.d (.int x) := by
    unfold rngL
    rw [List.map_map]
    rfl
  rw [er]
  refine lw_loop hn (fun acc st' ha => ?_) _ [] st (fun x hx => ?_) (fun y hy => by simp at hy)
  · have hall : oAll (.list acc) = some (.bool true) := by
      have e : acc = acc.map fun _ => PyData.bool true := by
        apply List.ext_getElem
        · simp
        · intro n h1 h2
          rw [List.getElem_map]
          exact ha _ (List.getElem_mem h1)
      rw [e]
      exact all_true acc
    push_cast [hall, ret_tk]
    exact q _
  · obtain ⟨n, hn', rfl⟩ := List.mem_map.mp hx
    have := List.mem_range.mp hn'
    omega
end DL.K02
/-! text K02F -/
namespace DL.K02
open PySem PySem.Spec PyProof.Rows L2 DL 
theorem no_pKf : ∀ args st P PE, ¬ spF (pKf 0) args st P PE := by
  rintro _ _ _ _ ⟨xs, y, rfl, ⟨d, n, B, _, h, _⟩, _⟩
  omega
theorem no_pKD : ∀ args st P PE, ¬ spF (pKD 0) args st P PE := by
  rintro _ _ _ _ ⟨xs, y, rfl, ⟨k, _, h, _⟩, _⟩
  have := k.dep_pos
  omega
theorem no_pCK : ∀ args st P PE, ¬ spF (pCK 0) args st P PE := by
  rintro _ _ _ _ ⟨xs, y, rfl, ⟨k, _, h, _⟩, _⟩
  have := k.dep_pos
  omega
theorem no_preNB : ∀ args st P PE, ¬ spR (preNB 0) relNB args st P PE := by
  rintro _ _ _ _ ⟨xs, rfl, ⟨k, _, h, _⟩, _⟩
  have := k.dep_pos
  omega
theorem no_pLK : ∀ args st P PE, ¬ spS (pLK 0) args st P PE := by
  rintro _ _ _ _ ⟨i, rest, R, rfl, _, ⟨r, ns, deep, _, _, _, h1, h2, _⟩, _⟩
  omega
theorem no_pFd : ∀ args st P PE, ¬ spF (pFd 0) args st P PE := by
  rintro _ _ _ _ ⟨xs, y, rfl, ⟨d, B, _, h, _⟩, _⟩
  omega
theorem no_pMs : ∀ args st P PE, ¬ spF (pMs 0) args st P PE := by
  rintro _ _ _ _ ⟨xs, y, rfl, ⟨k, _, h, _⟩, _⟩
  have := k.dep_pos
  omega
theorem no_pSp : ∀ args st P PE, ¬ spR (pSp 0) (rSp 0) args st P PE := by
  rintro _ _ _ _ ⟨xs, rfl, ⟨ks, m, _, _, _, _, h, _⟩, _⟩
  omega
section
variable {P : Program} {w : World} {K : PySem.W.Frag} {mg : Str → Option Value} {base : Heap}
/-- a promise that asks what nothing is -/
theorem has_no {x : Str} {st : Stmt} {ps : List Str} {k : Nat} {sp : SpD} (h : Fn1 K mg x st)
    (hb : ∀ (kV doc pm : Value) (an : Option Addr) (cdv ct : Value) (us : List Value), us.length = ps.length → bindArgs (PySem.W.fnOf x x (defArgs st) (defBody st) (defScope st) .none kV doc pm an cdv ct) ⟨us, []⟩ = pure (ps.zip us))
    (ar : ∀ args st P PE, sp args st P PE → args.length = ps.length) (no : ∀ args st P PE, ¬ sp args st P PE) : Has P w K mg base k x ps sp := by
  obtain ⟨f, fd, hm, Fu⟩ := h
  exact ⟨⟨f, fd, hm, Fu.kp, Fu.binds hb, ⟨fun vs H Q E ⟨_, _, _, args, _, _, hl, _, hv, _⟩ => hv.length.trans hl, fun A outer s H args us vs Q E _ _ _ _ ⟨_, _, _, _, _, _, _, _, _, hsp, _⟩ => (no _ _ _ _ hsp).elim⟩⟩, ar⟩
theorem h_is_written_name (T : Txt K w mg) : Has P w K mg base 1 "is_written_name" p_is_written_name (spF pWn) :=
  has_of T.f_is_written_name S_is_written_name (fun _ _ _ _ _ _ us hl => match us, hl with | [_], _ => rfl) (by rintro _ _ _ _ ⟨xs, y, rfl, ⟨_, h, _⟩, _⟩; subst h; rfl) keeps_is_written_name (fun f cdv A outer s H E EE hr => d_is_written_name T  f cdv A outer s H E EE hr)
theorem h_is_named (T : Txt K w mg) : Has P w K mg base 2 "is_named" p_is_named (spF pNm) :=
  has_of T.f_is_named S_is_named (fun _ _ _ _ _ _ us hl => match us, hl with | [_], _ => rfl) (by rintro _ _ _ _ ⟨xs, y, rfl, ⟨_, h, _⟩, _⟩; subst h; rfl) keeps_is_named (fun f cdv A outer s H E EE hr => d_is_named T ((h_is_written_name T).mono (by omega)) f cdv A outer s H E EE hr)
theorem h_is_kind_formed (T : Txt K w mg) : ∀ l, Has P w K mg base (l + 3) "is_kind_formed" p_is_kind_formed (spF (pKf l))
  | 0 => has_no T.f_is_kind_formed (fun _ _ _ _ _ _ us hl => match us, hl with | [_, _], _ => rfl) (by rintro _ _ _ _ ⟨xs, y, rfl, ⟨_, _, _, h, _⟩, _⟩; subst h; rfl) no_pKf
  | l + 1 => by
    have ih := h_is_kind_formed T l
    exact has_of T.f_is_kind_formed S_is_kind_formed (fun _ _ _ _ _ _ us hl => match us, hl with | [_, _], _ => rfl) (by rintro _ _ _ _ ⟨xs, y, rfl, ⟨_, _, _, h, _⟩, _⟩; subst h; rfl) (keeps_is_kind_formed l) (fun f cdv A outer s H E EE hr => d_is_kind_formed T (ih.mono (by omega)) ((h_is_named T).mono (by omega)) f cdv A outer s H E EE hr)
theorem h_kinds_in (T : Txt K w mg) : Has P w K mg base 1 "kinds_in" p_kinds_in (spF pKI) :=
  has_of T.f_kinds_in S_kinds_in (fun _ _ _ _ _ _ us hl => match us, hl with | [_], _ => rfl) (by rintro _ _ _ _ ⟨xs, y, rfl, ⟨_, h, _⟩, _⟩; subst h; rfl) keeps_kinds_in (fun f cdv A outer s H E EE hr => d_kinds_in T  f cdv A outer s H E EE hr)
theorem h_kind_depth (T : Txt K w mg) : ∀ l, Has P w K mg base (l + 2) "kind_depth" p_kind_depth (spF (pKD l))
  | 0 => has_no T.f_kind_depth (fun _ _ _ _ _ _ us hl => match us, hl with | [_], _ => rfl) (by rintro _ _ _ _ ⟨xs, y, rfl, ⟨_, h, _⟩, _⟩; subst h; rfl) no_pKD
  | l + 1 => by
    have ih := h_kind_depth T l
    exact has_of T.f_kind_depth S_kind_depth (fun _ _ _ _ _ _ us hl => match us, hl with | [_], _ => rfl) (by rintro _ _ _ _ ⟨xs, y, rfl, ⟨_, h, _⟩, _⟩; subst h; rfl) (keeps_kind_depth l) (fun f cdv A outer s H E EE hr => d_kind_depth T ((h_kinds_in T).mono (by omega)) (ih.mono (by omega)) f cdv A outer s H E EE hr)
theorem h_count_kinds (T : Txt K w mg) : ∀ l, Has P w K mg base (l + 2) "count_kinds" p_count_kinds (spF (pCK l))
  | 0 => has_no T.f_count_kinds (fun _ _ _ _ _ _ us hl => match us, hl with | [_], _ => rfl) (by rintro _ _ _ _ ⟨xs, y, rfl, ⟨_, h, _⟩, _⟩; subst h; rfl) no_pCK
  | l + 1 => by
    have ih := h_count_kinds T l
    exact has_of T.f_count_kinds S_count_kinds (fun _ _ _ _ _ _ us hl => match us, hl with | [_], _ => rfl) (by rintro _ _ _ _ ⟨xs, y, rfl, ⟨_, h, _⟩, _⟩; subst h; rfl) (keeps_count_kinds l) (fun f cdv A outer s H E EE hr => d_count_kinds T ((h_kinds_in T).mono (by omega)) (ih.mono (by omega)) f cdv A outer s H E EE hr)
theorem h_is_kinded (T : Txt K w mg) : Has P w K mg base 35 "is_kinded" p_is_kinded (spF pKd) :=
  has_of T.f_is_kinded S_is_kinded (fun _ _ _ _ _ _ us hl => match us, hl with | [_], _ => rfl) (by rintro _ _ _ _ ⟨xs, y, rfl, ⟨_, _, h, _⟩, _⟩; subst h; rfl) keeps_is_kinded (fun f cdv A outer s H E EE hr => d_is_kinded T ((h_count_kinds T 30).mono (by omega)) ((h_is_kind_formed T 31).mono (by omega)) f cdv A outer s H E EE hr)
theorem h_names_by (T : Txt K w mg) : ∀ l, Has P w K mg base (l + 2) "names_by" p_names_by (spR (preNB l) relNB)
  | 0 => has_no T.f_names_by (fun _ _ _ _ _ _ us hl => match us, hl with | [_], _ => rfl) (by rintro _ _ _ _ ⟨xs, rfl, ⟨_, h, _⟩, _⟩; subst h; rfl) no_preNB
  | l + 1 => by
    have ih := h_names_by T l
    exact has_of T.f_names_by S_names_by (fun _ _ _ _ _ _ us hl => match us, hl with | [_], _ => rfl) (by rintro _ _ _ _ ⟨xs, rfl, ⟨_, h, _⟩, _⟩; subst h; rfl) (keeps_names_by l) (fun f cdv A outer s H E EE hr => d_names_by T ((h_kinds_in T).mono (by omega)) (ih.mono (by omega)) f cdv A outer s H E EE hr)
theorem h_check_kind (T : Txt K w mg) : Has P w K mg base 36 "check_kind" p_check_kind (spF pCh) :=
  has_of T.f_check_kind S_check_kind (fun _ _ _ _ _ _ us hl => match us, hl with | [_], _ => rfl) (by rintro _ _ _ _ ⟨xs, y, rfl, ⟨_, _, h, _⟩, _⟩; subst h; rfl) keeps_check_kind (fun f cdv A outer s H E EE hr => d_check_kind T ((h_is_kinded T).mono (by omega)) f cdv A outer s H E EE hr)
theorem h_is_name (T : Txt K w mg) : Has P w K mg base 3 "is_name" p_is_name (spF pNm) :=
  has_of T.f_is_name S_is_name (fun _ _ _ _ _ _ us hl => match us, hl with | [_], _ => rfl) (by rintro _ _ _ _ ⟨xs, y, rfl, ⟨_, h, _⟩, _⟩; subst h; rfl) keeps_is_name (fun f cdv A outer s H E EE hr => d_is_name T ((h_is_named T).mono (by omega)) f cdv A outer s H E EE hr)
theorem hk_is_name (T : Txt K w mg) : HasK P w K mg base 3 "is_name" p_is_name (spF pNm) ["value"] [0] :=
  hasKw_of T.f_is_name S_is_name (fun _ _ _ _ _ _ us hl => match us, hl with | [_], _ => rfl) (by rintro _ _ _ _ ⟨xs, y, rfl, ⟨_, h, _⟩, _⟩; subst h; rfl) keeps_is_name (fun f cdv A outer s H E EE hr => d_is_name T ((h_is_named T).mono (by omega)) f cdv A outer s H E EE hr)
theorem h_is_kind (T : Txt K w mg) : Has P w K mg base 36 "is_kind" p_is_kind (spF pKd) :=
  has_of T.f_is_kind S_is_kind (fun _ _ _ _ _ _ us hl => match us, hl with | [_], _ => rfl) (by rintro _ _ _ _ ⟨xs, y, rfl, ⟨_, _, h, _⟩, _⟩; subst h; rfl) keeps_is_kind (fun f cdv A outer s H E EE hr => d_is_kind T ((h_is_kinded T).mono (by omega)) f cdv A outer s H E EE hr)
theorem hk_is_kind (T : Txt K w mg) : HasK P w K mg base 36 "is_kind" p_is_kind (spF pKd) ["value"] [0] :=
  hasKw_of T.f_is_kind S_is_kind (fun _ _ _ _ _ _ us hl => match us, hl with | [_], _ => rfl) (by rintro _ _ _ _ ⟨xs, y, rfl, ⟨_, _, h, _⟩, _⟩; subst h; rfl) keeps_is_kind (fun f cdv A outer s H E EE hr => d_is_kind T ((h_is_kinded T).mono (by omega)) f cdv A outer s H E EE hr)
theorem h_depth_of_kind (T : Txt K w mg) : Has P w K mg base 37 "depth_of_kind" p_depth_of_kind (spF pDk) :=
  has_of T.f_depth_of_kind S_depth_of_kind (fun _ _ _ _ _ _ us hl => match us, hl with | [_], _ => rfl) (by rintro _ _ _ _ ⟨xs, y, rfl, ⟨_, _, h, _⟩, _⟩; subst h; rfl) keeps_depth_of_kind (fun f cdv A outer s H E EE hr => d_depth_of_kind T ((h_kind_depth T 30).mono (by omega)) ((h_check_kind T).mono (by omega)) f cdv A outer s H E EE hr)
theorem hk_depth_of_kind (T : Txt K w mg) : HasK P w K mg base 37 "depth_of_kind" p_depth_of_kind (spF pDk) ["kind"] [0] :=
  hasKw_of T.f_depth_of_kind S_depth_of_kind (fun _ _ _ _ _ _ us hl => match us, hl with | [_], _ => rfl) (by rintro _ _ _ _ ⟨xs, y, rfl, ⟨_, _, h, _⟩, _⟩; subst h; rfl) keeps_depth_of_kind (fun f cdv A outer s H E EE hr => d_depth_of_kind T ((h_kind_depth T 30).mono (by omega)) ((h_check_kind T).mono (by omega)) f cdv A outer s H E EE hr)
theorem h_parts_of_kind (T : Txt K w mg) : Has P w K mg base 37 "parts_of_kind" p_parts_of_kind (spF pPk') :=
  has_of T.f_parts_of_kind S_parts_of_kind (fun _ _ _ _ _ _ us hl => match us, hl with | [_], _ => rfl) (by rintro _ _ _ _ ⟨xs, y, rfl, ⟨_, _, h, _⟩, _⟩; subst h; rfl) keeps_parts_of_kind (fun f cdv A outer s H E EE hr => d_parts_of_kind T ((h_count_kinds T 30).mono (by omega)) ((h_check_kind T).mono (by omega)) f cdv A outer s H E EE hr)
theorem hk_parts_of_kind (T : Txt K w mg) : HasK P w K mg base 37 "parts_of_kind" p_parts_of_kind (spF pPk') ["kind"] [0] :=
  hasKw_of T.f_parts_of_kind S_parts_of_kind (fun _ _ _ _ _ _ us hl => match us, hl with | [_], _ => rfl) (by rintro _ _ _ _ ⟨xs, y, rfl, ⟨_, _, h, _⟩, _⟩; subst h; rfl) keeps_parts_of_kind (fun f cdv A outer s H E EE hr => d_parts_of_kind T ((h_count_kinds T 30).mono (by omega)) ((h_check_kind T).mono (by omega)) f cdv A outer s H E EE hr)
theorem h_names_in (T : Txt K w mg) : Has P w K mg base 37 "names_in" p_names_in (spR pNi rNi) :=
  has_of T.f_names_in S_names_in (fun _ _ _ _ _ _ us hl => match us, hl with | [_], _ => rfl) (by rintro _ _ _ _ ⟨xs, rfl, ⟨_, _, _, h, _⟩, _⟩; subst h; rfl) keeps_names_in (fun f cdv A outer s H E EE hr => d_names_in T ((h_names_by T 30).mono (by omega)) ((h_check_kind T).mono (by omega)) f cdv A outer s H E EE hr)
theorem hk_names_in (T : Txt K w mg) : HasK P w K mg base 37 "names_in" p_names_in (spR pNi rNi) ["kind"] [0] :=
  hasKw_of T.f_names_in S_names_in (fun _ _ _ _ _ _ us hl => match us, hl with | [_], _ => rfl) (by rintro _ _ _ _ ⟨xs, rfl, ⟨_, _, _, h, _⟩, _⟩; subst h; rfl) keeps_names_in (fun f cdv A outer s H E EE hr => d_names_in T ((h_names_by T 30).mono (by omega)) ((h_check_kind T).mono (by omega)) f cdv A outer s H E EE hr)
theorem h_law_well (T : Txt K w mg) : Has P w K mg base 1 "_law_well" p_law_well sp_well :=
  has_of T.f_law_well S_law_well (fun _ _ _ _ _ _ us hl => match us, hl with | [_, _], _ => rfl) (by rintro _ _ _ _ ⟨_, _, rfl, _⟩; rfl) keeps_law_well (fun f cdv A outer s H E EE hr => d_law_well T  f cdv A outer s H E EE hr)
theorem h_law_draw (T : Txt K w mg) : Has P w K mg base 1 "_law_draw" p_law_draw (spS pDr) :=
  has_of T.f_law_draw S_law_draw (fun _ _ _ _ _ _ us hl => match us, hl with | [_, _], _ => rfl) (by rintro _ _ _ _ ⟨i, rest, R, rfl, _, ⟨_, h, _⟩, _⟩; subst h; rfl) keeps_law_draw (fun f cdv A outer s H E EE hr => d_law_draw T  f cdv A outer s H E EE hr)
theorem h_law_pick (T : Txt K w mg) : Has P w K mg base 2 "_law_pick" p_law_pick (spS pPk) :=
  has_of T.f_law_pick S_law_pick (fun _ _ _ _ _ _ us hl => match us, hl with | [_, _], _ => rfl) (by rintro _ _ _ _ ⟨i, rest, R, rfl, _, ⟨_, _, h, _⟩, _⟩; subst h; rfl) keeps_law_pick (fun f cdv A outer s H E EE hr => d_law_pick T ((h_law_draw T).mono (by omega)) f cdv A outer s H E EE hr)
theorem h_law_same (T : Txt K w mg) : Has P w K mg base 1 "_law_same" p_law_same (spF pSm) :=
  has_of T.f_law_same S_law_same (fun _ _ _ _ _ _ us hl => match us, hl with | [_, _], _ => rfl) (by rintro _ _ _ _ ⟨xs, y, rfl, ⟨_, h, _⟩, _⟩; subst h; rfl) keeps_law_same (fun f cdv A outer s H E EE hr => d_law_same T  f cdv A outer s H E EE hr)
theorem h_law_odd (T : Txt K w mg) : Has P w K mg base 3 "_law_odd" p_law_odd (spS pOd) :=
  has_of T.f_law_odd S_law_odd (fun _ _ _ _ _ _ us hl => match us, hl with | [_], _ => rfl) (by rintro _ _ _ _ ⟨i, rest, R, rfl, _, ⟨h, _⟩, _⟩; subst h; rfl) keeps_law_odd (fun f cdv A outer s H E EE hr => d_law_odd T ((h_law_pick T).mono (by omega)) f cdv A outer s H E EE hr)
theorem h_law_written (T : Txt K w mg) : Has P w K mg base 3 "_law_written" p_law_written (spS pWr) :=
  has_of T.f_law_written S_law_written (fun _ _ _ _ _ _ us hl => match us, hl with | [_], _ => rfl) (by rintro _ _ _ _ ⟨i, rest, R, rfl, _, ⟨h, _⟩, _⟩; subst h; rfl) keeps_law_written (fun f cdv A outer s H E EE hr => d_law_written T ((h_law_pick T).mono (by omega)) ((h_law_draw T).mono (by omega)) f cdv A outer s H E EE hr)
theorem h_law_long_name (T : Txt K w mg) : Has P w K mg base 4 "_law_long_name" p_law_long_name (spS pLn) :=
  has_of T.f_law_long_name S_law_long_name (fun _ _ _ _ _ _ us hl => match us, hl with | [_], _ => rfl) (by rintro _ _ _ _ ⟨i, rest, R, rfl, _, ⟨h, _⟩, _⟩; subst h; rfl) keeps_law_long_name (fun f cdv A outer s H E EE hr => d_law_long_name T ((h_law_draw T).mono (by omega)) ((h_law_pick T).mono (by omega)) ((h_law_written T).mono (by omega)) f cdv A outer s H E EE hr)
theorem h_law_kind (T : Txt K w mg) : ∀ l, Has P w K mg base (l + 3) "_law_kind" p_law_kind (spS (pLK l))
  | 0 => has_no T.f_law_kind (fun _ _ _ _ _ _ us hl => match us, hl with | [_, _, _], _ => rfl) (by rintro _ _ _ _ ⟨i, rest, R, rfl, _, ⟨_, _, _, h, _⟩, _⟩; subst h; rfl) no_pLK
  | l + 1 => by
    have ih := h_law_kind T l
    exact has_of T.f_law_kind S_law_kind (fun _ _ _ _ _ _ us hl => match us, hl with | [_, _, _], _ => rfl) (by rintro _ _ _ _ ⟨i, rest, R, rfl, _, ⟨_, _, _, h, _⟩, _⟩; subst h; rfl) (keeps_law_kind l) (fun f cdv A outer s H E EE hr => d_law_kind T (ih.mono (by omega)) ((h_law_pick T).mono (by omega)) ((h_law_draw T).mono (by omega)) f cdv A outer s H E EE hr)
theorem h_law_is_written (T : Txt K w mg) : Has P w K mg base 1 "_law_is_written" p_law_is_written (spF pWn) :=
  has_of T.f_law_is_written S_law_is_written (fun _ _ _ _ _ _ us hl => match us, hl with | [_], _ => rfl) (by rintro _ _ _ _ ⟨xs, y, rfl, ⟨_, h, _⟩, _⟩; subst h; rfl) keeps_law_is_written (fun f cdv A outer s H E EE hr => d_law_is_written T  f cdv A outer s H E EE hr)
theorem h_law_is_name (T : Txt K w mg) : Has P w K mg base 2 "_law_is_name" p_law_is_name (spF pNm) :=
  has_of T.f_law_is_name S_law_is_name (fun _ _ _ _ _ _ us hl => match us, hl with | [_], _ => rfl) (by rintro _ _ _ _ ⟨xs, y, rfl, ⟨_, h, _⟩, _⟩; subst h; rfl) keeps_law_is_name (fun f cdv A outer s H E EE hr => d_law_is_name T ((h_law_is_written T).mono (by omega)) f cdv A outer s H E EE hr)
theorem h_law_is_headed (T : Txt K w mg) : Has P w K mg base 1 "_law_is_headed" p_law_is_headed (spF pHd) :=
  has_of T.f_law_is_headed S_law_is_headed (fun _ _ _ _ _ _ us hl => match us, hl with | [_, _, _], _ => rfl) (by rintro _ _ _ _ ⟨xs, y, rfl, ⟨_, _, _, h, _⟩, _⟩; subst h; rfl) keeps_law_is_headed (fun f cdv A outer s H E EE hr => d_law_is_headed T  f cdv A outer s H E EE hr)
theorem h_law_is_formed (T : Txt K w mg) : ∀ l, Has P w K mg base (l + 3) "_law_is_formed" p_law_is_formed (spF (pFd l))
  | 0 => has_no T.f_law_is_formed (fun _ _ _ _ _ _ us hl => match us, hl with | [_], _ => rfl) (by rintro _ _ _ _ ⟨xs, y, rfl, ⟨_, _, h, _⟩, _⟩; subst h; rfl) no_pFd
  | l + 1 => by
    have ih := h_law_is_formed T l
    exact has_of T.f_law_is_formed S_law_is_formed (fun _ _ _ _ _ _ us hl => match us, hl with | [_], _ => rfl) (by rintro _ _ _ _ ⟨xs, y, rfl, ⟨_, _, h, _⟩, _⟩; subst h; rfl) (keeps_law_is_formed l) (fun f cdv A outer s H E EE hr => d_law_is_formed T ((h_law_is_name T).mono (by omega)) ((h_law_is_headed T).mono (by omega)) (ih.mono (by omega)) f cdv A outer s H E EE hr)
theorem h_law_measures (T : Txt K w mg) : ∀ l, Has P w K mg base (l + 1) "_law_measures" p_law_measures (spF (pMs l))
  | 0 => has_no T.f_law_measures (fun _ _ _ _ _ _ us hl => match us, hl with | [_], _ => rfl) (by rintro _ _ _ _ ⟨xs, y, rfl, ⟨_, h, _⟩, _⟩; subst h; rfl) no_pMs
  | l + 1 => by
    have ih := h_law_measures T l
    exact has_of T.f_law_measures S_law_measures (fun _ _ _ _ _ _ us hl => match us, hl with | [_], _ => rfl) (by rintro _ _ _ _ ⟨xs, y, rfl, ⟨_, h, _⟩, _⟩; subst h; rfl) (keeps_law_measures l) (fun f cdv A outer s H E EE hr => d_law_measures T (ih.mono (by omega)) f cdv A outer s H E EE hr)
theorem h_law_is_kind (T : Txt K w mg) : Has P w K mg base 115 "_law_is_kind" p_law_is_kind (spF pLk) :=
  has_of T.f_law_is_kind S_law_is_kind (fun _ _ _ _ _ _ us hl => match us, hl with | [_], _ => rfl) (by rintro _ _ _ _ ⟨xs, y, rfl, ⟨_, _, _, h, _⟩, _⟩; subst h; rfl) keeps_law_is_kind (fun f cdv A outer s H E EE hr => d_law_is_kind T ((h_law_measures T 110).mono (by omega)) ((h_law_is_formed T 111).mono (by omega)) f cdv A outer s H E EE hr)
theorem h_law_bent (T : Txt K w mg) : Has P w K mg base 4 "_law_bent" p_law_bent (spS pBn) :=
  has_of T.f_law_bent S_law_bent (fun _ _ _ _ _ _ us hl => match us, hl with | [_, _], _ => rfl) (by rintro _ _ _ _ ⟨i, rest, R, rfl, _, ⟨_, _, h, _⟩, _⟩; subst h; rfl) keeps_law_bent (fun f cdv A outer s H E EE hr => d_law_bent T ((h_law_odd T).mono (by omega)) ((h_law_draw T).mono (by omega)) ((h_law_pick T).mono (by omega)) f cdv A outer s H E EE hr)
theorem h_law_spoilt (T : Txt K w mg) : Has P w K mg base 5 "_law_spoilt" p_law_spoilt (spS pBn) :=
  has_of T.f_law_spoilt S_law_spoilt (fun _ _ _ _ _ _ us hl => match us, hl with | [_, _], _ => rfl) (by rintro _ _ _ _ ⟨i, rest, R, rfl, _, ⟨_, _, h, _⟩, _⟩; subst h; rfl) keeps_law_spoilt (fun f cdv A outer s H E EE hr => d_law_spoilt T ((h_law_bent T).mono (by omega)) ((h_law_draw T).mono (by omega)) f cdv A outer s H E EE hr)
theorem h_law_near_name (T : Txt K w mg) : Has P w K mg base 3 "_law_near_name" p_law_near_name (spS pNn) :=
  has_of T.f_law_near_name S_law_near_name (fun _ _ _ _ _ _ us hl => match us, hl with | [_, _], _ => rfl) (by rintro _ _ _ _ ⟨i, rest, R, rfl, _, ⟨_, h, _⟩, _⟩; subst h; rfl) keeps_law_near_name (fun f cdv A outer s H E EE hr => d_law_near_name T ((h_law_draw T).mono (by omega)) ((h_law_pick T).mono (by omega)) f cdv A outer s H E EE hr)
theorem h_law_tower (T : Txt K w mg) : Has P w K mg base 10 "_law_tower" p_law_tower (spS pGk) :=
  has_of T.f_law_tower S_law_tower (fun _ _ _ _ _ _ us hl => match us, hl with | [_], _ => rfl) (by rintro _ _ _ _ ⟨i, rest, R, rfl, _, ⟨h, _⟩, _⟩; subst h; rfl) keeps_law_tower (fun f cdv A outer s H E EE hr => d_law_tower T ((h_law_pick T).mono (by omega)) ((h_law_kind T 6).mono (by omega)) ((h_law_long_name T).mono (by omega)) f cdv A outer s H E EE hr)
theorem h_law_spread (T : Txt K w mg) : ∀ l, Has P w K mg base (l + 1) "_law_spread" p_law_spread (spR (pSp l) (rSp l))
  | 0 => has_no T.f_law_spread (fun _ _ _ _ _ _ us hl => match us, hl with | [_, _], _ => rfl) (by rintro _ _ _ _ ⟨xs, rfl, ⟨_, _, h, _⟩, _⟩; subst h; rfl) no_pSp
  | l + 1 => by
    have ih := h_law_spread T l
    exact has_of T.f_law_spread S_law_spread (fun _ _ _ _ _ _ us hl => match us, hl with | [_, _], _ => rfl) (by rintro _ _ _ _ ⟨xs, rfl, ⟨_, _, h, _⟩, _⟩; subst h; rfl) (keeps_law_spread l) (fun f cdv A outer s H E EE hr => d_law_spread T (ih.mono (by omega)) f cdv A outer s H E EE hr)
theorem h_law_wide (T : Txt K w mg) : Has P w K mg base 13 "_law_wide" p_law_wide (spS pGk) :=
  has_of T.f_law_wide S_law_wide (fun _ _ _ _ _ _ us hl => match us, hl with | [_], _ => rfl) (by rintro _ _ _ _ ⟨i, rest, R, rfl, _, ⟨h, _⟩, _⟩; subst h; rfl) keeps_law_wide (fun f cdv A outer s H E EE hr => d_law_wide T ((h_law_spread T 11).mono (by omega)) ((h_law_pick T).mono (by omega)) ((h_law_kind T 6).mono (by omega)) ((h_law_long_name T).mono (by omega)) f cdv A outer s H E EE hr)
theorem h_law_is_judged (T : Txt K w mg) : Has P w K mg base 116 "_law_is_judged" p_law_is_judged (spF pJd) :=
  has_of T.f_law_is_judged S_law_is_judged (fun _ _ _ _ _ _ us hl => match us, hl with | [_, _], _ => rfl) (by rintro _ _ _ _ ⟨xs, y, rfl, ⟨_, _, _, _, h, _⟩, _⟩; subst h; rfl) keeps_law_is_judged (fun f cdv A outer s H E EE hr => d_law_is_judged T ((h_law_same T).mono (by omega)) ((h_is_kind T).mono (by omega)) ((h_is_name T).mono (by omega)) ((h_law_is_kind T).mono (by omega)) ((h_law_is_name T).mono (by omega)) ((hk_is_kind T).mono (by omega)) ((hk_is_name T).mono (by omega)) f cdv A outer s H E EE hr)
theorem h_law_is_told (T : Txt K w mg) : Has P w K mg base 112 "_law_is_told" p_law_is_told (spF pTd) :=
  has_of T.f_law_is_told S_law_is_told (fun _ _ _ _ _ _ us hl => match us, hl with | [_], _ => rfl) (by rintro _ _ _ _ ⟨xs, y, rfl, ⟨_, _, _, h, _⟩, _⟩; subst h; rfl) keeps_law_is_told (fun f cdv A outer s H E EE hr => d_law_is_told T ((h_law_same T).mono (by omega)) ((h_names_in T).mono (by omega)) ((h_parts_of_kind T).mono (by omega)) ((h_depth_of_kind T).mono (by omega)) ((h_law_measures T 110).mono (by omega)) ((hk_names_in T).mono (by omega)) ((hk_parts_of_kind T).mono (by omega)) ((hk_depth_of_kind T).mono (by omega)) f cdv A outer s H E EE hr)
theorem h_law_names_right (T : Txt K w mg) : Has P w K mg base 117 "_law_names_right" p_law_names_right (spS pRt) :=
  has_of T.f_law_names_right S_law_names_right (fun _ _ _ _ _ _ us hl => match us, hl with | [_], _ => rfl) (by rintro _ _ _ _ ⟨i, rest, R, rfl, _, ⟨h, _⟩, _⟩; subst h; rfl) keeps_law_names_right (fun f cdv A outer s H E EE hr => d_law_names_right T ((h_law_near_name T).mono (by omega)) ((h_law_is_judged T).mono (by omega)) ((h_law_draw T).mono (by omega)) ((h_law_long_name T).mono (by omega)) f cdv A outer s H E EE hr)
theorem h_law_right (T : Txt K w mg) : Has P w K mg base 118 "_law_right" p_law_right (spS pRt) :=
  has_of T.f_law_right S_law_right (fun _ _ _ _ _ _ us hl => match us, hl with | [_], _ => rfl) (by rintro _ _ _ _ ⟨i, rest, R, rfl, _, ⟨h, _⟩, _⟩; subst h; rfl) keeps_law_right (fun f cdv A outer s H E EE hr => d_law_right T ((h_law_odd T).mono (by omega)) ((h_law_spoilt T).mono (by omega)) ((h_law_is_judged T).mono (by omega)) ((h_law_draw T).mono (by omega)) ((h_law_is_told T).mono (by omega)) ((h_law_is_kind T).mono (by omega)) ((h_law_names_right T).mono (by omega)) ((h_law_kind T 6).mono (by omega)) ((h_law_pick T).mono (by omega)) ((h_law_written T).mono (by omega)) ((h_law_long_name T).mono (by omega)) ((h_law_tower T).mono (by omega)) ((h_law_wide T).mono (by omega)) f cdv A outer s H E EE hr)
theorem h_law (T : Txt K w mg) : Has P w K mg base 119 "law" p_law sp_law :=
  has_of T.f_law S_law (fun _ _ _ _ _ _ us hl => match us, hl with | [_], _ => rfl) (by rintro _ _ _ _ ⟨_, rfl, _⟩; rfl) keeps_law (fun f cdv A outer s H E EE hr => d_law T ((h_law_right T).mono (by omega)) ((h_law_well T).mono (by omega)) f cdv A outer s H E EE hr)
theorem law_fn {fa : Addr} (T : Txt K w mg) (hfa : mg "law" = some (.ref fa)) :
    ∃ fd : FuncData, (∀ (s : Shared) (u : Value), BindsTo s fd ⟨[u], []⟩ [("script", u)]) ∧ ∀ base : Heap, K.In base → base.Ns mainGlobals mg → FnG P w K mg base CX0 119 fa fd ["script"] (spV K mg 1 sp_law) := by
  obtain ⟨f, fd, hm, Fu⟩ := T.f_law
  have e : f = fa := by
    rw [hm] at hfa
    cases hfa
    rfl
  subst e
  have ar : ∀ args st P PE, sp_law args st P PE → args.length = 1 := (by rintro _ _ _ _ ⟨_, rfl, _⟩; rfl)
  refine ⟨fd, fun s u => ?_, fun base _ _ => ?_⟩
  · obtain ⟨oc, od, kV, doc, pm, an, cdv, ct, osl, rfl, lk, hcd⟩ := Fu.ex
    exact .of_eq rfl
  · exact fn_keep (k := 118) Fu S_law ar keeps_law (fun cdv A outer s H E EE hr => d_law T ((h_law_right T).mono (by omega)) ((h_law_well T).mono (by omega)) f cdv A outer s H E EE hr)
end
end DL.K02
/-! text K02T -/
open PySem PySem.W PyProof.Rows
set_option maxHeartbeats 0 in
theorem PySem.Challenge.cw_holekinds_k02_names_and_kinds_of_anythin_holds : PySem.Challenge.rw_holekinds_k02_names_and_kinds_of_anythin.Holds := by
  w_on; o_law; k_head; (case hw => w_witness2)
  k_fill
  refine DL.walkD (l := PySem.Challenge.rw_holekinds_k02_names_and_kinds_of_anythin) (n := 63) (k := 119) (x := "script") (sp := DL.K02.sp_law) rfl (by decide) rfl ⟨rfl, rfl, by decide, by decide⟩ (fun w h Y => PySem.W.kIn_of Y) ?F (fun ns PE hl => ⟨ns, rfl, hl, fun _ => rfl⟩)
  case F =>
    intro w mg fa h KX G hmg
    refine' DL.K02.law_fn (DL.K02.txt_mk KX G ?a0 ?l0 ?c0 ?k0 ?a1 ?l1 ?c1 ?k1 ?a2 ?l2 ?c2 ?k2 ?a3 ?l3 ?c3 ?k3 ?a4 ?l4 ?c4 ?k4 ?a5 ?l5 ?c5 ?k5 ?a6 ?l6 ?c6 ?k6 ?a7 ?l7 ?c7 ?k7 ?a8 ?l8 ?c8 ?k8 ?a9 ?l9 ?c9 ?k9 ?a10 ?l10 ?c10 ?k10 ?a11 ?l11 ?c11 ?k11 ?a12 ?l12 ?c12 ?k12 ?a13 ?l13 ?c13 ?k13 ?a14 ?l14 ?c14 ?k14 ?a15 ?l15 ?c15 ?k15 ?a16 ?l16 ?c16 ?k16 ?a17 ?l17 ?c17 ?k17 ?a18 ?l18 ?c18 ?k18 ?a19 ?l19 ?c19 ?k19 ?a20 ?l20 ?c20 ?k20 ?a21 ?l21 ?c21 ?k21 ?a22 ?l22 ?c22 ?k22 ?a23 ?l23 ?c23 ?k23 ?a24 ?l24 ?c24 ?k24 ?a25 ?l25 ?c25 ?k25 ?a26 ?l26 ?c26 ?k26 ?a27 ?l27 ?c27 ?k27 ?a28 ?l28 ?c28 ?k28 ?a29 ?l29 ?c29 ?k29 ?a30 ?l30 ?c30 ?k30 ?a31 ?l31 ?c31 ?k31 ?a32 ?l32 ?c32 ?k32 ?a33 ?l33 ?c33 ?k33 ?a34 ?l34 ?c34 ?k34 ?a35 ?l35 ?c35 ?k35 ?a36 ?l36 ?c36 ?k36 ?a37 ?l37 ?c37 ?k37 ?a38 ?l38 ?c38 ?k38 ?z0 ?z1 ?z2 ?z3 ?z4 ?z5 ?z6 ?z7 ?z8 ?z9 ?z10 ?z11 ?z12 ?z13 ?z14 ?z15 ?da0 ?dl0 ?dq0 ?ds0 ?gg0 ?gg1 ?gg2 ?gg3 ?gg4 ?gg5 ?gg6) hmg
    (case a0 => k_is)
    (case l0 => k_is)
    (case c0 => k_is)
    (case k0 => k_is)
    (case a1 => k_is)
    (case l1 => k_is)
    (case c1 => k_is)
    (case k1 => k_is)
    (case a2 => k_is)
    (case l2 => k_is)
    (case c2 => k_is)
    (case k2 => k_is)
    (case a3 => k_is)
    (case l3 => k_is)
    (case c3 => k_is)
    (case k3 => k_is)
    (case a4 => k_is)
    (case l4 => k_is)
    (case c4 => k_is)
    (case k4 => k_is)
    (case a5 => k_is)
    (case l5 => k_is)
    (case c5 => k_is)
    (case k5 => k_is)
    (case a6 => k_is)
    (case l6 => k_is)
    (case c6 => k_is)
    (case k6 => k_is)
    (case a7 => k_is)
    (case l7 => k_is)
    (case c7 => k_is)
    (case k7 => k_is)
    (case a8 => k_is)
    (case l8 => k_is)
    (case c8 => k_is)
    (case k8 => k_is)
    (case a9 => k_is)
    (case l9 => k_is)
    (case c9 => k_is)
    (case k9 => k_is)
    (case a10 => k_is)
    (case l10 => k_is)
    (case c10 => k_is)
    (case k10 => k_is)
    (case a11 => k_is)
    (case l11 => k_is)
    (case c11 => k_is)
    (case k11 => k_is)
    (case a12 => k_is)
    (case l12 => k_is)
    (case c12 => k_is)
    (case k12 => k_is)
    (case a13 => k_is)
    (case l13 => k_is)
    (case c13 => k_is)
    (case k13 => k_is)
    (case a14 => k_is)
    (case l14 => k_is)
    (case c14 => k_is)
    (case k14 => k_is)
    (case a15 => k_is)
    (case l15 => k_is)
    (case c15 => k_is)
    (case k15 => k_is)
    (case a16 => k_is)
    (case l16 => k_is)
    (case c16 => k_is)
    (case k16 => k_is)
    (case a17 => k_is)
    (case l17 => k_is)
    (case c17 => k_is)
    (case k17 => k_is)
    (case a18 => k_is)
    (case l18 => k_is)
    (case c18 => k_is)
    (case k18 => k_is)
    (case a19 => k_is)
    (case l19 => k_is)
    (case c19 => k_is)
    (case k19 => k_is)
    (case a20 => k_is)
    (case l20 => k_is)
    (case c20 => k_is)
    (case k20 => k_is)
    (case a21 => k_is)
    (case l21 => k_is)
    (case c21 => k_is)
    (case k21 => k_is)
    (case a22 => k_is)
    (case l22 => k_is)
    (case c22 => k_is)
    (case k22 => k_is)
    (case a23 => k_is)
    (case l23 => k_is)
    (case c23 => k_is)
    (case k23 => k_is)
    (case a24 => k_is)
    (case l24 => k_is)
    (case c24 => k_is)
    (case k24 => k_is)
    (case a25 => k_is)
    (case l25 => k_is)
    (case c25 => k_is)
    (case k25 => k_is)
    (case a26 => k_is)
    (case l26 => k_is)
    (case c26 => k_is)
    (case k26 => k_is)
    (case a27 => k_is)
    (case l27 => k_is)
    (case c27 => k_is)
    (case k27 => k_is)
    (case a28 => k_is)
    (case l28 => k_is)
    (case c28 => k_is)
    (case k28 => k_is)
    (case a29 => k_is)
    (case l29 => k_is)
    (case c29 => k_is)
    (case k29 => k_is)
    (case a30 => k_is)
    (case l30 => k_is)
    (case c30 => k_is)
    (case k30 => k_is)
    (case a31 => k_is)
    (case l31 => k_is)
    (case c31 => k_is)
    (case k31 => k_is)
    (case a32 => k_is)
    (case l32 => k_is)
    (case c32 => k_is)
    (case k32 => k_is)
    (case a33 => k_is)
    (case l33 => k_is)
    (case c33 => k_is)
    (case k33 => k_is)
    (case a34 => k_is)
    (case l34 => k_is)
    (case c34 => k_is)
    (case k34 => k_is)
    (case a35 => k_is)
    (case l35 => k_is)
    (case c35 => k_is)
    (case k35 => k_is)
    (case a36 => k_is)
    (case l36 => k_is)
    (case c36 => k_is)
    (case k36 => k_is)
    (case a37 => k_is)
    (case l37 => k_is)
    (case c37 => k_is)
    (case k37 => k_is)
    (case a38 => k_is)
    (case l38 => k_is)
    (case c38 => k_is)
    (case k38 => k_is)
    (case z0 => k_is)
    (case z1 => k_is)
    (case z2 => k_is)
    (case z3 => k_is)
    (case z4 => k_is)
    (case z5 => k_is)
    (case z6 => k_is)
    (case z7 => k_is)
    (case z8 => k_is)
    (case z9 => k_is)
    (case z10 => k_is)
    (case z11 => k_is)
    (case z12 => k_is)
    (case z13 => k_is)
    (case z14 => k_is)
    (case z15 => k_is)
    (case da0 => k_is)
    (case dl0 => k_is)
    (case dq0 => first | k_is | (simp only [KeysLit]; exact ⟨⟨_, _, rfl, rfl⟩, ⟨_, _, rfl, rfl⟩, ⟨_, _, rfl, rfl⟩, ⟨_, _, rfl, rfl⟩, ⟨_, _, rfl, rfl⟩, trivial⟩))
    (case ds0 => first | rfl | decide | k_is)
    (case gg0 => k_is)
    (case gg1 => k_is)
    (case gg2 => k_is)
    (case gg3 => k_is)
    (case gg4 => k_is)
    (case gg5 => k_is)
    (case gg6 => k_is)
