import PyProof.Rows.All
import Wide.All
import OpenK.AllK
import Wide.FinOn
import HandS.ForMost
import PySem.Challenge.RW_holekinds_k20_whole_kinds_and_books_by_h
import HandS.Small
import HandS.Conv
import HandS.StrMore
import KE.DataEq
import KE.OsSortAny
import HandS.TupAny
import HandS.Deep
import HandS.IsInst
import HandS.RaiseMore
import KE.KDictPairs
import HandS.DictTup
import HandS.SortOrd
import HandS.Keys
import KE.GoesMore
import PyProof.EnumMake
import PyProof.EnumFor
import HandS.More
import HandS.RaiseOp
import HandS.WrittenGet
import HandS.Style
import PyProof.StrLawsChain
import PyProof.StrLawsIn
import PyProof.StrLawsLast
import PyProof.StrLawsRepr
import PyProof.ReprText
/-! text DLCore -/
set_option Elab.async false
set_option linter.all false
set_option maxRecDepth 100000
/-! Data, slots, a store of changeable objects; what Python constructs ask, over data alone. -/
namespace DL
open PySem
/-- what a slot or an expression has: frozen data, a changeable object, a def, the script -/
inductive DV where
  | d (x : PyData)
  | loc (n : Nat)
  | fn (f : Str)
  | scr (ns : List Int)
/-- a changeable object (its parts are data), or one that is frozen -/
inductive Cell where
  | lst (xs : List PyData)
  | dct (kvs : List (PyData × PyData))
  | frz (x : PyData)
  | ins (c : Str) (fs : List (Str × DV))
abbrev Env := List (Option DV)
abbrev Store := List Cell
structure Exn where
  cls : Str
  fs : List (Str × DV)
abbrev RK := DV → Store → Prop
abbrev EK := Exn → Store → Prop
abbrev WE := Env → Store → RK → Prop
abbrev WT := Env → Store → (Bool → Store → Prop) → Prop
abbrev WA := Env → Store → (List DV → Store → Prop) → Prop
structure Fin where
  nx : Env → Store → Prop
  rt : RK
  bk : Env → Store → Prop
  ct : Env → Store → Prop
abbrev WS := Fin → Env → Store → Prop
abbrev SpD := List DV → Store → RK → EK → Prop
abbrev WG := DV → Env → Store → (Env → Store → Prop) → Prop
def optK {α : Type} (o : Option α) (k : α → Prop) : Prop := match o with
  | some a => k a
  | none => False
theorem optK_some {α : Type} {a : α} {k : α → Prop} : optK (some a) k = k a := rfl
theorem optK_elim {α : Type} {o : Option α} {k : α → Prop} (h : optK o k) : ∃ a, o = some a ∧ k a := by
  cases o with
  | none => exact h.elim
  | some a => exact ⟨a, rfl, h⟩
theorem optK_intro {α : Type} {o : Option α} {k : α → Prop} {a : α} (e : o = some a) (h : k a) : optK o k := by
  subst e; exact h
/-- the data that a thing is just now -/
def rd (st : Store) : DV → Option PyData
  | .d x => some x
  | .loc n => match st[n]? with
    | some (.lst xs) => some (.list xs)
    | some (.dct kvs) => some (.dict kvs)
    | some (.frz x) => some x
    | _ => none
  | _ => none
/-- several at once -/
def rds (st : Store) : List DV → Option (List PyData)
  | [] => some []
  | v :: r => match rd st v, rds st r with
    | some x, some xs => some (x :: xs)
    | _, _ => none
/-- frozen data alone -/
def frs : List DV → Option (List PyData)
  | [] => some []
  | .d x :: r => match frs r with
    | some xs => some (x :: xs)
    | none => none
  | _ :: _ => none
def lim : Nat := 16777216
/-- rows of a book: pairs, each led by a text that begins with a capital -/
def bookRow : PyData → Bool
  | .tuple [.str n, _] => (match n.cps.toList with
    | c :: _ => decide (65 ≤ c) && decide (c ≤ 90)
    | [] => false)
  | _ => false
def bookish (xs : List PyData) : Bool := !xs.isEmpty && xs.all bookRow
/-! ### expressions -/
def wVar (i : Nat) : WE := fun env st Q => match env[i]? with
  | some (some v) => Q v st
  | _ => False
def wC (x : PyData) : WE := fun _ st Q => Q (.d x) st
def wFn (f : Str) : WE := fun _ st Q => Q (.fn f) st
abbrev B2 := PyData → PyData → Option PyData
abbrev B1 := PyData → Option PyData
def wBin (op : B2) (fa fb : WE) : WE := fun env st Q => fa env st fun r1 st1 => fb env st1 fun r2 st2 =>
  optK (rd st2 r1) fun a => optK (rd st2 r2) fun b => optK (op a b) fun c => Q (.d c) st2
def wUn (op : B1) (fa : WE) : WE := fun env st Q => fa env st fun r1 st1 => optK (rd st1 r1) fun a => optK (op a) fun c => Q (.d c) st1
/-- a built-in function or method of frozen answers: several arguments -/
def wOpN (op : List PyData → Option PyData) (fs : WA) : WE := fun env st Q => fs env st fun rs st1 => optK (rds st1 rs) fun xs => optK (op xs) fun c => Q (.d c) st1
def wNil : WA := fun _ st Q => Q [] st
def wCons (fa : WE) (fr : WA) : WA := fun env st Q => fa env st fun r st1 => fr env st1 fun rs st2 => Q (r :: rs) st2
def wTup (fs : WA) : WE := fun env st Q => fs env st fun rs st1 => optK (DL.frs rs) fun xs => xs.length ≤ lim ∧ Q (.d (.tuple xs)) st1
def wLst (fs : WA) : WE := fun env st Q => fs env st fun rs st1 => optK (DL.frs rs) fun xs => xs.length ≤ lim ∧ Q (.d (.list xs)) st1
/-- a list that will be changed -/
def wLstM (fs : WA) : WE := fun env st Q => fs env st fun rs st1 => optK (DL.frs rs) fun xs => xs.length ≤ lim ∧ Q (.loc st1.length) (st1 ++ [.lst xs])
def wDctM : WE := fun _ st Q => Q (.loc st.length) (st ++ [.dct []])
/-- a changeable object is not changed any more -/
def frzC : Cell → Cell
  | .lst xs => .frz (.list xs)
  | .dct kvs => .frz (.dict kvs)
  | c => c
def wFrz (fa : WE) : WE := fun env st Q => fa env st fun r st1 => match r with
  | .loc n => optK (rd st1 (.loc n)) fun x => Q (.d x) (st1.modify n frzC)
  | v => Q v st1
def wIfE (t : WT) (fa fb : WE) : WE := fun env st Q => t env st fun b st1 => if b = true then fa env st1 Q else fb env st1 Q
def wCall (sp : SpD) (E : EK) (fs : WA) : WE := fun env st Q => fs env st fun rs st1 => sp rs st1 Q E
def asB : PyData → Option Bool
  | .bool b => some b
  | _ => none
def oNot : B1 := fun x => (asB x).map fun b => .bool (!b)
def wAndV (fa fb : WE) : WE := fun env st Q => fa env st fun r st1 => optK (rd st1 r) fun x => optK (asB x) fun b => if b = true then fb env st1 Q else Q (.d (.bool false)) st1
def wOrV (fa fb : WE) : WE := fun env st Q => fa env st fun r st1 => optK (rd st1 r) fun x => optK (asB x) fun b => if b = true then Q (.d (.bool true)) st1 else fb env st1 Q
/-- a op b op' c -/
def wChain (op op' : B2) (fa fb fc : WE) : WE := fun env st Q => fa env st fun r1 st1 => fb env st1 fun r2 st2 => optK (rd st2 r1) fun a => optK (rd st2 r2) fun b => optK (op a b) fun x => optK (asB x) fun k =>
  if k = true then fc env st2 fun r3 st3 => optK (rd st3 r2) fun b' => optK (rd st3 r3) fun c => optK (op' b' c) fun y => Q (.d y) st3 else Q (.d (.bool false)) st2
/-- the script may be looked at, too -/
def rdS (st : Store) : DV → Option PyData
  | .scr ns => some (.list (ns.map .int))
  | v => rd st v
def wBinS (op : B2) (fa fb : WE) : WE := fun env st Q => fa env st fun r1 st1 => fb env st1 fun r2 st2 =>
  optK (rdS st2 r1) fun a => optK (rd st2 r2) fun b => optK (op a b) fun c => Q (.d c) st2
def wUnS (op : B1) (fa : WE) : WE := fun env st Q => fa env st fun r1 st1 => optK (rdS st1 r1) fun a => optK (op a) fun c => Q (.d c) st1
/-- x[lo:hi] -/
abbrev WO := Env → Store → (Option Int → Store → Prop) → Prop
def wON : WO := fun _ st Q => Q none st
def asI : PyData → Option Int
  | .int i => some i
  | _ => none
def wOS (fa : WE) : WO := fun env st Q => fa env st fun r st1 => optK (rd st1 r) fun x => optK (asI x) fun i => Q (some i) st1
def wSl (op : PyData → Option Int → Option Int → Option PyData) (fa : WE) (lo hi : WO) : WE := fun env st Q => fa env st fun r st1 => lo env st1 fun l st2 => hi env st2 fun h st3 => optK (rdS st3 r) fun a => optK (op a l h) fun c => Q (.d c) st3
/-- o.m(..) of a frozen answer -/
def wMt (op : PyData → List PyData → Option PyData) (fa : WE) (fs : WA) : WE := fun env st Q => fa env st fun r st1 => fs env st1 fun rs st2 => optK (rd st2 r) fun a => optK (rds st2 rs) fun xs => optK (op a xs) fun c => Q (.d c) st2
/-- o.m(..) that changes o, a list -/
def isL : PyData → Bool
  | .list _ => true
  | _ => false
def wMtM (op : Cell → List PyData → Option (PyData × Cell)) (fa : WE) (fs : WA) : WE := fun env st Q => fa env st fun r st1 => optK (rd st1 r) fun a0 => isL a0 = true ∧ fs env st1 fun rs st2 => match r with
  | .loc n => optK st2[n]? fun c => optK (DL.frs rs) fun xs => optK (op c xs) fun p => Q (.d p.1) (st2.set n p.2)
  | _ => False
/-! ### tests -/
def wT (fa : WE) : WT := fun env st Q => fa env st fun r st1 => optK (rd st1 r) fun x => optK (asB x) fun b => Q b st1
def truthOf : PyData → Option Bool
  | .none => some false
  | .bool b => some b
  | .int i => some (i != 0)
  | .str x => some (x.length != 0)
  | .list xs => some (!xs.isEmpty)
  | .tuple xs => some (!xs.isEmpty)
  | .dict xs => some (!xs.isEmpty)
def wTr (fa : WE) : WT := fun env st Q => fa env st fun r st1 => optK (rd st1 r) fun x => optK (truthOf x) fun b => Q b st1
def wNot (t : WT) : WT := fun env st Q => t env st fun b st1 => Q (!b) st1
def wAnd (t u : WT) : WT := fun env st Q => t env st fun b st1 => if b = true then u env st1 Q else Q false st1
def wOr (t u : WT) : WT := fun env st Q => t env st fun b st1 => if b = true then Q true st1 else u env st1 Q
def wYes : WT := fun _ st Q => Q true st
/-! ### targets -/
def gN (i : Nat) : WG := fun v env st Q => Q (env.set i (some v)) st
abbrev WGs := List PyData → Env → Store → (Env → Store → Prop) → Prop
def gNil : WGs := fun xs env st Q => match xs with
  | [] => Q env st
  | _ => False
def gCons (g : WG) (gs : WGs) : WGs := fun xs env st Q => match xs with
  | x :: r => g (.d x) env st fun env1 st1 => gs r env1 st1 Q
  | [] => False
/-- a tuple (or list) of frozen things taken apart -/
def gTup (gs : WGs) : WG := fun v env st Q => optK (rd st v) fun x => match x with
  | .tuple xs => gs xs env st Q
  | _ => False
/-- .. of m parts -/
def gTupN (m : Nat) (gs : WGs) : WG := fun v env st Q => optK (rd st v) fun x => match x with
  | .tuple xs => xs.length = m ∧ gs xs env st Q
  | _ => False
/-- the cell at n becomes c -/
def putC (st : Store) (n : Nat) (c : Cell) : Store := st.set n c
/-- keys alike (ints and texts) -/
def keyEq : PyData → PyData → Bool
  | .int i, .int j => i == j
  | .str x, .str y => x == y
  | _, _ => false
def isKey : PyData → Bool
  | .int _ => true
  | .str _ => true
  | _ => false
def lookK (kvs : List (PyData × PyData)) (k : PyData) : Option PyData := match kvs with
  | [] => none
  | p :: r => if keyEq p.1 k = true then some p.2 else lookK r k
def putK (kvs : List (PyData × PyData)) (k v : PyData) : List (PyData × PyData) :=
  if (kvs.any fun p => keyEq p.1 k) = true then kvs.map (fun p => if keyEq p.1 k = true then (p.1, v) else p) else kvs ++ [(k, v)]
/-- o[i] = v -/
def setAt (st : Store) (o : DV) (i v : PyData) : Option Store := match o with
  | .loc n => match st[n]?, i with
    | some (.lst xs), .int j => (L2.ixN xs.length j).map fun k => st.set n (.lst (xs.set k v))
    | some (.dct kvs), k => if isKey k = true ∧ kvs.length < lim then some (st.set n (.dct (putK kvs k v))) else none
    | _, _ => none
  | _ => none
def gSub (fo fi : WE) : WG := fun v env st Q => fo env st fun o st1 => fi env st1 fun i st2 => match v with
  | .d x => optK (rd st2 i) fun k => optK (setAt st2 o k x) fun st3 => Q env st3
  | _ => False
/-! ### statements -/
def wSkip : WS := fun D env st => D.nx env st
def wSeq (t u : WS) : WS := fun D env st => t { D with nx := u D } env st
def wExpr (fa : WE) : WS := fun D env st => fa env st fun _ st1 => D.nx env st1
def wRet (fa : WE) : WS := fun D env st => fa env st D.rt
def wRetN : WS := fun D _ st => D.rt (.d .none) st
def wAsg (fa : WE) (g : WG) : WS := fun D env st => fa env st fun r st1 => g r env st1 D.nx
def wIf (t : WT) (a b : WS) : WS := fun D env st => t env st fun c st1 => if c = true then a D env st1 else b D env st1
def wBrk : WS := fun D env st => D.bk env st
def wCnt : WS := fun D env st => D.ct env st
def wNever : WS := fun _ _ _ => False
/-- name, name = x, y -/
def wPar (i j : Nat) (fa fb : WE) : WS := fun D env st => fa env st fun r st1 => fb env st1 fun q st2 => D.nx ((env.set i (some r)).set j (some q)) st2
/-- for target in items: body -/
def forGo (g : WG) (body : WS) (D : Fin) : List DV → Env → Store → Prop
  | [], env, st => D.nx env st
  | x :: xs, env, st => g x env st fun env1 st1 => body { D with nx := forGo g body D xs, ct := forGo g body D xs, bk := D.nx } env1 st1
/-- what is walked: the items, told once -/
abbrev WI := Env → Store → (List DV → Store → Prop) → Prop
def wFor (wi : WI) (g : WG) (body : WS) : WS := fun D env st => wi env st fun xs st1 => forGo g body D xs env st1
def wWhile (t : WT) (body : WS) : WS := fun D env st => ∃ W : Nat → Env → Store → Prop, (∃ m, W m env st) ∧ ∀ m env st, W m env st →
  t env st fun b st1 => if b = true then body { D with nx := fun e s => ∃ m', m' < m ∧ W m' e s, ct := fun e s => ∃ m', m' < m ∧ W m' e s, bk := D.nx } env st1 else D.nx env st1
/-- items of a frozen (or owned) list or tuple -/
def itemsOf : PyData → Option (List PyData)
  | .list xs => some xs
  | .tuple xs => some xs
  | _ => none
def iSeq (fa : WE) : WI := fun env st Q => fa env st fun r st1 => match r with
  | .d x => optK (itemsOf x) fun xs => Q (xs.map DV.d) st1
  | _ => False
/-! ### comprehensions -/
def wipeE (env : Env) : List Nat → Env
  | [] => env
  | i :: r => (wipeE env r).set i none
def lcGo (g : WG) (tt : WT) (te : WE) (env : Env) (Q : List PyData → Store → Prop) : List DV → List PyData → Store → Prop
  | [], acc, st => Q acc st
  | x :: xs, acc, st => g x env st fun env1 st1 => tt env1 st1 fun b st2 => if b = true then te env1 st2 fun r st3 => (match r with
      | .d y => lcGo g tt te env Q xs (acc ++ [y]) st3
      | _ => False) else lcGo g tt te env Q xs acc st2
def wLc (wi : WI) (g : WG) (tt : WT) (te : WE) (own : List Nat) : WE := fun env st Q => wi env st fun xs st1 => lcGo g tt te (wipeE env own) (fun ys st2 => Q (.d (.list ys)) st2) xs [] st1
/-! ### defs -/
def startE (n : Nat) (args : List DV) : Env := args.map some ++ List.replicate (n - args.length) none
def retK (n0 : Nat) (Q : RK) : RK := fun r st => match r with
  | .loc m => if m < n0 then Q (.loc m) (st.take n0) else optK st[m]? fun c => Q (.loc n0) (st.take n0 ++ [c])
  | v => Q v (st.take n0)
def finOf (n0 : Nat) (Q : RK) : Fin := ⟨fun _ st => retK n0 Q (.d .none) st, retK n0 Q, fun _ _ => False, fun _ _ => False⟩
/-- a body (n slots) keeps a promise -/
def Keeps (n : Nat) (sp : SpD) (body : EK → WS) : Prop := ∀ args st Q E, sp args st Q E → body E (finOf st.length Q) (startE n args) st
end DL
/-! text DLSound -/
set_option maxHeartbeats 4000000
/-! What the data of DL is in the heap; the rules of DL's words over the hand layer. -/
namespace DL
open PySem PySem.Spec PyProof.Rows L2
def keyD : Key → PyData
  | .inl i => .int i
  | .inr x => .str x
/-- a plain tuple: no dict of its own -/
def PlT (K : PySem.W.Frag) (F : Hp) (a : Addr) : Prop := ∃ o : Obj, o.dict = none ∧ ((∃ u, F a = some (.frz o (.tup u))) ∨ K.lookup a = some o)
structure SqB (K : PySem.W.Frag) (F : Hp) (a : Addr) (xs : List V) (ds : List PyData) : Prop where
  sq : SqT K F a xs
  pt : bookish ds = true → PlT K F a
mutual
inductive Rp (K : PySem.W.Frag) (F : Hp) : V → PyData → Prop
  | non : Rp K F .non .none
  | bl (b : Bool) : Rp K F (.bl b) (.bool b)
  | int (i : Int) : Rp K F (.int i) (.int i)
  | str (x : Str) : Rp K F (.str x) (.str x)
  | lst {a : Addr} {xs : List V} {ds : List PyData} : F a = some (.lst xs) → RpAll K F xs ds → Rp K F (.ref a) (.list ds)
  | tup {a : Addr} {xs : List V} {ds : List PyData} : SqB K F a xs ds → RpAll K F xs ds → Rp K F (.ref a) (.tuple ds)
  | dct {a : Addr} {kvs : List (Key × V)} {ds : List (PyData × PyData)} : F a = some (.dK kvs) → RpKv K F kvs ds → Rp K F (.ref a) (.dict ds)
inductive RpAll (K : PySem.W.Frag) (F : Hp) : List V → List PyData → Prop
  | nil : RpAll K F [] []
  | cons {v : V} {vs : List V} {d : PyData} {ds : List PyData} : Rp K F v d → RpAll K F vs ds → RpAll K F (v :: vs) (d :: ds)
inductive RpKv (K : PySem.W.Frag) (F : Hp) : List (Key × V) → List (PyData × PyData) → Prop
  | nil : RpKv K F [] []
  | cons {k : Key} {v : V} {r : List (Key × V)} {e : PyData} {rs : List (PyData × PyData)} : Rp K F v e → RpKv K F r rs → RpKv K F ((k, v) :: r) ((keyD k, e) :: rs)
end
abbrev LeH (F F' : Hp) : Prop := ∀ a u, F a = some u → F' a = some u
theorem LeH.refl (F : Hp) : LeH F F := fun _ _ h => h
theorem LeH.trans {F F1 F2 : Hp} (a : LeH F F1) (b : LeH F1 F2) : LeH F F2 := fun x u h => b x u (a x u h)
theorem sqL_keep {K : PySem.W.Frag} {H H' : Hp} (k : LeH H H') {a : Addr} {xs : List V} (h : SqL K H a xs) : SqL K H' a xs := by
  rcases h with (h | ⟨o, h⟩) | h
  · exact .inl (.inl (k _ _ h))
  · exact .inl (.inr ⟨o, k _ _ h⟩)
  · exact .inr h
theorem sqT_le {K : PySem.W.Frag} {F F' : Hp} (le : LeH F F') {a : Addr} {xs : List V} (h : SqT K F a xs) : SqT K F' a xs := by
  rcases h with (h | ⟨o, h⟩) | h
  · exact .inl (.inl (le _ _ h))
  · exact .inl (.inr ⟨o, le _ _ h⟩)
  · exact .inr h
theorem PlT.le {K : PySem.W.Frag} {F F' : Hp} {a : Addr} (le : LeH F F') (h : PlT K F a) : PlT K F' a :=
  let ⟨o, d, h⟩ := h
  ⟨o, d, h.elim (fun ⟨u, z⟩ => .inl ⟨u, le _ _ z⟩) .inr⟩
theorem sqB_le {K : PySem.W.Frag} {F F' : Hp} (le : LeH F F') {a : Addr} {xs : List V} {ds : List PyData} (h : SqB K F a xs ds) : SqB K F' a xs ds := ⟨sqT_le le h.sq, fun z => (h.pt z).le le⟩
theorem SqB.no {K : PySem.W.Frag} {F : Hp} {a : Addr} {xs : List V} {ds : List PyData} (h : SqT K F a xs) (b : bookish ds = false) : SqB K F a xs ds := ⟨h, fun z => by rw [b] at z; cases z⟩
mutual
theorem Rp.le {K : PySem.W.Frag} {F F' : Hp} (le : LeH F F') : ∀ (d : PyData) (v : V), Rp K F v d → Rp K F' v d
  | .none, _, h => by cases h; exact .non
  | .bool _, _, h => by cases h; exact .bl _
  | .int _, _, h => by cases h; exact .int _
  | .str _, _, h => by cases h; exact .str _
  | .list ds, _, h => by
    cases h with
    | lst e r => exact .lst (le _ _ e) (RpAll.le le ds _ r)
  | .tuple ds, _, h => by
    cases h with
    | tup e r => exact .tup (sqB_le le e) (RpAll.le le ds _ r)
  | .dict ds, _, h => by
    cases h with
    | dct e r => exact .dct (le _ _ e) (RpKv.le le ds _ r)
theorem RpAll.le {K : PySem.W.Frag} {F F' : Hp} (le : LeH F F') : ∀ (ds : List PyData) (vs : List V), RpAll K F vs ds → RpAll K F' vs ds
  | [], _, h => by cases h; exact .nil
  | d :: ds, _, h => by
    cases h with
    | cons r rs => exact .cons (Rp.le le d _ r) (RpAll.le le ds _ rs)
theorem RpKv.le {K : PySem.W.Frag} {F F' : Hp} (le : LeH F F') : ∀ (ds : List (PyData × PyData)) (vs : List (Key × V)), RpKv K F vs ds → RpKv K F' vs ds
  | [], _, h => by cases h; exact .nil
  | (_, e) :: ds, _, h => by
    cases h with
    | cons r rs => exact .cons (Rp.le le e _ r) (RpKv.le le ds _ rs)
end
theorem RpAll.length {K : PySem.W.Frag} {F : Hp} : ∀ {ds : List PyData} {vs : List V}, RpAll K F vs ds → vs.length = ds.length
  | [], _, h => by cases h; rfl
  | _ :: _, _, h => by
    cases h with
    | cons r rs => simp [RpAll.length rs]
theorem RpKv.length {K : PySem.W.Frag} {F : Hp} : ∀ {ds : List (PyData × PyData)} {vs : List (Key × V)}, RpKv K F vs ds → vs.length = ds.length
  | [], _, h => by cases h; rfl
  | _ :: _, _, h => by
    cases h with
    | cons r rs => simp [RpKv.length rs]
theorem RpAll.get {K : PySem.W.Frag} {F : Hp} : ∀ {ds : List PyData} {vs : List V} {i : Nat} {x : PyData}, RpAll K F vs ds → ds[i]? = some x → ∃ v, vs[i]? = some v ∧ Rp K F v x
  | [], _, _, _, _, e => by simp at e
  | d :: ds, _, 0, x, h, e => by
    cases h with
    | cons r rs => simp at e; subst e; exact ⟨_, rfl, r⟩
  | d :: ds, _, i + 1, x, h, e => by
    cases h with
    | cons r rs =>
      obtain ⟨v, h1, h2⟩ := RpAll.get (i := i) rs (by simpa using e)
      exact ⟨v, by simpa using h1, h2⟩
theorem RpAll.append {K : PySem.W.Frag} {F : Hp} : ∀ {ds es : List PyData} {vs us : List V}, RpAll K F vs ds → RpAll K F us es → RpAll K F (vs ++ us) (ds ++ es)
  | [], _, _, _, h, g => by cases h; exact g
  | _ :: _, _, _, _, h, g => by
    cases h with
    | cons r rs => exact .cons r (RpAll.append rs g)
theorem RpAll.take {K : PySem.W.Frag} {F : Hp} : ∀ {ds : List PyData} {vs : List V} (n : Nat), RpAll K F vs ds → RpAll K F (vs.take n) (ds.take n)
  | _, _, 0, _ => .nil
  | [], _, _ + 1, h => by cases h; exact .nil
  | _ :: _, _, n + 1, h => by
    cases h with
    | cons r rs => exact .cons r (RpAll.take n rs)
theorem RpAll.drop {K : PySem.W.Frag} {F : Hp} : ∀ {ds : List PyData} {vs : List V} (n : Nat), RpAll K F vs ds → RpAll K F (vs.drop n) (ds.drop n)
  | _, _, 0, h => h
  | [], _, _ + 1, h => by cases h; exact .nil
  | _ :: _, _, n + 1, h => by
    cases h with
    | cons r rs => exact RpAll.drop n rs
theorem RpAll.set {K : PySem.W.Frag} {F : Hp} {v : V} {d : PyData} (q : Rp K F v d) : ∀ {ds : List PyData} {vs : List V} (n : Nat), RpAll K F vs ds → RpAll K F (vs.set n v) (ds.set n d)
  | [], _, _, h => by cases h; exact .nil
  | _ :: _, _, 0, h => by
    cases h with
    | cons r rs => exact .cons q rs
  | _ :: _, _, n + 1, h => by
    cases h with
    | cons r rs => exact .cons r (RpAll.set q n rs)
/-! ### the heap's state -/
/-- what is frozen stands (a dict may be walked just now) -/
def FLe (F H : Hp) : Prop := ∀ a u, F a = some u → H a = some u ∨ ∃ kvs o, u = .dK kvs ∧ H a = some (.frz o u)
def DVR (K : PySem.W.Frag) (mg : Str → Option Value) (F : Hp) (ad : List Addr) (v : V) : DV → Prop
  | .d x => Rp K F v x
  | .loc n => ∃ a, v = .ref a ∧ ad[n]? = some a
  | .fn f => ∃ a, v = .ref a ∧ mg f = some (.ref a)
  | .scr ns => ∃ a, v = .ref a ∧ SqL K F a (ns.map V.int)
def CellR (K : PySem.W.Frag) (mg : Str → Option Value) (F H : Hp) (ad : List Addr) (a : Addr) : Cell → Prop
  | .lst xs => F a = none ∧ ∃ vs, H a = some (.lst vs) ∧ RpAll K F vs xs
  | .dct kvs => F a = none ∧ ∃ vs, H a = some (.dK vs) ∧ RpKv K F vs kvs
  | .frz x => Rp K F (.ref a) x
  | .ins _ _ => True
structure Rel (K : PySem.W.Frag) (mg : Str → Option Value) (F H : Hp) (ad : List Addr) (st : Store) : Prop where
  fl : FLe F H
  len : ad.length = st.length
  nd : ad.Nodup
  live : ∀ a ∈ ad, H a ≠ none
  cell : ∀ (i : Nat) (a : Addr) (c : Cell), ad[i]? = some a → st[i]? = some c → CellR K mg F H ad a c
structure Ext (F H : Hp) (ad : List Addr) (F' H' : Hp) (ad' : List Addr) : Prop where
  le : LeH F F'
  new : ∀ a, F' a ≠ none → F a ≠ none ∨ H a = none ∨ a ∈ ad
  app : ∃ more, ad' = ad ++ more ∧ ∀ a ∈ more, H a = none
  keep : ∀ a o, H a = some o → a ∉ ad ∨ F a ≠ none → H' a = some o ∨ (F a = some o ∧ ∃ kvs ob, o = .dK kvs ∧ H' a = some (.frz ob o))
  there : ∀ a, H' a = none → H a = none
def EnvR (K : PySem.W.Frag) (mg : Str → Option Value) (F : Hp) (ad : List Addr) (σ : L2.St) (env : Env) : Prop :=
  env.length = σ.length ∧ ∀ (i : Nat) (dv : DV), env[i]? = some (some dv) → ∃ v, σ[i]? = some (some v) ∧ DVR K mg F ad v dv
structure Now (K : PySem.W.Frag) (mg : Str → Option Value) (σ : L2.St) (F H : Hp) (ad : List Addr) (env : Env) (st : Store) : Prop where
  rel : Rel K mg F H ad st
  env : EnvR K mg F ad σ env
section
variable {K : PySem.W.Frag} {mg : Str → Option Value} {F H F' H' F1 H1 : Hp} {ad ad' ad1 : List Addr} {st st' : Store} {σ : L2.St} {env : Env}
theorem Ext.refl (F H : Hp) (ad : List Addr) : Ext F H ad F H ad := ⟨LeH.refl F, fun _ h => .inl h, ⟨[], by simp, fun _ h => by simp at h⟩, fun _ _ h _ => .inl h, fun _ h => h⟩
theorem Ext.trans (x : Ext F H ad F1 H1 ad1) (y : Ext F1 H1 ad1 F' H' ad') : Ext F H ad F' H' ad' := by
  obtain ⟨m1, e1, f1⟩ := x.app
  obtain ⟨m2, e2, f2⟩ := y.app
  have nin : ∀ a, H a ≠ none → a ∉ ad → a ∉ ad1 := fun a hn ha => by
    rw [e1]; intro hm
    rcases List.mem_append.mp hm with h | h
    · exact ha h
    · exact hn (f1 a h)
  refine ⟨x.le.trans y.le, fun a h => ?_, ⟨m1 ++ m2, by rw [e2, e1, List.append_assoc], fun a h => ?_⟩, fun a o h ha => ?_, fun a h => x.there a (y.there a h)⟩
  · by_cases hH : H a = none
    · exact .inr (.inl hH)
    · by_cases ha : a ∈ ad
      · exact .inr (.inr ha)
      · rcases y.new a h with z | z | z
        · rcases x.new a z with w | w | w
          · exact .inl w
          · exact .inr (.inl w)
          · exact .inr (.inr w)
        · exact absurd (x.there a z) hH
        · exact absurd z (nin a hH ha)
  · rcases List.mem_append.mp h with h | h
    · exact f1 a h
    · exact x.there a (f2 a h)
  · have nn : a ∉ ad1 ∨ F1 a ≠ none := by
      rcases ha with ha | ha
      · exact .inl (nin a (by rw [h]; simp) ha)
      · obtain ⟨o', ho'⟩ := Option.ne_none_iff_exists'.mp ha
        exact .inr (by rw [x.le a o' ho']; simp)
    rcases x.keep a o h ha with h1 | ⟨fa, kvs, ob, ek, h1⟩
    · rcases y.keep a o h1 nn with h2 | ⟨fa, kvs, ob, ek, h2⟩
      · exact .inl h2
      · refine .inr ⟨?_, kvs, ob, ek, h2⟩
        have z : F a ≠ none := by
          rcases x.new a (by rw [fa]; simp) with z | z | z
          · exact z
          · rw [h] at z; cases z
          · rcases ha with ha | ha
            · exact absurd z ha
            · exact ha
        obtain ⟨o', ho'⟩ := Option.ne_none_iff_exists'.mp z
        rw [x.le a o' ho'] at fa
        cases fa
        exact ho'
    · rcases y.keep a _ h1 nn with h2 | ⟨_, _, _, z, _⟩
      · exact .inr ⟨fa, kvs, ob, ek, h2⟩
      · cases z
theorem Ext.adGet (x : Ext F H ad F' H' ad') {n : Nat} {a : Addr} (h : ad[n]? = some a) : ad'[n]? = some a := by
  obtain ⟨m, e, _⟩ := x.app
  rw [e, List.getElem?_append_left (List.getElem?_eq_some_iff.mp h).1]
  exact h
theorem DVR.ext (x : Ext F H ad F' H' ad') {v : V} {r : DV} (h : DVR K mg F ad v r) : DVR K mg F' ad' v r := by
  cases r with
  | d y => exact Rp.le x.le y v h
  | loc n => obtain ⟨a, e, h⟩ := h; exact ⟨a, e, x.adGet h⟩
  | fn f => exact h
  | scr ns => obtain ⟨a, e, h⟩ := h; exact ⟨a, e, sqL_keep x.le h⟩
theorem EnvR.ext (x : Ext F H ad F' H' ad') (h : EnvR K mg F ad σ env) : EnvR K mg F' ad' σ env :=
  ⟨h.1, fun i dv e => let ⟨v, e1, r⟩ := h.2 i dv e; ⟨v, e1, r.ext x⟩⟩
theorem EnvR.set {i : Nat} {v : V} {r : DV} (h : EnvR K mg F ad σ env) (q : DVR K mg F ad v r) : EnvR K mg F ad (σ.set i (some v)) (env.set i (some r)) := by
  refine ⟨by simp [h.1], fun j dv e => ?_⟩
  by_cases hj : i = j
  · subst hj
    have hl : i < env.length := by
      have := (List.getElem?_eq_some_iff.mp e).1
      simpa using this
    rw [List.getElem?_set_self hl] at e
    cases e
    exact ⟨v, List.getElem?_set_self (by rw [← h.1]; exact hl), q⟩
  · rw [List.getElem?_set_ne hj] at e
    rw [List.getElem?_set_ne hj]
    exact h.2 j dv e
theorem EnvR.unset {i : Nat} (h : EnvR K mg F ad σ env) : EnvR K mg F ad (σ.set i none) (env.set i none) := by
  refine ⟨by simp [h.1], fun j dv e => ?_⟩
  by_cases hj : i = j
  · subst hj
    have hl : i < env.length := by
      have := (List.getElem?_eq_some_iff.mp e).1
      simpa using this
    rw [List.getElem?_set_self hl] at e
    cases e
  · rw [List.getElem?_set_ne hj] at e
    rw [List.getElem?_set_ne hj]
    exact h.2 j dv e
theorem EnvR.wipe (h : EnvR K mg F ad σ env) : ∀ vs : List Nat, EnvR K mg F ad (L2.wipe σ vs) (wipeE env vs)
  | [] => h
  | v :: vs => (EnvR.wipe h vs).unset
/-! ### what is seen just now -/
inductive Vw (K : PySem.W.Frag) (F H : Hp) : V → PyData → Prop
  | non : Vw K F H .non .none
  | bl (b : Bool) : Vw K F H (.bl b) (.bool b)
  | int (i : Int) : Vw K F H (.int i) (.int i)
  | str (x : Str) : Vw K F H (.str x) (.str x)
  | lst {a : Addr} {xs : List V} {ds : List PyData} : H a = some (.lst xs) → RpAll K F xs ds → Vw K F H (.ref a) (.list ds)
  | tup {a : Addr} {xs : List V} {ds : List PyData} : SqB K F a xs ds → RpAll K F xs ds → Vw K F H (.ref a) (.tuple ds)
  | dct {a : Addr} {kvs : List (Key × V)} {ds : List (PyData × PyData)} : Rd H a (.dK kvs) → RpKv K F kvs ds → Vw K F H (.ref a) (.dict ds)
theorem FLe.seqT (fl : FLe F H) {a : Addr} {xs : List V} (h : SqT K F a xs) : SqT K H a xs := by
  rcases h with (h | ⟨o, h⟩) | h
  · rcases fl _ _ h with z | ⟨_, _, z, _⟩
    · exact .inl (.inl z)
    · cases z
  · rcases fl _ _ h with z | ⟨_, _, z, _⟩
    · exact .inl (.inr ⟨o, z⟩)
    · cases z
  · exact .inr h
theorem Rp.vw (fl : FLe F H) {v : V} {d : PyData} (h : Rp K F v d) : Vw K F H v d := by
  cases h with
  | non => exact .non
  | bl b => exact .bl b
  | int i => exact .int i
  | str x => exact .str x
  | lst e r =>
    rcases fl _ _ e with z | ⟨_, _, z, _⟩
    · exact .lst z r
    · cases z
  | tup e r => exact .tup e r
  | dct e r =>
    rcases fl _ _ e with z | ⟨_, o, z, q⟩
    · exact .dct (.inl z) r
    · exact .dct (.inr ⟨o, q⟩) r
theorem Rel.vw (R : Rel K mg F H ad st) {v : V} {r : DV} {d : PyData} (h : DVR K mg F ad v r) (e : rd st r = some d) : Vw K F H v d := by
  cases r with
  | d x => cases e; exact Rp.vw R.fl h
  | fn f => cases e
  | scr ns => cases e
  | loc n =>
    obtain ⟨a, rfl, ha⟩ := h
    cases hc : st[n]? with
    | none => simp [rd, hc] at e
    | some c =>
      have q := R.cell n a c ha hc
      cases c with
      | lst xs =>
        simp [rd, hc] at e; subst e
        obtain ⟨_, vs, h1, h2⟩ := q
        exact .lst h1 h2
      | dct kvs =>
        simp [rd, hc] at e; subst e
        obtain ⟨_, vs, h1, h2⟩ := q
        exact .dct (.inl h1) h2
      | frz x =>
        simp [rd, hc] at e; subst e
        exact Rp.vw R.fl q
      | ins c fs => simp [rd, hc] at e
end
end DL
/-! text DLExpr -/
namespace DL
open PySem PySem.Spec PyProof.Rows L2
/-! ### readings -/
def tE (K : PySem.W.Frag) (mg : Str → Option Value) (f : WE) : TE := fun σ H Q => ∃ F ad env st P, Now K mg σ F H ad env st ∧ f env st P ∧
  ∀ r st' v F' ad' H', P r st' → Ext F H ad F' H' ad' → Now K mg σ F' H' ad' env st' → DVR K mg F' ad' v r → Q v H'
def tT (K : PySem.W.Frag) (mg : Str → Option Value) (f : WT) : TT := fun σ H Q => ∃ F ad env st P, Now K mg σ F H ad env st ∧ f env st P ∧
  ∀ b st' F' ad' H', P b st' → Ext F H ad F' H' ad' → Now K mg σ F' H' ad' env st' → Q b H'
inductive DVRs (K : PySem.W.Frag) (mg : Str → Option Value) (F : Hp) (ad : List Addr) : List V → List DV → Prop
  | nil : DVRs K mg F ad [] []
  | cons {v : V} {vs : List V} {r : DV} {rs : List DV} : DVR K mg F ad v r → DVRs K mg F ad vs rs → DVRs K mg F ad (v :: vs) (r :: rs)
def tA (K : PySem.W.Frag) (mg : Str → Option Value) (f : WA) : TA := fun σ H Q => ∃ F ad env st P, Now K mg σ F H ad env st ∧ f env st P ∧
  ∀ rs st' vs F' ad' H', P rs st' → Ext F H ad F' H' ad' → Now K mg σ F' H' ad' env st' → DVRs K mg F' ad' vs rs → Q vs H'
def tS (K : PySem.W.Frag) (mg : Str → Option Value) (w : WS) : TS := fun D σ H => ∃ F ad env st P, Now K mg σ F H ad env st ∧ w P env st ∧
  (∀ env' st' σ' F' ad' H', P.nx env' st' → Ext F H ad F' H' ad' → Now K mg σ' F' H' ad' env' st' → D.nx σ' H') ∧
  (∀ r st' v F' ad' H', P.rt r st' → Ext F H ad F' H' ad' → Rel K mg F' H' ad' st' → DVR K mg F' ad' v r → D.rt v H') ∧
  (∀ env' st' σ' F' ad' H', P.bk env' st' → Ext F H ad F' H' ad' → Now K mg σ' F' H' ad' env' st' → D.bk σ' H') ∧
  (∀ env' st' σ' F' ad' H', P.ct env' st' → Ext F H ad F' H' ad' → Now K mg σ' F' H' ad' env' st' → D.ct σ' H')
/-- the slots in W alone may be other ones -/
def Only (W : List Nat) (σ σ' : L2.St) : Prop := σ'.length = σ.length ∧ ∀ i : Nat, i ∉ W → σ'[i]? = σ[i]?
def tG (K : PySem.W.Frag) (mg : Str → Option Value) (W : List Nat) (g : WG) : TG := fun v σ H Q => ∃ F ad env st r P, Now K mg σ F H ad env st ∧ DVR K mg F ad v r ∧ g r env st P ∧
  ∀ env' st' σ' F' ad' H', P env' st' → Ext F H ad F' H' ad' → Now K mg σ' F' H' ad' env' st' → Only W σ σ' → Q σ' H'
section
variable {X : Cx} {K : PySem.W.Frag} {mg : Str → Option Value} {F H F' H' : Hp} {ad ad' : List Addr} {env : Env} {st : Store} {σ : L2.St}
theorem pe_weak {e : Expr} {t t' : TE} (h : PE X e t) (w : ∀ σ H Q, t' σ H Q → t σ H Q) : PE X e t' := ⟨fun pins s σ H Q I q => h.run pins s σ H Q I (w σ H Q q)⟩
theorem pt_weak {e : Expr} {t t' : TT} (h : PT X e t) (w : ∀ σ H Q, t' σ H Q → t σ H Q) : PT X e t' := ⟨fun pins s σ H Q I q => h.run pins s σ H Q I (w σ H Q q)⟩
theorem pa_weak {e : List Expr} {t t' : TA} (h : PA X e t) (w : ∀ σ H Q, t' σ H Q → t σ H Q) : PA X e t' := ⟨fun pos pins s σ H Q I q => h.run pos pins s σ H Q I (w σ H Q q)⟩
theorem ps_weak {e : Stmt} {t t' : TS} (h : PS X e t) (w : ∀ D σ H, t' D σ H → t D σ H) : PS X e t' := ⟨fun pins s σ H D I q => h.run pins s σ H D I (w D σ H q)⟩
theorem pss_weak {e : List Stmt} {t t' : TS} (h : PSs X e t) (w : ∀ D σ H, t' D σ H → t D σ H) : PSs X e t' := ⟨fun pins s σ H D I q => h.run pins s σ H D I (w D σ H q)⟩
theorem pg_weak {e : Expr} {t t' : TG} (h : PG X e t) (w : ∀ v σ H Q, t' v σ H Q → t v σ H Q) : PG X e t' := ⟨fun pins s σ H v u Q I r q => h.run pins s σ H v u Q I r (w v σ H Q q)⟩
theorem pw_weak {e : Expr} {t t' : TT} (h : PW X e t) (w : ∀ σ H Q, t' σ H Q → t σ H Q) : PW X e t' := ⟨fun wh pins s σ H Q I q => h.run wh pins s σ H Q I (w σ H Q q)⟩
/-- one expression's reading, gone on from -/
theorem tE_go {f : WE} {Q : VK} {P : RK} (n : Now K mg σ F H ad env st) (h : f env st P) (k : ∀ r st' v F' ad' H', P r st' → Ext F H ad F' H' ad' → Now K mg σ F' H' ad' env st' → DVR K mg F' ad' v r → Q v H') : tE K mg f σ H Q :=
  ⟨F, ad, env, st, P, n, h, k⟩
theorem tT_go {f : WT} {Q : Bool → Hp → Prop} {P : Bool → Store → Prop} (n : Now K mg σ F H ad env st) (h : f env st P) (k : ∀ b st' F' ad' H', P b st' → Ext F H ad F' H' ad' → Now K mg σ F' H' ad' env st' → Q b H') : tT K mg f σ H Q :=
  ⟨F, ad, env, st, P, n, h, k⟩
/-! ### names, constants -/
theorem de_var (i : Nat) {x : Str} {pos : Pos} (hN : X.N[i]? = some x := by rfl) (hv : Vis X.env.scope x := by first | exact Or.inl rfl | exact Or.inr (Or.inl rfl) | exact Or.inr (Or.inr rfl)) (hd : (x == ("__debug__" : Str)) = false := by decide)
    (hcd : (x == ("__classdict__" : Str)) = false := by decide) : PE X (.Name x pos) (tE K mg (wVar i)) := by
  refine pe_weak (pe_var hN hv hd hcd) fun σ H Q ⟨F, ad, env, st, P, n, h, k⟩ => ?_
  unfold wVar at h
  cases e : env[i]? with
  | none => rw [e] at h; exact h.elim
  | some o =>
    cases o with
    | none => rw [e] at h; exact h.elim
    | some dv =>
      rw [e] at h
      obtain ⟨v, e1, r⟩ := n.env.2 i dv e
      exact ⟨v, e1, k dv st v F ad H h (Ext.refl _ _ _) n r⟩
theorem de_c {e : Expr} {v : V} {x : PyData} (h : PE X e (tC v)) (r : ∀ F, Rp K F v x) : PE X e (tE K mg (wC x)) := by
  refine pe_weak h fun σ H Q ⟨F, ad, env, st, P, n, h, k⟩ => ?_
  exact k (.d x) st v F ad H h (Ext.refl _ _ _) n (r F)
theorem de_int {i : Int} {j pos} : PE X (.Constant (.int i) j pos) (tE K mg (wC (.int i))) := de_c pe_int fun _ => .int i
theorem de_bl {b : Bool} {j pos} : PE X (.Constant (.bool b) j pos) (tE K mg (wC (.bool b))) := de_c pe_bl fun _ => .bl b
theorem de_non {j pos} : PE X (.Constant .none j pos) (tE K mg (wC .none)) := de_c pe_non fun _ => .non
theorem de_str {x : Str} {j pos} : PE X (.Constant (.str x) j pos) (tE K mg (wC (.str x))) := de_c pe_str fun _ => .str x
theorem de_glob {x : Str} {v : V} {u : Value} {y : PyData} {pos : Pos} (hm : X.mg x = some u) (r : RelV v u) (q : ∀ F, Rp K F v y) (hg : Gl X x := by rfl) (hd : (x == ("__debug__" : Str)) = false := by decide) : PE X (.Name x pos) (tE K mg (wC y)) :=
  de_c (pe_glob hg hm r hd) q
theorem de_fn {x : Str} {a : Addr} {pos : Pos} (hm : X.mg x = some (.ref a)) (hmg : mg = X.mg) (hg : Gl X x := by rfl) (hd : (x == ("__debug__" : Str)) = false := by decide) : PE X (.Name x pos) (tE K mg (wFn x)) := by
  refine pe_weak (pe_glob (v := .ref a) hg hm rfl hd) fun σ H Q ⟨F, ad, env, st, P, n, h, k⟩ => ?_
  exact k (.fn x) st (.ref a) F ad H h (Ext.refl _ _ _) n ⟨a, rfl, by rw [hmg]; exact hm⟩
/-! ### operators -/
/-- a heap that grows: new objects, new frozen ones -/
structure Grow (F H F' H' : Hp) : Prop where
  le : LeH F F'
  fl : FLe F' H'
  keep : ∀ a o, H a = some o → H' a = some o
  new : ∀ a, F' a ≠ none → F a ≠ none ∨ H a = none
theorem Grow.refl (fl : FLe F H) : Grow F H F H := ⟨LeH.refl F, fl, fun _ _ h => h, fun _ h => .inl h⟩
theorem Grow.ext (g : Grow F H F' H') (ad : List Addr) : Ext F H ad F' H' ad :=
  ⟨g.le, fun a h => (g.new a h).elim .inl fun z => .inr (.inl z), ⟨[], by simp, fun _ h => by simp at h⟩, fun a o h _ => .inl (g.keep a o h), fun a h => by
    cases q : H a with
    | none => rfl
    | some o => rw [g.keep a o q] at h; cases h⟩
theorem Now.grow (n : Now K mg σ F H ad env st) (g : Grow F H F' H') : Now K mg σ F' H' ad env st := by
  have nw : ∀ a, F a = none → H a ≠ none → F' a = none := fun a h1 h2 => by
    cases q : F' a with
    | none => rfl
    | some u =>
      rcases g.new a (by rw [q]; simp) with z | z
      · exact absurd h1 z
      · exact absurd z h2
  refine ⟨⟨g.fl, n.rel.len, n.rel.nd, fun a h e => n.rel.live a h ((g.ext []).there a e), fun i a c h1 h2 => ?_⟩, n.env.ext (g.ext ad)⟩
  have q := n.rel.cell i a c h1 h2
  cases c with
  | lst xs =>
    obtain ⟨z, vs, e, r⟩ := q
    exact ⟨nw a z (by rw [e]; simp), vs, g.keep _ _ e, RpAll.le g.le _ _ r⟩
  | dct kvs =>
    obtain ⟨z, vs, e, r⟩ := q
    exact ⟨nw a z (by rw [e]; simp), vs, g.keep _ _ e, RpKv.le g.le _ _ r⟩
  | frz x => exact Rp.le g.le _ _ q
  | ins _ _ => trivial
/-- an operator's question, by data -/
def rB (K : PySem.W.Frag) (op : B2) : R2 := fun x y H Q => ∃ F a b c, FLe F H ∧ Vw K F H x a ∧ Vw K F H y b ∧ op a b = some c ∧ ∀ z F' H', Grow F H F' H' → Rp K F' z c → Q z H'
def rU1 (K : PySem.W.Frag) (op : B1) : V → Hp → VK → Prop := fun x H Q => ∃ F a c, FLe F H ∧ Vw K F H x a ∧ op a = some c ∧ ∀ z F' H', Grow F H F' H' → Rp K F' z c → Q z H'
theorem w_bin {op : B2} {fa fb : WE} {σ : L2.St} {H : Hp} {Q : VK} (h : tE K mg (wBin op fa fb) σ H Q) : tOp (rB K op) (tE K mg fa) (tE K mg fb) σ H Q := by
  obtain ⟨F, ad, env, st, P, n, h, k⟩ := h
  refine tE_go n h fun r1 st1 v1 F1 ad1 H1 p1 x1 n1 d1 => ?_
  refine tE_go n1 p1 fun r2 st2 v2 F2 ad2 H2 p2 x2 n2 d2 => ?_
  obtain ⟨a, ea, p3⟩ := optK_elim p2
  obtain ⟨b, eb, p4⟩ := optK_elim p3
  obtain ⟨c, ec, p5⟩ := optK_elim p4
  refine ⟨F2, a, b, c, n2.rel.fl, n2.rel.vw (d1.ext x2) ea, n2.rel.vw d2 eb, ec, fun z F' H' g q => ?_⟩
  exact k (.d c) st2 z F' ad2 H' p5 ((x1.trans x2).trans (g.ext ad2)) (n2.grow g) q
theorem w_un {op : B1} {fa : WE} {σ : L2.St} {H : Hp} {Q : VK} (h : tE K mg (wUn op fa) σ H Q) : tUn (rU1 K op) (tE K mg fa) σ H Q := by
  obtain ⟨F, ad, env, st, P, n, h, k⟩ := h
  refine tE_go n h fun r1 st1 v1 F1 ad1 H1 p1 x1 n1 d1 => ?_
  obtain ⟨a, ea, p3⟩ := optK_elim p1
  obtain ⟨c, ec, p5⟩ := optK_elim p3
  refine ⟨F1, a, c, n1.rel.fl, n1.rel.vw d1 ea, ec, fun z F' H' g q => ?_⟩
  exact k (.d c) st1 z F' ad1 H' p5 (x1.trans (g.ext ad1)) (n1.grow g) q
variable {a b : Expr} {fa fb : WE} {pos : Pos}
theorem de_op {op : Operator} {o : B2} (ho : OpR X (binaryOp op) (rB K o)) (ha : PE X a (tE K mg fa)) (hb : PE X b (tE K mg fb)) : PE X (.BinOp a op b pos) (tE K mg (wBin o fa fb)) :=
  pe_weak (pe_op ho ha hb) fun _ _ _ h => w_bin h
theorem de_un {op : UnaryOp} {o : B1} (ho : UnR X (unaryOp op) (rU1 K o)) (ha : PE X a (tE K mg fa)) : PE X (.UnaryOp op a pos) (tE K mg (wUn o fa)) :=
  pe_weak (pe_un ho ha) fun _ _ _ h => w_un h
theorem de_cmp {op : CmpOp} {o : B2} (ho : OpR X (compareOp op) (rB K o)) (ha : PE X a (tE K mg fa)) (hb : PE X b (tE K mg fb)) (hm : behindInMarks op b = false := by first | exact nobehind _ (by decide) (by decide) | rfl) : PE X (.Compare a [op] [b] pos) (tE K mg (wBin o fa fb)) :=
  pe_weak (pe_cmpR ho ha hb hm) fun _ _ _ h => w_bin h
/-- a value that is True or False, as a test -/
theorem w_t {f : WE} {σ : L2.St} {H : Hp} {Q : Bool → Hp → Prop} (h : tT K mg (wT f) σ H Q) : tE K mg f σ H fun x H1 => ∃ c, x = .bl c ∧ Q c H1 := by
  obtain ⟨F, ad, env, st, P, n, h, k⟩ := h
  refine tE_go n h fun r1 st1 v1 F1 ad1 H1 p1 x1 n1 d1 => ?_
  obtain ⟨x, ex, p2⟩ := optK_elim p1
  obtain ⟨b, eb, p3⟩ := optK_elim p2
  have q := n1.rel.vw d1 ex
  cases x <;> simp [asB] at eb
  subst eb
  cases q
  exact ⟨_, rfl, k _ st1 F1 ad1 H1 p3 x1 n1⟩
theorem dt_cmp {op : CmpOp} {o : B2} (ho : OpR X (compareOp op) (rB K o)) (ha : PE X a (tE K mg fa)) (hb : PE X b (tE K mg fb)) (hm : behindInMarks op b = false := by first | exact nobehind _ (by decide) (by decide) | rfl) : PT X (.Compare a [op] [b] pos) (tT K mg (wT (wBin o fa fb))) :=
  pt_weak (pt_cmpR ho ha hb hm) fun σ H Q h => by
    obtain ⟨F, ad, env, st, P, n, h, k⟩ := w_t h
    exact w_bin ⟨F, ad, env, st, P, n, h, k⟩
theorem dt_val {e : Expr} {f : WE} (h : PE X e (tE K mg f)) (he : ∀ whole, isTrue e X.env whole = (do let v ← whole; standAt e.pos; holding [v] (truthy v)) := by intro _; rfl) : PT X e (tT K mg (wT f)) :=
  pt_weak (pt_val h he) fun _ _ _ h => w_t h
/-! ### and, or, not -/
variable {t u : WT} {rest : List Expr} {c : Expr}
theorem dt_and1 (ha : PT X a (tT K mg t)) : PW X (.BoolOp .And [a] pos) (tT K mg t) := pw_and1 ha
theorem dt_or1 (ha : PT X a (tT K mg t)) : PW X (.BoolOp .Or [a] pos) (tT K mg t) := pw_or1 ha
theorem dt_and (ha : PT X a (tT K mg t)) (hb : PW X (.BoolOp .And (b :: rest) pos) (tT K mg u)) : PW X (.BoolOp .And (a :: b :: rest) pos) (tT K mg (wAnd t u)) :=
  pw_weak (pw_and ha hb) fun σ H Q ⟨F, ad, env, st, P, n, h, k⟩ => by
    refine tT_go n h fun c st1 F1 ad1 H1 p1 x1 n1 => ?_
    cases c with
    | true => exact tT_go n1 p1 fun c2 st2 F2 ad2 H2 p2 x2 n2 => k c2 st2 F2 ad2 H2 p2 (x1.trans x2) n2
    | false => exact k false st1 F1 ad1 H1 p1 x1 n1
theorem dt_or (ha : PT X a (tT K mg t)) (hb : PW X (.BoolOp .Or (b :: rest) pos) (tT K mg u)) : PW X (.BoolOp .Or (a :: b :: rest) pos) (tT K mg (wOr t u)) :=
  pw_weak (pw_or ha hb) fun σ H Q ⟨F, ad, env, st, P, n, h, k⟩ => by
    refine tT_go n h fun c st1 F1 ad1 H1 p1 x1 n1 => ?_
    cases c with
    | false => exact tT_go n1 p1 fun c2 st2 F2 ad2 H2 p2 x2 n2 => k c2 st2 F2 ad2 H2 p2 (x1.trans x2) n2
    | true => exact k true st1 F1 ad1 H1 p1 x1 n1
theorem dt_not (ha : PT X a (tT K mg t)) : PT X (.UnaryOp .Not a pos) (tT K mg (wNot t)) :=
  pt_weak (pt_not ha) fun σ H Q ⟨F, ad, env, st, P, n, h, k⟩ => tT_go n h fun c st1 F1 ad1 H1 p1 x1 n1 => k (!c) st1 F1 ad1 H1 p1 x1 n1
theorem de_one {op} {f : WE} (h : PE X a (tE K mg f)) : PE X (.BoolOp op [a] pos) (tE K mg f) := pe_one h
theorem asB_vw {v : V} {x : PyData} {c : Bool} (q : Vw K F H v x) (e : asB x = some c) : v = .bl c := by
  cases x <;> simp [asB] at e
  subst e
  cases q
  rfl
theorem de_and (ha : PE X a (tE K mg fa)) (hb : PE X (.BoolOp .And (b :: rest) pos) (tE K mg fb)) : PE X (.BoolOp .And (a :: b :: rest) pos) (tE K mg (wAndV fa fb)) :=
  pe_weak (pe_and ha hb) fun σ H Q ⟨F, ad, env, st, P, n, h, k⟩ => by
    refine tE_go n h fun r1 st1 v1 F1 ad1 H1 p1 x1 n1 d1 => ?_
    obtain ⟨x, ex, p2⟩ := optK_elim p1
    obtain ⟨c, ec, p3⟩ := optK_elim p2
    refine ⟨c, asB_vw (n1.rel.vw d1 ex) ec, ?_⟩
    cases c with
    | true => exact tE_go n1 p3 fun r2 st2 v2 F2 ad2 H2 p4 x2 n2 d2 => k r2 st2 v2 F2 ad2 H2 p4 (x1.trans x2) n2 d2
    | false => exact k _ st1 _ F1 ad1 H1 p3 x1 n1 (Rp.bl _)
theorem de_or (ha : PE X a (tE K mg fa)) (hb : PE X (.BoolOp .Or (b :: rest) pos) (tE K mg fb)) : PE X (.BoolOp .Or (a :: b :: rest) pos) (tE K mg (wOrV fa fb)) :=
  pe_weak (pe_or ha hb) fun σ H Q ⟨F, ad, env, st, P, n, h, k⟩ => by
    refine tE_go n h fun r1 st1 v1 F1 ad1 H1 p1 x1 n1 d1 => ?_
    obtain ⟨x, ex, p2⟩ := optK_elim p1
    obtain ⟨c, ec, p3⟩ := optK_elim p2
    refine ⟨c, asB_vw (n1.rel.vw d1 ex) ec, ?_⟩
    cases c with
    | false => exact tE_go n1 p3 fun r2 st2 v2 F2 ad2 H2 p4 x2 n2 d2 => k r2 st2 v2 F2 ad2 H2 p4 (x1.trans x2) n2 d2
    | true => exact k _ st1 _ F1 ad1 H1 p3 x1 n1 (Rp.bl _)
theorem w_not {f : WE} {σ : L2.St} {H : Hp} {Q : VK} (h : tE K mg (wUn oNot f) σ H Q) : tNotV (tE K mg f) σ H Q := by
  obtain ⟨F, ad, env, st, P, n, h, k⟩ := h
  refine tE_go n h fun r1 st1 v1 F1 ad1 H1 p1 x1 n1 d1 => ?_
  obtain ⟨x, ex, p2⟩ := optK_elim p1
  obtain ⟨c, ec, p3⟩ := optK_elim p2
  unfold oNot at ec
  cases e : asB x with
  | none => rw [e] at ec; cases ec
  | some b =>
    rw [e] at ec; cases ec
    exact ⟨b, asB_vw (n1.rel.vw d1 ex) e, k _ st1 _ F1 ad1 H1 p3 x1 n1 (Rp.bl _)⟩
theorem de_not (ha : PE X a (tE K mg fa)) : PE X (.UnaryOp .Not a pos) (tE K mg (wUn oNot fa)) := pe_weak (pe_not ha) fun _ _ _ h => w_not h
theorem de_if (hc : PT X c (tT K mg t)) (ha : PE X a (tE K mg fa)) (hb : PE X b (tE K mg fb)) : PE X (.IfExp c a b pos) (tE K mg (wIfE t fa fb)) :=
  pe_weak (pe_ifExp hc ha hb) fun σ H Q ⟨F, ad, env, st, P, n, h, k⟩ => by
    refine tT_go n h fun c st1 F1 ad1 H1 p1 x1 n1 => ?_
    cases c with
    | true => exact tE_go n1 p1 fun r2 st2 v2 F2 ad2 H2 p4 x2 n2 d2 => k r2 st2 v2 F2 ad2 H2 p4 (x1.trans x2) n2 d2
    | false => exact tE_go n1 p1 fun r2 st2 v2 F2 ad2 H2 p4 x2 n2 d2 => k r2 st2 v2 F2 ad2 H2 p4 (x1.trans x2) n2 d2
/-! ### argument lists, displays -/
theorem da_nil : PA X [] (tA K mg wNil) := pa_weak pa_nil fun σ H Q ⟨F, ad, env, st, P, n, h, k⟩ => k [] st [] F ad H h (Ext.refl _ _ _) n .nil
theorem da_cons {e : Expr} {es : List Expr} {f : WE} {fs : WA} (ha : PE X e (tE K mg f)) (hr : PA X es (tA K mg fs)) (hs : starEach (e :: es) X.env = (false, eval e X.env) :: starEach es X.env := by rfl) : PA X (e :: es) (tA K mg (wCons f fs)) :=
  pa_weak (pa_cons ha hr hs) fun σ H Q ⟨F, ad, env, st, P, n, h, k⟩ => by
    refine tE_go n h fun r1 st1 v1 F1 ad1 H1 p1 x1 n1 d1 => ?_
    exact ⟨F1, ad1, env, st1, _, n1, p1, fun rs st2 vs F2 ad2 H2 p2 x2 n2 d2 => k (r1 :: rs) st2 (v1 :: vs) F2 ad2 H2 p2 (x1.trans x2) n2 (.cons (d1.ext x2) d2)⟩
theorem frs_rp {F : Hp} {ad : List Addr} : ∀ {rs : List DV} {vs : List V} {xs : List PyData}, DVRs K mg F ad vs rs → DL.frs rs = some xs → RpAll K F vs xs
  | [], _, _, h, e => by cases h; cases e; exact .nil
  | .d x :: rs, _, xs, h, e => by
    cases h with
    | cons r q =>
      cases e2 : DL.frs rs with
      | none => simp [DL.frs, e2] at e
      | some ys =>
        simp [DL.frs, e2] at e
        subst e
        exact .cons r (frs_rp q e2)
  | .loc _ :: _, _, _, _, e => by cases e
  | .fn _ :: _, _, _, _, e => by cases e
  | .scr _ :: _, _, _, _, e => by cases e
theorem lim_eq : lim = sizeLine := by rw [sizeLine_eq]; rfl
theorem grow_new {p : Addr} {o : HO} (fl : FLe F H) (hp : H p = none) (hF : F p = none) : Grow F H (upd F p o) (upd H p o) := by
  refine ⟨fun a u e => ?_, fun a u e => ?_, fun a u e => ?_, fun a h => ?_⟩
  · rw [upd_ne (ne_of_none e hF)]; exact e
  · by_cases ha : a = p
    · subst ha
      rw [upd_same] at e; rw [upd_same]; exact .inl e
    · rw [upd_ne ha] at e; rw [upd_ne ha]; exact fl a u e
  · rw [upd_ne (ne_of_none e hp)]; exact e
  · by_cases ha : a = p
    · subst ha; exact .inr hp
    · rw [upd_ne ha] at h; exact .inl h
theorem FLe.none {p : Addr} (fl : FLe F H) (hp : H p = none) : F p = none := by
  cases e : F p with
  | none => rfl
  | some u =>
    rcases fl p u e with z | ⟨_, _, _, z⟩
    · rw [hp] at z; cases z
    · rw [hp] at z; cases z
/-- a tuple's display, the object told -/
def tTupF (t : TA) : TE := fun σ H Q => t σ H fun xs H1 => xs.length ≤ sizeLine ∧ ∀ (p : Addr) (o : Obj), H1 p = none → o.dict = none → Q (.ref p) (upd H1 p (.frz o (.tup xs)))
theorem pe_tupF {X : Cx} {es : List Expr} {t : TA} {x1 pos} (h : PA X es t) : PE X (.Tuple es x1 pos) (tTupF t) := by
  refine ⟨fun pins s σ H Q I hq => ?_⟩
  refine wpAny_Tuple_spliced (thn (h.run pos pins s σ H _ I hq) fun us s1 ⟨xs, H1, I1, r, z, q⟩ => ⟨by rw [← r.length]; exact z, ?_⟩)
  have hf : H1 s1.heap.objs.size = none := I1.hok.fresh (Nat.le_refl _)
  refine ⟨.ref s1.heap.objs.size, _, I1.laid (o := .frz _ (.tup xs)) (t' := s1.toks) (fun b u e => Heap.get?_push_of_some _ e) (Nat.le_refl _) ⟨Heap.get?_push_size _ rfl, z, us, r, ⟨_, Heap.get?_push_size _ rfl, rfl, _, rfl⟩⟩, rfl, q _ _ hf rfl⟩
theorem de_tup {es : List Expr} {k : Nat} {fs : WA} (h : PA X es (tA K mg fs)) : PE X (.Tuple es k pos) (tE K mg (wTup fs)) :=
  pe_weak (pe_tupF h) fun σ H Q ⟨F, ad, env, st, P, n, h, k⟩ => by
    refine ⟨F, ad, env, st, _, n, h, fun rs st1 vs F1 ad1 H1 p1 x1 n1 d1 => ?_⟩
    obtain ⟨xs, ex, l, p2⟩ := optK_elim p1
    have rp := frs_rp d1 ex
    refine ⟨by rw [rp.length, ← lim_eq]; exact l, fun p o hp ho => ?_⟩
    have g := grow_new (o := .frz o (.tup vs)) n1.rel.fl hp (n1.rel.fl.none hp)
    exact k _ st1 _ _ ad1 _ p2 (x1.trans (g.ext ad1)) (n1.grow g) (Rp.tup ⟨.inl (.inr ⟨o, upd_same⟩), fun _ => ⟨o, ho, .inl ⟨vs, upd_same⟩⟩⟩ (RpAll.le g.le _ _ rp))
theorem de_lst {es : List Expr} {fs : WA} (h : PA X es (tA K mg fs)) : PE X (.List es pos) (tE K mg (wLst fs)) :=
  pe_weak (pe_lst h) fun σ H Q ⟨F, ad, env, st, P, n, h, k⟩ => by
    refine ⟨F, ad, env, st, _, n, h, fun rs st1 vs F1 ad1 H1 p1 x1 n1 d1 => ?_⟩
    obtain ⟨xs, ex, l, p2⟩ := optK_elim p1
    have rp := frs_rp d1 ex
    refine ⟨by rw [rp.length, ← lim_eq]; exact l, fun p hp => ?_⟩
    have g := grow_new (o := .lst vs) n1.rel.fl hp (n1.rel.fl.none hp)
    exact k _ st1 _ _ ad1 _ p2 (x1.trans (g.ext ad1)) (n1.grow g) (Rp.lst upd_same (RpAll.le g.le _ _ rp))
/-- a new changeable object -/
theorem now_new {p : Addr} {o : HO} {c : Cell} (n : Now K mg σ F H ad env st) (hp : H p = none) (hc : CellR K mg F (upd H p o) (ad ++ [p]) p c) (hi : ∀ n fs, c ≠ .ins n fs) :
    Ext F H ad F (upd H p o) (ad ++ [p]) ∧ Now K mg σ F (upd H p o) (ad ++ [p]) env (st ++ [c]) := by
  have x : Ext F H ad F (upd H p o) (ad ++ [p]) := ⟨LeH.refl F, fun _ h => .inl h, ⟨[p], rfl, fun a h => by simp at h; subst h; exact hp⟩, fun a u e _ => .inl (by rw [upd_ne (ne_of_none e hp)]; exact e), fun a e => by
    by_cases ha : a = p
    · subst ha; exact hp
    · rw [upd_ne ha] at e; exact e⟩
  have hn : p ∉ ad := fun h => n.rel.live p h hp
  refine ⟨x, ⟨⟨fun a u e => ?_, by simp [n.rel.len], ?_, fun a h e => ?_, fun i a c' h1 h2 => ?_⟩, n.env.ext x⟩⟩
  · have ha : a ≠ p := fun z => by rw [z, n.rel.fl.none hp] at e; cases e
    rw [upd_ne ha]; exact n.rel.fl a u e
  · rw [List.nodup_append]
    refine ⟨n.rel.nd, by simp, fun a h b hb => ?_⟩
    simp at hb; subst hb
    exact fun z => hn (z ▸ h)
  · rcases List.mem_append.mp h with h | h
    · exact n.rel.live a h (x.there a e)
    · simp at h; subst h; rw [upd_same] at e; cases e
  · by_cases hl : i < ad.length
    · rw [List.getElem?_append_left hl] at h1
      rw [List.getElem?_append_left (by rw [← n.rel.len]; exact hl)] at h2
      have q := n.rel.cell i a c' h1 h2
      have ha : a ≠ p := fun z => hn (z ▸ List.mem_of_getElem? h1)
      cases c' with
      | lst xs => obtain ⟨z, vs, e, r⟩ := q; exact ⟨z, vs, by rw [upd_ne ha]; exact e, r⟩
      | dct xs => obtain ⟨z, vs, e, r⟩ := q; exact ⟨z, vs, by rw [upd_ne ha]; exact e, r⟩
      | frz y => exact q
      | ins _ _ => trivial
    · have e1 : i = ad.length := by
        have := (List.getElem?_eq_some_iff.mp h1).1
        simp at this; omega
      subst e1
      rw [List.getElem?_append_right (Nat.le_refl _), Nat.sub_self] at h1
      rw [List.getElem?_append_right (by rw [n.rel.len]; exact Nat.le_refl _), n.rel.len, Nat.sub_self] at h2
      cases h1
      cases h2
      exact hc
theorem de_lstM {es : List Expr} {fs : WA} (h : PA X es (tA K mg fs)) : PE X (.List es pos) (tE K mg (wLstM fs)) :=
  pe_weak (pe_lst h) fun σ H Q ⟨F, ad, env, st, P, n, h, k⟩ => by
    refine ⟨F, ad, env, st, _, n, h, fun rs st1 vs F1 ad1 H1 p1 x1 n1 d1 => ?_⟩
    obtain ⟨xs, ex, l, p2⟩ := optK_elim p1
    have rp := frs_rp d1 ex
    refine ⟨by rw [rp.length, ← lim_eq]; exact l, fun p hp => ?_⟩
    obtain ⟨x2, n2⟩ := now_new (o := .lst vs) (c := .lst xs) n1 hp ⟨n1.rel.fl.none hp, vs, upd_same, rp⟩ (fun _ _ z => by cases z)
    exact k _ _ _ _ _ _ p2 (x1.trans x2) n2 ⟨p, rfl, by rw [← n1.rel.len]; simp⟩
theorem de_dctM {pos} : PE X (.Dict [] [] pos) (tE K mg wDctM) :=
  pe_weak pe_dnewK fun σ H Q ⟨F, ad, env, st, P, n, h, k⟩ => by
    intro p hp
    obtain ⟨x2, n2⟩ := now_new (o := .dK []) (c := .dct []) n hp ⟨n.rel.fl.none hp, [], upd_same, .nil⟩ (fun _ _ z => by cases z)
    exact k _ _ _ _ _ _ h x2 n2 ⟨p, rfl, by rw [← n.rel.len]; simp⟩
/-- freezing -/
theorem rel_frz {i : Nat} {a : Addr} {x : PyData} (n : Now K mg σ F H ad env st) (ha : ad[i]? = some a) (e : rd st (.loc i) = some x) :
    ∃ F', Ext F H ad F' H ad ∧ Now K mg σ F' H ad env (st.modify i frzC) ∧ Rp K F' (.ref a) x := by
  cases hc : st[i]? with
  | none => simp [rd, hc] at e
  | some c =>
    have key : ∀ (o : HO), F a = none → H a = some o → frzC c = .frz x → (∀ F', LeH F F' → F' a = some o → Rp K F' (.ref a) x) → ∃ F', Ext F H ad F' H ad ∧ Now K mg σ F' H ad env (st.modify i frzC) ∧ Rp K F' (.ref a) x := by
      intro o hF hH hz mk
      have le : LeH F (upd F a o) := fun b u eb => by rw [upd_ne (ne_of_none eb hF)]; exact eb
      have rp := mk (upd F a o) le upd_same
      have x1 : Ext F H ad (upd F a o) H ad := ⟨le, fun b hb => by
        by_cases hba : b = a
        · subst hba; exact .inr (.inr (List.mem_of_getElem? ha))
        · rw [upd_ne hba] at hb; exact .inl hb, ⟨[], by simp, fun _ h => by simp at h⟩, fun _ _ h _ => .inl h, fun _ h => h⟩
      refine ⟨upd F a o, x1, ⟨⟨fun b u eb => ?_, by simp [n.rel.len], n.rel.nd, n.rel.live, fun j b c' h1 h2 => ?_⟩, n.env.ext x1⟩, rp⟩
      · by_cases hba : b = a
        · subst hba; rw [upd_same] at eb; cases eb; exact .inl hH
        · rw [upd_ne hba] at eb; exact n.rel.fl b u eb
      · rw [List.getElem?_modify] at h2
        by_cases hji : i = j
        · subst hji
          rw [ha] at h1; cases h1
          rw [hc] at h2
          simp [hz] at h2
          subst h2
          exact rp
        · simp [hji] at h2
          have q := n.rel.cell j b c' h1 h2
          have hba : b ≠ a := fun z => by
            subst z
            exact hji ((List.getElem?_inj (List.getElem?_eq_some_iff.mp ha).1 n.rel.nd).mp (ha.trans h1.symm))
          cases c' with
          | lst xs => obtain ⟨z, vs, e, r⟩ := q; exact ⟨by rw [upd_ne hba]; exact z, vs, e, RpAll.le le _ _ r⟩
          | dct xs => obtain ⟨z, vs, e, r⟩ := q; exact ⟨by rw [upd_ne hba]; exact z, vs, e, RpKv.le le _ _ r⟩
          | frz y => exact Rp.le le _ _ q
          | ins _ _ => trivial
    have q := n.rel.cell i a c ha hc
    cases c with
    | lst xs =>
      simp [rd, hc] at e; subst e
      obtain ⟨z, vs, h1, h2⟩ := q
      exact key _ z h1 rfl fun F' le e => .lst e (RpAll.le le _ _ h2)
    | dct xs =>
      simp [rd, hc] at e; subst e
      obtain ⟨z, vs, h1, h2⟩ := q
      exact key _ z h1 rfl fun F' le e => .dct e (RpKv.le le _ _ h2)
    | frz y =>
      simp [rd, hc] at e; subst e
      refine ⟨F, Ext.refl _ _ _, ?_, q⟩
      have em : st.modify i frzC = st := by
        apply List.ext_getElem?
        intro j
        rw [List.getElem?_modify]
        by_cases hji : i = j
        · subst hji; rw [hc]; simp [frzC]
        · simp [hji]
      rw [em]; exact n
    | ins _ _ => simp [rd, hc] at e
theorem de_frz {e : Expr} {f : WE} (h : PE X e (tE K mg f)) : PE X e (tE K mg (wFrz f)) :=
  pe_weak h fun σ H Q ⟨F, ad, env, st, P, n, h, k⟩ => by
    refine tE_go n h fun r1 st1 v1 F1 ad1 H1 p1 x1 n1 d1 => ?_
    cases r1 with
    | loc i =>
      obtain ⟨x, ex, p2⟩ := optK_elim p1
      obtain ⟨a, rfl, ha⟩ := d1
      obtain ⟨F2, x2, n2, rp⟩ := rel_frz n1 ha ex
      exact k _ _ _ F2 ad1 H1 p2 (x1.trans x2) n2 rp
    | d y => exact k _ _ _ F1 ad1 H1 p1 x1 n1 d1
    | fn y => exact k _ _ _ F1 ad1 H1 p1 x1 n1 d1
    | scr y => exact k _ _ _ F1 ad1 H1 p1 x1 n1 d1
end
end DL
/-! text DLStmt -/
namespace DL
open PySem PySem.Spec PyProof.Rows L2
section
variable {X : Cx} {K : PySem.W.Frag} {mg : Str → Option Value} {F H F' H' : Hp} {ad ad' : List Addr} {env : Env} {st : Store} {σ : L2.St} {pos : Pos} {e : Expr} {f : WE} {w u : WS} {s1 : Stmt} {rest : List Stmt}
/-- what is wanted behind, told from a later state -/
structure Posts (K : PySem.W.Frag) (mg : Str → Option Value) (P : Fin) (F H : Hp) (ad : List Addr) (D : Ends) : Prop where
  nx : ∀ env' st' σ' F' ad' H', P.nx env' st' → Ext F H ad F' H' ad' → Now K mg σ' F' H' ad' env' st' → D.nx σ' H'
  rt : ∀ r st' v F' ad' H', P.rt r st' → Ext F H ad F' H' ad' → Rel K mg F' H' ad' st' → DVR K mg F' ad' v r → D.rt v H'
  bk : ∀ env' st' σ' F' ad' H', P.bk env' st' → Ext F H ad F' H' ad' → Now K mg σ' F' H' ad' env' st' → D.bk σ' H'
  ct : ∀ env' st' σ' F' ad' H', P.ct env' st' → Ext F H ad F' H' ad' → Now K mg σ' F' H' ad' env' st' → D.ct σ' H'
theorem Posts.ext {P : Fin} {D : Ends} {F1 H1 : Hp} {ad1 : List Addr} (p : Posts K mg P F H ad D) (x : Ext F H ad F1 H1 ad1) : Posts K mg P F1 H1 ad1 D :=
  ⟨fun _ _ _ _ _ _ a b c => p.nx _ _ _ _ _ _ a (x.trans b) c, fun _ _ _ _ _ _ a b c d => p.rt _ _ _ _ _ _ a (x.trans b) c d, fun _ _ _ _ _ _ a b c => p.bk _ _ _ _ _ _ a (x.trans b) c, fun _ _ _ _ _ _ a b c => p.ct _ _ _ _ _ _ a (x.trans b) c⟩
theorem tS_go {D : Ends} {P : Fin} (n : Now K mg σ F H ad env st) (h : w P env st) (p : Posts K mg P F H ad D) : tS K mg w D σ H := ⟨F, ad, env, st, P, n, h, p.nx, p.rt, p.bk, p.ct⟩
theorem tS_open {D : Ends} (h : tS K mg w D σ H) : ∃ F ad env st P, Now K mg σ F H ad env st ∧ w P env st ∧ Posts K mg P F H ad D := by
  obtain ⟨F, ad, env, st, P, n, h, a, b, c, d⟩ := h
  exact ⟨F, ad, env, st, P, n, h, a, b, c, d⟩
theorem ds_mk {t : TS} (h : PS X s1 t) (k : ∀ D σ H F ad env st P, Now K mg σ F H ad env st → w P env st → Posts K mg P F H ad D → t D σ H) : PS X s1 (tS K mg w) :=
  ps_weak h fun D σ H q => by
    obtain ⟨F, ad, env, st, P, n, q, p⟩ := tS_open q
    exact k D σ H F ad env st P n q p
theorem dss_mk {t : TS} {ss : List Stmt} (h : PSs X ss t) (k : ∀ D σ H F ad env st P, Now K mg σ F H ad env st → w P env st → Posts K mg P F H ad D → t D σ H) : PSs X ss (tS K mg w) :=
  pss_weak h fun D σ H q => by
    obtain ⟨F, ad, env, st, P, n, q, p⟩ := tS_open q
    exact k D σ H F ad env st P n q p
theorem ds_nil : PSs X [] (tS K mg wSkip) := dss_mk pss_nil fun D σ H F ad env st P n h p => p.nx _ _ _ _ _ _ h (Ext.refl _ _ _) n
theorem ds_cons (h1 : PS X s1 (tS K mg w)) (h2 : PSs X rest (tS K mg u)) : PSs X (s1 :: rest) (tS K mg (wSeq w u)) :=
  dss_mk (pss_cons h1 h2) fun D σ H F ad env st P n h p => by
    refine tS_go (P := { P with nx := u P }) n h ⟨fun env' st' σ' F' ad' H' q x n' => ?_, p.rt, p.bk, p.ct⟩
    exact tS_go n' q (p.ext x)
theorem ds_last (h1 : PS X s1 (tS K mg w)) : PSs X [s1] (tS K mg w) := pss_one h1
theorem ds_expr (he : PE X e (tE K mg f)) (hs : swapsWith e none pos.line X.env = pure false := by rfl) : PS X (.Expr e pos) (tS K mg (wExpr f)) :=
  ds_mk (ps_expr he hs) fun D σ H F ad env st P n h p => tE_go n h fun r st1 v F1 ad1 H1 q x n1 _ => p.nx _ _ _ _ _ _ q x n1
theorem ds_doc {x j pos'} : PS X (.Expr (.Constant (.str x) j pos) pos') (tS K mg wSkip) := ds_mk ps_doc fun D σ H F ad env st P n h p => p.nx _ _ _ _ _ _ h (Ext.refl _ _ _) n
theorem ds_pass : PS X (.Pass pos) (tS K mg wSkip) := ds_mk ps_pass fun D σ H F ad env st P n h p => p.nx _ _ _ _ _ _ h (Ext.refl _ _ _) n
theorem ds_brk : PS X (.Break pos) (tS K mg wBrk) := ds_mk ps_break fun D σ H F ad env st P n h p => p.bk _ _ _ _ _ _ h (Ext.refl _ _ _) n
theorem ds_cnt : PS X (.Continue pos) (tS K mg wCnt) := ds_mk ps_continue fun D σ H F ad env st P n h p => p.ct _ _ _ _ _ _ h (Ext.refl _ _ _) n
theorem ds_ret (he : PE X e (tE K mg f)) : PS X (.Return (some e) pos) (tS K mg (wRet f)) :=
  ds_mk (ps_ret he) fun D σ H F ad env st P n h p => tE_go n h fun r st1 v F1 ad1 H1 q x n1 d => p.rt _ _ _ _ _ _ q x n1.rel d
theorem ds_retN : PS X (.Return none pos) (tS K mg wRetN) := ds_mk ps_retN fun D σ H F ad env st P n h p => p.rt _ _ _ _ _ _ h (Ext.refl _ _ _) n.rel Rp.non
theorem ds_never : PS X s1 (tS K mg wNever) := ds_mk ps_never fun D σ H F ad env st P n h p => h.elim
theorem ds_if {c : Expr} {a b : List Stmt} {t : WT} (hc : PT X c (tT K mg t)) (ha : PSs X a (tS K mg w)) (hb : PSs X b (tS K mg u)) : PS X (.If c a b pos) (tS K mg (wIf t w u)) :=
  ds_mk (ps_if hc ha hb) fun D σ H F ad env st P n h p => by
    refine tT_go n h fun c st1 F1 ad1 H1 q x n1 => ?_
    cases c with
    | true => exact tS_go n1 q (p.ext x)
    | false => exact tS_go n1 q (p.ext x)
/-! ### targets -/
variable {tg : Expr} {g : WG} {W W' : List Nat}
theorem Only.refl (σ : L2.St) : DL.Only W σ σ := ⟨rfl, fun _ _ => rfl⟩
theorem Only.set {i : Nat} {v : Option V} (σ : L2.St) : DL.Only [i] σ (σ.set i v) := ⟨by simp, fun j hj => by
  have : i ≠ j := fun z => hj (by simp [z])
  rw [List.getElem?_set_ne this]⟩
theorem Only.trans {σ σ1 σ2 : L2.St} (a : DL.Only W σ σ1) (b : DL.Only W' σ1 σ2) : DL.Only (W ++ W') σ σ2 := ⟨b.1.trans a.1, fun i hi => by
  rw [b.2 i (fun z => hi (List.mem_append_right _ z)), a.2 i (fun z => hi (List.mem_append_left _ z))]⟩
theorem wipe_get {σ : L2.St} : ∀ {vs : List Nat} {i : Nat}, (L2.wipe σ vs)[i]? = if i ∈ vs ∧ i < σ.length then some none else σ[i]?
  | [], i => by simp [L2.wipe]
  | v :: vs, i => by
    unfold L2.wipe
    rw [List.getElem?_set, wipe_length, wipe_get]
    by_cases h1 : v = i
    · subst h1
      by_cases h2 : v < σ.length
      · simp [h2]
      · have : σ[v]? = none := List.getElem?_eq_none (by omega)
        simp [h2, this]
    · simp [h1, Ne.symm h1]
theorem Only.wipe {σ σ' : L2.St} {vs : List Nat} (h : DL.Only W (L2.wipe σ vs) σ') (hw : ∀ i ∈ W, i ∈ vs) : L2.wipe σ' vs = L2.wipe σ vs := by
  apply List.ext_getElem?
  intro i
  have hl : σ'.length = σ.length := by rw [h.1, wipe_length]
  rw [wipe_get, wipe_get, hl]
  by_cases hi : i ∈ vs
  · by_cases h2 : i < σ.length
    · simp [hi, h2]
    · have e1 : σ[i]? = none := List.getElem?_eq_none (by omega)
      have e2 : σ'[i]? = none := List.getElem?_eq_none (by omega)
      simp [hi, h2, e1, e2]
  · have := h.2 i (fun z => hi (hw i z))
    rw [wipe_get] at this
    simp [hi] at this
    simp [hi, this]
theorem dg_name (i : Nat) {x : Str} (hN : X.N.Nodup) (hi : X.N[i]? = some x := by rfl) (hx : Loc X.env.scope x := by first | exact Or.inl rfl | exact Or.inr rfl) (hf : X.fn x = true ∨ X.env.scope.names.lookup x = some .local := by first | exact .inl rfl | exact .inr rfl | assumption) : PG X (.Name x pos) (tG K mg [i] (gN i)) :=
  pg_weak (pg_name hN hi hx hf) fun v σ H Q ⟨F, ad, env, st, r, P, n, d, h, k⟩ => k _ _ _ _ _ _ h (Ext.refl _ _ _) ⟨n.rel, n.env.set d⟩ (Only.set _)
def tGs (K : PySem.W.Frag) (mg : Str → Option Value) (W : List Nat) (g : WGs) : TGs := fun vs σ H Q => ∃ F ad env st xs P, Now K mg σ F H ad env st ∧ RpAll K F vs xs ∧ g xs env st P ∧
  ∀ env' st' σ' F' ad' H', P env' st' → Ext F H ad F' H' ad' → Now K mg σ' F' H' ad' env' st' → DL.Only W σ σ' → Q σ' H'
theorem pgs_weak {es : List Expr} {t t' : TGs} (h : PGs X es t) (w : ∀ vs σ H Q, t' vs σ H Q → t vs σ H Q) : PGs X es t' := ⟨fun pins s σ H vs us Q I r q => h.run pins s σ H vs us Q I r (w vs σ H Q q)⟩
theorem dgs_nil : PGs X [] (tGs K mg [] gNil) := pgs_weak pgs_nil fun vs σ H Q ⟨F, ad, env, st, xs, P, n, d, h, k⟩ => by
  cases d with
  | nil => exact ⟨rfl, k _ _ _ _ _ _ h (Ext.refl _ _ _) n (Only.refl _)⟩
  | cons _ _ => exact h.elim
theorem dgs_cons {es : List Expr} {gs : WGs} (h1 : PG X tg (tG K mg W g)) (h2 : PGs X es (tGs K mg W' gs)) (hs : (assignEach (tg :: es) X.env).map (·.2) = assign tg X.env :: (assignEach es X.env).map (·.2) := by rfl) : PGs X (tg :: es) (tGs K mg (W ++ W') (DL.gCons g gs)) :=
  pgs_weak (pgs_cons h1 h2 hs) fun vs σ H Q ⟨F, ad, env, st, xs, P, n, d, h, k⟩ => by
    cases d with
    | nil => exact h.elim
    | cons r rs =>
      refine ⟨_, _, rfl, F, ad, env, st, .d _, _, n, r, h, fun env1 st1 σ1 F1 ad1 H1 q x n1 o1 => ?_⟩
      exact ⟨F1, ad1, env1, st1, _, _, n1, RpAll.le x.le _ _ rs, q, fun env2 st2 σ2 F2 ad2 H2 q2 x2 n2 o2 => k _ _ _ _ _ _ q2 (x.trans x2) n2 (o1.trans o2)⟩
/-- how many a taking apart asks -/
theorem dg_tup {es : List Expr} {k : Nat} {gs : WGs} {m : Nat} (hc : X.calm = true) (h : PGs X es (tGs X.K mg W gs)) (hl : ∀ xs env st Q, gs xs env st Q → xs.length = m)
    (hn : (assignEach es X.env).length = m := by rfl) (hst : (assignEach es X.env).findIdx? (·.1) = none := by rfl) : PG X (.Tuple es k pos) (tG X.K mg W (DL.gTup gs)) :=
  pg_weak (pg_tup hc h hn hst) fun v σ H Q ⟨F, ad, env, st, r, P, n, d, h, k⟩ => by
    obtain ⟨x, ex, q⟩ := optK_elim h
    have vw := n.rel.vw d ex
    cases x with
    | tuple xs =>
      cases vw with
      | tup hs ra =>
        exact ⟨_, _, rfl, n.rel.fl.seqT hs.sq, by rw [ra.length]; exact hl _ _ _ _ q, F, ad, env, st, xs, P, n, ra, q, k⟩
    | _ => exact q.elim
theorem dg_tupN {es : List Expr} {k : Nat} {gs : WGs} {m : Nat} (hc : X.calm = true) (h : PGs X es (tGs X.K mg W gs))
    (hn : (assignEach es X.env).length = m := by rfl) (hst : (assignEach es X.env).findIdx? (·.1) = none := by rfl) : PG X (.Tuple es k pos) (tG X.K mg W (DL.gTupN m gs)) :=
  pg_weak (pg_tup hc h hn hst) fun v σ H Q ⟨F, ad, env, st, r, P, n, d, h, k⟩ => by
    obtain ⟨x, ex, q⟩ := optK_elim h
    have vw := n.rel.vw d ex
    cases x with
    | tuple xs =>
      obtain ⟨hl, q⟩ := q
      cases vw with
      | tup hs ra =>
        exact ⟨_, _, rfl, n.rel.fl.seqT hs.sq, by rw [ra.length]; exact hl, F, ad, env, st, xs, P, n, ra, q, k⟩
    | _ => exact q.elim
theorem gn_nil (xs : List PyData) (env : Env) (st : Store) (Q : Env → Store → Prop) (h : DL.gNil xs env st Q) : xs.length = 0 := by
  cases xs with
  | nil => rfl
  | cons _ _ => exact h.elim
theorem ds_asg (he : PE X e (tE K mg f)) (hg : PG X tg (tG K mg W g)) (hs : swapsWithSole [tg] e pos.line X.env = pure false := by rfl) (hw : swappedStores [tg] e X.env = pure none := by rfl)
    (h1 : (assignEach [tg] X.env).map (·.2) = [assign tg X.env] := by rfl) : PS X (.Assign [tg] e pos) (tS K mg (wAsg f g)) :=
  ds_mk (ps_asg he hg hs hw h1) fun D σ H F ad env st P n h p => by
    refine tE_go n h fun r st1 v F1 ad1 H1 q x n1 d => ?_
    exact ⟨F1, ad1, env, st1, r, _, n1, d, q, fun env' st' σ' F' ad' H' q2 x2 n2 _ => p.nx _ _ _ _ _ _ q2 (x.trans x2) n2⟩
theorem ds_set (i : Nat) {x : Str} {pos' : Pos} (hN : X.N.Nodup) (he : PE X e (tE K mg f)) (hi : X.N[i]? = some x := by rfl) (hx : Loc X.env.scope x := by first | exact Or.inl rfl | exact Or.inr rfl) (hs : swapsWith e (some (.Name x pos')) pos.line X.env = pure false := by rfl) (hf : X.fn x = true ∨ X.env.scope.names.lookup x = some .local := by first | exact .inl rfl | exact .inr rfl | assumption) :
    PS X (.Assign [.Name x pos'] e pos) (tS K mg (wAsg f (gN i))) :=
  ds_mk (ps_set hN hi hx he hs hf) fun D σ H F ad env st P n h p => tE_go n h fun r st1 v F1 ad1 H1 q x n1 d => p.nx _ _ _ _ _ _ q x ⟨n1.rel, n1.env.set d⟩
theorem ds_par (i j : Nat) {x y : Str} {a b : Expr} {fa fb : WE} {px py pt : Pos} {kt k2 pt2} (hc : X.calm = true) (hN : X.N.Nodup) (ha : PE X a (tE K mg fa)) (hb : PE X b (tE K mg fb))
    (hw : swappedStores [.Tuple [.Name x px, .Name y py] kt pt] (.Tuple [a, b] k2 pt2) X.env = pure (some [x, y])) (hij : i ≠ j := by decide) (hi : X.N[i]? = some x := by rfl) (hj : X.N[j]? = some y := by rfl)
    (hx : X.env.scope.names.lookup x = some .local := by rfl) (hy : X.env.scope.names.lookup y = some .local := by rfl)
    (hs : swapsWithSole [.Tuple [.Name x px, .Name y py] kt pt] (.Tuple [a, b] k2 pt2) pos.line X.env = pure false := by rfl)
    (h0 : starEach (a :: [b]) X.env = (false, eval a X.env) :: starEach [b] X.env := by rfl) (h1 : starEach (b :: []) X.env = (false, eval b X.env) :: starEach [] X.env := by rfl) :
    PS X (.Assign [.Tuple [.Name x px, .Name y py] kt pt] (.Tuple [a, b] k2 pt2) pos) (tS K mg (wPar i j fa fb)) :=
  ds_mk (ps_par hc hN hi hj hij hx hy (pa_cons ha (pa_cons hb pa_nil h1) h0) hw hs) fun D σ H F ad env st P n h p => by
    refine tE_go n h fun r st1 v F1 ad1 H1 q x n1 d => ?_
    refine tE_go n1 q fun r2 st2 v2 F2 ad2 H2 q2 x2 n2 d2 => ?_
    exact ⟨_, _, rfl, p.nx _ _ _ _ _ _ q2 (x.trans x2) ⟨n2.rel, (n2.env.set (d.ext x2)).set d2⟩⟩
/-! ### what is walked -/
structure ItOk (K : PySem.W.Frag) (mg : Str → Option Value) (J : It) (xs : List DV) (F H : Hp) (ad : List Addr) : Prop where
  len : xs.length ≤ sizeLine
  go : ∀ F1 H1 ad1 st1 (i : Nat) (x : DV), Ext F H ad F1 H1 ad1 → Rel K mg F1 H1 ad1 st1 → xs[i]? = some x → J.go i H1
  yld : ∀ F1 H1 ad1 st1 (i : Nat) (x : DV), Ext F H ad F1 H1 ad1 → Rel K mg F1 H1 ad1 st1 → xs[i]? = some x → ∀ v H2, J.yld i H1 v H2 → ∃ F2, Ext F1 H1 ad1 F2 H2 ad1 ∧ (∀ σ env, Now K mg σ F1 H1 ad1 env st1 → Now K mg σ F2 H2 ad1 env st1) ∧ DVR K mg F2 ad1 v x
  stop : ∀ F1 H1 ad1 st1 (i : Nat), Ext F H ad F1 H1 ad1 → Rel K mg F1 H1 ad1 st1 → xs.length ≤ i → J.stop i H1
def tWI (K : PySem.W.Frag) (mg : Str → Option Value) (f : WI) : TI := fun σ H R => ∃ F ad env st P, Now K mg σ F H ad env st ∧ f env st P ∧
  ∀ xs st' J F' ad' H', P xs st' → Ext F H ad F' H' ad' → Now K mg σ F' H' ad' env st' → ItOk K mg J xs F' H' ad' → R J H'
theorem drop_cons {α : Type} {l : List α} {i : Nat} (h : i < l.length) : ∃ x, l[i]? = some x ∧ l.drop i = x :: l.drop (i + 1) := ⟨l[i], List.getElem?_eq_getElem h, List.drop_eq_getElem_cons h⟩
theorem ds_for {iter : Expr} {body : List Stmt} {wi : WI} (hp : PassesOwn (model X.prog X.w) X.A X.env X.xe) (hc : X.calm = true) (hi : PI X tg iter (tWI K mg wi)) (hg : PG X tg (tG K mg W g)) (hb : PSs X body (tS K mg w))
    (hs : ∀ x, foldedSetIterable iter X.env x = pure x := by intro _; rfl) : PS X (.For tg iter body [] pos) (tS K mg (DL.wFor wi g w)) :=
  ds_mk (ps_for hp hc hi hg hb hs) fun D σ H F ad env st P n h p => by
    refine ⟨F, ad, env, st, _, n, h, fun xs st1 J F1 ad1 H1 q x n1 ok => ?_⟩
    refine ⟨fun i m σ3 H3 => m = xs.length - i ∧ i ≤ xs.length ∧ ∃ F3 ad3 env3 st3, Ext F1 H1 ad1 F3 H3 ad3 ∧ Now K mg σ3 F3 H3 ad3 env3 st3 ∧ forGo g w P (xs.drop i) env3 st3, ⟨xs.length, by simp, Nat.zero_le _, F1, ad1, env, st1, Ext.refl _ _ _, n1, q⟩, ?_⟩
    rintro i m σ3 H3 ⟨rfl, hi3, F3, ad3, env3, st3, x3, n3, q3⟩
    by_cases hl : i < xs.length
    · obtain ⟨y, ey, ed⟩ := drop_cons hl
      rw [ed] at q3
      refine .inr ⟨ok.go F3 H3 ad3 st3 i y x3 n3.rel ey, fun σ' H' => ∃ F4 ad4 env4 st4, Ext F1 H1 ad1 F4 H' ad4 ∧ Now K mg σ' F4 H' ad4 env4 st4 ∧ forGo g w P (xs.drop (i + 1)) env4 st4, fun σ' H' ⟨F4, ad4, env4, st4, a, b, c⟩ => ⟨xs.length - (i + 1), by omega, rfl, hl, F4, ad4, env4, st4, a, b, c⟩, fun v H4 hy => ?_⟩
      obtain ⟨F4, x4, n4, d4⟩ := ok.yld F3 H3 ad3 st3 i y x3 n3.rel ey v H4 hy
      refine ⟨F4, ad3, env3, st3, y, _, n4 _ _ n3, d4, q3, fun env5 st5 σ5 F5 ad5 H5 q5 x5 n5 _ => ?_⟩
      have x35 := (x3.trans x4).trans x5
      refine tS_go n5 q5 ⟨fun env6 st6 σ6 F6 ad6 H6 q6 x6 n6 => ⟨F6, ad6, env6, st6, x35.trans x6, n6, q6⟩, fun r st6 v6 F6 ad6 H6 q6 x6 n6 d6 => p.rt _ _ _ _ _ _ q6 ((x.trans x35).trans x6) n6 d6, fun env6 st6 σ6 F6 ad6 H6 q6 x6 n6 => p.nx _ _ _ _ _ _ q6 ((x.trans x35).trans x6) n6, fun env6 st6 σ6 F6 ad6 H6 q6 x6 n6 => ⟨F6, ad6, env6, st6, x35.trans x6, n6, q6⟩⟩
    · have e : i = xs.length := by omega
      subst e
      rw [List.drop_length] at q3
      exact .inl ⟨ok.stop F3 H3 ad3 st3 _ x3 n3.rel (Nat.le_refl _), p.nx _ _ _ _ _ _ q3 (x.trans x3) n3⟩
/-! ### comprehensions -/
theorem upd_apart {D : Addr} {o : HO} (n : Now K mg σ F H ad env st) (hD : D ∉ ad) (hF : F D = none) : Now K mg σ F (upd H D o) ad env st := by
  refine ⟨⟨fun a u e => ?_, n.rel.len, n.rel.nd, fun a ha e => ?_, fun i a c h1 h2 => ?_⟩, n.env⟩
  · have ha : a ≠ D := fun z => by rw [z, hF] at e; cases e
    rw [upd_ne ha]; exact n.rel.fl a u e
  · have hd : a ≠ D := fun z => hD (z ▸ ha)
    rw [upd_ne hd] at e
    exact n.rel.live a ha e
  · have q := n.rel.cell i a c h1 h2
    have hd : a ≠ D := fun z => hD (z ▸ List.mem_of_getElem? h1)
    cases c with
    | lst xs => obtain ⟨z, vs, e, r⟩ := q; exact ⟨z, vs, by rw [upd_ne hd]; exact e, r⟩
    | dct xs => obtain ⟨z, vs, e, r⟩ := q; exact ⟨z, vs, by rw [upd_ne hd]; exact e, r⟩
    | frz y => exact q
    | ins _ _ => trivial
/-- a list that is being made: D is apart from all else -/
theorem ext_upd {D : Addr} {o : HO} {F0 H0 : Hp} {ad0 : List Addr} (x : Ext F0 H0 ad0 F H ad) (h0 : H0 D = none) : Ext F0 H0 ad0 F (upd H D o) ad := by
  refine ⟨x.le, x.new, x.app, fun a o e ha => ?_, fun a e => ?_⟩
  · rw [upd_ne (ne_of_none e h0)]; exact x.keep a o e ha
  · by_cases hd : a = D
    · subst hd; exact h0
    · rw [upd_ne hd] at e; exact x.there a e
/-- what stays apart through a step -/
theorem apart_ext {D : Addr} {o : HO} (x : Ext F H ad F' H' ad') (hD : D ∉ ad) (hF : F D = none) (h : H D = some o) : D ∉ ad' ∧ F' D = none ∧ H' D = some o := by
  have hk : H' D = some o := (x.keep D o h (.inl hD)).elim (fun z => z) fun ⟨z, _⟩ => by rw [hF] at z; cases z
  obtain ⟨m, e, f⟩ := x.app
  refine ⟨?_, ?_, hk⟩
  · rw [e]; intro z
    rcases List.mem_append.mp z with z | z
    · exact hD z
    · rw [f D z] at h; cases h
  · cases q : F' D with
    | none => rfl
    | some u =>
      rcases x.new D (by rw [q]; simp) with z | z | z
      · exact absurd hF z
      · rw [h] at z; cases z
      · exact absurd z hD
theorem w_lc {g : WG} {tt : WT} {te : WE} {wi : WI} {own : List Nat} {σ : L2.St} {H : Hp} {Q : VK} (hW : ∀ i ∈ W, i ∈ own)
    (h : tE K mg (DL.wLc wi g tt te own) σ H Q) : L2.tLc (tWI K mg wi) (tG K mg W g) (tT K mg tt) (tE K mg te) own σ H Q := by
  obtain ⟨F, ad, env, st, P, n, h, k⟩ := h
  refine ⟨F, ad, env, st, _, n, h, fun xs st1 J F1 ad1 H1 q x n1 ok D hD => ?_⟩
  have dn : D ∉ ad1 := fun z => n1.rel.live D z hD
  have fn := n1.rel.fl.none hD
  refine ⟨fun i m H3 => m = xs.length - i ∧ i ≤ xs.length ∧ ∃ F3 ad3 st3 acc vs, Ext F1 H1 ad1 F3 H3 ad3 ∧ Now K mg σ F3 H3 ad3 env st3 ∧ H3 D = some (.lst vs) ∧ D ∉ ad3 ∧ F3 D = none ∧ RpAll K F3 vs acc ∧ acc.length ≤ i ∧ lcGo g tt te (wipeE env own) (fun ys st2 => P (.d (.list ys)) st2) (xs.drop i) acc st3,
    ⟨xs.length, by simp, Nat.zero_le _, F1, ad1, st1, [], [], ext_upd (Ext.refl _ _ _) hD, upd_apart n1 dn fn, upd_same, dn, fn, .nil, Nat.le_refl _, q⟩, ?_⟩
  rintro i m H3 ⟨rfl, hi3, F3, ad3, st3, acc, vs, x3, n3, hd3, da3, df3, ra3, hl3, q3⟩
  by_cases hl : i < xs.length
  · obtain ⟨y, ey, ed⟩ := drop_cons hl
    rw [ed] at q3
    refine .inr ⟨ok.go F3 H3 ad3 st3 i y x3 n3.rel ey, fun H' => ∃ F4 ad4 st4 acc vs, Ext F1 H1 ad1 F4 H' ad4 ∧ Now K mg σ F4 H' ad4 env st4 ∧ H' D = some (.lst vs) ∧ D ∉ ad4 ∧ F4 D = none ∧ RpAll K F4 vs acc ∧ acc.length ≤ i + 1 ∧ lcGo g tt te (wipeE env own) (fun ys st2 => P (.d (.list ys)) st2) (xs.drop (i + 1)) acc st4,
      fun H' z => ⟨xs.length - (i + 1), by omega, rfl, hl, z⟩, fun v H4 hy => ?_⟩
    obtain ⟨F4, x4, n4, d4⟩ := ok.yld F3 H3 ad3 st3 i y x3 n3.rel ey v H4 hy
    have n4w := n4 (L2.wipe σ own) (wipeE env own) ⟨n3.rel, n3.env.wipe own⟩
    obtain ⟨a4, b4, c4⟩ := apart_ext x4 da3 df3 hd3
    refine ⟨F4, ad3, wipeE env own, st3, y, _, n4w, d4, q3, fun env5 st5 σ5 F5 ad5 H5 q5 x5 n5 o5 => ⟨o5.wipe hW, ?_⟩⟩
    obtain ⟨a5, b5, c5⟩ := apart_ext x5 a4 b4 c4
    refine tT_go n5 q5 fun b st6 F6 ad6 H6 q6 x6 n6 => ?_
    obtain ⟨a6, b6, c6⟩ := apart_ext x6 a5 b5 c5
    have x36 := (x4.trans x5).trans x6
    cases b with
    | false =>
      exact ⟨F6, ad6, st6, acc, vs, x3.trans x36, ⟨n6.rel, n3.env.ext x36⟩, c6, a6, b6, RpAll.le x36.le _ _ ra3, Nat.le_succ_of_le hl3, q6⟩
    | true =>
      refine tE_go n6 q6 fun r st7 v7 F7 ad7 H7 q7 x7 n7 d7 => ?_
      obtain ⟨a7, b7, c7⟩ := apart_ext x7 a6 b6 c6
      have x37 := x36.trans x7
      cases r with
      | d y7 =>
        have hlen : vs.length < sizeLine := by
          rw [ra3.length]
          exact Nat.lt_of_le_of_lt hl3 (Nat.lt_of_lt_of_le hl ok.len)
        exact ⟨vs, c7, hlen, F7, ad7, st7, acc ++ [y7], vs ++ [v7], ext_upd (x3.trans x37) hD, upd_apart ⟨n7.rel, n3.env.ext x37⟩ a7 b7, upd_same, a7, b7, (RpAll.le x37.le _ _ ra3).append (.cons d7 .nil), by simp; exact hl3, q7⟩
      | loc _ => exact q7.elim
      | fn _ => exact q7.elim
      | scr _ => exact q7.elim
  · have e : i = xs.length := by omega
    subst e
    rw [List.drop_length] at q3
    refine .inl ⟨ok.stop F3 H3 ad3 st3 _ x3 n3.rel (Nat.le_refl _), ?_⟩
    have le : LeH F3 (upd F3 D (.lst vs)) := fun b u eb => by rw [upd_ne (ne_of_none eb df3)]; exact eb
    have hn : H D = none := x.there D hD
    have x13 := x.trans x3
    have xx : Ext F H ad (upd F3 D (.lst vs)) H3 ad3 := ⟨x13.le.trans le, fun b hb => by
      by_cases hbd : b = D
      · subst hbd; exact .inr (.inl hn)
      · rw [upd_ne hbd] at hb; exact x13.new b hb, x13.app, x13.keep, x13.there⟩
    refine k (.d (.list acc)) st3 (.ref D) (upd F3 D (.lst vs)) ad3 H3 q3 xx ⟨⟨fun b u eb => ?_, n3.rel.len, n3.rel.nd, n3.rel.live, fun j b c h1 h2 => ?_⟩, n.env.ext xx⟩ (Rp.lst upd_same (RpAll.le le _ _ ra3))
    · by_cases hbd : b = D
      · subst hbd; rw [upd_same] at eb; cases eb; exact .inl hd3
      · rw [upd_ne hbd] at eb; exact n3.rel.fl b u eb
    · have q := n3.rel.cell j b c h1 h2
      have hbd : b ≠ D := fun z => da3 (z ▸ List.mem_of_getElem? h1)
      cases c with
      | lst xs => obtain ⟨z, vs, e, r⟩ := q; exact ⟨by rw [upd_ne hbd]; exact z, vs, e, RpAll.le le _ _ r⟩
      | dct xs => obtain ⟨z, vs, e, r⟩ := q; exact ⟨by rw [upd_ne hbd]; exact z, vs, e, RpKv.le le _ _ r⟩
      | frz y => exact Rp.le le _ _ q
      | ins _ _ => trivial
theorem de_lc {elt iter : Expr} {ifs : List Expr} {scope : Scope} {own : List (Str × Nat)} {wi : WI} {tt : WT} {te : WE} (hc : X.calm = true) (hN : X.N.Nodup) (hi : PI X tg iter (tWI K mg wi)) (ok : blkC X.N X.env.scope scope own = true)
    (hg : ∀ (s : Shared) (H : Hp) (C : Addr) (cl : List (Str × Addr)) (fp : List Addr), PG (X.blk s H scope (compEnvC scope cl C X.env) fp) tg (tG K mg W g)) (ht : ∀ (s : Shared) (H : Hp) (C : Addr) (cl : List (Str × Addr)) (fp : List Addr), PTs (X.blk s H scope (compEnvC scope cl C X.env) fp) ifs (tT K mg tt))
    (he : ∀ (s : Shared) (H : Hp) (C : Addr) (cl : List (Str × Addr)) (fp : List Addr), PE (X.blk s H scope (compEnvC scope cl C X.env) fp) elt (tE K mg te)) (hW : ∀ i ∈ W, i ∈ own.map (·.2) := by decide) (hs : ∀ x, foldedSetIterable iter X.env x = pure x := by intro _; rfl) :
    PE X (.ListComp elt [⟨tg, iter, ifs, 0⟩] scope pos) (tE K mg (DL.wLc wi g tt te (own.map (·.2)))) :=
  pe_weak (pe_lc hc hN hi (blkOk_by ok) hg ht he hs) fun _ _ _ h => w_lc hW h
theorem dts_nil : PTs X [] (tT K mg wYes) := ⟨fun pins s σ H Q I ⟨F, ad, env, st, P, n, h, k⟩ => pts_nil.run pins s σ H Q I (k true st F ad H h (Ext.refl _ _ _) n)⟩
theorem dts_one {c : Expr} {t : WT} (h : PT X c (tT K mg t)) : PTs X [c] (tT K mg t) := pts_one h
end
end DL
/-! text DLCall -/
namespace DL
open PySem PySem.Spec PyProof.Rows L2
/-- room for k calls one in another; nothing that guards a repr runs -/
structure Room1 (k : Nat) (A : Around) : Prop where
  hd : A.handled = none
  gd : A.guards = some []
  dp : A.depth + k + 10 < recursionLimit
  un : A.units + 4 * k + 300 < cLine
theorem Room1.mono {j k : Nat} {A : Around} (r : Room1 k A) (h : j ≤ k) : Room1 j A := ⟨r.hd, r.gd, by have := r.dp; omega, by have := r.un; omega⟩
theorem Room1.deeper {k : Nat} {A : Around} (r : Room1 (k + 1) A) (env : PySem.Env) : Room1 k (A.deeper env) :=
  ⟨r.hd, by first | exact r.gd | (simpa [Around.deeper, Around.under, Code.guards, pushGuards] using r.gd), by have := r.dp; show A.depth + 1 + k + 10 < _; omega, by have := r.un; show A.units + 3 + 4 * k + 300 < _; omega⟩
theorem Room1.u (n : Nat) {k : Nat} {A : Around} (r : Room1 k A) (h : n ≤ 300 := by decide) : A.units + n < cLine := by have := r.un; omega
/-- a def's promise, where Room1 is -/
structure FnG (P : Program) (w : World) (K : PySem.W.Frag) (mg : Str → Option Value) (base : Heap) (CX : CXT) (k : Nat) (f : Addr) (fd : FuncData) (ps : List Str) (sp : Sp) : Prop where
  len : ∀ vs H Q E, sp vs H Q E → vs.length = ps.length
  run : ∀ (A : Around) (outer : List PySem.Env) (s : Shared) (H : Hp) (args : Args) (us : List Value) (vs : List V) (Q : VK) (E : XK), Room1 k A → Env0 P w K mg base A outer s H →
    BindsTo s fd args (ps.zip us) → Vals vs us → sp vs H Q E → codeAny (model P w) A (.call (.ref f) args) (CR CX outer P w H s Q E) s
theorem FnG.mono {P : Program} {w : World} {K : PySem.W.Frag} {mg : Str → Option Value} {base : Heap} {CX : CXT} {j k : Nat} {f : Addr} {fd : FuncData} {ps : List Str} {sp : Sp} (G : FnG P w K mg base CX j f fd ps sp) (h : j ≤ k) : FnG P w K mg base CX k f fd ps sp :=
  ⟨G.len, fun A outer s H args us vs Q E hr => G.run A outer s H args us vs Q E (hr.mono h)⟩
/-- an exception, by data -/
def FldsR (K : PySem.W.Frag) (mg : Str → Option Value) (F : Hp) (ad : List Addr) : List (Str × V) → List (Str × DV) → Prop
  | [], [] => True
  | p :: r, q :: t => p.1 = q.1 ∧ DVR K mg F ad p.2 q.2 ∧ FldsR K mg F ad r t
  | _, _ => False
def ExnR (K : PySem.W.Frag) (mg : Str → Option Value) (F H : Hp) (ad : List Addr) (cls : Value) (d : Option Addr) (x : Exn) : Prop :=
  ∃ C dd fs, mg x.cls = some (.ref C) ∧ cls = .ref C ∧ d = some dd ∧ H dd = some (.xd fs) ∧ F dd = none ∧ dd ∉ ad ∧ FldsR K mg F ad fs x.fs
def spV (K : PySem.W.Frag) (mg : Str → Option Value) (n : Nat) (sp : SpD) : Sp := fun vs H Q E => ∃ F ad st args P PE, args.length = n ∧ Rel K mg F H ad st ∧ DVRs K mg F ad vs args ∧ sp args st P PE ∧
  (∀ r st' v F' ad' H', P r st' → Ext F H ad F' H' ad' → Rel K mg F' H' ad' st' → DVR K mg F' ad' v r → Q v H') ∧
  ∀ x st' cls d F' ad' H', PE x st' → Ext F H ad F' H' ad' → Rel K mg F' H' ad' st' → ExnR K mg F' H' ad' cls d x → E cls d H'
theorem DVRs.length {K : PySem.W.Frag} {mg : Str → Option Value} {F : Hp} {ad : List Addr} : ∀ {vs : List V} {rs : List DV}, DVRs K mg F ad vs rs → vs.length = rs.length
  | _, _, .nil => rfl
  | _, _, .cons _ t => by simp [DVRs.length t]
theorem DVRs.append {K : PySem.W.Frag} {mg : Str → Option Value} {F : Hp} {ad : List Addr} : ∀ {vs us : List V} {rs ts : List DV}, DVRs K mg F ad vs rs → DVRs K mg F ad us ts → DVRs K mg F ad (vs ++ us) (rs ++ ts)
  | _, _, _, _, .nil, h => h
  | _, _, _, _, .cons r t, h => .cons r (DVRs.append t h)
theorem DVRs.get {K : PySem.W.Frag} {mg : Str → Option Value} {F : Hp} {ad : List Addr} : ∀ {vs : List V} {rs : List DV} {i : Nat} {x : DV}, DVRs K mg F ad vs rs → rs[i]? = some x → ∃ v, vs[i]? = some v ∧ DVR K mg F ad v x
  | _, _, _, _, .nil, e => by simp at e
  | _, _, 0, _, .cons r _, e => by simp at e; subst e; exact ⟨_, rfl, r⟩
  | _, _, i + 1, _, .cons _ t, e => by
    obtain ⟨v, h1, h2⟩ := DVRs.get (i := i) t (by simpa using e)
    exact ⟨v, by simpa using h1, h2⟩
section
variable {X : Cx} {CX : CXT} {k : Nat} {f : Addr} {fd : FuncData} {ps : List Str} {x : Str} {p pos : Pos} {e : Expr} {es : List Expr} {fs : WA} {sp : SpD} {ds : List Value} {dvs : List V} {dd : List DV}
/-- the callee, at a call -/
theorem runG {pins : List (Addr × Obj)} {σ : L2.St} {H : Hp} {s : Shared} {Q : VK} {us : List Value} {vs : List V} {spx : Sp} {E : XK} (G : FnG X.prog X.w X.K X.mg X.base CX k f fd ps spx) (hr : Room1 k X.A)
    (hb : Binds X.K fd ps ds) (hd : Vals dvs ds) (hx : Passes CX X E) (I : Inv X pins σ H s) (r : Vals vs us) (h : spx (vs ++ dvs) H Q E) :
    wpAny (model X.prog X.w) X.A (call (.ref f) us) (EP X pins σ Q) X.xe s := by
  have rv : Vals (vs ++ dvs) (us ++ ds) := Vals.append r hd
  have ln : (us ++ ds).length = ps.length := (rv.length).symm.trans (G.len _ _ _ _ h)
  have go := G.run X.A X.stack s H ⟨us, []⟩ (us ++ ds) (vs ++ dvs) Q E hr I.env0 (hb s us I.kIn ln) rv h
  refine wpAny_call (codeAny_mono go fun res s' q => ?_)
  match res, q with
  | .error er, q => exact hx pins σ H s er s' I q
  | .ok (.ret u), q => exact I.after q
  | .ok .next, q => exact q.elim
  | .ok .brk, q => exact q.elim
  | .ok .cont, q => exact q.elim
/-- the promise, by data, of a call's arguments -/
theorem w_call {E : EK} {EX : XK} {n : Nat} {σ : L2.St} {H : Hp} {Q : VK} {t : TA} (hn : ∀ args st P PE, sp args st P PE → args.length = n) (hdd : ∀ F ad, DVRs X.K X.mg F ad dvs dd)
    (hE : ∀ x st' cls d F' ad' H', E x st' → Rel X.K X.mg F' H' ad' st' → ExnR X.K X.mg F' H' ad' cls d x → EX cls d H')
    (ht : ∀ σ H Q, tA X.K X.mg fs σ H Q → t σ H Q)
    (h : tE X.K X.mg (wCall (fun as st P PE => sp (as ++ dd) st P PE) E fs) σ H Q) : t σ H fun vs H1 => spV X.K X.mg n sp (vs ++ dvs) H1 Q EX := by
  obtain ⟨F, ad, env, st, P, nw, h, kk⟩ := h
  refine ht _ _ _ ⟨F, ad, env, st, _, nw, h, fun rs st1 vs F1 ad1 H1 p1 x1 n1 d1 => ?_⟩
  refine ⟨F1, ad1, st1, rs ++ dd, P, E, hn _ _ _ _ p1, n1.rel, d1.append (hdd _ _), p1, fun r st2 v F2 ad2 H2 p2 x2 r2 d2 => ?_, fun xx st2 cls d F2 ad2 H2 p2 x2 r2 d2 => hE _ _ _ _ _ _ _ p2 r2 d2⟩
  exact kk r st2 v F2 ad2 H2 p2 (x1.trans x2) ⟨r2, n1.env.ext x2⟩ d2
/-- f(e, ..), some defaults filled up -/
theorem de_callX {E : EK} {EX : XK} {n : Nat} (G : FnG X.prog X.w X.K X.mg X.base CX k f fd ps (spV X.K X.mg n sp)) (hr : Room1 k X.A) (hm : X.mg x = some (.ref f)) (hk : PySem.W.keepIn X.K (.ref f) = true)
    (hn : ∀ args st P PE, sp args st P PE → args.length = n) (hb : Binds X.K fd ps ds) (hd : Vals dvs ds) (hdd : ∀ F ad, DVRs X.K X.mg F ad dvs dd) (hx : Passes CX X EX)
    (hE : ∀ x st' cls d F' ad' H', E x st' → Rel X.K X.mg F' H' ad' st' → ExnR X.K X.mg F' H' ad' cls d x → EX cls d H')
    (ha : PA X (e :: es) (tA X.K X.mg fs)) (hg : Gl X x := by rfl) (hdb : (x == ("__debug__" : Str)) = false := by decide)
    (he : starEach (e :: es) X.env = (false, eval e X.env) :: starEach es X.env := by rfl) (hpl : (backTo pos (starEach es X.env)).any (·.1) = false := by rfl) :
    PE X (.Call (.Name x p) (e :: es) [] pos) (tE X.K X.mg (wCall (fun as st P PE => sp (as ++ dd) st P PE) E fs)) := by
  refine ⟨fun pins s σ H Q I h => wpAny_Call_Name_kw (ld_glob I hg hm ?_ hdb)⟩
  have h2 : (tA X.K X.mg fs) σ H fun vs H1 => spV X.K X.mg n sp (vs ++ dvs) H1 Q EX := w_call (t := tA X.K X.mg fs) hn hdd hE (fun _ _ _ z => z) h
  refine PySem.W.callWith_K (h₀ := X.base) I.ok.mod.kin hk ?_ he hpl
  refine thn (ha.run pos pins s σ H _ I h2) ?_
  rintro us s1 ⟨vs, H1, I1, r, q⟩
  exact ⟨I1.kIn, runG G hr hb hd hx I1 r q⟩
/-- f() of no arguments -/
theorem de_call0 {E : EK} {EX : XK} (G : FnG X.prog X.w X.K X.mg X.base CX k f fd ps (spV X.K X.mg 0 sp)) (hr : Room1 k X.A) (hm : X.mg x = some (.ref f)) (hk : PySem.W.keepIn X.K (.ref f) = true)
    (hn : ∀ args st P PE, sp args st P PE → args.length = 0) (hb : Binds X.K fd ps []) (hx : Passes CX X EX)
    (hE : ∀ x st' cls d F' ad' H', E x st' → Rel X.K X.mg F' H' ad' st' → ExnR X.K X.mg F' H' ad' cls d x → EX cls d H')
    (hg : Gl X x := by rfl) (hdb : (x == ("__debug__" : Str)) = false := by decide) :
    PE X (.Call (.Name x p) [] [] pos) (tE X.K X.mg (wCall sp E wNil)) := by
  refine ⟨fun pins s σ H Q I h => wpAny_Call_Name_kw (ld_glob I hg hm ?_ hdb)⟩
  obtain ⟨F, ad, env, st, P, nw, h, kk⟩ := h
  refine PySem.W.callWith_K0 I.kIn hk (runG (us := []) (vs := []) G hr hb (.nil) hx I .nil ?_)
  exact ⟨F, ad, st, [], P, E, rfl, nw.rel, .nil, h, fun r st2 v F2 ad2 H2 p2 x2 r2 d2 => kk r st2 v F2 ad2 H2 p2 x2 ⟨r2, nw.env.ext x2⟩ d2, fun xx st2 cls d F2 ad2 H2 p2 x2 r2 d2 => hE _ _ _ _ _ _ _ p2 r2 d2⟩
end
/-! ### a def -/
section
variable {P : Program} {w : World} {K : PySem.W.Frag} {mg : Str → Option Value} {base : Heap} {CX : CXT}
/-- the rule of a def, by its body -/
theorem fnG_of {k : Nat} {f : Addr} {name qual : Str} {params : Arguments} {body : List Stmt} {scope : Scope} {dV kV doc pm cdv ct oc : Value} {an od : Option Addr} {osl : Array (Option Value)} {N ps : List Str} {sp : Sp}
    (lk : K.lookup f = some ⟨oc, od, .func (PySem.W.fnOf name qual params body scope dV kV doc pm an cdv ct), osl⟩) (hcd : PySem.W.codeIn K cdv qual = true) (S : FnScope N ps scope)
    (len : ∀ vs H Q E, sp vs H Q E → vs.length = ps.length)
    (hbody : ∀ (A : Around) (outer : List PySem.Env) (s : Shared) (H : Hp) (vs : List V) (Q : VK) (E : XK), Room1 k (A.deeper (envOfC qual scope s.heap.objs.size f cdv)) → sp vs H Q E →
      ∃ t, PSs (cxOf CX P w K mg base N qual scope f cdv A outer s H E) body t ∧ t { nx := fun _ H' => Q .non H', rt := Q } (start N vs) H) :
    FnG P w K mg base CX (k + 1) f (PySem.W.fnOf name qual params body scope dV kV doc pm an cdv ct) ps sp := by
  constructor
  · exact len
  intro A outer s H args us vs Q E hr e0 hb r hsp
  have up : ∀ b o, base.get? b = some o → s.heap.get? b = some o := fun b o z => (e0.bs b o z).1
  have kin : K.In s.heap := e0.mod.kin.keeps up
  have nol := e0.mod.nolimit.keeps up
  have kinds : ∀ y ∈ ps.zip us, scope.names.lookup y.1 = some .local ∨ (scope.names.lookup y.1 = some .cell ∧ ((cellsFrom (s.heap.objs.size + 1) scope.names []).lookup y.1).isSome = true) := by
    rintro ⟨nm, v⟩ hy
    cases S.par nm (List.of_mem_zip hy).1 with
    | inl q => exact .inl q
    | inr q => exact .inr ⟨q, PySem.W.cellsFrom_some _ _ _ (.inl q)⟩
  have dep : A.depth < recursionLimit := by have := hr.dp; omega
  refine codeAny_call_function dep (kin _ _ lk) rfl S.co S.gen rfl (PySem.W.codeRec_of kin hcd) (hb _ _ _ _ ?_)
  refine wpAny_newFunctionEnv_cells S.kind kinds fun env1 he s1 xx => ?_
  subst he
  refine ⟨nol.keeps xx.toInCall.keep, codeAny_func ?_⟩
  have lnv := len _ _ _ _ hsp
  obtain ⟨t, ht, hq⟩ := hbody A outer s H vs Q E (hr.deeper _) hsp
  have I0 := inv_start (CX := CX) (P := P) (w := w) (K := K) (mg := mg) (base := base) (E := E) S hr.hd e0 lnv r xx
  refine wpAny_mono (ht.run [] s1 (start N vs) H _ I0 hq) ?_ fun _ _ z => z
  intro fl s' hs
  match fl, hs with
  | .ret u, hs =>
    obtain ⟨v, σ', H', J, rv, q⟩ := hs
    exact ⟨v, H', J.os, J.bare, J.base, J.hok, rv, q⟩
  | .next, hs =>
    obtain ⟨σ', H', J, q⟩ := hs
    exact ⟨.non, H', J.os, J.bare, J.base, J.hok, rfl, q⟩
  | .brk, hs => exact hs.elim fun _ z => z.elim fun _ z => z.2.elim
  | .cont, hs => exact hs.elim fun _ z => z.elim fun _ z => z.2.elim
theorem envR_start {N : List Str} {F : Hp} {ad : List Addr} {vs : List V} {args : List DV} (h : DVRs K mg F ad vs args) : EnvR K mg F ad (L2.start N vs) (startE N.length args) := by
  have hl := h.length
  refine ⟨by simp [L2.start, startE, hl], fun i dv e => ?_⟩
  unfold startE at e
  by_cases hi : i < args.length
  · rw [List.getElem?_append_left (by simpa using hi), List.getElem?_map] at e
    cases q : args[i]? with
    | none => rw [q] at e; cases e
    | some x =>
      rw [q] at e; cases e
      obtain ⟨v, h1, h2⟩ := h.get q
      refine ⟨v, ?_, h2⟩
      unfold L2.start
      rw [List.getElem?_append_left (by simp [hl]; exact hi), List.getElem?_map, h1]
      rfl
  · rw [List.getElem?_append_right (by simpa using hi), List.getElem?_replicate] at e
    split at e <;> cases e
/-- what a def's changeable objects leave: those of the entry, and the answer's own -/
theorem rel_take {F H F' H' : Hp} {ad ad' : List Addr} {st st' : Store} (n : Rel K mg F H ad st) (x : Ext F H ad F' H' ad') (r : Rel K mg F' H' ad' st') : Ext F H ad F' H' ad ∧ Rel K mg F' H' ad (st'.take st.length) := by
  obtain ⟨m, e, fr⟩ := x.app
  refine ⟨⟨x.le, x.new, ⟨[], by simp, fun _ h => by simp at h⟩, x.keep, x.there⟩, ⟨r.fl, ?_, ?_, fun a h => r.live a (by rw [e]; exact List.mem_append_left _ h), fun i a c h1 h2 => ?_⟩⟩
  · have h1 := r.len
    have h2 := n.len
    rw [e, List.length_append] at h1
    rw [List.length_take]; omega
  · have := r.nd
    rw [e] at this
    exact (List.nodup_append.mp this).1
  · have hi := (List.getElem?_eq_some_iff.mp h1).1
    rw [List.getElem?_take_of_lt (by rw [← n.len]; exact hi)] at h2
    have q := r.cell i a c (by rw [e, List.getElem?_append_left hi]; exact h1) h2
    cases c with
    | lst _ => exact q
    | dct _ => exact q
    | frz _ => exact q
    | ins _ _ => exact q
theorem rel_one {F H F' H' : Hp} {ad ad' : List Addr} {st st' : Store} {i : Nat} {a : Addr} {c : Cell} (n : Rel K mg F H ad st) (x : Ext F H ad F' H' ad') (r : Rel K mg F' H' ad' st') (hi : st.length ≤ i) (ha : ad'[i]? = some a) (hc : st'[i]? = some c) :
    Ext F H ad F' H' (ad ++ [a]) ∧ Rel K mg F' H' (ad ++ [a]) (st'.take st.length ++ [c]) := by
  obtain ⟨x0, r0⟩ := rel_take n x r
  obtain ⟨m, e, fr⟩ := x.app
  have am : a ∈ m := by
    have h2 := n.len
    rw [e, List.getElem?_append_right (by omega)] at ha
    exact List.mem_of_getElem? ha
  have an : a ∉ ad := fun z => n.live a z (fr a am)
  refine ⟨⟨x.le, x.new, ⟨[a], rfl, fun b h => by simp at h; subst h; exact fr b am⟩, x.keep, x.there⟩, ⟨r.fl, by simp [r0.len], ?_, fun b h => ?_, fun j b c' h1 h2 => ?_⟩⟩
  · rw [List.nodup_append]
    refine ⟨n.nd, by simp, fun b h d hd => ?_⟩
    simp at hd; subst hd
    exact fun z => an (z ▸ h)
  · rcases List.mem_append.mp h with h | h
    · exact r0.live b h
    · simp at h; subst h; exact r.live b (List.mem_of_getElem? ha)
  · by_cases hj : j < ad.length
    · rw [List.getElem?_append_left hj] at h1
      rw [List.getElem?_append_left (by rw [← r0.len]; exact hj)] at h2
      have q := r0.cell j b c' h1 h2
      cases c' with
      | lst _ => exact q
      | dct _ => exact q
      | frz _ => exact q
      | ins _ _ => exact q
    · have e1 : j = ad.length := by
        have := (List.getElem?_eq_some_iff.mp h1).1
        simp at this; omega
      subst e1
      rw [List.getElem?_append_right (Nat.le_refl _), Nat.sub_self] at h1
      rw [List.getElem?_append_right (by rw [r0.len]; exact Nat.le_refl _), r0.len, Nat.sub_self] at h2
      cases h1
      cases h2
      have q := r.cell i a c ha hc
      cases c with
      | lst _ => exact q
      | dct _ => exact q
      | frz _ => exact q
      | ins _ _ => exact q
/-- what is wanted at a def's end -/
theorem ret_post {F H : Hp} {ad : List Addr} {st : Store} {PD : RK} {Q : VK} (n : Rel K mg F H ad st)
    (hk : ∀ r st' v F' ad' H', PD r st' → Ext F H ad F' H' ad' → Rel K mg F' H' ad' st' → DVR K mg F' ad' v r → Q v H')
    {r : DV} {st' : Store} {v : V} {F' H' : Hp} {ad' : List Addr} (q : retK st.length PD r st') (x : Ext F H ad F' H' ad') (rl : Rel K mg F' H' ad' st') (d : DVR K mg F' ad' v r) : Q v H' := by
  cases r with
  | loc m =>
    obtain ⟨a, rfl, ha⟩ := d
    unfold retK at q
    by_cases hm : m < st.length
    · simp only [if_pos hm] at q
      obtain ⟨x0, r0⟩ := rel_take n x rl
      refine hk _ _ _ F' ad H' q x0 r0 ⟨a, rfl, ?_⟩
      obtain ⟨mm, e, _⟩ := x.app
      rw [e, List.getElem?_append_left (by rw [n.len]; exact hm)] at ha
      exact ha
    · simp only [if_neg hm] at q
      obtain ⟨c, hc, q⟩ := optK_elim q
      obtain ⟨x1, r1⟩ := rel_one n x rl (Nat.le_of_not_lt hm) ha hc
      exact hk _ _ _ F' _ H' q x1 r1 ⟨a, rfl, by rw [← n.len]; simp⟩
  | d y => obtain ⟨x0, r0⟩ := rel_take n x rl; exact hk _ _ _ F' ad H' q x0 r0 d
  | fn y => obtain ⟨x0, r0⟩ := rel_take n x rl; exact hk _ _ _ F' ad H' q x0 r0 d
  | scr y => obtain ⟨x0, r0⟩ := rel_take n x rl; exact hk _ _ _ F' ad H' q x0 r0 d
/-- THE RULE: a def whose body's words keep the promise keeps it (nothing is raised) -/
theorem fn_keep {x qual : Str} {st : Stmt} {f : Addr} {fd : FuncData} {N ps : List Str} {k : Nat} {sp : SpD} {body : EK → WS} (Fu : Fun K x qual st f fd) (S : FnScope N ps (defScope st)) (hn : ∀ args st P PE, sp args st P PE → args.length = ps.length)
    (hk : Keeps N.length sp body)
    (hd : ∀ (cdv : Value) (A : Around) (outer : List PySem.Env) (s : Shared) (H : Hp) (E : XK) (EE : EK), Room1 k (A.deeper (envOfC qual (defScope st) s.heap.objs.size f cdv)) →
      PSs (cxOf CX0 P w K mg base N qual (defScope st) f cdv A outer s H E).nox (defBody st) (tS K mg (body EE))) : FnG P w K mg base CX0 (k + 1) f fd ps (spV K mg ps.length sp) := by
  obtain ⟨oc, od, kV, doc, pm, an, cdv, ct, osl, rfl, lk, hcd⟩ := Fu.ex
  refine fnG_of lk hcd S (fun vs H Q E ⟨_, _, _, args, _, _, hl, _, hv, _⟩ => hv.length.trans hl) fun A outer s H vs Q E hr hsp => ?_
  obtain ⟨F, ad, st0, args, PD, PE, hl, rl, dv, h, k1, k2⟩ := hsp
  refine ⟨_, (hd cdv A outer s H E PE hr).nox, F, ad, startE N.length args, st0, finOf st0.length PD, ⟨rl, envR_start dv⟩, hk args st0 PD PE h, ?_, ?_, ?_, ?_⟩
  · intro env' st' σ' F' ad' H' q x n'
    exact ret_post (r := .d .none) (st' := st') (v := V.non) rl k1 q x n'.rel Rp.non
  · intro r st' v F' ad' H' q x r' d'
    exact ret_post rl k1 q x r' d'
  · intro _ _ _ _ _ _ q; exact q.elim
  · intro _ _ _ _ _ _ q; exact q.elim
/-! ### the law's call -/
/-- from a heap that tracks the script alone (or nothing) -/
theorem law_core {k : Nat} {fa a : Addr} {fd : FuncData} {x : Str} {sp : SpD} {s1 : Shared} {mb : Str → Option Value} {ns : List Int} {H : Hp} {its : Array Value}
    (hk : K.In s1.heap) (hns : s1.heap.Ns mainGlobals mg) (hb : s1.heap.Ns builtinsNs mb) (hbb : ∀ y : Str, y ≠ "__name__" → mb y = bootBuiltins y) (hlim : s1.heap.NoLimit) (hg : s1.gens = #[])
    (hobj : ∀ o, s1.heap.get? a = some o → ∃ n, o.data = .seq its n) (hr : Room1 k callerA)
    (G : ∀ base : Heap, K.In base → base.Ns mainGlobals mg → FnG P w K mg base CX0 k fa fd [x] (spV K mg 1 sp)) (hbind : ∀ (s : Shared) (u : Value), BindsTo s fd ⟨[u], []⟩ [(x, u)])
    (hsp : ∀ PE, sp [.scr ns] [] (fun r _ => r = .d (.bool true)) PE)
    (hf : ∀ b u, H b = some u → b = a ∧ ∃ o xs, u = .frz o (.lst xs)) (hS : SqL K H a (ns.map V.int)) (hok : HOk P w H s1.heap) (hK : H a ≠ none → K.lookup a = none) :
    codeAny (model P w) callerA (.call (.ref fa) ⟨[.ref a], []⟩) (fun r s' => r = .ok (.ret (.bool true)) ∧ OldK s1.heap s'.heap ∧ s'.os = s1.os ∧ AllBare s'.gens) s1 := by
  -- the heap without the script
  have bs : ∀ {b : Addr} {o : Obj}, s1.heap.get? b = some o → H b = none → (hidT s1.heap H).get? b = some o := fun z q => hidT_get z q
  have off : ∀ {b : Addr} {o : Obj} {es : Array DictEntry} {ep : Nat}, s1.heap.get? b = some o → o.data = .dict es ep → H b = none := fun {b o es ep} z q => by
    cases hh : H b with
    | none => rfl
    | some u =>
      obtain ⟨rfl, _⟩ := hf b u hh
      obtain ⟨m, e⟩ := hobj o z
      rw [e] at q; cases q
  have spaces : ∀ {b : Addr} {m : Str → Option Value}, s1.heap.Ns b m → (hidT s1.heap H).Ns b m := fun ⟨o, es, ep, z, q, rest⟩ => ⟨o, es, ep, bs z (off z q), q, rest⟩
  have kb : K.In (hidT s1.heap H) := fun b o z => bs (hk b o z) (by
    cases hh : H b with
    | none => rfl
    | some u =>
      obtain ⟨rfl, _⟩ := hf b u hh
      rw [hK (by rw [hh]; simp)] at z; cases z)
  have md : Mod K mg (hidT s1.heap H) := by
    refine ⟨kb, spaces hns, ⟨mb, spaces hb, hbb⟩, ?_⟩
    obtain ⟨mc, z1, z2⟩ := hlim
    exact ⟨mc, spaces z1, z2⟩
  have en : Env0 P w K mg (hidT s1.heap H) callerA [] s1 H := by
    refine ⟨rfl, md, fun b o z => of_hidT z, Nat.le_of_eq (hidT_size _ _), trivial, ?_, hok, .of_eq hg⟩
    intro b hb2
    exact (List.not_mem_nil hb2).elim
  have pr : spV K mg 1 sp [.ref a] H (fun v _ => v = .bl true) (fun _ _ _ => True) := by
    refine ⟨H, [], [], [.scr ns], _, fun _ _ => True, rfl, ⟨fun b u z => .inl z, rfl, List.nodup_nil, fun b z => (List.not_mem_nil z).elim, fun i b c z => by simp at z⟩, .cons ⟨a, rfl, hS⟩ .nil, hsp _, ?_, fun _ _ _ _ _ _ _ _ _ _ _ => trivial⟩
    intro r st' v F' ad' H' q _ _ d
    subst q
    cases d
    rfl
  refine codeAny_mono ((G _ kb (spaces hns)).run callerA [] s1 H ⟨[.ref a], []⟩ [.ref a] [.ref a] _ _ hr en (hbind s1 (.ref a)) (.cons rfl .nil) pr) fun res s' q => ?_
  match res, q with
  | .error er, q => exact q.elim
  | .ok .next, q => exact q.elim
  | .ok .brk, q => exact q.elim
  | .ok .cont, q => exact q.elim
  | .ok (.ret u), q =>
    obtain ⟨v, H', os, bare, un, ok', rv, ev⟩ := q
    have ev' : v = .bl true := ev
    subst ev'
    have eu : u = Value.bool true := rv
    subst eu
    refine ⟨rfl, OldK.of_keep fun b o z => ?_, os, bare⟩
    cases hh : H b with
    | none => exact un.keep b o z hh (fun y => (List.not_mem_nil y).elim) (fun y => (List.not_mem_nil y).elim)
    | some u =>
      obtain ⟨_, oo, xs, rfl⟩ := hf b u hh
      have h2 := ok' b _ (un.frzs b oo _ hh)
      have h1 := hok b _ hh
      have e1 : s1.heap.get? b = some oo := h1.1
      have e2 : s'.heap.get? b = some oo := h2.1
      rw [z] at e1; cases e1
      exact e2
end
theorem walkD {l : PySem.W.OpenLaw} {n k : Nat} {q : Program} {loose : List Str} {XP : (Str → Option Value) → Heap → Prop} {YP : World → Heap → Prop} {d : DefRec} {K : Params → PySem.W.Frag} {sp : SpD} {x : Str}
    (hn : l.most = some n) (hn2 : n ≤ sizeLine) (hdf : d.params.defaults = []) (hr : Room1 k callerA) (hY : ∀ (w : World) (h : Heap), YP w h → (K w.params).In h)
    (G : ∀ (w : World) (mg : Str → Option Value) (fa : Addr) (h : Heap), (K w.params).In h → h.Ns mainGlobals mg → mg d.name = some (.ref fa) →
      ∃ fd : FuncData, (∀ (s : Shared) (u : Value), BindsTo s fd ⟨[u], []⟩ [(x, u)]) ∧
        ∀ base : Heap, (K w.params).In base → base.Ns mainGlobals mg → FnG l.prog w (K w.params) mg base CX0 k fa fd [x] (spV (K w.params) mg 1 sp))
    (hsp : ∀ ns PE, ns.length ≤ n → sp [.scr ns] [] (fun r _ => r = .d (.bool true)) PE) : PySem.W.WalkO q loose XP YP l.row.toRowW d [] (fun f vs => PySem.call f vs) := by
  refine Att.attach_call hn hdf ?_
  intro w s0 s1 mg mb fa o pm cd doc a vs ns Gr Y ho hd hcd hmg hobj hints hlen hg
  have kx := hY w _ Y
  obtain ⟨fd, hb, hG⟩ := G w mg fa _ kx Gr.T.g hmg
  have rv : Vals (ns.map V.int) vs := vals_ints hints
  have lv := hints.length
  have ls : ns.length ≤ sizeLine := Nat.le_trans hlen hn2
  have ob : ∀ o, s1.heap.get? a = some o → ∃ n, o.data = .seq vs.toArray n := fun o z => by rw [hobj] at z; cases z; exact ⟨_, rfl⟩
  cases hl : (K w.params).lookup a with
  | some oo =>
    have e := kx a oo hl
    rw [hobj] at e; cases e
    refine law_core (H := fun _ => none) (its := vs.toArray) kx Gr.T.g Gr.T.b Gr.T.builtins Gr.T.nolimit hg ob hr hG hb (fun PE => hsp ns PE hlen) (fun b u z => nomatch z) ?_ (fun b u z => nomatch z) fun z => absurd rfl z
    exact .inr ⟨_, vs.toArray, _, hl, rfl, rfl, rfl, by rw [List.size_toArray, lv]; exact ls, by simpa using rv⟩
  | none =>
    have ea : (fun b : Addr => if b = a then some (HO.frz { cls := .type "list", data := .seq vs.toArray } (.lst (ns.map V.int))) else none) a = some (HO.frz { cls := .type "list", data := .seq vs.toArray } (.lst (ns.map V.int))) := if_pos rfl
    refine law_core (H := fun b => if b = a then some (.frz { cls := .type "list", data := .seq vs.toArray } (.lst (ns.map V.int))) else none) (its := vs.toArray) kx Gr.T.g Gr.T.b Gr.T.builtins Gr.T.nolimit hg ob hr hG hb (fun PE => hsp ns PE hlen) (fun b u z => ?_) (.inl (.inr ⟨_, ea⟩)) (fun b u z => ?_) fun _ => hl
    · by_cases hba : b = a
      · subst hba
        exact ⟨rfl, _, _, (Option.some.inj (ea.symm.trans z)).symm⟩
      · simp only [if_neg hba] at z; cases z
    · by_cases hba : b = a
      · subst hba
        have := Option.some.inj (ea.symm.trans z)
        subst this
        exact ⟨hobj, by rw [List.length_map]; exact ls, vs, _, rv, hobj⟩
      · simp only [if_neg hba] at z; cases z
end DL
/-! text DLOps -/
/-! Operators and built-ins, by data. -/
namespace DL
open PySem PySem.Spec PyProof.Rows L2
/-! ### what they tell -/
def oAdd : B2
  | .int i, .int j => some (.int (i + j))
  | .str s, .str t => if s.length + t.length ≤ lim then some (.str (s ++ t)) else none
  | .tuple xs, .tuple ys => if xs.length + ys.length ≤ lim ∧ bookish (xs ++ ys) = false then some (.tuple (xs ++ ys)) else none
  | .list xs, .list ys => if xs.length + ys.length ≤ lim then some (.list (xs ++ ys)) else none
  | _, _ => none
def oSub : B2
  | .int i, .int j => some (.int (i - j))
  | _, _ => none
def small64 (i : Int) : Bool := decide (-(2 ^ 64) < i) && decide (i < 2 ^ 64)
def oMul : B2
  | .int i, .int j => if small64 i = true ∨ small64 j = true then some (.int (i * j)) else none
  | .str s, .int j => none
  | _, _ => none
def oMod : B2
  | .int i, .int j => if 0 < j then some (.int (i % j)) else none
  | _, _ => none
def oDiv : B2
  | .int i, .int j => if 0 < j ∧ j < 1073741824 then some (.int (i / j)) else none
  | _, _ => none
def oPow : B2
  | .int i, .int j => if 0 ≤ j ∧ j ≤ 1000000 ∧ i.natAbs < 2 ^ 64 then some (.int (i ^ j.toNat)) else none
  | _, _ => none
def oNeg : B1
  | .int i => some (.int (-i))
  | _ => none
def okEq (a b : PyData) : Bool := a.plain && b.plain && decide (min a.depth b.depth ≤ 200)
def okIn (x : PyData) (ys : List PyData) : Bool := PyData.plainAll ys && x.plain && decide (min (PyData.depthAll ys) x.depth ≤ 200)
def oEq : B2 := fun a b => if okEq a b = true then some (.bool (PyData.eqv a b)) else none
def oNe : B2 := fun a b => if okEq a b = true then some (.bool (!PyData.eqv a b)) else none
def oLt : B2
  | .int i, .int j => some (.bool (decide (i < j)))
  | .str s, .str t => some (.bool (decide (s.cps.toList < t.cps.toList)))
  | _, _ => none
def oLe : B2
  | .int i, .int j => some (.bool (decide (i ≤ j)))
  | .str s, .str t => some (.bool (!decide (t.cps.toList < s.cps.toList)))
  | _, _ => none
def oGt : B2
  | .int i, .int j => some (.bool (decide (j < i)))
  | .str s, .str t => some (.bool (decide (t.cps.toList < s.cps.toList)))
  | _, _ => none
def oGe : B2
  | .int i, .int j => some (.bool (decide (j ≤ i)))
  | .str s, .str t => some (.bool (!decide (s.cps.toList < t.cps.toList)))
  | _, _ => none
def inStr (s t : Str) : Bool := !(Builtin.Str.occurrences t s 0 t.length 1).isEmpty
def hasK (kvs : List (PyData × PyData)) (k : PyData) : Bool := (lookK kvs k).isSome
def oIn : B2
  | .str s, .str t => some (.bool (inStr s t))
  | k, .dict kvs => if isKey k = true then some (.bool (hasK kvs k)) else none
  | x, .list ys => if okIn x ys = true then some (.bool (ys.any fun z => PyData.eqv z x)) else none
  | x, .tuple ys => if okIn x ys = true then some (.bool (ys.any fun z => PyData.eqv z x)) else none
  | _, _ => none
def oNotIn : B2 := fun a b => (oIn a b).bind oNot
def oIsN : B2
  | x, .none => some (.bool (match x with | .none => true | _ => false))
  | _, _ => none
def oNotN : B2
  | x, .none => some (.bool (match x with | .none => false | _ => true))
  | _, _ => none
def oIx : B2
  | .tuple xs, .int i => atI xs i
  | .list xs, .int i => atI xs i
  | .str z, .int i => if z.length ≤ lim then (atI z.cps.toList i).map fun c => .str ⟨#[c]⟩ else none
  | .dict kvs, k => if isKey k = true then lookK kvs k else none
  | _, _ => none
section
variable {X : Cx} {K : PySem.W.Frag} {F H : Hp} {v : V} {d : PyData}
theorem vw_int {i : Int} (h : Vw K F H v (.int i)) : v = .int i := by cases h; rfl
theorem vw_str {s : Str} (h : Vw K F H v (.str s)) : v = .str s := by cases h; rfl
theorem vw_bl {b : Bool} (h : Vw K F H v (.bool b)) : v = .bl b := by cases h; rfl
theorem vw_non (h : Vw K F H v .none) : v = .non := by cases h; rfl
/-- an operator on two ints -/
theorem op_ii {f : Value → Value → Sem Value} {C : Int → Int → Prop} {g : Int → Int → V} {o : B2} (ho : OpR X f (rI C g)) (hc : ∀ a b c, o a b = some c → ∃ i j, a = .int i ∧ b = .int j ∧ C i j ∧ ∀ F, Rp X.K F (g i j) c) : OpR X f (rB X.K o) := by
  intro pins s σ H x y v u Q I rx ry ⟨F, a, b, c, fl, va, vb, e, k⟩
  obtain ⟨i, j, rfl, rfl, h1, h2⟩ := hc a b c e
  exact ho pins s σ H x y v u Q I rx ry ⟨i, j, vw_int va, vw_int vb, h1, k _ F H (Grow.refl fl) (h2 F)⟩
theorem op_ii0 {f : Value → Value → Sem Value} {g : Int → Int → V} {o : B2} (ho : OpR X f (rI0 g)) (hc : ∀ a b c, o a b = some c → ∃ i j, a = .int i ∧ b = .int j ∧ ∀ F, Rp X.K F (g i j) c) : OpR X f (rB X.K o) := by
  intro pins s σ H x y v u Q I rx ry ⟨F, a, b, c, fl, va, vb, e, k⟩
  obtain ⟨i, j, rfl, rfl, h2⟩ := hc a b c e
  exact ho pins s σ H x y v u Q I rx ry ⟨i, j, vw_int va, vw_int vb, k _ F H (Grow.refl fl) (h2 F)⟩
theorem do_sub : OpR X (binaryOp .Sub) (rB X.K oSub) := op_ii0 op_sub fun a b c e => by
  cases a <;> cases b <;> simp [oSub] at e
  subst e
  exact ⟨_, _, rfl, rfl, fun _ => .int _⟩
theorem do_mul : OpR X (binaryOp .Mult) (rB X.K oMul) := op_ii op_mul fun a b c e => by
  cases a <;> cases b <;> simp [oMul, small64] at e
  obtain ⟨h, rfl⟩ := e
  exact ⟨_, _, rfl, rfl, h, fun _ => .int _⟩
theorem do_mod : OpR X (binaryOp .Mod) (rB X.K oMod) := op_ii op_mod fun a b c e => by
  cases a <;> cases b <;> simp [oMod] at e
  obtain ⟨h, rfl⟩ := e
  exact ⟨_, _, rfl, rfl, h, fun _ => .int _⟩
theorem do_div : OpR X (binaryOp .FloorDiv) (rB X.K oDiv) := op_ii op_fdiv fun a b c e => by
  cases a <;> cases b <;> simp [oDiv] at e
  obtain ⟨h, rfl⟩ := e
  exact ⟨_, _, rfl, rfl, h, fun _ => .int _⟩
theorem do_pow : OpR X (binaryOp .Pow) (rB X.K oPow) := op_ii op_pow fun a b c e => by
  cases a <;> cases b <;> simp [oPow] at e
  obtain ⟨h, rfl⟩ := e
  exact ⟨_, _, rfl, rfl, h, fun _ => .int _⟩
theorem do_neg : UnR X (unaryOp .USub) (rU1 X.K oNeg) := by
  intro pins s σ H x v Q I rx ⟨F, a, c, fl, va, e, k⟩
  cases a <;> simp [oNeg] at e
  subst e
  exact un_neg pins s σ H x v Q I rx ⟨_, vw_int va, k _ F H (Grow.refl fl) (.int _)⟩
theorem do_add : OpR X (binaryOp .Add) (rB X.K oAdd) := by
  intro pins s σ H x y v u Q I rx ry ⟨F, a, b, c, fl, va, vb, e, k⟩
  cases a <;> cases b <;> simp [oAdd] at e
  · subst e
    exact op_add pins s σ H x y v u Q I rx ry ⟨_, _, vw_int va, vw_int vb, k _ F H (Grow.refl fl) (.int _)⟩
  · obtain ⟨h, rfl⟩ := e
    exact op_add_str pins s σ H x y v u Q I rx ry ⟨_, _, vw_str va, vw_str vb, by rw [← lim_eq]; exact h, k _ F H (Grow.refl fl) (.str _)⟩
  · obtain ⟨h, rfl⟩ := e
    cases va with
    | lst ha ra =>
      cases vb with
      | lst hb rb =>
        refine op_cat pins s σ H _ _ v u Q I rx ry ⟨_, _, _, _, rfl, rfl, ha, hb, by rw [ra.length, rb.length, ← lim_eq]; exact h, fun p hp => ?_⟩
        have g := fun l => grow_new (o := .lst l) fl hp (fl.none hp)
        exact k _ _ _ (g _) (.lst upd_same ((RpAll.le (g _).le _ _ ra).append (RpAll.le (g _).le _ _ rb)))
  · obtain ⟨h, rfl⟩ := e
    cases va with
    | tup ha ra =>
      cases vb with
      | tup hb rb =>
        refine op_catA pins s σ H _ _ v u Q I rx ry ⟨_, _, _, _, rfl, rfl, fl.seqT ha.sq, fl.seqT hb.sq, by rw [ra.length, rb.length, ← lim_eq]; exact h.1, fun z => ?_, fun _ z => ?_, fun _ _ p hp => ?_⟩
        · subst z
          cases ra
          exact k _ F H (Grow.refl fl) (.tup hb rb)
        · subst z
          cases rb
          rw [List.append_nil] at k
          exact k _ F H (Grow.refl fl) (.tup ha ra)
        · have g := fun l => grow_new (o := .tup l) fl hp (fl.none hp)
          exact k _ _ _ (g _) (.tup (.no (.inl (.inl upd_same)) h.2) ((RpAll.le (g _).le _ _ ra).append (RpAll.le (g _).le _ _ rb)))
/-! ### == and != -/
mutual
theorem Rp.reads {pins : List (Addr × Obj)} {s : Shared} {σ : L2.St} (I : L2.Inv X pins σ H s) (fl : FLe F H) : ∀ (d : PyData) (v : V) (u : Value), d.plain = true → Rp X.K F v d → RelV v u → ∃ as, Reads s.heap u d as
  | .none, _, _, _, h, r => by cases h; cases r; exact ⟨_, .none⟩
  | .bool b, _, _, _, h, r => by cases h; cases r; exact ⟨_, .bool b⟩
  | .int i, _, _, _, h, r => by cases h; obtain ⟨t, rfl⟩ := r; exact ⟨_, .int i t⟩
  | .str z, _, _, _, h, r => by cases h; obtain ⟨t, rfl⟩ := r; exact ⟨_, .str z t⟩
  | .list ds, _, _, p, h, r => by
    cases h with
    | lst e ra =>
      cases r
      have hl : SqL X.K H _ _ := .inl (.inl ((fl _ _ e).elim id fun ⟨_, _, z, _⟩ => nomatch z))
      obtain ⟨its, rv, ⟨o, n, ho, hc, _, hd⟩, _⟩ := I.list hl
      obtain ⟨as, hr⟩ := RpAll.reads I fl ds _ its (by simpa [PyData.plain] using p) ra rv
      exact ⟨_, .list ho hc hd hr⟩
  | .tuple ds, _, _, p, h, r => by
    cases h with
    | tup e ra =>
      cases r
      obtain ⟨its, rv, ⟨o, ho, hc, n, hd⟩, _⟩ := I.tuple (fl.seqT e.sq)
      obtain ⟨as, hr⟩ := RpAll.reads I fl ds _ its (by simpa [PyData.plain] using p) ra rv
      exact ⟨_, .tuple ho hc hd hr⟩
  | .dict kvs, _, _, p, h, r => by simp [PyData.plain] at p
theorem RpAll.reads {pins : List (Addr × Obj)} {s : Shared} {σ : L2.St} (I : L2.Inv X pins σ H s) (fl : FLe F H) : ∀ (ds : List PyData) (vs : List V) (us : List Value), PyData.plainAll ds = true → RpAll X.K F vs ds → Vals vs us → ∃ as, ReadsAll s.heap us ds as
  | [], _, _, _, h, r => by cases h; cases r; exact ⟨_, .nil⟩
  | d :: ds, _, _, p, h, r => by
    have p' : d.plain = true ∧ PyData.plainAll ds = true := by simpa [PyData.plainAll] using p
    cases h with
    | cons h1 h2 =>
      cases r with
      | cons r1 r2 =>
        obtain ⟨as, q1⟩ := Rp.reads I fl d _ _ p'.1 h1 r1
        obtain ⟨bs, q2⟩ := RpAll.reads I fl ds _ _ p'.2 h2 r2
        exact ⟨_, .cons q1 q2⟩
end
theorem Vw.reads {pins : List (Addr × Obj)} {s : Shared} {σ : L2.St} {u : Value} (I : L2.Inv X pins σ H s) (fl : FLe F H) (p : d.plain = true) (h : Vw X.K F H v d) (r : RelV v u) : ∃ as, Reads s.heap u d as := by
  cases h with
  | non => exact Rp.reads I fl _ _ _ p .non r
  | bl b => exact Rp.reads I fl _ _ _ p (.bl b) r
  | int i => exact Rp.reads I fl _ _ _ p (.int i) r
  | str x => exact Rp.reads I fl _ _ _ p (.str x) r
  | lst e ra =>
    cases r
    obtain ⟨its, rv, ⟨o, n, ho, hc, _, hd⟩, _⟩ := I.list (.inl (.inl e))
    obtain ⟨as, hr⟩ := RpAll.reads I fl _ _ its (by simpa [PyData.plain] using p) ra rv
    exact ⟨_, .list ho hc hd hr⟩
  | tup e ra => exact Rp.reads I fl _ _ _ p (.tup e ra) r
  | dct e ra => simp [PyData.plain] at p
theorem okEq_of {a b : PyData} (h : okEq a b = true) : a.plain = true ∧ b.plain = true ∧ min a.depth b.depth ≤ 200 := by
  simpa [okEq, and_assoc] using h
theorem do_eq (hu : X.A.units + 300 < cLine) : OpR X (compareOp .Eq) (rB X.K oEq) := by
  intro pins s σ H x y v u Q I rx ry ⟨F, a, b, c, fl, va, vb, e, k⟩
  unfold oEq at e
  split at e
  · rename_i h
    cases e
    obtain ⟨p1, p2, p3⟩ := okEq_of h
    obtain ⟨as, r1⟩ := va.reads I fl p1 rx
    obtain ⟨bs, r2⟩ := vb.reads I fl p2 ry
    exact SeqAt.eq_plain r1 r2 p1 p2 (by omega) ⟨.bl _, H, I, rfl, k _ F H (Grow.refl fl) (.bl _)⟩
  · cases e
theorem do_ne (hu : X.A.units + 300 < cLine) : OpR X (compareOp .NotEq) (rB X.K oNe) := by
  intro pins s σ H x y v u Q I rx ry ⟨F, a, b, c, fl, va, vb, e, k⟩
  unfold oNe at e
  split at e
  · rename_i h
    cases e
    obtain ⟨p1, p2, p3⟩ := okEq_of h
    obtain ⟨as, r1⟩ := va.reads I fl p1 rx
    obtain ⟨bs, r2⟩ := vb.reads I fl p2 ry
    exact SeqAt.ne_plain r1 r2 p1 p2 (by omega) ⟨.bl _, H, I, rfl, k _ F H (Grow.refl fl) (.bl _)⟩
  · cases e
theorem do_lt : OpR X (compareOp .Lt) (rB X.K oLt) := by
  intro pins s σ H x y v u Q I rx ry ⟨F, a, b, c, fl, va, vb, e, k⟩
  cases a <;> cases b <;> cases e
  · exact op_lt pins s σ H x y v u Q I rx ry ⟨_, _, vw_int va, vw_int vb, k _ F H (Grow.refl fl) (.bl _)⟩
  · exact op_lt_str pins s σ H x y v u Q I rx ry ⟨_, _, vw_str va, vw_str vb, k _ F H (Grow.refl fl) (.bl _)⟩
theorem do_le : OpR X (compareOp .LtE) (rB X.K oLe) := by
  intro pins s σ H x y v u Q I rx ry ⟨F, a, b, c, fl, va, vb, e, k⟩
  cases a <;> cases b <;> cases e
  · exact op_le pins s σ H x y v u Q I rx ry ⟨_, _, vw_int va, vw_int vb, k _ F H (Grow.refl fl) (.bl _)⟩
  · exact op_le_str pins s σ H x y v u Q I rx ry ⟨_, _, vw_str va, vw_str vb, k _ F H (Grow.refl fl) (.bl _)⟩
theorem do_gt : OpR X (compareOp .Gt) (rB X.K oGt) := by
  intro pins s σ H x y v u Q I rx ry ⟨F, a, b, c, fl, va, vb, e, k⟩
  cases a <;> cases b <;> cases e
  · exact op_gt pins s σ H x y v u Q I rx ry ⟨_, _, vw_int va, vw_int vb, k _ F H (Grow.refl fl) (.bl _)⟩
  · exact op_gt_str pins s σ H x y v u Q I rx ry ⟨_, _, vw_str va, vw_str vb, k _ F H (Grow.refl fl) (.bl _)⟩
theorem do_ge : OpR X (compareOp .GtE) (rB X.K oGe) := by
  intro pins s σ H x y v u Q I rx ry ⟨F, a, b, c, fl, va, vb, e, k⟩
  cases a <;> cases b <;> cases e
  · exact op_ge pins s σ H x y v u Q I rx ry ⟨_, _, vw_int va, vw_int vb, k _ F H (Grow.refl fl) (.bl _)⟩
  · exact op_ge_str pins s σ H x y v u Q I rx ry ⟨_, _, vw_str va, vw_str vb, k _ F H (Grow.refl fl) (.bl _)⟩
/-! ### keys -/
theorem isKey_key {k : PyData} (h : isKey k = true) : ∃ q : Key, k = keyD q := by
  cases k <;> simp [isKey] at h
  · exact ⟨.inl _, rfl⟩
  · exact ⟨.inr _, rfl⟩
theorem keyEq_iff (p q : Key) : keyEq (keyD p) (keyD q) = decide (p = q) := by
  cases p <;> cases q
  · rename_i a b
    by_cases h : a = b <;> simp [keyEq, keyD, h]
  · simp [keyEq, keyD]
  · simp [keyEq, keyD]
  · rename_i a b
    by_cases h : a = b <;> simp [keyEq, keyD, h]
theorem vw_key {q : Key} (h : Vw K F H v (keyD q)) : v = kV q := by
  cases q with
  | inl i => exact vw_int h
  | inr x => exact vw_str h
theorem RpKv.look (q : Key) : ∀ {kvs : List (Key × V)} {ds : List (PyData × PyData)}, RpKv K F kvs ds → (lookK ds (keyD q) = none ∧ valV kvs q = none) ∨ ∃ x v, lookK ds (keyD q) = some x ∧ valV kvs q = some v ∧ Rp K F v x
  | _, [], h => by cases h; exact .inl ⟨rfl, rfl⟩
  | _, _ :: ds, h => by
    cases h with
    | cons r rs =>
      rename_i k v t e
      unfold lookK
      simp only
      rw [keyEq_iff]
      by_cases hk : k = q
      · subst hk
        rw [valV_pos rfl]
        exact .inr ⟨_, _, if_pos (decide_eq_true rfl), rfl, r⟩
      · rw [valV_neg hk, if_neg (by simpa using hk)]
        exact RpKv.look q rs
theorem hasK_of (q : Key) {kvs : List (Key × V)} {ds : List (PyData × PyData)} (r1 : RpKv K F kvs ds) : hasK ds (keyD q) = (valV kvs q).isSome := by
  unfold hasK
  rcases RpKv.look q r1 with ⟨h1, h2⟩ | ⟨x, v, h1, h2, _⟩
  · rw [h1, h2]; rfl
  · rw [h1, h2]; rfl
theorem dget_of {a : Addr} {kvs : List (Key × V)} {q : Key} (e : Rd H a (.dK kvs)) : DGet H a (kV q) (valV kvs q) := .inl ⟨kvs, q, e, rfl, rfl⟩
theorem do_in (hu : X.A.units + 300 < cLine) : OpR X (compareOp .In) (rB X.K oIn) := by
  intro pins s σ H x y v u Q I rx ry ⟨F, a, b, c, fl, va, vb, e, k⟩
  have dk : ∀ kvs, b = .dict kvs → isKey a = true → c = .bool (hasK kvs a) → wpAny (model X.prog X.w) X.A (compareOp .In v u) (EP X pins σ Q) X.xe s := by
    intro kvs hb ha hc
    subst hb; subst hc
    obtain ⟨q, rfl⟩ := isKey_key ha
    cases vb with
    | dct e1 r1 =>
      cases ry
      have hx := vw_key va
      subst hx
      refine d_in (o := _) (by omega) I (dget_of e1) rx fun s' I' => ⟨.bl _, H, I', rfl, ?_⟩
      refine k _ F H (Grow.refl fl) ?_
      rw [hasK_of q r1]
      exact .bl _
  have ls : ∀ ys, b = .list ys → okIn a ys = true → c = .bool (ys.any fun z => PyData.eqv z a) → wpAny (model X.prog X.w) X.A (compareOp .In v u) (EP X pins σ Q) X.xe s := by
    intro ys hb ho hc
    subst hb; subst hc
    have ho' : PyData.plainAll ys = true ∧ a.plain = true ∧ min (PyData.depthAll ys) a.depth ≤ 200 := by simpa [okIn, and_assoc] using ho
    obtain ⟨as, r1⟩ := va.reads I fl ho'.2.1 rx
    obtain ⟨bs, r2⟩ := vb.reads I fl (by simpa [PyData.plain] using ho'.1) ry
    exact SeqAt.in_list_data r2 r1 ho'.1 ho'.2.1 (by omega) ⟨.bl _, H, I, rfl, k _ F H (Grow.refl fl) (.bl _)⟩
  have ts : ∀ ys, b = .tuple ys → okIn a ys = true → c = .bool (ys.any fun z => PyData.eqv z a) → wpAny (model X.prog X.w) X.A (compareOp .In v u) (EP X pins σ Q) X.xe s := by
    intro ys hb ho hc
    subst hb; subst hc
    have ho' : PyData.plainAll ys = true ∧ a.plain = true ∧ min (PyData.depthAll ys) a.depth ≤ 200 := by simpa [okIn, and_assoc] using ho
    obtain ⟨as, r1⟩ := va.reads I fl ho'.2.1 rx
    obtain ⟨bs, r2⟩ := vb.reads I fl (by simpa [PyData.plain] using ho'.1) ry
    exact SeqAt.in_tuple_data r2 r1 ho'.1 ho'.2.1 (by omega) ⟨.bl _, H, I, rfl, k _ F H (Grow.refl fl) (.bl _)⟩
  cases b with
  | dict kvs =>
    have : isKey a = true ∧ c = .bool (hasK kvs a) := by
      cases a <;> simp [oIn] at e <;> exact ⟨e.1, e.2.symm⟩
    exact dk kvs rfl this.1 this.2
  | list ys =>
    have : okIn a ys = true ∧ c = .bool (ys.any fun z => PyData.eqv z a) := by
      cases a <;> simp [oIn] at e <;> exact ⟨e.1, e.2.symm⟩
    exact ls ys rfl this.1 this.2
  | tuple ys =>
    have : okIn a ys = true ∧ c = .bool (ys.any fun z => PyData.eqv z a) := by
      cases a <;> simp [oIn] at e <;> exact ⟨e.1, e.2.symm⟩
    exact ts ys rfl this.1 this.2
  | str t =>
    cases a <;> simp [oIn] at e
    subst e
    exact op_in_str pins s σ H x y v u Q I rx ry ⟨_, _, vw_str va, vw_str vb, k _ F H (Grow.refl fl) (.bl _)⟩
  | none => cases a <;> simp [oIn] at e
  | bool _ => cases a <;> simp [oIn] at e
  | int _ => cases a <;> simp [oIn] at e
theorem do_isN : OpR X (compareOp .Is) (rB X.K oIsN) := by
  intro pins s σ H x y v u Q I rx ry ⟨F, a, b, c, fl, va, vb, e, k⟩
  cases b <;> simp [oIsN] at e
  subst e
  refine op_isN pins s σ H x y v u Q I rx ry ⟨vw_non vb, k _ F H (Grow.refl fl) ?_⟩
  cases va <;> exact .bl _
theorem do_notN : OpR X (compareOp .IsNot) (rB X.K oNotN) := by
  intro pins s σ H x y v u Q I rx ry ⟨F, a, b, c, fl, va, vb, e, k⟩
  cases b <;> simp [oNotN] at e
  subst e
  refine op_notN pins s σ H x y v u Q I rx ry ⟨vw_non vb, k _ F H (Grow.refl fl) ?_⟩
  cases va <;> exact .bl _
end
end DL
/-! text DLOps2 -/
namespace DL
open PySem PySem.Spec PyProof.Rows L2
/-! ### subscripts, slices, len -/
def cutG {α : Type} (xs : List α) (lo hi : Option Int) : List α := (xs.drop (HT.sIx xs.length 0 lo)).take (HT.sIx xs.length xs.length hi - HT.sIx xs.length 0 lo)
def oSl : PyData → Option Int → Option Int → Option PyData
  | .tuple xs, lo, hi => if bookish (cutG xs lo hi) = false then some (.tuple (cutG xs lo hi)) else none
  | .list xs, lo, hi => some (.list (cutG xs lo hi))
  | .str z, lo, hi => if z.length ≤ lim then some (.str (cutS z lo hi)) else none
  | _, _, _ => none
def lenOf : PyData → Option Nat
  | .tuple xs => some xs.length
  | .list xs => some xs.length
  | .str z => if z.length ≤ lim then some z.length else none
  | .dict kvs => some kvs.length
  | _ => none
def oLen : B1 := fun x => (lenOf x).map fun n => .int n
/-- what is seen, the script too -/
inductive VwS (K : PySem.W.Frag) (F H : Hp) : V → PyData → Prop
  | vw {v : V} {d : PyData} : Vw K F H v d → VwS K F H v d
  | scr {a : Addr} {ns : List Int} : SqL K H a (ns.map V.int) → VwS K F H (.ref a) (.list (ns.map PyData.int))
section
variable {X : Cx} {K : PySem.W.Frag} {mg : Str → Option Value} {F H F' H' : Hp} {ad ad' : List Addr} {env : Env} {st : Store} {σ : L2.St} {v : V} {d : PyData} {a b : Expr} {fa fb : WE} {pos : Pos}
theorem FLe.seqL (fl : FLe F H) {a : Addr} {xs : List V} (h : SqL K F a xs) : SqL K H a xs := by
  rcases h with (h | ⟨o, h⟩) | h
  · rcases fl _ _ h with z | ⟨_, _, z, _⟩
    · exact .inl (.inl z)
    · cases z
  · rcases fl _ _ h with z | ⟨_, _, z, _⟩
    · exact .inl (.inr ⟨o, z⟩)
    · cases z
  · exact .inr h
theorem Rel.vwS (R : Rel K mg F H ad st) {r : DV} (h : DVR K mg F ad v r) (e : rdS st r = some d) : VwS K F H v d := by
  cases r with
  | scr ns =>
    cases e
    obtain ⟨a, rfl, q⟩ := h
    exact .scr (R.fl.seqL q)
  | d x => exact .vw (R.vw h e)
  | loc n => exact .vw (R.vw h e)
  | fn f => cases e
def rBS (K : PySem.W.Frag) (op : B2) : R2 := fun x y H Q => ∃ F a b c, FLe F H ∧ VwS K F H x a ∧ Vw K F H y b ∧ op a b = some c ∧ ∀ z F' H', Grow F H F' H' → Rp K F' z c → Q z H'
theorem w_binS {op : B2} {σ : L2.St} {H : Hp} {Q : VK} (h : tE K mg (wBinS op fa fb) σ H Q) : tOp (rBS K op) (tE K mg fa) (tE K mg fb) σ H Q := by
  obtain ⟨F, ad, env, st, P, n, h, k⟩ := h
  refine tE_go n h fun r1 st1 v1 F1 ad1 H1 p1 x1 n1 d1 => ?_
  refine tE_go n1 p1 fun r2 st2 v2 F2 ad2 H2 p2 x2 n2 d2 => ?_
  obtain ⟨a, ea, p3⟩ := optK_elim p2
  obtain ⟨b, eb, p4⟩ := optK_elim p3
  obtain ⟨c, ec, p5⟩ := optK_elim p4
  refine ⟨F2, a, b, c, n2.rel.fl, n2.rel.vwS (d1.ext x2) ea, n2.rel.vw d2 eb, ec, fun z F' H' g q => ?_⟩
  exact k (.d c) st2 z F' ad2 H' p5 ((x1.trans x2).trans (g.ext ad2)) (n2.grow g) q
theorem atI_rp {xs : List V} {ds : List PyData} {i : Int} {x : PyData} (r : RpAll K F xs ds) (e : atI ds i = some x) : ∃ v, atI xs i = some v ∧ Rp K F v x := by
  unfold atI at e ⊢
  rw [r.length]
  cases q : ixN ds.length i with
  | none => rw [q] at e; cases e
  | some j =>
    rw [q] at e
    exact r.get e
theorem atI_map {α β : Type} (f : α → β) (xs : List α) (i : Int) : atI (xs.map f) i = (atI xs i).map f := by
  unfold atI
  rw [List.length_map]
  cases q : ixN xs.length i with
  | none => rfl
  | some j => simp
theorem ix_dictD (hu : X.A.units + 1 < cLine) : IxR X (fun x y H Q => ∃ a v, x = .ref a ∧ DGet H a y (some v) ∧ Q v H) := by
  intro value slice pins s σ H x y v u Q I rx ry ⟨a, w, ex, g, q⟩ hs
  subst ex
  cases rx
  have ty := dict_typeIs I g
  unfold subscriptTail
  refine wpAny_bind ?_
  rw [getitemInPython_of_ne ty.not_modules]
  refine wpAny_bind (wpAny_specialOf ty PySem.F.slot_dict_getitem.lookup ?_)
  have go : wpAny (model X.prog X.w) X.A (subscripted slice false (.ref a) u) (fun r s3 => wpAny (model X.prog X.w) X.A (letTemporaryGo value (.ref a) r >>= fun _ => pure r) (EP X pins σ Q) X.xe s3) X.xe s := by
    rw [hs]
    exact wpAny_operating (d_getItem hu I g ry fun w' s3 I3 rw' => wpAny_bind (wpAny_letTemporaryGo (wpAny_pure ⟨w, H, I3, rw', q⟩)))
  first | exact wpAny_pure (wpAny_bind go) | exact wpAny_bind (wpAny_pure (wpAny_bind go)) | exact wpAny_bind go
theorem do_ix (hu : X.A.units + 300 < cLine) : IxR X (rBS X.K oIx) := by
  intro value slice pins s σ H x y v u Q I rx ry ⟨F, a, b, c, fl, va, vb, e, k⟩ hs
  cases va with
  | scr hl =>
    cases b <;> simp [oIx] at e
    rw [atI_map] at e
    cases q : atI _ _ with
    | none => rw [q] at e; cases e
    | some n =>
      rw [q] at e
      cases e
      refine ix_list value slice pins s σ H _ _ v u Q I rx ry ⟨_, _, _, .int n, rfl, vw_int vb, hl, by rw [atI_map, q]; rfl, k _ F H (Grow.refl fl) (.int n)⟩ hs
  | vw va =>
    cases va with
    | non => cases b <;> simp [oIx] at e
    | bl _ => cases b <;> simp [oIx] at e
    | int _ => cases b <;> simp [oIx] at e
    | str z =>
      cases b <;> simp [oIx] at e
      obtain ⟨hz, c', ec, rfl⟩ := e
      exact ix_str value slice pins s σ H _ _ v u Q I rx ry ⟨z, _, c', rfl, vw_int vb, by rw [← lim_eq]; exact hz, ec, k _ F H (Grow.refl fl) (.str _)⟩ hs
    | lst ea ra =>
      cases b <;> simp [oIx] at e
      obtain ⟨w, ew, rw'⟩ := atI_rp ra e
      exact ix_list value slice pins s σ H _ _ v u Q I rx ry ⟨_, _, _, w, rfl, vw_int vb, .inl (.inl ea), ew, k _ F H (Grow.refl fl) rw'⟩ hs
    | tup ea ra =>
      cases b <;> simp [oIx] at e
      obtain ⟨w, ew, rw'⟩ := atI_rp ra e
      exact ix_tup value slice pins s σ H _ _ v u Q I rx ry ⟨_, _, _, w, rfl, vw_int vb, fl.seqT ea.sq, ew, k _ F H (Grow.refl fl) rw'⟩ hs
    | @dct a' kvs' ds' ea ra =>
      have e' : isKey b = true ∧ lookK ds' b = some c := by
        first
          | (cases b <;> simp [oIx, isKey] at e <;> exact ⟨rfl, e⟩)
          | (cases b <;> simp [oIx, isKey] at e ⊢ <;> exact e)
      obtain ⟨q, rfl⟩ := isKey_key e'.1
      have hy := vw_key vb
      subst hy
      rcases RpKv.look q ra with ⟨h1, _⟩ | ⟨x', v', h1, h2, h3⟩
      · rw [h1] at e'; cases e'.2
      · have hc : x' = c := Option.some.inj (h1.symm.trans e'.2)
        subst hc
        refine ix_dictD (by omega) value slice pins s σ H _ _ v u Q I rx ry ⟨_, v', rfl, ?_, k _ F H (Grow.refl fl) h3⟩ hs
        rw [← h2]
        exact dget_of ea
theorem de_ix (hu : X.A.units + 300 < cLine) (ha : PE X a (tE X.K mg fa)) (hb : PE X b (tE X.K mg fb)) (hs : PlainIx b := by exact fun _ _ => rfl) : PE X (.Subscript a b pos) (tE X.K mg (wBinS oIx fa fb)) :=
  pe_weak (pe_ix (do_ix hu) ha hb hs) fun _ _ _ h => w_binS h
end
end DL
/-! text DLOps3 -/
namespace DL
open PySem PySem.Spec PyProof.Rows L2
/-! ### several arguments, a frozen answer -/
inductive VwAll (K : PySem.W.Frag) (F H : Hp) : List V → List PyData → Prop
  | nil : VwAll K F H [] []
  | cons {v : V} {vs : List V} {d : PyData} {ds : List PyData} : Vw K F H v d → VwAll K F H vs ds → VwAll K F H (v :: vs) (d :: ds)
def rCN (K : PySem.W.Frag) (op : List PyData → Option PyData) : List V → Hp → VK → Prop := fun vs H Q => ∃ F ds c, FLe F H ∧ VwAll K F H vs ds ∧ op ds = some c ∧ ∀ z F' H', Grow F H F' H' → Rp K F' z c → Q z H'
def rMN (K : PySem.W.Frag) (op : PyData → List PyData → Option PyData) : V → List V → Hp → VK → Prop := fun v vs H Q => ∃ F d ds c, FLe F H ∧ Vw K F H v d ∧ VwAll K F H vs ds ∧ op d ds = some c ∧ ∀ z F' H', Grow F H F' H' → Rp K F' z c → Q z H'
/-- an operator of one argument, as one of several -/
def on1 (op : B1) : List PyData → Option PyData
  | [x] => op x
  | _ => none
def on2 (op : B2) : List PyData → Option PyData
  | [x, y] => op x y
  | _ => none
section
variable {X : Cx} {K : PySem.W.Frag} {mg : Str → Option Value} {F H F' H' : Hp} {ad ad' : List Addr} {env : Env} {st : Store} {σ : L2.St} {v : V} {d : PyData} {a b e : Expr} {es : List Expr} {f fa fb : WE} {fs : WA} {pos p : Pos} {x : Str} {id : String}
theorem Rel.vwAll (R : Rel K mg F H ad st) : ∀ {vs : List V} {rs : List DV} {ds : List PyData}, DVRs K mg F ad vs rs → rds st rs = some ds → VwAll K F H vs ds
  | _, _, _, .nil, e => by cases e; exact .nil
  | _, _, ds, .cons (r := r) (rs := rs) h t, e => by
    unfold rds at e
    cases q : rd st r with
    | none => rw [q] at e; cases e
    | some y =>
      cases q2 : rds st rs with
      | none => rw [q, q2] at e; cases e
      | some ys =>
        rw [q, q2] at e; cases e
        exact .cons (R.vw h q) (R.vwAll t q2)
theorem w_opN {op : List PyData → Option PyData} {σ : L2.St} {H : Hp} {Q : VK} (h : tE K mg (wOpN op fs) σ H Q) : tA K mg fs σ H fun vs H1 => rCN K op vs H1 Q := by
  obtain ⟨F, ad, env, st, P, n, h, k⟩ := h
  refine ⟨F, ad, env, st, _, n, h, fun rs st1 vs F1 ad1 H1 p1 x1 n1 d1 => ?_⟩
  obtain ⟨ds, ed, p2⟩ := optK_elim p1
  obtain ⟨c, ec, p3⟩ := optK_elim p2
  exact ⟨F1, ds, c, n1.rel.fl, n1.rel.vwAll d1 ed, ec, fun z F' H' g q => k _ _ _ _ _ _ p3 (x1.trans (g.ext ad1)) (n1.grow g) q⟩
/-- a built-in function by its name -/
theorem de_b {op : List PyData → Option PyData} (hc : CallR X (.builtin id) (rCN X.K op)) (hm : X.mg x = none) (hv : bootBuiltins x = some (.builtin id)) (ha : PA X (e :: es) (tA X.K mg fs)) (hg : Gl X x := by rfl) (hn : x ≠ "__name__" := by decide) (hdb : (x == ("__debug__" : Str)) = false := by decide)
    (he : starEach (e :: es) X.env = (false, eval e X.env) :: starEach es X.env := by rfl) (hpl : (backTo pos (starEach es X.env)).any (·.1) = false := by rfl) : PE X (.Call (.Name x p) (e :: es) [] pos) (tE X.K mg (wOpN op fs)) :=
  pe_weak (pe_callB hc hg hm hv ha hn hdb he hpl) fun _ _ _ h => w_opN h
/-- a built-in class by its name -/
theorem de_ty {op : List PyData → Option PyData} (hc : CallR X (.type id) (rCN X.K op)) (hm : X.mg x = none) (hv : bootBuiltins x = some (.type id)) (ha : PA X (e :: es) (tA X.K mg fs)) (hg : Gl X x := by rfl) (hn : x ≠ "__name__" := by decide) (hdb : (x == ("__debug__" : Str)) = false := by decide)
    (he : starEach (e :: es) X.env = (false, eval e X.env) :: starEach es X.env := by rfl) (hpl : (backTo pos (starEach es X.env)).any (·.1) = false := by rfl) : PE X (.Call (.Name x p) (e :: es) [] pos) (tE X.K mg (wOpN op fs)) :=
  pe_weak (pe_callTy hc hg hm hv ha hn hdb he hpl) fun _ _ _ h => w_opN h
/-! ### len -/
theorem vwS_len {v : V} {d : PyData} {n : Nat} (fl : FLe F H) (h : VwS K F H v d) (e : lenOf d = some n) (nd : ∀ kvs, d ≠ .dict kvs) : LenV K v H n := by
  cases h with
  | scr hl => cases e; exact .inl ⟨_, hl, by simp⟩
  | vw h =>
    cases h with
    | non => cases e
    | bl _ => cases e
    | int _ => cases e
    | str z =>
      have e' : (if z.length ≤ lim then some z.length else none) = some n := e
      by_cases hz : z.length ≤ lim
      · rw [if_pos hz] at e'
        cases e'
        exact ⟨by rw [← lim_eq]; exact hz, rfl⟩
      · rw [if_neg hz] at e'; cases e'
    | lst ea ra => cases e; exact .inl ⟨_, .inl (.inl ea), by rw [ra.length]⟩
    | tup ea ra => cases e; exact .inr ⟨_, fl.seqT ea.sq, by rw [ra.length]⟩
    | dct ea ra => exact absurd rfl (nd _)
theorem call_lenD {v : V} {d : PyData} {n : Nat} {pins : List (Addr × Obj)} {s : Shared} {σ : L2.St} {u : Value} {Q : VK} (I : L2.Inv X pins σ H s) (fl : FLe F H) (h : VwS X.K F H v d) (e : lenOf d = some n) (r : RelV v u) (q : Q (.int n) H) :
    wpAny (model X.prog X.w) X.A (call (.builtin "len") [u]) (EP X pins σ Q) X.xe s := by
  by_cases nd : ∀ kvs, d ≠ .dict kvs
  · exact call_len pins s σ H [v] [u] Q I (.cons r .nil) ⟨v, n, rfl, vwS_len fl h e nd, q⟩
  · have ⟨kvs, hk⟩ : ∃ kvs, d = .dict kvs := by
      cases d with
      | dict kvs => exact ⟨kvs, rfl⟩
      | _ => exact absurd (fun kvs z => nomatch z) nd
    subst hk
    cases h with
    | vw h =>
      cases h with
      | dct ea ra =>
        cases e
        cases r
        exact d_len I ea fun t s' I' => ⟨.int kvs.length, H, I', ⟨t, by rw [ra.length]⟩, q⟩
def rCS (K : PySem.W.Frag) (op : B1) : List V → Hp → VK → Prop := fun vs H Q => ∃ F v d c, vs = [v] ∧ FLe F H ∧ VwS K F H v d ∧ op d = some c ∧ ∀ z F' H', Grow F H F' H' → Rp K F' z c → Q z H'
theorem dc_len : CallR X (.builtin "len") (rCS X.K oLen) := by
  intro pins s σ H xs us Q I r ⟨F, v, d, c, ex, fl, h, e, k⟩
  subst ex
  cases r with
  | cons r1 r2 =>
    cases r2
    unfold oLen at e
    cases q : lenOf d with
    | none => rw [q] at e; cases e
    | some n =>
      rw [q] at e; cases e
      exact call_lenD I fl h q r1 (k _ F H (Grow.refl fl) (.int _))
theorem w_unS {op : B1} {σ : L2.St} {H : Hp} {Q : VK} (h : tE K mg (wUnS op fa) σ H Q) : tCB (rCS K op) (L2.tCons (tE K mg fa) L2.tNil) σ H Q := by
  obtain ⟨F, ad, env, st, P, n, h, k⟩ := h
  refine tE_go n h fun r1 st1 v1 F1 ad1 H1 p1 x1 n1 d1 => ?_
  obtain ⟨a, ea, p3⟩ := optK_elim p1
  obtain ⟨c, ec, p5⟩ := optK_elim p3
  exact ⟨F1, v1, a, c, rfl, n1.rel.fl, n1.rel.vwS d1 ea, ec, fun z F' H' g q => k (.d c) st1 z F' ad1 H' p5 (x1.trans (g.ext ad1)) (n1.grow g) q⟩
theorem de_len (ha : PE X e (tE X.K mg fa)) (hm : X.mg "len" = none) (hg : Gl X "len" := by rfl)
    (he : starEach (e :: []) X.env = (false, eval e X.env) :: starEach [] X.env := by rfl) (hpl : (backTo pos (starEach [] X.env)).any (·.1) = false := by rfl) : PE X (.Call (.Name "len" p) [e] [] pos) (tE X.K mg (wUnS oLen fa)) :=
  pe_weak (pe_callB dc_len hg hm PySem.boot_len (L2.pa_cons ha L2.pa_nil he) (by decide) (by decide) he hpl) fun _ _ _ h => w_unS h
/-! ### slices -/
theorem RpAll.cut {xs : List V} {ds : List PyData} (lo hi : Option Int) (r : RpAll K F xs ds) : RpAll K F (cutV xs lo hi) (cutG ds lo hi) := by
  unfold cutV cutG
  rw [r.length]
  exact (r.drop _).take _
theorem cutG_map {α β : Type} (f : α → β) (xs : List α) (lo hi : Option Int) : cutG (xs.map f) lo hi = (cutG xs lo hi).map f := by
  unfold cutG
  rw [List.length_map, List.map_take, List.map_drop]
theorem rpAll_ints (ns : List Int) : RpAll K F (ns.map V.int) (ns.map PyData.int) := by
  induction ns with
  | nil => exact .nil
  | cons n ns ih => exact .cons (.int n) ih
def rSlD (K : PySem.W.Frag) (op : PyData → Option Int → Option Int → Option PyData) : V → Option Int → Option Int → Hp → VK → Prop := fun x lo hi H Q => ∃ F a c, FLe F H ∧ VwS K F H x a ∧ op a lo hi = some c ∧ ∀ z F' H', Grow F H F' H' → Rp K F' z c → Q z H'
theorem cut_whole {α : Type} {xs : List α} {lo hi : Option Int} (h : HT.sIx xs.length 0 lo = 0 ∧ HT.sIx xs.length xs.length hi = xs.length) : cutG xs lo hi = xs := by
  unfold cutG
  rw [h.1, h.2]
  simp
theorem do_sl : SlR X (rSlD X.K oSl) := by
  intro pins s σ H x v vl vu lo hi sl Q I rx hs pl pu ⟨F, a, c, fl, va, e, k⟩
  cases va with
  | scr hl =>
    cases e
    refine sl_list pins s σ H _ v vl vu lo hi sl Q I rx hs pl pu ⟨_, _, rfl, hl, fun p hp => ?_⟩
    have g := fun l => grow_new (o := .lst l) fl hp (fl.none hp)
    exact k _ _ _ (g _) (.lst upd_same ((rpAll_ints _).cut lo hi))
  | vw va =>
    cases va with
    | non => cases e
    | bl _ => cases e
    | int _ => cases e
    | dct _ _ => cases e
    | str z =>
      have e' : (if z.length ≤ lim then some (PyData.str (cutS z lo hi)) else none) = some c := e
      by_cases hz : z.length ≤ lim
      · rw [if_pos hz] at e'
        cases e'
        exact sl_str pins s σ H _ v vl vu lo hi sl Q I rx hs pl pu ⟨z, rfl, by rw [← lim_eq]; exact hz, k _ F H (Grow.refl fl) (.str _)⟩
      · rw [if_neg hz] at e'; cases e'
    | lst ea ra =>
      cases e
      refine sl_list pins s σ H _ v vl vu lo hi sl Q I rx hs pl pu ⟨_, _, rfl, .inl (.inl ea), fun p hp => ?_⟩
      have g := fun l => grow_new (o := .lst l) fl hp (fl.none hp)
      exact k _ _ _ (g _) (.lst upd_same (RpAll.le (g _).le _ _ (ra.cut lo hi)))
    | @tup a' vs' ds' ea ra =>
      have e' : (if bookish (cutG ds' lo hi) = false then some (PyData.tuple (cutG ds' lo hi)) else none) = some c := e
      by_cases hbk : bookish (cutG ds' lo hi) = false
      case neg => rw [if_neg hbk] at e'; cases e'
      rw [if_pos hbk] at e'
      cases e'
      refine sl_tupA pins s σ H _ v vl vu lo hi sl Q I rx hs pl pu ⟨_, _, rfl, fl.seqT ea.sq, fun w => ?_, fun _ p hp => ?_⟩
      · refine k _ F H (Grow.refl fl) ?_
        rw [ra.length] at w
        rw [cut_whole w]
        exact .tup ea ra
      · have g := fun l => grow_new (o := .tup l) fl hp (fl.none hp)
        exact k _ _ _ (g _) (.tup (.no (.inl (.inl upd_same)) hbk) (RpAll.le (g _).le _ _ (ra.cut lo hi)))
def tO (K : PySem.W.Frag) (mg : Str → Option Value) (f : WO) : TO := fun σ H Q => ∃ F ad env st P, Now K mg σ F H ad env st ∧ f env st P ∧
  ∀ o st' F' ad' H', P o st' → Ext F H ad F' H' ad' → Now K mg σ F' H' ad' env st' → Q o H'
theorem po_weak {e : Option Expr} {t t' : TO} (h : PO X e t) (w : ∀ σ H Q, t' σ H Q → t σ H Q) : PO X e t' := ⟨fun pins s σ H Q I q => h.run pins s σ H Q I (w σ H Q q)⟩
theorem dp_n : PO X none (tO K mg wON) := po_weak po_none fun σ H Q ⟨F, ad, env, st, P, n, h, k⟩ => k none st F ad H h (Ext.refl _ _ _) n
theorem dp_s (ha : PE X e (tE K mg fa)) : PO X (some e) (tO K mg (wOS fa)) := po_weak (po_some ha) fun σ H Q ⟨F, ad, env, st, P, n, h, k⟩ => by
  refine tE_go n h fun r1 st1 v1 F1 ad1 H1 p1 x1 n1 d1 => ?_
  obtain ⟨a, ea, p3⟩ := optK_elim p1
  obtain ⟨i, ei, p5⟩ := optK_elim p3
  have q := n1.rel.vw d1 ea
  cases a <;> simp [asI] at ei
  subst ei
  exact ⟨_, vw_int q, k _ _ _ _ _ p5 x1 n1⟩
theorem de_sl {lo hi : Option Expr} {fl fh : WO} {p2 : Pos} (he : PE X e (tE X.K mg f)) (hl : PO X lo (tO X.K mg fl)) (hu : PO X hi (tO X.K mg fh)) : PE X (.Subscript e (.Slice lo hi none p2) pos) (tE X.K mg (wSl oSl f fl fh)) :=
  pe_weak (pe_slice do_sl he hl hu) fun σ H Q ⟨F, ad, env, st, P, n, h, k⟩ => by
    refine tE_go n h fun r1 st1 v1 F1 ad1 H1 p1 x1 n1 d1 => ?_
    refine ⟨F1, ad1, env, st1, _, n1, p1, fun l st2 F2 ad2 H2 p2 x2 n2 => ?_⟩
    refine ⟨F2, ad2, env, st2, _, n2, p2, fun u st3 F3 ad3 H3 p3 x3 n3 => ?_⟩
    obtain ⟨a, ea, p4⟩ := optK_elim p3
    obtain ⟨c, ec, p5⟩ := optK_elim p4
    exact ⟨F3, a, c, n3.rel.fl, n3.rel.vwS (d1.ext (x2.trans x3)) ea, ec, fun z F' H' g q => k _ _ _ _ _ _ p5 (((x1.trans x2).trans x3).trans (g.ext ad3)) (n3.grow g) q⟩
/-! ### built-ins -/
theorem vw1 {op : B1} {vs : List V} {ds : List PyData} {c : PyData} (h : VwAll K F H vs ds) (e : on1 op ds = some c) : ∃ v d, vs = [v] ∧ Vw K F H v d ∧ op d = some c := by
  cases h with
  | nil => cases e
  | cons h1 t =>
    cases t with
    | nil => exact ⟨_, _, rfl, h1, e⟩
    | cons _ _ => cases e
theorem vw2 {op : B2} {vs : List V} {ds : List PyData} {c : PyData} (h : VwAll K F H vs ds) (e : on2 op ds = some c) : ∃ v d v' d', vs = [v, v'] ∧ Vw K F H v d ∧ Vw K F H v' d' ∧ op d d' = some c := by
  cases h with
  | nil => cases e
  | cons h1 t =>
    cases t with
    | nil => cases e
    | cons h2 t =>
      cases t with
      | nil => exact ⟨_, _, _, _, rfl, h1, h2, e⟩
      | cons _ _ => cases e
def oAbs : B1
  | .int i => some (.int (if i < 0 then -i else i))
  | _ => none
def oInt : B1
  | .int i => some (.int i)
  | .bool k => some (.int (if k then 1 else 0))
  | _ => none
def oMax : B2
  | .int i, .int j => some (.int (if j > i then j else i))
  | _, _ => none
def oMin : B2
  | .int i, .int j => some (.int (if j < i then j else i))
  | _, _ => none
def oDivmod : B2
  | .int i, .int j => if 0 < j ∧ j < 1073741824 then some (.tuple [.int (i / j), .int (i % j)]) else none
  | _, _ => none
theorem dc_abs : CallR X (.builtin "abs") (rCN X.K (on1 oAbs)) := by
  intro pins s σ H xs us Q I r ⟨F, ds, c, fl, h, e, k⟩
  obtain ⟨v, d, rfl, h1, e1⟩ := vw1 h e
  cases d <;> cases e1
  exact call_abs pins s σ H _ us Q I r ⟨_, by rw [vw_int h1], k _ F H (Grow.refl fl) (.int _)⟩
theorem dc_int : CallR X (.type "int") (rCN X.K (on1 oInt)) := by
  intro pins s σ H xs us Q I r ⟨F, ds, c, fl, h, e, k⟩
  obtain ⟨v, d, rfl, h1, e1⟩ := vw1 h e
  cases d <;> cases e1
  · exact call_int1 pins s σ H _ us Q I r (.inr ⟨_, by rw [vw_bl h1], k _ F H (Grow.refl fl) (.int _)⟩)
  · exact call_int1 pins s σ H _ us Q I r (.inl ⟨_, by rw [vw_int h1], k _ F H (Grow.refl fl) (.int _)⟩)
theorem dc_max2 (hc : X.calm = true) : CallR X (.builtin "max") (rCN X.K (on2 oMax)) := by
  intro pins s σ H xs us Q I r ⟨F, ds, c, fl, h, e, k⟩
  obtain ⟨v, d, v', d', rfl, h1, h2, e1⟩ := vw2 h e
  cases d <;> cases d' <;> cases e1
  exact call_max2 hc pins s σ H _ us Q I r ⟨_, _, by rw [vw_int h1, vw_int h2], k _ F H (Grow.refl fl) (.int _)⟩
theorem dc_min2 (hc : X.calm = true) : CallR X (.builtin "min") (rCN X.K (on2 oMin)) := by
  intro pins s σ H xs us Q I r ⟨F, ds, c, fl, h, e, k⟩
  obtain ⟨v, d, v', d', rfl, h1, h2, e1⟩ := vw2 h e
  cases d <;> cases d' <;> cases e1
  exact call_min2 hc pins s σ H _ us Q I r ⟨_, _, by rw [vw_int h1, vw_int h2], k _ F H (Grow.refl fl) (.int _)⟩
theorem dc_divmod : CallR X (.builtin "divmod") (rCN X.K (on2 oDivmod)) := by
  intro pins s σ H xs us Q I r ⟨F, ds, c, fl, h, e, k⟩
  obtain ⟨v, d, v', d', rfl, h1, h2, e1⟩ := vw2 h e
  cases d <;> cases d' <;> try cases e1
  rename_i i j
  unfold oDivmod at e1
  simp only at e1
  split at e1
  · rename_i hj
    cases e1
    refine call_divmod pins s σ H _ us Q I r ⟨_, _, by rw [vw_int h1, vw_int h2], hj, fun p hp => ?_⟩
    have g := fun l => grow_new (o := .tup l) fl hp (fl.none hp)
    exact k _ _ _ (g _) (.tup (.no (.inl (.inl upd_same)) rfl) (.cons (.int _) (.cons (.int _) .nil)))
  · cases e1
def tyName : PyData → String
  | .none => "NoneType"
  | .bool _ => "bool"
  | .int _ => "int"
  | .str _ => "str"
  | .list _ => "list"
  | .tuple _ => "tuple"
  | .dict _ => "dict"
/-- isinstance of a built-in class: bool stands under int -/
def oIs (T : String) : B1 := fun d => some (.bool (tyName d == T || (T == "int" && tyName d == "bool")))
end
end DL
/-! text DLOps4 -/
namespace DL
open PySem PySem.Spec PyProof.Rows L2
/-! ### isinstance -/
theorem kit_tab : (["NoneType", "bool", "int", "str", "list", "tuple", "dict"].all fun n => ["str", "tuple", "int", "bool", "list", "dict"].all fun T => decide (kitB n T = some (n == T || (T == "int" && n == "bool")))) = true := by decide +kernel
theorem ty_mem (d : PyData) : tyName d ∈ ["NoneType", "bool", "int", "str", "list", "tuple", "dict"] := by cases d <;> simp [tyName]
theorem kit_names (d : PyData) (T : String) (h : T ∈ ["str", "tuple", "int", "bool", "list", "dict"]) : kitB (tyName d) T = some (tyName d == T || (T == "int" && tyName d == "bool")) := by
  have h1 := List.all_eq_true.mp kit_tab _ (ty_mem d)
  have h2 := List.all_eq_true.mp h1 _ h
  exact of_decide_eq_true h2
section
variable {X : Cx} {K : PySem.W.Frag} {mg : Str → Option Value} {F H F' H' : Hp} {ad ad' : List Addr} {env : Env} {st : Store} {σ : L2.St} {v : V} {d : PyData} {a b e : Expr} {es : List Expr} {f fa fb : WE} {fs : WA} {pos p p2 : Pos} {x : Str} {id : String}
theorem vw_ty (fl : FLe F H) (h : Vw K F H v d) : TyX K H v (.type (tyName d)) := by
  cases h with
  | non => exact .base .non
  | bl b => exact .base (.bl b)
  | int i => exact .base (.int i)
  | str x => exact .base (.str x)
  | lst e r => exact .base (.lst e)
  | tup e r =>
    rcases fl.seqT e.sq with (h | ⟨o, h⟩) | ⟨o, _, _, h, c, _⟩
    · exact .base (.tup h)
    · exact .fTuple h
    · exact .kTuple h c
  | dct e r =>
    rcases e with h | ⟨o, h⟩
    · exact .base (.dK h)
    · exact .fDict h
theorem de_isi {T : String} {y : Str} (hT : T ∈ ["str", "tuple", "int", "bool", "list", "dict"]) (ha : PE X e (tE X.K mg fa)) (hm : X.mg "isinstance" = none) (hmT : X.mg y = none) (hvT : bootBuiltins y = some (.type T)) (hv : bootBuiltins "isinstance" = some (.builtin "isinstance") := by exact PyProof.Rows.boot_isinstance)
    (hg : Gl X "isinstance" := by rfl) (hgT : Gl X y := by rfl) (hnT : y ≠ "__name__" := by decide) (hdT : (y == ("__debug__" : Str)) = false := by decide)
    (he : starEach (e :: [.Name y p2]) X.env = (false, eval e X.env) :: starEach [.Name y p2] X.env := by rfl) (he2 : starEach (.Name y p2 :: []) X.env = (false, eval (.Name y p2) X.env) :: starEach [] X.env := by rfl) (hpl : (backTo pos (starEach [.Name y p2] X.env)).any (·.1) = false := by rfl) :
    PE X (.Call (.Name "isinstance" p) [e, .Name y p2] [] pos) (tE X.K mg (wUn (oIs T) fa)) :=
  pe_weak (pe_callB call_isi hg hm hv (L2.pa_cons ha (L2.pa_cons (pe_bltn (v := .ty T) hgT hmT hvT rfl hnT hdT) L2.pa_nil he2) he) (by decide) (by decide) he hpl) fun σ H Q ⟨F, ad, env, st, P, n, h, k⟩ => by
    refine tE_go n h fun r1 st1 v1 F1 ad1 H1 p1 x1 n1 d1 => ?_
    obtain ⟨a, ea, p3⟩ := optK_elim p1
    obtain ⟨c, ec, p5⟩ := optK_elim p3
    cases ec
    exact ⟨v1, .ty T, _, .type T, _, rfl, .ty T, vw_ty n1.rel.fl (n1.rel.vw d1 ea), kit_ty (kit_names a T hT), k _ _ _ _ _ _ p5 x1 n1 (.bl _)⟩
/-! ### repr -/
mutual
theorem plain_noDict : ∀ d : PyData, d.plain = true → d.hasDict = false
  | .none, _ => by simp only [PyData.hasDict]
  | .bool _, _ => by simp only [PyData.hasDict]
  | .int _, _ => by simp only [PyData.hasDict]
  | .str _, _ => by simp only [PyData.hasDict]
  | .list xs, h => by
    simp only [PyData.hasDict]
    exact plainAll_noDict xs (by simpa [PyData.plain] using h)
  | .tuple xs, h => by
    simp only [PyData.hasDict]
    exact plainAll_noDict xs (by simpa [PyData.plain] using h)
  | .dict _, h => by simp [PyData.plain] at h
theorem plainAll_noDict : ∀ xs : List PyData, PyData.plainAll xs = true → PyData.hasDictAll xs = false
  | [], _ => by simp only [PyData.hasDictAll]
  | x :: xs, h => by
    have h' : x.plain = true ∧ PyData.plainAll xs = true := by simpa [PyData.plainAll] using h
    simp only [PyData.hasDictAll, plain_noDict x h'.1, plainAll_noDict xs h'.2, Bool.or_self]
end
def okRepr (d : PyData) : Bool := d.plain && d.showable && decide (d.depth ≤ 200) && decide (d.shown.length ≤ lim)
def oRepr : B1 := fun d => if okRepr d = true then some (.str d.shown) else none
theorem dc_repr (hu : X.A.units + 300 < cLine) (hg : X.A.guards = some []) : CallR X (.builtin "repr") (rCN X.K (on1 oRepr)) := by
  intro pins s σ H xs us Q I r ⟨F, ds, c, fl, h, e, k⟩
  obtain ⟨v, d, rfl, h1, e1⟩ := vw1 h e
  cases r with
  | cons r1 r2 =>
    rename_i u us'
    cases r2
    unfold oRepr at e1
    split at e1
    · rename_i ok
      cases e1
      have ok' : d.plain = true ∧ d.showable = true ∧ d.depth ≤ 200 ∧ d.shown.length ≤ lim := by simpa [okRepr, and_assoc] using ok
      obtain ⟨p1, p2, p3, p4⟩ := ok'
      rw [lim_eq] at p4
      have fin := k _ F H (Grow.refl fl) (.str _)
      obtain ⟨as, rr⟩ := h1.reads I fl p1 r1
      cases d with
      | none =>
        cases h1; cases r1
        exact PySem.P.repr_of_none ⟨.str _, H, I.tok _, ⟨_, rfl⟩, by simpa only [PyData.shown] using fin⟩
      | bool b =>
        cases h1; cases r1
        exact PySem.P.repr_of_bool ⟨.str _, H, I.tok _, ⟨_, rfl⟩, by simpa only [PyData.shown] using fin⟩
      | int i =>
        cases h1
        obtain ⟨t, rfl⟩ := r1
        exact PySem.P.repr_of_int (by simpa [PyData.showable] using p2) ⟨.str _, H, I.tok _, ⟨_, rfl⟩, by simpa only [PyData.shown] using fin⟩
      | str z =>
        cases h1
        obtain ⟨t, rfl⟩ := r1
        exact PySem.P.repr_of_str ⟨.str _, H, I.tok _, ⟨_, rfl⟩, by simpa only [PyData.shown] using fin⟩ (by simpa only [PyData.shown] using p4)
      | list xs =>
        cases rr with
        | list a1 a2 a3 a4 => exact repr_of_reads' (.list a1 a2 a3 a4) p2 (PyData.noDict_hsm (plain_noDict _ p1)) hg (by omega) (fun _ _ z => z) (fun h' u tk hk => ⟨.str _, H, I.kept hk, ⟨_, rfl⟩, fin⟩) p4
      | tuple xs =>
        cases rr with
        | tuple a1 a2 a3 a4 => exact repr_of_reads' (.tuple a1 a2 a3 a4) p2 (PyData.noDict_hsm (plain_noDict _ p1)) hg (by omega) (fun _ _ z => z) (fun h' u tk hk => ⟨.str _, H, I.kept hk, ⟨_, rfl⟩, fin⟩) p4
      | dict kvs => simp [PyData.plain] at p1
    · cases e1
/-! ### list(), tuple(), all, any, sum -/
def oList : B1
  | .list xs => some (.list xs)
  | .tuple xs => some (.list xs)
  | _ => none
def oTuple : B1
  | .list xs => some (.tuple xs)
  | .tuple xs => some (.tuple xs)
  | _ => none
theorem dc_list : CallR X (.type "list") (rCN X.K (on1 oList)) := by
  intro pins s σ H xs us Q I r ⟨F, ds, c, fl, h, e, k⟩
  obtain ⟨v, d, rfl, h1, e1⟩ := vw1 h e
  cases d <;> cases e1
  · cases h1 with
    | lst ea ra =>
      refine call_list_of pins s σ H _ us Q I r ⟨_, _, rfl, .inl (.inl (.inl ea)), fun p hp => ?_⟩
      have g := fun l => grow_new (o := .lst l) fl hp (fl.none hp)
      exact k _ _ _ (g _) (.lst upd_same (RpAll.le (g _).le _ _ ra))
  · cases h1 with
    | tup ea ra =>
      refine call_list_of pins s σ H _ us Q I r ⟨_, _, rfl, .inr (fl.seqT ea.sq), fun p hp => ?_⟩
      have g := fun l => grow_new (o := .lst l) fl hp (fl.none hp)
      exact k _ _ _ (g _) (.lst upd_same (RpAll.le (g _).le _ _ ra))
/-- tuple(list), the object told -/
theorem call_tupleF : CallR X (.type "tuple") (fun xs H Q => ∃ p ys, xs = [.ref p] ∧ SqL X.K H p ys ∧ ∀ (l : Addr) (o : Obj), H l = none → o.dict = none → Q (.ref l) (upd H l (.frz o (.tup ys)))) := by
  intro pins s σ H xs us Q I r h
  obtain ⟨p, ys, rfl, hq, q⟩ := h
  obtain ⟨u, rfl, rx⟩ := vals1 r
  cases rx
  obtain ⟨its, r', pl, hz⟩ := I.list hq
  have hlen := r'.length
  refine call_tuple_list pl.isList (fun h' kp => ?_) (by simp only [List.size_toArray] <;> omega)
  have I1 : L2.Inv X pins σ H { s with heap := h' } := I.kept (t' := s.toks) kp
  have I2 := I1.laid (h' := h'.push { cls := .type "tuple", data := .seq its.toArray }) (a := h'.objs.size) (o := .frz { cls := .type "tuple", data := .seq its.toArray } (.tup ys)) (t' := s.toks) (fun b o e => Heap.get?_push_of_some _ e) (Nat.le_refl _) ⟨Heap.get?_push_size _ rfl, hz, its, r', IsTup.new _ _⟩
  exact ⟨.ref h'.objs.size, _, I2, rfl, q _ _ (I1.hok.fresh (Nat.le_refl _)) rfl⟩
theorem dc_tuple : CallR X (.type "tuple") (rCN X.K (on1 oTuple)) := by
  intro pins s σ H xs us Q I r ⟨F, ds, c, fl, h, e, k⟩
  obtain ⟨v, d, rfl, h1, e1⟩ := vw1 h e
  cases d <;> cases e1
  · cases h1 with
    | lst ea ra =>
      refine call_tupleF pins s σ H _ us Q I r ⟨_, _, rfl, .inl (.inl ea), fun p o hp ho => ?_⟩
      have g := fun l => grow_new (o := .frz o (.tup l)) fl hp (fl.none hp)
      exact k _ _ _ (g _) (.tup ⟨.inl (.inr ⟨o, upd_same⟩), fun _ => ⟨o, ho, .inl ⟨_, upd_same⟩⟩⟩ (RpAll.le (g _).le _ _ ra))
  · cases h1 with
    | tup ea ra => exact call_tuple_of pins s σ H _ us Q I r ⟨_, _, rfl, .inr ⟨fl.seqT ea.sq, k _ F H (Grow.refl fl) (.tup ea ra)⟩⟩
def boolsOf : List PyData → Option (List Bool)
  | [] => some []
  | .bool b :: r => (boolsOf r).map (b :: ·)
  | _ => none
def numsOf : List PyData → Option (List Int)
  | [] => some []
  | .int b :: r => (numsOf r).map (b :: ·)
  | _ => none
def oAll : B1
  | .list xs => (boolsOf xs).map fun bs => .bool (bs.all _root_.id)
  | _ => none
def oAny : B1
  | .list xs => (boolsOf xs).map fun bs => .bool (bs.any _root_.id)
  | _ => none
def oSum : B1
  | .list xs => (numsOf xs).map fun ns => .int ns.sum
  | _ => none
theorem boolsOf_rp : ∀ {xs : List PyData} {vs : List V} {bs : List Bool}, RpAll K F vs xs → boolsOf xs = some bs → vs = bs.map V.bl
  | [], _, _, h, e => by cases h; cases e; rfl
  | x :: xs, _, _, h, e => by
    cases h with
    | cons r rs =>
      cases x <;> try cases e
      rename_i b
      unfold boolsOf at e
      cases q : boolsOf xs with
      | none => rw [q] at e; cases e
      | some bs =>
        rw [q] at e; cases e
        cases r
        rw [boolsOf_rp rs q]; rfl
theorem numsOf_rp : ∀ {xs : List PyData} {vs : List V} {bs : List Int}, RpAll K F vs xs → numsOf xs = some bs → vs = bs.map V.int
  | [], _, _, h, e => by cases h; cases e; rfl
  | x :: xs, _, _, h, e => by
    cases h with
    | cons r rs =>
      cases x <;> try cases e
      rename_i b
      unfold numsOf at e
      cases q : numsOf xs with
      | none => rw [q] at e; cases e
      | some bs =>
        rw [q] at e; cases e
        cases r
        rw [numsOf_rp rs q]; rfl
theorem dc_all (hc : X.calm = true) : CallR X (.builtin "all") (rCN X.K (on1 oAll)) := by
  intro pins s σ H xs us Q I r ⟨F, ds, c, fl, h, e, k⟩
  obtain ⟨v, d, rfl, h1, e1⟩ := vw1 h e
  cases d <;> try cases e1
  rename_i ys
  unfold oAll at e1
  cases q : boolsOf ys with
  | none => simp only [q] at e1; cases e1
  | some bs =>
    simp only [q] at e1; cases e1
    cases h1 with
    | lst ea ra =>
      rw [boolsOf_rp ra q] at ea
      exact cr_all hc pins s σ H _ us Q I r ⟨_, bs, rfl, .inl (.inl ea), k _ F H (Grow.refl fl) (.bl _)⟩
theorem dc_any (hc : X.calm = true) : CallR X (.builtin "any") (rCN X.K (on1 oAny)) := by
  intro pins s σ H xs us Q I r ⟨F, ds, c, fl, h, e, k⟩
  obtain ⟨v, d, rfl, h1, e1⟩ := vw1 h e
  cases d <;> try cases e1
  rename_i ys
  unfold oAny at e1
  cases q : boolsOf ys with
  | none => simp only [q] at e1; cases e1
  | some bs =>
    simp only [q] at e1; cases e1
    cases h1 with
    | lst ea ra =>
      rw [boolsOf_rp ra q] at ea
      exact cr_any hc pins s σ H _ us Q I r ⟨_, bs, rfl, .inl (.inl ea), k _ F H (Grow.refl fl) (.bl _)⟩
theorem dc_sum (hc : X.calm = true) : CallR X (.builtin "sum") (rCN X.K (on1 oSum)) := by
  intro pins s σ H xs us Q I r ⟨F, ds, c, fl, h, e, k⟩
  obtain ⟨v, d, rfl, h1, e1⟩ := vw1 h e
  cases d <;> try cases e1
  rename_i ys
  unfold oSum at e1
  cases q : numsOf ys with
  | none => simp only [q] at e1; cases e1
  | some bs =>
    simp only [q] at e1; cases e1
    cases h1 with
    | lst ea ra =>
      rw [numsOf_rp ra q] at ea
      exact cr_sum hc pins s σ H _ us Q I r ⟨_, bs, rfl, .inl (.inl ea), k _ F H (Grow.refl fl) (.int _)⟩
/-! ### built-ins by name -/
variable (ha : PA X (e :: es) (tA X.K mg fs)) (he : starEach (e :: es) X.env = (false, eval e X.env) :: starEach es X.env) (hpl : (backTo pos (starEach es X.env)).any (·.1) = false)
theorem de_repr (hu : X.A.units + 300 < cLine) (hgd : X.A.guards = some []) (ha : PA X (e :: es) (tA X.K mg fs)) (hm : X.mg "repr" = none) (hg : Gl X "repr" := by rfl) (he : starEach (e :: es) X.env = (false, eval e X.env) :: starEach es X.env := by rfl) (hpl : (backTo pos (starEach es X.env)).any (·.1) = false := by rfl) :
    PE X (.Call (.Name "repr" p) (e :: es) [] pos) (tE X.K mg (wOpN (on1 oRepr) fs)) := de_b (dc_repr hu hgd) hm PyProof.Rows.boot_repr ha hg (by decide) (by decide) he hpl
theorem de_abs (ha : PA X (e :: es) (tA X.K mg fs)) (hm : X.mg "abs" = none) (hg : Gl X "abs" := by rfl) (he : starEach (e :: es) X.env = (false, eval e X.env) :: starEach es X.env := by rfl) (hpl : (backTo pos (starEach es X.env)).any (·.1) = false := by rfl) :
    PE X (.Call (.Name "abs" p) (e :: es) [] pos) (tE X.K mg (wOpN (on1 oAbs) fs)) := de_b dc_abs hm PyProof.Rows.boot_abs ha hg (by decide) (by decide) he hpl
theorem de_intc (ha : PA X (e :: es) (tA X.K mg fs)) (hm : X.mg "int" = none) (hg : Gl X "int" := by rfl) (he : starEach (e :: es) X.env = (false, eval e X.env) :: starEach es X.env := by rfl) (hpl : (backTo pos (starEach es X.env)).any (·.1) = false := by rfl) :
    PE X (.Call (.Name "int" p) (e :: es) [] pos) (tE X.K mg (wOpN (on1 oInt) fs)) := de_ty dc_int hm PyProof.Rows.boot_int ha hg (by decide) (by decide) he hpl
theorem de_max2 (hc : X.calm = true) (ha : PA X (e :: es) (tA X.K mg fs)) (hm : X.mg "max" = none) (hg : Gl X "max" := by rfl) (he : starEach (e :: es) X.env = (false, eval e X.env) :: starEach es X.env := by rfl) (hpl : (backTo pos (starEach es X.env)).any (·.1) = false := by rfl) :
    PE X (.Call (.Name "max" p) (e :: es) [] pos) (tE X.K mg (wOpN (on2 oMax) fs)) := de_b (dc_max2 hc) hm PyProof.Rows.boot_max ha hg (by decide) (by decide) he hpl
theorem de_min2 (hc : X.calm = true) (ha : PA X (e :: es) (tA X.K mg fs)) (hm : X.mg "min" = none) (hg : Gl X "min" := by rfl) (he : starEach (e :: es) X.env = (false, eval e X.env) :: starEach es X.env := by rfl) (hpl : (backTo pos (starEach es X.env)).any (·.1) = false := by rfl) :
    PE X (.Call (.Name "min" p) (e :: es) [] pos) (tE X.K mg (wOpN (on2 oMin) fs)) := de_b (dc_min2 hc) hm PyProof.Rows.boot_min ha hg (by decide) (by decide) he hpl
theorem de_divmod (ha : PA X (e :: es) (tA X.K mg fs)) (hm : X.mg "divmod" = none) (hg : Gl X "divmod" := by rfl) (he : starEach (e :: es) X.env = (false, eval e X.env) :: starEach es X.env := by rfl) (hpl : (backTo pos (starEach es X.env)).any (·.1) = false := by rfl) :
    PE X (.Call (.Name "divmod" p) (e :: es) [] pos) (tE X.K mg (wOpN (on2 oDivmod) fs)) := de_b dc_divmod hm PyProof.Rows.boot_divmod ha hg (by decide) (by decide) he hpl
theorem de_list (ha : PA X (e :: es) (tA X.K mg fs)) (hm : X.mg "list" = none) (hg : Gl X "list" := by rfl) (he : starEach (e :: es) X.env = (false, eval e X.env) :: starEach es X.env := by rfl) (hpl : (backTo pos (starEach es X.env)).any (·.1) = false := by rfl) :
    PE X (.Call (.Name "list" p) (e :: es) [] pos) (tE X.K mg (wOpN (on1 oList) fs)) := de_ty dc_list hm PyProof.Rows.boot_list ha hg (by decide) (by decide) he hpl
theorem de_tuplec (ha : PA X (e :: es) (tA X.K mg fs)) (hm : X.mg "tuple" = none) (hg : Gl X "tuple" := by rfl) (he : starEach (e :: es) X.env = (false, eval e X.env) :: starEach es X.env := by rfl) (hpl : (backTo pos (starEach es X.env)).any (·.1) = false := by rfl) :
    PE X (.Call (.Name "tuple" p) (e :: es) [] pos) (tE X.K mg (wOpN (on1 oTuple) fs)) := de_ty dc_tuple hm PyProof.Rows.boot_tuple ha hg (by decide) (by decide) he hpl
theorem de_all (hc : X.calm = true) (ha : PA X (e :: es) (tA X.K mg fs)) (hm : X.mg "all" = none) (hg : Gl X "all" := by rfl) (he : starEach (e :: es) X.env = (false, eval e X.env) :: starEach es X.env := by rfl) (hpl : (backTo pos (starEach es X.env)).any (·.1) = false := by rfl) :
    PE X (.Call (.Name "all" p) (e :: es) [] pos) (tE X.K mg (wOpN (on1 oAll) fs)) := de_b (dc_all hc) hm PyProof.Rows.boot_all ha hg (by decide) (by decide) he hpl
theorem de_any (hc : X.calm = true) (ha : PA X (e :: es) (tA X.K mg fs)) (hm : X.mg "any" = none) (hg : Gl X "any" := by rfl) (he : starEach (e :: es) X.env = (false, eval e X.env) :: starEach es X.env := by rfl) (hpl : (backTo pos (starEach es X.env)).any (·.1) = false := by rfl) :
    PE X (.Call (.Name "any" p) (e :: es) [] pos) (tE X.K mg (wOpN (on1 oAny) fs)) := de_b (dc_any hc) hm PyProof.Rows.boot_any ha hg (by decide) (by decide) he hpl
theorem de_sum (hc : X.calm = true) (ha : PA X (e :: es) (tA X.K mg fs)) (hm : X.mg "sum" = none) (hg : Gl X "sum" := by rfl) (he : starEach (e :: es) X.env = (false, eval e X.env) :: starEach es X.env := by rfl) (hpl : (backTo pos (starEach es X.env)).any (·.1) = false := by rfl) :
    PE X (.Call (.Name "sum" p) (e :: es) [] pos) (tE X.K mg (wOpN (on1 oSum) fs)) := de_b (dc_sum hc) hm PyProof.Rows.boot_sum ha hg (by decide) (by decide) he hpl
end
end DL
/-! text DLIter -/
namespace DL
open PySem PySem.Spec PyProof.Rows L2
/-! ### what is walked, by data -/
def iStrD (fa : WE) : WI := fun env st Q => fa env st fun r st1 => match r with
  | .d (.str x) => x.length ≤ lim ∧ Q (x.cps.toList.map fun c => .d (.str ⟨#[c]⟩)) st1
  | _ => False
def rngL (lo : Int) (n : Nat) : List DV := (List.range n).map fun (i : Nat) => .d (.int (lo + (i : Int)))
def iRng1D (fa : WE) : WI := fun env st Q => fa env st fun r st1 => optK (rd st1 r) fun x => optK (asI x) fun j => (-(2 ^ 62) ≤ j ∧ j < 2 ^ 62) ∧ j.toNat ≤ lim ∧ Q (rngL 0 j.toNat) st1
def iRng2D (fa fb : WE) : WI := fun env st Q => fa env st fun r st1 => fb env st1 fun q st2 => optK (rd st2 r) fun x => optK (rd st2 q) fun y => optK (asI x) fun i => optK (asI y) fun j =>
  (-(2 ^ 62) ≤ i ∧ i < 2 ^ 62 ∧ -(2 ^ 62) ≤ j ∧ j < 2 ^ 62) ∧ (j - i).toNat ≤ lim ∧ Q (rngL i (j - i).toNat) st2
def iItemsD (fa : WE) : WI := fun env st Q => fa env st fun r st1 => match r with
  | .d (.dict kvs) => kvs.length ≤ lim ∧ Q (kvs.map fun p => .d (.tuple [p.1, p.2])) st1
  | _ => False
def iKeysD (fa : WE) : WI := fun env st Q => fa env st fun r st1 => match r with
  | .d (.dict kvs) => kvs.length ≤ lim ∧ Q (kvs.map fun p => .d p.1) st1
  | _ => False
def iValsD (fa : WE) : WI := fun env st Q => fa env st fun r st1 => match r with
  | .d (.dict kvs) => kvs.length ≤ lim ∧ Q (kvs.map fun p => .d p.2) st1
  | _ => False
def enumL (n : Nat) : List PyData → List DV
  | [] => []
  | x :: r => .d (.tuple [.int n, x]) :: enumL (n + 1) r
def iEnumD (fa : WE) : WI := fun env st Q => fa env st fun r st1 => match r with
  | .d x => optK (itemsOf x) fun xs => Q (enumL 0 xs) st1
  | _ => False
section
variable {X : Cx} {K : PySem.W.Frag} {mg : Str → Option Value} {F H F' H' : Hp} {ad ad' : List Addr} {env : Env} {st : Store} {σ : L2.St} {v : V} {d : PyData} {a b e tg : Expr} {f fa fb : WE} {pos p : Pos}
theorem pi_weak {wi wi' : TI} (h : PI X tg e wi) (w : ∀ σ H R, wi' σ H R → wi σ H R) : PI X tg e wi' := ⟨fun pins s σ H R I q => h.run pins s σ H R I (w σ H R q)⟩
/-! #### lists and tuples -/
def iSq (K : PySem.W.Frag) (tl : TE) : TI := fun σ H R => tl σ H fun x H1 => ∃ a xs, x = .ref a ∧ ((SqL K H1 a xs ∧ (xs.length ≤ sizeLine → R (Itl K a) H1)) ∨ (SqT K H1 a xs ∧ (xs.length ≤ sizeLine → R (Itt K a) H1)))
theorem pi_sq {tl : TE} (hl : PE X e tl) : PI X tg e (iSq X.K tl) := by
  refine ⟨fun pins s σ H R I h => thn (hl.run pins s σ H _ I h) ?_⟩
  rintro v s1 ⟨x, H1, I1, r1, a, xs, rfl, q⟩
  cases r1
  have nf : H1 s1.heap.objs.size = none := I1.hok.fresh (Nat.le_refl _)
  rcases q with ⟨hq, q⟩ | ⟨hq, q⟩
  · obtain ⟨its, rv, pl, hz⟩ := I1.list hq
    refine wpAny_pyIter_list pl.isList ⟨s1.heap.objs.size, [s1.heap.objs.size], _, _, H1, rfl, I1.kept (t' := s1.toks) fun b o z => Heap.get?_push_of_some _ z, turn_list a _, ⟨_, Heap.get?_push_size _ rfl, rfl, rfl⟩, ?_, q hz⟩
    intro b hb
    simp only [List.mem_singleton] at hb
    subst hb
    exact I1.fpOk (Nat.le_refl _) nf
  · obtain ⟨its, rv, pl, hz⟩ := I1.tuple hq
    refine wpAny_pyIter_tuple (show s1.heap.IsTuple a its.toArray from pl) ⟨s1.heap.objs.size, [s1.heap.objs.size], _, _, H1, rfl, I1.kept (t' := s1.toks) fun b o z => Heap.get?_push_of_some _ z, turn_tuple a _, ⟨_, Heap.get?_push_size _ rfl, rfl, rfl⟩, ?_, q hz⟩
    intro b hb
    simp only [List.mem_singleton] at hb
    subst hb
    exact I1.fpOk (Nat.le_refl _) nf
theorem map_d_get {xs : List PyData} {i : Nat} {x : DV} (h : (xs.map DV.d)[i]? = some x) : ∃ y, xs[i]? = some y ∧ x = .d y := by
  rw [List.getElem?_map] at h
  cases q : xs[i]? with
  | none => rw [q] at h; cases h
  | some y => rw [q] at h; exact ⟨y, rfl, (Option.some.inj h).symm⟩
theorem itok_list {a : Addr} {vs : List V} {xs : List PyData} (h : F a = some (.lst vs)) (r : RpAll K F vs xs) (hz : vs.length ≤ sizeLine) : ItOk K mg (Itl K a) (xs.map DV.d) F H ad := by
  have at_ : ∀ {F1 H1 : Hp}, LeH F F1 → FLe F1 H1 → H1 a = some (.lst vs) := fun le fl => by
    rcases fl _ _ (le _ _ h) with z | ⟨_, _, z, _⟩
    · exact z
    · cases z
  have inj : ∀ {H1 : Hp} {ys : List V}, H1 a = some (.lst vs) → SqL K H1 a vs := fun z => .inl (.inl z)
  refine ⟨by rw [List.length_map, ← r.length]; exact hz, fun F1 H1 ad1 st1 i x le R e => ?_, fun F1 H1 ad1 st1 i x le R e v H2 hy => ?_, fun F1 H1 ad1 st1 i le R e => ?_⟩
  · obtain ⟨y, ey, rfl⟩ := map_d_get e
    obtain ⟨w, ew, _⟩ := r.get ey
    exact ⟨vs, w, .inl (.inl (at_ le.le R.fl)), ew⟩
  · obtain ⟨y, ey, rfl⟩ := map_d_get e
    obtain ⟨w, ew, rw'⟩ := r.get ey
    obtain ⟨rfl, hv⟩ := hy
    have := hv vs (.inl (.inl (at_ le.le R.fl)))
    rw [ew] at this
    cases this
    exact ⟨F1, Ext.refl _ _ _, fun _ _ z => z, Rp.le le.le _ _ rw'⟩
  · exact ⟨vs, .inl (.inl (at_ le.le R.fl)), by rw [List.length_map, ← r.length] at e; exact e⟩
theorem itok_tup {a : Addr} {vs : List V} {xs : List PyData} (h : SqT K F a vs) (r : RpAll K F vs xs) (hz : vs.length ≤ sizeLine) : ItOk K mg (Itt K a) (xs.map DV.d) F H ad := by
  have at_ : ∀ {F1 H1 : Hp}, LeH F F1 → FLe F1 H1 → SqT K H1 a vs := fun le fl => fl.seqT (sqT_le le h)
  refine ⟨by rw [List.length_map, ← r.length]; exact hz, fun F1 H1 ad1 st1 i x le R e => ?_, fun F1 H1 ad1 st1 i x le R e v H2 hy => ?_, fun F1 H1 ad1 st1 i le R e => ?_⟩
  · obtain ⟨y, ey, rfl⟩ := map_d_get e
    obtain ⟨w, ew, _⟩ := r.get ey
    exact ⟨vs, w, at_ le.le R.fl, ew⟩
  · obtain ⟨y, ey, rfl⟩ := map_d_get e
    obtain ⟨w, ew, rw'⟩ := r.get ey
    obtain ⟨rfl, hv⟩ := hy
    have := hv vs (at_ le.le R.fl)
    rw [ew] at this
    cases this
    exact ⟨F1, Ext.refl _ _ _, fun _ _ z => z, Rp.le le.le _ _ rw'⟩
  · exact ⟨vs, at_ le.le R.fl, by rw [List.length_map, ← r.length] at e; exact e⟩
theorem di_seq (he : PE X e (tE X.K mg f)) : PI X tg e (tWI X.K mg (iSeq f)) :=
  pi_weak (pi_sq he) fun σ H R ⟨F, ad, env, st, P, n, h, k⟩ => by
    refine tE_go n h fun r st1 v F1 ad1 H1 q x n1 d1 => ?_
    cases r with
    | d y =>
      obtain ⟨xs, ex, q⟩ := optK_elim q
      have d1' : Rp X.K F1 v y := d1
      cases y with
      | list ys =>
        cases ex
        cases d1' with
        | @lst a vs _ ea ra =>
          have hl : H1 a = some (.lst vs) := (n1.rel.fl _ _ ea).elim (fun z => z) fun ⟨_, _, z, _⟩ => nomatch z
          exact ⟨a, vs, rfl, .inl ⟨.inl (.inl hl), fun hz => k _ _ _ _ _ _ q x n1 (itok_list ea ra hz)⟩⟩
      | tuple ys =>
        cases ex
        cases d1' with
        | @tup a vs _ ea ra => exact ⟨a, vs, rfl, .inr ⟨n1.rel.fl.seqT ea.sq, fun hz => k _ _ _ _ _ _ q x n1 (itok_tup ea.sq ra hz)⟩⟩
      | _ => cases ex
    | loc _ => exact q.elim
    | fn _ => exact q.elim
    | scr _ => exact q.elim
/-! #### texts, ranges -/
theorem di_str (he : PE X e (tE X.K mg f)) : PI X tg e (tWI X.K mg (iStrD f)) :=
  pi_weak (pi_str he) fun σ H R ⟨F, ad, env, st, P, n, h, k⟩ => by
    refine tE_go n h fun r st1 v F1 ad1 H1 q x n1 d1 => ?_
    match r, q, d1 with
    | .d (.str z), q, d1 =>
      obtain ⟨hz, q⟩ := q
      have d1' : Rp X.K F1 v (.str z) := d1
      cases d1'
      have hz' : z.cps.size ≤ sizeLine := by rw [← lim_eq]; exact hz
      refine ⟨z, rfl, k _ _ _ _ _ _ q x n1 ⟨by simpa using hz', fun F2 H2 ad2 st2 i y le R e => ?_, fun F2 H2 ad2 st2 i y le R e v H3 hy => ?_, fun F2 H2 ad2 st2 i le R e => (by simpa using e : z.cps.size ≤ i)⟩⟩
      · have := (List.getElem?_eq_some_iff.mp e).1
        exact (by simpa using this : i < z.cps.size)
      · obtain ⟨rfl, c, hc, rfl⟩ := hy
        rw [List.getElem?_map, Array.getElem?_toList, hc] at e
        cases e
        exact ⟨F2, Ext.refl _ _ _, fun _ _ z => z, Rp.str _⟩
theorem itok_rng (lo : Int) (n : Nat) (hz : n ≤ lim) : ItOk K mg (Itr lo n) (rngL lo n) F H ad := by
  refine ⟨by simpa [rngL, lim_eq] using hz, fun F2 H2 ad2 st2 i y le R e => ?_, fun F2 H2 ad2 st2 i y le R e v H3 hy => ?_, fun F2 H2 ad2 st2 i le R e => (by simpa [rngL] using e : n ≤ i)⟩
  · have := (List.getElem?_eq_some_iff.mp e).1
    exact (by simpa [rngL] using this : i < n)
  · obtain ⟨rfl, rfl⟩ := hy
    have hi := (List.getElem?_eq_some_iff.mp e).1
    have hi' : i < n := by simpa [rngL] using hi
    unfold rngL at e
    rw [List.getElem?_map, List.getElem?_range hi'] at e
    cases e
    exact ⟨F2, Ext.refl _ _ _, fun _ _ z => z, Rp.int _⟩
theorem vw_asI {v : V} {x : PyData} {i : Int} (h : Vw K F H v x) (e : asI x = some i) : v = .int i := by
  cases x <;> simp [asI] at e
  subst e
  exact vw_int h
theorem di_rng1 (ha : PE X a (tE X.K mg fa)) (hm : X.mg "range" = none) (hg : Gl X "range" := by rfl) (hs0 : starEach (a :: []) X.env = (false, eval a X.env) :: starEach [] X.env := by rfl) (hs : starEach [a] X.env = [(false, eval a X.env)] := by rfl) : PI X tg (.Call (.Name "range" p) [a] [] pos) (tWI X.K mg (iRng1D fa)) :=
  pi_weak (pi_range1 hg hm (L2.pa_cons ha L2.pa_nil hs0) hs) fun σ H R ⟨F, ad, env, st, P, n, h, k⟩ => by
    refine tE_go n h fun r st1 v F1 ad1 H1 q x n1 d1 => ?_
    obtain ⟨y, ey, q⟩ := optK_elim q
    obtain ⟨j, ej, hj, hl, q⟩ := optK_elim q
    have hv := vw_asI (n1.rel.vw d1 ey) ej
    subst hv
    exact ⟨j, rfl, hj.1, hj.2, k _ _ _ _ _ _ q x n1 (itok_rng 0 _ hl)⟩
theorem di_rng2 (ha : PE X a (tE X.K mg fa)) (hb : PE X b (tE X.K mg fb)) (hm : X.mg "range" = none) (hg : Gl X "range" := by rfl) (h0 : starEach (a :: [b]) X.env = (false, eval a X.env) :: starEach [b] X.env := by rfl) (h1 : starEach (b :: []) X.env = (false, eval b X.env) :: starEach [] X.env := by rfl)
    (hs : starEach [a, b] X.env = [(false, eval a X.env), (false, eval b X.env)] := by rfl) (hs2 : starEach [b] X.env = [(false, eval b X.env)] := by rfl) : PI X tg (.Call (.Name "range" p) [a, b] [] pos) (tWI X.K mg (iRng2D fa fb)) :=
  pi_weak (pi_range2 hg hm (L2.pa_cons ha (L2.pa_cons hb L2.pa_nil h1) h0) hs hs2) fun σ H R ⟨F, ad, env, st, P, n, h, k⟩ => by
    refine tE_go n h fun r st1 v F1 ad1 H1 q x n1 d1 => ?_
    refine tE_go n1 q fun r2 st2 v2 F2 ad2 H2 q x2 n2 d2 => ?_
    obtain ⟨y, ey, q⟩ := optK_elim q
    obtain ⟨y2, ey2, q⟩ := optK_elim q
    obtain ⟨i, ei, q⟩ := optK_elim q
    obtain ⟨j, ej, hj, hl, q⟩ := optK_elim q
    have hv := vw_asI (n2.rel.vw (d1.ext x2) ey) ei
    have hv2 := vw_asI (n2.rel.vw d2 ey2) ej
    subst hv; subst hv2
    exact ⟨i, j, rfl, hj, k _ _ _ _ _ _ q (x.trans x2) n2 (itok_rng i _ hl)⟩
/-! #### dicts: what is walked is locked, for good (it is frozen) -/
theorem pe_lock1 {t : TE} (h : PE X e t) : PE X e (fun σ H Q => t σ H fun x H1 => ∃ d kvs, x = .ref d ∧ ((∃ o, H1 d = some (.frz o (.dK kvs))) ∧ Q x H1 ∨ H1 d = some (.dK kvs) ∧ ∀ od, Q x (upd H1 d (.frz od (.dK kvs))))) := by
  refine ⟨fun pins s σ H Q I q => thn (h.run pins s σ H _ I q) ?_⟩
  rintro u s1 ⟨x, H1, I1, r, d, kvs, rfl, q⟩
  rcases q with ⟨_, q⟩ | ⟨hd, q⟩
  · exact ⟨_, H1, I1, r, q⟩
  · obtain ⟨od, I2⟩ := I1.lock hd trivial
    exact ⟨_, _, I2, r, q od⟩
/-- the locked dict of a frozen value -/
theorem lock_now {d : Addr} {kvs : List (Key × V)} {od : Obj} (n : Now K mg σ F H ad env st) (hF : F d = some (.dK kvs)) (hd : H d = some (.dK kvs)) : Ext F H ad F (upd H d (.frz od (.dK kvs))) ad ∧ Now K mg σ F (upd H d (.frz od (.dK kvs))) ad env st := by
  have x : Ext F H ad F (upd H d (.frz od (.dK kvs))) ad := by
    refine ⟨LeH.refl F, fun _ h => .inl h, ⟨[], by simp, fun _ h => by simp at h⟩, fun a o e _ => ?_, fun a e => ?_⟩
    · by_cases ha : a = d
      · subst ha
        rw [hd] at e; cases e
        exact .inr ⟨hF, kvs, od, rfl, upd_same⟩
      · rw [upd_ne ha]; exact .inl e
    · by_cases ha : a = d
      · subst ha; rw [upd_same] at e; cases e
      · rw [upd_ne ha] at e; exact e
  refine ⟨x, ⟨⟨fun a u e => ?_, n.rel.len, n.rel.nd, fun a h e => n.rel.live a h (x.there a e), fun i a c h1 h2 => ?_⟩, n.env⟩⟩
  · by_cases ha : a = d
    · subst ha
      rw [hF] at e; cases e
      exact .inr ⟨kvs, od, rfl, upd_same⟩
    · rw [upd_ne ha]; exact n.rel.fl a u e
  · have q := n.rel.cell i a c h1 h2
    cases c with
    | lst xs =>
      obtain ⟨z, vs, e, r⟩ := q
      have ha : a ≠ d := fun w => by rw [w, hF] at z; cases z
      exact ⟨z, vs, by rw [upd_ne ha]; exact e, r⟩
    | dct xs =>
      obtain ⟨z, vs, e, r⟩ := q
      have ha : a ≠ d := fun w => by rw [w, hF] at z; cases z
      exact ⟨z, vs, by rw [upd_ne ha]; exact e, r⟩
    | frz y => exact q
    | ins _ _ => trivial
/-- a frozen dict's locked state -/
theorem dict_lk {J : Addr → Obj → List (Key × V) → It} {R : It → Hp → Prop} {d : Addr} {kvs : List (PyData × PyData)} (n : Now K mg σ F H ad env st) (h : Rp K F (.ref d) (.dict kvs))
    (q : ∀ vs od F' H', Ext F H ad F' H' ad → Now K mg σ F' H' ad env st → F' d = some (.dK vs) → RpKv K F' vs kvs → H' d = some (.frz od (.dK vs)) → R (J d od vs) H') :
    ∃ d' kvs', V.ref d = .ref d' ∧ ((∃ o, H d' = some (.frz o (.dK kvs'))) ∧ (∃ d2 o k2, V.ref d = .ref d2 ∧ H d2 = some (.frz o (.dK k2)) ∧ R (J d2 o k2) H) ∨
      H d' = some (.dK kvs') ∧ ∀ od, ∃ d2 o k2, V.ref d = .ref d2 ∧ (upd H d' (.frz od (.dK kvs'))) d2 = some (.frz o (.dK k2)) ∧ R (J d2 o k2) (upd H d' (.frz od (.dK kvs')))) := by
  cases h with
  | @dct a vs _ ea ra =>
    rcases n.rel.fl _ _ ea with z | ⟨_, o, e, z⟩
    · refine ⟨d, vs, rfl, .inr ⟨z, fun od => ⟨d, od, vs, rfl, upd_same, ?_⟩⟩⟩
      obtain ⟨x2, n2⟩ := lock_now (od := od) n ea z
      exact q vs od F _ x2 n2 ea ra upd_same
    · cases e
      exact ⟨d, _, rfl, .inl ⟨⟨o, z⟩, d, o, _, rfl, z, q _ o F H (Ext.refl _ _ _) n ea ra z⟩⟩
theorem lk_at {F1 H1 : Hp} {d : Addr} {vs : List (Key × V)} {od : Obj} {ad1 : List Addr} {F2 H2 : Hp} {ad2 : List Addr} (h : H1 d = some (.frz od (.dK vs))) (x : Ext F1 H1 ad1 F2 H2 ad2) (hd : d ∉ ad1 ∨ F1 d ≠ none) : H2 d = some (.frz od (.dK vs)) := by
  rcases x.keep d _ h hd with z | ⟨_, _, _, z, _⟩
  · exact z
  · cases z
theorem map_get {α : Type} {g : α → DV} {xs : List α} {i : Nat} {x : DV} (h : (xs.map g)[i]? = some x) : ∃ y, xs[i]? = some y ∧ x = g y := by
  rw [List.getElem?_map] at h
  cases q : xs[i]? with
  | none => rw [q] at h; cases h
  | some y => rw [q] at h; exact ⟨y, rfl, (Option.some.inj h).symm⟩
theorem RpKv.get : ∀ {ds : List (PyData × PyData)} {vs : List (Key × V)} {i : Nat} {p : PyData × PyData}, RpKv K F vs ds → ds[i]? = some p → ∃ k v, vs[i]? = some (k, v) ∧ p.1 = keyD k ∧ Rp K F v p.2
  | [], _, _, _, _, e => by simp at e
  | d :: ds, _, 0, x, h, e => by
    cases h with
    | cons r rs => simp at e; subst e; exact ⟨_, _, rfl, rfl, r⟩
  | d :: ds, _, i + 1, x, h, e => by
    cases h with
    | cons r rs =>
      obtain ⟨k, v, h1, h2⟩ := RpKv.get (i := i) rs (by simpa using e)
      exact ⟨k, v, by simpa using h1, h2⟩
theorem rp_key (k : Key) : Rp K F (kV k) (keyD k) := by
  cases k with
  | inl i => exact .int i
  | inr x => exact .str x
theorem itok_items {d : Addr} {vs : List (Key × V)} {od : Obj} {kvs : List (PyData × PyData)} (hF : F d = some (.dK vs)) (hH : H d = some (.frz od (.dK vs))) (r : RpKv K F vs kvs) (hz : kvs.length ≤ sizeLine) :
    ItOk K mg (Iti d od vs) (kvs.map fun p => .d (.tuple [p.1, p.2])) F H ad := by
  have at_ : ∀ {F1 H1 : Hp} {ad1 : List Addr}, Ext F H ad F1 H1 ad1 → H1 d = some (.frz od (.dK vs)) := fun x => lk_at hH x (.inr (by rw [hF]; simp))
  refine ⟨by simpa using hz, fun F1 H1 ad1 st1 i x le R e => ?_, fun F1 H1 ad1 st1 i x le R e v H2 hy => ?_, fun F1 H1 ad1 st1 i le R e => ?_⟩
  · have := (List.getElem?_eq_some_iff.mp e).1
    exact ⟨at_ le, by rw [r.length]; simpa using this⟩
  · obtain ⟨p, ep, rfl⟩ := map_get e
    obtain ⟨k, w, ew, ek, rw'⟩ := r.get ep
    obtain ⟨T, k', v', ew', rfl, hT, rfl⟩ := hy
    rw [ew] at ew'
    cases ew'
    have g := grow_new (o := .tup [kV k, w]) R.fl hT (R.fl.none hT)
    refine ⟨_, g.ext ad1, fun _ _ z => z.grow g, ?_⟩
    rw [ek]
    exact Rp.tup (.no (.inl (.inl upd_same)) (by cases k <;> rfl)) (.cons (rp_key k) (.cons (Rp.le (le.le.trans g.le) _ _ rw') .nil))
  · exact ⟨at_ le, by rw [r.length]; simpa using e⟩
theorem itok_keys {d : Addr} {vs : List (Key × V)} {od : Obj} {kvs : List (PyData × PyData)} (hF : F d = some (.dK vs)) (hH : H d = some (.frz od (.dK vs))) (r : RpKv K F vs kvs) (hz : kvs.length ≤ sizeLine) :
    ItOk K mg (Itk d od vs) (kvs.map fun p => .d p.1) F H ad := by
  have at_ : ∀ {F1 H1 : Hp} {ad1 : List Addr}, Ext F H ad F1 H1 ad1 → H1 d = some (.frz od (.dK vs)) := fun x => lk_at hH x (.inr (by rw [hF]; simp))
  refine ⟨by simpa using hz, fun F1 H1 ad1 st1 i x le R e => ?_, fun F1 H1 ad1 st1 i x le R e v H2 hy => ?_, fun F1 H1 ad1 st1 i le R e => ?_⟩
  · have := (List.getElem?_eq_some_iff.mp e).1
    exact ⟨at_ le, by rw [r.length]; simpa using this⟩
  · obtain ⟨p, ep, rfl⟩ := map_get e
    obtain ⟨k, w, ew, ek, rw'⟩ := r.get ep
    obtain ⟨rfl, k', v', ew', rfl⟩ := hy
    rw [ew] at ew'
    cases ew'
    refine ⟨F1, Ext.refl _ _ _, fun _ _ z => z, ?_⟩
    rw [ek]
    exact rp_key k
  · exact ⟨at_ le, by rw [r.length]; simpa using e⟩
theorem itok_vals {d : Addr} {vs : List (Key × V)} {od : Obj} {kvs : List (PyData × PyData)} (hF : F d = some (.dK vs)) (hH : H d = some (.frz od (.dK vs))) (r : RpKv K F vs kvs) (hz : kvs.length ≤ sizeLine) :
    ItOk K mg (Itd d od vs) (kvs.map fun p => .d p.2) F H ad := by
  have at_ : ∀ {F1 H1 : Hp} {ad1 : List Addr}, Ext F H ad F1 H1 ad1 → H1 d = some (.frz od (.dK vs)) := fun x => lk_at hH x (.inr (by rw [hF]; simp))
  refine ⟨by simpa using hz, fun F1 H1 ad1 st1 i x le R e => ?_, fun F1 H1 ad1 st1 i x le R e v H2 hy => ?_, fun F1 H1 ad1 st1 i le R e => ?_⟩
  · have := (List.getElem?_eq_some_iff.mp e).1
    exact ⟨at_ le, by rw [r.length]; simpa using this⟩
  · obtain ⟨p, ep, rfl⟩ := map_get e
    obtain ⟨k, w, ew, ek, rw'⟩ := r.get ep
    obtain ⟨rfl, k', ew'⟩ := hy
    rw [ew] at ew'
    cases ew'
    exact ⟨F1, Ext.refl _ _ _, fun _ _ z => z, Rp.le le.le _ _ rw'⟩
  · exact ⟨at_ le, by rw [r.length]; simpa using e⟩
variable {elts : List Expr} {kk : Nat} {tpos apos cpos : Pos}
theorem di_items (he : PE X e (tE X.K mg f)) (hbase : attributeBase e "items" X.env (eval e X.env) = eval e X.env := by rfl) (hline : (apos.endLine == cpos.line) = true := by rfl) :
    PI X (.Tuple elts kk tpos) (.Call (.Attribute e "items" apos) [] [] cpos) (tWI X.K mg (iItemsD f)) :=
  pi_weak (pi_items (pe_lock1 he) hbase hline) fun σ H R ⟨F, ad, env, st, P, n, h, k⟩ => by
    refine tE_go n h fun r st1 v F1 ad1 H1 q x n1 d1 => ?_
    match r, q, d1 with
    | .d (.dict kvs), q, d1 =>
      obtain ⟨hz, q⟩ := q
      have d1' : Rp X.K F1 v (.dict kvs) := d1
      obtain ⟨d, rfl⟩ : ∃ d, v = .ref d := by cases d1'; exact ⟨_, rfl⟩
      exact dict_lk n1 d1' fun vs od F' H' x2 n2 a b c => k _ _ _ _ _ _ q (x.trans x2) n2 (itok_items a c b (by rw [← lim_eq]; exact hz))
theorem di_values (he : PE X e (tE X.K mg f)) (hbase : attributeBase e "values" X.env (eval e X.env) = eval e X.env := by rfl) (hline : (apos.endLine == cpos.line) = true := by rfl) :
    PI X tg (.Call (.Attribute e "values" apos) [] [] cpos) (tWI X.K mg (iValsD f)) :=
  pi_weak (pi_values (pe_lock1 he) hbase hline) fun σ H R ⟨F, ad, env, st, P, n, h, k⟩ => by
    refine tE_go n h fun r st1 v F1 ad1 H1 q x n1 d1 => ?_
    match r, q, d1 with
    | .d (.dict kvs), q, d1 =>
      obtain ⟨hz, q⟩ := q
      have d1' : Rp X.K F1 v (.dict kvs) := d1
      obtain ⟨d, rfl⟩ : ∃ d, v = .ref d := by cases d1'; exact ⟨_, rfl⟩
      exact dict_lk n1 d1' fun vs od F' H' x2 n2 a b c => k _ _ _ _ _ _ q (x.trans x2) n2 (itok_vals a c b (by rw [← lim_eq]; exact hz))
theorem di_keys (he : PE X e (tE X.K mg f)) : PI X tg e (tWI X.K mg (iKeysD f)) :=
  pi_weak (pi_keys (pe_lock1 he)) fun σ H R ⟨F, ad, env, st, P, n, h, k⟩ => by
    refine tE_go n h fun r st1 v F1 ad1 H1 q x n1 d1 => ?_
    match r, q, d1 with
    | .d (.dict kvs), q, d1 =>
      obtain ⟨hz, q⟩ := q
      have d1' : Rp X.K F1 v (.dict kvs) := d1
      obtain ⟨d, rfl⟩ : ∃ d, v = .ref d := by cases d1'; exact ⟨_, rfl⟩
      obtain ⟨d', kvs', e1, q⟩ := dict_lk (J := Itk) n1 d1' fun vs od F' H' x2 n2 a b c => k _ _ _ _ _ _ q (x.trans x2) n2 (itok_keys a c b (by rw [← lim_eq]; exact hz))
      refine ⟨d', kvs', e1, ?_⟩
      rcases q with ⟨a, d2, o, k2, z1, z2, z3⟩ | ⟨a, q⟩
      · exact .inl ⟨a, d2, o, z1, .inl ⟨k2, z2, z3⟩⟩
      · refine .inr ⟨a, fun od => ?_⟩
        obtain ⟨d2, o, k2, z1, z2, z3⟩ := q od
        exact ⟨d2, o, z1, .inl ⟨k2, z2, z3⟩⟩
end
end DL
/-! text DLOps5 -/
namespace DL
open PySem PySem.Spec PyProof.Rows L2
/-! ### a def of the text, with its promise -/
structure Has (P : Program) (w : World) (K : PySem.W.Frag) (mg : Str → Option Value) (base : Heap) (k : Nat) (x : Str) (ps : List Str) (sp : SpD) : Prop where
  ex : ∃ f fd, mg x = some (.ref f) ∧ PySem.W.keepIn K (.ref f) = true ∧ Binds K fd ps [] ∧ FnG P w K mg base CX0 k f fd ps (spV K mg ps.length sp)
  ar : ∀ args st P PE, sp args st P PE → args.length = ps.length
theorem Has.mono {P : Program} {w : World} {K : PySem.W.Frag} {mg : Str → Option Value} {base : Heap} {j k : Nat} {x : Str} {ps : List Str} {sp : SpD} (h : Has P w K mg base j x ps sp) (hk : j ≤ k) : Has P w K mg base k x ps sp :=
  ⟨let ⟨f, fd, a, b, c, d⟩ := h.ex; ⟨f, fd, a, b, c, d.mono hk⟩, h.ar⟩
/-- a def as it stands in the written part -/
def Fn1 (K : PySem.W.Frag) (mg : Str → Option Value) (x : Str) (st : Stmt) : Prop := ∃ f fd, mg x = some (.ref f) ∧ Fun K x x st f fd
theorem has_of {P : Program} {w : World} {K : PySem.W.Frag} {mg : Str → Option Value} {base : Heap} {x : Str} {st : Stmt} {N ps : List Str} {k : Nat} {sp : SpD} {body : EK → WS} (h : Fn1 K mg x st) (S : FnScope N ps (defScope st))
    (hb : ∀ (kV doc pm : Value) (an : Option Addr) (cdv ct : Value) (us : List Value), us.length = ps.length → bindArgs (PySem.W.fnOf x x (defArgs st) (defBody st) (defScope st) .none kV doc pm an cdv ct) ⟨us, []⟩ = pure (ps.zip us))
    (ar : ∀ args st P PE, sp args st P PE → args.length = ps.length) (hk : Keeps N.length sp body)
    (hd : ∀ (f : Addr) (cdv : Value) (A : Around) (outer : List PySem.Env) (s : Shared) (H : Hp) (E : XK) (EE : EK), Room1 k (A.deeper (envOfC x (defScope st) s.heap.objs.size f cdv)) →
      PSs (cxOf CX0 P w K mg base N x (defScope st) f cdv A outer s H E).nox (defBody st) (tS K mg (body EE))) : Has P w K mg base (k + 1) x ps sp := by
  obtain ⟨f, fd, hm, Fu⟩ := h
  exact ⟨⟨f, fd, hm, Fu.kp, Fu.binds hb, fn_keep Fu S ar hk (hd f)⟩, ar⟩
/-- a constant of the module -/
def GlobD (K : PySem.W.Frag) (mg : Str → Option Value) (x : Str) (d : PyData) : Prop := ∃ u v, mg x = some u ∧ RelV v u ∧ ∀ F, Rp K F v d
section
variable {X : Cx} {K : PySem.W.Frag} {mg : Str → Option Value} {F H F' H' : Hp} {ad ad' : List Addr} {env : Env} {st : Store} {σ : L2.St} {v : V} {d : PyData} {a b c e tg o i : Expr} {es : List Expr} {f fa fb fc fo fi : WE} {fs : WA} {pos pos' p apos cpos : Pos} {x : Str} {W : List Nat}
theorem de_callH {k : Nat} {ps : List Str} {sp : SpD} {E : EK} (h : Has X.prog X.w X.K X.mg X.base k x ps sp) (hr : Room1 k X.A) (ha : PA X (e :: es) (tA X.K X.mg fs)) (hg : Gl X x := by rfl) (hdb : (x == ("__debug__" : Str)) = false := by decide)
    (he : starEach (e :: es) X.env = (false, eval e X.env) :: starEach es X.env := by rfl) (hpl : (backTo pos (starEach es X.env)).any (·.1) = false := by rfl) : PE X (.Call (.Name x p) (e :: es) [] pos) (tE X.K X.mg (wCall sp E fs)) := by
  obtain ⟨f, fd, hm, hk, hb, G⟩ := h.ex
  have := de_callX (p := p) (dd := []) (dvs := []) (ds := []) (E := E) (EX := fun _ _ _ => True) G hr hm hk h.ar hb .nil (fun _ _ => .nil) (fun _ _ _ _ _ _ _ z => z.elim) (fun _ _ _ _ _ _ _ _ _ _ => trivial) ha hg hdb he hpl
  refine pe_weak this fun σ H Q ⟨F, ad, env, st, P, n, h, k⟩ => ⟨F, ad, env, st, P, n, ?_, k⟩
  unfold wCall at h ⊢
  simpa using h
theorem de_globD (h : GlobD X.K X.mg x d) (hg : Gl X x := by rfl) (hd : (x == ("__debug__" : Str)) = false := by decide) : PE X (.Name x pos) (tE X.K mg (wC d)) := by
  obtain ⟨u, v, hm, r, q⟩ := h
  exact de_c (pe_glob hg hm r hd) q
/-- a op b op' c -/
theorem w_chain {op op' : B2} {σ : L2.St} {H : Hp} {Q : VK} (h : tE K mg (wChain op op' fa fb fc) σ H Q) : tChain (rB K op) (rB K op') (tE K mg fa) (tE K mg fb) (tE K mg fc) σ H Q := by
  obtain ⟨F, ad, env, st, P, n, h, k⟩ := h
  refine tE_go n h fun r1 st1 v1 F1 ad1 H1 p1 x1 n1 d1 => ?_
  refine tE_go n1 p1 fun r2 st2 v2 F2 ad2 H2 p2 x2 n2 d2 => ?_
  obtain ⟨a, ea, p3⟩ := optK_elim p2
  obtain ⟨b, eb, p4⟩ := optK_elim p3
  obtain ⟨c, ec, p5⟩ := optK_elim p4
  obtain ⟨q, eq, p6⟩ := optK_elim p5
  refine ⟨F2, a, b, c, n2.rel.fl, n2.rel.vw (d1.ext x2) ea, n2.rel.vw d2 eb, ec, fun z F' H' g rz => ?_⟩
  have hz : z = .bl q := by
    cases c <;> simp [asB] at eq
    subst eq
    cases rz
    rfl
  have ng := n2.grow g
  refine ⟨q, hz, ?_⟩
  cases q with
  | false => exact k _ _ _ _ _ _ p6 ((x1.trans x2).trans (g.ext ad2)) ng (Rp.bl _)
  | true =>
    refine tE_go ng p6 fun r3 st3 v3 F3 ad3 H3 p7 x3 n3 d3 => ?_
    obtain ⟨b', eb', p8⟩ := optK_elim p7
    obtain ⟨c', ec', p9⟩ := optK_elim p8
    obtain ⟨y, ey, p10⟩ := optK_elim p9
    exact ⟨F3, b', c', y, n3.rel.fl, n3.rel.vw (d2.ext ((g.ext ad2).trans x3)) eb', n3.rel.vw d3 ec', ey, fun z2 F4 H4 g2 rz2 => k _ _ _ _ _ _ p10 ((((x1.trans x2).trans (g.ext ad2)).trans x3).trans (g2.ext ad3)) (n3.grow g2) rz2⟩
theorem de_chain {op op' : CmpOp} {q q' : B2} (ho : OpR X (compareOp op) (rB K q)) (ho' : OpR X (compareOp op') (rB K q')) (ha : PE X a (tE K mg fa)) (hb : PE X b (tE K mg fb)) (hc : PE X c (tE K mg fc))
    (hm : lastMarks [op, op'] [b, c] = false := by with_unfolding_all rfl) : PE X (.Compare a [op, op'] [b, c] pos) (tE K mg (wChain q q' fa fb fc)) :=
  pe_weak (pe_chain ho ho' ha hb hc hm) fun _ _ _ h => w_chain h
theorem dt_chain {op op' : CmpOp} {q q' : B2} (ho : OpR X (compareOp op) (rB K q)) (ho' : OpR X (compareOp op') (rB K q')) (ha : PE X a (tE K mg fa)) (hb : PE X b (tE K mg fb)) (hc : PE X c (tE K mg fc))
    (hm : lastMarks [op, op'] [b, c] = false := by with_unfolding_all rfl) : PT X (.Compare a [op, op'] [b, c] pos) (tT K mg (wT (wChain q q' fa fb fc))) :=
  pt_weak (pt_chain ho ho' ha hb hc hm) fun σ H Q h => by
    obtain ⟨F, ad, env, st, P, n, h, k⟩ := w_t h
    exact w_chain ⟨F, ad, env, st, P, n, h, k⟩
/-- name = [..] -/
theorem ds_setLc {i : Nat} {y : Str} {py spos : Pos} {elt iter : Expr} {ifs : List Expr} {scope : Scope} {own : List (Str × Nat)} {wi : WI} {g : WG} {tt : WT} {te : WE} (hc : X.calm = true) (hN : X.N.Nodup) (hi : PI X tg iter (tWI K mg wi)) (ok : blkC X.N X.env.scope scope own = true)
    (hg : ∀ (s : Shared) (H : Hp) (C : Addr) (cl : List (Str × Addr)) (fp : List Addr), PG (X.blk s H scope (compEnvC scope cl C X.env) fp) tg (tG K mg W g)) (ht : ∀ (s : Shared) (H : Hp) (C : Addr) (cl : List (Str × Addr)) (fp : List Addr), PTs (X.blk s H scope (compEnvC scope cl C X.env) fp) ifs (tT K mg tt))
    (he : ∀ (s : Shared) (H : Hp) (C : Addr) (cl : List (Str × Addr)) (fp : List Addr), PE (X.blk s H scope (compEnvC scope cl C X.env) fp) elt (tE K mg te))
    (hsw : swapsWith (.ListComp elt [⟨tg, iter, ifs, 0⟩] scope pos) (some (.Name y py)) spos.line X.env = pure true) (hy : X.N[i]? = some y := by rfl) (hyl : X.env.scope.names.lookup y = some .local := by rfl)
    (hW : ∀ i ∈ W, i ∈ own.map (·.2) := by decide) (hs : ∀ x, foldedSetIterable iter X.env x = pure x := by intro _; rfl) :
    PS X (.Assign [.Name y py] (.ListComp elt [⟨tg, iter, ifs, 0⟩] scope pos) spos) (tS K mg (wAsg (DL.wLc wi g tt te (own.map (·.2))) (gN i))) :=
  ds_mk (ps_setLc hc hN hy hyl hsw hi (blkOk_by ok) hg ht he hs) fun D σ H F ad env st P n h p => w_lc hW (tE_go n h fun r st1 v F1 ad1 H1 q x n1 d => p.nx _ _ _ _ _ _ q x ⟨n1.rel, n1.env.set d⟩)
/-! ### what is changed -/
theorem rel_write {n : Nat} {ar : Addr} {c c' : Cell} {o' : HO} (N : Now K mg σ F H ad env st) (ha : ad[n]? = some ar) (hc : st[n]? = some c) (hF : F ar = none) (new : CellR K mg F (upd H ar o') ad ar c') :
    Ext F H ad F (upd H ar o') ad ∧ Now K mg σ F (upd H ar o') ad env (st.set n c') := by
  have x : Ext F H ad F (upd H ar o') ad := by
    refine ⟨LeH.refl F, fun _ h => .inl h, ⟨[], by simp, fun _ h => by simp at h⟩, fun b u e hb => ?_, fun b e => ?_⟩
    · have hne : b ≠ ar := by
        intro z
        subst z
        rcases hb with hb | hb
        · exact hb (List.mem_of_getElem? ha)
        · exact hb hF
      rw [upd_ne hne]; exact .inl e
    · by_cases hb : b = ar
      · subst hb; rw [upd_same] at e; cases e
      · rw [upd_ne hb] at e; exact e
  refine ⟨x, ⟨⟨fun b u e => ?_, by simp [N.rel.len], N.rel.nd, fun b h e => N.rel.live b h (x.there b e), fun j b q h1 h2 => ?_⟩, N.env⟩⟩
  · have hne : b ≠ ar := fun z => by rw [z, hF] at e; cases e
    rw [upd_ne hne]; exact N.rel.fl b u e
  · by_cases hj : n = j
    · subst hj
      rw [ha] at h1; cases h1
      have hl : n < st.length := (List.getElem?_eq_some_iff.mp hc).1
      rw [List.getElem?_set_self hl] at h2; cases h2
      exact new
    · rw [List.getElem?_set_ne hj] at h2
      have z := N.rel.cell j b q h1 h2
      have hne : b ≠ ar := fun w => by
        subst w
        exact hj ((List.getElem?_inj (List.getElem?_eq_some_iff.mp ha).1 N.rel.nd).mp (ha.trans h1.symm))
      cases q with
      | lst xs => obtain ⟨z, vs, e, r⟩ := z; exact ⟨z, vs, by rw [upd_ne hne]; exact e, r⟩
      | dct xs => obtain ⟨z, vs, e, r⟩ := z; exact ⟨z, vs, by rw [upd_ne hne]; exact e, r⟩
      | frz y => exact z
      | ins _ _ => trivial
/-! #### list methods -/
def oAppend : Cell → List PyData → Option (PyData × Cell)
  | .lst xs, [y] => if xs.length < lim then some (.none, .lst (xs ++ [y])) else none
  | _, _ => none
def oPop : Cell → List PyData → Option (PyData × Cell)
  | .lst xs, [] => (xs[xs.length - 1]?).map fun y => (y, .lst xs.dropLast)
  | _, _ => none
theorem isL_ty {v : V} {d : PyData} (h : Vw K F H v d) (e : isL d = true) : tyV K "list" v H := by
  cases h <;> try cases e
  rename_i a xs ds e1 r1
  exact .inl ⟨rfl, xs, .inl (.inl e1)⟩
theorem frs1 {vs : List V} {rs : List DV} {y : PyData} (h : DVRs K mg F ad vs rs) (e : DL.frs rs = some [y]) : ∃ w, vs = [w] ∧ Rp K F w y := by
  have q := frs_rp h e
  cases q with
  | cons r rs => cases rs; exact ⟨_, rfl, r⟩
theorem frs0 {vs : List V} {rs : List DV} (h : DVRs K mg F ad vs rs) (e : DL.frs rs = some []) : vs = [] := by
  have q := frs_rp h e
  cases q
  rfl
theorem w_append {σ : L2.St} {H : Hp} {Q : VK} (h : tE K mg (wMtM oAppend fo fs) σ H Q) : tBM K "list" rAppend (tE K mg fo) (tA K mg fs) σ H Q := by
  obtain ⟨F, ad, env, st, P, n, h, k⟩ := h
  refine tE_go n h fun r1 st1 v1 F1 ad1 H1 p1 x1 n1 d1 => ?_
  obtain ⟨a0, e0, ty, p1⟩ := optK_elim p1
  refine ⟨isL_ty (n1.rel.vw d1 e0) ty, F1, ad1, env, st1, _, n1, p1, fun rs st2 vs F2 ad2 H2 p2 x2 n2 d2 => ?_⟩
  match r1, p2, d1 with
  | .loc i, p2, d1 =>
    obtain ⟨ar, ev, ha⟩ := d1
    obtain ⟨c, hc, p3⟩ := optK_elim p2
    obtain ⟨xs, ex, p4⟩ := optK_elim p3
    obtain ⟨q, eq, p5⟩ := optK_elim p4
    have ha2 := x2.adGet ha
    have cr := n2.rel.cell i ar c ha2 hc
    cases c with
    | lst ys =>
      match xs, eq, ex with
      | [y], eq, ex =>
        unfold oAppend at eq
        simp only at eq
        split at eq
        · rename_i hl
          cases eq
          obtain ⟨hF, ws, hH, rw'⟩ := cr
          obtain ⟨w, ew, rp⟩ := frs1 d2 ex
          obtain ⟨x3, n3⟩ := rel_write (o' := .lst (ws ++ [w])) (c' := .lst (ys ++ [y])) n2 ha2 hc hF ⟨hF, _, upd_same, rw'.append (.cons rp .nil)⟩
          exact ⟨ar, ws, w, ev, ew, hH, by rw [rw'.length, ← lim_eq]; exact hl, k _ _ _ _ _ _ p5 ((x1.trans x2).trans x3) n3 Rp.non⟩
        · cases eq
      | [], eq, _ => cases eq
      | _ :: _ :: _, eq, _ => cases eq
    | dct _ => cases eq
    | frz _ => cases eq
    | ins _ _ => cases eq
theorem de_append (ho : PE X o (tE X.K mg fo)) (ha : PA X (e :: es) (tA X.K mg fs))
    (hbase : attributeBase o "append" X.env (eval o X.env) = eval o X.env := by rfl)
    (hfew : ((backTo cpos (starEach (e :: es) X.env)).all (fun x => !x.1) && (backToKw cpos (keywordEach [] X.env)).all (fun x => x.1.isSome)
      && decide ((e :: es).length + ([] : List Keyword).length + (if ([] : List Keyword).isEmpty then 0 else 1) < 30)) = true := by rfl)
    (hline : (apos.endLine == cpos.line) = true := by rfl) (hs : starEach (e :: es) X.env = (false, eval e X.env) :: starEach es X.env := by rfl) (hpl : (backTo cpos (starEach es X.env)).any (·.1) = false := by rfl) :
    PE X (.Call (.Attribute o "append" apos) (e :: es) [] cpos) (tE X.K mg (wMtM oAppend fo fs)) :=
  pe_weak (pe_bm PySem.F.plainAttrs_list PySem.F.slot_list_append PySem.F.type_list_append mt_append ho ha hbase hfew hline hs hpl) fun _ _ _ h => w_append h
end
end DL
/-! text DLOps6 -/
set_option maxHeartbeats 400000
namespace DL
open PySem PySem.Spec PyProof.Rows L2
/-! ### what a thing is -/
def isD (r : DV) (k : PyData → Prop) : Prop := match r with
  | .d x => k x
  | _ => False
def isSt (r : DV) (k : Str → Prop) : Prop := isD r fun x => match x with
  | .str z => k z
  | _ => False
def isDc (r : DV) (k : List (PyData × PyData) → Prop) : Prop := isD r fun x => match x with
  | .dict z => k z
  | _ => False
theorem isD_elim {r : DV} {k : PyData → Prop} (h : isD r k) : ∃ x, r = .d x ∧ k x := by
  cases r with
  | d x => exact ⟨x, rfl, h⟩
  | loc _ => exact h.elim
  | fn _ => exact h.elim
  | scr _ => exact h.elim
theorem isSt_elim {r : DV} {k : Str → Prop} (h : isSt r k) : ∃ x, r = .d (.str x) ∧ k x := by
  obtain ⟨x, rfl, h⟩ := isD_elim h
  cases x with
  | str z => exact ⟨z, rfl, h⟩
  | _ => exact h.elim
theorem isDc_elim {r : DV} {k : List (PyData × PyData) → Prop} (h : isDc r k) : ∃ x, r = .d (.dict x) ∧ k x := by
  obtain ⟨x, rfl, h⟩ := isD_elim h
  cases x with
  | dict z => exact ⟨z, rfl, h⟩
  | _ => exact h.elim
theorem gl_nil (xs : List PyData) (env : Env) (st : Store) (Q : Env → Store → Prop) (h : DL.gNil xs env st Q) : xs.length = 0 := gn_nil xs env st Q h
/-- a target asks nothing of the length but through what is behind -/
theorem gl_last {g : WG} (hg : ∀ v env st Q, g v env st Q → ∃ e s, Q e s) (xs : List PyData) (env : Env) (st : Store) (Q : Env → Store → Prop) (h : DL.gCons g DL.gNil xs env st Q) : xs.length = 1 := by
  cases xs with
  | nil => exact h.elim
  | cons x r =>
    obtain ⟨e, s, h2⟩ := hg _ _ _ _ h
    have := gn_nil r e s Q h2
    simp [this]
section
variable {X : Cx} {K : PySem.W.Frag} {mg : Str → Option Value} {F H F' H' : Hp} {ad ad' : List Addr} {env : Env} {st : Store} {σ : L2.St} {v : V} {d : PyData} {a b c e tg o i : Expr} {es : List Expr} {f fa fb fc fo fi : WE} {fs : WA} {pos pos' p apos cpos : Pos} {x : Str} {W : List Nat}
theorem do_notIn (hu : X.A.units + 300 < cLine) : OpR X (compareOp .NotIn) (rB X.K oNotIn) := by
  intro pins s σ H x y v u Q I rx ry ⟨F, a, b, c0, fl, va, vb, e0, k⟩
  obtain ⟨c, e, hc0⟩ : ∃ c, oIn a b = some c ∧ oNot c = some c0 := by
    unfold oNotIn at e0
    cases q : oIn a b with
    | none => rw [q] at e0; cases e0
    | some c => rw [q] at e0; exact ⟨c, rfl, e0⟩
  have dk : ∀ kvs, b = .dict kvs → isKey a = true → c = .bool (hasK kvs a) → wpAny (model X.prog X.w) X.A (compareOp .NotIn v u) (EP X pins σ Q) X.xe s := by
    intro kvs hb ha hc
    subst hb; subst hc
    cases hc0
    obtain ⟨q, rfl⟩ := isKey_key ha
    cases vb with
    | dct e1 r1 =>
      cases ry
      have hx := vw_key va
      subst hx
      refine d_notIn (o := _) (by omega) I (dget_of e1) rx fun s' I' => ⟨.bl _, H, I', rfl, ?_⟩
      refine k _ F H (Grow.refl fl) ?_
      rw [hasK_of q r1]
      exact .bl _
  have ls : ∀ ys, b = .list ys → okIn a ys = true → c = .bool (ys.any fun z => PyData.eqv z a) → wpAny (model X.prog X.w) X.A (compareOp .NotIn v u) (EP X pins σ Q) X.xe s := by
    intro ys hb ho hc
    subst hb; subst hc
    cases hc0
    have ho' : PyData.plainAll ys = true ∧ a.plain = true ∧ min (PyData.depthAll ys) a.depth ≤ 200 := by simpa [okIn, and_assoc] using ho
    obtain ⟨as, r1⟩ := va.reads I fl ho'.2.1 rx
    obtain ⟨bs, r2⟩ := vb.reads I fl (by simpa [PyData.plain] using ho'.1) ry
    exact SeqAt.notIn_list_data r2 r1 ho'.1 ho'.2.1 (by omega) ⟨.bl _, H, I, rfl, k _ F H (Grow.refl fl) (.bl _)⟩
  have ts : ∀ ys, b = .tuple ys → okIn a ys = true → c = .bool (ys.any fun z => PyData.eqv z a) → wpAny (model X.prog X.w) X.A (compareOp .NotIn v u) (EP X pins σ Q) X.xe s := by
    intro ys hb ho hc
    subst hb; subst hc
    cases hc0
    have ho' : PyData.plainAll ys = true ∧ a.plain = true ∧ min (PyData.depthAll ys) a.depth ≤ 200 := by simpa [okIn, and_assoc] using ho
    obtain ⟨as, r1⟩ := va.reads I fl ho'.2.1 rx
    obtain ⟨bs, r2⟩ := vb.reads I fl (by simpa [PyData.plain] using ho'.1) ry
    exact SeqAt.notIn_tuple_data r2 r1 ho'.1 ho'.2.1 (by omega) ⟨.bl _, H, I, rfl, k _ F H (Grow.refl fl) (.bl _)⟩
  cases b with
  | dict kvs =>
    have : isKey a = true ∧ c = .bool (hasK kvs a) := by
      cases a <;> simp [oIn] at e <;> exact ⟨e.1, e.2.symm⟩
    exact dk kvs rfl this.1 this.2
  | list ys =>
    have : okIn a ys = true ∧ c = .bool (ys.any fun z => PyData.eqv z a) := by
      cases a <;> simp [oIn] at e <;> exact ⟨e.1, e.2.symm⟩
    exact ls ys rfl this.1 this.2
  | tuple ys =>
    have : okIn a ys = true ∧ c = .bool (ys.any fun z => PyData.eqv z a) := by
      cases a <;> simp [oIn] at e <;> exact ⟨e.1, e.2.symm⟩
    exact ts ys rfl this.1 this.2
  | str t =>
    cases a <;> simp [oIn] at e
    subst e
    cases hc0
    exact L2.op_notIn_str pins s σ H x y v u Q I rx ry ⟨_, _, vw_str va, vw_str vb, k _ F H (Grow.refl fl) (.bl _)⟩
  | none => cases a <;> simp [oIn] at e
  | bool _ => cases a <;> simp [oIn] at e
  | int _ => cases a <;> simp [oIn] at e
/-! ### o[i] = v -/
theorem RpKv.any (q : Key) : ∀ {kvs : List (Key × V)} {ds : List (PyData × PyData)}, RpKv K F kvs ds → (ds.any fun p => keyEq p.1 (keyD q)) = kvs.any fun kv => decide (kv.1 = q)
  | _, [], h => by cases h; rfl
  | _, _ :: ds, h => by
    cases h with
    | cons r rs =>
      rw [List.any_cons, List.any_cons, RpKv.any q rs, keyEq_iff]
theorem RpKv.repl (q : Key) {x : PyData} (rx : Rp K F v x) : ∀ {kvs : List (Key × V)} {ds : List (PyData × PyData)}, RpKv K F kvs ds →
    RpKv K F (kvs.map fun kv => if kv.1 = q then (kv.1, v) else kv) (ds.map fun p => if keyEq p.1 (keyD q) = true then (p.1, x) else p)
  | _, [], h => by cases h; exact .nil
  | _, _ :: ds, h => by
    cases h with
    | cons r rs =>
      rename_i k w t e
      rw [List.map_cons, List.map_cons]
      simp only [keyEq_iff]
      by_cases hk : k = q
      · simp only [hk, decide_true, if_true]
        exact .cons rx (by simpa only [keyEq_iff] using RpKv.repl q rx rs)
      · simp only [hk, decide_false, if_false]
        exact .cons r (by simpa only [keyEq_iff] using RpKv.repl q rx rs)
theorem RpKv.append : ∀ {kvs kvs' : List (Key × V)} {ds ds' : List (PyData × PyData)}, RpKv K F kvs ds → RpKv K F kvs' ds' → RpKv K F (kvs ++ kvs') (ds ++ ds')
  | _, _, [], _, h, g => by cases h; exact g
  | _, _, _ :: _, _, h, g => by
    cases h with
    | cons r rs => exact .cons r (RpKv.append rs g)
theorem RpKv.put (q : Key) {x : PyData} (rx : Rp K F v x) {kvs : List (Key × V)} {ds : List (PyData × PyData)} (h : RpKv K F kvs ds) : RpKv K F (L2.putK kvs q v) (DL.putK ds (keyD q) x) := by
  unfold L2.putK DL.putK
  rw [h.any q]
  by_cases e : (kvs.any fun kv => decide (kv.1 = q)) = true
  · rw [if_pos e, if_pos e]
    exact h.repl q rx
  · rw [if_neg e, if_neg e]
    exact h.append (.cons rx .nil)
theorem do_set (hu : X.A.units + 1 < cLine) : PSet X (fun o i v H Q => rSetL o i v H Q ∨ rSetD o i v H Q) := by
  intro pins s σ H o i v ov iv u Q I ro ri rv h
  rcases h with h | h
  · exact set_list pins s σ H o i v ov iv u Q I ro ri rv h
  · exact set_dict hu pins s σ H o i v ov iv u Q I ro ri rv h
theorem dg_sub (hu : X.A.units + 300 < cLine) (ho : PE X o (tE K mg fo)) (hi : PE X i (tE K mg fi))
    (ha : ∀ v, assign (.Subscript o i pos) X.env v = (do
      let ov ← holding [v] (eval o X.env)
      let iv ← holding [v, ov] (eval i X.env)
      standAt pos
      holding [v, ov, iv] (setItem ov iv v)
      release [v, ov, iv] []) := by intro _; rfl) : PG X (.Subscript o i pos) (tG K mg [] (DL.gSub fo fi)) :=
  pg_weak (pg_sub ho hi (do_set (by omega)) ha) fun v σ H Q ⟨F, ad, env, st, r, P, n, d, h, k⟩ => by
    unfold DL.gSub at h
    refine tE_go n h fun r1 st1 v1 F1 ad1 H1 q x n1 d1 => ?_
    refine tE_go n1 q fun r2 st2 v2 F2 ad2 H2 q2 x2 n2 d2 => ?_
    match r, d, q2 with
    | .d y, d, q2 =>
      obtain ⟨kk, ek, q3⟩ := optK_elim q2
      obtain ⟨st3, es, q4⟩ := optK_elim q3
      have dy : Rp K F2 v y := Rp.le (x.trans x2).le _ _ d
      match r1, d1, es with
      | .loc m, d1, es =>
        obtain ⟨ar, rfl, har⟩ := d1
        have ha2 := x2.adGet har
        have vk := n2.rel.vw d2 ek
        unfold setAt at es
        cases hc : st2[m]? with
        | none => simp [hc] at es
        | some cc =>
          have cr := n2.rel.cell m ar cc ha2 hc
          cases cc with
          | lst xs =>
            cases kk <;> simp [hc] at es
            rename_i jj _
            obtain ⟨j, ej, rfl⟩ := es
            obtain ⟨hF, ws, hH, rw'⟩ := cr
            obtain ⟨x3, n3⟩ := rel_write (o' := .lst (ws.set j v)) (c' := .lst (xs.set j y)) n2 ha2 hc hF ⟨hF, _, upd_same, rw'.set dy j⟩
            exact .inl ⟨ar, ws, jj, j, rfl, vw_int vk, hH, by rw [rw'.length]; exact ej, k _ _ _ _ _ _ q4 ((x.trans x2).trans x3) n3 (Only.refl _)⟩
          | dct kvs =>
            have es' : isKey kk = true ∧ kvs.length < lim ∧ st3 = st2.set m (.dct (DL.putK kvs kk y)) := by
              cases kk <;> simp [hc, isKey] at es <;> exact ⟨rfl, es.1, es.2.symm⟩
            obtain ⟨e1, e2, rfl⟩ := es'
            obtain ⟨q, rfl⟩ := isKey_key e1
            have hv2 := vw_key vk
            subst hv2
            obtain ⟨hF, ws, hH, rw'⟩ := cr
            obtain ⟨x3, n3⟩ := rel_write (o' := .dK (L2.putK ws q v)) (c' := .dct (DL.putK kvs (keyD q) y)) n2 ha2 hc hF ⟨hF, _, upd_same, rw'.put q dy⟩
            exact .inr ⟨ar, _, rfl, .inl ⟨ws, q, hH, rfl, by rw [rw'.length, ← lim_eq]; exact e2, rfl⟩, k _ _ _ _ _ _ q4 ((x.trans x2).trans x3) n3 (Only.refl _)⟩
          | frz z => cases kk <;> simp [hc] at es
          | ins z w => cases kk <;> simp [hc] at es
      | .d _, _, es => cases es
      | .fn _, _, es => cases es
      | .scr _, _, es => cases es
    | .loc _, _, q2 => exact q2.elim
    | .fn _, _, q2 => exact q2.elim
    | .scr _, _, q2 => exact q2.elim
/-! ### dicts -/
def wDct0 : WE := fun _ st Q => Q (.d (.dict [])) st
theorem de_dct0 {pos} : PE X (.Dict [] [] pos) (tE K mg wDct0) :=
  pe_weak pe_dnewK fun σ H Q ⟨F, ad, env, st, P, n, h, k⟩ => by
    intro p hp
    have g := grow_new (o := .dK []) n.rel.fl hp (n.rel.fl.none hp)
    exact k _ st _ _ ad _ h (g.ext ad) (n.grow g) (Rp.dct upd_same .nil)
abbrev WPs := Env → Store → (List (PyData × PyData) → Store → Prop) → Prop
def wPN : WPs := fun _ st Q => Q [] st
def wPC (fa fb : WE) (fr : WPs) : WPs := fun env st Q => fa env st fun r1 st1 => fb env st1 fun r2 st2 => fr env st2 fun ps st3 => match r1 with
  | .d k => (match r2 with
    | .d x => isKey k = true ∧ Q ((k, x) :: ps) st3
    | _ => False)
  | _ => False
def putsK (acc : List (PyData × PyData)) (ps : List (PyData × PyData)) : List (PyData × PyData) := ps.foldl (fun a p => DL.putK a p.1 p.2) acc
def wDisp (fp : WPs) : WE := fun env st Q => fp env st fun ps st1 => ps.length ≤ 15 ∧ Q (.d (.dict (putsK [] ps))) st1
inductive RpPs (K : PySem.W.Frag) (F : Hp) : List (V × V) → List (PyData × PyData) → Prop
  | nil : RpPs K F [] []
  | cons {v w : V} {vs : List (V × V)} {k x : PyData} {ds : List (PyData × PyData)} : Rp K F v k → isKey k = true → Rp K F w x → RpPs K F vs ds → RpPs K F ((v, w) :: vs) ((k, x) :: ds)
def tPs (K : PySem.W.Frag) (mg : Str → Option Value) (f : WPs) (σ : L2.St) (H : Hp) (Q : List (V × V) → Hp → Prop) : Prop := ∃ F ad env st P, Now K mg σ F H ad env st ∧ f env st P ∧
  ∀ ps st' vs F' ad' H', P ps st' → Ext F H ad F' H' ad' → Now K mg σ F' H' ad' env st' → RpPs K F' vs ps → Q vs H'
def DPs (X : Cx) (K : PySem.W.Frag) (mg : Str → Option Value) (pos : Pos) (ks : List (Option Expr)) (vs : List Expr) (f : WPs) : Prop := ∃ trs, PPs X pos ks vs trs ∧ ∀ σ H Q, tPs K mg f σ H Q → tPairs trs σ H Q
theorem dpp_nil : DPs X K mg pos [] [] wPN := ⟨[], pps_nil, fun σ H Q ⟨F, ad, env, st, P, n, h, k⟩ => k [] st [] F ad H h (Ext.refl _ _ _) n .nil⟩
theorem dpp_cons {ks : List (Option Expr)} {vs : List Expr} {fr : WPs} (ha : PE X a (tE K mg fa)) (hb : PE X b (tE K mg fb)) (hr : DPs X K mg pos ks vs fr) : DPs X K mg pos (some a :: ks) (b :: vs) (wPC fa fb fr) := by
  obtain ⟨trs, h1, h2⟩ := hr
  refine ⟨_, pps_cons ha hb h1, fun σ H Q ⟨F, ad, env, st, P, n, h, k⟩ => ?_⟩
  refine tE_go n h fun r1 st1 v1 F1 ad1 H1 q1 x1 n1 d1 => ?_
  refine tE_go n1 q1 fun r2 st2 v2 F2 ad2 H2 q2 x2 n2 d2 => ?_
  refine h2 _ _ _ ⟨F2, ad2, env, st2, _, n2, q2, fun ps st3 vs F3 ad3 H3 q3 x3 n3 r3 => ?_⟩
  cases r1 with
  | d y1 =>
    cases r2 with
    | d y2 => exact k _ _ _ _ _ _ q3.2 ((x1.trans x2).trans x3) n3 (.cons (Rp.le (x2.trans x3).le _ _ d1) q3.1 (Rp.le x3.le _ _ d2) r3)
    | loc _ => exact q3.elim
    | fn _ => exact q3.elim
    | scr _ => exact q3.elim
  | loc _ => exact q3.elim
  | fn _ => exact q3.elim
  | scr _ => exact q3.elim
theorem RpPs.keys : ∀ {vs : List (V × V)} {ds : List (PyData × PyData)}, RpPs K F vs ds → ∃ kvs : List (Key × V), vs = kvs.map (fun kv => (kV kv.1, kv.2)) ∧ RpKv K F kvs ds
  | [], _, h => by cases h; exact ⟨[], rfl, .nil⟩
  | _ :: vs, _, h => by
    cases h with
    | cons r hk w rs =>
      obtain ⟨kvs, e, q⟩ := RpPs.keys rs
      obtain ⟨kk, rfl⟩ := isKey_key hk
      refine ⟨(kk, _) :: kvs, ?_, .cons w q⟩
      rw [List.map_cons, ← e]
      have : kV kk = _ := (vw_key (H := F) (Rp.vw (fun a u z => .inl z) r)).symm
      simp only [this]
theorem RpKv.merge : ∀ {more : List (Key × V)} {ms : List (PyData × PyData)} {kvs : List (Key × V)} {ds : List (PyData × PyData)}, RpKv K F more ms → RpKv K F kvs ds → RpKv K F (mergeK kvs more) (putsK ds ms)
  | [], _, _, _, h, g => by cases h; exact g
  | _ :: more, _, _, _, h, g => by
    cases h with
    | cons r rs =>
      rename_i kk vv ee rr
      have z := RpKv.merge rs (g.put kk r)
      exact z
theorem de_disp {ks : List (Option Expr)} {vs : List Expr} {fp : WPs} (h : DPs X K mg pos ks vs fp) (hall : ks.all (·.isSome) = true := by rfl) (hl : ks.length = vs.length := by rfl) (h0 : ks ≠ [] := by exact fun z => nomatch z) (h15 : ks.length ≤ 15 := by decide) : PE X (.Dict ks vs pos) (tE K mg (wDisp fp)) := by
  obtain ⟨trs, h1, h2⟩ := h
  refine pe_weak (pe_disp h1 hall hl h0 h15) fun σ H Q ⟨F, ad, env, st, P, n, h, k⟩ => ?_
  intro p hp
  have dn : p ∉ ad := fun z => n.rel.live p z hp
  have fn := n.rel.fl.none hp
  refine h2 _ _ _ ⟨F, ad, env, st, _, upd_apart n dn fn, h, fun ps st1 vs F1 ad1 H1 q x n1 r1 => ?_⟩
  obtain ⟨a1, b1, c1⟩ := apart_ext x dn fn upd_same
  obtain ⟨kvs, ek, rk⟩ := r1.keys
  refine ⟨c1, kvs, ek, by rw [rk.length]; exact q.1, ?_⟩
  have rm := RpKv.merge rk (kvs := []) .nil
  have x0 : Ext F H ad F1 H1 ad1 := ⟨x.le, fun z hz => (x.new z hz).elim .inl fun w => w.elim (fun w => by
      by_cases hzp : z = p
      · subst hzp; exact .inr (.inl hp)
      · rw [upd_ne hzp] at w; exact .inr (.inl w)) (fun w => .inr (.inr w)),
    let ⟨m, e, f⟩ := x.app; ⟨m, e, fun z hz => by
      have := f z hz
      by_cases hzp : z = p
      · subst hzp; exact hp
      · rw [upd_ne hzp] at this; exact this⟩,
    fun z o e hz => x.keep z o (by rw [upd_ne (ne_of_none e hp)]; exact e) hz, fun z e => by
      have := x.there z e
      by_cases hzp : z = p
      · subst hzp; exact hp
      · rw [upd_ne hzp] at this; exact this⟩
  have le : LeH F1 (upd F1 p (.dK (mergeK [] kvs))) := fun b u eb => by rw [upd_ne (ne_of_none eb b1)]; exact eb
  have x1 : Ext F H ad (upd F1 p (.dK (mergeK [] kvs))) (upd H1 p (.dK (mergeK [] kvs))) ad1 := by
    refine ⟨x0.le.trans le, fun z hz => ?_, x0.app, fun z o e hz => ?_, fun z e => ?_⟩
    · by_cases hzp : z = p
      · subst hzp; exact .inr (.inl hp)
      · rw [upd_ne hzp] at hz; exact x0.new z hz
    · rw [upd_ne (ne_of_none e hp)]; exact x0.keep z o e hz
    · by_cases hzp : z = p
      · subst hzp; exact hp
      · rw [upd_ne hzp] at e; exact x0.there z e
  refine k _ _ _ _ _ _ q.2 x1 ⟨⟨fun z u e => ?_, n1.rel.len, n1.rel.nd, fun z hz e => ?_, fun j z c h1 h2 => ?_⟩, n.env.ext x1⟩ (Rp.dct upd_same (RpKv.le le _ _ rm))
  · by_cases hzp : z = p
    · subst hzp; rw [upd_same] at e; rw [upd_same]; exact .inl e
    · rw [upd_ne hzp] at e; rw [upd_ne hzp]; exact n1.rel.fl z u e
  · have hzp : z ≠ p := fun w => a1 (w ▸ hz)
    rw [upd_ne hzp] at e; exact n1.rel.live z hz e
  · have hzp : z ≠ p := fun w => a1 (w ▸ List.mem_of_getElem? h1)
    have w := n1.rel.cell j z c h1 h2
    cases c with
    | lst xs => obtain ⟨y, vs, e, r⟩ := w; exact ⟨by rw [upd_ne hzp]; exact y, vs, by rw [upd_ne hzp]; exact e, RpAll.le le _ _ r⟩
    | dct xs => obtain ⟨y, vs, e, r⟩ := w; exact ⟨by rw [upd_ne hzp]; exact y, vs, by rw [upd_ne hzp]; exact e, RpKv.le le _ _ r⟩
    | frz y => exact Rp.le le _ _ w
    | ins _ _ => trivial
end
end DL
/-! text DLOps8 -/
namespace DL
open PySem PySem.Spec PyProof.Rows L2
section
variable {X : Cx} {K : PySem.W.Frag} {mg : Str → Option Value} {F H F' H' : Hp} {ad ad' : List Addr} {env : Env} {st : Store} {σ : L2.St} {v : V} {d : PyData} {a b c e tg o i : Expr} {es : List Expr} {f fa fb fc fo fi : WE} {fs : WA} {pos pos' p apos cpos : Pos} {x : Str} {W : List Nat}
/-! ### methods of texts -/
def wMs (op : Str → PyData → Option PyData) (fa fb : WE) : WE := fun env st Q => fa env st fun r st1 => isSt r fun z => fb env st1 fun q st2 => isD q fun y => optK (op z y) fun c => Q (.d c) st2
def oSplit : Str → PyData → Option PyData
  | z, .str y => if (y.length == 0) = false ∧ z.length + 2 ≤ lim then some (.list ((Txt.split z y).map .str)) else none
  | _, _ => none
def oRindex : Str → PyData → Option PyData
  | z, .str y => (Builtin.Str.lastOccurrence z y 0 z.length).map fun k => .int (k : Nat)
  | _, _ => none
def rMs (K : PySem.W.Frag) (op : Str → PyData → Option PyData) : V → List V → Hp → VK → Prop := fun x xs H Q => ∃ F z y c u, x = .str z ∧ xs = [u] ∧ FLe F H ∧ Rp K F u y ∧ op z y = some c ∧ ∀ z F' H', Grow F H F' H' → Rp K F' z c → Q z H'
theorem rpAll_strs (ys : List Str) : RpAll K F (ys.map V.str) (ys.map PyData.str) := by
  induction ys with
  | nil => exact .nil
  | cons n ns ih => exact .cons (.str n) ih
theorem dm_split : MtR X "str.split" (rMs X.K oSplit) := by
  intro pins s σ H x xs v us Q I rx rs ⟨F, z, y, c, u, ex, exs, fl, ru, e, k⟩
  cases y <;> try cases e
  rename_i y
  unfold oSplit at e
  simp only at e
  split at e
  · rename_i hh
    cases e
    cases ru
    refine mt_split pins s σ H x xs v us Q I rx rs ⟨z, y, ex, exs, hh.1, by rw [← lim_eq]; exact hh.2, fun p hp => ?_⟩
    have g := fun l => grow_new (o := .lst l) fl hp (fl.none hp)
    exact k _ _ _ (g _) (.lst upd_same (rpAll_strs _))
  · cases e
theorem dm_rindex : MtR X "str.rindex" (rMs X.K oRindex) := by
  intro pins s σ H x xs v us Q I rx rs ⟨F, z, y, c, u, ex, exs, fl, ru, e, k⟩
  cases y <;> try cases e
  rename_i y
  cases ru
  subst ex; subst exs
  cases q : Builtin.Str.lastOccurrence z y 0 z.length with
  | none =>
    have e2 : (Builtin.Str.lastOccurrence z y 0 z.length).map (fun k => PyData.int (k : Nat)) = some c := e
    rw [q] at e2; cases e2
  | some j =>
    have e2 : (Builtin.Str.lastOccurrence z y 0 z.length).map (fun k => PyData.int (k : Nat)) = some c := e
    rw [q] at e2; cases e2
    obtain ⟨t, rfl⟩ := rx
    cases rs with
    | cons r1 rs =>
      cases rs
      obtain ⟨w, rfl⟩ := r1
      exact call_gives PySem.F.slot_str_rindex (typeIs_str _ _ _) PySem.F.entry_str_rindex (PySem.F.args_str_rindex_2 _ _) (gives_str_rindex z y t w j q) ⟨.int (j : Nat), H, I.tok _, ⟨_, rfl⟩, k _ F H (Grow.refl fl) (.int _)⟩
theorem w_ms {op : Str → PyData → Option PyData} {σ : L2.St} {H : Hp} {Q : VK} (h : tE K mg (wMs op fa fb) σ H Q) : tM1 (rMs K op) (tE K mg fa) (tE K mg fb) σ H Q := by
  obtain ⟨F, ad, env, st, P, n, h, k⟩ := h
  refine tE_go n h fun r1 st1 v1 F1 ad1 H1 q x n1 d1 => ?_
  obtain ⟨z, rfl, q⟩ := isSt_elim q
  have d1' : Rp K F1 v1 (.str z) := d1
  cases d1'
  refine ⟨⟨z, rfl⟩, ?_⟩
  refine tE_go n1 q fun r2 st2 v2 F2 ad2 H2 q2 x2 n2 d2 => ?_
  obtain ⟨y, rfl, q2⟩ := isD_elim q2
  obtain ⟨c, ec, q3⟩ := optK_elim q2
  exact ⟨F2, z, y, c, v2, rfl, rfl, n2.rel.fl, d2, ec, fun w F' H' g r => k _ _ _ _ _ _ q3 ((x.trans x2).trans (g.ext ad2)) (n2.grow g) r⟩
theorem de_split (ho : PE X o (tE X.K mg fo)) (ha : PE X a (tE X.K mg fa)) (hs : starEach [a] X.env = [(false, eval a X.env)] := by rfl) (hbase : attributeBase o "split" X.env (eval o X.env) = eval o X.env := by rfl) (hline : (apos.endLine == pos.line) = true := by rfl) :
    PE X (.Call (.Attribute o "split" apos) [a] [] pos) (tE X.K mg (wMs oSplit fo fa)) :=
  pe_weak (pe_m1 PySem.F.slot_str_split PySem.F.type_str_split dm_split ho ha hs hbase hline) fun _ _ _ h => w_ms h
theorem de_rindex (ho : PE X o (tE X.K mg fo)) (ha : PE X a (tE X.K mg fa)) (hs : starEach [a] X.env = [(false, eval a X.env)] := by rfl) (hbase : attributeBase o "rindex" X.env (eval o X.env) = eval o X.env := by rfl) (hline : (apos.endLine == pos.line) = true := by rfl) :
    PE X (.Call (.Attribute o "rindex" apos) [a] [] pos) (tE X.K mg (wMs oRindex fo fa)) :=
  pe_weak (pe_m1 PySem.F.slot_str_rindex PySem.F.type_str_rindex dm_rindex ho ha hs hbase hline) fun _ _ _ h => w_ms h
end
end DL
/-! text DLStar -/
namespace PySem
open Builtin
section
variable {prog : Program} {w : World} {K : Type} [DecidableEq K] {knd : KeyKind prog w K} {A : Around} {E : Value → Shared → Prop} {s : Shared}
theorem dl_dictPut {d : Addr} {kvs : List (K × Value)} {k : K} {key v : Value} {Q : Unit → Shared → Prop} (hkey : knd.is k key = true) (hm : s.heap.DictOf knd d kvs)
    (hQ : ∀ h', h'.DictOf knd d (stored kvs k v) → Heap.SameBut d s.heap h' → Q () { s with heap := h' })
    (hsz : kvs.length ≤ sizeLine) :
    wpAny (model prog w) A (dictPut d (knd.hash k) key v) Q E s := by
  obtain ⟨o, es, ep, ho, hc, hd, hk, hp, hn⟩ := hm
  have hes : es.size ≤ sizeLine := by
    have e1 := hp.length
    have e2 : es.toList.length = es.size := by simp
    omega
  unfold dictPut
  refine wpAny_bind (wpAny_dictFind_of hkey ho hd hk ?_)
  have hidx : (es.findIdx? fun e => knd.is k e.key) = kvs.findIdx? fun kv => decide (kv.1 = k) := by
    rw [← hp.findIdx k]; obtain ⟨l⟩ := es; simp
  cases hi : es.findIdx? fun e => knd.is k e.key with
  | some i =>
    refine wpAny_updateDict ho hd (hQ _ ⟨_, _, ep, Heap.get?_update_self _ ho (Obj.isFreed_of_dict (Obj.data_mapDict hd _)),
      hc.mapDict _, Obj.data_mapDict hd _, hk.modify _ _, ?_, ?_⟩ (Heap.SameBut.update ..))
    · rw [stored, if_pos (any_of_findIdx_some (hidx ▸ hi))]
      have hl : (es.toList.findIdx? fun e => knd.is k e.key) = some i := by rw [← hi]; obtain ⟨l⟩ := es; simp
      have := hp.modify hn hl v
      obtain ⟨l⟩ := es
      simpa using this
    · rw [stored, if_pos (any_of_findIdx_some (hidx ▸ hi)), keys_map_store]; exact hn
  | none =>
    have hnot : k ∉ kvs.map (·.1) := not_mem_of_findIdx_none (hidx ▸ hi)
    have hany : ¬ (kvs.any fun kv => decide (kv.1 = k)) = true := by
      rw [List.any_eq_true]; rintro ⟨kv, hkv, he⟩
      exact hnot (List.mem_map.mpr ⟨kv, hkv, of_decide_eq_true he⟩)
    refine wpAny_updateDictKeys (hz := hes) ho hd (hQ _ ⟨_, _, ep + 1, Heap.get?_update_self _ ho (Obj.isFreed_of_dict (Obj.data_mapDictKeys hd _)),
      hc.mapDictKeys _, Obj.data_mapDictKeys hd _, hk.push hkey _, ?_, ?_⟩ (Heap.SameBut.update ..))
    · rw [stored, if_neg hany]
      have := hp.append hkey (knd.hash k) v
      obtain ⟨l⟩ := es
      simpa using this
    · rw [stored, if_neg hany, List.map_append, List.nodup_append]
      refine ⟨hn, by simp, ?_⟩
      intro a ha b hb
      simp only [List.map_cons, List.map_nil, List.mem_singleton] at hb
      subst hb
      exact fun e => hnot (e ▸ ha)
theorem dl_merge {d o : Addr} {kvs more : List (K × Value)} {Q : Unit → Shared → Prop} (hnr : ∀ k v, knd.is k v = true → ∀ a, v ≠ .ref a) (hdo : d ≠ o) (hoS : (o == sysModules) = false)
    (hd : s.heap.DictOf knd d kvs) (ho : s.heap.DictOf knd o more)
    (hQ : ∀ h', h'.DictOf knd d (merged kvs more) → Heap.SameBut d s.heap h' → Q () { s with heap := h' })
    (hsz : kvs.length + more.length ≤ sizeLine) :
    wpAny (model prog w) A (mergeMapping d (.ref o) false) Q E s := by
  obtain ⟨od, esd, epd, hod, hcd, hdd, hkd, hpd, hnd⟩ := id hd
  obtain ⟨oo, eso, epo, hoo, hco, hdo', hko, hpo, hno⟩ := id ho
  have hlen : more.length = eso.size := by rw [← hpo.length]; simp
  unfold mergeMapping
  refine wpAny_bind (wpAny_isInstance ho.typeIs isSubtype_dict_dict ?_)
  dsimp only
  rw [if_pos rfl]
  refine wpAny_bind (wpAny_specialOf ho.typeIs F.slot_dict_iter.lookup ?_)
  rw [beq_self_eq_true]
  refine wpAny_bind (wpAny_pure ?_)
  dsimp only
  rw [if_neg (by rw [hoS]; exact Bool.false_ne_true)]
  have loop : wpAny (model prog w) A (do
      let l ← dictEntries o
      let epoch ← dictEpoch o
      forIn (List.range l.size) PUnit.unit fun i (_ : PUnit) => (do
          let l' ← dictEntries o
          match l'[i]? with
            | some e => do
              holding [e.key, e.val] (dictPut d e.hash e.key e.val)
              let ep' ← dictEpoch o
              if (ep' != epoch) = true then do
                  (unsupported "dict.changed-during-merge" : Sem PUnit)
                  pure (ForInStep.yield PUnit.unit)
                else pure (ForInStep.yield PUnit.unit)
            | _ => do
              (unsupported "dict.changed-during-merge" : Sem PUnit)
              pure (ForInStep.yield PUnit.unit) : Sem (ForInStep PUnit))
      pure ()) Q E s := by
    refine wpAny_bind (wpAny_dictEntries hoo hdo' ?_)
    refine wpAny_bind (wpAny_dictEpoch hoo hdo' ?_)
    refine wpAny_bind ?_
    rw [List.range_eq_range']
    refine wpAny_forIn_list _
      (fun rest _ s' => ∃ h' i, s' = { s with heap := h' } ∧ rest = List.range' i (eso.size - i) ∧ i ≤ eso.size ∧ h'.DictOf knd d (merged kvs (more.take i)) ∧ h'.get? o = some oo ∧ Heap.SameBut d s.heap h')
      _ ?_ ?_ _ _ ⟨s.heap, 0, rfl, by simp, Nat.zero_le _, by simpa [merged] using hd, hoo, Heap.SameBut.refl _ _⟩
    · rintro x rest b s' ⟨h', i, rfl, hr, hi, hd', hoo', hs'⟩
      have hlt : i < eso.size := by
        rcases Nat.lt_or_ge i eso.size with h | h
        · exact h
        · rw [Nat.sub_eq_zero_of_le h] at hr; simp at hr
      obtain ⟨rfl, hrest⟩ : x = i ∧ rest = List.range' (i + 1) (eso.size - (i + 1)) := by
        have e : eso.size - i = (eso.size - (i + 1)) + 1 := by omega
        rw [e, List.range'_succ] at hr
        injection hr with h1 h2
        exact ⟨h1, h2⟩
      refine wpAny_bind (wpAny_dictEntries hoo' hdo' ?_)
      rw [Array.getElem?_eq_getElem hlt]
      obtain ⟨kv, hkv⟩ : ∃ kv, more[x]? = some kv := ⟨more[x]'(by rw [hlen]; exact hlt), List.getElem?_eq_getElem _⟩
      obtain ⟨k, v⟩ := kv
      obtain ⟨hkey, hval⟩ := hpo.get? (e := eso[x]) (by simp [hlt]) hkv
      obtain ⟨k', hkey', hhash⟩ := hko eso[x] (Array.getElem_mem hlt)
      obtain rfl : k' = k := knd.inj _ _ _ hkey' hkey
      show wpAny _ _ (holding [eso[x].key, eso[x].val] (dictPut d eso[x].hash eso[x].key eso[x].val) >>= _) _ _ _
      rw [hhash, hval]
      have hmx : (merged kvs (more.take x)).length ≤ sizeLine := by
        have e1 := merged_length_le kvs (more.take x)
        have e2 : (more.take x).length ≤ more.length := by rw [List.length_take]; omega
        omega
      refine wpAny_bind (wpAny_holding (dl_dictPut (hsz := hmx) hkey hd' fun h'' hd'' hs'' => ?_))
      have hoo'' : h''.get? o = some oo := (hs''.2 o (Ne.symm hdo)).trans hoo'
      refine wpAny_bind (wpAny_dictEpoch hoo'' hdo' ?_)
      rw [if_neg (by simp)]
      exact wpAny_pure ⟨h'', x + 1, rfl, hrest, hlt, by rw [merged_take_succ kvs more x (k', v) hkv]; exact hd'', hoo'', hs'.trans hs''⟩
    · rintro b s' ⟨h', i, rfl, hr, hi, hd', hoo', hs'⟩
      have hin : i = eso.size := by
        rcases Nat.lt_or_ge i eso.size with h | h
        · have e : eso.size - i = (eso.size - (i + 1)) + 1 := by omega
          rw [e, List.range'_succ] at hr; exact nomatch hr
        · exact Nat.le_antisymm hi h
      refine wpAny_pure (hQ h' ?_ hs')
      rw [hin, ← hlen, List.take_length] at hd'; exact hd'
  refine wpAny_bind (wpAny_dictEntries hod hdd ?_)
  split
  · refine wpAny_bind (wpAny_dictEntries hoo hdo' ?_)
    refine wpAny_bind ?_
    rw [← Array.forIn_toList]
    refine wpAny_forIn_list _ (fun rest _ s' => s' = s ∧ ∀ e ∈ rest, e ∈ eso.toList) _ ?_ ?_ _ _ ⟨rfl, fun _ z => z⟩
    · rintro x rest b s' ⟨rfl, hr⟩
      obtain ⟨k', hkey', _⟩ := hko x (Array.mem_toList_iff.mp (hr x (List.mem_cons_self ..)))
      have hn := hnr _ _ hkey'
      cases q : x.key with
      | ref a => exact absurd q (hn a)
      | _ => exact wpAny_pure ⟨rfl, fun e he => hr e (List.mem_cons_of_mem _ he)⟩
    · rintro b s' ⟨rfl, _⟩
      exact loop
  · exact loop
end
end PySem
/-! text DLStar2 -/
namespace DL
open PySem PySem.Spec PyProof.Rows L2
theorem mix_noref {P : Program} {w : World} {k : Key} {v : Value} (h : (mixKind P w).is k v = true) (a : Addr) : v ≠ .ref a := by
  intro z
  subst z
  rcases keyIs_shape h with ⟨i, t, h1, h2⟩ | ⟨x, t, h1, h2⟩
  · cases h1 <;> cases h2
  · cases h1 <;> cases h2
/-- {**x, **y} -/
def tStar2 (ta tb : TE) : TE := fun σ H Q => ∀ p, H p = none → ta σ (upd H p (.dK [])) fun x H1 => ∃ pa ka, x = .ref pa ∧ Rd H1 pa (.dK ka) ∧ pa ≠ p ∧ H1 p = some (.dK []) ∧ ka.length ≤ sizeLine ∧
  tb σ (upd H1 p (.dK (mergeK [] ka))) fun y H2 => ∃ pb kb, y = .ref pb ∧ Rd H2 pb (.dK kb) ∧ pb ≠ p ∧ H2 p = some (.dK (mergeK [] ka)) ∧ (mergeK [] ka).length + kb.length ≤ sizeLine ∧ Q (.ref p) (upd H2 p (.dK (mergeK (mergeK [] ka) kb)))
section
variable {X : Cx} {pos : Pos} {a b : Expr} {ta tb : TE}
/-- one part of a display, merged -/
theorem star_part {pins : List (Addr × Obj)} {σ : L2.St} {H : Hp} {s : Shared} {d o : Addr} {kv kvs : List (Key × V)} {E : Value → Shared → Prop} {Q : Unit → Shared → Prop} (I : L2.Inv X pins σ H s) (hne : o ≠ d) (ho : Rd H o (.dK kv)) (hd : H d = some (.dK kvs)) (hsz : kvs.length + kv.length ≤ sizeLine)
    (h : ∀ s', L2.Inv X pins σ (upd H d (.dK (mergeK kvs kv))) s' → Q () s') : wpAny (model X.prog X.w) X.A (mergeMapping d (.ref o) false) Q E s := by
  obtain ⟨z1, d1, vs1, r1, dd1⟩ := dk_of I.hok hd
  obtain ⟨z2, d2, vs2, r2, dd2⟩ := dk_rd I.hok ho
  refine dl_merge (knd := mixKind X.prog X.w) (fun k v => mix_noref) (Ne.symm hne) d2 dd1 dd2 (fun h' dd' hs => ?_) (by rw [← r1.length, ← r2.length]; exact hsz)
  have he : ∃ q, h'.get? d = some q := let ⟨q, _, _, hq, _⟩ := dd'; ⟨q, hq⟩
  have hz : (mergeK kvs kv).length ≤ sizeLine := Nat.le_trans (length_mergeK kv kvs) hsz
  exact h _ (d_write (t' := s.toks) I (by rw [hd]; exact True.intro) hs he (dk_new hz d1 (r2.merge r1) dd'))
theorem pe_star2 (ha : PE X a ta) (hb : PE X b tb) : PE X (.Dict [none, none] [a, b] pos) (tStar2 ta tb) := by
  refine ⟨fun pins s σ H Q I q => ?_⟩
  have hn := I.hok.fresh (Nat.le_refl s.heap.objs.size)
  have I1 := I.laid (a := s.heap.objs.size) (o := .dK []) (h' := s.heap.push { cls := .type "dict", data := .dict #[] }) (t' := s.toks) (fun _ _ q => Heap.get?_push_of_some _ q) (Nat.le_refl _) (dk_empty s.heap I.big)
  rw [arm_eval_Dict]
  refine wpAny_bind (wpAny_standAt ?_)
  show wpAny (model X.prog X.w) X.A (dictDisplay [(none, do let x ← eval a X.env; standAt pos; pure x), (none, do let x ← eval b X.env; standAt pos; pure x)]) _ _ _
  unfold dictDisplay
  simp only [List.forIn_cons, List.forIn_nil, List.isEmpty_nil, if_true, pure_bind]
  refine wpAny_bind ?_
  refine wpAny_bind ?_
  refine wpAny_bind (wpAny_alloc ?_)
  refine wpAny_bind (wpAny_holding (wpAny_bind (thn (ha.run pins _ σ _ _ I1 (q _ hn)) fun u s1 ⟨x, H1, I2, rx, pa, ka, ex, hR, hne, hP, hz, q1⟩ => ?_)))
  subst ex
  cases rx
  refine wpAny_bind (wpAny_standAt (wpAny_pure ?_))
  refine wpAny_bind (wpAny_onRaise (wpAny_tryCatch (wpAny_onRaise (wpAny_holding (star_part I2 hne hR hP (by simpa using hz) fun s2 I3 => ?_)))))
  refine wpAny_pure ?_
  refine wpAny_bind ?_
  refine wpAny_bind ?_
  simp only [List.isEmpty_nil, if_true]
  refine wpAny_pure ?_
  refine wpAny_bind (wpAny_holding (wpAny_bind (thn (hb.run pins _ σ _ _ I3 q1) fun u2 s3 ⟨y, H3, I4, ry, pb, kb, ey, hR2, hne2, hP2, hz2, q2⟩ => ?_)))
  subst ey
  cases ry
  refine wpAny_bind (wpAny_standAt (wpAny_pure ?_))
  refine wpAny_bind (wpAny_onRaise (wpAny_tryCatch (wpAny_onRaise (wpAny_holding (star_part I4 hne2 hR2 hP2 hz2 fun s4 I5 => ?_)))))
  refine wpAny_pure ?_
  refine wpAny_pure ?_
  refine wpAny_bind ?_
  simp only [List.isEmpty_nil, if_true]
  exact wpAny_pure (wpAny_pure ⟨.ref s.heap.objs.size, _, I5, rfl, q2⟩)
end
section
variable {X : Cx} {K : PySem.W.Frag} {mg : Str → Option Value} {F H F' H' F1 H1 : Hp} {ad ad' ad1 : List Addr} {env : Env} {st st1 : Store} {σ : L2.St} {a b : Expr} {fa fb : WE} {pos : Pos}
/-- an object that was being made apart is frozen -/
theorem apart_done {p : Addr} {o : HO} {d : PyData} (x : Ext F H ad F1 H1 ad1) (hp : H p = none) (n1 : Now K mg σ F1 H1 ad1 env st1) (a1 : p ∉ ad1) (b1 : F1 p = none) (rp : ∀ F', LeH F1 F' → F' p = some o → Rp K F' (.ref p) d) :
    ∃ F2, Ext F H ad F2 (upd H1 p o) ad1 ∧ Now K mg σ F2 (upd H1 p o) ad1 env st1 ∧ Rp K F2 (.ref p) d := by
  have le : LeH F1 (upd F1 p o) := fun b u eb => by rw [upd_ne (ne_of_none eb b1)]; exact eb
  have x0 := ext_upd (o := o) x hp
  have x1 : Ext F H ad (upd F1 p o) (upd H1 p o) ad1 := by
    refine ⟨x.le.trans le, fun z hz => ?_, x.app, x0.keep, x0.there⟩
    by_cases hzp : z = p
    · subst hzp; exact .inr (.inl hp)
    · rw [upd_ne hzp] at hz; exact x.new z hz
  have n2 := upd_apart (o := o) n1 a1 b1
  refine ⟨upd F1 p o, x1, ⟨⟨fun z u e => ?_, n2.rel.len, n2.rel.nd, n2.rel.live, fun j z c h1 h2 => ?_⟩, ?_⟩, rp _ le upd_same⟩
  · by_cases hzp : z = p
    · subst hzp; rw [upd_same] at e; rw [upd_same]; exact .inl e
    · rw [upd_ne hzp] at e; exact n2.rel.fl z u e
  · have hzp : z ≠ p := fun w => a1 (w ▸ List.mem_of_getElem? h1)
    have w := n2.rel.cell j z c h1 h2
    cases c with
    | lst xs => obtain ⟨y, vs, e, r⟩ := w; exact ⟨by rw [upd_ne hzp]; exact y, vs, e, RpAll.le le _ _ r⟩
    | dct xs => obtain ⟨y, vs, e, r⟩ := w; exact ⟨by rw [upd_ne hzp]; exact y, vs, e, RpKv.le le _ _ r⟩
    | frz y => exact Rp.le le _ _ w
    | ins _ _ => trivial
  · refine ⟨n1.env.1, fun i dv e => ?_⟩
    obtain ⟨v, e1, r⟩ := n1.env.2 i dv e
    refine ⟨v, e1, ?_⟩
    cases dv with
    | d y => exact Rp.le le y v r
    | loc n => exact r
    | fn f => exact r
    | scr ns => obtain ⟨q, e, h⟩ := r; exact ⟨q, e, sqL_keep le h⟩
def wDctS (fa fb : WE) : WE := fun env st Q => fa env st fun r st1 => isDc r fun ka => ka.length ≤ lim ∧ fb env st1 fun r2 st2 => isDc r2 fun kb => (putsK [] ka).length + kb.length ≤ lim ∧ Q (.d (.dict (putsK (putsK [] ka) kb))) st2
theorem de_dctS (ha : PE X a (tE K mg fa)) (hb : PE X b (tE K mg fb)) : PE X (.Dict [none, none] [a, b] pos) (tE K mg (wDctS fa fb)) :=
  pe_weak (pe_star2 ha hb) fun σ H Q ⟨F, ad, env, st, P, n, h, k⟩ => by
    intro p hp
    have dn : p ∉ ad := fun z => n.rel.live p z hp
    have fn := n.rel.fl.none hp
    have xx := ext_upd (o := .dK []) (Ext.refl F H ad) hp
    refine tE_go (upd_apart n dn fn) h fun r1 st1 v1 F1 ad1 H1 q x n1 d1 => ?_
    obtain ⟨ka, rfl, hl, q⟩ := isDc_elim q
    obtain ⟨a1, b1, c1⟩ := apart_ext x dn fn upd_same
    have w1 := Rp.vw n1.rel.fl d1
    have d1' : Rp K F1 v1 (.dict ka) := d1
    obtain ⟨pa, va, rfl, hR, ra, hFa⟩ : ∃ pa va, v1 = .ref pa ∧ Rd H1 pa (.dK va) ∧ RpKv K F1 va ka ∧ F1 pa = some (.dK va) := by
      cases d1' with
      | @dct a' kvs' _ e r =>
        cases w1 with
        | dct e2 r2 =>
          refine ⟨_, _, rfl, ?_, r, e⟩
          rcases n1.rel.fl _ _ e with z | ⟨_, o, z, q⟩
          · exact .inl z
          · exact .inr ⟨o, q⟩
    have hne : pa ≠ p := fun z => by rw [z, b1] at hFa; cases hFa
    refine ⟨pa, va, rfl, hR, hne, c1, by rw [ra.length, ← lim_eq]; exact hl, ?_⟩
    have x01 := xx.trans x
    have xm := ext_upd (o := .dK (mergeK [] va)) x01 hp
    refine tE_go (upd_apart n1 a1 b1) q fun r2 st2 v2 F2 ad2 H2 q2 x2 n2 d2 => ?_
    obtain ⟨kb, rfl, hl2, q2⟩ := isDc_elim q2
    obtain ⟨a2, b2, c2⟩ := apart_ext x2 a1 b1 upd_same
    have d2' : Rp K F2 v2 (.dict kb) := d2
    obtain ⟨pb, vb, rfl, hR2, rb, hFb⟩ : ∃ pa va, v2 = .ref pa ∧ Rd H2 pa (.dK va) ∧ RpKv K F2 va kb ∧ F2 pa = some (.dK va) := by
      cases d2' with
      | @dct a' kvs' _ e r =>
        refine ⟨_, _, rfl, ?_, r, e⟩
        rcases n2.rel.fl _ _ e with z | ⟨_, o, z, q⟩
        · exact .inl z
        · exact .inr ⟨o, q⟩
    have hne2 : pb ≠ p := fun z => by rw [z, b2] at hFb; cases hFb
    have rm1 := RpKv.merge (RpKv.le x2.le _ _ ra) (kvs := []) .nil
    have rm2 := RpKv.merge rb rm1
    refine ⟨pb, vb, rfl, hR2, hne2, c2, by rw [rm1.length, rb.length, ← lim_eq]; exact hl2, ?_⟩
    obtain ⟨F3, x3, n3, r3⟩ := apart_done (o := .dK (mergeK (mergeK [] va) vb)) (xm.trans x2) hp n2 a2 b2 (d := .dict (putsK (putsK [] ka) kb)) fun F' le e => .dct e (RpKv.le le _ _ rm2)
    exact k _ _ _ _ _ _ q2 x3 n3 r3
end
end DL
/-! text DLOps7 -/
namespace DL
open PySem PySem.Spec PyProof.Rows L2
section
variable {X : Cx} {K : PySem.W.Frag} {mg : Str → Option Value} {F H F' H' : Hp} {ad ad' : List Addr} {env : Env} {st : Store} {σ : L2.St} {v : V} {d : PyData} {a b c e tg o i : Expr} {es : List Expr} {f fa fb fc fo fi : WE} {fs : WA} {pos pos' p apos cpos : Pos} {x : Str} {W : List Nat}
/-! ### d.get(k), d.get(k, x): the dict is frozen -/
def wGet1 (fo fa : WE) : WE := fun env st Q => fo env st fun r st1 => isDc r fun kvs => fa env st1 fun q st2 => isD q fun k => isKey k = true ∧ Q (.d ((lookK kvs k).getD .none)) st2
def wGet2 (fo fa fb : WE) : WE := fun env st Q => fo env st fun r st1 => isDc r fun kvs => fa env st1 fun q st2 => isD q fun k => fb env st2 fun q2 st3 => isD q2 fun y => isKey k = true ∧ Q (.d ((lookK kvs k).getD y)) st3
theorem rp_dct_at {F1 H1 : Hp} {ad1 : List Addr} {kvs : List (PyData × PyData)} (fl : FLe F1 H1) (h : Rp K F1 v (.dict kvs)) : ∃ p ws, v = .ref p ∧ Rd H1 p (.dK ws) ∧ RpKv K F1 ws kvs := by
  have := Rp.vw fl h
  cases this with
  | dct e r => exact ⟨_, _, rfl, e, r⟩
theorem de_get1 (hu : X.A.units + 300 < cLine) (ho : PE X o (tE X.K mg fo)) (ha : PE X a (tE X.K mg fa)) (m : M1 X o "get" apos a cpos := by exact ⟨rfl, rfl, rfl, rfl⟩) : PE X (.Call (.Attribute o "get" apos) [a] [] cpos) (tE X.K mg (wGet1 fo fa)) :=
  pe_weak (pe_dget1 (by omega) ho ha m) fun σ H Q ⟨F, ad, env, st, P, n, h, k⟩ => by
    refine tE_go n h fun r1 st1 v1 F1 ad1 H1 q x n1 d1 => ?_
    obtain ⟨kvs, rfl, q⟩ := isDc_elim q
    obtain ⟨p, ws, rfl, hR, rw'⟩ := rp_dct_at (ad1 := ad1) n1.rel.fl d1
    refine ⟨p, rfl, .inl ⟨_, hR⟩, ?_⟩
    refine tE_go n1 q fun r2 st2 v2 F2 ad2 H2 q2 x2 n2 d2 => ?_
    obtain ⟨y, rfl, hk, q2⟩ := isD_elim q2
    obtain ⟨kk, rfl⟩ := isKey_key hk
    have e2 := vw_key (Rp.vw n2.rel.fl d2)
    subst e2
    obtain ⟨p', ws', ep, hR', rw2⟩ := rp_dct_at (ad1 := ad2) n2.rel.fl (Rp.le x2.le _ _ d1)
    cases ep
    refine ⟨valV ws' kk, dget_of hR', ?_⟩
    rcases RpKv.look kk rw2 with ⟨h1, h2⟩ | ⟨y, w, h1, h2, h3⟩
    · rw [h1] at q2; rw [h2]
      exact k _ _ _ _ _ _ q2 (x.trans x2) n2 Rp.non
    · rw [h1] at q2; rw [h2]
      exact k _ _ _ _ _ _ q2 (x.trans x2) n2 h3
theorem de_get2 (hu : X.A.units + 300 < cLine) (ho : PE X o (tE X.K mg fo)) (ha : PE X a (tE X.K mg fa)) (hb : PE X b (tE X.K mg fb)) (m : M2 X o "get" apos a b cpos := by exact ⟨rfl, rfl, rfl, rfl⟩) : PE X (.Call (.Attribute o "get" apos) [a, b] [] cpos) (tE X.K mg (wGet2 fo fa fb)) :=
  pe_weak (pe_dget2 (by omega) ho ha hb m) fun σ H Q ⟨F, ad, env, st, P, n, h, k⟩ => by
    refine tE_go n h fun r1 st1 v1 F1 ad1 H1 q x n1 d1 => ?_
    obtain ⟨kvs, rfl, q⟩ := isDc_elim q
    obtain ⟨p, ws, rfl, hR, rw'⟩ := rp_dct_at (ad1 := ad1) n1.rel.fl d1
    refine ⟨p, rfl, .inl ⟨_, hR⟩, ?_⟩
    refine tE_go n1 q fun r2 st2 v2 F2 ad2 H2 q2 x2 n2 d2 => ?_
    obtain ⟨y, rfl, q2⟩ := isD_elim q2
    refine tE_go n2 q2 fun r3 st3 v3 F3 ad3 H3 q3 x3 n3 d3 => ?_
    obtain ⟨z, rfl, hk, q3⟩ := isD_elim q3
    obtain ⟨kk, rfl⟩ := isKey_key hk
    have e2 := vw_key (Rp.vw n2.rel.fl d2)
    subst e2
    obtain ⟨p', ws', ep, hR', rw2⟩ := rp_dct_at (ad1 := ad3) n3.rel.fl (Rp.le (x2.trans x3).le _ _ d1)
    cases ep
    refine ⟨valV ws' kk, dget_of hR', ?_⟩
    rcases RpKv.look kk rw2 with ⟨h1, h2⟩ | ⟨y, w, h1, h2, h3⟩
    · rw [h1] at q3; rw [h2]
      exact k _ _ _ _ _ _ q3 ((x.trans x2).trans x3) n3 d3
    · rw [h1] at q3; rw [h2]
      exact k _ _ _ _ _ _ q3 ((x.trans x2).trans x3) n3 h3
end
end DL
/-! text DLDict -/
namespace DL
open PySem PySem.Spec PyProof.Rows L2
def pairsD : List PyData → Option (List (PyData × PyData))
  | [] => some []
  | .tuple [k, x] :: r => if isKey k = true then (pairsD r).map ((k, x) :: ·) else none
  | _ => none
def oDict : B1
  | .tuple xs => if bookish xs = true then (pairsD xs).map fun ps => .dict (putsK [] ps) else none
  | .list xs => (pairsD xs).map fun ps => .dict (putsK [] ps)
  | .dict kvs => some (.dict kvs)
  | _ => none
theorem pairsD_cons {x : PyData} {r : List PyData} {ps : List (PyData × PyData)} (h : pairsD (x :: r) = some ps) : ∃ k y qs, x = .tuple [k, y] ∧ isKey k = true ∧ pairsD r = some qs ∧ ps = (k, y) :: qs := by
  unfold pairsD at h
  split at h
  · rename_i e; cases e
  · rename_i k y r' e
    cases e
    split at h
    · rename_i hk
      cases q : pairsD r with
      | none => rw [q] at h; cases h
      | some qs => rw [q] at h; cases h; exact ⟨_, _, qs, rfl, hk, rfl, rfl⟩
    · cases h
  · cases h
section
variable {X : Cx} {K : PySem.W.Frag} {mg : Str → Option Value} {F H F' H' : Hp} {ad ad' : List Addr} {env : Env} {st : Store} {σ : L2.St} {v : V} {d : PyData} {a b c e tg o i : Expr} {es : List Expr} {f fa fb fc fo fi : WE} {fs : WA} {pos pos' p apos cpos : Pos} {x : Str} {W : List Nat}
theorem rp_keyV {q : Key} (h : Rp K F v (keyD q)) : v = kV q := by
  cases q with
  | inl i => cases h; rfl
  | inr z => cases h; rfl
theorem vals_two {x y : V} {us : List Value} (h : Vals [x, y] us) : ∃ u w, us = [u, w] ∧ RelV x u ∧ RelV y w := by
  cases h with
  | cons h1 h =>
    cases h with
    | cons h2 h => cases h; exact ⟨_, _, rfl, h1, h2⟩
theorem rp_two {vs : List V} {x y : PyData} (h : RpAll K F vs [x, y]) : ∃ u w, vs = [u, w] ∧ Rp K F u x ∧ Rp K F w y := by
  cases h with
  | cons h1 h =>
    cases h with
    | cons h2 h => cases h; exact ⟨_, _, rfl, h1, h2⟩
theorem pairs_at {pins : List (Addr × Obj)} {s : Shared} (I : L2.Inv X pins σ H s) (fl : FLe F H) : ∀ (xs : List PyData) (vs : List V) (its : List Value) (ps : List (PyData × PyData)), RpAll X.K F vs xs → Vals vs its → pairsD xs = some ps →
    ∃ (kvs : List (Key × V)) (trip : List (Key × Value × Value)), RpKv X.K F kvs ps ∧ KV kvs (trip.map fun t => (t.1, t.2.2)) ∧ trip.length = its.length ∧
      ∀ (j : Nat) t, trip[j]? = some t → (mixKind X.prog X.w).is t.1 t.2.1 = true ∧ ∃ a, its[j]? = some (.ref a) ∧ PairAt s.heap a t.2.1 t.2.2
  | [], _, _, _, h, r, e => by
    cases h; cases r; cases e
    exact ⟨[], [], .nil, .nil, rfl, fun j t z => by simp at z⟩
  | x :: xs, _, _, ps, h, r, e => by
    obtain ⟨k, y, qs, rfl, hk, e2, rfl⟩ := pairsD_cons e
    obtain ⟨q, rfl⟩ := isKey_key hk
    cases h with
    | cons h1 h2 =>
      cases r with
      | cons r1 r2 =>
        obtain ⟨kvs, trip, z1, z2, z3, z4⟩ := pairs_at I fl xs _ _ qs h2 r2 e2
        cases h1 with
        | tup ea ra =>
          cases r1
          obtain ⟨its2, rv, ⟨ob, ho, hc, n, hd⟩, _⟩ := I.tuple (fl.seqT ea.sq)
          obtain ⟨wk, wv, rfl, ra1, ra2⟩ := rp_two ra
          obtain ⟨uk, uv, rfl, rv1, rv2⟩ := vals_two rv
          have ek := rp_keyV ra1
          subst ek
          refine ⟨(q, _) :: kvs, (q, uk, uv) :: trip, .cons ra2 z1, .cons ⟨rfl, rv2⟩ z2, by simp [z3], fun j t z => ?_⟩
          cases j with
          | zero =>
            simp at z
            subst z
            exact ⟨kV_is rv1, _, rfl, .inl ⟨ob, ho, hc, n, hd⟩⟩
          | succ j =>
            obtain ⟨w1, a, w2, w3⟩ := z4 j t (by simpa using z)
            exact ⟨w1, a, by simpa using w2, w3⟩
/-- a plain tuple's object -/
theorem plain_tup {pins : List (Addr × Obj)} {s : Shared} {p : Addr} {its : Array Value} (I : L2.Inv X pins σ H s) (fl : FLe F H) (h : PlT X.K F p) (t : IsTup s.heap p its) : PlainSeq "tuple" s.heap p its := by
  obtain ⟨o, hd, h⟩ := h
  obtain ⟨o2, ho2, hc, n, hdt⟩ := t
  have e : s.heap.get? p = some o := by
    rcases h with ⟨u, h⟩ | h
    · rcases fl _ _ h with z | ⟨_, _, z, _⟩
      · exact (I.hok p _ z).1
      · cases z
    · exact I.kIn p o h
  rw [e] at ho2
  cases ho2
  exact ⟨o, n, e, hc, hd, hdt⟩
theorem dc_dict (hc : X.calm = true) : CallR X (.type "dict") (rCN X.K (on1 oDict)) := by
  intro pins s σ H xs us Q I r ⟨F, ds, c, fl, h, e, k⟩
  obtain ⟨v, d, rfl, h1, e1⟩ := vw1 h e
  -- behind the pairs
  have go : ∀ (p : Addr) (xs : List PyData) (vs : List V) (its : List Value) (ps : List (PyData × PyData)) (T : String), RpAll X.K F vs xs → Vals vs its → pairsD xs = some ps → its.length ≤ sizeLine → c = .dict (putsK [] ps) →
      (∀ (Ts : Nat → Addr) (vps : List (Value × Value)), PairItems s.heap its.toArray Ts vps → ∃ (fp wr : List Addr) (OK : Heap → Prop), PairArg X.prog X.w T p fp wr vps.length (PairRel vps) OK ∧ OK s.heap ∧ wr = []) →
      wpAny (model X.prog X.w) X.A (call (.type "dict") [.ref p]) (EP X pins σ Q) X.xe s := by
    intro p xs vs its ps T ra rv ep hz hc' hP
    subst hc'
    obtain ⟨kvs, trip, z1, z2, z3, z4⟩ := pairs_at I fl xs vs its ps ra rv ep
    obtain ⟨fp, wr, OK, P, ok, ew⟩ := hP (fun j => match its[j]? with | some (.ref t) => t | _ => 0) (trip.map fun t => (t.2.1, t.2.2)) ⟨by simp [z3], fun j kk vv z => by
      rw [List.getElem?_map] at z
      cases q : trip[j]? with
      | none => rw [q] at z; cases z
      | some t =>
        rw [q] at z
        cases z
        obtain ⟨_, a, w2, w3⟩ := z4 j t q
        have e2 : its.toArray[j]? = some (.ref a) := by simpa using w2
        exact ⟨by rw [e2]; simp [w2], by simpa [w2] using w3⟩⟩
    have hl : (trip.map fun t => (t.2.1, t.2.2)).length = its.length := by simp [z3]
    refine call_dict_pairs (knd := mixKind X.prog X.w) (kvs := trip.map fun t => (t.1, t.2.2)) P (I.ok.hd hc) ok ⟨by simp, fun j kk vv z => ?_⟩ (by rw [hl]; exact hz) fun h' tk dd hk => ?_
    · have z' : (trip.map fun t => (t.2.1, t.2.2))[j]? = some (kk, vv) := z
      rw [List.getElem?_map] at z'
      cases q : trip[j]? with
      | none => rw [q] at z'; cases z'
      | some t =>
        rw [q] at z'
        cases z'
        exact ⟨t.1, by rw [List.getElem?_map, q]; rfl, (z4 j t q).1⟩
    · subst ew
      have hp : H s.heap.objs.size = none := I.hok.fresh (Nat.le_refl _)
      have hz2 : (mergeK [] kvs).length ≤ sizeLine := by
        have h1 := length_mergeK kvs []
        have h2 := z2.length
        simp at h1 h2
        omega
      have I2 := I.laid (a := s.heap.objs.size) (o := .dK (mergeK [] kvs)) (h' := h') (t' := tk) (fun b o e => hk b o (by simp) e) (Nat.le_refl _) (dk_new hz2 (beq_eq_false_iff_ne.mpr (Ne.symm (Nat.ne_of_lt I.big))) (z2.merge .nil) dd)
      have g := grow_new (o := .dK (mergeK [] kvs)) fl hp (fl.none hp)
      exact ⟨.ref s.heap.objs.size, _, I2, rfl, k _ _ _ g (.dct upd_same (RpKv.le g.le _ _ (RpKv.merge z1 .nil)))⟩
  have e1' : oDict d = some c := e1
  cases h1 with
  | non => cases e1'
  | bl _ => cases e1'
  | int _ => cases e1'
  | str _ => cases e1'
  | @lst p vs xs ea ra =>
    cases r with
    | cons r1 r =>
      cases r
      cases r1
      obtain ⟨its, rv, pl, hz⟩ := I.list (.inl (.inl ea))
      have e2 : (pairsD xs).map (fun ps => PyData.dict (putsK [] ps)) = some c := e1'
      cases q : pairsD xs with
      | none => rw [q] at e2; cases e2
      | some ps =>
        rw [q] at e2
        cases e2
        exact go p xs vs its ps "list" ra rv q (by rw [← rv.length]; exact hz) rfl fun Ts vps hI => ⟨_, _, _, PairArg.list p its.toArray Ts vps, ⟨pl, hI⟩, rfl⟩
  | @tup p vs xs ea ra =>
    cases r with
    | cons r1 r =>
      cases r
      cases r1
      obtain ⟨its, rv, tt, hz⟩ := I.tuple (fl.seqT ea.sq)
      have e2 : (if bookish xs = true then (pairsD xs).map (fun ps => PyData.dict (putsK [] ps)) else none) = some c := e1'
      by_cases hb : bookish xs = true
      · rw [if_pos hb] at e2
        cases q : pairsD xs with
        | none => rw [q] at e2; cases e2
        | some ps =>
          rw [q] at e2
          cases e2
          exact go p xs vs its ps "tuple" ra rv q (by rw [← rv.length]; exact hz) rfl fun Ts vps hI => ⟨_, _, _, PairArg.tuple p its.toArray Ts vps, ⟨plain_tup I fl (ea.pt hb) tt, hI⟩, rfl⟩
      · rw [if_neg hb] at e2; cases e2
  | @dct p kvs ds ea ra =>
    cases r with
    | cons r1 r =>
      cases r
      cases r1
      cases e1'
      refine d_copyOf I ea fun q s' hp I' => ?_
      have g := grow_new (o := .dK kvs) fl hp (fl.none hp)
      exact ⟨.ref q, _, I', rfl, k _ _ _ g (.dct upd_same (RpKv.le g.le _ _ ra))⟩
theorem de_dictc (hc : X.calm = true) (ha : PA X (e :: es) (tA X.K mg fs)) (hm : X.mg "dict" = none) (hg : Gl X "dict" := by rfl) (he : starEach (e :: es) X.env = (false, eval e X.env) :: starEach es X.env := by rfl) (hpl : (backTo pos (starEach es X.env)).any (·.1) = false := by rfl) :
    PE X (.Call (.Name "dict" p) (e :: es) [] pos) (tE X.K mg (wOpN (on1 oDict) fs)) := de_ty (dc_dict hc) hm PyProof.Rows.boot_dict ha hg (by decide) (by decide) he hpl
/-- a copy that will be changed -/
def wDctC (fa : WE) : WE := fun env st Q => fa env st fun r st1 => isDc r fun kvs => Q (.loc st1.length) (st1 ++ [.dct kvs])
theorem dc_copyM : CallR X (.type "dict") (fun vs H Q => ∃ a kvs, vs = [.ref a] ∧ Rd H a (.dK kvs) ∧ ∀ p, H p = none → Q (.ref p) (upd H p (.dK kvs))) := by
  intro pins s σ H xs us Q I r ⟨a, kvs, ex, hR, k⟩
  subst ex
  cases r with
  | cons r1 r =>
    cases r
    cases r1
    exact d_copyOf I hR fun q s' hp I' => ⟨.ref q, _, I', rfl, k q hp⟩
theorem de_dctC (ha : PE X e (tE X.K mg fa)) (hm : X.mg "dict" = none) (hg : Gl X "dict" := by rfl) (he : starEach (e :: []) X.env = (false, eval e X.env) :: starEach [] X.env := by rfl) (hpl : (backTo pos (starEach [] X.env)).any (·.1) = false := by rfl) :
    PE X (.Call (.Name "dict" p) [e] [] pos) (tE X.K mg (wDctC fa)) :=
  pe_weak (pe_callTy dc_copyM hg hm PyProof.Rows.boot_dict (L2.pa_cons ha L2.pa_nil he) (by decide) (by decide) he hpl) fun σ H Q ⟨F, ad, env, st, P, n, h, k⟩ => by
    refine tE_go n h fun r1 st1 v1 F1 ad1 H1 q x n1 d1 => ?_
    obtain ⟨kvs, rfl, q⟩ := isDc_elim q
    obtain ⟨pa, ws, rfl, hR, rw'⟩ := rp_dct_at (ad1 := ad1) n1.rel.fl d1
    refine ⟨pa, ws, rfl, hR, fun p hp => ?_⟩
    obtain ⟨x2, n2⟩ := now_new (o := .dK ws) (c := .dct kvs) n1 hp ⟨n1.rel.fl.none hp, ws, upd_same, rw'⟩ (fun _ _ z => by cases z)
    exact k _ _ _ _ _ _ q (x.trans x2) n2 ⟨p, rfl, by rw [← n1.rel.len]; simp⟩
/-- a dict that is changed here -/
def isLD (st : Store) (r : DV) (k : List (PyData × PyData) → Prop) : Prop := match r with
  | .loc n => (match st[n]? with
    | some (.dct kvs) => k kvs
    | _ => False)
  | _ => False
theorem isLD_elim {st : Store} {r : DV} {k : List (PyData × PyData) → Prop} (h : isLD st r k) : ∃ n kvs, r = .loc n ∧ st[n]? = some (.dct kvs) ∧ k kvs := by
  cases r with
  | loc n =>
    unfold isLD at h
    cases q : st[n]? with
    | none => simp [q] at h
    | some c =>
      cases c with
      | dct kvs => simp [q] at h; exact ⟨n, kvs, rfl, q, h⟩
      | lst _ => simp [q] at h
      | frz _ => simp [q] at h
      | ins _ _ => simp [q] at h
  | d _ => exact h.elim
  | fn _ => exact h.elim
  | scr _ => exact h.elim
def wListK (fa : WE) : WE := fun env st Q => fa env st fun r st1 => isLD st1 r fun kvs => Q (.d (.list (kvs.map (·.1)))) st1
theorem rpKv_keys : ∀ {kvs : List (PyData × PyData)} {ws : List (Key × V)}, RpKv K F ws kvs → RpAll K F (ws.map fun kv => kV kv.1) (kvs.map (·.1))
  | [], _, h => by cases h; exact .nil
  | _ :: _, _, h => by
    cases h with
    | cons r rs => exact .cons (rp_key _) (rpKv_keys rs)
theorem de_listK (hc : X.calm = true) (ha : PE X e (tE X.K mg fa)) (hm : X.mg "list" = none) (hg : Gl X "list" := by rfl) (he : starEach (e :: []) X.env = (false, eval e X.env) :: starEach [] X.env := by rfl) (hpl : (backTo pos (starEach [] X.env)).any (·.1) = false := by rfl) :
    PE X (.Call (.Name "list" p) [e] [] pos) (tE X.K mg (wListK fa)) :=
  pe_weak (pe_callTy (call_list_dK hc) hg hm PyProof.Rows.boot_list (L2.pa_cons ha L2.pa_nil he) (by decide) (by decide) he hpl) fun σ H Q ⟨F, ad, env, st, P, n, h, k⟩ => by
    refine tE_go n h fun r1 st1 v1 F1 ad1 H1 q x n1 d1 => ?_
    obtain ⟨m, kvs, rfl, hs, q⟩ := isLD_elim q
    obtain ⟨ar, rfl, har⟩ := d1
    obtain ⟨hF, ws, hH, rw'⟩ := n1.rel.cell m ar _ har hs
    refine ⟨ar, ws, rfl, hH, fun p hp => ?_⟩
    have g := grow_new (o := .lst (ws.map fun kv => kV kv.1)) n1.rel.fl hp (n1.rel.fl.none hp)
    exact k _ _ _ _ ad1 _ q (x.trans (g.ext ad1)) (n1.grow g) (Rp.lst upd_same (RpAll.le g.le _ _ (rpKv_keys rw')))
end
end DL
/-! text DLSort -/
namespace DL
open PySem PySem.Spec PyProof.Rows L2
/-! ### the order of texts -/
def leT (a b : Str) : Bool := decide (a.cps.toList ≤ b.cps.toList)
theorem leT_trans (x y z : Str) (h1 : leT x y = true) (h2 : leT y z = true) : leT x z = true := by
  unfold leT at *
  simp only [decide_eq_true_eq] at *
  exact List.le_trans h1 h2
theorem leT_total (x y : Str) : (leT x y || leT y x) = true := by
  unfold leT
  rcases List.le_total x.cps.toList y.cps.toList with h | h
  · simp [h]
  · simp [h]
theorem leT_anti (x y : Str) (h1 : leT x y = true) (h2 : leT y x = true) : x = y := by
  unfold leT at *
  simp only [decide_eq_true_eq] at *
  have := List.le_antisymm h1 h2
  cases x; cases y
  simp at this
  simp [this]
theorem leT_not (x y : Str) : leT x y = !decide (y.cps.toList < x.cps.toList) := by
  unfold leT
  by_cases h : y.cps.toList < x.cps.toList
  · have : ¬ x.cps.toList ≤ y.cps.toList := List.not_le.mpr h
    simp [h, this]
  · have : x.cps.toList ≤ y.cps.toList := List.not_lt.mp h
    simp [h, this]
def sortT (l : List Str) : List Str := l.mergeSort leT
theorem rising_le : ∀ (p : Str) (l : List Str), risingS p l = true → (p :: l).Pairwise fun x y => leT x y = true
  | p, [], _ => List.pairwise_singleton _ _
  | p, x :: r, h => by
    unfold risingS at h
    rw [Bool.and_eq_true, ltCps_eq] at h
    have h1 : leT p x = true := by rw [leT_not]; exact h.1
    have h2 := rising_le x r h.2
    rw [List.pairwise_cons]
    refine ⟨fun y hy => ?_, h2⟩
    rcases List.mem_cons.mp hy with rfl | hy
    · exact h1
    · exact leT_trans p x y h1 ((List.pairwise_cons.mp h2).1 y hy)
theorem sortedS_le (l : List Str) (h : sortedS l = true) : l.Pairwise fun x y => leT x y = true := by
  cases l with
  | nil => exact .nil
  | cons x r => exact rising_le x r h
theorem sortT_of {a l : List Str} (hp : a.Perm l) (ha : a.Pairwise fun x y => leT x y = true) : a = sortT l :=
  PySem.W.Srt.the_of_perm leT leT_trans leT_total leT_anti hp ha
def textsOf : List PyData → Option (List Str)
  | [] => some []
  | .str z :: r => (textsOf r).map (z :: ·)
  | _ => none
theorem textsOf_map (l : List Str) : textsOf (l.map .str) = some l := by
  induction l with
  | nil => rfl
  | cons x l ih => rw [List.map_cons, textsOf, ih]; rfl
def oSorted : B1
  | .list xs => (textsOf xs).bind fun ss => if ss.length < 64 then some (.list ((sortT ss).map .str)) else none
  | _ => none
section
variable {X : Cx} {K : PySem.W.Frag} {mg : Str → Option Value} {F H F' H' : Hp} {ad ad' : List Addr} {env : Env} {st : Store} {σ : L2.St} {v : V} {d : PyData} {a b c e tg o i : Expr} {es : List Expr} {f fa fb fc fo fi : WE} {fs : WA} {pos pos' p apos cpos : Pos} {x : Str} {W : List Nat}
theorem textsOf_rp : ∀ {xs : List PyData} {vs : List V} {ss : List Str}, RpAll K F vs xs → textsOf xs = some ss → vs = ss.map V.str
  | [], _, _, h, e => by cases h; cases e; rfl
  | x :: xs, _, ss, h, e => by
    cases h with
    | cons r rs =>
      cases x <;> try cases e
      rename_i z
      unfold textsOf at e
      cases q : textsOf xs with
      | none => rw [q] at e; cases e
      | some t =>
        rw [q] at e; cases e
        cases r
        rw [textsOf_rp rs q]; rfl
theorem dc_sorted : CallR X (.builtin "sorted") (rCN X.K (on1 oSorted)) := by
  intro pins s σ H xs us Q I r ⟨F, ds, c, fl, h, e, k⟩
  obtain ⟨v, d, rfl, h1, e1⟩ := vw1 h e
  cases h1 <;> try cases e1
  rename_i a vs xs ea ra
  have e2 : ((textsOf xs).bind fun ss => if ss.length < 64 then some (PyData.list ((sortT ss).map .str)) else none) = some c := e1
  cases q : textsOf xs with
  | none => rw [q] at e2; cases e2
  | some ss =>
    rw [q] at e2
    have e3 : (if ss.length < 64 then some (PyData.list ((sortT ss).map .str)) else none) = some c := e2
    by_cases hl : ss.length < 64
    · rw [if_pos hl] at e3
      cases e3
      have ev := textsOf_rp ra q
      subst ev
      refine cr_sortedS pins s σ H _ us Q I r ⟨a, ss, rfl, .inl (.inl ea), hl, fun ys p hp hs hn => ?_⟩
      have ey := sortT_of hp (sortedS_le ys hs)
      subst ey
      have g := grow_new (o := .lst ((sortT ss).map V.str)) fl hn (fl.none hn)
      exact k _ _ _ g (.lst upd_same (rpAll_strs _))
    · rw [if_neg hl] at e3; cases e3
theorem de_sorted (hu : X.A.units + 300 < cLine) (ha : PA X (e :: es) (tA X.K mg fs)) (hm : X.mg "sorted" = none) (hg : Gl X "sorted" := by rfl) (he : starEach (e :: es) X.env = (false, eval e X.env) :: starEach es X.env := by rfl) (hpl : (backTo pos (starEach es X.env)).any (·.1) = false := by rfl) :
    PE X (.Call (.Name "sorted" p) (e :: es) [] pos) (tE X.K mg (wOpN (on1 oSorted) fs)) := de_b dc_sorted hm PyProof.Rows.boot_sorted ha hg (by decide) (by decide) he hpl
end
end DL
/-! text DLSortI -/
namespace DL
open PySem PySem.Spec PyProof.Rows L2 SrtO
/-! ### sorted(d.items()), the keys texts -/
def IsPairT (h : Heap) (v : Value) (k : Str) (u : Value) : Prop := ∃ a o t n, v = .ref a ∧ h.get? a = some o ∧ o.cls = .type "tuple" ∧ o.data = .seq #[.str k t, u] n
def ltK (k : Value → Str × Value) (v u : Value) : Bool := decide ((k v).1.cps.toList < (k u).1.cps.toList)
theorem ltK_no {k : Value → Str × Value} {v u : Value} : ltK k v u = false ↔ (k u).1.cps.toList ≤ (k v).1.cps.toList := by
  unfold ltK
  rw [decide_eq_false_iff_not]
  exact List.not_lt
theorem swo_ltK (k : Value → Str × Value) : Swo (ltK k) := by
  refine ⟨fun x y h => ?_, fun x y z h1 h2 => ?_⟩
  · have h' : (k x).1.cps.toList < (k y).1.cps.toList := by simpa [ltK] using h
    rw [ltK_no]
    rcases List.le_total (k x).1.cps.toList (k y).1.cps.toList with q | q
    · exact q
    · exact absurd h' (List.not_lt.mpr q)
  · rw [ltK_no] at *
    exact List.le_trans h1 h2
section
variable {prog : Program} {w : World} {A : Around} {E : Value → Shared → Prop} {s : Shared}
theorem pairT_cmp {vs : List Value} {k : Value → Str × Value} (hp : ∀ v ∈ vs, IsPairT s.heap v (k v).1 (k v).2) (hd : ∀ v ∈ vs, ∀ u ∈ vs, (k v).1 = (k u).1 → v = u) : SrtO.Cmp prog w A s (tuples' true) (fun p => p.1 ∈ vs) (lt2 (ltK k)) := by
  intro p q hm hm'
  have h1 := hp _ hm
  have h2 := hp _ hm'
  have h3 := hd _ hm _ hm'
  show wpAny (model prog w) A (keyLt' (tuples' true) p.1 q.1) (fun r s' => s' = s ∧ r = ltK k p.1 q.1) (fun _ _ => False) s
  unfold ltK
  generalize hx : (k p.1).1 = x at h1 h3 ⊢
  generalize hy : (k p.1).2 = y at h1 ⊢
  generalize hx' : (k q.1).1 = x' at h2 h3 ⊢
  generalize hy' : (k q.1).2 = y' at h2 ⊢
  obtain ⟨a, o, t, n, e, ho, hc, hd⟩ := h1
  obtain ⟨a', o', t', n', e', ho', hc', hd'⟩ := h2
  rw [e, e'] at h3 ⊢
  refine PySem.W.kat_lt ho hd ho' hd' ?_
  show PySem.W.KatLex prog w A true (decide (2 < 2)) _ [(.str x t, .str x' t'), (y, y')] 0 s
  refine PySem.W.kat_cons (SeqAt.EqAt.str_str x t x' t' prog w _ _ ?_)
  refine PySem.W.kat_go (fun e1 => ?_) (fun e1 => ?_)
  · have ex : x = x' := by simpa using e1
    have ea := h3 ex
    cases ea
    rw [ho] at ho'
    cases ho'
    rw [hd] at hd'
    cases hd'
    refine PySem.W.kat_yes (PySem.W.kat_cons (SeqAt.EqAt.same y prog w _ _ ?_))
    refine PySem.W.kat_go (fun e2 => ?_) (fun e2 => ?_)
    · refine PySem.W.kat_yes (PySem.W.kat_nil ⟨rfl, ?_⟩)
      have : ¬ x.cps.toList < x.cps.toList := List.not_lt.mpr (List.le_refl _)
      simp [this]
    · cases e2
  · exact PySem.W.kat_no (oneLt_str ⟨rfl, rfl⟩)
theorem firstsT : ∀ {h : Heap} {vs : List Value} {k : Value → Str × Value}, (∀ v ∈ vs, IsPairT h v (k v).1 (k v).2) → ∃ fs : List Value, PySem.W.KatTups h vs fs ∧ fs.length = vs.length ∧ ∀ f ∈ fs, ∃ z t, f = .str z t
  | h, [], k, _ => ⟨[], trivial, rfl, fun _ z => by simp at z⟩
  | h, v :: vs, k, hp => by
    obtain ⟨fs, h1, h2, h3⟩ := firstsT (h := h) (vs := vs) (k := k) fun u hu => hp u (List.mem_cons_of_mem _ hu)
    obtain ⟨a, o, t, n, rfl, ho, hc, hd⟩ := hp v (List.mem_cons_self ..)
    exact ⟨.str (k (.ref a)).1 t :: fs, .cons ho hc hd rfl h1, by simp [h2], fun f hf => by
      rcases List.mem_cons.mp hf with rfl | hf
      · exact ⟨_, _, rfl⟩
      · exact h3 f hf⟩
theorem pairsT_sortable {a : Addr} {vs : List Value} {k : Value → Str × Value} (h0 : 0 < vs.length) (hp : ∀ v ∈ vs, IsPairT s.heap v (k v).1 (k v).2) (hd : ∀ v ∈ vs, ∀ u ∈ vs, (k v).1 = (k u).1 → v = u) (ha : ∀ o, s.heap.get? a = some o → o.cls ≠ .type "tuple") : SortableO prog w A s a vs (ltK k) := by
  intro h' keep
  have hp' : ∀ v ∈ vs, IsPairT h' v (k v).1 (k v).2 := fun v hm => by
    obtain ⟨b, o, t, n, e, ho, hc, hdt⟩ := hp v hm
    exact ⟨b, o, t, n, e, keep b o (fun z => by subst z; exact ha o ho hc) ho, hc, hdt⟩
  obtain ⟨fs, h1, h2, h3⟩ := firstsT hp'
  refine ⟨tuples' true, fun Q E hq => ?_, pairT_cmp hp' hd⟩
  refine PySem.W.kat_kind (T := .type "str") h1 (by omega) (fun f hm => ?_) (by rfl) ?_
  · obtain ⟨x, t, rfl⟩ := h3 f hm
    exact PySem.W.Looks.now
  · have e : (Value.type "str" != Value.type "tuple") = true := by first | decide +kernel | rfl | decide
    rw [e]
    exact hq
end
def keyTx : Key → Str
  | .inr x => x
  | .inl _ => ⟨#[]⟩
def rSortK : List V → Hp → VK → Prop := fun vs H Q => ∃ (p a : Addr) (kvs : List (Key × V)), vs = [.ref p] ∧ H p = some (L2.DX.itemsO p a) ∧ Rd H a (.dK kvs) ∧ (∀ e ∈ kvs, ∃ x, e.1 = .inr x) ∧
  ∀ (H' : Hp) (l : Addr) (ps : List (Addr × Key × V)), (∀ b o, H b = some o → H' b = some o) → (ps.map (·.2)).Perm kvs → (ps.map (·.2)).Pairwise (fun e f => leT (keyTx e.1) (keyTx f.1) = true) → H' l = some (.lst (ps.map fun z => V.ref z.1)) → H l = none →
    (∀ z ∈ ps, H z.1 = none ∧ H' z.1 = some (.tup [kV z.2.1, z.2.2])) → Q (.ref l) H'
theorem zip_refs {γ : Type} : ∀ (as : List Addr) (ks : List γ), as.length = ks.length → (as.zip ks).map (fun z => Value.ref z.1) = as.map Value.ref
  | [], _, _ => rfl
  | a :: as, [], h => by simp at h
  | a :: as, k :: ks, h => by
    have := zip_refs as ks (by simpa using h)
    simp only [List.zip_cons_cons, List.map_cons, this]
theorem cr_sortK {X : Cx} (hc : X.calm = true) : CallR X (.builtin "sorted") rSortK := by
  intro pins s σ H xs us Q I r h
  obtain ⟨p, a, kvs, rfl, hp, ha, htx, q⟩ := h
  obtain rfl := Vals.ref1 r
  have view : s.heap.IsItemsView p a := (show ObjOk X.prog X.w H s.heap p (L2.DX.itemsO p a) from I.hok p _ hp).1
  obtain ⟨z, hsm, vs, rel, dd⟩ := dk_rd I.hok ha
  obtain ⟨o, es, ep, ho, hx, hdat, hke, hpe, hnd⟩ := dd
  have l1 : kvs.length = vs.length := KV.length rel
  have l2 : vs.length = es.size := by rw [← hpe.length]; simp
  have hh : X.A.handled = none := I.ok.hd hc
  have ndk : (kvs.map (·.1)).Nodup := by rw [KV.keys rel]; exact hnd
  refine _root_.DT.sortedI (es := es) (ep := ep) hh view ⟨o, ho, hx, hdat⟩ (by omega) fun h' tk as hk hlt hl hG => ?_
  have lak : as.length = kvs.length := by omega
  have nd : as.Nodup := List.Pairwise.imp (fun h => Nat.ne_of_lt h) hG.rise
  have pr : ∀ (j : Nat) (b : Addr), as[j]? = some b → ∃ (x : Str) (v : V) (u : Value) (t : Tok), kvs[j]? = some (.inr x, v) ∧ RelV v u ∧ h'.get? b = some { cls := .type "tuple", data := .seq #[Value.str x t, u] } := by
    intro j b hj
    obtain ⟨en, he, hg⟩ := hG.pairs j b hj
    have hjl : j < vs.length := by
      have := (List.getElem?_eq_some_iff.mp hj).1
      omega
    obtain ⟨kk, u, e1⟩ : ∃ kk u, vs[j] = (kk, u) := ⟨_, _, rfl⟩
    have hv : vs[j]? = some (kk, u) := by rw [List.getElem?_eq_getElem hjl, e1]
    obtain ⟨hkey, hval⟩ := hpe.get? (e := en) (by simpa using he) hv
    have hjk : j < kvs.length := by omega
    obtain ⟨k2, v2, e2⟩ : ∃ k2 v2, kvs[j] = (k2, v2) := ⟨_, _, rfl⟩
    have hkv : kvs[j]? = some (k2, v2) := by rw [List.getElem?_eq_getElem hjk, e2]
    have hr : k2 = kk ∧ RelV v2 u := by
      have : ∀ {as : List (Key × V)} {bs : List (Key × Value)} {j : Nat} {x : Key × V} {y : Key × Value}, KV as bs → as[j]? = some x → bs[j]? = some y → x.1 = y.1 ∧ RelV x.2 y.2 := by
        intro as bs j x y hab
        unfold KV at hab
        induction hab generalizing j with
        | nil => intro h; simp at h
        | cons h t ih =>
          intro h1 h2
          cases j with
          | zero => simp at h1 h2; subst h1; subst h2; exact h
          | succ j => exact ih (by simpa using h1) (by simpa using h2)
      exact this rel hkv hv
    obtain ⟨rfl, ru⟩ := hr
    obtain ⟨x, ex⟩ := htx (k2, v2) (List.mem_of_getElem? hkv)
    have ex' : k2 = .inr x := ex
    subst ex'
    have hkey' : keyIs (.inr x) en.key = true := hkey
    rcases keyIs_shape hkey' with ⟨i, t, w1, w2⟩ | ⟨y, t, w1, w2⟩
    · cases w1
    · cases w1
      exact ⟨x, v2, u, t, hkv, ru, by rw [hg, w2, hval]⟩
  -- the heap of the sort
  have hob : (h'.push { cls := .type "list", data := .seq (as.map Value.ref).toArray }).get? h'.objs.size = some (seqObj "list" (as.map Value.ref).toArray 0) := Heap.get?_push_size _ rfl
  have ne0 : ∀ b o, h'.get? b = some o → b ≠ h'.objs.size := fun b o e => Nat.ne_of_lt (Heap.lt_size e)
  have kb : ∀ b o, s.heap.get? b = some o → (h'.push { cls := .type "list", data := .seq (as.map Value.ref).toArray }).get? b = some o := fun b o e => Heap.get?_push_of_some _ (hk b o e)
  generalize hh2 : h'.push { cls := .type "list", data := .seq (as.map Value.ref).toArray } = h2 at hob kb ⊢
  have ka : ∀ b o, h'.get? b = some o → h2.get? b = some o := fun b o e => by rw [← hh2]; exact Heap.get?_push_of_some _ e
  have hex : ∀ v ∈ as.map Value.ref, ∃ pq : Str × Value, IsPairT h2 v pq.1 pq.2 := by
    intro v hv
    obtain ⟨b, hb, rfl⟩ := List.mem_map.mp hv
    obtain ⟨j, hj⟩ := List.mem_iff_getElem?.mp hb
    obtain ⟨x, v, u, t, _, _, hg⟩ := pr j b hj
    exact ⟨(x, u), b, _, t, 0, rfl, ka _ _ hg, rfl, rfl⟩
  obtain ⟨k, hkk⟩ : ∃ k : Value → Str × Value, ∀ v ∈ as.map Value.ref, IsPairT h2 v (k v).1 (k v).2 := by
    classical
    refine ⟨fun v => if hv : v ∈ as.map Value.ref then (hex v hv).choose else (⟨#[]⟩, .none), fun v hv => ?_⟩
    simp only [dif_pos hv]
    exact (hex v hv).choose_spec
  have kat : ∀ (j : Nat) (b : Addr) (e : Key × V), as[j]? = some b → kvs[j]? = some e → e.1 = .inr (k (.ref b)).1 := by
    intro j b e hj he
    obtain ⟨x, v, u, t, h1, _, hg⟩ := pr j b hj
    obtain ⟨b', o', t', n', e1, h3, _, h4⟩ := hkk (.ref b) (List.mem_map.mpr ⟨b, List.mem_of_getElem? hj, rfl⟩)
    cases e1
    rw [ka _ _ hg] at h3
    cases h3
    rw [h1] at he
    cases he
    have h5 : (#[Value.str x t, u] : Array Value) = #[.str (k (.ref b)).1 t', (k (.ref b)).2] := by
      injection h4
    have h6 : Value.str x t = .str (k (.ref b)).1 t' := by
      have := congrArg (fun z : Array Value => z[0]?) h5
      simpa using this
    injection h6 with h7
    rw [← h7]
  have at_ : ∀ v ∈ as.map Value.ref, ∃ (j : Nat) (b : Addr) (e : Key × V), v = .ref b ∧ as[j]? = some b ∧ kvs[j]? = some e := by
    intro v hv'
    obtain ⟨b, hb, rfl⟩ := List.mem_map.mp hv'
    obtain ⟨j, hj⟩ := List.mem_iff_getElem?.mp hb
    obtain ⟨x, v, _, _, he, _⟩ := pr j b hj
    exact ⟨j, b, _, rfl, hj, he⟩
  have hdis : ∀ v ∈ as.map Value.ref, ∀ u ∈ as.map Value.ref, (k v).1 = (k u).1 → v = u := by
    intro v hv u hu heq
    obtain ⟨j, b, e, rfl, hj, he⟩ := at_ v hv
    obtain ⟨j2, b2, e2, rfl, hj2, he2⟩ := at_ u hu
    have a1 := kat j b e hj he
    have a2 := kat j2 b2 e2 hj2 he2
    rw [heq, ← a2] at a1
    have m1 : (kvs.map (·.1))[j]? = some e.1 := by rw [List.getElem?_map, he]; rfl
    have m2 : (kvs.map (·.1))[j2]? = some e.1 := by rw [List.getElem?_map, he2, a1]; rfl
    have ej : j = j2 := (List.getElem?_inj (List.getElem?_eq_some_iff.mp m1).1 ndk).mp (m1.trans m2.symm)
    subst ej
    rw [hj] at hj2
    cases hj2
    rfl
  have hlsz : (as.map Value.ref).length ≤ sizeLine := by rw [List.length_map]; omega
  refine wpAny_call_entry PyProof.Rows.slot_list_sort ⟨_, hob, rfl⟩ PyProof.Rows.entry_list_sort
    (list_sort_ord (s := { s with heap := h2, toks := tk }) (swo_ltK k) hob hlsz (fun h22 => pairsT_sortable (by omega) hkk hdis fun o e => by
      have e' : some o = some (seqObj "list" (as.map Value.ref).toArray 0) := e.symm.trans hob
      cases e'
      intro c
      exact absurd (Value.type.inj c) (by decide)) fun out hs hb => ⟨.none, rfl, ?_⟩) (PyProof.Rows.args_list_sort _)
  show EP X pins σ Q (.ref h'.objs.size) { s with heap := sortedHeap h2 h'.objs.size (as.map Value.ref) out.toArray, toks := tk }
  obtain ⟨zs, pz, ez⟩ := L2.perm_lift (fun z : Addr × Key × V => Value.ref z.1) hb.perm (as.zip kvs) (zip_refs as kvs lak)
  have idx : ∀ z ∈ zs, ∃ j : Nat, as[j]? = some z.1 ∧ kvs[j]? = some z.2 := by
    intro z' hz'
    obtain ⟨j, hj⟩ := List.mem_iff_getElem?.mp (pz.mem_iff.mp hz')
    exact ⟨j, List.getElem?_zip_eq_some.mp hj⟩
  have hperm : (zs.map (·.2)).Perm kvs := by
    have e := pz.map (·.2)
    have m2 : (as.zip kvs).map (·.2) = kvs := List.map_snd_zip (by rw [lak]; exact Nat.le_refl _)
    rw [m2] at e
    exact e
  have hsort : (zs.map (·.2)).Pairwise (fun e f => leT (keyTx e.1) (keyTx f.1) = true) := by
    have hs2 : out.Pairwise (fun x y => ltK k y x = false) := hs
    rw [← ez, List.pairwise_map] at hs2
    rw [List.pairwise_map]
    refine List.Pairwise.imp_of_mem (fun {x y} hx hy h => ?_) hs2
    obtain ⟨j, j1, j2⟩ := idx x hx
    obtain ⟨i, i1, i2⟩ := idx y hy
    have a1 := kat j _ _ j1 j2
    have a2 := kat i _ _ i1 i2
    rw [a1, a2]
    have := ltK_no.mp h
    exact decide_eq_true this
  have kF : ∀ b o, b ≠ h'.objs.size → h2.get? b = some o → (sortedHeap h2 h'.objs.size (as.map Value.ref) out.toArray).get? b = some o := fun b o hb e => (PyProof.Rows.sortedHeap_old hb (Heap.lt_size e)).trans e
  have kS : ∀ b o, s.heap.get? b = some o → (sortedHeap h2 h'.objs.size (as.map Value.ref) out.toArray).get? b = some o := fun b o e => kF b o (ne0 _ _ (hk b o e)) (kb b o e)
  obtain ⟨eF, heF⟩ := PyProof.Rows.sortedHeap_at (vs := as.map Value.ref) (out := out.toArray) hob
  have I1 : L2.Inv X pins σ H { s with heap := sortedHeap h2 h'.objs.size (as.map Value.ref) out.toArray, toks := tk } := I.kept (t' := tk) kS
  have hn0 : H h'.objs.size = none := I.hok.fresh (Nat.le_of_lt hlt)
  have hlen : (zs.map fun z => V.ref z.1).length ≤ sizeLine := by
    have e := hperm.length_eq
    rw [List.length_map] at e
    rw [List.length_map]
    omega
  have hout : out = zs.map fun z => Value.ref z.1 := ez.symm
  have rv : Vals (zs.map fun z => V.ref z.1) out := by
    rw [hout]
    exact vals_maps (fun z : Addr × Key × V => V.ref z.1) (fun z => Value.ref z.1) zs fun _ _ => rfl
  have I2 : L2.Inv X pins σ (upd H h'.objs.size (.lst (zs.map fun z => V.ref z.1))) { s with heap := sortedHeap h2 h'.objs.size (as.map Value.ref) out.toArray, toks := tk } :=
    I1.take (h' := sortedHeap h2 h'.objs.size (as.map Value.ref) out.toArray) (t' := tk) (fun b ob _ e => e) (I.fpOk (Nat.le_of_lt hlt) hn0) ⟨hlen, out, eF, rv, heF⟩
  obtain ⟨H2, I3, g, qt⟩ := L2.DX.takeT (P := fun b vs => ∃ (j : Nat) (x : Str) (v : V), as[j]? = some b ∧ kvs[j]? = some (.inr x, v) ∧ vs = [V.str x, v]) I as _ I2 nd fun b hb => by
    obtain ⟨j, hj⟩ := List.mem_iff_getElem?.mp hb
    obtain ⟨x, v, u, t, he, ru, hg⟩ := pr j b hj
    have hbl : s.heap.objs.size ≤ b := Nat.le_of_lt (hG.above b hb)
    refine ⟨hbl, ?_, [.str x, v], ⟨j, x, v, hj, he, rfl⟩, fun H3 => ⟨(by rw [sizeLine_eq]; show 2 ≤ 16777216; omega), [Value.str x t, u], .cons ⟨t, rfl⟩ (.cons ru .nil), ⟨_, kF _ _ (ne0 _ _ hg) (ka _ _ hg), rfl, 0, rfl⟩⟩⟩
    rw [upd_ne (ne0 _ _ hg)]
    exact I.hok.fresh hbl
  have gr : ∀ b o, H b = some o → H2 b = some o := fun b o e => g b o (by rw [upd_ne (ne_of_none e hn0)]; exact e)
  refine ⟨.ref h'.objs.size, H2, I3, rfl, q H2 h'.objs.size zs gr hperm hsort (g _ _ upd_same) hn0 fun z' hz' => ?_⟩
  obtain ⟨i, i1, i2⟩ := idx z' hz'
  refine ⟨I.hok.fresh (Nat.le_of_lt (hG.above _ (List.mem_of_getElem? i1))), ?_⟩
  obtain ⟨vs, ⟨j, x, v, j1, j2, ev⟩, hH⟩ := qt z'.1 (List.mem_of_getElem? i1)
  have eij : i = j := (List.getElem?_inj (List.getElem?_eq_some_iff.mp i1).1 nd).mp (i1.trans j1.symm)
  subst eij
  have ee : (.inr x, v) = z'.2 := Option.some.inj (j2.symm.trans i2)
  rw [ev] at hH
  rw [← ee]
  exact hH
end DL
/-! text DLSortI2 -/
namespace DL
open PySem PySem.Spec PyProof.Rows L2
def txOf : PyData → Str
  | .str z => z
  | _ => ⟨#[]⟩
def wSortI (fa : WE) : WE := fun env st Q => fa env st fun r st1 => isDc r fun kvs => (∀ e ∈ kvs, ∃ z, e.1 = .str z) ∧ ∀ ps : List (PyData × PyData), ps.Perm kvs → ps.Pairwise (fun e f => leT (txOf e.1) (txOf f.1) = true) → Q (.d (.list (ps.map fun p => .tuple [p.1, p.2]))) st1
section
variable {X : Cx} {K : PySem.W.Frag} {mg : Str → Option Value} {F H F' H' : Hp} {ad ad' : List Addr} {env : Env} {st : Store} {σ : L2.St} {v : V} {d : PyData} {e : Expr} {f : WE} {pos p apos cpos : Pos} {td : TE}
theorem pe_itemsV (he : PE X e td) (hbase : attributeBase e "items" X.env (eval e X.env) = eval e X.env := by rfl) (hline : (apos.endLine == cpos.line) = true := by rfl) :
    PE X (.Call (.Attribute e "items" apos) [] [] cpos) (fun σ H Q => td σ H fun x H1 => ∃ d kvs, x = .ref d ∧ Rd H1 d (.dK kvs) ∧ ∀ p, H1 p = none → Q (.ref p) (upd H1 p (L2.DX.itemsO p d))) := by
  refine ⟨fun pins s σ H Q I h => ?_⟩
  refine wpAny_Call_method (T := "dict") (id := "dict.items") hbase rfl hline PySem.F.plainAttrs_dict PySem.F.slot_dict_items PySem.F.type_dict_items (thn (he.run pins s σ H _ I h) fun u s1 ⟨x, H1, I1, rx, d, kvs, ex, hd, q⟩ => ?_)
  subst ex
  obtain rfl : u = Value.ref d := rx
  obtain ⟨z, hs, vs, rel, dd⟩ := dk_rd I1.hok hd
  refine ⟨dd.typeIs, dd.mapOf.noDict, ?_⟩
  have hf : H1 s1.heap.objs.size = none := I1.hok.fresh (Nat.le_refl _)
  have fin : EP X pins σ Q (.ref s1.heap.objs.size) { s1 with heap := s1.heap.push { cls := .type "dict_items", data := .fields #[.ref d] } } :=
    ⟨.ref s1.heap.objs.size, upd H1 s1.heap.objs.size (L2.DX.itemsO s1.heap.objs.size d), I1.laid (t' := s1.toks) (fun b u e => Heap.get?_push_of_some _ e) (Nat.le_refl _) (L2.DX.itemsO_ok (Heap.get?_push_size _ rfl)), rfl, q _ hf⟩
  show wpAny _ _ (callWith cpos (.builtin "dict.items") [.ref d] [] []) _ X.xe s1
  exact method_meetsIn PySem.F.slot_dict_items PySem.F.entry_dict_items rfl (PySem.evalArgs_none ⟨rfl, dd.typeIs, PySem.F.args_dict_items_1 _, _, meets_dict_items (mixKind X.prog X.w) d hs, ⟨vs, dd⟩, fin⟩)
theorem rp_pairs {F2 : Hp} : ∀ (ps : List (Addr × Key × V)) (l : List ((Key × V) × (PyData × PyData))), ps.map (·.2) = l.map (·.1) → (∀ z ∈ ps, F2 z.1 = some (.tup [kV z.2.1, z.2.2])) → (∀ q ∈ l, q.2.1 = keyD q.1.1 ∧ Rp K F2 q.1.2 q.2.2 ∧ ∃ z, q.2.1 = .str z) →
    RpAll K F2 (ps.map fun z => V.ref z.1) ((l.map (·.2)).map fun p => PyData.tuple [p.1, p.2])
  | [], [], _, _, _ => .nil
  | [], _ :: _, e, _, _ => by simp at e
  | _ :: _, [], e, _, _ => by simp at e
  | z :: ps, q :: l, e, h1, h2 => by
    simp only [List.map_cons, List.cons.injEq] at e
    obtain ⟨e1, e2, x, e3⟩ := h2 q (List.mem_cons_self ..)
    have hz := h1 z (List.mem_cons_self ..)
    refine .cons (.tup (.no (.inl (.inl hz)) ?_) (.cons ?_ (.cons ?_ .nil))) (rp_pairs ps l e.2 (fun y hy => h1 y (List.mem_cons_of_mem _ hy)) fun y hy => h2 y (List.mem_cons_of_mem _ hy))
    · rw [e3]; rfl
    · rw [e1, e.1]; exact rp_key _
    · rw [e.1]; exact e2
theorem rpKv_zip : ∀ {kvs : List (Key × V)} {ds : List (PyData × PyData)}, RpKv K F kvs ds → ∀ q ∈ kvs.zip ds, q.2.1 = keyD q.1.1 ∧ Rp K F q.1.2 q.2.2
  | [], _, h => by cases h; intro q hq; simp at hq
  | _ :: _, _, h => by
    cases h with
    | cons r rs =>
      intro q hq
      rcases List.mem_cons.mp hq with rfl | hq
      · exact ⟨rfl, r⟩
      · exact rpKv_zip rs q hq
theorem de_sortI (hc : X.calm = true) (ha : PE X e (tE X.K mg f)) (hm : X.mg "sorted" = none) (hbase : attributeBase e "items" X.env (eval e X.env) = eval e X.env := by rfl) (hline : (apos.endLine == cpos.line) = true := by rfl) (hg : Gl X "sorted" := by rfl)
    (he : starEach ((.Call (.Attribute e "items" apos) [] [] cpos) :: []) X.env = (false, eval (.Call (.Attribute e "items" apos) [] [] cpos) X.env) :: starEach [] X.env := by rfl) (hpl : (backTo pos (starEach [] X.env)).any (·.1) = false := by rfl) :
    PE X (.Call (.Name "sorted" p) [.Call (.Attribute e "items" apos) [] [] cpos] [] pos) (tE X.K mg (wSortI f)) :=
  pe_weak (pe_callB (cr_sortK hc) hg hm PyProof.Rows.boot_sorted (L2.pa_cons (pe_itemsV ha hbase hline) L2.pa_nil he) (by decide) (by decide) he hpl) fun σ H Q ⟨F, ad, env, st, P, n, h, k⟩ => by
    refine tE_go n h fun r1 st1 v1 F1 ad1 H1 q x n1 d1 => ?_
    obtain ⟨ds, rfl, htx, q⟩ := isDc_elim q
    obtain ⟨pa, ws, rfl, hR, rw'⟩ := rp_dct_at (ad1 := ad1) n1.rel.fl d1
    refine ⟨pa, ws, rfl, hR, fun p hp => ?_⟩
    have hpa : pa ≠ p := fun w => by
      rcases hR with h | ⟨o, h⟩
      · rw [w, hp] at h; cases h
      · rw [w, hp] at h; cases h
    have zz := rpKv_zip rw'
    have hlen : ws.length = ds.length := rw'.length
    have keys : ∀ e ∈ ws, ∃ z, e.1 = .inr z := by
      intro e he
      obtain ⟨i, hi⟩ := List.mem_iff_getElem?.mp he
      have hil : i < ds.length := by have := (List.getElem?_eq_some_iff.mp hi).1; omega
      have hm : (e, ds[i]) ∈ ws.zip ds := by
        refine List.mem_iff_getElem?.mpr ⟨i, ?_⟩
        rw [List.getElem?_zip_eq_some]
        exact ⟨hi, List.getElem?_eq_getElem hil⟩
      obtain ⟨e1, _⟩ := zz _ hm
      obtain ⟨z, ez⟩ := htx ds[i] (List.getElem_mem hil)
      have e1' : ds[i].1 = keyD e.1 := e1
      rw [ez] at e1'
      cases h : e.1 with
      | inl i => rw [h] at e1'; cases e1'
      | inr z => exact ⟨z, rfl⟩
    refine ⟨p, pa, ws, rfl, upd_same, ?_, keys, fun H2 l ps gr hperm hsort hl hln hps => ?_⟩
    · rcases hR with h | ⟨o, h⟩
      · exact .inl (by rw [upd_ne hpa]; exact h)
      · exact .inr ⟨o, by rw [upd_ne hpa]; exact h⟩
    have gr1 : ∀ b o, H1 b = some o → H2 b = some o := fun b o e => gr b o (by rw [upd_ne (ne_of_none e hp)]; exact e)
    let F2 : Hp := fun b => match F1 b with | some u => some u | none => match H1 b with | none => H2 b | some _ => none
    have F2n : ∀ b, H1 b = none → F2 b = H2 b := fun b hb => by
      have : F1 b = none := n1.rel.fl.none hb
      show (match F1 b with | some u => some u | none => match H1 b with | none => H2 b | some _ => none) = _
      rw [this, hb]
    have g : Grow F1 H1 F2 H2 := by
      refine ⟨fun b u e => ?_, fun b u e => ?_, gr1, fun b hb => ?_⟩
      · show (match F1 b with | some u => some u | none => match H1 b with | none => H2 b | some _ => none) = _
        rw [e]
      · by_cases hf : F1 b = none
        · by_cases hH : H1 b = none
          · rw [F2n b hH] at e; exact .inl e
          · have e' : (match F1 b with | some u => some u | none => match H1 b with | none => H2 b | some _ => none) = some u := e
            obtain ⟨w, hw⟩ := Option.ne_none_iff_exists'.mp hH
            rw [hf, hw] at e'; cases e'
        · obtain ⟨w, hw⟩ := Option.ne_none_iff_exists'.mp hf
          have e' : (match F1 b with | some u => some u | none => match H1 b with | none => H2 b | some _ => none) = some u := e
          rw [hw] at e'
          cases e'
          rcases n1.rel.fl b _ hw with z | ⟨kv, o, ez, z⟩
          · exact .inl (gr1 _ _ z)
          · exact .inr ⟨kv, o, ez, gr1 _ _ z⟩
      · by_cases hH : H1 b = none
        · exact .inr hH
        · refine .inl fun hf => hb ?_
          obtain ⟨w, hw⟩ := Option.ne_none_iff_exists'.mp hH
          show (match F1 b with | some u => some u | none => match H1 b with | none => H2 b | some _ => none) = _
          rw [hf, hw]
    have nH : ∀ b, upd H1 p (L2.DX.itemsO p pa) b = none → H1 b = none := fun b e => by
      by_cases hbp : b = p
      · subst hbp; exact hp
      · rw [upd_ne hbp] at e; exact e
    obtain ⟨l2, pl, el⟩ := L2.perm_lift (fun q : (Key × V) × (PyData × PyData) => q.1) hperm (ws.zip ds) (List.map_fst_zip (by omega))
    have hmem : ∀ q ∈ l2, q.2.1 = keyD q.1.1 ∧ Rp X.K F1 q.1.2 q.2.2 ∧ ∃ z, q.2.1 = .str z := fun q hq => by
      have hq' := pl.mem_iff.mp hq
      obtain ⟨e1, e2⟩ := zz q hq'
      have : q.2 ∈ ds := (List.of_mem_zip (a := q.1) (b := q.2) hq').2
      exact ⟨e1, e2, htx _ this⟩
    have rp : Rp X.K F2 (.ref l) (.list ((l2.map (·.2)).map fun p => PyData.tuple [p.1, p.2])) := by
      refine .lst (by rw [F2n l (nH l hln)]; exact hl) (rp_pairs ps l2 el.symm (fun z hz => ?_) fun q hq => ?_)
      · obtain ⟨a1, a2⟩ := hps z hz
        rw [F2n _ (nH _ a1)]; exact a2
      · obtain ⟨a1, a2, a3⟩ := hmem q hq
        exact ⟨a1, Rp.le g.le _ _ a2, a3⟩
    have hpd : (l2.map (·.2)).Perm ds := by
      have := pl.map (·.2)
      rwa [List.map_snd_zip (by omega)] at this
    have hso : (l2.map (·.2)).Pairwise (fun e f => leT (txOf e.1) (txOf f.1) = true) := by
      rw [← el, List.pairwise_map] at hsort
      rw [List.pairwise_map]
      refine List.Pairwise.imp_of_mem (fun {a b} ha hb h => ?_) hsort
      obtain ⟨a1, _, z1, a3⟩ := hmem a ha
      obtain ⟨b1, _, z2, b3⟩ := hmem b hb
      have ea : keyTx a.1.1 = txOf a.2.1 := by
        rw [a3] at a1 ⊢
        cases hk : a.1.1 with
        | inl i => rw [hk] at a1; cases a1
        | inr w => rw [hk] at a1; cases a1; rfl
      have eb : keyTx b.1.1 = txOf b.2.1 := by
        rw [b3] at b1 ⊢
        cases hk : b.1.1 with
        | inl i => rw [hk] at b1; cases b1
        | inr w => rw [hk] at b1; cases b1; rfl
      rw [← ea, ← eb]; exact h
    exact k _ _ _ F2 ad1 H2 (q _ hpd hso) (x.trans (g.ext ad1)) (n1.grow g) rp
end
end DL
/-! text DLEnum -/
namespace PySem
open Sem (wp)
open AutoSeq1 (wpAny_loadPart')
theorem dl_enum_newT (l : Addr) (items : Array Value) (n : Nat) (dct : Option Addr) (sl : Array (Option Value)) :
    Meets (Builtin.«enumerate.__new__» ⟨[.type "enumerate", .ref l], []⟩) (fun _ R s => s.heap.get? l = some { cls := .type "tuple", dict := dct, data := .seq items n, slots := sl } ∧
      R (.ok (.ret (.ref (s.heap.push { cls := .type "tuple_iterator", data := .fields #[.ref l, .int 0 0] }).objs.size)))
        { s with heap := (s.heap.push { cls := .type "tuple_iterator", data := .fields #[.ref l, .int 0 0] }).push { cls := .type "enumerate", data := .fields #[.none, .bool false, .ref s.heap.objs.size, rawInt 0, .none, .none] } }) :=
  .of_wp fun prog w A R s h => by
    obtain ⟨hp, g, d, tk, os⟩ := s; obtain ⟨hl, h⟩ := h
    have hsub := sub_enumerate
    have hL : Heap.IsTuple (Shared.heap ⟨hp, g, d, tk, os⟩) l items := ⟨_, hl, rfl, n, rfl⟩
    wp_walk using wpAny_loadPart' hl
    refine wpAny_stack_any fun st => wpAny_pure ?_
    split
    · rename_i c _ _ _ _ _
      cases (c == Value.type "enumerate")
      · wp_walk using wpAny_loadPart' hl, wpAny_pyIter_tuple hL
        exact ⟨_, rfl, h⟩
      · wp_walk using wpAny_loadPart' hl, wpAny_pyIter_tuple hL
        exact ⟨_, rfl, h⟩
    · wp_walk using wpAny_loadPart' hl, wpAny_pyIter_tuple hL
      exact ⟨_, rfl, h⟩
section
variable {prog : Program} {w : World} {A : Around} {E : Value → Shared → Prop} {s : Shared}
theorem dl_call_enumT {l : Addr} {items : Array Value} {Q : Value → Shared → Prop} (hL : s.heap.IsTuple l items)
    (h : ∀ h', IsEnum h' (s.heap.objs.size + 1) s.heap.objs.size 0 .none → h'.IsTupleIter s.heap.objs.size l 0 → h'.objs.size = s.heap.objs.size + 2 →
      (∀ b o, s.heap.get? b = some o → h'.get? b = some o) → Q (.ref (s.heap.objs.size + 1)) { s with heap := h' }) :
    wpAny (model prog w) A (call (.type "enumerate") [.ref l]) Q E s := by
  obtain ⟨⟨c, dct, dt, sl⟩, hl, hc, n, hd⟩ := hL
  replace hc : c = .type "tuple" := hc
  replace hd : dt = .seq items n := hd
  subst hc hd
  refine callType_new F.called_enumerate (by decide) (F.typeCall_enumerate_1 _) (F.newCall_enumerate_1 _) (fun obj => F.args_object_init_2 obj _) F.entry_enumerate_new
    (dl_enum_newT l items n dct sl) ⟨hl, ?_⟩
  have hz : (s.heap.push { cls := .type "tuple_iterator", data := .fields #[.ref l, .int 0 0] }).objs.size = s.heap.objs.size + 1 := Heap.size_push ..
  show _ ∧ _
  rw [hz]
  have he : IsEnum ((s.heap.push { cls := .type "tuple_iterator", data := .fields #[.ref l, .int 0 0] }).push
      { cls := .type "enumerate", data := .fields #[.none, .bool false, .ref s.heap.objs.size, rawInt 0, .none, .none] }) (s.heap.objs.size + 1) s.heap.objs.size 0 .none := by
    have := Heap.get?_push_size (s.heap.push { cls := .type "tuple_iterator", data := .fields #[.ref l, .int 0 0] })
      (o := { cls := .type "enumerate", data := .fields #[.none, .bool false, .ref s.heap.objs.size, rawInt 0, .none, .none] }) rfl
    rw [hz] at this; exact this
  refine ⟨⟨_, he, rfl⟩, h _ he ⟨_, Heap.get?_push_of_some _ (Heap.get?_push_size _ rfl), rfl, rfl⟩ (by rw [Heap.size_push, hz]) fun b o x => Heap.get?_push_of_some _ (Heap.get?_push_of_some _ x)⟩
end
end PySem
namespace DL
open PySem PySem.Spec PyProof.Rows L2
/-- a tuple's items, numbered -/
def ItNT (K : PySem.W.Frag) (a : Addr) : It :=
  ⟨fun i H => ∃ (xs : List V) (x : V), SqT K H a xs ∧ xs[i]? = some x, fun i H v H' => ∃ T x, v = .ref T ∧ H T = none ∧ H' = upd H T (.tup [.int (i : Nat), x]) ∧ ∀ xs, SqT K H a xs → xs[i]? = some x, fun i H => ∃ xs : List V, SqT K H a xs ∧ xs.length ≤ i⟩
theorem turn_numT {P : Program} {w : World} {K : PySem.W.Frag} {elts : List Expr} {kk : Nat} {tpos : Pos} (a e it : Addr) (hai : a ≠ it) (hea : e ≠ a) :
    Turn P w K (.Tuple elts kk tpos) (ItNT K a) [e, it] e (fun i h => (∃ old, IsEnum h e it ((i : Nat) : Int) old) ∧ h.IsTupleIter it a i ∧ e ≠ it) where
  mem := by simp
  obj := fun i h st b hb => by
    obtain ⟨⟨old, he⟩, ⟨o, ho, hc, hd⟩, _⟩ := st
    have e' : b = e ∨ b = it := by simpa using hb
    rcases e' with z | z
    · rw [z]; exact ⟨_, he, fun v q => nomatch q⟩
    · rw [z]; exact ⟨o, ho, fun v q => by rw [hd] at q; cases q⟩
  keep := fun i h h' st k => let ⟨⟨old, he⟩, hi, hne⟩ := st; ⟨⟨old, k e (by simp) _ he⟩, hi.at fun o q => k it (by simp) o q, hne⟩
  item := by
    intro X hP hw hK hc i pins s σ H E I hf st hg
    subst hP hw hK
    obtain ⟨⟨old, he⟩, hit, hne⟩ := st
    obtain ⟨xs, x, hq, hx⟩ := hg
    obtain ⟨its, rv, p, hz⟩ := I.tuple hq
    obtain ⟨u, hu, ru⟩ := rv.get hx
    have hel : e < s.heap.objs.size := Heap.lt_size he
    have hil : it < s.heap.objs.size := by obtain ⟨_, q, _⟩ := hit; exact Heap.lt_size q
    have hi : i < its.toArray.size := by
      have := (List.getElem?_eq_some_iff.mp hu).1
      simpa using this
    refine wpAny_pyNext_enum_itemD (Draws.tuple (prog := X.prog) (w := X.w) (A := X.A.in1) (I.ok.hd hc) it a hai its.toArray) he ⟨hit, p⟩ hi hne (by simp; exact ⟨hne, hea⟩) fun x0 h' tk hp ho hst hT hsz hk => ?_
    have ex : x0 = u := by
      have h1 : its.toArray[i]? = some x0 := hp
      have h2 : its.toArray[i]? = some u := by simpa using hu
      rw [h1] at h2; exact Option.some.inj h2
    subst ex
    refine ⟨_, rfl, wpAny_letOwnedTupleGo_enum (s := { s with heap := h', toks := tk + 1 }) ho fun h'' he' sb => ?_⟩
    have hT2 : h''.get? s.heap.objs.size = some { cls := .type "tuple", data := .seq #[.int i tk, x0] } := (sb.2 _ (Nat.ne_of_gt hel)).trans hT
    have new : ObjOk X.prog X.w (upd H s.heap.objs.size (.tup [.int (i : Nat), x])) h'' s.heap.objs.size (.tup [.int (i : Nat), x]) :=
      ⟨by show 2 ≤ sizeLine; decide, [.int i tk, x0], .cons ⟨_, rfl⟩ (.cons ru .nil), ⟨_, hT2, rfl, _, rfl⟩⟩
    have I1 : L2.Inv X pins σ (upd H s.heap.objs.size (.tup [.int (i : Nat), x])) { s with heap := h'', toks := tk + 1 } :=
      I.turnedNew (ch := [e, it]) (fun b ob hb q => (sb.2 b (fun z => hb (by simp [z]))).trans (hk b ob (fun z => hb (by simp [z])) (fun z => hb (by simp [z])) q)) hf (Nat.le_refl _) new
    refine ⟨.ref s.heap.objs.size, _, I1, rfl, ⟨_, x, rfl, I.hok.fresh (Nat.le_refl _), rfl, fun ys hy => by rw [I.tuple_inj hy hq]; exact hx⟩, ⟨⟨x0, ?_⟩, hst.1.at fun o q => (sb.2 it (Ne.symm hne)).trans q, hne⟩, fun b hb => ?_⟩
    · have e1 : ((i + 1 : Nat) : Int) = (i : Int) + 1 := by omega
      rw [e1]; exact he'
    · have hb' : b < s.heap.objs.size := by
        have e' : b = e ∨ b = it := by simpa using hb
        rcases e' with z | z
        · rw [z]; exact hel
        · rw [z]; exact hil
      rw [upd_ne (Nat.ne_of_lt hb')]
      exact (hf b hb).1
  done := by
    intro X hP hw hK hc i pins s σ H E I hf st hg
    subst hP hw hK
    obtain ⟨⟨old, he⟩, hit, hne⟩ := st
    obtain ⟨xs, hq, hx⟩ := hg
    obtain ⟨its, rv, p, hz⟩ := I.tuple hq
    obtain ⟨f0, f1, f2, f3, f4, f5⟩ := hf it (by simp)
    have hl := rv.length
    have hT : s.TypeIs (.ref e) "enumerate" := ⟨_, he, rfl⟩
    unfold pyNext
    refine wpAny_bind (wpAny_attempt (wpAny_callSpecial?_slot (name := Str.ofString "__next__") hT PySem.F.slot_enumerate_next
      (wpAny_call_entry PySem.F.slot_enumerate_next hT PySem.F.entry_enumerate_next ?_ (PySem.F.args_enumerate_next_1 _))))
    show wpAny _ _ (field (.ref e) 2 >>= _) _ _ _
    refine wpAny_bind (wpAny_field he rfl (x := .ref it) rfl ?_)
    refine wpAny_bind (wpAny_nextOf_tuple_end (I.ok.hd hc) hit (show s.heap.IsTuple a its.toArray from p) (by simp; omega) fun h' x he' hx' => ?_)
    obtain ⟨o, ho, hc'⟩ := hx'
    refine wpAny_bind (wpAny_isInstance (T := "StopIteration") (b := true) ⟨o, ho, hc'⟩ isSubtype_stop ?_)
    exact wpAny_pure ⟨rfl, I.turned (t' := s.toks) (fun b o hb q => he' b o hb q) f0 f1 f3 f4 f5⟩
  self := fun A i s Q E st h => let ⟨⟨_, he⟩, _⟩ := st; wpAny_pyIter_enum he h
/-- enumerate(list or tuple) -/
def iNum (K : PySem.W.Frag) (ta : TA) : TI := fun σ H R => ta σ H fun vs H1 => ∃ a xs, vs = [.ref a] ∧ ((SqL K H1 a xs ∧ (xs.length ≤ sizeLine → R (Ite K a) H1)) ∨ (SqT K H1 a xs ∧ (xs.length ≤ sizeLine → R (ItNT K a) H1)))
theorem pi_num {X : Cx} {e : Expr} {ta : TA} {p pos tpos : Pos} {elts : List Expr} {kk : Nat} (hg : Gl X "enumerate") (hm : X.mg "enumerate" = none) (ha : PA X [e] ta) (hs : starEach [e] X.env = [(false, eval e X.env)] := by rfl) :
    PI X (.Tuple elts kk tpos) (.Call (.Name "enumerate" p) [e] [] pos) (iNum X.K ta) := by
  refine ⟨fun pins s σ H R I h => ?_⟩
  refine wpAny_Call_Name_kw (ld_blt I hg hm boot_enumerate (PyProof.Rows.callWith_type1 (thn (ha.run pos pins s σ H _ I h) fun us s1 ⟨vs, H1, I1, r1, q1⟩ => ?_) hs rfl))
  obtain ⟨a, xs, ex, q⟩ := q1
  subst ex
  cases r1 with
  | cons r rr =>
    cases rr
    cases r
    have fresh2 : ∀ b ∈ [s1.heap.objs.size + 1, s1.heap.objs.size], s1.heap.objs.size ≤ b := fun b hb => by
      have e' : b = s1.heap.objs.size + 1 ∨ b = s1.heap.objs.size := by simpa using hb
      rcases e' with z | z
      · rw [z]; exact Nat.le_add_right _ _
      · rw [z]; exact Nat.le_refl _
    rcases q with ⟨hq, q⟩ | ⟨hq, q⟩
    · obtain ⟨its, rv, p', hz⟩ := I1.list hq
      refine call_enumerate_list p'.isList fun h' he hit hsz hk => wpAny_pyIter_enum he ?_
      have I2 : L2.Inv X pins σ H1 { s1 with heap := h' } := I1.kept (t' := s1.toks) hk
      exact ⟨s1.heap.objs.size + 1, [s1.heap.objs.size + 1, s1.heap.objs.size], _, _, H1, rfl, I2, turn_enum a (s1.heap.objs.size + 1) s1.heap.objs.size, ⟨⟨.none, he⟩, hit, Nat.succ_ne_self _⟩, fun b hb => I1.fpOk (fresh2 b hb) (I1.hok.fresh (fresh2 b hb)), q hz⟩
    · obtain ⟨its, rv, p', hz⟩ := I1.tuple hq
      have hlt : a < s1.heap.objs.size := by obtain ⟨o, ho, _⟩ := p'; exact Heap.lt_size ho
      refine dl_call_enumT (show s1.heap.IsTuple a its.toArray from p') fun h' he hit hsz hk => wpAny_pyIter_enum he ?_
      have I2 : L2.Inv X pins σ H1 { s1 with heap := h' } := I1.kept (t' := s1.toks) hk
      exact ⟨s1.heap.objs.size + 1, [s1.heap.objs.size + 1, s1.heap.objs.size], _, _, H1, rfl, I2, turn_numT a (s1.heap.objs.size + 1) s1.heap.objs.size (Nat.ne_of_lt hlt) (Nat.ne_of_gt (Nat.lt_succ_of_lt hlt)), ⟨⟨.none, he⟩, hit, Nat.succ_ne_self _⟩, fun b hb => I1.fpOk (fresh2 b hb) (I1.hok.fresh (fresh2 b hb)), q hz⟩
section
variable {X : Cx} {K : PySem.W.Frag} {mg : Str → Option Value} {F H F' H' : Hp} {ad ad' : List Addr} {env : Env} {st : Store} {σ : L2.St} {e : Expr} {f : WE} {pos p : Pos}
theorem enumL_get : ∀ {xs : List PyData} {m i : Nat} {x : DV}, (enumL m xs)[i]? = some x → ∃ y, xs[i]? = some y ∧ x = .d (.tuple [.int ((m + i : Nat) : Int), y])
  | [], _, _, _, h => by simp [enumL] at h
  | y :: ys, m, 0, x, h => by
    simp [enumL] at h
    exact ⟨y, rfl, by rw [← h]; simp⟩
  | y :: ys, m, i + 1, x, h => by
    have h' : (enumL (m + 1) ys)[i]? = some x := by simpa [enumL] using h
    obtain ⟨z, e1, e2⟩ := enumL_get h'
    refine ⟨z, by simpa using e1, ?_⟩
    rw [e2]
    have : m + 1 + i = m + (i + 1) := by omega
    rw [this]
theorem enumL_len : ∀ (xs : List PyData) (m : Nat), (enumL m xs).length = xs.length
  | [], _ => rfl
  | _ :: ys, m => by simp [enumL, enumL_len ys]
theorem numPair {F1 H1 : Hp} {T : Addr} {w : V} {y : PyData} {i : Nat} (fl : FLe F1 H1) (hT : H1 T = none) (r : Rp K F1 w y) : Grow F1 H1 (upd F1 T (.tup [.int (i : Nat), w])) (upd H1 T (.tup [.int (i : Nat), w])) ∧ Rp K (upd F1 T (.tup [.int (i : Nat), w])) (.ref T) (.tuple [.int ((0 + i : Nat) : Int), y]) := by
  have g := grow_new (o := .tup [.int (i : Nat), w]) fl hT (fl.none hT)
  refine ⟨g, ?_⟩
  rw [Nat.zero_add]
  exact Rp.tup (.no (.inl (.inl upd_same)) rfl) (.cons (.int _) (.cons (Rp.le g.le _ _ r) .nil))
theorem itok_numL {a : Addr} {vs : List V} {xs : List PyData} (h : F a = some (.lst vs)) (r : RpAll K F vs xs) (hz : vs.length ≤ sizeLine) : ItOk K mg (Ite K a) (enumL 0 xs) F H ad := by
  have at_ : ∀ {F1 H1 : Hp}, LeH F F1 → FLe F1 H1 → H1 a = some (.lst vs) := fun le fl => by
    rcases fl _ _ (le _ _ h) with z | ⟨_, _, z, _⟩
    · exact z
    · cases z
  refine ⟨by rw [enumL_len, ← r.length]; exact hz, fun F1 H1 ad1 st1 i x le R e => ?_, fun F1 H1 ad1 st1 i x le R e v H2 hy => ?_, fun F1 H1 ad1 st1 i le R e => ?_⟩
  · obtain ⟨y, ey, rfl⟩ := enumL_get e
    obtain ⟨w, ew, _⟩ := r.get ey
    exact ⟨vs, w, .inl (.inl (at_ le.le R.fl)), ew⟩
  · obtain ⟨y, ey, rfl⟩ := enumL_get e
    obtain ⟨w, ew, rw'⟩ := r.get ey
    obtain ⟨T, w2, rfl, hT, rfl, hv⟩ := hy
    have := hv vs (.inl (.inl (at_ le.le R.fl)))
    rw [ew] at this
    cases this
    obtain ⟨g, rp⟩ := numPair (i := i) R.fl hT (Rp.le le.le _ _ rw')
    exact ⟨_, g.ext ad1, fun _ _ z => z.grow g, rp⟩
  · exact ⟨vs, .inl (.inl (at_ le.le R.fl)), by rw [enumL_len, ← r.length] at e; exact e⟩
theorem itok_numT {a : Addr} {vs : List V} {xs : List PyData} (h : SqT K F a vs) (r : RpAll K F vs xs) (hz : vs.length ≤ sizeLine) : ItOk K mg (ItNT K a) (enumL 0 xs) F H ad := by
  have at_ : ∀ {F1 H1 : Hp}, LeH F F1 → FLe F1 H1 → SqT K H1 a vs := fun le fl => fl.seqT (sqT_le le h)
  refine ⟨by rw [enumL_len, ← r.length]; exact hz, fun F1 H1 ad1 st1 i x le R e => ?_, fun F1 H1 ad1 st1 i x le R e v H2 hy => ?_, fun F1 H1 ad1 st1 i le R e => ?_⟩
  · obtain ⟨y, ey, rfl⟩ := enumL_get e
    obtain ⟨w, ew, _⟩ := r.get ey
    exact ⟨vs, w, at_ le.le R.fl, ew⟩
  · obtain ⟨y, ey, rfl⟩ := enumL_get e
    obtain ⟨w, ew, rw'⟩ := r.get ey
    obtain ⟨T, w2, rfl, hT, rfl, hv⟩ := hy
    have := hv vs (at_ le.le R.fl)
    rw [ew] at this
    cases this
    obtain ⟨g, rp⟩ := numPair (i := i) R.fl hT (Rp.le le.le _ _ rw')
    exact ⟨_, g.ext ad1, fun _ _ z => z.grow g, rp⟩
  · exact ⟨vs, at_ le.le R.fl, by rw [enumL_len, ← r.length] at e; exact e⟩
theorem di_enum {elts : List Expr} {kk : Nat} {tpos : Pos} (he : PE X e (tE X.K mg f)) (hm : X.mg "enumerate" = none) (hg : Gl X "enumerate" := by rfl) (hs0 : starEach (e :: []) X.env = (false, eval e X.env) :: starEach [] X.env := by rfl) (hs : starEach [e] X.env = [(false, eval e X.env)] := by rfl) :
    PI X (.Tuple elts kk tpos) (.Call (.Name "enumerate" p) [e] [] pos) (tWI X.K mg (iEnumD f)) :=
  pi_weak (pi_num hg hm (L2.pa_cons he L2.pa_nil hs0) hs) fun σ H R ⟨F, ad, env, st, P, n, h, k⟩ => by
    refine tE_go n h fun r st1 v F1 ad1 H1 q x n1 d1 => ?_
    cases r with
    | d y =>
      obtain ⟨xs, ex, q⟩ := optK_elim q
      have d1' : Rp X.K F1 v y := d1
      cases y with
      | list ys =>
        cases ex
        cases d1' with
        | @lst a vs _ ea ra =>
          have hl : H1 a = some (.lst vs) := (n1.rel.fl _ _ ea).elim (fun z => z) fun ⟨_, _, z, _⟩ => nomatch z
          exact ⟨a, vs, rfl, .inl ⟨.inl (.inl hl), fun hz => k _ _ _ _ _ _ q x n1 (itok_numL ea ra hz)⟩⟩
      | tuple ys =>
        cases ex
        cases d1' with
        | @tup a vs _ ea ra => exact ⟨a, vs, rfl, .inr ⟨n1.rel.fl.seqT ea.sq, fun hz => k _ _ _ _ _ _ q x n1 (itok_numT ea.sq ra hz)⟩⟩
      | _ => cases ex
    | loc _ => exact q.elim
    | fn _ => exact q.elim
    | scr _ => exact q.elim
end
end DL
/-! text DLKw -/
namespace DL
open PySem PySem.Spec PyProof.Rows L2
/-- f(k = a, ..) alone: which value goes where -/
def pick {α : Type} (π : List Nat) (l : List α) : List α := π.filterMap fun i => l[i]?
theorem pick_vals {vs : List V} {us : List Value} (h : Vals vs us) : ∀ π : List Nat, Vals (pick π vs) (pick π us)
  | [] => .nil
  | i :: π => by
    have ih := pick_vals h π
    have hl := h.length
    unfold pick at *
    rw [List.filterMap_cons, List.filterMap_cons]
    cases q : vs[i]? with
    | none =>
      have : us[i]? = none := by
        rw [List.getElem?_eq_none_iff] at q ⊢
        omega
      rw [this]; exact ih
    | some v =>
      obtain ⟨u, hu, r⟩ := h.get q
      rw [hu]
      exact .cons r ih
theorem pick_dvrs {K : PySem.W.Frag} {mg : Str → Option Value} {F : Hp} {ad : List Addr} {vs : List V} {rs : List DV} (h : DVRs K mg F ad vs rs) : ∀ π : List Nat, DVRs K mg F ad (pick π vs) (pick π rs)
  | [] => .nil
  | i :: π => by
    have ih := pick_dvrs h π
    have hl := h.length
    unfold pick at *
    rw [List.filterMap_cons, List.filterMap_cons]
    cases q : rs[i]? with
    | none =>
      have : vs[i]? = none := by
        rw [List.getElem?_eq_none_iff] at q ⊢
        omega
      rw [this]; exact ih
    | some v =>
      obtain ⟨u, hu, r⟩ := h.get q
      rw [hu]
      exact .cons r ih
def wCallK (sp : SpD) (π : List Nat) (E : EK) (fs : WA) : WE := fun env st Q => fs env st fun rs st1 => sp (pick π rs) st1 Q E
structure HasK (P : Program) (w : World) (K : PySem.W.Frag) (mg : Str → Option Value) (base : Heap) (k : Nat) (x : Str) (ps : List Str) (sp : SpD) (ks : List Str) (π : List Nat) : Prop where
  ex : ∃ f fd, mg x = some (.ref f) ∧ PySem.W.keepIn K (.ref f) = true ∧ (∀ (s : Shared) (ws : List Value), ws.length = ks.length → BindsTo s fd ⟨[], ks.zip ws⟩ (ps.zip (pick π ws))) ∧ FnG P w K mg base CX0 k f fd ps (spV K mg ps.length sp)
  ar : ∀ args st P PE, sp args st P PE → args.length = ps.length
theorem HasK.mono {P : Program} {w : World} {K : PySem.W.Frag} {mg : Str → Option Value} {base : Heap} {j k : Nat} {x : Str} {ps ks : List Str} {sp : SpD} {π : List Nat} (h : HasK P w K mg base j x ps sp ks π) (hk : j ≤ k) : HasK P w K mg base k x ps sp ks π :=
  ⟨let ⟨f, fd, a, b, c, d⟩ := h.ex; ⟨f, fd, a, b, c, d.mono hk⟩, h.ar⟩
theorem hasKw_of {P : Program} {w : World} {K : PySem.W.Frag} {mg : Str → Option Value} {base : Heap} {x : Str} {st : Stmt} {N ps ks : List Str} {k : Nat} {sp : SpD} {body : EK → WS} {π : List Nat} (h : Fn1 K mg x st) (S : FnScope N ps (defScope st))
    (hb : ∀ (kV doc pm : Value) (an : Option Addr) (cdv ct : Value) (ws : List Value), ws.length = ks.length → bindArgs (PySem.W.fnOf x x (defArgs st) (defBody st) (defScope st) .none kV doc pm an cdv ct) ⟨[], ks.zip ws⟩ = pure (ps.zip (pick π ws)))
    (ar : ∀ args st P PE, sp args st P PE → args.length = ps.length) (hk : Keeps N.length sp body)
    (hd : ∀ (f : Addr) (cdv : Value) (A : Around) (outer : List PySem.Env) (s : Shared) (H : Hp) (E : XK) (EE : EK), Room1 k (A.deeper (envOfC x (defScope st) s.heap.objs.size f cdv)) →
      PSs (cxOf CX0 P w K mg base N x (defScope st) f cdv A outer s H E).nox (defBody st) (tS K mg (body EE))) : HasK P w K mg base (k + 1) x ps sp ks π := by
  obtain ⟨f, fd, hm, Fu⟩ := h
  refine ⟨⟨f, fd, hm, Fu.kp, fun s ws hl => ?_, fn_keep Fu S ar hk (hd f)⟩, ar⟩
  obtain ⟨oc, od, kV, doc, pm, an, cdv, ct, osl, rfl, lk, hcd⟩ := Fu.ex
  exact .of_eq (hb kV doc pm an cdv ct ws hl)
section
variable {X : Cx} {K : PySem.W.Frag} {mg : Str → Option Value} {x : Str} {p pos kpos : Pos} {e : Expr} {kws : List Keyword} {f : WE} {fs : WA} {nm : Option Str}
theorem pk_weak {t t' : TA} (h : PK X kws t) (w : ∀ σ H Q, t' σ H Q → t σ H Q) : PK X kws t' := ⟨fun pos pins s σ H Q I q => h.run pos pins s σ H Q I (w σ H Q q)⟩
/-- the values of m arguments -/
def tAn (K : PySem.W.Frag) (mg : Str → Option Value) (m : Nat) (f : WA) : TA := fun σ H Q => ∃ F ad env st P, Now K mg σ F H ad env st ∧ f env st P ∧
  ∀ rs st' vs F' ad' H', P rs st' → Ext F H ad F' H' ad' → Now K mg σ F' H' ad' env st' → DVRs K mg F' ad' vs rs → rs.length = m → Q vs H'
theorem dk_nil : PK X [] (tAn K mg 0 wNil) := pk_weak pk_nil fun σ H Q ⟨F, ad, env, st, P, n, h, k⟩ => k [] st [] F ad H h (Ext.refl _ _ _) n .nil rfl
theorem dk_cons {m : Nat} (ha : PE X e (tE K mg f)) (hr : PK X kws (tAn K mg m fs)) : PK X (⟨nm, e, kpos⟩ :: kws) (tAn K mg (m + 1) (wCons f fs)) :=
  pk_weak (pk_cons ha hr) fun σ H Q ⟨F, ad, env, st, P, n, h, k⟩ => by
    refine tE_go n h fun r1 st1 v1 F1 ad1 H1 p1 x1 n1 d1 => ?_
    exact ⟨F1, ad1, env, st1, _, n1, p1, fun rs st2 vs F2 ad2 H2 p2 x2 n2 d2 l2 => k (r1 :: rs) st2 (v1 :: vs) F2 ad2 H2 p2 (x1.trans x2) n2 (.cons (d1.ext x2) d2) (by simp [l2])⟩
theorem de_callK {k : Nat} {ps ks : List Str} {sp : SpD} {E : EK} {π : List Nat} (h : HasK X.prog X.w X.K X.mg X.base k x ps sp ks π) (hr : Room1 k X.A) (hkw : PK X kws (tAn X.K X.mg ks.length fs)) (hg : Gl X x := by rfl)
    (hall : (backToKw pos (keywordEach kws X.env)).all (·.1.isSome) = true := by rfl) (hks : (backToKw pos (keywordEach kws X.env)).filterMap (·.1) = ks := by rfl) (hdb : (x == ("__debug__" : Str)) = false := by decide)
    (hpl : ((backTo pos (starEach [] X.env)).any (·.1) || (backToKw pos (keywordEach kws X.env)).any (·.1.isNone)) = false := by rfl) : PE X (.Call (.Name x p) [] kws pos) (tE X.K X.mg (wCallK sp π E fs)) := by
  obtain ⟨f, fd, hm, hk, hb, G⟩ := h.ex
  refine ⟨fun pins s σ H Q I hh => wpAny_Call_Name_kw (ld_glob I hg hm ?_ hdb)⟩
  refine PySem.W.callWith_KW0 (h₀ := X.base) I.ok.mod.kin hk hall ?_ hpl
  obtain ⟨F, ad, env, st, P, n, hh, kk⟩ := hh
  have h2 : (tAn X.K X.mg ks.length fs) σ H fun vs H1 => vs.length = ks.length ∧ spV X.K X.mg ps.length sp (pick π vs) H1 Q fun _ _ _ => True := by
    refine ⟨F, ad, env, st, _, n, hh, fun rs st1 vs F1 ad1 H1 p1 x1 n1 d1 l1 => ⟨by rw [d1.length]; exact l1, F1, ad1, st1, pick π rs, P, E, h.ar _ _ _ _ p1, n1.rel, pick_dvrs d1 π, p1, fun r st2 v F2 ad2 H2 p2 x2 r2 d2 => ?_, fun _ _ _ _ _ _ _ _ _ _ _ => trivial⟩⟩
    exact kk r st2 v F2 ad2 H2 p2 (x1.trans x2) ⟨r2, n1.env.ext x2⟩ d2
  refine thn (hkw.run pos pins s σ H _ I h2) fun ws s2 ⟨zs, H2, I2, rz, hl, q2⟩ => ⟨I2.kIn, ?_⟩
  rw [hks]
  have rv := pick_vals rz π
  have go := G.run X.A X.stack s2 H2 ⟨[], ks.zip ws⟩ (pick π ws) (pick π zs) Q (fun _ _ _ => True) hr I2.env0 (hb s2 ws (by rw [← rz.length]; exact hl)) rv q2
  refine wpAny_call (codeAny_mono go fun res s' q => ?_)
  match res, q with
  | .error er, q => exact q.elim
  | .ok (.ret u), q => exact I2.after q
  | .ok .next, q => exact q.elim
  | .ok .brk, q => exact q.elim
  | .ok .cont, q => exact q.elim
end
end DL
/-! text DLKd -/
namespace DL
open PySem PySem.Spec PyProof.Rows L2
/-- a written dict of the module, its keys texts -/
def KDat (K : PySem.W.Frag) (w : World) (mg : Str → Option Value) (x : Str) (kvs : List (PyData × PyData)) : Prop :=
  ∃ d es n, mg x = some (.ref d) ∧ KDict K w d es n ∧ ∀ z : Str, (∃ y u v, lookK kvs (.str z) = some y ∧ PySem.W.nsIn K d z = some (some u) ∧ RelV v u ∧ ∀ F, Rp K F v y) ∨ (lookK kvs (.str z) = none ∧ PySem.W.nsIn K d z = some none)
def wKIn (neg : Bool) (kvs : List (PyData × PyData)) (fa : WE) : WE := fun env st Q => fa env st fun r st1 => isSt r fun z => Q (.d (.bool (if neg = true then !hasK kvs (.str z) else hasK kvs (.str z)))) st1
def wKIx (kvs : List (PyData × PyData)) (fa : WE) : WE := fun env st Q => fa env st fun r st1 => isSt r fun z => optK (lookK kvs (.str z)) fun y => Q (.d y) st1
section
variable {X : Cx} {mg : Str → Option Value} {a : Expr} {fa : WE} {pos p : Pos} {x : Str} {kvs : List (PyData × PyData)}
theorem do_kIn (neg : Bool) {d : Addr} {es : Array DictEntry} {n : Nat} (D : KDict X.K X.w d es n) :
    OpR X (compareOp (if neg = true then .NotIn else .In)) (fun x y H Q => ∃ (z : Str) (r : Option Value), x = .str z ∧ y = .ref d ∧ PySem.W.nsIn X.K d z = some r ∧ Q (.bl (if neg = true then !r.isSome else r.isSome)) H) := by
  cases neg with
  | true => exact op_notIn_kd D
  | false => exact op_in_kd D
theorem w_kIn (neg : Bool) {d : Addr} {σ : L2.St} {H : Hp} {Q : VK}
    (hz : ∀ z : Str, (∃ y u v, lookK kvs (.str z) = some y ∧ PySem.W.nsIn X.K d z = some (some u) ∧ RelV v u ∧ ∀ F, Rp X.K F v y) ∨ (lookK kvs (.str z) = none ∧ PySem.W.nsIn X.K d z = some none))
    (h : tE X.K mg (wKIn neg kvs fa) σ H Q) : tOp (fun x y H Q => ∃ (z : Str) (r : Option Value), x = .str z ∧ y = .ref d ∧ PySem.W.nsIn X.K d z = some r ∧ Q (.bl (if neg = true then !r.isSome else r.isSome)) H) (tE X.K mg fa) (tC (.ref d)) σ H Q := by
  obtain ⟨F, ad, env, st, P, n, h, k⟩ := h
  refine tE_go n h fun r1 st1 v1 F1 ad1 H1 q x n1 d1 => ?_
  obtain ⟨z, rfl, q2⟩ := isSt_elim q
  have d1' : Rp X.K F1 v1 (.str z) := d1
  cases d1'
  rcases hz z with ⟨y, u, v, e1, e2, _⟩ | ⟨e1, e2⟩
  · refine ⟨z, some u, rfl, rfl, e2, ?_⟩
    have : hasK kvs (.str z) = true := by unfold hasK; rw [e1]; rfl
    rw [this] at q2
    exact k _ _ _ _ _ _ q2 x n1 (by cases neg <;> exact Rp.bl _)
  · refine ⟨z, none, rfl, rfl, e2, ?_⟩
    have : hasK kvs (.str z) = false := by unfold hasK; rw [e1]; rfl
    rw [this] at q2
    exact k _ _ _ _ _ _ q2 x n1 (by cases neg <;> exact Rp.bl _)
theorem de_kNotIn (h : KDat X.K X.w X.mg x kvs) (ha : PE X a (tE X.K mg fa)) (hg : Gl X x := by rfl) (hd : (x == ("__debug__" : Str)) = false := by decide) (hm : behindInMarks .NotIn (.Name x p) = false := by rfl) : PE X (.Compare a [.NotIn] [.Name x p] pos) (tE X.K mg (wKIn true kvs fa)) := by
  obtain ⟨d, es, n, hm0, D, hz⟩ := h
  exact pe_weak (pe_cmpR (do_kIn true D) ha (pe_glob (v := .ref d) hg hm0 rfl hd) hm) fun _ _ _ h => w_kIn true hz h
theorem dt_kNotIn (h : KDat X.K X.w X.mg x kvs) (ha : PE X a (tE X.K mg fa)) (hg : Gl X x := by rfl) (hd : (x == ("__debug__" : Str)) = false := by decide) (hm : behindInMarks .NotIn (.Name x p) = false := by rfl) : PT X (.Compare a [.NotIn] [.Name x p] pos) (tT X.K mg (wT (wKIn true kvs fa))) := by
  obtain ⟨d, es, n, hm0, D, hz⟩ := h
  exact pt_weak (pt_cmpR (do_kIn true D) ha (pe_glob (v := .ref d) hg hm0 rfl hd) hm) fun σ H Q h => by
    obtain ⟨F, ad, env, st, P, n, h, k⟩ := w_t h
    exact w_kIn true hz ⟨F, ad, env, st, P, n, h, k⟩
theorem de_kIx (h : KDat X.K X.w X.mg x kvs) (ha : PE X a (tE X.K mg fa)) (hg : Gl X x := by rfl) (hd : (x == ("__debug__" : Str)) = false := by decide) (hs : PlainIx a := by exact fun _ _ => rfl) : PE X (.Subscript (.Name x p) a pos) (tE X.K mg (wKIx kvs fa)) := by
  obtain ⟨d, es, nn, hm0, D, hz⟩ := h
  refine pe_weak (pe_ix (ix_kdict) (pe_glob (v := .ref d) hg hm0 rfl hd) ha hs) fun σ H Q h => ?_
  obtain ⟨F, ad, env, st, P, n, h, k⟩ := h
  refine tE_go n h fun r1 st1 v1 F1 ad1 H1 q x n1 d1 => ?_
  obtain ⟨z, rfl, q⟩ := isSt_elim q
  obtain ⟨y, ey, q⟩ := optK_elim q
  have d1' : Rp X.K F1 v1 (.str z) := d1
  cases d1'
  rcases hz z with ⟨y', u, v, e1, e2, e3, e4⟩ | ⟨e1, e2⟩
  · rw [ey] at e1
    cases e1
    exact ⟨d, z, v, rfl, rfl, ⟨es, nn, u, D.at_, D.lit, e2, e3⟩, k _ _ _ _ _ _ q x n1 (e4 F1)⟩
  · rw [ey] at e1; cases e1
end
end DL
/-! text DLPar -/
namespace DL
open PySem PySem.Spec PyProof.Rows L2
/-- x, y, z = a, b, c -/
def wPar3 (i j l : Nat) (fa fb fc : WE) : WS := fun D env st => fa env st fun r st1 => fb env st1 fun q st2 => fc env st2 fun u st3 => D.nx (((env.set i (some r)).set j (some q)).set l (some u)) st3
section
variable {X : Cx} {K : PySem.W.Frag} {mg : Str → Option Value} {a b c : Expr} {fa fb fc : WE} {pos : Pos}
theorem ds_par3 (i j l : Nat) {x y z : Str} {px py pz pt : Pos} {kt k2 pt2} (hc : X.calm = true) (hN : X.N.Nodup) (ha : PE X a (tE K mg fa)) (hb : PE X b (tE K mg fb)) (hcc : PE X c (tE K mg fc))
    (hw : swappedStores [.Tuple [.Name x px, .Name y py, .Name z pz] kt pt] (.Tuple [a, b, c] k2 pt2) X.env = pure (some [x, y, z])) (hij : i ≠ j := by decide) (hil : i ≠ l := by decide) (hjl : j ≠ l := by decide) (hi : X.N[i]? = some x := by rfl) (hj : X.N[j]? = some y := by rfl) (hl : X.N[l]? = some z := by rfl)
    (hx : X.env.scope.names.lookup x = some .local := by rfl) (hy : X.env.scope.names.lookup y = some .local := by rfl) (hz : X.env.scope.names.lookup z = some .local := by rfl)
    (hs : swapsWithSole [.Tuple [.Name x px, .Name y py, .Name z pz] kt pt] (.Tuple [a, b, c] k2 pt2) pos.line X.env = pure false := by rfl)
    (h0 : starEach (a :: [b, c]) X.env = (false, eval a X.env) :: starEach [b, c] X.env := by rfl) (h1 : starEach (b :: [c]) X.env = (false, eval b X.env) :: starEach [c] X.env := by rfl) (h2 : starEach (c :: []) X.env = (false, eval c X.env) :: starEach [] X.env := by rfl) :
    PS X (.Assign [.Tuple [.Name x px, .Name y py, .Name z pz] kt pt] (.Tuple [a, b, c] k2 pt2) pos) (tS K mg (wPar3 i j l fa fb fc)) :=
  ds_mk (ps_par3 hc hN hi hj hl hij hil hjl hx hy hz (pa_cons ha (pa_cons hb (pa_cons hcc pa_nil h2) h1) h0) hw hs) fun D σ H F ad env st P n h p => by
    refine tE_go n h fun r st1 v F1 ad1 H1 q x n1 d => ?_
    refine tE_go n1 q fun r2 st2 v2 F2 ad2 H2 q2 x2 n2 d2 => ?_
    refine tE_go n2 q2 fun r3 st3 v3 F3 ad3 H3 q3 x3 n3 d3 => ?_
    exact ⟨_, _, _, rfl, p.nx _ _ _ _ _ _ q3 ((x.trans x2).trans x3) ⟨n3.rel, ((n3.env.set (d.ext (x2.trans x3))).set (d2.ext x3)).set d3⟩⟩
end
end DL
/-! text DLAll -/
/-! text K20B -/
set_option maxHeartbeats 1000000
namespace DL.K20
open PySem PySem.Spec PyProof.Rows L2 DL
/-! ### the words of each body (printed by gen.py) -/
def g_NONE : PyData := (.tuple [(.str "none")])
def g_UNIT : PyData := (.tuple [(.str "unit")])
def g_SMALL : PyData := (.str "abcdefghijklmnopqrstuvwxyz")
def g_FIGURES : PyData := (.str "0123456789")
def g_CAPITALS : PyData := (.str "ABCDEFGHIJKLMNOPQRSTUVWXYZ")
def g_MOST_SIGNS : PyData := (.int 8)
def g_MOST_NAME : PyData := (.int 60)
def g_MOST_PARTS : PyData := (.int 2000)
def g_MOST_DEEP : PyData := (.int 30)
def g_MOST_NAMES : PyData := (.int 80)
def k_KIND_SIZES : List (PyData × PyData) := [((.str "thing"), (.int 0)), ((.str "none"), (.int 0)), ((.str "unit"), (.int 0)), ((.str "pair"), (.int 2)), ((.str "either"), (.int 2))]
def b_marked_name (EE : EK) : WS :=
  (wRet (wBin oAdd (wBin oAdd (wVar 0) (wC (.str "'"))) (wIfE (wT (wBin oEq (wBinS oIx (wVar 1) (wC (.int 0))) (wC (.str "name")))) (wBinS oIx (wVar 1) (wC (.int 1))) (wC (.str "")))))
def b_kind_by_hole (s_kind_by_hole s_marked_name : SpD) (EE : EK) : WS :=
  (wSeq (wIf (wT (wBin oEq (wVar 0) (wVar 1))) (wRet (wIfE (wT (wBin oEq (wBinS oIx (wVar 1) (wC (.int 0))) (wC (.str "thing")))) (wC g_UNIT) (wTup (wCons (wC (.str "either")) (wCons (wC g_UNIT) (wCons (wTup (wCons (wC (.str "name")) (wCons (wCall s_marked_name EE (wCons (wBinS oIx (wVar 1) (wC (.int 1))) (wCons (wVar 1) wNil))) wNil))) wNil)))))) wSkip)
    (wSeq (wIf (wT (wBin oEq (wBinS oIx (wVar 0) (wC (.int 0))) (wC (.str "name")))) (wRet (wTup (wCons (wC (.str "name")) (wCons (wCall s_marked_name EE (wCons (wBinS oIx (wVar 0) (wC (.int 1))) (wCons (wVar 1) wNil))) wNil)))) wSkip)
    (wSeq (wIf (wT (wBin oEq (wBinS oIx (wVar 0) (wC (.int 0))) (wC (.str "either")))) (wRet (wTup (wCons (wC (.str "either")) (wCons (wCall s_kind_by_hole EE (wCons (wBinS oIx (wVar 0) (wC (.int 1))) (wCons (wVar 1) wNil))) (wCons (wCall s_kind_by_hole EE (wCons (wBinS oIx (wVar 0) (wC (.int 2))) (wCons (wVar 1) wNil))) wNil))))) wSkip)
    (wSeq (wIf (wT (wBin oEq (wBinS oIx (wVar 0) (wC (.int 0))) (wC (.str "pair")))) (wSeq (wAsg (wTup (wCons (wC (.str "pair")) (wCons (wCall s_kind_by_hole EE (wCons (wBinS oIx (wVar 0) (wC (.int 1))) (wCons (wVar 1) wNil))) (wCons (wBinS oIx (wVar 0) (wC (.int 2))) wNil)))) (gN 2))
    (wRet (wTup (wCons (wC (.str "either")) (wCons (wVar 2) (wCons (wTup (wCons (wC (.str "pair")) (wCons (wBinS oIx (wVar 0) (wC (.int 1))) (wCons (wCall s_kind_by_hole EE (wCons (wBinS oIx (wVar 0) (wC (.int 2))) (wCons (wVar 1) wNil))) wNil)))) wNil)))))) wSkip)
    (wRet (wC g_NONE))))))
def b_book_by_hole (s_kind_by_hole s_marked_name : SpD) (EE : EK) : WS :=
  (wSeq (wAsg (wDctC (wVar 0)) (gN 2))
    (wSeq (DL.wFor (iItemsD (wVar 0)) (DL.gTupN 2 (DL.gCons (gN 3) (DL.gCons (gN 4) DL.gNil))) (wAsg (wCall s_kind_by_hole EE (wCons (wVar 4) (wCons (wVar 1) wNil))) (gSub (wVar 2) (wCall s_marked_name EE (wCons (wVar 3) (wCons (wVar 1) wNil))))))
    (wRet (wFrz (wVar 2)))))
def b_is_written_name (EE : EK) : WS :=
  (wSeq (wIf (wOr (wNot (wT (wChain oLe oLe (wC (.int 1)) (wUnS oLen (wVar 0)) (wC g_MOST_SIGNS)))) (wT (wBin oNotIn (wBinS oIx (wVar 0) (wC (.int 0))) (wC g_CAPITALS)))) (wRet (wC (.bool false))) wSkip)
    (wRet (wOpN (on1 oAll) (wCons (DL.wLc (iStrD (wSl oSl (wVar 0) (wOS (wC (.int 1))) wON)) (gN 1) wYes (wBin oIn (wVar 1) (wBin oAdd (wC g_SMALL) (wC g_FIGURES))) [1]) wNil))))
def b_is_named (s_is_written_name : SpD) (EE : EK) : WS :=
  (wSeq (wIf (wOr (wNot (wT (wUn (oIs "str") (wVar 0)))) (wT (wBin oGt (wUnS oLen (wVar 0)) (wC g_MOST_NAME)))) (wRet (wC (.bool false))) wSkip)
    (wSeq (wAsg (wMs oSplit (wVar 0) (wC (.str "'"))) (gN 1))
    (wRet (wAndV (wCall s_is_written_name EE (wCons (wBinS oIx (wVar 1) (wC (.int 0))) wNil)) (wOpN (on1 oAll) (wCons (DL.wLc (iSeq (wSl oSl (wVar 1) (wOS (wC (.int 1))) wON)) (gN 2) wYes (wOrV (wBin oEq (wVar 2) (wC (.str ""))) (wCall s_is_written_name EE (wCons (wVar 2) wNil))) [2]) wNil))))))
def b_is_kind_formed (s_is_kind_formed s_is_named : SpD) (EE : EK) : WS :=
  (wSeq (wIf (wOr (wT (wBin oEq (wVar 1) (wC (.int 0)))) (wOr (wNot (wT (wUn (oIs "tuple") (wVar 0)))) (wOr (wT (wBin oEq (wVar 0) (wTup wNil))) (wNot (wT (wUn (oIs "str") (wBinS oIx (wVar 0) (wC (.int 0))))))))) (wRet (wC (.bool false))) wSkip)
    (wSeq (wIf (wT (wBin oEq (wBinS oIx (wVar 0) (wC (.int 0))) (wC (.str "name")))) (wRet (wAndV (wBin oEq (wUnS oLen (wVar 0)) (wC (.int 2))) (wCall s_is_named EE (wCons (wBinS oIx (wVar 0) (wC (.int 1))) wNil)))) wSkip)
    (wSeq (wIf (wOr (wT (wKIn true k_KIND_SIZES (wBinS oIx (wVar 0) (wC (.int 0))))) (wT (wBin oNe (wUnS oLen (wVar 0)) (wBin oAdd (wC (.int 1)) (wKIx k_KIND_SIZES (wBinS oIx (wVar 0) (wC (.int 0)))))))) (wRet (wC (.bool false))) wSkip)
    (wRet (wOpN (on1 oAll) (wCons (DL.wLc (iSeq (wSl oSl (wVar 0) (wOS (wC (.int 1))) wON)) (gN 2) wYes (wCall s_is_kind_formed EE (wCons (wVar 2) (wCons (wBin oSub (wVar 1) (wC (.int 1))) wNil))) [2]) wNil))))))
def b_kinds_in (EE : EK) : WS :=
  (wRet (wIfE (wT (wBin oEq (wBinS oIx (wVar 0) (wC (.int 0))) (wC (.str "name")))) (wTup wNil) (wSl oSl (wVar 0) (wOS (wC (.int 1))) wON)))
def b_count_kinds (s_kinds_in s_count_kinds : SpD) (EE : EK) : WS :=
  (wRet (wBin oAdd (wC (.int 1)) (wOpN (on1 oSum) (wCons (DL.wLc (iSeq (wCall s_kinds_in EE (wCons (wVar 0) wNil))) (gN 1) wYes (wCall s_count_kinds EE (wCons (wVar 1) wNil)) [1]) wNil))))
def b_is_kinded (s_count_kinds s_is_kind_formed : SpD) (EE : EK) : WS :=
  (wRet (wAndV (wCall s_is_kind_formed EE (wCons (wVar 0) (wCons (wC g_MOST_DEEP) wNil))) (wBin oLe (wCall s_count_kinds EE (wCons (wVar 0) wNil)) (wC g_MOST_PARTS))))
def b_names_by (s_kinds_in s_names_by : SpD) (EE : EK) : WS :=
  (wSeq (wIf (wT (wBin oEq (wBinS oIx (wVar 0) (wC (.int 0))) (wC (.str "name")))) (wRet (wDisp (wPC (wBinS oIx (wVar 0) (wC (.int 1))) (wC (.bool true)) wPN))) wSkip)
    (wSeq (wAsg wDct0 (gN 1))
    (wSeq (DL.wFor (iSeq (wCall s_kinds_in EE (wCons (wVar 0) wNil))) (gN 2) (wAsg (wDctS (wVar 1) (wCall s_names_by EE (wCons (wVar 2) wNil))) (gN 1)))
    (wRet (wVar 1)))))
def b_is_kind_in (s_names_by s_is_kinded : SpD) (EE : EK) : WS :=
  (wRet (wAndV (wCall s_is_kinded EE (wCons (wVar 1) wNil)) (wOpN (on1 oAll) (wCons (DL.wLc (iKeysD (wCall s_names_by EE (wCons (wVar 1) wNil))) (gN 2) wYes (wBin oIn (wVar 2) (wVar 0)) [2]) wNil))))
def b_is_hole_in (s_is_written_name : SpD) (EE : EK) : WS :=
  (wSeq (wIf (wOr (wNot (wT (wUn (oIs "tuple") (wVar 1)))) (wOr (wNot (wT (wChain oLe oLe (wC (.int 1)) (wUnS oLen (wVar 1)) (wC (.int 2))))) (wNot (wT (wUn (oIs "str") (wBinS oIx (wVar 1) (wC (.int 0)))))))) (wRet (wC (.bool false))) wSkip)
    (wSeq (wIf (wT (wBin oEq (wUnS oLen (wVar 1)) (wC (.int 1)))) (wRet (wBin oEq (wBinS oIx (wVar 1) (wC (.int 0))) (wC (.str "thing")))) wSkip)
    (wRet (wAndV (wBin oEq (wBinS oIx (wVar 1) (wC (.int 0))) (wC (.str "name"))) (wAndV (wUn (oIs "str") (wBinS oIx (wVar 1) (wC (.int 1)))) (wAndV (wCall s_is_written_name EE (wCons (wBinS oIx (wVar 1) (wC (.int 1))) wNil)) (wBin oIn (wBinS oIx (wVar 1) (wC (.int 1))) (wVar 0))))))))
def b_wrong_forms (s_is_kinded s_is_named : SpD) (EE : EK) : WS :=
  (wSeq (wAsg (wC (.str "")) (gN 1))
    (wSeq (DL.wFor (iEnumD (wVar 0)) (DL.gTupN 2 (DL.gCons (gN 2) (DL.gCons (gN 3) DL.gNil))) (wSeq (wIf (wOr (wNot (wT (wUn (oIs "tuple") (wVar 3)))) (wOr (wT (wBin oNe (wUnS oLen (wVar 3)) (wC (.int 2)))) (wOr (wNot (wT (wCall s_is_named EE (wCons (wBinS oIx (wVar 3) (wC (.int 0))) wNil)))) (wNot (wT (wCall s_is_kinded EE (wCons (wBinS oIx (wVar 3) (wC (.int 1))) wNil))))))) (wRet (wLst (wCons (wVar 2) wNil))) wSkip)
    (wSeq (wIf (wT (wBin oLe (wBinS oIx (wVar 3) (wC (.int 0))) (wVar 1))) (wRet (wLst (wCons (wVar 2) wNil))) wSkip)
    (wAsg (wBinS oIx (wVar 3) (wC (.int 0))) (gN 1)))))
    (wRet (wLst wNil))))
def b_is_made (s_kind_by_hole : SpD) (EE : EK) : WS :=
  (wSeq (wIf (wT (wBin oNotIn (wC (.str "'")) (wVar 1))) (wRet (wC (.bool true))) wSkip)
    (wSeq (wAsg (wMs oRindex (wVar 1) (wC (.str "'"))) (gN 3))
    (wSeq (wPar 4 5 (wSl oSl (wVar 1) wON (wOS (wVar 3))) (wSl oSl (wVar 1) (wOS (wBin oAdd (wVar 3) (wC (.int 1)))) wON))
    (wSeq (wIf (wOr (wT (wBin oNotIn (wVar 4) (wVar 0))) (wAnd (wT (wBin oNe (wVar 5) (wC (.str "")))) (wT (wBin oNotIn (wVar 5) (wVar 0))))) (wRet (wC (.bool false))) wSkip)
    (wRet (wBin oEq (wVar 2) (wCall s_kind_by_hole EE (wCons (wBinS oIx (wVar 0) (wVar 4)) (wCons (wIfE (wT (wBin oNe (wVar 5) (wC (.str "")))) (wTup (wCons (wC (.str "name")) (wCons (wVar 5) wNil))) (wTup (wCons (wC (.str "thing")) wNil))) wNil)))))))))
def b_wrong_in_book (s_is_made s_names_by s_wrong_forms : SpD) (EE : EK) : WS :=
  (wSeq (wIf (wOr (wNot (wT (wUn (oIs "tuple") (wVar 0)))) (wT (wBin oGt (wUnS oLen (wVar 0)) (wC g_MOST_NAMES)))) (wRet (wLst (wCons (wC .none) wNil))) wSkip)
    (wSeq (wAsg (wCall s_wrong_forms EE (wCons (wVar 0) wNil)) (gN 1))
    (wSeq (wIf (wT (wBin oNe (wVar 1) (wLst wNil))) (wRet (wVar 1)) wSkip)
    (wSeq (wAsg (wOpN (on1 oDict) (wCons (wVar 0) wNil)) (gN 2))
    (wSeq (wAsg (DL.wLc (iEnumD (wVar 0)) (DL.gTupN 2 (DL.gCons (gN 3) (DL.gCons (DL.gTupN 2 (DL.gCons (gN 4) (DL.gCons (gN 5) DL.gNil))) DL.gNil))) (wNot (wT (wOpN (on1 oAll) (wCons (DL.wLc (iKeysD (wCall s_names_by EE (wCons (wVar 5) wNil))) (gN 6) wYes (wBin oIn (wVar 6) (wVar 2)) [6]) wNil)))) (wVar 3) [3, 4, 5]) (gN 1))
    (wSeq (wIf (wT (wBin oEq (wVar 1) (wLst wNil))) (wAsg (DL.wLc (iEnumD (wVar 0)) (DL.gTupN 2 (DL.gCons (gN 3) (DL.gCons (DL.gTupN 2 (DL.gCons (gN 6) (DL.gCons (gN 5) DL.gNil))) DL.gNil))) (wNot (wT (wCall s_is_made EE (wCons (wVar 2) (wCons (wVar 6) (wCons (wVar 5) wNil)))))) (wVar 3) [3, 6, 5]) (gN 1)) wSkip)
    (wRet (wSl oSl (wVar 1) wON (wOS (wC (.int 1)))))))))))
def b_check_book (s_wrong_in_book : SpD) (EE : EK) : WS :=
  (DL.wFor (iSeq (wCall s_wrong_in_book EE (wCons (wVar 0) wNil))) (gN 1) wNever)
def b_checked_book (s_check_book : SpD) (EE : EK) : WS :=
  (wSeq (wExpr (wCall s_check_book EE (wCons (wVar 0) wNil)))
    (wRet (wOpN (on1 oDict) (wCons (wVar 0) wNil))))
def b_check_kind_of (s_is_kind_in : SpD) (EE : EK) : WS :=
  (wIf (wNot (wT (wCall s_is_kind_in EE (wCons (wVar 0) (wCons (wVar 1) wNil))))) wNever wSkip)
def b_check_hole (s_is_hole_in : SpD) (EE : EK) : WS :=
  (wIf (wNot (wT (wCall s_is_hole_in EE (wCons (wVar 0) (wCons (wVar 1) wNil))))) wNever wSkip)
def b_checked_places (s_check_hole s_check_kind_of s_checked_book : SpD) (EE : EK) : WS :=
  (wSeq (wAsg (wCall s_checked_book EE (wCons (wVar 0) wNil)) (gN 3))
    (wSeq (wExpr (wCall s_check_kind_of EE (wCons (wVar 3) (wCons (wVar 1) wNil))))
    (wSeq (wExpr (wCall s_check_hole EE (wCons (wVar 3) (wCons (wVar 2) wNil))))
    (wRet (wVar 3)))))
def b_kind_by (s_kind_by_hole s_checked_places : SpD) (EE : EK) : WS :=
  (wSeq (wExpr (wCall s_checked_places EE (wCons (wVar 0) (wCons (wVar 1) (wCons (wVar 2) wNil)))))
    (wRet (wCall s_kind_by_hole EE (wCons (wVar 1) (wCons (wVar 2) wNil)))))
def b_book_by (s_book_by_hole s_check_hole s_checked_book : SpD) (EE : EK) : WS :=
  (wSeq (wAsg (wCall s_checked_book EE (wCons (wVar 0) wNil)) (gN 2))
    (wSeq (wExpr (wCall s_check_hole EE (wCons (wVar 2) (wCons (wVar 1) wNil))))
    (wRet (wOpN (on1 oTuple) (wCons (wSortI (wCall s_book_by_hole EE (wCons (wVar 2) (wCons (wVar 1) wNil)))) wNil)))))
def b_is_book (s_wrong_in_book : SpD) (EE : EK) : WS :=
  (wRet (wBin oEq (wCall s_wrong_in_book EE (wCons (wVar 0) wNil)) (wLst wNil)))
def b_kind_named (s_is_named s_checked_book : SpD) (EE : EK) : WS :=
  (wSeq (wAsg (wCall s_checked_book EE (wCons (wVar 0) wNil)) (gN 2))
    (wSeq (wIf (wNot (wT (wCall s_is_named EE (wCons (wVar 1) wNil)))) wNever wSkip)
    (wRet (wGet1 (wVar 2) (wVar 1)))))
def b_law_spring (EE : EK) : WS :=
  (wSeq (wPar 2 3 (wIfE (wT (wBin oLt (wVar 1) (wUnS oLen (wVar 0)))) (wOpN (on1 oInt) (wCons (wBinS oIx (wVar 0) (wVar 1)) wNil)) (wC (.int 0))) (wBin oAdd (wC (.int 481601)) (wBin oMul (wC (.int 6007)) (wVar 1))))
    (wSeq (DL.wFor (iSeq (wSl oSl (wVar 0) wON (wOS (wC (.int 63))))) (gN 4) (wAsg (wBin oMod (wOpN (on1 oInt) (wCons (wBin oAdd (wBin oAdd (wBin oMul (wVar 3) (wC (.int 48623))) (wBin oMod (wOpN (on1 oInt) (wCons (wVar 4) wNil)) (wC (.int 2147483423)))) (wC (.int 31))) wNil)) (wC (.int 2147483549))) (gN 3)))
    (wSeq (wAsg (wBin oMod (wOpN (on1 oInt) (wCons (wBin oAdd (wBin oAdd (wBin oMul (wVar 3) (wC (.int 61))) (wBin oMul (wBin oMod (wOpN (on1 oInt) (wCons (wVar 2) wNil)) (wC (.int 2147483423))) (wC (.int 30029)))) (wC (.int 7))) wNil)) (wC (.int 2147483549))) (gN 3))
    (wRet (wLstM (wCons (wIfE (wOr (wT (wBin oLt (wVar 2) (wC (.int 0)))) (wT (wBin oGe (wVar 2) (wBin oPow (wC (.int 10)) (wC (.int 16)))))) (wOpN (on1 oAbs) (wCons (wVar 2) wNil)) (wC (.int 0))) (wCons (wVar 3) (wCons (wC (.int 0)) wNil))))))))
def b_law_draw (EE : EK) : WS :=
  (wSeq (wIf (wT (wBin oGt (wBinS oIx (wVar 0) (wC (.int 0))) (wC (.int 0)))) (wSeq (wAsg (wOpN (on2 oDivmod) (wCons (wBinS oIx (wVar 0) (wC (.int 0))) (wCons (wVar 1) wNil))) (DL.gTupN 2 (DL.gCons (gSub (wVar 0) (wC (.int 0))) (DL.gCons (gN 2) DL.gNil))))
    (wRet (wVar 2))) wSkip)
    (wSeq (wAsg (wBin oAdd (wBinS oIx (wVar 0) (wC (.int 2))) (wC (.int 1))) (gSub (wVar 0) (wC (.int 2))))
    (wSeq (wAsg (wBin oMod (wOpN (on1 oInt) (wCons (wBin oAdd (wBinS oIx (wVar 0) (wC (.int 1))) (wBin oMul (wC (.int 40013)) (wBinS oIx (wVar 0) (wC (.int 2))))) wNil)) (wC (.int 2147483549))) (gN 3))
    (wSeq (wAsg (wBin oMod (wOpN (on1 oInt) (wCons (wBin oAdd (wBin oMul (wVar 3) (wBin oAdd (wBin oMod (wOpN (on1 oInt) (wCons (wVar 3) wNil)) (wC (.int 5003))) (wC (.int 47521)))) (wBin oMul (wC (.int 37)) (wBinS oIx (wVar 0) (wC (.int 2))))) wNil)) (wC (.int 2147483549))) (gSub (wVar 0) (wC (.int 1))))
    (wRet (wBin oMod (wOpN (on1 oInt) (wCons (wBin oDiv (wBinS oIx (wVar 0) (wC (.int 1))) (wC (.int 709))) wNil)) (wVar 1)))))))
def b_law_pick (s_law_draw : SpD) (EE : EK) : WS :=
  (wRet (wBinS oIx (wVar 1) (wCall s_law_draw EE (wCons (wVar 0) (wCons (wUnS oLen (wVar 1)) wNil)))))
def b_law_is (EE : EK) : WS :=
  (wRet (wBin oEq (wOpN (on1 oRepr) (wCons (wVar 0) wNil)) (wOpN (on1 oRepr) (wCons (wVar 1) wNil))))
def b_law_name (s_law_draw : SpD) (EE : EK) : WS :=
  (wSeq (wPar 2 3 (wBinS oIx (wC (.str "ABCDEFGHIJKLMNOPQRSTUVWXYZ")) (wCall s_law_draw EE (wCons (wVar 0) (wCons (wC (.int 26)) wNil)))) (wC (.str "abcdefghijklmnopqrstuvwxyz0123456789")))
    (wSeq (wAsg (wIfE (wT (wBin oGt (wCall s_law_draw EE (wCons (wVar 0) (wCons (wC (.int 5)) wNil))) (wC (.int 0)))) (wCall s_law_draw EE (wCons (wVar 0) (wCons (wC (.int 4)) wNil))) (wCall s_law_draw EE (wCons (wVar 0) (wCons (wC (.int 8)) wNil)))) (gN 4))
    (wSeq (wIf (wAnd (wT (wBin oNe (wVar 1) (wLst wNil))) (wT (wBin oEq (wCall s_law_draw EE (wCons (wVar 0) (wCons (wC (.int 4)) wNil))) (wC (.int 0))))) (wPar 2 4 (wSl oSl (wBinS oIx (wVar 1) (wUn oNeg (wC (.int 1)))) wON (wOS (wC (.int 7)))) (wC (.int 1))) wSkip)
    (wSeq (DL.wFor (iRng1D (wVar 4)) (gN 5) (wAsg (wBin oAdd (wVar 2) (wBinS oIx (wVar 3) (wCall s_law_draw EE (wCons (wVar 0) (wCons (wC (.int 36)) wNil))))) (gN 2)))
    (wSeq (DL.wFor (iStrD (wC (.str "ABCDEF"))) (gN 6) (wIf (wT (wBin oIn (wVar 2) (wVar 1))) (wAsg (wBin oAdd (wVar 6) (wSl oSl (wVar 2) (wOS (wC (.int 1))) wON)) (gN 2)) wSkip))
    (wRet (wVar 2)))))))
def b_law_form (s_law_form s_law_draw s_law_pick : SpD) (EE : EK) : WS :=
  (wSeq (wAsg (wCall s_law_draw EE (wCons (wVar 0) (wCons (wC (.int 9)) wNil))) (gN 3))
    (wSeq (wIf (wOr (wT (wBin oLt (wVar 2) (wC (.int 3)))) (wT (wBin oLt (wVar 3) (wC (.int 2))))) (wSeq (wIf (wAnd (wT (wBin oNe (wVar 1) (wLst wNil))) (wT (wBin oEq (wCall s_law_draw EE (wCons (wVar 0) (wCons (wC (.int 2)) wNil))) (wC (.int 0))))) (wRet (wTup (wCons (wC (.str "name")) (wCons (wCall s_law_pick EE (wCons (wVar 0) (wCons (wVar 1) wNil))) wNil)))) wSkip)
    (wRet (wTup (wCons (wCall s_law_pick EE (wCons (wVar 0) (wCons (wTup (wCons (wC (.str "thing")) (wCons (wC (.str "unit")) (wCons (wC (.str "thing")) (wCons (wC (.str "thing")) (wCons (wC (.str "unit")) (wCons (wC (.str "thing")) (wCons (wC (.str "none")) (wCons (wC (.str "unit")) (wCons (wC (.str "thing")) wNil)))))))))) wNil))) wNil)))) wSkip)
    (wSeq (wAsg (wBin oAdd (wC (.int 1)) (wCall s_law_draw EE (wCons (wVar 0) (wCons (wBin oSub (wVar 2) (wC (.int 2))) wNil)))) (gN 4))
    (wSeq (wAsg (wCall s_law_form EE (wCons (wVar 0) (wCons (wVar 1) (wCons (wVar 4) wNil)))) (gN 5))
    (wRet (wTup (wCons (wIfE (wT (wBin oLt (wVar 3) (wC (.int 6)))) (wC (.str "pair")) (wC (.str "either"))) (wCons (wVar 5) (wCons (wCall s_law_form EE (wCons (wVar 0) (wCons (wVar 1) (wCons (wBin oSub (wBin oSub (wVar 2) (wC (.int 1))) (wVar 4)) wNil)))) wNil)))))))))
def b_law_own_form (s_law_draw s_law_form s_law_pick : SpD) (EE : EK) : WS :=
  (wSeq (wPar3 4 5 6 (wCall s_law_draw EE (wCons (wVar 0) (wCons (wC (.int 9)) wNil))) (wTup (wCons (wC (.str "name")) (wCons (wVar 2) wNil))) (wTup (wCons (wC (.str "name")) (wCons (wCall s_law_pick EE (wCons (wVar 0) (wCons (wVar 1) wNil))) wNil))))
    (wSeq (wIf (wT (wBin oEq (wVar 4) (wC (.int 0)))) (wRet (wCall s_law_form EE (wCons (wVar 0) (wCons (wVar 1) (wCons (wBin oAdd (wVar 3) (wC (.int 3))) wNil))))) wSkip)
    (wSeq (wAsg (wCall s_law_form EE (wCons (wVar 0) (wCons (wIfE (wT (wBin oEq (wVar 4) (wC (.int 1)))) (wVar 1) (wLst wNil)) (wCons (wBin oAdd (wC (.int 1)) (wBin oMul (wC (.int 2)) (wCall s_law_draw EE (wCons (wVar 0) (wCons (wC (.int 2)) wNil))))) wNil)))) (gN 7))
    (wSeq (wAsg (wCall s_law_form EE (wCons (wVar 0) (wCons (wVar 1) (wCons (wBin oAdd (wC (.int 1)) (wCall s_law_draw EE (wCons (wVar 0) (wCons (wVar 3) wNil)))) wNil)))) (gN 8))
    (wSeq (wIf (wT (wBin oLt (wVar 4) (wC (.int 4)))) (wAsg (wTup (wCons (wC (.str "pair")) (wCons (wVar 8) (wCons (wVar 5) wNil)))) (gN 9)) (wIf (wT (wBin oLt (wVar 4) (wC (.int 6)))) (wAsg (wTup (wCons (wC (.str "pair")) (wCons (wVar 6) (wCons (wTup (wCons (wC (.str "pair")) (wCons (wVar 8) (wCons (wVar 5) wNil)))) wNil)))) (gN 9)) (wIf (wT (wBin oEq (wVar 4) (wC (.int 6)))) (wAsg (wVar 6) (gN 9)) (wAsg (wIfE (wT (wBin oEq (wVar 4) (wC (.int 7)))) (wTup (wCons (wC (.str "either")) (wCons (wTup (wCons (wC (.str "pair")) (wCons (wVar 5) (wCons (wVar 6) wNil)))) (wCons (wVar 8) wNil)))) (wTup (wCons (wC (.str "pair")) (wCons (wVar 5) (wCons (wVar 8) wNil))))) (gN 9)))))
    (wRet (wIfE (wT (wBin oEq (wCall s_law_draw EE (wCons (wVar 0) (wCons (wC (.int 2)) wNil))) (wC (.int 0)))) (wTup (wCons (wC (.str "either")) (wCons (wVar 7) (wCons (wVar 9) wNil)))) (wTup (wCons (wC (.str "either")) (wCons (wVar 9) (wCons (wVar 7) wNil)))))))))))
def b_law_lib (s_law_own_form s_law_draw s_law_name : SpD) (EE : EK) : WS :=
  (wSeq (wPar 2 3 (wLstM wNil) (wLstM wNil))
    (wSeq (DL.wFor (iRng1D (wBin oAdd (wBin oAdd (wC (.int 1)) (wCall s_law_draw EE (wCons (wVar 0) (wCons (wC (.int 2)) wNil)))) (wCall s_law_draw EE (wCons (wVar 0) (wCons (wC (.int 3)) wNil))))) (gN 4) (wExpr (wMtM oAppend (wVar 2) (wCons (wCall s_law_name EE (wCons (wVar 0) (wCons (wVar 2) wNil))) wNil))))
    (wSeq (DL.wFor (iSeq (wOpN (on1 oSorted) (wCons (wVar 2) wNil))) (gN 5) (wExpr (wMtM oAppend (wVar 3) (wCons (wTup (wCons (wVar 5) (wCons (wCall s_law_own_form EE (wCons (wVar 0) (wCons (wVar 2) (wCons (wVar 5) (wCons (wVar 1) wNil))))) wNil))) wNil))))
    (wRet (wOpN (on1 oTuple) (wCons (wVar 3) wNil))))))
def b_law_gap (s_law_draw s_law_pick : SpD) (EE : EK) : WS :=
  (wRet (wIfE (wT (wBin oEq (wCall s_law_draw EE (wCons (wVar 0) (wCons (wC (.int 2)) wNil))) (wC (.int 0)))) (wTup (wCons (wC (.str "thing")) wNil)) (wTup (wCons (wC (.str "name")) (wCons (wCall s_law_pick EE (wCons (wVar 0) (wCons (wVar 1) wNil))) wNil)))))
def b_law_name_by (EE : EK) : WS :=
  (wRet (wBin oAdd (wBin oAdd (wVar 0) (wC (.str "'"))) (wIfE (wT (wBin oEq (wBinS oIx (wVar 1) (wC (.int 0))) (wC (.str "name")))) (wBinS oIx (wVar 1) (wC (.int 1))) (wC (.str "")))))
def b_law_by (s_law_by s_law_name_by : SpD) (EE : EK) : WS :=
  (wSeq (wIf (wT (wBin oEq (wVar 0) (wVar 1))) (wRet (wIfE (wT (wBin oEq (wBinS oIx (wVar 1) (wC (.int 0))) (wC (.str "thing")))) (wTup (wCons (wC (.str "unit")) wNil)) (wTup (wCons (wC (.str "either")) (wCons (wTup (wCons (wC (.str "unit")) wNil)) (wCons (wTup (wCons (wC (.str "name")) (wCons (wCall s_law_name_by EE (wCons (wBinS oIx (wVar 1) (wC (.int 1))) (wCons (wVar 1) wNil))) wNil))) wNil)))))) wSkip)
    (wSeq (wIf (wT (wBin oIn (wBinS oIx (wVar 0) (wC (.int 0))) (wTup (wCons (wC (.str "thing")) (wCons (wC (.str "unit")) (wCons (wC (.str "none")) wNil)))))) (wRet (wTup (wCons (wC (.str "none")) wNil))) wSkip)
    (wSeq (wIf (wT (wBin oEq (wBinS oIx (wVar 0) (wC (.int 0))) (wC (.str "name")))) (wRet (wTup (wCons (wC (.str "name")) (wCons (wCall s_law_name_by EE (wCons (wBinS oIx (wVar 0) (wC (.int 1))) (wCons (wVar 1) wNil))) wNil)))) wSkip)
    (wSeq (wPar 2 3 (wCall s_law_by EE (wCons (wBinS oIx (wVar 0) (wC (.int 1))) (wCons (wVar 1) wNil))) (wCall s_law_by EE (wCons (wBinS oIx (wVar 0) (wC (.int 2))) (wCons (wVar 1) wNil))))
    (wSeq (wIf (wT (wBin oEq (wBinS oIx (wVar 0) (wC (.int 0))) (wC (.str "either")))) (wRet (wTup (wCons (wC (.str "either")) (wCons (wVar 2) (wCons (wVar 3) wNil))))) wSkip)
    (wRet (wTup (wCons (wC (.str "either")) (wCons (wTup (wCons (wC (.str "pair")) (wCons (wVar 2) (wCons (wBinS oIx (wVar 0) (wC (.int 2))) wNil)))) (wCons (wTup (wCons (wC (.str "pair")) (wCons (wBinS oIx (wVar 0) (wC (.int 1))) (wCons (wVar 3) wNil)))) wNil))))))))))
def b_law_lib_by (s_law_by s_law_name_by : SpD) (EE : EK) : WS :=
  (wSeq (wAsg wDctM (gN 2))
    (wSeq (DL.wFor (iSeq (wVar 0)) (DL.gTupN 2 (DL.gCons (gN 3) (DL.gCons (gN 4) DL.gNil))) (wSeq (wAsg (wVar 4) (gSub (wVar 2) (wVar 3)))
    (wAsg (wCall s_law_by EE (wCons (wVar 4) (wCons (wVar 1) wNil))) (gSub (wVar 2) (wCall s_law_name_by EE (wCons (wVar 3) (wCons (wVar 1) wNil)))))))
    (wRet (wOpN (on1 oTuple) (wCons (DL.wLc (iSeq (wOpN (on1 oSorted) (wCons (wListK (wVar 2)) wNil))) (gN 3) wYes (wTup (wCons (wVar 3) (wCons (wBinS oIx (wVar 2) (wVar 3)) wNil))) [3]) wNil)))))
def b_law_parts (s_law_parts : SpD) (EE : EK) : WS :=
  (wRet (wBin oAdd (wC (.int 1)) (wIfE (wT (wBin oIn (wBinS oIx (wVar 0) (wC (.int 0))) (wTup (wCons (wC (.str "pair")) (wCons (wC (.str "either")) wNil))))) (wBin oAdd (wCall s_law_parts EE (wCons (wBinS oIx (wVar 0) (wC (.int 1))) wNil)) (wCall s_law_parts EE (wCons (wBinS oIx (wVar 0) (wC (.int 2))) wNil))) (wC (.int 0)))))
def b_law_step (s_law_is s_law_by s_kind_named s_is_book s_law_name_by s_law_pick s_book_by s_kind_by s_law_lib_by : SpD) (EE : EK) : WS :=
  (wSeq (wPar 4 5 (wCall s_law_by EE (wCons (wVar 2) (wCons (wVar 3) wNil))) (wCall s_law_lib_by EE (wCons (wVar 1) (wCons (wVar 3) wNil))))
    (wSeq (wIf (wNot (wT (wCall s_law_is EE (wCons (wLst (wCons (wCall s_kind_by EE (wCons (wVar 1) (wCons (wVar 2) (wCons (wVar 3) wNil)))) (wCons (wCall s_book_by EE (wCons (wVar 1) (wCons (wVar 3) wNil))) wNil))) (wCons (wLst (wCons (wVar 4) (wCons (wVar 5) wNil))) wNil))))) (wRet (wC (.bool false))) wSkip)
    (wSeq (wAsg (wCall s_law_pick EE (wCons (wVar 0) (wCons (wVar 1) wNil))) (DL.gTupN 2 (DL.gCons (gN 6) (DL.gCons (gN 7) DL.gNil))))
    (wSeq (wAsg (wCall s_kind_named EE (wCons (wVar 5) (wCons (wCall s_law_name_by EE (wCons (wVar 6) (wCons (wVar 3) wNil))) wNil))) (gN 8))
    (wRet (wCall s_law_is EE (wCons (wLst (wCons (wCall s_is_book EE (wCons (wVar 5) wNil)) (wCons (wVar 8) (wCons (wCall s_kind_named EE (wCons (wVar 1) (wCons (wVar 6) wNil))) wNil)))) (wCons (wLst (wCons (wC (.bool true)) (wCons (wCall s_law_by EE (wCons (wVar 7) (wCons (wVar 3) wNil))) (wCons (wVar 7) wNil)))) wNil))))))))
def b_law_right (s_law_is s_kind_by s_book_by s_law_draw s_law_pick s_law_step s_law_parts s_law_by s_law_lib_by s_law_gap s_law_form s_law_lib : SpD) (EE : EK) : WS :=
  (wSeq (wAsg (wCall s_law_lib EE (wCons (wVar 0) (wCons (wC (.int 5)) wNil))) (gN 1))
    (wSeq (wPar 2 3 (DL.wLc (iSeq (wVar 1)) (DL.gTupN 2 (DL.gCons (gN 9) (DL.gCons (gN 10) DL.gNil))) wYes (wVar 9) [9, 10]) (wLstM wNil))
    (wSeq (wAsg (wCall s_law_form EE (wCons (wVar 0) (wCons (wVar 2) (wCons (wC (.int 9)) wNil)))) (gN 4))
    (wSeq (DL.wFor (iRng1D (wC (.int 3))) (gN 5) (wSeq (wAsg (wCall s_law_gap EE (wCons (wVar 0) (wCons (wVar 2) wNil))) (gN 6))
    (wSeq (wPar 7 8 (wCall s_law_by EE (wCons (wVar 4) (wCons (wVar 6) wNil))) (wCall s_law_lib_by EE (wCons (wVar 1) (wCons (wVar 6) wNil))))
    (wSeq (wIf (wOr (wT (wBin oGt (wUnS oLen (wVar 8)) (wC (.int 30)))) (wOr (wT (wBin oGt (wCall s_law_parts EE (wCons (wVar 7) wNil)) (wC (.int 300)))) (wT (wBin oGt (wOpN (on1 oSum) (wCons (DL.wLc (iSeq (wVar 8)) (DL.gTupN 2 (DL.gCons (gN 9) (DL.gCons (gN 10) DL.gNil))) wYes (wCall s_law_parts EE (wCons (wVar 10) wNil)) [9, 10]) wNil)) (wC (.int 700)))))) wBrk wSkip)
    (wSeq (wIf (wNot (wT (wCall s_law_step EE (wCons (wVar 0) (wCons (wVar 1) (wCons (wVar 4) (wCons (wVar 6) wNil))))))) (wRet (wC (.bool false))) wSkip)
    (wSeq (wExpr (wMtM oAppend (wVar 3) (wCons (wTup (wCons (wVar 1) (wCons (wVar 4) (wCons (wVar 6) (wCons (wVar 7) (wCons (wVar 8) wNil)))))) wNil)))
    (wSeq (wPar 1 4 (wVar 8) (wVar 7))
    (wIf (wT (wBin oEq (wCall s_law_draw EE (wCons (wVar 0) (wCons (wC (.int 3)) wNil))) (wC (.int 0)))) (wAsg (wTup (wCons (wC (.str "name")) (wCons (wBinS oIx (wCall s_law_pick EE (wCons (wVar 0) (wCons (wVar 8) wNil))) (wC (.int 0))) wNil))) (gN 4)) wSkip))))))))
    (wSeq (DL.wFor (iSeq (wFrz (wVar 3))) (DL.gTupN 5 (DL.gCons (gN 1) (DL.gCons (gN 4) (DL.gCons (gN 6) (DL.gCons (gN 7) (DL.gCons (gN 8) DL.gNil)))))) (wIf (wNot (wT (wCall s_law_is EE (wCons (wLst (wCons (wCallK s_book_by [1, 0] EE (wCons (wVar 6) (wCons (wVar 1) wNil))) (wCons (wCallK s_kind_by [2, 1, 0] EE (wCons (wVar 6) (wCons (wVar 4) (wCons (wVar 1) wNil)))) wNil))) (wCons (wLst (wCons (wVar 8) (wCons (wVar 7) wNil))) wNil))))) (wRet (wC (.bool false))) wSkip))
    (wRet (wC (.bool true))))))))
def b_law (s_law_right s_law_spring : SpD) (EE : EK) : WS :=
  (wSeq (DL.wFor (iRng1D (wOpN (on2 oMax) (wCons (wC (.int 1)) (wCons (wOpN (on2 oMin) (wCons (wUnS oLen (wVar 0)) (wCons (wC (.int 2)) wNil))) wNil)))) (gN 1) (wIf (wNot (wT (wCall s_law_right EE (wCons (wCall s_law_spring EE (wCons (wVar 0) (wCons (wVar 1) wNil))) wNil)))) (wRet (wC (.bool false))) wSkip))
    (wRet (wC (.bool true))))
end DL.K20
/-! text K20D -/
namespace DL.K20
open PySem PySem.Spec PyProof.Rows L2 DL
/-! ### the text, by places (printed by gen.py) -/
def topS (i : Nat) : Stmt := PySem.Challenge.pw_holekinds_k20_whole_kinds_and_books_by_h.main.body.getD i (.Pass ⟨0, 0, 0, 0⟩)
abbrev t_marked_name : Stmt := topS 3
abbrev n_marked_name : List Str := ["name", "hole"]
abbrev p_marked_name : List Str := ["name", "hole"]
theorem S_marked_name : FnScope n_marked_name p_marked_name (defScope t_marked_name) := ⟨rfl, rfl, rfl, by decide +kernel, rfl, by decide +kernel, by decide +kernel⟩
abbrev t_kind_by_hole : Stmt := topS 4
abbrev n_kind_by_hole : List Str := ["kind", "hole", "first"]
abbrev p_kind_by_hole : List Str := ["kind", "hole"]
theorem S_kind_by_hole : FnScope n_kind_by_hole p_kind_by_hole (defScope t_kind_by_hole) := ⟨rfl, rfl, rfl, by decide +kernel, rfl, by decide +kernel, by decide +kernel⟩
abbrev t_book_by_hole : Stmt := topS 5
abbrev n_book_by_hole : List Str := ["book", "hole", "found", "name", "kind"]
abbrev p_book_by_hole : List Str := ["book", "hole"]
theorem S_book_by_hole : FnScope n_book_by_hole p_book_by_hole (defScope t_book_by_hole) := ⟨rfl, rfl, rfl, by decide +kernel, rfl, by decide +kernel, by decide +kernel⟩
abbrev t_is_written_name : Stmt := topS 15
abbrev n_is_written_name : List Str := ["value", "sign"]
abbrev p_is_written_name : List Str := ["value"]
theorem S_is_written_name : FnScope n_is_written_name p_is_written_name (defScope t_is_written_name) := ⟨rfl, rfl, rfl, by decide +kernel, rfl, by decide +kernel, by decide +kernel⟩
abbrev t_is_named : Stmt := topS 16
abbrev n_is_named : List Str := ["value", "pieces", "each"]
abbrev p_is_named : List Str := ["value"]
theorem S_is_named : FnScope n_is_named p_is_named (defScope t_is_named) := ⟨rfl, rfl, rfl, by decide +kernel, rfl, by decide +kernel, by decide +kernel⟩
abbrev t_is_kind_formed : Stmt := topS 17
abbrev n_is_kind_formed : List Str := ["value", "deep", "each"]
abbrev p_is_kind_formed : List Str := ["value", "deep"]
theorem S_is_kind_formed : FnScope n_is_kind_formed p_is_kind_formed (defScope t_is_kind_formed) := ⟨rfl, rfl, rfl, by decide +kernel, rfl, by decide +kernel, by decide +kernel⟩
abbrev t_kinds_in : Stmt := topS 18
abbrev n_kinds_in : List Str := ["kind"]
abbrev p_kinds_in : List Str := ["kind"]
theorem S_kinds_in : FnScope n_kinds_in p_kinds_in (defScope t_kinds_in) := ⟨rfl, rfl, rfl, by decide +kernel, rfl, by decide +kernel, by decide +kernel⟩
abbrev t_count_kinds : Stmt := topS 19
abbrev n_count_kinds : List Str := ["kind", "each"]
abbrev p_count_kinds : List Str := ["kind"]
theorem S_count_kinds : FnScope n_count_kinds p_count_kinds (defScope t_count_kinds) := ⟨rfl, rfl, rfl, by decide +kernel, rfl, by decide +kernel, by decide +kernel⟩
abbrev t_is_kinded : Stmt := topS 20
abbrev n_is_kinded : List Str := ["value"]
abbrev p_is_kinded : List Str := ["value"]
theorem S_is_kinded : FnScope n_is_kinded p_is_kinded (defScope t_is_kinded) := ⟨rfl, rfl, rfl, by decide +kernel, rfl, by decide +kernel, by decide +kernel⟩
abbrev t_names_by : Stmt := topS 21
abbrev n_names_by : List Str := ["kind", "found", "each"]
abbrev p_names_by : List Str := ["kind"]
theorem S_names_by : FnScope n_names_by p_names_by (defScope t_names_by) := ⟨rfl, rfl, rfl, by decide +kernel, rfl, by decide +kernel, by decide +kernel⟩
abbrev t_is_kind_in : Stmt := topS 22
abbrev n_is_kind_in : List Str := ["book", "value", "name"]
abbrev p_is_kind_in : List Str := ["book", "value"]
theorem S_is_kind_in : FnScope n_is_kind_in p_is_kind_in (defScope t_is_kind_in) := ⟨rfl, rfl, rfl, by decide +kernel, rfl, by decide +kernel, by decide +kernel⟩
abbrev t_is_hole_in : Stmt := topS 23
abbrev n_is_hole_in : List Str := ["book", "value"]
abbrev p_is_hole_in : List Str := ["book", "value"]
theorem S_is_hole_in : FnScope n_is_hole_in p_is_hole_in (defScope t_is_hole_in) := ⟨rfl, rfl, rfl, by decide +kernel, rfl, by decide +kernel, by decide +kernel⟩
abbrev t_wrong_forms : Stmt := topS 26
abbrev n_wrong_forms : List Str := ["value", "last", "index", "each"]
abbrev p_wrong_forms : List Str := ["value"]
theorem S_wrong_forms : FnScope n_wrong_forms p_wrong_forms (defScope t_wrong_forms) := ⟨rfl, rfl, rfl, by decide +kernel, rfl, by decide +kernel, by decide +kernel⟩
abbrev t_is_made : Stmt := topS 27
abbrev n_is_made : List Str := ["book", "name", "kind", "at", "first", "last"]
abbrev p_is_made : List Str := ["book", "name", "kind"]
theorem S_is_made : FnScope n_is_made p_is_made (defScope t_is_made) := ⟨rfl, rfl, rfl, by decide +kernel, rfl, by decide +kernel, by decide +kernel⟩
abbrev t_wrong_in_book : Stmt := topS 28
abbrev n_wrong_in_book : List Str := ["value", "found", "told", "index", "_", "kind", "name"]
abbrev p_wrong_in_book : List Str := ["value"]
theorem S_wrong_in_book : FnScope n_wrong_in_book p_wrong_in_book (defScope t_wrong_in_book) := ⟨rfl, rfl, rfl, by decide +kernel, rfl, by decide +kernel, by decide +kernel⟩
abbrev t_check_book : Stmt := topS 36
abbrev n_check_book : List Str := ["value", "index"]
abbrev p_check_book : List Str := ["value"]
theorem S_check_book : FnScope n_check_book p_check_book (defScope t_check_book) := ⟨rfl, rfl, rfl, by decide +kernel, rfl, by decide +kernel, by decide +kernel⟩
abbrev t_checked_book : Stmt := topS 37
abbrev n_checked_book : List Str := ["value"]
abbrev p_checked_book : List Str := ["value"]
theorem S_checked_book : FnScope n_checked_book p_checked_book (defScope t_checked_book) := ⟨rfl, rfl, rfl, by decide +kernel, rfl, by decide +kernel, by decide +kernel⟩
abbrev t_check_kind_of : Stmt := topS 38
abbrev n_check_kind_of : List Str := ["book", "value"]
abbrev p_check_kind_of : List Str := ["book", "value"]
theorem S_check_kind_of : FnScope n_check_kind_of p_check_kind_of (defScope t_check_kind_of) := ⟨rfl, rfl, rfl, by decide +kernel, rfl, by decide +kernel, by decide +kernel⟩
abbrev t_check_hole : Stmt := topS 39
abbrev n_check_hole : List Str := ["book", "value"]
abbrev p_check_hole : List Str := ["book", "value"]
theorem S_check_hole : FnScope n_check_hole p_check_hole (defScope t_check_hole) := ⟨rfl, rfl, rfl, by decide +kernel, rfl, by decide +kernel, by decide +kernel⟩
abbrev t_checked_places : Stmt := topS 41
abbrev n_checked_places : List Str := ["book", "kind", "hole", "told"]
abbrev p_checked_places : List Str := ["book", "kind", "hole"]
theorem S_checked_places : FnScope n_checked_places p_checked_places (defScope t_checked_places) := ⟨rfl, rfl, rfl, by decide +kernel, rfl, by decide +kernel, by decide +kernel⟩
abbrev t_kind_by : Stmt := topS 42
abbrev n_kind_by : List Str := ["book", "kind", "hole"]
abbrev p_kind_by : List Str := ["book", "kind", "hole"]
theorem S_kind_by : FnScope n_kind_by p_kind_by (defScope t_kind_by) := ⟨rfl, rfl, rfl, by decide +kernel, rfl, by decide +kernel, by decide +kernel⟩
abbrev t_book_by : Stmt := topS 43
abbrev n_book_by : List Str := ["book", "hole", "told"]
abbrev p_book_by : List Str := ["book", "hole"]
theorem S_book_by : FnScope n_book_by p_book_by (defScope t_book_by) := ⟨rfl, rfl, rfl, by decide +kernel, rfl, by decide +kernel, by decide +kernel⟩
abbrev t_is_book : Stmt := topS 45
abbrev n_is_book : List Str := ["value"]
abbrev p_is_book : List Str := ["value"]
theorem S_is_book : FnScope n_is_book p_is_book (defScope t_is_book) := ⟨rfl, rfl, rfl, by decide +kernel, rfl, by decide +kernel, by decide +kernel⟩
abbrev t_kind_named : Stmt := topS 46
abbrev n_kind_named : List Str := ["book", "name", "told"]
abbrev p_kind_named : List Str := ["book", "name"]
theorem S_kind_named : FnScope n_kind_named p_kind_named (defScope t_kind_named) := ⟨rfl, rfl, rfl, by decide +kernel, rfl, by decide +kernel, by decide +kernel⟩
abbrev t_law_spring : Stmt := topS 48
abbrev n_law_spring : List Str := ["script", "lap", "own", "seed", "cell"]
abbrev p_law_spring : List Str := ["script", "lap"]
theorem S_law_spring : FnScope n_law_spring p_law_spring (defScope t_law_spring) := ⟨rfl, rfl, rfl, by decide +kernel, rfl, by decide +kernel, by decide +kernel⟩
abbrev t_law_draw : Stmt := topS 49
abbrev n_law_draw : List Str := ["spring", "top", "digit", "seed"]
abbrev p_law_draw : List Str := ["spring", "top"]
theorem S_law_draw : FnScope n_law_draw p_law_draw (defScope t_law_draw) := ⟨rfl, rfl, rfl, by decide +kernel, rfl, by decide +kernel, by decide +kernel⟩
abbrev t_law_pick : Stmt := topS 50
abbrev n_law_pick : List Str := ["spring", "some"]
abbrev p_law_pick : List Str := ["spring", "some"]
theorem S_law_pick : FnScope n_law_pick p_law_pick (defScope t_law_pick) := ⟨rfl, rfl, rfl, by decide +kernel, rfl, by decide +kernel, by decide +kernel⟩
abbrev t_law_is : Stmt := topS 51
abbrev n_law_is : List Str := ["gave", "due"]
abbrev p_law_is : List Str := ["gave", "due"]
theorem S_law_is : FnScope n_law_is p_law_is (defScope t_law_is) := ⟨rfl, rfl, rfl, by decide +kernel, rfl, by decide +kernel, by decide +kernel⟩
abbrev t_law_name : Stmt := topS 52
abbrev n_law_name : List Str := ["spring", "taken", "name", "tails", "more", "lap", "head"]
abbrev p_law_name : List Str := ["spring", "taken"]
theorem S_law_name : FnScope n_law_name p_law_name (defScope t_law_name) := ⟨rfl, rfl, rfl, by decide +kernel, rfl, by decide +kernel, by decide +kernel⟩
abbrev t_law_form : Stmt := topS 53
abbrev n_law_form : List Str := ["spring", "names", "left", "way", "many", "lead"]
abbrev p_law_form : List Str := ["spring", "names", "left"]
theorem S_law_form : FnScope n_law_form p_law_form (defScope t_law_form) := ⟨rfl, rfl, rfl, by decide +kernel, rfl, by decide +kernel, by decide +kernel⟩
abbrev t_law_own_form : Stmt := topS 54
abbrev n_law_own_form : List Str := ["spring", "names", "name", "left", "way", "own", "other", "out", "some", "more"]
abbrev p_law_own_form : List Str := ["spring", "names", "name", "left"]
theorem S_law_own_form : FnScope n_law_own_form p_law_own_form (defScope t_law_own_form) := ⟨rfl, rfl, rfl, by decide +kernel, rfl, by decide +kernel, by decide +kernel⟩
abbrev t_law_lib : Stmt := topS 55
abbrev n_law_lib : List Str := ["spring", "left", "names", "rows", "lap", "name"]
abbrev p_law_lib : List Str := ["spring", "left"]
theorem S_law_lib : FnScope n_law_lib p_law_lib (defScope t_law_lib) := ⟨rfl, rfl, rfl, by decide +kernel, rfl, by decide +kernel, by decide +kernel⟩
abbrev t_law_gap : Stmt := topS 57
abbrev n_law_gap : List Str := ["spring", "names"]
abbrev p_law_gap : List Str := ["spring", "names"]
theorem S_law_gap : FnScope n_law_gap p_law_gap (defScope t_law_gap) := ⟨rfl, rfl, rfl, by decide +kernel, rfl, by decide +kernel, by decide +kernel⟩
abbrev t_law_name_by : Stmt := topS 58
abbrev n_law_name_by : List Str := ["name", "gap"]
abbrev p_law_name_by : List Str := ["name", "gap"]
theorem S_law_name_by : FnScope n_law_name_by p_law_name_by (defScope t_law_name_by) := ⟨rfl, rfl, rfl, by decide +kernel, rfl, by decide +kernel, by decide +kernel⟩
abbrev t_law_by : Stmt := topS 59
abbrev n_law_by : List Str := ["form", "gap", "lead", "last"]
abbrev p_law_by : List Str := ["form", "gap"]
theorem S_law_by : FnScope n_law_by p_law_by (defScope t_law_by) := ⟨rfl, rfl, rfl, by decide +kernel, rfl, by decide +kernel, by decide +kernel⟩
abbrev t_law_lib_by : Stmt := topS 60
abbrev n_law_lib_by : List Str := ["lib", "gap", "table", "name", "form"]
abbrev p_law_lib_by : List Str := ["lib", "gap"]
theorem S_law_lib_by : FnScope n_law_lib_by p_law_lib_by (defScope t_law_lib_by) := ⟨rfl, rfl, rfl, by decide +kernel, rfl, by decide +kernel, by decide +kernel⟩
abbrev t_law_parts : Stmt := topS 61
abbrev n_law_parts : List Str := ["form"]
abbrev p_law_parts : List Str := ["form"]
theorem S_law_parts : FnScope n_law_parts p_law_parts (defScope t_law_parts) := ⟨rfl, rfl, rfl, by decide +kernel, rfl, by decide +kernel, by decide +kernel⟩
abbrev t_law_step : Stmt := topS 62
abbrev n_law_step : List Str := ["spring", "lib", "form", "gap", "due", "more", "name", "own", "named"]
abbrev p_law_step : List Str := ["spring", "lib", "form", "gap"]
theorem S_law_step : FnScope n_law_step p_law_step (defScope t_law_step) := ⟨rfl, rfl, rfl, by decide +kernel, rfl, by decide +kernel, by decide +kernel⟩
abbrev t_law_right : Stmt := topS 63
abbrev n_law_right : List Str := ["spring", "lib", "names", "deeds", "form", "lap", "gap", "due", "more", "name", "own"]
abbrev p_law_right : List Str := ["spring"]
theorem S_law_right : FnScope n_law_right p_law_right (defScope t_law_right) := ⟨rfl, rfl, rfl, by decide +kernel, rfl, by decide +kernel, by decide +kernel⟩
abbrev t_law : Stmt := topS 64
abbrev n_law : List Str := ["script", "lap"]
abbrev p_law : List Str := ["script"]
theorem S_law : FnScope n_law p_law (defScope t_law) := ⟨rfl, rfl, rfl, by decide +kernel, rfl, by decide +kernel, by decide +kernel⟩
/-- what the top has written -/
structure Txt (K : PySem.W.Frag) (w : World) (mg : Str → Option Value) : Prop where
  f_marked_name : Fn1 K mg "marked_name" t_marked_name
  f_kind_by_hole : Fn1 K mg "kind_by_hole" t_kind_by_hole
  f_book_by_hole : Fn1 K mg "book_by_hole" t_book_by_hole
  f_is_written_name : Fn1 K mg "is_written_name" t_is_written_name
  f_is_named : Fn1 K mg "is_named" t_is_named
  f_is_kind_formed : Fn1 K mg "is_kind_formed" t_is_kind_formed
  f_kinds_in : Fn1 K mg "kinds_in" t_kinds_in
  f_count_kinds : Fn1 K mg "count_kinds" t_count_kinds
  f_is_kinded : Fn1 K mg "is_kinded" t_is_kinded
  f_names_by : Fn1 K mg "names_by" t_names_by
  f_is_kind_in : Fn1 K mg "is_kind_in" t_is_kind_in
  f_is_hole_in : Fn1 K mg "is_hole_in" t_is_hole_in
  f_wrong_forms : Fn1 K mg "wrong_forms" t_wrong_forms
  f_is_made : Fn1 K mg "is_made" t_is_made
  f_wrong_in_book : Fn1 K mg "wrong_in_book" t_wrong_in_book
  f_check_book : Fn1 K mg "check_book" t_check_book
  f_checked_book : Fn1 K mg "checked_book" t_checked_book
  f_check_kind_of : Fn1 K mg "check_kind_of" t_check_kind_of
  f_check_hole : Fn1 K mg "check_hole" t_check_hole
  f_checked_places : Fn1 K mg "checked_places" t_checked_places
  f_kind_by : Fn1 K mg "kind_by" t_kind_by
  f_book_by : Fn1 K mg "book_by" t_book_by
  f_is_book : Fn1 K mg "is_book" t_is_book
  f_kind_named : Fn1 K mg "kind_named" t_kind_named
  f_law_spring : Fn1 K mg "_law_spring" t_law_spring
  f_law_draw : Fn1 K mg "_law_draw" t_law_draw
  f_law_pick : Fn1 K mg "_law_pick" t_law_pick
  f_law_is : Fn1 K mg "_law_is" t_law_is
  f_law_name : Fn1 K mg "_law_name" t_law_name
  f_law_form : Fn1 K mg "_law_form" t_law_form
  f_law_own_form : Fn1 K mg "_law_own_form" t_law_own_form
  f_law_lib : Fn1 K mg "_law_lib" t_law_lib
  f_law_gap : Fn1 K mg "_law_gap" t_law_gap
  f_law_name_by : Fn1 K mg "_law_name_by" t_law_name_by
  f_law_by : Fn1 K mg "_law_by" t_law_by
  f_law_lib_by : Fn1 K mg "_law_lib_by" t_law_lib_by
  f_law_parts : Fn1 K mg "_law_parts" t_law_parts
  f_law_step : Fn1 K mg "_law_step" t_law_step
  f_law_right : Fn1 K mg "_law_right" t_law_right
  f_law : Fn1 K mg "law" t_law
  no_dict : mg "dict" = none
  no_all : mg "all" = none
  no_len : mg "len" = none
  no_isinstance : mg "isinstance" = none
  no_str : mg "str" = none
  no_tuple : mg "tuple" = none
  no_sum : mg "sum" = none
  no_enumerate : mg "enumerate" = none
  no_sorted : mg "sorted" = none
  no_abs : mg "abs" = none
  no_int : mg "int" = none
  no_divmod : mg "divmod" = none
  no_repr : mg "repr" = none
  no_range : mg "range" = none
  no_list : mg "list" = none
  no_max : mg "max" = none
  no_min : mg "min" = none
  k_KIND_SIZES : KDat K w mg "KIND_SIZES" k_KIND_SIZES
  g_NONE : GlobD K mg "NONE" g_NONE
  g_UNIT : GlobD K mg "UNIT" g_UNIT
  g_SMALL : GlobD K mg "SMALL" g_SMALL
  g_FIGURES : GlobD K mg "FIGURES" g_FIGURES
  g_CAPITALS : GlobD K mg "CAPITALS" g_CAPITALS
  g_MOST_SIGNS : GlobD K mg "MOST_SIGNS" g_MOST_SIGNS
  g_MOST_NAME : GlobD K mg "MOST_NAME" g_MOST_NAME
  g_MOST_PARTS : GlobD K mg "MOST_PARTS" g_MOST_PARTS
  g_MOST_DEEP : GlobD K mg "MOST_DEEP" g_MOST_DEEP
  g_MOST_NAMES : GlobD K mg "MOST_NAMES" g_MOST_NAMES
section
variable {P : Program} {w : World} {K : PySem.W.Frag} {mg : Str → Option Value} {base : Heap}
theorem d_marked_name (T : Txt K w mg) {k : Nat}  (f : Addr) (cdv : Value) (A : Around) (outer : List PySem.Env) (s : Shared) (H : Hp) (E : XK) (EE : EK)
    (hr : Room1 k (A.deeper (envOfC "marked_name" (defScope t_marked_name) s.heap.objs.size f cdv))) :
    PSs (cxOf CX0 P w K mg base n_marked_name "marked_name" (defScope t_marked_name) f cdv A outer s H E).nox (defBody t_marked_name) (tS K mg (b_marked_name EE)) :=
  (ds_last (ds_ret (de_op do_add (de_op do_add (de_var 0) de_str) (de_if (dt_cmp (do_eq (hr.u 300)) (de_ix (hr.u 300) (de_var 1) de_int) de_str) (de_ix (hr.u 300) (de_var 1) de_int) de_str))))
theorem d_kind_by_hole (T : Txt K w mg) {k : Nat} {s_kind_by_hole s_marked_name : SpD} (h_kind_by_hole : Has P w K mg base k "kind_by_hole" p_kind_by_hole s_kind_by_hole) (h_marked_name : Has P w K mg base k "marked_name" p_marked_name s_marked_name) (f : Addr) (cdv : Value) (A : Around) (outer : List PySem.Env) (s : Shared) (H : Hp) (E : XK) (EE : EK)
    (hr : Room1 k (A.deeper (envOfC "kind_by_hole" (defScope t_kind_by_hole) s.heap.objs.size f cdv))) :
    PSs (cxOf CX0 P w K mg base n_kind_by_hole "kind_by_hole" (defScope t_kind_by_hole) f cdv A outer s H E).nox (defBody t_kind_by_hole) (tS K mg (b_kind_by_hole s_kind_by_hole s_marked_name EE)) :=
  (ds_cons (ds_if (dt_cmp (do_eq (hr.u 300)) (de_var 0) (de_var 1)) (ds_last (ds_ret (de_if (dt_cmp (do_eq (hr.u 300)) (de_ix (hr.u 300) (de_var 1) de_int) de_str) (de_globD T.g_UNIT) (de_tup (da_cons de_str (da_cons (de_globD T.g_UNIT) (da_cons (de_tup (da_cons de_str (da_cons (de_callH h_marked_name hr (da_cons (de_ix (hr.u 300) (de_var 1) de_int) (da_cons (de_var 1) da_nil))) da_nil))) da_nil))))))) ds_nil)
    (ds_cons (ds_if (dt_cmp (do_eq (hr.u 300)) (de_ix (hr.u 300) (de_var 0) de_int) de_str) (ds_last (ds_ret (de_tup (da_cons de_str (da_cons (de_callH h_marked_name hr (da_cons (de_ix (hr.u 300) (de_var 0) de_int) (da_cons (de_var 1) da_nil))) da_nil))))) ds_nil)
    (ds_cons (ds_if (dt_cmp (do_eq (hr.u 300)) (de_ix (hr.u 300) (de_var 0) de_int) de_str) (ds_last (ds_ret (de_tup (da_cons de_str (da_cons (de_callH h_kind_by_hole hr (da_cons (de_ix (hr.u 300) (de_var 0) de_int) (da_cons (de_var 1) da_nil))) (da_cons (de_callH h_kind_by_hole hr (da_cons (de_ix (hr.u 300) (de_var 0) de_int) (da_cons (de_var 1) da_nil))) da_nil)))))) ds_nil)
    (ds_cons (ds_if (dt_cmp (do_eq (hr.u 300)) (de_ix (hr.u 300) (de_var 0) de_int) de_str) (ds_cons (ds_set 2 S_kind_by_hole.nd (de_tup (da_cons de_str (da_cons (de_callH h_kind_by_hole hr (da_cons (de_ix (hr.u 300) (de_var 0) de_int) (da_cons (de_var 1) da_nil))) (da_cons (de_ix (hr.u 300) (de_var 0) de_int) da_nil)))))
    (ds_last (ds_ret (de_tup (da_cons de_str (da_cons (de_var 2) (da_cons (de_tup (da_cons de_str (da_cons (de_ix (hr.u 300) (de_var 0) de_int) (da_cons (de_callH h_kind_by_hole hr (da_cons (de_ix (hr.u 300) (de_var 0) de_int) (da_cons (de_var 1) da_nil))) da_nil)))) da_nil))))))) ds_nil)
    (ds_last (ds_ret (de_globD T.g_NONE)))))))
theorem d_book_by_hole (T : Txt K w mg) {k : Nat} {s_kind_by_hole s_marked_name : SpD} (h_kind_by_hole : Has P w K mg base k "kind_by_hole" p_kind_by_hole s_kind_by_hole) (h_marked_name : Has P w K mg base k "marked_name" p_marked_name s_marked_name) (f : Addr) (cdv : Value) (A : Around) (outer : List PySem.Env) (s : Shared) (H : Hp) (E : XK) (EE : EK)
    (hr : Room1 k (A.deeper (envOfC "book_by_hole" (defScope t_book_by_hole) s.heap.objs.size f cdv))) :
    PSs (cxOf CX0 P w K mg base n_book_by_hole "book_by_hole" (defScope t_book_by_hole) f cdv A outer s H E).nox (defBody t_book_by_hole) (tS K mg (b_book_by_hole s_kind_by_hole s_marked_name EE)) :=
  (ds_cons (ds_set 2 S_book_by_hole.nd (de_dctC (de_var 0) T.no_dict))
    (ds_cons (ds_for PassesOwn.never rfl (di_items (de_var 0)) (dg_tupN rfl (dgs_cons (dg_name 3 S_book_by_hole.nd) (dgs_cons (dg_name 4 S_book_by_hole.nd) dgs_nil))) (ds_last (ds_asg (de_callH h_kind_by_hole hr (da_cons (de_var 4) (da_cons (de_var 1) da_nil))) (dg_sub (hr.u 300) (de_var 2) (de_callH h_marked_name hr (da_cons (de_var 3) (da_cons (de_var 1) da_nil)))))))
    (ds_last (ds_ret (de_frz (de_var 2))))))
theorem d_is_written_name (T : Txt K w mg) {k : Nat}  (f : Addr) (cdv : Value) (A : Around) (outer : List PySem.Env) (s : Shared) (H : Hp) (E : XK) (EE : EK)
    (hr : Room1 k (A.deeper (envOfC "is_written_name" (defScope t_is_written_name) s.heap.objs.size f cdv))) :
    PSs (cxOf CX0 P w K mg base n_is_written_name "is_written_name" (defScope t_is_written_name) f cdv A outer s H E).nox (defBody t_is_written_name) (tS K mg (b_is_written_name EE)) :=
  (ds_cons (ds_if (PW.pt (dt_or (dt_not (dt_chain do_le do_le de_int (de_len (de_var 0) T.no_len) (de_globD T.g_MOST_SIGNS))) (dt_or1 (dt_cmp (do_notIn (hr.u 300)) (de_ix (hr.u 300) (de_var 0) de_int) (de_globD T.g_CAPITALS))))) (ds_last (ds_ret de_bl)) ds_nil)
    (ds_last (ds_ret (de_all rfl (da_cons (de_lc (own := [("sign", 1)]) rfl S_is_written_name.nd (di_str (de_sl (de_var 0) (dp_s de_int) dp_n)) (by first | rfl | kernel_rfl) (fun _ _ _ _ _ => (dg_name 1 S_is_written_name.nd)) (fun _ _ _ _ _ => dts_nil) (fun _ _ _ _ _ => (de_cmp (do_in (hr.u 300)) (de_var 1) (de_op do_add (de_globD T.g_SMALL) (de_globD T.g_FIGURES))))) da_nil) T.no_all))))
theorem d_is_named (T : Txt K w mg) {k : Nat} {s_is_written_name : SpD} (h_is_written_name : Has P w K mg base k "is_written_name" p_is_written_name s_is_written_name) (f : Addr) (cdv : Value) (A : Around) (outer : List PySem.Env) (s : Shared) (H : Hp) (E : XK) (EE : EK)
    (hr : Room1 k (A.deeper (envOfC "is_named" (defScope t_is_named) s.heap.objs.size f cdv))) :
    PSs (cxOf CX0 P w K mg base n_is_named "is_named" (defScope t_is_named) f cdv A outer s H E).nox (defBody t_is_named) (tS K mg (b_is_named s_is_written_name EE)) :=
  (ds_cons (ds_if (PW.pt (dt_or (dt_not (dt_val (de_isi (T := "str") (by decide) (de_var 0) T.no_isinstance T.no_str PyProof.Rows.boot_str))) (dt_or1 (dt_cmp do_gt (de_len (de_var 0) T.no_len) (de_globD T.g_MOST_NAME))))) (ds_last (ds_ret de_bl)) ds_nil)
    (ds_cons (ds_set 1 S_is_named.nd (de_split (de_var 0) de_str))
    (ds_last (ds_ret (de_and (de_callH h_is_written_name hr (da_cons (de_ix (hr.u 300) (de_var 1) de_int) da_nil)) (de_one (de_all rfl (da_cons (de_lc (own := [("each", 2)]) rfl S_is_named.nd (di_seq (de_sl (de_var 1) (dp_s de_int) dp_n)) (by first | rfl | kernel_rfl) (fun _ _ _ _ _ => (dg_name 2 S_is_named.nd)) (fun _ _ _ _ _ => dts_nil) (fun _ _ _ _ _ => (de_or (de_cmp (do_eq (hr.u 300)) (de_var 2) de_str) (de_one (de_callH h_is_written_name hr (da_cons (de_var 2) da_nil)))))) da_nil) T.no_all)))))))
theorem d_is_kind_formed (T : Txt K w mg) {k : Nat} {s_is_kind_formed s_is_named : SpD} (h_is_kind_formed : Has P w K mg base k "is_kind_formed" p_is_kind_formed s_is_kind_formed) (h_is_named : Has P w K mg base k "is_named" p_is_named s_is_named) (f : Addr) (cdv : Value) (A : Around) (outer : List PySem.Env) (s : Shared) (H : Hp) (E : XK) (EE : EK)
    (hr : Room1 k (A.deeper (envOfC "is_kind_formed" (defScope t_is_kind_formed) s.heap.objs.size f cdv))) :
    PSs (cxOf CX0 P w K mg base n_is_kind_formed "is_kind_formed" (defScope t_is_kind_formed) f cdv A outer s H E).nox (defBody t_is_kind_formed) (tS K mg (b_is_kind_formed s_is_kind_formed s_is_named EE)) :=
  (ds_cons (ds_if (PW.pt (dt_or (dt_cmp (do_eq (hr.u 300)) (de_var 1) de_int) (dt_or (dt_not (dt_val (de_isi (T := "tuple") (by decide) (de_var 0) T.no_isinstance T.no_tuple PyProof.Rows.boot_tuple))) (dt_or (dt_cmp (do_eq (hr.u 300)) (de_var 0) (de_tup da_nil)) (dt_or1 (dt_not (dt_val (de_isi (T := "str") (by decide) (de_ix (hr.u 300) (de_var 0) de_int) T.no_isinstance T.no_str PyProof.Rows.boot_str)))))))) (ds_last (ds_ret de_bl)) ds_nil)
    (ds_cons (ds_if (dt_cmp (do_eq (hr.u 300)) (de_ix (hr.u 300) (de_var 0) de_int) de_str) (ds_last (ds_ret (de_and (de_cmp (do_eq (hr.u 300)) (de_len (de_var 0) T.no_len) de_int) (de_one (de_callH h_is_named hr (da_cons (de_ix (hr.u 300) (de_var 0) de_int) da_nil)))))) ds_nil)
    (ds_cons (ds_if (PW.pt (dt_or (dt_kNotIn T.k_KIND_SIZES (de_ix (hr.u 300) (de_var 0) de_int)) (dt_or1 (dt_cmp (do_ne (hr.u 300)) (de_len (de_var 0) T.no_len) (de_op do_add de_int (de_kIx T.k_KIND_SIZES (de_ix (hr.u 300) (de_var 0) de_int))))))) (ds_last (ds_ret de_bl)) ds_nil)
    (ds_last (ds_ret (de_all rfl (da_cons (de_lc (own := [("each", 2)]) rfl S_is_kind_formed.nd (di_seq (de_sl (de_var 0) (dp_s de_int) dp_n)) (by first | rfl | kernel_rfl) (fun _ _ _ _ _ => (dg_name 2 S_is_kind_formed.nd)) (fun _ _ _ _ _ => dts_nil) (fun _ _ _ _ _ => (de_callH h_is_kind_formed hr (da_cons (de_var 2) (da_cons (de_op do_sub (de_var 1) de_int) da_nil))))) da_nil) T.no_all))))))
theorem d_kinds_in (T : Txt K w mg) {k : Nat}  (f : Addr) (cdv : Value) (A : Around) (outer : List PySem.Env) (s : Shared) (H : Hp) (E : XK) (EE : EK)
    (hr : Room1 k (A.deeper (envOfC "kinds_in" (defScope t_kinds_in) s.heap.objs.size f cdv))) :
    PSs (cxOf CX0 P w K mg base n_kinds_in "kinds_in" (defScope t_kinds_in) f cdv A outer s H E).nox (defBody t_kinds_in) (tS K mg (b_kinds_in EE)) :=
  (ds_last (ds_ret (de_if (dt_cmp (do_eq (hr.u 300)) (de_ix (hr.u 300) (de_var 0) de_int) de_str) (de_tup da_nil) (de_sl (de_var 0) (dp_s de_int) dp_n))))
theorem d_count_kinds (T : Txt K w mg) {k : Nat} {s_kinds_in s_count_kinds : SpD} (h_kinds_in : Has P w K mg base k "kinds_in" p_kinds_in s_kinds_in) (h_count_kinds : Has P w K mg base k "count_kinds" p_count_kinds s_count_kinds) (f : Addr) (cdv : Value) (A : Around) (outer : List PySem.Env) (s : Shared) (H : Hp) (E : XK) (EE : EK)
    (hr : Room1 k (A.deeper (envOfC "count_kinds" (defScope t_count_kinds) s.heap.objs.size f cdv))) :
    PSs (cxOf CX0 P w K mg base n_count_kinds "count_kinds" (defScope t_count_kinds) f cdv A outer s H E).nox (defBody t_count_kinds) (tS K mg (b_count_kinds s_kinds_in s_count_kinds EE)) :=
  (ds_last (ds_ret (de_op do_add de_int (de_sum rfl (da_cons (de_lc (own := [("each", 1)]) rfl S_count_kinds.nd (di_seq (de_callH h_kinds_in hr (da_cons (de_var 0) da_nil))) (by first | rfl | kernel_rfl) (fun _ _ _ _ _ => (dg_name 1 S_count_kinds.nd)) (fun _ _ _ _ _ => dts_nil) (fun _ _ _ _ _ => (de_callH h_count_kinds hr (da_cons (de_var 1) da_nil)))) da_nil) T.no_sum))))
theorem d_is_kinded (T : Txt K w mg) {k : Nat} {s_count_kinds s_is_kind_formed : SpD} (h_count_kinds : Has P w K mg base k "count_kinds" p_count_kinds s_count_kinds) (h_is_kind_formed : Has P w K mg base k "is_kind_formed" p_is_kind_formed s_is_kind_formed) (f : Addr) (cdv : Value) (A : Around) (outer : List PySem.Env) (s : Shared) (H : Hp) (E : XK) (EE : EK)
    (hr : Room1 k (A.deeper (envOfC "is_kinded" (defScope t_is_kinded) s.heap.objs.size f cdv))) :
    PSs (cxOf CX0 P w K mg base n_is_kinded "is_kinded" (defScope t_is_kinded) f cdv A outer s H E).nox (defBody t_is_kinded) (tS K mg (b_is_kinded s_count_kinds s_is_kind_formed EE)) :=
  (ds_last (ds_ret (de_and (de_callH h_is_kind_formed hr (da_cons (de_var 0) (da_cons (de_globD T.g_MOST_DEEP) da_nil))) (de_one (de_cmp do_le (de_callH h_count_kinds hr (da_cons (de_var 0) da_nil)) (de_globD T.g_MOST_PARTS))))))
theorem d_names_by (T : Txt K w mg) {k : Nat} {s_kinds_in s_names_by : SpD} (h_kinds_in : Has P w K mg base k "kinds_in" p_kinds_in s_kinds_in) (h_names_by : Has P w K mg base k "names_by" p_names_by s_names_by) (f : Addr) (cdv : Value) (A : Around) (outer : List PySem.Env) (s : Shared) (H : Hp) (E : XK) (EE : EK)
    (hr : Room1 k (A.deeper (envOfC "names_by" (defScope t_names_by) s.heap.objs.size f cdv))) :
    PSs (cxOf CX0 P w K mg base n_names_by "names_by" (defScope t_names_by) f cdv A outer s H E).nox (defBody t_names_by) (tS K mg (b_names_by s_kinds_in s_names_by EE)) :=
  (ds_cons (ds_if (dt_cmp (do_eq (hr.u 300)) (de_ix (hr.u 300) (de_var 0) de_int) de_str) (ds_last (ds_ret (de_disp (dpp_cons (de_ix (hr.u 300) (de_var 0) de_int) de_bl dpp_nil)))) ds_nil)
    (ds_cons (ds_set 1 S_names_by.nd de_dct0)
    (ds_cons (ds_for PassesOwn.never rfl (di_seq (de_callH h_kinds_in hr (da_cons (de_var 0) da_nil))) (dg_name 2 S_names_by.nd) (ds_last (ds_set 1 S_names_by.nd (de_dctS (de_var 1) (de_callH h_names_by hr (da_cons (de_var 2) da_nil))))))
    (ds_last (ds_ret (de_var 1))))))
theorem d_is_kind_in (T : Txt K w mg) {k : Nat} {s_names_by s_is_kinded : SpD} (h_names_by : Has P w K mg base k "names_by" p_names_by s_names_by) (h_is_kinded : Has P w K mg base k "is_kinded" p_is_kinded s_is_kinded) (f : Addr) (cdv : Value) (A : Around) (outer : List PySem.Env) (s : Shared) (H : Hp) (E : XK) (EE : EK)
    (hr : Room1 k (A.deeper (envOfC "is_kind_in" (defScope t_is_kind_in) s.heap.objs.size f cdv))) :
    PSs (cxOf CX0 P w K mg base n_is_kind_in "is_kind_in" (defScope t_is_kind_in) f cdv A outer s H E).nox (defBody t_is_kind_in) (tS K mg (b_is_kind_in s_names_by s_is_kinded EE)) :=
  (ds_last (ds_ret (de_and (de_callH h_is_kinded hr (da_cons (de_var 1) da_nil)) (de_one (de_all rfl (da_cons (de_lc (own := [("name", 2)]) rfl S_is_kind_in.nd (di_keys (de_callH h_names_by hr (da_cons (de_var 1) da_nil))) (by first | rfl | kernel_rfl) (fun _ _ _ _ _ => (dg_name 2 S_is_kind_in.nd)) (fun _ _ _ _ _ => dts_nil) (fun _ _ _ _ _ => (de_cmp (do_in (hr.u 300)) (de_var 2) (de_var 0)))) da_nil) T.no_all)))))
theorem d_is_hole_in (T : Txt K w mg) {k : Nat} {s_is_written_name : SpD} (h_is_written_name : Has P w K mg base k "is_written_name" p_is_written_name s_is_written_name) (f : Addr) (cdv : Value) (A : Around) (outer : List PySem.Env) (s : Shared) (H : Hp) (E : XK) (EE : EK)
    (hr : Room1 k (A.deeper (envOfC "is_hole_in" (defScope t_is_hole_in) s.heap.objs.size f cdv))) :
    PSs (cxOf CX0 P w K mg base n_is_hole_in "is_hole_in" (defScope t_is_hole_in) f cdv A outer s H E).nox (defBody t_is_hole_in) (tS K mg (b_is_hole_in s_is_written_name EE)) :=
  (ds_cons (ds_if (PW.pt (dt_or (dt_not (dt_val (de_isi (T := "tuple") (by decide) (de_var 1) T.no_isinstance T.no_tuple PyProof.Rows.boot_tuple))) (dt_or (dt_not (dt_chain do_le do_le de_int (de_len (de_var 1) T.no_len) de_int)) (dt_or1 (dt_not (dt_val (de_isi (T := "str") (by decide) (de_ix (hr.u 300) (de_var 1) de_int) T.no_isinstance T.no_str PyProof.Rows.boot_str))))))) (ds_last (ds_ret de_bl)) ds_nil)
    (ds_cons (ds_if (dt_cmp (do_eq (hr.u 300)) (de_len (de_var 1) T.no_len) de_int) (ds_last (ds_ret (de_cmp (do_eq (hr.u 300)) (de_ix (hr.u 300) (de_var 1) de_int) de_str))) ds_nil)
    (ds_last (ds_ret (de_and (de_cmp (do_eq (hr.u 300)) (de_ix (hr.u 300) (de_var 1) de_int) de_str) (de_and (de_isi (T := "str") (by decide) (de_ix (hr.u 300) (de_var 1) de_int) T.no_isinstance T.no_str PyProof.Rows.boot_str) (de_and (de_callH h_is_written_name hr (da_cons (de_ix (hr.u 300) (de_var 1) de_int) da_nil)) (de_one (de_cmp (do_in (hr.u 300)) (de_ix (hr.u 300) (de_var 1) de_int) (de_var 0))))))))))
theorem d_wrong_forms (T : Txt K w mg) {k : Nat} {s_is_kinded s_is_named : SpD} (h_is_kinded : Has P w K mg base k "is_kinded" p_is_kinded s_is_kinded) (h_is_named : Has P w K mg base k "is_named" p_is_named s_is_named) (f : Addr) (cdv : Value) (A : Around) (outer : List PySem.Env) (s : Shared) (H : Hp) (E : XK) (EE : EK)
    (hr : Room1 k (A.deeper (envOfC "wrong_forms" (defScope t_wrong_forms) s.heap.objs.size f cdv))) :
    PSs (cxOf CX0 P w K mg base n_wrong_forms "wrong_forms" (defScope t_wrong_forms) f cdv A outer s H E).nox (defBody t_wrong_forms) (tS K mg (b_wrong_forms s_is_kinded s_is_named EE)) :=
  (ds_cons (ds_set 1 S_wrong_forms.nd de_str)
    (ds_cons (ds_for PassesOwn.never rfl (di_enum (de_var 0) T.no_enumerate) (dg_tupN rfl (dgs_cons (dg_name 2 S_wrong_forms.nd) (dgs_cons (dg_name 3 S_wrong_forms.nd) dgs_nil))) (ds_cons (ds_if (PW.pt (dt_or (dt_not (dt_val (de_isi (T := "tuple") (by decide) (de_var 3) T.no_isinstance T.no_tuple PyProof.Rows.boot_tuple))) (dt_or (dt_cmp (do_ne (hr.u 300)) (de_len (de_var 3) T.no_len) de_int) (dt_or (dt_not (dt_val (de_callH h_is_named hr (da_cons (de_ix (hr.u 300) (de_var 3) de_int) da_nil)))) (dt_or1 (dt_not (dt_val (de_callH h_is_kinded hr (da_cons (de_ix (hr.u 300) (de_var 3) de_int) da_nil))))))))) (ds_last (ds_ret (de_lst (da_cons (de_var 2) da_nil)))) ds_nil)
    (ds_cons (ds_if (dt_cmp do_le (de_ix (hr.u 300) (de_var 3) de_int) (de_var 1)) (ds_last (ds_ret (de_lst (da_cons (de_var 2) da_nil)))) ds_nil)
    (ds_last (ds_set 1 S_wrong_forms.nd (de_ix (hr.u 300) (de_var 3) de_int))))))
    (ds_last (ds_ret (de_lst da_nil)))))
theorem d_is_made (T : Txt K w mg) {k : Nat} {s_kind_by_hole : SpD} (h_kind_by_hole : Has P w K mg base k "kind_by_hole" p_kind_by_hole s_kind_by_hole) (f : Addr) (cdv : Value) (A : Around) (outer : List PySem.Env) (s : Shared) (H : Hp) (E : XK) (EE : EK)
    (hr : Room1 k (A.deeper (envOfC "is_made" (defScope t_is_made) s.heap.objs.size f cdv))) :
    PSs (cxOf CX0 P w K mg base n_is_made "is_made" (defScope t_is_made) f cdv A outer s H E).nox (defBody t_is_made) (tS K mg (b_is_made s_kind_by_hole EE)) :=
  (ds_cons (ds_if (dt_cmp (do_notIn (hr.u 300)) de_str (de_var 1)) (ds_last (ds_ret de_bl)) ds_nil)
    (ds_cons (ds_set 3 S_is_made.nd (de_rindex (de_var 1) de_str))
    (ds_cons (ds_par 4 5 rfl S_is_made.nd (de_sl (de_var 1) dp_n (dp_s (de_var 3))) (de_sl (de_var 1) (dp_s (de_op do_add (de_var 3) de_int)) dp_n) rfl)
    (ds_cons (ds_if (PW.pt (dt_or (dt_cmp (do_notIn (hr.u 300)) (de_var 4) (de_var 0)) (dt_or1 (PW.pt (dt_and (dt_cmp (do_ne (hr.u 300)) (de_var 5) de_str) (dt_and1 (dt_cmp (do_notIn (hr.u 300)) (de_var 5) (de_var 0)))))))) (ds_last (ds_ret de_bl)) ds_nil)
    (ds_last (ds_ret (de_cmp (do_eq (hr.u 300)) (de_var 2) (de_callH h_kind_by_hole hr (da_cons (de_ix (hr.u 300) (de_var 0) (de_var 4)) (da_cons (de_if (dt_cmp (do_ne (hr.u 300)) (de_var 5) de_str) (de_tup (da_cons de_str (da_cons (de_var 5) da_nil))) (de_tup (da_cons de_str da_nil))) da_nil))))))))))
theorem d_wrong_in_book (T : Txt K w mg) {k : Nat} {s_is_made s_names_by s_wrong_forms : SpD} (h_is_made : Has P w K mg base k "is_made" p_is_made s_is_made) (h_names_by : Has P w K mg base k "names_by" p_names_by s_names_by) (h_wrong_forms : Has P w K mg base k "wrong_forms" p_wrong_forms s_wrong_forms) (f : Addr) (cdv : Value) (A : Around) (outer : List PySem.Env) (s : Shared) (H : Hp) (E : XK) (EE : EK)
    (hr : Room1 k (A.deeper (envOfC "wrong_in_book" (defScope t_wrong_in_book) s.heap.objs.size f cdv))) :
    PSs (cxOf CX0 P w K mg base n_wrong_in_book "wrong_in_book" (defScope t_wrong_in_book) f cdv A outer s H E).nox (defBody t_wrong_in_book) (tS K mg (b_wrong_in_book s_is_made s_names_by s_wrong_forms EE)) :=
  (ds_cons (ds_if (PW.pt (dt_or (dt_not (dt_val (de_isi (T := "tuple") (by decide) (de_var 0) T.no_isinstance T.no_tuple PyProof.Rows.boot_tuple))) (dt_or1 (dt_cmp do_gt (de_len (de_var 0) T.no_len) (de_globD T.g_MOST_NAMES))))) (ds_last (ds_ret (de_lst (da_cons de_non da_nil)))) ds_nil)
    (ds_cons (ds_set 1 S_wrong_in_book.nd (de_callH h_wrong_forms hr (da_cons (de_var 0) da_nil)))
    (ds_cons (ds_if (dt_cmp (do_ne (hr.u 300)) (de_var 1) (de_lst da_nil)) (ds_last (ds_ret (de_var 1))) ds_nil)
    (ds_cons (ds_set 2 S_wrong_in_book.nd (de_dictc rfl (da_cons (de_var 0) da_nil) T.no_dict))
    (ds_cons (ds_setLc (i := 1) (own := [("index", 3), ("_", 4), ("kind", 5)]) rfl S_wrong_in_book.nd (di_enum (de_var 0) T.no_enumerate) (by first | rfl | kernel_rfl) (fun _ _ _ _ _ => (dg_tupN rfl (dgs_cons (dg_name 3 S_wrong_in_book.nd) (dgs_cons (dg_tupN rfl (dgs_cons (dg_name 4 S_wrong_in_book.nd) (dgs_cons (dg_name 5 S_wrong_in_book.nd) dgs_nil))) dgs_nil)))) (fun _ _ _ _ _ => (dts_one (dt_not (dt_val (de_all rfl (da_cons (de_lc (own := [("name", 6)]) rfl S_wrong_in_book.nd (di_keys (de_callH h_names_by hr (da_cons (de_var 5) da_nil))) (by first | rfl | kernel_rfl) (fun _ _ _ _ _ => (dg_name 6 S_wrong_in_book.nd)) (fun _ _ _ _ _ => dts_nil) (fun _ _ _ _ _ => (de_cmp (do_in (hr.u 300)) (de_var 6) (de_var 2)))) da_nil) T.no_all))))) (fun _ _ _ _ _ => (de_var 3)) (sw_true rfl rfl rfl (by decide +kernel)))
    (ds_cons (ds_if (dt_cmp (do_eq (hr.u 300)) (de_var 1) (de_lst da_nil)) (ds_last (ds_setLc (i := 1) (own := [("index", 3), ("name", 6), ("kind", 5)]) rfl S_wrong_in_book.nd (di_enum (de_var 0) T.no_enumerate) (by first | rfl | kernel_rfl) (fun _ _ _ _ _ => (dg_tupN rfl (dgs_cons (dg_name 3 S_wrong_in_book.nd) (dgs_cons (dg_tupN rfl (dgs_cons (dg_name 6 S_wrong_in_book.nd) (dgs_cons (dg_name 5 S_wrong_in_book.nd) dgs_nil))) dgs_nil)))) (fun _ _ _ _ _ => (dts_one (dt_not (dt_val (de_callH h_is_made hr (da_cons (de_var 2) (da_cons (de_var 6) (da_cons (de_var 5) da_nil)))))))) (fun _ _ _ _ _ => (de_var 3)) (sw_true rfl rfl rfl (by decide +kernel)))) ds_nil)
    (ds_last (ds_ret (de_sl (de_var 1) dp_n (dp_s de_int))))))))))
theorem d_check_book (T : Txt K w mg) {k : Nat} {s_wrong_in_book : SpD} (h_wrong_in_book : Has P w K mg base k "wrong_in_book" p_wrong_in_book s_wrong_in_book) (f : Addr) (cdv : Value) (A : Around) (outer : List PySem.Env) (s : Shared) (H : Hp) (E : XK) (EE : EK)
    (hr : Room1 k (A.deeper (envOfC "check_book" (defScope t_check_book) s.heap.objs.size f cdv))) :
    PSs (cxOf CX0 P w K mg base n_check_book "check_book" (defScope t_check_book) f cdv A outer s H E).nox (defBody t_check_book) (tS K mg (b_check_book s_wrong_in_book EE)) :=
  (ds_last (ds_for PassesOwn.never rfl (di_seq (de_callH h_wrong_in_book hr (da_cons (de_var 0) da_nil))) (dg_name 1 S_check_book.nd) (ds_last ds_never)))
theorem d_checked_book (T : Txt K w mg) {k : Nat} {s_check_book : SpD} (h_check_book : Has P w K mg base k "check_book" p_check_book s_check_book) (f : Addr) (cdv : Value) (A : Around) (outer : List PySem.Env) (s : Shared) (H : Hp) (E : XK) (EE : EK)
    (hr : Room1 k (A.deeper (envOfC "checked_book" (defScope t_checked_book) s.heap.objs.size f cdv))) :
    PSs (cxOf CX0 P w K mg base n_checked_book "checked_book" (defScope t_checked_book) f cdv A outer s H E).nox (defBody t_checked_book) (tS K mg (b_checked_book s_check_book EE)) :=
  (ds_cons (ds_expr (de_callH h_check_book hr (da_cons (de_var 0) da_nil)))
    (ds_last (ds_ret (de_dictc rfl (da_cons (de_var 0) da_nil) T.no_dict))))
theorem d_check_kind_of (T : Txt K w mg) {k : Nat} {s_is_kind_in : SpD} (h_is_kind_in : Has P w K mg base k "is_kind_in" p_is_kind_in s_is_kind_in) (f : Addr) (cdv : Value) (A : Around) (outer : List PySem.Env) (s : Shared) (H : Hp) (E : XK) (EE : EK)
    (hr : Room1 k (A.deeper (envOfC "check_kind_of" (defScope t_check_kind_of) s.heap.objs.size f cdv))) :
    PSs (cxOf CX0 P w K mg base n_check_kind_of "check_kind_of" (defScope t_check_kind_of) f cdv A outer s H E).nox (defBody t_check_kind_of) (tS K mg (b_check_kind_of s_is_kind_in EE)) :=
  (ds_last (ds_if (dt_not (dt_val (de_callH h_is_kind_in hr (da_cons (de_var 0) (da_cons (de_var 1) da_nil))))) (ds_last ds_never) ds_nil))
theorem d_check_hole (T : Txt K w mg) {k : Nat} {s_is_hole_in : SpD} (h_is_hole_in : Has P w K mg base k "is_hole_in" p_is_hole_in s_is_hole_in) (f : Addr) (cdv : Value) (A : Around) (outer : List PySem.Env) (s : Shared) (H : Hp) (E : XK) (EE : EK)
    (hr : Room1 k (A.deeper (envOfC "check_hole" (defScope t_check_hole) s.heap.objs.size f cdv))) :
    PSs (cxOf CX0 P w K mg base n_check_hole "check_hole" (defScope t_check_hole) f cdv A outer s H E).nox (defBody t_check_hole) (tS K mg (b_check_hole s_is_hole_in EE)) :=
  (ds_last (ds_if (dt_not (dt_val (de_callH h_is_hole_in hr (da_cons (de_var 0) (da_cons (de_var 1) da_nil))))) (ds_last ds_never) ds_nil))
theorem d_checked_places (T : Txt K w mg) {k : Nat} {s_check_hole s_check_kind_of s_checked_book : SpD} (h_check_hole : Has P w K mg base k "check_hole" p_check_hole s_check_hole) (h_check_kind_of : Has P w K mg base k "check_kind_of" p_check_kind_of s_check_kind_of) (h_checked_book : Has P w K mg base k "checked_book" p_checked_book s_checked_book) (f : Addr) (cdv : Value) (A : Around) (outer : List PySem.Env) (s : Shared) (H : Hp) (E : XK) (EE : EK)
    (hr : Room1 k (A.deeper (envOfC "checked_places" (defScope t_checked_places) s.heap.objs.size f cdv))) :
    PSs (cxOf CX0 P w K mg base n_checked_places "checked_places" (defScope t_checked_places) f cdv A outer s H E).nox (defBody t_checked_places) (tS K mg (b_checked_places s_check_hole s_check_kind_of s_checked_book EE)) :=
  (ds_cons (ds_set 3 S_checked_places.nd (de_callH h_checked_book hr (da_cons (de_var 0) da_nil)))
    (ds_cons (ds_expr (de_callH h_check_kind_of hr (da_cons (de_var 3) (da_cons (de_var 1) da_nil))))
    (ds_cons (ds_expr (de_callH h_check_hole hr (da_cons (de_var 3) (da_cons (de_var 2) da_nil))))
    (ds_last (ds_ret (de_var 3))))))
theorem d_kind_by (T : Txt K w mg) {k : Nat} {s_kind_by_hole s_checked_places : SpD} (h_kind_by_hole : Has P w K mg base k "kind_by_hole" p_kind_by_hole s_kind_by_hole) (h_checked_places : Has P w K mg base k "checked_places" p_checked_places s_checked_places) (f : Addr) (cdv : Value) (A : Around) (outer : List PySem.Env) (s : Shared) (H : Hp) (E : XK) (EE : EK)
    (hr : Room1 k (A.deeper (envOfC "kind_by" (defScope t_kind_by) s.heap.objs.size f cdv))) :
    PSs (cxOf CX0 P w K mg base n_kind_by "kind_by" (defScope t_kind_by) f cdv A outer s H E).nox (defBody t_kind_by) (tS K mg (b_kind_by s_kind_by_hole s_checked_places EE)) :=
  (ds_cons (ds_expr (de_callH h_checked_places hr (da_cons (de_var 0) (da_cons (de_var 1) (da_cons (de_var 2) da_nil)))))
    (ds_last (ds_ret (de_callH h_kind_by_hole hr (da_cons (de_var 1) (da_cons (de_var 2) da_nil))))))
theorem d_book_by (T : Txt K w mg) {k : Nat} {s_book_by_hole s_check_hole s_checked_book : SpD} (h_book_by_hole : Has P w K mg base k "book_by_hole" p_book_by_hole s_book_by_hole) (h_check_hole : Has P w K mg base k "check_hole" p_check_hole s_check_hole) (h_checked_book : Has P w K mg base k "checked_book" p_checked_book s_checked_book) (f : Addr) (cdv : Value) (A : Around) (outer : List PySem.Env) (s : Shared) (H : Hp) (E : XK) (EE : EK)
    (hr : Room1 k (A.deeper (envOfC "book_by" (defScope t_book_by) s.heap.objs.size f cdv))) :
    PSs (cxOf CX0 P w K mg base n_book_by "book_by" (defScope t_book_by) f cdv A outer s H E).nox (defBody t_book_by) (tS K mg (b_book_by s_book_by_hole s_check_hole s_checked_book EE)) :=
  (ds_cons (ds_set 2 S_book_by.nd (de_callH h_checked_book hr (da_cons (de_var 0) da_nil)))
    (ds_cons (ds_expr (de_callH h_check_hole hr (da_cons (de_var 2) (da_cons (de_var 1) da_nil))))
    (ds_last (ds_ret (de_tuplec (da_cons (de_sortI rfl (de_callH h_book_by_hole hr (da_cons (de_var 2) (da_cons (de_var 1) da_nil))) T.no_sorted) da_nil) T.no_tuple)))))
theorem d_is_book (T : Txt K w mg) {k : Nat} {s_wrong_in_book : SpD} (h_wrong_in_book : Has P w K mg base k "wrong_in_book" p_wrong_in_book s_wrong_in_book) (f : Addr) (cdv : Value) (A : Around) (outer : List PySem.Env) (s : Shared) (H : Hp) (E : XK) (EE : EK)
    (hr : Room1 k (A.deeper (envOfC "is_book" (defScope t_is_book) s.heap.objs.size f cdv))) :
    PSs (cxOf CX0 P w K mg base n_is_book "is_book" (defScope t_is_book) f cdv A outer s H E).nox (defBody t_is_book) (tS K mg (b_is_book s_wrong_in_book EE)) :=
  (ds_last (ds_ret (de_cmp (do_eq (hr.u 300)) (de_callH h_wrong_in_book hr (da_cons (de_var 0) da_nil)) (de_lst da_nil))))
theorem d_kind_named (T : Txt K w mg) {k : Nat} {s_is_named s_checked_book : SpD} (h_is_named : Has P w K mg base k "is_named" p_is_named s_is_named) (h_checked_book : Has P w K mg base k "checked_book" p_checked_book s_checked_book) (f : Addr) (cdv : Value) (A : Around) (outer : List PySem.Env) (s : Shared) (H : Hp) (E : XK) (EE : EK)
    (hr : Room1 k (A.deeper (envOfC "kind_named" (defScope t_kind_named) s.heap.objs.size f cdv))) :
    PSs (cxOf CX0 P w K mg base n_kind_named "kind_named" (defScope t_kind_named) f cdv A outer s H E).nox (defBody t_kind_named) (tS K mg (b_kind_named s_is_named s_checked_book EE)) :=
  (ds_cons (ds_set 2 S_kind_named.nd (de_callH h_checked_book hr (da_cons (de_var 0) da_nil)))
    (ds_cons (ds_if (dt_not (dt_val (de_callH h_is_named hr (da_cons (de_var 1) da_nil)))) (ds_last ds_never) ds_nil)
    (ds_last (ds_ret (de_get1 (hr.u 300) (de_var 2) (de_var 1))))))
theorem d_law_spring (T : Txt K w mg) {k : Nat}  (f : Addr) (cdv : Value) (A : Around) (outer : List PySem.Env) (s : Shared) (H : Hp) (E : XK) (EE : EK)
    (hr : Room1 k (A.deeper (envOfC "_law_spring" (defScope t_law_spring) s.heap.objs.size f cdv))) :
    PSs (cxOf CX0 P w K mg base n_law_spring "_law_spring" (defScope t_law_spring) f cdv A outer s H E).nox (defBody t_law_spring) (tS K mg (b_law_spring EE)) :=
  (ds_cons (ds_par 2 3 rfl S_law_spring.nd (de_if (dt_cmp do_lt (de_var 1) (de_len (de_var 0) T.no_len)) (de_intc (da_cons (de_ix (hr.u 300) (de_var 0) (de_var 1)) da_nil) T.no_int) de_int) (de_op do_add de_int (de_op do_mul de_int (de_var 1))) rfl)
    (ds_cons (ds_for PassesOwn.never rfl (di_seq (de_sl (de_var 0) dp_n (dp_s de_int))) (dg_name 4 S_law_spring.nd) (ds_last (ds_set 3 S_law_spring.nd (de_op do_mod (de_intc (da_cons (de_op do_add (de_op do_add (de_op do_mul (de_var 3) de_int) (de_op do_mod (de_intc (da_cons (de_var 4) da_nil) T.no_int) de_int)) de_int) da_nil) T.no_int) de_int))))
    (ds_cons (ds_set 3 S_law_spring.nd (de_op do_mod (de_intc (da_cons (de_op do_add (de_op do_add (de_op do_mul (de_var 3) de_int) (de_op do_mul (de_op do_mod (de_intc (da_cons (de_var 2) da_nil) T.no_int) de_int) de_int)) de_int) da_nil) T.no_int) de_int))
    (ds_last (ds_ret (de_lstM (da_cons (de_if (PW.pt (dt_or (dt_cmp do_lt (de_var 2) de_int) (dt_or1 (dt_cmp do_ge (de_var 2) (de_op do_pow de_int de_int))))) (de_abs (da_cons (de_var 2) da_nil) T.no_abs) de_int) (da_cons (de_var 3) (da_cons de_int da_nil)))))))))
theorem d_law_draw (T : Txt K w mg) {k : Nat}  (f : Addr) (cdv : Value) (A : Around) (outer : List PySem.Env) (s : Shared) (H : Hp) (E : XK) (EE : EK)
    (hr : Room1 k (A.deeper (envOfC "_law_draw" (defScope t_law_draw) s.heap.objs.size f cdv))) :
    PSs (cxOf CX0 P w K mg base n_law_draw "_law_draw" (defScope t_law_draw) f cdv A outer s H E).nox (defBody t_law_draw) (tS K mg (b_law_draw EE)) :=
  (ds_cons (ds_if (dt_cmp do_gt (de_ix (hr.u 300) (de_var 0) de_int) de_int) (ds_cons (ds_asg (de_divmod (da_cons (de_ix (hr.u 300) (de_var 0) de_int) (da_cons (de_var 1) da_nil)) T.no_divmod) (dg_tupN rfl (dgs_cons (dg_sub (hr.u 300) (de_var 0) de_int) (dgs_cons (dg_name 2 S_law_draw.nd) dgs_nil))))
    (ds_last (ds_ret (de_var 2)))) ds_nil)
    (ds_cons (ds_asg (de_op do_add (de_ix (hr.u 300) (de_var 0) de_int) de_int) (dg_sub (hr.u 300) (de_var 0) de_int))
    (ds_cons (ds_set 3 S_law_draw.nd (de_op do_mod (de_intc (da_cons (de_op do_add (de_ix (hr.u 300) (de_var 0) de_int) (de_op do_mul de_int (de_ix (hr.u 300) (de_var 0) de_int))) da_nil) T.no_int) de_int))
    (ds_cons (ds_asg (de_op do_mod (de_intc (da_cons (de_op do_add (de_op do_mul (de_var 3) (de_op do_add (de_op do_mod (de_intc (da_cons (de_var 3) da_nil) T.no_int) de_int) de_int)) (de_op do_mul de_int (de_ix (hr.u 300) (de_var 0) de_int))) da_nil) T.no_int) de_int) (dg_sub (hr.u 300) (de_var 0) de_int))
    (ds_last (ds_ret (de_op do_mod (de_intc (da_cons (de_op do_div (de_ix (hr.u 300) (de_var 0) de_int) de_int) da_nil) T.no_int) (de_var 1))))))))
theorem d_law_pick (T : Txt K w mg) {k : Nat} {s_law_draw : SpD} (h_law_draw : Has P w K mg base k "_law_draw" p_law_draw s_law_draw) (f : Addr) (cdv : Value) (A : Around) (outer : List PySem.Env) (s : Shared) (H : Hp) (E : XK) (EE : EK)
    (hr : Room1 k (A.deeper (envOfC "_law_pick" (defScope t_law_pick) s.heap.objs.size f cdv))) :
    PSs (cxOf CX0 P w K mg base n_law_pick "_law_pick" (defScope t_law_pick) f cdv A outer s H E).nox (defBody t_law_pick) (tS K mg (b_law_pick s_law_draw EE)) :=
  (ds_last (ds_ret (de_ix (hr.u 300) (de_var 1) (de_callH h_law_draw hr (da_cons (de_var 0) (da_cons (de_len (de_var 1) T.no_len) da_nil))))))
theorem d_law_is (T : Txt K w mg) {k : Nat}  (f : Addr) (cdv : Value) (A : Around) (outer : List PySem.Env) (s : Shared) (H : Hp) (E : XK) (EE : EK)
    (hr : Room1 k (A.deeper (envOfC "_law_is" (defScope t_law_is) s.heap.objs.size f cdv))) :
    PSs (cxOf CX0 P w K mg base n_law_is "_law_is" (defScope t_law_is) f cdv A outer s H E).nox (defBody t_law_is) (tS K mg (b_law_is EE)) :=
  (ds_last (ds_ret (de_cmp (do_eq (hr.u 300)) (de_repr (hr.u 300) hr.gd (da_cons (de_var 0) da_nil) T.no_repr) (de_repr (hr.u 300) hr.gd (da_cons (de_var 1) da_nil) T.no_repr))))
theorem d_law_name (T : Txt K w mg) {k : Nat} {s_law_draw : SpD} (h_law_draw : Has P w K mg base k "_law_draw" p_law_draw s_law_draw) (f : Addr) (cdv : Value) (A : Around) (outer : List PySem.Env) (s : Shared) (H : Hp) (E : XK) (EE : EK)
    (hr : Room1 k (A.deeper (envOfC "_law_name" (defScope t_law_name) s.heap.objs.size f cdv))) :
    PSs (cxOf CX0 P w K mg base n_law_name "_law_name" (defScope t_law_name) f cdv A outer s H E).nox (defBody t_law_name) (tS K mg (b_law_name s_law_draw EE)) :=
  (ds_cons (ds_par 2 3 rfl S_law_name.nd (de_ix (hr.u 300) de_str (de_callH h_law_draw hr (da_cons (de_var 0) (da_cons de_int da_nil)))) de_str rfl)
    (ds_cons (ds_set 4 S_law_name.nd (de_if (dt_cmp do_gt (de_callH h_law_draw hr (da_cons (de_var 0) (da_cons de_int da_nil))) de_int) (de_callH h_law_draw hr (da_cons (de_var 0) (da_cons de_int da_nil))) (de_callH h_law_draw hr (da_cons (de_var 0) (da_cons de_int da_nil)))))
    (ds_cons (ds_if (PW.pt (dt_and (dt_cmp (do_ne (hr.u 300)) (de_var 1) (de_lst da_nil)) (dt_and1 (dt_cmp (do_eq (hr.u 300)) (de_callH h_law_draw hr (da_cons (de_var 0) (da_cons de_int da_nil))) de_int)))) (ds_last (ds_par 2 4 rfl S_law_name.nd (de_sl (de_ix (hr.u 300) (de_var 1) (de_un do_neg de_int)) dp_n (dp_s de_int)) de_int rfl)) ds_nil)
    (ds_cons (ds_for PassesOwn.never rfl (di_rng1 (de_var 4) T.no_range) (dg_name 5 S_law_name.nd) (ds_last (ds_set 2 S_law_name.nd (de_op do_add (de_var 2) (de_ix (hr.u 300) (de_var 3) (de_callH h_law_draw hr (da_cons (de_var 0) (da_cons de_int da_nil))))))))
    (ds_cons (ds_for PassesOwn.never rfl (di_str de_str) (dg_name 6 S_law_name.nd) (ds_last (ds_if (dt_cmp (do_in (hr.u 300)) (de_var 2) (de_var 1)) (ds_last (ds_set 2 S_law_name.nd (de_op do_add (de_var 6) (de_sl (de_var 2) (dp_s de_int) dp_n)))) ds_nil)))
    (ds_last (ds_ret (de_var 2))))))))
theorem d_law_form (T : Txt K w mg) {k : Nat} {s_law_form s_law_draw s_law_pick : SpD} (h_law_form : Has P w K mg base k "_law_form" p_law_form s_law_form) (h_law_draw : Has P w K mg base k "_law_draw" p_law_draw s_law_draw) (h_law_pick : Has P w K mg base k "_law_pick" p_law_pick s_law_pick) (f : Addr) (cdv : Value) (A : Around) (outer : List PySem.Env) (s : Shared) (H : Hp) (E : XK) (EE : EK)
    (hr : Room1 k (A.deeper (envOfC "_law_form" (defScope t_law_form) s.heap.objs.size f cdv))) :
    PSs (cxOf CX0 P w K mg base n_law_form "_law_form" (defScope t_law_form) f cdv A outer s H E).nox (defBody t_law_form) (tS K mg (b_law_form s_law_form s_law_draw s_law_pick EE)) :=
  (ds_cons (ds_set 3 S_law_form.nd (de_callH h_law_draw hr (da_cons (de_var 0) (da_cons de_int da_nil))))
    (ds_cons (ds_if (PW.pt (dt_or (dt_cmp do_lt (de_var 2) de_int) (dt_or1 (dt_cmp do_lt (de_var 3) de_int)))) (ds_cons (ds_if (PW.pt (dt_and (dt_cmp (do_ne (hr.u 300)) (de_var 1) (de_lst da_nil)) (dt_and1 (dt_cmp (do_eq (hr.u 300)) (de_callH h_law_draw hr (da_cons (de_var 0) (da_cons de_int da_nil))) de_int)))) (ds_last (ds_ret (de_tup (da_cons de_str (da_cons (de_callH h_law_pick hr (da_cons (de_var 0) (da_cons (de_var 1) da_nil))) da_nil))))) ds_nil)
    (ds_last (ds_ret (de_tup (da_cons (de_callH h_law_pick hr (da_cons (de_var 0) (da_cons (de_tup (da_cons de_str (da_cons de_str (da_cons de_str (da_cons de_str (da_cons de_str (da_cons de_str (da_cons de_str (da_cons de_str (da_cons de_str da_nil)))))))))) da_nil))) da_nil))))) ds_nil)
    (ds_cons (ds_set 4 S_law_form.nd (de_op do_add de_int (de_callH h_law_draw hr (da_cons (de_var 0) (da_cons (de_op do_sub (de_var 2) de_int) da_nil)))))
    (ds_cons (ds_set 5 S_law_form.nd (de_callH h_law_form hr (da_cons (de_var 0) (da_cons (de_var 1) (da_cons (de_var 4) da_nil)))))
    (ds_last (ds_ret (de_tup (da_cons (de_if (dt_cmp do_lt (de_var 3) de_int) de_str de_str) (da_cons (de_var 5) (da_cons (de_callH h_law_form hr (da_cons (de_var 0) (da_cons (de_var 1) (da_cons (de_op do_sub (de_op do_sub (de_var 2) de_int) (de_var 4)) da_nil)))) da_nil))))))))))
theorem d_law_own_form (T : Txt K w mg) {k : Nat} {s_law_draw s_law_form s_law_pick : SpD} (h_law_draw : Has P w K mg base k "_law_draw" p_law_draw s_law_draw) (h_law_form : Has P w K mg base k "_law_form" p_law_form s_law_form) (h_law_pick : Has P w K mg base k "_law_pick" p_law_pick s_law_pick) (f : Addr) (cdv : Value) (A : Around) (outer : List PySem.Env) (s : Shared) (H : Hp) (E : XK) (EE : EK)
    (hr : Room1 k (A.deeper (envOfC "_law_own_form" (defScope t_law_own_form) s.heap.objs.size f cdv))) :
    PSs (cxOf CX0 P w K mg base n_law_own_form "_law_own_form" (defScope t_law_own_form) f cdv A outer s H E).nox (defBody t_law_own_form) (tS K mg (b_law_own_form s_law_draw s_law_form s_law_pick EE)) :=
  (ds_cons (ds_par3 4 5 6 rfl S_law_own_form.nd (de_callH h_law_draw hr (da_cons (de_var 0) (da_cons de_int da_nil))) (de_tup (da_cons de_str (da_cons (de_var 2) da_nil))) (de_tup (da_cons de_str (da_cons (de_callH h_law_pick hr (da_cons (de_var 0) (da_cons (de_var 1) da_nil))) da_nil))) rfl)
    (ds_cons (ds_if (dt_cmp (do_eq (hr.u 300)) (de_var 4) de_int) (ds_last (ds_ret (de_callH h_law_form hr (da_cons (de_var 0) (da_cons (de_var 1) (da_cons (de_op do_add (de_var 3) de_int) da_nil)))))) ds_nil)
    (ds_cons (ds_set 7 S_law_own_form.nd (de_callH h_law_form hr (da_cons (de_var 0) (da_cons (de_if (dt_cmp (do_eq (hr.u 300)) (de_var 4) de_int) (de_var 1) (de_lst da_nil)) (da_cons (de_op do_add de_int (de_op do_mul de_int (de_callH h_law_draw hr (da_cons (de_var 0) (da_cons de_int da_nil))))) da_nil)))))
    (ds_cons (ds_set 8 S_law_own_form.nd (de_callH h_law_form hr (da_cons (de_var 0) (da_cons (de_var 1) (da_cons (de_op do_add de_int (de_callH h_law_draw hr (da_cons (de_var 0) (da_cons (de_var 3) da_nil)))) da_nil)))))
    (ds_cons (ds_if (dt_cmp do_lt (de_var 4) de_int) (ds_last (ds_set 9 S_law_own_form.nd (de_tup (da_cons de_str (da_cons (de_var 8) (da_cons (de_var 5) da_nil)))))) (ds_last (ds_if (dt_cmp do_lt (de_var 4) de_int) (ds_last (ds_set 9 S_law_own_form.nd (de_tup (da_cons de_str (da_cons (de_var 6) (da_cons (de_tup (da_cons de_str (da_cons (de_var 8) (da_cons (de_var 5) da_nil)))) da_nil)))))) (ds_last (ds_if (dt_cmp (do_eq (hr.u 300)) (de_var 4) de_int) (ds_last (ds_set 9 S_law_own_form.nd (de_var 6))) (ds_last (ds_set 9 S_law_own_form.nd (de_if (dt_cmp (do_eq (hr.u 300)) (de_var 4) de_int) (de_tup (da_cons de_str (da_cons (de_tup (da_cons de_str (da_cons (de_var 5) (da_cons (de_var 6) da_nil)))) (da_cons (de_var 8) da_nil)))) (de_tup (da_cons de_str (da_cons (de_var 5) (da_cons (de_var 8) da_nil))))))))))))
    (ds_last (ds_ret (de_if (dt_cmp (do_eq (hr.u 300)) (de_callH h_law_draw hr (da_cons (de_var 0) (da_cons de_int da_nil))) de_int) (de_tup (da_cons de_str (da_cons (de_var 7) (da_cons (de_var 9) da_nil)))) (de_tup (da_cons de_str (da_cons (de_var 9) (da_cons (de_var 7) da_nil))))))))))))
theorem d_law_lib (T : Txt K w mg) {k : Nat} {s_law_own_form s_law_draw s_law_name : SpD} (h_law_own_form : Has P w K mg base k "_law_own_form" p_law_own_form s_law_own_form) (h_law_draw : Has P w K mg base k "_law_draw" p_law_draw s_law_draw) (h_law_name : Has P w K mg base k "_law_name" p_law_name s_law_name) (f : Addr) (cdv : Value) (A : Around) (outer : List PySem.Env) (s : Shared) (H : Hp) (E : XK) (EE : EK)
    (hr : Room1 k (A.deeper (envOfC "_law_lib" (defScope t_law_lib) s.heap.objs.size f cdv))) :
    PSs (cxOf CX0 P w K mg base n_law_lib "_law_lib" (defScope t_law_lib) f cdv A outer s H E).nox (defBody t_law_lib) (tS K mg (b_law_lib s_law_own_form s_law_draw s_law_name EE)) :=
  (ds_cons (ds_par 2 3 rfl S_law_lib.nd (de_lstM da_nil) (de_lstM da_nil) rfl)
    (ds_cons (ds_for PassesOwn.never rfl (di_rng1 (de_op do_add (de_op do_add de_int (de_callH h_law_draw hr (da_cons (de_var 0) (da_cons de_int da_nil)))) (de_callH h_law_draw hr (da_cons (de_var 0) (da_cons de_int da_nil)))) T.no_range) (dg_name 4 S_law_lib.nd) (ds_last (ds_expr (de_append (de_var 2) (da_cons (de_callH h_law_name hr (da_cons (de_var 0) (da_cons (de_var 2) da_nil))) da_nil)))))
    (ds_cons (ds_for PassesOwn.never rfl (di_seq (de_sorted (hr.u 300) (da_cons (de_var 2) da_nil) T.no_sorted)) (dg_name 5 S_law_lib.nd) (ds_last (ds_expr (de_append (de_var 3) (da_cons (de_tup (da_cons (de_var 5) (da_cons (de_callH h_law_own_form hr (da_cons (de_var 0) (da_cons (de_var 2) (da_cons (de_var 5) (da_cons (de_var 1) da_nil))))) da_nil))) da_nil)))))
    (ds_last (ds_ret (de_tuplec (da_cons (de_var 3) da_nil) T.no_tuple))))))
theorem d_law_gap (T : Txt K w mg) {k : Nat} {s_law_draw s_law_pick : SpD} (h_law_draw : Has P w K mg base k "_law_draw" p_law_draw s_law_draw) (h_law_pick : Has P w K mg base k "_law_pick" p_law_pick s_law_pick) (f : Addr) (cdv : Value) (A : Around) (outer : List PySem.Env) (s : Shared) (H : Hp) (E : XK) (EE : EK)
    (hr : Room1 k (A.deeper (envOfC "_law_gap" (defScope t_law_gap) s.heap.objs.size f cdv))) :
    PSs (cxOf CX0 P w K mg base n_law_gap "_law_gap" (defScope t_law_gap) f cdv A outer s H E).nox (defBody t_law_gap) (tS K mg (b_law_gap s_law_draw s_law_pick EE)) :=
  (ds_last (ds_ret (de_if (dt_cmp (do_eq (hr.u 300)) (de_callH h_law_draw hr (da_cons (de_var 0) (da_cons de_int da_nil))) de_int) (de_tup (da_cons de_str da_nil)) (de_tup (da_cons de_str (da_cons (de_callH h_law_pick hr (da_cons (de_var 0) (da_cons (de_var 1) da_nil))) da_nil))))))
theorem d_law_name_by (T : Txt K w mg) {k : Nat}  (f : Addr) (cdv : Value) (A : Around) (outer : List PySem.Env) (s : Shared) (H : Hp) (E : XK) (EE : EK)
    (hr : Room1 k (A.deeper (envOfC "_law_name_by" (defScope t_law_name_by) s.heap.objs.size f cdv))) :
    PSs (cxOf CX0 P w K mg base n_law_name_by "_law_name_by" (defScope t_law_name_by) f cdv A outer s H E).nox (defBody t_law_name_by) (tS K mg (b_law_name_by EE)) :=
  (ds_last (ds_ret (de_op do_add (de_op do_add (de_var 0) de_str) (de_if (dt_cmp (do_eq (hr.u 300)) (de_ix (hr.u 300) (de_var 1) de_int) de_str) (de_ix (hr.u 300) (de_var 1) de_int) de_str))))
theorem d_law_by (T : Txt K w mg) {k : Nat} {s_law_by s_law_name_by : SpD} (h_law_by : Has P w K mg base k "_law_by" p_law_by s_law_by) (h_law_name_by : Has P w K mg base k "_law_name_by" p_law_name_by s_law_name_by) (f : Addr) (cdv : Value) (A : Around) (outer : List PySem.Env) (s : Shared) (H : Hp) (E : XK) (EE : EK)
    (hr : Room1 k (A.deeper (envOfC "_law_by" (defScope t_law_by) s.heap.objs.size f cdv))) :
    PSs (cxOf CX0 P w K mg base n_law_by "_law_by" (defScope t_law_by) f cdv A outer s H E).nox (defBody t_law_by) (tS K mg (b_law_by s_law_by s_law_name_by EE)) :=
  (ds_cons (ds_if (dt_cmp (do_eq (hr.u 300)) (de_var 0) (de_var 1)) (ds_last (ds_ret (de_if (dt_cmp (do_eq (hr.u 300)) (de_ix (hr.u 300) (de_var 1) de_int) de_str) (de_tup (da_cons de_str da_nil)) (de_tup (da_cons de_str (da_cons (de_tup (da_cons de_str da_nil)) (da_cons (de_tup (da_cons de_str (da_cons (de_callH h_law_name_by hr (da_cons (de_ix (hr.u 300) (de_var 1) de_int) (da_cons (de_var 1) da_nil))) da_nil))) da_nil))))))) ds_nil)
    (ds_cons (ds_if (dt_cmp (do_in (hr.u 300)) (de_ix (hr.u 300) (de_var 0) de_int) (de_tup (da_cons de_str (da_cons de_str (da_cons de_str da_nil))))) (ds_last (ds_ret (de_tup (da_cons de_str da_nil)))) ds_nil)
    (ds_cons (ds_if (dt_cmp (do_eq (hr.u 300)) (de_ix (hr.u 300) (de_var 0) de_int) de_str) (ds_last (ds_ret (de_tup (da_cons de_str (da_cons (de_callH h_law_name_by hr (da_cons (de_ix (hr.u 300) (de_var 0) de_int) (da_cons (de_var 1) da_nil))) da_nil))))) ds_nil)
    (ds_cons (ds_par 2 3 rfl S_law_by.nd (de_callH h_law_by hr (da_cons (de_ix (hr.u 300) (de_var 0) de_int) (da_cons (de_var 1) da_nil))) (de_callH h_law_by hr (da_cons (de_ix (hr.u 300) (de_var 0) de_int) (da_cons (de_var 1) da_nil))) rfl)
    (ds_cons (ds_if (dt_cmp (do_eq (hr.u 300)) (de_ix (hr.u 300) (de_var 0) de_int) de_str) (ds_last (ds_ret (de_tup (da_cons de_str (da_cons (de_var 2) (da_cons (de_var 3) da_nil)))))) ds_nil)
    (ds_last (ds_ret (de_tup (da_cons de_str (da_cons (de_tup (da_cons de_str (da_cons (de_var 2) (da_cons (de_ix (hr.u 300) (de_var 0) de_int) da_nil)))) (da_cons (de_tup (da_cons de_str (da_cons (de_ix (hr.u 300) (de_var 0) de_int) (da_cons (de_var 3) da_nil)))) da_nil)))))))))))
theorem d_law_lib_by (T : Txt K w mg) {k : Nat} {s_law_by s_law_name_by : SpD} (h_law_by : Has P w K mg base k "_law_by" p_law_by s_law_by) (h_law_name_by : Has P w K mg base k "_law_name_by" p_law_name_by s_law_name_by) (f : Addr) (cdv : Value) (A : Around) (outer : List PySem.Env) (s : Shared) (H : Hp) (E : XK) (EE : EK)
    (hr : Room1 k (A.deeper (envOfC "_law_lib_by" (defScope t_law_lib_by) s.heap.objs.size f cdv))) :
    PSs (cxOf CX0 P w K mg base n_law_lib_by "_law_lib_by" (defScope t_law_lib_by) f cdv A outer s H E).nox (defBody t_law_lib_by) (tS K mg (b_law_lib_by s_law_by s_law_name_by EE)) :=
  (ds_cons (ds_set 2 S_law_lib_by.nd de_dctM)
    (ds_cons (ds_for PassesOwn.never rfl (di_seq (de_var 0)) (dg_tupN rfl (dgs_cons (dg_name 3 S_law_lib_by.nd) (dgs_cons (dg_name 4 S_law_lib_by.nd) dgs_nil))) (ds_cons (ds_asg (de_var 4) (dg_sub (hr.u 300) (de_var 2) (de_var 3)))
    (ds_last (ds_asg (de_callH h_law_by hr (da_cons (de_var 4) (da_cons (de_var 1) da_nil))) (dg_sub (hr.u 300) (de_var 2) (de_callH h_law_name_by hr (da_cons (de_var 3) (da_cons (de_var 1) da_nil))))))))
    (ds_last (ds_ret (de_tuplec (da_cons (de_lc (own := [("name", 3)]) rfl S_law_lib_by.nd (di_seq (de_sorted (hr.u 300) (da_cons (de_listK rfl (de_var 2) T.no_list) da_nil) T.no_sorted)) (by first | rfl | kernel_rfl) (fun _ _ _ _ _ => (dg_name 3 S_law_lib_by.nd)) (fun _ _ _ _ _ => dts_nil) (fun _ _ _ _ _ => (de_tup (da_cons (de_var 3) (da_cons (de_ix (hr.u 300) (de_var 2) (de_var 3)) da_nil))))) da_nil) T.no_tuple)))))
theorem d_law_parts (T : Txt K w mg) {k : Nat} {s_law_parts : SpD} (h_law_parts : Has P w K mg base k "_law_parts" p_law_parts s_law_parts) (f : Addr) (cdv : Value) (A : Around) (outer : List PySem.Env) (s : Shared) (H : Hp) (E : XK) (EE : EK)
    (hr : Room1 k (A.deeper (envOfC "_law_parts" (defScope t_law_parts) s.heap.objs.size f cdv))) :
    PSs (cxOf CX0 P w K mg base n_law_parts "_law_parts" (defScope t_law_parts) f cdv A outer s H E).nox (defBody t_law_parts) (tS K mg (b_law_parts s_law_parts EE)) :=
  (ds_last (ds_ret (de_op do_add de_int (de_if (dt_cmp (do_in (hr.u 300)) (de_ix (hr.u 300) (de_var 0) de_int) (de_tup (da_cons de_str (da_cons de_str da_nil)))) (de_op do_add (de_callH h_law_parts hr (da_cons (de_ix (hr.u 300) (de_var 0) de_int) da_nil)) (de_callH h_law_parts hr (da_cons (de_ix (hr.u 300) (de_var 0) de_int) da_nil))) de_int))))
theorem d_law_step (T : Txt K w mg) {k : Nat} {s_law_is s_law_by s_kind_named s_is_book s_law_name_by s_law_pick s_book_by s_kind_by s_law_lib_by : SpD} (h_law_is : Has P w K mg base k "_law_is" p_law_is s_law_is) (h_law_by : Has P w K mg base k "_law_by" p_law_by s_law_by) (h_kind_named : Has P w K mg base k "kind_named" p_kind_named s_kind_named) (h_is_book : Has P w K mg base k "is_book" p_is_book s_is_book) (h_law_name_by : Has P w K mg base k "_law_name_by" p_law_name_by s_law_name_by) (h_law_pick : Has P w K mg base k "_law_pick" p_law_pick s_law_pick) (h_book_by : Has P w K mg base k "book_by" p_book_by s_book_by) (h_kind_by : Has P w K mg base k "kind_by" p_kind_by s_kind_by) (h_law_lib_by : Has P w K mg base k "_law_lib_by" p_law_lib_by s_law_lib_by) (f : Addr) (cdv : Value) (A : Around) (outer : List PySem.Env) (s : Shared) (H : Hp) (E : XK) (EE : EK)
    (hr : Room1 k (A.deeper (envOfC "_law_step" (defScope t_law_step) s.heap.objs.size f cdv))) :
    PSs (cxOf CX0 P w K mg base n_law_step "_law_step" (defScope t_law_step) f cdv A outer s H E).nox (defBody t_law_step) (tS K mg (b_law_step s_law_is s_law_by s_kind_named s_is_book s_law_name_by s_law_pick s_book_by s_kind_by s_law_lib_by EE)) :=
  (ds_cons (ds_par 4 5 rfl S_law_step.nd (de_callH h_law_by hr (da_cons (de_var 2) (da_cons (de_var 3) da_nil))) (de_callH h_law_lib_by hr (da_cons (de_var 1) (da_cons (de_var 3) da_nil))) rfl)
    (ds_cons (ds_if (dt_not (dt_val (de_callH h_law_is hr (da_cons (de_lst (da_cons (de_callH h_kind_by hr (da_cons (de_var 1) (da_cons (de_var 2) (da_cons (de_var 3) da_nil)))) (da_cons (de_callH h_book_by hr (da_cons (de_var 1) (da_cons (de_var 3) da_nil))) da_nil))) (da_cons (de_lst (da_cons (de_var 4) (da_cons (de_var 5) da_nil))) da_nil))))) (ds_last (ds_ret de_bl)) ds_nil)
    (ds_cons (ds_asg (de_callH h_law_pick hr (da_cons (de_var 0) (da_cons (de_var 1) da_nil))) (dg_tupN rfl (dgs_cons (dg_name 6 S_law_step.nd) (dgs_cons (dg_name 7 S_law_step.nd) dgs_nil))))
    (ds_cons (ds_set 8 S_law_step.nd (de_callH h_kind_named hr (da_cons (de_var 5) (da_cons (de_callH h_law_name_by hr (da_cons (de_var 6) (da_cons (de_var 3) da_nil))) da_nil))))
    (ds_last (ds_ret (de_callH h_law_is hr (da_cons (de_lst (da_cons (de_callH h_is_book hr (da_cons (de_var 5) da_nil)) (da_cons (de_var 8) (da_cons (de_callH h_kind_named hr (da_cons (de_var 1) (da_cons (de_var 6) da_nil))) da_nil)))) (da_cons (de_lst (da_cons de_bl (da_cons (de_callH h_law_by hr (da_cons (de_var 7) (da_cons (de_var 3) da_nil))) (da_cons (de_var 7) da_nil)))) da_nil)))))))))
theorem d_law_right (T : Txt K w mg) {k : Nat} {s_law_is s_kind_by s_book_by s_law_draw s_law_pick s_law_step s_law_parts s_law_by s_law_lib_by s_law_gap s_law_form s_law_lib : SpD} (h_law_is : Has P w K mg base k "_law_is" p_law_is s_law_is) (h_law_draw : Has P w K mg base k "_law_draw" p_law_draw s_law_draw) (h_law_pick : Has P w K mg base k "_law_pick" p_law_pick s_law_pick) (h_law_step : Has P w K mg base k "_law_step" p_law_step s_law_step) (h_law_parts : Has P w K mg base k "_law_parts" p_law_parts s_law_parts) (h_law_by : Has P w K mg base k "_law_by" p_law_by s_law_by) (h_law_lib_by : Has P w K mg base k "_law_lib_by" p_law_lib_by s_law_lib_by) (h_law_gap : Has P w K mg base k "_law_gap" p_law_gap s_law_gap) (h_law_form : Has P w K mg base k "_law_form" p_law_form s_law_form) (h_law_lib : Has P w K mg base k "_law_lib" p_law_lib s_law_lib) (hk_kind_by : HasK P w K mg base k "kind_by" p_kind_by s_kind_by ["hole", "kind", "book"] [2, 1, 0]) (hk_book_by : HasK P w K mg base k "book_by" p_book_by s_book_by ["hole", "book"] [1, 0]) (f : Addr) (cdv : Value) (A : Around) (outer : List PySem.Env) (s : Shared) (H : Hp) (E : XK) (EE : EK)
    (hr : Room1 k (A.deeper (envOfC "_law_right" (defScope t_law_right) s.heap.objs.size f cdv))) :
    PSs (cxOf CX0 P w K mg base n_law_right "_law_right" (defScope t_law_right) f cdv A outer s H E).nox (defBody t_law_right) (tS K mg (b_law_right s_law_is s_kind_by s_book_by s_law_draw s_law_pick s_law_step s_law_parts s_law_by s_law_lib_by s_law_gap s_law_form s_law_lib EE)) :=
  (ds_cons (ds_set 1 S_law_right.nd (de_callH h_law_lib hr (da_cons (de_var 0) (da_cons de_int da_nil))))
    (ds_cons (ds_par 2 3 rfl S_law_right.nd (de_lc (own := [("name", 9), ("own", 10)]) rfl S_law_right.nd (di_seq (de_var 1)) (by first | rfl | kernel_rfl) (fun _ _ _ _ _ => (dg_tupN rfl (dgs_cons (dg_name 9 S_law_right.nd) (dgs_cons (dg_name 10 S_law_right.nd) dgs_nil)))) (fun _ _ _ _ _ => dts_nil) (fun _ _ _ _ _ => (de_var 9))) (de_lstM da_nil) rfl)
    (ds_cons (ds_set 4 S_law_right.nd (de_callH h_law_form hr (da_cons (de_var 0) (da_cons (de_var 2) (da_cons de_int da_nil)))))
    (ds_cons (ds_for PassesOwn.never rfl (di_rng1 de_int T.no_range) (dg_name 5 S_law_right.nd) (ds_cons (ds_set 6 S_law_right.nd (de_callH h_law_gap hr (da_cons (de_var 0) (da_cons (de_var 2) da_nil))))
    (ds_cons (ds_par 7 8 rfl S_law_right.nd (de_callH h_law_by hr (da_cons (de_var 4) (da_cons (de_var 6) da_nil))) (de_callH h_law_lib_by hr (da_cons (de_var 1) (da_cons (de_var 6) da_nil))) rfl)
    (ds_cons (ds_if (PW.pt (dt_or (dt_cmp do_gt (de_len (de_var 8) T.no_len) de_int) (dt_or (dt_cmp do_gt (de_callH h_law_parts hr (da_cons (de_var 7) da_nil)) de_int) (dt_or1 (dt_cmp do_gt (de_sum rfl (da_cons (de_lc (own := [("name", 9), ("own", 10)]) rfl S_law_right.nd (di_seq (de_var 8)) (by first | rfl | kernel_rfl) (fun _ _ _ _ _ => (dg_tupN rfl (dgs_cons (dg_name 9 S_law_right.nd) (dgs_cons (dg_name 10 S_law_right.nd) dgs_nil)))) (fun _ _ _ _ _ => dts_nil) (fun _ _ _ _ _ => (de_callH h_law_parts hr (da_cons (de_var 10) da_nil)))) da_nil) T.no_sum) de_int))))) (ds_last ds_brk) ds_nil)
    (ds_cons (ds_if (dt_not (dt_val (de_callH h_law_step hr (da_cons (de_var 0) (da_cons (de_var 1) (da_cons (de_var 4) (da_cons (de_var 6) da_nil))))))) (ds_last (ds_ret de_bl)) ds_nil)
    (ds_cons (ds_expr (de_append (de_var 3) (da_cons (de_tup (da_cons (de_var 1) (da_cons (de_var 4) (da_cons (de_var 6) (da_cons (de_var 7) (da_cons (de_var 8) da_nil)))))) da_nil)))
    (ds_cons (ds_par 1 4 rfl S_law_right.nd (de_var 8) (de_var 7) rfl)
    (ds_last (ds_if (dt_cmp (do_eq (hr.u 300)) (de_callH h_law_draw hr (da_cons (de_var 0) (da_cons de_int da_nil))) de_int) (ds_last (ds_set 4 S_law_right.nd (de_tup (da_cons de_str (da_cons (de_ix (hr.u 300) (de_callH h_law_pick hr (da_cons (de_var 0) (da_cons (de_var 8) da_nil))) de_int) da_nil))))) ds_nil)))))))))
    (ds_cons (ds_for PassesOwn.never rfl (di_seq (de_frz (de_var 3))) (dg_tupN rfl (dgs_cons (dg_name 1 S_law_right.nd) (dgs_cons (dg_name 4 S_law_right.nd) (dgs_cons (dg_name 6 S_law_right.nd) (dgs_cons (dg_name 7 S_law_right.nd) (dgs_cons (dg_name 8 S_law_right.nd) dgs_nil)))))) (ds_last (ds_if (dt_not (dt_val (de_callH h_law_is hr (da_cons (de_lst (da_cons (de_callK hk_book_by hr (dk_cons (de_var 6) (dk_cons (de_var 1) dk_nil))) (da_cons (de_callK hk_kind_by hr (dk_cons (de_var 6) (dk_cons (de_var 4) (dk_cons (de_var 1) dk_nil)))) da_nil))) (da_cons (de_lst (da_cons (de_var 8) (da_cons (de_var 7) da_nil))) da_nil))))) (ds_last (ds_ret de_bl)) ds_nil)))
    (ds_last (ds_ret de_bl)))))))
theorem d_law (T : Txt K w mg) {k : Nat} {s_law_right s_law_spring : SpD} (h_law_right : Has P w K mg base k "_law_right" p_law_right s_law_right) (h_law_spring : Has P w K mg base k "_law_spring" p_law_spring s_law_spring) (f : Addr) (cdv : Value) (A : Around) (outer : List PySem.Env) (s : Shared) (H : Hp) (E : XK) (EE : EK)
    (hr : Room1 k (A.deeper (envOfC "law" (defScope t_law) s.heap.objs.size f cdv))) :
    PSs (cxOf CX0 P w K mg base n_law "law" (defScope t_law) f cdv A outer s H E).nox (defBody t_law) (tS K mg (b_law s_law_right s_law_spring EE)) :=
  (ds_cons (ds_for PassesOwn.never rfl (di_rng1 (de_max2 rfl (da_cons de_int (da_cons (de_min2 rfl (da_cons (de_len (de_var 0) T.no_len) (da_cons de_int da_nil)) T.no_min) da_nil)) T.no_max) T.no_range) (dg_name 1 S_law.nd) (ds_last (ds_if (dt_not (dt_val (de_callH h_law_right hr (da_cons (de_callH h_law_spring hr (da_cons (de_var 0) (da_cons (de_var 1) da_nil))) da_nil)))) (ds_last (ds_ret de_bl)) ds_nil)))
    (ds_last (ds_ret de_bl)))
end
end DL.K20
/-! text K20J -/
namespace DL.K20
open PySem PySem.Spec PyProof.Rows L2 DL
theorem kdat_KIND_SIZES {K : PySem.W.Frag} {d : Addr} {n : Nat} {dh0_0 : Int} {dt0_0 du0_0 : Tok} {dh0_1 : Int} {dt0_1 du0_1 : Tok} {dh0_2 : Int} {dt0_2 du0_2 : Tok} {dh0_3 : Int} {dt0_3 du0_3 : Tok} {dh0_4 : Int} {dt0_4 du0_4 : Tok} (h : K.lookup d = some ⟨.type "dict", none, .dict #[⟨dh0_0, .str "thing" dt0_0, .int 0 du0_0⟩, ⟨dh0_1, .str "none" dt0_1, .int 0 du0_1⟩, ⟨dh0_2, .str "unit" dt0_2, .int 0 du0_2⟩, ⟨dh0_3, .str "pair" dt0_3, .int 2 du0_3⟩, ⟨dh0_4, .str "either" dt0_4, .int 2 du0_4⟩] n, #[]⟩) (z : Str) :
    (∃ y u v, lookK k_KIND_SIZES (.str z) = some y ∧ PySem.W.nsIn K d z = some (some u) ∧ RelV v u ∧ ∀ F, Rp K F v y) ∨ (lookK k_KIND_SIZES (.str z) = none ∧ PySem.W.nsIn K d z = some none) := by
  unfold PySem.W.nsIn
  rw [h]
  simp only [k_KIND_SIZES, lookK, keyEq, List.find?_cons, List.find?_nil]
  by_cases q0 : ("thing" : Str) = z
  · subst q0
    refine .inl ⟨.int 0, .int 0 du0_0, .int 0, ?_, ?_, ⟨_, rfl⟩, fun F => .int _⟩ <;> rfl
  by_cases q1 : ("none" : Str) = z
  · subst q1
    refine .inl ⟨.int 0, .int 0 du0_1, .int 0, ?_, ?_, ⟨_, rfl⟩, fun F => .int _⟩ <;> rfl
  by_cases q2 : ("unit" : Str) = z
  · subst q2
    refine .inl ⟨.int 0, .int 0 du0_2, .int 0, ?_, ?_, ⟨_, rfl⟩, fun F => .int _⟩ <;> rfl
  by_cases q3 : ("pair" : Str) = z
  · subst q3
    refine .inl ⟨.int 2, .int 2 du0_3, .int 2, ?_, ?_, ⟨_, rfl⟩, fun F => .int _⟩ <;> rfl
  by_cases q4 : ("either" : Str) = z
  · subst q4
    refine .inl ⟨.int 2, .int 2 du0_4, .int 2, ?_, ?_, ⟨_, rfl⟩, fun F => .int _⟩ <;> rfl
  have r0 : (("thing" : Str) == z) = false := by simpa using q0
  have r1 : (("none" : Str) == z) = false := by simpa using q1
  have r2 : (("unit" : Str) == z) = false := by simpa using q2
  have r3 : (("pair" : Str) == z) = false := by simpa using q3
  have r4 : (("either" : Str) == z) = false := by simpa using q4
  refine .inr ⟨?_, ?_⟩
  · simp [q0, q1, q2, q3, q4]
  · simp [Value.isStr, DictEntry.refKey, r0, r1, r2, r3, r4]
/-! ### the text from the heap (printed by gen.py) -/
section
open PySem.W
theorem txt_mk {K : Frag} {w : World} {mg : Str → Option Value} {h : Heap} (X : K.In h) (G : h.Ns mainGlobals mg)
    {fa0 : Addr} {od0 an0 : Option Addr} {sl0 : Array (Option Value)} {oc0 kV0 dc0 pm0 cd0 ct0 : Value}
    {fa1 : Addr} {od1 an1 : Option Addr} {sl1 : Array (Option Value)} {oc1 kV1 dc1 pm1 cd1 ct1 : Value}
    {fa2 : Addr} {od2 an2 : Option Addr} {sl2 : Array (Option Value)} {oc2 kV2 dc2 pm2 cd2 ct2 : Value}
    {fa3 : Addr} {od3 an3 : Option Addr} {sl3 : Array (Option Value)} {oc3 kV3 dc3 pm3 cd3 ct3 : Value}
    {fa4 : Addr} {od4 an4 : Option Addr} {sl4 : Array (Option Value)} {oc4 kV4 dc4 pm4 cd4 ct4 : Value}
    {fa5 : Addr} {od5 an5 : Option Addr} {sl5 : Array (Option Value)} {oc5 kV5 dc5 pm5 cd5 ct5 : Value}
    {fa6 : Addr} {od6 an6 : Option Addr} {sl6 : Array (Option Value)} {oc6 kV6 dc6 pm6 cd6 ct6 : Value}
    {fa7 : Addr} {od7 an7 : Option Addr} {sl7 : Array (Option Value)} {oc7 kV7 dc7 pm7 cd7 ct7 : Value}
    {fa8 : Addr} {od8 an8 : Option Addr} {sl8 : Array (Option Value)} {oc8 kV8 dc8 pm8 cd8 ct8 : Value}
    {fa9 : Addr} {od9 an9 : Option Addr} {sl9 : Array (Option Value)} {oc9 kV9 dc9 pm9 cd9 ct9 : Value}
    {fa10 : Addr} {od10 an10 : Option Addr} {sl10 : Array (Option Value)} {oc10 kV10 dc10 pm10 cd10 ct10 : Value}
    {fa11 : Addr} {od11 an11 : Option Addr} {sl11 : Array (Option Value)} {oc11 kV11 dc11 pm11 cd11 ct11 : Value}
    {fa12 : Addr} {od12 an12 : Option Addr} {sl12 : Array (Option Value)} {oc12 kV12 dc12 pm12 cd12 ct12 : Value}
    {fa13 : Addr} {od13 an13 : Option Addr} {sl13 : Array (Option Value)} {oc13 kV13 dc13 pm13 cd13 ct13 : Value}
    {fa14 : Addr} {od14 an14 : Option Addr} {sl14 : Array (Option Value)} {oc14 kV14 dc14 pm14 cd14 ct14 : Value}
    {fa15 : Addr} {od15 an15 : Option Addr} {sl15 : Array (Option Value)} {oc15 kV15 dc15 pm15 cd15 ct15 : Value}
    {fa16 : Addr} {od16 an16 : Option Addr} {sl16 : Array (Option Value)} {oc16 kV16 dc16 pm16 cd16 ct16 : Value}
    {fa17 : Addr} {od17 an17 : Option Addr} {sl17 : Array (Option Value)} {oc17 kV17 dc17 pm17 cd17 ct17 : Value}
    {fa18 : Addr} {od18 an18 : Option Addr} {sl18 : Array (Option Value)} {oc18 kV18 dc18 pm18 cd18 ct18 : Value}
    {fa19 : Addr} {od19 an19 : Option Addr} {sl19 : Array (Option Value)} {oc19 kV19 dc19 pm19 cd19 ct19 : Value}
    {fa20 : Addr} {od20 an20 : Option Addr} {sl20 : Array (Option Value)} {oc20 kV20 dc20 pm20 cd20 ct20 : Value}
    {fa21 : Addr} {od21 an21 : Option Addr} {sl21 : Array (Option Value)} {oc21 kV21 dc21 pm21 cd21 ct21 : Value}
    {fa22 : Addr} {od22 an22 : Option Addr} {sl22 : Array (Option Value)} {oc22 kV22 dc22 pm22 cd22 ct22 : Value}
    {fa23 : Addr} {od23 an23 : Option Addr} {sl23 : Array (Option Value)} {oc23 kV23 dc23 pm23 cd23 ct23 : Value}
    {fa24 : Addr} {od24 an24 : Option Addr} {sl24 : Array (Option Value)} {oc24 kV24 dc24 pm24 cd24 ct24 : Value}
    {fa25 : Addr} {od25 an25 : Option Addr} {sl25 : Array (Option Value)} {oc25 kV25 dc25 pm25 cd25 ct25 : Value}
    {fa26 : Addr} {od26 an26 : Option Addr} {sl26 : Array (Option Value)} {oc26 kV26 dc26 pm26 cd26 ct26 : Value}
    {fa27 : Addr} {od27 an27 : Option Addr} {sl27 : Array (Option Value)} {oc27 kV27 dc27 pm27 cd27 ct27 : Value}
    {fa28 : Addr} {od28 an28 : Option Addr} {sl28 : Array (Option Value)} {oc28 kV28 dc28 pm28 cd28 ct28 : Value}
    {fa29 : Addr} {od29 an29 : Option Addr} {sl29 : Array (Option Value)} {oc29 kV29 dc29 pm29 cd29 ct29 : Value}
    {fa30 : Addr} {od30 an30 : Option Addr} {sl30 : Array (Option Value)} {oc30 kV30 dc30 pm30 cd30 ct30 : Value}
    {fa31 : Addr} {od31 an31 : Option Addr} {sl31 : Array (Option Value)} {oc31 kV31 dc31 pm31 cd31 ct31 : Value}
    {fa32 : Addr} {od32 an32 : Option Addr} {sl32 : Array (Option Value)} {oc32 kV32 dc32 pm32 cd32 ct32 : Value}
    {fa33 : Addr} {od33 an33 : Option Addr} {sl33 : Array (Option Value)} {oc33 kV33 dc33 pm33 cd33 ct33 : Value}
    {fa34 : Addr} {od34 an34 : Option Addr} {sl34 : Array (Option Value)} {oc34 kV34 dc34 pm34 cd34 ct34 : Value}
    {fa35 : Addr} {od35 an35 : Option Addr} {sl35 : Array (Option Value)} {oc35 kV35 dc35 pm35 cd35 ct35 : Value}
    {fa36 : Addr} {od36 an36 : Option Addr} {sl36 : Array (Option Value)} {oc36 kV36 dc36 pm36 cd36 ct36 : Value}
    {fa37 : Addr} {od37 an37 : Option Addr} {sl37 : Array (Option Value)} {oc37 kV37 dc37 pm37 cd37 ct37 : Value}
    {fa38 : Addr} {od38 an38 : Option Addr} {sl38 : Array (Option Value)} {oc38 kV38 dc38 pm38 cd38 ct38 : Value}
    {fa39 : Addr} {od39 an39 : Option Addr} {sl39 : Array (Option Value)} {oc39 kV39 dc39 pm39 cd39 ct39 : Value}
    {dd0 : Addr} {dn0 : Nat} {dh0_0 : Int} {dt0_0 du0_0 : Tok} {dh0_1 : Int} {dt0_1 du0_1 : Tok} {dh0_2 : Int} {dt0_2 du0_2 : Tok} {dh0_3 : Int} {dt0_3 du0_3 : Tok} {dh0_4 : Int} {dt0_4 du0_4 : Tok}
    {gd0 : Addr} {gn0 : Nat} {go0 : Option Addr} {gs0 : Array (Option Value)} {gt0_0 : Tok}
    {gd1 : Addr} {gn1 : Nat} {go1 : Option Addr} {gs1 : Array (Option Value)} {gt1_0 : Tok}
    {gt2 : Tok}
    {gt3 : Tok}
    {gt4 : Tok}
    {gt5 : Tok}
    {gt6 : Tok}
    {gt7 : Tok}
    {gt8 : Tok}
    {gt9 : Tok}
    (a0 : nsIn K mainGlobals "marked_name" = some (some (.ref fa0)))
    (l0 : K.lookup fa0 = some ⟨oc0, od0, .func (fnOf "marked_name" "marked_name" (defArgs t_marked_name) (defBody t_marked_name) (defScope t_marked_name) .none kV0 dc0 pm0 an0 cd0 ct0), sl0⟩)
    (c0 : codeIn K cd0 "marked_name" = true)
    (k0 : keepIn K (.ref fa0) = true)
    (a1 : nsIn K mainGlobals "kind_by_hole" = some (some (.ref fa1)))
    (l1 : K.lookup fa1 = some ⟨oc1, od1, .func (fnOf "kind_by_hole" "kind_by_hole" (defArgs t_kind_by_hole) (defBody t_kind_by_hole) (defScope t_kind_by_hole) .none kV1 dc1 pm1 an1 cd1 ct1), sl1⟩)
    (c1 : codeIn K cd1 "kind_by_hole" = true)
    (k1 : keepIn K (.ref fa1) = true)
    (a2 : nsIn K mainGlobals "book_by_hole" = some (some (.ref fa2)))
    (l2 : K.lookup fa2 = some ⟨oc2, od2, .func (fnOf "book_by_hole" "book_by_hole" (defArgs t_book_by_hole) (defBody t_book_by_hole) (defScope t_book_by_hole) .none kV2 dc2 pm2 an2 cd2 ct2), sl2⟩)
    (c2 : codeIn K cd2 "book_by_hole" = true)
    (k2 : keepIn K (.ref fa2) = true)
    (a3 : nsIn K mainGlobals "is_written_name" = some (some (.ref fa3)))
    (l3 : K.lookup fa3 = some ⟨oc3, od3, .func (fnOf "is_written_name" "is_written_name" (defArgs t_is_written_name) (defBody t_is_written_name) (defScope t_is_written_name) .none kV3 dc3 pm3 an3 cd3 ct3), sl3⟩)
    (c3 : codeIn K cd3 "is_written_name" = true)
    (k3 : keepIn K (.ref fa3) = true)
    (a4 : nsIn K mainGlobals "is_named" = some (some (.ref fa4)))
    (l4 : K.lookup fa4 = some ⟨oc4, od4, .func (fnOf "is_named" "is_named" (defArgs t_is_named) (defBody t_is_named) (defScope t_is_named) .none kV4 dc4 pm4 an4 cd4 ct4), sl4⟩)
    (c4 : codeIn K cd4 "is_named" = true)
    (k4 : keepIn K (.ref fa4) = true)
    (a5 : nsIn K mainGlobals "is_kind_formed" = some (some (.ref fa5)))
    (l5 : K.lookup fa5 = some ⟨oc5, od5, .func (fnOf "is_kind_formed" "is_kind_formed" (defArgs t_is_kind_formed) (defBody t_is_kind_formed) (defScope t_is_kind_formed) .none kV5 dc5 pm5 an5 cd5 ct5), sl5⟩)
    (c5 : codeIn K cd5 "is_kind_formed" = true)
    (k5 : keepIn K (.ref fa5) = true)
    (a6 : nsIn K mainGlobals "kinds_in" = some (some (.ref fa6)))
    (l6 : K.lookup fa6 = some ⟨oc6, od6, .func (fnOf "kinds_in" "kinds_in" (defArgs t_kinds_in) (defBody t_kinds_in) (defScope t_kinds_in) .none kV6 dc6 pm6 an6 cd6 ct6), sl6⟩)
    (c6 : codeIn K cd6 "kinds_in" = true)
    (k6 : keepIn K (.ref fa6) = true)
    (a7 : nsIn K mainGlobals "count_kinds" = some (some (.ref fa7)))
    (l7 : K.lookup fa7 = some ⟨oc7, od7, .func (fnOf "count_kinds" "count_kinds" (defArgs t_count_kinds) (defBody t_count_kinds) (defScope t_count_kinds) .none kV7 dc7 pm7 an7 cd7 ct7), sl7⟩)
    (c7 : codeIn K cd7 "count_kinds" = true)
    (k7 : keepIn K (.ref fa7) = true)
    (a8 : nsIn K mainGlobals "is_kinded" = some (some (.ref fa8)))
    (l8 : K.lookup fa8 = some ⟨oc8, od8, .func (fnOf "is_kinded" "is_kinded" (defArgs t_is_kinded) (defBody t_is_kinded) (defScope t_is_kinded) .none kV8 dc8 pm8 an8 cd8 ct8), sl8⟩)
    (c8 : codeIn K cd8 "is_kinded" = true)
    (k8 : keepIn K (.ref fa8) = true)
    (a9 : nsIn K mainGlobals "names_by" = some (some (.ref fa9)))
    (l9 : K.lookup fa9 = some ⟨oc9, od9, .func (fnOf "names_by" "names_by" (defArgs t_names_by) (defBody t_names_by) (defScope t_names_by) .none kV9 dc9 pm9 an9 cd9 ct9), sl9⟩)
    (c9 : codeIn K cd9 "names_by" = true)
    (k9 : keepIn K (.ref fa9) = true)
    (a10 : nsIn K mainGlobals "is_kind_in" = some (some (.ref fa10)))
    (l10 : K.lookup fa10 = some ⟨oc10, od10, .func (fnOf "is_kind_in" "is_kind_in" (defArgs t_is_kind_in) (defBody t_is_kind_in) (defScope t_is_kind_in) .none kV10 dc10 pm10 an10 cd10 ct10), sl10⟩)
    (c10 : codeIn K cd10 "is_kind_in" = true)
    (k10 : keepIn K (.ref fa10) = true)
    (a11 : nsIn K mainGlobals "is_hole_in" = some (some (.ref fa11)))
    (l11 : K.lookup fa11 = some ⟨oc11, od11, .func (fnOf "is_hole_in" "is_hole_in" (defArgs t_is_hole_in) (defBody t_is_hole_in) (defScope t_is_hole_in) .none kV11 dc11 pm11 an11 cd11 ct11), sl11⟩)
    (c11 : codeIn K cd11 "is_hole_in" = true)
    (k11 : keepIn K (.ref fa11) = true)
    (a12 : nsIn K mainGlobals "wrong_forms" = some (some (.ref fa12)))
    (l12 : K.lookup fa12 = some ⟨oc12, od12, .func (fnOf "wrong_forms" "wrong_forms" (defArgs t_wrong_forms) (defBody t_wrong_forms) (defScope t_wrong_forms) .none kV12 dc12 pm12 an12 cd12 ct12), sl12⟩)
    (c12 : codeIn K cd12 "wrong_forms" = true)
    (k12 : keepIn K (.ref fa12) = true)
    (a13 : nsIn K mainGlobals "is_made" = some (some (.ref fa13)))
    (l13 : K.lookup fa13 = some ⟨oc13, od13, .func (fnOf "is_made" "is_made" (defArgs t_is_made) (defBody t_is_made) (defScope t_is_made) .none kV13 dc13 pm13 an13 cd13 ct13), sl13⟩)
    (c13 : codeIn K cd13 "is_made" = true)
    (k13 : keepIn K (.ref fa13) = true)
    (a14 : nsIn K mainGlobals "wrong_in_book" = some (some (.ref fa14)))
    (l14 : K.lookup fa14 = some ⟨oc14, od14, .func (fnOf "wrong_in_book" "wrong_in_book" (defArgs t_wrong_in_book) (defBody t_wrong_in_book) (defScope t_wrong_in_book) .none kV14 dc14 pm14 an14 cd14 ct14), sl14⟩)
    (c14 : codeIn K cd14 "wrong_in_book" = true)
    (k14 : keepIn K (.ref fa14) = true)
    (a15 : nsIn K mainGlobals "check_book" = some (some (.ref fa15)))
    (l15 : K.lookup fa15 = some ⟨oc15, od15, .func (fnOf "check_book" "check_book" (defArgs t_check_book) (defBody t_check_book) (defScope t_check_book) .none kV15 dc15 pm15 an15 cd15 ct15), sl15⟩)
    (c15 : codeIn K cd15 "check_book" = true)
    (k15 : keepIn K (.ref fa15) = true)
    (a16 : nsIn K mainGlobals "checked_book" = some (some (.ref fa16)))
    (l16 : K.lookup fa16 = some ⟨oc16, od16, .func (fnOf "checked_book" "checked_book" (defArgs t_checked_book) (defBody t_checked_book) (defScope t_checked_book) .none kV16 dc16 pm16 an16 cd16 ct16), sl16⟩)
    (c16 : codeIn K cd16 "checked_book" = true)
    (k16 : keepIn K (.ref fa16) = true)
    (a17 : nsIn K mainGlobals "check_kind_of" = some (some (.ref fa17)))
    (l17 : K.lookup fa17 = some ⟨oc17, od17, .func (fnOf "check_kind_of" "check_kind_of" (defArgs t_check_kind_of) (defBody t_check_kind_of) (defScope t_check_kind_of) .none kV17 dc17 pm17 an17 cd17 ct17), sl17⟩)
    (c17 : codeIn K cd17 "check_kind_of" = true)
    (k17 : keepIn K (.ref fa17) = true)
    (a18 : nsIn K mainGlobals "check_hole" = some (some (.ref fa18)))
    (l18 : K.lookup fa18 = some ⟨oc18, od18, .func (fnOf "check_hole" "check_hole" (defArgs t_check_hole) (defBody t_check_hole) (defScope t_check_hole) .none kV18 dc18 pm18 an18 cd18 ct18), sl18⟩)
    (c18 : codeIn K cd18 "check_hole" = true)
    (k18 : keepIn K (.ref fa18) = true)
    (a19 : nsIn K mainGlobals "checked_places" = some (some (.ref fa19)))
    (l19 : K.lookup fa19 = some ⟨oc19, od19, .func (fnOf "checked_places" "checked_places" (defArgs t_checked_places) (defBody t_checked_places) (defScope t_checked_places) .none kV19 dc19 pm19 an19 cd19 ct19), sl19⟩)
    (c19 : codeIn K cd19 "checked_places" = true)
    (k19 : keepIn K (.ref fa19) = true)
    (a20 : nsIn K mainGlobals "kind_by" = some (some (.ref fa20)))
    (l20 : K.lookup fa20 = some ⟨oc20, od20, .func (fnOf "kind_by" "kind_by" (defArgs t_kind_by) (defBody t_kind_by) (defScope t_kind_by) .none kV20 dc20 pm20 an20 cd20 ct20), sl20⟩)
    (c20 : codeIn K cd20 "kind_by" = true)
    (k20 : keepIn K (.ref fa20) = true)
    (a21 : nsIn K mainGlobals "book_by" = some (some (.ref fa21)))
    (l21 : K.lookup fa21 = some ⟨oc21, od21, .func (fnOf "book_by" "book_by" (defArgs t_book_by) (defBody t_book_by) (defScope t_book_by) .none kV21 dc21 pm21 an21 cd21 ct21), sl21⟩)
    (c21 : codeIn K cd21 "book_by" = true)
    (k21 : keepIn K (.ref fa21) = true)
    (a22 : nsIn K mainGlobals "is_book" = some (some (.ref fa22)))
    (l22 : K.lookup fa22 = some ⟨oc22, od22, .func (fnOf "is_book" "is_book" (defArgs t_is_book) (defBody t_is_book) (defScope t_is_book) .none kV22 dc22 pm22 an22 cd22 ct22), sl22⟩)
    (c22 : codeIn K cd22 "is_book" = true)
    (k22 : keepIn K (.ref fa22) = true)
    (a23 : nsIn K mainGlobals "kind_named" = some (some (.ref fa23)))
    (l23 : K.lookup fa23 = some ⟨oc23, od23, .func (fnOf "kind_named" "kind_named" (defArgs t_kind_named) (defBody t_kind_named) (defScope t_kind_named) .none kV23 dc23 pm23 an23 cd23 ct23), sl23⟩)
    (c23 : codeIn K cd23 "kind_named" = true)
    (k23 : keepIn K (.ref fa23) = true)
    (a24 : nsIn K mainGlobals "_law_spring" = some (some (.ref fa24)))
    (l24 : K.lookup fa24 = some ⟨oc24, od24, .func (fnOf "_law_spring" "_law_spring" (defArgs t_law_spring) (defBody t_law_spring) (defScope t_law_spring) .none kV24 dc24 pm24 an24 cd24 ct24), sl24⟩)
    (c24 : codeIn K cd24 "_law_spring" = true)
    (k24 : keepIn K (.ref fa24) = true)
    (a25 : nsIn K mainGlobals "_law_draw" = some (some (.ref fa25)))
    (l25 : K.lookup fa25 = some ⟨oc25, od25, .func (fnOf "_law_draw" "_law_draw" (defArgs t_law_draw) (defBody t_law_draw) (defScope t_law_draw) .none kV25 dc25 pm25 an25 cd25 ct25), sl25⟩)
    (c25 : codeIn K cd25 "_law_draw" = true)
    (k25 : keepIn K (.ref fa25) = true)
    (a26 : nsIn K mainGlobals "_law_pick" = some (some (.ref fa26)))
    (l26 : K.lookup fa26 = some ⟨oc26, od26, .func (fnOf "_law_pick" "_law_pick" (defArgs t_law_pick) (defBody t_law_pick) (defScope t_law_pick) .none kV26 dc26 pm26 an26 cd26 ct26), sl26⟩)
    (c26 : codeIn K cd26 "_law_pick" = true)
    (k26 : keepIn K (.ref fa26) = true)
    (a27 : nsIn K mainGlobals "_law_is" = some (some (.ref fa27)))
    (l27 : K.lookup fa27 = some ⟨oc27, od27, .func (fnOf "_law_is" "_law_is" (defArgs t_law_is) (defBody t_law_is) (defScope t_law_is) .none kV27 dc27 pm27 an27 cd27 ct27), sl27⟩)
    (c27 : codeIn K cd27 "_law_is" = true)
    (k27 : keepIn K (.ref fa27) = true)
    (a28 : nsIn K mainGlobals "_law_name" = some (some (.ref fa28)))
    (l28 : K.lookup fa28 = some ⟨oc28, od28, .func (fnOf "_law_name" "_law_name" (defArgs t_law_name) (defBody t_law_name) (defScope t_law_name) .none kV28 dc28 pm28 an28 cd28 ct28), sl28⟩)
    (c28 : codeIn K cd28 "_law_name" = true)
    (k28 : keepIn K (.ref fa28) = true)
    (a29 : nsIn K mainGlobals "_law_form" = some (some (.ref fa29)))
    (l29 : K.lookup fa29 = some ⟨oc29, od29, .func (fnOf "_law_form" "_law_form" (defArgs t_law_form) (defBody t_law_form) (defScope t_law_form) .none kV29 dc29 pm29 an29 cd29 ct29), sl29⟩)
    (c29 : codeIn K cd29 "_law_form" = true)
    (k29 : keepIn K (.ref fa29) = true)
    (a30 : nsIn K mainGlobals "_law_own_form" = some (some (.ref fa30)))
    (l30 : K.lookup fa30 = some ⟨oc30, od30, .func (fnOf "_law_own_form" "_law_own_form" (defArgs t_law_own_form) (defBody t_law_own_form) (defScope t_law_own_form) .none kV30 dc30 pm30 an30 cd30 ct30), sl30⟩)
    (c30 : codeIn K cd30 "_law_own_form" = true)
    (k30 : keepIn K (.ref fa30) = true)
    (a31 : nsIn K mainGlobals "_law_lib" = some (some (.ref fa31)))
    (l31 : K.lookup fa31 = some ⟨oc31, od31, .func (fnOf "_law_lib" "_law_lib" (defArgs t_law_lib) (defBody t_law_lib) (defScope t_law_lib) .none kV31 dc31 pm31 an31 cd31 ct31), sl31⟩)
    (c31 : codeIn K cd31 "_law_lib" = true)
    (k31 : keepIn K (.ref fa31) = true)
    (a32 : nsIn K mainGlobals "_law_gap" = some (some (.ref fa32)))
    (l32 : K.lookup fa32 = some ⟨oc32, od32, .func (fnOf "_law_gap" "_law_gap" (defArgs t_law_gap) (defBody t_law_gap) (defScope t_law_gap) .none kV32 dc32 pm32 an32 cd32 ct32), sl32⟩)
    (c32 : codeIn K cd32 "_law_gap" = true)
    (k32 : keepIn K (.ref fa32) = true)
    (a33 : nsIn K mainGlobals "_law_name_by" = some (some (.ref fa33)))
    (l33 : K.lookup fa33 = some ⟨oc33, od33, .func (fnOf "_law_name_by" "_law_name_by" (defArgs t_law_name_by) (defBody t_law_name_by) (defScope t_law_name_by) .none kV33 dc33 pm33 an33 cd33 ct33), sl33⟩)
    (c33 : codeIn K cd33 "_law_name_by" = true)
    (k33 : keepIn K (.ref fa33) = true)
    (a34 : nsIn K mainGlobals "_law_by" = some (some (.ref fa34)))
    (l34 : K.lookup fa34 = some ⟨oc34, od34, .func (fnOf "_law_by" "_law_by" (defArgs t_law_by) (defBody t_law_by) (defScope t_law_by) .none kV34 dc34 pm34 an34 cd34 ct34), sl34⟩)
    (c34 : codeIn K cd34 "_law_by" = true)
    (k34 : keepIn K (.ref fa34) = true)
    (a35 : nsIn K mainGlobals "_law_lib_by" = some (some (.ref fa35)))
    (l35 : K.lookup fa35 = some ⟨oc35, od35, .func (fnOf "_law_lib_by" "_law_lib_by" (defArgs t_law_lib_by) (defBody t_law_lib_by) (defScope t_law_lib_by) .none kV35 dc35 pm35 an35 cd35 ct35), sl35⟩)
    (c35 : codeIn K cd35 "_law_lib_by" = true)
    (k35 : keepIn K (.ref fa35) = true)
    (a36 : nsIn K mainGlobals "_law_parts" = some (some (.ref fa36)))
    (l36 : K.lookup fa36 = some ⟨oc36, od36, .func (fnOf "_law_parts" "_law_parts" (defArgs t_law_parts) (defBody t_law_parts) (defScope t_law_parts) .none kV36 dc36 pm36 an36 cd36 ct36), sl36⟩)
    (c36 : codeIn K cd36 "_law_parts" = true)
    (k36 : keepIn K (.ref fa36) = true)
    (a37 : nsIn K mainGlobals "_law_step" = some (some (.ref fa37)))
    (l37 : K.lookup fa37 = some ⟨oc37, od37, .func (fnOf "_law_step" "_law_step" (defArgs t_law_step) (defBody t_law_step) (defScope t_law_step) .none kV37 dc37 pm37 an37 cd37 ct37), sl37⟩)
    (c37 : codeIn K cd37 "_law_step" = true)
    (k37 : keepIn K (.ref fa37) = true)
    (a38 : nsIn K mainGlobals "_law_right" = some (some (.ref fa38)))
    (l38 : K.lookup fa38 = some ⟨oc38, od38, .func (fnOf "_law_right" "_law_right" (defArgs t_law_right) (defBody t_law_right) (defScope t_law_right) .none kV38 dc38 pm38 an38 cd38 ct38), sl38⟩)
    (c38 : codeIn K cd38 "_law_right" = true)
    (k38 : keepIn K (.ref fa38) = true)
    (a39 : nsIn K mainGlobals "law" = some (some (.ref fa39)))
    (l39 : K.lookup fa39 = some ⟨oc39, od39, .func (fnOf "law" "law" (defArgs t_law) (defBody t_law) (defScope t_law) .none kV39 dc39 pm39 an39 cd39 ct39), sl39⟩)
    (c39 : codeIn K cd39 "law" = true)
    (k39 : keepIn K (.ref fa39) = true)
    (z0 : nsIn K mainGlobals "dict" = some none)
    (z1 : nsIn K mainGlobals "all" = some none)
    (z2 : nsIn K mainGlobals "len" = some none)
    (z3 : nsIn K mainGlobals "isinstance" = some none)
    (z4 : nsIn K mainGlobals "str" = some none)
    (z5 : nsIn K mainGlobals "tuple" = some none)
    (z6 : nsIn K mainGlobals "sum" = some none)
    (z7 : nsIn K mainGlobals "enumerate" = some none)
    (z8 : nsIn K mainGlobals "sorted" = some none)
    (z9 : nsIn K mainGlobals "abs" = some none)
    (z10 : nsIn K mainGlobals "int" = some none)
    (z11 : nsIn K mainGlobals "divmod" = some none)
    (z12 : nsIn K mainGlobals "repr" = some none)
    (z13 : nsIn K mainGlobals "range" = some none)
    (z14 : nsIn K mainGlobals "list" = some none)
    (z15 : nsIn K mainGlobals "max" = some none)
    (z16 : nsIn K mainGlobals "min" = some none)
    (da0 : nsIn K mainGlobals "KIND_SIZES" = some (some (.ref dd0)))
    (dl0 : K.lookup dd0 = some ⟨.type "dict", none, .dict #[⟨dh0_0, .str "thing" dt0_0, .int 0 du0_0⟩, ⟨dh0_1, .str "none" dt0_1, .int 0 du0_1⟩, ⟨dh0_2, .str "unit" dt0_2, .int 0 du0_2⟩, ⟨dh0_3, .str "pair" dt0_3, .int 2 du0_3⟩, ⟨dh0_4, .str "either" dt0_4, .int 2 du0_4⟩] dn0, #[]⟩)
    (dq0 : KeysLit w.params [⟨dh0_0, .str "thing" dt0_0, .int 0 du0_0⟩, ⟨dh0_1, .str "none" dt0_1, .int 0 du0_1⟩, ⟨dh0_2, .str "unit" dt0_2, .int 0 du0_2⟩, ⟨dh0_3, .str "pair" dt0_3, .int 2 du0_3⟩, ⟨dh0_4, .str "either" dt0_4, .int 2 du0_4⟩])
    (ds0 : (dd0 == sysModules) = false)
    (gg0 : nsIn K mainGlobals "NONE" = some (some (.ref gd0)))
    (gl0 : K.lookup gd0 = some ⟨.type "tuple", go0, .seq #[.str "none" gt0_0] gn0, gs0⟩)
    (gg1 : nsIn K mainGlobals "UNIT" = some (some (.ref gd1)))
    (gl1 : K.lookup gd1 = some ⟨.type "tuple", go1, .seq #[.str "unit" gt1_0] gn1, gs1⟩)
    (gg2 : nsIn K mainGlobals "SMALL" = some (some (.str "abcdefghijklmnopqrstuvwxyz" gt2)))
    (gg3 : nsIn K mainGlobals "FIGURES" = some (some (.str "0123456789" gt3)))
    (gg4 : nsIn K mainGlobals "CAPITALS" = some (some (.str "ABCDEFGHIJKLMNOPQRSTUVWXYZ" gt4)))
    (gg5 : nsIn K mainGlobals "MOST_SIGNS" = some (some (.int 8 gt5)))
    (gg6 : nsIn K mainGlobals "MOST_NAME" = some (some (.int 60 gt6)))
    (gg7 : nsIn K mainGlobals "MOST_PARTS" = some (some (.int 2000 gt7)))
    (gg8 : nsIn K mainGlobals "MOST_DEEP" = some (some (.int 30 gt8)))
    (gg9 : nsIn K mainGlobals "MOST_NAMES" = some (some (.int 80 gt9))) : Txt K w mg :=
  ⟨⟨_, _, mg_of X G a0, fun_mk (st := t_marked_name) l0 c0 k0⟩,
   ⟨_, _, mg_of X G a1, fun_mk (st := t_kind_by_hole) l1 c1 k1⟩,
   ⟨_, _, mg_of X G a2, fun_mk (st := t_book_by_hole) l2 c2 k2⟩,
   ⟨_, _, mg_of X G a3, fun_mk (st := t_is_written_name) l3 c3 k3⟩,
   ⟨_, _, mg_of X G a4, fun_mk (st := t_is_named) l4 c4 k4⟩,
   ⟨_, _, mg_of X G a5, fun_mk (st := t_is_kind_formed) l5 c5 k5⟩,
   ⟨_, _, mg_of X G a6, fun_mk (st := t_kinds_in) l6 c6 k6⟩,
   ⟨_, _, mg_of X G a7, fun_mk (st := t_count_kinds) l7 c7 k7⟩,
   ⟨_, _, mg_of X G a8, fun_mk (st := t_is_kinded) l8 c8 k8⟩,
   ⟨_, _, mg_of X G a9, fun_mk (st := t_names_by) l9 c9 k9⟩,
   ⟨_, _, mg_of X G a10, fun_mk (st := t_is_kind_in) l10 c10 k10⟩,
   ⟨_, _, mg_of X G a11, fun_mk (st := t_is_hole_in) l11 c11 k11⟩,
   ⟨_, _, mg_of X G a12, fun_mk (st := t_wrong_forms) l12 c12 k12⟩,
   ⟨_, _, mg_of X G a13, fun_mk (st := t_is_made) l13 c13 k13⟩,
   ⟨_, _, mg_of X G a14, fun_mk (st := t_wrong_in_book) l14 c14 k14⟩,
   ⟨_, _, mg_of X G a15, fun_mk (st := t_check_book) l15 c15 k15⟩,
   ⟨_, _, mg_of X G a16, fun_mk (st := t_checked_book) l16 c16 k16⟩,
   ⟨_, _, mg_of X G a17, fun_mk (st := t_check_kind_of) l17 c17 k17⟩,
   ⟨_, _, mg_of X G a18, fun_mk (st := t_check_hole) l18 c18 k18⟩,
   ⟨_, _, mg_of X G a19, fun_mk (st := t_checked_places) l19 c19 k19⟩,
   ⟨_, _, mg_of X G a20, fun_mk (st := t_kind_by) l20 c20 k20⟩,
   ⟨_, _, mg_of X G a21, fun_mk (st := t_book_by) l21 c21 k21⟩,
   ⟨_, _, mg_of X G a22, fun_mk (st := t_is_book) l22 c22 k22⟩,
   ⟨_, _, mg_of X G a23, fun_mk (st := t_kind_named) l23 c23 k23⟩,
   ⟨_, _, mg_of X G a24, fun_mk (st := t_law_spring) l24 c24 k24⟩,
   ⟨_, _, mg_of X G a25, fun_mk (st := t_law_draw) l25 c25 k25⟩,
   ⟨_, _, mg_of X G a26, fun_mk (st := t_law_pick) l26 c26 k26⟩,
   ⟨_, _, mg_of X G a27, fun_mk (st := t_law_is) l27 c27 k27⟩,
   ⟨_, _, mg_of X G a28, fun_mk (st := t_law_name) l28 c28 k28⟩,
   ⟨_, _, mg_of X G a29, fun_mk (st := t_law_form) l29 c29 k29⟩,
   ⟨_, _, mg_of X G a30, fun_mk (st := t_law_own_form) l30 c30 k30⟩,
   ⟨_, _, mg_of X G a31, fun_mk (st := t_law_lib) l31 c31 k31⟩,
   ⟨_, _, mg_of X G a32, fun_mk (st := t_law_gap) l32 c32 k32⟩,
   ⟨_, _, mg_of X G a33, fun_mk (st := t_law_name_by) l33 c33 k33⟩,
   ⟨_, _, mg_of X G a34, fun_mk (st := t_law_by) l34 c34 k34⟩,
   ⟨_, _, mg_of X G a35, fun_mk (st := t_law_lib_by) l35 c35 k35⟩,
   ⟨_, _, mg_of X G a36, fun_mk (st := t_law_parts) l36 c36 k36⟩,
   ⟨_, _, mg_of X G a37, fun_mk (st := t_law_step) l37 c37 k37⟩,
   ⟨_, _, mg_of X G a38, fun_mk (st := t_law_right) l38 c38 k38⟩,
   ⟨_, _, mg_of X G a39, fun_mk (st := t_law) l39 c39 k39⟩,
   mg_none_of X G z0,
   mg_none_of X G z1,
   mg_none_of X G z2,
   mg_none_of X G z3,
   mg_none_of X G z4,
   mg_none_of X G z5,
   mg_none_of X G z6,
   mg_none_of X G z7,
   mg_none_of X G z8,
   mg_none_of X G z9,
   mg_none_of X G z10,
   mg_none_of X G z11,
   mg_none_of X G z12,
   mg_none_of X G z13,
   mg_none_of X G z14,
   mg_none_of X G z15,
   mg_none_of X G z16,
   ⟨dd0, _, _, mg_of X G da0, ⟨dl0, dq0, ds0⟩, kdat_KIND_SIZES dl0⟩,
   ⟨_, .ref gd0, mg_of X G gg0, rfl, fun F => .tup (.no (.inr ⟨_, _, _, gl0, rfl, rfl, by show 1 ≤ sizeLine; decide, (show Vals [V.str "none"] [.str "none" gt0_0] from .cons ⟨_, rfl⟩ (.nil))⟩) rfl) (.cons (.str _) (.nil))⟩,
   ⟨_, .ref gd1, mg_of X G gg1, rfl, fun F => .tup (.no (.inr ⟨_, _, _, gl1, rfl, rfl, by show 1 ≤ sizeLine; decide, (show Vals [V.str "unit"] [.str "unit" gt1_0] from .cons ⟨_, rfl⟩ (.nil))⟩) rfl) (.cons (.str _) (.nil))⟩,
   ⟨_, .str _, mg_of X G gg2, ⟨_, rfl⟩, fun F => .str _⟩,
   ⟨_, .str _, mg_of X G gg3, ⟨_, rfl⟩, fun F => .str _⟩,
   ⟨_, .str _, mg_of X G gg4, ⟨_, rfl⟩, fun F => .str _⟩,
   ⟨_, .int _, mg_of X G gg5, ⟨_, rfl⟩, fun F => .int _⟩,
   ⟨_, .int _, mg_of X G gg6, ⟨_, rfl⟩, fun F => .int _⟩,
   ⟨_, .int _, mg_of X G gg7, ⟨_, rfl⟩, fun F => .int _⟩,
   ⟨_, .int _, mg_of X G gg8, ⟨_, rfl⟩, fun F => .int _⟩,
   ⟨_, .int _, mg_of X G gg9, ⟨_, rfl⟩, fun F => .int _⟩⟩
end
end DL.K20
/-! text DLKind -/
namespace DL
open PySem
/-! ### kinds, by data -/
inductive Kd where
  | thing
  | non
  | unit
  | name (n : Str)
  | pair (a b : Kd)
  | either (a b : Kd)
namespace Kd
def enc : Kd → PyData
  | .thing => .tuple [.str "thing"]
  | .non => .tuple [.str "none"]
  | .unit => .tuple [.str "unit"]
  | .name n => .tuple [.str "name", .str n]
  | .pair a b => .tuple [.str "pair", enc a, enc b]
  | .either a b => .tuple [.str "either", enc a, enc b]
def head : Kd → Str
  | .thing => "thing"
  | .non => "none"
  | .unit => "unit"
  | .name _ => "name"
  | .pair _ _ => "pair"
  | .either _ _ => "either"
def dep : Kd → Nat
  | .pair a b => max (dep a) (dep b) + 1
  | .either a b => max (dep a) (dep b) + 1
  | _ => 1
def parts : Kd → Nat
  | .pair a b => parts a + parts b + 1
  | .either a b => parts a + parts b + 1
  | _ => 1
def names : Kd → List Str
  | .name n => [n]
  | .pair a b => names a ++ names b
  | .either a b => names a ++ names b
  | _ => []
theorem enc_plain : ∀ k : Kd, k.enc.plain = true
  | .thing | .non | .unit | .name _ => rfl
  | .pair a b => by simp [enc, PyData.plain, PyData.plainAll, enc_plain a, enc_plain b]
  | .either a b => by simp [enc, PyData.plain, PyData.plainAll, enc_plain a, enc_plain b]
theorem enc_depth : ∀ k : Kd, k.enc.depth = k.dep
  | .thing | .non | .unit | .name _ => rfl
  | .pair a b => by simp [enc, dep, PyData.depth, PyData.depthAll, enc_depth a, enc_depth b]
  | .either a b => by simp [enc, dep, PyData.depth, PyData.depthAll, enc_depth a, enc_depth b]
theorem dep_pos (k : Kd) : 1 ≤ k.dep := by cases k <;> simp [dep]
theorem parts_pos (k : Kd) : 1 ≤ k.parts := by cases k <;> simp [parts]
theorem str_ne {s t : Str} (h : (s == t) = false) : s ≠ t := fun z => by subst z; simp at h
/-- == of two kinds -/
theorem e_tt (xs ys : List PyData) : PyData.eqv (.tuple xs) (.tuple ys) = PyData.eqvAll xs ys := by rw [PyData.eqv]
theorem e_ss (x y : Str) : PyData.eqv (.str x) (.str y) = (x == y) := by rw [PyData.eqv]
theorem e_cc (x y : PyData) (xs ys : List PyData) : PyData.eqvAll (x :: xs) (y :: ys) = (PyData.eqv x y && PyData.eqvAll xs ys) := by rw [PyData.eqvAll]
theorem e_nn : PyData.eqvAll [] [] = true := by rw [PyData.eqvAll]
theorem eqv_head {h h' : Str} {xs ys : List PyData} (e : (h == h') = false) : PyData.eqv (.tuple (.str h :: xs)) (.tuple (.str h' :: ys)) = false := by
  rw [e_tt, e_cc, e_ss, e, Bool.false_and]
theorem eqv_none {a b : Kd} (h : PyData.eqv a.enc b.enc = false) (n : a ≠ b) : PyData.eqv a.enc b.enc = true ↔ a = b := by
  rw [h]
  exact ⟨fun z => (Bool.false_ne_true z).elim, fun z => (n z).elim⟩
theorem eqv_enc (a : Kd) : ∀ b : Kd, PyData.eqv a.enc b.enc = true ↔ a = b := by
  induction a with
  | thing =>
    intro b
    cases b with
    | thing =>
      simp only [enc, e_tt, e_cc, e_ss, e_nn, beq_self_eq_true, Bool.and_true]
    | non =>
      exact eqv_none (eqv_head (by decide)) (fun z => nomatch z)
    | unit =>
      exact eqv_none (eqv_head (by decide)) (fun z => nomatch z)
    | name m =>
      exact eqv_none (eqv_head (by decide)) (fun z => nomatch z)
    | pair b1 b2 =>
      exact eqv_none (eqv_head (by decide)) (fun z => nomatch z)
    | either b1 b2 =>
      exact eqv_none (eqv_head (by decide)) (fun z => nomatch z)
  | non =>
    intro b
    cases b with
    | thing =>
      exact eqv_none (eqv_head (by decide)) (fun z => nomatch z)
    | non =>
      simp only [enc, e_tt, e_cc, e_ss, e_nn, beq_self_eq_true, Bool.and_true]
    | unit =>
      exact eqv_none (eqv_head (by decide)) (fun z => nomatch z)
    | name m =>
      exact eqv_none (eqv_head (by decide)) (fun z => nomatch z)
    | pair b1 b2 =>
      exact eqv_none (eqv_head (by decide)) (fun z => nomatch z)
    | either b1 b2 =>
      exact eqv_none (eqv_head (by decide)) (fun z => nomatch z)
  | unit =>
    intro b
    cases b with
    | thing =>
      exact eqv_none (eqv_head (by decide)) (fun z => nomatch z)
    | non =>
      exact eqv_none (eqv_head (by decide)) (fun z => nomatch z)
    | unit =>
      simp only [enc, e_tt, e_cc, e_ss, e_nn, beq_self_eq_true, Bool.and_true]
    | name m =>
      exact eqv_none (eqv_head (by decide)) (fun z => nomatch z)
    | pair b1 b2 =>
      exact eqv_none (eqv_head (by decide)) (fun z => nomatch z)
    | either b1 b2 =>
      exact eqv_none (eqv_head (by decide)) (fun z => nomatch z)
  | name n =>
    intro b
    cases b with
    | thing =>
      exact eqv_none (eqv_head (by decide)) (fun z => nomatch z)
    | non =>
      exact eqv_none (eqv_head (by decide)) (fun z => nomatch z)
    | unit =>
      exact eqv_none (eqv_head (by decide)) (fun z => nomatch z)
    | name m =>
      simp only [enc, e_tt, e_cc, e_ss, e_nn, beq_self_eq_true, Bool.and_true, Bool.true_and, beq_iff_eq, name.injEq]
    | pair b1 b2 =>
      exact eqv_none (eqv_head (by decide)) (fun z => nomatch z)
    | either b1 b2 =>
      exact eqv_none (eqv_head (by decide)) (fun z => nomatch z)
  | pair a1 a2 h1 h2 =>
    intro b
    cases b with
    | thing =>
      exact eqv_none (eqv_head (by decide)) (fun z => nomatch z)
    | non =>
      exact eqv_none (eqv_head (by decide)) (fun z => nomatch z)
    | unit =>
      exact eqv_none (eqv_head (by decide)) (fun z => nomatch z)
    | name m =>
      exact eqv_none (eqv_head (by decide)) (fun z => nomatch z)
    | pair b1 b2 =>
      simp only [enc, e_tt, e_cc, e_ss, e_nn, beq_self_eq_true, Bool.and_true, Bool.true_and, Bool.and_eq_true, h1 b1, h2 b2, pair.injEq]
    | either b1 b2 =>
      exact eqv_none (eqv_head (by decide)) (fun z => nomatch z)
  | either a1 a2 h1 h2 =>
    intro b
    cases b with
    | thing =>
      exact eqv_none (eqv_head (by decide)) (fun z => nomatch z)
    | non =>
      exact eqv_none (eqv_head (by decide)) (fun z => nomatch z)
    | unit =>
      exact eqv_none (eqv_head (by decide)) (fun z => nomatch z)
    | name m =>
      exact eqv_none (eqv_head (by decide)) (fun z => nomatch z)
    | pair b1 b2 =>
      exact eqv_none (eqv_head (by decide)) (fun z => nomatch z)
    | either b1 b2 =>
      simp only [enc, e_tt, e_cc, e_ss, e_nn, beq_self_eq_true, Bool.and_true, Bool.true_and, Bool.and_eq_true, h1 b1, h2 b2, either.injEq]
end Kd
instance : DecidableEq Kd := fun a b => if h : PyData.eqv a.enc b.enc = true then .isTrue ((Kd.eqv_enc a b).mp h) else .isFalse fun z => h ((Kd.eqv_enc a b).mpr z)
theorem Kd.eqv_dec (a b : Kd) : PyData.eqv a.enc b.enc = decide (a = b) := by
  by_cases h : a = b
  · simp [h, (Kd.eqv_enc b b).mpr rfl]
  · simp only [h, decide_false]
    cases q : PyData.eqv a.enc b.enc with
    | false => rfl
    | true => exact absurd ((Kd.eqv_enc a b).mp q) h
/-- a kind is no row of a book -/
theorem Kd.noRow (k : Kd) : bookRow k.enc = false := by cases k <;> rfl
theorem bookish_kd (k : Kd) (r : List PyData) : bookish (k.enc :: r) = false := by
  unfold bookish
  rw [List.all_cons, k.noRow]
  simp
end DL
/-! text DLEval -/
namespace DL
open PySem
/-! ### words and operators, evaluated -/
theorem optK_none' {α : Type} {k : α → Prop} : optK none k = False := rfl
theorem oAdd_ii (i j : Int) : oAdd (.int i) (.int j) = some (.int (i + j)) := rfl
theorem oAdd_ss {s t : Str} (h : s.length + t.length ≤ lim) : oAdd (.str s) (.str t) = some (.str (s ++ t)) := if_pos h
theorem oSub_ii (i j : Int) : oSub (.int i) (.int j) = some (.int (i - j)) := rfl
theorem oEq_of {a b : PyData} (h : okEq a b = true) : oEq a b = some (.bool (PyData.eqv a b)) := if_pos h
theorem oNe_of {a b : PyData} (h : okEq a b = true) : oNe a b = some (.bool (!PyData.eqv a b)) := if_pos h
theorem okEq_ii (i j : Int) : okEq (.int i) (.int j) = true := rfl
theorem okEq_ss (i j : Str) : okEq (.str i) (.str j) = true := rfl
theorem okEq_kk {a b : Kd} (h : min a.dep b.dep ≤ 200) : okEq a.enc b.enc = true := by
  simp only [okEq, Kd.enc_plain, Kd.enc_depth, Bool.true_and]
  exact decide_eq_true h
theorem eqv_ii (i j : Int) : PyData.eqv (.int i) (.int j) = (i == j) := by rw [PyData.eqv]
theorem oEq_ss (s t : Str) : oEq (.str s) (.str t) = some (.bool (s == t)) := by rw [oEq_of (okEq_ss s t), Kd.e_ss]
theorem oNe_ss (s t : Str) : oNe (.str s) (.str t) = some (.bool (!(s == t))) := by rw [oNe_of (okEq_ss s t), Kd.e_ss]
theorem oEq_ii (s t : Int) : oEq (.int s) (.int t) = some (.bool (s == t)) := by rw [oEq_of (okEq_ii s t), eqv_ii]
theorem oNe_ii (s t : Int) : oNe (.int s) (.int t) = some (.bool (!(s == t))) := by rw [oNe_of (okEq_ii s t), eqv_ii]
theorem oEq_kk {a b : Kd} (h : min a.dep b.dep ≤ 200) : oEq a.enc b.enc = some (.bool (decide (a = b))) := by rw [oEq_of (okEq_kk h), Kd.eqv_dec]
theorem ix_0 (x : PyData) (r : List PyData) : oIx (.tuple (x :: r)) (.int 0) = some x := by
  show L2.atI (x :: r) 0 = some x
  exact L2.atI_nat (j := 0) rfl
theorem ix_1 (x y : PyData) (r : List PyData) : oIx (.tuple (x :: y :: r)) (.int 1) = some y := by
  show L2.atI (x :: y :: r) 1 = some y
  exact L2.atI_nat (j := 1) rfl
theorem ix_2 (x y z : PyData) (r : List PyData) : oIx (.tuple (x :: y :: z :: r)) (.int 2) = some z := by
  show L2.atI (x :: y :: z :: r) 2 = some z
  exact L2.atI_nat (j := 2) rfl
theorem ix_k0 (k : Kd) : oIx k.enc (.int 0) = some (.str k.head) := by
  cases k <;> exact ix_0 _ _
/-- frozen data in, frozen data out -/
def spF (pre : List PyData → PyData → Prop) : SpD := fun args st Q _ => ∃ xs y, args = xs.map .d ∧ pre xs y ∧ Q (.d y) st
theorem spF_go {pre : List PyData → PyData → Prop} {xs : List PyData} {y : PyData} {st : Store} {Q : RK} {E : EK} (h : pre xs y) (q : Q (.d y) st) : spF pre (xs.map .d) st Q E := ⟨xs, y, rfl, h, q⟩
def gapT : Kd → Str
  | .name m => m
  | _ => ""
def isGap (g : Kd) : Prop := g = .thing ∨ ∃ m, g = .name m ∧ m.length ≤ 100
def nameBy (n : Str) (g : Kd) : Str := n ++ "'" ++ gapT g
def byK : Kd → Kd → Kd
  | .name n, g => if Kd.name n = g then .either .unit (.name (nameBy n g)) else .name (nameBy n g)
  | .either a b, g => .either (byK a g) (byK b g)
  | .pair a b, g => .either (.pair (byK a g) b) (.pair a (byK b g))
  | .thing, g => if Kd.thing = g then .unit else .non
  | .unit, _ => .non
  | .non, _ => .non
theorem isGap_dep {g : Kd} (h : isGap g) : g.dep = 1 := by
  rcases h with rfl | ⟨m, rfl, _⟩ <;> rfl
theorem len1 : ("'" : Str).length = 1 := rfl
theorem len0 : ("" : Str).length = 0 := rfl
theorem str_len_append (s t : Str) : (s ++ t).length = s.length + t.length := by
  show (s.cps ++ t.cps).size = _
  rw [Array.size_append]
  rfl
theorem ix_n1 (n : Str) : oIx (Kd.name n).enc (.int 1) = some (.str n) := ix_1 _ _ _
theorem ix_p1 (a b : Kd) : oIx (Kd.pair a b).enc (.int 1) = some a.enc := ix_1 _ _ _
theorem ix_p2 (a b : Kd) : oIx (Kd.pair a b).enc (.int 2) = some b.enc := ix_2 _ _ _ _
theorem ix_e1 (a b : Kd) : oIx (Kd.either a b).enc (.int 1) = some a.enc := ix_1 _ _ _
theorem ix_e2 (a b : Kd) : oIx (Kd.either a b).enc (.int 2) = some b.enc := ix_2 _ _ _ _
theorem set0 (x y : Option DV) (r : Env) : (x :: r).set 0 y = y :: r := rfl
theorem setS (x y : Option DV) (r : Env) (i : Nat) : (x :: r).set (i + 1) y = x :: r.set i y := rfl
theorem get0 (x : Option DV) (r : Env) : (x :: r)[0]? = some x := rfl
theorem getS (x : Option DV) (r : Env) (i : Nat) : (x :: r)[i + 1]? = r[i]? := rfl
theorem asB_b (b : Bool) : asB (.bool b) = some b := rfl
theorem rd_d (st : Store) (x : PyData) : rd st (.d x) = some x := rfl
theorem rdS_d (st : Store) (x : PyData) : rdS st (.d x) = some x := rfl
theorem frs_nil : DL.frs [] = some [] := rfl
theorem frs_d (x : PyData) (r : List DV) : DL.frs (.d x :: r) = (DL.frs r).map (x :: ·) := by
  show (match DL.frs r with | some xs => some (x :: xs) | none => none) = _
  cases DL.frs r <;> rfl
theorem rds_nil (st : Store) : rds st [] = some [] := rfl
theorem rds_d (st : Store) (x : PyData) (r : List DV) : rds st (.d x :: r) = (rds st r).map (x :: ·) := by
  show (match rd st (.d x), rds st r with | some x, some xs => some (x :: xs) | _, _ => none) = _
  rw [rd_d]
  cases rds st r <;> rfl
theorem lim_of {n : Nat} (h : n ≤ 10000000) : n ≤ lim := by unfold lim; omega
/-- a frozen answer leaves the store as it was -/
theorem ret_d {n0 : Nat} {Q : RK} {x : PyData} {st : Store} (h : st.length = n0) : retK n0 Q (.d x) st = Q (.d x) st := by
  show Q (.d x) (st.take n0) = _
  rw [← h, List.take_length]
theorem fin_rt (n0 : Nat) (Q : RK) : (finOf n0 Q).rt = retK n0 Q := rfl
theorem fin_nx (n0 : Nat) (Q : RK) (e : Env) (st : Store) : (finOf n0 Q).nx e st = retK n0 Q (.d .none) st := rfl
theorem start_eq (n : Nat) (args : List DV) : startE n args = args.map some ++ List.replicate (n - args.length) none := rfl
theorem lit0 : (0 ≤ lim) = True := eq_true (by decide)
theorem lit1 : (0 + 1 ≤ lim) = True := eq_true (by decide)
theorem lit2 : (0 + 1 + 1 ≤ lim) = True := eq_true (by decide)
theorem lit3 : (0 + 1 + 1 + 1 ≤ lim) = True := eq_true (by decide)
theorem lit4 : (0 + 1 + 1 + 1 + 1 ≤ lim) = True := eq_true (by decide)
theorem lit5 : (0 + 1 + 1 + 1 + 1 + 1 ≤ lim) = True := eq_true (by decide)
theorem lit6 : (0 + 1 + 1 + 1 + 1 + 1 + 1 ≤ lim) = True := eq_true (by decide)
theorem lit7 : (0 + 1 + 1 + 1 + 1 + 1 + 1 + 1 ≤ lim) = True := eq_true (by decide)
theorem lit8 : (0 + 1 + 1 + 1 + 1 + 1 + 1 + 1 + 1 ≤ lim) = True := eq_true (by decide)
theorem lit9 : (0 + 1 + 1 + 1 + 1 + 1 + 1 + 1 + 1 + 1 ≤ lim) = True := eq_true (by decide)
theorem lit10 : (0 + 1 + 1 + 1 + 1 + 1 + 1 + 1 + 1 + 1 + 1 ≤ lim) = True := eq_true (by decide)
theorem by_same_name (m : Str) : byK (.name m) (.name m) = .either .unit (.name (nameBy m (.name m))) := if_pos rfl
theorem by_same_thing : byK .thing .thing = .unit := if_pos rfl
theorem by_name {n : Str} {g : Kd} (h : Kd.name n ≠ g) : byK (.name n) g = .name (nameBy n g) := if_neg h
theorem by_thing {g : Kd} (h : Kd.thing ≠ g) : byK .thing g = .non := if_neg h
theorem hd1 : Kd.thing.head = "thing" := rfl
theorem hd2 : Kd.non.head = "none" := rfl
theorem hd3 : Kd.unit.head = "unit" := rfl
theorem hd4 (n : Str) : (Kd.name n).head = "name" := rfl
theorem hd5 (a b : Kd) : (Kd.pair a b).head = "pair" := rfl
theorem hd6 (a b : Kd) : (Kd.either a b).head = "either" := rfl
end DL
/-! text K20P -/
namespace DL.K20
open PySem DL
theorem ne_tn : (("thing" : Str) == ("name" : Str)) = false := by decide
theorem ne_nt : (("name" : Str) == ("thing" : Str)) = false := by decide
def pMN (xs : List PyData) (y : PyData) : Prop := ∃ n g, xs = [.str n, Kd.enc g] ∧ isGap g ∧ n.length ≤ 1000 ∧ y = .str (nameBy n g)
theorem keeps_marked_name : Keeps 2 (spF pMN) b_marked_name := by
  rintro args st Q E ⟨xs, y, rfl, ⟨n, g, rfl, hg, hn, rfl⟩, q⟩
  have h1 : n.length + ("'" : Str).length ≤ lim := lim_of (by rw [len1]; omega)
  have h2 : (n ++ ("'" : Str)).length ≤ 1001 := by rw [str_len_append, len1]; omega
  rcases hg with rfl | ⟨m, rfl, hm⟩
  · have h3 : (n ++ ("'" : Str)).length + ("" : Str).length ≤ lim := lim_of (by rw [len0]; omega)
    simp only [b_marked_name, wSeq, wIf, wRet, wRetN, wAsg, wExpr, wSkip, wBrk, wCnt, wVar, wC, wBin, wUn, wIfE, wT, wTr, wNot, wAnd, wOr, wAndV, wOrV, wChain, wBinS, wUnS, wOpN, wTup, wLst, wCons, wNil, wCall, wMs, wPar, wPar3, gN, gTupN, gCons, gNil, isD, isSt, isDc, optK_some, rd_d, rdS_d, frs_nil, frs_d, rds_nil, rds_d, on1, on2, asB_b, set0, setS, get0, getS, startE, List.map_cons, List.map_nil, List.length_cons, List.length_nil, List.replicate, List.cons_append, List.nil_append, List.append_nil, Option.map_some, Option.map_none, Option.bind_some, oEq_ss, oNe_ss, oEq_ii, oNe_ii, oAdd_ii, oSub_ii, ix_0, ix_1, ix_2, ix_k0, ix_n1, ix_p1, ix_p2, ix_e1, ix_e2, hd1, hd2, hd3, hd4, hd5, hd6, fin_rt, fin_nx, ret_d, if_true, if_false, Bool.false_eq_true, Bool.true_eq_false, Bool.not_true, Bool.not_false, beq_self_eq_true, decide_true, decide_false, true_and, and_true, lit0, lit1, lit2, lit3, lit4, lit5, lit6, lit7, lit8, lit9, lit10, wYes, ne_tn, oAdd_ss h1, oAdd_ss h3]
    exact q
  · have h3 : (n ++ ("'" : Str)).length + m.length ≤ lim := lim_of (by omega)
    simp only [b_marked_name, wSeq, wIf, wRet, wRetN, wAsg, wExpr, wSkip, wBrk, wCnt, wVar, wC, wBin, wUn, wIfE, wT, wTr, wNot, wAnd, wOr, wAndV, wOrV, wChain, wBinS, wUnS, wOpN, wTup, wLst, wCons, wNil, wCall, wMs, wPar, wPar3, gN, gTupN, gCons, gNil, isD, isSt, isDc, optK_some, rd_d, rdS_d, frs_nil, frs_d, rds_nil, rds_d, on1, on2, asB_b, set0, setS, get0, getS, startE, List.map_cons, List.map_nil, List.length_cons, List.length_nil, List.replicate, List.cons_append, List.nil_append, List.append_nil, Option.map_some, Option.map_none, Option.bind_some, oEq_ss, oNe_ss, oEq_ii, oNe_ii, oAdd_ii, oSub_ii, ix_0, ix_1, ix_2, ix_k0, ix_n1, ix_p1, ix_p2, ix_e1, ix_e2, hd1, hd2, hd3, hd4, hd5, hd6, fin_rt, fin_nx, ret_d, if_true, if_false, Bool.false_eq_true, Bool.true_eq_false, Bool.not_true, Bool.not_false, beq_self_eq_true, decide_true, decide_false, true_and, and_true, lit0, lit1, lit2, lit3, lit4, lit5, lit6, lit7, lit8, lit9, lit10, wYes, oAdd_ss h1, oAdd_ss h3]
    exact q
def pKB (l : Nat) (xs : List PyData) (y : PyData) : Prop := ∃ k g, xs = [Kd.enc k, Kd.enc g] ∧ isGap g ∧ k.dep ≤ l ∧ (∀ m ∈ k.names, m.length ≤ 900) ∧ y = (byK k g).enc
theorem keeps_kind_by_hole (l : Nat) : Keeps 3 (spF (pKB (l + 1))) (b_kind_by_hole (spF (pKB l)) (spF pMN)) := by
  rintro args st Q E ⟨xs, y, rfl, ⟨k, g, rfl, hg, hk, hn, rfl⟩, q⟩
  have hq : oEq k.enc g.enc = some (.bool (decide (k = g))) := oEq_kk (by rw [isGap_dep hg]; omega)
  by_cases hkg : k = g
  · subst hkg
    simp only [decide_true] at hq
    rcases hg with rfl | ⟨m, rfl, hm⟩
    · simp only [b_kind_by_hole, wSeq, wIf, wRet, wRetN, wAsg, wExpr, wSkip, wBrk, wCnt, wVar, wC, wBin, wUn, wIfE, wT, wTr, wNot, wAnd, wOr, wAndV, wOrV, wChain, wBinS, wUnS, wOpN, wTup, wLst, wCons, wNil, wCall, wMs, wPar, wPar3, gN, gTupN, gCons, gNil, isD, isSt, isDc, optK_some, rd_d, rdS_d, frs_nil, frs_d, rds_nil, rds_d, on1, on2, asB_b, set0, setS, get0, getS, startE, List.map_cons, List.map_nil, List.length_cons, List.length_nil, List.replicate, List.cons_append, List.nil_append, List.append_nil, Option.map_some, Option.map_none, Option.bind_some, oEq_ss, oNe_ss, oEq_ii, oNe_ii, oAdd_ii, oSub_ii, ix_0, ix_1, ix_2, ix_k0, ix_n1, ix_p1, ix_p2, ix_e1, ix_e2, hd1, hd2, hd3, hd4, hd5, hd6, fin_rt, fin_nx, ret_d, if_true, if_false, Bool.false_eq_true, Bool.true_eq_false, Bool.not_true, Bool.not_false, beq_self_eq_true, decide_true, decide_false, true_and, and_true, lit0, lit1, lit2, lit3, lit4, lit5, lit6, lit7, lit8, lit9, lit10, wYes, hq, g_UNIT]
      exact q
    · simp only [b_kind_by_hole, wSeq, wIf, wRet, wRetN, wAsg, wExpr, wSkip, wBrk, wCnt, wVar, wC, wBin, wUn, wIfE, wT, wTr, wNot, wAnd, wOr, wAndV, wOrV, wChain, wBinS, wUnS, wOpN, wTup, wLst, wCons, wNil, wCall, wMs, wPar, wPar3, gN, gTupN, gCons, gNil, isD, isSt, isDc, optK_some, rd_d, rdS_d, frs_nil, frs_d, rds_nil, rds_d, on1, on2, asB_b, set0, setS, get0, getS, startE, List.map_cons, List.map_nil, List.length_cons, List.length_nil, List.replicate, List.cons_append, List.nil_append, List.append_nil, Option.map_some, Option.map_none, Option.bind_some, oEq_ss, oNe_ss, oEq_ii, oNe_ii, oAdd_ii, oSub_ii, ix_0, ix_1, ix_2, ix_k0, ix_n1, ix_p1, ix_p2, ix_e1, ix_e2, hd1, hd2, hd3, hd4, hd5, hd6, fin_rt, fin_nx, ret_d, if_true, if_false, Bool.false_eq_true, Bool.true_eq_false, Bool.not_true, Bool.not_false, beq_self_eq_true, decide_true, decide_false, true_and, and_true, lit0, lit1, lit2, lit3, lit4, lit5, lit6, lit7, lit8, lit9, lit10, wYes, hq, g_UNIT, ne_nt]
      refine spF_go (xs := [.str m, Kd.enc (.name m)]) ⟨m, .name m, rfl, .inr ⟨m, rfl, hm⟩, by omega, rfl⟩ ?_
      simp only [wSeq, wIf, wRet, wRetN, wAsg, wExpr, wSkip, wBrk, wCnt, wVar, wC, wBin, wUn, wIfE, wT, wTr, wNot, wAnd, wOr, wAndV, wOrV, wChain, wBinS, wUnS, wOpN, wTup, wLst, wCons, wNil, wCall, wMs, wPar, wPar3, gN, gTupN, gCons, gNil, isD, isSt, isDc, optK_some, rd_d, rdS_d, frs_nil, frs_d, rds_nil, rds_d, on1, on2, asB_b, set0, setS, get0, getS, startE, List.map_cons, List.map_nil, List.length_cons, List.length_nil, List.replicate, List.cons_append, List.nil_append, List.append_nil, Option.map_some, Option.map_none, Option.bind_some, oEq_ss, oNe_ss, oEq_ii, oNe_ii, oAdd_ii, oSub_ii, ix_0, ix_1, ix_2, ix_k0, ix_n1, ix_p1, ix_p2, ix_e1, ix_e2, hd1, hd2, hd3, hd4, hd5, hd6, fin_rt, fin_nx, ret_d, if_true, if_false, Bool.false_eq_true, Bool.true_eq_false, Bool.not_true, Bool.not_false, beq_self_eq_true, decide_true, decide_false, true_and, and_true, lit0, lit1, lit2, lit3, lit4, lit5, lit6, lit7, lit8, lit9, lit10, wYes]
      rw [by_same_name] at q
      exact q
  · have hq' : oEq k.enc g.enc = some (.bool false) := by rw [hq, decide_eq_false hkg]
    cases k with
    | thing =>
      simp only [b_kind_by_hole, wSeq, wIf, wRet, wRetN, wAsg, wExpr, wSkip, wBrk, wCnt, wVar, wC, wBin, wUn, wIfE, wT, wTr, wNot, wAnd, wOr, wAndV, wOrV, wChain, wBinS, wUnS, wOpN, wTup, wLst, wCons, wNil, wCall, wMs, wPar, wPar3, gN, gTupN, gCons, gNil, isD, isSt, isDc, optK_some, rd_d, rdS_d, frs_nil, frs_d, rds_nil, rds_d, on1, on2, asB_b, set0, setS, get0, getS, startE, List.map_cons, List.map_nil, List.length_cons, List.length_nil, List.replicate, List.cons_append, List.nil_append, List.append_nil, Option.map_some, Option.map_none, Option.bind_some, oEq_ss, oNe_ss, oEq_ii, oNe_ii, oAdd_ii, oSub_ii, ix_0, ix_1, ix_2, ix_k0, ix_n1, ix_p1, ix_p2, ix_e1, ix_e2, hd1, hd2, hd3, hd4, hd5, hd6, fin_rt, fin_nx, ret_d, if_true, if_false, Bool.false_eq_true, Bool.true_eq_false, Bool.not_true, Bool.not_false, beq_self_eq_true, decide_true, decide_false, true_and, and_true, lit0, lit1, lit2, lit3, lit4, lit5, lit6, lit7, lit8, lit9, lit10, wYes, hq', ne_tn, show (("thing" : Str) == ("either" : Str)) = false by decide, show (("thing" : Str) == ("pair" : Str)) = false by decide, g_NONE]
      rw [by_thing hkg] at q
      exact q
    | non =>
      simp only [b_kind_by_hole, wSeq, wIf, wRet, wRetN, wAsg, wExpr, wSkip, wBrk, wCnt, wVar, wC, wBin, wUn, wIfE, wT, wTr, wNot, wAnd, wOr, wAndV, wOrV, wChain, wBinS, wUnS, wOpN, wTup, wLst, wCons, wNil, wCall, wMs, wPar, wPar3, gN, gTupN, gCons, gNil, isD, isSt, isDc, optK_some, rd_d, rdS_d, frs_nil, frs_d, rds_nil, rds_d, on1, on2, asB_b, set0, setS, get0, getS, startE, List.map_cons, List.map_nil, List.length_cons, List.length_nil, List.replicate, List.cons_append, List.nil_append, List.append_nil, Option.map_some, Option.map_none, Option.bind_some, oEq_ss, oNe_ss, oEq_ii, oNe_ii, oAdd_ii, oSub_ii, ix_0, ix_1, ix_2, ix_k0, ix_n1, ix_p1, ix_p2, ix_e1, ix_e2, hd1, hd2, hd3, hd4, hd5, hd6, fin_rt, fin_nx, ret_d, if_true, if_false, Bool.false_eq_true, Bool.true_eq_false, Bool.not_true, Bool.not_false, beq_self_eq_true, decide_true, decide_false, true_and, and_true, lit0, lit1, lit2, lit3, lit4, lit5, lit6, lit7, lit8, lit9, lit10, wYes, hq', show (("none" : Str) == ("name" : Str)) = false by decide, show (("none" : Str) == ("either" : Str)) = false by decide, show (("none" : Str) == ("pair" : Str)) = false by decide, g_NONE]
      exact q
    | unit =>
      simp only [b_kind_by_hole, wSeq, wIf, wRet, wRetN, wAsg, wExpr, wSkip, wBrk, wCnt, wVar, wC, wBin, wUn, wIfE, wT, wTr, wNot, wAnd, wOr, wAndV, wOrV, wChain, wBinS, wUnS, wOpN, wTup, wLst, wCons, wNil, wCall, wMs, wPar, wPar3, gN, gTupN, gCons, gNil, isD, isSt, isDc, optK_some, rd_d, rdS_d, frs_nil, frs_d, rds_nil, rds_d, on1, on2, asB_b, set0, setS, get0, getS, startE, List.map_cons, List.map_nil, List.length_cons, List.length_nil, List.replicate, List.cons_append, List.nil_append, List.append_nil, Option.map_some, Option.map_none, Option.bind_some, oEq_ss, oNe_ss, oEq_ii, oNe_ii, oAdd_ii, oSub_ii, ix_0, ix_1, ix_2, ix_k0, ix_n1, ix_p1, ix_p2, ix_e1, ix_e2, hd1, hd2, hd3, hd4, hd5, hd6, fin_rt, fin_nx, ret_d, if_true, if_false, Bool.false_eq_true, Bool.true_eq_false, Bool.not_true, Bool.not_false, beq_self_eq_true, decide_true, decide_false, true_and, and_true, lit0, lit1, lit2, lit3, lit4, lit5, lit6, lit7, lit8, lit9, lit10, wYes, hq', show (("unit" : Str) == ("name" : Str)) = false by decide, show (("unit" : Str) == ("either" : Str)) = false by decide, show (("unit" : Str) == ("pair" : Str)) = false by decide, g_NONE]
      exact q
    | name n =>
      simp only [b_kind_by_hole, wSeq, wIf, wRet, wRetN, wAsg, wExpr, wSkip, wBrk, wCnt, wVar, wC, wBin, wUn, wIfE, wT, wTr, wNot, wAnd, wOr, wAndV, wOrV, wChain, wBinS, wUnS, wOpN, wTup, wLst, wCons, wNil, wCall, wMs, wPar, wPar3, gN, gTupN, gCons, gNil, isD, isSt, isDc, optK_some, rd_d, rdS_d, frs_nil, frs_d, rds_nil, rds_d, on1, on2, asB_b, set0, setS, get0, getS, startE, List.map_cons, List.map_nil, List.length_cons, List.length_nil, List.replicate, List.cons_append, List.nil_append, List.append_nil, Option.map_some, Option.map_none, Option.bind_some, oEq_ss, oNe_ss, oEq_ii, oNe_ii, oAdd_ii, oSub_ii, ix_0, ix_1, ix_2, ix_k0, ix_n1, ix_p1, ix_p2, ix_e1, ix_e2, hd1, hd2, hd3, hd4, hd5, hd6, fin_rt, fin_nx, ret_d, if_true, if_false, Bool.false_eq_true, Bool.true_eq_false, Bool.not_true, Bool.not_false, beq_self_eq_true, decide_true, decide_false, true_and, and_true, lit0, lit1, lit2, lit3, lit4, lit5, lit6, lit7, lit8, lit9, lit10, wYes, hq']
      refine spF_go (xs := [.str n, g.enc]) ⟨n, g, rfl, hg, by have := hn n (by simp [Kd.names]); omega, rfl⟩ ?_
      simp only [wSeq, wIf, wRet, wRetN, wAsg, wExpr, wSkip, wBrk, wCnt, wVar, wC, wBin, wUn, wIfE, wT, wTr, wNot, wAnd, wOr, wAndV, wOrV, wChain, wBinS, wUnS, wOpN, wTup, wLst, wCons, wNil, wCall, wMs, wPar, wPar3, gN, gTupN, gCons, gNil, isD, isSt, isDc, optK_some, rd_d, rdS_d, frs_nil, frs_d, rds_nil, rds_d, on1, on2, asB_b, set0, setS, get0, getS, startE, List.map_cons, List.map_nil, List.length_cons, List.length_nil, List.replicate, List.cons_append, List.nil_append, List.append_nil, Option.map_some, Option.map_none, Option.bind_some, oEq_ss, oNe_ss, oEq_ii, oNe_ii, oAdd_ii, oSub_ii, ix_0, ix_1, ix_2, ix_k0, ix_n1, ix_p1, ix_p2, ix_e1, ix_e2, hd1, hd2, hd3, hd4, hd5, hd6, fin_rt, fin_nx, ret_d, if_true, if_false, Bool.false_eq_true, Bool.true_eq_false, Bool.not_true, Bool.not_false, beq_self_eq_true, decide_true, decide_false, true_and, and_true, lit0, lit1, lit2, lit3, lit4, lit5, lit6, lit7, lit8, lit9, lit10, wYes]
      rw [by_name hkg] at q
      exact q
    | either a b =>
      have ha : a.dep ≤ l := by simp only [Kd.dep] at hk; omega
      have hb : b.dep ≤ l := by simp only [Kd.dep] at hk; omega
      simp only [b_kind_by_hole, wSeq, wIf, wRet, wRetN, wAsg, wExpr, wSkip, wBrk, wCnt, wVar, wC, wBin, wUn, wIfE, wT, wTr, wNot, wAnd, wOr, wAndV, wOrV, wChain, wBinS, wUnS, wOpN, wTup, wLst, wCons, wNil, wCall, wMs, wPar, wPar3, gN, gTupN, gCons, gNil, isD, isSt, isDc, optK_some, rd_d, rdS_d, frs_nil, frs_d, rds_nil, rds_d, on1, on2, asB_b, set0, setS, get0, getS, startE, List.map_cons, List.map_nil, List.length_cons, List.length_nil, List.replicate, List.cons_append, List.nil_append, List.append_nil, Option.map_some, Option.map_none, Option.bind_some, oEq_ss, oNe_ss, oEq_ii, oNe_ii, oAdd_ii, oSub_ii, ix_0, ix_1, ix_2, ix_k0, ix_n1, ix_p1, ix_p2, ix_e1, ix_e2, hd1, hd2, hd3, hd4, hd5, hd6, fin_rt, fin_nx, ret_d, if_true, if_false, Bool.false_eq_true, Bool.true_eq_false, Bool.not_true, Bool.not_false, beq_self_eq_true, decide_true, decide_false, true_and, and_true, lit0, lit1, lit2, lit3, lit4, lit5, lit6, lit7, lit8, lit9, lit10, wYes, hq', show (("either" : Str) == ("name" : Str)) = false by decide]
      refine spF_go (xs := [a.enc, g.enc]) ⟨a, g, rfl, hg, ha, fun m hm => hn m (List.mem_append_left _ hm), rfl⟩ ?_
      simp only [wSeq, wIf, wRet, wRetN, wAsg, wExpr, wSkip, wBrk, wCnt, wVar, wC, wBin, wUn, wIfE, wT, wTr, wNot, wAnd, wOr, wAndV, wOrV, wChain, wBinS, wUnS, wOpN, wTup, wLst, wCons, wNil, wCall, wMs, wPar, wPar3, gN, gTupN, gCons, gNil, isD, isSt, isDc, optK_some, rd_d, rdS_d, frs_nil, frs_d, rds_nil, rds_d, on1, on2, asB_b, set0, setS, get0, getS, startE, List.map_cons, List.map_nil, List.length_cons, List.length_nil, List.replicate, List.cons_append, List.nil_append, List.append_nil, Option.map_some, Option.map_none, Option.bind_some, oEq_ss, oNe_ss, oEq_ii, oNe_ii, oAdd_ii, oSub_ii, ix_0, ix_1, ix_2, ix_k0, ix_n1, ix_p1, ix_p2, ix_e1, ix_e2, hd1, hd2, hd3, hd4, hd5, hd6, fin_rt, fin_nx, ret_d, if_true, if_false, Bool.false_eq_true, Bool.true_eq_false, Bool.not_true, Bool.not_false, beq_self_eq_true, decide_true, decide_false, true_and, and_true, lit0, lit1, lit2, lit3, lit4, lit5, lit6, lit7, lit8, lit9, lit10, wYes]
      refine spF_go (xs := [b.enc, g.enc]) ⟨b, g, rfl, hg, hb, fun m hm => hn m (List.mem_append_right _ hm), rfl⟩ ?_
      simp only [wSeq, wIf, wRet, wRetN, wAsg, wExpr, wSkip, wBrk, wCnt, wVar, wC, wBin, wUn, wIfE, wT, wTr, wNot, wAnd, wOr, wAndV, wOrV, wChain, wBinS, wUnS, wOpN, wTup, wLst, wCons, wNil, wCall, wMs, wPar, wPar3, gN, gTupN, gCons, gNil, isD, isSt, isDc, optK_some, rd_d, rdS_d, frs_nil, frs_d, rds_nil, rds_d, on1, on2, asB_b, set0, setS, get0, getS, startE, List.map_cons, List.map_nil, List.length_cons, List.length_nil, List.replicate, List.cons_append, List.nil_append, List.append_nil, Option.map_some, Option.map_none, Option.bind_some, oEq_ss, oNe_ss, oEq_ii, oNe_ii, oAdd_ii, oSub_ii, ix_0, ix_1, ix_2, ix_k0, ix_n1, ix_p1, ix_p2, ix_e1, ix_e2, hd1, hd2, hd3, hd4, hd5, hd6, fin_rt, fin_nx, ret_d, if_true, if_false, Bool.false_eq_true, Bool.true_eq_false, Bool.not_true, Bool.not_false, beq_self_eq_true, decide_true, decide_false, true_and, and_true, lit0, lit1, lit2, lit3, lit4, lit5, lit6, lit7, lit8, lit9, lit10, wYes]
      exact q
    | pair a b =>
      have ha : a.dep ≤ l := by simp only [Kd.dep] at hk; omega
      have hb : b.dep ≤ l := by simp only [Kd.dep] at hk; omega
      simp only [b_kind_by_hole, wSeq, wIf, wRet, wRetN, wAsg, wExpr, wSkip, wBrk, wCnt, wVar, wC, wBin, wUn, wIfE, wT, wTr, wNot, wAnd, wOr, wAndV, wOrV, wChain, wBinS, wUnS, wOpN, wTup, wLst, wCons, wNil, wCall, wMs, wPar, wPar3, gN, gTupN, gCons, gNil, isD, isSt, isDc, optK_some, rd_d, rdS_d, frs_nil, frs_d, rds_nil, rds_d, on1, on2, asB_b, set0, setS, get0, getS, startE, List.map_cons, List.map_nil, List.length_cons, List.length_nil, List.replicate, List.cons_append, List.nil_append, List.append_nil, Option.map_some, Option.map_none, Option.bind_some, oEq_ss, oNe_ss, oEq_ii, oNe_ii, oAdd_ii, oSub_ii, ix_0, ix_1, ix_2, ix_k0, ix_n1, ix_p1, ix_p2, ix_e1, ix_e2, hd1, hd2, hd3, hd4, hd5, hd6, fin_rt, fin_nx, ret_d, if_true, if_false, Bool.false_eq_true, Bool.true_eq_false, Bool.not_true, Bool.not_false, beq_self_eq_true, decide_true, decide_false, true_and, and_true, lit0, lit1, lit2, lit3, lit4, lit5, lit6, lit7, lit8, lit9, lit10, wYes, hq', show (("pair" : Str) == ("name" : Str)) = false by decide, show (("pair" : Str) == ("either" : Str)) = false by decide]
      refine spF_go (xs := [a.enc, g.enc]) ⟨a, g, rfl, hg, ha, fun m hm => hn m (List.mem_append_left _ hm), rfl⟩ ?_
      simp only [wSeq, wIf, wRet, wRetN, wAsg, wExpr, wSkip, wBrk, wCnt, wVar, wC, wBin, wUn, wIfE, wT, wTr, wNot, wAnd, wOr, wAndV, wOrV, wChain, wBinS, wUnS, wOpN, wTup, wLst, wCons, wNil, wCall, wMs, wPar, wPar3, gN, gTupN, gCons, gNil, isD, isSt, isDc, optK_some, rd_d, rdS_d, frs_nil, frs_d, rds_nil, rds_d, on1, on2, asB_b, set0, setS, get0, getS, startE, List.map_cons, List.map_nil, List.length_cons, List.length_nil, List.replicate, List.cons_append, List.nil_append, List.append_nil, Option.map_some, Option.map_none, Option.bind_some, oEq_ss, oNe_ss, oEq_ii, oNe_ii, oAdd_ii, oSub_ii, ix_0, ix_1, ix_2, ix_k0, ix_n1, ix_p1, ix_p2, ix_e1, ix_e2, hd1, hd2, hd3, hd4, hd5, hd6, fin_rt, fin_nx, ret_d, if_true, if_false, Bool.false_eq_true, Bool.true_eq_false, Bool.not_true, Bool.not_false, beq_self_eq_true, decide_true, decide_false, true_and, and_true, lit0, lit1, lit2, lit3, lit4, lit5, lit6, lit7, lit8, lit9, lit10, wYes]
      refine spF_go (xs := [b.enc, g.enc]) ⟨b, g, rfl, hg, hb, fun m hm => hn m (List.mem_append_right _ hm), rfl⟩ ?_
      simp only [wSeq, wIf, wRet, wRetN, wAsg, wExpr, wSkip, wBrk, wCnt, wVar, wC, wBin, wUn, wIfE, wT, wTr, wNot, wAnd, wOr, wAndV, wOrV, wChain, wBinS, wUnS, wOpN, wTup, wLst, wCons, wNil, wCall, wMs, wPar, wPar3, gN, gTupN, gCons, gNil, isD, isSt, isDc, optK_some, rd_d, rdS_d, frs_nil, frs_d, rds_nil, rds_d, on1, on2, asB_b, set0, setS, get0, getS, startE, List.map_cons, List.map_nil, List.length_cons, List.length_nil, List.replicate, List.cons_append, List.nil_append, List.append_nil, Option.map_some, Option.map_none, Option.bind_some, oEq_ss, oNe_ss, oEq_ii, oNe_ii, oAdd_ii, oSub_ii, ix_0, ix_1, ix_2, ix_k0, ix_n1, ix_p1, ix_p2, ix_e1, ix_e2, hd1, hd2, hd3, hd4, hd5, hd6, fin_rt, fin_nx, ret_d, if_true, if_false, Bool.false_eq_true, Bool.true_eq_false, Bool.not_true, Bool.not_false, beq_self_eq_true, decide_true, decide_false, true_and, and_true, lit0, lit1, lit2, lit3, lit4, lit5, lit6, lit7, lit8, lit9, lit10, wYes]
      exact q
end DL.K20
/-! text K20P2 -/
namespace DL.K20
open PySem DL
theorem keeps_law_name_by : Keeps 2 (spF pMN) b_law_name_by := keeps_marked_name
/-! ### the law's own derivation -/
def tw3 : PyData := .tuple [.str "thing", .str "unit", .str "none"]
theorem in3 (k : Kd) : oIn (.str k.head) tw3 = some (.bool (match k with | .thing => true | .unit => true | .non => true | _ => false)) := by
  cases k <;> rfl
def tw2 : PyData := .tuple [.str "pair", .str "either"]
theorem in2 (k : Kd) : oIn (.str k.head) tw2 = some (.bool (match k with | .pair _ _ => true | .either _ _ => true | _ => false)) := by
  cases k <;> rfl
theorem keeps_law_by (l : Nat) : Keeps 4 (spF (pKB (l + 1))) (b_law_by (spF (pKB l)) (spF pMN)) := by
  rintro args st Q E ⟨xs, y, rfl, ⟨k, g, rfl, hg, hk, hn, rfl⟩, q⟩
  have hq : oEq k.enc g.enc = some (.bool (decide (k = g))) := oEq_kk (by rw [isGap_dep hg]; omega)
  have h3 := in3 k
  unfold tw3 at h3
  by_cases hkg : k = g
  · subst hkg
    simp only [decide_true] at hq
    rcases hg with rfl | ⟨m, rfl, hm⟩
    · simp only [b_law_by, wSeq, wIf, wRet, wRetN, wAsg, wExpr, wSkip, wBrk, wCnt, wVar, wC, wBin, wUn, wIfE, wT, wTr, wNot, wAnd, wOr, wAndV, wOrV, wChain, wBinS, wUnS, wOpN, wTup, wLst, wCons, wNil, wCall, wMs, wPar, wPar3, gN, gTupN, gCons, gNil, isD, isSt, isDc, optK_some, rd_d, rdS_d, frs_nil, frs_d, rds_nil, rds_d, on1, on2, asB_b, set0, setS, get0, getS, startE, List.map_cons, List.map_nil, List.length_cons, List.length_nil, List.replicate, List.cons_append, List.nil_append, List.append_nil, Option.map_some, Option.map_none, Option.bind_some, oEq_ss, oNe_ss, oEq_ii, oNe_ii, oAdd_ii, oSub_ii, ix_0, ix_1, ix_2, ix_k0, ix_n1, ix_p1, ix_p2, ix_e1, ix_e2, hd1, hd2, hd3, hd4, hd5, hd6, fin_rt, fin_nx, ret_d, if_true, if_false, Bool.false_eq_true, Bool.true_eq_false, Bool.not_true, Bool.not_false, beq_self_eq_true, decide_true, decide_false, true_and, and_true, lit0, lit1, lit2, lit3, lit4, lit5, lit6, lit7, lit8, lit9, lit10, wYes, hq]
      exact q
    · simp only [b_law_by, wSeq, wIf, wRet, wRetN, wAsg, wExpr, wSkip, wBrk, wCnt, wVar, wC, wBin, wUn, wIfE, wT, wTr, wNot, wAnd, wOr, wAndV, wOrV, wChain, wBinS, wUnS, wOpN, wTup, wLst, wCons, wNil, wCall, wMs, wPar, wPar3, gN, gTupN, gCons, gNil, isD, isSt, isDc, optK_some, rd_d, rdS_d, frs_nil, frs_d, rds_nil, rds_d, on1, on2, asB_b, set0, setS, get0, getS, startE, List.map_cons, List.map_nil, List.length_cons, List.length_nil, List.replicate, List.cons_append, List.nil_append, List.append_nil, Option.map_some, Option.map_none, Option.bind_some, oEq_ss, oNe_ss, oEq_ii, oNe_ii, oAdd_ii, oSub_ii, ix_0, ix_1, ix_2, ix_k0, ix_n1, ix_p1, ix_p2, ix_e1, ix_e2, hd1, hd2, hd3, hd4, hd5, hd6, fin_rt, fin_nx, ret_d, if_true, if_false, Bool.false_eq_true, Bool.true_eq_false, Bool.not_true, Bool.not_false, beq_self_eq_true, decide_true, decide_false, true_and, and_true, lit0, lit1, lit2, lit3, lit4, lit5, lit6, lit7, lit8, lit9, lit10, wYes, hq, ne_nt]
      refine spF_go (xs := [.str m, Kd.enc (.name m)]) ⟨m, .name m, rfl, .inr ⟨m, rfl, hm⟩, by omega, rfl⟩ ?_
      simp only [wSeq, wIf, wRet, wRetN, wAsg, wExpr, wSkip, wBrk, wCnt, wVar, wC, wBin, wUn, wIfE, wT, wTr, wNot, wAnd, wOr, wAndV, wOrV, wChain, wBinS, wUnS, wOpN, wTup, wLst, wCons, wNil, wCall, wMs, wPar, wPar3, gN, gTupN, gCons, gNil, isD, isSt, isDc, optK_some, rd_d, rdS_d, frs_nil, frs_d, rds_nil, rds_d, on1, on2, asB_b, set0, setS, get0, getS, startE, List.map_cons, List.map_nil, List.length_cons, List.length_nil, List.replicate, List.cons_append, List.nil_append, List.append_nil, Option.map_some, Option.map_none, Option.bind_some, oEq_ss, oNe_ss, oEq_ii, oNe_ii, oAdd_ii, oSub_ii, ix_0, ix_1, ix_2, ix_k0, ix_n1, ix_p1, ix_p2, ix_e1, ix_e2, hd1, hd2, hd3, hd4, hd5, hd6, fin_rt, fin_nx, ret_d, if_true, if_false, Bool.false_eq_true, Bool.true_eq_false, Bool.not_true, Bool.not_false, beq_self_eq_true, decide_true, decide_false, true_and, and_true, lit0, lit1, lit2, lit3, lit4, lit5, lit6, lit7, lit8, lit9, lit10, wYes]
      rw [by_same_name] at q
      exact q
  · have hq' : oEq k.enc g.enc = some (.bool false) := by rw [hq, decide_eq_false hkg]
    cases k with
    | thing =>
      simp only [hd1, hd2, hd3, hd4, hd5, hd6] at h3
      simp only [b_law_by, wSeq, wIf, wRet, wRetN, wAsg, wExpr, wSkip, wBrk, wCnt, wVar, wC, wBin, wUn, wIfE, wT, wTr, wNot, wAnd, wOr, wAndV, wOrV, wChain, wBinS, wUnS, wOpN, wTup, wLst, wCons, wNil, wCall, wMs, wPar, wPar3, gN, gTupN, gCons, gNil, isD, isSt, isDc, optK_some, rd_d, rdS_d, frs_nil, frs_d, rds_nil, rds_d, on1, on2, asB_b, set0, setS, get0, getS, startE, List.map_cons, List.map_nil, List.length_cons, List.length_nil, List.replicate, List.cons_append, List.nil_append, List.append_nil, Option.map_some, Option.map_none, Option.bind_some, oEq_ss, oNe_ss, oEq_ii, oNe_ii, oAdd_ii, oSub_ii, ix_0, ix_1, ix_2, ix_k0, ix_n1, ix_p1, ix_p2, ix_e1, ix_e2, hd1, hd2, hd3, hd4, hd5, hd6, fin_rt, fin_nx, ret_d, if_true, if_false, Bool.false_eq_true, Bool.true_eq_false, Bool.not_true, Bool.not_false, beq_self_eq_true, decide_true, decide_false, true_and, and_true, lit0, lit1, lit2, lit3, lit4, lit5, lit6, lit7, lit8, lit9, lit10, wYes, hq', h3]
      rw [by_thing hkg] at q
      exact q
    | non =>
      simp only [hd1, hd2, hd3, hd4, hd5, hd6] at h3
      simp only [b_law_by, wSeq, wIf, wRet, wRetN, wAsg, wExpr, wSkip, wBrk, wCnt, wVar, wC, wBin, wUn, wIfE, wT, wTr, wNot, wAnd, wOr, wAndV, wOrV, wChain, wBinS, wUnS, wOpN, wTup, wLst, wCons, wNil, wCall, wMs, wPar, wPar3, gN, gTupN, gCons, gNil, isD, isSt, isDc, optK_some, rd_d, rdS_d, frs_nil, frs_d, rds_nil, rds_d, on1, on2, asB_b, set0, setS, get0, getS, startE, List.map_cons, List.map_nil, List.length_cons, List.length_nil, List.replicate, List.cons_append, List.nil_append, List.append_nil, Option.map_some, Option.map_none, Option.bind_some, oEq_ss, oNe_ss, oEq_ii, oNe_ii, oAdd_ii, oSub_ii, ix_0, ix_1, ix_2, ix_k0, ix_n1, ix_p1, ix_p2, ix_e1, ix_e2, hd1, hd2, hd3, hd4, hd5, hd6, fin_rt, fin_nx, ret_d, if_true, if_false, Bool.false_eq_true, Bool.true_eq_false, Bool.not_true, Bool.not_false, beq_self_eq_true, decide_true, decide_false, true_and, and_true, lit0, lit1, lit2, lit3, lit4, lit5, lit6, lit7, lit8, lit9, lit10, wYes, hq', h3]
      exact q
    | unit =>
      simp only [hd1, hd2, hd3, hd4, hd5, hd6] at h3
      simp only [b_law_by, wSeq, wIf, wRet, wRetN, wAsg, wExpr, wSkip, wBrk, wCnt, wVar, wC, wBin, wUn, wIfE, wT, wTr, wNot, wAnd, wOr, wAndV, wOrV, wChain, wBinS, wUnS, wOpN, wTup, wLst, wCons, wNil, wCall, wMs, wPar, wPar3, gN, gTupN, gCons, gNil, isD, isSt, isDc, optK_some, rd_d, rdS_d, frs_nil, frs_d, rds_nil, rds_d, on1, on2, asB_b, set0, setS, get0, getS, startE, List.map_cons, List.map_nil, List.length_cons, List.length_nil, List.replicate, List.cons_append, List.nil_append, List.append_nil, Option.map_some, Option.map_none, Option.bind_some, oEq_ss, oNe_ss, oEq_ii, oNe_ii, oAdd_ii, oSub_ii, ix_0, ix_1, ix_2, ix_k0, ix_n1, ix_p1, ix_p2, ix_e1, ix_e2, hd1, hd2, hd3, hd4, hd5, hd6, fin_rt, fin_nx, ret_d, if_true, if_false, Bool.false_eq_true, Bool.true_eq_false, Bool.not_true, Bool.not_false, beq_self_eq_true, decide_true, decide_false, true_and, and_true, lit0, lit1, lit2, lit3, lit4, lit5, lit6, lit7, lit8, lit9, lit10, wYes, hq', h3]
      exact q
    | name n =>
      simp only [hd1, hd2, hd3, hd4, hd5, hd6] at h3
      simp only [b_law_by, wSeq, wIf, wRet, wRetN, wAsg, wExpr, wSkip, wBrk, wCnt, wVar, wC, wBin, wUn, wIfE, wT, wTr, wNot, wAnd, wOr, wAndV, wOrV, wChain, wBinS, wUnS, wOpN, wTup, wLst, wCons, wNil, wCall, wMs, wPar, wPar3, gN, gTupN, gCons, gNil, isD, isSt, isDc, optK_some, rd_d, rdS_d, frs_nil, frs_d, rds_nil, rds_d, on1, on2, asB_b, set0, setS, get0, getS, startE, List.map_cons, List.map_nil, List.length_cons, List.length_nil, List.replicate, List.cons_append, List.nil_append, List.append_nil, Option.map_some, Option.map_none, Option.bind_some, oEq_ss, oNe_ss, oEq_ii, oNe_ii, oAdd_ii, oSub_ii, ix_0, ix_1, ix_2, ix_k0, ix_n1, ix_p1, ix_p2, ix_e1, ix_e2, hd1, hd2, hd3, hd4, hd5, hd6, fin_rt, fin_nx, ret_d, if_true, if_false, Bool.false_eq_true, Bool.true_eq_false, Bool.not_true, Bool.not_false, beq_self_eq_true, decide_true, decide_false, true_and, and_true, lit0, lit1, lit2, lit3, lit4, lit5, lit6, lit7, lit8, lit9, lit10, wYes, hq', h3]
      refine spF_go (xs := [.str n, g.enc]) ⟨n, g, rfl, hg, by have := hn n (by simp [Kd.names]); omega, rfl⟩ ?_
      simp only [wSeq, wIf, wRet, wRetN, wAsg, wExpr, wSkip, wBrk, wCnt, wVar, wC, wBin, wUn, wIfE, wT, wTr, wNot, wAnd, wOr, wAndV, wOrV, wChain, wBinS, wUnS, wOpN, wTup, wLst, wCons, wNil, wCall, wMs, wPar, wPar3, gN, gTupN, gCons, gNil, isD, isSt, isDc, optK_some, rd_d, rdS_d, frs_nil, frs_d, rds_nil, rds_d, on1, on2, asB_b, set0, setS, get0, getS, startE, List.map_cons, List.map_nil, List.length_cons, List.length_nil, List.replicate, List.cons_append, List.nil_append, List.append_nil, Option.map_some, Option.map_none, Option.bind_some, oEq_ss, oNe_ss, oEq_ii, oNe_ii, oAdd_ii, oSub_ii, ix_0, ix_1, ix_2, ix_k0, ix_n1, ix_p1, ix_p2, ix_e1, ix_e2, hd1, hd2, hd3, hd4, hd5, hd6, fin_rt, fin_nx, ret_d, if_true, if_false, Bool.false_eq_true, Bool.true_eq_false, Bool.not_true, Bool.not_false, beq_self_eq_true, decide_true, decide_false, true_and, and_true, lit0, lit1, lit2, lit3, lit4, lit5, lit6, lit7, lit8, lit9, lit10, wYes]
      rw [by_name hkg] at q
      exact q
    | either a b =>
      simp only [hd1, hd2, hd3, hd4, hd5, hd6] at h3
      have ha : a.dep ≤ l := by simp only [Kd.dep] at hk; omega
      have hb : b.dep ≤ l := by simp only [Kd.dep] at hk; omega
      simp only [b_law_by, wSeq, wIf, wRet, wRetN, wAsg, wExpr, wSkip, wBrk, wCnt, wVar, wC, wBin, wUn, wIfE, wT, wTr, wNot, wAnd, wOr, wAndV, wOrV, wChain, wBinS, wUnS, wOpN, wTup, wLst, wCons, wNil, wCall, wMs, wPar, wPar3, gN, gTupN, gCons, gNil, isD, isSt, isDc, optK_some, rd_d, rdS_d, frs_nil, frs_d, rds_nil, rds_d, on1, on2, asB_b, set0, setS, get0, getS, startE, List.map_cons, List.map_nil, List.length_cons, List.length_nil, List.replicate, List.cons_append, List.nil_append, List.append_nil, Option.map_some, Option.map_none, Option.bind_some, oEq_ss, oNe_ss, oEq_ii, oNe_ii, oAdd_ii, oSub_ii, ix_0, ix_1, ix_2, ix_k0, ix_n1, ix_p1, ix_p2, ix_e1, ix_e2, hd1, hd2, hd3, hd4, hd5, hd6, fin_rt, fin_nx, ret_d, if_true, if_false, Bool.false_eq_true, Bool.true_eq_false, Bool.not_true, Bool.not_false, beq_self_eq_true, decide_true, decide_false, true_and, and_true, lit0, lit1, lit2, lit3, lit4, lit5, lit6, lit7, lit8, lit9, lit10, wYes, hq', h3, show (("either" : Str) == ("name" : Str)) = false by decide]
      refine spF_go (xs := [a.enc, g.enc]) ⟨a, g, rfl, hg, ha, fun m hm => hn m (List.mem_append_left _ hm), rfl⟩ ?_
      simp only [wSeq, wIf, wRet, wRetN, wAsg, wExpr, wSkip, wBrk, wCnt, wVar, wC, wBin, wUn, wIfE, wT, wTr, wNot, wAnd, wOr, wAndV, wOrV, wChain, wBinS, wUnS, wOpN, wTup, wLst, wCons, wNil, wCall, wMs, wPar, wPar3, gN, gTupN, gCons, gNil, isD, isSt, isDc, optK_some, rd_d, rdS_d, frs_nil, frs_d, rds_nil, rds_d, on1, on2, asB_b, set0, setS, get0, getS, startE, List.map_cons, List.map_nil, List.length_cons, List.length_nil, List.replicate, List.cons_append, List.nil_append, List.append_nil, Option.map_some, Option.map_none, Option.bind_some, oEq_ss, oNe_ss, oEq_ii, oNe_ii, oAdd_ii, oSub_ii, ix_0, ix_1, ix_2, ix_k0, ix_n1, ix_p1, ix_p2, ix_e1, ix_e2, hd1, hd2, hd3, hd4, hd5, hd6, fin_rt, fin_nx, ret_d, if_true, if_false, Bool.false_eq_true, Bool.true_eq_false, Bool.not_true, Bool.not_false, beq_self_eq_true, decide_true, decide_false, true_and, and_true, lit0, lit1, lit2, lit3, lit4, lit5, lit6, lit7, lit8, lit9, lit10, wYes]
      refine spF_go (xs := [b.enc, g.enc]) ⟨b, g, rfl, hg, hb, fun m hm => hn m (List.mem_append_right _ hm), rfl⟩ ?_
      simp only [wSeq, wIf, wRet, wRetN, wAsg, wExpr, wSkip, wBrk, wCnt, wVar, wC, wBin, wUn, wIfE, wT, wTr, wNot, wAnd, wOr, wAndV, wOrV, wChain, wBinS, wUnS, wOpN, wTup, wLst, wCons, wNil, wCall, wMs, wPar, wPar3, gN, gTupN, gCons, gNil, isD, isSt, isDc, optK_some, rd_d, rdS_d, frs_nil, frs_d, rds_nil, rds_d, on1, on2, asB_b, set0, setS, get0, getS, startE, List.map_cons, List.map_nil, List.length_cons, List.length_nil, List.replicate, List.cons_append, List.nil_append, List.append_nil, Option.map_some, Option.map_none, Option.bind_some, oEq_ss, oNe_ss, oEq_ii, oNe_ii, oAdd_ii, oSub_ii, ix_0, ix_1, ix_2, ix_k0, ix_n1, ix_p1, ix_p2, ix_e1, ix_e2, hd1, hd2, hd3, hd4, hd5, hd6, fin_rt, fin_nx, ret_d, if_true, if_false, Bool.false_eq_true, Bool.true_eq_false, Bool.not_true, Bool.not_false, beq_self_eq_true, decide_true, decide_false, true_and, and_true, lit0, lit1, lit2, lit3, lit4, lit5, lit6, lit7, lit8, lit9, lit10, wYes]
      exact q
    | pair a b =>
      simp only [hd1, hd2, hd3, hd4, hd5, hd6] at h3
      have ha : a.dep ≤ l := by simp only [Kd.dep] at hk; omega
      have hb : b.dep ≤ l := by simp only [Kd.dep] at hk; omega
      simp only [b_law_by, wSeq, wIf, wRet, wRetN, wAsg, wExpr, wSkip, wBrk, wCnt, wVar, wC, wBin, wUn, wIfE, wT, wTr, wNot, wAnd, wOr, wAndV, wOrV, wChain, wBinS, wUnS, wOpN, wTup, wLst, wCons, wNil, wCall, wMs, wPar, wPar3, gN, gTupN, gCons, gNil, isD, isSt, isDc, optK_some, rd_d, rdS_d, frs_nil, frs_d, rds_nil, rds_d, on1, on2, asB_b, set0, setS, get0, getS, startE, List.map_cons, List.map_nil, List.length_cons, List.length_nil, List.replicate, List.cons_append, List.nil_append, List.append_nil, Option.map_some, Option.map_none, Option.bind_some, oEq_ss, oNe_ss, oEq_ii, oNe_ii, oAdd_ii, oSub_ii, ix_0, ix_1, ix_2, ix_k0, ix_n1, ix_p1, ix_p2, ix_e1, ix_e2, hd1, hd2, hd3, hd4, hd5, hd6, fin_rt, fin_nx, ret_d, if_true, if_false, Bool.false_eq_true, Bool.true_eq_false, Bool.not_true, Bool.not_false, beq_self_eq_true, decide_true, decide_false, true_and, and_true, lit0, lit1, lit2, lit3, lit4, lit5, lit6, lit7, lit8, lit9, lit10, wYes, hq', h3, show (("pair" : Str) == ("name" : Str)) = false by decide, show (("pair" : Str) == ("either" : Str)) = false by decide]
      refine spF_go (xs := [a.enc, g.enc]) ⟨a, g, rfl, hg, ha, fun m hm => hn m (List.mem_append_left _ hm), rfl⟩ ?_
      simp only [wSeq, wIf, wRet, wRetN, wAsg, wExpr, wSkip, wBrk, wCnt, wVar, wC, wBin, wUn, wIfE, wT, wTr, wNot, wAnd, wOr, wAndV, wOrV, wChain, wBinS, wUnS, wOpN, wTup, wLst, wCons, wNil, wCall, wMs, wPar, wPar3, gN, gTupN, gCons, gNil, isD, isSt, isDc, optK_some, rd_d, rdS_d, frs_nil, frs_d, rds_nil, rds_d, on1, on2, asB_b, set0, setS, get0, getS, startE, List.map_cons, List.map_nil, List.length_cons, List.length_nil, List.replicate, List.cons_append, List.nil_append, List.append_nil, Option.map_some, Option.map_none, Option.bind_some, oEq_ss, oNe_ss, oEq_ii, oNe_ii, oAdd_ii, oSub_ii, ix_0, ix_1, ix_2, ix_k0, ix_n1, ix_p1, ix_p2, ix_e1, ix_e2, hd1, hd2, hd3, hd4, hd5, hd6, fin_rt, fin_nx, ret_d, if_true, if_false, Bool.false_eq_true, Bool.true_eq_false, Bool.not_true, Bool.not_false, beq_self_eq_true, decide_true, decide_false, true_and, and_true, lit0, lit1, lit2, lit3, lit4, lit5, lit6, lit7, lit8, lit9, lit10, wYes]
      refine spF_go (xs := [b.enc, g.enc]) ⟨b, g, rfl, hg, hb, fun m hm => hn m (List.mem_append_right _ hm), rfl⟩ ?_
      simp only [wSeq, wIf, wRet, wRetN, wAsg, wExpr, wSkip, wBrk, wCnt, wVar, wC, wBin, wUn, wIfE, wT, wTr, wNot, wAnd, wOr, wAndV, wOrV, wChain, wBinS, wUnS, wOpN, wTup, wLst, wCons, wNil, wCall, wMs, wPar, wPar3, gN, gTupN, gCons, gNil, isD, isSt, isDc, optK_some, rd_d, rdS_d, frs_nil, frs_d, rds_nil, rds_d, on1, on2, asB_b, set0, setS, get0, getS, startE, List.map_cons, List.map_nil, List.length_cons, List.length_nil, List.replicate, List.cons_append, List.nil_append, List.append_nil, Option.map_some, Option.map_none, Option.bind_some, oEq_ss, oNe_ss, oEq_ii, oNe_ii, oAdd_ii, oSub_ii, ix_0, ix_1, ix_2, ix_k0, ix_n1, ix_p1, ix_p2, ix_e1, ix_e2, hd1, hd2, hd3, hd4, hd5, hd6, fin_rt, fin_nx, ret_d, if_true, if_false, Bool.false_eq_true, Bool.true_eq_false, Bool.not_true, Bool.not_false, beq_self_eq_true, decide_true, decide_false, true_and, and_true, lit0, lit1, lit2, lit3, lit4, lit5, lit6, lit7, lit8, lit9, lit10, wYes]
      exact q
/-! ### parts -/
def pPa (l : Nat) (xs : List PyData) (y : PyData) : Prop := ∃ k : Kd, xs = [k.enc] ∧ k.dep ≤ l ∧ y = .int (k.parts : Nat)
theorem keeps_law_parts (l : Nat) : Keeps 1 (spF (pPa (l + 1))) (b_law_parts (spF (pPa l))) := by
  rintro args st Q E ⟨xs, y, rfl, ⟨k, rfl, hk, rfl⟩, q⟩
  have h2 := in2 k
  unfold tw2 at h2
  cases k with
  | thing => simp only [hd1, hd2, hd3, hd4, hd5, hd6] at h2; simp only [b_law_parts, wSeq, wIf, wRet, wRetN, wAsg, wExpr, wSkip, wBrk, wCnt, wVar, wC, wBin, wUn, wIfE, wT, wTr, wNot, wAnd, wOr, wAndV, wOrV, wChain, wBinS, wUnS, wOpN, wTup, wLst, wCons, wNil, wCall, wMs, wPar, wPar3, gN, gTupN, gCons, gNil, isD, isSt, isDc, optK_some, rd_d, rdS_d, frs_nil, frs_d, rds_nil, rds_d, on1, on2, asB_b, set0, setS, get0, getS, startE, List.map_cons, List.map_nil, List.length_cons, List.length_nil, List.replicate, List.cons_append, List.nil_append, List.append_nil, Option.map_some, Option.map_none, Option.bind_some, oEq_ss, oNe_ss, oEq_ii, oNe_ii, oAdd_ii, oSub_ii, ix_0, ix_1, ix_2, ix_k0, ix_n1, ix_p1, ix_p2, ix_e1, ix_e2, hd1, hd2, hd3, hd4, hd5, hd6, fin_rt, fin_nx, ret_d, if_true, if_false, Bool.false_eq_true, Bool.true_eq_false, Bool.not_true, Bool.not_false, beq_self_eq_true, decide_true, decide_false, true_and, and_true, lit0, lit1, lit2, lit3, lit4, lit5, lit6, lit7, lit8, lit9, lit10, wYes, h2]; exact q
  | non => simp only [hd1, hd2, hd3, hd4, hd5, hd6] at h2; simp only [b_law_parts, wSeq, wIf, wRet, wRetN, wAsg, wExpr, wSkip, wBrk, wCnt, wVar, wC, wBin, wUn, wIfE, wT, wTr, wNot, wAnd, wOr, wAndV, wOrV, wChain, wBinS, wUnS, wOpN, wTup, wLst, wCons, wNil, wCall, wMs, wPar, wPar3, gN, gTupN, gCons, gNil, isD, isSt, isDc, optK_some, rd_d, rdS_d, frs_nil, frs_d, rds_nil, rds_d, on1, on2, asB_b, set0, setS, get0, getS, startE, List.map_cons, List.map_nil, List.length_cons, List.length_nil, List.replicate, List.cons_append, List.nil_append, List.append_nil, Option.map_some, Option.map_none, Option.bind_some, oEq_ss, oNe_ss, oEq_ii, oNe_ii, oAdd_ii, oSub_ii, ix_0, ix_1, ix_2, ix_k0, ix_n1, ix_p1, ix_p2, ix_e1, ix_e2, hd1, hd2, hd3, hd4, hd5, hd6, fin_rt, fin_nx, ret_d, if_true, if_false, Bool.false_eq_true, Bool.true_eq_false, Bool.not_true, Bool.not_false, beq_self_eq_true, decide_true, decide_false, true_and, and_true, lit0, lit1, lit2, lit3, lit4, lit5, lit6, lit7, lit8, lit9, lit10, wYes, h2]; exact q
  | unit => simp only [hd1, hd2, hd3, hd4, hd5, hd6] at h2; simp only [b_law_parts, wSeq, wIf, wRet, wRetN, wAsg, wExpr, wSkip, wBrk, wCnt, wVar, wC, wBin, wUn, wIfE, wT, wTr, wNot, wAnd, wOr, wAndV, wOrV, wChain, wBinS, wUnS, wOpN, wTup, wLst, wCons, wNil, wCall, wMs, wPar, wPar3, gN, gTupN, gCons, gNil, isD, isSt, isDc, optK_some, rd_d, rdS_d, frs_nil, frs_d, rds_nil, rds_d, on1, on2, asB_b, set0, setS, get0, getS, startE, List.map_cons, List.map_nil, List.length_cons, List.length_nil, List.replicate, List.cons_append, List.nil_append, List.append_nil, Option.map_some, Option.map_none, Option.bind_some, oEq_ss, oNe_ss, oEq_ii, oNe_ii, oAdd_ii, oSub_ii, ix_0, ix_1, ix_2, ix_k0, ix_n1, ix_p1, ix_p2, ix_e1, ix_e2, hd1, hd2, hd3, hd4, hd5, hd6, fin_rt, fin_nx, ret_d, if_true, if_false, Bool.false_eq_true, Bool.true_eq_false, Bool.not_true, Bool.not_false, beq_self_eq_true, decide_true, decide_false, true_and, and_true, lit0, lit1, lit2, lit3, lit4, lit5, lit6, lit7, lit8, lit9, lit10, wYes, h2]; exact q
  | name n => simp only [hd1, hd2, hd3, hd4, hd5, hd6] at h2; simp only [b_law_parts, wSeq, wIf, wRet, wRetN, wAsg, wExpr, wSkip, wBrk, wCnt, wVar, wC, wBin, wUn, wIfE, wT, wTr, wNot, wAnd, wOr, wAndV, wOrV, wChain, wBinS, wUnS, wOpN, wTup, wLst, wCons, wNil, wCall, wMs, wPar, wPar3, gN, gTupN, gCons, gNil, isD, isSt, isDc, optK_some, rd_d, rdS_d, frs_nil, frs_d, rds_nil, rds_d, on1, on2, asB_b, set0, setS, get0, getS, startE, List.map_cons, List.map_nil, List.length_cons, List.length_nil, List.replicate, List.cons_append, List.nil_append, List.append_nil, Option.map_some, Option.map_none, Option.bind_some, oEq_ss, oNe_ss, oEq_ii, oNe_ii, oAdd_ii, oSub_ii, ix_0, ix_1, ix_2, ix_k0, ix_n1, ix_p1, ix_p2, ix_e1, ix_e2, hd1, hd2, hd3, hd4, hd5, hd6, fin_rt, fin_nx, ret_d, if_true, if_false, Bool.false_eq_true, Bool.true_eq_false, Bool.not_true, Bool.not_false, beq_self_eq_true, decide_true, decide_false, true_and, and_true, lit0, lit1, lit2, lit3, lit4, lit5, lit6, lit7, lit8, lit9, lit10, wYes, h2]; exact q
  | either a b =>
    simp only [hd1, hd2, hd3, hd4, hd5, hd6] at h2
    have ha : a.dep ≤ l := by simp only [Kd.dep] at hk; omega
    have hb : b.dep ≤ l := by simp only [Kd.dep] at hk; omega
    simp only [b_law_parts, wSeq, wIf, wRet, wRetN, wAsg, wExpr, wSkip, wBrk, wCnt, wVar, wC, wBin, wUn, wIfE, wT, wTr, wNot, wAnd, wOr, wAndV, wOrV, wChain, wBinS, wUnS, wOpN, wTup, wLst, wCons, wNil, wCall, wMs, wPar, wPar3, gN, gTupN, gCons, gNil, isD, isSt, isDc, optK_some, rd_d, rdS_d, frs_nil, frs_d, rds_nil, rds_d, on1, on2, asB_b, set0, setS, get0, getS, startE, List.map_cons, List.map_nil, List.length_cons, List.length_nil, List.replicate, List.cons_append, List.nil_append, List.append_nil, Option.map_some, Option.map_none, Option.bind_some, oEq_ss, oNe_ss, oEq_ii, oNe_ii, oAdd_ii, oSub_ii, ix_0, ix_1, ix_2, ix_k0, ix_n1, ix_p1, ix_p2, ix_e1, ix_e2, hd1, hd2, hd3, hd4, hd5, hd6, fin_rt, fin_nx, ret_d, if_true, if_false, Bool.false_eq_true, Bool.true_eq_false, Bool.not_true, Bool.not_false, beq_self_eq_true, decide_true, decide_false, true_and, and_true, lit0, lit1, lit2, lit3, lit4, lit5, lit6, lit7, lit8, lit9, lit10, wYes, h2]
    refine spF_go (xs := [a.enc]) ⟨a, rfl, ha, rfl⟩ ?_
    simp only [wSeq, wIf, wRet, wRetN, wAsg, wExpr, wSkip, wBrk, wCnt, wVar, wC, wBin, wUn, wIfE, wT, wTr, wNot, wAnd, wOr, wAndV, wOrV, wChain, wBinS, wUnS, wOpN, wTup, wLst, wCons, wNil, wCall, wMs, wPar, wPar3, gN, gTupN, gCons, gNil, isD, isSt, isDc, optK_some, rd_d, rdS_d, frs_nil, frs_d, rds_nil, rds_d, on1, on2, asB_b, set0, setS, get0, getS, startE, List.map_cons, List.map_nil, List.length_cons, List.length_nil, List.replicate, List.cons_append, List.nil_append, List.append_nil, Option.map_some, Option.map_none, Option.bind_some, oEq_ss, oNe_ss, oEq_ii, oNe_ii, oAdd_ii, oSub_ii, ix_0, ix_1, ix_2, ix_k0, ix_n1, ix_p1, ix_p2, ix_e1, ix_e2, hd1, hd2, hd3, hd4, hd5, hd6, fin_rt, fin_nx, ret_d, if_true, if_false, Bool.false_eq_true, Bool.true_eq_false, Bool.not_true, Bool.not_false, beq_self_eq_true, decide_true, decide_false, true_and, and_true, lit0, lit1, lit2, lit3, lit4, lit5, lit6, lit7, lit8, lit9, lit10, wYes]
    refine spF_go (xs := [b.enc]) ⟨b, rfl, hb, rfl⟩ ?_
    simp only [wSeq, wIf, wRet, wRetN, wAsg, wExpr, wSkip, wBrk, wCnt, wVar, wC, wBin, wUn, wIfE, wT, wTr, wNot, wAnd, wOr, wAndV, wOrV, wChain, wBinS, wUnS, wOpN, wTup, wLst, wCons, wNil, wCall, wMs, wPar, wPar3, gN, gTupN, gCons, gNil, isD, isSt, isDc, optK_some, rd_d, rdS_d, frs_nil, frs_d, rds_nil, rds_d, on1, on2, asB_b, set0, setS, get0, getS, startE, List.map_cons, List.map_nil, List.length_cons, List.length_nil, List.replicate, List.cons_append, List.nil_append, List.append_nil, Option.map_some, Option.map_none, Option.bind_some, oEq_ss, oNe_ss, oEq_ii, oNe_ii, oAdd_ii, oSub_ii, ix_0, ix_1, ix_2, ix_k0, ix_n1, ix_p1, ix_p2, ix_e1, ix_e2, hd1, hd2, hd3, hd4, hd5, hd6, fin_rt, fin_nx, ret_d, if_true, if_false, Bool.false_eq_true, Bool.true_eq_false, Bool.not_true, Bool.not_false, beq_self_eq_true, decide_true, decide_false, true_and, and_true, lit0, lit1, lit2, lit3, lit4, lit5, lit6, lit7, lit8, lit9, lit10, wYes]
    have e : (1 : Int) + ((a.parts : Nat) + (b.parts : Nat)) = ((a.parts + b.parts + 1 : Nat) : Int) := by omega
    rw [e]
    exact q
  | pair a b =>
    simp only [hd1, hd2, hd3, hd4, hd5, hd6] at h2
    have ha : a.dep ≤ l := by simp only [Kd.dep] at hk; omega
    have hb : b.dep ≤ l := by simp only [Kd.dep] at hk; omega
    simp only [b_law_parts, wSeq, wIf, wRet, wRetN, wAsg, wExpr, wSkip, wBrk, wCnt, wVar, wC, wBin, wUn, wIfE, wT, wTr, wNot, wAnd, wOr, wAndV, wOrV, wChain, wBinS, wUnS, wOpN, wTup, wLst, wCons, wNil, wCall, wMs, wPar, wPar3, gN, gTupN, gCons, gNil, isD, isSt, isDc, optK_some, rd_d, rdS_d, frs_nil, frs_d, rds_nil, rds_d, on1, on2, asB_b, set0, setS, get0, getS, startE, List.map_cons, List.map_nil, List.length_cons, List.length_nil, List.replicate, List.cons_append, List.nil_append, List.append_nil, Option.map_some, Option.map_none, Option.bind_some, oEq_ss, oNe_ss, oEq_ii, oNe_ii, oAdd_ii, oSub_ii, ix_0, ix_1, ix_2, ix_k0, ix_n1, ix_p1, ix_p2, ix_e1, ix_e2, hd1, hd2, hd3, hd4, hd5, hd6, fin_rt, fin_nx, ret_d, if_true, if_false, Bool.false_eq_true, Bool.true_eq_false, Bool.not_true, Bool.not_false, beq_self_eq_true, decide_true, decide_false, true_and, and_true, lit0, lit1, lit2, lit3, lit4, lit5, lit6, lit7, lit8, lit9, lit10, wYes, h2]
    refine spF_go (xs := [a.enc]) ⟨a, rfl, ha, rfl⟩ ?_
    simp only [wSeq, wIf, wRet, wRetN, wAsg, wExpr, wSkip, wBrk, wCnt, wVar, wC, wBin, wUn, wIfE, wT, wTr, wNot, wAnd, wOr, wAndV, wOrV, wChain, wBinS, wUnS, wOpN, wTup, wLst, wCons, wNil, wCall, wMs, wPar, wPar3, gN, gTupN, gCons, gNil, isD, isSt, isDc, optK_some, rd_d, rdS_d, frs_nil, frs_d, rds_nil, rds_d, on1, on2, asB_b, set0, setS, get0, getS, startE, List.map_cons, List.map_nil, List.length_cons, List.length_nil, List.replicate, List.cons_append, List.nil_append, List.append_nil, Option.map_some, Option.map_none, Option.bind_some, oEq_ss, oNe_ss, oEq_ii, oNe_ii, oAdd_ii, oSub_ii, ix_0, ix_1, ix_2, ix_k0, ix_n1, ix_p1, ix_p2, ix_e1, ix_e2, hd1, hd2, hd3, hd4, hd5, hd6, fin_rt, fin_nx, ret_d, if_true, if_false, Bool.false_eq_true, Bool.true_eq_false, Bool.not_true, Bool.not_false, beq_self_eq_true, decide_true, decide_false, true_and, and_true, lit0, lit1, lit2, lit3, lit4, lit5, lit6, lit7, lit8, lit9, lit10, wYes]
    refine spF_go (xs := [b.enc]) ⟨b, rfl, hb, rfl⟩ ?_
    simp only [wSeq, wIf, wRet, wRetN, wAsg, wExpr, wSkip, wBrk, wCnt, wVar, wC, wBin, wUn, wIfE, wT, wTr, wNot, wAnd, wOr, wAndV, wOrV, wChain, wBinS, wUnS, wOpN, wTup, wLst, wCons, wNil, wCall, wMs, wPar, wPar3, gN, gTupN, gCons, gNil, isD, isSt, isDc, optK_some, rd_d, rdS_d, frs_nil, frs_d, rds_nil, rds_d, on1, on2, asB_b, set0, setS, get0, getS, startE, List.map_cons, List.map_nil, List.length_cons, List.length_nil, List.replicate, List.cons_append, List.nil_append, List.append_nil, Option.map_some, Option.map_none, Option.bind_some, oEq_ss, oNe_ss, oEq_ii, oNe_ii, oAdd_ii, oSub_ii, ix_0, ix_1, ix_2, ix_k0, ix_n1, ix_p1, ix_p2, ix_e1, ix_e2, hd1, hd2, hd3, hd4, hd5, hd6, fin_rt, fin_nx, ret_d, if_true, if_false, Bool.false_eq_true, Bool.true_eq_false, Bool.not_true, Bool.not_false, beq_self_eq_true, decide_true, decide_false, true_and, and_true, lit0, lit1, lit2, lit3, lit4, lit5, lit6, lit7, lit8, lit9, lit10, wYes]
    have e : (1 : Int) + ((a.parts : Nat) + (b.parts : Nat)) = ((a.parts + b.parts + 1 : Nat) : Int) := by omega
    rw [e]
    exact q
/-! ### parts, as the program tells them -/
def subs : Kd → List PyData
  | .pair a b => [a.enc, b.enc]
  | .either a b => [a.enc, b.enc]
  | _ => []
def pKI (xs : List PyData) (y : PyData) : Prop := ∃ k : Kd, xs = [k.enc] ∧ y = .tuple (subs k)
theorem sl_k (k : Kd) (h : k.head ≠ "name") : oSl k.enc (some 1) none = some (.tuple (subs k)) := by
  cases k with
  | thing => rfl
  | non => rfl
  | unit => rfl
  | name n => exact absurd rfl h
  | pair a b =>
    have e : cutG [PyData.str "pair", a.enc, b.enc] (some 1) none = [a.enc, b.enc] := rfl
    show (if bookish (cutG [PyData.str "pair", a.enc, b.enc] (some 1) none) = false then some (PyData.tuple (cutG [PyData.str "pair", a.enc, b.enc] (some 1) none)) else none) = _
    rw [e, if_pos (bookish_kd a _)]
    rfl
  | either a b =>
    have e : cutG [PyData.str "either", a.enc, b.enc] (some 1) none = [a.enc, b.enc] := rfl
    show (if bookish (cutG [PyData.str "either", a.enc, b.enc] (some 1) none) = false then some (PyData.tuple (cutG [PyData.str "either", a.enc, b.enc] (some 1) none)) else none) = _
    rw [e, if_pos (bookish_kd a _)]
    rfl
theorem head_ne {k : Kd} (h : ∀ n, k ≠ .name n) : (k.head == ("name" : Str)) = false ∧ k.head ≠ "name" := by
  cases k with
  | name n => exact absurd rfl (h n)
  | thing => exact ⟨by decide, by decide⟩
  | non => exact ⟨by decide, by decide⟩
  | unit => exact ⟨by decide, by decide⟩
  | pair _ _ => exact ⟨show (("pair" : Str) == ("name" : Str)) = false by decide, show ("pair" : Str) ≠ ("name" : Str) by decide⟩
  | either _ _ => exact ⟨show (("either" : Str) == ("name" : Str)) = false by decide, show ("either" : Str) ≠ ("name" : Str) by decide⟩
theorem keeps_kinds_in : Keeps 1 (spF pKI) b_kinds_in := by
  rintro args st Q E ⟨xs, y, rfl, ⟨k, rfl, rfl⟩, q⟩
  by_cases hn : ∃ n, k = .name n
  · obtain ⟨n, rfl⟩ := hn
    simp only [b_kinds_in, wSeq, wIf, wRet, wRetN, wAsg, wExpr, wSkip, wBrk, wCnt, wVar, wC, wBin, wUn, wIfE, wT, wTr, wNot, wAnd, wOr, wAndV, wOrV, wChain, wBinS, wUnS, wOpN, wTup, wLst, wCons, wNil, wCall, wMs, wPar, wPar3, gN, gTupN, gCons, gNil, isD, isSt, isDc, optK_some, rd_d, rdS_d, frs_nil, frs_d, rds_nil, rds_d, on1, on2, asB_b, set0, setS, get0, getS, startE, List.map_cons, List.map_nil, List.length_cons, List.length_nil, List.replicate, List.cons_append, List.nil_append, List.append_nil, Option.map_some, Option.map_none, Option.bind_some, oEq_ss, oNe_ss, oEq_ii, oNe_ii, oAdd_ii, oSub_ii, ix_0, ix_1, ix_2, ix_k0, ix_n1, ix_p1, ix_p2, ix_e1, ix_e2, hd1, hd2, hd3, hd4, hd5, hd6, fin_rt, fin_nx, ret_d, if_true, if_false, Bool.false_eq_true, Bool.true_eq_false, Bool.not_true, Bool.not_false, beq_self_eq_true, decide_true, decide_false, true_and, and_true, lit0, lit1, lit2, lit3, lit4, lit5, lit6, lit7, lit8, lit9, lit10, wYes]
    exact q
  · have hh := head_ne (k := k) fun n e => hn ⟨n, e⟩
    simp only [b_kinds_in, wSeq, wIf, wRet, wRetN, wAsg, wExpr, wSkip, wBrk, wCnt, wVar, wC, wBin, wUn, wIfE, wT, wTr, wNot, wAnd, wOr, wAndV, wOrV, wChain, wBinS, wUnS, wOpN, wTup, wLst, wCons, wNil, wCall, wMs, wPar, wPar3, gN, gTupN, gCons, gNil, isD, isSt, isDc, optK_some, rd_d, rdS_d, frs_nil, frs_d, rds_nil, rds_d, on1, on2, asB_b, set0, setS, get0, getS, startE, List.map_cons, List.map_nil, List.length_cons, List.length_nil, List.replicate, List.cons_append, List.nil_append, List.append_nil, Option.map_some, Option.map_none, Option.bind_some, oEq_ss, oNe_ss, oEq_ii, oNe_ii, oAdd_ii, oSub_ii, ix_0, ix_1, ix_2, ix_k0, ix_n1, ix_p1, ix_p2, ix_e1, ix_e2, hd1, hd2, hd3, hd4, hd5, hd6, fin_rt, fin_nx, ret_d, if_true, if_false, Bool.false_eq_true, Bool.true_eq_false, Bool.not_true, Bool.not_false, beq_self_eq_true, decide_true, decide_false, true_and, and_true, lit0, lit1, lit2, lit3, lit4, lit5, lit6, lit7, lit8, lit9, lit10, wYes, hh.1, wSl, wOS, wON, asI, sl_k k hh.2]
    exact q
def pCK (l : Nat) (xs : List PyData) (y : PyData) : Prop := ∃ k : Kd, xs = [k.enc] ∧ k.dep ≤ l ∧ y = .int (k.parts : Nat)
theorem keeps_count_kinds (l : Nat) : Keeps 2 (spF (pCK (l + 1))) (b_count_kinds (spF pKI) (spF (pCK l))) := by
  rintro args st Q E ⟨xs, y, rfl, ⟨k, rfl, hk, rfl⟩, q⟩
  simp only [b_count_kinds, wSeq, wIf, wRet, wRetN, wAsg, wExpr, wSkip, wBrk, wCnt, wVar, wC, wBin, wUn, wIfE, wT, wTr, wNot, wAnd, wOr, wAndV, wOrV, wChain, wBinS, wUnS, wOpN, wTup, wLst, wCons, wNil, wCall, wMs, wPar, wPar3, gN, gTupN, gCons, gNil, isD, isSt, isDc, optK_some, rd_d, rdS_d, frs_nil, frs_d, rds_nil, rds_d, on1, on2, asB_b, set0, setS, get0, getS, startE, List.map_cons, List.map_nil, List.length_cons, List.length_nil, List.replicate, List.cons_append, List.nil_append, List.append_nil, Option.map_some, Option.map_none, Option.bind_some, oEq_ss, oNe_ss, oEq_ii, oNe_ii, oAdd_ii, oSub_ii, ix_0, ix_1, ix_2, ix_k0, ix_n1, ix_p1, ix_p2, ix_e1, ix_e2, hd1, hd2, hd3, hd4, hd5, hd6, fin_rt, fin_nx, ret_d, if_true, if_false, Bool.false_eq_true, Bool.true_eq_false, Bool.not_true, Bool.not_false, beq_self_eq_true, decide_true, decide_false, true_and, and_true, lit0, lit1, lit2, lit3, lit4, lit5, lit6, lit7, lit8, lit9, lit10, wYes, wLc, iSeq]
  refine spF_go (xs := [k.enc]) ⟨k, rfl, rfl⟩ ?_
  simp only [itemsOf, wSeq, wIf, wRet, wRetN, wAsg, wExpr, wSkip, wBrk, wCnt, wVar, wC, wBin, wUn, wIfE, wT, wTr, wNot, wAnd, wOr, wAndV, wOrV, wChain, wBinS, wUnS, wOpN, wTup, wLst, wCons, wNil, wCall, wMs, wPar, wPar3, gN, gTupN, gCons, gNil, isD, isSt, isDc, optK_some, rd_d, rdS_d, frs_nil, frs_d, rds_nil, rds_d, on1, on2, asB_b, set0, setS, get0, getS, startE, List.map_cons, List.map_nil, List.length_cons, List.length_nil, List.replicate, List.cons_append, List.nil_append, List.append_nil, Option.map_some, Option.map_none, Option.bind_some, oEq_ss, oNe_ss, oEq_ii, oNe_ii, oAdd_ii, oSub_ii, ix_0, ix_1, ix_2, ix_k0, ix_n1, ix_p1, ix_p2, ix_e1, ix_e2, hd1, hd2, hd3, hd4, hd5, hd6, fin_rt, fin_nx, ret_d, if_true, if_false, Bool.false_eq_true, Bool.true_eq_false, Bool.not_true, Bool.not_false, beq_self_eq_true, decide_true, decide_false, true_and, and_true, lit0, lit1, lit2, lit3, lit4, lit5, lit6, lit7, lit8, lit9, lit10, wYes]
  cases k with
  | either a b =>
    have ha : a.dep ≤ l := by simp only [Kd.dep] at hk; omega
    have hb : b.dep ≤ l := by simp only [Kd.dep] at hk; omega
    simp only [subs, wSeq, wIf, wRet, wRetN, wAsg, wExpr, wSkip, wBrk, wCnt, wVar, wC, wBin, wUn, wIfE, wT, wTr, wNot, wAnd, wOr, wAndV, wOrV, wChain, wBinS, wUnS, wOpN, wTup, wLst, wCons, wNil, wCall, wMs, wPar, wPar3, gN, gTupN, gCons, gNil, isD, isSt, isDc, optK_some, rd_d, rdS_d, frs_nil, frs_d, rds_nil, rds_d, on1, on2, asB_b, set0, setS, get0, getS, startE, List.map_cons, List.map_nil, List.length_cons, List.length_nil, List.replicate, List.cons_append, List.nil_append, List.append_nil, Option.map_some, Option.map_none, Option.bind_some, oEq_ss, oNe_ss, oEq_ii, oNe_ii, oAdd_ii, oSub_ii, ix_0, ix_1, ix_2, ix_k0, ix_n1, ix_p1, ix_p2, ix_e1, ix_e2, hd1, hd2, hd3, hd4, hd5, hd6, fin_rt, fin_nx, ret_d, if_true, if_false, Bool.false_eq_true, Bool.true_eq_false, Bool.not_true, Bool.not_false, beq_self_eq_true, decide_true, decide_false, true_and, and_true, lit0, lit1, lit2, lit3, lit4, lit5, lit6, lit7, lit8, lit9, lit10, wYes, lcGo, wipeE, wYes]
    refine spF_go (xs := [a.enc]) ⟨a, rfl, ha, rfl⟩ ?_
    simp only [wSeq, wIf, wRet, wRetN, wAsg, wExpr, wSkip, wBrk, wCnt, wVar, wC, wBin, wUn, wIfE, wT, wTr, wNot, wAnd, wOr, wAndV, wOrV, wChain, wBinS, wUnS, wOpN, wTup, wLst, wCons, wNil, wCall, wMs, wPar, wPar3, gN, gTupN, gCons, gNil, isD, isSt, isDc, optK_some, rd_d, rdS_d, frs_nil, frs_d, rds_nil, rds_d, on1, on2, asB_b, set0, setS, get0, getS, startE, List.map_cons, List.map_nil, List.length_cons, List.length_nil, List.replicate, List.cons_append, List.nil_append, List.append_nil, Option.map_some, Option.map_none, Option.bind_some, oEq_ss, oNe_ss, oEq_ii, oNe_ii, oAdd_ii, oSub_ii, ix_0, ix_1, ix_2, ix_k0, ix_n1, ix_p1, ix_p2, ix_e1, ix_e2, hd1, hd2, hd3, hd4, hd5, hd6, fin_rt, fin_nx, ret_d, if_true, if_false, Bool.false_eq_true, Bool.true_eq_false, Bool.not_true, Bool.not_false, beq_self_eq_true, decide_true, decide_false, true_and, and_true, lit0, lit1, lit2, lit3, lit4, lit5, lit6, lit7, lit8, lit9, lit10, wYes, lcGo]
    refine spF_go (xs := [b.enc]) ⟨b, rfl, hb, rfl⟩ ?_
    simp only [wSeq, wIf, wRet, wRetN, wAsg, wExpr, wSkip, wBrk, wCnt, wVar, wC, wBin, wUn, wIfE, wT, wTr, wNot, wAnd, wOr, wAndV, wOrV, wChain, wBinS, wUnS, wOpN, wTup, wLst, wCons, wNil, wCall, wMs, wPar, wPar3, gN, gTupN, gCons, gNil, isD, isSt, isDc, optK_some, rd_d, rdS_d, frs_nil, frs_d, rds_nil, rds_d, on1, on2, asB_b, set0, setS, get0, getS, startE, List.map_cons, List.map_nil, List.length_cons, List.length_nil, List.replicate, List.cons_append, List.nil_append, List.append_nil, Option.map_some, Option.map_none, Option.bind_some, oEq_ss, oNe_ss, oEq_ii, oNe_ii, oAdd_ii, oSub_ii, ix_0, ix_1, ix_2, ix_k0, ix_n1, ix_p1, ix_p2, ix_e1, ix_e2, hd1, hd2, hd3, hd4, hd5, hd6, fin_rt, fin_nx, ret_d, if_true, if_false, Bool.false_eq_true, Bool.true_eq_false, Bool.not_true, Bool.not_false, beq_self_eq_true, decide_true, decide_false, true_and, and_true, lit0, lit1, lit2, lit3, lit4, lit5, lit6, lit7, lit8, lit9, lit10, wYes, lcGo, oSum, numsOf, List.sum_cons, List.sum_nil]
    have e : (1 : Int) + ((a.parts : Nat) + ((b.parts : Nat) + 0)) = ((a.parts + b.parts + 1 : Nat) : Int) := by omega
    rw [e]
    exact q
  | pair a b =>
    have ha : a.dep ≤ l := by simp only [Kd.dep] at hk; omega
    have hb : b.dep ≤ l := by simp only [Kd.dep] at hk; omega
    simp only [subs, wSeq, wIf, wRet, wRetN, wAsg, wExpr, wSkip, wBrk, wCnt, wVar, wC, wBin, wUn, wIfE, wT, wTr, wNot, wAnd, wOr, wAndV, wOrV, wChain, wBinS, wUnS, wOpN, wTup, wLst, wCons, wNil, wCall, wMs, wPar, wPar3, gN, gTupN, gCons, gNil, isD, isSt, isDc, optK_some, rd_d, rdS_d, frs_nil, frs_d, rds_nil, rds_d, on1, on2, asB_b, set0, setS, get0, getS, startE, List.map_cons, List.map_nil, List.length_cons, List.length_nil, List.replicate, List.cons_append, List.nil_append, List.append_nil, Option.map_some, Option.map_none, Option.bind_some, oEq_ss, oNe_ss, oEq_ii, oNe_ii, oAdd_ii, oSub_ii, ix_0, ix_1, ix_2, ix_k0, ix_n1, ix_p1, ix_p2, ix_e1, ix_e2, hd1, hd2, hd3, hd4, hd5, hd6, fin_rt, fin_nx, ret_d, if_true, if_false, Bool.false_eq_true, Bool.true_eq_false, Bool.not_true, Bool.not_false, beq_self_eq_true, decide_true, decide_false, true_and, and_true, lit0, lit1, lit2, lit3, lit4, lit5, lit6, lit7, lit8, lit9, lit10, wYes, lcGo, wipeE, wYes]
    refine spF_go (xs := [a.enc]) ⟨a, rfl, ha, rfl⟩ ?_
    simp only [wSeq, wIf, wRet, wRetN, wAsg, wExpr, wSkip, wBrk, wCnt, wVar, wC, wBin, wUn, wIfE, wT, wTr, wNot, wAnd, wOr, wAndV, wOrV, wChain, wBinS, wUnS, wOpN, wTup, wLst, wCons, wNil, wCall, wMs, wPar, wPar3, gN, gTupN, gCons, gNil, isD, isSt, isDc, optK_some, rd_d, rdS_d, frs_nil, frs_d, rds_nil, rds_d, on1, on2, asB_b, set0, setS, get0, getS, startE, List.map_cons, List.map_nil, List.length_cons, List.length_nil, List.replicate, List.cons_append, List.nil_append, List.append_nil, Option.map_some, Option.map_none, Option.bind_some, oEq_ss, oNe_ss, oEq_ii, oNe_ii, oAdd_ii, oSub_ii, ix_0, ix_1, ix_2, ix_k0, ix_n1, ix_p1, ix_p2, ix_e1, ix_e2, hd1, hd2, hd3, hd4, hd5, hd6, fin_rt, fin_nx, ret_d, if_true, if_false, Bool.false_eq_true, Bool.true_eq_false, Bool.not_true, Bool.not_false, beq_self_eq_true, decide_true, decide_false, true_and, and_true, lit0, lit1, lit2, lit3, lit4, lit5, lit6, lit7, lit8, lit9, lit10, wYes, lcGo]
    refine spF_go (xs := [b.enc]) ⟨b, rfl, hb, rfl⟩ ?_
    simp only [wSeq, wIf, wRet, wRetN, wAsg, wExpr, wSkip, wBrk, wCnt, wVar, wC, wBin, wUn, wIfE, wT, wTr, wNot, wAnd, wOr, wAndV, wOrV, wChain, wBinS, wUnS, wOpN, wTup, wLst, wCons, wNil, wCall, wMs, wPar, wPar3, gN, gTupN, gCons, gNil, isD, isSt, isDc, optK_some, rd_d, rdS_d, frs_nil, frs_d, rds_nil, rds_d, on1, on2, asB_b, set0, setS, get0, getS, startE, List.map_cons, List.map_nil, List.length_cons, List.length_nil, List.replicate, List.cons_append, List.nil_append, List.append_nil, Option.map_some, Option.map_none, Option.bind_some, oEq_ss, oNe_ss, oEq_ii, oNe_ii, oAdd_ii, oSub_ii, ix_0, ix_1, ix_2, ix_k0, ix_n1, ix_p1, ix_p2, ix_e1, ix_e2, hd1, hd2, hd3, hd4, hd5, hd6, fin_rt, fin_nx, ret_d, if_true, if_false, Bool.false_eq_true, Bool.true_eq_false, Bool.not_true, Bool.not_false, beq_self_eq_true, decide_true, decide_false, true_and, and_true, lit0, lit1, lit2, lit3, lit4, lit5, lit6, lit7, lit8, lit9, lit10, wYes, lcGo, oSum, numsOf, List.sum_cons, List.sum_nil]
    have e : (1 : Int) + ((a.parts : Nat) + ((b.parts : Nat) + 0)) = ((a.parts + b.parts + 1 : Nat) : Int) := by omega
    rw [e]
    exact q
  | thing => simp only [subs, wSeq, wIf, wRet, wRetN, wAsg, wExpr, wSkip, wBrk, wCnt, wVar, wC, wBin, wUn, wIfE, wT, wTr, wNot, wAnd, wOr, wAndV, wOrV, wChain, wBinS, wUnS, wOpN, wTup, wLst, wCons, wNil, wCall, wMs, wPar, wPar3, gN, gTupN, gCons, gNil, isD, isSt, isDc, optK_some, rd_d, rdS_d, frs_nil, frs_d, rds_nil, rds_d, on1, on2, asB_b, set0, setS, get0, getS, startE, List.map_cons, List.map_nil, List.length_cons, List.length_nil, List.replicate, List.cons_append, List.nil_append, List.append_nil, Option.map_some, Option.map_none, Option.bind_some, oEq_ss, oNe_ss, oEq_ii, oNe_ii, oAdd_ii, oSub_ii, ix_0, ix_1, ix_2, ix_k0, ix_n1, ix_p1, ix_p2, ix_e1, ix_e2, hd1, hd2, hd3, hd4, hd5, hd6, fin_rt, fin_nx, ret_d, if_true, if_false, Bool.false_eq_true, Bool.true_eq_false, Bool.not_true, Bool.not_false, beq_self_eq_true, decide_true, decide_false, true_and, and_true, lit0, lit1, lit2, lit3, lit4, lit5, lit6, lit7, lit8, lit9, lit10, wYes, lcGo, oSum, numsOf, List.sum_nil]; exact q
  | non => simp only [subs, wSeq, wIf, wRet, wRetN, wAsg, wExpr, wSkip, wBrk, wCnt, wVar, wC, wBin, wUn, wIfE, wT, wTr, wNot, wAnd, wOr, wAndV, wOrV, wChain, wBinS, wUnS, wOpN, wTup, wLst, wCons, wNil, wCall, wMs, wPar, wPar3, gN, gTupN, gCons, gNil, isD, isSt, isDc, optK_some, rd_d, rdS_d, frs_nil, frs_d, rds_nil, rds_d, on1, on2, asB_b, set0, setS, get0, getS, startE, List.map_cons, List.map_nil, List.length_cons, List.length_nil, List.replicate, List.cons_append, List.nil_append, List.append_nil, Option.map_some, Option.map_none, Option.bind_some, oEq_ss, oNe_ss, oEq_ii, oNe_ii, oAdd_ii, oSub_ii, ix_0, ix_1, ix_2, ix_k0, ix_n1, ix_p1, ix_p2, ix_e1, ix_e2, hd1, hd2, hd3, hd4, hd5, hd6, fin_rt, fin_nx, ret_d, if_true, if_false, Bool.false_eq_true, Bool.true_eq_false, Bool.not_true, Bool.not_false, beq_self_eq_true, decide_true, decide_false, true_and, and_true, lit0, lit1, lit2, lit3, lit4, lit5, lit6, lit7, lit8, lit9, lit10, wYes, lcGo, oSum, numsOf, List.sum_nil]; exact q
  | unit => simp only [subs, wSeq, wIf, wRet, wRetN, wAsg, wExpr, wSkip, wBrk, wCnt, wVar, wC, wBin, wUn, wIfE, wT, wTr, wNot, wAnd, wOr, wAndV, wOrV, wChain, wBinS, wUnS, wOpN, wTup, wLst, wCons, wNil, wCall, wMs, wPar, wPar3, gN, gTupN, gCons, gNil, isD, isSt, isDc, optK_some, rd_d, rdS_d, frs_nil, frs_d, rds_nil, rds_d, on1, on2, asB_b, set0, setS, get0, getS, startE, List.map_cons, List.map_nil, List.length_cons, List.length_nil, List.replicate, List.cons_append, List.nil_append, List.append_nil, Option.map_some, Option.map_none, Option.bind_some, oEq_ss, oNe_ss, oEq_ii, oNe_ii, oAdd_ii, oSub_ii, ix_0, ix_1, ix_2, ix_k0, ix_n1, ix_p1, ix_p2, ix_e1, ix_e2, hd1, hd2, hd3, hd4, hd5, hd6, fin_rt, fin_nx, ret_d, if_true, if_false, Bool.false_eq_true, Bool.true_eq_false, Bool.not_true, Bool.not_false, beq_self_eq_true, decide_true, decide_false, true_and, and_true, lit0, lit1, lit2, lit3, lit4, lit5, lit6, lit7, lit8, lit9, lit10, wYes, lcGo, oSum, numsOf, List.sum_nil]; exact q
  | name n => simp only [subs, wSeq, wIf, wRet, wRetN, wAsg, wExpr, wSkip, wBrk, wCnt, wVar, wC, wBin, wUn, wIfE, wT, wTr, wNot, wAnd, wOr, wAndV, wOrV, wChain, wBinS, wUnS, wOpN, wTup, wLst, wCons, wNil, wCall, wMs, wPar, wPar3, gN, gTupN, gCons, gNil, isD, isSt, isDc, optK_some, rd_d, rdS_d, frs_nil, frs_d, rds_nil, rds_d, on1, on2, asB_b, set0, setS, get0, getS, startE, List.map_cons, List.map_nil, List.length_cons, List.length_nil, List.replicate, List.cons_append, List.nil_append, List.append_nil, Option.map_some, Option.map_none, Option.bind_some, oEq_ss, oNe_ss, oEq_ii, oNe_ii, oAdd_ii, oSub_ii, ix_0, ix_1, ix_2, ix_k0, ix_n1, ix_p1, ix_p2, ix_e1, ix_e2, hd1, hd2, hd3, hd4, hd5, hd6, fin_rt, fin_nx, ret_d, if_true, if_false, Bool.false_eq_true, Bool.true_eq_false, Bool.not_true, Bool.not_false, beq_self_eq_true, decide_true, decide_false, true_and, and_true, lit0, lit1, lit2, lit3, lit4, lit5, lit6, lit7, lit8, lit9, lit10, wYes, lcGo, oSum, numsOf, List.sum_nil]; exact q
end DL.K20
/-! text DLText -/
namespace DL
open PySem PySem.Builtin.Str
/-! ### texts in pieces -/
theorem cut_same {c : Nat} : ∀ (x y A B : List Nat), c ∉ x → c ∉ y → x ++ c :: A = y ++ c :: B → x = y ∧ A = B
  | [], [], A, B, _, _, h => ⟨rfl, by simpa using h⟩
  | [], b :: y, A, B, _, hy, h => by
    simp at h
    exact absurd (by rw [h.1]; exact List.mem_cons_self ..) hy
  | a :: x, [], A, B, hx, _, h => by
    simp at h
    exact absurd (by rw [← h.1]; exact List.mem_cons_self ..) hx
  | a :: x, b :: y, A, B, hx, hy, h => by
    simp at h
    obtain ⟨h1, h2⟩ := cut_same x y A B (fun z => hx (List.mem_cons_of_mem _ z)) (fun z => hy (List.mem_cons_of_mem _ z)) h.2
    exact ⟨by rw [h.1, h1], h2⟩
theorem str_app (s t : Str) : (s ++ t).cps.toList = s.cps.toList ++ t.cps.toList := by
  show (s.cps ++ t.cps).toList = _
  simp
theorem str_ext {s t : Str} (h : s.cps.toList = t.cps.toList) : s = t := by
  cases s; cases t
  simp at h
  simp [h]
abbrev tick : Str := "'"
theorem tick_cps : tick.cps.toList = [39] := rfl
theorem tick_eq : tick = ⟨#[39]⟩ := rfl
theorem join1 (x : Str) : Str.join tick [x] = x := rfl
theorem join2 (x y : Str) (r : List Str) : Str.join tick (x :: y :: r) = x ++ tick ++ Str.join tick (y :: r) := rfl
def free (x : Str) : Prop := 39 ∉ x.cps.toList
theorem join_inj : ∀ (xs ys : List Str), xs ≠ [] → ys ≠ [] → (∀ x ∈ xs, free x) → (∀ y ∈ ys, free y) → Str.join tick xs = Str.join tick ys → xs = ys
  | [], _, h, _, _, _, _ => absurd rfl h
  | _, [], _, h, _, _, _ => absurd rfl h
  | [x], [y], _, _, _, _, h => by rw [join1, join1] at h; rw [h]
  | [x], y :: y2 :: r, _, _, hx, _, h => by
    rw [join1, join2] at h
    refine absurd ?_ (hx x (List.mem_cons_self ..))
    rw [h, str_app, str_app, tick_cps]
    simp
  | x :: x2 :: r, [y], _, _, _, hy, h => by
    rw [join1, join2] at h
    refine absurd ?_ (hy y (List.mem_cons_self ..))
    rw [← h, str_app, str_app, tick_cps]
    simp
  | x :: x2 :: r, y :: y2 :: s, _, _, hx, hy, h => by
    rw [join2, join2] at h
    have h' := congrArg (fun z : Str => z.cps.toList) h
    simp only [str_app, tick_cps, List.append_assoc, List.cons_append, List.nil_append] at h'
    obtain ⟨e1, e2⟩ := cut_same _ _ _ _ (hx x (List.mem_cons_self ..)) (hy y (List.mem_cons_self ..)) h'
    have e3 := join_inj (x2 :: r) (y2 :: s) (by simp) (by simp) (fun z hz => hx z (List.mem_cons_of_mem _ hz)) (fun z hz => hy z (List.mem_cons_of_mem _ hz)) (str_ext e2)
    rw [str_ext e1, e3]
theorem split_join (xs : List Str) (h0 : xs ≠ []) (hf : ∀ x ∈ xs, free x) : Txt.split (Str.join tick xs) tick = xs := by
  have hs := StrLaws.split_free (Str.join tick xs) 39
  refine join_inj _ _ ?_ h0 (fun x hx => hs x hx) hf (StrLaws.join_split _ _)
  intro z
  have := PyProof.Rows.split_pos (Str.join tick xs) tick
  rw [z] at this
  simp at this
theorem join_snoc : ∀ (xs : List Str) (t : Str), xs ≠ [] → Str.join tick (xs ++ [t]) = Str.join tick xs ++ tick ++ t
  | [], _, h => absurd rfl h
  | [x], t, _ => by show Str.join tick [x, t] = _; rw [join2, join1, join1]
  | x :: y :: r, t, _ => by
    show Str.join tick (x :: y :: (r ++ [t])) = _
    have ih := join_snoc (y :: r) t (by simp)
    rw [join2, join2]
    have e : y :: (r ++ [t]) = (y :: r) ++ [t] := rfl
    rw [e, ih]
    apply str_ext
    simp only [str_app, List.append_assoc]
/-- the last tick -/
theorem rindex_snoc (a t : Str) (ht : free t) : lastOccurrence (a ++ tick ++ t) tick 0 (a ++ tick ++ t).length = some a.length := by
  have at_ : ∀ i, StrLaws.At (a ++ tick ++ t) tick (a ++ tick ++ t).length i ↔ (a ++ tick ++ t).cps.toList[i]? = some 39 := fun i => StrLaws.subAt_one _ 39 i
  have la : a.cps.toList.length = a.length := by simp [Str.length]
  have here : (a ++ tick ++ t).cps.toList[a.length]? = some 39 := by
    rw [str_app, str_app, tick_cps, List.append_assoc, ← la]
    simp
  rcases StrLaws.last_spec (a ++ tick ++ t) tick with ⟨_, h⟩ | ⟨i, h1, h2, h3⟩
  · exact absurd ((at_ _).mpr here) (h _)
  · rw [h1]
    have hi : ¬ i < a.length := fun z => h3 _ z ((at_ _).mpr here)
    have h4 := (at_ i).mp h2
    by_cases hlt : a.length < i
    · exfalso
      rw [str_app, str_app, tick_cps, List.append_assoc, List.getElem?_append_right (by omega)] at h4
      obtain ⟨j, rfl⟩ : ∃ j, i = a.length + 1 + j := ⟨i - a.length - 1, by omega⟩
      have e : a.length + 1 + j - a.cps.toList.length = j + 1 := by omega
      rw [e] at h4
      have : t.cps.toList[j]? = some 39 := by simpa using h4
      exact ht (List.mem_of_getElem? this)
    · have : i = a.length := by omega
      rw [this]
theorem in_sign (c : Nat) (z : Str) : oIn (.str ⟨#[c]⟩) (.str z) = some (.bool (decide (c ∈ z.cps.toList))) := by
  show some (PyData.bool (inStr ⟨#[c]⟩ z)) = _
  unfold inStr
  rw [StrLaws.found_one]
theorem notin_sign (c : Nat) (z : Str) : oNotIn (.str ⟨#[c]⟩) (.str z) = some (.bool (!decide (c ∈ z.cps.toList))) := by
  unfold oNotIn
  rw [in_sign]
  rfl
end DL
/-! text DLName -/
namespace DL
open PySem PySem.Builtin.Str
def lowT : Str := ⟨#[97,98,99,100,101,102,103,104,105,106,107,108,109,110,111,112,113,114,115,116,117,118,119,120,121,122]⟩
/-- a written name: a capital, then at most seven small letters and figures -/
def sign2 (x : Nat) : Prop := (97 ≤ x ∧ x ≤ 122) ∨ (48 ≤ x ∧ x ≤ 57)
def wname (s : Str) : Prop := ∃ c r, s.cps.toList = c :: r ∧ 65 ≤ c ∧ c ≤ 90 ∧ (∀ x ∈ r, sign2 x) ∧ r.length ≤ 7
theorem wname_free {s : Str} (h : wname s) : free s := by
  obtain ⟨c, r, e, h1, h2, h3, _⟩ := h
  unfold free
  rw [e]
  intro z
  rcases List.mem_cons.mp z with z | z
  · omega
  · have := h3 _ z
    unfold sign2 at this
    omega
theorem wname_len {s : Str} (h : wname s) : 1 ≤ s.length ∧ s.length ≤ 8 := by
  obtain ⟨c, r, e, _, _, _, h4⟩ := h
  have : s.length = s.cps.toList.length := by simp [Str.length]
  rw [this, e]
  simp
  omega
theorem wname_ne {s : Str} (h : wname s) : s ≠ "" := fun z => by
  have := (wname_len h).1
  rw [z] at this
  exact absurd this (by decide)
def tailOk (t : Str) : Prop := t = "" ∨ wname t
theorem tail_free {t : Str} (h : tailOk t) : free t := by
  rcases h with rfl | h
  · intro z; exact absurd z (by decide)
  · exact wname_free h
theorem tail_len {t : Str} (h : tailOk t) : t.length ≤ 8 := by
  rcases h with rfl | h
  · decide
  · exact (wname_len h).2
/-- a name made of its pieces; j: at most so many tails -/
def nmOk (j : Nat) (n : Str) : Prop := ∃ b ts, n = Str.join tick (b :: ts) ∧ wname b ∧ (∀ t ∈ ts, tailOk t) ∧ ts.length ≤ j
theorem nmOk_len {j : Nat} {n : Str} (h : nmOk j n) : 1 ≤ n.length ∧ n.length ≤ 8 + 9 * j := by
  obtain ⟨b, ts, rfl, hb, ht, hl⟩ := h
  have hb2 := wname_len hb
  clear hb
  induction ts generalizing b j with
  | nil => rw [join1]; omega
  | cons t ts ih =>
    rw [join2, str_len_append, str_len_append, len1]
    simp only [List.length_cons] at hl
    have : (Str.join tick (t :: ts)).length ≤ 8 + 9 * (j - 1) := by
      have hts := ht t (List.mem_cons_self ..)
      cases ts with
      | nil => rw [join1]; have := tail_len hts; omega
      | cons t2 ts2 =>
        -- the pieces behind
        have gen : ∀ (us : List Str) (u : Str), u.length ≤ 8 → (∀ t ∈ us, tailOk t) → (Str.join tick (u :: us)).length ≤ 8 + 9 * us.length := by
          intro us
          induction us with
          | nil => intro u hu _; rw [join1]; simp; exact hu
          | cons w ws ihw =>
            intro u hu hw
            rw [join2, str_len_append, str_len_append, len1]
            have := ihw w (tail_len (hw w (List.mem_cons_self ..))) fun z hz => hw z (List.mem_cons_of_mem _ hz)
            simp only [List.length_cons]
            omega
        have := gen (t2 :: ts2) t (tail_len hts) fun z hz => ht z (List.mem_cons_of_mem _ hz)
        simp only [List.length_cons] at this hl ⊢
        omega
    omega
theorem nmOk_mono {j k : Nat} {n : Str} (h : nmOk j n) (hk : j ≤ k) : nmOk k n :=
  let ⟨b, ts, e, a, c, d⟩ := h; ⟨b, ts, e, a, c, Nat.le_trans d hk⟩
theorem nmOk_by {j : Nat} {n t : Str} (h : nmOk j n) (ht : tailOk t) : nmOk (j + 1) (n ++ tick ++ t) := by
  obtain ⟨b, ts, rfl, hb, hts, hl⟩ := h
  refine ⟨b, ts ++ [t], ?_, hb, fun x hx => ?_, by simp; exact hl⟩
  · rw [← List.cons_append, join_snoc _ _ (by simp)]
  · rcases List.mem_append.mp hx with h | h
    · exact hts x h
    · simp at h; subst h; exact ht
theorem nmOk_split {j : Nat} {n : Str} (h : nmOk j n) : ∃ b ts, Txt.split n tick = b :: ts ∧ wname b ∧ ∀ t ∈ ts, tailOk t := by
  obtain ⟨b, ts, rfl, hb, hts, _⟩ := h
  refine ⟨b, ts, split_join _ (by simp) fun x hx => ?_, hb, hts⟩
  rcases List.mem_cons.mp hx with rfl | hx
  · exact wname_free hb
  · exact tail_free (hts x hx)
/-! ### indices and slices of texts -/
theorem ix_s0 {z : Str} {c : Nat} {r : List Nat} (e : z.cps.toList = c :: r) (h : z.length ≤ 10000000) : oIx (.str z) (.int 0) = some (.str ⟨#[c]⟩) := by
  show (if z.length ≤ lim then (L2.atI z.cps.toList 0).map fun c => PyData.str ⟨#[c]⟩ else none) = _
  rw [if_pos (lim_of h), e, show L2.atI (c :: r) 0 = some c from L2.atI_nat (j := 0) rfl]
  rfl
theorem sl_s1 {z : Str} {c : Nat} {r : List Nat} (e : z.cps.toList = c :: r) (h : z.length ≤ 10000000) : oSl (.str z) (some 1) none = some (.str ⟨r.toArray⟩) := by
  show (if z.length ≤ lim then some (PyData.str (L2.cutS z (some 1) none)) else none) = _
  rw [if_pos (lim_of h)]
  have hl : z.length = r.length + 1 := by
    have : z.length = z.cps.toList.length := by simp [Str.length]
    rw [this, e]; rfl
  have : L2.cutS z (some 1) none = ⟨r.toArray⟩ := by
    unfold L2.cutS
    rw [show HT.sIx z.length 0 (some 1) = min 1 z.length from HT.sIx_nat z.length 0 1, HT.sIx_none, e, hl]
    have e1 : min 1 (r.length + 1) = 1 := by omega
    rw [e1]
    simp
  rw [this]
theorem lenOf_s {z : Str} (h : z.length ≤ 10000000) : oLen (.str z) = some (.int (z.length : Nat)) := by
  show ((if z.length ≤ lim then some z.length else none).map fun n => PyData.int n) = _
  rw [if_pos (lim_of h)]
  rfl
/-! ### comprehensions -/
/-- each turn keeps or leaves its item -/
theorem lc_go {g : WG} {tt : WT} {te : WE} {env : Env} {Q : List PyData → Store → Prop} {st : Store} (p : DV → Bool) (f : DV → PyData) : ∀ (xs : List DV) (acc : List PyData),
    (∀ x ∈ xs, ∀ (K1 : PyData → Store → Prop) (K2 : Store → Prop), (if p x = true then K1 (f x) st else K2 st) →
      g x env st fun env1 st1 => tt env1 st1 fun b st2 => if b = true then te env1 st2 fun r st3 => (match r with | .d y => K1 y st3 | _ => False) else K2 st2) →
    Q (acc ++ (xs.filter p).map f) st → lcGo g tt te env Q xs acc st
  | [], acc, _, q => by
    show Q acc st
    simpa using q
  | x :: xs, acc, h, q => by
    have h1 := h x (List.mem_cons_self ..) (fun y st3 => lcGo g tt te env Q xs (acc ++ [y]) st3) (fun st2 => lcGo g tt te env Q xs acc st2)
    refine h1 ?_
    by_cases hp : p x = true
    · rw [if_pos hp]
      refine lc_go p f xs _ (fun y hy => h y (List.mem_cons_of_mem _ hy)) ?_
      rw [List.filter_cons_of_pos hp] at q
      simpa using q
    · rw [if_neg hp]
      refine lc_go p f xs _ (fun y hy => h y (List.mem_cons_of_mem _ hy)) ?_
      rw [List.filter_cons_of_neg hp] at q
      exact q
theorem all_true {α : Type} (xs : List α) : oAll (.list (xs.map fun _ => PyData.bool true)) = some (.bool true) := by
  have h : boolsOf (xs.map fun _ => PyData.bool true) = some (xs.map fun _ => true) := by
    induction xs with
    | nil => rfl
    | cons x xs ih => rw [List.map_cons, boolsOf, ih]; rfl
  show ((boolsOf (xs.map fun _ => PyData.bool true)).map fun bs => PyData.bool (bs.all _root_.id)) = _
  rw [h]
  simp
theorem filter_all {α : Type} (xs : List α) : xs.filter (fun _ => true) = xs := by simp
end DL
/-! text K20P3 -/
namespace DL.K20
open PySem DL
def pWN (xs : List PyData) (y : PyData) : Prop := ∃ s, xs = [.str s] ∧ wname s ∧ y = .bool true
theorem caps_mem (c : Nat) (h1 : 65 ≤ c) (h2 : c ≤ 90) : c ∈ ("ABCDEFGHIJKLMNOPQRSTUVWXYZ" : Str).cps.toList := by
  have : ∀ n : Nat, n ≤ 25 → (65 + n) ∈ ("ABCDEFGHIJKLMNOPQRSTUVWXYZ" : Str).cps.toList := by
    intro n hn
    match n, hn with
    | 0, _ | 1, _ | 2, _ | 3, _ | 4, _ | 5, _ | 6, _ | 7, _ | 8, _ | 9, _ | 10, _ | 11, _ | 12, _ | 13, _ | 14, _ | 15, _ | 16, _ | 17, _ | 18, _ | 19, _ | 20, _ | 21, _ | 22, _ | 23, _ | 24, _ | 25, _ => decide
    | n + 26, h => omega
  have := this (c - 65) (by omega)
  rwa [show 65 + (c - 65) = c by omega] at this
theorem low_mem (c : Nat) (h : sign2 c) : c ∈ (("abcdefghijklmnopqrstuvwxyz" : Str) ++ ("0123456789" : Str)).cps.toList := by
  rw [str_app]
  rcases h with ⟨h1, h2⟩ | ⟨h1, h2⟩
  · refine List.mem_append_left _ ?_
    have : ∀ n : Nat, n ≤ 25 → (97 + n) ∈ ("abcdefghijklmnopqrstuvwxyz" : Str).cps.toList := by
      intro n hn
      match n, hn with
      | 0, _ | 1, _ | 2, _ | 3, _ | 4, _ | 5, _ | 6, _ | 7, _ | 8, _ | 9, _ | 10, _ | 11, _ | 12, _ | 13, _ | 14, _ | 15, _ | 16, _ | 17, _ | 18, _ | 19, _ | 20, _ | 21, _ | 22, _ | 23, _ | 24, _ | 25, _ => decide
      | n + 26, h => omega
    have := this (c - 97) (by omega)
    rwa [show 97 + (c - 97) = c by omega] at this
  · refine List.mem_append_right _ ?_
    have : ∀ n : Nat, n ≤ 9 → (48 + n) ∈ ("0123456789" : Str).cps.toList := by
      intro n hn
      match n, hn with
      | 0, _ | 1, _ | 2, _ | 3, _ | 4, _ | 5, _ | 6, _ | 7, _ | 8, _ | 9, _ => decide
      | n + 10, h => omega
    have := this (c - 48) (by omega)
    rwa [show 48 + (c - 48) = c by omega] at this
theorem oLe_ii (i j : Int) : oLe (.int i) (.int j) = some (.bool (decide (i ≤ j))) := rfl
theorem oLt_ii (i j : Int) : oLt (.int i) (.int j) = some (.bool (decide (i < j))) := rfl
theorem oGt_ii (i j : Int) : oGt (.int i) (.int j) = some (.bool (decide (j < i))) := rfl
theorem oGe_ii (i j : Int) : oGe (.int i) (.int j) = some (.bool (decide (j ≤ i))) := rfl
theorem keeps_is_written_name : Keeps 2 (spF pWN) b_is_written_name := by
  rintro args st Q E ⟨xs, y, rfl, ⟨s, rfl, hs, rfl⟩, q⟩
  obtain ⟨hl1, hl2⟩ := wname_len hs
  obtain ⟨c, r, e, h1, h2, h3, h4⟩ := hs
  have d1 : decide ((1 : Int) ≤ (s.length : Nat)) = true := decide_eq_true (by omega)
  have d2 : decide (((s.length : Nat) : Int) ≤ 8) = true := decide_eq_true (by omega)
  simp only [b_is_written_name, wSeq, wIf, wRet, wRetN, wAsg, wExpr, wSkip, wBrk, wCnt, wVar, wC, wBin, wUn, wIfE, wT, wTr, wNot, wAnd, wOr, wAndV, wOrV, wChain, wBinS, wUnS, wOpN, wTup, wLst, wCons, wNil, wCall, wMs, wPar, wPar3, gN, gTupN, gCons, gNil, isD, isSt, isDc, optK_some, rd_d, rdS_d, frs_nil, frs_d, rds_nil, rds_d, on1, on2, asB_b, set0, setS, get0, getS, startE, List.map_cons, List.map_nil, List.length_cons, List.length_nil, List.replicate, List.cons_append, List.nil_append, List.append_nil, Option.map_some, Option.map_none, Option.bind_some, oEq_ss, oNe_ss, oEq_ii, oNe_ii, oAdd_ii, oSub_ii, ix_0, ix_1, ix_2, ix_k0, ix_n1, ix_p1, ix_p2, ix_e1, ix_e2, hd1, hd2, hd3, hd4, hd5, hd6, fin_rt, fin_nx, ret_d, if_true, if_false, Bool.false_eq_true, Bool.true_eq_false, Bool.not_true, Bool.not_false, beq_self_eq_true, decide_true, decide_false, true_and, and_true, lit0, lit1, lit2, lit3, lit4, lit5, lit6, lit7, lit8, lit9, lit10, wYes, lenOf_s (z := s) (by omega), oLe_ii, d1, d2, g_MOST_SIGNS, ix_s0 e (by omega), notin_sign, g_CAPITALS, decide_eq_true (caps_mem c h1 h2), wSl, wOS, wON, asI, sl_s1 e (by omega), wLc, iStrD, wYes, wipeE, g_SMALL, g_FIGURES]
  refine ⟨?_, ?_⟩
  · show r.toArray.size ≤ lim
    rw [List.size_toArray]
    exact lim_of (by omega)
  refine lc_go (fun _ => true) (fun _ => .bool true) _ [] (fun x hx K1 K2 hk => ?_) ?_
  · obtain ⟨d, hd, rfl⟩ := List.mem_map.mp hx
    have hd' : d ∈ r := by simpa using hd
    have hl3 : (("abcdefghijklmnopqrstuvwxyz" : Str)).length + ("0123456789" : Str).length ≤ lim := by decide
    simp only [wSeq, wIf, wRet, wRetN, wAsg, wExpr, wSkip, wBrk, wCnt, wVar, wC, wBin, wUn, wIfE, wT, wTr, wNot, wAnd, wOr, wAndV, wOrV, wChain, wBinS, wUnS, wOpN, wTup, wLst, wCons, wNil, wCall, wMs, wPar, wPar3, gN, gTupN, gCons, gNil, isD, isSt, isDc, optK_some, rd_d, rdS_d, frs_nil, frs_d, rds_nil, rds_d, on1, on2, asB_b, set0, setS, get0, getS, startE, List.map_cons, List.map_nil, List.length_cons, List.length_nil, List.replicate, List.cons_append, List.nil_append, List.append_nil, Option.map_some, Option.map_none, Option.bind_some, oEq_ss, oNe_ss, oEq_ii, oNe_ii, oAdd_ii, oSub_ii, ix_0, ix_1, ix_2, ix_k0, ix_n1, ix_p1, ix_p2, ix_e1, ix_e2, hd1, hd2, hd3, hd4, hd5, hd6, fin_rt, fin_nx, ret_d, if_true, if_false, Bool.false_eq_true, Bool.true_eq_false, Bool.not_true, Bool.not_false, beq_self_eq_true, decide_true, decide_false, true_and, and_true, lit0, lit1, lit2, lit3, lit4, lit5, lit6, lit7, lit8, lit9, lit10, wYes, oAdd_ss hl3, in_sign, decide_eq_true (low_mem d (h3 d hd'))]
    simpa using hk
  · simp only [filter_all, List.nil_append, wSeq, wIf, wRet, wRetN, wAsg, wExpr, wSkip, wBrk, wCnt, wVar, wC, wBin, wUn, wIfE, wT, wTr, wNot, wAnd, wOr, wAndV, wOrV, wChain, wBinS, wUnS, wOpN, wTup, wLst, wCons, wNil, wCall, wMs, wPar, wPar3, gN, gTupN, gCons, gNil, isD, isSt, isDc, optK_some, rd_d, rdS_d, frs_nil, frs_d, rds_nil, rds_d, on1, on2, asB_b, set0, setS, get0, getS, startE, List.map_cons, List.map_nil, List.length_cons, List.length_nil, List.replicate, List.cons_append, List.nil_append, List.append_nil, Option.map_some, Option.map_none, Option.bind_some, oEq_ss, oNe_ss, oEq_ii, oNe_ii, oAdd_ii, oSub_ii, ix_0, ix_1, ix_2, ix_k0, ix_n1, ix_p1, ix_p2, ix_e1, ix_e2, hd1, hd2, hd3, hd4, hd5, hd6, fin_rt, fin_nx, ret_d, if_true, if_false, Bool.false_eq_true, Bool.true_eq_false, Bool.not_true, Bool.not_false, beq_self_eq_true, decide_true, decide_false, true_and, and_true, lit0, lit1, lit2, lit3, lit4, lit5, lit6, lit7, lit8, lit9, lit10, wYes, all_true]
    exact q
def pNm (xs : List PyData) (y : PyData) : Prop := ∃ s, xs = [.str s] ∧ nmOk 5 s ∧ y = .bool true
theorem keeps_is_named : Keeps 3 (spF pNm) (b_is_named (spF pWN)) := by
  rintro args st Q E ⟨xs, y, rfl, ⟨s, rfl, hs, rfl⟩, q⟩
  obtain ⟨hl1, hl2⟩ := nmOk_len hs
  obtain ⟨b, ts, e, hb, ht⟩ := nmOk_split hs
  have d1 : decide ((60 : Int) < (s.length : Nat)) = false := decide_eq_false (by omega)
  have hsp : oSplit s (.str tick) = some (.list ((b :: ts).map .str)) := by
    show (if (tick.length == 0) = false ∧ s.length + 2 ≤ lim then some (PyData.list ((Txt.split s tick).map .str)) else none) = _
    rw [if_pos ⟨rfl, lim_of (by omega)⟩, e]
  have hlt : ts.length ≤ 5 := by
    obtain ⟨b2, ts2, rfl, hb2, ht2, hl⟩ := hs
    have := split_join (b2 :: ts2) (by simp) (fun x hx => by
      rcases List.mem_cons.mp hx with rfl | hx
      · exact wname_free hb2
      · exact tail_free (ht2 x hx))
    rw [this] at e
    cases e
    exact hl
  simp only [b_is_named, wSeq, wIf, wRet, wRetN, wAsg, wExpr, wSkip, wBrk, wCnt, wVar, wC, wBin, wUn, wIfE, wT, wTr, wNot, wAnd, wOr, wAndV, wOrV, wChain, wBinS, wUnS, wOpN, wTup, wLst, wCons, wNil, wCall, wMs, wPar, wPar3, gN, gTupN, gCons, gNil, isD, isSt, isDc, optK_some, rd_d, rdS_d, frs_nil, frs_d, rds_nil, rds_d, on1, on2, asB_b, set0, setS, get0, getS, startE, List.map_cons, List.map_nil, List.length_cons, List.length_nil, List.replicate, List.cons_append, List.nil_append, List.append_nil, Option.map_some, Option.map_none, Option.bind_some, oEq_ss, oNe_ss, oEq_ii, oNe_ii, oAdd_ii, oSub_ii, ix_0, ix_1, ix_2, ix_k0, ix_n1, ix_p1, ix_p2, ix_e1, ix_e2, hd1, hd2, hd3, hd4, hd5, hd6, fin_rt, fin_nx, ret_d, if_true, if_false, Bool.false_eq_true, Bool.true_eq_false, Bool.not_true, Bool.not_false, beq_self_eq_true, decide_true, decide_false, true_and, and_true, lit0, lit1, lit2, lit3, lit4, lit5, lit6, lit7, lit8, lit9, lit10, wYes, show oIs "str" (.str s) = some (.bool true) from rfl, lenOf_s (z := s) (by omega), oGt_ii, g_MOST_NAME, d1]
  rw [show (PyData.str "'") = PyData.str tick from rfl, hsp]
  simp only [wSeq, wIf, wRet, wRetN, wAsg, wExpr, wSkip, wBrk, wCnt, wVar, wC, wBin, wUn, wIfE, wT, wTr, wNot, wAnd, wOr, wAndV, wOrV, wChain, wBinS, wUnS, wOpN, wTup, wLst, wCons, wNil, wCall, wMs, wPar, wPar3, gN, gTupN, gCons, gNil, isD, isSt, isDc, optK_some, rd_d, rdS_d, frs_nil, frs_d, rds_nil, rds_d, on1, on2, asB_b, set0, setS, get0, getS, startE, List.map_cons, List.map_nil, List.length_cons, List.length_nil, List.replicate, List.cons_append, List.nil_append, List.append_nil, Option.map_some, Option.map_none, Option.bind_some, oEq_ss, oNe_ss, oEq_ii, oNe_ii, oAdd_ii, oSub_ii, ix_0, ix_1, ix_2, ix_k0, ix_n1, ix_p1, ix_p2, ix_e1, ix_e2, hd1, hd2, hd3, hd4, hd5, hd6, fin_rt, fin_nx, ret_d, if_true, if_false, Bool.false_eq_true, Bool.true_eq_false, Bool.not_true, Bool.not_false, beq_self_eq_true, decide_true, decide_false, true_and, and_true, lit0, lit1, lit2, lit3, lit4, lit5, lit6, lit7, lit8, lit9, lit10, wYes]
  have h0 : oIx (.list (PyData.str b :: ts.map .str)) (.int 0) = some (.str b) := L2.atI_nat (j := 0) rfl
  simp only [h0, wSeq, wIf, wRet, wRetN, wAsg, wExpr, wSkip, wBrk, wCnt, wVar, wC, wBin, wUn, wIfE, wT, wTr, wNot, wAnd, wOr, wAndV, wOrV, wChain, wBinS, wUnS, wOpN, wTup, wLst, wCons, wNil, wCall, wMs, wPar, wPar3, gN, gTupN, gCons, gNil, isD, isSt, isDc, optK_some, rd_d, rdS_d, frs_nil, frs_d, rds_nil, rds_d, on1, on2, asB_b, set0, setS, get0, getS, startE, List.map_cons, List.map_nil, List.length_cons, List.length_nil, List.replicate, List.cons_append, List.nil_append, List.append_nil, Option.map_some, Option.map_none, Option.bind_some, oEq_ss, oNe_ss, oEq_ii, oNe_ii, oAdd_ii, oSub_ii, ix_0, ix_1, ix_2, ix_k0, ix_n1, ix_p1, ix_p2, ix_e1, ix_e2, hd1, hd2, hd3, hd4, hd5, hd6, fin_rt, fin_nx, ret_d, if_true, if_false, Bool.false_eq_true, Bool.true_eq_false, Bool.not_true, Bool.not_false, beq_self_eq_true, decide_true, decide_false, true_and, and_true, lit0, lit1, lit2, lit3, lit4, lit5, lit6, lit7, lit8, lit9, lit10, wYes]
  refine spF_go (xs := [.str b]) ⟨b, rfl, hb, rfl⟩ ?_
  have hsl : oSl (.list (PyData.str b :: ts.map .str)) (some 1) none = some (.list (ts.map .str)) := by
    show some (PyData.list (cutG (PyData.str b :: ts.map .str) (some 1) none)) = _
    have : cutG (PyData.str b :: ts.map .str) (some 1) none = ts.map .str := by
      unfold cutG
      rw [show HT.sIx (PyData.str b :: ts.map .str).length 0 (some 1) = min 1 (PyData.str b :: ts.map .str).length from HT.sIx_nat _ 0 1, HT.sIx_none]
      simp only [List.length_cons, List.length_map]
      rw [show min 1 (ts.length + 1) = 1 by omega, List.drop_succ_cons, List.drop_zero]
      exact List.take_of_length_le (by simp)
    rw [this]
  simp only [wSeq, wIf, wRet, wRetN, wAsg, wExpr, wSkip, wBrk, wCnt, wVar, wC, wBin, wUn, wIfE, wT, wTr, wNot, wAnd, wOr, wAndV, wOrV, wChain, wBinS, wUnS, wOpN, wTup, wLst, wCons, wNil, wCall, wMs, wPar, wPar3, gN, gTupN, gCons, gNil, isD, isSt, isDc, optK_some, rd_d, rdS_d, frs_nil, frs_d, rds_nil, rds_d, on1, on2, asB_b, set0, setS, get0, getS, startE, List.map_cons, List.map_nil, List.length_cons, List.length_nil, List.replicate, List.cons_append, List.nil_append, List.append_nil, Option.map_some, Option.map_none, Option.bind_some, oEq_ss, oNe_ss, oEq_ii, oNe_ii, oAdd_ii, oSub_ii, ix_0, ix_1, ix_2, ix_k0, ix_n1, ix_p1, ix_p2, ix_e1, ix_e2, hd1, hd2, hd3, hd4, hd5, hd6, fin_rt, fin_nx, ret_d, if_true, if_false, Bool.false_eq_true, Bool.true_eq_false, Bool.not_true, Bool.not_false, beq_self_eq_true, decide_true, decide_false, true_and, and_true, lit0, lit1, lit2, lit3, lit4, lit5, lit6, lit7, lit8, lit9, lit10, wYes, wSl, wOS, wON, asI, hsl, wLc, iSeq, itemsOf, wipeE]
  refine lc_go (fun _ => true) (fun _ => .bool true) _ [] (fun x hx K1 K2 hk => ?_) ?_
  · obtain ⟨d, hd, rfl⟩ := List.mem_map.mp hx
    obtain ⟨t, ht', rfl⟩ := List.mem_map.mp hd
    have hk' : K1 (.bool true) st := by simpa using hk
    by_cases hte : t = ""
    · subst hte
      simp only [wSeq, wIf, wRet, wRetN, wAsg, wExpr, wSkip, wBrk, wCnt, wVar, wC, wBin, wUn, wIfE, wT, wTr, wNot, wAnd, wOr, wAndV, wOrV, wChain, wBinS, wUnS, wOpN, wTup, wLst, wCons, wNil, wCall, wMs, wPar, wPar3, gN, gTupN, gCons, gNil, isD, isSt, isDc, optK_some, rd_d, rdS_d, frs_nil, frs_d, rds_nil, rds_d, on1, on2, asB_b, set0, setS, get0, getS, startE, List.map_cons, List.map_nil, List.length_cons, List.length_nil, List.replicate, List.cons_append, List.nil_append, List.append_nil, Option.map_some, Option.map_none, Option.bind_some, oEq_ss, oNe_ss, oEq_ii, oNe_ii, oAdd_ii, oSub_ii, ix_0, ix_1, ix_2, ix_k0, ix_n1, ix_p1, ix_p2, ix_e1, ix_e2, hd1, hd2, hd3, hd4, hd5, hd6, fin_rt, fin_nx, ret_d, if_true, if_false, Bool.false_eq_true, Bool.true_eq_false, Bool.not_true, Bool.not_false, beq_self_eq_true, decide_true, decide_false, true_and, and_true, lit0, lit1, lit2, lit3, lit4, lit5, lit6, lit7, lit8, lit9, lit10, wYes]
      exact hk'
    · have hne : (t == ("" : Str)) = false := by simpa using hte
      simp only [wSeq, wIf, wRet, wRetN, wAsg, wExpr, wSkip, wBrk, wCnt, wVar, wC, wBin, wUn, wIfE, wT, wTr, wNot, wAnd, wOr, wAndV, wOrV, wChain, wBinS, wUnS, wOpN, wTup, wLst, wCons, wNil, wCall, wMs, wPar, wPar3, gN, gTupN, gCons, gNil, isD, isSt, isDc, optK_some, rd_d, rdS_d, frs_nil, frs_d, rds_nil, rds_d, on1, on2, asB_b, set0, setS, get0, getS, startE, List.map_cons, List.map_nil, List.length_cons, List.length_nil, List.replicate, List.cons_append, List.nil_append, List.append_nil, Option.map_some, Option.map_none, Option.bind_some, oEq_ss, oNe_ss, oEq_ii, oNe_ii, oAdd_ii, oSub_ii, ix_0, ix_1, ix_2, ix_k0, ix_n1, ix_p1, ix_p2, ix_e1, ix_e2, hd1, hd2, hd3, hd4, hd5, hd6, fin_rt, fin_nx, ret_d, if_true, if_false, Bool.false_eq_true, Bool.true_eq_false, Bool.not_true, Bool.not_false, beq_self_eq_true, decide_true, decide_false, true_and, and_true, lit0, lit1, lit2, lit3, lit4, lit5, lit6, lit7, lit8, lit9, lit10, wYes, hne]
      refine spF_go (xs := [.str t]) ⟨t, rfl, (ht t ht').resolve_left hte, rfl⟩ ?_
      simp only [wSeq, wIf, wRet, wRetN, wAsg, wExpr, wSkip, wBrk, wCnt, wVar, wC, wBin, wUn, wIfE, wT, wTr, wNot, wAnd, wOr, wAndV, wOrV, wChain, wBinS, wUnS, wOpN, wTup, wLst, wCons, wNil, wCall, wMs, wPar, wPar3, gN, gTupN, gCons, gNil, isD, isSt, isDc, optK_some, rd_d, rdS_d, frs_nil, frs_d, rds_nil, rds_d, on1, on2, asB_b, set0, setS, get0, getS, startE, List.map_cons, List.map_nil, List.length_cons, List.length_nil, List.replicate, List.cons_append, List.nil_append, List.append_nil, Option.map_some, Option.map_none, Option.bind_some, oEq_ss, oNe_ss, oEq_ii, oNe_ii, oAdd_ii, oSub_ii, ix_0, ix_1, ix_2, ix_k0, ix_n1, ix_p1, ix_p2, ix_e1, ix_e2, hd1, hd2, hd3, hd4, hd5, hd6, fin_rt, fin_nx, ret_d, if_true, if_false, Bool.false_eq_true, Bool.true_eq_false, Bool.not_true, Bool.not_false, beq_self_eq_true, decide_true, decide_false, true_and, and_true, lit0, lit1, lit2, lit3, lit4, lit5, lit6, lit7, lit8, lit9, lit10, wYes]
      exact hk'
  · simp only [filter_all, List.nil_append, wSeq, wIf, wRet, wRetN, wAsg, wExpr, wSkip, wBrk, wCnt, wVar, wC, wBin, wUn, wIfE, wT, wTr, wNot, wAnd, wOr, wAndV, wOrV, wChain, wBinS, wUnS, wOpN, wTup, wLst, wCons, wNil, wCall, wMs, wPar, wPar3, gN, gTupN, gCons, gNil, isD, isSt, isDc, optK_some, rd_d, rdS_d, frs_nil, frs_d, rds_nil, rds_d, on1, on2, asB_b, set0, setS, get0, getS, startE, List.map_cons, List.map_nil, List.length_cons, List.length_nil, List.replicate, List.cons_append, List.nil_append, List.append_nil, Option.map_some, Option.map_none, Option.bind_some, oEq_ss, oNe_ss, oEq_ii, oNe_ii, oAdd_ii, oSub_ii, ix_0, ix_1, ix_2, ix_k0, ix_n1, ix_p1, ix_p2, ix_e1, ix_e2, hd1, hd2, hd3, hd4, hd5, hd6, fin_rt, fin_nx, ret_d, if_true, if_false, Bool.false_eq_true, Bool.true_eq_false, Bool.not_true, Bool.not_false, beq_self_eq_true, decide_true, decide_false, true_and, and_true, lit0, lit1, lit2, lit3, lit4, lit5, lit6, lit7, lit8, lit9, lit10, wYes, all_true]
    exact q
end DL.K20
/-! text K20P4 -/
namespace DL.K20
open PySem DL
def subsK : Kd → List Kd
  | .pair a b => [a, b]
  | .either a b => [a, b]
  | _ => []
theorem subs_eq (k : Kd) : subs k = (subsK k).map Kd.enc := by cases k <;> rfl
theorem subs_dep {k x : Kd} (h : x ∈ subsK k) : x.dep + 1 ≤ k.dep ∧ (∀ n ∈ x.names, n ∈ k.names) ∧ x.parts + 1 ≤ k.parts := by
  cases k with
  | pair a b =>
    simp only [subsK, List.mem_cons, List.not_mem_nil, or_false] at h
    rcases h with rfl | rfl
    · exact ⟨by simp only [Kd.dep]; omega, fun n hn => List.mem_append_left _ hn, by simp only [Kd.parts]; omega⟩
    · exact ⟨by simp only [Kd.dep]; omega, fun n hn => List.mem_append_right _ hn, by simp only [Kd.parts]; omega⟩
  | either a b =>
    simp only [subsK, List.mem_cons, List.not_mem_nil, or_false] at h
    rcases h with rfl | rfl
    · exact ⟨by simp only [Kd.dep]; omega, fun n hn => List.mem_append_left _ hn, by simp only [Kd.parts]; omega⟩
    · exact ⟨by simp only [Kd.dep]; omega, fun n hn => List.mem_append_right _ hn, by simp only [Kd.parts]; omega⟩
  | thing => simp [subsK] at h
  | non => simp [subsK] at h
  | unit => simp [subsK] at h
  | name n => simp [subsK] at h
theorem isT (k : Kd) : oIs "tuple" k.enc = some (.bool true) := by cases k <;> rfl
theorem isS (s : Str) : oIs "str" (.str s) = some (.bool true) := rfl
theorem eq_empty (k : Kd) : oEq k.enc (.tuple []) = some (.bool false) := by
  have h : okEq k.enc (.tuple []) = true := by
    simp only [okEq, Kd.enc_plain, Kd.enc_depth, Bool.true_and]
    have : (PyData.tuple []).plain = true := by simp [PyData.plain, PyData.plainAll]
    rw [this]
    have : (PyData.tuple []).depth = 1 := by simp [PyData.depth, PyData.depthAll]
    rw [this]
    simp
    omega
  rw [oEq_of h]
  cases k <;> (simp only [Kd.enc]; rw [Kd.e_tt, PyData.eqvAll])
def lenK : Kd → Nat
  | .name _ => 2
  | .pair _ _ => 3
  | .either _ _ => 3
  | _ => 1
theorem len_k (k : Kd) : oLen k.enc = some (.int (lenK k : Nat)) := by cases k <;> rfl
theorem hasSize {k : Kd} (h : ∀ n, k ≠ .name n) : hasK k_KIND_SIZES (.str k.head) = true ∧ lookK k_KIND_SIZES (.str k.head) = some (.int ((lenK k : Nat) - 1 : Int)) := by
  cases k with
  | name n => exact absurd rfl (h n)
  | thing => exact ⟨by decide, rfl⟩
  | non => exact ⟨by decide, rfl⟩
  | unit => exact ⟨by decide, rfl⟩
  | pair a b => exact ⟨rfl, rfl⟩
  | either a b => exact ⟨rfl, rfl⟩
def pKF (l : Nat) (xs : List PyData) (y : PyData) : Prop := ∃ (k : Kd) (d : Nat), xs = [k.enc, .int d] ∧ k.dep ≤ l ∧ k.dep ≤ d ∧ (∀ n ∈ k.names, nmOk 5 n) ∧ y = .bool true
theorem keeps_is_kind_formed (l : Nat) : Keeps 3 (spF (pKF (l + 1))) (b_is_kind_formed (spF (pKF l)) (spF pNm)) := by
  rintro args st Q E ⟨xs, y, rfl, ⟨k, d, rfl, hk, hd, hn, rfl⟩, q⟩
  have hp := Kd.dep_pos k
  have z0 : (((d : Nat) : Int) == 0) = false := by
    have : ((d : Nat) : Int) ≠ 0 := by omega
    simpa using this
  by_cases hname : ∃ n, k = .name n
  · obtain ⟨n, rfl⟩ := hname
    simp only [b_is_kind_formed, wSeq, wIf, wRet, wRetN, wAsg, wExpr, wSkip, wBrk, wCnt, wVar, wC, wBin, wUn, wIfE, wT, wTr, wNot, wAnd, wOr, wAndV, wOrV, wChain, wBinS, wUnS, wOpN, wTup, wLst, wCons, wNil, wCall, wMs, wPar, wPar3, gN, gTupN, gCons, gNil, isD, isSt, isDc, optK_some, rd_d, rdS_d, frs_nil, frs_d, rds_nil, rds_d, on1, on2, asB_b, set0, setS, get0, getS, startE, List.map_cons, List.map_nil, List.length_cons, List.length_nil, List.replicate, List.cons_append, List.nil_append, List.append_nil, Option.map_some, Option.map_none, Option.bind_some, oEq_ss, oNe_ss, oEq_ii, oNe_ii, oAdd_ii, oSub_ii, ix_0, ix_1, ix_2, ix_k0, ix_n1, ix_p1, ix_p2, ix_e1, ix_e2, hd1, hd2, hd3, hd4, hd5, hd6, fin_rt, fin_nx, ret_d, if_true, if_false, Bool.false_eq_true, Bool.true_eq_false, Bool.not_true, Bool.not_false, beq_self_eq_true, decide_true, decide_false, true_and, and_true, lit0, lit1, lit2, lit3, lit4, lit5, lit6, lit7, lit8, lit9, lit10, wYes, z0, isT, isS, eq_empty, len_k, lenK]
    simp only [show (((2 : Nat) : Int) == 2) = true from rfl, wSeq, wIf, wRet, wRetN, wAsg, wExpr, wSkip, wBrk, wCnt, wVar, wC, wBin, wUn, wIfE, wT, wTr, wNot, wAnd, wOr, wAndV, wOrV, wChain, wBinS, wUnS, wOpN, wTup, wLst, wCons, wNil, wCall, wMs, wPar, wPar3, gN, gTupN, gCons, gNil, isD, isSt, isDc, optK_some, rd_d, rdS_d, frs_nil, frs_d, rds_nil, rds_d, on1, on2, asB_b, set0, setS, get0, getS, startE, List.map_cons, List.map_nil, List.length_cons, List.length_nil, List.replicate, List.cons_append, List.nil_append, List.append_nil, Option.map_some, Option.map_none, Option.bind_some, oEq_ss, oNe_ss, oEq_ii, oNe_ii, oAdd_ii, oSub_ii, ix_0, ix_1, ix_2, ix_k0, ix_n1, ix_p1, ix_p2, ix_e1, ix_e2, hd1, hd2, hd3, hd4, hd5, hd6, fin_rt, fin_nx, ret_d, if_true, if_false, Bool.false_eq_true, Bool.true_eq_false, Bool.not_true, Bool.not_false, beq_self_eq_true, decide_true, decide_false, true_and, and_true, lit0, lit1, lit2, lit3, lit4, lit5, lit6, lit7, lit8, lit9, lit10, wYes]
    refine spF_go (xs := [.str n]) ⟨n, rfl, hn n (by simp [Kd.names]), rfl⟩ ?_
    simp only [wSeq, wIf, wRet, wRetN, wAsg, wExpr, wSkip, wBrk, wCnt, wVar, wC, wBin, wUn, wIfE, wT, wTr, wNot, wAnd, wOr, wAndV, wOrV, wChain, wBinS, wUnS, wOpN, wTup, wLst, wCons, wNil, wCall, wMs, wPar, wPar3, gN, gTupN, gCons, gNil, isD, isSt, isDc, optK_some, rd_d, rdS_d, frs_nil, frs_d, rds_nil, rds_d, on1, on2, asB_b, set0, setS, get0, getS, startE, List.map_cons, List.map_nil, List.length_cons, List.length_nil, List.replicate, List.cons_append, List.nil_append, List.append_nil, Option.map_some, Option.map_none, Option.bind_some, oEq_ss, oNe_ss, oEq_ii, oNe_ii, oAdd_ii, oSub_ii, ix_0, ix_1, ix_2, ix_k0, ix_n1, ix_p1, ix_p2, ix_e1, ix_e2, hd1, hd2, hd3, hd4, hd5, hd6, fin_rt, fin_nx, ret_d, if_true, if_false, Bool.false_eq_true, Bool.true_eq_false, Bool.not_true, Bool.not_false, beq_self_eq_true, decide_true, decide_false, true_and, and_true, lit0, lit1, lit2, lit3, lit4, lit5, lit6, lit7, lit8, lit9, lit10, wYes]
    exact q
  · have hh := head_ne (k := k) fun n e => hname ⟨n, e⟩
    have hs := hasSize (k := k) fun n e => hname ⟨n, e⟩
    have e1 : ((lenK k : Nat) : Int) == 1 + (((lenK k : Nat) : Int) - 1) := by simp; omega
    have e1' : (((lenK k : Nat) : Int) == 1 + (((lenK k : Nat) : Int) - 1)) = true := e1
    simp only [b_is_kind_formed, wSeq, wIf, wRet, wRetN, wAsg, wExpr, wSkip, wBrk, wCnt, wVar, wC, wBin, wUn, wIfE, wT, wTr, wNot, wAnd, wOr, wAndV, wOrV, wChain, wBinS, wUnS, wOpN, wTup, wLst, wCons, wNil, wCall, wMs, wPar, wPar3, gN, gTupN, gCons, gNil, isD, isSt, isDc, optK_some, rd_d, rdS_d, frs_nil, frs_d, rds_nil, rds_d, on1, on2, asB_b, set0, setS, get0, getS, startE, List.map_cons, List.map_nil, List.length_cons, List.length_nil, List.replicate, List.cons_append, List.nil_append, List.append_nil, Option.map_some, Option.map_none, Option.bind_some, oEq_ss, oNe_ss, oEq_ii, oNe_ii, oAdd_ii, oSub_ii, ix_0, ix_1, ix_2, ix_k0, ix_n1, ix_p1, ix_p2, ix_e1, ix_e2, hd1, hd2, hd3, hd4, hd5, hd6, fin_rt, fin_nx, ret_d, if_true, if_false, Bool.false_eq_true, Bool.true_eq_false, Bool.not_true, Bool.not_false, beq_self_eq_true, decide_true, decide_false, true_and, and_true, lit0, lit1, lit2, lit3, lit4, lit5, lit6, lit7, lit8, lit9, lit10, wYes, z0, isT, isS, eq_empty, len_k, hh.1, wKIn, wKIx, hs.1, hs.2, e1', wSl, wOS, wON, asI, sl_k k hh.2, wLc, iSeq, itemsOf, wipeE, subs_eq]
    refine lc_go (fun _ => true) (fun _ => .bool true) _ [] (fun x hx K1 K2 hk1 => ?_) ?_
    · obtain ⟨d1, hd1, rfl⟩ := List.mem_map.mp hx
      obtain ⟨x, hx', rfl⟩ := List.mem_map.mp hd1
      obtain ⟨s1, s2, _⟩ := subs_dep hx'
      have hk' : K1 (.bool true) st := by simpa using hk1
      simp only [wSeq, wIf, wRet, wRetN, wAsg, wExpr, wSkip, wBrk, wCnt, wVar, wC, wBin, wUn, wIfE, wT, wTr, wNot, wAnd, wOr, wAndV, wOrV, wChain, wBinS, wUnS, wOpN, wTup, wLst, wCons, wNil, wCall, wMs, wPar, wPar3, gN, gTupN, gCons, gNil, isD, isSt, isDc, optK_some, rd_d, rdS_d, frs_nil, frs_d, rds_nil, rds_d, on1, on2, asB_b, set0, setS, get0, getS, startE, List.map_cons, List.map_nil, List.length_cons, List.length_nil, List.replicate, List.cons_append, List.nil_append, List.append_nil, Option.map_some, Option.map_none, Option.bind_some, oEq_ss, oNe_ss, oEq_ii, oNe_ii, oAdd_ii, oSub_ii, ix_0, ix_1, ix_2, ix_k0, ix_n1, ix_p1, ix_p2, ix_e1, ix_e2, hd1, hd2, hd3, hd4, hd5, hd6, fin_rt, fin_nx, ret_d, if_true, if_false, Bool.false_eq_true, Bool.true_eq_false, Bool.not_true, Bool.not_false, beq_self_eq_true, decide_true, decide_false, true_and, and_true, lit0, lit1, lit2, lit3, lit4, lit5, lit6, lit7, lit8, lit9, lit10, wYes]
      have ed : ((d : Nat) : Int) - 1 = ((d - 1 : Nat) : Int) := by omega
      rw [ed]
      refine spF_go (xs := [x.enc, .int ((d - 1 : Nat) : Int)]) ⟨x, d - 1, rfl, by omega, by omega, fun n h => hn n (s2 n h), rfl⟩ ?_
      simp only [wSeq, wIf, wRet, wRetN, wAsg, wExpr, wSkip, wBrk, wCnt, wVar, wC, wBin, wUn, wIfE, wT, wTr, wNot, wAnd, wOr, wAndV, wOrV, wChain, wBinS, wUnS, wOpN, wTup, wLst, wCons, wNil, wCall, wMs, wPar, wPar3, gN, gTupN, gCons, gNil, isD, isSt, isDc, optK_some, rd_d, rdS_d, frs_nil, frs_d, rds_nil, rds_d, on1, on2, asB_b, set0, setS, get0, getS, startE, List.map_cons, List.map_nil, List.length_cons, List.length_nil, List.replicate, List.cons_append, List.nil_append, List.append_nil, Option.map_some, Option.map_none, Option.bind_some, oEq_ss, oNe_ss, oEq_ii, oNe_ii, oAdd_ii, oSub_ii, ix_0, ix_1, ix_2, ix_k0, ix_n1, ix_p1, ix_p2, ix_e1, ix_e2, hd1, hd2, hd3, hd4, hd5, hd6, fin_rt, fin_nx, ret_d, if_true, if_false, Bool.false_eq_true, Bool.true_eq_false, Bool.not_true, Bool.not_false, beq_self_eq_true, decide_true, decide_false, true_and, and_true, lit0, lit1, lit2, lit3, lit4, lit5, lit6, lit7, lit8, lit9, lit10, wYes]
      exact hk'
    · simp only [filter_all, List.nil_append, wSeq, wIf, wRet, wRetN, wAsg, wExpr, wSkip, wBrk, wCnt, wVar, wC, wBin, wUn, wIfE, wT, wTr, wNot, wAnd, wOr, wAndV, wOrV, wChain, wBinS, wUnS, wOpN, wTup, wLst, wCons, wNil, wCall, wMs, wPar, wPar3, gN, gTupN, gCons, gNil, isD, isSt, isDc, optK_some, rd_d, rdS_d, frs_nil, frs_d, rds_nil, rds_d, on1, on2, asB_b, set0, setS, get0, getS, startE, List.map_cons, List.map_nil, List.length_cons, List.length_nil, List.replicate, List.cons_append, List.nil_append, List.append_nil, Option.map_some, Option.map_none, Option.bind_some, oEq_ss, oNe_ss, oEq_ii, oNe_ii, oAdd_ii, oSub_ii, ix_0, ix_1, ix_2, ix_k0, ix_n1, ix_p1, ix_p2, ix_e1, ix_e2, hd1, hd2, hd3, hd4, hd5, hd6, fin_rt, fin_nx, ret_d, if_true, if_false, Bool.false_eq_true, Bool.true_eq_false, Bool.not_true, Bool.not_false, beq_self_eq_true, decide_true, decide_false, true_and, and_true, lit0, lit1, lit2, lit3, lit4, lit5, lit6, lit7, lit8, lit9, lit10, wYes, all_true]
      exact q
def pKd (xs : List PyData) (y : PyData) : Prop := ∃ (k : Kd), xs = [k.enc] ∧ k.dep ≤ 30 ∧ k.parts ≤ 2000 ∧ (∀ n ∈ k.names, nmOk 5 n) ∧ y = .bool true
theorem keeps_is_kinded : Keeps 1 (spF pKd) (b_is_kinded (spF (pCK 30)) (spF (pKF 30))) := by
  rintro args st Q E ⟨xs, y, rfl, ⟨k, rfl, hk, hp, hn, rfl⟩, q⟩
  simp only [b_is_kinded, wSeq, wIf, wRet, wRetN, wAsg, wExpr, wSkip, wBrk, wCnt, wVar, wC, wBin, wUn, wIfE, wT, wTr, wNot, wAnd, wOr, wAndV, wOrV, wChain, wBinS, wUnS, wOpN, wTup, wLst, wCons, wNil, wCall, wMs, wPar, wPar3, gN, gTupN, gCons, gNil, isD, isSt, isDc, optK_some, rd_d, rdS_d, frs_nil, frs_d, rds_nil, rds_d, on1, on2, asB_b, set0, setS, get0, getS, startE, List.map_cons, List.map_nil, List.length_cons, List.length_nil, List.replicate, List.cons_append, List.nil_append, List.append_nil, Option.map_some, Option.map_none, Option.bind_some, oEq_ss, oNe_ss, oEq_ii, oNe_ii, oAdd_ii, oSub_ii, ix_0, ix_1, ix_2, ix_k0, ix_n1, ix_p1, ix_p2, ix_e1, ix_e2, hd1, hd2, hd3, hd4, hd5, hd6, fin_rt, fin_nx, ret_d, if_true, if_false, Bool.false_eq_true, Bool.true_eq_false, Bool.not_true, Bool.not_false, beq_self_eq_true, decide_true, decide_false, true_and, and_true, lit0, lit1, lit2, lit3, lit4, lit5, lit6, lit7, lit8, lit9, lit10, wYes, g_MOST_DEEP, g_MOST_PARTS]
  refine spF_go (xs := [k.enc, .int ((30 : Nat) : Int)]) ⟨k, 30, rfl, hk, hk, hn, rfl⟩ ?_
  simp only [wSeq, wIf, wRet, wRetN, wAsg, wExpr, wSkip, wBrk, wCnt, wVar, wC, wBin, wUn, wIfE, wT, wTr, wNot, wAnd, wOr, wAndV, wOrV, wChain, wBinS, wUnS, wOpN, wTup, wLst, wCons, wNil, wCall, wMs, wPar, wPar3, gN, gTupN, gCons, gNil, isD, isSt, isDc, optK_some, rd_d, rdS_d, frs_nil, frs_d, rds_nil, rds_d, on1, on2, asB_b, set0, setS, get0, getS, startE, List.map_cons, List.map_nil, List.length_cons, List.length_nil, List.replicate, List.cons_append, List.nil_append, List.append_nil, Option.map_some, Option.map_none, Option.bind_some, oEq_ss, oNe_ss, oEq_ii, oNe_ii, oAdd_ii, oSub_ii, ix_0, ix_1, ix_2, ix_k0, ix_n1, ix_p1, ix_p2, ix_e1, ix_e2, hd1, hd2, hd3, hd4, hd5, hd6, fin_rt, fin_nx, ret_d, if_true, if_false, Bool.false_eq_true, Bool.true_eq_false, Bool.not_true, Bool.not_false, beq_self_eq_true, decide_true, decide_false, true_and, and_true, lit0, lit1, lit2, lit3, lit4, lit5, lit6, lit7, lit8, lit9, lit10, wYes]
  refine spF_go (xs := [k.enc]) ⟨k, rfl, hk, rfl⟩ ?_
  have d1 : decide (((k.parts : Nat) : Int) ≤ 2000) = true := decide_eq_true (by omega)
  simp only [wSeq, wIf, wRet, wRetN, wAsg, wExpr, wSkip, wBrk, wCnt, wVar, wC, wBin, wUn, wIfE, wT, wTr, wNot, wAnd, wOr, wAndV, wOrV, wChain, wBinS, wUnS, wOpN, wTup, wLst, wCons, wNil, wCall, wMs, wPar, wPar3, gN, gTupN, gCons, gNil, isD, isSt, isDc, optK_some, rd_d, rdS_d, frs_nil, frs_d, rds_nil, rds_d, on1, on2, asB_b, set0, setS, get0, getS, startE, List.map_cons, List.map_nil, List.length_cons, List.length_nil, List.replicate, List.cons_append, List.nil_append, List.append_nil, Option.map_some, Option.map_none, Option.bind_some, oEq_ss, oNe_ss, oEq_ii, oNe_ii, oAdd_ii, oSub_ii, ix_0, ix_1, ix_2, ix_k0, ix_n1, ix_p1, ix_p2, ix_e1, ix_e2, hd1, hd2, hd3, hd4, hd5, hd6, fin_rt, fin_nx, ret_d, if_true, if_false, Bool.false_eq_true, Bool.true_eq_false, Bool.not_true, Bool.not_false, beq_self_eq_true, decide_true, decide_false, true_and, and_true, lit0, lit1, lit2, lit3, lit4, lit5, lit6, lit7, lit8, lit9, lit10, wYes, oLe_ii, d1]
  exact q
end DL.K20
/-! text K20P5 -/
namespace DL.K20
open PySem DL
/-- an answer told by a relation -/
def spR (pre : List PyData → Prop) (R : List PyData → PyData → Prop) : SpD := fun args st Q _ => ∃ xs, args = xs.map .d ∧ pre xs ∧ ∀ y, R xs y → Q (.d y) st
theorem spR_go {pre : List PyData → Prop} {R : List PyData → PyData → Prop} {xs : List PyData} {st : Store} {Q : RK} {E : EK} (h : pre xs) (q : ∀ y, R xs y → Q (.d y) st) : spR pre R (xs.map .d) st Q E := ⟨xs, rfl, h, q⟩
def okD (S : List Str) (kvs : List (PyData × PyData)) : Prop := ∀ e ∈ kvs, ∃ z ∈ S, e = (.str z, .bool true)
theorem okD_mono {S T : List Str} {kvs : List (PyData × PyData)} (h : okD S kvs) (hs : ∀ z ∈ S, z ∈ T) : okD T kvs := fun e he => let ⟨z, hz, q⟩ := h e he; ⟨z, hs z hz, q⟩
theorem putK_ok {S : List Str} {kvs : List (PyData × PyData)} {z : Str} (h : okD S kvs) (hz : z ∈ S) : okD S (putK kvs (.str z) (.bool true)) ∧ (putK kvs (.str z) (.bool true)).length ≤ kvs.length + 1 := by
  unfold putK
  split
  · refine ⟨fun e he => ?_, by rw [List.length_map]; omega⟩
    obtain ⟨p, hp, rfl⟩ := List.mem_map.mp he
    obtain ⟨w, hw, e⟩ := h p hp
    subst e
    by_cases hk : keyEq (.str w) (.str z) = true
    · exact ⟨w, hw, by simp [hk]⟩
    · exact ⟨w, hw, by simp [hk]⟩
  · refine ⟨fun e he => ?_, by rw [List.length_append]; exact Nat.le_refl _⟩
    rcases List.mem_append.mp he with he | he
    · exact h e he
    · simp at he; subst he; exact ⟨z, hz, rfl⟩
theorem putsK_ok {S : List Str} : ∀ (more kvs : List (PyData × PyData)), okD S kvs → okD S more → okD S (putsK kvs more) ∧ (putsK kvs more).length ≤ kvs.length + more.length
  | [], kvs, h, _ => ⟨h, Nat.le_refl _⟩
  | e :: more, kvs, h, hm => by
    obtain ⟨z, hz, rfl⟩ := hm e (List.mem_cons_self ..)
    obtain ⟨a, b⟩ := putK_ok h hz
    obtain ⟨c, d⟩ := putsK_ok more (putK kvs (.str z) (.bool true)) a fun e he => hm e (List.mem_cons_of_mem _ he)
    refine ⟨c, ?_⟩
    show (putsK (putK kvs (.str z) (.bool true)) more).length ≤ _
    simp only [List.length_cons]
    omega
def preNB (l : Nat) (xs : List PyData) : Prop := ∃ k : Kd, xs = [k.enc] ∧ k.dep ≤ l ∧ k.parts ≤ 100000
def relNB (xs : List PyData) (y : PyData) : Prop := ∀ k : Kd, xs = [k.enc] → ∃ kvs, y = .dict kvs ∧ okD k.names kvs ∧ kvs.length ≤ k.parts
theorem enc_inj {a b : Kd} (h : a.enc = b.enc) : a = b := (Kd.eqv_enc a b).mp (by rw [h]; exact (Kd.eqv_enc b b).mpr rfl)
theorem nb_loop {l : Nat} {E : EK} {v0 : Option DV} {st : Store} {D : Fin} {S : List Str} {N : Nat} (hN : N ≤ 100000) : ∀ (ks : List Kd) (acc : List (PyData × PyData)) (v2 : Option DV),
    okD S acc → (∀ k ∈ ks, k.dep ≤ l ∧ k.parts ≤ 100000 ∧ ∀ z ∈ k.names, z ∈ S) → acc.length + (ks.map Kd.parts).sum ≤ N →
    (∀ kvs v2, okD S kvs → kvs.length ≤ N → D.nx [v0, some (.d (.dict kvs)), v2] st) →
    forGo (gN 2) (wAsg (wDctS (wVar 1) (wCall (spR (preNB l) relNB) E (wCons (wVar 2) wNil))) (gN 1)) D ((ks.map Kd.enc).map DV.d) [v0, some (.d (.dict acc)), v2] st
  | [], acc, v2, h, _, hl, q => q acc v2 h (by simpa using hl)
  | k :: ks, acc, v2, h, hk, hl, q => by
    obtain ⟨h1, h2, h3⟩ := hk k (List.mem_cons_self ..)
    simp only [List.map_cons, List.sum_cons] at hl
    simp only [List.map_cons, forGo, wSeq, wIf, wRet, wRetN, wAsg, wExpr, wSkip, wBrk, wCnt, wVar, wC, wBin, wUn, wIfE, wT, wTr, wNot, wAnd, wOr, wAndV, wOrV, wChain, wBinS, wUnS, wOpN, wTup, wLst, wCons, wNil, wCall, wMs, wPar, wPar3, gN, gTupN, gCons, gNil, isD, isSt, isDc, optK_some, rd_d, rdS_d, frs_nil, frs_d, rds_nil, rds_d, on1, on2, asB_b, set0, setS, get0, getS, startE, List.map_cons, List.map_nil, List.length_cons, List.length_nil, List.replicate, List.cons_append, List.nil_append, List.append_nil, Option.map_some, Option.map_none, Option.bind_some, oEq_ss, oNe_ss, oEq_ii, oNe_ii, oAdd_ii, oSub_ii, ix_0, ix_1, ix_2, ix_k0, ix_n1, ix_p1, ix_p2, ix_e1, ix_e2, hd1, hd2, hd3, hd4, hd5, hd6, fin_rt, fin_nx, ret_d, if_true, if_false, Bool.false_eq_true, Bool.true_eq_false, Bool.not_true, Bool.not_false, beq_self_eq_true, decide_true, decide_false, true_and, and_true, lit0, lit1, lit2, lit3, lit4, lit5, lit6, lit7, lit8, lit9, lit10, wYes, wDctS]
    refine ⟨lim_of (by omega), ?_⟩
    refine spR_go (xs := [k.enc]) ⟨k, rfl, h1, h2⟩ fun y hy => ?_
    obtain ⟨kvs, rfl, ho, hkl⟩ := hy k rfl
    have hko := okD_mono ho h3
    obtain ⟨p1, p2⟩ := putsK_ok acc [] (fun e he => by simp at he) h
    obtain ⟨p3, p4⟩ := putsK_ok kvs _ p1 hko
    simp only [List.length_nil, Nat.zero_add] at p2
    simp only [wSeq, wIf, wRet, wRetN, wAsg, wExpr, wSkip, wBrk, wCnt, wVar, wC, wBin, wUn, wIfE, wT, wTr, wNot, wAnd, wOr, wAndV, wOrV, wChain, wBinS, wUnS, wOpN, wTup, wLst, wCons, wNil, wCall, wMs, wPar, wPar3, gN, gTupN, gCons, gNil, isD, isSt, isDc, optK_some, rd_d, rdS_d, frs_nil, frs_d, rds_nil, rds_d, on1, on2, asB_b, set0, setS, get0, getS, startE, List.map_cons, List.map_nil, List.length_cons, List.length_nil, List.replicate, List.cons_append, List.nil_append, List.append_nil, Option.map_some, Option.map_none, Option.bind_some, oEq_ss, oNe_ss, oEq_ii, oNe_ii, oAdd_ii, oSub_ii, ix_0, ix_1, ix_2, ix_k0, ix_n1, ix_p1, ix_p2, ix_e1, ix_e2, hd1, hd2, hd3, hd4, hd5, hd6, fin_rt, fin_nx, ret_d, if_true, if_false, Bool.false_eq_true, Bool.true_eq_false, Bool.not_true, Bool.not_false, beq_self_eq_true, decide_true, decide_false, true_and, and_true, lit0, lit1, lit2, lit3, lit4, lit5, lit6, lit7, lit8, lit9, lit10, wYes]
    refine ⟨lim_of (by omega), ?_⟩
    refine nb_loop hN ks _ _ p3 (fun k hk' => hk k (List.mem_cons_of_mem _ hk')) ?_ q
    omega
theorem parts_sum (k : Kd) : ((subsK k).map Kd.parts).sum + 1 ≤ k.parts := by
  cases k <;> simp [subsK, Kd.parts]
theorem keeps_names_by (l : Nat) : Keeps 3 (spR (preNB (l + 1)) relNB) (b_names_by (spF pKI) (spR (preNB l) relNB)) := by
  rintro args st Q E ⟨xs, rfl, ⟨k, rfl, hk, hp⟩, q⟩
  by_cases hname : ∃ n, k = .name n
  · obtain ⟨n, rfl⟩ := hname
    simp only [b_names_by, wSeq, wIf, wRet, wRetN, wAsg, wExpr, wSkip, wBrk, wCnt, wVar, wC, wBin, wUn, wIfE, wT, wTr, wNot, wAnd, wOr, wAndV, wOrV, wChain, wBinS, wUnS, wOpN, wTup, wLst, wCons, wNil, wCall, wMs, wPar, wPar3, gN, gTupN, gCons, gNil, isD, isSt, isDc, optK_some, rd_d, rdS_d, frs_nil, frs_d, rds_nil, rds_d, on1, on2, asB_b, set0, setS, get0, getS, startE, List.map_cons, List.map_nil, List.length_cons, List.length_nil, List.replicate, List.cons_append, List.nil_append, List.append_nil, Option.map_some, Option.map_none, Option.bind_some, oEq_ss, oNe_ss, oEq_ii, oNe_ii, oAdd_ii, oSub_ii, ix_0, ix_1, ix_2, ix_k0, ix_n1, ix_p1, ix_p2, ix_e1, ix_e2, hd1, hd2, hd3, hd4, hd5, hd6, fin_rt, fin_nx, ret_d, if_true, if_false, Bool.false_eq_true, Bool.true_eq_false, Bool.not_true, Bool.not_false, beq_self_eq_true, decide_true, decide_false, true_and, and_true, lit0, lit1, lit2, lit3, lit4, lit5, lit6, lit7, lit8, lit9, lit10, wYes, wDisp, wPC, wPN, isKey, putsK, List.foldl_cons, List.foldl_nil, putK, List.any_nil]
    refine ⟨by decide, q _ fun k' e => ?_⟩
    have := enc_inj (a := k') (b := .name n) (by simpa using (List.cons.inj e).1.symm)
    subst this
    exact ⟨_, rfl, fun e he => by simp at he; subst he; exact ⟨n, by simp [Kd.names], rfl⟩, by simp [Kd.parts]⟩
  · have hh := head_ne (k := k) fun n e => hname ⟨n, e⟩
    simp only [b_names_by, wSeq, wIf, wRet, wRetN, wAsg, wExpr, wSkip, wBrk, wCnt, wVar, wC, wBin, wUn, wIfE, wT, wTr, wNot, wAnd, wOr, wAndV, wOrV, wChain, wBinS, wUnS, wOpN, wTup, wLst, wCons, wNil, wCall, wMs, wPar, wPar3, gN, gTupN, gCons, gNil, isD, isSt, isDc, optK_some, rd_d, rdS_d, frs_nil, frs_d, rds_nil, rds_d, on1, on2, asB_b, set0, setS, get0, getS, startE, List.map_cons, List.map_nil, List.length_cons, List.length_nil, List.replicate, List.cons_append, List.nil_append, List.append_nil, Option.map_some, Option.map_none, Option.bind_some, oEq_ss, oNe_ss, oEq_ii, oNe_ii, oAdd_ii, oSub_ii, ix_0, ix_1, ix_2, ix_k0, ix_n1, ix_p1, ix_p2, ix_e1, ix_e2, hd1, hd2, hd3, hd4, hd5, hd6, fin_rt, fin_nx, ret_d, if_true, if_false, Bool.false_eq_true, Bool.true_eq_false, Bool.not_true, Bool.not_false, beq_self_eq_true, decide_true, decide_false, true_and, and_true, lit0, lit1, lit2, lit3, lit4, lit5, lit6, lit7, lit8, lit9, lit10, wYes, hh.1, wDct0, wFor, iSeq]
    refine spF_go (xs := [k.enc]) ⟨k, rfl, rfl⟩ ?_
    simp only [wSeq, wIf, wRet, wRetN, wAsg, wExpr, wSkip, wBrk, wCnt, wVar, wC, wBin, wUn, wIfE, wT, wTr, wNot, wAnd, wOr, wAndV, wOrV, wChain, wBinS, wUnS, wOpN, wTup, wLst, wCons, wNil, wCall, wMs, wPar, wPar3, gN, gTupN, gCons, gNil, isD, isSt, isDc, optK_some, rd_d, rdS_d, frs_nil, frs_d, rds_nil, rds_d, on1, on2, asB_b, set0, setS, get0, getS, startE, List.map_cons, List.map_nil, List.length_cons, List.length_nil, List.replicate, List.cons_append, List.nil_append, List.append_nil, Option.map_some, Option.map_none, Option.bind_some, oEq_ss, oNe_ss, oEq_ii, oNe_ii, oAdd_ii, oSub_ii, ix_0, ix_1, ix_2, ix_k0, ix_n1, ix_p1, ix_p2, ix_e1, ix_e2, hd1, hd2, hd3, hd4, hd5, hd6, fin_rt, fin_nx, ret_d, if_true, if_false, Bool.false_eq_true, Bool.true_eq_false, Bool.not_true, Bool.not_false, beq_self_eq_true, decide_true, decide_false, true_and, and_true, lit0, lit1, lit2, lit3, lit4, lit5, lit6, lit7, lit8, lit9, lit10, wYes, itemsOf, subs_eq]
    have hps := parts_sum k
    refine nb_loop (S := k.names) (N := k.parts) hp (subsK k) [] none (fun e he => by simp at he) (fun x hx => ?_) ?_ fun kvs v2 ho hl => ?_
    · obtain ⟨s1, s2, s3⟩ := subs_dep hx
      exact ⟨by omega, by omega, s2⟩
    · simp only [List.length_nil]; omega
    · simp only [wSeq, wIf, wRet, wRetN, wAsg, wExpr, wSkip, wBrk, wCnt, wVar, wC, wBin, wUn, wIfE, wT, wTr, wNot, wAnd, wOr, wAndV, wOrV, wChain, wBinS, wUnS, wOpN, wTup, wLst, wCons, wNil, wCall, wMs, wPar, wPar3, gN, gTupN, gCons, gNil, isD, isSt, isDc, optK_some, rd_d, rdS_d, frs_nil, frs_d, rds_nil, rds_d, on1, on2, asB_b, set0, setS, get0, getS, startE, List.map_cons, List.map_nil, List.length_cons, List.length_nil, List.replicate, List.cons_append, List.nil_append, List.append_nil, Option.map_some, Option.map_none, Option.bind_some, oEq_ss, oNe_ss, oEq_ii, oNe_ii, oAdd_ii, oSub_ii, ix_0, ix_1, ix_2, ix_k0, ix_n1, ix_p1, ix_p2, ix_e1, ix_e2, hd1, hd2, hd3, hd4, hd5, hd6, fin_rt, fin_nx, ret_d, if_true, if_false, Bool.false_eq_true, Bool.true_eq_false, Bool.not_true, Bool.not_false, beq_self_eq_true, decide_true, decide_false, true_and, and_true, lit0, lit1, lit2, lit3, lit4, lit5, lit6, lit7, lit8, lit9, lit10, wYes]
      refine q _ fun k' e => ?_
      have := enc_inj (a := k') (b := k) (by simpa using (List.cons.inj e).1.symm)
      subst this
      exact ⟨kvs, rfl, ho, hl⟩
/-- a kind that stands in a book's dict -/
def inBk (bk : List (PyData × PyData)) (S : List Str) : Prop := ∀ n ∈ S, hasK bk (.str n) = true
def pIn (xs : List PyData) (y : PyData) : Prop := ∃ (bk : List (PyData × PyData)) (k : Kd), xs = [.dict bk, k.enc] ∧ k.dep ≤ 30 ∧ k.parts ≤ 2000 ∧ (∀ n ∈ k.names, nmOk 5 n) ∧ inBk bk k.names ∧ y = .bool true
theorem in_dict (n : Str) (bk : List (PyData × PyData)) : oIn (.str n) (.dict bk) = some (.bool (hasK bk (.str n))) := rfl
theorem notin_dict (n : Str) (bk : List (PyData × PyData)) : oNotIn (.str n) (.dict bk) = some (.bool (!hasK bk (.str n))) := rfl
theorem keeps_is_kind_in : Keeps 3 (spF pIn) (b_is_kind_in (spR (preNB 30) relNB) (spF pKd)) := by
  rintro args st Q E ⟨xs, y, rfl, ⟨bk, k, rfl, hk, hp, hn, hb, rfl⟩, q⟩
  simp only [b_is_kind_in, wSeq, wIf, wRet, wRetN, wAsg, wExpr, wSkip, wBrk, wCnt, wVar, wC, wBin, wUn, wIfE, wT, wTr, wNot, wAnd, wOr, wAndV, wOrV, wChain, wBinS, wUnS, wOpN, wTup, wLst, wCons, wNil, wCall, wMs, wPar, wPar3, gN, gTupN, gCons, gNil, isD, isSt, isDc, optK_some, rd_d, rdS_d, frs_nil, frs_d, rds_nil, rds_d, on1, on2, asB_b, set0, setS, get0, getS, startE, List.map_cons, List.map_nil, List.length_cons, List.length_nil, List.replicate, List.cons_append, List.nil_append, List.append_nil, Option.map_some, Option.map_none, Option.bind_some, oEq_ss, oNe_ss, oEq_ii, oNe_ii, oAdd_ii, oSub_ii, ix_0, ix_1, ix_2, ix_k0, ix_n1, ix_p1, ix_p2, ix_e1, ix_e2, hd1, hd2, hd3, hd4, hd5, hd6, fin_rt, fin_nx, ret_d, if_true, if_false, Bool.false_eq_true, Bool.true_eq_false, Bool.not_true, Bool.not_false, beq_self_eq_true, decide_true, decide_false, true_and, and_true, lit0, lit1, lit2, lit3, lit4, lit5, lit6, lit7, lit8, lit9, lit10, wYes]
  refine spF_go (xs := [k.enc]) ⟨k, rfl, hk, hp, hn, rfl⟩ ?_
  simp only [wSeq, wIf, wRet, wRetN, wAsg, wExpr, wSkip, wBrk, wCnt, wVar, wC, wBin, wUn, wIfE, wT, wTr, wNot, wAnd, wOr, wAndV, wOrV, wChain, wBinS, wUnS, wOpN, wTup, wLst, wCons, wNil, wCall, wMs, wPar, wPar3, gN, gTupN, gCons, gNil, isD, isSt, isDc, optK_some, rd_d, rdS_d, frs_nil, frs_d, rds_nil, rds_d, on1, on2, asB_b, set0, setS, get0, getS, startE, List.map_cons, List.map_nil, List.length_cons, List.length_nil, List.replicate, List.cons_append, List.nil_append, List.append_nil, Option.map_some, Option.map_none, Option.bind_some, oEq_ss, oNe_ss, oEq_ii, oNe_ii, oAdd_ii, oSub_ii, ix_0, ix_1, ix_2, ix_k0, ix_n1, ix_p1, ix_p2, ix_e1, ix_e2, hd1, hd2, hd3, hd4, hd5, hd6, fin_rt, fin_nx, ret_d, if_true, if_false, Bool.false_eq_true, Bool.true_eq_false, Bool.not_true, Bool.not_false, beq_self_eq_true, decide_true, decide_false, true_and, and_true, lit0, lit1, lit2, lit3, lit4, lit5, lit6, lit7, lit8, lit9, lit10, wYes, wLc, iKeysD]
  refine spR_go (xs := [k.enc]) ⟨k, rfl, hk, by omega⟩ fun y hy => ?_
  obtain ⟨kvs, rfl, ho, hl⟩ := hy k rfl
  simp only [wSeq, wIf, wRet, wRetN, wAsg, wExpr, wSkip, wBrk, wCnt, wVar, wC, wBin, wUn, wIfE, wT, wTr, wNot, wAnd, wOr, wAndV, wOrV, wChain, wBinS, wUnS, wOpN, wTup, wLst, wCons, wNil, wCall, wMs, wPar, wPar3, gN, gTupN, gCons, gNil, isD, isSt, isDc, optK_some, rd_d, rdS_d, frs_nil, frs_d, rds_nil, rds_d, on1, on2, asB_b, set0, setS, get0, getS, startE, List.map_cons, List.map_nil, List.length_cons, List.length_nil, List.replicate, List.cons_append, List.nil_append, List.append_nil, Option.map_some, Option.map_none, Option.bind_some, oEq_ss, oNe_ss, oEq_ii, oNe_ii, oAdd_ii, oSub_ii, ix_0, ix_1, ix_2, ix_k0, ix_n1, ix_p1, ix_p2, ix_e1, ix_e2, hd1, hd2, hd3, hd4, hd5, hd6, fin_rt, fin_nx, ret_d, if_true, if_false, Bool.false_eq_true, Bool.true_eq_false, Bool.not_true, Bool.not_false, beq_self_eq_true, decide_true, decide_false, true_and, and_true, lit0, lit1, lit2, lit3, lit4, lit5, lit6, lit7, lit8, lit9, lit10, wYes, wipeE]
  refine ⟨lim_of (by omega), ?_⟩
  refine lc_go (fun _ => true) (fun _ => .bool true) _ [] (fun x hx K1 K2 hk1 => ?_) ?_
  · obtain ⟨e, he, rfl⟩ := List.mem_map.mp hx
    obtain ⟨z, hz, rfl⟩ := ho e he
    have hk' : K1 (.bool true) st := by simpa using hk1
    simp only [wSeq, wIf, wRet, wRetN, wAsg, wExpr, wSkip, wBrk, wCnt, wVar, wC, wBin, wUn, wIfE, wT, wTr, wNot, wAnd, wOr, wAndV, wOrV, wChain, wBinS, wUnS, wOpN, wTup, wLst, wCons, wNil, wCall, wMs, wPar, wPar3, gN, gTupN, gCons, gNil, isD, isSt, isDc, optK_some, rd_d, rdS_d, frs_nil, frs_d, rds_nil, rds_d, on1, on2, asB_b, set0, setS, get0, getS, startE, List.map_cons, List.map_nil, List.length_cons, List.length_nil, List.replicate, List.cons_append, List.nil_append, List.append_nil, Option.map_some, Option.map_none, Option.bind_some, oEq_ss, oNe_ss, oEq_ii, oNe_ii, oAdd_ii, oSub_ii, ix_0, ix_1, ix_2, ix_k0, ix_n1, ix_p1, ix_p2, ix_e1, ix_e2, hd1, hd2, hd3, hd4, hd5, hd6, fin_rt, fin_nx, ret_d, if_true, if_false, Bool.false_eq_true, Bool.true_eq_false, Bool.not_true, Bool.not_false, beq_self_eq_true, decide_true, decide_false, true_and, and_true, lit0, lit1, lit2, lit3, lit4, lit5, lit6, lit7, lit8, lit9, lit10, wYes, in_dict, hb z hz]
    exact hk'
  · simp only [filter_all, List.nil_append, wSeq, wIf, wRet, wRetN, wAsg, wExpr, wSkip, wBrk, wCnt, wVar, wC, wBin, wUn, wIfE, wT, wTr, wNot, wAnd, wOr, wAndV, wOrV, wChain, wBinS, wUnS, wOpN, wTup, wLst, wCons, wNil, wCall, wMs, wPar, wPar3, gN, gTupN, gCons, gNil, isD, isSt, isDc, optK_some, rd_d, rdS_d, frs_nil, frs_d, rds_nil, rds_d, on1, on2, asB_b, set0, setS, get0, getS, startE, List.map_cons, List.map_nil, List.length_cons, List.length_nil, List.replicate, List.cons_append, List.nil_append, List.append_nil, Option.map_some, Option.map_none, Option.bind_some, oEq_ss, oNe_ss, oEq_ii, oNe_ii, oAdd_ii, oSub_ii, ix_0, ix_1, ix_2, ix_k0, ix_n1, ix_p1, ix_p2, ix_e1, ix_e2, hd1, hd2, hd3, hd4, hd5, hd6, fin_rt, fin_nx, ret_d, if_true, if_false, Bool.false_eq_true, Bool.true_eq_false, Bool.not_true, Bool.not_false, beq_self_eq_true, decide_true, decide_false, true_and, and_true, lit0, lit1, lit2, lit3, lit4, lit5, lit6, lit7, lit8, lit9, lit10, wYes, all_true]
    exact q
def gapIn (bk : List (PyData × PyData)) (g : Kd) : Prop := g = .thing ∨ ∃ m, g = .name m ∧ wname m ∧ hasK bk (.str m) = true
theorem gapIn_gap {bk : List (PyData × PyData)} {g : Kd} (h : gapIn bk g) : isGap g := by
  rcases h with rfl | ⟨m, rfl, hm, _⟩
  · exact .inl rfl
  · exact .inr ⟨m, rfl, by have := (wname_len hm).2; omega⟩
def pHI (xs : List PyData) (y : PyData) : Prop := ∃ (bk : List (PyData × PyData)) (g : Kd), xs = [.dict bk, g.enc] ∧ gapIn bk g ∧ y = .bool true
theorem keeps_is_hole_in : Keeps 2 (spF pHI) (b_is_hole_in (spF pWN)) := by
  rintro args st Q E ⟨xs, y, rfl, ⟨bk, g, rfl, hg, rfl⟩, q⟩
  have i1 : (((1 : Nat) : Int) == 1) = true := rfl
  have i2 : (((2 : Nat) : Int) == 1) = false := rfl
  have c1 : decide ((1 : Int) ≤ ((1 : Nat) : Int)) = true := rfl
  have c2 : decide (((1 : Nat) : Int) ≤ 2) = true := rfl
  have c3 : decide ((1 : Int) ≤ ((2 : Nat) : Int)) = true := rfl
  have c4 : decide (((2 : Nat) : Int) ≤ 2) = true := rfl
  rcases hg with rfl | ⟨m, rfl, hm, hb⟩
  · simp only [b_is_hole_in, wSeq, wIf, wRet, wRetN, wAsg, wExpr, wSkip, wBrk, wCnt, wVar, wC, wBin, wUn, wIfE, wT, wTr, wNot, wAnd, wOr, wAndV, wOrV, wChain, wBinS, wUnS, wOpN, wTup, wLst, wCons, wNil, wCall, wMs, wPar, wPar3, gN, gTupN, gCons, gNil, isD, isSt, isDc, optK_some, rd_d, rdS_d, frs_nil, frs_d, rds_nil, rds_d, on1, on2, asB_b, set0, setS, get0, getS, startE, List.map_cons, List.map_nil, List.length_cons, List.length_nil, List.replicate, List.cons_append, List.nil_append, List.append_nil, Option.map_some, Option.map_none, Option.bind_some, oEq_ss, oNe_ss, oEq_ii, oNe_ii, oAdd_ii, oSub_ii, ix_0, ix_1, ix_2, ix_k0, ix_n1, ix_p1, ix_p2, ix_e1, ix_e2, hd1, hd2, hd3, hd4, hd5, hd6, fin_rt, fin_nx, ret_d, if_true, if_false, Bool.false_eq_true, Bool.true_eq_false, Bool.not_true, Bool.not_false, beq_self_eq_true, decide_true, decide_false, true_and, and_true, lit0, lit1, lit2, lit3, lit4, lit5, lit6, lit7, lit8, lit9, lit10, wYes, isT, isS, len_k, lenK, oLe_ii, i1, c1, c2]
    exact q
  · simp only [b_is_hole_in, wSeq, wIf, wRet, wRetN, wAsg, wExpr, wSkip, wBrk, wCnt, wVar, wC, wBin, wUn, wIfE, wT, wTr, wNot, wAnd, wOr, wAndV, wOrV, wChain, wBinS, wUnS, wOpN, wTup, wLst, wCons, wNil, wCall, wMs, wPar, wPar3, gN, gTupN, gCons, gNil, isD, isSt, isDc, optK_some, rd_d, rdS_d, frs_nil, frs_d, rds_nil, rds_d, on1, on2, asB_b, set0, setS, get0, getS, startE, List.map_cons, List.map_nil, List.length_cons, List.length_nil, List.replicate, List.cons_append, List.nil_append, List.append_nil, Option.map_some, Option.map_none, Option.bind_some, oEq_ss, oNe_ss, oEq_ii, oNe_ii, oAdd_ii, oSub_ii, ix_0, ix_1, ix_2, ix_k0, ix_n1, ix_p1, ix_p2, ix_e1, ix_e2, hd1, hd2, hd3, hd4, hd5, hd6, fin_rt, fin_nx, ret_d, if_true, if_false, Bool.false_eq_true, Bool.true_eq_false, Bool.not_true, Bool.not_false, beq_self_eq_true, decide_true, decide_false, true_and, and_true, lit0, lit1, lit2, lit3, lit4, lit5, lit6, lit7, lit8, lit9, lit10, wYes, isT, isS, len_k, lenK, oLe_ii, i2, c3, c4]
    refine spF_go (xs := [.str m]) ⟨m, rfl, hm, rfl⟩ ?_
    simp only [wSeq, wIf, wRet, wRetN, wAsg, wExpr, wSkip, wBrk, wCnt, wVar, wC, wBin, wUn, wIfE, wT, wTr, wNot, wAnd, wOr, wAndV, wOrV, wChain, wBinS, wUnS, wOpN, wTup, wLst, wCons, wNil, wCall, wMs, wPar, wPar3, gN, gTupN, gCons, gNil, isD, isSt, isDc, optK_some, rd_d, rdS_d, frs_nil, frs_d, rds_nil, rds_d, on1, on2, asB_b, set0, setS, get0, getS, startE, List.map_cons, List.map_nil, List.length_cons, List.length_nil, List.replicate, List.cons_append, List.nil_append, List.append_nil, Option.map_some, Option.map_none, Option.bind_some, oEq_ss, oNe_ss, oEq_ii, oNe_ii, oAdd_ii, oSub_ii, ix_0, ix_1, ix_2, ix_k0, ix_n1, ix_p1, ix_p2, ix_e1, ix_e2, hd1, hd2, hd3, hd4, hd5, hd6, fin_rt, fin_nx, ret_d, if_true, if_false, Bool.false_eq_true, Bool.true_eq_false, Bool.not_true, Bool.not_false, beq_self_eq_true, decide_true, decide_false, true_and, and_true, lit0, lit1, lit2, lit3, lit4, lit5, lit6, lit7, lit8, lit9, lit10, wYes, in_dict, hb]
    exact q
end DL.K20
/-! text K20P6 -/
namespace DL.K20
open PySem DL
abbrev Row := Str × Kd
def encR (r : Row) : PyData := .tuple [.str r.1, r.2.enc]
def encB (b : List Row) : PyData := .tuple (b.map encR)
def dctB (b : List Row) : List (PyData × PyData) := b.map fun r => (.str r.1, r.2.enc)
def ltT (a b : Str) : Prop := a.cps.toList < b.cps.toList
def gapOf (t : Str) : Kd := if t = "" then .thing else .name t
def madeIn (b : List Row) (r : Row) : Prop := wname r.1 ∨ ∃ base t k0, r.1 = base ++ tick ++ t ∧ tailOk t ∧ (base, k0) ∈ b ∧ r.2 = byK k0 (gapOf t) ∧ (t ≠ "" → t ∈ b.map (·.1))
structure okB (b : List Row) : Prop where
  ne : b ≠ []
  len : b.length ≤ 80
  nm : ∀ r ∈ b, nmOk 5 r.1
  kd : ∀ r ∈ b, r.2.dep ≤ 30 ∧ r.2.parts ≤ 2000 ∧ ∀ n ∈ r.2.names, nmOk 5 n
  inn : ∀ r ∈ b, ∀ n ∈ r.2.names, n ∈ b.map (·.1)
  srt : b.Pairwise fun r s => ltT r.1 s.1
  made : ∀ r ∈ b, madeIn b r
/-! ### the dict of a book -/
theorem lt_ne {a b : Str} (h : ltT a b) : a ≠ b := fun z => by subst z; exact absurd h (List.lt_irrefl _)
theorem srt_nodup {b : List Row} (h : b.Pairwise fun r s => ltT r.1 s.1) : (b.map (·.1)).Nodup := by
  unfold List.Nodup
  rw [List.pairwise_map]
  exact h.imp lt_ne
theorem look_dct {b : List Row} : ∀ {n : Str} {k : Kd}, (b.map (·.1)).Nodup → (n, k) ∈ b → lookK (dctB b) (.str n) = some k.enc := by
  induction b with
  | nil => intro n k _ h; simp at h
  | cons r b ih =>
    intro n k hn h
    have hn' : r.1 ∉ b.map (·.1) ∧ (b.map (·.1)).Nodup := by simpa using hn
    show (if keyEq (.str r.1) (.str n) = true then some r.2.enc else lookK (dctB b) (.str n)) = _
    rcases List.mem_cons.mp h with h | h
    · subst h
      rw [if_pos (by simp [keyEq])]
    · have : r.1 ≠ n := fun z => hn'.1 (by rw [z]; exact List.mem_map.mpr ⟨_, h, rfl⟩)
      rw [if_neg (by simpa [keyEq] using this)]
      exact ih hn'.2 h
theorem has_dct {b : List Row} {n : Str} (hn : (b.map (·.1)).Nodup) (h : n ∈ b.map (·.1)) : hasK (dctB b) (.str n) = true := by
  obtain ⟨⟨m, k⟩, hm, rfl⟩ := List.mem_map.mp h
  unfold hasK
  rw [look_dct hn hm]
  rfl
theorem putK_new (acc : List (PyData × PyData)) (n : Str) (v : PyData) (h : ∀ e ∈ acc, e.1 ≠ .str n ∧ ∃ z, e.1 = .str z) : putK acc (.str n) v = acc ++ [(.str n, v)] := by
  unfold putK
  rw [if_neg]
  rw [List.any_eq_true]
  rintro ⟨e, he, hk⟩
  obtain ⟨h1, z, hz⟩ := h e he
  rw [hz] at hk h1
  have : z = n := by simpa [keyEq] using hk
  subst this
  exact h1 rfl
theorem puts_new : ∀ (b : List Row) (acc : List (PyData × PyData)), (∀ e ∈ acc, ∃ z, e.1 = .str z ∧ z ∉ b.map (·.1)) → (b.map (·.1)).Nodup → putsK acc (dctB b) = acc ++ dctB b
  | [], acc, _, _ => by show acc = acc ++ []; simp
  | r :: b, acc, h, hn => by
    have hn' : r.1 ∉ b.map (·.1) ∧ (b.map (·.1)).Nodup := by simpa using hn
    show putsK (putK acc (.str r.1) r.2.enc) (dctB b) = _
    rw [putK_new acc r.1 r.2.enc fun e he => by
      obtain ⟨z, hz, hz2⟩ := h e he
      refine ⟨fun w => hz2 ?_, z, hz⟩
      rw [hz] at w
      injection w with w
      rw [w]
      exact List.mem_cons_self ..]
    rw [puts_new b _ (fun e he => ?_) hn'.2]
    · rw [List.append_assoc]; rfl
    · rcases List.mem_append.mp he with he | he
      · obtain ⟨z, hz, hz2⟩ := h e he
        exact ⟨z, hz, fun w => hz2 (List.mem_cons_of_mem _ w)⟩
      · simp at he; subst he; exact ⟨r.1, rfl, hn'.1⟩
theorem pairs_enc : ∀ b : List Row, pairsD (b.map encR) = some (dctB b)
  | [] => rfl
  | r :: b => by
    show pairsD (.tuple [.str r.1, r.2.enc] :: b.map encR) = _
    rw [pairsD, pairs_enc b]
    rfl
theorem nm_cap {j : Nat} {n : Str} (h : nmOk j n) : ∃ c r, n.cps.toList = c :: r ∧ 65 ≤ c ∧ c ≤ 90 := by
  obtain ⟨b, ts, rfl, ⟨c, r, e, h1, h2, _⟩, _⟩ := h
  cases ts with
  | nil => exact ⟨c, r, by rw [join1]; exact e, h1, h2⟩
  | cons t ts => exact ⟨c, _, by rw [join2, str_app, str_app, e]; rfl, h1, h2⟩
theorem bookish_enc {b : List Row} (h0 : b ≠ []) (h : ∀ r ∈ b, nmOk 5 r.1) : bookish (b.map encR) = true := by
  unfold bookish
  have : (b.map encR).isEmpty = false := by
    cases b with
    | nil => exact absurd rfl h0
    | cons _ _ => rfl
  rw [this]
  simp only [Bool.not_false, Bool.true_and, List.all_eq_true]
  intro x hx
  obtain ⟨r, hr, rfl⟩ := List.mem_map.mp hx
  obtain ⟨c, t, e, h1, h2⟩ := nm_cap (h r hr)
  show bookRow (.tuple [.str r.1, r.2.enc]) = true
  simp only [bookRow, e]
  simp [h1, h2]
theorem dict_enc {b : List Row} (h : okB b) : oDict (encB b) = some (.dict (dctB b)) := by
  show (if bookish (b.map encR) = true then (pairsD (b.map encR)).map fun ps => PyData.dict (putsK [] ps) else none) = _
  rw [if_pos (bookish_enc h.ne h.nm), pairs_enc]
  show some (PyData.dict (putsK [] (dctB b))) = _
  rw [puts_new b [] (fun e he => by simp at he) (srt_nodup h.srt)]
  rfl
/-! ### the forms are right -/
def pWF (xs : List PyData) (y : PyData) : Prop := ∃ b, xs = [encB b] ∧ okB b ∧ y = .list []
theorem oLe_sss (s t : Str) : oLe (.str s) (.str t) = some (.bool (!decide (t.cps.toList < s.cps.toList))) := rfl
theorem len_row (r : Row) : oLen (encR r) = some (.int 2) := rfl
theorem isT_row (r : Row) : oIs "tuple" (encR r) = some (.bool true) := rfl
theorem ix_r0 (r : Row) : oIx (encR r) (.int 0) = some (.str r.1) := ix_0 _ _
theorem ix_r1 (r : Row) : oIx (encR r) (.int 1) = some r.2.enc := ix_1 _ _ _
theorem wf_loop {E : EK} {v0 : Option DV} {st : Store} {D : Fin} : ∀ (b : List Row) (m : Nat) (last : Str) (v2 v3 : Option DV),
    (∀ r ∈ b, nmOk 5 r.1 ∧ r.2.dep ≤ 30 ∧ r.2.parts ≤ 2000 ∧ ∀ n ∈ r.2.names, nmOk 5 n) → b.Pairwise (fun r s => ltT r.1 s.1) → (∀ r ∈ b, ltT last r.1) →
    (∀ l v2 v3, D.nx [v0, some (.d (.str l)), v2, v3] st) →
    forGo (DL.gTupN 2 (DL.gCons (gN 2) (DL.gCons (gN 3) DL.gNil))) (wSeq (wIf (wOr (wNot (wT (wUn (oIs "tuple") (wVar 3)))) (wOr (wT (wBin oNe (wUnS oLen (wVar 3)) (wC (.int 2)))) (wOr (wNot (wT (wCall (spF pNm) E (wCons (wBinS oIx (wVar 3) (wC (.int 0))) wNil)))) (wNot (wT (wCall (spF pKd) E (wCons (wBinS oIx (wVar 3) (wC (.int 1))) wNil))))))) (wRet (wLst (wCons (wVar 2) wNil))) wSkip)
    (wSeq (wIf (wT (wBin oLe (wBinS oIx (wVar 3) (wC (.int 0))) (wVar 1))) (wRet (wLst (wCons (wVar 2) wNil))) wSkip)
    (wAsg (wBinS oIx (wVar 3) (wC (.int 0))) (gN 1)))) D (enumL m (b.map encR)) [v0, some (.d (.str last)), v2, v3] st
  | [], m, last, v2, v3, _, _, _, q => q last v2 v3
  | r :: b, m, last, v2, v3, hk, hs, hl, q => by
    obtain ⟨h1, h2, h3, h4⟩ := hk r (List.mem_cons_self ..)
    rw [List.pairwise_cons] at hs
    have i2 : (((2 : Int)) == 2) = true := rfl
    have hlt : decide (last.cps.toList < r.1.cps.toList) = true := decide_eq_true (hl r (List.mem_cons_self ..))
    simp only [List.map_cons, enumL, forGo, wSeq, wIf, wRet, wRetN, wAsg, wExpr, wSkip, wBrk, wCnt, wVar, wC, wBin, wUn, wIfE, wT, wTr, wNot, wAnd, wOr, wAndV, wOrV, wChain, wBinS, wUnS, wOpN, wTup, wLst, wCons, wNil, wCall, wMs, wPar, wPar3, gN, gTupN, gCons, gNil, isD, isSt, isDc, optK_some, rd_d, rdS_d, frs_nil, frs_d, rds_nil, rds_d, on1, on2, asB_b, set0, setS, get0, getS, startE, List.map_cons, List.map_nil, List.length_cons, List.length_nil, List.replicate, List.cons_append, List.nil_append, List.append_nil, Option.map_some, Option.map_none, Option.bind_some, oEq_ss, oNe_ss, oEq_ii, oNe_ii, oAdd_ii, oSub_ii, ix_0, ix_1, ix_2, ix_k0, ix_n1, ix_p1, ix_p2, ix_e1, ix_e2, hd1, hd2, hd3, hd4, hd5, hd6, fin_rt, fin_nx, ret_d, if_true, if_false, Bool.false_eq_true, Bool.true_eq_false, Bool.not_true, Bool.not_false, beq_self_eq_true, decide_true, decide_false, true_and, and_true, lit0, lit1, lit2, lit3, lit4, lit5, lit6, lit7, lit8, lit9, lit10, wYes, isT_row, len_row, ix_r0, ix_r1]
    refine spF_go (xs := [.str r.1]) ⟨r.1, rfl, h1, rfl⟩ ?_
    simp only [wSeq, wIf, wRet, wRetN, wAsg, wExpr, wSkip, wBrk, wCnt, wVar, wC, wBin, wUn, wIfE, wT, wTr, wNot, wAnd, wOr, wAndV, wOrV, wChain, wBinS, wUnS, wOpN, wTup, wLst, wCons, wNil, wCall, wMs, wPar, wPar3, gN, gTupN, gCons, gNil, isD, isSt, isDc, optK_some, rd_d, rdS_d, frs_nil, frs_d, rds_nil, rds_d, on1, on2, asB_b, set0, setS, get0, getS, startE, List.map_cons, List.map_nil, List.length_cons, List.length_nil, List.replicate, List.cons_append, List.nil_append, List.append_nil, Option.map_some, Option.map_none, Option.bind_some, oEq_ss, oNe_ss, oEq_ii, oNe_ii, oAdd_ii, oSub_ii, ix_0, ix_1, ix_2, ix_k0, ix_n1, ix_p1, ix_p2, ix_e1, ix_e2, hd1, hd2, hd3, hd4, hd5, hd6, fin_rt, fin_nx, ret_d, if_true, if_false, Bool.false_eq_true, Bool.true_eq_false, Bool.not_true, Bool.not_false, beq_self_eq_true, decide_true, decide_false, true_and, and_true, lit0, lit1, lit2, lit3, lit4, lit5, lit6, lit7, lit8, lit9, lit10, wYes]
    refine spF_go (xs := [r.2.enc]) ⟨r.2, rfl, h2, h3, h4, rfl⟩ ?_
    simp only [wSeq, wIf, wRet, wRetN, wAsg, wExpr, wSkip, wBrk, wCnt, wVar, wC, wBin, wUn, wIfE, wT, wTr, wNot, wAnd, wOr, wAndV, wOrV, wChain, wBinS, wUnS, wOpN, wTup, wLst, wCons, wNil, wCall, wMs, wPar, wPar3, gN, gTupN, gCons, gNil, isD, isSt, isDc, optK_some, rd_d, rdS_d, frs_nil, frs_d, rds_nil, rds_d, on1, on2, asB_b, set0, setS, get0, getS, startE, List.map_cons, List.map_nil, List.length_cons, List.length_nil, List.replicate, List.cons_append, List.nil_append, List.append_nil, Option.map_some, Option.map_none, Option.bind_some, oEq_ss, oNe_ss, oEq_ii, oNe_ii, oAdd_ii, oSub_ii, ix_0, ix_1, ix_2, ix_k0, ix_n1, ix_p1, ix_p2, ix_e1, ix_e2, hd1, hd2, hd3, hd4, hd5, hd6, fin_rt, fin_nx, ret_d, if_true, if_false, Bool.false_eq_true, Bool.true_eq_false, Bool.not_true, Bool.not_false, beq_self_eq_true, decide_true, decide_false, true_and, and_true, lit0, lit1, lit2, lit3, lit4, lit5, lit6, lit7, lit8, lit9, lit10, wYes, ix_r0, oLe_sss, hlt]
    exact wf_loop b (m + 1) r.1 _ _ (fun x hx => hk x (List.mem_cons_of_mem _ hx)) hs.2 hs.1 q
theorem keeps_wrong_forms : Keeps 4 (spF pWF) (b_wrong_forms (spF pKd) (spF pNm)) := by
  rintro args st Q E ⟨xs, y, rfl, ⟨b, rfl, hb, rfl⟩, q⟩
  simp only [b_wrong_forms, wSeq, wIf, wRet, wRetN, wAsg, wExpr, wSkip, wBrk, wCnt, wVar, wC, wBin, wUn, wIfE, wT, wTr, wNot, wAnd, wOr, wAndV, wOrV, wChain, wBinS, wUnS, wOpN, wTup, wLst, wCons, wNil, wCall, wMs, wPar, wPar3, gN, gTupN, gCons, gNil, isD, isSt, isDc, optK_some, rd_d, rdS_d, frs_nil, frs_d, rds_nil, rds_d, on1, on2, asB_b, set0, setS, get0, getS, startE, List.map_cons, List.map_nil, List.length_cons, List.length_nil, List.replicate, List.cons_append, List.nil_append, List.append_nil, Option.map_some, Option.map_none, Option.bind_some, oEq_ss, oNe_ss, oEq_ii, oNe_ii, oAdd_ii, oSub_ii, ix_0, ix_1, ix_2, ix_k0, ix_n1, ix_p1, ix_p2, ix_e1, ix_e2, hd1, hd2, hd3, hd4, hd5, hd6, fin_rt, fin_nx, ret_d, if_true, if_false, Bool.false_eq_true, Bool.true_eq_false, Bool.not_true, Bool.not_false, beq_self_eq_true, decide_true, decide_false, true_and, and_true, lit0, lit1, lit2, lit3, lit4, lit5, lit6, lit7, lit8, lit9, lit10, wYes, wFor, iEnumD, encB, itemsOf]
  refine wf_loop b 0 "" _ _ (fun r hr => ⟨hb.nm r hr, hb.kd r hr⟩) hb.srt (fun r hr => ?_) fun l v2 v3 => ?_
  · obtain ⟨c, t, e, _⟩ := nm_cap (hb.nm r hr)
    show ([] : List Nat) < r.1.cps.toList
    rw [e]
    exact List.nil_lt_cons ..
  · simp only [wSeq, wIf, wRet, wRetN, wAsg, wExpr, wSkip, wBrk, wCnt, wVar, wC, wBin, wUn, wIfE, wT, wTr, wNot, wAnd, wOr, wAndV, wOrV, wChain, wBinS, wUnS, wOpN, wTup, wLst, wCons, wNil, wCall, wMs, wPar, wPar3, gN, gTupN, gCons, gNil, isD, isSt, isDc, optK_some, rd_d, rdS_d, frs_nil, frs_d, rds_nil, rds_d, on1, on2, asB_b, set0, setS, get0, getS, startE, List.map_cons, List.map_nil, List.length_cons, List.length_nil, List.replicate, List.cons_append, List.nil_append, List.append_nil, Option.map_some, Option.map_none, Option.bind_some, oEq_ss, oNe_ss, oEq_ii, oNe_ii, oAdd_ii, oSub_ii, ix_0, ix_1, ix_2, ix_k0, ix_n1, ix_p1, ix_p2, ix_e1, ix_e2, hd1, hd2, hd3, hd4, hd5, hd6, fin_rt, fin_nx, ret_d, if_true, if_false, Bool.false_eq_true, Bool.true_eq_false, Bool.not_true, Bool.not_false, beq_self_eq_true, decide_true, decide_false, true_and, and_true, lit0, lit1, lit2, lit3, lit4, lit5, lit6, lit7, lit8, lit9, lit10, wYes]
    exact q
end DL.K20
/-! text K20P7 -/
namespace DL.K20
open PySem DL
theorem len_cps (s : Str) : s.length = s.cps.toList.length := by simp [Str.length]
theorem sl_pre (a t : Str) (h : (a ++ tick ++ t).length ≤ 10000000) : oSl (.str (a ++ tick ++ t)) none (some ((a.length : Nat) : Int)) = some (.str a) := by
  show (if (a ++ tick ++ t).length ≤ lim then some (PyData.str (L2.cutS (a ++ tick ++ t) none (some ((a.length : Nat) : Int)))) else none) = _
  rw [if_pos (lim_of h)]
  have hl : (a ++ tick ++ t).length = a.length + 1 + t.length := by rw [str_len_append, str_len_append, len1]
  have : L2.cutS (a ++ tick ++ t) none (some ((a.length : Nat) : Int)) = a := by
    apply str_ext
    unfold L2.cutS
    rw [HT.sIx_none, HT.sIx_nat, hl]
    have e1 : min a.length (a.length + 1 + t.length) = a.length := by omega
    rw [e1]
    simp only [List.drop_zero, Nat.sub_zero]
    rw [str_app, str_app, List.append_assoc, len_cps a]
    simp
  rw [this]
theorem sl_post (a t : Str) (h : (a ++ tick ++ t).length ≤ 10000000) : oSl (.str (a ++ tick ++ t)) (some (((a.length : Nat) : Int) + 1)) none = some (.str t) := by
  show (if (a ++ tick ++ t).length ≤ lim then some (PyData.str (L2.cutS (a ++ tick ++ t) (some (((a.length : Nat) : Int) + 1)) none)) else none) = _
  rw [if_pos (lim_of h)]
  have hl : (a ++ tick ++ t).length = a.length + 1 + t.length := by rw [str_len_append, str_len_append, len1]
  have : L2.cutS (a ++ tick ++ t) (some (((a.length : Nat) : Int) + 1)) none = t := by
    apply str_ext
    unfold L2.cutS
    have ec : ((a.length : Nat) : Int) + 1 = ((a.length + 1 : Nat) : Int) := by omega
    rw [HT.sIx_none, ec, HT.sIx_nat, hl]
    have e1 : min (a.length + 1) (a.length + 1 + t.length) = a.length + 1 := by omega
    rw [e1]
    have e2 : a.length + 1 + t.length - (a.length + 1) = t.length := by omega
    rw [e2, str_app, str_app, tick_cps, List.append_assoc, len_cps a, len_cps t]
    have e3 : List.drop (a.cps.toList.length + 1) (a.cps.toList ++ ([39] ++ t.cps.toList)) = t.cps.toList := by
      rw [List.drop_append]
      simp
    rw [e3]
    exact List.take_of_length_le (Nat.le_refl _)
  rw [this]
def pIM (xs : List PyData) (y : PyData) : Prop := ∃ b r, xs = [.dict (dctB b), .str r.1, r.2.enc] ∧ okB b ∧ r ∈ b ∧ y = .bool true
theorem gapOf_gap {t : Str} (h : tailOk t) : isGap (gapOf t) := by
  unfold gapOf
  by_cases e : t = ""
  · rw [if_pos e]; exact .inl rfl
  · rw [if_neg e]; exact .inr ⟨t, rfl, by have := tail_len h; omega⟩
theorem nm_len900 {b : List Row} (h : okB b) {r : Row} (hr : r ∈ b) : ∀ n ∈ r.2.names, n.length ≤ 900 := fun n hn => by
  have := (nmOk_len ((h.kd r hr).2.2 n hn)).2
  omega
theorem keeps_is_made : Keeps 6 (spF pIM) (b_is_made (spF (pKB 30))) := by
  rintro args st Q E ⟨xs, y, rfl, ⟨b, r, rfl, hb, hr, rfl⟩, q⟩
  have tk : (PyData.str "'") = PyData.str (⟨#[39]⟩ : Str) := rfl
  rcases hb.made r hr with hw | ⟨base, t, k0, hbase, ht, hmem, hby, htin⟩
  · have hf : 39 ∉ r.1.cps.toList := wname_free hw
    simp only [b_is_made, wSeq, wIf, wRet, wRetN, wAsg, wExpr, wSkip, wBrk, wCnt, wVar, wC, wBin, wUn, wIfE, wT, wTr, wNot, wAnd, wOr, wAndV, wOrV, wChain, wBinS, wUnS, wOpN, wTup, wLst, wCons, wNil, wCall, wMs, wPar, wPar3, gN, gTupN, gCons, gNil, isD, isSt, isDc, optK_some, rd_d, rdS_d, frs_nil, frs_d, rds_nil, rds_d, on1, on2, asB_b, set0, setS, get0, getS, startE, List.map_cons, List.map_nil, List.length_cons, List.length_nil, List.replicate, List.cons_append, List.nil_append, List.append_nil, Option.map_some, Option.map_none, Option.bind_some, oEq_ss, oNe_ss, oEq_ii, oNe_ii, oAdd_ii, oSub_ii, ix_0, ix_1, ix_2, ix_k0, ix_n1, ix_p1, ix_p2, ix_e1, ix_e2, hd1, hd2, hd3, hd4, hd5, hd6, fin_rt, fin_nx, ret_d, if_true, if_false, Bool.false_eq_true, Bool.true_eq_false, Bool.not_true, Bool.not_false, beq_self_eq_true, decide_true, decide_false, true_and, and_true, lit0, lit1, lit2, lit3, lit4, lit5, lit6, lit7, lit8, lit9, lit10, wYes]
    rw [tk]
    simp only [notin_sign, decide_eq_false hf, wSeq, wIf, wRet, wRetN, wAsg, wExpr, wSkip, wBrk, wCnt, wVar, wC, wBin, wUn, wIfE, wT, wTr, wNot, wAnd, wOr, wAndV, wOrV, wChain, wBinS, wUnS, wOpN, wTup, wLst, wCons, wNil, wCall, wMs, wPar, wPar3, gN, gTupN, gCons, gNil, isD, isSt, isDc, optK_some, rd_d, rdS_d, frs_nil, frs_d, rds_nil, rds_d, on1, on2, asB_b, set0, setS, get0, getS, startE, List.map_cons, List.map_nil, List.length_cons, List.length_nil, List.replicate, List.cons_append, List.nil_append, List.append_nil, Option.map_some, Option.map_none, Option.bind_some, oEq_ss, oNe_ss, oEq_ii, oNe_ii, oAdd_ii, oSub_ii, ix_0, ix_1, ix_2, ix_k0, ix_n1, ix_p1, ix_p2, ix_e1, ix_e2, hd1, hd2, hd3, hd4, hd5, hd6, fin_rt, fin_nx, ret_d, if_true, if_false, Bool.false_eq_true, Bool.true_eq_false, Bool.not_true, Bool.not_false, beq_self_eq_true, decide_true, decide_false, true_and, and_true, lit0, lit1, lit2, lit3, lit4, lit5, lit6, lit7, lit8, lit9, lit10, wYes]
    exact q
  · obtain ⟨n, k⟩ := r
    simp only at hbase hby ⊢
    subst hbase
    have hin : 39 ∈ (base ++ tick ++ t).cps.toList := by rw [str_app, str_app, tick_cps]; simp
    have hlen : (base ++ tick ++ t).length ≤ 10000000 := by
      have := (nmOk_len (hb.nm _ hr)).2
      simp only at this
      omega
    have hnd := srt_nodup hb.srt
    have hb1 : base ∈ b.map (·.1) := List.mem_map.mpr ⟨_, hmem, rfl⟩
    have hrx : oRindex (base ++ tick ++ t) (.str (⟨#[39]⟩ : Str)) = some (.int ((base.length : Nat) : Int)) := by
      show (Builtin.Str.lastOccurrence (base ++ tick ++ t) tick 0 (base ++ tick ++ t).length).map (fun k => PyData.int (k : Nat)) = _
      rw [rindex_snoc base t (tail_free ht)]
      rfl
    have hkd := hb.kd _ hmem
    have hix : oIx (.dict (dctB b)) (.str base) = some k0.enc := by
      show (if isKey (.str base) = true then lookK (dctB b) (.str base) else none) = _
      rw [if_pos (show isKey (.str base) = true from rfl), look_dct hnd hmem]
    have hkr := hb.kd _ hr
    simp only at hkr
    have hcmp : oEq k.enc (byK k0 (gapOf t)).enc = some (.bool true) := by
      rw [hby] at hkr ⊢
      rw [oEq_kk (by omega), decide_eq_true rfl]
    simp only [b_is_made, wSeq, wIf, wRet, wRetN, wAsg, wExpr, wSkip, wBrk, wCnt, wVar, wC, wBin, wUn, wIfE, wT, wTr, wNot, wAnd, wOr, wAndV, wOrV, wChain, wBinS, wUnS, wOpN, wTup, wLst, wCons, wNil, wCall, wMs, wPar, wPar3, gN, gTupN, gCons, gNil, isD, isSt, isDc, optK_some, rd_d, rdS_d, frs_nil, frs_d, rds_nil, rds_d, on1, on2, asB_b, set0, setS, get0, getS, startE, List.map_cons, List.map_nil, List.length_cons, List.length_nil, List.replicate, List.cons_append, List.nil_append, List.append_nil, Option.map_some, Option.map_none, Option.bind_some, oEq_ss, oNe_ss, oEq_ii, oNe_ii, oAdd_ii, oSub_ii, ix_0, ix_1, ix_2, ix_k0, ix_n1, ix_p1, ix_p2, ix_e1, ix_e2, hd1, hd2, hd3, hd4, hd5, hd6, fin_rt, fin_nx, ret_d, if_true, if_false, Bool.false_eq_true, Bool.true_eq_false, Bool.not_true, Bool.not_false, beq_self_eq_true, decide_true, decide_false, true_and, and_true, lit0, lit1, lit2, lit3, lit4, lit5, lit6, lit7, lit8, lit9, lit10, wYes]
    rw [tk]
    simp only [notin_sign, decide_eq_true hin, wSeq, wIf, wRet, wRetN, wAsg, wExpr, wSkip, wBrk, wCnt, wVar, wC, wBin, wUn, wIfE, wT, wTr, wNot, wAnd, wOr, wAndV, wOrV, wChain, wBinS, wUnS, wOpN, wTup, wLst, wCons, wNil, wCall, wMs, wPar, wPar3, gN, gTupN, gCons, gNil, isD, isSt, isDc, optK_some, rd_d, rdS_d, frs_nil, frs_d, rds_nil, rds_d, on1, on2, asB_b, set0, setS, get0, getS, startE, List.map_cons, List.map_nil, List.length_cons, List.length_nil, List.replicate, List.cons_append, List.nil_append, List.append_nil, Option.map_some, Option.map_none, Option.bind_some, oEq_ss, oNe_ss, oEq_ii, oNe_ii, oAdd_ii, oSub_ii, ix_0, ix_1, ix_2, ix_k0, ix_n1, ix_p1, ix_p2, ix_e1, ix_e2, hd1, hd2, hd3, hd4, hd5, hd6, fin_rt, fin_nx, ret_d, if_true, if_false, Bool.false_eq_true, Bool.true_eq_false, Bool.not_true, Bool.not_false, beq_self_eq_true, decide_true, decide_false, true_and, and_true, lit0, lit1, lit2, lit3, lit4, lit5, lit6, lit7, lit8, lit9, lit10, wYes, hrx, wSl, wOS, wON, asI, sl_pre base t hlen, sl_post base t hlen, notin_dict, has_dct hnd hb1]
    by_cases hte : t = ""
    · subst hte
      simp only [wSeq, wIf, wRet, wRetN, wAsg, wExpr, wSkip, wBrk, wCnt, wVar, wC, wBin, wUn, wIfE, wT, wTr, wNot, wAnd, wOr, wAndV, wOrV, wChain, wBinS, wUnS, wOpN, wTup, wLst, wCons, wNil, wCall, wMs, wPar, wPar3, gN, gTupN, gCons, gNil, isD, isSt, isDc, optK_some, rd_d, rdS_d, frs_nil, frs_d, rds_nil, rds_d, on1, on2, asB_b, set0, setS, get0, getS, startE, List.map_cons, List.map_nil, List.length_cons, List.length_nil, List.replicate, List.cons_append, List.nil_append, List.append_nil, Option.map_some, Option.map_none, Option.bind_some, oEq_ss, oNe_ss, oEq_ii, oNe_ii, oAdd_ii, oSub_ii, ix_0, ix_1, ix_2, ix_k0, ix_n1, ix_p1, ix_p2, ix_e1, ix_e2, hd1, hd2, hd3, hd4, hd5, hd6, fin_rt, fin_nx, ret_d, if_true, if_false, Bool.false_eq_true, Bool.true_eq_false, Bool.not_true, Bool.not_false, beq_self_eq_true, decide_true, decide_false, true_and, and_true, lit0, lit1, lit2, lit3, lit4, lit5, lit6, lit7, lit8, lit9, lit10, wYes, hix]
      have hcmp' : oEq k.enc (byK k0 .thing).enc = some (.bool true) := hcmp
      refine spF_go (xs := [k0.enc, Kd.thing.enc]) ⟨k0, .thing, rfl, .inl rfl, hkd.1, nm_len900 hb hmem, rfl⟩ ?_
      simp only [wSeq, wIf, wRet, wRetN, wAsg, wExpr, wSkip, wBrk, wCnt, wVar, wC, wBin, wUn, wIfE, wT, wTr, wNot, wAnd, wOr, wAndV, wOrV, wChain, wBinS, wUnS, wOpN, wTup, wLst, wCons, wNil, wCall, wMs, wPar, wPar3, gN, gTupN, gCons, gNil, isD, isSt, isDc, optK_some, rd_d, rdS_d, frs_nil, frs_d, rds_nil, rds_d, on1, on2, asB_b, set0, setS, get0, getS, startE, List.map_cons, List.map_nil, List.length_cons, List.length_nil, List.replicate, List.cons_append, List.nil_append, List.append_nil, Option.map_some, Option.map_none, Option.bind_some, oEq_ss, oNe_ss, oEq_ii, oNe_ii, oAdd_ii, oSub_ii, ix_0, ix_1, ix_2, ix_k0, ix_n1, ix_p1, ix_p2, ix_e1, ix_e2, hd1, hd2, hd3, hd4, hd5, hd6, fin_rt, fin_nx, ret_d, if_true, if_false, Bool.false_eq_true, Bool.true_eq_false, Bool.not_true, Bool.not_false, beq_self_eq_true, decide_true, decide_false, true_and, and_true, lit0, lit1, lit2, lit3, lit4, lit5, lit6, lit7, lit8, lit9, lit10, wYes, hcmp']
      exact q
    · have hne : (t == ("" : Str)) = false := by simpa using hte
      have hg : gapOf t = .name t := if_neg hte
      rw [hg] at hcmp
      simp only [wSeq, wIf, wRet, wRetN, wAsg, wExpr, wSkip, wBrk, wCnt, wVar, wC, wBin, wUn, wIfE, wT, wTr, wNot, wAnd, wOr, wAndV, wOrV, wChain, wBinS, wUnS, wOpN, wTup, wLst, wCons, wNil, wCall, wMs, wPar, wPar3, gN, gTupN, gCons, gNil, isD, isSt, isDc, optK_some, rd_d, rdS_d, frs_nil, frs_d, rds_nil, rds_d, on1, on2, asB_b, set0, setS, get0, getS, startE, List.map_cons, List.map_nil, List.length_cons, List.length_nil, List.replicate, List.cons_append, List.nil_append, List.append_nil, Option.map_some, Option.map_none, Option.bind_some, oEq_ss, oNe_ss, oEq_ii, oNe_ii, oAdd_ii, oSub_ii, ix_0, ix_1, ix_2, ix_k0, ix_n1, ix_p1, ix_p2, ix_e1, ix_e2, hd1, hd2, hd3, hd4, hd5, hd6, fin_rt, fin_nx, ret_d, if_true, if_false, Bool.false_eq_true, Bool.true_eq_false, Bool.not_true, Bool.not_false, beq_self_eq_true, decide_true, decide_false, true_and, and_true, lit0, lit1, lit2, lit3, lit4, lit5, lit6, lit7, lit8, lit9, lit10, wYes, hne, has_dct hnd (htin hte), hix]
      refine spF_go (xs := [k0.enc, (Kd.name t).enc]) ⟨k0, .name t, rfl, .inr ⟨t, rfl, by have := tail_len ht; omega⟩, hkd.1, nm_len900 hb hmem, rfl⟩ ?_
      simp only [wSeq, wIf, wRet, wRetN, wAsg, wExpr, wSkip, wBrk, wCnt, wVar, wC, wBin, wUn, wIfE, wT, wTr, wNot, wAnd, wOr, wAndV, wOrV, wChain, wBinS, wUnS, wOpN, wTup, wLst, wCons, wNil, wCall, wMs, wPar, wPar3, gN, gTupN, gCons, gNil, isD, isSt, isDc, optK_some, rd_d, rdS_d, frs_nil, frs_d, rds_nil, rds_d, on1, on2, asB_b, set0, setS, get0, getS, startE, List.map_cons, List.map_nil, List.length_cons, List.length_nil, List.replicate, List.cons_append, List.nil_append, List.append_nil, Option.map_some, Option.map_none, Option.bind_some, oEq_ss, oNe_ss, oEq_ii, oNe_ii, oAdd_ii, oSub_ii, ix_0, ix_1, ix_2, ix_k0, ix_n1, ix_p1, ix_p2, ix_e1, ix_e2, hd1, hd2, hd3, hd4, hd5, hd6, fin_rt, fin_nx, ret_d, if_true, if_false, Bool.false_eq_true, Bool.true_eq_false, Bool.not_true, Bool.not_false, beq_self_eq_true, decide_true, decide_false, true_and, and_true, lit0, lit1, lit2, lit3, lit4, lit5, lit6, lit7, lit8, lit9, lit10, wYes, hcmp]
      exact q
def pWB (xs : List PyData) (y : PyData) : Prop := ∃ b, xs = [encB b] ∧ okB b ∧ y = .list []
theorem isT_b (b : List Row) : oIs "tuple" (encB b) = some (.bool true) := rfl
theorem len_b (b : List Row) : oLen (encB b) = some (.int (b.length : Nat)) := by
  show some (PyData.int ((b.map encR).length : Nat)) = _
  rw [List.length_map]
theorem enum_mem {xs : List PyData} {m : Nat} {x : DV} (h : x ∈ enumL m xs) : ∃ i y, y ∈ xs ∧ x = .d (.tuple [.int i, y]) := by
  induction xs generalizing m with
  | nil => simp [enumL] at h
  | cons y ys ih =>
    rcases List.mem_cons.mp h with h | h
    · exact ⟨_, y, List.mem_cons_self .., h⟩
    · obtain ⟨i, z, hz, e⟩ := ih h
      exact ⟨i, z, List.mem_cons_of_mem _ hz, e⟩
theorem filter_none {α : Type} (xs : List α) : xs.filter (fun _ => false) = [] := by simp
theorem ll_ne : oNe (.list []) (.list []) = some (.bool false) := rfl
theorem ll_eq : oEq (.list []) (.list []) = some (.bool true) := rfl
theorem keeps_wrong_in_book : Keeps 7 (spF pWB) (b_wrong_in_book (spF pIM) (spR (preNB 30) relNB) (spF pWF)) := by
  rintro args st Q E ⟨xs, y, rfl, ⟨b, rfl, hb, rfl⟩, q⟩
  have d1 : decide ((80 : Int) < ((b.length : Nat) : Int)) = false := decide_eq_false (by have := hb.len; omega)
  have hnd := srt_nodup hb.srt
  simp only [b_wrong_in_book, wSeq, wIf, wRet, wRetN, wAsg, wExpr, wSkip, wBrk, wCnt, wVar, wC, wBin, wUn, wIfE, wT, wTr, wNot, wAnd, wOr, wAndV, wOrV, wChain, wBinS, wUnS, wOpN, wTup, wLst, wCons, wNil, wCall, wMs, wPar, wPar3, gN, gTupN, gCons, gNil, isD, isSt, isDc, optK_some, rd_d, rdS_d, frs_nil, frs_d, rds_nil, rds_d, on1, on2, asB_b, set0, setS, get0, getS, startE, List.map_cons, List.map_nil, List.length_cons, List.length_nil, List.replicate, List.cons_append, List.nil_append, List.append_nil, Option.map_some, Option.map_none, Option.bind_some, oEq_ss, oNe_ss, oEq_ii, oNe_ii, oAdd_ii, oSub_ii, ix_0, ix_1, ix_2, ix_k0, ix_n1, ix_p1, ix_p2, ix_e1, ix_e2, hd1, hd2, hd3, hd4, hd5, hd6, fin_rt, fin_nx, ret_d, if_true, if_false, Bool.false_eq_true, Bool.true_eq_false, Bool.not_true, Bool.not_false, beq_self_eq_true, decide_true, decide_false, true_and, and_true, lit0, lit1, lit2, lit3, lit4, lit5, lit6, lit7, lit8, lit9, lit10, wYes, isT_b, len_b, oGt_ii, g_MOST_NAMES, d1]
  refine spF_go (xs := [encB b]) ⟨b, rfl, hb, rfl⟩ ?_
  simp only [wSeq, wIf, wRet, wRetN, wAsg, wExpr, wSkip, wBrk, wCnt, wVar, wC, wBin, wUn, wIfE, wT, wTr, wNot, wAnd, wOr, wAndV, wOrV, wChain, wBinS, wUnS, wOpN, wTup, wLst, wCons, wNil, wCall, wMs, wPar, wPar3, gN, gTupN, gCons, gNil, isD, isSt, isDc, optK_some, rd_d, rdS_d, frs_nil, frs_d, rds_nil, rds_d, on1, on2, asB_b, set0, setS, get0, getS, startE, List.map_cons, List.map_nil, List.length_cons, List.length_nil, List.replicate, List.cons_append, List.nil_append, List.append_nil, Option.map_some, Option.map_none, Option.bind_some, oEq_ss, oNe_ss, oEq_ii, oNe_ii, oAdd_ii, oSub_ii, ix_0, ix_1, ix_2, ix_k0, ix_n1, ix_p1, ix_p2, ix_e1, ix_e2, hd1, hd2, hd3, hd4, hd5, hd6, fin_rt, fin_nx, ret_d, if_true, if_false, Bool.false_eq_true, Bool.true_eq_false, Bool.not_true, Bool.not_false, beq_self_eq_true, decide_true, decide_false, true_and, and_true, lit0, lit1, lit2, lit3, lit4, lit5, lit6, lit7, lit8, lit9, lit10, wYes, ll_ne, dict_enc hb, wLc, iEnumD, itemsOf, encB, wipeE]
  rw [show PyData.tuple (b.map encR) = encB b from rfl]
  simp only [dict_enc hb, wSeq, wIf, wRet, wRetN, wAsg, wExpr, wSkip, wBrk, wCnt, wVar, wC, wBin, wUn, wIfE, wT, wTr, wNot, wAnd, wOr, wAndV, wOrV, wChain, wBinS, wUnS, wOpN, wTup, wLst, wCons, wNil, wCall, wMs, wPar, wPar3, gN, gTupN, gCons, gNil, isD, isSt, isDc, optK_some, rd_d, rdS_d, frs_nil, frs_d, rds_nil, rds_d, on1, on2, asB_b, set0, setS, get0, getS, startE, List.map_cons, List.map_nil, List.length_cons, List.length_nil, List.replicate, List.cons_append, List.nil_append, List.append_nil, Option.map_some, Option.map_none, Option.bind_some, oEq_ss, oNe_ss, oEq_ii, oNe_ii, oAdd_ii, oSub_ii, ix_0, ix_1, ix_2, ix_k0, ix_n1, ix_p1, ix_p2, ix_e1, ix_e2, hd1, hd2, hd3, hd4, hd5, hd6, fin_rt, fin_nx, ret_d, if_true, if_false, Bool.false_eq_true, Bool.true_eq_false, Bool.not_true, Bool.not_false, beq_self_eq_true, decide_true, decide_false, true_and, and_true, lit0, lit1, lit2, lit3, lit4, lit5, lit6, lit7, lit8, lit9, lit10, wYes]
  refine lc_go (fun _ => false) (fun _ => .none) _ [] (fun x hx K1 K2 hk1 => ?_) ?_
  · obtain ⟨i, y, hy, rfl⟩ := enum_mem hx
    obtain ⟨r, hr, rfl⟩ := List.mem_map.mp hy
    have hk' : K2 st := by simpa using hk1
    obtain ⟨h2, h3, h4⟩ := hb.kd r hr
    simp only [encR, wSeq, wIf, wRet, wRetN, wAsg, wExpr, wSkip, wBrk, wCnt, wVar, wC, wBin, wUn, wIfE, wT, wTr, wNot, wAnd, wOr, wAndV, wOrV, wChain, wBinS, wUnS, wOpN, wTup, wLst, wCons, wNil, wCall, wMs, wPar, wPar3, gN, gTupN, gCons, gNil, isD, isSt, isDc, optK_some, rd_d, rdS_d, frs_nil, frs_d, rds_nil, rds_d, on1, on2, asB_b, set0, setS, get0, getS, startE, List.map_cons, List.map_nil, List.length_cons, List.length_nil, List.replicate, List.cons_append, List.nil_append, List.append_nil, Option.map_some, Option.map_none, Option.bind_some, oEq_ss, oNe_ss, oEq_ii, oNe_ii, oAdd_ii, oSub_ii, ix_0, ix_1, ix_2, ix_k0, ix_n1, ix_p1, ix_p2, ix_e1, ix_e2, hd1, hd2, hd3, hd4, hd5, hd6, fin_rt, fin_nx, ret_d, if_true, if_false, Bool.false_eq_true, Bool.true_eq_false, Bool.not_true, Bool.not_false, beq_self_eq_true, decide_true, decide_false, true_and, and_true, lit0, lit1, lit2, lit3, lit4, lit5, lit6, lit7, lit8, lit9, lit10, wYes, wLc, iKeysD]
    refine spR_go (xs := [r.2.enc]) ⟨r.2, rfl, h2, by omega⟩ fun y hy => ?_
    obtain ⟨kvs, rfl, ho, hl⟩ := hy r.2 rfl
    simp only [wSeq, wIf, wRet, wRetN, wAsg, wExpr, wSkip, wBrk, wCnt, wVar, wC, wBin, wUn, wIfE, wT, wTr, wNot, wAnd, wOr, wAndV, wOrV, wChain, wBinS, wUnS, wOpN, wTup, wLst, wCons, wNil, wCall, wMs, wPar, wPar3, gN, gTupN, gCons, gNil, isD, isSt, isDc, optK_some, rd_d, rdS_d, frs_nil, frs_d, rds_nil, rds_d, on1, on2, asB_b, set0, setS, get0, getS, startE, List.map_cons, List.map_nil, List.length_cons, List.length_nil, List.replicate, List.cons_append, List.nil_append, List.append_nil, Option.map_some, Option.map_none, Option.bind_some, oEq_ss, oNe_ss, oEq_ii, oNe_ii, oAdd_ii, oSub_ii, ix_0, ix_1, ix_2, ix_k0, ix_n1, ix_p1, ix_p2, ix_e1, ix_e2, hd1, hd2, hd3, hd4, hd5, hd6, fin_rt, fin_nx, ret_d, if_true, if_false, Bool.false_eq_true, Bool.true_eq_false, Bool.not_true, Bool.not_false, beq_self_eq_true, decide_true, decide_false, true_and, and_true, lit0, lit1, lit2, lit3, lit4, lit5, lit6, lit7, lit8, lit9, lit10, wYes, wipeE]
    refine ⟨lim_of (by omega), ?_⟩
    refine lc_go (fun _ => true) (fun _ => .bool true) _ [] (fun x hx K3 K4 hk2 => ?_) ?_
    · obtain ⟨e, he, rfl⟩ := List.mem_map.mp hx
      obtain ⟨z, hz, rfl⟩ := ho e he
      have hk3 : K3 (.bool true) st := by simpa using hk2
      simp only [wSeq, wIf, wRet, wRetN, wAsg, wExpr, wSkip, wBrk, wCnt, wVar, wC, wBin, wUn, wIfE, wT, wTr, wNot, wAnd, wOr, wAndV, wOrV, wChain, wBinS, wUnS, wOpN, wTup, wLst, wCons, wNil, wCall, wMs, wPar, wPar3, gN, gTupN, gCons, gNil, isD, isSt, isDc, optK_some, rd_d, rdS_d, frs_nil, frs_d, rds_nil, rds_d, on1, on2, asB_b, set0, setS, get0, getS, startE, List.map_cons, List.map_nil, List.length_cons, List.length_nil, List.replicate, List.cons_append, List.nil_append, List.append_nil, Option.map_some, Option.map_none, Option.bind_some, oEq_ss, oNe_ss, oEq_ii, oNe_ii, oAdd_ii, oSub_ii, ix_0, ix_1, ix_2, ix_k0, ix_n1, ix_p1, ix_p2, ix_e1, ix_e2, hd1, hd2, hd3, hd4, hd5, hd6, fin_rt, fin_nx, ret_d, if_true, if_false, Bool.false_eq_true, Bool.true_eq_false, Bool.not_true, Bool.not_false, beq_self_eq_true, decide_true, decide_false, true_and, and_true, lit0, lit1, lit2, lit3, lit4, lit5, lit6, lit7, lit8, lit9, lit10, wYes, in_dict, has_dct hnd (hb.inn r hr z hz)]
      exact hk3
    · simp only [filter_all, List.nil_append, wSeq, wIf, wRet, wRetN, wAsg, wExpr, wSkip, wBrk, wCnt, wVar, wC, wBin, wUn, wIfE, wT, wTr, wNot, wAnd, wOr, wAndV, wOrV, wChain, wBinS, wUnS, wOpN, wTup, wLst, wCons, wNil, wCall, wMs, wPar, wPar3, gN, gTupN, gCons, gNil, isD, isSt, isDc, optK_some, rd_d, rdS_d, frs_nil, frs_d, rds_nil, rds_d, on1, on2, asB_b, set0, setS, get0, getS, startE, List.map_cons, List.map_nil, List.length_cons, List.length_nil, List.replicate, List.cons_append, List.nil_append, List.append_nil, Option.map_some, Option.map_none, Option.bind_some, oEq_ss, oNe_ss, oEq_ii, oNe_ii, oAdd_ii, oSub_ii, ix_0, ix_1, ix_2, ix_k0, ix_n1, ix_p1, ix_p2, ix_e1, ix_e2, hd1, hd2, hd3, hd4, hd5, hd6, fin_rt, fin_nx, ret_d, if_true, if_false, Bool.false_eq_true, Bool.true_eq_false, Bool.not_true, Bool.not_false, beq_self_eq_true, decide_true, decide_false, true_and, and_true, lit0, lit1, lit2, lit3, lit4, lit5, lit6, lit7, lit8, lit9, lit10, wYes, all_true]
      exact hk'
  · simp only [filter_none, wSeq, wIf, wRet, wRetN, wAsg, wExpr, wSkip, wBrk, wCnt, wVar, wC, wBin, wUn, wIfE, wT, wTr, wNot, wAnd, wOr, wAndV, wOrV, wChain, wBinS, wUnS, wOpN, wTup, wLst, wCons, wNil, wCall, wMs, wPar, wPar3, gN, gTupN, gCons, gNil, isD, isSt, isDc, optK_some, rd_d, rdS_d, frs_nil, frs_d, rds_nil, rds_d, on1, on2, asB_b, set0, setS, get0, getS, startE, List.map_cons, List.map_nil, List.length_cons, List.length_nil, List.replicate, List.cons_append, List.nil_append, List.append_nil, Option.map_some, Option.map_none, Option.bind_some, oEq_ss, oNe_ss, oEq_ii, oNe_ii, oAdd_ii, oSub_ii, ix_0, ix_1, ix_2, ix_k0, ix_n1, ix_p1, ix_p2, ix_e1, ix_e2, hd1, hd2, hd3, hd4, hd5, hd6, fin_rt, fin_nx, ret_d, if_true, if_false, Bool.false_eq_true, Bool.true_eq_false, Bool.not_true, Bool.not_false, beq_self_eq_true, decide_true, decide_false, true_and, and_true, lit0, lit1, lit2, lit3, lit4, lit5, lit6, lit7, lit8, lit9, lit10, wYes, ll_eq]
    refine lc_go (fun _ => false) (fun _ => .none) _ [] (fun x hx K1 K2 hk1 => ?_) ?_
    · obtain ⟨i, y, hy, rfl⟩ := enum_mem hx
      obtain ⟨r, hr, rfl⟩ := List.mem_map.mp hy
      have hk' : K2 st := by simpa using hk1
      simp only [encR, wSeq, wIf, wRet, wRetN, wAsg, wExpr, wSkip, wBrk, wCnt, wVar, wC, wBin, wUn, wIfE, wT, wTr, wNot, wAnd, wOr, wAndV, wOrV, wChain, wBinS, wUnS, wOpN, wTup, wLst, wCons, wNil, wCall, wMs, wPar, wPar3, gN, gTupN, gCons, gNil, isD, isSt, isDc, optK_some, rd_d, rdS_d, frs_nil, frs_d, rds_nil, rds_d, on1, on2, asB_b, set0, setS, get0, getS, startE, List.map_cons, List.map_nil, List.length_cons, List.length_nil, List.replicate, List.cons_append, List.nil_append, List.append_nil, Option.map_some, Option.map_none, Option.bind_some, oEq_ss, oNe_ss, oEq_ii, oNe_ii, oAdd_ii, oSub_ii, ix_0, ix_1, ix_2, ix_k0, ix_n1, ix_p1, ix_p2, ix_e1, ix_e2, hd1, hd2, hd3, hd4, hd5, hd6, fin_rt, fin_nx, ret_d, if_true, if_false, Bool.false_eq_true, Bool.true_eq_false, Bool.not_true, Bool.not_false, beq_self_eq_true, decide_true, decide_false, true_and, and_true, lit0, lit1, lit2, lit3, lit4, lit5, lit6, lit7, lit8, lit9, lit10, wYes]
      refine spF_go (xs := [.dict (dctB b), .str r.1, r.2.enc]) ⟨b, r, rfl, hb, hr, rfl⟩ ?_
      simp only [wSeq, wIf, wRet, wRetN, wAsg, wExpr, wSkip, wBrk, wCnt, wVar, wC, wBin, wUn, wIfE, wT, wTr, wNot, wAnd, wOr, wAndV, wOrV, wChain, wBinS, wUnS, wOpN, wTup, wLst, wCons, wNil, wCall, wMs, wPar, wPar3, gN, gTupN, gCons, gNil, isD, isSt, isDc, optK_some, rd_d, rdS_d, frs_nil, frs_d, rds_nil, rds_d, on1, on2, asB_b, set0, setS, get0, getS, startE, List.map_cons, List.map_nil, List.length_cons, List.length_nil, List.replicate, List.cons_append, List.nil_append, List.append_nil, Option.map_some, Option.map_none, Option.bind_some, oEq_ss, oNe_ss, oEq_ii, oNe_ii, oAdd_ii, oSub_ii, ix_0, ix_1, ix_2, ix_k0, ix_n1, ix_p1, ix_p2, ix_e1, ix_e2, hd1, hd2, hd3, hd4, hd5, hd6, fin_rt, fin_nx, ret_d, if_true, if_false, Bool.false_eq_true, Bool.true_eq_false, Bool.not_true, Bool.not_false, beq_self_eq_true, decide_true, decide_false, true_and, and_true, lit0, lit1, lit2, lit3, lit4, lit5, lit6, lit7, lit8, lit9, lit10, wYes]
      exact hk'
    · simp only [filter_none, wSeq, wIf, wRet, wRetN, wAsg, wExpr, wSkip, wBrk, wCnt, wVar, wC, wBin, wUn, wIfE, wT, wTr, wNot, wAnd, wOr, wAndV, wOrV, wChain, wBinS, wUnS, wOpN, wTup, wLst, wCons, wNil, wCall, wMs, wPar, wPar3, gN, gTupN, gCons, gNil, isD, isSt, isDc, optK_some, rd_d, rdS_d, frs_nil, frs_d, rds_nil, rds_d, on1, on2, asB_b, set0, setS, get0, getS, startE, List.map_cons, List.map_nil, List.length_cons, List.length_nil, List.replicate, List.cons_append, List.nil_append, List.append_nil, Option.map_some, Option.map_none, Option.bind_some, oEq_ss, oNe_ss, oEq_ii, oNe_ii, oAdd_ii, oSub_ii, ix_0, ix_1, ix_2, ix_k0, ix_n1, ix_p1, ix_p2, ix_e1, ix_e2, hd1, hd2, hd3, hd4, hd5, hd6, fin_rt, fin_nx, ret_d, if_true, if_false, Bool.false_eq_true, Bool.true_eq_false, Bool.not_true, Bool.not_false, beq_self_eq_true, decide_true, decide_false, true_and, and_true, lit0, lit1, lit2, lit3, lit4, lit5, lit6, lit7, lit8, lit9, lit10, wYes, wSl, wOS, wON, asI, show oSl (.list []) none (some 1) = some (.list []) from rfl]
      exact q
end DL.K20
/-! text K20P8 -/
namespace DL.K20
open PySem DL
/-! ### what is checked -/
def pCB (xs : List PyData) (y : PyData) : Prop := ∃ b, xs = [encB b] ∧ okB b ∧ y = .none
theorem keeps_check_book : Keeps 2 (spF pCB) (b_check_book (spF pWB)) := by
  rintro args st Q E ⟨xs, y, rfl, ⟨b, rfl, hb, rfl⟩, q⟩
  simp only [b_check_book, wSeq, wIf, wRet, wRetN, wAsg, wExpr, wSkip, wBrk, wCnt, wVar, wC, wBin, wUn, wIfE, wT, wTr, wNot, wAnd, wOr, wAndV, wOrV, wChain, wBinS, wUnS, wOpN, wTup, wLst, wCons, wNil, wCall, wMs, wPar, wPar3, gN, gTupN, gCons, gNil, isD, isSt, isDc, optK_some, rd_d, rdS_d, frs_nil, frs_d, rds_nil, rds_d, on1, on2, asB_b, set0, setS, get0, getS, startE, List.map_cons, List.map_nil, List.length_cons, List.length_nil, List.replicate, List.cons_append, List.nil_append, List.append_nil, Option.map_some, Option.map_none, Option.bind_some, oEq_ss, oNe_ss, oEq_ii, oNe_ii, oAdd_ii, oSub_ii, ix_0, ix_1, ix_2, ix_k0, ix_n1, ix_p1, ix_p2, ix_e1, ix_e2, hd1, hd2, hd3, hd4, hd5, hd6, fin_rt, fin_nx, ret_d, if_true, if_false, Bool.false_eq_true, Bool.true_eq_false, Bool.not_true, Bool.not_false, beq_self_eq_true, decide_true, decide_false, true_and, and_true, lit0, lit1, lit2, lit3, lit4, lit5, lit6, lit7, lit8, lit9, lit10, wYes, wFor, iSeq]
  refine spF_go (xs := [encB b]) ⟨b, rfl, hb, rfl⟩ ?_
  simp only [itemsOf, wSeq, wIf, wRet, wRetN, wAsg, wExpr, wSkip, wBrk, wCnt, wVar, wC, wBin, wUn, wIfE, wT, wTr, wNot, wAnd, wOr, wAndV, wOrV, wChain, wBinS, wUnS, wOpN, wTup, wLst, wCons, wNil, wCall, wMs, wPar, wPar3, gN, gTupN, gCons, gNil, isD, isSt, isDc, optK_some, rd_d, rdS_d, frs_nil, frs_d, rds_nil, rds_d, on1, on2, asB_b, set0, setS, get0, getS, startE, List.map_cons, List.map_nil, List.length_cons, List.length_nil, List.replicate, List.cons_append, List.nil_append, List.append_nil, Option.map_some, Option.map_none, Option.bind_some, oEq_ss, oNe_ss, oEq_ii, oNe_ii, oAdd_ii, oSub_ii, ix_0, ix_1, ix_2, ix_k0, ix_n1, ix_p1, ix_p2, ix_e1, ix_e2, hd1, hd2, hd3, hd4, hd5, hd6, fin_rt, fin_nx, ret_d, if_true, if_false, Bool.false_eq_true, Bool.true_eq_false, Bool.not_true, Bool.not_false, beq_self_eq_true, decide_true, decide_false, true_and, and_true, lit0, lit1, lit2, lit3, lit4, lit5, lit6, lit7, lit8, lit9, lit10, wYes, forGo]
  exact q
def pCd (xs : List PyData) (y : PyData) : Prop := ∃ b, xs = [encB b] ∧ okB b ∧ y = .dict (dctB b)
theorem keeps_checked_book : Keeps 1 (spF pCd) (b_checked_book (spF pCB)) := by
  rintro args st Q E ⟨xs, y, rfl, ⟨b, rfl, hb, rfl⟩, q⟩
  simp only [b_checked_book, wSeq, wIf, wRet, wRetN, wAsg, wExpr, wSkip, wBrk, wCnt, wVar, wC, wBin, wUn, wIfE, wT, wTr, wNot, wAnd, wOr, wAndV, wOrV, wChain, wBinS, wUnS, wOpN, wTup, wLst, wCons, wNil, wCall, wMs, wPar, wPar3, gN, gTupN, gCons, gNil, isD, isSt, isDc, optK_some, rd_d, rdS_d, frs_nil, frs_d, rds_nil, rds_d, on1, on2, asB_b, set0, setS, get0, getS, startE, List.map_cons, List.map_nil, List.length_cons, List.length_nil, List.replicate, List.cons_append, List.nil_append, List.append_nil, Option.map_some, Option.map_none, Option.bind_some, oEq_ss, oNe_ss, oEq_ii, oNe_ii, oAdd_ii, oSub_ii, ix_0, ix_1, ix_2, ix_k0, ix_n1, ix_p1, ix_p2, ix_e1, ix_e2, hd1, hd2, hd3, hd4, hd5, hd6, fin_rt, fin_nx, ret_d, if_true, if_false, Bool.false_eq_true, Bool.true_eq_false, Bool.not_true, Bool.not_false, beq_self_eq_true, decide_true, decide_false, true_and, and_true, lit0, lit1, lit2, lit3, lit4, lit5, lit6, lit7, lit8, lit9, lit10, wYes]
  refine spF_go (xs := [encB b]) ⟨b, rfl, hb, rfl⟩ ?_
  simp only [wSeq, wIf, wRet, wRetN, wAsg, wExpr, wSkip, wBrk, wCnt, wVar, wC, wBin, wUn, wIfE, wT, wTr, wNot, wAnd, wOr, wAndV, wOrV, wChain, wBinS, wUnS, wOpN, wTup, wLst, wCons, wNil, wCall, wMs, wPar, wPar3, gN, gTupN, gCons, gNil, isD, isSt, isDc, optK_some, rd_d, rdS_d, frs_nil, frs_d, rds_nil, rds_d, on1, on2, asB_b, set0, setS, get0, getS, startE, List.map_cons, List.map_nil, List.length_cons, List.length_nil, List.replicate, List.cons_append, List.nil_append, List.append_nil, Option.map_some, Option.map_none, Option.bind_some, oEq_ss, oNe_ss, oEq_ii, oNe_ii, oAdd_ii, oSub_ii, ix_0, ix_1, ix_2, ix_k0, ix_n1, ix_p1, ix_p2, ix_e1, ix_e2, hd1, hd2, hd3, hd4, hd5, hd6, fin_rt, fin_nx, ret_d, if_true, if_false, Bool.false_eq_true, Bool.true_eq_false, Bool.not_true, Bool.not_false, beq_self_eq_true, decide_true, decide_false, true_and, and_true, lit0, lit1, lit2, lit3, lit4, lit5, lit6, lit7, lit8, lit9, lit10, wYes, dict_enc hb]
  exact q
/-- a kind of a book -/
structure okIn (b : List Row) (k : Kd) : Prop where
  dep : k.dep ≤ 30
  parts : k.parts ≤ 2000
  nm : ∀ n ∈ k.names, nmOk 5 n
  inn : ∀ n ∈ k.names, n ∈ b.map (·.1)
theorem okIn_bk {b : List Row} {k : Kd} (hb : okB b) (h : okIn b k) : inBk (dctB b) k.names := fun n hn => has_dct (srt_nodup hb.srt) (h.inn n hn)
def gapB (b : List Row) (g : Kd) : Prop := g = .thing ∨ ∃ m, g = .name m ∧ wname m ∧ m ∈ b.map (·.1)
theorem gapB_in {b : List Row} {g : Kd} (hb : okB b) (h : gapB b g) : gapIn (dctB b) g := by
  rcases h with rfl | ⟨m, rfl, hm, hi⟩
  · exact .inl rfl
  · exact .inr ⟨m, rfl, hm, has_dct (srt_nodup hb.srt) hi⟩
def pCk (xs : List PyData) (y : PyData) : Prop := ∃ b k, xs = [.dict (dctB b), Kd.enc k] ∧ okB b ∧ okIn b k ∧ y = .none
theorem keeps_check_kind_of : Keeps 2 (spF pCk) (b_check_kind_of (spF pIn)) := by
  rintro args st Q E ⟨xs, y, rfl, ⟨b, k, rfl, hb, hk, rfl⟩, q⟩
  simp only [b_check_kind_of, wSeq, wIf, wRet, wRetN, wAsg, wExpr, wSkip, wBrk, wCnt, wVar, wC, wBin, wUn, wIfE, wT, wTr, wNot, wAnd, wOr, wAndV, wOrV, wChain, wBinS, wUnS, wOpN, wTup, wLst, wCons, wNil, wCall, wMs, wPar, wPar3, gN, gTupN, gCons, gNil, isD, isSt, isDc, optK_some, rd_d, rdS_d, frs_nil, frs_d, rds_nil, rds_d, on1, on2, asB_b, set0, setS, get0, getS, startE, List.map_cons, List.map_nil, List.length_cons, List.length_nil, List.replicate, List.cons_append, List.nil_append, List.append_nil, Option.map_some, Option.map_none, Option.bind_some, oEq_ss, oNe_ss, oEq_ii, oNe_ii, oAdd_ii, oSub_ii, ix_0, ix_1, ix_2, ix_k0, ix_n1, ix_p1, ix_p2, ix_e1, ix_e2, hd1, hd2, hd3, hd4, hd5, hd6, fin_rt, fin_nx, ret_d, if_true, if_false, Bool.false_eq_true, Bool.true_eq_false, Bool.not_true, Bool.not_false, beq_self_eq_true, decide_true, decide_false, true_and, and_true, lit0, lit1, lit2, lit3, lit4, lit5, lit6, lit7, lit8, lit9, lit10, wYes]
  refine spF_go (xs := [.dict (dctB b), k.enc]) ⟨_, k, rfl, hk.dep, hk.parts, hk.nm, okIn_bk hb hk, rfl⟩ ?_
  try simp only [wSeq, wIf, wRet, wRetN, wAsg, wExpr, wSkip, wBrk, wCnt, wVar, wC, wBin, wUn, wIfE, wT, wTr, wNot, wAnd, wOr, wAndV, wOrV, wChain, wBinS, wUnS, wOpN, wTup, wLst, wCons, wNil, wCall, wMs, wPar, wPar3, gN, gTupN, gCons, gNil, isD, isSt, isDc, optK_some, rd_d, rdS_d, frs_nil, frs_d, rds_nil, rds_d, on1, on2, asB_b, set0, setS, get0, getS, startE, List.map_cons, List.map_nil, List.length_cons, List.length_nil, List.replicate, List.cons_append, List.nil_append, List.append_nil, Option.map_some, Option.map_none, Option.bind_some, oEq_ss, oNe_ss, oEq_ii, oNe_ii, oAdd_ii, oSub_ii, ix_0, ix_1, ix_2, ix_k0, ix_n1, ix_p1, ix_p2, ix_e1, ix_e2, hd1, hd2, hd3, hd4, hd5, hd6, fin_rt, fin_nx, ret_d, if_true, if_false, Bool.false_eq_true, Bool.true_eq_false, Bool.not_true, Bool.not_false, beq_self_eq_true, decide_true, decide_false, true_and, and_true, lit0, lit1, lit2, lit3, lit4, lit5, lit6, lit7, lit8, lit9, lit10, wYes]
  exact q
def pCh (xs : List PyData) (y : PyData) : Prop := ∃ b g, xs = [.dict (dctB b), Kd.enc g] ∧ okB b ∧ gapB b g ∧ y = .none
theorem keeps_check_hole : Keeps 2 (spF pCh) (b_check_hole (spF pHI)) := by
  rintro args st Q E ⟨xs, y, rfl, ⟨b, g, rfl, hb, hg, rfl⟩, q⟩
  simp only [b_check_hole, wSeq, wIf, wRet, wRetN, wAsg, wExpr, wSkip, wBrk, wCnt, wVar, wC, wBin, wUn, wIfE, wT, wTr, wNot, wAnd, wOr, wAndV, wOrV, wChain, wBinS, wUnS, wOpN, wTup, wLst, wCons, wNil, wCall, wMs, wPar, wPar3, gN, gTupN, gCons, gNil, isD, isSt, isDc, optK_some, rd_d, rdS_d, frs_nil, frs_d, rds_nil, rds_d, on1, on2, asB_b, set0, setS, get0, getS, startE, List.map_cons, List.map_nil, List.length_cons, List.length_nil, List.replicate, List.cons_append, List.nil_append, List.append_nil, Option.map_some, Option.map_none, Option.bind_some, oEq_ss, oNe_ss, oEq_ii, oNe_ii, oAdd_ii, oSub_ii, ix_0, ix_1, ix_2, ix_k0, ix_n1, ix_p1, ix_p2, ix_e1, ix_e2, hd1, hd2, hd3, hd4, hd5, hd6, fin_rt, fin_nx, ret_d, if_true, if_false, Bool.false_eq_true, Bool.true_eq_false, Bool.not_true, Bool.not_false, beq_self_eq_true, decide_true, decide_false, true_and, and_true, lit0, lit1, lit2, lit3, lit4, lit5, lit6, lit7, lit8, lit9, lit10, wYes]
  refine spF_go (xs := [.dict (dctB b), g.enc]) ⟨_, g, rfl, gapB_in hb hg, rfl⟩ ?_
  try simp only [wSeq, wIf, wRet, wRetN, wAsg, wExpr, wSkip, wBrk, wCnt, wVar, wC, wBin, wUn, wIfE, wT, wTr, wNot, wAnd, wOr, wAndV, wOrV, wChain, wBinS, wUnS, wOpN, wTup, wLst, wCons, wNil, wCall, wMs, wPar, wPar3, gN, gTupN, gCons, gNil, isD, isSt, isDc, optK_some, rd_d, rdS_d, frs_nil, frs_d, rds_nil, rds_d, on1, on2, asB_b, set0, setS, get0, getS, startE, List.map_cons, List.map_nil, List.length_cons, List.length_nil, List.replicate, List.cons_append, List.nil_append, List.append_nil, Option.map_some, Option.map_none, Option.bind_some, oEq_ss, oNe_ss, oEq_ii, oNe_ii, oAdd_ii, oSub_ii, ix_0, ix_1, ix_2, ix_k0, ix_n1, ix_p1, ix_p2, ix_e1, ix_e2, hd1, hd2, hd3, hd4, hd5, hd6, fin_rt, fin_nx, ret_d, if_true, if_false, Bool.false_eq_true, Bool.true_eq_false, Bool.not_true, Bool.not_false, beq_self_eq_true, decide_true, decide_false, true_and, and_true, lit0, lit1, lit2, lit3, lit4, lit5, lit6, lit7, lit8, lit9, lit10, wYes]
  exact q
def pCp (xs : List PyData) (y : PyData) : Prop := ∃ b k g, xs = [encB b, Kd.enc k, Kd.enc g] ∧ okB b ∧ okIn b k ∧ gapB b g ∧ y = .dict (dctB b)
theorem keeps_checked_places : Keeps 4 (spF pCp) (b_checked_places (spF pCh) (spF pCk) (spF pCd)) := by
  rintro args st Q E ⟨xs, y, rfl, ⟨b, k, g, rfl, hb, hk, hg, rfl⟩, q⟩
  simp only [b_checked_places, wSeq, wIf, wRet, wRetN, wAsg, wExpr, wSkip, wBrk, wCnt, wVar, wC, wBin, wUn, wIfE, wT, wTr, wNot, wAnd, wOr, wAndV, wOrV, wChain, wBinS, wUnS, wOpN, wTup, wLst, wCons, wNil, wCall, wMs, wPar, wPar3, gN, gTupN, gCons, gNil, isD, isSt, isDc, optK_some, rd_d, rdS_d, frs_nil, frs_d, rds_nil, rds_d, on1, on2, asB_b, set0, setS, get0, getS, startE, List.map_cons, List.map_nil, List.length_cons, List.length_nil, List.replicate, List.cons_append, List.nil_append, List.append_nil, Option.map_some, Option.map_none, Option.bind_some, oEq_ss, oNe_ss, oEq_ii, oNe_ii, oAdd_ii, oSub_ii, ix_0, ix_1, ix_2, ix_k0, ix_n1, ix_p1, ix_p2, ix_e1, ix_e2, hd1, hd2, hd3, hd4, hd5, hd6, fin_rt, fin_nx, ret_d, if_true, if_false, Bool.false_eq_true, Bool.true_eq_false, Bool.not_true, Bool.not_false, beq_self_eq_true, decide_true, decide_false, true_and, and_true, lit0, lit1, lit2, lit3, lit4, lit5, lit6, lit7, lit8, lit9, lit10, wYes]
  refine spF_go (xs := [encB b]) ⟨b, rfl, hb, rfl⟩ ?_
  try simp only [wSeq, wIf, wRet, wRetN, wAsg, wExpr, wSkip, wBrk, wCnt, wVar, wC, wBin, wUn, wIfE, wT, wTr, wNot, wAnd, wOr, wAndV, wOrV, wChain, wBinS, wUnS, wOpN, wTup, wLst, wCons, wNil, wCall, wMs, wPar, wPar3, gN, gTupN, gCons, gNil, isD, isSt, isDc, optK_some, rd_d, rdS_d, frs_nil, frs_d, rds_nil, rds_d, on1, on2, asB_b, set0, setS, get0, getS, startE, List.map_cons, List.map_nil, List.length_cons, List.length_nil, List.replicate, List.cons_append, List.nil_append, List.append_nil, Option.map_some, Option.map_none, Option.bind_some, oEq_ss, oNe_ss, oEq_ii, oNe_ii, oAdd_ii, oSub_ii, ix_0, ix_1, ix_2, ix_k0, ix_n1, ix_p1, ix_p2, ix_e1, ix_e2, hd1, hd2, hd3, hd4, hd5, hd6, fin_rt, fin_nx, ret_d, if_true, if_false, Bool.false_eq_true, Bool.true_eq_false, Bool.not_true, Bool.not_false, beq_self_eq_true, decide_true, decide_false, true_and, and_true, lit0, lit1, lit2, lit3, lit4, lit5, lit6, lit7, lit8, lit9, lit10, wYes]
  refine spF_go (xs := [.dict (dctB b), k.enc]) ⟨b, k, rfl, hb, hk, rfl⟩ ?_
  try simp only [wSeq, wIf, wRet, wRetN, wAsg, wExpr, wSkip, wBrk, wCnt, wVar, wC, wBin, wUn, wIfE, wT, wTr, wNot, wAnd, wOr, wAndV, wOrV, wChain, wBinS, wUnS, wOpN, wTup, wLst, wCons, wNil, wCall, wMs, wPar, wPar3, gN, gTupN, gCons, gNil, isD, isSt, isDc, optK_some, rd_d, rdS_d, frs_nil, frs_d, rds_nil, rds_d, on1, on2, asB_b, set0, setS, get0, getS, startE, List.map_cons, List.map_nil, List.length_cons, List.length_nil, List.replicate, List.cons_append, List.nil_append, List.append_nil, Option.map_some, Option.map_none, Option.bind_some, oEq_ss, oNe_ss, oEq_ii, oNe_ii, oAdd_ii, oSub_ii, ix_0, ix_1, ix_2, ix_k0, ix_n1, ix_p1, ix_p2, ix_e1, ix_e2, hd1, hd2, hd3, hd4, hd5, hd6, fin_rt, fin_nx, ret_d, if_true, if_false, Bool.false_eq_true, Bool.true_eq_false, Bool.not_true, Bool.not_false, beq_self_eq_true, decide_true, decide_false, true_and, and_true, lit0, lit1, lit2, lit3, lit4, lit5, lit6, lit7, lit8, lit9, lit10, wYes]
  refine spF_go (xs := [.dict (dctB b), g.enc]) ⟨b, g, rfl, hb, hg, rfl⟩ ?_
  try simp only [wSeq, wIf, wRet, wRetN, wAsg, wExpr, wSkip, wBrk, wCnt, wVar, wC, wBin, wUn, wIfE, wT, wTr, wNot, wAnd, wOr, wAndV, wOrV, wChain, wBinS, wUnS, wOpN, wTup, wLst, wCons, wNil, wCall, wMs, wPar, wPar3, gN, gTupN, gCons, gNil, isD, isSt, isDc, optK_some, rd_d, rdS_d, frs_nil, frs_d, rds_nil, rds_d, on1, on2, asB_b, set0, setS, get0, getS, startE, List.map_cons, List.map_nil, List.length_cons, List.length_nil, List.replicate, List.cons_append, List.nil_append, List.append_nil, Option.map_some, Option.map_none, Option.bind_some, oEq_ss, oNe_ss, oEq_ii, oNe_ii, oAdd_ii, oSub_ii, ix_0, ix_1, ix_2, ix_k0, ix_n1, ix_p1, ix_p2, ix_e1, ix_e2, hd1, hd2, hd3, hd4, hd5, hd6, fin_rt, fin_nx, ret_d, if_true, if_false, Bool.false_eq_true, Bool.true_eq_false, Bool.not_true, Bool.not_false, beq_self_eq_true, decide_true, decide_false, true_and, and_true, lit0, lit1, lit2, lit3, lit4, lit5, lit6, lit7, lit8, lit9, lit10, wYes]
  exact q
theorem gapB_gap {b : List Row} {g : Kd} (h : gapB b g) : isGap g := by
  rcases h with rfl | ⟨m, rfl, hm, _⟩
  · exact .inl rfl
  · exact .inr ⟨m, rfl, by have := (wname_len hm).2; omega⟩
theorem okIn_900 {b : List Row} {k : Kd} (h : okIn b k) : ∀ n ∈ k.names, n.length ≤ 900 := fun n hn => by
  have := (nmOk_len (h.nm n hn)).2
  omega
def pKy (xs : List PyData) (y : PyData) : Prop := ∃ b k g, xs = [encB b, Kd.enc k, Kd.enc g] ∧ okB b ∧ okIn b k ∧ gapB b g ∧ y = (byK k g).enc
theorem keeps_kind_by : Keeps 3 (spF pKy) (b_kind_by (spF (pKB 30)) (spF pCp)) := by
  rintro args st Q E ⟨xs, y, rfl, ⟨b, k, g, rfl, hb, hk, hg, rfl⟩, q⟩
  simp only [b_kind_by, wSeq, wIf, wRet, wRetN, wAsg, wExpr, wSkip, wBrk, wCnt, wVar, wC, wBin, wUn, wIfE, wT, wTr, wNot, wAnd, wOr, wAndV, wOrV, wChain, wBinS, wUnS, wOpN, wTup, wLst, wCons, wNil, wCall, wMs, wPar, wPar3, gN, gTupN, gCons, gNil, isD, isSt, isDc, optK_some, rd_d, rdS_d, frs_nil, frs_d, rds_nil, rds_d, on1, on2, asB_b, set0, setS, get0, getS, startE, List.map_cons, List.map_nil, List.length_cons, List.length_nil, List.replicate, List.cons_append, List.nil_append, List.append_nil, Option.map_some, Option.map_none, Option.bind_some, oEq_ss, oNe_ss, oEq_ii, oNe_ii, oAdd_ii, oSub_ii, ix_0, ix_1, ix_2, ix_k0, ix_n1, ix_p1, ix_p2, ix_e1, ix_e2, hd1, hd2, hd3, hd4, hd5, hd6, fin_rt, fin_nx, ret_d, if_true, if_false, Bool.false_eq_true, Bool.true_eq_false, Bool.not_true, Bool.not_false, beq_self_eq_true, decide_true, decide_false, true_and, and_true, lit0, lit1, lit2, lit3, lit4, lit5, lit6, lit7, lit8, lit9, lit10, wYes]
  refine spF_go (xs := [encB b, k.enc, g.enc]) ⟨b, k, g, rfl, hb, hk, hg, rfl⟩ ?_
  try simp only [wSeq, wIf, wRet, wRetN, wAsg, wExpr, wSkip, wBrk, wCnt, wVar, wC, wBin, wUn, wIfE, wT, wTr, wNot, wAnd, wOr, wAndV, wOrV, wChain, wBinS, wUnS, wOpN, wTup, wLst, wCons, wNil, wCall, wMs, wPar, wPar3, gN, gTupN, gCons, gNil, isD, isSt, isDc, optK_some, rd_d, rdS_d, frs_nil, frs_d, rds_nil, rds_d, on1, on2, asB_b, set0, setS, get0, getS, startE, List.map_cons, List.map_nil, List.length_cons, List.length_nil, List.replicate, List.cons_append, List.nil_append, List.append_nil, Option.map_some, Option.map_none, Option.bind_some, oEq_ss, oNe_ss, oEq_ii, oNe_ii, oAdd_ii, oSub_ii, ix_0, ix_1, ix_2, ix_k0, ix_n1, ix_p1, ix_p2, ix_e1, ix_e2, hd1, hd2, hd3, hd4, hd5, hd6, fin_rt, fin_nx, ret_d, if_true, if_false, Bool.false_eq_true, Bool.true_eq_false, Bool.not_true, Bool.not_false, beq_self_eq_true, decide_true, decide_false, true_and, and_true, lit0, lit1, lit2, lit3, lit4, lit5, lit6, lit7, lit8, lit9, lit10, wYes]
  refine spF_go (xs := [k.enc, g.enc]) ⟨k, g, rfl, gapB_gap hg, hk.dep, okIn_900 hk, rfl⟩ ?_
  try simp only [wSeq, wIf, wRet, wRetN, wAsg, wExpr, wSkip, wBrk, wCnt, wVar, wC, wBin, wUn, wIfE, wT, wTr, wNot, wAnd, wOr, wAndV, wOrV, wChain, wBinS, wUnS, wOpN, wTup, wLst, wCons, wNil, wCall, wMs, wPar, wPar3, gN, gTupN, gCons, gNil, isD, isSt, isDc, optK_some, rd_d, rdS_d, frs_nil, frs_d, rds_nil, rds_d, on1, on2, asB_b, set0, setS, get0, getS, startE, List.map_cons, List.map_nil, List.length_cons, List.length_nil, List.replicate, List.cons_append, List.nil_append, List.append_nil, Option.map_some, Option.map_none, Option.bind_some, oEq_ss, oNe_ss, oEq_ii, oNe_ii, oAdd_ii, oSub_ii, ix_0, ix_1, ix_2, ix_k0, ix_n1, ix_p1, ix_p2, ix_e1, ix_e2, hd1, hd2, hd3, hd4, hd5, hd6, fin_rt, fin_nx, ret_d, if_true, if_false, Bool.false_eq_true, Bool.true_eq_false, Bool.not_true, Bool.not_false, beq_self_eq_true, decide_true, decide_false, true_and, and_true, lit0, lit1, lit2, lit3, lit4, lit5, lit6, lit7, lit8, lit9, lit10, wYes]
  exact q
def pIb (xs : List PyData) (y : PyData) : Prop := ∃ b, xs = [encB b] ∧ okB b ∧ y = .bool true
theorem keeps_is_book : Keeps 1 (spF pIb) (b_is_book (spF pWB)) := by
  rintro args st Q E ⟨xs, y, rfl, ⟨b, rfl, hb, rfl⟩, q⟩
  simp only [b_is_book, wSeq, wIf, wRet, wRetN, wAsg, wExpr, wSkip, wBrk, wCnt, wVar, wC, wBin, wUn, wIfE, wT, wTr, wNot, wAnd, wOr, wAndV, wOrV, wChain, wBinS, wUnS, wOpN, wTup, wLst, wCons, wNil, wCall, wMs, wPar, wPar3, gN, gTupN, gCons, gNil, isD, isSt, isDc, optK_some, rd_d, rdS_d, frs_nil, frs_d, rds_nil, rds_d, on1, on2, asB_b, set0, setS, get0, getS, startE, List.map_cons, List.map_nil, List.length_cons, List.length_nil, List.replicate, List.cons_append, List.nil_append, List.append_nil, Option.map_some, Option.map_none, Option.bind_some, oEq_ss, oNe_ss, oEq_ii, oNe_ii, oAdd_ii, oSub_ii, ix_0, ix_1, ix_2, ix_k0, ix_n1, ix_p1, ix_p2, ix_e1, ix_e2, hd1, hd2, hd3, hd4, hd5, hd6, fin_rt, fin_nx, ret_d, if_true, if_false, Bool.false_eq_true, Bool.true_eq_false, Bool.not_true, Bool.not_false, beq_self_eq_true, decide_true, decide_false, true_and, and_true, lit0, lit1, lit2, lit3, lit4, lit5, lit6, lit7, lit8, lit9, lit10, wYes]
  refine spF_go (xs := [encB b]) ⟨b, rfl, hb, rfl⟩ ?_
  simp only [wSeq, wIf, wRet, wRetN, wAsg, wExpr, wSkip, wBrk, wCnt, wVar, wC, wBin, wUn, wIfE, wT, wTr, wNot, wAnd, wOr, wAndV, wOrV, wChain, wBinS, wUnS, wOpN, wTup, wLst, wCons, wNil, wCall, wMs, wPar, wPar3, gN, gTupN, gCons, gNil, isD, isSt, isDc, optK_some, rd_d, rdS_d, frs_nil, frs_d, rds_nil, rds_d, on1, on2, asB_b, set0, setS, get0, getS, startE, List.map_cons, List.map_nil, List.length_cons, List.length_nil, List.replicate, List.cons_append, List.nil_append, List.append_nil, Option.map_some, Option.map_none, Option.bind_some, oEq_ss, oNe_ss, oEq_ii, oNe_ii, oAdd_ii, oSub_ii, ix_0, ix_1, ix_2, ix_k0, ix_n1, ix_p1, ix_p2, ix_e1, ix_e2, hd1, hd2, hd3, hd4, hd5, hd6, fin_rt, fin_nx, ret_d, if_true, if_false, Bool.false_eq_true, Bool.true_eq_false, Bool.not_true, Bool.not_false, beq_self_eq_true, decide_true, decide_false, true_and, and_true, lit0, lit1, lit2, lit3, lit4, lit5, lit6, lit7, lit8, lit9, lit10, wYes, ll_eq]
  exact q
def pKn (xs : List PyData) (y : PyData) : Prop := ∃ b r, xs = [encB b, .str r.1] ∧ okB b ∧ r ∈ b ∧ y = r.2.enc
theorem keeps_kind_named : Keeps 3 (spF pKn) (b_kind_named (spF pNm) (spF pCd)) := by
  rintro args st Q E ⟨xs, y, rfl, ⟨b, r, rfl, hb, hr, rfl⟩, q⟩
  simp only [b_kind_named, wSeq, wIf, wRet, wRetN, wAsg, wExpr, wSkip, wBrk, wCnt, wVar, wC, wBin, wUn, wIfE, wT, wTr, wNot, wAnd, wOr, wAndV, wOrV, wChain, wBinS, wUnS, wOpN, wTup, wLst, wCons, wNil, wCall, wMs, wPar, wPar3, gN, gTupN, gCons, gNil, isD, isSt, isDc, optK_some, rd_d, rdS_d, frs_nil, frs_d, rds_nil, rds_d, on1, on2, asB_b, set0, setS, get0, getS, startE, List.map_cons, List.map_nil, List.length_cons, List.length_nil, List.replicate, List.cons_append, List.nil_append, List.append_nil, Option.map_some, Option.map_none, Option.bind_some, oEq_ss, oNe_ss, oEq_ii, oNe_ii, oAdd_ii, oSub_ii, ix_0, ix_1, ix_2, ix_k0, ix_n1, ix_p1, ix_p2, ix_e1, ix_e2, hd1, hd2, hd3, hd4, hd5, hd6, fin_rt, fin_nx, ret_d, if_true, if_false, Bool.false_eq_true, Bool.true_eq_false, Bool.not_true, Bool.not_false, beq_self_eq_true, decide_true, decide_false, true_and, and_true, lit0, lit1, lit2, lit3, lit4, lit5, lit6, lit7, lit8, lit9, lit10, wYes]
  refine spF_go (xs := [encB b]) ⟨b, rfl, hb, rfl⟩ ?_
  try simp only [wSeq, wIf, wRet, wRetN, wAsg, wExpr, wSkip, wBrk, wCnt, wVar, wC, wBin, wUn, wIfE, wT, wTr, wNot, wAnd, wOr, wAndV, wOrV, wChain, wBinS, wUnS, wOpN, wTup, wLst, wCons, wNil, wCall, wMs, wPar, wPar3, gN, gTupN, gCons, gNil, isD, isSt, isDc, optK_some, rd_d, rdS_d, frs_nil, frs_d, rds_nil, rds_d, on1, on2, asB_b, set0, setS, get0, getS, startE, List.map_cons, List.map_nil, List.length_cons, List.length_nil, List.replicate, List.cons_append, List.nil_append, List.append_nil, Option.map_some, Option.map_none, Option.bind_some, oEq_ss, oNe_ss, oEq_ii, oNe_ii, oAdd_ii, oSub_ii, ix_0, ix_1, ix_2, ix_k0, ix_n1, ix_p1, ix_p2, ix_e1, ix_e2, hd1, hd2, hd3, hd4, hd5, hd6, fin_rt, fin_nx, ret_d, if_true, if_false, Bool.false_eq_true, Bool.true_eq_false, Bool.not_true, Bool.not_false, beq_self_eq_true, decide_true, decide_false, true_and, and_true, lit0, lit1, lit2, lit3, lit4, lit5, lit6, lit7, lit8, lit9, lit10, wYes]
  refine spF_go (xs := [.str r.1]) ⟨r.1, rfl, hb.nm r hr, rfl⟩ ?_
  have hlk : lookK (dctB b) (.str r.1) = some r.2.enc := look_dct (srt_nodup hb.srt) hr
  simp only [wSeq, wIf, wRet, wRetN, wAsg, wExpr, wSkip, wBrk, wCnt, wVar, wC, wBin, wUn, wIfE, wT, wTr, wNot, wAnd, wOr, wAndV, wOrV, wChain, wBinS, wUnS, wOpN, wTup, wLst, wCons, wNil, wCall, wMs, wPar, wPar3, gN, gTupN, gCons, gNil, isD, isSt, isDc, optK_some, rd_d, rdS_d, frs_nil, frs_d, rds_nil, rds_d, on1, on2, asB_b, set0, setS, get0, getS, startE, List.map_cons, List.map_nil, List.length_cons, List.length_nil, List.replicate, List.cons_append, List.nil_append, List.append_nil, Option.map_some, Option.map_none, Option.bind_some, oEq_ss, oNe_ss, oEq_ii, oNe_ii, oAdd_ii, oSub_ii, ix_0, ix_1, ix_2, ix_k0, ix_n1, ix_p1, ix_p2, ix_e1, ix_e2, hd1, hd2, hd3, hd4, hd5, hd6, fin_rt, fin_nx, ret_d, if_true, if_false, Bool.false_eq_true, Bool.true_eq_false, Bool.not_true, Bool.not_false, beq_self_eq_true, decide_true, decide_false, true_and, and_true, lit0, lit1, lit2, lit3, lit4, lit5, lit6, lit7, lit8, lit9, lit10, wYes, wGet1, hlk, Option.getD_some]
  exact ⟨rfl, q⟩
/-! ### rows put one by one -/
def ltR (r s : Row) : Prop := ltT r.1 s.1
def encE (r : Row) : PyData × PyData := (.str r.1, r.2.enc)
theorem dctB_eq (b : List Row) : dctB b = b.map encE := rfl
def putR (rows : List Row) (r : Row) : List Row := if r.1 ∈ rows.map (·.1) then rows else rows ++ [r]
def fnl (M : List Row) : Prop := ∀ r ∈ M, ∀ s ∈ M, r.1 = s.1 → r.2 = s.2
theorem putR_enc {M rows : List Row} {r : Row} (hf : fnl M) (hr : r ∈ M) (hs : ∀ s ∈ rows, s ∈ M) : putK (dctB rows) (.str r.1) r.2.enc = dctB (putR rows r) := by
  unfold putR
  by_cases h : r.1 ∈ rows.map (·.1)
  · rw [if_pos h]
    unfold putK
    split
    · refine (List.map_congr_left (g := _root_.id) fun e he => ?_).trans (List.map_id _)
      obtain ⟨s, hs', rfl⟩ := List.mem_map.mp he
      by_cases hk : keyEq (.str s.1) (.str r.1) = true
      · have e1 : s.1 = r.1 := by simpa [keyEq] using hk
        have e2 := hf s (hs s hs') r hr e1
        simp only [hk, if_true]
        rw [← e2]; rfl
      · simp only [hk, if_false]; rfl
    · rename_i hn
      refine absurd ?_ hn
      obtain ⟨s, hs', e⟩ := List.mem_map.mp h
      rw [List.any_eq_true]
      exact ⟨encE s, List.mem_map.mpr ⟨s, hs', rfl⟩, by simp [encE, keyEq, e]⟩
  · rw [if_neg h]
    rw [putK_new _ _ _ fun e he => ?_]
    · unfold dctB; rw [List.map_append]; rfl
    · obtain ⟨s, hs', rfl⟩ := List.mem_map.mp he
      refine ⟨fun z => h ?_, s.1, rfl⟩
      have : s.1 = r.1 := by injection z
      exact List.mem_map.mpr ⟨s, hs', this⟩
theorem putR_nd {rows : List Row} {r : Row} (h : (rows.map (·.1)).Nodup) : ((putR rows r).map (·.1)).Nodup := by
  unfold putR
  split
  · exact h
  · rename_i hn
    rw [List.map_append, List.nodup_append]
    exact ⟨h, by simp, fun x hx y hy => by simp at hy; subst hy; exact fun z => hn (z ▸ hx)⟩
theorem putR_mem {M rows : List Row} {r s : Row} (hf : fnl M) (hr : r ∈ M) (hs : ∀ s ∈ rows, s ∈ M) : s ∈ putR rows r ↔ s ∈ rows ∨ s = r := by
  unfold putR
  split
  · rename_i h
    refine ⟨.inl, fun z => z.elim _root_.id fun e => ?_⟩
    subst e
    obtain ⟨t, ht, e⟩ := List.mem_map.mp h
    have := hf t (hs t ht) s hr e
    have : t = s := by cases t; cases s; simp_all
    rwa [← this]
  · simp
theorem putR_len (rows : List Row) (r : Row) : (putR rows r).length ≤ rows.length + 1 := by
  unfold putR
  split
  · omega
  · simp
theorem lt_tri (a b : Str) : ltT a b ∨ a = b ∨ ltT b a := by
  unfold ltT
  by_cases h1 : a.cps.toList < b.cps.toList
  · exact .inl h1
  · by_cases h2 : b.cps.toList < a.cps.toList
    · exact .inr (.inr h2)
    · exact .inr (.inl (str_ext (List.le_antisymm (List.not_lt.mp h2) (List.not_lt.mp h1))))
theorem lt_asym {a b : Str} (h : ltT a b) : ¬ ltT b a := fun z => absurd (List.lt_trans h z) (List.lt_irrefl _)
theorem rows_eq : ∀ (a b : List Row), a.Pairwise ltR → b.Pairwise ltR → (∀ r, r ∈ a ↔ r ∈ b) → a = b
  | [], [], _, _, _ => rfl
  | [], y :: b, _, _, h => by have := (h y).mpr (List.mem_cons_self ..); simp at this
  | x :: a, [], _, _, h => by have := (h x).mp (List.mem_cons_self ..); simp at this
  | x :: a, y :: b, ha, hb, h => by
    rw [List.pairwise_cons] at ha hb
    have hxy : x = y := by
      rcases List.mem_cons.mp ((h x).mp (List.mem_cons_self ..)) with e | e
      · exact e
      · rcases List.mem_cons.mp ((h y).mpr (List.mem_cons_self ..)) with e2 | e2
        · exact e2.symm
        · exact absurd (hb.1 x e) (lt_asym (ha.1 y e2))
    subst hxy
    have : a = b := rows_eq a b ha.2 hb.2 fun r => by
      refine ⟨fun hr => ?_, fun hr => ?_⟩
      · rcases List.mem_cons.mp ((h r).mp (List.mem_cons_of_mem _ hr)) with e | e
        · subst e; exact absurd rfl (lt_ne (ha.1 r hr))
        · exact e
      · rcases List.mem_cons.mp ((h r).mpr (List.mem_cons_of_mem _ hr)) with e | e
        · subst e; exact absurd rfl (lt_ne (hb.1 r hr))
        · exact e
    rw [this]
end DL.K20
/-! text K20P9 -/
namespace DL.K20
open PySem DL
def der (g : Kd) (r : Row) : Row := (nameBy r.1 g, byK r.2 g)
def allM (b : List Row) (g : Kd) : List Row := b ++ b.map (der g)
theorem snoc_inj {a c t u : Str} (ht : free t) (hu : free u) (h : a ++ tick ++ t = c ++ tick ++ u) : a = c ∧ t = u := by
  have h1 := rindex_snoc a t ht
  have h2 := rindex_snoc c u hu
  rw [h, h2] at h1
  have hl : c.length = a.length := Option.some.inj h1
  have h3 := congrArg (fun z : Str => z.cps.toList) h
  simp only [str_app, tick_cps, List.append_assoc] at h3
  obtain ⟨e1, e2⟩ := List.append_inj h3 (by rw [← len_cps, ← len_cps, hl])
  refine ⟨str_ext e1, str_ext ?_⟩
  simpa using e2
theorem gapT_free {b : List Row} {g : Kd} (h : gapB b g) : free (gapT g) ∧ tailOk (gapT g) ∧ gapOf (gapT g) = g ∧ (gapT g ≠ "" → gapT g ∈ b.map (·.1)) := by
  rcases h with rfl | ⟨m, rfl, hm, hi⟩
  · exact ⟨tail_free (.inl rfl), .inl rfl, if_pos rfl, fun z => absurd rfl z⟩
  · exact ⟨wname_free hm, .inr hm, if_neg (wname_ne hm), fun _ => hi⟩
theorem nameBy_eq (n : Str) (g : Kd) : nameBy n g = n ++ tick ++ gapT g := rfl
theorem nd_eq {b : List Row} (h : (b.map (·.1)).Nodup) {r s : Row} (hr : r ∈ b) (hs : s ∈ b) (e : r.1 = s.1) : r = s := by
  have h1 := look_dct h (n := r.1) (k := r.2) hr
  have h2 := look_dct h (n := s.1) (k := s.2) hs
  rw [e, h2] at h1
  have := enc_inj (Option.some.inj h1)
  cases r; cases s; simp_all
theorem fnl_M {b : List Row} {g : Kd} (hb : okB b) (hg : gapB b g) : fnl (allM b g) := by
  have hnd := srt_nodup hb.srt
  obtain ⟨f1, f2, f3, f4⟩ := gapT_free hg
  have cross : ∀ r ∈ b, ∀ s ∈ b, r.1 = nameBy s.1 g → r.2 = byK s.2 g := by
    intro r hr s hs e
    rw [nameBy_eq] at e
    rcases hb.made r hr with hw | ⟨base, t, k0, hbase, ht, hmem, hby, _⟩
    · have := wname_free hw
      unfold free at this
      rw [e, str_app, str_app, tick_cps] at this
      exact absurd (by simp) this
    · rw [hbase] at e
      obtain ⟨e1, e2⟩ := snoc_inj (tail_free ht) f1 e
      subst e1; subst e2
      have := nd_eq hnd hmem hs rfl
      rw [hby, f3]
      have h2 := congrArg Prod.snd this
      simp only at h2
      rw [h2]
  intro r hr s hs e
  rcases List.mem_append.mp hr with hr | hr <;> rcases List.mem_append.mp hs with hs | hs
  · rw [nd_eq hnd hr hs e]
  · obtain ⟨s', hs', rfl⟩ := List.mem_map.mp hs
    exact cross r hr s' hs' e
  · obtain ⟨r', hr', rfl⟩ := List.mem_map.mp hr
    exact (cross s hs r' hr' e.symm).symm
  · obtain ⟨r', hr', rfl⟩ := List.mem_map.mp hr
    obtain ⟨s', hs', rfl⟩ := List.mem_map.mp hs
    have e' : r'.1 ++ tick ++ gapT g = s'.1 ++ tick ++ gapT g := e
    have := nd_eq hnd hr' hs' (snoc_inj f1 f1 e').1
    rw [this]
/-! ### all rows -/
def allR (g : Kd) (acc : List Row) (b : List Row) : List Row := b.foldl (fun acc r => putR acc (der g r)) acc
theorem allR_ok {M : List Row} {g : Kd} (hf : fnl M) : ∀ (b acc : List Row), (∀ r ∈ b, der g r ∈ M) → (∀ s ∈ acc, s ∈ M) → (acc.map (·.1)).Nodup →
    ((allR g acc b).map (·.1)).Nodup ∧ (∀ s, s ∈ allR g acc b ↔ s ∈ acc ∨ s ∈ b.map (der g)) ∧ (allR g acc b).length ≤ acc.length + b.length
  | [], acc, _, _, hn => ⟨hn, fun s => by simp [allR], Nat.le_refl _⟩
  | r :: b, acc, hb, ha, hn => by
    have hr := hb r (List.mem_cons_self ..)
    have hm := fun s => putR_mem (s := s) hf hr ha
    obtain ⟨h1, h2, h3⟩ := allR_ok hf b (putR acc (der g r)) (fun s hs => hb s (List.mem_cons_of_mem _ hs)) (fun s hs => ((hm s).mp hs).elim (ha s) fun e => e ▸ hr) (putR_nd hn)
    refine ⟨h1, fun s => ?_, ?_⟩
    · show s ∈ allR g (putR acc (der g r)) b ↔ _
      rw [h2, hm]
      simp only [List.map_cons, List.mem_cons]
      exact ⟨fun h => h.elim (fun h => h.elim .inl fun h => .inr (.inl h)) fun h => .inr (.inr h), fun h => h.elim (fun h => .inl (.inl h)) fun h => h.elim (fun h => .inl (.inr h)) .inr⟩
    · show (allR g (putR acc (der g r)) b).length ≤ _
      have := putR_len acc (der g r)
      simp only [List.length_cons]
      omega
def nbOf (b : List Row) (g : Kd) : List Row := (allR g b b).mergeSort fun r s => leT r.1 s.1
theorem allR_M {b : List Row} {g : Kd} (hb : okB b) (hg : gapB b g) : ((allR g b b).map (·.1)).Nodup ∧ (∀ s, s ∈ allR g b b ↔ s ∈ allM b g) ∧ (allR g b b).length ≤ 2 * b.length := by
  obtain ⟨h1, h2, h3⟩ := allR_ok (fnl_M hb hg) b b (fun r hr => List.mem_append_right _ (List.mem_map.mpr ⟨r, hr, rfl⟩)) (fun s hs => List.mem_append_left _ hs) (srt_nodup hb.srt)
  exact ⟨h1, fun s => by rw [h2]; unfold allM; rw [List.mem_append], by omega⟩
theorem strict_of {l : List Row} (h : l.Pairwise fun r s => leT r.1 s.1 = true) (hn : (l.map (·.1)).Nodup) : l.Pairwise ltR := by
  unfold List.Nodup at hn
  rw [List.pairwise_map] at hn
  refine (h.and hn).imp fun {r s} ⟨h1, h2⟩ => ?_
  rcases lt_tri r.1 s.1 with z | z | z
  · exact z
  · exact absurd z h2
  · rw [leT_not] at h1
    have : decide (s.1.cps.toList < r.1.cps.toList) = true := decide_eq_true z
    rw [this] at h1
    cases h1
theorem nbOf_ok {b : List Row} {g : Kd} (hb : okB b) (hg : gapB b g) : (nbOf b g).Pairwise ltR ∧ (∀ s, s ∈ nbOf b g ↔ s ∈ allM b g) ∧ (nbOf b g).length ≤ 2 * b.length := by
  obtain ⟨h1, h2, h3⟩ := allR_M hb hg
  have hp : (nbOf b g).Perm (allR g b b) := List.mergeSort_perm _ _
  refine ⟨strict_of (List.pairwise_mergeSort (fun a b c => leT_trans a.1 b.1 c.1) (fun a b => leT_total a.1 b.1) _) ((hp.map (·.1)).nodup_iff.mpr h1), fun s => by rw [hp.mem_iff, h2], by rw [hp.length_eq]; exact h3⟩
/-! ### book_by_hole -/
theorem getA (st : Store) (c : Cell) : (st ++ [c])[st.length]? = some c := by simp
theorem setA (st : Store) (c d : Cell) : (st ++ [c]).set st.length d = st ++ [d] := by simp
theorem set_dict (st : Store) (kvs : List (PyData × PyData)) (k v : PyData) (hk : isKey k = true) (hl : kvs.length < lim) : setAt (st ++ [.dct kvs]) (.loc st.length) k v = some (st ++ [.dct (putK kvs k v)]) := by
  have : setAt (st ++ [.dct kvs]) (.loc st.length) k v = if isKey k = true ∧ kvs.length < lim then some ((st ++ [Cell.dct kvs]).set st.length (Cell.dct (putK kvs k v))) else none := by
    unfold setAt
    simp only [getA]
  rw [this, if_pos ⟨hk, hl⟩, setA]
def pBH (xs : List PyData) (y : PyData) : Prop := ∃ b g, xs = [.dict (dctB b), Kd.enc g] ∧ okB b ∧ gapB b g ∧ y = .dict (dctB (allR g b b))
theorem nm_len1000 {b : List Row} (hb : okB b) {r : Row} (hr : r ∈ b) : r.1.length ≤ 1000 := by
  have := (nmOk_len (hb.nm r hr)).2
  omega
theorem bh_loop {b : List Row} {g : Kd} {st : Store} {E : EK} {v0 : Option DV} {D : Fin} (hb : okB b) (hg : gapB b g) : ∀ (todo acc : List Row) (v3 v4 : Option DV), (∀ r ∈ todo, r ∈ b) → (∀ s ∈ acc, s ∈ allM b g) → acc.length + todo.length ≤ 1000 →
    (∀ v3 v4, D.nx [v0, some (.d g.enc), some (.loc st.length), v3, v4] (st ++ [.dct (dctB (allR g acc todo))])) →
    forGo (DL.gTupN 2 (DL.gCons (gN 3) (DL.gCons (gN 4) DL.gNil))) (wAsg (wCall (spF (pKB 30)) E (wCons (wVar 4) (wCons (wVar 1) wNil))) (gSub (wVar 2) (wCall (spF pMN) E (wCons (wVar 3) (wCons (wVar 1) wNil))))) D
      ((dctB todo).map fun p => .d (.tuple [p.1, p.2])) [v0, some (.d g.enc), some (.loc st.length), v3, v4] (st ++ [.dct (dctB acc)])
  | [], acc, v3, v4, _, _, _, q => q v3 v4
  | r :: todo, acc, v3, v4, ht, ha, hl, q => by
    have hr := ht r (List.mem_cons_self ..)
    have hd := hb.kd r hr
    have hrM : der g r ∈ allM b g := List.mem_append_right _ (List.mem_map.mpr ⟨r, hr, rfl⟩)
    simp only [List.length_cons] at hl
    simp only [dctB, List.map_cons, forGo, wSeq, wIf, wRet, wRetN, wAsg, wExpr, wSkip, wBrk, wCnt, wVar, wC, wBin, wUn, wIfE, wT, wTr, wNot, wAnd, wOr, wAndV, wOrV, wChain, wBinS, wUnS, wOpN, wTup, wLst, wCons, wNil, wCall, wMs, wPar, wPar3, gN, gTupN, gCons, gNil, isD, isSt, isDc, optK_some, rd_d, rdS_d, frs_nil, frs_d, rds_nil, rds_d, on1, on2, asB_b, set0, setS, get0, getS, startE, List.map_cons, List.map_nil, List.length_cons, List.length_nil, List.replicate, List.cons_append, List.nil_append, List.append_nil, Option.map_some, Option.map_none, Option.bind_some, oEq_ss, oNe_ss, oEq_ii, oNe_ii, oAdd_ii, oSub_ii, ix_0, ix_1, ix_2, ix_k0, ix_n1, ix_p1, ix_p2, ix_e1, ix_e2, hd1, hd2, hd3, hd4, hd5, hd6, fin_rt, fin_nx, ret_d, if_true, if_false, Bool.false_eq_true, Bool.true_eq_false, Bool.not_true, Bool.not_false, beq_self_eq_true, decide_true, decide_false, true_and, and_true, lit0, lit1, lit2, lit3, lit4, lit5, lit6, lit7, lit8, lit9, lit10, wYes]
    refine spF_go (xs := [r.2.enc, g.enc]) ⟨r.2, g, rfl, gapB_gap hg, hd.1, nm_len900 hb hr, rfl⟩ ?_
    simp only [wSeq, wIf, wRet, wRetN, wAsg, wExpr, wSkip, wBrk, wCnt, wVar, wC, wBin, wUn, wIfE, wT, wTr, wNot, wAnd, wOr, wAndV, wOrV, wChain, wBinS, wUnS, wOpN, wTup, wLst, wCons, wNil, wCall, wMs, wPar, wPar3, gN, gTupN, gCons, gNil, isD, isSt, isDc, optK_some, rd_d, rdS_d, frs_nil, frs_d, rds_nil, rds_d, on1, on2, asB_b, set0, setS, get0, getS, startE, List.map_cons, List.map_nil, List.length_cons, List.length_nil, List.replicate, List.cons_append, List.nil_append, List.append_nil, Option.map_some, Option.map_none, Option.bind_some, oEq_ss, oNe_ss, oEq_ii, oNe_ii, oAdd_ii, oSub_ii, ix_0, ix_1, ix_2, ix_k0, ix_n1, ix_p1, ix_p2, ix_e1, ix_e2, hd1, hd2, hd3, hd4, hd5, hd6, fin_rt, fin_nx, ret_d, if_true, if_false, Bool.false_eq_true, Bool.true_eq_false, Bool.not_true, Bool.not_false, beq_self_eq_true, decide_true, decide_false, true_and, and_true, lit0, lit1, lit2, lit3, lit4, lit5, lit6, lit7, lit8, lit9, lit10, wYes, gSub]
    refine spF_go (xs := [.str r.1, g.enc]) ⟨r.1, g, rfl, gapB_gap hg, nm_len1000 hb hr, rfl⟩ ?_
    have hput := putR_enc (r := der g r) (fnl_M hb hg) hrM ha
    have hsd := set_dict st (dctB acc) (.str (nameBy r.1 g)) (byK r.2 g).enc rfl (by unfold dctB lim; rw [List.length_map]; omega)
    rw [show putK (dctB acc) (.str (nameBy r.1 g)) (byK r.2 g).enc = dctB (putR acc (der g r)) from hput] at hsd
    simp only [dctB] at hsd
    simp only [wSeq, wIf, wRet, wRetN, wAsg, wExpr, wSkip, wBrk, wCnt, wVar, wC, wBin, wUn, wIfE, wT, wTr, wNot, wAnd, wOr, wAndV, wOrV, wChain, wBinS, wUnS, wOpN, wTup, wLst, wCons, wNil, wCall, wMs, wPar, wPar3, gN, gTupN, gCons, gNil, isD, isSt, isDc, optK_some, rd_d, rdS_d, frs_nil, frs_d, rds_nil, rds_d, on1, on2, asB_b, set0, setS, get0, getS, startE, List.map_cons, List.map_nil, List.length_cons, List.length_nil, List.replicate, List.cons_append, List.nil_append, List.append_nil, Option.map_some, Option.map_none, Option.bind_some, oEq_ss, oNe_ss, oEq_ii, oNe_ii, oAdd_ii, oSub_ii, ix_0, ix_1, ix_2, ix_k0, ix_n1, ix_p1, ix_p2, ix_e1, ix_e2, hd1, hd2, hd3, hd4, hd5, hd6, fin_rt, fin_nx, ret_d, if_true, if_false, Bool.false_eq_true, Bool.true_eq_false, Bool.not_true, Bool.not_false, beq_self_eq_true, decide_true, decide_false, true_and, and_true, lit0, lit1, lit2, lit3, lit4, lit5, lit6, lit7, lit8, lit9, lit10, wYes, hsd]
    refine bh_loop hb hg todo (putR acc (der g r)) _ _ (fun s hs => ht s (List.mem_cons_of_mem _ hs)) (fun s hs => ?_) ?_ fun v3 v4 => q v3 v4
    · exact ((putR_mem (fnl_M hb hg) hrM ha).mp hs).elim (ha s) fun e => e ▸ hrM
    · have := putR_len acc (der g r); omega
theorem ret_tk {n0 : Nat} {Q : RK} {x : PyData} {st : Store} : retK n0 Q (.d x) st = Q (.d x) (st.take n0) := rfl
theorem rd_dct (st : Store) (kvs : List (PyData × PyData)) : rd (st ++ [.dct kvs]) (.loc st.length) = some (.dict kvs) := by
  unfold rd
  simp only [getA]
theorem take_mod (st : Store) (c : Cell) (f : Cell → Cell) : ((st ++ [c]).modify st.length f).take st.length = st := by
  apply List.ext_getElem?
  intro i
  rw [List.getElem?_take]
  split
  · rename_i h
    rw [List.getElem?_modify, List.getElem?_append_left h]
    have : st.length ≠ i := by omega
    simp [this]
  · rename_i h
    exact (List.getElem?_eq_none (by omega)).symm
theorem take_app (st : Store) (c : Cell) : (st ++ [c]).take st.length = st := by simp
theorem keeps_book_by_hole : Keeps 5 (spF pBH) (b_book_by_hole (spF (pKB 30)) (spF pMN)) := by
  rintro args st Q E ⟨xs, y, rfl, ⟨b, g, rfl, hb, hg, rfl⟩, q⟩
  have hl := hb.len
  simp only [b_book_by_hole, wSeq, wIf, wRet, wRetN, wAsg, wExpr, wSkip, wBrk, wCnt, wVar, wC, wBin, wUn, wIfE, wT, wTr, wNot, wAnd, wOr, wAndV, wOrV, wChain, wBinS, wUnS, wOpN, wTup, wLst, wCons, wNil, wCall, wMs, wPar, wPar3, gN, gTupN, gCons, gNil, isD, isSt, isDc, optK_some, rd_d, rdS_d, frs_nil, frs_d, rds_nil, rds_d, on1, on2, asB_b, set0, setS, get0, getS, startE, List.map_cons, List.map_nil, List.length_cons, List.length_nil, List.replicate, List.cons_append, List.nil_append, List.append_nil, Option.map_some, Option.map_none, Option.bind_some, oEq_ss, oNe_ss, oEq_ii, oNe_ii, oAdd_ii, oSub_ii, ix_0, ix_1, ix_2, ix_k0, ix_n1, ix_p1, ix_p2, ix_e1, ix_e2, hd1, hd2, hd3, hd4, hd5, hd6, fin_rt, fin_nx, ret_d, if_true, if_false, Bool.false_eq_true, Bool.true_eq_false, Bool.not_true, Bool.not_false, beq_self_eq_true, decide_true, decide_false, true_and, and_true, lit0, lit1, lit2, lit3, lit4, lit5, lit6, lit7, lit8, lit9, lit10, wYes, wDctC, wFor, iItemsD]
  refine ⟨lim_of (by unfold dctB; rw [List.length_map]; omega), ?_⟩
  refine bh_loop hb hg b b none none (fun r hr => hr) (fun s hs => List.mem_append_left _ hs) (by omega) fun v3 v4 => ?_
  simp only [wSeq, wIf, wRet, wRetN, wAsg, wExpr, wSkip, wBrk, wCnt, wVar, wC, wBin, wUn, wIfE, wT, wTr, wNot, wAnd, wOr, wAndV, wOrV, wChain, wBinS, wUnS, wOpN, wTup, wLst, wCons, wNil, wCall, wMs, wPar, wPar3, gN, gTupN, gCons, gNil, isD, isSt, isDc, optK_some, rd_d, rdS_d, frs_nil, frs_d, rds_nil, rds_d, on1, on2, asB_b, set0, setS, get0, getS, startE, List.map_cons, List.map_nil, List.length_cons, List.length_nil, List.replicate, List.cons_append, List.nil_append, List.append_nil, Option.map_some, Option.map_none, Option.bind_some, oEq_ss, oNe_ss, oEq_ii, oNe_ii, oAdd_ii, oSub_ii, ix_0, ix_1, ix_2, ix_k0, ix_n1, ix_p1, ix_p2, ix_e1, ix_e2, hd1, hd2, hd3, hd4, hd5, hd6, fin_rt, fin_nx, ret_d, if_true, if_false, Bool.false_eq_true, Bool.true_eq_false, Bool.not_true, Bool.not_false, beq_self_eq_true, decide_true, decide_false, true_and, and_true, lit0, lit1, lit2, lit3, lit4, lit5, lit6, lit7, lit8, lit9, lit10, wYes, wFrz, rd_dct, ret_tk, take_mod]
  exact q
/-! ### book_by -/
def pBB (xs : List PyData) (y : PyData) : Prop := ∃ b g, xs = [encB b, Kd.enc g] ∧ okB b ∧ gapB b g ∧ y = encB (nbOf b g)
theorem rows_of : ∀ (ps : List (PyData × PyData)) (S : List Row), (∀ e ∈ ps, ∃ r ∈ S, e = encE r) → ∃ rows : List Row, ps = rows.map encE ∧ ∀ r ∈ rows, r ∈ S
  | [], _, _ => ⟨[], rfl, fun _ h => by simp at h⟩
  | e :: ps, S, h => by
    obtain ⟨r, hr, rfl⟩ := h e (List.mem_cons_self ..)
    obtain ⟨rows, rfl, h2⟩ := rows_of ps S fun e he => h e (List.mem_cons_of_mem _ he)
    exact ⟨r :: rows, rfl, fun s hs => (List.mem_cons.mp hs).elim (fun z => z ▸ hr) (h2 s)⟩
theorem encE_inj {r s : Row} (h : encE r = encE s) : r = s := by
  have h1 : r.1 = s.1 := by
    have := congrArg Prod.fst h
    injection this
  have h2 := enc_inj (congrArg Prod.snd h)
  cases r; cases s; simp_all
theorem keeps_book_by : Keeps 3 (spF pBB) (b_book_by (spF pBH) (spF pCh) (spF pCd)) := by
  rintro args st Q E ⟨xs, y, rfl, ⟨b, g, rfl, hb, hg, rfl⟩, q⟩
  simp only [b_book_by, wSeq, wIf, wRet, wRetN, wAsg, wExpr, wSkip, wBrk, wCnt, wVar, wC, wBin, wUn, wIfE, wT, wTr, wNot, wAnd, wOr, wAndV, wOrV, wChain, wBinS, wUnS, wOpN, wTup, wLst, wCons, wNil, wCall, wMs, wPar, wPar3, gN, gTupN, gCons, gNil, isD, isSt, isDc, optK_some, rd_d, rdS_d, frs_nil, frs_d, rds_nil, rds_d, on1, on2, asB_b, set0, setS, get0, getS, startE, List.map_cons, List.map_nil, List.length_cons, List.length_nil, List.replicate, List.cons_append, List.nil_append, List.append_nil, Option.map_some, Option.map_none, Option.bind_some, oEq_ss, oNe_ss, oEq_ii, oNe_ii, oAdd_ii, oSub_ii, ix_0, ix_1, ix_2, ix_k0, ix_n1, ix_p1, ix_p2, ix_e1, ix_e2, hd1, hd2, hd3, hd4, hd5, hd6, fin_rt, fin_nx, ret_d, if_true, if_false, Bool.false_eq_true, Bool.true_eq_false, Bool.not_true, Bool.not_false, beq_self_eq_true, decide_true, decide_false, true_and, and_true, lit0, lit1, lit2, lit3, lit4, lit5, lit6, lit7, lit8, lit9, lit10, wYes]
  refine spF_go (xs := [encB b]) ⟨b, rfl, hb, rfl⟩ ?_
  try simp only [wSeq, wIf, wRet, wRetN, wAsg, wExpr, wSkip, wBrk, wCnt, wVar, wC, wBin, wUn, wIfE, wT, wTr, wNot, wAnd, wOr, wAndV, wOrV, wChain, wBinS, wUnS, wOpN, wTup, wLst, wCons, wNil, wCall, wMs, wPar, wPar3, gN, gTupN, gCons, gNil, isD, isSt, isDc, optK_some, rd_d, rdS_d, frs_nil, frs_d, rds_nil, rds_d, on1, on2, asB_b, set0, setS, get0, getS, startE, List.map_cons, List.map_nil, List.length_cons, List.length_nil, List.replicate, List.cons_append, List.nil_append, List.append_nil, Option.map_some, Option.map_none, Option.bind_some, oEq_ss, oNe_ss, oEq_ii, oNe_ii, oAdd_ii, oSub_ii, ix_0, ix_1, ix_2, ix_k0, ix_n1, ix_p1, ix_p2, ix_e1, ix_e2, hd1, hd2, hd3, hd4, hd5, hd6, fin_rt, fin_nx, ret_d, if_true, if_false, Bool.false_eq_true, Bool.true_eq_false, Bool.not_true, Bool.not_false, beq_self_eq_true, decide_true, decide_false, true_and, and_true, lit0, lit1, lit2, lit3, lit4, lit5, lit6, lit7, lit8, lit9, lit10, wYes]
  refine spF_go (xs := [.dict (dctB b), g.enc]) ⟨b, g, rfl, hb, hg, rfl⟩ ?_
  try simp only [wSeq, wIf, wRet, wRetN, wAsg, wExpr, wSkip, wBrk, wCnt, wVar, wC, wBin, wUn, wIfE, wT, wTr, wNot, wAnd, wOr, wAndV, wOrV, wChain, wBinS, wUnS, wOpN, wTup, wLst, wCons, wNil, wCall, wMs, wPar, wPar3, gN, gTupN, gCons, gNil, isD, isSt, isDc, optK_some, rd_d, rdS_d, frs_nil, frs_d, rds_nil, rds_d, on1, on2, asB_b, set0, setS, get0, getS, startE, List.map_cons, List.map_nil, List.length_cons, List.length_nil, List.replicate, List.cons_append, List.nil_append, List.append_nil, Option.map_some, Option.map_none, Option.bind_some, oEq_ss, oNe_ss, oEq_ii, oNe_ii, oAdd_ii, oSub_ii, ix_0, ix_1, ix_2, ix_k0, ix_n1, ix_p1, ix_p2, ix_e1, ix_e2, hd1, hd2, hd3, hd4, hd5, hd6, fin_rt, fin_nx, ret_d, if_true, if_false, Bool.false_eq_true, Bool.true_eq_false, Bool.not_true, Bool.not_false, beq_self_eq_true, decide_true, decide_false, true_and, and_true, lit0, lit1, lit2, lit3, lit4, lit5, lit6, lit7, lit8, lit9, lit10, wYes, wSortI]
  refine spF_go (xs := [.dict (dctB b), g.enc]) ⟨b, g, rfl, hb, hg, rfl⟩ ?_
  try simp only [wSeq, wIf, wRet, wRetN, wAsg, wExpr, wSkip, wBrk, wCnt, wVar, wC, wBin, wUn, wIfE, wT, wTr, wNot, wAnd, wOr, wAndV, wOrV, wChain, wBinS, wUnS, wOpN, wTup, wLst, wCons, wNil, wCall, wMs, wPar, wPar3, gN, gTupN, gCons, gNil, isD, isSt, isDc, optK_some, rd_d, rdS_d, frs_nil, frs_d, rds_nil, rds_d, on1, on2, asB_b, set0, setS, get0, getS, startE, List.map_cons, List.map_nil, List.length_cons, List.length_nil, List.replicate, List.cons_append, List.nil_append, List.append_nil, Option.map_some, Option.map_none, Option.bind_some, oEq_ss, oNe_ss, oEq_ii, oNe_ii, oAdd_ii, oSub_ii, ix_0, ix_1, ix_2, ix_k0, ix_n1, ix_p1, ix_p2, ix_e1, ix_e2, hd1, hd2, hd3, hd4, hd5, hd6, fin_rt, fin_nx, ret_d, if_true, if_false, Bool.false_eq_true, Bool.true_eq_false, Bool.not_true, Bool.not_false, beq_self_eq_true, decide_true, decide_false, true_and, and_true, lit0, lit1, lit2, lit3, lit4, lit5, lit6, lit7, lit8, lit9, lit10, wYes]
  refine ⟨fun e he => ?_, fun ps hp hs => ?_⟩
  · obtain ⟨r, _, rfl⟩ := List.mem_map.mp he
    exact ⟨r.1, rfl⟩
  · obtain ⟨m1, m2, m3⟩ := allR_M hb hg
    obtain ⟨n1, n2, _⟩ := nbOf_ok hb hg
    obtain ⟨rows, rfl, hrows⟩ := rows_of ps (allR g b b) fun e he => by
      obtain ⟨r, hr, rfl⟩ := List.mem_map.mp (hp.mem_iff.mp he)
      exact ⟨r, hr, rfl⟩
    have hp2 : ∀ r, r ∈ rows ↔ r ∈ allR g b b := fun r => by
      refine ⟨hrows r, fun hr => ?_⟩
      obtain ⟨s, hs, e⟩ := List.mem_map.mp (hp.mem_iff.mpr (List.mem_map.mpr ⟨r, hr, rfl⟩))
      exact (encE_inj e) ▸ hs
    have hnd : (rows.map (·.1)).Nodup := by
      have h1 := (hp.map (fun e : PyData × PyData => txOf e.1)).nodup_iff
      rw [List.map_map] at h1
      have e1 : (rows.map ((fun e : PyData × PyData => txOf e.1) ∘ encE)) = rows.map (·.1) := List.map_congr_left fun r _ => rfl
      have e2 : (dctB (allR g b b)).map (fun e : PyData × PyData => txOf e.1) = (allR g b b).map (·.1) := by
        unfold dctB
        rw [List.map_map]
        exact List.map_congr_left fun r _ => rfl
      rw [e1, e2] at h1
      exact h1.mpr m1
    have hs' : rows.Pairwise fun r s => leT r.1 s.1 = true := by
      rw [List.pairwise_map] at hs
      exact hs
    have e := rows_eq rows (nbOf b g) (strict_of hs' hnd) n1 fun r => by rw [hp2, m2, n2]
    subst e
    have e3 : ((nbOf b g).map encE).map (fun p : PyData × PyData => PyData.tuple [p.1, p.2]) = (nbOf b g).map encR := by
      rw [List.map_map]
      exact List.map_congr_left fun r _ => rfl
    simp only [e3, wSeq, wIf, wRet, wRetN, wAsg, wExpr, wSkip, wBrk, wCnt, wVar, wC, wBin, wUn, wIfE, wT, wTr, wNot, wAnd, wOr, wAndV, wOrV, wChain, wBinS, wUnS, wOpN, wTup, wLst, wCons, wNil, wCall, wMs, wPar, wPar3, gN, gTupN, gCons, gNil, isD, isSt, isDc, optK_some, rd_d, rdS_d, frs_nil, frs_d, rds_nil, rds_d, on1, on2, asB_b, set0, setS, get0, getS, startE, List.map_cons, List.map_nil, List.length_cons, List.length_nil, List.replicate, List.cons_append, List.nil_append, List.append_nil, Option.map_some, Option.map_none, Option.bind_some, oEq_ss, oNe_ss, oEq_ii, oNe_ii, oAdd_ii, oSub_ii, ix_0, ix_1, ix_2, ix_k0, ix_n1, ix_p1, ix_p2, ix_e1, ix_e2, hd1, hd2, hd3, hd4, hd5, hd6, fin_rt, fin_nx, ret_d, if_true, if_false, Bool.false_eq_true, Bool.true_eq_false, Bool.not_true, Bool.not_false, beq_self_eq_true, decide_true, decide_false, true_and, and_true, lit0, lit1, lit2, lit3, lit4, lit5, lit6, lit7, lit8, lit9, lit10, wYes, show ∀ xs, oTuple (.list xs) = some (.tuple xs) from fun _ => rfl]
    exact q
end DL.K20
/-! text K20P10 -/
namespace DL.K20
open PySem DL
/-! ### how long a repr is -/
inductive Wt : PyData → Nat → Prop
  | bl (b : Bool) : Wt (.bool b) 5
  | str (x : Str) (n : Nat) : (∀ c ∈ x.cps.toList, c < 16 ^ 8) → 10 * x.length + 2 ≤ n → Wt (.str x) n
  | tup0 : Wt (.tuple []) 3
  | tup (x : PyData) (xs : List PyData) (n m : Nat) : Wt x n → Wt (.tuple xs) m → Wt (.tuple (x :: xs)) (n + 2 + m)
  | lst0 : Wt (.list []) 3
  | lst (x : PyData) (xs : List PyData) (n m : Nat) : Wt x n → Wt (.list xs) m → Wt (.list (x :: xs)) (n + 2 + m)
theorem Wt.mono {d : PyData} {n m : Nat} (h : Wt d n) (hm : n ≤ m) : ∃ k, k ≤ m ∧ Wt d k := ⟨n, hm, h⟩
theorem shown_all_len (xs : List PyData) : (PyData.shownAll xs).length = xs.length := by
  induction xs with
  | nil => rfl
  | cons x xs ih => rw [PyData.shownAll]; simp [ih]
theorem wt_parts {d : PyData} {n : Nat} (h : Wt d n) : d.shown.length ≤ n ∧ d.plain = true ∧ d.showable = true ∧
    (∀ xs, d = .tuple xs ∨ d = .list xs → ((PyData.shownAll xs).map (·.length)).sum + 2 * xs.length + 3 ≤ n ∧ PyData.plainAll xs = true ∧ PyData.showableAll xs = true) := by
  have tl : ∀ (xs : List PyData) (n : Nat), ((PyData.shownAll xs).map (·.length)).sum + 2 * xs.length + 3 ≤ n → (PyData.shown (.tuple xs)).length ≤ n ∧ (PyData.shown (.list xs)).length ≤ n := by
    intro xs n hh
    have hj := StrLaws.join_length_le ", " (PyData.shownAll xs)
    have l2 : (", " : Str).length = 2 := rfl
    rw [l2, shown_all_len] at hj
    constructor
    · rw [PyData.shown]
      show (("(" : Str) ++ Str.join ", " (PyData.shownAll xs) ++ (if (PyData.shownAll xs).length == 1 then ",)" else ")" : String)).length ≤ n
      rw [str_len_append, str_len_append]
      have : ((if (PyData.shownAll xs).length == 1 then ",)" else ")" : String) : Str).length ≤ 2 := by split <;> decide
      have h1 : ("(" : Str).length = 1 := rfl
      omega
    · rw [PyData.shown, listText_eq_join]
      rw [str_len_append, str_len_append]
      have h1 : ("[" : Str).length = 1 := rfl
      have h2 : ("]" : Str).length = 1 := rfl
      omega
  induction h with
  | bl b => exact ⟨by cases b <;> decide, rfl, by simp [PyData.showable], fun xs h => h.elim (fun z => nomatch z) fun z => nomatch z⟩
  | str x n hx hn =>
    refine ⟨?_, rfl, by simp [PyData.showable], fun xs h => h.elim (fun z => nomatch z) fun z => nomatch z⟩
    rw [PyData.shown]
    exact Nat.le_trans (StrLaws.reprText_len x hx) hn
  | tup0 => exact ⟨by decide, by simp [PyData.plain, PyData.plainAll], by simp [PyData.showable, PyData.showableAll], fun xs h => h.elim (fun z => by cases z; exact ⟨by simp [PyData.shownAll], by simp [PyData.plainAll], by simp [PyData.showableAll]⟩) fun z => nomatch z⟩
  | lst0 => exact ⟨by decide, by simp [PyData.plain, PyData.plainAll], by simp [PyData.showable, PyData.showableAll], fun xs h => h.elim (fun z => nomatch z) fun z => by cases z; exact ⟨by simp [PyData.shownAll], by simp [PyData.plainAll], by simp [PyData.showableAll]⟩⟩
  | tup x xs n m h1 h2 i1 i2 =>
    obtain ⟨a1, a2, a3, _⟩ := i1
    obtain ⟨b1, b2, b3⟩ := i2.2.2.2 xs (.inl rfl)
    have key : ((PyData.shownAll (x :: xs)).map (·.length)).sum + 2 * (x :: xs).length + 3 ≤ n + 2 + m := by
      rw [PyData.shownAll]
      simp only [List.map_cons, List.sum_cons, List.length_cons]
      omega
    have p2 : PyData.plainAll (x :: xs) = true := by rw [PyData.plainAll, a2, b2]; rfl
    have p3 : PyData.showableAll (x :: xs) = true := by rw [PyData.showableAll, a3, b3]; rfl
    refine ⟨(tl _ _ key).1, by rw [PyData.plain]; exact p2, by rw [PyData.showable]; exact p3, fun ys h => h.elim (fun z => by cases z; exact ⟨key, p2, p3⟩) fun z => nomatch z⟩
  | lst x xs n m h1 h2 i1 i2 =>
    obtain ⟨a1, a2, a3, _⟩ := i1
    obtain ⟨b1, b2, b3⟩ := i2.2.2.2 xs (.inr rfl)
    have key : ((PyData.shownAll (x :: xs)).map (·.length)).sum + 2 * (x :: xs).length + 3 ≤ n + 2 + m := by
      rw [PyData.shownAll]
      simp only [List.map_cons, List.sum_cons, List.length_cons]
      omega
    have p2 : PyData.plainAll (x :: xs) = true := by rw [PyData.plainAll, a2, b2]; rfl
    have p3 : PyData.showableAll (x :: xs) = true := by rw [PyData.showableAll, a3, b3]; rfl
    refine ⟨(tl _ _ key).2, by rw [PyData.plain]; exact p2, by rw [PyData.showable]; exact p3, fun ys h => h.elim (fun z => nomatch z) fun z => by cases z; exact ⟨key, p2, p3⟩⟩
theorem okRepr_of {d : PyData} {n : Nat} (h : Wt d n) (hn : n ≤ 10000000) (hd : d.depth ≤ 200) : okRepr d = true := by
  obtain ⟨h1, h2, h3, _⟩ := wt_parts h
  unfold okRepr
  rw [h2, h3, decide_eq_true hd, decide_eq_true (lim_of (Nat.le_trans h1 hn))]
  rfl
def pIs (xs : List PyData) (y : PyData) : Prop := ∃ x, xs = [x, x] ∧ okRepr x = true ∧ y = .bool true
theorem keeps_law_is : Keeps 2 (spF pIs) b_law_is := by
  rintro args st Q E ⟨xs, y, rfl, ⟨x, rfl, hx, rfl⟩, q⟩
  have hr : oRepr x = some (.str x.shown) := if_pos hx
  simp only [b_law_is, wSeq, wIf, wRet, wRetN, wAsg, wExpr, wSkip, wBrk, wCnt, wVar, wC, wBin, wUn, wIfE, wT, wTr, wNot, wAnd, wOr, wAndV, wOrV, wChain, wBinS, wUnS, wOpN, wTup, wLst, wCons, wNil, wCall, wMs, wPar, wPar3, gN, gTupN, gCons, gNil, isD, isSt, isDc, optK_some, rd_d, rdS_d, frs_nil, frs_d, rds_nil, rds_d, on1, on2, asB_b, set0, setS, get0, getS, startE, List.map_cons, List.map_nil, List.length_cons, List.length_nil, List.replicate, List.cons_append, List.nil_append, List.append_nil, Option.map_some, Option.map_none, Option.bind_some, oEq_ss, oNe_ss, oEq_ii, oNe_ii, oAdd_ii, oSub_ii, ix_0, ix_1, ix_2, ix_k0, ix_n1, ix_p1, ix_p2, ix_e1, ix_e2, hd1, hd2, hd3, hd4, hd5, hd6, fin_rt, fin_nx, ret_d, if_true, if_false, Bool.false_eq_true, Bool.true_eq_false, Bool.not_true, Bool.not_false, beq_self_eq_true, decide_true, decide_false, true_and, and_true, lit0, lit1, lit2, lit3, lit4, lit5, lit6, lit7, lit8, lit9, lit10, wYes, hr]
  exact q
/-! ### the law's own new book -/
def allL (g : Kd) (acc : List Row) (b : List Row) : List Row := b.foldl (fun acc r => putR (putR acc r) (der g r)) acc
theorem allL_ok {M : List Row} {g : Kd} (hf : fnl M) : ∀ (b acc : List Row), (∀ r ∈ b, r ∈ M ∧ der g r ∈ M) → (∀ s ∈ acc, s ∈ M) → (acc.map (·.1)).Nodup →
    ((allL g acc b).map (·.1)).Nodup ∧ (∀ s, s ∈ allL g acc b ↔ s ∈ acc ∨ s ∈ b ∨ s ∈ b.map (der g)) ∧ (allL g acc b).length ≤ acc.length + 2 * b.length
  | [], acc, _, _, hn => ⟨hn, fun s => by simp [allL], Nat.le_refl _⟩
  | r :: b, acc, hb, ha, hn => by
    obtain ⟨hr0, hr⟩ := hb r (List.mem_cons_self ..)
    have hm0 := fun s => putR_mem (s := s) hf hr0 ha
    have ha1 : ∀ s ∈ putR acc r, s ∈ M := fun s hs => ((hm0 s).mp hs).elim (ha s) fun e => e ▸ hr0
    have hm := fun s => putR_mem (s := s) hf hr ha1
    obtain ⟨h1, h2, h3⟩ := allL_ok hf b (putR (putR acc r) (der g r)) (fun s hs => hb s (List.mem_cons_of_mem _ hs)) (fun s hs => ((hm s).mp hs).elim (ha1 s) fun e => e ▸ hr) (putR_nd (putR_nd hn))
    refine ⟨h1, fun s => ?_, ?_⟩
    · show s ∈ allL g (putR (putR acc r) (der g r)) b ↔ _
      rw [h2, hm, hm0]
      simp only [List.map_cons, List.mem_cons]
      constructor
      · rintro (((h | h) | h) | (h | h))
        · exact .inl h
        · exact .inr (.inl (.inl h))
        · exact .inr (.inr (.inl h))
        · exact .inr (.inl (.inr h))
        · exact .inr (.inr (.inr h))
      · rintro (h | (h | h) | (h | h))
        · exact .inl (.inl (.inl h))
        · exact .inl (.inl (.inr h))
        · exact .inr (.inl h)
        · exact .inl (.inr h)
        · exact .inr (.inr h)
    · show (allL g (putR (putR acc r) (der g r)) b).length ≤ _
      have h4 := putR_len acc r
      have h5 := putR_len (putR acc r) (der g r)
      simp only [List.length_cons]
      omega
theorem lb_loop {b : List Row} {g : Kd} {st : Store} {E : EK} {v0 : Option DV} {D : Fin} (hb : okB b) (hg : gapB b g) : ∀ (todo acc : List Row) (v3 v4 : Option DV), (∀ r ∈ todo, r ∈ b) → (∀ s ∈ acc, s ∈ allM b g) → acc.length + 2 * todo.length ≤ 1000 →
    (∀ v3 v4, D.nx [v0, some (.d g.enc), some (.loc st.length), v3, v4] (st ++ [.dct (dctB (allL g acc todo))])) →
    forGo (DL.gTupN 2 (DL.gCons (gN 3) (DL.gCons (gN 4) DL.gNil))) (wSeq (wAsg (wVar 4) (gSub (wVar 2) (wVar 3)))
      (wAsg (wCall (spF (pKB 30)) E (wCons (wVar 4) (wCons (wVar 1) wNil))) (gSub (wVar 2) (wCall (spF pMN) E (wCons (wVar 3) (wCons (wVar 1) wNil)))))) D
      ((todo.map encR).map DV.d) [v0, some (.d g.enc), some (.loc st.length), v3, v4] (st ++ [.dct (dctB acc)])
  | [], acc, v3, v4, _, _, _, q => q v3 v4
  | r :: todo, acc, v3, v4, ht, ha, hl, q => by
    have hr := ht r (List.mem_cons_self ..)
    have hd := hb.kd r hr
    have hf := fnl_M hb hg
    have hr0 : r ∈ allM b g := List.mem_append_left _ hr
    have hrM : der g r ∈ allM b g := List.mem_append_right _ (List.mem_map.mpr ⟨r, hr, rfl⟩)
    have ha1 : ∀ s ∈ putR acc r, s ∈ allM b g := fun s hs => ((putR_mem hf hr0 ha).mp hs).elim (ha s) fun e => e ▸ hr0
    have p1 := putR_len acc r
    have p2 := putR_len (putR acc r) (der g r)
    simp only [List.length_cons] at hl
    have hput0 := putR_enc (r := r) hf hr0 ha
    have hsd0 := set_dict st (dctB acc) (.str r.1) r.2.enc rfl (by unfold dctB lim; rw [List.length_map]; omega)
    rw [hput0] at hsd0
    have hput := putR_enc (r := der g r) hf hrM ha1
    have hsd := set_dict st (dctB (putR acc r)) (.str (nameBy r.1 g)) (byK r.2 g).enc rfl (by unfold dctB lim; rw [List.length_map]; omega)
    rw [show putK (dctB (putR acc r)) (.str (nameBy r.1 g)) (byK r.2 g).enc = dctB (putR (putR acc r) (der g r)) from hput] at hsd
    simp only [List.map_cons, encR, forGo, wSeq, wIf, wRet, wRetN, wAsg, wExpr, wSkip, wBrk, wCnt, wVar, wC, wBin, wUn, wIfE, wT, wTr, wNot, wAnd, wOr, wAndV, wOrV, wChain, wBinS, wUnS, wOpN, wTup, wLst, wCons, wNil, wCall, wMs, wPar, wPar3, gN, gTupN, gCons, gNil, isD, isSt, isDc, optK_some, rd_d, rdS_d, frs_nil, frs_d, rds_nil, rds_d, on1, on2, asB_b, set0, setS, get0, getS, startE, List.map_cons, List.map_nil, List.length_cons, List.length_nil, List.replicate, List.cons_append, List.nil_append, List.append_nil, Option.map_some, Option.map_none, Option.bind_some, oEq_ss, oNe_ss, oEq_ii, oNe_ii, oAdd_ii, oSub_ii, ix_0, ix_1, ix_2, ix_k0, ix_n1, ix_p1, ix_p2, ix_e1, ix_e2, hd1, hd2, hd3, hd4, hd5, hd6, fin_rt, fin_nx, ret_d, if_true, if_false, Bool.false_eq_true, Bool.true_eq_false, Bool.not_true, Bool.not_false, beq_self_eq_true, decide_true, decide_false, true_and, and_true, lit0, lit1, lit2, lit3, lit4, lit5, lit6, lit7, lit8, lit9, lit10, wYes, gSub, hsd0]
    refine spF_go (xs := [r.2.enc, g.enc]) ⟨r.2, g, rfl, gapB_gap hg, hd.1, nm_len900 hb hr, rfl⟩ ?_
    try simp only [wSeq, wIf, wRet, wRetN, wAsg, wExpr, wSkip, wBrk, wCnt, wVar, wC, wBin, wUn, wIfE, wT, wTr, wNot, wAnd, wOr, wAndV, wOrV, wChain, wBinS, wUnS, wOpN, wTup, wLst, wCons, wNil, wCall, wMs, wPar, wPar3, gN, gTupN, gCons, gNil, isD, isSt, isDc, optK_some, rd_d, rdS_d, frs_nil, frs_d, rds_nil, rds_d, on1, on2, asB_b, set0, setS, get0, getS, startE, List.map_cons, List.map_nil, List.length_cons, List.length_nil, List.replicate, List.cons_append, List.nil_append, List.append_nil, Option.map_some, Option.map_none, Option.bind_some, oEq_ss, oNe_ss, oEq_ii, oNe_ii, oAdd_ii, oSub_ii, ix_0, ix_1, ix_2, ix_k0, ix_n1, ix_p1, ix_p2, ix_e1, ix_e2, hd1, hd2, hd3, hd4, hd5, hd6, fin_rt, fin_nx, ret_d, if_true, if_false, Bool.false_eq_true, Bool.true_eq_false, Bool.not_true, Bool.not_false, beq_self_eq_true, decide_true, decide_false, true_and, and_true, lit0, lit1, lit2, lit3, lit4, lit5, lit6, lit7, lit8, lit9, lit10, wYes, gSub]
    refine spF_go (xs := [.str r.1, g.enc]) ⟨r.1, g, rfl, gapB_gap hg, nm_len1000 hb hr, rfl⟩ ?_
    simp only [wSeq, wIf, wRet, wRetN, wAsg, wExpr, wSkip, wBrk, wCnt, wVar, wC, wBin, wUn, wIfE, wT, wTr, wNot, wAnd, wOr, wAndV, wOrV, wChain, wBinS, wUnS, wOpN, wTup, wLst, wCons, wNil, wCall, wMs, wPar, wPar3, gN, gTupN, gCons, gNil, isD, isSt, isDc, optK_some, rd_d, rdS_d, frs_nil, frs_d, rds_nil, rds_d, on1, on2, asB_b, set0, setS, get0, getS, startE, List.map_cons, List.map_nil, List.length_cons, List.length_nil, List.replicate, List.cons_append, List.nil_append, List.append_nil, Option.map_some, Option.map_none, Option.bind_some, oEq_ss, oNe_ss, oEq_ii, oNe_ii, oAdd_ii, oSub_ii, ix_0, ix_1, ix_2, ix_k0, ix_n1, ix_p1, ix_p2, ix_e1, ix_e2, hd1, hd2, hd3, hd4, hd5, hd6, fin_rt, fin_nx, ret_d, if_true, if_false, Bool.false_eq_true, Bool.true_eq_false, Bool.not_true, Bool.not_false, beq_self_eq_true, decide_true, decide_false, true_and, and_true, lit0, lit1, lit2, lit3, lit4, lit5, lit6, lit7, lit8, lit9, lit10, wYes, hsd]
    refine lb_loop hb hg todo (putR (putR acc r) (der g r)) _ _ (fun s hs => ht s (List.mem_cons_of_mem _ hs)) (fun s hs => ?_) (by omega) fun v3 v4 => q v3 v4
    exact ((putR_mem hf hrM ha1).mp hs).elim (ha1 s) fun e => e ▸ hrM
theorem isLD_at (st : Store) (kvs : List (PyData × PyData)) (k : List (PyData × PyData) → Prop) : isLD (st ++ [.dct kvs]) (.loc st.length) k = k kvs := by
  unfold isLD
  simp only [getA]
theorem texts_dct (rows : List Row) : textsOf ((dctB rows).map (·.1)) = some (rows.map (·.1)) := by
  have : (dctB rows).map (·.1) = (rows.map (·.1)).map PyData.str := by
    unfold dctB
    rw [List.map_map, List.map_map]
    rfl
  rw [this, textsOf_map]
def pLB (xs : List PyData) (y : PyData) : Prop := ∃ b g, xs = [encB b, Kd.enc g] ∧ okB b ∧ gapB b g ∧ b.length ≤ 31 ∧ y = encB (nbOf b g)
theorem keeps_law_lib_by : Keeps 5 (spF pLB) (b_law_lib_by (spF (pKB 30)) (spF pMN)) := by
  rintro args st Q E ⟨xs, y, rfl, ⟨b, g, rfl, hb, hg, hl, rfl⟩, q⟩
  have hf := fnl_M hb hg
  simp only [b_law_lib_by, wSeq, wIf, wRet, wRetN, wAsg, wExpr, wSkip, wBrk, wCnt, wVar, wC, wBin, wUn, wIfE, wT, wTr, wNot, wAnd, wOr, wAndV, wOrV, wChain, wBinS, wUnS, wOpN, wTup, wLst, wCons, wNil, wCall, wMs, wPar, wPar3, gN, gTupN, gCons, gNil, isD, isSt, isDc, optK_some, rd_d, rdS_d, frs_nil, frs_d, rds_nil, rds_d, on1, on2, asB_b, set0, setS, get0, getS, startE, List.map_cons, List.map_nil, List.length_cons, List.length_nil, List.replicate, List.cons_append, List.nil_append, List.append_nil, Option.map_some, Option.map_none, Option.bind_some, oEq_ss, oNe_ss, oEq_ii, oNe_ii, oAdd_ii, oSub_ii, ix_0, ix_1, ix_2, ix_k0, ix_n1, ix_p1, ix_p2, ix_e1, ix_e2, hd1, hd2, hd3, hd4, hd5, hd6, fin_rt, fin_nx, ret_d, if_true, if_false, Bool.false_eq_true, Bool.true_eq_false, Bool.not_true, Bool.not_false, beq_self_eq_true, decide_true, decide_false, true_and, and_true, lit0, lit1, lit2, lit3, lit4, lit5, lit6, lit7, lit8, lit9, lit10, wYes, wDctM, wFor, iSeq, encB, itemsOf]
  refine lb_loop hb hg b [] none none (fun r hr => hr) (fun s hs => by simp at hs) (by simp; omega) fun v3 v4 => ?_
  obtain ⟨m1, m2, m3⟩ := allL_ok hf b [] (fun r hr => ⟨List.mem_append_left _ hr, List.mem_append_right _ (List.mem_map.mpr ⟨r, hr, rfl⟩)⟩) (fun s hs => by simp at hs) List.nodup_nil
  generalize hR : allL g [] b = R at m1 m2 m3
  obtain ⟨n1, n2, _⟩ := nbOf_ok hb hg
  have hso : oSorted (.list ((dctB R).map (·.1))) = some (.list ((sortT (R.map (·.1))).map .str)) := by
    show (textsOf ((dctB R).map (·.1))).bind (fun ss => if ss.length < 64 then some (PyData.list ((sortT ss).map .str)) else none) = _
    rw [texts_dct]
    show (if (R.map (·.1)).length < 64 then some (PyData.list ((sortT (R.map (·.1))).map .str)) else none) = _
    rw [if_pos (by rw [List.length_map]; simp only [List.length_nil] at m3; omega)]
  have hperm : (sortT (R.map (·.1))).Perm (R.map (·.1)) := List.mergeSort_perm _ _
  have hlook : ∀ n ∈ sortT (R.map (·.1)), ∃ k : Kd, (n, k) ∈ R := fun n hn => by
    obtain ⟨⟨m, k⟩, hm, rfl⟩ := List.mem_map.mp (hperm.mem_iff.mp hn)
    exact ⟨k, hm⟩
  simp only [wSeq, wIf, wRet, wRetN, wAsg, wExpr, wSkip, wBrk, wCnt, wVar, wC, wBin, wUn, wIfE, wT, wTr, wNot, wAnd, wOr, wAndV, wOrV, wChain, wBinS, wUnS, wOpN, wTup, wLst, wCons, wNil, wCall, wMs, wPar, wPar3, gN, gTupN, gCons, gNil, isD, isSt, isDc, optK_some, rd_d, rdS_d, frs_nil, frs_d, rds_nil, rds_d, on1, on2, asB_b, set0, setS, get0, getS, startE, List.map_cons, List.map_nil, List.length_cons, List.length_nil, List.replicate, List.cons_append, List.nil_append, List.append_nil, Option.map_some, Option.map_none, Option.bind_some, oEq_ss, oNe_ss, oEq_ii, oNe_ii, oAdd_ii, oSub_ii, ix_0, ix_1, ix_2, ix_k0, ix_n1, ix_p1, ix_p2, ix_e1, ix_e2, hd1, hd2, hd3, hd4, hd5, hd6, fin_rt, fin_nx, ret_d, if_true, if_false, Bool.false_eq_true, Bool.true_eq_false, Bool.not_true, Bool.not_false, beq_self_eq_true, decide_true, decide_false, true_and, and_true, lit0, lit1, lit2, lit3, lit4, lit5, lit6, lit7, lit8, lit9, lit10, wYes, wLc, iSeq, wListK, isLD_at, hso, itemsOf, wipeE]
  let rowOf : DV → PyData := fun x => match x with
    | .d (.str n) => .tuple [.str n, (lookK (dctB R) (.str n)).getD .none]
    | _ => .none
  refine lc_go (fun _ => true) rowOf _ [] (fun x hx K1 K2 hk1 => ?_) ?_
  · obtain ⟨d, hd, rfl⟩ := List.mem_map.mp hx
    obtain ⟨n, hn, rfl⟩ := List.mem_map.mp hd
    obtain ⟨k, hk⟩ := hlook n hn
    have hlk := look_dct m1 hk
    have hk' : K1 (.tuple [.str n, k.enc]) (st ++ [.dct (dctB R)]) := by
      have : rowOf (.d (.str n)) = .tuple [.str n, k.enc] := by show PyData.tuple [.str n, (lookK (dctB R) (.str n)).getD .none] = _; rw [hlk]; rfl
      rw [if_pos rfl, this] at hk1
      exact hk1
    have hrd : rdS (st ++ [.dct (dctB R)]) (.loc st.length) = some (.dict (dctB R)) := rd_dct st _
    have hix : oIx (.dict (dctB R)) (.str n) = some k.enc := by
      show (if isKey (.str n) = true then lookK (dctB R) (.str n) else none) = _
      rw [if_pos (show isKey (.str n) = true from rfl), hlk]
    simp only [wSeq, wIf, wRet, wRetN, wAsg, wExpr, wSkip, wBrk, wCnt, wVar, wC, wBin, wUn, wIfE, wT, wTr, wNot, wAnd, wOr, wAndV, wOrV, wChain, wBinS, wUnS, wOpN, wTup, wLst, wCons, wNil, wCall, wMs, wPar, wPar3, gN, gTupN, gCons, gNil, isD, isSt, isDc, optK_some, rd_d, rdS_d, frs_nil, frs_d, rds_nil, rds_d, on1, on2, asB_b, set0, setS, get0, getS, startE, List.map_cons, List.map_nil, List.length_cons, List.length_nil, List.replicate, List.cons_append, List.nil_append, List.append_nil, Option.map_some, Option.map_none, Option.bind_some, oEq_ss, oNe_ss, oEq_ii, oNe_ii, oAdd_ii, oSub_ii, ix_0, ix_1, ix_2, ix_k0, ix_n1, ix_p1, ix_p2, ix_e1, ix_e2, hd1, hd2, hd3, hd4, hd5, hd6, fin_rt, fin_nx, ret_d, if_true, if_false, Bool.false_eq_true, Bool.true_eq_false, Bool.not_true, Bool.not_false, beq_self_eq_true, decide_true, decide_false, true_and, and_true, lit0, lit1, lit2, lit3, lit4, lit5, lit6, lit7, lit8, lit9, lit10, wYes, hrd, hix]
    exact hk'
  · have hrows : ∃ rows : List Row, ((((sortT (R.map (·.1))).map PyData.str).map DV.d).filter fun _ => true).map rowOf = rows.map encR ∧ rows.map (·.1) = sortT (R.map (·.1)) ∧ ∀ r ∈ rows, r ∈ R := by
      simp only [filter_all]
      generalize sortT (R.map (·.1)) = L at hlook
      induction L with
      | nil => exact ⟨[], rfl, rfl, fun _ h => by simp at h⟩
      | cons n L ih =>
        obtain ⟨k, hk⟩ := hlook n (List.mem_cons_self ..)
        obtain ⟨rows, e1, e2, e3⟩ := ih fun m hm => hlook m (List.mem_cons_of_mem _ hm)
        refine ⟨(n, k) :: rows, ?_, by simp [e2], fun r hr => (List.mem_cons.mp hr).elim (fun z => z ▸ hk) (e3 r)⟩
        simp only [List.map_cons]
        rw [e1]
        have : rowOf (.d (.str n)) = encR (n, k) := by show PyData.tuple [.str n, (lookK (dctB R) (.str n)).getD .none] = _; rw [look_dct m1 hk]; rfl
        rw [this]
    obtain ⟨rows, e1, e2, e3⟩ := hrows
    have hnd : (rows.map (·.1)).Nodup := by rw [e2]; exact hperm.nodup_iff.mpr m1
    have hs : rows.Pairwise fun r s => leT r.1 s.1 = true := by
      have h1 : (sortT (R.map (·.1))).Pairwise fun x y => leT x y = true := List.pairwise_mergeSort leT_trans leT_total _
      rw [← e2, List.pairwise_map] at h1
      exact h1
    have hmem : ∀ r, r ∈ rows ↔ r ∈ R := fun r => ⟨e3 r, fun hr => by
      have : r.1 ∈ rows.map (·.1) := by rw [e2]; exact hperm.mem_iff.mpr (List.mem_map.mpr ⟨r, hr, rfl⟩)
      obtain ⟨s, hs', e⟩ := List.mem_map.mp this
      rw [← nd_eq m1 (e3 s hs') hr e]
      exact hs'⟩
    have e := rows_eq rows (nbOf b g) (strict_of hs hnd) n1 fun r => by
      rw [hmem, m2, n2]
      unfold allM
      rw [List.mem_append]
      simp
    subst e
    simp only [List.nil_append, e1, wSeq, wIf, wRet, wRetN, wAsg, wExpr, wSkip, wBrk, wCnt, wVar, wC, wBin, wUn, wIfE, wT, wTr, wNot, wAnd, wOr, wAndV, wOrV, wChain, wBinS, wUnS, wOpN, wTup, wLst, wCons, wNil, wCall, wMs, wPar, wPar3, gN, gTupN, gCons, gNil, isD, isSt, isDc, optK_some, rd_d, rdS_d, frs_nil, frs_d, rds_nil, rds_d, on1, on2, asB_b, set0, setS, get0, getS, startE, List.map_cons, List.map_nil, List.length_cons, List.length_nil, List.replicate, List.cons_append, List.nil_append, List.append_nil, Option.map_some, Option.map_none, Option.bind_some, oEq_ss, oNe_ss, oEq_ii, oNe_ii, oAdd_ii, oSub_ii, ix_0, ix_1, ix_2, ix_k0, ix_n1, ix_p1, ix_p2, ix_e1, ix_e2, hd1, hd2, hd3, hd4, hd5, hd6, fin_rt, fin_nx, ret_d, if_true, if_false, Bool.false_eq_true, Bool.true_eq_false, Bool.not_true, Bool.not_false, beq_self_eq_true, decide_true, decide_false, true_and, and_true, lit0, lit1, lit2, lit3, lit4, lit5, lit6, lit7, lit8, lit9, lit10, wYes, show ∀ xs, oTuple (.list xs) = some (.tuple xs) from fun _ => rfl, ret_tk, take_app]
    exact q
end DL.K20
/-! text K20P11 -/
namespace DL.K20
open PySem DL
/-! ### springs -/
abbrev spr (a b c : Int) : Cell := .lst [.int a, .int b, .int c]
def Spr (st : Store) (i : Nat) : Prop := ∃ a b c, st[i]? = some (spr a b c)
def SpTo (st : Store) (i : Nat) (st' : Store) : Prop := ∃ a b c, st' = st.set i (spr a b c)
theorem Spr.lt {st : Store} {i : Nat} (h : Spr st i) : i < st.length := let ⟨_, _, _, h⟩ := h; (List.getElem?_eq_some_iff.mp h).1
theorem SpTo.spr {st st' : Store} {i : Nat} (h : Spr st i) (t : SpTo st i st') : Spr st' i := by
  obtain ⟨a, b, c, rfl⟩ := t
  exact ⟨a, b, c, List.getElem?_set_self h.lt⟩
theorem SpTo.trans {st st1 st2 : Store} {i : Nat} (h : SpTo st i st1) (t : SpTo st1 i st2) : SpTo st i st2 := by
  obtain ⟨a, b, c, rfl⟩ := h
  obtain ⟨a', b', c', rfl⟩ := t
  exact ⟨a', b', c', by rw [List.set_set]⟩
theorem SpTo.len {st st' : Store} {i : Nat} (t : SpTo st i st') : st'.length = st.length := by
  obtain ⟨a, b, c, rfl⟩ := t
  simp
theorem SpTo.other {st st' : Store} {i j : Nat} (t : SpTo st i st') (h : j ≠ i) : st'[j]? = st[j]? := by
  obtain ⟨a, b, c, rfl⟩ := t
  rw [List.getElem?_set_ne (Ne.symm h)]
theorem Spr.self {st : Store} {i : Nat} (h : Spr st i) : SpTo st i st := by
  obtain ⟨a, b, c, h⟩ := h
  refine ⟨a, b, c, ?_⟩
  apply List.ext_getElem?
  intro j
  by_cases hj : i = j
  · subst hj; rw [h, List.getElem?_set_self (List.getElem?_eq_some_iff.mp h).1]
  · rw [List.getElem?_set_ne hj]
/-- a def that draws: the answer, and a turned spring -/
def spS (pre : Store → Nat → List DV → (PyData → Prop) → Prop) : SpD := fun args st Q _ => ∃ i rest R, args = .loc i :: rest ∧ Spr st i ∧ pre st i rest R ∧ ∀ y st', R y → SpTo st i st' → Q (.d y) st'
theorem spS_go {pre : Store → Nat → List DV → (PyData → Prop) → Prop} {st : Store} {Q : RK} {E : EK} {i : Nat} {rest : List DV} {R : PyData → Prop} (h : Spr st i) (p : pre st i rest R) (q : ∀ y st', R y → SpTo st i st' → Q (.d y) st') : spS pre (.loc i :: rest) st Q E := ⟨i, rest, R, rfl, h, p, q⟩
theorem rd_at {st : Store} {i : Nat} {xs : List PyData} (h : st[i]? = some (.lst xs)) : rd st (.loc i) = some (.list xs) := by
  unfold rd
  simp only [h]
theorem rdS_at {st : Store} {i : Nat} {xs : List PyData} (h : st[i]? = some (.lst xs)) : rdS st (.loc i) = some (.list xs) := rd_at h
theorem rdS_set {st : Store} {i : Nat} {xs : List PyData} (h : i < st.length) : rdS (st.set i (.lst xs)) (.loc i) = some (.list xs) := rd_at (List.getElem?_set_self h)
theorem setAt_at {st : Store} {i : Nat} {xs ys : List PyData} {z : Int} (h : st[i]? = some (.lst xs)) (k : Nat) (v : PyData) (hk : k < xs.length) (hz : z = ((k : Nat) : Int)) (hy : xs.set k v = ys) : setAt st (.loc i) (.int z) v = some (st.set i (.lst ys)) := by
  subst hz
  subst hy
  unfold setAt
  simp only [h]
  have e : L2.ixN xs.length ((k : Nat) : Int) = some k := by
    unfold L2.ixN
    rw [if_pos (by omega), if_pos (by omega)]
    simp
  rw [e]
  rfl
theorem setAt_set {st : Store} {i : Nat} {xs ys : List PyData} {z : Int} (h : i < st.length) (k : Nat) (v : PyData) (hk : k < xs.length) (hz : z = ((k : Nat) : Int)) (hy : xs.set k v = ys) : setAt (st.set i (.lst xs)) (.loc i) (.int z) v = some (st.set i (.lst ys)) := by
  rw [setAt_at (List.getElem?_set_self h) k v hk hz hy, List.set_set]
theorem ixl0 (x : PyData) (r : List PyData) : oIx (.list (x :: r)) (.int 0) = some x := L2.atI_nat (j := 0) rfl
theorem ixl1 (x y : PyData) (r : List PyData) : oIx (.list (x :: y :: r)) (.int 1) = some y := L2.atI_nat (j := 1) rfl
theorem ixl2 (x y z : PyData) (r : List PyData) : oIx (.list (x :: y :: z :: r)) (.int 2) = some z := L2.atI_nat (j := 2) rfl
theorem ret_len {st st' : Store} {Q : RK} {x : PyData} (h : st'.length = st.length) : retK st.length Q (.d x) st' = Q (.d x) st' := by
  rw [ret_tk, ← h, List.take_length]
theorem oMul_l {i j : Int} (h : small64 i = true) : oMul (.int i) (.int j) = some (.int (i * j)) := if_pos (.inl h)
theorem oMul_r {i j : Int} (h : small64 j = true) : oMul (.int i) (.int j) = some (.int (i * j)) := if_pos (.inr h)
theorem oMod_p {i j : Int} (h : 0 < j) : oMod (.int i) (.int j) = some (.int (i % j)) := if_pos h
theorem oDiv_p {i j : Int} (h : 0 < j ∧ j < 1073741824) : oDiv (.int i) (.int j) = some (.int (i / j)) := if_pos h
theorem oInt_i (i : Int) : oInt (.int i) = some (.int i) := rfl
theorem oDm {i j : Int} (h : 0 < j ∧ j < 1073741824) : oDivmod (.int i) (.int j) = some (.tuple [.int (i / j), .int (i % j)]) := if_pos h
theorem small_of {i : Int} (h1 : -1000000 < i) (h2 : i < 1000000) : small64 i = true := by
  unfold small64
  simp only [Bool.and_eq_true, decide_eq_true_eq]
  have e : (2 : Int) ^ 64 = 18446744073709551616 := rfl
  rw [e]
  omega
def pDr (st : Store) (i : Nat) (rest : List DV) (R : PyData → Prop) : Prop := ∃ top : Int, rest = [.d (.int top)] ∧ 0 < top ∧ top < 1073741824 ∧ R = fun y => ∃ r : Int, y = .int r ∧ 0 ≤ r ∧ r < top
/-- a value told at once -/
def Pv (f : WE) (env : Env) (st : Store) (a : PyData) : Prop := ∀ Q : RK, Q (.d a) st → f env st Q
theorem pv_c {env : Env} {st : Store} {x : PyData} : Pv (wC x) env st x := fun Q q => q
theorem pv_var {env : Env} {st : Store} {x : PyData} {i : Nat} (h : env[i]? = some (some (.d x))) : Pv (wVar i) env st x := fun Q q => by
  unfold wVar
  rw [h]
  exact q
theorem pv_bin {env : Env} {st : Store} {a b c : PyData} {fa fb : WE} {op : B2} (ha : Pv fa env st a) (hb : Pv fb env st b) (h : op a b = some c) : Pv (wBin op fa fb) env st c := fun Q q => ha _ (hb _ (by
  simp only [rd_d, optK_some, h]
  exact q))
theorem pv_int {env : Env} {st : Store} {i : Int} {f : WE} (h : Pv f env st (.int i)) : Pv (wOpN (on1 oInt) (wCons f wNil)) env st (.int i) := fun Q q => h _ q
theorem pv_sp {env : Env} {st : Store} {j n : Nat} {l x : PyData} {k : Int} (h0 : env[n]? = some (some (.loc j))) (h1 : rdS st (.loc j) = some l) (h2 : oIx l (.int k) = some x) : Pv (wBinS oIx (wVar n) (wC (.int k))) env st x := fun Q q => by
  unfold wBinS wVar
  rw [h0]
  show optK (rdS st (.loc j)) _
  rw [h1]
  show optK (oIx l (.int k)) _
  rw [h2]
  exact q
theorem asg_sub {f : WE} {env : Env} {st st' : Store} {D : DL.Fin} {a : PyData} {j n : Nat} {k : Int} (h : Pv f env st a) (h0 : env[n]? = some (some (.loc j))) (hs : setAt st (.loc j) (.int k) a = some st') (q : D.nx env st') : wAsg f (DL.gSub (wVar n) (wC (.int k))) D env st := h _ (by
  unfold DL.gSub wVar
  rw [h0]
  simp only [wC, rd_d, optK_some, hs]
  exact q)
theorem seq_intro {t u : WS} {D : DL.Fin} {env : Env} {st : Store} (h : ∀ N, N = u D → t { D with nx := N } env st) : wSeq t u D env st := h _ rfl
theorem keeps_law_draw : Keeps 4 (spS pDr) b_law_draw := by
  rintro args st Q E ⟨i, rest, R, rfl, hs, ⟨top, rfl, h0, h1, rfl⟩, q⟩
  obtain ⟨a, b, c, h⟩ := hs
  have hl := (List.getElem?_eq_some_iff.mp h).1
  have hd := oDm (i := a) ⟨h0, h1⟩
  by_cases ha : (0 : Int) < a
  · have s0' : setAt st (.loc i) (.int 0) (.int (a / top)) = some (st.set i (.lst [.int (a / top), .int b, .int c])) := setAt_at h 0 _ (by simp) (by omega) rfl
    unfold b_law_draw
    refine seq_intro fun N hN => ?_
    simp only [wSeq, wIf, wRet, wRetN, wAsg, wExpr, wSkip, wBrk, wCnt, wVar, wC, wBin, wUn, wIfE, wT, wTr, wNot, wAnd, wOr, wAndV, wOrV, wChain, wBinS, wUnS, wOpN, wTup, wLst, wCons, wNil, wCall, wMs, wPar, wPar3, gN, gTupN, gCons, gNil, isD, isSt, isDc, optK_some, rd_d, rdS_d, frs_nil, frs_d, rds_nil, rds_d, on1, on2, asB_b, set0, setS, get0, getS, startE, List.map_cons, List.map_nil, List.length_cons, List.length_nil, List.replicate, List.cons_append, List.nil_append, List.append_nil, Option.map_some, Option.map_none, Option.bind_some, oEq_ss, oNe_ss, oEq_ii, oNe_ii, oAdd_ii, oSub_ii, ix_0, ix_1, ix_2, ix_k0, ix_n1, ix_p1, ix_p2, ix_e1, ix_e2, hd1, hd2, hd3, hd4, hd5, hd6, fin_rt, fin_nx, ret_d, if_true, if_false, Bool.false_eq_true, Bool.true_eq_false, Bool.not_true, Bool.not_false, beq_self_eq_true, decide_true, decide_false, true_and, and_true, lit0, lit1, lit2, lit3, lit4, lit5, lit6, lit7, lit8, lit9, lit10, wYes, rdS_at h, ixl0, oGt_ii, decide_eq_true ha, hd, gSub, s0']
    rw [ret_len (by simp)]
    exact q (.int (a % top)) (st.set i (spr (a / top) b c)) ⟨a % top, rfl, Int.emod_nonneg _ (by omega), Int.emod_lt_of_pos _ h0⟩ ⟨_, _, _, rfl⟩
  · have s2 : setAt st (.loc i) (.int 2) (.int (c + 1)) = some (st.set i (.lst [.int a, .int b, .int (c + 1)])) := setAt_at h 2 _ (by simp) (by omega) rfl
    have s1 : ∀ v, setAt (st.set i (.lst [.int a, .int b, .int (c + 1)])) (.loc i) (.int 1) v = some (st.set i (.lst [.int a, v, .int (c + 1)])) := fun v => setAt_set hl 1 v (by simp) (by omega) rfl
    have sm : ∀ x : Int, small64 (x % 5003 + 47521) = true := fun x => by
      have g1 := Int.emod_nonneg x (b := 5003) (by decide)
      have g2 := Int.emod_lt_of_pos x (b := 5003) (by decide)
      exact small_of (by omega) (by omega)
    have m1 : ∀ x : Int, oMul (.int 40013) (.int x) = some (.int (40013 * x)) := fun x => oMul_l (small_of (by omega) (by omega))
    have m2 : ∀ x : Int, oMul (.int 37) (.int x) = some (.int (37 * x)) := fun x => oMul_l (small_of (by omega) (by omega))
    have m3 : ∀ y x : Int, oMul (.int y) (.int (x % 5003 + 47521)) = some (.int (y * (x % 5003 + 47521))) := fun y x => oMul_r (sm x)
    have m4 : ∀ x : Int, oMod (.int x) (.int 2147483549) = some (.int (x % 2147483549)) := fun x => oMod_p (by omega)
    have m5 : ∀ x : Int, oMod (.int x) (.int 5003) = some (.int (x % 5003)) := fun x => oMod_p (by omega)
    have m6 : ∀ x : Int, oDiv (.int x) (.int 709) = some (.int (x / 709)) := fun x => oDiv_p ⟨by omega, by omega⟩
    have m7 : ∀ x : Int, oMod (.int x) (.int top) = some (.int (x % top)) := fun x => oMod_p h0
    unfold b_law_draw
    refine seq_intro fun N hN => ?_
    simp only [wSeq, wIf, wRet, wRetN, wAsg, wExpr, wSkip, wBrk, wCnt, wVar, wC, wBin, wUn, wIfE, wT, wTr, wNot, wAnd, wOr, wAndV, wOrV, wChain, wBinS, wUnS, wOpN, wTup, wLst, wCons, wNil, wCall, wMs, wPar, wPar3, gN, gTupN, gCons, gNil, isD, isSt, isDc, optK_some, rd_d, rdS_d, frs_nil, frs_d, rds_nil, rds_d, on1, on2, asB_b, set0, setS, get0, getS, startE, List.map_cons, List.map_nil, List.length_cons, List.length_nil, List.replicate, List.cons_append, List.nil_append, List.append_nil, Option.map_some, Option.map_none, Option.bind_some, oEq_ss, oNe_ss, oEq_ii, oNe_ii, oAdd_ii, oSub_ii, ix_0, ix_1, ix_2, ix_k0, ix_n1, ix_p1, ix_p2, ix_e1, ix_e2, hd1, hd2, hd3, hd4, hd5, hd6, fin_rt, fin_nx, ret_d, if_true, if_false, Bool.false_eq_true, Bool.true_eq_false, Bool.not_true, Bool.not_false, beq_self_eq_true, decide_true, decide_false, true_and, and_true, lit0, lit1, lit2, lit3, lit4, lit5, lit6, lit7, lit8, lit9, lit10, wYes, rdS_at h, ixl0, oGt_ii, decide_eq_false ha]
    rw [hN]
    refine seq_intro fun N hN => ?_
    simp only [wSeq, wIf, wRet, wRetN, wAsg, wExpr, wSkip, wBrk, wCnt, wVar, wC, wBin, wUn, wIfE, wT, wTr, wNot, wAnd, wOr, wAndV, wOrV, wChain, wBinS, wUnS, wOpN, wTup, wLst, wCons, wNil, wCall, wMs, wPar, wPar3, gN, gTupN, gCons, gNil, isD, isSt, isDc, optK_some, rd_d, rdS_d, frs_nil, frs_d, rds_nil, rds_d, on1, on2, asB_b, set0, setS, get0, getS, startE, List.map_cons, List.map_nil, List.length_cons, List.length_nil, List.replicate, List.cons_append, List.nil_append, List.append_nil, Option.map_some, Option.map_none, Option.bind_some, oEq_ss, oNe_ss, oEq_ii, oNe_ii, oAdd_ii, oSub_ii, ix_0, ix_1, ix_2, ix_k0, ix_n1, ix_p1, ix_p2, ix_e1, ix_e2, hd1, hd2, hd3, hd4, hd5, hd6, fin_rt, fin_nx, ret_d, if_true, if_false, Bool.false_eq_true, Bool.true_eq_false, Bool.not_true, Bool.not_false, beq_self_eq_true, decide_true, decide_false, true_and, and_true, lit0, lit1, lit2, lit3, lit4, lit5, lit6, lit7, lit8, lit9, lit10, wYes, rdS_at h, ixl2, gSub, s2]
    rw [hN]
    refine seq_intro fun N hN => ?_
    simp only [wSeq, wIf, wRet, wRetN, wAsg, wExpr, wSkip, wBrk, wCnt, wVar, wC, wBin, wUn, wIfE, wT, wTr, wNot, wAnd, wOr, wAndV, wOrV, wChain, wBinS, wUnS, wOpN, wTup, wLst, wCons, wNil, wCall, wMs, wPar, wPar3, gN, gTupN, gCons, gNil, isD, isSt, isDc, optK_some, rd_d, rdS_d, frs_nil, frs_d, rds_nil, rds_d, on1, on2, asB_b, set0, setS, get0, getS, startE, List.map_cons, List.map_nil, List.length_cons, List.length_nil, List.replicate, List.cons_append, List.nil_append, List.append_nil, Option.map_some, Option.map_none, Option.bind_some, oEq_ss, oNe_ss, oEq_ii, oNe_ii, oAdd_ii, oSub_ii, ix_0, ix_1, ix_2, ix_k0, ix_n1, ix_p1, ix_p2, ix_e1, ix_e2, hd1, hd2, hd3, hd4, hd5, hd6, fin_rt, fin_nx, ret_d, if_true, if_false, Bool.false_eq_true, Bool.true_eq_false, Bool.not_true, Bool.not_false, beq_self_eq_true, decide_true, decide_false, true_and, and_true, lit0, lit1, lit2, lit3, lit4, lit5, lit6, lit7, lit8, lit9, lit10, wYes, rdS_set hl, ixl1, ixl2, m1, m4, oInt_i]
    rw [hN]
    refine seq_intro fun N hN => ?_
    generalize (b + 40013 * (c + 1)) % 2147483549 = sd
    have rs := rdS_set (xs := [PyData.int a, .int b, .int (c + 1)]) hl
    have e2 : Pv (wBinS oIx (wVar 0) (wC (.int 2))) [some (.loc i), some (.d (.int top)), none, some (.d (.int sd))] (st.set i (.lst [.int a, .int b, .int (c + 1)])) (.int (c + 1)) := pv_sp rfl rs (ixl2 _ _ _ _)
    have e3 : ∀ st1, Pv (wVar 3) [some (.loc i), some (.d (.int top)), none, some (.d (.int sd))] st1 (.int sd) := fun st1 => pv_var rfl
    refine asg_sub (pv_bin (pv_int (pv_bin (pv_bin (e3 _) (pv_bin (pv_bin (pv_int (e3 _)) pv_c (m5 sd)) pv_c (oAdd_ii _ _)) (m3 sd sd)) (pv_bin pv_c e2 (m2 _)) (oAdd_ii _ _))) pv_c (m4 _)) rfl (s1 _) ?_
    show N _ _
    rw [hN]
    generalize (sd * (sd % 5003 + 47521) + 37 * (c + 1)) % 2147483549 = w3
    simp only [wSeq, wIf, wRet, wRetN, wAsg, wExpr, wSkip, wBrk, wCnt, wVar, wC, wBin, wUn, wIfE, wT, wTr, wNot, wAnd, wOr, wAndV, wOrV, wChain, wBinS, wUnS, wOpN, wTup, wLst, wCons, wNil, wCall, wMs, wPar, wPar3, gN, gTupN, gCons, gNil, isD, isSt, isDc, optK_some, rd_d, rdS_d, frs_nil, frs_d, rds_nil, rds_d, on1, on2, asB_b, set0, setS, get0, getS, startE, List.map_cons, List.map_nil, List.length_cons, List.length_nil, List.replicate, List.cons_append, List.nil_append, List.append_nil, Option.map_some, Option.map_none, Option.bind_some, oEq_ss, oNe_ss, oEq_ii, oNe_ii, oAdd_ii, oSub_ii, ix_0, ix_1, ix_2, ix_k0, ix_n1, ix_p1, ix_p2, ix_e1, ix_e2, hd1, hd2, hd3, hd4, hd5, hd6, fin_rt, fin_nx, ret_d, if_true, if_false, Bool.false_eq_true, Bool.true_eq_false, Bool.not_true, Bool.not_false, beq_self_eq_true, decide_true, decide_false, true_and, and_true, lit0, lit1, lit2, lit3, lit4, lit5, lit6, lit7, lit8, lit9, lit10, wYes, rdS_set hl, ixl1, oInt_i, m6, m7]
    rw [ret_len (by simp)]
    refine q (.int (w3 / 709 % top)) (st.set i (spr a w3 (c + 1))) ⟨w3 / 709 % top, rfl, Int.emod_nonneg _ (by omega), Int.emod_lt_of_pos _ h0⟩ ?_
    exact ⟨_, _, _, rfl⟩
end DL.K20
/-! text K20P12 -/
namespace DL.K20
open PySem DL
/-- a list as a def sees it: frozen, or one of its caller's -/
def LsAt (st : Store) (i : Nat) (r : DV) (xs : List PyData) : Prop := r = .d (.list xs) ∨ ∃ j, r = .loc j ∧ j ≠ i ∧ st[j]? = some (.lst xs)
theorem LsAt.to {st st' : Store} {i : Nat} {r : DV} {xs : List PyData} (h : LsAt st i r xs) (t : SpTo st i st') : LsAt st' i r xs := by
  rcases h with h | ⟨j, e, hj, h⟩
  · exact .inl h
  · exact .inr ⟨j, e, hj, by rw [t.other hj]; exact h⟩
theorem LsAt.rd {st : Store} {i : Nat} {r : DV} {xs : List PyData} (h : LsAt st i r xs) : rd st r = some (.list xs) := by
  rcases h with rfl | ⟨j, rfl, _, h⟩
  · rfl
  · exact rd_at h
theorem LsAt.rdS {st : Store} {i : Nat} {r : DV} {xs : List PyData} (h : LsAt st i r xs) : rdS st r = some (.list xs) := by
  rcases h with rfl | ⟨j, rfl, _, h⟩
  · rfl
  · exact rdS_at h
theorem ret_to {st st' : Store} {i : Nat} {Q : RK} {x : PyData} (t : SpTo st i st') : retK st.length Q (.d x) st' = Q (.d x) st' := ret_len t.len
/-- an item of a list, or of a tuple, of at least one -/
def pPk (st : Store) (i : Nat) (rest : List DV) (R : PyData → Prop) : Prop := ∃ r xs, rest = [r] ∧ (LsAt st i r xs ∨ r = .d (.tuple xs)) ∧ xs ≠ [] ∧ xs.length < 1000000 ∧ R = fun y => y ∈ xs
theorem keeps_law_pick : Keeps 2 (spS pPk) (b_law_pick (spS pDr)) := by
  rintro args st Q E ⟨i, rest, R, rfl, hs, ⟨r, xs, rfl, hr, h0, hl, rfl⟩, q⟩
  have hpos : 0 < xs.length := List.length_pos_iff.mpr h0
  have hrd : ∃ d, rdS st r = some d ∧ (∀ st', SpTo st i st' → rdS st' r = some d) ∧ oLen d = some (.int (xs.length : Nat)) ∧ ∀ k : Int, 0 ≤ k → k < xs.length → ∃ y ∈ xs, oIx d (.int k) = some y := by
    have at_ : ∀ k : Int, 0 ≤ k → k < xs.length → ∃ y ∈ xs, L2.atI xs k = some y := fun k h1 h2 => by
      obtain ⟨n, rfl⟩ : ∃ n : Nat, k = n := ⟨k.toNat, by omega⟩
      have hn : n < xs.length := by omega
      exact ⟨xs[n], List.getElem_mem hn, L2.atI_nat (List.getElem?_eq_getElem hn)⟩
    rcases hr with hr | rfl
    · exact ⟨.list xs, hr.rdS, fun st' t => (hr.to t).rdS, rfl, at_⟩
    · exact ⟨.tuple xs, rfl, fun _ _ => rfl, rfl, at_⟩
  obtain ⟨d, e1, e2, e3, e4⟩ := hrd
  simp only [b_law_pick, wSeq, wIf, wRet, wRetN, wAsg, wExpr, wSkip, wBrk, wCnt, wVar, wC, wBin, wUn, wIfE, wT, wTr, wNot, wAnd, wOr, wAndV, wOrV, wChain, wBinS, wUnS, wOpN, wTup, wLst, wCons, wNil, wCall, wMs, wPar, wPar3, gN, gTupN, gCons, gNil, isD, isSt, isDc, optK_some, rd_d, rdS_d, frs_nil, frs_d, rds_nil, rds_d, on1, on2, asB_b, set0, setS, get0, getS, startE, List.map_cons, List.map_nil, List.length_cons, List.length_nil, List.replicate, List.cons_append, List.nil_append, List.append_nil, Option.map_some, Option.map_none, Option.bind_some, oEq_ss, oNe_ss, oEq_ii, oNe_ii, oAdd_ii, oSub_ii, ix_0, ix_1, ix_2, ix_k0, ix_n1, ix_p1, ix_p2, ix_e1, ix_e2, hd1, hd2, hd3, hd4, hd5, hd6, fin_rt, fin_nx, ret_d, if_true, if_false, Bool.false_eq_true, Bool.true_eq_false, Bool.not_true, Bool.not_false, beq_self_eq_true, decide_true, decide_false, true_and, and_true, lit0, lit1, lit2, lit3, lit4, lit5, lit6, lit7, lit8, lit9, lit10, wYes, e1, e3]
  refine spS_go hs ⟨(xs.length : Nat), rfl, by omega, by omega, rfl⟩ ?_
  rintro y st' ⟨k, rfl, k0, k1⟩ t
  obtain ⟨y, hy, e5⟩ := e4 k k0 k1
  simp only [wSeq, wIf, wRet, wRetN, wAsg, wExpr, wSkip, wBrk, wCnt, wVar, wC, wBin, wUn, wIfE, wT, wTr, wNot, wAnd, wOr, wAndV, wOrV, wChain, wBinS, wUnS, wOpN, wTup, wLst, wCons, wNil, wCall, wMs, wPar, wPar3, gN, gTupN, gCons, gNil, isD, isSt, isDc, optK_some, rd_d, rdS_d, frs_nil, frs_d, rds_nil, rds_d, on1, on2, asB_b, set0, setS, get0, getS, startE, List.map_cons, List.map_nil, List.length_cons, List.length_nil, List.replicate, List.cons_append, List.nil_append, List.append_nil, Option.map_some, Option.map_none, Option.bind_some, oEq_ss, oNe_ss, oEq_ii, oNe_ii, oAdd_ii, oSub_ii, ix_0, ix_1, ix_2, ix_k0, ix_n1, ix_p1, ix_p2, ix_e1, ix_e2, hd1, hd2, hd3, hd4, hd5, hd6, fin_rt, fin_nx, ret_d, if_true, if_false, Bool.false_eq_true, Bool.true_eq_false, Bool.not_true, Bool.not_false, beq_self_eq_true, decide_true, decide_false, true_and, and_true, lit0, lit1, lit2, lit3, lit4, lit5, lit6, lit7, lit8, lit9, lit10, wYes, e2 st' t, e5]
  rw [ret_to t]
  exact q y st' hy t
end DL.K20
/-! text K20P13 -/
namespace DL.K20
open PySem DL
def pGp (st : Store) (i : Nat) (rest : List DV) (R : PyData → Prop) : Prop := ∃ (r : DV) (ns : List Str), rest = [r] ∧ LsAt st i r (ns.map .str) ∧ ns ≠ [] ∧ ns.length < 1000 ∧ R = fun y => ∃ g : Kd, y = g.enc ∧ (g = .thing ∨ ∃ m ∈ ns, g = .name m)
theorem keeps_law_gap : Keeps 2 (spS pGp) (b_law_gap (spS pDr) (spS pPk)) := by
  rintro args st Q E ⟨i, rest, R, rfl, hs, ⟨r, ns, rfl, hr, h0, hl, rfl⟩, q⟩
  simp only [b_law_gap, wSeq, wIf, wRet, wRetN, wAsg, wExpr, wSkip, wBrk, wCnt, wVar, wC, wBin, wUn, wIfE, wT, wTr, wNot, wAnd, wOr, wAndV, wOrV, wChain, wBinS, wUnS, wOpN, wTup, wLst, wCons, wNil, wCall, wMs, wPar, wPar3, gN, gTupN, gCons, gNil, isD, isSt, isDc, optK_some, rd_d, rdS_d, frs_nil, frs_d, rds_nil, rds_d, on1, on2, asB_b, set0, setS, get0, getS, startE, List.map_cons, List.map_nil, List.length_cons, List.length_nil, List.replicate, List.cons_append, List.nil_append, List.append_nil, Option.map_some, Option.map_none, Option.bind_some, oEq_ss, oNe_ss, oEq_ii, oNe_ii, oAdd_ii, oSub_ii, ix_0, ix_1, ix_2, ix_k0, ix_n1, ix_p1, ix_p2, ix_e1, ix_e2, hd1, hd2, hd3, hd4, hd5, hd6, fin_rt, fin_nx, ret_d, if_true, if_false, Bool.false_eq_true, Bool.true_eq_false, Bool.not_true, Bool.not_false, beq_self_eq_true, decide_true, decide_false, true_and, and_true, lit0, lit1, lit2, lit3, lit4, lit5, lit6, lit7, lit8, lit9, lit10, wYes]
  refine spS_go hs ⟨2, rfl, by omega, by omega, rfl⟩ ?_
  rintro y st1 ⟨k, rfl, k0, k1⟩ t
  by_cases hk : k = 0
  · subst hk
    simp only [wSeq, wIf, wRet, wRetN, wAsg, wExpr, wSkip, wBrk, wCnt, wVar, wC, wBin, wUn, wIfE, wT, wTr, wNot, wAnd, wOr, wAndV, wOrV, wChain, wBinS, wUnS, wOpN, wTup, wLst, wCons, wNil, wCall, wMs, wPar, wPar3, gN, gTupN, gCons, gNil, isD, isSt, isDc, optK_some, rd_d, rdS_d, frs_nil, frs_d, rds_nil, rds_d, on1, on2, asB_b, set0, setS, get0, getS, startE, List.map_cons, List.map_nil, List.length_cons, List.length_nil, List.replicate, List.cons_append, List.nil_append, List.append_nil, Option.map_some, Option.map_none, Option.bind_some, oEq_ss, oNe_ss, oEq_ii, oNe_ii, oAdd_ii, oSub_ii, ix_0, ix_1, ix_2, ix_k0, ix_n1, ix_p1, ix_p2, ix_e1, ix_e2, hd1, hd2, hd3, hd4, hd5, hd6, fin_rt, fin_nx, ret_d, if_true, if_false, Bool.false_eq_true, Bool.true_eq_false, Bool.not_true, Bool.not_false, beq_self_eq_true, decide_true, decide_false, true_and, and_true, lit0, lit1, lit2, lit3, lit4, lit5, lit6, lit7, lit8, lit9, lit10, wYes]
    rw [ret_to t]
    exact q _ st1 ⟨.thing, rfl, .inl rfl⟩ t
  · have hk' : (k == 0) = false := by simpa using hk
    simp only [wSeq, wIf, wRet, wRetN, wAsg, wExpr, wSkip, wBrk, wCnt, wVar, wC, wBin, wUn, wIfE, wT, wTr, wNot, wAnd, wOr, wAndV, wOrV, wChain, wBinS, wUnS, wOpN, wTup, wLst, wCons, wNil, wCall, wMs, wPar, wPar3, gN, gTupN, gCons, gNil, isD, isSt, isDc, optK_some, rd_d, rdS_d, frs_nil, frs_d, rds_nil, rds_d, on1, on2, asB_b, set0, setS, get0, getS, startE, List.map_cons, List.map_nil, List.length_cons, List.length_nil, List.replicate, List.cons_append, List.nil_append, List.append_nil, Option.map_some, Option.map_none, Option.bind_some, oEq_ss, oNe_ss, oEq_ii, oNe_ii, oAdd_ii, oSub_ii, ix_0, ix_1, ix_2, ix_k0, ix_n1, ix_p1, ix_p2, ix_e1, ix_e2, hd1, hd2, hd3, hd4, hd5, hd6, fin_rt, fin_nx, ret_d, if_true, if_false, Bool.false_eq_true, Bool.true_eq_false, Bool.not_true, Bool.not_false, beq_self_eq_true, decide_true, decide_false, true_and, and_true, lit0, lit1, lit2, lit3, lit4, lit5, lit6, lit7, lit8, lit9, lit10, wYes, hk']
    refine spS_go (t.spr hs) ⟨r, ns.map .str, rfl, .inl (hr.to t), by simpa using h0, by rw [List.length_map]; omega, rfl⟩ ?_
    rintro y st2 hy t2
    obtain ⟨m, hm, rfl⟩ := List.mem_map.mp hy
    simp only [wSeq, wIf, wRet, wRetN, wAsg, wExpr, wSkip, wBrk, wCnt, wVar, wC, wBin, wUn, wIfE, wT, wTr, wNot, wAnd, wOr, wAndV, wOrV, wChain, wBinS, wUnS, wOpN, wTup, wLst, wCons, wNil, wCall, wMs, wPar, wPar3, gN, gTupN, gCons, gNil, isD, isSt, isDc, optK_some, rd_d, rdS_d, frs_nil, frs_d, rds_nil, rds_d, on1, on2, asB_b, set0, setS, get0, getS, startE, List.map_cons, List.map_nil, List.length_cons, List.length_nil, List.replicate, List.cons_append, List.nil_append, List.append_nil, Option.map_some, Option.map_none, Option.bind_some, oEq_ss, oNe_ss, oEq_ii, oNe_ii, oAdd_ii, oSub_ii, ix_0, ix_1, ix_2, ix_k0, ix_n1, ix_p1, ix_p2, ix_e1, ix_e2, hd1, hd2, hd3, hd4, hd5, hd6, fin_rt, fin_nx, ret_d, if_true, if_false, Bool.false_eq_true, Bool.true_eq_false, Bool.not_true, Bool.not_false, beq_self_eq_true, decide_true, decide_false, true_and, and_true, lit0, lit1, lit2, lit3, lit4, lit5, lit6, lit7, lit8, lit9, lit10, wYes]
    rw [ret_to (t.trans t2)]
    exact q _ st2 ⟨.name m, rfl, .inr ⟨m, hm, rfl⟩⟩ (t.trans t2)
/-! ### tests told at once -/
def Tv (t : WT) (env : Env) (st : Store) (c : Bool) : Prop := ∀ Q : Bool → Store → Prop, Q c st → t env st Q
theorem tv_t {f : WE} {env : Env} {st : Store} {c : Bool} (h : Pv f env st (.bool c)) : Tv (wT f) env st c := fun Q q => h _ (by
  simp only [rd_d, optK_some, asB_b]
  exact q)
theorem tv_or {t u : WT} {env : Env} {st : Store} {a b : Bool} (ha : Tv t env st a) (hb : Tv u env st b) : Tv (wOr t u) env st (a || b) := fun Q q => ha _ (by
  cases a with
  | true => exact q
  | false => exact hb _ q)
theorem if_t {t : WT} {a b : WS} {D : DL.Fin} {env : Env} {st : Store} {c : Bool} (h : Tv t env st c) (hc : c = true) (q : a D env st) : wIf t a b D env st := h _ (by
  subst hc
  exact q)
theorem if_f {t : WT} {a b : WS} {D : DL.Fin} {env : Env} {st : Store} {c : Bool} (h : Tv t env st c) (hc : c = false) (q : b D env st) : wIf t a b D env st := h _ (by
  subst hc
  exact q)
/-! ### forms -/
def leaves : List PyData := [.str "thing", .str "unit", .str "thing", .str "thing", .str "unit", .str "thing", .str "none", .str "unit", .str "thing"]
theorem leaf_kd {y : PyData} (h : y ∈ leaves) : ∃ k : Kd, PyData.tuple [y] = k.enc ∧ k.dep = 1 ∧ k.parts = 1 ∧ k.names = [] := by
  unfold leaves at h
  simp only [List.mem_cons, List.not_mem_nil, or_false] at h
  rcases h with rfl | rfl | rfl | rfl | rfl | rfl | rfl | rfl | rfl
  · exact ⟨.thing, rfl, rfl, rfl, rfl⟩
  · exact ⟨.unit, rfl, rfl, rfl, rfl⟩
  · exact ⟨.thing, rfl, rfl, rfl, rfl⟩
  · exact ⟨.thing, rfl, rfl, rfl, rfl⟩
  · exact ⟨.unit, rfl, rfl, rfl, rfl⟩
  · exact ⟨.thing, rfl, rfl, rfl, rfl⟩
  · exact ⟨.non, rfl, rfl, rfl, rfl⟩
  · exact ⟨.unit, rfl, rfl, rfl, rfl⟩
  · exact ⟨.thing, rfl, rfl, rfl, rfl⟩
def pFm (L : Nat) (st : Store) (i : Nat) (rest : List DV) (R : PyData → Prop) : Prop := ∃ (r : DV) (ns : List Str) (left : Nat), rest = [r, .d (.int (left : Nat))] ∧ LsAt st i r (ns.map .str) ∧ ns.length < 1000 ∧ 1 ≤ left ∧ left ≤ L ∧ L ≤ 1000 ∧
  R = fun y => ∃ k : Kd, y = k.enc ∧ 2 * k.dep ≤ left + 1 ∧ k.parts ≤ left ∧ ∀ n ∈ k.names, n ∈ ns
theorem ne_empty (ns : List Str) : oNe (.list (ns.map .str)) (.list []) = some (.bool (!ns.isEmpty)) := by
  have hp : PyData.plainAll (ns.map PyData.str) = true := by
    induction ns with
    | nil => simp [PyData.plainAll]
    | cons n ns ih => simp [PyData.plainAll, PyData.plain, ih]
  have hk : okEq (.list (ns.map .str)) (.list []) = true := by
    unfold okEq
    have h1 : (PyData.list (ns.map .str)).plain = true := by rw [PyData.plain]; exact hp
    have h2 : (PyData.list []).plain = true := by simp [PyData.plain, PyData.plainAll]
    have h3 : (PyData.list []).depth = 1 := by simp [PyData.depth, PyData.depthAll]
    rw [h1, h2, h3]
    simp
    omega
  rw [oNe_of hk]
  cases ns with
  | nil => rw [List.map_nil, PyData.eqv, PyData.eqvAll]; rfl
  | cons n ns => rw [List.map_cons, PyData.eqv, PyData.eqvAll]; rfl
theorem keeps_law_form (L : Nat) : Keeps 6 (spS (pFm (L + 1))) (b_law_form (spS (pFm L)) (spS pDr) (spS pPk)) := by
  rintro args st Q E ⟨i, rest, R, rfl, hs, ⟨r, ns, left, rfl, hr, hn, h1, h2, h3, rfl⟩, q⟩
  unfold b_law_form
  refine seq_intro fun N hN => ?_
  simp only [wSeq, wIf, wRet, wRetN, wAsg, wExpr, wSkip, wBrk, wCnt, wVar, wC, wBin, wUn, wIfE, wT, wTr, wNot, wAnd, wOr, wAndV, wOrV, wChain, wBinS, wUnS, wOpN, wTup, wLst, wCons, wNil, wCall, wMs, wPar, wPar3, gN, gTupN, gCons, gNil, isD, isSt, isDc, optK_some, rd_d, rdS_d, frs_nil, frs_d, rds_nil, rds_d, on1, on2, asB_b, set0, setS, get0, getS, startE, List.map_cons, List.map_nil, List.length_cons, List.length_nil, List.replicate, List.cons_append, List.nil_append, List.append_nil, Option.map_some, Option.map_none, Option.bind_some, oEq_ss, oNe_ss, oEq_ii, oNe_ii, oAdd_ii, oSub_ii, ix_0, ix_1, ix_2, ix_k0, ix_n1, ix_p1, ix_p2, ix_e1, ix_e2, hd1, hd2, hd3, hd4, hd5, hd6, fin_rt, fin_nx, ret_d, if_true, if_false, Bool.false_eq_true, Bool.true_eq_false, Bool.not_true, Bool.not_false, beq_self_eq_true, decide_true, decide_false, true_and, and_true, lit0, lit1, lit2, lit3, lit4, lit5, lit6, lit7, lit8, lit9, lit10, wYes]
  refine spS_go hs ⟨9, rfl, by omega, by omega, rfl⟩ ?_
  rintro y st1 ⟨w, rfl, w0, w1⟩ t1
  try simp only [wSeq, wIf, wRet, wRetN, wAsg, wExpr, wSkip, wBrk, wCnt, wVar, wC, wBin, wUn, wIfE, wT, wTr, wNot, wAnd, wOr, wAndV, wOrV, wChain, wBinS, wUnS, wOpN, wTup, wLst, wCons, wNil, wCall, wMs, wPar, wPar3, gN, gTupN, gCons, gNil, isD, isSt, isDc, optK_some, rd_d, rdS_d, frs_nil, frs_d, rds_nil, rds_d, on1, on2, asB_b, set0, setS, get0, getS, startE, List.map_cons, List.map_nil, List.length_cons, List.length_nil, List.replicate, List.cons_append, List.nil_append, List.append_nil, Option.map_some, Option.map_none, Option.bind_some, oEq_ss, oNe_ss, oEq_ii, oNe_ii, oAdd_ii, oSub_ii, ix_0, ix_1, ix_2, ix_k0, ix_n1, ix_p1, ix_p2, ix_e1, ix_e2, hd1, hd2, hd3, hd4, hd5, hd6, fin_rt, fin_nx, ret_d, if_true, if_false, Bool.false_eq_true, Bool.true_eq_false, Bool.not_true, Bool.not_false, beq_self_eq_true, decide_true, decide_false, true_and, and_true, lit0, lit1, lit2, lit3, lit4, lit5, lit6, lit7, lit8, lit9, lit10, wYes]
  rw [hN]
  refine seq_intro fun N hN => ?_
  have hs1 := t1.spr hs
  have hr1 := hr.to t1
  have leafy : ∀ (st1 : Store), SpTo st i st1 → spS pPk [.loc i, .d (.tuple leaves)] st1 (fun r st2 => retK st.length Q (.d (.tuple [match r with | .d y => y | _ => .none])) st2) E := by
    intro st1 t
    refine spS_go (t.spr hs) ⟨_, leaves, rfl, .inr rfl, by decide, by decide, rfl⟩ ?_
    intro y st2 hy t2
    obtain ⟨k, e, k1, k2, k3⟩ := leaf_kd hy
    rw [ret_to (t.trans t2)]
    refine q _ st2 ⟨k, e, by omega, by omega, fun n h => by rw [k3] at h; simp at h⟩ (t.trans t2)
  have hll : leaves.length ≤ lim := by decide
  -- a leaf
  have small : ∀ (D' : DL.Fin), D'.rt = retK st.length Q → (wSeq (wIf (wAnd (wT (wBin oNe (wVar 1) (wLst wNil))) (wT (wBin oEq (wCall (spS pDr) E (wCons (wVar 0) (wCons (wC (.int 2)) wNil))) (wC (.int 0))))) (wRet (wTup (wCons (wC (.str "name")) (wCons (wCall (spS pPk) E (wCons (wVar 0) (wCons (wVar 1) wNil))) wNil)))) wSkip)
    (wRet (wTup (wCons (wCall (spS pPk) E (wCons (wVar 0) (wCons (wTup (wCons (wC (.str "thing")) (wCons (wC (.str "unit")) (wCons (wC (.str "thing")) (wCons (wC (.str "thing")) (wCons (wC (.str "unit")) (wCons (wC (.str "thing")) (wCons (wC (.str "none")) (wCons (wC (.str "unit")) (wCons (wC (.str "thing")) wNil)))))))))) wNil))) wNil)))) D' [some (.loc i), some r, some (.d (.int (left : Nat))), some (.d (.int w)), none, none] st1 := by
    intro D' hD
    refine seq_intro fun N hN => ?_
    have fin : ∀ st2, SpTo st i st2 → N [some (.loc i), some r, some (.d (.int (left : Nat))), some (.d (.int w)), none, none] st2 := by
      intro st2 t2
      rw [hN]
      simp only [wSeq, wIf, wRet, wRetN, wAsg, wExpr, wSkip, wBrk, wCnt, wVar, wC, wBin, wUn, wIfE, wT, wTr, wNot, wAnd, wOr, wAndV, wOrV, wChain, wBinS, wUnS, wOpN, wTup, wLst, wCons, wNil, wCall, wMs, wPar, wPar3, gN, gTupN, gCons, gNil, isD, isSt, isDc, optK_some, rd_d, rdS_d, frs_nil, frs_d, rds_nil, rds_d, on1, on2, asB_b, set0, setS, get0, getS, startE, List.map_cons, List.map_nil, List.length_cons, List.length_nil, List.replicate, List.cons_append, List.nil_append, List.append_nil, Option.map_some, Option.map_none, Option.bind_some, oEq_ss, oNe_ss, oEq_ii, oNe_ii, oAdd_ii, oSub_ii, ix_0, ix_1, ix_2, ix_k0, ix_n1, ix_p1, ix_p2, ix_e1, ix_e2, hd1, hd2, hd3, hd4, hd5, hd6, fin_rt, fin_nx, ret_d, if_true, if_false, Bool.false_eq_true, Bool.true_eq_false, Bool.not_true, Bool.not_false, beq_self_eq_true, decide_true, decide_false, true_and, and_true, lit0, lit1, lit2, lit3, lit4, lit5, lit6, lit7, lit8, lit9, lit10, wYes, hD]
      refine spS_go (t2.spr hs) ⟨_, leaves, rfl, .inr rfl, by decide, by decide, rfl⟩ ?_
      intro y st3 hy t3
      obtain ⟨k, e, k1, k2, k3⟩ := leaf_kd hy
      simp only [wSeq, wIf, wRet, wRetN, wAsg, wExpr, wSkip, wBrk, wCnt, wVar, wC, wBin, wUn, wIfE, wT, wTr, wNot, wAnd, wOr, wAndV, wOrV, wChain, wBinS, wUnS, wOpN, wTup, wLst, wCons, wNil, wCall, wMs, wPar, wPar3, gN, gTupN, gCons, gNil, isD, isSt, isDc, optK_some, rd_d, rdS_d, frs_nil, frs_d, rds_nil, rds_d, on1, on2, asB_b, set0, setS, get0, getS, startE, List.map_cons, List.map_nil, List.length_cons, List.length_nil, List.replicate, List.cons_append, List.nil_append, List.append_nil, Option.map_some, Option.map_none, Option.bind_some, oEq_ss, oNe_ss, oEq_ii, oNe_ii, oAdd_ii, oSub_ii, ix_0, ix_1, ix_2, ix_k0, ix_n1, ix_p1, ix_p2, ix_e1, ix_e2, hd1, hd2, hd3, hd4, hd5, hd6, fin_rt, fin_nx, ret_d, if_true, if_false, Bool.false_eq_true, Bool.true_eq_false, Bool.not_true, Bool.not_false, beq_self_eq_true, decide_true, decide_false, true_and, and_true, lit0, lit1, lit2, lit3, lit4, lit5, lit6, lit7, lit8, lit9, lit10, wYes]
      rw [ret_to (t2.trans t3)]
      exact q _ st3 ⟨k, e, by omega, by omega, fun n h => by rw [k3] at h; simp at h⟩ (t2.trans t3)
    simp only [wSeq, wIf, wRet, wRetN, wAsg, wExpr, wSkip, wBrk, wCnt, wVar, wC, wBin, wUn, wIfE, wT, wTr, wNot, wAnd, wOr, wAndV, wOrV, wChain, wBinS, wUnS, wOpN, wTup, wLst, wCons, wNil, wCall, wMs, wPar, wPar3, gN, gTupN, gCons, gNil, isD, isSt, isDc, optK_some, rd_d, rdS_d, frs_nil, frs_d, rds_nil, rds_d, on1, on2, asB_b, set0, setS, get0, getS, startE, List.map_cons, List.map_nil, List.length_cons, List.length_nil, List.replicate, List.cons_append, List.nil_append, List.append_nil, Option.map_some, Option.map_none, Option.bind_some, oEq_ss, oNe_ss, oEq_ii, oNe_ii, oAdd_ii, oSub_ii, ix_0, ix_1, ix_2, ix_k0, ix_n1, ix_p1, ix_p2, ix_e1, ix_e2, hd1, hd2, hd3, hd4, hd5, hd6, fin_rt, fin_nx, ret_d, if_true, if_false, Bool.false_eq_true, Bool.true_eq_false, Bool.not_true, Bool.not_false, beq_self_eq_true, decide_true, decide_false, true_and, and_true, lit0, lit1, lit2, lit3, lit4, lit5, lit6, lit7, lit8, lit9, lit10, wYes, hr1.rd, ne_empty, hD]
    by_cases hne : ns = []
    · subst hne
      simp only [List.isEmpty_nil, wSeq, wIf, wRet, wRetN, wAsg, wExpr, wSkip, wBrk, wCnt, wVar, wC, wBin, wUn, wIfE, wT, wTr, wNot, wAnd, wOr, wAndV, wOrV, wChain, wBinS, wUnS, wOpN, wTup, wLst, wCons, wNil, wCall, wMs, wPar, wPar3, gN, gTupN, gCons, gNil, isD, isSt, isDc, optK_some, rd_d, rdS_d, frs_nil, frs_d, rds_nil, rds_d, on1, on2, asB_b, set0, setS, get0, getS, startE, List.map_cons, List.map_nil, List.length_cons, List.length_nil, List.replicate, List.cons_append, List.nil_append, List.append_nil, Option.map_some, Option.map_none, Option.bind_some, oEq_ss, oNe_ss, oEq_ii, oNe_ii, oAdd_ii, oSub_ii, ix_0, ix_1, ix_2, ix_k0, ix_n1, ix_p1, ix_p2, ix_e1, ix_e2, hd1, hd2, hd3, hd4, hd5, hd6, fin_rt, fin_nx, ret_d, if_true, if_false, Bool.false_eq_true, Bool.true_eq_false, Bool.not_true, Bool.not_false, beq_self_eq_true, decide_true, decide_false, true_and, and_true, lit0, lit1, lit2, lit3, lit4, lit5, lit6, lit7, lit8, lit9, lit10, wYes]
      exact fin st1 t1
    · have he : ns.isEmpty = false := by cases ns with | nil => exact absurd rfl hne | cons _ _ => rfl
      simp only [he, wSeq, wIf, wRet, wRetN, wAsg, wExpr, wSkip, wBrk, wCnt, wVar, wC, wBin, wUn, wIfE, wT, wTr, wNot, wAnd, wOr, wAndV, wOrV, wChain, wBinS, wUnS, wOpN, wTup, wLst, wCons, wNil, wCall, wMs, wPar, wPar3, gN, gTupN, gCons, gNil, isD, isSt, isDc, optK_some, rd_d, rdS_d, frs_nil, frs_d, rds_nil, rds_d, on1, on2, asB_b, set0, setS, get0, getS, startE, List.map_cons, List.map_nil, List.length_cons, List.length_nil, List.replicate, List.cons_append, List.nil_append, List.append_nil, Option.map_some, Option.map_none, Option.bind_some, oEq_ss, oNe_ss, oEq_ii, oNe_ii, oAdd_ii, oSub_ii, ix_0, ix_1, ix_2, ix_k0, ix_n1, ix_p1, ix_p2, ix_e1, ix_e2, hd1, hd2, hd3, hd4, hd5, hd6, fin_rt, fin_nx, ret_d, if_true, if_false, Bool.false_eq_true, Bool.true_eq_false, Bool.not_true, Bool.not_false, beq_self_eq_true, decide_true, decide_false, true_and, and_true, lit0, lit1, lit2, lit3, lit4, lit5, lit6, lit7, lit8, lit9, lit10, wYes]
      refine spS_go hs1 ⟨2, rfl, by omega, by omega, rfl⟩ ?_
      rintro y st2 ⟨z, rfl, z0, z1⟩ t2
      by_cases hz : z = 0
      · subst hz
        simp only [wSeq, wIf, wRet, wRetN, wAsg, wExpr, wSkip, wBrk, wCnt, wVar, wC, wBin, wUn, wIfE, wT, wTr, wNot, wAnd, wOr, wAndV, wOrV, wChain, wBinS, wUnS, wOpN, wTup, wLst, wCons, wNil, wCall, wMs, wPar, wPar3, gN, gTupN, gCons, gNil, isD, isSt, isDc, optK_some, rd_d, rdS_d, frs_nil, frs_d, rds_nil, rds_d, on1, on2, asB_b, set0, setS, get0, getS, startE, List.map_cons, List.map_nil, List.length_cons, List.length_nil, List.replicate, List.cons_append, List.nil_append, List.append_nil, Option.map_some, Option.map_none, Option.bind_some, oEq_ss, oNe_ss, oEq_ii, oNe_ii, oAdd_ii, oSub_ii, ix_0, ix_1, ix_2, ix_k0, ix_n1, ix_p1, ix_p2, ix_e1, ix_e2, hd1, hd2, hd3, hd4, hd5, hd6, fin_rt, fin_nx, ret_d, if_true, if_false, Bool.false_eq_true, Bool.true_eq_false, Bool.not_true, Bool.not_false, beq_self_eq_true, decide_true, decide_false, true_and, and_true, lit0, lit1, lit2, lit3, lit4, lit5, lit6, lit7, lit8, lit9, lit10, wYes]
        refine spS_go (t2.spr hs1) ⟨r, ns.map .str, rfl, .inl (hr1.to t2), by simpa using hne, by rw [List.length_map]; omega, rfl⟩ ?_
        rintro y st3 hy t3
        obtain ⟨m, hm, rfl⟩ := List.mem_map.mp hy
        simp only [wSeq, wIf, wRet, wRetN, wAsg, wExpr, wSkip, wBrk, wCnt, wVar, wC, wBin, wUn, wIfE, wT, wTr, wNot, wAnd, wOr, wAndV, wOrV, wChain, wBinS, wUnS, wOpN, wTup, wLst, wCons, wNil, wCall, wMs, wPar, wPar3, gN, gTupN, gCons, gNil, isD, isSt, isDc, optK_some, rd_d, rdS_d, frs_nil, frs_d, rds_nil, rds_d, on1, on2, asB_b, set0, setS, get0, getS, startE, List.map_cons, List.map_nil, List.length_cons, List.length_nil, List.replicate, List.cons_append, List.nil_append, List.append_nil, Option.map_some, Option.map_none, Option.bind_some, oEq_ss, oNe_ss, oEq_ii, oNe_ii, oAdd_ii, oSub_ii, ix_0, ix_1, ix_2, ix_k0, ix_n1, ix_p1, ix_p2, ix_e1, ix_e2, hd1, hd2, hd3, hd4, hd5, hd6, fin_rt, fin_nx, ret_d, if_true, if_false, Bool.false_eq_true, Bool.true_eq_false, Bool.not_true, Bool.not_false, beq_self_eq_true, decide_true, decide_false, true_and, and_true, lit0, lit1, lit2, lit3, lit4, lit5, lit6, lit7, lit8, lit9, lit10, wYes]
        rw [ret_to ((t1.trans t2).trans t3)]
        exact q _ st3 ⟨.name m, rfl, by simp only [Kd.dep]; omega, by simp only [Kd.parts]; omega, fun n hn' => by simp [Kd.names] at hn'; subst hn'; exact hm⟩ ((t1.trans t2).trans t3)
      · have hz' : (z == 0) = false := by simpa using hz
        simp only [wSeq, wIf, wRet, wRetN, wAsg, wExpr, wSkip, wBrk, wCnt, wVar, wC, wBin, wUn, wIfE, wT, wTr, wNot, wAnd, wOr, wAndV, wOrV, wChain, wBinS, wUnS, wOpN, wTup, wLst, wCons, wNil, wCall, wMs, wPar, wPar3, gN, gTupN, gCons, gNil, isD, isSt, isDc, optK_some, rd_d, rdS_d, frs_nil, frs_d, rds_nil, rds_d, on1, on2, asB_b, set0, setS, get0, getS, startE, List.map_cons, List.map_nil, List.length_cons, List.length_nil, List.replicate, List.cons_append, List.nil_append, List.append_nil, Option.map_some, Option.map_none, Option.bind_some, oEq_ss, oNe_ss, oEq_ii, oNe_ii, oAdd_ii, oSub_ii, ix_0, ix_1, ix_2, ix_k0, ix_n1, ix_p1, ix_p2, ix_e1, ix_e2, hd1, hd2, hd3, hd4, hd5, hd6, fin_rt, fin_nx, ret_d, if_true, if_false, Bool.false_eq_true, Bool.true_eq_false, Bool.not_true, Bool.not_false, beq_self_eq_true, decide_true, decide_false, true_and, and_true, lit0, lit1, lit2, lit3, lit4, lit5, lit6, lit7, lit8, lit9, lit10, wYes, hz']
        exact fin st2 (t1.trans t2)
  have tv : Tv (wOr (wT (wBin oLt (wVar 2) (wC (.int 3)))) (wT (wBin oLt (wVar 3) (wC (.int 2))))) [some (.loc i), some r, some (.d (.int (left : Nat))), some (.d (.int w)), none, none] st1 (decide (((left : Nat) : Int) < 3) || decide (w < 2)) :=
    tv_or (tv_t (pv_bin (pv_var rfl) pv_c (oLt_ii _ _))) (tv_t (pv_bin (pv_var rfl) pv_c (oLt_ii _ _)))
  by_cases hc : left < 3 ∨ w < 2
  · refine if_t tv ?_ (small _ rfl)
    rcases hc with hc | hc
    · rw [decide_eq_true (by omega : ((left : Nat) : Int) < 3)]; rfl
    · rw [decide_eq_true hc]; simp
  · have hl3 : ¬ ((left : Nat) : Int) < 3 := fun z => hc (.inl (by omega))
    have hw2 : ¬ w < 2 := fun z => hc (.inr z)
    refine if_f tv (by rw [decide_eq_false hl3, decide_eq_false hw2]; rfl) ?_
    show N _ _
    rw [hN]
    refine seq_intro fun N hN => ?_
    simp only [wSeq, wIf, wRet, wRetN, wAsg, wExpr, wSkip, wBrk, wCnt, wVar, wC, wBin, wUn, wIfE, wT, wTr, wNot, wAnd, wOr, wAndV, wOrV, wChain, wBinS, wUnS, wOpN, wTup, wLst, wCons, wNil, wCall, wMs, wPar, wPar3, gN, gTupN, gCons, gNil, isD, isSt, isDc, optK_some, rd_d, rdS_d, frs_nil, frs_d, rds_nil, rds_d, on1, on2, asB_b, set0, setS, get0, getS, startE, List.map_cons, List.map_nil, List.length_cons, List.length_nil, List.replicate, List.cons_append, List.nil_append, List.append_nil, Option.map_some, Option.map_none, Option.bind_some, oEq_ss, oNe_ss, oEq_ii, oNe_ii, oAdd_ii, oSub_ii, ix_0, ix_1, ix_2, ix_k0, ix_n1, ix_p1, ix_p2, ix_e1, ix_e2, hd1, hd2, hd3, hd4, hd5, hd6, fin_rt, fin_nx, ret_d, if_true, if_false, Bool.false_eq_true, Bool.true_eq_false, Bool.not_true, Bool.not_false, beq_self_eq_true, decide_true, decide_false, true_and, and_true, lit0, lit1, lit2, lit3, lit4, lit5, lit6, lit7, lit8, lit9, lit10, wYes]
    refine spS_go hs1 ⟨(left : Nat) - 2, rfl, by omega, by omega, rfl⟩ ?_
    rintro y st2 ⟨z, rfl, z0, z1⟩ t2
    try simp only [wSeq, wIf, wRet, wRetN, wAsg, wExpr, wSkip, wBrk, wCnt, wVar, wC, wBin, wUn, wIfE, wT, wTr, wNot, wAnd, wOr, wAndV, wOrV, wChain, wBinS, wUnS, wOpN, wTup, wLst, wCons, wNil, wCall, wMs, wPar, wPar3, gN, gTupN, gCons, gNil, isD, isSt, isDc, optK_some, rd_d, rdS_d, frs_nil, frs_d, rds_nil, rds_d, on1, on2, asB_b, set0, setS, get0, getS, startE, List.map_cons, List.map_nil, List.length_cons, List.length_nil, List.replicate, List.cons_append, List.nil_append, List.append_nil, Option.map_some, Option.map_none, Option.bind_some, oEq_ss, oNe_ss, oEq_ii, oNe_ii, oAdd_ii, oSub_ii, ix_0, ix_1, ix_2, ix_k0, ix_n1, ix_p1, ix_p2, ix_e1, ix_e2, hd1, hd2, hd3, hd4, hd5, hd6, fin_rt, fin_nx, ret_d, if_true, if_false, Bool.false_eq_true, Bool.true_eq_false, Bool.not_true, Bool.not_false, beq_self_eq_true, decide_true, decide_false, true_and, and_true, lit0, lit1, lit2, lit3, lit4, lit5, lit6, lit7, lit8, lit9, lit10, wYes]
    rw [hN]
    obtain ⟨m, hm⟩ : ∃ m : Nat, (1 : Int) + z = m := ⟨(1 + z).toNat, by omega⟩
    rw [hm]
    refine seq_intro fun N hN => ?_
    have t12 := t1.trans t2
    simp only [wSeq, wIf, wRet, wRetN, wAsg, wExpr, wSkip, wBrk, wCnt, wVar, wC, wBin, wUn, wIfE, wT, wTr, wNot, wAnd, wOr, wAndV, wOrV, wChain, wBinS, wUnS, wOpN, wTup, wLst, wCons, wNil, wCall, wMs, wPar, wPar3, gN, gTupN, gCons, gNil, isD, isSt, isDc, optK_some, rd_d, rdS_d, frs_nil, frs_d, rds_nil, rds_d, on1, on2, asB_b, set0, setS, get0, getS, startE, List.map_cons, List.map_nil, List.length_cons, List.length_nil, List.replicate, List.cons_append, List.nil_append, List.append_nil, Option.map_some, Option.map_none, Option.bind_some, oEq_ss, oNe_ss, oEq_ii, oNe_ii, oAdd_ii, oSub_ii, ix_0, ix_1, ix_2, ix_k0, ix_n1, ix_p1, ix_p2, ix_e1, ix_e2, hd1, hd2, hd3, hd4, hd5, hd6, fin_rt, fin_nx, ret_d, if_true, if_false, Bool.false_eq_true, Bool.true_eq_false, Bool.not_true, Bool.not_false, beq_self_eq_true, decide_true, decide_false, true_and, and_true, lit0, lit1, lit2, lit3, lit4, lit5, lit6, lit7, lit8, lit9, lit10, wYes]
    refine spS_go (t12.spr hs) ⟨r, ns, m, rfl, hr.to t12, hn, by omega, by omega, by omega, rfl⟩ ?_
    rintro y st3 ⟨a, rfl, a1, a2, a3⟩ t3
    try simp only [wSeq, wIf, wRet, wRetN, wAsg, wExpr, wSkip, wBrk, wCnt, wVar, wC, wBin, wUn, wIfE, wT, wTr, wNot, wAnd, wOr, wAndV, wOrV, wChain, wBinS, wUnS, wOpN, wTup, wLst, wCons, wNil, wCall, wMs, wPar, wPar3, gN, gTupN, gCons, gNil, isD, isSt, isDc, optK_some, rd_d, rdS_d, frs_nil, frs_d, rds_nil, rds_d, on1, on2, asB_b, set0, setS, get0, getS, startE, List.map_cons, List.map_nil, List.length_cons, List.length_nil, List.replicate, List.cons_append, List.nil_append, List.append_nil, Option.map_some, Option.map_none, Option.bind_some, oEq_ss, oNe_ss, oEq_ii, oNe_ii, oAdd_ii, oSub_ii, ix_0, ix_1, ix_2, ix_k0, ix_n1, ix_p1, ix_p2, ix_e1, ix_e2, hd1, hd2, hd3, hd4, hd5, hd6, fin_rt, fin_nx, ret_d, if_true, if_false, Bool.false_eq_true, Bool.true_eq_false, Bool.not_true, Bool.not_false, beq_self_eq_true, decide_true, decide_false, true_and, and_true, lit0, lit1, lit2, lit3, lit4, lit5, lit6, lit7, lit8, lit9, lit10, wYes]
    rw [hN]
    have t13 := t12.trans t3
    obtain ⟨m2, hm2⟩ : ∃ m2 : Nat, ((left : Nat) : Int) - 1 - m = m2 := ⟨(((left : Nat) : Int) - 1 - m).toNat, by omega⟩
    by_cases hw6 : w < 6
    · simp only [wSeq, wIf, wRet, wRetN, wAsg, wExpr, wSkip, wBrk, wCnt, wVar, wC, wBin, wUn, wIfE, wT, wTr, wNot, wAnd, wOr, wAndV, wOrV, wChain, wBinS, wUnS, wOpN, wTup, wLst, wCons, wNil, wCall, wMs, wPar, wPar3, gN, gTupN, gCons, gNil, isD, isSt, isDc, optK_some, rd_d, rdS_d, frs_nil, frs_d, rds_nil, rds_d, on1, on2, asB_b, set0, setS, get0, getS, startE, List.map_cons, List.map_nil, List.length_cons, List.length_nil, List.replicate, List.cons_append, List.nil_append, List.append_nil, Option.map_some, Option.map_none, Option.bind_some, oEq_ss, oNe_ss, oEq_ii, oNe_ii, oAdd_ii, oSub_ii, ix_0, ix_1, ix_2, ix_k0, ix_n1, ix_p1, ix_p2, ix_e1, ix_e2, hd1, hd2, hd3, hd4, hd5, hd6, fin_rt, fin_nx, ret_d, if_true, if_false, Bool.false_eq_true, Bool.true_eq_false, Bool.not_true, Bool.not_false, beq_self_eq_true, decide_true, decide_false, true_and, and_true, lit0, lit1, lit2, lit3, lit4, lit5, lit6, lit7, lit8, lit9, lit10, wYes, oLt_ii, decide_eq_true hw6, hm2]
      refine spS_go (t13.spr hs) ⟨r, ns, m2, rfl, hr.to t13, hn, by omega, by omega, by omega, rfl⟩ ?_
      rintro y st4 ⟨b, rfl, b1, b2, b3⟩ t4
      simp only [wSeq, wIf, wRet, wRetN, wAsg, wExpr, wSkip, wBrk, wCnt, wVar, wC, wBin, wUn, wIfE, wT, wTr, wNot, wAnd, wOr, wAndV, wOrV, wChain, wBinS, wUnS, wOpN, wTup, wLst, wCons, wNil, wCall, wMs, wPar, wPar3, gN, gTupN, gCons, gNil, isD, isSt, isDc, optK_some, rd_d, rdS_d, frs_nil, frs_d, rds_nil, rds_d, on1, on2, asB_b, set0, setS, get0, getS, startE, List.map_cons, List.map_nil, List.length_cons, List.length_nil, List.replicate, List.cons_append, List.nil_append, List.append_nil, Option.map_some, Option.map_none, Option.bind_some, oEq_ss, oNe_ss, oEq_ii, oNe_ii, oAdd_ii, oSub_ii, ix_0, ix_1, ix_2, ix_k0, ix_n1, ix_p1, ix_p2, ix_e1, ix_e2, hd1, hd2, hd3, hd4, hd5, hd6, fin_rt, fin_nx, ret_d, if_true, if_false, Bool.false_eq_true, Bool.true_eq_false, Bool.not_true, Bool.not_false, beq_self_eq_true, decide_true, decide_false, true_and, and_true, lit0, lit1, lit2, lit3, lit4, lit5, lit6, lit7, lit8, lit9, lit10, wYes]
      rw [ret_to (t13.trans t4)]
      exact q _ st4 ⟨.pair a b, rfl, by simp only [Kd.dep]; omega, by simp only [Kd.parts]; omega, fun n h => (List.mem_append.mp h).elim (a3 n) (b3 n)⟩ (t13.trans t4)
    · simp only [wSeq, wIf, wRet, wRetN, wAsg, wExpr, wSkip, wBrk, wCnt, wVar, wC, wBin, wUn, wIfE, wT, wTr, wNot, wAnd, wOr, wAndV, wOrV, wChain, wBinS, wUnS, wOpN, wTup, wLst, wCons, wNil, wCall, wMs, wPar, wPar3, gN, gTupN, gCons, gNil, isD, isSt, isDc, optK_some, rd_d, rdS_d, frs_nil, frs_d, rds_nil, rds_d, on1, on2, asB_b, set0, setS, get0, getS, startE, List.map_cons, List.map_nil, List.length_cons, List.length_nil, List.replicate, List.cons_append, List.nil_append, List.append_nil, Option.map_some, Option.map_none, Option.bind_some, oEq_ss, oNe_ss, oEq_ii, oNe_ii, oAdd_ii, oSub_ii, ix_0, ix_1, ix_2, ix_k0, ix_n1, ix_p1, ix_p2, ix_e1, ix_e2, hd1, hd2, hd3, hd4, hd5, hd6, fin_rt, fin_nx, ret_d, if_true, if_false, Bool.false_eq_true, Bool.true_eq_false, Bool.not_true, Bool.not_false, beq_self_eq_true, decide_true, decide_false, true_and, and_true, lit0, lit1, lit2, lit3, lit4, lit5, lit6, lit7, lit8, lit9, lit10, wYes, oLt_ii, decide_eq_false hw6, hm2]
      refine spS_go (t13.spr hs) ⟨r, ns, m2, rfl, hr.to t13, hn, by omega, by omega, by omega, rfl⟩ ?_
      rintro y st4 ⟨b, rfl, b1, b2, b3⟩ t4
      simp only [wSeq, wIf, wRet, wRetN, wAsg, wExpr, wSkip, wBrk, wCnt, wVar, wC, wBin, wUn, wIfE, wT, wTr, wNot, wAnd, wOr, wAndV, wOrV, wChain, wBinS, wUnS, wOpN, wTup, wLst, wCons, wNil, wCall, wMs, wPar, wPar3, gN, gTupN, gCons, gNil, isD, isSt, isDc, optK_some, rd_d, rdS_d, frs_nil, frs_d, rds_nil, rds_d, on1, on2, asB_b, set0, setS, get0, getS, startE, List.map_cons, List.map_nil, List.length_cons, List.length_nil, List.replicate, List.cons_append, List.nil_append, List.append_nil, Option.map_some, Option.map_none, Option.bind_some, oEq_ss, oNe_ss, oEq_ii, oNe_ii, oAdd_ii, oSub_ii, ix_0, ix_1, ix_2, ix_k0, ix_n1, ix_p1, ix_p2, ix_e1, ix_e2, hd1, hd2, hd3, hd4, hd5, hd6, fin_rt, fin_nx, ret_d, if_true, if_false, Bool.false_eq_true, Bool.true_eq_false, Bool.not_true, Bool.not_false, beq_self_eq_true, decide_true, decide_false, true_and, and_true, lit0, lit1, lit2, lit3, lit4, lit5, lit6, lit7, lit8, lit9, lit10, wYes]
      rw [ret_to (t13.trans t4)]
      exact q _ st4 ⟨.either a b, rfl, by simp only [Kd.dep]; omega, by simp only [Kd.parts]; omega, fun n h => (List.mem_append.mp h).elim (a3 n) (b3 n)⟩ (t13.trans t4)
end DL.K20
/-! text K20P14 -/
namespace DL.K20
open PySem DL
theorem asg_n {f : WE} {env : Env} {st : Store} {D : DL.Fin} {a : PyData} {i : Nat} (h : Pv f env st a) (q : D.nx (env.set i (some (.d a))) st) : wAsg f (gN i) D env st := h _ q
theorem pv_if {t : WT} {a b : WE} {env : Env} {st : Store} {c : Bool} {x y : PyData} (h : Tv t env st c) (ha : c = true → Pv a env st x) (hb : c = false → Pv b env st y) : Pv (wIfE t a b) env st (if c = true then x else y) := fun Q q => h _ (by
  cases c with
  | true => exact ha rfl _ q
  | false => exact hb rfl _ q)
/-! ### the spring -/
def sp_spring : SpD := fun args st Q _ => ∃ (ns : List Int) (lap : Int), args = [.scr ns, .d (.int lap)] ∧ 0 ≤ lap ∧ lap ≤ 10 ∧ ns.length ≤ 63 ∧ ∀ a b c, Q (.loc st.length) (st ++ [spr a b c])
theorem spring_loop {v0 v1 v2 : Option DV} {st : Store} {D : DL.Fin} : ∀ (ns : List Int) (sd : Int) (v4 : Option DV), (∀ sd v4, D.nx [v0, v1, v2, some (.d (.int sd)), v4] st) →
    forGo (gN 4) (wAsg (wBin oMod (wOpN (on1 oInt) (wCons (wBin oAdd (wBin oAdd (wBin oMul (wVar 3) (wC (.int 48623))) (wBin oMod (wOpN (on1 oInt) (wCons (wVar 4) wNil)) (wC (.int 2147483423)))) (wC (.int 31))) wNil)) (wC (.int 2147483549))) (gN 3)) D ((ns.map PyData.int).map DV.d) [v0, v1, v2, some (.d (.int sd)), v4] st
  | [], sd, v4, q => q sd v4
  | n :: ns, sd, v4, q => by
    show wAsg _ _ _ [v0, v1, v2, some (.d (.int sd)), some (.d (.int n))] st
    refine asg_n (pv_bin (pv_int (pv_bin (pv_bin (pv_bin (pv_var rfl) pv_c (oMul_r (small_of (by omega) (by omega)))) (pv_bin (pv_int (pv_var rfl)) pv_c (oMod_p (by omega))) (oAdd_ii _ _)) pv_c (oAdd_ii _ _))) pv_c (oMod_p (by omega))) ?_
    exact spring_loop ns _ _ q
theorem sl_scr (ns : List Int) (h : ns.length ≤ 63) : oSl (.list (ns.map .int)) none (some 63) = some (.list (ns.map .int)) := by
  show some (PyData.list (cutG (ns.map .int) none (some 63))) = _
  have : cutG (ns.map PyData.int) none (some 63) = ns.map .int := by
    unfold cutG
    rw [HT.sIx_none, show HT.sIx (ns.map PyData.int).length (ns.map PyData.int).length (some 63) = min 63 (ns.map PyData.int).length from HT.sIx_nat _ _ 63]
    rw [List.drop_zero]
    refine List.take_of_length_le ?_
    rw [List.length_map]
    omega
  rw [this]
theorem pv_lenS {env : Env} {st : Store} {ns : List Int} (h : env[0]? = some (some (.scr ns))) : Pv (wUnS oLen (wVar 0)) env st (.int (ns.length : Nat)) := fun Q q => by
  unfold wUnS wVar
  rw [h]
  have e : rdS st (.scr ns) = some (.list (ns.map .int)) := rfl
  have e2 : oLen (.list (ns.map .int)) = some (.int (ns.length : Nat)) := by
    show some (PyData.int ((ns.map PyData.int).length : Nat)) = _
    rw [List.length_map]
  simp only [e, optK_some, e2]
  exact q
theorem keeps_law_spring : Keeps 5 sp_spring b_law_spring := by
  rintro args st Q E ⟨ns, lap, rfl, h0, h1, h2, q⟩
  unfold b_law_spring
  refine seq_intro fun N hN => ?_
  have own : ∃ o : Int, Pv (wIfE (wT (wBin oLt (wVar 1) (wUnS oLen (wVar 0)))) (wOpN (on1 oInt) (wCons (wBinS oIx (wVar 0) (wVar 1)) wNil)) (wC (.int 0))) (startE 5 [.scr ns, .d (.int lap)]) st (.int o) := by
    have tv : Tv (wT (wBin oLt (wVar 1) (wUnS oLen (wVar 0)))) (startE 5 [.scr ns, .d (.int lap)]) st (decide (lap < ((ns.length : Nat) : Int))) := tv_t (pv_bin (pv_var rfl) (pv_lenS rfl) (oLt_ii _ _))
    by_cases hl : lap < ((ns.length : Nat) : Int)
    · obtain ⟨n, rfl⟩ : ∃ n : Nat, lap = n := ⟨lap.toNat, by omega⟩
      have hn : n < ns.length := by omega
      have hix : oIx (.list (ns.map .int)) (.int ((n : Nat) : Int)) = some (.int ns[n]) := L2.atI_nat (by rw [List.getElem?_map, List.getElem?_eq_getElem hn]; rfl)
      refine ⟨ns[n], ?_⟩
      have := pv_if (x := .int ns[n]) (y := .int ns[n]) tv (fun _ => pv_int (f := wBinS oIx (wVar 0) (wVar 1)) (i := ns[n]) fun Q q => by
        have e : rdS st (.scr ns) = some (.list (ns.map .int)) := rfl
        simp only [wSeq, wIf, wRet, wRetN, wAsg, wExpr, wSkip, wBrk, wCnt, wVar, wC, wBin, wUn, wIfE, wT, wTr, wNot, wAnd, wOr, wAndV, wOrV, wChain, wBinS, wUnS, wOpN, wTup, wLst, wCons, wNil, wCall, wMs, wPar, wPar3, gN, gTupN, gCons, gNil, isD, isSt, isDc, optK_some, rd_d, rdS_d, frs_nil, frs_d, rds_nil, rds_d, on1, on2, asB_b, set0, setS, get0, getS, startE, List.map_cons, List.map_nil, List.length_cons, List.length_nil, List.replicate, List.cons_append, List.nil_append, List.append_nil, Option.map_some, Option.map_none, Option.bind_some, oEq_ss, oNe_ss, oEq_ii, oNe_ii, oAdd_ii, oSub_ii, ix_0, ix_1, ix_2, ix_k0, ix_n1, ix_p1, ix_p2, ix_e1, ix_e2, hd1, hd2, hd3, hd4, hd5, hd6, fin_rt, fin_nx, ret_d, if_true, if_false, Bool.false_eq_true, Bool.true_eq_false, Bool.not_true, Bool.not_false, beq_self_eq_true, decide_true, decide_false, true_and, and_true, lit0, lit1, lit2, lit3, lit4, lit5, lit6, lit7, lit8, lit9, lit10, wYes, e, hix]
        exact q) (a := wOpN (on1 oInt) (wCons (wBinS oIx (wVar 0) (wVar 1)) wNil)) (b := wC (.int 0)) (fun hc => by rw [decide_eq_true hl] at hc; cases hc)
      simpa using this
    · refine ⟨0, ?_⟩
      have := pv_if (x := .int 0) (y := .int 0) tv (a := wOpN (on1 oInt) (wCons (wBinS oIx (wVar 0) (wVar 1)) wNil)) (b := wC (.int 0)) (fun hc => by rw [decide_eq_false hl] at hc; cases hc) (fun _ => pv_c)
      simpa using this
  obtain ⟨o, ho⟩ := own
  unfold wPar
  refine ho _ ?_
  have hsd : Pv (wBin oAdd (wC (.int 481601)) (wBin oMul (wC (.int 6007)) (wVar 1))) (startE 5 [.scr ns, .d (.int lap)]) st (.int (481601 + 6007 * lap)) := pv_bin pv_c (pv_bin pv_c (pv_var rfl) (oMul_l (small_of (by omega) (by omega)))) (oAdd_ii _ _)
  refine hsd _ ?_
  show N [some (.scr ns), some (.d (.int lap)), some (.d (.int o)), some (.d (.int _)), none] st
  rw [hN]
  refine seq_intro fun N hN => ?_
  have erd : rdS st (.scr ns) = some (.list (ns.map .int)) := rfl
  unfold wFor iSeq
  simp only [wSl, wON, wOS, wVar, get0, erd, optK_some, wC, rd_d, asI, sl_scr ns h2, itemsOf]
  refine spring_loop ns _ none fun sd v4 => ?_
  show N _ _
  rw [hN]
  refine seq_intro fun N hN => ?_
  refine asg_n (pv_bin (pv_int (pv_bin (pv_bin (pv_bin (pv_var rfl) pv_c (oMul_r (small_of (by omega) (by omega)))) (pv_bin (pv_bin (pv_int (pv_var rfl)) pv_c (oMod_p (by omega))) pv_c (oMul_r (small_of (by omega) (by omega)))) (oAdd_ii _ _)) pv_c (oAdd_ii _ _))) pv_c (oMod_p (by omega))) ?_
  show N _ _
  rw [hN]
  generalize (sd * 61 + o % 2147483423 * 30029 + 7) % 2147483549 = sd2
  have first : ∃ a : Int, Pv (wIfE (wOr (wT (wBin oLt (wVar 2) (wC (.int 0)))) (wT (wBin oGe (wVar 2) (wBin oPow (wC (.int 10)) (wC (.int 16)))))) (wOpN (on1 oAbs) (wCons (wVar 2) wNil)) (wC (.int 0))) [some (.scr ns), some (.d (.int lap)), some (.d (.int o)), some (.d (.int sd2)), v4] st (.int a) := by
    have hp : oPow (.int 10) (.int 16) = some (.int 10000000000000000) := rfl
    have tv : Tv (wOr (wT (wBin oLt (wVar 2) (wC (.int 0)))) (wT (wBin oGe (wVar 2) (wBin oPow (wC (.int 10)) (wC (.int 16)))))) [some (.scr ns), some (.d (.int lap)), some (.d (.int o)), some (.d (.int sd2)), v4] st (decide (o < 0) || decide (10000000000000000 ≤ o)) :=
      tv_or (tv_t (pv_bin (pv_var rfl) pv_c (oLt_ii _ _))) (tv_t (pv_bin (pv_var rfl) (pv_bin pv_c pv_c hp) (oGe_ii _ _)))
    have pa : Pv (wOpN (on1 oAbs) (wCons (wVar 2) wNil)) [some (.scr ns), some (.d (.int lap)), some (.d (.int o)), some (.d (.int sd2)), v4] st (.int (if o < 0 then -o else o)) := fun Q q => by
      have e : oAbs (.int o) = some (.int (if o < 0 then -o else o)) := rfl
      simp only [wSeq, wIf, wRet, wRetN, wAsg, wExpr, wSkip, wBrk, wCnt, wVar, wC, wBin, wUn, wIfE, wT, wTr, wNot, wAnd, wOr, wAndV, wOrV, wChain, wBinS, wUnS, wOpN, wTup, wLst, wCons, wNil, wCall, wMs, wPar, wPar3, gN, gTupN, gCons, gNil, isD, isSt, isDc, optK_some, rd_d, rdS_d, frs_nil, frs_d, rds_nil, rds_d, on1, on2, asB_b, set0, setS, get0, getS, startE, List.map_cons, List.map_nil, List.length_cons, List.length_nil, List.replicate, List.cons_append, List.nil_append, List.append_nil, Option.map_some, Option.map_none, Option.bind_some, oEq_ss, oNe_ss, oEq_ii, oNe_ii, oAdd_ii, oSub_ii, ix_0, ix_1, ix_2, ix_k0, ix_n1, ix_p1, ix_p2, ix_e1, ix_e2, hd1, hd2, hd3, hd4, hd5, hd6, fin_rt, fin_nx, ret_d, if_true, if_false, Bool.false_eq_true, Bool.true_eq_false, Bool.not_true, Bool.not_false, beq_self_eq_true, decide_true, decide_false, true_and, and_true, lit0, lit1, lit2, lit3, lit4, lit5, lit6, lit7, lit8, lit9, lit10, wYes, e]
      exact q
    cases hc : (decide (o < 0) || decide (10000000000000000 ≤ o)) with
    | true => rw [hc] at tv; exact ⟨_, pv_if (x := .int (if o < 0 then -o else o)) (y := .int 0) tv (fun _ => pa) fun z => nomatch z⟩
    | false => rw [hc] at tv; exact ⟨_, pv_if (x := .int (if o < 0 then -o else o)) (y := .int 0) tv (fun z => nomatch z) fun _ => pv_c⟩
  obtain ⟨a, ha⟩ := first
  unfold wRet wLstM wCons
  refine ha _ ?_
  simp only [wVar, wC, wNil, set0, setS, get0, getS]
  show optK (DL.frs [.d (.int a), .d (.int sd2), .d (.int 0)]) _
  rw [show DL.frs [.d (.int a), .d (.int sd2), .d (.int 0)] = some [PyData.int a, .int sd2, .int 0] from rfl]
  refine ⟨show 3 ≤ lim by decide, ?_⟩
  have hg : (st ++ [spr a sd2 0])[st.length]? = some (spr a sd2 0) := by simp
  show retK st.length Q (.loc st.length) (st ++ [spr a sd2 0])
  unfold retK
  simp only [Nat.lt_irrefl, if_false, hg, optK_some, take_app]
  exact q a sd2 0
end DL.K20
/-! text K20P15 -/
namespace DL.K20
open PySem DL
def pOf (st : Store) (i : Nat) (rest : List DV) (R : PyData → Prop) : Prop := ∃ (r : DV) (ns : List Str) (nm : Str), rest = [r, .d (.str nm), .d (.int 5)] ∧ LsAt st i r (ns.map .str) ∧ ns ≠ [] ∧ ns.length < 1000 ∧ nm ∈ ns ∧
  R = fun y => ∃ k : Kd, y = k.enc ∧ k.dep ≤ 6 ∧ k.parts ≤ 20 ∧ ∀ n ∈ k.names, n ∈ ns
theorem keeps_law_own_form : Keeps 10 (spS pOf) (b_law_own_form (spS pDr) (spS (pFm 9)) (spS pPk)) := by
  rintro args st Q E ⟨i, rest, R, rfl, hs, ⟨r, ns, nm, rfl, hr, h0, hn, hnm, rfl⟩, q⟩
  unfold b_law_own_form
  refine seq_intro fun N hN => ?_
  try simp only [wSeq, wIf, wRet, wRetN, wAsg, wExpr, wSkip, wBrk, wCnt, wVar, wC, wBin, wUn, wIfE, wT, wTr, wNot, wAnd, wOr, wAndV, wOrV, wChain, wBinS, wUnS, wOpN, wTup, wLst, wCons, wNil, wCall, wMs, wPar, wPar3, gN, gTupN, gCons, gNil, isD, isSt, isDc, optK_some, rd_d, rdS_d, frs_nil, frs_d, rds_nil, rds_d, on1, on2, asB_b, set0, setS, get0, getS, startE, List.map_cons, List.map_nil, List.length_cons, List.length_nil, List.replicate, List.cons_append, List.nil_append, List.append_nil, Option.map_some, Option.map_none, Option.bind_some, oEq_ss, oNe_ss, oEq_ii, oNe_ii, oAdd_ii, oSub_ii, ix_0, ix_1, ix_2, ix_k0, ix_n1, ix_p1, ix_p2, ix_e1, ix_e2, hd1, hd2, hd3, hd4, hd5, hd6, fin_rt, fin_nx, ret_d, if_true, if_false, Bool.false_eq_true, Bool.true_eq_false, Bool.not_true, Bool.not_false, beq_self_eq_true, decide_true, decide_false, true_and, and_true, lit0, lit1, lit2, lit3, lit4, lit5, lit6, lit7, lit8, lit9, lit10, wYes]
  refine spS_go hs ⟨9, rfl, by omega, by omega, rfl⟩ ?_
  rintro y st1 ⟨w, rfl, w0, w1⟩ t1
  try simp only [wSeq, wIf, wRet, wRetN, wAsg, wExpr, wSkip, wBrk, wCnt, wVar, wC, wBin, wUn, wIfE, wT, wTr, wNot, wAnd, wOr, wAndV, wOrV, wChain, wBinS, wUnS, wOpN, wTup, wLst, wCons, wNil, wCall, wMs, wPar, wPar3, gN, gTupN, gCons, gNil, isD, isSt, isDc, optK_some, rd_d, rdS_d, frs_nil, frs_d, rds_nil, rds_d, on1, on2, asB_b, set0, setS, get0, getS, startE, List.map_cons, List.map_nil, List.length_cons, List.length_nil, List.replicate, List.cons_append, List.nil_append, List.append_nil, Option.map_some, Option.map_none, Option.bind_some, oEq_ss, oNe_ss, oEq_ii, oNe_ii, oAdd_ii, oSub_ii, ix_0, ix_1, ix_2, ix_k0, ix_n1, ix_p1, ix_p2, ix_e1, ix_e2, hd1, hd2, hd3, hd4, hd5, hd6, fin_rt, fin_nx, ret_d, if_true, if_false, Bool.false_eq_true, Bool.true_eq_false, Bool.not_true, Bool.not_false, beq_self_eq_true, decide_true, decide_false, true_and, and_true, lit0, lit1, lit2, lit3, lit4, lit5, lit6, lit7, lit8, lit9, lit10, wYes]
  refine spS_go (t1.spr hs) ⟨r, ns.map .str, rfl, .inl (hr.to t1), by simpa using h0, by rw [List.length_map]; omega, rfl⟩ ?_
  rintro y st2 hy t2
  obtain ⟨m, hm, rfl⟩ := List.mem_map.mp hy
  have t12 := t1.trans t2
  try simp only [wSeq, wIf, wRet, wRetN, wAsg, wExpr, wSkip, wBrk, wCnt, wVar, wC, wBin, wUn, wIfE, wT, wTr, wNot, wAnd, wOr, wAndV, wOrV, wChain, wBinS, wUnS, wOpN, wTup, wLst, wCons, wNil, wCall, wMs, wPar, wPar3, gN, gTupN, gCons, gNil, isD, isSt, isDc, optK_some, rd_d, rdS_d, frs_nil, frs_d, rds_nil, rds_d, on1, on2, asB_b, set0, setS, get0, getS, startE, List.map_cons, List.map_nil, List.length_cons, List.length_nil, List.replicate, List.cons_append, List.nil_append, List.append_nil, Option.map_some, Option.map_none, Option.bind_some, oEq_ss, oNe_ss, oEq_ii, oNe_ii, oAdd_ii, oSub_ii, ix_0, ix_1, ix_2, ix_k0, ix_n1, ix_p1, ix_p2, ix_e1, ix_e2, hd1, hd2, hd3, hd4, hd5, hd6, fin_rt, fin_nx, ret_d, if_true, if_false, Bool.false_eq_true, Bool.true_eq_false, Bool.not_true, Bool.not_false, beq_self_eq_true, decide_true, decide_false, true_and, and_true, lit0, lit1, lit2, lit3, lit4, lit5, lit6, lit7, lit8, lit9, lit10, wYes]
  rw [hN]
  refine seq_intro fun N hN => ?_
  by_cases hw0 : w = 0
  · subst hw0
    try simp only [wSeq, wIf, wRet, wRetN, wAsg, wExpr, wSkip, wBrk, wCnt, wVar, wC, wBin, wUn, wIfE, wT, wTr, wNot, wAnd, wOr, wAndV, wOrV, wChain, wBinS, wUnS, wOpN, wTup, wLst, wCons, wNil, wCall, wMs, wPar, wPar3, gN, gTupN, gCons, gNil, isD, isSt, isDc, optK_some, rd_d, rdS_d, frs_nil, frs_d, rds_nil, rds_d, on1, on2, asB_b, set0, setS, get0, getS, startE, List.map_cons, List.map_nil, List.length_cons, List.length_nil, List.replicate, List.cons_append, List.nil_append, List.append_nil, Option.map_some, Option.map_none, Option.bind_some, oEq_ss, oNe_ss, oEq_ii, oNe_ii, oAdd_ii, oSub_ii, ix_0, ix_1, ix_2, ix_k0, ix_n1, ix_p1, ix_p2, ix_e1, ix_e2, hd1, hd2, hd3, hd4, hd5, hd6, fin_rt, fin_nx, ret_d, if_true, if_false, Bool.false_eq_true, Bool.true_eq_false, Bool.not_true, Bool.not_false, beq_self_eq_true, decide_true, decide_false, true_and, and_true, lit0, lit1, lit2, lit3, lit4, lit5, lit6, lit7, lit8, lit9, lit10, wYes]
    refine spS_go (t12.spr hs) ⟨r, ns, 8, rfl, hr.to t12, hn, by omega, by omega, by omega, rfl⟩ ?_
    rintro y st3 ⟨k, rfl, k1, k2, k3⟩ t3
    try simp only [wSeq, wIf, wRet, wRetN, wAsg, wExpr, wSkip, wBrk, wCnt, wVar, wC, wBin, wUn, wIfE, wT, wTr, wNot, wAnd, wOr, wAndV, wOrV, wChain, wBinS, wUnS, wOpN, wTup, wLst, wCons, wNil, wCall, wMs, wPar, wPar3, gN, gTupN, gCons, gNil, isD, isSt, isDc, optK_some, rd_d, rdS_d, frs_nil, frs_d, rds_nil, rds_d, on1, on2, asB_b, set0, setS, get0, getS, startE, List.map_cons, List.map_nil, List.length_cons, List.length_nil, List.replicate, List.cons_append, List.nil_append, List.append_nil, Option.map_some, Option.map_none, Option.bind_some, oEq_ss, oNe_ss, oEq_ii, oNe_ii, oAdd_ii, oSub_ii, ix_0, ix_1, ix_2, ix_k0, ix_n1, ix_p1, ix_p2, ix_e1, ix_e2, hd1, hd2, hd3, hd4, hd5, hd6, fin_rt, fin_nx, ret_d, if_true, if_false, Bool.false_eq_true, Bool.true_eq_false, Bool.not_true, Bool.not_false, beq_self_eq_true, decide_true, decide_false, true_and, and_true, lit0, lit1, lit2, lit3, lit4, lit5, lit6, lit7, lit8, lit9, lit10, wYes]
    rw [ret_to (t12.trans t3)]
    exact q _ st3 ⟨k, rfl, by omega, by omega, k3⟩ (t12.trans t3)
  have hw0' : (w == 0) = false := by simpa using hw0
  simp only [wSeq, wIf, wRet, wRetN, wAsg, wExpr, wSkip, wBrk, wCnt, wVar, wC, wBin, wUn, wIfE, wT, wTr, wNot, wAnd, wOr, wAndV, wOrV, wChain, wBinS, wUnS, wOpN, wTup, wLst, wCons, wNil, wCall, wMs, wPar, wPar3, gN, gTupN, gCons, gNil, isD, isSt, isDc, optK_some, rd_d, rdS_d, frs_nil, frs_d, rds_nil, rds_d, on1, on2, asB_b, set0, setS, get0, getS, startE, List.map_cons, List.map_nil, List.length_cons, List.length_nil, List.replicate, List.cons_append, List.nil_append, List.append_nil, Option.map_some, Option.map_none, Option.bind_some, oEq_ss, oNe_ss, oEq_ii, oNe_ii, oAdd_ii, oSub_ii, ix_0, ix_1, ix_2, ix_k0, ix_n1, ix_p1, ix_p2, ix_e1, ix_e2, hd1, hd2, hd3, hd4, hd5, hd6, fin_rt, fin_nx, ret_d, if_true, if_false, Bool.false_eq_true, Bool.true_eq_false, Bool.not_true, Bool.not_false, beq_self_eq_true, decide_true, decide_false, true_and, and_true, lit0, lit1, lit2, lit3, lit4, lit5, lit6, lit7, lit8, lit9, lit10, wYes, hw0']
  rw [hN]
  refine seq_intro fun N hN => ?_
  have mul2 : ∀ z : Int, oMul (.int 2) (.int z) = some (.int (2 * z)) := fun z => oMul_l (small_of (by omega) (by omega))
  have own_n : ∀ n ∈ (Kd.name nm).names, n ∈ ns := fun n h => by simp [Kd.names] at h; subst h; exact hnm
  have oth_n : ∀ n ∈ (Kd.name m).names, n ∈ ns := fun n h => by simp [Kd.names] at h; subst h; exact hm
  have cont : ∀ (k : Kd), k.dep ≤ 2 → k.parts ≤ 3 → (∀ n ∈ k.names, n ∈ ns) → ∀ st4, SpTo st i st4 →
      N [some (.loc i), some r, some (.d (.str nm)), some (.d (.int 5)), some (.d (.int w)), some (.d (Kd.name nm).enc), some (.d (Kd.name m).enc), some (.d k.enc), none, none] st4 := by
    intro k k1 k2 k3 st4 t4
    rw [hN]
    refine seq_intro fun N hN => ?_
    simp only [wSeq, wIf, wRet, wRetN, wAsg, wExpr, wSkip, wBrk, wCnt, wVar, wC, wBin, wUn, wIfE, wT, wTr, wNot, wAnd, wOr, wAndV, wOrV, wChain, wBinS, wUnS, wOpN, wTup, wLst, wCons, wNil, wCall, wMs, wPar, wPar3, gN, gTupN, gCons, gNil, isD, isSt, isDc, optK_some, rd_d, rdS_d, frs_nil, frs_d, rds_nil, rds_d, on1, on2, asB_b, set0, setS, get0, getS, startE, List.map_cons, List.map_nil, List.length_cons, List.length_nil, List.replicate, List.cons_append, List.nil_append, List.append_nil, Option.map_some, Option.map_none, Option.bind_some, oEq_ss, oNe_ss, oEq_ii, oNe_ii, oAdd_ii, oSub_ii, ix_0, ix_1, ix_2, ix_k0, ix_n1, ix_p1, ix_p2, ix_e1, ix_e2, hd1, hd2, hd3, hd4, hd5, hd6, fin_rt, fin_nx, ret_d, if_true, if_false, Bool.false_eq_true, Bool.true_eq_false, Bool.not_true, Bool.not_false, beq_self_eq_true, decide_true, decide_false, true_and, and_true, lit0, lit1, lit2, lit3, lit4, lit5, lit6, lit7, lit8, lit9, lit10, wYes]
    refine spS_go (t4.spr hs) ⟨5, rfl, by omega, by omega, rfl⟩ ?_
    rintro y st5 ⟨z, rfl, z0, z1⟩ t5
    obtain ⟨m2, hm2⟩ : ∃ m2 : Nat, (1 : Int) + z = m2 := ⟨(1 + z).toNat, by omega⟩
    simp only [wSeq, wIf, wRet, wRetN, wAsg, wExpr, wSkip, wBrk, wCnt, wVar, wC, wBin, wUn, wIfE, wT, wTr, wNot, wAnd, wOr, wAndV, wOrV, wChain, wBinS, wUnS, wOpN, wTup, wLst, wCons, wNil, wCall, wMs, wPar, wPar3, gN, gTupN, gCons, gNil, isD, isSt, isDc, optK_some, rd_d, rdS_d, frs_nil, frs_d, rds_nil, rds_d, on1, on2, asB_b, set0, setS, get0, getS, startE, List.map_cons, List.map_nil, List.length_cons, List.length_nil, List.replicate, List.cons_append, List.nil_append, List.append_nil, Option.map_some, Option.map_none, Option.bind_some, oEq_ss, oNe_ss, oEq_ii, oNe_ii, oAdd_ii, oSub_ii, ix_0, ix_1, ix_2, ix_k0, ix_n1, ix_p1, ix_p2, ix_e1, ix_e2, hd1, hd2, hd3, hd4, hd5, hd6, fin_rt, fin_nx, ret_d, if_true, if_false, Bool.false_eq_true, Bool.true_eq_false, Bool.not_true, Bool.not_false, beq_self_eq_true, decide_true, decide_false, true_and, and_true, lit0, lit1, lit2, lit3, lit4, lit5, lit6, lit7, lit8, lit9, lit10, wYes, hm2]
    have t45 := t4.trans t5
    refine spS_go (t45.spr hs) ⟨r, ns, m2, rfl, hr.to t45, hn, by omega, by omega, by omega, rfl⟩ ?_
    rintro y st6 ⟨sm, rfl, s1, s2, s3⟩ t6
    have t46 := t45.trans t6
    try simp only [wSeq, wIf, wRet, wRetN, wAsg, wExpr, wSkip, wBrk, wCnt, wVar, wC, wBin, wUn, wIfE, wT, wTr, wNot, wAnd, wOr, wAndV, wOrV, wChain, wBinS, wUnS, wOpN, wTup, wLst, wCons, wNil, wCall, wMs, wPar, wPar3, gN, gTupN, gCons, gNil, isD, isSt, isDc, optK_some, rd_d, rdS_d, frs_nil, frs_d, rds_nil, rds_d, on1, on2, asB_b, set0, setS, get0, getS, startE, List.map_cons, List.map_nil, List.length_cons, List.length_nil, List.replicate, List.cons_append, List.nil_append, List.append_nil, Option.map_some, Option.map_none, Option.bind_some, oEq_ss, oNe_ss, oEq_ii, oNe_ii, oAdd_ii, oSub_ii, ix_0, ix_1, ix_2, ix_k0, ix_n1, ix_p1, ix_p2, ix_e1, ix_e2, hd1, hd2, hd3, hd4, hd5, hd6, fin_rt, fin_nx, ret_d, if_true, if_false, Bool.false_eq_true, Bool.true_eq_false, Bool.not_true, Bool.not_false, beq_self_eq_true, decide_true, decide_false, true_and, and_true, lit0, lit1, lit2, lit3, lit4, lit5, lit6, lit7, lit8, lit9, lit10, wYes]
    rw [hN]
    -- more
    have fin : ∀ (mo : Kd), mo.dep ≤ 5 → mo.parts ≤ 16 → (∀ n ∈ mo.names, n ∈ ns) → (wRet
          (wIfE (wT (wBin oEq (wCall (spS pDr) E (wCons (wVar 0) (wCons (wC (PyData.int 2)) wNil))) (wC (PyData.int 0))))
            (wTup (wCons (wC (PyData.str (Str.ofString "either"))) (wCons (wVar 7) (wCons (wVar 9) wNil))))
            (wTup (wCons (wC (PyData.str (Str.ofString "either"))) (wCons (wVar 9) (wCons (wVar 7) wNil)))))) (finOf st.length Q) [some (.loc i), some r, some (.d (.str nm)), some (.d (.int 5)), some (.d (.int w)), some (.d (Kd.name nm).enc), some (.d (Kd.name m).enc), some (.d k.enc), some (.d sm.enc), some (.d mo.enc)] st6 := by
      intro mo m1 m2 m3
      simp only [wSeq, wIf, wRet, wRetN, wAsg, wExpr, wSkip, wBrk, wCnt, wVar, wC, wBin, wUn, wIfE, wT, wTr, wNot, wAnd, wOr, wAndV, wOrV, wChain, wBinS, wUnS, wOpN, wTup, wLst, wCons, wNil, wCall, wMs, wPar, wPar3, gN, gTupN, gCons, gNil, isD, isSt, isDc, optK_some, rd_d, rdS_d, frs_nil, frs_d, rds_nil, rds_d, on1, on2, asB_b, set0, setS, get0, getS, startE, List.map_cons, List.map_nil, List.length_cons, List.length_nil, List.replicate, List.cons_append, List.nil_append, List.append_nil, Option.map_some, Option.map_none, Option.bind_some, oEq_ss, oNe_ss, oEq_ii, oNe_ii, oAdd_ii, oSub_ii, ix_0, ix_1, ix_2, ix_k0, ix_n1, ix_p1, ix_p2, ix_e1, ix_e2, hd1, hd2, hd3, hd4, hd5, hd6, fin_rt, fin_nx, ret_d, if_true, if_false, Bool.false_eq_true, Bool.true_eq_false, Bool.not_true, Bool.not_false, beq_self_eq_true, decide_true, decide_false, true_and, and_true, lit0, lit1, lit2, lit3, lit4, lit5, lit6, lit7, lit8, lit9, lit10, wYes]
      refine spS_go (t46.spr hs) ⟨2, rfl, by omega, by omega, rfl⟩ ?_
      rintro y st7 ⟨x, rfl, x0, x1⟩ t7
      by_cases hx : x = 0
      · subst hx
        simp only [wSeq, wIf, wRet, wRetN, wAsg, wExpr, wSkip, wBrk, wCnt, wVar, wC, wBin, wUn, wIfE, wT, wTr, wNot, wAnd, wOr, wAndV, wOrV, wChain, wBinS, wUnS, wOpN, wTup, wLst, wCons, wNil, wCall, wMs, wPar, wPar3, gN, gTupN, gCons, gNil, isD, isSt, isDc, optK_some, rd_d, rdS_d, frs_nil, frs_d, rds_nil, rds_d, on1, on2, asB_b, set0, setS, get0, getS, startE, List.map_cons, List.map_nil, List.length_cons, List.length_nil, List.replicate, List.cons_append, List.nil_append, List.append_nil, Option.map_some, Option.map_none, Option.bind_some, oEq_ss, oNe_ss, oEq_ii, oNe_ii, oAdd_ii, oSub_ii, ix_0, ix_1, ix_2, ix_k0, ix_n1, ix_p1, ix_p2, ix_e1, ix_e2, hd1, hd2, hd3, hd4, hd5, hd6, fin_rt, fin_nx, ret_d, if_true, if_false, Bool.false_eq_true, Bool.true_eq_false, Bool.not_true, Bool.not_false, beq_self_eq_true, decide_true, decide_false, true_and, and_true, lit0, lit1, lit2, lit3, lit4, lit5, lit6, lit7, lit8, lit9, lit10, wYes]
        rw [ret_to (t46.trans t7)]
        exact q _ st7 ⟨.either k mo, rfl, by simp only [Kd.dep]; omega, by simp only [Kd.parts]; omega, fun n h => (List.mem_append.mp h).elim (k3 n) (m3 n)⟩ (t46.trans t7)
      · have hx' : (x == 0) = false := by simpa using hx
        simp only [wSeq, wIf, wRet, wRetN, wAsg, wExpr, wSkip, wBrk, wCnt, wVar, wC, wBin, wUn, wIfE, wT, wTr, wNot, wAnd, wOr, wAndV, wOrV, wChain, wBinS, wUnS, wOpN, wTup, wLst, wCons, wNil, wCall, wMs, wPar, wPar3, gN, gTupN, gCons, gNil, isD, isSt, isDc, optK_some, rd_d, rdS_d, frs_nil, frs_d, rds_nil, rds_d, on1, on2, asB_b, set0, setS, get0, getS, startE, List.map_cons, List.map_nil, List.length_cons, List.length_nil, List.replicate, List.cons_append, List.nil_append, List.append_nil, Option.map_some, Option.map_none, Option.bind_some, oEq_ss, oNe_ss, oEq_ii, oNe_ii, oAdd_ii, oSub_ii, ix_0, ix_1, ix_2, ix_k0, ix_n1, ix_p1, ix_p2, ix_e1, ix_e2, hd1, hd2, hd3, hd4, hd5, hd6, fin_rt, fin_nx, ret_d, if_true, if_false, Bool.false_eq_true, Bool.true_eq_false, Bool.not_true, Bool.not_false, beq_self_eq_true, decide_true, decide_false, true_and, and_true, lit0, lit1, lit2, lit3, lit4, lit5, lit6, lit7, lit8, lit9, lit10, wYes, hx']
        rw [ret_to (t46.trans t7)]
        exact q _ st7 ⟨.either mo k, rfl, by simp only [Kd.dep]; omega, by simp only [Kd.parts]; omega, fun n h => (List.mem_append.mp h).elim (m3 n) (k3 n)⟩ (t46.trans t7)
    refine seq_intro fun N hN => ?_
    have d1 : (Kd.name nm).dep = 1 := rfl
    have d2 : (Kd.name m).dep = 1 := rfl
    have p1 : (Kd.name nm).parts = 1 := rfl
    have p2 : (Kd.name m).parts = 1 := rfl
    have go : ∀ mo : Kd, mo.dep ≤ 5 → mo.parts ≤ 16 → (∀ n ∈ mo.names, n ∈ ns) → N [some (.loc i), some r, some (.d (.str nm)), some (.d (.int 5)), some (.d (.int w)), some (.d (Kd.name nm).enc), some (.d (Kd.name m).enc), some (.d k.enc), some (.d sm.enc), some (.d mo.enc)] st6 := by
      intro mo m1 m2 m3
      rw [hN]
      exact fin mo m1 m2 m3
    by_cases w4 : w < 4
    · simp only [wSeq, wIf, wRet, wRetN, wAsg, wExpr, wSkip, wBrk, wCnt, wVar, wC, wBin, wUn, wIfE, wT, wTr, wNot, wAnd, wOr, wAndV, wOrV, wChain, wBinS, wUnS, wOpN, wTup, wLst, wCons, wNil, wCall, wMs, wPar, wPar3, gN, gTupN, gCons, gNil, isD, isSt, isDc, optK_some, rd_d, rdS_d, frs_nil, frs_d, rds_nil, rds_d, on1, on2, asB_b, set0, setS, get0, getS, startE, List.map_cons, List.map_nil, List.length_cons, List.length_nil, List.replicate, List.cons_append, List.nil_append, List.append_nil, Option.map_some, Option.map_none, Option.bind_some, oEq_ss, oNe_ss, oEq_ii, oNe_ii, oAdd_ii, oSub_ii, ix_0, ix_1, ix_2, ix_k0, ix_n1, ix_p1, ix_p2, ix_e1, ix_e2, hd1, hd2, hd3, hd4, hd5, hd6, fin_rt, fin_nx, ret_d, if_true, if_false, Bool.false_eq_true, Bool.true_eq_false, Bool.not_true, Bool.not_false, beq_self_eq_true, decide_true, decide_false, true_and, and_true, lit0, lit1, lit2, lit3, lit4, lit5, lit6, lit7, lit8, lit9, lit10, wYes, oLt_ii, decide_eq_true w4]
      exact go (.pair sm (.name nm)) (by simp only [Kd.dep]; omega) (by simp only [Kd.parts]; omega) fun n h => (List.mem_append.mp h).elim (s3 n) (own_n n)
    by_cases w6 : w < 6
    · simp only [wSeq, wIf, wRet, wRetN, wAsg, wExpr, wSkip, wBrk, wCnt, wVar, wC, wBin, wUn, wIfE, wT, wTr, wNot, wAnd, wOr, wAndV, wOrV, wChain, wBinS, wUnS, wOpN, wTup, wLst, wCons, wNil, wCall, wMs, wPar, wPar3, gN, gTupN, gCons, gNil, isD, isSt, isDc, optK_some, rd_d, rdS_d, frs_nil, frs_d, rds_nil, rds_d, on1, on2, asB_b, set0, setS, get0, getS, startE, List.map_cons, List.map_nil, List.length_cons, List.length_nil, List.replicate, List.cons_append, List.nil_append, List.append_nil, Option.map_some, Option.map_none, Option.bind_some, oEq_ss, oNe_ss, oEq_ii, oNe_ii, oAdd_ii, oSub_ii, ix_0, ix_1, ix_2, ix_k0, ix_n1, ix_p1, ix_p2, ix_e1, ix_e2, hd1, hd2, hd3, hd4, hd5, hd6, fin_rt, fin_nx, ret_d, if_true, if_false, Bool.false_eq_true, Bool.true_eq_false, Bool.not_true, Bool.not_false, beq_self_eq_true, decide_true, decide_false, true_and, and_true, lit0, lit1, lit2, lit3, lit4, lit5, lit6, lit7, lit8, lit9, lit10, wYes, oLt_ii, decide_eq_false w4, decide_eq_true w6]
      exact go (.pair (.name m) (.pair sm (.name nm))) (by simp only [Kd.dep]; omega) (by simp only [Kd.parts]; omega) fun n h => (List.mem_append.mp h).elim (oth_n n) fun h => (List.mem_append.mp h).elim (s3 n) (own_n n)
    by_cases w66 : w = 6
    · subst w66
      simp only [wSeq, wIf, wRet, wRetN, wAsg, wExpr, wSkip, wBrk, wCnt, wVar, wC, wBin, wUn, wIfE, wT, wTr, wNot, wAnd, wOr, wAndV, wOrV, wChain, wBinS, wUnS, wOpN, wTup, wLst, wCons, wNil, wCall, wMs, wPar, wPar3, gN, gTupN, gCons, gNil, isD, isSt, isDc, optK_some, rd_d, rdS_d, frs_nil, frs_d, rds_nil, rds_d, on1, on2, asB_b, set0, setS, get0, getS, startE, List.map_cons, List.map_nil, List.length_cons, List.length_nil, List.replicate, List.cons_append, List.nil_append, List.append_nil, Option.map_some, Option.map_none, Option.bind_some, oEq_ss, oNe_ss, oEq_ii, oNe_ii, oAdd_ii, oSub_ii, ix_0, ix_1, ix_2, ix_k0, ix_n1, ix_p1, ix_p2, ix_e1, ix_e2, hd1, hd2, hd3, hd4, hd5, hd6, fin_rt, fin_nx, ret_d, if_true, if_false, Bool.false_eq_true, Bool.true_eq_false, Bool.not_true, Bool.not_false, beq_self_eq_true, decide_true, decide_false, true_and, and_true, lit0, lit1, lit2, lit3, lit4, lit5, lit6, lit7, lit8, lit9, lit10, wYes, oLt_ii, decide_eq_false w4, decide_eq_false w6]
      exact go (.name m) (by omega) (by omega) oth_n
    have w66' : (w == 6) = false := by simpa using w66
    by_cases w7 : w = 7
    · subst w7
      simp only [wSeq, wIf, wRet, wRetN, wAsg, wExpr, wSkip, wBrk, wCnt, wVar, wC, wBin, wUn, wIfE, wT, wTr, wNot, wAnd, wOr, wAndV, wOrV, wChain, wBinS, wUnS, wOpN, wTup, wLst, wCons, wNil, wCall, wMs, wPar, wPar3, gN, gTupN, gCons, gNil, isD, isSt, isDc, optK_some, rd_d, rdS_d, frs_nil, frs_d, rds_nil, rds_d, on1, on2, asB_b, set0, setS, get0, getS, startE, List.map_cons, List.map_nil, List.length_cons, List.length_nil, List.replicate, List.cons_append, List.nil_append, List.append_nil, Option.map_some, Option.map_none, Option.bind_some, oEq_ss, oNe_ss, oEq_ii, oNe_ii, oAdd_ii, oSub_ii, ix_0, ix_1, ix_2, ix_k0, ix_n1, ix_p1, ix_p2, ix_e1, ix_e2, hd1, hd2, hd3, hd4, hd5, hd6, fin_rt, fin_nx, ret_d, if_true, if_false, Bool.false_eq_true, Bool.true_eq_false, Bool.not_true, Bool.not_false, beq_self_eq_true, decide_true, decide_false, true_and, and_true, lit0, lit1, lit2, lit3, lit4, lit5, lit6, lit7, lit8, lit9, lit10, wYes, oLt_ii, decide_eq_false w4, decide_eq_false w6, w66']
      exact go (.either (.pair (.name nm) (.name m)) sm) (by simp only [Kd.dep]; omega) (by simp only [Kd.parts]; omega) fun n h => (List.mem_append.mp h).elim (fun h => (List.mem_append.mp h).elim (own_n n) (oth_n n)) (s3 n)
    have w7' : (w == 7) = false := by simpa using w7
    simp only [wSeq, wIf, wRet, wRetN, wAsg, wExpr, wSkip, wBrk, wCnt, wVar, wC, wBin, wUn, wIfE, wT, wTr, wNot, wAnd, wOr, wAndV, wOrV, wChain, wBinS, wUnS, wOpN, wTup, wLst, wCons, wNil, wCall, wMs, wPar, wPar3, gN, gTupN, gCons, gNil, isD, isSt, isDc, optK_some, rd_d, rdS_d, frs_nil, frs_d, rds_nil, rds_d, on1, on2, asB_b, set0, setS, get0, getS, startE, List.map_cons, List.map_nil, List.length_cons, List.length_nil, List.replicate, List.cons_append, List.nil_append, List.append_nil, Option.map_some, Option.map_none, Option.bind_some, oEq_ss, oNe_ss, oEq_ii, oNe_ii, oAdd_ii, oSub_ii, ix_0, ix_1, ix_2, ix_k0, ix_n1, ix_p1, ix_p2, ix_e1, ix_e2, hd1, hd2, hd3, hd4, hd5, hd6, fin_rt, fin_nx, ret_d, if_true, if_false, Bool.false_eq_true, Bool.true_eq_false, Bool.not_true, Bool.not_false, beq_self_eq_true, decide_true, decide_false, true_and, and_true, lit0, lit1, lit2, lit3, lit4, lit5, lit6, lit7, lit8, lit9, lit10, wYes, oLt_ii, decide_eq_false w4, decide_eq_false w6, w66', w7']
    exact go (.pair (.name nm) sm) (by simp only [Kd.dep]; omega) (by simp only [Kd.parts]; omega) fun n h => (List.mem_append.mp h).elim (own_n n) (s3 n)
  by_cases hw1 : w = 1
  · subst hw1
    simp only [wSeq, wIf, wRet, wRetN, wAsg, wExpr, wSkip, wBrk, wCnt, wVar, wC, wBin, wUn, wIfE, wT, wTr, wNot, wAnd, wOr, wAndV, wOrV, wChain, wBinS, wUnS, wOpN, wTup, wLst, wCons, wNil, wCall, wMs, wPar, wPar3, gN, gTupN, gCons, gNil, isD, isSt, isDc, optK_some, rd_d, rdS_d, frs_nil, frs_d, rds_nil, rds_d, on1, on2, asB_b, set0, setS, get0, getS, startE, List.map_cons, List.map_nil, List.length_cons, List.length_nil, List.replicate, List.cons_append, List.nil_append, List.append_nil, Option.map_some, Option.map_none, Option.bind_some, oEq_ss, oNe_ss, oEq_ii, oNe_ii, oAdd_ii, oSub_ii, ix_0, ix_1, ix_2, ix_k0, ix_n1, ix_p1, ix_p2, ix_e1, ix_e2, hd1, hd2, hd3, hd4, hd5, hd6, fin_rt, fin_nx, ret_d, if_true, if_false, Bool.false_eq_true, Bool.true_eq_false, Bool.not_true, Bool.not_false, beq_self_eq_true, decide_true, decide_false, true_and, and_true, lit0, lit1, lit2, lit3, lit4, lit5, lit6, lit7, lit8, lit9, lit10, wYes]
    refine spS_go (t12.spr hs) ⟨2, rfl, by omega, by omega, rfl⟩ ?_
    rintro y st3 ⟨z, rfl, z0, z1⟩ t3
    obtain ⟨m2, hm2⟩ : ∃ m2 : Nat, (1 : Int) + 2 * z = m2 := ⟨(1 + 2 * z).toNat, by omega⟩
    simp only [wSeq, wIf, wRet, wRetN, wAsg, wExpr, wSkip, wBrk, wCnt, wVar, wC, wBin, wUn, wIfE, wT, wTr, wNot, wAnd, wOr, wAndV, wOrV, wChain, wBinS, wUnS, wOpN, wTup, wLst, wCons, wNil, wCall, wMs, wPar, wPar3, gN, gTupN, gCons, gNil, isD, isSt, isDc, optK_some, rd_d, rdS_d, frs_nil, frs_d, rds_nil, rds_d, on1, on2, asB_b, set0, setS, get0, getS, startE, List.map_cons, List.map_nil, List.length_cons, List.length_nil, List.replicate, List.cons_append, List.nil_append, List.append_nil, Option.map_some, Option.map_none, Option.bind_some, oEq_ss, oNe_ss, oEq_ii, oNe_ii, oAdd_ii, oSub_ii, ix_0, ix_1, ix_2, ix_k0, ix_n1, ix_p1, ix_p2, ix_e1, ix_e2, hd1, hd2, hd3, hd4, hd5, hd6, fin_rt, fin_nx, ret_d, if_true, if_false, Bool.false_eq_true, Bool.true_eq_false, Bool.not_true, Bool.not_false, beq_self_eq_true, decide_true, decide_false, true_and, and_true, lit0, lit1, lit2, lit3, lit4, lit5, lit6, lit7, lit8, lit9, lit10, wYes, mul2, hm2]
    have t13 := t12.trans t3
    refine spS_go (t13.spr hs) ⟨r, ns, m2, rfl, hr.to t13, hn, by omega, by omega, by omega, rfl⟩ ?_
    rintro y st4 ⟨k, rfl, k1, k2, k3⟩ t4
    exact cont k (by omega) (by omega) k3 st4 (t13.trans t4)
  · have hw1' : (w == 1) = false := by simpa using hw1
    simp only [wSeq, wIf, wRet, wRetN, wAsg, wExpr, wSkip, wBrk, wCnt, wVar, wC, wBin, wUn, wIfE, wT, wTr, wNot, wAnd, wOr, wAndV, wOrV, wChain, wBinS, wUnS, wOpN, wTup, wLst, wCons, wNil, wCall, wMs, wPar, wPar3, gN, gTupN, gCons, gNil, isD, isSt, isDc, optK_some, rd_d, rdS_d, frs_nil, frs_d, rds_nil, rds_d, on1, on2, asB_b, set0, setS, get0, getS, startE, List.map_cons, List.map_nil, List.length_cons, List.length_nil, List.replicate, List.cons_append, List.nil_append, List.append_nil, Option.map_some, Option.map_none, Option.bind_some, oEq_ss, oNe_ss, oEq_ii, oNe_ii, oAdd_ii, oSub_ii, ix_0, ix_1, ix_2, ix_k0, ix_n1, ix_p1, ix_p2, ix_e1, ix_e2, hd1, hd2, hd3, hd4, hd5, hd6, fin_rt, fin_nx, ret_d, if_true, if_false, Bool.false_eq_true, Bool.true_eq_false, Bool.not_true, Bool.not_false, beq_self_eq_true, decide_true, decide_false, true_and, and_true, lit0, lit1, lit2, lit3, lit4, lit5, lit6, lit7, lit8, lit9, lit10, wYes, hw1']
    refine spS_go (t12.spr hs) ⟨2, rfl, by omega, by omega, rfl⟩ ?_
    rintro y st3 ⟨z, rfl, z0, z1⟩ t3
    obtain ⟨m2, hm2⟩ : ∃ m2 : Nat, (1 : Int) + 2 * z = m2 := ⟨(1 + 2 * z).toNat, by omega⟩
    simp only [wSeq, wIf, wRet, wRetN, wAsg, wExpr, wSkip, wBrk, wCnt, wVar, wC, wBin, wUn, wIfE, wT, wTr, wNot, wAnd, wOr, wAndV, wOrV, wChain, wBinS, wUnS, wOpN, wTup, wLst, wCons, wNil, wCall, wMs, wPar, wPar3, gN, gTupN, gCons, gNil, isD, isSt, isDc, optK_some, rd_d, rdS_d, frs_nil, frs_d, rds_nil, rds_d, on1, on2, asB_b, set0, setS, get0, getS, startE, List.map_cons, List.map_nil, List.length_cons, List.length_nil, List.replicate, List.cons_append, List.nil_append, List.append_nil, Option.map_some, Option.map_none, Option.bind_some, oEq_ss, oNe_ss, oEq_ii, oNe_ii, oAdd_ii, oSub_ii, ix_0, ix_1, ix_2, ix_k0, ix_n1, ix_p1, ix_p2, ix_e1, ix_e2, hd1, hd2, hd3, hd4, hd5, hd6, fin_rt, fin_nx, ret_d, if_true, if_false, Bool.false_eq_true, Bool.true_eq_false, Bool.not_true, Bool.not_false, beq_self_eq_true, decide_true, decide_false, true_and, and_true, lit0, lit1, lit2, lit3, lit4, lit5, lit6, lit7, lit8, lit9, lit10, wYes, mul2, hm2]
    have t13 := t12.trans t3
    refine spS_go (t13.spr hs) ⟨.d (.list []), [], m2, rfl, .inl rfl, by decide, by omega, by omega, by omega, rfl⟩ ?_
    rintro y st4 ⟨k, rfl, k1, k2, k3⟩ t4
    exact cont k (by omega) (by omega) (fun n h => by have := k3 n h; simp at this) st4 (t13.trans t4)
end DL.K20
/-! text K20P16 -/
namespace DL.K20
open PySem DL
def pRi (st : Store) (i : Nat) (rest : List DV) (R : PyData → Prop) : Prop := rest = [] ∧ R = fun y => y = .bool true
def sp_law : SpD := fun args st Q E => ∃ ns : List Int, args = [.scr ns] ∧ ns.length ≤ 63 ∧ ∀ st', Q (.d (.bool true)) st'
theorem law_loop {ns : List Int} {E : EK} {D : DL.Fin} (hn : ns.length ≤ 63) (hq : ∀ e st, D.nx e st) : ∀ (xs : List Int) (v : Option DV) (st : Store), (∀ x ∈ xs, 0 ≤ x ∧ x ≤ 10) →
    forGo (gN 1) (wIf (wNot (wT (wCall (spS pRi) E (wCons (wCall sp_spring E (wCons (wVar 0) (wCons (wVar 1) wNil))) wNil)))) (wRet (wC (.bool false))) wSkip) D (xs.map fun x => .d (.int x)) [some (.scr ns), v] st
  | [], v, st, _ => hq _ _
  | x :: xs, v, st, h => by
    obtain ⟨h0, h1⟩ := h x (List.mem_cons_self ..)
    simp only [List.map_cons, forGo, wSeq, wIf, wRet, wRetN, wAsg, wExpr, wSkip, wBrk, wCnt, wVar, wC, wBin, wUn, wIfE, wT, wTr, wNot, wAnd, wOr, wAndV, wOrV, wChain, wBinS, wUnS, wOpN, wTup, wLst, wCons, wNil, wCall, wMs, wPar, wPar3, gN, gTupN, gCons, gNil, isD, isSt, isDc, optK_some, rd_d, rdS_d, frs_nil, frs_d, rds_nil, rds_d, on1, on2, asB_b, set0, setS, get0, getS, startE, List.map_cons, List.map_nil, List.length_cons, List.length_nil, List.replicate, List.cons_append, List.nil_append, List.append_nil, Option.map_some, Option.map_none, Option.bind_some, oEq_ss, oNe_ss, oEq_ii, oNe_ii, oAdd_ii, oSub_ii, ix_0, ix_1, ix_2, ix_k0, ix_n1, ix_p1, ix_p2, ix_e1, ix_e2, hd1, hd2, hd3, hd4, hd5, hd6, fin_rt, fin_nx, ret_d, if_true, if_false, Bool.false_eq_true, Bool.true_eq_false, Bool.not_true, Bool.not_false, beq_self_eq_true, decide_true, decide_false, true_and, and_true, lit0, lit1, lit2, lit3, lit4, lit5, lit6, lit7, lit8, lit9, lit10, wYes]
    refine ⟨ns, x, rfl, h0, h1, hn, fun a b c => ?_⟩
    have hs : Spr (st ++ [spr a b c]) st.length := ⟨a, b, c, by simp⟩
    refine spS_go hs ⟨rfl, rfl⟩ ?_
    rintro y st' rfl t
    simp only [wSeq, wIf, wRet, wRetN, wAsg, wExpr, wSkip, wBrk, wCnt, wVar, wC, wBin, wUn, wIfE, wT, wTr, wNot, wAnd, wOr, wAndV, wOrV, wChain, wBinS, wUnS, wOpN, wTup, wLst, wCons, wNil, wCall, wMs, wPar, wPar3, gN, gTupN, gCons, gNil, isD, isSt, isDc, optK_some, rd_d, rdS_d, frs_nil, frs_d, rds_nil, rds_d, on1, on2, asB_b, set0, setS, get0, getS, startE, List.map_cons, List.map_nil, List.length_cons, List.length_nil, List.replicate, List.cons_append, List.nil_append, List.append_nil, Option.map_some, Option.map_none, Option.bind_some, oEq_ss, oNe_ss, oEq_ii, oNe_ii, oAdd_ii, oSub_ii, ix_0, ix_1, ix_2, ix_k0, ix_n1, ix_p1, ix_p2, ix_e1, ix_e2, hd1, hd2, hd3, hd4, hd5, hd6, fin_rt, fin_nx, ret_d, if_true, if_false, Bool.false_eq_true, Bool.true_eq_false, Bool.not_true, Bool.not_false, beq_self_eq_true, decide_true, decide_false, true_and, and_true, lit0, lit1, lit2, lit3, lit4, lit5, lit6, lit7, lit8, lit9, lit10, wYes]
    exact law_loop hn hq xs _ st' fun z hz => h z (List.mem_cons_of_mem _ hz)
theorem keeps_law : Keeps 2 sp_law (b_law (spS pRi) sp_spring) := by
  rintro args st Q E ⟨ns, rfl, hn, q⟩
  unfold b_law
  refine seq_intro fun N hN => ?_
  have e1 : oLen (.list (ns.map .int)) = some (.int (ns.length : Nat)) := by
    show some (PyData.int ((ns.map PyData.int).length : Nat)) = _
    rw [List.length_map]
  have erd : rdS st (.scr ns) = some (.list (ns.map .int)) := rfl
  have e2 : ∀ i j : Int, oMin (.int i) (.int j) = some (.int (if j < i then j else i)) := fun _ _ => rfl
  have e3 : ∀ i j : Int, oMax (.int i) (.int j) = some (.int (if j > i then j else i)) := fun _ _ => rfl
  simp only [wFor, iRng1D, wSeq, wIf, wRet, wRetN, wAsg, wExpr, wSkip, wBrk, wCnt, wVar, wC, wBin, wUn, wIfE, wT, wTr, wNot, wAnd, wOr, wAndV, wOrV, wChain, wBinS, wUnS, wOpN, wTup, wLst, wCons, wNil, wCall, wMs, wPar, wPar3, gN, gTupN, gCons, gNil, isD, isSt, isDc, optK_some, rd_d, rdS_d, frs_nil, frs_d, rds_nil, rds_d, on1, on2, asB_b, set0, setS, get0, getS, startE, List.map_cons, List.map_nil, List.length_cons, List.length_nil, List.replicate, List.cons_append, List.nil_append, List.append_nil, Option.map_some, Option.map_none, Option.bind_some, oEq_ss, oNe_ss, oEq_ii, oNe_ii, oAdd_ii, oSub_ii, ix_0, ix_1, ix_2, ix_k0, ix_n1, ix_p1, ix_p2, ix_e1, ix_e2, hd1, hd2, hd3, hd4, hd5, hd6, fin_rt, fin_nx, ret_d, if_true, if_false, Bool.false_eq_true, Bool.true_eq_false, Bool.not_true, Bool.not_false, beq_self_eq_true, decide_true, decide_false, true_and, and_true, lit0, lit1, lit2, lit3, lit4, lit5, lit6, lit7, lit8, lit9, lit10, wYes, erd, e1, e2, e3, asI]
  generalize hk : (if (if (2 : Int) < ((ns.length : Nat) : Int) then (2 : Int) else ((ns.length : Nat) : Int)) > 1 then (if (2 : Int) < ((ns.length : Nat) : Int) then (2 : Int) else ((ns.length : Nat) : Int)) else 1) = kk
  have hb : 1 ≤ kk ∧ kk ≤ 2 := by
    subst hk
    split <;> split <;> omega
  refine ⟨⟨by omega, by omega⟩, lim_of (by omega), ?_⟩
  have er : rngL 0 kk.toNat = ((List.range kk.toNat).map fun (i : Nat) => (0 : Int) + (i : Int)).map fun x => DV.d (.int x) := by
    unfold rngL
    rw [List.map_map]
    rfl
  rw [er]
  refine law_loop hn (fun e st' => ?_) _ none st fun x hx => ?_
  · show N e st'
    rw [hN]
    simp only [wSeq, wIf, wRet, wRetN, wAsg, wExpr, wSkip, wBrk, wCnt, wVar, wC, wBin, wUn, wIfE, wT, wTr, wNot, wAnd, wOr, wAndV, wOrV, wChain, wBinS, wUnS, wOpN, wTup, wLst, wCons, wNil, wCall, wMs, wPar, wPar3, gN, gTupN, gCons, gNil, isD, isSt, isDc, optK_some, rd_d, rdS_d, frs_nil, frs_d, rds_nil, rds_d, on1, on2, asB_b, set0, setS, get0, getS, startE, List.map_cons, List.map_nil, List.length_cons, List.length_nil, List.replicate, List.cons_append, List.nil_append, List.append_nil, Option.map_some, Option.map_none, Option.bind_some, oEq_ss, oNe_ss, oEq_ii, oNe_ii, oAdd_ii, oSub_ii, ix_0, ix_1, ix_2, ix_k0, ix_n1, ix_p1, ix_p2, ix_e1, ix_e2, hd1, hd2, hd3, hd4, hd5, hd6, fin_rt, fin_nx, ret_d, if_true, if_false, Bool.false_eq_true, Bool.true_eq_false, Bool.not_true, Bool.not_false, beq_self_eq_true, decide_true, decide_false, true_and, and_true, lit0, lit1, lit2, lit3, lit4, lit5, lit6, lit7, lit8, lit9, lit10, wYes, ret_tk]
    exact q _
  · obtain ⟨n, hn', rfl⟩ := List.mem_map.mp hx
    have := List.mem_range.mp hn'
    omega
end DL.K20
/-! text K20P17 -/
namespace DL.K20
open PySem DL
/-! ### a new name -/
def pNe (st : Store) (i : Nat) (rest : List DV) (R : PyData → Prop) : Prop := ∃ (r : DV) (ns : List Str), rest = [r] ∧ LsAt st i r (ns.map .str) ∧ (∀ n ∈ ns, wname n) ∧ ns.length ≤ 3 ∧
  R = fun y => ∃ s, y = .str s ∧ wname s ∧ s ∉ ns
/-- a name of at most so many signs -/
def wn (k : Nat) (s : Str) : Prop := ∃ c r, s.cps.toList = c :: r ∧ 65 ≤ c ∧ c ≤ 90 ∧ (∀ x ∈ r, sign2 x) ∧ r.length ≤ k
theorem wn_wname {s : Str} (h : wn 7 s) : wname s := h
theorem wn_mono {k l : Nat} {s : Str} (h : wn k s) (hk : k ≤ l) : wn l s := let ⟨c, r, a, b, d, e, f⟩ := h; ⟨c, r, a, b, d, e, Nat.le_trans f hk⟩
theorem wn_len {k : Nat} {s : Str} (h : wn k s) : s.length ≤ k + 1 := by
  obtain ⟨c, r, e, _, _, _, h⟩ := h
  rw [len_cps, e]
  simp
  omega
theorem caps_at (k : Nat) (hk : k < 26) : ("ABCDEFGHIJKLMNOPQRSTUVWXYZ" : Str).cps.toList[k]? = some (65 + k) := by
  match k, hk with
  | 0, _ | 1, _ | 2, _ | 3, _ | 4, _ | 5, _ | 6, _ | 7, _ | 8, _ | 9, _ | 10, _ | 11, _ | 12, _ | 13, _ | 14, _ | 15, _ | 16, _ | 17, _ | 18, _ | 19, _ | 20, _ | 21, _ | 22, _ | 23, _ | 24, _ | 25, _ => rfl
  | n + 26, h => omega
theorem tails_at (k : Nat) (hk : k < 36) : ∃ c, ("abcdefghijklmnopqrstuvwxyz0123456789" : Str).cps.toList[k]? = some c ∧ sign2 c := by
  match k, hk with
  | 0, _ => exact ⟨97, rfl, .inl ⟨by decide, by decide⟩⟩
  | 1, _ => exact ⟨98, rfl, .inl ⟨by decide, by decide⟩⟩
  | 2, _ => exact ⟨99, rfl, .inl ⟨by decide, by decide⟩⟩
  | 3, _ => exact ⟨100, rfl, .inl ⟨by decide, by decide⟩⟩
  | 4, _ => exact ⟨101, rfl, .inl ⟨by decide, by decide⟩⟩
  | 5, _ => exact ⟨102, rfl, .inl ⟨by decide, by decide⟩⟩
  | 6, _ => exact ⟨103, rfl, .inl ⟨by decide, by decide⟩⟩
  | 7, _ => exact ⟨104, rfl, .inl ⟨by decide, by decide⟩⟩
  | 8, _ => exact ⟨105, rfl, .inl ⟨by decide, by decide⟩⟩
  | 9, _ => exact ⟨106, rfl, .inl ⟨by decide, by decide⟩⟩
  | 10, _ => exact ⟨107, rfl, .inl ⟨by decide, by decide⟩⟩
  | 11, _ => exact ⟨108, rfl, .inl ⟨by decide, by decide⟩⟩
  | 12, _ => exact ⟨109, rfl, .inl ⟨by decide, by decide⟩⟩
  | 13, _ => exact ⟨110, rfl, .inl ⟨by decide, by decide⟩⟩
  | 14, _ => exact ⟨111, rfl, .inl ⟨by decide, by decide⟩⟩
  | 15, _ => exact ⟨112, rfl, .inl ⟨by decide, by decide⟩⟩
  | 16, _ => exact ⟨113, rfl, .inl ⟨by decide, by decide⟩⟩
  | 17, _ => exact ⟨114, rfl, .inl ⟨by decide, by decide⟩⟩
  | 18, _ => exact ⟨115, rfl, .inl ⟨by decide, by decide⟩⟩
  | 19, _ => exact ⟨116, rfl, .inl ⟨by decide, by decide⟩⟩
  | 20, _ => exact ⟨117, rfl, .inl ⟨by decide, by decide⟩⟩
  | 21, _ => exact ⟨118, rfl, .inl ⟨by decide, by decide⟩⟩
  | 22, _ => exact ⟨119, rfl, .inl ⟨by decide, by decide⟩⟩
  | 23, _ => exact ⟨120, rfl, .inl ⟨by decide, by decide⟩⟩
  | 24, _ => exact ⟨121, rfl, .inl ⟨by decide, by decide⟩⟩
  | 25, _ => exact ⟨122, rfl, .inl ⟨by decide, by decide⟩⟩
  | 26, _ => exact ⟨48, rfl, .inr ⟨by decide, by decide⟩⟩
  | 27, _ => exact ⟨49, rfl, .inr ⟨by decide, by decide⟩⟩
  | 28, _ => exact ⟨50, rfl, .inr ⟨by decide, by decide⟩⟩
  | 29, _ => exact ⟨51, rfl, .inr ⟨by decide, by decide⟩⟩
  | 30, _ => exact ⟨52, rfl, .inr ⟨by decide, by decide⟩⟩
  | 31, _ => exact ⟨53, rfl, .inr ⟨by decide, by decide⟩⟩
  | 32, _ => exact ⟨54, rfl, .inr ⟨by decide, by decide⟩⟩
  | 33, _ => exact ⟨55, rfl, .inr ⟨by decide, by decide⟩⟩
  | 34, _ => exact ⟨56, rfl, .inr ⟨by decide, by decide⟩⟩
  | 35, _ => exact ⟨57, rfl, .inr ⟨by decide, by decide⟩⟩
  | n + 36, h => omega
theorem ix_caps (k : Int) (h0 : 0 ≤ k) (h1 : k < 26) : ∃ c, oIx (.str "ABCDEFGHIJKLMNOPQRSTUVWXYZ") (.int k) = some (.str ⟨#[c]⟩) ∧ 65 ≤ c ∧ c ≤ 90 := by
  obtain ⟨n, rfl⟩ : ∃ n : Nat, k = n := ⟨k.toNat, by omega⟩
  refine ⟨65 + n, ?_, by omega, by omega⟩
  show (if ("ABCDEFGHIJKLMNOPQRSTUVWXYZ" : Str).length ≤ lim then (L2.atI ("ABCDEFGHIJKLMNOPQRSTUVWXYZ" : Str).cps.toList ((n : Nat) : Int)).map fun c => PyData.str ⟨#[c]⟩ else none) = _
  rw [if_pos (by decide), L2.atI_nat (caps_at n (by omega))]
  rfl
theorem ix_tails (k : Int) (h0 : 0 ≤ k) (h1 : k < 36) : ∃ c, oIx (.str "abcdefghijklmnopqrstuvwxyz0123456789") (.int k) = some (.str ⟨#[c]⟩) ∧ sign2 c := by
  obtain ⟨n, rfl⟩ : ∃ n : Nat, k = n := ⟨k.toNat, by omega⟩
  obtain ⟨c, e, hc⟩ := tails_at n (by omega)
  refine ⟨c, ?_, hc⟩
  show (if ("abcdefghijklmnopqrstuvwxyz0123456789" : Str).length ≤ lim then (L2.atI ("abcdefghijklmnopqrstuvwxyz0123456789" : Str).cps.toList ((n : Nat) : Int)).map fun c => PyData.str ⟨#[c]⟩ else none) = _
  rw [if_pos (by decide), L2.atI_nat e]
  rfl
theorem wn_snoc {k : Nat} {s : Str} {c : Nat} (h : wn k s) (hc : sign2 c) : wn (k + 1) (s ++ ⟨#[c]⟩) := by
  obtain ⟨a, r, e, h1, h2, h3, h4⟩ := h
  refine ⟨a, r ++ [c], by rw [str_app, e]; rfl, h1, h2, fun x hx => ?_, by simp; exact h4⟩
  rcases List.mem_append.mp hx with hx | hx
  · exact h3 x hx
  · simp at hx; subst hx; exact hc
end DL.K20
/-! text K20P18 -/
namespace DL.K20
open PySem DL
theorem nm_loop {E : EK} {D : DL.Fin} {i : Nat} {r v4 v6 : Option DV} {st0 : Store} (hs : Spr st0 i) : ∀ (xs : List DV) (s : Str) (k : Nat) (st : Store) (v5 : Option DV), wn k s → k + xs.length ≤ 1000 → SpTo st0 i st →
    (∀ s' v5 st', wn (k + xs.length) s' → SpTo st0 i st' → D.nx [some (.loc i), r, some (.d (.str s')), some (.d (.str "abcdefghijklmnopqrstuvwxyz0123456789")), v4, v5, v6] st') → xs.length ≤ 1000 →
    forGo (gN 5) (wAsg (wBin oAdd (wVar 2) (wBinS oIx (wVar 3) (wCall (spS pDr) E (wCons (wVar 0) (wCons (wC (.int 36)) wNil))))) (gN 2)) D xs [some (.loc i), r, some (.d (.str s)), some (.d (.str "abcdefghijklmnopqrstuvwxyz0123456789")), v4, v5, v6] st
  | [], s, k, st, v5, hw, _, t, q, _ => q s v5 st (by simpa using hw) t
  | x :: xs, s, k, st, v5, hw, hk, t, q, hl => by
    simp only [List.length_cons] at hl q
    simp only [forGo, wSeq, wIf, wRet, wRetN, wAsg, wExpr, wSkip, wBrk, wCnt, wVar, wC, wBin, wUn, wIfE, wT, wTr, wNot, wAnd, wOr, wAndV, wOrV, wChain, wBinS, wUnS, wOpN, wTup, wLst, wCons, wNil, wCall, wMs, wPar, wPar3, gN, gTupN, gCons, gNil, isD, isSt, isDc, optK_some, rd_d, rdS_d, frs_nil, frs_d, rds_nil, rds_d, on1, on2, asB_b, set0, setS, get0, getS, startE, List.map_cons, List.map_nil, List.length_cons, List.length_nil, List.replicate, List.cons_append, List.nil_append, List.append_nil, Option.map_some, Option.map_none, Option.bind_some, oEq_ss, oNe_ss, oEq_ii, oNe_ii, oAdd_ii, oSub_ii, ix_0, ix_1, ix_2, ix_k0, ix_n1, ix_p1, ix_p2, ix_e1, ix_e2, hd1, hd2, hd3, hd4, hd5, hd6, fin_rt, fin_nx, ret_d, if_true, if_false, Bool.false_eq_true, Bool.true_eq_false, Bool.not_true, Bool.not_false, beq_self_eq_true, decide_true, decide_false, true_and, and_true, lit0, lit1, lit2, lit3, lit4, lit5, lit6, lit7, lit8, lit9, lit10, wYes]
    refine spS_go (t.spr hs) ⟨36, rfl, by omega, by omega, rfl⟩ ?_
    rintro y st1 ⟨z, rfl, z0, z1⟩ t1
    obtain ⟨c, e, hc⟩ := ix_tails z z0 z1
    have hl2 : s.length + (⟨#[c]⟩ : Str).length ≤ lim := lim_of (by have := wn_len hw; show s.length + 1 ≤ 10000000; omega)
    simp only [wSeq, wIf, wRet, wRetN, wAsg, wExpr, wSkip, wBrk, wCnt, wVar, wC, wBin, wUn, wIfE, wT, wTr, wNot, wAnd, wOr, wAndV, wOrV, wChain, wBinS, wUnS, wOpN, wTup, wLst, wCons, wNil, wCall, wMs, wPar, wPar3, gN, gTupN, gCons, gNil, isD, isSt, isDc, optK_some, rd_d, rdS_d, frs_nil, frs_d, rds_nil, rds_d, on1, on2, asB_b, set0, setS, get0, getS, startE, List.map_cons, List.map_nil, List.length_cons, List.length_nil, List.replicate, List.cons_append, List.nil_append, List.append_nil, Option.map_some, Option.map_none, Option.bind_some, oEq_ss, oNe_ss, oEq_ii, oNe_ii, oAdd_ii, oSub_ii, ix_0, ix_1, ix_2, ix_k0, ix_n1, ix_p1, ix_p2, ix_e1, ix_e2, hd1, hd2, hd3, hd4, hd5, hd6, fin_rt, fin_nx, ret_d, if_true, if_false, Bool.false_eq_true, Bool.true_eq_false, Bool.not_true, Bool.not_false, beq_self_eq_true, decide_true, decide_false, true_and, and_true, lit0, lit1, lit2, lit3, lit4, lit5, lit6, lit7, lit8, lit9, lit10, wYes, e, oAdd_ss hl2]
    refine nm_loop hs xs _ (k + 1) st1 _ (wn_snoc hw hc) (by simp only [List.length_cons] at hk; omega) (t.trans t1) (fun s' v5 st' h t' => q s' v5 st' ?_ t') (by omega)
    rw [show k + (xs.length + 1) = k + 1 + xs.length by omega]
    exact h
end DL.K20
/-! text K20P19 -/
namespace DL.K20
open PySem DL
theorem nodup_len : ∀ (U T : List Str), U.Nodup → (∀ u ∈ U, u ∈ T) → U.length ≤ T.length
  | [], _, _, _ => Nat.zero_le _
  | u :: U, T, h, hs => by
    have h' : u ∉ U ∧ U.Nodup := by simpa using h
    have hu := hs u (List.mem_cons_self ..)
    have := nodup_len U (T.erase u) h'.2 fun v hv => by
      have hne : v ≠ u := fun e => h'.1 (by rw [← e]; exact hv)
      exact (List.mem_erase_of_ne hne).mpr (hs v (List.mem_cons_of_mem _ hv))
    rw [List.length_erase_of_mem hu] at this
    have hp : 0 < T.length := List.length_pos_of_mem hu
    simp only [List.length_cons]
    omega
theorem in_names (s : Str) (ns : List Str) : oIn (.str s) (.list (ns.map .str)) = some (.bool (decide (s ∈ ns))) := by
  have hp : PyData.plainAll (ns.map PyData.str) = true := by
    induction ns with
    | nil => simp [PyData.plainAll]
    | cons n ns ih => simp [PyData.plainAll, PyData.plain, ih]
  have hd : PyData.depthAll (ns.map PyData.str) = 0 := by
    clear hp
    induction ns with
    | nil => simp [PyData.depthAll]
    | cons n ns ih => simp [PyData.depthAll, PyData.depth, ih]
  have hk : DL.okIn (.str s) (ns.map PyData.str) = true := by
    unfold DL.okIn
    rw [hp, hd]
    simp [PyData.plain]
  have : oIn (.str s) (.list (ns.map .str)) = if DL.okIn (.str s) (ns.map PyData.str) = true then some (.bool ((ns.map PyData.str).any fun z => PyData.eqv z (.str s))) else none := rfl
  rw [this, if_pos hk]
  congr 2
  rw [Bool.eq_iff_iff, List.any_eq_true, decide_eq_true_eq]
  constructor
  · rintro ⟨x, hx, e⟩
    obtain ⟨n, hn, rfl⟩ := List.mem_map.mp hx
    rw [Kd.e_ss] at e
    have : n = s := by simpa using e
    exact this ▸ hn
  · intro h
    exact ⟨.str s, List.mem_map.mpr ⟨s, h, rfl⟩, by rw [Kd.e_ss]; simp⟩
end DL.K20
/-! text K20P20 -/
namespace DL.K20
open PySem DL
/-- the variant of a name by another first sign -/
def vr (t : List Nat) (x : Nat) : Str := (⟨#[x]⟩ : Str) ++ (⟨t.toArray⟩ : Str)
theorem vr_cps (t : List Nat) (x : Nat) : (vr t x).cps.toList = x :: t := by
  unfold vr
  rw [str_app]
  simp
theorem vr_inj {t : List Nat} {x y : Nat} (h : vr t x = vr t y) : x = y := by
  have := congrArg (fun z : Str => z.cps.toList) h
  simp only [vr_cps] at this
  simpa using this
theorem vr_loop {D : DL.Fin} {i : Nat} {v3 v4 v5 : Option DV} {st : Store} {rr : DV} {ns : List Str} {t : List Nat} (hr : LsAt st i rr (ns.map .str)) (ht : t.length ≤ 7) : ∀ (xs dn : List Nat) (s : Str) (c : Nat) (v6 : Option DV), s.cps.toList = c :: t → (65 ≤ c ∧ c ≤ 90) → (∀ x ∈ xs, 65 ≤ x ∧ x ≤ 90) → (s ∈ ns → ∀ x ∈ dn, vr t x ∈ ns) →
    (∀ s c v6, s.cps.toList = c :: t → (65 ≤ c ∧ c ≤ 90) → (s ∈ ns → ∀ x ∈ dn ++ xs, vr t x ∈ ns) → D.nx [some (.loc i), some rr, some (.d (.str s)), v3, v4, v5, v6] st) →
    forGo (gN 6) (wIf (wT (wBin oIn (wVar 2) (wVar 1))) (wAsg (wBin oAdd (wVar 6) (wSl oSl (wVar 2) (wOS (wC (.int 1))) wON)) (gN 2)) wSkip) D (xs.map fun c => DV.d (.str ⟨#[c]⟩)) [some (.loc i), some rr, some (.d (.str s)), v3, v4, v5, v6] st
  | [], dn, s, c, v6, e, hc, _, h, q => q s c v6 e hc (by simpa using h)
  | x :: xs, dn, s, c, v6, e, hc, hx, h, q => by
    have hxx := hx x (List.mem_cons_self ..)
    have hl : s.length ≤ 10000000 := by
      rw [len_cps, e]
      simp only [List.length_cons]
      omega
    have hsl := sl_s1 e hl
    simp only [List.map_cons, forGo, wSeq, wIf, wRet, wRetN, wAsg, wExpr, wSkip, wBrk, wCnt, wVar, wC, wBin, wUn, wIfE, wT, wTr, wNot, wAnd, wOr, wAndV, wOrV, wChain, wBinS, wUnS, wOpN, wTup, wLst, wCons, wNil, wCall, wMs, wPar, wPar3, gN, gTupN, gCons, gNil, isD, isSt, isDc, optK_some, rd_d, rdS_d, frs_nil, frs_d, rds_nil, rds_d, on1, on2, asB_b, set0, setS, get0, getS, startE, List.map_cons, List.map_nil, List.length_cons, List.length_nil, List.replicate, List.cons_append, List.nil_append, List.append_nil, Option.map_some, Option.map_none, Option.bind_some, oEq_ss, oNe_ss, oEq_ii, oNe_ii, oAdd_ii, oSub_ii, ix_0, ix_1, ix_2, ix_k0, ix_n1, ix_p1, ix_p2, ix_e1, ix_e2, hd1, hd2, hd3, hd4, hd5, hd6, fin_rt, fin_nx, ret_d, if_true, if_false, Bool.false_eq_true, Bool.true_eq_false, Bool.not_true, Bool.not_false, beq_self_eq_true, decide_true, decide_false, true_and, and_true, lit0, lit1, lit2, lit3, lit4, lit5, lit6, lit7, lit8, lit9, lit10, wYes, hr.rd, in_names]
    by_cases hs : s ∈ ns
    · have hl2 : (⟨#[x]⟩ : Str).length + (⟨t.toArray⟩ : Str).length ≤ lim := lim_of (by
        have : (⟨t.toArray⟩ : Str).length = t.length := by simp [Str.length]
        rw [this]
        show 1 + t.length ≤ 10000000
        omega)
      simp only [decide_eq_true hs, wSeq, wIf, wRet, wRetN, wAsg, wExpr, wSkip, wBrk, wCnt, wVar, wC, wBin, wUn, wIfE, wT, wTr, wNot, wAnd, wOr, wAndV, wOrV, wChain, wBinS, wUnS, wOpN, wTup, wLst, wCons, wNil, wCall, wMs, wPar, wPar3, gN, gTupN, gCons, gNil, isD, isSt, isDc, optK_some, rd_d, rdS_d, frs_nil, frs_d, rds_nil, rds_d, on1, on2, asB_b, set0, setS, get0, getS, startE, List.map_cons, List.map_nil, List.length_cons, List.length_nil, List.replicate, List.cons_append, List.nil_append, List.append_nil, Option.map_some, Option.map_none, Option.bind_some, oEq_ss, oNe_ss, oEq_ii, oNe_ii, oAdd_ii, oSub_ii, ix_0, ix_1, ix_2, ix_k0, ix_n1, ix_p1, ix_p2, ix_e1, ix_e2, hd1, hd2, hd3, hd4, hd5, hd6, fin_rt, fin_nx, ret_d, if_true, if_false, Bool.false_eq_true, Bool.true_eq_false, Bool.not_true, Bool.not_false, beq_self_eq_true, decide_true, decide_false, true_and, and_true, lit0, lit1, lit2, lit3, lit4, lit5, lit6, lit7, lit8, lit9, lit10, wYes, wSl, wOS, wON, rdS_d, hsl, asI, oAdd_ss hl2]
      refine vr_loop hr ht xs (dn ++ [x]) (vr t x) x _ (vr_cps t x) hxx (fun y hy => hx y (List.mem_cons_of_mem _ hy)) (fun hv y hy => ?_) (fun s c v6 e hc h => q s c v6 e hc (fun z y hy => h z y (by simpa using hy)))
      rcases List.mem_append.mp hy with hy | hy
      · exact h hs y hy
      · simp at hy; subst hy; exact hv
    · simp only [decide_eq_false hs, wSeq, wIf, wRet, wRetN, wAsg, wExpr, wSkip, wBrk, wCnt, wVar, wC, wBin, wUn, wIfE, wT, wTr, wNot, wAnd, wOr, wAndV, wOrV, wChain, wBinS, wUnS, wOpN, wTup, wLst, wCons, wNil, wCall, wMs, wPar, wPar3, gN, gTupN, gCons, gNil, isD, isSt, isDc, optK_some, rd_d, rdS_d, frs_nil, frs_d, rds_nil, rds_d, on1, on2, asB_b, set0, setS, get0, getS, startE, List.map_cons, List.map_nil, List.length_cons, List.length_nil, List.replicate, List.cons_append, List.nil_append, List.append_nil, Option.map_some, Option.map_none, Option.bind_some, oEq_ss, oNe_ss, oEq_ii, oNe_ii, oAdd_ii, oSub_ii, ix_0, ix_1, ix_2, ix_k0, ix_n1, ix_p1, ix_p2, ix_e1, ix_e2, hd1, hd2, hd3, hd4, hd5, hd6, fin_rt, fin_nx, ret_d, if_true, if_false, Bool.false_eq_true, Bool.true_eq_false, Bool.not_true, Bool.not_false, beq_self_eq_true, decide_true, decide_false, true_and, and_true, lit0, lit1, lit2, lit3, lit4, lit5, lit6, lit7, lit8, lit9, lit10, wYes]
      refine vr_loop hr ht xs (dn ++ [x]) s c _ e hc (fun y hy => hx y (List.mem_cons_of_mem _ hy)) (fun hv => absurd hv hs) (fun s c v6 e hc h => q s c v6 e hc (fun z y hy => h z y (by simpa using hy)))
theorem sl_7 {z : Str} (h : wname z) : ∃ s, oSl (.str z) none (some 7) = some (.str s) ∧ wn 6 s := by
  obtain ⟨c, r, e, h1, h2, h3, h4⟩ := h
  have hl : z.length = r.length + 1 := by rw [len_cps, e]; rfl
  refine ⟨L2.cutS z none (some 7), ?_, c, r.take 6, ?_, h1, h2, fun x hx => h3 x (List.mem_of_mem_take hx), by rw [List.length_take]; omega⟩
  · show (if z.length ≤ lim then some (PyData.str (L2.cutS z none (some 7))) else none) = _
    rw [if_pos (lim_of (by omega))]
  · unfold L2.cutS
    rw [HT.sIx_none, show HT.sIx z.length z.length (some 7) = min 7 z.length from HT.sIx_nat z.length z.length 7, e, hl]
    simp only [List.drop_zero, Nat.sub_zero]
    by_cases hr : r.length ≤ 6
    · have e1 : min 7 (r.length + 1) = r.length + 1 := by omega
      rw [e1, List.take_succ_cons, List.take_of_length_le (Nat.le_refl _), List.take_of_length_le hr]
    · have e1 : min 7 (r.length + 1) = 6 + 1 := by omega
      rw [e1, List.take_succ_cons]
def abc : List Nat := [65, 66, 67, 68, 69, 70]
theorem keeps_law_name : Keeps 7 (spS pNe) (b_law_name (spS pDr)) := by
  rintro args st Q E ⟨i, rest, R, rfl, hs, ⟨r, ns, rfl, hr, hw, hn, rfl⟩, q⟩
  unfold b_law_name
  refine seq_intro fun N hN => ?_
  unfold wPar
  simp only [wSeq, wIf, wRet, wRetN, wAsg, wExpr, wSkip, wBrk, wCnt, wVar, wC, wBin, wUn, wIfE, wT, wTr, wNot, wAnd, wOr, wAndV, wOrV, wChain, wBinS, wUnS, wOpN, wTup, wLst, wCons, wNil, wCall, wMs, wPar, wPar3, gN, gTupN, gCons, gNil, isD, isSt, isDc, optK_some, rd_d, rdS_d, frs_nil, frs_d, rds_nil, rds_d, on1, on2, asB_b, set0, setS, get0, getS, startE, List.map_cons, List.map_nil, List.length_cons, List.length_nil, List.replicate, List.cons_append, List.nil_append, List.append_nil, Option.map_some, Option.map_none, Option.bind_some, oEq_ss, oNe_ss, oEq_ii, oNe_ii, oAdd_ii, oSub_ii, ix_0, ix_1, ix_2, ix_k0, ix_n1, ix_p1, ix_p2, ix_e1, ix_e2, hd1, hd2, hd3, hd4, hd5, hd6, fin_rt, fin_nx, ret_d, if_true, if_false, Bool.false_eq_true, Bool.true_eq_false, Bool.not_true, Bool.not_false, beq_self_eq_true, decide_true, decide_false, true_and, and_true, lit0, lit1, lit2, lit3, lit4, lit5, lit6, lit7, lit8, lit9, lit10, wYes]
  refine spS_go hs ⟨26, rfl, by omega, by omega, rfl⟩ ?_
  rintro y st1 ⟨z, rfl, z0, z1⟩ t1
  obtain ⟨c, e, c1, c2⟩ := ix_caps z z0 z1
  simp only [wSeq, wIf, wRet, wRetN, wAsg, wExpr, wSkip, wBrk, wCnt, wVar, wC, wBin, wUn, wIfE, wT, wTr, wNot, wAnd, wOr, wAndV, wOrV, wChain, wBinS, wUnS, wOpN, wTup, wLst, wCons, wNil, wCall, wMs, wPar, wPar3, gN, gTupN, gCons, gNil, isD, isSt, isDc, optK_some, rd_d, rdS_d, frs_nil, frs_d, rds_nil, rds_d, on1, on2, asB_b, set0, setS, get0, getS, startE, List.map_cons, List.map_nil, List.length_cons, List.length_nil, List.replicate, List.cons_append, List.nil_append, List.append_nil, Option.map_some, Option.map_none, Option.bind_some, oEq_ss, oNe_ss, oEq_ii, oNe_ii, oAdd_ii, oSub_ii, ix_0, ix_1, ix_2, ix_k0, ix_n1, ix_p1, ix_p2, ix_e1, ix_e2, hd1, hd2, hd3, hd4, hd5, hd6, fin_rt, fin_nx, ret_d, if_true, if_false, Bool.false_eq_true, Bool.true_eq_false, Bool.not_true, Bool.not_false, beq_self_eq_true, decide_true, decide_false, true_and, and_true, lit0, lit1, lit2, lit3, lit4, lit5, lit6, lit7, lit8, lit9, lit10, wYes, e]
  rw [hN]
  refine seq_intro fun N hN => ?_
  have wc : wn 0 (⟨#[c]⟩ : Str) := ⟨c, [], rfl, c1, c2, fun x hx => by simp at hx, Nat.le_refl _⟩
  have cont : ∀ (k : Int) (st2 : Store), 0 ≤ k → k < 8 → SpTo st i st2 → N [some (.loc i), some r, some (.d (.str ⟨#[c]⟩)), some (.d (.str "abcdefghijklmnopqrstuvwxyz0123456789")), some (.d (.int k)), none, none] st2 := by
    intro k st2 k0 k1 t2
    rw [hN]
    refine seq_intro fun N hN => ?_
    have cont2 : ∀ (s : Str) (a m : Nat) (st3 : Store), wn a s → a + m ≤ 7 → SpTo st i st3 → N [some (.loc i), some r, some (.d (.str s)), some (.d (.str "abcdefghijklmnopqrstuvwxyz0123456789")), some (.d (.int (m : Nat))), none, none] st3 := by
      intro s a m st3 hs3 ham t3
      rw [hN]
      refine seq_intro fun N hN => ?_
      simp only [wFor, iRng1D, wSeq, wIf, wRet, wRetN, wAsg, wExpr, wSkip, wBrk, wCnt, wVar, wC, wBin, wUn, wIfE, wT, wTr, wNot, wAnd, wOr, wAndV, wOrV, wChain, wBinS, wUnS, wOpN, wTup, wLst, wCons, wNil, wCall, wMs, wPar, wPar3, gN, gTupN, gCons, gNil, isD, isSt, isDc, optK_some, rd_d, rdS_d, frs_nil, frs_d, rds_nil, rds_d, on1, on2, asB_b, set0, setS, get0, getS, startE, List.map_cons, List.map_nil, List.length_cons, List.length_nil, List.replicate, List.cons_append, List.nil_append, List.append_nil, Option.map_some, Option.map_none, Option.bind_some, oEq_ss, oNe_ss, oEq_ii, oNe_ii, oAdd_ii, oSub_ii, ix_0, ix_1, ix_2, ix_k0, ix_n1, ix_p1, ix_p2, ix_e1, ix_e2, hd1, hd2, hd3, hd4, hd5, hd6, fin_rt, fin_nx, ret_d, if_true, if_false, Bool.false_eq_true, Bool.true_eq_false, Bool.not_true, Bool.not_false, beq_self_eq_true, decide_true, decide_false, true_and, and_true, lit0, lit1, lit2, lit3, lit4, lit5, lit6, lit7, lit8, lit9, lit10, wYes, asI]
      refine ⟨⟨by omega, by omega⟩, lim_of (by omega), ?_⟩
      have hlen : (rngL 0 ((m : Nat) : Int).toNat).length = m := by
        unfold rngL
        simp
      refine nm_loop hs (rngL 0 ((m : Nat) : Int).toNat) s a st3 none hs3 (by rw [hlen]; omega) t3 ?_ (by rw [hlen]; omega)
      intro s' v5 st4 h4 t4
      show N _ _
      rw [hN]
      rw [hlen] at h4
      refine seq_intro fun N hN => ?_
      obtain ⟨c', t', e', c1', c2', t1', t2'⟩ := wn_mono h4 ham
      simp only [wFor, iStrD, wSeq, wIf, wRet, wRetN, wAsg, wExpr, wSkip, wBrk, wCnt, wVar, wC, wBin, wUn, wIfE, wT, wTr, wNot, wAnd, wOr, wAndV, wOrV, wChain, wBinS, wUnS, wOpN, wTup, wLst, wCons, wNil, wCall, wMs, wPar, wPar3, gN, gTupN, gCons, gNil, isD, isSt, isDc, optK_some, rd_d, rdS_d, frs_nil, frs_d, rds_nil, rds_d, on1, on2, asB_b, set0, setS, get0, getS, startE, List.map_cons, List.map_nil, List.length_cons, List.length_nil, List.replicate, List.cons_append, List.nil_append, List.append_nil, Option.map_some, Option.map_none, Option.bind_some, oEq_ss, oNe_ss, oEq_ii, oNe_ii, oAdd_ii, oSub_ii, ix_0, ix_1, ix_2, ix_k0, ix_n1, ix_p1, ix_p2, ix_e1, ix_e2, hd1, hd2, hd3, hd4, hd5, hd6, fin_rt, fin_nx, ret_d, if_true, if_false, Bool.false_eq_true, Bool.true_eq_false, Bool.not_true, Bool.not_false, beq_self_eq_true, decide_true, decide_false, true_and, and_true, lit0, lit1, lit2, lit3, lit4, lit5, lit6, lit7, lit8, lit9, lit10, wYes]
      refine ⟨by decide, ?_⟩
      show forGo _ _ _ (abc.map fun c => DV.d (.str ⟨#[c]⟩)) _ _
      refine vr_loop (hr.to t4) t2' abc [] s' c' none e' ⟨c1', c2'⟩ (by decide) (fun _ x hx => by simp at hx) ?_
      intro s5 c5 v6 e5 hc5 h5
      show N _ _
      rw [hN]
      simp only [wSeq, wIf, wRet, wRetN, wAsg, wExpr, wSkip, wBrk, wCnt, wVar, wC, wBin, wUn, wIfE, wT, wTr, wNot, wAnd, wOr, wAndV, wOrV, wChain, wBinS, wUnS, wOpN, wTup, wLst, wCons, wNil, wCall, wMs, wPar, wPar3, gN, gTupN, gCons, gNil, isD, isSt, isDc, optK_some, rd_d, rdS_d, frs_nil, frs_d, rds_nil, rds_d, on1, on2, asB_b, set0, setS, get0, getS, startE, List.map_cons, List.map_nil, List.length_cons, List.length_nil, List.replicate, List.cons_append, List.nil_append, List.append_nil, Option.map_some, Option.map_none, Option.bind_some, oEq_ss, oNe_ss, oEq_ii, oNe_ii, oAdd_ii, oSub_ii, ix_0, ix_1, ix_2, ix_k0, ix_n1, ix_p1, ix_p2, ix_e1, ix_e2, hd1, hd2, hd3, hd4, hd5, hd6, fin_rt, fin_nx, ret_d, if_true, if_false, Bool.false_eq_true, Bool.true_eq_false, Bool.not_true, Bool.not_false, beq_self_eq_true, decide_true, decide_false, true_and, and_true, lit0, lit1, lit2, lit3, lit4, lit5, lit6, lit7, lit8, lit9, lit10, wYes]
      rw [ret_to t4]
      refine q _ st4 ⟨s5, rfl, ⟨c5, t', e5, hc5.1, hc5.2, t1', t2'⟩, fun hin => ?_⟩ t4
      have h6 := h5 hin
      have := nodup_len (abc.map (vr t')) ns (by
        have : abc.Nodup := by decide
        unfold List.Nodup
        rw [List.pairwise_map]
        exact List.Pairwise.imp (fun h e => h (vr_inj e)) this) (fun u hu => by
          obtain ⟨x, hx, rfl⟩ := List.mem_map.mp hu
          exact h6 x (by simpa using hx))
      simp only [List.length_map] at this
      have h7 : abc.length = 6 := rfl
      omega
    obtain ⟨m, rfl⟩ : ∃ m : Nat, k = m := ⟨k.toNat, by omega⟩
    simp only [wSeq, wIf, wRet, wRetN, wAsg, wExpr, wSkip, wBrk, wCnt, wVar, wC, wBin, wUn, wIfE, wT, wTr, wNot, wAnd, wOr, wAndV, wOrV, wChain, wBinS, wUnS, wOpN, wTup, wLst, wCons, wNil, wCall, wMs, wPar, wPar3, gN, gTupN, gCons, gNil, isD, isSt, isDc, optK_some, rd_d, rdS_d, frs_nil, frs_d, rds_nil, rds_d, on1, on2, asB_b, set0, setS, get0, getS, startE, List.map_cons, List.map_nil, List.length_cons, List.length_nil, List.replicate, List.cons_append, List.nil_append, List.append_nil, Option.map_some, Option.map_none, Option.bind_some, oEq_ss, oNe_ss, oEq_ii, oNe_ii, oAdd_ii, oSub_ii, ix_0, ix_1, ix_2, ix_k0, ix_n1, ix_p1, ix_p2, ix_e1, ix_e2, hd1, hd2, hd3, hd4, hd5, hd6, fin_rt, fin_nx, ret_d, if_true, if_false, Bool.false_eq_true, Bool.true_eq_false, Bool.not_true, Bool.not_false, beq_self_eq_true, decide_true, decide_false, true_and, and_true, lit0, lit1, lit2, lit3, lit4, lit5, lit6, lit7, lit8, lit9, lit10, wYes, (hr.to t2).rd, ne_empty]
    by_cases hne : ns = []
    · subst hne
      simp only [List.isEmpty_nil, wSeq, wIf, wRet, wRetN, wAsg, wExpr, wSkip, wBrk, wCnt, wVar, wC, wBin, wUn, wIfE, wT, wTr, wNot, wAnd, wOr, wAndV, wOrV, wChain, wBinS, wUnS, wOpN, wTup, wLst, wCons, wNil, wCall, wMs, wPar, wPar3, gN, gTupN, gCons, gNil, isD, isSt, isDc, optK_some, rd_d, rdS_d, frs_nil, frs_d, rds_nil, rds_d, on1, on2, asB_b, set0, setS, get0, getS, startE, List.map_cons, List.map_nil, List.length_cons, List.length_nil, List.replicate, List.cons_append, List.nil_append, List.append_nil, Option.map_some, Option.map_none, Option.bind_some, oEq_ss, oNe_ss, oEq_ii, oNe_ii, oAdd_ii, oSub_ii, ix_0, ix_1, ix_2, ix_k0, ix_n1, ix_p1, ix_p2, ix_e1, ix_e2, hd1, hd2, hd3, hd4, hd5, hd6, fin_rt, fin_nx, ret_d, if_true, if_false, Bool.false_eq_true, Bool.true_eq_false, Bool.not_true, Bool.not_false, beq_self_eq_true, decide_true, decide_false, true_and, and_true, lit0, lit1, lit2, lit3, lit4, lit5, lit6, lit7, lit8, lit9, lit10, wYes]
      exact cont2 _ 0 m st2 wc (by omega) t2
    · have he : ns.isEmpty = false := by cases ns with | nil => exact absurd rfl hne | cons _ _ => rfl
      simp only [he, wSeq, wIf, wRet, wRetN, wAsg, wExpr, wSkip, wBrk, wCnt, wVar, wC, wBin, wUn, wIfE, wT, wTr, wNot, wAnd, wOr, wAndV, wOrV, wChain, wBinS, wUnS, wOpN, wTup, wLst, wCons, wNil, wCall, wMs, wPar, wPar3, gN, gTupN, gCons, gNil, isD, isSt, isDc, optK_some, rd_d, rdS_d, frs_nil, frs_d, rds_nil, rds_d, on1, on2, asB_b, set0, setS, get0, getS, startE, List.map_cons, List.map_nil, List.length_cons, List.length_nil, List.replicate, List.cons_append, List.nil_append, List.append_nil, Option.map_some, Option.map_none, Option.bind_some, oEq_ss, oNe_ss, oEq_ii, oNe_ii, oAdd_ii, oSub_ii, ix_0, ix_1, ix_2, ix_k0, ix_n1, ix_p1, ix_p2, ix_e1, ix_e2, hd1, hd2, hd3, hd4, hd5, hd6, fin_rt, fin_nx, ret_d, if_true, if_false, Bool.false_eq_true, Bool.true_eq_false, Bool.not_true, Bool.not_false, beq_self_eq_true, decide_true, decide_false, true_and, and_true, lit0, lit1, lit2, lit3, lit4, lit5, lit6, lit7, lit8, lit9, lit10, wYes]
      refine spS_go (t2.spr hs) ⟨4, rfl, by omega, by omega, rfl⟩ ?_
      rintro y st3 ⟨x, rfl, x0, x1⟩ t3
      have t23 := t2.trans t3
      by_cases hx : x = 0
      · subst hx
        have hlast : ∃ n ∈ ns, oIx (.list (ns.map .str)) (.int (-1)) = some (.str n) := by
          obtain ⟨ys, n, rfl⟩ : ∃ ys n, ns = ys ++ [n] := ⟨ns.dropLast, ns.getLast hne, (List.dropLast_concat_getLast hne).symm⟩
          refine ⟨n, by simp, ?_⟩
          rw [List.map_append]
          exact L2.atI_last (ys.map PyData.str) (PyData.str n)
        obtain ⟨n, hnn, hix⟩ := hlast
        obtain ⟨s7, e7, w7⟩ := sl_7 (hw n hnn)
        have hneg : oNeg (.int 1) = some (.int (-1)) := rfl
        simp only [wSeq, wIf, wRet, wRetN, wAsg, wExpr, wSkip, wBrk, wCnt, wVar, wC, wBin, wUn, wIfE, wT, wTr, wNot, wAnd, wOr, wAndV, wOrV, wChain, wBinS, wUnS, wOpN, wTup, wLst, wCons, wNil, wCall, wMs, wPar, wPar3, gN, gTupN, gCons, gNil, isD, isSt, isDc, optK_some, rd_d, rdS_d, frs_nil, frs_d, rds_nil, rds_d, on1, on2, asB_b, set0, setS, get0, getS, startE, List.map_cons, List.map_nil, List.length_cons, List.length_nil, List.replicate, List.cons_append, List.nil_append, List.append_nil, Option.map_some, Option.map_none, Option.bind_some, oEq_ss, oNe_ss, oEq_ii, oNe_ii, oAdd_ii, oSub_ii, ix_0, ix_1, ix_2, ix_k0, ix_n1, ix_p1, ix_p2, ix_e1, ix_e2, hd1, hd2, hd3, hd4, hd5, hd6, fin_rt, fin_nx, ret_d, if_true, if_false, Bool.false_eq_true, Bool.true_eq_false, Bool.not_true, Bool.not_false, beq_self_eq_true, decide_true, decide_false, true_and, and_true, lit0, lit1, lit2, lit3, lit4, lit5, lit6, lit7, lit8, lit9, lit10, wYes, wSl, wOS, wON, hneg, (hr.to t23).rdS, hix, asI, e7]
        exact cont2 s7 6 1 st3 w7 (by omega) t23
      · have hx' : (x == 0) = false := by simpa using hx
        simp only [wSeq, wIf, wRet, wRetN, wAsg, wExpr, wSkip, wBrk, wCnt, wVar, wC, wBin, wUn, wIfE, wT, wTr, wNot, wAnd, wOr, wAndV, wOrV, wChain, wBinS, wUnS, wOpN, wTup, wLst, wCons, wNil, wCall, wMs, wPar, wPar3, gN, gTupN, gCons, gNil, isD, isSt, isDc, optK_some, rd_d, rdS_d, frs_nil, frs_d, rds_nil, rds_d, on1, on2, asB_b, set0, setS, get0, getS, startE, List.map_cons, List.map_nil, List.length_cons, List.length_nil, List.replicate, List.cons_append, List.nil_append, List.append_nil, Option.map_some, Option.map_none, Option.bind_some, oEq_ss, oNe_ss, oEq_ii, oNe_ii, oAdd_ii, oSub_ii, ix_0, ix_1, ix_2, ix_k0, ix_n1, ix_p1, ix_p2, ix_e1, ix_e2, hd1, hd2, hd3, hd4, hd5, hd6, fin_rt, fin_nx, ret_d, if_true, if_false, Bool.false_eq_true, Bool.true_eq_false, Bool.not_true, Bool.not_false, beq_self_eq_true, decide_true, decide_false, true_and, and_true, lit0, lit1, lit2, lit3, lit4, lit5, lit6, lit7, lit8, lit9, lit10, wYes, hx']
        exact cont2 _ 0 m st3 wc (by omega) t23
  simp only [wSeq, wIf, wRet, wRetN, wAsg, wExpr, wSkip, wBrk, wCnt, wVar, wC, wBin, wUn, wIfE, wT, wTr, wNot, wAnd, wOr, wAndV, wOrV, wChain, wBinS, wUnS, wOpN, wTup, wLst, wCons, wNil, wCall, wMs, wPar, wPar3, gN, gTupN, gCons, gNil, isD, isSt, isDc, optK_some, rd_d, rdS_d, frs_nil, frs_d, rds_nil, rds_d, on1, on2, asB_b, set0, setS, get0, getS, startE, List.map_cons, List.map_nil, List.length_cons, List.length_nil, List.replicate, List.cons_append, List.nil_append, List.append_nil, Option.map_some, Option.map_none, Option.bind_some, oEq_ss, oNe_ss, oEq_ii, oNe_ii, oAdd_ii, oSub_ii, ix_0, ix_1, ix_2, ix_k0, ix_n1, ix_p1, ix_p2, ix_e1, ix_e2, hd1, hd2, hd3, hd4, hd5, hd6, fin_rt, fin_nx, ret_d, if_true, if_false, Bool.false_eq_true, Bool.true_eq_false, Bool.not_true, Bool.not_false, beq_self_eq_true, decide_true, decide_false, true_and, and_true, lit0, lit1, lit2, lit3, lit4, lit5, lit6, lit7, lit8, lit9, lit10, wYes]
  refine spS_go (t1.spr hs) ⟨5, rfl, by omega, by omega, rfl⟩ ?_
  rintro y st2 ⟨x, rfl, x0, x1⟩ t2
  have t12 := t1.trans t2
  by_cases hx : 0 < x
  · simp only [wSeq, wIf, wRet, wRetN, wAsg, wExpr, wSkip, wBrk, wCnt, wVar, wC, wBin, wUn, wIfE, wT, wTr, wNot, wAnd, wOr, wAndV, wOrV, wChain, wBinS, wUnS, wOpN, wTup, wLst, wCons, wNil, wCall, wMs, wPar, wPar3, gN, gTupN, gCons, gNil, isD, isSt, isDc, optK_some, rd_d, rdS_d, frs_nil, frs_d, rds_nil, rds_d, on1, on2, asB_b, set0, setS, get0, getS, startE, List.map_cons, List.map_nil, List.length_cons, List.length_nil, List.replicate, List.cons_append, List.nil_append, List.append_nil, Option.map_some, Option.map_none, Option.bind_some, oEq_ss, oNe_ss, oEq_ii, oNe_ii, oAdd_ii, oSub_ii, ix_0, ix_1, ix_2, ix_k0, ix_n1, ix_p1, ix_p2, ix_e1, ix_e2, hd1, hd2, hd3, hd4, hd5, hd6, fin_rt, fin_nx, ret_d, if_true, if_false, Bool.false_eq_true, Bool.true_eq_false, Bool.not_true, Bool.not_false, beq_self_eq_true, decide_true, decide_false, true_and, and_true, lit0, lit1, lit2, lit3, lit4, lit5, lit6, lit7, lit8, lit9, lit10, wYes, oGt_ii, decide_eq_true hx]
    refine spS_go (t12.spr hs) ⟨4, rfl, by omega, by omega, rfl⟩ ?_
    rintro y st3 ⟨w, rfl, w0, w1⟩ t3
    try simp only [wSeq, wIf, wRet, wRetN, wAsg, wExpr, wSkip, wBrk, wCnt, wVar, wC, wBin, wUn, wIfE, wT, wTr, wNot, wAnd, wOr, wAndV, wOrV, wChain, wBinS, wUnS, wOpN, wTup, wLst, wCons, wNil, wCall, wMs, wPar, wPar3, gN, gTupN, gCons, gNil, isD, isSt, isDc, optK_some, rd_d, rdS_d, frs_nil, frs_d, rds_nil, rds_d, on1, on2, asB_b, set0, setS, get0, getS, startE, List.map_cons, List.map_nil, List.length_cons, List.length_nil, List.replicate, List.cons_append, List.nil_append, List.append_nil, Option.map_some, Option.map_none, Option.bind_some, oEq_ss, oNe_ss, oEq_ii, oNe_ii, oAdd_ii, oSub_ii, ix_0, ix_1, ix_2, ix_k0, ix_n1, ix_p1, ix_p2, ix_e1, ix_e2, hd1, hd2, hd3, hd4, hd5, hd6, fin_rt, fin_nx, ret_d, if_true, if_false, Bool.false_eq_true, Bool.true_eq_false, Bool.not_true, Bool.not_false, beq_self_eq_true, decide_true, decide_false, true_and, and_true, lit0, lit1, lit2, lit3, lit4, lit5, lit6, lit7, lit8, lit9, lit10, wYes]
    exact cont w st3 w0 (by omega) (t12.trans t3)
  · simp only [wSeq, wIf, wRet, wRetN, wAsg, wExpr, wSkip, wBrk, wCnt, wVar, wC, wBin, wUn, wIfE, wT, wTr, wNot, wAnd, wOr, wAndV, wOrV, wChain, wBinS, wUnS, wOpN, wTup, wLst, wCons, wNil, wCall, wMs, wPar, wPar3, gN, gTupN, gCons, gNil, isD, isSt, isDc, optK_some, rd_d, rdS_d, frs_nil, frs_d, rds_nil, rds_d, on1, on2, asB_b, set0, setS, get0, getS, startE, List.map_cons, List.map_nil, List.length_cons, List.length_nil, List.replicate, List.cons_append, List.nil_append, List.append_nil, Option.map_some, Option.map_none, Option.bind_some, oEq_ss, oNe_ss, oEq_ii, oNe_ii, oAdd_ii, oSub_ii, ix_0, ix_1, ix_2, ix_k0, ix_n1, ix_p1, ix_p2, ix_e1, ix_e2, hd1, hd2, hd3, hd4, hd5, hd6, fin_rt, fin_nx, ret_d, if_true, if_false, Bool.false_eq_true, Bool.true_eq_false, Bool.not_true, Bool.not_false, beq_self_eq_true, decide_true, decide_false, true_and, and_true, lit0, lit1, lit2, lit3, lit4, lit5, lit6, lit7, lit8, lit9, lit10, wYes, oGt_ii, decide_eq_false hx]
    refine spS_go (t12.spr hs) ⟨8, rfl, by omega, by omega, rfl⟩ ?_
    rintro y st3 ⟨w, rfl, w0, w1⟩ t3
    try simp only [wSeq, wIf, wRet, wRetN, wAsg, wExpr, wSkip, wBrk, wCnt, wVar, wC, wBin, wUn, wIfE, wT, wTr, wNot, wAnd, wOr, wAndV, wOrV, wChain, wBinS, wUnS, wOpN, wTup, wLst, wCons, wNil, wCall, wMs, wPar, wPar3, gN, gTupN, gCons, gNil, isD, isSt, isDc, optK_some, rd_d, rdS_d, frs_nil, frs_d, rds_nil, rds_d, on1, on2, asB_b, set0, setS, get0, getS, startE, List.map_cons, List.map_nil, List.length_cons, List.length_nil, List.replicate, List.cons_append, List.nil_append, List.append_nil, Option.map_some, Option.map_none, Option.bind_some, oEq_ss, oNe_ss, oEq_ii, oNe_ii, oAdd_ii, oSub_ii, ix_0, ix_1, ix_2, ix_k0, ix_n1, ix_p1, ix_p2, ix_e1, ix_e2, hd1, hd2, hd3, hd4, hd5, hd6, fin_rt, fin_nx, ret_d, if_true, if_false, Bool.false_eq_true, Bool.true_eq_false, Bool.not_true, Bool.not_false, beq_self_eq_true, decide_true, decide_false, true_and, and_true, lit0, lit1, lit2, lit3, lit4, lit5, lit6, lit7, lit8, lit9, lit10, wYes]
    exact cont w st3 w0 (by omega) (t12.trans t3)
end DL.K20
/-! text K20P21 -/
namespace DL.K20
open PySem DL
/-! ### own lists behind the caller's store -/
theorem SpTo.app {st st' L : Store} {i : Nat} (hi : i < st.length) (t : SpTo (st ++ L) i st') : ∃ s, st' = s ++ L ∧ SpTo st i s := by
  obtain ⟨a, b, c, rfl⟩ := t
  exact ⟨st.set i (K20.spr a b c), by rw [List.set_append_left _ _ hi], a, b, c, rfl⟩
theorem Spr.app {st : Store} {i : Nat} (h : Spr st i) (L : Store) : Spr (st ++ L) i := by
  have hl := h.lt
  obtain ⟨a, b, c, h⟩ := h
  exact ⟨a, b, c, by rw [List.getElem?_append_left hl, h]⟩
theorem get20 {s : Store} {n : Nat} {c d : Cell} (h : s.length = n) : (s ++ [c, d])[n]? = some c := by subst h; simp
theorem get21 {s : Store} {n : Nat} {c d : Cell} (h : s.length = n) : (s ++ [c, d])[n + 1]? = some d := by subst h; simp
theorem set20 {s : Store} {n : Nat} {c d e : Cell} (h : s.length = n) : (s ++ [c, d]).set n e = s ++ [e, d] := by subst h; simp
theorem set21 {s : Store} {n : Nat} {c d e : Cell} (h : s.length = n) : (s ++ [c, d]).set (n + 1) e = s ++ [c, e] := by
  subst h
  rw [List.set_append_right _ _ (by omega)]
  simp
theorem take2 {s : Store} {n : Nat} {c d : Cell} (h : s.length = n) : (s ++ [c, d]).take n = s := by subst h; simp
theorem rds1 {st : Store} {v : DV} {x : PyData} (h : rd st v = some x) : rds st [v] = some [x] := by
  unfold rds
  rw [h]
  rfl
theorem expr_app {fb : WE} {D : DL.Fin} {env : Env} {st : Store} {n m : Nat} {xs : List PyData} (h0 : env[m]? = some (some (.loc n))) (hr : rd st (.loc n) = some (.list xs))
    (hl : xs.length < lim) (hb : ∀ Q : RK, (∀ y st', st'[n]? = some (.lst xs) → D.nx env (st'.set n (.lst (xs ++ [y]))) → Q (.d y) st') → fb env st Q) : wExpr (wMtM oAppend (wVar m) (wCons fb wNil)) D env st := by
  unfold wExpr wMtM wVar
  rw [h0]
  show optK (rd st (.loc n)) _
  rw [hr]
  refine ⟨rfl, ?_⟩
  unfold wCons wNil
  refine hb _ fun y st' hg hq => ?_
  show optK st'[n]? _
  rw [hg]
  show optK (oAppend (.lst xs) [y]) _
  have : oAppend (.lst xs) [y] = some (.none, .lst (xs ++ [y])) := if_pos hl
  rw [this]
  exact hq
theorem names_loop {E : EK} {D : DL.Fin} {i n : Nat} {st0 : Store} (hs : Spr st0 i) (hn : st0.length = n) {v1 v5 : Option DV} {d : Cell} : ∀ (xs : List DV) (ns : List Str) (s : Store) (v4 : Option DV), SpTo st0 i s → (∀ m ∈ ns, wname m) → ns.Nodup → ns.length + xs.length ≤ 4 →
    (∀ (ns' : List Str) (s' : Store) (v4 : Option DV), SpTo st0 i s' → (∀ m ∈ ns', wname m) → ns'.Nodup → ns'.length = ns.length + xs.length → D.nx [some (.loc i), v1, some (.loc n), some (.loc (n + 1)), v4, v5] (s' ++ [.lst (ns'.map .str), d])) →
    forGo (gN 4) (wExpr (wMtM oAppend (wVar 2) (wCons (wCall (spS pNe) E (wCons (wVar 0) (wCons (wVar 2) wNil))) wNil))) D xs [some (.loc i), v1, some (.loc n), some (.loc (n + 1)), v4, v5] (s ++ [.lst (ns.map .str), d])
  | [], ns, s, v4, t, hw, hd, _, q => q ns s v4 t hw hd rfl
  | x :: xs, ns, s, v4, t, hw, hd, hl, q => by
    simp only [List.length_cons] at hl q
    have hsl : s.length = n := by rw [t.len]; exact hn
    show wExpr _ _ [some (.loc i), v1, some (.loc n), some (.loc (n + 1)), some x, v5] _
    refine expr_app (n := n) (xs := ns.map .str) rfl (rd_at (get20 hsl)) (by rw [List.length_map]; unfold lim; omega) fun Q hq => ?_
    have hss : Spr (s ++ [.lst (ns.map .str), d]) i := (t.spr hs).app _
    have hi : i ≠ n := by have := hs.lt; omega
    simp only [wSeq, wIf, wRet, wRetN, wAsg, wExpr, wSkip, wBrk, wCnt, wVar, wC, wBin, wUn, wIfE, wT, wTr, wNot, wAnd, wOr, wAndV, wOrV, wChain, wBinS, wUnS, wOpN, wTup, wLst, wCons, wNil, wCall, wMs, wPar, wPar3, gN, gTupN, gCons, gNil, isD, isSt, isDc, optK_some, rd_d, rdS_d, frs_nil, frs_d, rds_nil, rds_d, on1, on2, asB_b, set0, setS, get0, getS, startE, List.map_cons, List.map_nil, List.length_cons, List.length_nil, List.replicate, List.cons_append, List.nil_append, List.append_nil, Option.map_some, Option.map_none, Option.bind_some, oEq_ss, oNe_ss, oEq_ii, oNe_ii, oAdd_ii, oSub_ii, ix_0, ix_1, ix_2, ix_k0, ix_n1, ix_p1, ix_p2, ix_e1, ix_e2, hd1, hd2, hd3, hd4, hd5, hd6, fin_rt, fin_nx, ret_d, if_true, if_false, Bool.false_eq_true, Bool.true_eq_false, Bool.not_true, Bool.not_false, beq_self_eq_true, decide_true, decide_false, true_and, and_true, lit0, lit1, lit2, lit3, lit4, lit5, lit6, lit7, lit8, lit9, lit10, wYes]
    refine spS_go (rest := [.loc n]) hss ⟨.loc n, ns, rfl, .inr ⟨n, rfl, hi.symm, get20 hsl⟩, hw, by omega, rfl⟩ ?_
    rintro y st' ⟨z, rfl, hz, hzn⟩ t'
    obtain ⟨s', rfl, t2⟩ := t'.app (t.spr hs).lt
    have hsl' : s'.length = n := by rw [t2.len]; exact hsl
    refine hq _ _ (get20 hsl') ?_
    rw [set20 hsl', show ns.map PyData.str ++ [PyData.str z] = (ns ++ [z]).map .str by simp]
    refine names_loop hs hn xs (ns ++ [z]) s' _ (t.trans t2) (fun m hm => ?_) ?_ (by simp; omega) ?_
    · rcases List.mem_append.mp hm with hm | hm
      · exact hw m hm
      · simp at hm; subst hm; exact hz
    · rw [List.nodup_append]
      exact ⟨hd, by simp, fun a ha b hb => by simp at hb; subst hb; exact fun e => hzn (e ▸ ha)⟩
    · intro ns' s'' v4' h1 h2 h3 h4
      exact q ns' s'' v4' h1 h2 h3 (by rw [h4]; simp; omega)
def okRow (ns : List Str) (r : Row) : Prop := r.2.dep ≤ 6 ∧ r.2.parts ≤ 20 ∧ ∀ n ∈ r.2.names, n ∈ ns
theorem rows_loop {E : EK} {D : DL.Fin} {i n : Nat} {st0 : Store} (hs : Spr st0 i) (hn : st0.length = n) {v4 : Option DV} {ns : List Str} (h0 : ns ≠ []) (hl : ns.length ≤ 4) : ∀ (xs : List Str) (rows : List Row) (s : Store) (v5 : Option DV), SpTo st0 i s → (∀ x ∈ xs, x ∈ ns) → (∀ r ∈ rows, okRow ns r) → rows.length + xs.length ≤ 1000 →
    (∀ (rows' : List Row) (s' : Store) (v5 : Option DV), SpTo st0 i s' → (∀ r ∈ rows', okRow ns r) → rows'.map (·.1) = rows.map (·.1) ++ xs → D.nx [some (.loc i), some (.d (.int 5)), some (.loc n), some (.loc (n + 1)), v4, v5] (s' ++ [.lst (ns.map .str), .lst (rows'.map encR)])) →
    forGo (gN 5) (wExpr (wMtM oAppend (wVar 3) (wCons (wTup (wCons (wVar 5) (wCons (wCall (spS pOf) E (wCons (wVar 0) (wCons (wVar 2) (wCons (wVar 5) (wCons (wVar 1) wNil))))) wNil))) wNil))) D (xs.map fun x => .d (.str x)) [some (.loc i), some (.d (.int 5)), some (.loc n), some (.loc (n + 1)), v4, v5] (s ++ [.lst (ns.map .str), .lst (rows.map encR)])
  | [], rows, s, v5, t, _, hr, _, q => q rows s v5 t hr (by simp)
  | x :: xs, rows, s, v5, t, hx, hr, hk, q => by
    simp only [List.length_cons] at hk
    have hsl : s.length = n := by rw [t.len]; exact hn
    show wExpr _ _ [some (.loc i), some (.d (.int 5)), some (.loc n), some (.loc (n + 1)), v4, some (.d (.str x))] _
    refine expr_app (n := n + 1) (xs := rows.map encR) rfl (rd_at (get21 hsl)) (by rw [List.length_map]; unfold lim; omega) fun Q hq => ?_
    have hss : Spr (s ++ [.lst (ns.map .str), .lst (rows.map encR)]) i := (t.spr hs).app _
    have hi : i ≠ n := by have := hs.lt; omega
    simp only [wSeq, wIf, wRet, wRetN, wAsg, wExpr, wSkip, wBrk, wCnt, wVar, wC, wBin, wUn, wIfE, wT, wTr, wNot, wAnd, wOr, wAndV, wOrV, wChain, wBinS, wUnS, wOpN, wTup, wLst, wCons, wNil, wCall, wMs, wPar, wPar3, gN, gTupN, gCons, gNil, isD, isSt, isDc, optK_some, rd_d, rdS_d, frs_nil, frs_d, rds_nil, rds_d, on1, on2, asB_b, set0, setS, get0, getS, startE, List.map_cons, List.map_nil, List.length_cons, List.length_nil, List.replicate, List.cons_append, List.nil_append, List.append_nil, Option.map_some, Option.map_none, Option.bind_some, oEq_ss, oNe_ss, oEq_ii, oNe_ii, oAdd_ii, oSub_ii, ix_0, ix_1, ix_2, ix_k0, ix_n1, ix_p1, ix_p2, ix_e1, ix_e2, hd1, hd2, hd3, hd4, hd5, hd6, fin_rt, fin_nx, ret_d, if_true, if_false, Bool.false_eq_true, Bool.true_eq_false, Bool.not_true, Bool.not_false, beq_self_eq_true, decide_true, decide_false, true_and, and_true, lit0, lit1, lit2, lit3, lit4, lit5, lit6, lit7, lit8, lit9, lit10, wYes]
    refine spS_go (rest := [.loc n, .d (.str x), .d (.int 5)]) hss ⟨.loc n, ns, x, rfl, .inr ⟨n, rfl, hi.symm, get20 hsl⟩, h0, by omega, hx x (List.mem_cons_self ..), rfl⟩ ?_
    rintro y st' ⟨k, rfl, hk'⟩ t'
    obtain ⟨s', rfl, t2⟩ := t'.app (t.spr hs).lt
    have hsl' : s'.length = n := by rw [t2.len]; exact hsl
    simp only [wSeq, wIf, wRet, wRetN, wAsg, wExpr, wSkip, wBrk, wCnt, wVar, wC, wBin, wUn, wIfE, wT, wTr, wNot, wAnd, wOr, wAndV, wOrV, wChain, wBinS, wUnS, wOpN, wTup, wLst, wCons, wNil, wCall, wMs, wPar, wPar3, gN, gTupN, gCons, gNil, isD, isSt, isDc, optK_some, rd_d, rdS_d, frs_nil, frs_d, rds_nil, rds_d, on1, on2, asB_b, set0, setS, get0, getS, startE, List.map_cons, List.map_nil, List.length_cons, List.length_nil, List.replicate, List.cons_append, List.nil_append, List.append_nil, Option.map_some, Option.map_none, Option.bind_some, oEq_ss, oNe_ss, oEq_ii, oNe_ii, oAdd_ii, oSub_ii, ix_0, ix_1, ix_2, ix_k0, ix_n1, ix_p1, ix_p2, ix_e1, ix_e2, hd1, hd2, hd3, hd4, hd5, hd6, fin_rt, fin_nx, ret_d, if_true, if_false, Bool.false_eq_true, Bool.true_eq_false, Bool.not_true, Bool.not_false, beq_self_eq_true, decide_true, decide_false, true_and, and_true, lit0, lit1, lit2, lit3, lit4, lit5, lit6, lit7, lit8, lit9, lit10, wYes]
    refine hq _ _ (get21 hsl') ?_
    rw [set21 hsl', show rows.map encR ++ [PyData.tuple [.str x, k.enc]] = (rows ++ [(x, k)]).map encR by simp [encR]]
    refine rows_loop hs hn h0 hl xs (rows ++ [(x, k)]) s' _ (t.trans t2) (fun z hz => hx z (List.mem_cons_of_mem _ hz)) (fun r hr' => ?_) (by simp; omega) ?_
    · rcases List.mem_append.mp hr' with hm | hm
      · exact hr r hm
      · simp at hm; subst hm; exact hk'
    · intro rows' s'' v5' h1 h2 h3
      exact q rows' s'' v5' h1 h2 (by rw [h3]; simp)
def libOk0 (b : List Row) : Prop := ∃ ns : List Str, ns ≠ [] ∧ ns.length ≤ 4 ∧ (∀ m ∈ ns, wname m) ∧ ns.Nodup ∧ b.map (·.1) = sortT ns ∧ ∀ r ∈ b, okRow ns r
def pLi (st : Store) (i : Nat) (rest : List DV) (R : PyData → Prop) : Prop := rest = [.d (.int 5)] ∧ R = fun y => ∃ b, y = encB b ∧ libOk0 b
theorem keeps_law_lib : Keeps 6 (spS pLi) (b_law_lib (spS pOf) (spS pDr) (spS pNe)) := by
  rintro args st Q E ⟨i, rest, R, rfl, hs, ⟨rfl, rfl⟩, q⟩
  unfold b_law_lib
  refine seq_intro fun N hN => ?_
  have h01 : (st ++ [Cell.lst []] ++ [Cell.lst []]) = st ++ [Cell.lst ([] : List PyData), Cell.lst []] := by simp
  have h02 : (st ++ [Cell.lst ([] : List PyData)]).length = st.length + 1 := by simp
  simp only [wPar, wLstM, wSeq, wIf, wRet, wRetN, wAsg, wExpr, wSkip, wBrk, wCnt, wVar, wC, wBin, wUn, wIfE, wT, wTr, wNot, wAnd, wOr, wAndV, wOrV, wChain, wBinS, wUnS, wOpN, wTup, wLst, wCons, wNil, wCall, wMs, wPar, wPar3, gN, gTupN, gCons, gNil, isD, isSt, isDc, optK_some, rd_d, rdS_d, frs_nil, frs_d, rds_nil, rds_d, on1, on2, asB_b, set0, setS, get0, getS, startE, List.map_cons, List.map_nil, List.length_cons, List.length_nil, List.replicate, List.cons_append, List.nil_append, List.append_nil, Option.map_some, Option.map_none, Option.bind_some, oEq_ss, oNe_ss, oEq_ii, oNe_ii, oAdd_ii, oSub_ii, ix_0, ix_1, ix_2, ix_k0, ix_n1, ix_p1, ix_p2, ix_e1, ix_e2, hd1, hd2, hd3, hd4, hd5, hd6, fin_rt, fin_nx, ret_d, if_true, if_false, Bool.false_eq_true, Bool.true_eq_false, Bool.not_true, Bool.not_false, beq_self_eq_true, decide_true, decide_false, true_and, and_true, lit0, lit1, lit2, lit3, lit4, lit5, lit6, lit7, lit8, lit9, lit10, wYes, h01, h02]
  rw [hN]
  refine seq_intro fun N hN => ?_
  simp only [wFor, iRng1D, wSeq, wIf, wRet, wRetN, wAsg, wExpr, wSkip, wBrk, wCnt, wVar, wC, wBin, wUn, wIfE, wT, wTr, wNot, wAnd, wOr, wAndV, wOrV, wChain, wBinS, wUnS, wOpN, wTup, wLst, wCons, wNil, wCall, wMs, wPar, wPar3, gN, gTupN, gCons, gNil, isD, isSt, isDc, optK_some, rd_d, rdS_d, frs_nil, frs_d, rds_nil, rds_d, on1, on2, asB_b, set0, setS, get0, getS, startE, List.map_cons, List.map_nil, List.length_cons, List.length_nil, List.replicate, List.cons_append, List.nil_append, List.append_nil, Option.map_some, Option.map_none, Option.bind_some, oEq_ss, oNe_ss, oEq_ii, oNe_ii, oAdd_ii, oSub_ii, ix_0, ix_1, ix_2, ix_k0, ix_n1, ix_p1, ix_p2, ix_e1, ix_e2, hd1, hd2, hd3, hd4, hd5, hd6, fin_rt, fin_nx, ret_d, if_true, if_false, Bool.false_eq_true, Bool.true_eq_false, Bool.not_true, Bool.not_false, beq_self_eq_true, decide_true, decide_false, true_and, and_true, lit0, lit1, lit2, lit3, lit4, lit5, lit6, lit7, lit8, lit9, lit10, wYes]
  refine spS_go (rest := [.d (.int 2)]) (hs.app _) ⟨2, rfl, by omega, by omega, rfl⟩ ?_
  rintro y st1 ⟨z, rfl, z0, z1⟩ t1
  obtain ⟨s1, rfl, u1⟩ := t1.app hs.lt
  simp only [wSeq, wIf, wRet, wRetN, wAsg, wExpr, wSkip, wBrk, wCnt, wVar, wC, wBin, wUn, wIfE, wT, wTr, wNot, wAnd, wOr, wAndV, wOrV, wChain, wBinS, wUnS, wOpN, wTup, wLst, wCons, wNil, wCall, wMs, wPar, wPar3, gN, gTupN, gCons, gNil, isD, isSt, isDc, optK_some, rd_d, rdS_d, frs_nil, frs_d, rds_nil, rds_d, on1, on2, asB_b, set0, setS, get0, getS, startE, List.map_cons, List.map_nil, List.length_cons, List.length_nil, List.replicate, List.cons_append, List.nil_append, List.append_nil, Option.map_some, Option.map_none, Option.bind_some, oEq_ss, oNe_ss, oEq_ii, oNe_ii, oAdd_ii, oSub_ii, ix_0, ix_1, ix_2, ix_k0, ix_n1, ix_p1, ix_p2, ix_e1, ix_e2, hd1, hd2, hd3, hd4, hd5, hd6, fin_rt, fin_nx, ret_d, if_true, if_false, Bool.false_eq_true, Bool.true_eq_false, Bool.not_true, Bool.not_false, beq_self_eq_true, decide_true, decide_false, true_and, and_true, lit0, lit1, lit2, lit3, lit4, lit5, lit6, lit7, lit8, lit9, lit10, wYes]
  refine spS_go (rest := [.d (.int 3)]) ((u1.spr hs).app _) ⟨3, rfl, by omega, by omega, rfl⟩ ?_
  rintro y st2 ⟨w, rfl, w0, w1⟩ t2
  obtain ⟨s2, rfl, u2⟩ := t2.app (u1.spr hs).lt
  simp only [wSeq, wIf, wRet, wRetN, wAsg, wExpr, wSkip, wBrk, wCnt, wVar, wC, wBin, wUn, wIfE, wT, wTr, wNot, wAnd, wOr, wAndV, wOrV, wChain, wBinS, wUnS, wOpN, wTup, wLst, wCons, wNil, wCall, wMs, wPar, wPar3, gN, gTupN, gCons, gNil, isD, isSt, isDc, optK_some, rd_d, rdS_d, frs_nil, frs_d, rds_nil, rds_d, on1, on2, asB_b, set0, setS, get0, getS, startE, List.map_cons, List.map_nil, List.length_cons, List.length_nil, List.replicate, List.cons_append, List.nil_append, List.append_nil, Option.map_some, Option.map_none, Option.bind_some, oEq_ss, oNe_ss, oEq_ii, oNe_ii, oAdd_ii, oSub_ii, ix_0, ix_1, ix_2, ix_k0, ix_n1, ix_p1, ix_p2, ix_e1, ix_e2, hd1, hd2, hd3, hd4, hd5, hd6, fin_rt, fin_nx, ret_d, if_true, if_false, Bool.false_eq_true, Bool.true_eq_false, Bool.not_true, Bool.not_false, beq_self_eq_true, decide_true, decide_false, true_and, and_true, lit0, lit1, lit2, lit3, lit4, lit5, lit6, lit7, lit8, lit9, lit10, wYes, asI]
  refine ⟨⟨by omega, by omega⟩, lim_of (by omega), ?_⟩
  have hlen : (rngL 0 ((1 : Int) + z + w).toNat).length = ((1 : Int) + z + w).toNat := by
    unfold rngL
    simp
  refine names_loop (v1 := some (.d (.int 5))) (v5 := none) (d := .lst []) hs rfl (rngL 0 ((1 : Int) + z + w).toNat) [] s2 none (u1.trans u2) (fun m hm => by simp at hm) List.nodup_nil (by rw [hlen]; simp; omega) ?_
  intro ns s3 v4 u3 hw hd hl
  rw [hlen] at hl
  simp only [List.length_nil] at hl
  have h0 : ns ≠ [] := fun z => by subst z; simp at hl; omega
  show N _ _
  rw [hN]
  refine seq_intro fun N hN => ?_
  have hl3 : s3.length = st.length := u3.len
  have hso : oSorted (.list (ns.map .str)) = some (.list ((sortT ns).map .str)) := by
    show (textsOf (ns.map .str)).bind (fun ss => if ss.length < 64 then some (PyData.list ((sortT ss).map .str)) else none) = _
    rw [textsOf_map]
    show (if ns.length < 64 then some (PyData.list ((sortT ns).map .str)) else none) = _
    rw [if_pos (by omega)]
  have hrd : ∀ {c d : Cell} , rds (s3 ++ [Cell.lst (ns.map .str), d]) [.loc st.length] = some [.list (ns.map .str)] := fun {c d} => rds1 (rd_at (get20 hl3))
  have hrd2 := fun d => rds1 (rd_at (xs := ns.map PyData.str) (get20 (d := d) hl3))
  simp only [wFor, iSeq, wSeq, wIf, wRet, wRetN, wAsg, wExpr, wSkip, wBrk, wCnt, wVar, wC, wBin, wUn, wIfE, wT, wTr, wNot, wAnd, wOr, wAndV, wOrV, wChain, wBinS, wUnS, wOpN, wTup, wLst, wCons, wNil, wCall, wMs, wPar, wPar3, gN, gTupN, gCons, gNil, isD, isSt, isDc, optK_some, rd_d, rdS_d, frs_nil, frs_d, rds_nil, rds_d, on1, on2, asB_b, set0, setS, get0, getS, startE, List.map_cons, List.map_nil, List.length_cons, List.length_nil, List.replicate, List.cons_append, List.nil_append, List.append_nil, Option.map_some, Option.map_none, Option.bind_some, oEq_ss, oNe_ss, oEq_ii, oNe_ii, oAdd_ii, oSub_ii, ix_0, ix_1, ix_2, ix_k0, ix_n1, ix_p1, ix_p2, ix_e1, ix_e2, hd1, hd2, hd3, hd4, hd5, hd6, fin_rt, fin_nx, ret_d, if_true, if_false, Bool.false_eq_true, Bool.true_eq_false, Bool.not_true, Bool.not_false, beq_self_eq_true, decide_true, decide_false, true_and, and_true, lit0, lit1, lit2, lit3, lit4, lit5, lit6, lit7, lit8, lit9, lit10, wYes, hrd2, hso, itemsOf]
  rw [show ((sortT ns).map PyData.str).map DV.d = (sortT ns).map fun x => .d (.str x) by rw [List.map_map]; rfl]
  have hperm : (sortT ns).Perm ns := List.mergeSort_perm _ _
  refine rows_loop hs rfl h0 (by omega) (sortT ns) [] s3 none u3 (fun x hx => hperm.mem_iff.mp hx) (fun r hr => by simp at hr) (by have := hperm.length_eq; simp; omega) ?_
  intro rows s4 v5 u4 h4 h5
  show N _ _
  rw [hN]
  have hl4 : s4.length = st.length := u4.len
  have hrd4 : rds (s4 ++ [Cell.lst (ns.map .str), .lst (rows.map encR)]) [.loc (st.length + 1)] = some [.list (rows.map encR)] := rds1 (rd_at (get21 hl4))
  simp only [wSeq, wIf, wRet, wRetN, wAsg, wExpr, wSkip, wBrk, wCnt, wVar, wC, wBin, wUn, wIfE, wT, wTr, wNot, wAnd, wOr, wAndV, wOrV, wChain, wBinS, wUnS, wOpN, wTup, wLst, wCons, wNil, wCall, wMs, wPar, wPar3, gN, gTupN, gCons, gNil, isD, isSt, isDc, optK_some, rd_d, rdS_d, frs_nil, frs_d, rds_nil, rds_d, on1, on2, asB_b, set0, setS, get0, getS, startE, List.map_cons, List.map_nil, List.length_cons, List.length_nil, List.replicate, List.cons_append, List.nil_append, List.append_nil, Option.map_some, Option.map_none, Option.bind_some, oEq_ss, oNe_ss, oEq_ii, oNe_ii, oAdd_ii, oSub_ii, ix_0, ix_1, ix_2, ix_k0, ix_n1, ix_p1, ix_p2, ix_e1, ix_e2, hd1, hd2, hd3, hd4, hd5, hd6, fin_rt, fin_nx, ret_d, if_true, if_false, Bool.false_eq_true, Bool.true_eq_false, Bool.not_true, Bool.not_false, beq_self_eq_true, decide_true, decide_false, true_and, and_true, lit0, lit1, lit2, lit3, lit4, lit5, lit6, lit7, lit8, lit9, lit10, wYes, hrd4, show ∀ xs, oTuple (.list xs) = some (.tuple xs) from fun _ => rfl, ret_tk, take2 hl4]
  exact q _ s4 ⟨rows, rfl, ns, h0, by omega, hw, hd, by simpa using h5, h4⟩ u4
end DL.K20
/-! text K20P22 -/
namespace DL.K20
open PySem DL
/-! ### how deep a kind may get: a weight that one derivation does not raise -/
def mu (n : Nat) : Kd → Nat
  | .pair a b => n + 1 + max (mu n a) (mu n b)
  | .either a b => 1 + max (mu n a) (mu n b)
  | _ => n + 1
theorem mu_dep : ∀ k : Kd, k.dep ≤ mu 0 k
  | .thing | .non | .unit | .name _ => by simp [mu, Kd.dep]
  | .pair a b => by have := mu_dep a; have := mu_dep b; simp only [mu, Kd.dep]; omega
  | .either a b => by have := mu_dep a; have := mu_dep b; simp only [mu, Kd.dep]; omega
theorem mu_mono (n : Nat) : ∀ k : Kd, mu n k ≤ mu (n + 1) k
  | .thing | .non | .unit | .name _ => by simp [mu]
  | .pair a b => by have := mu_mono n a; have := mu_mono n b; simp only [mu]; omega
  | .either a b => by have := mu_mono n a; have := mu_mono n b; simp only [mu]; omega
theorem mu_le {m n : Nat} (h : m ≤ n) (k : Kd) : mu m k ≤ mu n k := by
  induction h with
  | refl => exact Nat.le_refl _
  | step _ ih => exact Nat.le_trans ih (mu_mono _ k)
theorem mu_dep' (n : Nat) (k : Kd) : k.dep ≤ mu n k := Nat.le_trans (mu_dep k) (mu_le (Nat.zero_le n) k)
theorem mu_start (n : Nat) : ∀ k : Kd, mu n k ≤ (n + 1) * k.dep
  | .thing | .non | .unit | .name _ => by simp [mu, Kd.dep]
  | .pair a b => by
    have h1 := mu_start n a
    have h2 := mu_start n b
    have h3 : (n + 1) * a.dep ≤ (n + 1) * max a.dep b.dep := Nat.mul_le_mul_left _ (Nat.le_max_left _ _)
    have h4 : (n + 1) * b.dep ≤ (n + 1) * max a.dep b.dep := Nat.mul_le_mul_left _ (Nat.le_max_right _ _)
    simp only [mu, Kd.dep]
    rw [Nat.mul_add]
    omega
  | .either a b => by
    have h1 := mu_start n a
    have h2 := mu_start n b
    have h3 : (n + 1) * a.dep ≤ (n + 1) * max a.dep b.dep := Nat.mul_le_mul_left _ (Nat.le_max_left _ _)
    have h4 : (n + 1) * b.dep ≤ (n + 1) * max a.dep b.dep := Nat.mul_le_mul_left _ (Nat.le_max_right _ _)
    simp only [mu, Kd.dep]
    rw [Nat.mul_add]
    omega
theorem mu_by (n : Nat) (g : Kd) : ∀ k : Kd, mu n (byK k g) ≤ mu (n + 1) k
  | .thing => by unfold byK; split <;> simp [mu]
  | .non => by simp [byK, mu]
  | .unit => by simp [byK, mu]
  | .name m => by
    unfold byK
    split
    · simp only [mu]; omega
    · simp only [mu]; omega
  | .pair a b => by
    have h1 := mu_by n g a
    have h2 := mu_by n g b
    have h3 := mu_mono n a
    have h4 := mu_mono n b
    simp only [byK, mu]
    omega
  | .either a b => by
    have h1 := mu_by n g a
    have h2 := mu_by n g b
    simp only [byK, mu]
    omega
/-! ### names behind a derivation -/
theorem by_names {g : Kd} : ∀ {k : Kd} {n : Str}, n ∈ (byK k g).names → n ∈ k.names ∨ ∃ m ∈ k.names, n = nameBy m g
  | .thing, n, h => by unfold byK at h; split at h <;> simp [Kd.names] at h
  | .non, n, h => by simp [byK, Kd.names] at h
  | .unit, n, h => by simp [byK, Kd.names] at h
  | .name m, n, h => by
    unfold byK at h
    split at h
    · simp only [Kd.names, List.nil_append, List.mem_singleton] at h
      exact .inr ⟨m, by simp [Kd.names], h⟩
    · simp only [Kd.names, List.mem_singleton] at h
      exact .inr ⟨m, by simp [Kd.names], h⟩
  | .pair a b, n, h => by
    simp only [byK, Kd.names, List.mem_append] at h
    rcases h with (h | h) | (h | h)
    · rcases by_names h with h | ⟨m, h, e⟩
      · exact .inl (by simp [Kd.names, h])
      · exact .inr ⟨m, by simp [Kd.names, h], e⟩
    · exact .inl (by simp [Kd.names, h])
    · exact .inl (by simp [Kd.names, h])
    · rcases by_names h with h | ⟨m, h, e⟩
      · exact .inl (by simp [Kd.names, h])
      · exact .inr ⟨m, by simp [Kd.names, h], e⟩
  | .either a b, n, h => by
    simp only [byK, Kd.names, List.mem_append] at h
    rcases h with h | h
    · rcases by_names h with h | ⟨m, h, e⟩
      · exact .inl (by simp [Kd.names, h])
      · exact .inr ⟨m, by simp [Kd.names, h], e⟩
    · rcases by_names h with h | ⟨m, h, e⟩
      · exact .inl (by simp [Kd.names, h])
      · exact .inr ⟨m, by simp [Kd.names, h], e⟩
theorem gapT_tail {b : List Row} {g : Kd} (h : gapB b g) : tailOk (gapT g) := by
  rcases h with rfl | ⟨m, rfl, hm, _⟩
  · exact .inl rfl
  · exact .inr hm
theorem nm_by {b : List Row} {g : Kd} {j : Nat} {n : Str} (hg : gapB b g) (h : nmOk j n) : nmOk (j + 1) (nameBy n g) := nmOk_by h (gapT_tail hg)
/-! ### books of at most so many derivations -/
structure bkJ (j : Nat) (b : List Row) : Prop where
  nm : ∀ r ∈ b, nmOk j r.1
  kn : ∀ r ∈ b, ∀ n ∈ r.2.names, nmOk j n
  mu : ∀ r ∈ b, mu (3 - j) r.2 ≤ 24
structure kdJ (j : Nat) (b : List Row) (k : Kd) : Prop where
  kn : ∀ n ∈ k.names, nmOk j n
  mu : mu (3 - j) k ≤ 24
  inn : ∀ n ∈ k.names, n ∈ b.map (·.1)
theorem madeIn_mono {b c : List Row} {r : Row} (h : ∀ s ∈ b, s ∈ c) (hm : madeIn b r) : madeIn c r := by
  rcases hm with hm | ⟨base, t, k0, h1, h2, h3, h4, h5⟩
  · exact .inl hm
  · refine .inr ⟨base, t, k0, h1, h2, h _ h3, h4, fun z => ?_⟩
    obtain ⟨s, hs, e⟩ := List.mem_map.mp (h5 z)
    exact List.mem_map.mpr ⟨s, h s hs, e⟩
theorem nb_mem {b : List Row} {g : Kd} (hb : okB b) (hg : gapB b g) {s : Row} : s ∈ nbOf b g ↔ s ∈ b ∨ ∃ r ∈ b, s = der g r := by
  rw [(nbOf_ok hb hg).2.1]
  unfold allM
  rw [List.mem_append, List.mem_map]
  constructor
  · rintro (h | ⟨r, hr, e⟩)
    · exact .inl h
    · exact .inr ⟨r, hr, e.symm⟩
  · rintro (h | ⟨r, hr, e⟩)
    · exact .inl h
    · exact .inr ⟨r, hr, e.symm⟩
theorem nb_in {b : List Row} {g : Kd} (hb : okB b) (hg : gapB b g) {n : Str} (h : n ∈ b.map (·.1)) : n ∈ (nbOf b g).map (·.1) ∧ nameBy n g ∈ (nbOf b g).map (·.1) := by
  obtain ⟨r, hr, rfl⟩ := List.mem_map.mp h
  exact ⟨List.mem_map.mpr ⟨r, (nb_mem hb hg).mpr (.inl hr), rfl⟩, List.mem_map.mpr ⟨der g r, (nb_mem hb hg).mpr (.inr ⟨r, hr, rfl⟩), rfl⟩⟩
theorem nb_J {b : List Row} {g : Kd} {j : Nat} (hb : okB b) (hg : gapB b g) (hj : j < 3) (h : bkJ j b) : bkJ (j + 1) (nbOf b g) := by
  have e : 3 - j = (3 - (j + 1)) + 1 := by omega
  refine ⟨fun r hr => ?_, fun r hr n hn => ?_, fun r hr => ?_⟩
  · rcases (nb_mem hb hg).mp hr with hr | ⟨s, hs, rfl⟩
    · exact nmOk_mono (h.nm r hr) (by omega)
    · exact nm_by hg (h.nm s hs)
  · rcases (nb_mem hb hg).mp hr with hr | ⟨s, hs, rfl⟩
    · exact nmOk_mono (h.kn r hr n hn) (by omega)
    · rcases by_names hn with hn | ⟨m, hm, rfl⟩
      · exact nmOk_mono (h.kn s hs n hn) (by omega)
      · exact nm_by hg (h.kn s hs m hm)
  · rcases (nb_mem hb hg).mp hr with hr | ⟨s, hs, rfl⟩
    · have := h.mu r hr
      have := mu_mono (3 - (j + 1)) r.2
      rw [← e] at this
      omega
    · have := h.mu s hs
      have := mu_by (3 - (j + 1)) g s.2
      rw [← e] at this
      exact Nat.le_trans this (by assumption)
theorem kd_J {b : List Row} {g k : Kd} {j : Nat} (hb : okB b) (hg : gapB b g) (hj : j < 3) (h : kdJ j b k) : kdJ (j + 1) (nbOf b g) (byK k g) := by
  have e : 3 - j = (3 - (j + 1)) + 1 := by omega
  refine ⟨fun n hn => ?_, ?_, fun n hn => ?_⟩
  · rcases by_names hn with hn | ⟨m, hm, rfl⟩
    · exact nmOk_mono (h.kn n hn) (by omega)
    · exact nm_by hg (h.kn m hm)
  · have h1 := h.mu
    have h2 := mu_by (3 - (j + 1)) g k
    rw [← e] at h2
    omega
  · rcases by_names hn with hn | ⟨m, hm, rfl⟩
    · exact (nb_in hb hg (h.inn n hn)).1
    · exact (nb_in hb hg (h.inn m hm)).2
theorem nb_ok {b : List Row} {g : Kd} {j : Nat} (hb : okB b) (hg : gapB b g) (hj : j < 3) (h : bkJ j b) (hl : (nbOf b g).length ≤ 80) (hp : ∀ r ∈ nbOf b g, r.2.parts ≤ 2000) : okB (nbOf b g) := by
  have hJ := nb_J hb hg hj h
  refine ⟨?_, hl, fun r hr => nmOk_mono (hJ.nm r hr) (by omega), fun r hr => ⟨Nat.le_trans (mu_dep' _ _) (Nat.le_trans (hJ.mu r hr) (by omega)), hp r hr, fun n hn => nmOk_mono (hJ.kn r hr n hn) (by omega)⟩, fun r hr n hn => ?_, (nbOf_ok hb hg).1, fun r hr => ?_⟩
  · intro z
    obtain ⟨r, hr⟩ := List.exists_mem_of_ne_nil b hb.ne
    have := (nb_mem hb hg).mpr (.inl hr)
    rw [z] at this
    simp at this
  · rcases (nb_mem hb hg).mp hr with hr | ⟨s, hs, rfl⟩
    · exact (nb_in hb hg (hb.inn r hr n hn)).1
    · rcases by_names hn with hn | ⟨m, hm, rfl⟩
      · exact (nb_in hb hg (hb.inn s hs n hn)).1
      · exact (nb_in hb hg (hb.inn s hs m hm)).2
  · rcases (nb_mem hb hg).mp hr with hr | ⟨s, hs, rfl⟩
    · exact madeIn_mono (fun s hs => (nb_mem hb hg).mpr (.inl hs)) (hb.made r hr)
    · obtain ⟨_, h2, h3, h4⟩ := gapT_free hg
      refine .inr ⟨s.1, gapT g, s.2, rfl, h2, (nb_mem hb hg).mpr (.inl hs), by rw [h3]; rfl, fun z => (nb_in hb hg (h4 z)).1⟩
/-! ### the first book -/
theorem lib0_ok {b : List Row} (h : libOk0 b) : okB b ∧ bkJ 0 b ∧ b.length ≤ 4 ∧ (∀ r ∈ b, r.2.parts ≤ 20) ∧ ∀ r ∈ b, wname r.1 := by
  obtain ⟨ns, h0, hl, hw, hd, he, hr⟩ := h
  have hperm : (sortT ns).Perm ns := List.mergeSort_perm _ _
  have hlen : b.length = ns.length := by
    have := congrArg List.length he
    rw [List.length_map, hperm.length_eq] at this
    exact this
  have hin : ∀ {n : Str}, n ∈ b.map (·.1) ↔ n ∈ ns := fun {n} => by rw [he]; exact hperm.mem_iff
  have w0 : ∀ {n : Str}, wname n → nmOk 0 n := fun {n} h => ⟨n, [], rfl, h, by simp, by simp⟩
  have hnm : ∀ r ∈ b, wname r.1 := fun r hr' => hw _ (hin.mp (List.mem_map.mpr ⟨r, hr', rfl⟩))
  have hs : b.Pairwise fun r s => leT r.1 s.1 = true := by
    have h1 : (sortT ns).Pairwise fun x y => leT x y = true := List.pairwise_mergeSort leT_trans leT_total _
    rw [← he, List.pairwise_map] at h1
    exact h1
  have hnd : (b.map (·.1)).Nodup := by rw [he]; exact hperm.nodup_iff.mpr hd
  refine ⟨⟨fun z => ?_, by omega, fun r h => nmOk_mono (w0 (hnm r h)) (by omega), fun r h => ⟨by have := (hr r h).1; omega, by have := (hr r h).2.1; omega, fun n hn => nmOk_mono (w0 (hw n ((hr r h).2.2 n hn))) (by omega)⟩, fun r h n hn => hin.mpr ((hr r h).2.2 n hn), strict_of hs hnd, fun r h => .inl (hnm r h)⟩, ⟨fun r h => w0 (hnm r h), fun r h n hn => w0 (hw n ((hr r h).2.2 n hn)), fun r h => ?_⟩, by omega, fun r h => (hr r h).2.1, hnm⟩
  · subst z
    simp at hlen
    exact h0 (List.length_eq_zero_iff.mp hlen.symm)
  · have h1 := mu_start 3 r.2
    have h2 := (hr r h).1
    show mu 3 r.2 ≤ 24
    omega
/-! ### reprs -/
theorem nmOk_cps {j : Nat} {n : Str} (h : nmOk j n) : ∀ c ∈ n.cps.toList, c < 16 ^ 8 := by
  obtain ⟨b, ts, rfl, hb, ht, _⟩ := h
  have hbig : (16 : Nat) ^ 8 = 4294967296 := rfl
  have wc : ∀ {s : Str}, wname s → ∀ c ∈ s.cps.toList, c < 16 ^ 8 := fun {s} h c hc => by
    obtain ⟨a, r, e, h1, h2, h3, _⟩ := h
    rw [e] at hc
    rcases List.mem_cons.mp hc with rfl | hc
    · omega
    · have := h3 c hc
      unfold sign2 at this
      omega
  have tc : ∀ {s : Str}, tailOk s → ∀ c ∈ s.cps.toList, c < 16 ^ 8 := fun {s} h => by
    rcases h with rfl | h
    · intro c hc
      exact absurd hc (by simp [show ("" : Str).cps.toList = [] from rfl])
    · exact wc h
  have gen : ∀ (us : List Str) (u : Str), (∀ c ∈ u.cps.toList, c < 16 ^ 8) → (∀ t ∈ us, tailOk t) → ∀ c ∈ (Str.join tick (u :: us)).cps.toList, c < 16 ^ 8 := by
    intro us
    induction us with
    | nil => intro u hu _; rw [join1]; exact hu
    | cons w ws ih =>
      intro u hu hw c hc
      rw [join2, str_app, str_app, tick_cps] at hc
      rcases List.mem_append.mp hc with hc | hc
      · rcases List.mem_append.mp hc with hc | hc
        · exact hu c hc
        · simp at hc; omega
      · exact ih w (tc (hw w (List.mem_cons_self ..))) (fun z hz => hw z (List.mem_cons_of_mem _ hz)) c hc
  exact gen ts b (wc hb) ht
theorem wt_nm {j : Nat} {n : Str} (h : nmOk j n) (hj : j ≤ 5) : Wt (.str n) 532 := .str n 532 (nmOk_cps h) (by have := (nmOk_len h).2; omega)
theorem wt_lit (s : Str) (n : Nat) (h : ∀ c ∈ s.cps.toList, c < 256) (hn : 10 * s.length + 2 ≤ n) : Wt (.str s) n := .str s n (fun c hc => by
  have := h c hc
  have hbig : (16 : Nat) ^ 8 = 4294967296 := rfl
  omega) hn
theorem wt_kd : ∀ k : Kd, (∀ n ∈ k.names, nmOk 5 n) → ∃ m, m ≤ 700 * k.parts ∧ Wt k.enc m
  | .thing, _ => ⟨_, by simp [Kd.parts], .tup _ _ 52 3 (wt_lit _ _ (by decide) (by decide)) .tup0⟩
  | .non, _ => ⟨_, by simp [Kd.parts], .tup _ _ 42 3 (wt_lit _ _ (by decide) (by decide)) .tup0⟩
  | .unit, _ => ⟨_, by simp [Kd.parts], .tup _ _ 42 3 (wt_lit _ _ (by decide) (by decide)) .tup0⟩
  | .name n, h => ⟨_, by simp [Kd.parts], .tup _ _ 42 _ (wt_lit _ _ (by decide) (by decide)) (.tup _ _ 532 3 (wt_nm (h n (by simp [Kd.names])) (Nat.le_refl _)) .tup0)⟩
  | .pair a b, h => by
    obtain ⟨m1, l1, w1⟩ := wt_kd a fun n hn => h n (by simp [Kd.names, hn])
    obtain ⟨m2, l2, w2⟩ := wt_kd b fun n hn => h n (by simp [Kd.names, hn])
    exact ⟨_, by simp only [Kd.parts]; omega, .tup _ _ 42 _ (wt_lit _ _ (by decide) (by decide)) (.tup _ _ m1 _ w1 (.tup _ _ m2 3 w2 .tup0))⟩
  | .either a b, h => by
    obtain ⟨m1, l1, w1⟩ := wt_kd a fun n hn => h n (by simp [Kd.names, hn])
    obtain ⟨m2, l2, w2⟩ := wt_kd b fun n hn => h n (by simp [Kd.names, hn])
    exact ⟨_, by simp only [Kd.parts]; omega, .tup _ _ 62 _ (wt_lit _ _ (by decide) (by decide)) (.tup _ _ m1 _ w1 (.tup _ _ m2 3 w2 .tup0))⟩
theorem wt_b : ∀ b : List Row, (∀ r ∈ b, nmOk 5 r.1) → (∀ r ∈ b, ∀ n ∈ r.2.names, nmOk 5 n) → ∃ m, m ≤ 700 * (b.map fun r => r.2.parts).sum + 700 * b.length + 3 ∧ Wt (encB b) m
  | [], _, _ => ⟨3, by simp, .tup0⟩
  | r :: b, h1, h2 => by
    obtain ⟨m, l, w⟩ := wt_b b (fun s hs => h1 s (List.mem_cons_of_mem _ hs)) fun s hs => h2 s (List.mem_cons_of_mem _ hs)
    obtain ⟨m2, l2, w2⟩ := wt_kd r.2 (h2 r (List.mem_cons_self ..))
    refine ⟨_, ?_, .tup (encR r) _ _ m (.tup _ _ 532 _ (wt_nm (h1 r (List.mem_cons_self ..)) (Nat.le_refl _)) (.tup _ _ m2 3 w2 .tup0)) w⟩
    simp only [List.map_cons, List.sum_cons, List.length_cons]
    omega
theorem depth_encB {b : List Row} (h : ∀ r ∈ b, r.2.dep ≤ 30) : (encB b).depth ≤ 34 := by
  have h1 : ∀ rows : List Row, (∀ r ∈ rows, r.2.dep ≤ 30) → PyData.depthAll (rows.map encR) ≤ 33 := by
    intro rows
    induction rows with
    | nil => intro _; simp [PyData.depthAll]
    | cons r rows ih =>
      intro h
      have h2 := ih fun s hs => h s (List.mem_cons_of_mem _ hs)
      have h3 := h r (List.mem_cons_self ..)
      have h4 : (encR r).depth ≤ 33 := by
        unfold encR
        simp only [PyData.depth, PyData.depthAll, Kd.enc_depth]
        omega
      rw [List.map_cons, PyData.depthAll]
      omega
  have := h1 b h
  unfold encB
  rw [PyData.depth]
  omega
theorem okRepr_kb {k : Kd} {b : List Row} (hk : ∀ n ∈ k.names, nmOk 5 n) (hd : k.dep ≤ 30) (hp : k.parts ≤ 2000) (h1 : ∀ r ∈ b, nmOk 5 r.1) (h2 : ∀ r ∈ b, ∀ n ∈ r.2.names, nmOk 5 n) (h3 : ∀ r ∈ b, r.2.dep ≤ 30)
    (hs : (b.map fun r => r.2.parts).sum ≤ 2000) (hl : b.length ≤ 80) : okRepr (.list [k.enc, encB b]) = true ∧ okRepr (.list [encB b, k.enc]) = true := by
  obtain ⟨m1, l1, w1⟩ := wt_kd k hk
  obtain ⟨m2, l2, w2⟩ := wt_b b h1 h2
  have d1 := k.enc_depth
  have d2 := depth_encB h3
  constructor
  · refine okRepr_of (n := _) (.lst _ _ m1 _ w1 (.lst _ _ m2 3 w2 .lst0)) (by omega) ?_
    simp only [PyData.depth, PyData.depthAll]
    omega
  · refine okRepr_of (n := _) (.lst _ _ m2 _ w2 (.lst _ _ m1 3 w1 .lst0)) (by omega) ?_
    simp only [PyData.depth, PyData.depthAll]
    omega
theorem okRepr_kk {k l : Kd} (hk : ∀ n ∈ k.names, nmOk 5 n) (hd : k.dep ≤ 30) (hp : k.parts ≤ 2000) (hk2 : ∀ n ∈ l.names, nmOk 5 n) (hd2 : l.dep ≤ 30) (hp2 : l.parts ≤ 2000) : okRepr (.list [.bool true, k.enc, l.enc]) = true := by
  obtain ⟨m1, l1, w1⟩ := wt_kd k hk
  obtain ⟨m2, l2, w2⟩ := wt_kd l hk2
  have d1 := k.enc_depth
  have d2 := l.enc_depth
  refine okRepr_of (n := _) (.lst _ _ 5 _ (.bl true) (.lst _ _ m1 _ w1 (.lst _ _ m2 3 w2 .lst0))) (by omega) ?_
  simp only [PyData.depth, PyData.depthAll]
  omega
end DL.K20
/-! text K20P23 -/
namespace DL.K20
open PySem DL
def pSt (st : Store) (i : Nat) (rest : List DV) (R : PyData → Prop) : Prop := ∃ b k g, rest = [.d (encB b), .d (Kd.enc k), .d (Kd.enc g)] ∧ okB b ∧ okIn b k ∧ gapB b g ∧ b.length ≤ 31 ∧ okB (nbOf b g) ∧
  okRepr (.list [(byK k g).enc, encB (nbOf b g)]) = true ∧ (∀ r ∈ b, okRepr (.list [.bool true, (byK r.2 g).enc, r.2.enc]) = true) ∧ R = fun y => y = .bool true
theorem keeps_law_step : Keeps 9 (spS pSt) (b_law_step (spF pIs) (spF (pKB 30)) (spF pKn) (spF pIb) (spF pMN) (spS pPk) (spF pBB) (spF pKy) (spF pLB)) := by
  rintro args st Q E ⟨i, rest, R, rfl, hs, ⟨b, k, g, rfl, hb, hk, hg, hl, hnb, hr1, hr2, rfl⟩, q⟩
  unfold b_law_step
  refine seq_intro fun N hN => ?_
  unfold wPar
  try simp only [wSeq, wIf, wRet, wRetN, wAsg, wExpr, wSkip, wBrk, wCnt, wVar, wC, wBin, wUn, wIfE, wT, wTr, wNot, wAnd, wOr, wAndV, wOrV, wChain, wBinS, wUnS, wOpN, wTup, wLst, wCons, wNil, wCall, wMs, wPar, wPar3, gN, gTupN, gCons, gNil, isD, isSt, isDc, optK_some, rd_d, rdS_d, frs_nil, frs_d, rds_nil, rds_d, on1, on2, asB_b, set0, setS, get0, getS, startE, List.map_cons, List.map_nil, List.length_cons, List.length_nil, List.replicate, List.cons_append, List.nil_append, List.append_nil, Option.map_some, Option.map_none, Option.bind_some, oEq_ss, oNe_ss, oEq_ii, oNe_ii, oAdd_ii, oSub_ii, ix_0, ix_1, ix_2, ix_k0, ix_n1, ix_p1, ix_p2, ix_e1, ix_e2, hd1, hd2, hd3, hd4, hd5, hd6, fin_rt, fin_nx, ret_d, if_true, if_false, Bool.false_eq_true, Bool.true_eq_false, Bool.not_true, Bool.not_false, beq_self_eq_true, decide_true, decide_false, true_and, and_true, lit0, lit1, lit2, lit3, lit4, lit5, lit6, lit7, lit8, lit9, lit10, wYes]
  refine spF_go (xs := [k.enc, g.enc]) ⟨k, g, rfl, gapB_gap hg, hk.dep, okIn_900 hk, rfl⟩ ?_
  try simp only [wSeq, wIf, wRet, wRetN, wAsg, wExpr, wSkip, wBrk, wCnt, wVar, wC, wBin, wUn, wIfE, wT, wTr, wNot, wAnd, wOr, wAndV, wOrV, wChain, wBinS, wUnS, wOpN, wTup, wLst, wCons, wNil, wCall, wMs, wPar, wPar3, gN, gTupN, gCons, gNil, isD, isSt, isDc, optK_some, rd_d, rdS_d, frs_nil, frs_d, rds_nil, rds_d, on1, on2, asB_b, set0, setS, get0, getS, startE, List.map_cons, List.map_nil, List.length_cons, List.length_nil, List.replicate, List.cons_append, List.nil_append, List.append_nil, Option.map_some, Option.map_none, Option.bind_some, oEq_ss, oNe_ss, oEq_ii, oNe_ii, oAdd_ii, oSub_ii, ix_0, ix_1, ix_2, ix_k0, ix_n1, ix_p1, ix_p2, ix_e1, ix_e2, hd1, hd2, hd3, hd4, hd5, hd6, fin_rt, fin_nx, ret_d, if_true, if_false, Bool.false_eq_true, Bool.true_eq_false, Bool.not_true, Bool.not_false, beq_self_eq_true, decide_true, decide_false, true_and, and_true, lit0, lit1, lit2, lit3, lit4, lit5, lit6, lit7, lit8, lit9, lit10, wYes]
  refine spF_go (xs := [encB b, g.enc]) ⟨b, g, rfl, hb, hg, hl, rfl⟩ ?_
  try simp only [wSeq, wIf, wRet, wRetN, wAsg, wExpr, wSkip, wBrk, wCnt, wVar, wC, wBin, wUn, wIfE, wT, wTr, wNot, wAnd, wOr, wAndV, wOrV, wChain, wBinS, wUnS, wOpN, wTup, wLst, wCons, wNil, wCall, wMs, wPar, wPar3, gN, gTupN, gCons, gNil, isD, isSt, isDc, optK_some, rd_d, rdS_d, frs_nil, frs_d, rds_nil, rds_d, on1, on2, asB_b, set0, setS, get0, getS, startE, List.map_cons, List.map_nil, List.length_cons, List.length_nil, List.replicate, List.cons_append, List.nil_append, List.append_nil, Option.map_some, Option.map_none, Option.bind_some, oEq_ss, oNe_ss, oEq_ii, oNe_ii, oAdd_ii, oSub_ii, ix_0, ix_1, ix_2, ix_k0, ix_n1, ix_p1, ix_p2, ix_e1, ix_e2, hd1, hd2, hd3, hd4, hd5, hd6, fin_rt, fin_nx, ret_d, if_true, if_false, Bool.false_eq_true, Bool.true_eq_false, Bool.not_true, Bool.not_false, beq_self_eq_true, decide_true, decide_false, true_and, and_true, lit0, lit1, lit2, lit3, lit4, lit5, lit6, lit7, lit8, lit9, lit10, wYes]
  rw [hN]
  refine seq_intro fun N hN => ?_
  try simp only [wSeq, wIf, wRet, wRetN, wAsg, wExpr, wSkip, wBrk, wCnt, wVar, wC, wBin, wUn, wIfE, wT, wTr, wNot, wAnd, wOr, wAndV, wOrV, wChain, wBinS, wUnS, wOpN, wTup, wLst, wCons, wNil, wCall, wMs, wPar, wPar3, gN, gTupN, gCons, gNil, isD, isSt, isDc, optK_some, rd_d, rdS_d, frs_nil, frs_d, rds_nil, rds_d, on1, on2, asB_b, set0, setS, get0, getS, startE, List.map_cons, List.map_nil, List.length_cons, List.length_nil, List.replicate, List.cons_append, List.nil_append, List.append_nil, Option.map_some, Option.map_none, Option.bind_some, oEq_ss, oNe_ss, oEq_ii, oNe_ii, oAdd_ii, oSub_ii, ix_0, ix_1, ix_2, ix_k0, ix_n1, ix_p1, ix_p2, ix_e1, ix_e2, hd1, hd2, hd3, hd4, hd5, hd6, fin_rt, fin_nx, ret_d, if_true, if_false, Bool.false_eq_true, Bool.true_eq_false, Bool.not_true, Bool.not_false, beq_self_eq_true, decide_true, decide_false, true_and, and_true, lit0, lit1, lit2, lit3, lit4, lit5, lit6, lit7, lit8, lit9, lit10, wYes]
  refine spF_go (xs := [encB b, k.enc, g.enc]) ⟨b, k, g, rfl, hb, hk, hg, rfl⟩ ?_
  try simp only [wSeq, wIf, wRet, wRetN, wAsg, wExpr, wSkip, wBrk, wCnt, wVar, wC, wBin, wUn, wIfE, wT, wTr, wNot, wAnd, wOr, wAndV, wOrV, wChain, wBinS, wUnS, wOpN, wTup, wLst, wCons, wNil, wCall, wMs, wPar, wPar3, gN, gTupN, gCons, gNil, isD, isSt, isDc, optK_some, rd_d, rdS_d, frs_nil, frs_d, rds_nil, rds_d, on1, on2, asB_b, set0, setS, get0, getS, startE, List.map_cons, List.map_nil, List.length_cons, List.length_nil, List.replicate, List.cons_append, List.nil_append, List.append_nil, Option.map_some, Option.map_none, Option.bind_some, oEq_ss, oNe_ss, oEq_ii, oNe_ii, oAdd_ii, oSub_ii, ix_0, ix_1, ix_2, ix_k0, ix_n1, ix_p1, ix_p2, ix_e1, ix_e2, hd1, hd2, hd3, hd4, hd5, hd6, fin_rt, fin_nx, ret_d, if_true, if_false, Bool.false_eq_true, Bool.true_eq_false, Bool.not_true, Bool.not_false, beq_self_eq_true, decide_true, decide_false, true_and, and_true, lit0, lit1, lit2, lit3, lit4, lit5, lit6, lit7, lit8, lit9, lit10, wYes]
  refine spF_go (xs := [encB b, g.enc]) ⟨b, g, rfl, hb, hg, rfl⟩ ?_
  try simp only [wSeq, wIf, wRet, wRetN, wAsg, wExpr, wSkip, wBrk, wCnt, wVar, wC, wBin, wUn, wIfE, wT, wTr, wNot, wAnd, wOr, wAndV, wOrV, wChain, wBinS, wUnS, wOpN, wTup, wLst, wCons, wNil, wCall, wMs, wPar, wPar3, gN, gTupN, gCons, gNil, isD, isSt, isDc, optK_some, rd_d, rdS_d, frs_nil, frs_d, rds_nil, rds_d, on1, on2, asB_b, set0, setS, get0, getS, startE, List.map_cons, List.map_nil, List.length_cons, List.length_nil, List.replicate, List.cons_append, List.nil_append, List.append_nil, Option.map_some, Option.map_none, Option.bind_some, oEq_ss, oNe_ss, oEq_ii, oNe_ii, oAdd_ii, oSub_ii, ix_0, ix_1, ix_2, ix_k0, ix_n1, ix_p1, ix_p2, ix_e1, ix_e2, hd1, hd2, hd3, hd4, hd5, hd6, fin_rt, fin_nx, ret_d, if_true, if_false, Bool.false_eq_true, Bool.true_eq_false, Bool.not_true, Bool.not_false, beq_self_eq_true, decide_true, decide_false, true_and, and_true, lit0, lit1, lit2, lit3, lit4, lit5, lit6, lit7, lit8, lit9, lit10, wYes]
  refine spF_go (xs := [.list [(byK k g).enc, encB (nbOf b g)], .list [(byK k g).enc, encB (nbOf b g)]]) ⟨_, rfl, hr1, rfl⟩ ?_
  try simp only [wSeq, wIf, wRet, wRetN, wAsg, wExpr, wSkip, wBrk, wCnt, wVar, wC, wBin, wUn, wIfE, wT, wTr, wNot, wAnd, wOr, wAndV, wOrV, wChain, wBinS, wUnS, wOpN, wTup, wLst, wCons, wNil, wCall, wMs, wPar, wPar3, gN, gTupN, gCons, gNil, isD, isSt, isDc, optK_some, rd_d, rdS_d, frs_nil, frs_d, rds_nil, rds_d, on1, on2, asB_b, set0, setS, get0, getS, startE, List.map_cons, List.map_nil, List.length_cons, List.length_nil, List.replicate, List.cons_append, List.nil_append, List.append_nil, Option.map_some, Option.map_none, Option.bind_some, oEq_ss, oNe_ss, oEq_ii, oNe_ii, oAdd_ii, oSub_ii, ix_0, ix_1, ix_2, ix_k0, ix_n1, ix_p1, ix_p2, ix_e1, ix_e2, hd1, hd2, hd3, hd4, hd5, hd6, fin_rt, fin_nx, ret_d, if_true, if_false, Bool.false_eq_true, Bool.true_eq_false, Bool.not_true, Bool.not_false, beq_self_eq_true, decide_true, decide_false, true_and, and_true, lit0, lit1, lit2, lit3, lit4, lit5, lit6, lit7, lit8, lit9, lit10, wYes]
  rw [hN]
  refine seq_intro fun N hN => ?_
  try simp only [wSeq, wIf, wRet, wRetN, wAsg, wExpr, wSkip, wBrk, wCnt, wVar, wC, wBin, wUn, wIfE, wT, wTr, wNot, wAnd, wOr, wAndV, wOrV, wChain, wBinS, wUnS, wOpN, wTup, wLst, wCons, wNil, wCall, wMs, wPar, wPar3, gN, gTupN, gCons, gNil, isD, isSt, isDc, optK_some, rd_d, rdS_d, frs_nil, frs_d, rds_nil, rds_d, on1, on2, asB_b, set0, setS, get0, getS, startE, List.map_cons, List.map_nil, List.length_cons, List.length_nil, List.replicate, List.cons_append, List.nil_append, List.append_nil, Option.map_some, Option.map_none, Option.bind_some, oEq_ss, oNe_ss, oEq_ii, oNe_ii, oAdd_ii, oSub_ii, ix_0, ix_1, ix_2, ix_k0, ix_n1, ix_p1, ix_p2, ix_e1, ix_e2, hd1, hd2, hd3, hd4, hd5, hd6, fin_rt, fin_nx, ret_d, if_true, if_false, Bool.false_eq_true, Bool.true_eq_false, Bool.not_true, Bool.not_false, beq_self_eq_true, decide_true, decide_false, true_and, and_true, lit0, lit1, lit2, lit3, lit4, lit5, lit6, lit7, lit8, lit9, lit10, wYes]
  refine spS_go (rest := [.d (encB b)]) hs ⟨_, b.map encR, rfl, .inr rfl, by simpa using hb.ne, by rw [List.length_map]; have := hb.len; omega, rfl⟩ ?_
  rintro y st1 hy t1
  obtain ⟨r, hr, rfl⟩ := List.mem_map.mp hy
  simp only [encR, wSeq, wIf, wRet, wRetN, wAsg, wExpr, wSkip, wBrk, wCnt, wVar, wC, wBin, wUn, wIfE, wT, wTr, wNot, wAnd, wOr, wAndV, wOrV, wChain, wBinS, wUnS, wOpN, wTup, wLst, wCons, wNil, wCall, wMs, wPar, wPar3, gN, gTupN, gCons, gNil, isD, isSt, isDc, optK_some, rd_d, rdS_d, frs_nil, frs_d, rds_nil, rds_d, on1, on2, asB_b, set0, setS, get0, getS, startE, List.map_cons, List.map_nil, List.length_cons, List.length_nil, List.replicate, List.cons_append, List.nil_append, List.append_nil, Option.map_some, Option.map_none, Option.bind_some, oEq_ss, oNe_ss, oEq_ii, oNe_ii, oAdd_ii, oSub_ii, ix_0, ix_1, ix_2, ix_k0, ix_n1, ix_p1, ix_p2, ix_e1, ix_e2, hd1, hd2, hd3, hd4, hd5, hd6, fin_rt, fin_nx, ret_d, if_true, if_false, Bool.false_eq_true, Bool.true_eq_false, Bool.not_true, Bool.not_false, beq_self_eq_true, decide_true, decide_false, true_and, and_true, lit0, lit1, lit2, lit3, lit4, lit5, lit6, lit7, lit8, lit9, lit10, wYes]
  rw [hN]
  refine seq_intro fun N hN => ?_
  try simp only [wSeq, wIf, wRet, wRetN, wAsg, wExpr, wSkip, wBrk, wCnt, wVar, wC, wBin, wUn, wIfE, wT, wTr, wNot, wAnd, wOr, wAndV, wOrV, wChain, wBinS, wUnS, wOpN, wTup, wLst, wCons, wNil, wCall, wMs, wPar, wPar3, gN, gTupN, gCons, gNil, isD, isSt, isDc, optK_some, rd_d, rdS_d, frs_nil, frs_d, rds_nil, rds_d, on1, on2, asB_b, set0, setS, get0, getS, startE, List.map_cons, List.map_nil, List.length_cons, List.length_nil, List.replicate, List.cons_append, List.nil_append, List.append_nil, Option.map_some, Option.map_none, Option.bind_some, oEq_ss, oNe_ss, oEq_ii, oNe_ii, oAdd_ii, oSub_ii, ix_0, ix_1, ix_2, ix_k0, ix_n1, ix_p1, ix_p2, ix_e1, ix_e2, hd1, hd2, hd3, hd4, hd5, hd6, fin_rt, fin_nx, ret_d, if_true, if_false, Bool.false_eq_true, Bool.true_eq_false, Bool.not_true, Bool.not_false, beq_self_eq_true, decide_true, decide_false, true_and, and_true, lit0, lit1, lit2, lit3, lit4, lit5, lit6, lit7, lit8, lit9, lit10, wYes]
  refine spF_go (xs := [.str r.1, g.enc]) ⟨r.1, g, rfl, gapB_gap hg, nm_len1000 hb hr, rfl⟩ ?_
  try simp only [wSeq, wIf, wRet, wRetN, wAsg, wExpr, wSkip, wBrk, wCnt, wVar, wC, wBin, wUn, wIfE, wT, wTr, wNot, wAnd, wOr, wAndV, wOrV, wChain, wBinS, wUnS, wOpN, wTup, wLst, wCons, wNil, wCall, wMs, wPar, wPar3, gN, gTupN, gCons, gNil, isD, isSt, isDc, optK_some, rd_d, rdS_d, frs_nil, frs_d, rds_nil, rds_d, on1, on2, asB_b, set0, setS, get0, getS, startE, List.map_cons, List.map_nil, List.length_cons, List.length_nil, List.replicate, List.cons_append, List.nil_append, List.append_nil, Option.map_some, Option.map_none, Option.bind_some, oEq_ss, oNe_ss, oEq_ii, oNe_ii, oAdd_ii, oSub_ii, ix_0, ix_1, ix_2, ix_k0, ix_n1, ix_p1, ix_p2, ix_e1, ix_e2, hd1, hd2, hd3, hd4, hd5, hd6, fin_rt, fin_nx, ret_d, if_true, if_false, Bool.false_eq_true, Bool.true_eq_false, Bool.not_true, Bool.not_false, beq_self_eq_true, decide_true, decide_false, true_and, and_true, lit0, lit1, lit2, lit3, lit4, lit5, lit6, lit7, lit8, lit9, lit10, wYes]
  have hder : der g r ∈ nbOf b g := (nb_mem hb hg).mpr (.inr ⟨r, hr, rfl⟩)
  refine spF_go (xs := [encB (nbOf b g), .str (nameBy r.1 g)]) ⟨nbOf b g, der g r, rfl, hnb, hder, rfl⟩ ?_
  try simp only [wSeq, wIf, wRet, wRetN, wAsg, wExpr, wSkip, wBrk, wCnt, wVar, wC, wBin, wUn, wIfE, wT, wTr, wNot, wAnd, wOr, wAndV, wOrV, wChain, wBinS, wUnS, wOpN, wTup, wLst, wCons, wNil, wCall, wMs, wPar, wPar3, gN, gTupN, gCons, gNil, isD, isSt, isDc, optK_some, rd_d, rdS_d, frs_nil, frs_d, rds_nil, rds_d, on1, on2, asB_b, set0, setS, get0, getS, startE, List.map_cons, List.map_nil, List.length_cons, List.length_nil, List.replicate, List.cons_append, List.nil_append, List.append_nil, Option.map_some, Option.map_none, Option.bind_some, oEq_ss, oNe_ss, oEq_ii, oNe_ii, oAdd_ii, oSub_ii, ix_0, ix_1, ix_2, ix_k0, ix_n1, ix_p1, ix_p2, ix_e1, ix_e2, hd1, hd2, hd3, hd4, hd5, hd6, fin_rt, fin_nx, ret_d, if_true, if_false, Bool.false_eq_true, Bool.true_eq_false, Bool.not_true, Bool.not_false, beq_self_eq_true, decide_true, decide_false, true_and, and_true, lit0, lit1, lit2, lit3, lit4, lit5, lit6, lit7, lit8, lit9, lit10, wYes]
  rw [hN]
  try simp only [wSeq, wIf, wRet, wRetN, wAsg, wExpr, wSkip, wBrk, wCnt, wVar, wC, wBin, wUn, wIfE, wT, wTr, wNot, wAnd, wOr, wAndV, wOrV, wChain, wBinS, wUnS, wOpN, wTup, wLst, wCons, wNil, wCall, wMs, wPar, wPar3, gN, gTupN, gCons, gNil, isD, isSt, isDc, optK_some, rd_d, rdS_d, frs_nil, frs_d, rds_nil, rds_d, on1, on2, asB_b, set0, setS, get0, getS, startE, List.map_cons, List.map_nil, List.length_cons, List.length_nil, List.replicate, List.cons_append, List.nil_append, List.append_nil, Option.map_some, Option.map_none, Option.bind_some, oEq_ss, oNe_ss, oEq_ii, oNe_ii, oAdd_ii, oSub_ii, ix_0, ix_1, ix_2, ix_k0, ix_n1, ix_p1, ix_p2, ix_e1, ix_e2, hd1, hd2, hd3, hd4, hd5, hd6, fin_rt, fin_nx, ret_d, if_true, if_false, Bool.false_eq_true, Bool.true_eq_false, Bool.not_true, Bool.not_false, beq_self_eq_true, decide_true, decide_false, true_and, and_true, lit0, lit1, lit2, lit3, lit4, lit5, lit6, lit7, lit8, lit9, lit10, wYes]
  refine spF_go (xs := [encB (nbOf b g)]) ⟨nbOf b g, rfl, hnb, rfl⟩ ?_
  try simp only [wSeq, wIf, wRet, wRetN, wAsg, wExpr, wSkip, wBrk, wCnt, wVar, wC, wBin, wUn, wIfE, wT, wTr, wNot, wAnd, wOr, wAndV, wOrV, wChain, wBinS, wUnS, wOpN, wTup, wLst, wCons, wNil, wCall, wMs, wPar, wPar3, gN, gTupN, gCons, gNil, isD, isSt, isDc, optK_some, rd_d, rdS_d, frs_nil, frs_d, rds_nil, rds_d, on1, on2, asB_b, set0, setS, get0, getS, startE, List.map_cons, List.map_nil, List.length_cons, List.length_nil, List.replicate, List.cons_append, List.nil_append, List.append_nil, Option.map_some, Option.map_none, Option.bind_some, oEq_ss, oNe_ss, oEq_ii, oNe_ii, oAdd_ii, oSub_ii, ix_0, ix_1, ix_2, ix_k0, ix_n1, ix_p1, ix_p2, ix_e1, ix_e2, hd1, hd2, hd3, hd4, hd5, hd6, fin_rt, fin_nx, ret_d, if_true, if_false, Bool.false_eq_true, Bool.true_eq_false, Bool.not_true, Bool.not_false, beq_self_eq_true, decide_true, decide_false, true_and, and_true, lit0, lit1, lit2, lit3, lit4, lit5, lit6, lit7, lit8, lit9, lit10, wYes]
  refine spF_go (xs := [encB b, .str r.1]) ⟨b, r, rfl, hb, hr, rfl⟩ ?_
  try simp only [wSeq, wIf, wRet, wRetN, wAsg, wExpr, wSkip, wBrk, wCnt, wVar, wC, wBin, wUn, wIfE, wT, wTr, wNot, wAnd, wOr, wAndV, wOrV, wChain, wBinS, wUnS, wOpN, wTup, wLst, wCons, wNil, wCall, wMs, wPar, wPar3, gN, gTupN, gCons, gNil, isD, isSt, isDc, optK_some, rd_d, rdS_d, frs_nil, frs_d, rds_nil, rds_d, on1, on2, asB_b, set0, setS, get0, getS, startE, List.map_cons, List.map_nil, List.length_cons, List.length_nil, List.replicate, List.cons_append, List.nil_append, List.append_nil, Option.map_some, Option.map_none, Option.bind_some, oEq_ss, oNe_ss, oEq_ii, oNe_ii, oAdd_ii, oSub_ii, ix_0, ix_1, ix_2, ix_k0, ix_n1, ix_p1, ix_p2, ix_e1, ix_e2, hd1, hd2, hd3, hd4, hd5, hd6, fin_rt, fin_nx, ret_d, if_true, if_false, Bool.false_eq_true, Bool.true_eq_false, Bool.not_true, Bool.not_false, beq_self_eq_true, decide_true, decide_false, true_and, and_true, lit0, lit1, lit2, lit3, lit4, lit5, lit6, lit7, lit8, lit9, lit10, wYes]
  refine spF_go (xs := [r.2.enc, g.enc]) ⟨r.2, g, rfl, gapB_gap hg, (hb.kd r hr).1, nm_len900 hb hr, rfl⟩ ?_
  try simp only [wSeq, wIf, wRet, wRetN, wAsg, wExpr, wSkip, wBrk, wCnt, wVar, wC, wBin, wUn, wIfE, wT, wTr, wNot, wAnd, wOr, wAndV, wOrV, wChain, wBinS, wUnS, wOpN, wTup, wLst, wCons, wNil, wCall, wMs, wPar, wPar3, gN, gTupN, gCons, gNil, isD, isSt, isDc, optK_some, rd_d, rdS_d, frs_nil, frs_d, rds_nil, rds_d, on1, on2, asB_b, set0, setS, get0, getS, startE, List.map_cons, List.map_nil, List.length_cons, List.length_nil, List.replicate, List.cons_append, List.nil_append, List.append_nil, Option.map_some, Option.map_none, Option.bind_some, oEq_ss, oNe_ss, oEq_ii, oNe_ii, oAdd_ii, oSub_ii, ix_0, ix_1, ix_2, ix_k0, ix_n1, ix_p1, ix_p2, ix_e1, ix_e2, hd1, hd2, hd3, hd4, hd5, hd6, fin_rt, fin_nx, ret_d, if_true, if_false, Bool.false_eq_true, Bool.true_eq_false, Bool.not_true, Bool.not_false, beq_self_eq_true, decide_true, decide_false, true_and, and_true, lit0, lit1, lit2, lit3, lit4, lit5, lit6, lit7, lit8, lit9, lit10, wYes]
  refine spF_go (xs := [.list [.bool true, (byK r.2 g).enc, r.2.enc], .list [.bool true, (byK r.2 g).enc, r.2.enc]]) ⟨_, rfl, hr2 r hr, rfl⟩ ?_
  try simp only [wSeq, wIf, wRet, wRetN, wAsg, wExpr, wSkip, wBrk, wCnt, wVar, wC, wBin, wUn, wIfE, wT, wTr, wNot, wAnd, wOr, wAndV, wOrV, wChain, wBinS, wUnS, wOpN, wTup, wLst, wCons, wNil, wCall, wMs, wPar, wPar3, gN, gTupN, gCons, gNil, isD, isSt, isDc, optK_some, rd_d, rdS_d, frs_nil, frs_d, rds_nil, rds_d, on1, on2, asB_b, set0, setS, get0, getS, startE, List.map_cons, List.map_nil, List.length_cons, List.length_nil, List.replicate, List.cons_append, List.nil_append, List.append_nil, Option.map_some, Option.map_none, Option.bind_some, oEq_ss, oNe_ss, oEq_ii, oNe_ii, oAdd_ii, oSub_ii, ix_0, ix_1, ix_2, ix_k0, ix_n1, ix_p1, ix_p2, ix_e1, ix_e2, hd1, hd2, hd3, hd4, hd5, hd6, fin_rt, fin_nx, ret_d, if_true, if_false, Bool.false_eq_true, Bool.true_eq_false, Bool.not_true, Bool.not_false, beq_self_eq_true, decide_true, decide_false, true_and, and_true, lit0, lit1, lit2, lit3, lit4, lit5, lit6, lit7, lit8, lit9, lit10, wYes]
  rw [ret_to t1]
  exact q _ st1 rfl t1
end DL.K20
/-! text K20P24 -/
namespace DL.K20
open PySem DL
/-! ### the whole of one world -/
structure Deed where
  b : List Row
  k : Kd
  g : Kd
def encDd (d : Deed) : PyData := .tuple [encB d.b, d.k.enc, d.g.enc, (byK d.k d.g).enc, encB (nbOf d.b d.g)]
structure okDd (d : Deed) : Prop where
  b : okB d.b
  k : okIn d.b d.k
  g : gapB d.b d.g
  r : okRepr (.list [encB (nbOf d.b d.g), (byK d.k d.g).enc]) = true
structure okLap (ns : List Str) (j : Nat) (b : List Row) (k : Kd) : Prop where
  okb : okB b
  bj : bkJ j b
  kj : kdJ j b k
  len : b.length ≤ 30
  kp : k.parts ≤ 300
  bp : (b.map fun r => r.2.parts).sum ≤ 700
  nsw : ∀ n ∈ ns, wname n ∧ n ∈ b.map (·.1)
theorem sum_le {b : List Row} {r : Row} (h : r ∈ b) : r.2.parts ≤ (b.map fun r => r.2.parts).sum := by
  induction b with
  | nil => simp at h
  | cons s b ih =>
    rw [List.map_cons, List.sum_cons]
    rcases List.mem_cons.mp h with rfl | h
    · omega
    · have := ih h; omega
theorem nums_map (b : List Row) : numsOf (b.map fun r => PyData.int (r.2.parts : Nat)) = some (b.map fun r => ((r.2.parts : Nat) : Int)) := by
  induction b with
  | nil => rfl
  | cons r b ih => rw [List.map_cons, List.map_cons, numsOf, ih]; rfl
theorem sum_map (b : List Row) : oSum (.list (b.map fun r => PyData.int (r.2.parts : Nat))) = some (.int (((b.map fun r => r.2.parts).sum : Nat) : Int)) := by
  show ((numsOf (b.map fun r => PyData.int (r.2.parts : Nat))).map fun ns => PyData.int ns.sum) = _
  rw [nums_map]
  have : (b.map fun r => ((r.2.parts : Nat) : Int)).sum = (((b.map fun r => r.2.parts).sum : Nat) : Int) := by
    induction b with
    | nil => rfl
    | cons r b ih => rw [List.map_cons, List.map_cons, List.sum_cons, List.sum_cons, ih]; omega
  simp only [Option.map_some, this]
theorem gap_in {ns : List Str} {j : Nat} {b : List Row} {k g : Kd} (h : okLap ns j b k) (hg : g = .thing ∨ ∃ m ∈ ns, g = .name m) : gapB b g := by
  rcases hg with hg | ⟨m, hm, hg⟩
  · exact .inl hg
  · exact .inr ⟨m, hg, (h.nsw m hm).1, (h.nsw m hm).2⟩
theorem lap_in {ns : List Str} {j : Nat} {b : List Row} {k : Kd} (h : okLap ns j b k) (hj : j ≤ 3) : okIn b k :=
  ⟨Nat.le_trans (mu_dep' _ _) (Nat.le_trans h.kj.mu (by omega)), by have := h.kp; omega, fun n hn => nmOk_mono (h.kj.kn n hn) (by omega), h.kj.inn⟩
theorem lc_map {α : Type} {g : WG} {tt : WT} {te : WE} {env : Env} {Q : List PyData → Store → Prop} {st : Store} (h : α → DV) (f : α → PyData) : ∀ (ys : List α) (acc : List PyData) {xs : List DV}, xs = ys.map h →
    (∀ x ∈ ys, ∀ (K1 : PyData → Store → Prop) (K2 : Store → Prop), K1 (f x) st →
      g (h x) env st fun env1 st1 => tt env1 st1 fun b st2 => if b = true then te env1 st2 fun r st3 => (match r with | .d y => K1 y st3 | _ => False) else K2 st2) →
    Q (acc ++ ys.map f) st → lcGo g tt te env Q xs acc st
  | [], acc, _, rfl, _, q => by
    show Q acc st
    simpa using q
  | x :: ys, acc, _, rfl, hx, q => by
    refine hx x (List.mem_cons_self ..) (fun y st3 => lcGo g tt te env Q (ys.map h) (acc ++ [y]) st3) (fun st2 => lcGo g tt te env Q (ys.map h) acc st2) ?_
    refine lc_map h f ys _ rfl (fun y hy => hx y (List.mem_cons_of_mem _ hy)) ?_
    rw [List.append_assoc]
    exact q
theorem it_b (b : List Row) : itemsOf (encB b) = some (b.map encR) := rfl
theorem get10 {s : Store} {n : Nat} {c : Cell} (h : s.length = n) : (s ++ [c])[n]? = some c := by subst h; simp
theorem set10 {s : Store} {n : Nat} {c e : Cell} (h : s.length = n) : (s ++ [c]).set n e = s ++ [e] := by subst h; simp
abbrev LE (i n : Nat) (b : List Row) (ns : List Str) (k : Kd) (v5 v6 v7 v8 v9 v10 : Option DV) : Env := [some (.loc i), some (.d (encB b)), some (.d (.list (ns.map .str))), some (.loc n), some (.d k.enc), v5, v6, v7, v8, v9, v10]
def lapBody (E : EK) : WS := (wSeq (wAsg (wCall (spS pGp) E (wCons (wVar 0) (wCons (wVar 2) wNil))) (gN 6))
    (wSeq (wPar 7 8 (wCall (spF (pKB 30)) E (wCons (wVar 4) (wCons (wVar 6) wNil))) (wCall (spF pLB) E (wCons (wVar 1) (wCons (wVar 6) wNil))))
    (wSeq (wIf (wOr (wT (wBin oGt (wUnS oLen (wVar 8)) (wC (.int 30)))) (wOr (wT (wBin oGt (wCall (spF (pPa 30)) E (wCons (wVar 7) wNil)) (wC (.int 300)))) (wT (wBin oGt (wOpN (on1 oSum) (wCons (DL.wLc (iSeq (wVar 8)) (DL.gTupN 2 (DL.gCons (gN 9) (DL.gCons (gN 10) DL.gNil))) wYes (wCall (spF (pPa 30)) E (wCons (wVar 10) wNil)) [9, 10]) wNil)) (wC (.int 700)))))) wBrk wSkip)
    (wSeq (wIf (wNot (wT (wCall (spS pSt) E (wCons (wVar 0) (wCons (wVar 1) (wCons (wVar 4) (wCons (wVar 6) wNil))))))) (wRet (wC (.bool false))) wSkip)
    (wSeq (wExpr (wMtM oAppend (wVar 3) (wCons (wTup (wCons (wVar 1) (wCons (wVar 4) (wCons (wVar 6) (wCons (wVar 7) (wCons (wVar 8) wNil)))))) wNil)))
    (wSeq (wPar 1 4 (wVar 8) (wVar 7))
    (wIf (wT (wBin oEq (wCall (spS pDr) E (wCons (wVar 0) (wCons (wC (.int 3)) wNil))) (wC (.int 0)))) (wAsg (wTup (wCons (wC (.str "name")) (wCons (wBinS oIx (wCall (spS pPk) E (wCons (wVar 0) (wCons (wVar 8) wNil))) (wC (.int 0))) wNil))) (gN 4)) wSkip)))))))
theorem lap_loop {E : EK} {D : DL.Fin} {i n : Nat} {st0 : Store} {ns : List Str} (hs : Spr st0 i) (hn : st0.length = n) (h0 : ns ≠ []) (hl : ns.length ≤ 4)
    (hq : ∀ (ds : List Deed) (s : Store) env, (∃ b k v5 v6 v7 v8 v9 v10, env = LE i n b ns k v5 v6 v7 v8 v9 v10) → SpTo st0 i s → (∀ d ∈ ds, okDd d) → D.nx env (s ++ [.lst (ds.map encDd)])) : ∀ (xs : List DV) (j : Nat) (b : List Row) (k : Kd) (ds : List Deed) (s : Store) (v5 v6 v7 v8 v9 v10 : Option DV), j + xs.length ≤ 3 → okLap ns j b k → (∀ d ∈ ds, okDd d) → ds.length ≤ j → SpTo st0 i s →
    forGo (gN 5) (lapBody E) D xs (LE i n b ns k v5 v6 v7 v8 v9 v10) (s ++ [.lst (ds.map encDd)])
  | [], j, b, k, ds, s, v5, v6, v7, v8, v9, v10, _, _, hd, _, t => hq ds s _ ⟨b, k, v5, v6, v7, v8, v9, v10, rfl⟩ t hd
  | x :: xs, j, b, k, ds, s, v5, v6, v7, v8, v9, v10, hj, ok, hd, hdl, t => by
    simp only [List.length_cons] at hj
    show lapBody E { D with nx := forGo (gN 5) (lapBody E) D xs, ct := forGo (gN 5) (lapBody E) D xs, bk := D.nx } (LE i n b ns k (some x) v6 v7 v8 v9 v10) _
    have next0 := fun b k ds s v5 v6 v7 v8 v9 v10 => lap_loop (E := E) (D := D) hs hn h0 hl hq xs (j + 1) b k ds s v5 v6 v7 v8 v9 v10 (by omega)
    generalize forGo (gN 5) (lapBody E) D xs = K at next0
    unfold lapBody
    have hsl : s.length = n := by rw [t.len]; exact hn
    refine seq_intro fun N hN => ?_
    try simp only [wSeq, wIf, wRet, wRetN, wAsg, wExpr, wSkip, wBrk, wCnt, wVar, wC, wBin, wUn, wIfE, wT, wTr, wNot, wAnd, wOr, wAndV, wOrV, wChain, wBinS, wUnS, wOpN, wTup, wLst, wCons, wNil, wCall, wMs, wPar, wPar3, gN, gTupN, gCons, gNil, isD, isSt, isDc, optK_some, rd_d, rdS_d, frs_nil, frs_d, rds_nil, rds_d, on1, on2, asB_b, set0, setS, get0, getS, startE, List.map_cons, List.map_nil, List.length_cons, List.length_nil, List.replicate, List.cons_append, List.nil_append, List.append_nil, Option.map_some, Option.map_none, Option.bind_some, oEq_ss, oNe_ss, oEq_ii, oNe_ii, oAdd_ii, oSub_ii, ix_0, ix_1, ix_2, ix_k0, ix_n1, ix_p1, ix_p2, ix_e1, ix_e2, hd1, hd2, hd3, hd4, hd5, hd6, fin_rt, fin_nx, ret_d, if_true, if_false, Bool.false_eq_true, Bool.true_eq_false, Bool.not_true, Bool.not_false, beq_self_eq_true, decide_true, decide_false, true_and, and_true, lit0, lit1, lit2, lit3, lit4, lit5, lit6, lit7, lit8, lit9, lit10, wYes]
    refine spS_go (rest := [.d (.list (ns.map .str))]) ((t.spr hs).app _) ⟨_, ns, rfl, .inl rfl, h0, by omega, rfl⟩ ?_
    rintro y st1 ⟨g, rfl, hg⟩ t1
    obtain ⟨s1, rfl, u1⟩ := t1.app (t.spr hs).lt
    have w1 := t.trans u1
    try simp only [wSeq, wIf, wRet, wRetN, wAsg, wExpr, wSkip, wBrk, wCnt, wVar, wC, wBin, wUn, wIfE, wT, wTr, wNot, wAnd, wOr, wAndV, wOrV, wChain, wBinS, wUnS, wOpN, wTup, wLst, wCons, wNil, wCall, wMs, wPar, wPar3, gN, gTupN, gCons, gNil, isD, isSt, isDc, optK_some, rd_d, rdS_d, frs_nil, frs_d, rds_nil, rds_d, on1, on2, asB_b, set0, setS, get0, getS, startE, List.map_cons, List.map_nil, List.length_cons, List.length_nil, List.replicate, List.cons_append, List.nil_append, List.append_nil, Option.map_some, Option.map_none, Option.bind_some, oEq_ss, oNe_ss, oEq_ii, oNe_ii, oAdd_ii, oSub_ii, ix_0, ix_1, ix_2, ix_k0, ix_n1, ix_p1, ix_p2, ix_e1, ix_e2, hd1, hd2, hd3, hd4, hd5, hd6, fin_rt, fin_nx, ret_d, if_true, if_false, Bool.false_eq_true, Bool.true_eq_false, Bool.not_true, Bool.not_false, beq_self_eq_true, decide_true, decide_false, true_and, and_true, lit0, lit1, lit2, lit3, lit4, lit5, lit6, lit7, lit8, lit9, lit10, wYes]
    rw [hN]
    have hgb := gap_in ok hg
    have hin := lap_in ok (by omega)
    refine seq_intro fun N hN => ?_
    unfold wPar
    try simp only [wSeq, wIf, wRet, wRetN, wAsg, wExpr, wSkip, wBrk, wCnt, wVar, wC, wBin, wUn, wIfE, wT, wTr, wNot, wAnd, wOr, wAndV, wOrV, wChain, wBinS, wUnS, wOpN, wTup, wLst, wCons, wNil, wCall, wMs, wPar, wPar3, gN, gTupN, gCons, gNil, isD, isSt, isDc, optK_some, rd_d, rdS_d, frs_nil, frs_d, rds_nil, rds_d, on1, on2, asB_b, set0, setS, get0, getS, startE, List.map_cons, List.map_nil, List.length_cons, List.length_nil, List.replicate, List.cons_append, List.nil_append, List.append_nil, Option.map_some, Option.map_none, Option.bind_some, oEq_ss, oNe_ss, oEq_ii, oNe_ii, oAdd_ii, oSub_ii, ix_0, ix_1, ix_2, ix_k0, ix_n1, ix_p1, ix_p2, ix_e1, ix_e2, hd1, hd2, hd3, hd4, hd5, hd6, fin_rt, fin_nx, ret_d, if_true, if_false, Bool.false_eq_true, Bool.true_eq_false, Bool.not_true, Bool.not_false, beq_self_eq_true, decide_true, decide_false, true_and, and_true, lit0, lit1, lit2, lit3, lit4, lit5, lit6, lit7, lit8, lit9, lit10, wYes]
    refine spF_go (xs := [k.enc, g.enc]) ⟨k, g, rfl, gapB_gap hgb, hin.dep, okIn_900 hin, rfl⟩ ?_
    try simp only [wSeq, wIf, wRet, wRetN, wAsg, wExpr, wSkip, wBrk, wCnt, wVar, wC, wBin, wUn, wIfE, wT, wTr, wNot, wAnd, wOr, wAndV, wOrV, wChain, wBinS, wUnS, wOpN, wTup, wLst, wCons, wNil, wCall, wMs, wPar, wPar3, gN, gTupN, gCons, gNil, isD, isSt, isDc, optK_some, rd_d, rdS_d, frs_nil, frs_d, rds_nil, rds_d, on1, on2, asB_b, set0, setS, get0, getS, startE, List.map_cons, List.map_nil, List.length_cons, List.length_nil, List.replicate, List.cons_append, List.nil_append, List.append_nil, Option.map_some, Option.map_none, Option.bind_some, oEq_ss, oNe_ss, oEq_ii, oNe_ii, oAdd_ii, oSub_ii, ix_0, ix_1, ix_2, ix_k0, ix_n1, ix_p1, ix_p2, ix_e1, ix_e2, hd1, hd2, hd3, hd4, hd5, hd6, fin_rt, fin_nx, ret_d, if_true, if_false, Bool.false_eq_true, Bool.true_eq_false, Bool.not_true, Bool.not_false, beq_self_eq_true, decide_true, decide_false, true_and, and_true, lit0, lit1, lit2, lit3, lit4, lit5, lit6, lit7, lit8, lit9, lit10, wYes]
    refine spF_go (xs := [encB b, g.enc]) ⟨b, g, rfl, ok.okb, hgb, by have := ok.len; omega, rfl⟩ ?_
    try simp only [wSeq, wIf, wRet, wRetN, wAsg, wExpr, wSkip, wBrk, wCnt, wVar, wC, wBin, wUn, wIfE, wT, wTr, wNot, wAnd, wOr, wAndV, wOrV, wChain, wBinS, wUnS, wOpN, wTup, wLst, wCons, wNil, wCall, wMs, wPar, wPar3, gN, gTupN, gCons, gNil, isD, isSt, isDc, optK_some, rd_d, rdS_d, frs_nil, frs_d, rds_nil, rds_d, on1, on2, asB_b, set0, setS, get0, getS, startE, List.map_cons, List.map_nil, List.length_cons, List.length_nil, List.replicate, List.cons_append, List.nil_append, List.append_nil, Option.map_some, Option.map_none, Option.bind_some, oEq_ss, oNe_ss, oEq_ii, oNe_ii, oAdd_ii, oSub_ii, ix_0, ix_1, ix_2, ix_k0, ix_n1, ix_p1, ix_p2, ix_e1, ix_e2, hd1, hd2, hd3, hd4, hd5, hd6, fin_rt, fin_nx, ret_d, if_true, if_false, Bool.false_eq_true, Bool.true_eq_false, Bool.not_true, Bool.not_false, beq_self_eq_true, decide_true, decide_false, true_and, and_true, lit0, lit1, lit2, lit3, lit4, lit5, lit6, lit7, lit8, lit9, lit10, wYes]
    rw [hN]
    have hbj := nb_J ok.okb hgb (by omega) ok.bj
    have hkj := kd_J ok.okb hgb (by omega) ok.kj
    have hdep : (byK k g).dep ≤ 30 := Nat.le_trans (mu_dep' _ _) (Nat.le_trans hkj.mu (by omega))
    have hdepB : ∀ r ∈ nbOf b g, r.2.dep ≤ 30 := fun r hr => Nat.le_trans (mu_dep' _ _) (Nat.le_trans (hbj.mu r hr) (by omega))
    refine seq_intro fun N hN => ?_
    have brk : D.nx (LE i n b ns k (some x) (some (.d g.enc)) (some (.d (byK k g).enc)) (some (.d (encB (nbOf b g)))) v9 v10) (s1 ++ [.lst (ds.map encDd)]) := hq ds s1 _ ⟨_, _, _, _, _, _, _, _, rfl⟩ w1 hd
    by_cases c1 : 30 < (nbOf b g).length
    · simp only [wSeq, wIf, wRet, wRetN, wAsg, wExpr, wSkip, wBrk, wCnt, wVar, wC, wBin, wUn, wIfE, wT, wTr, wNot, wAnd, wOr, wAndV, wOrV, wChain, wBinS, wUnS, wOpN, wTup, wLst, wCons, wNil, wCall, wMs, wPar, wPar3, gN, gTupN, gCons, gNil, isD, isSt, isDc, optK_some, rd_d, rdS_d, frs_nil, frs_d, rds_nil, rds_d, on1, on2, asB_b, set0, setS, get0, getS, startE, List.map_cons, List.map_nil, List.length_cons, List.length_nil, List.replicate, List.cons_append, List.nil_append, List.append_nil, Option.map_some, Option.map_none, Option.bind_some, oEq_ss, oNe_ss, oEq_ii, oNe_ii, oAdd_ii, oSub_ii, ix_0, ix_1, ix_2, ix_k0, ix_n1, ix_p1, ix_p2, ix_e1, ix_e2, hd1, hd2, hd3, hd4, hd5, hd6, fin_rt, fin_nx, ret_d, if_true, if_false, Bool.false_eq_true, Bool.true_eq_false, Bool.not_true, Bool.not_false, beq_self_eq_true, decide_true, decide_false, true_and, and_true, lit0, lit1, lit2, lit3, lit4, lit5, lit6, lit7, lit8, lit9, lit10, wYes, len_b, oGt_ii, decide_eq_true (show (30 : Int) < (((nbOf b g).length : Nat) : Int) by omega)]
      exact brk
    by_cases c2 : 300 < (byK k g).parts
    · simp only [wSeq, wIf, wRet, wRetN, wAsg, wExpr, wSkip, wBrk, wCnt, wVar, wC, wBin, wUn, wIfE, wT, wTr, wNot, wAnd, wOr, wAndV, wOrV, wChain, wBinS, wUnS, wOpN, wTup, wLst, wCons, wNil, wCall, wMs, wPar, wPar3, gN, gTupN, gCons, gNil, isD, isSt, isDc, optK_some, rd_d, rdS_d, frs_nil, frs_d, rds_nil, rds_d, on1, on2, asB_b, set0, setS, get0, getS, startE, List.map_cons, List.map_nil, List.length_cons, List.length_nil, List.replicate, List.cons_append, List.nil_append, List.append_nil, Option.map_some, Option.map_none, Option.bind_some, oEq_ss, oNe_ss, oEq_ii, oNe_ii, oAdd_ii, oSub_ii, ix_0, ix_1, ix_2, ix_k0, ix_n1, ix_p1, ix_p2, ix_e1, ix_e2, hd1, hd2, hd3, hd4, hd5, hd6, fin_rt, fin_nx, ret_d, if_true, if_false, Bool.false_eq_true, Bool.true_eq_false, Bool.not_true, Bool.not_false, beq_self_eq_true, decide_true, decide_false, true_and, and_true, lit0, lit1, lit2, lit3, lit4, lit5, lit6, lit7, lit8, lit9, lit10, wYes, len_b, oGt_ii, decide_eq_false (show ¬ (30 : Int) < (((nbOf b g).length : Nat) : Int) by omega)]
      refine spF_go (xs := [(byK k g).enc]) ⟨byK k g, rfl, hdep, rfl⟩ ?_
      simp only [wSeq, wIf, wRet, wRetN, wAsg, wExpr, wSkip, wBrk, wCnt, wVar, wC, wBin, wUn, wIfE, wT, wTr, wNot, wAnd, wOr, wAndV, wOrV, wChain, wBinS, wUnS, wOpN, wTup, wLst, wCons, wNil, wCall, wMs, wPar, wPar3, gN, gTupN, gCons, gNil, isD, isSt, isDc, optK_some, rd_d, rdS_d, frs_nil, frs_d, rds_nil, rds_d, on1, on2, asB_b, set0, setS, get0, getS, startE, List.map_cons, List.map_nil, List.length_cons, List.length_nil, List.replicate, List.cons_append, List.nil_append, List.append_nil, Option.map_some, Option.map_none, Option.bind_some, oEq_ss, oNe_ss, oEq_ii, oNe_ii, oAdd_ii, oSub_ii, ix_0, ix_1, ix_2, ix_k0, ix_n1, ix_p1, ix_p2, ix_e1, ix_e2, hd1, hd2, hd3, hd4, hd5, hd6, fin_rt, fin_nx, ret_d, if_true, if_false, Bool.false_eq_true, Bool.true_eq_false, Bool.not_true, Bool.not_false, beq_self_eq_true, decide_true, decide_false, true_and, and_true, lit0, lit1, lit2, lit3, lit4, lit5, lit6, lit7, lit8, lit9, lit10, wYes, oGt_ii, decide_eq_true (show (300 : Int) < (((byK k g).parts : Nat) : Int) by omega)]
      exact brk
    simp only [wSeq, wIf, wRet, wRetN, wAsg, wExpr, wSkip, wBrk, wCnt, wVar, wC, wBin, wUn, wIfE, wT, wTr, wNot, wAnd, wOr, wAndV, wOrV, wChain, wBinS, wUnS, wOpN, wTup, wLst, wCons, wNil, wCall, wMs, wPar, wPar3, gN, gTupN, gCons, gNil, isD, isSt, isDc, optK_some, rd_d, rdS_d, frs_nil, frs_d, rds_nil, rds_d, on1, on2, asB_b, set0, setS, get0, getS, startE, List.map_cons, List.map_nil, List.length_cons, List.length_nil, List.replicate, List.cons_append, List.nil_append, List.append_nil, Option.map_some, Option.map_none, Option.bind_some, oEq_ss, oNe_ss, oEq_ii, oNe_ii, oAdd_ii, oSub_ii, ix_0, ix_1, ix_2, ix_k0, ix_n1, ix_p1, ix_p2, ix_e1, ix_e2, hd1, hd2, hd3, hd4, hd5, hd6, fin_rt, fin_nx, ret_d, if_true, if_false, Bool.false_eq_true, Bool.true_eq_false, Bool.not_true, Bool.not_false, beq_self_eq_true, decide_true, decide_false, true_and, and_true, lit0, lit1, lit2, lit3, lit4, lit5, lit6, lit7, lit8, lit9, lit10, wYes, len_b, oGt_ii, decide_eq_false (show ¬ (30 : Int) < (((nbOf b g).length : Nat) : Int) by omega)]
    refine spF_go (xs := [(byK k g).enc]) ⟨byK k g, rfl, hdep, rfl⟩ ?_
    simp only [wSeq, wIf, wRet, wRetN, wAsg, wExpr, wSkip, wBrk, wCnt, wVar, wC, wBin, wUn, wIfE, wT, wTr, wNot, wAnd, wOr, wAndV, wOrV, wChain, wBinS, wUnS, wOpN, wTup, wLst, wCons, wNil, wCall, wMs, wPar, wPar3, gN, gTupN, gCons, gNil, isD, isSt, isDc, optK_some, rd_d, rdS_d, frs_nil, frs_d, rds_nil, rds_d, on1, on2, asB_b, set0, setS, get0, getS, startE, List.map_cons, List.map_nil, List.length_cons, List.length_nil, List.replicate, List.cons_append, List.nil_append, List.append_nil, Option.map_some, Option.map_none, Option.bind_some, oEq_ss, oNe_ss, oEq_ii, oNe_ii, oAdd_ii, oSub_ii, ix_0, ix_1, ix_2, ix_k0, ix_n1, ix_p1, ix_p2, ix_e1, ix_e2, hd1, hd2, hd3, hd4, hd5, hd6, fin_rt, fin_nx, ret_d, if_true, if_false, Bool.false_eq_true, Bool.true_eq_false, Bool.not_true, Bool.not_false, beq_self_eq_true, decide_true, decide_false, true_and, and_true, lit0, lit1, lit2, lit3, lit4, lit5, lit6, lit7, lit8, lit9, lit10, wYes, oGt_ii, decide_eq_false (show ¬ (300 : Int) < (((byK k g).parts : Nat) : Int) by omega), wLc, iSeq, it_b, wipeE]
    refine lc_map (fun r : Row => DV.d (encR r)) (fun r : Row => PyData.int (r.2.parts : Nat)) (nbOf b g) [] (xs := _) (by rw [List.map_map]; rfl) (fun r hr K1 K2 hk1 => ?_) ?_
    · simp only [encR, wSeq, wIf, wRet, wRetN, wAsg, wExpr, wSkip, wBrk, wCnt, wVar, wC, wBin, wUn, wIfE, wT, wTr, wNot, wAnd, wOr, wAndV, wOrV, wChain, wBinS, wUnS, wOpN, wTup, wLst, wCons, wNil, wCall, wMs, wPar, wPar3, gN, gTupN, gCons, gNil, isD, isSt, isDc, optK_some, rd_d, rdS_d, frs_nil, frs_d, rds_nil, rds_d, on1, on2, asB_b, set0, setS, get0, getS, startE, List.map_cons, List.map_nil, List.length_cons, List.length_nil, List.replicate, List.cons_append, List.nil_append, List.append_nil, Option.map_some, Option.map_none, Option.bind_some, oEq_ss, oNe_ss, oEq_ii, oNe_ii, oAdd_ii, oSub_ii, ix_0, ix_1, ix_2, ix_k0, ix_n1, ix_p1, ix_p2, ix_e1, ix_e2, hd1, hd2, hd3, hd4, hd5, hd6, fin_rt, fin_nx, ret_d, if_true, if_false, Bool.false_eq_true, Bool.true_eq_false, Bool.not_true, Bool.not_false, beq_self_eq_true, decide_true, decide_false, true_and, and_true, lit0, lit1, lit2, lit3, lit4, lit5, lit6, lit7, lit8, lit9, lit10, wYes]
      refine spF_go (xs := [r.2.enc]) ⟨r.2, rfl, hdepB r hr, rfl⟩ ?_
      exact hk1
    simp only [List.nil_append, wSeq, wIf, wRet, wRetN, wAsg, wExpr, wSkip, wBrk, wCnt, wVar, wC, wBin, wUn, wIfE, wT, wTr, wNot, wAnd, wOr, wAndV, wOrV, wChain, wBinS, wUnS, wOpN, wTup, wLst, wCons, wNil, wCall, wMs, wPar, wPar3, gN, gTupN, gCons, gNil, isD, isSt, isDc, optK_some, rd_d, rdS_d, frs_nil, frs_d, rds_nil, rds_d, on1, on2, asB_b, set0, setS, get0, getS, startE, List.map_cons, List.map_nil, List.length_cons, List.length_nil, List.replicate, List.cons_append, List.nil_append, List.append_nil, Option.map_some, Option.map_none, Option.bind_some, oEq_ss, oNe_ss, oEq_ii, oNe_ii, oAdd_ii, oSub_ii, ix_0, ix_1, ix_2, ix_k0, ix_n1, ix_p1, ix_p2, ix_e1, ix_e2, hd1, hd2, hd3, hd4, hd5, hd6, fin_rt, fin_nx, ret_d, if_true, if_false, Bool.false_eq_true, Bool.true_eq_false, Bool.not_true, Bool.not_false, beq_self_eq_true, decide_true, decide_false, true_and, and_true, lit0, lit1, lit2, lit3, lit4, lit5, lit6, lit7, lit8, lit9, lit10, wYes, sum_map]
    by_cases c3 : 700 < ((nbOf b g).map fun r => r.2.parts).sum
    · simp only [oGt_ii, decide_eq_true (show (700 : Int) < ((((nbOf b g).map fun r => r.2.parts).sum : Nat) : Int) by omega), wSeq, wIf, wRet, wRetN, wAsg, wExpr, wSkip, wBrk, wCnt, wVar, wC, wBin, wUn, wIfE, wT, wTr, wNot, wAnd, wOr, wAndV, wOrV, wChain, wBinS, wUnS, wOpN, wTup, wLst, wCons, wNil, wCall, wMs, wPar, wPar3, gN, gTupN, gCons, gNil, isD, isSt, isDc, optK_some, rd_d, rdS_d, frs_nil, frs_d, rds_nil, rds_d, on1, on2, asB_b, set0, setS, get0, getS, startE, List.map_cons, List.map_nil, List.length_cons, List.length_nil, List.replicate, List.cons_append, List.nil_append, List.append_nil, Option.map_some, Option.map_none, Option.bind_some, oEq_ss, oNe_ss, oEq_ii, oNe_ii, oAdd_ii, oSub_ii, ix_0, ix_1, ix_2, ix_k0, ix_n1, ix_p1, ix_p2, ix_e1, ix_e2, hd1, hd2, hd3, hd4, hd5, hd6, fin_rt, fin_nx, ret_d, if_true, if_false, Bool.false_eq_true, Bool.true_eq_false, Bool.not_true, Bool.not_false, beq_self_eq_true, decide_true, decide_false, true_and, and_true, lit0, lit1, lit2, lit3, lit4, lit5, lit6, lit7, lit8, lit9, lit10, wYes]
      exact brk
    simp only [oGt_ii, decide_eq_false (show ¬ (700 : Int) < ((((nbOf b g).map fun r => r.2.parts).sum : Nat) : Int) by omega), wSeq, wIf, wRet, wRetN, wAsg, wExpr, wSkip, wBrk, wCnt, wVar, wC, wBin, wUn, wIfE, wT, wTr, wNot, wAnd, wOr, wAndV, wOrV, wChain, wBinS, wUnS, wOpN, wTup, wLst, wCons, wNil, wCall, wMs, wPar, wPar3, gN, gTupN, gCons, gNil, isD, isSt, isDc, optK_some, rd_d, rdS_d, frs_nil, frs_d, rds_nil, rds_d, on1, on2, asB_b, set0, setS, get0, getS, startE, List.map_cons, List.map_nil, List.length_cons, List.length_nil, List.replicate, List.cons_append, List.nil_append, List.append_nil, Option.map_some, Option.map_none, Option.bind_some, oEq_ss, oNe_ss, oEq_ii, oNe_ii, oAdd_ii, oSub_ii, ix_0, ix_1, ix_2, ix_k0, ix_n1, ix_p1, ix_p2, ix_e1, ix_e2, hd1, hd2, hd3, hd4, hd5, hd6, fin_rt, fin_nx, ret_d, if_true, if_false, Bool.false_eq_true, Bool.true_eq_false, Bool.not_true, Bool.not_false, beq_self_eq_true, decide_true, decide_false, true_and, and_true, lit0, lit1, lit2, lit3, lit4, lit5, lit6, lit7, lit8, lit9, lit10, wYes]
    rw [hN]
    have hpB : ∀ r ∈ nbOf b g, r.2.parts ≤ 700 := fun r hr => by have := sum_le hr; omega
    have hnb : okB (nbOf b g) := nb_ok ok.okb hgb (by omega) ok.bj (by omega) fun r hr => by have := hpB r hr; omega
    have n5 : ∀ r ∈ nbOf b g, nmOk 5 r.1 := fun r hr => nmOk_mono (hbj.nm r hr) (by omega)
    have k5 : ∀ r ∈ nbOf b g, ∀ n ∈ r.2.names, nmOk 5 n := fun r hr n hn => nmOk_mono (hbj.kn r hr n hn) (by omega)
    have rep := okRepr_kb (k := byK k g) (b := nbOf b g) (fun n hn => nmOk_mono (hkj.kn n hn) (by omega)) hdep (by omega) n5 k5 hdepB (by omega) (by omega)
    have rep2 : ∀ r ∈ b, okRepr (.list [.bool true, (byK r.2 g).enc, r.2.enc]) = true := fun r hr => by
      have h1 : der g r ∈ nbOf b g := (nb_mem ok.okb hgb).mpr (.inr ⟨r, hr, rfl⟩)
      have h2 : r ∈ nbOf b g := (nb_mem ok.okb hgb).mpr (.inl hr)
      exact okRepr_kk (k5 _ h1) (hdepB _ h1) (by have : (byK r.2 g).parts ≤ 700 := hpB _ h1; omega) (k5 _ h2) (hdepB _ h2) (by have := hpB _ h2; omega)
    refine seq_intro fun N hN => ?_
    try simp only [wSeq, wIf, wRet, wRetN, wAsg, wExpr, wSkip, wBrk, wCnt, wVar, wC, wBin, wUn, wIfE, wT, wTr, wNot, wAnd, wOr, wAndV, wOrV, wChain, wBinS, wUnS, wOpN, wTup, wLst, wCons, wNil, wCall, wMs, wPar, wPar3, gN, gTupN, gCons, gNil, isD, isSt, isDc, optK_some, rd_d, rdS_d, frs_nil, frs_d, rds_nil, rds_d, on1, on2, asB_b, set0, setS, get0, getS, startE, List.map_cons, List.map_nil, List.length_cons, List.length_nil, List.replicate, List.cons_append, List.nil_append, List.append_nil, Option.map_some, Option.map_none, Option.bind_some, oEq_ss, oNe_ss, oEq_ii, oNe_ii, oAdd_ii, oSub_ii, ix_0, ix_1, ix_2, ix_k0, ix_n1, ix_p1, ix_p2, ix_e1, ix_e2, hd1, hd2, hd3, hd4, hd5, hd6, fin_rt, fin_nx, ret_d, if_true, if_false, Bool.false_eq_true, Bool.true_eq_false, Bool.not_true, Bool.not_false, beq_self_eq_true, decide_true, decide_false, true_and, and_true, lit0, lit1, lit2, lit3, lit4, lit5, lit6, lit7, lit8, lit9, lit10, wYes]
    have hs1 : Spr s1 i := w1.spr hs
    refine spS_go (rest := [.d (encB b), .d k.enc, .d g.enc]) (hs1.app _) ⟨b, k, g, rfl, ok.okb, hin, hgb, by have := ok.len; omega, hnb, rep.1, rep2, rfl⟩ ?_
    rintro y st2 rfl t2
    obtain ⟨s2, rfl, u2⟩ := t2.app hs1.lt
    have w2 := w1.trans u2
    try simp only [wSeq, wIf, wRet, wRetN, wAsg, wExpr, wSkip, wBrk, wCnt, wVar, wC, wBin, wUn, wIfE, wT, wTr, wNot, wAnd, wOr, wAndV, wOrV, wChain, wBinS, wUnS, wOpN, wTup, wLst, wCons, wNil, wCall, wMs, wPar, wPar3, gN, gTupN, gCons, gNil, isD, isSt, isDc, optK_some, rd_d, rdS_d, frs_nil, frs_d, rds_nil, rds_d, on1, on2, asB_b, set0, setS, get0, getS, startE, List.map_cons, List.map_nil, List.length_cons, List.length_nil, List.replicate, List.cons_append, List.nil_append, List.append_nil, Option.map_some, Option.map_none, Option.bind_some, oEq_ss, oNe_ss, oEq_ii, oNe_ii, oAdd_ii, oSub_ii, ix_0, ix_1, ix_2, ix_k0, ix_n1, ix_p1, ix_p2, ix_e1, ix_e2, hd1, hd2, hd3, hd4, hd5, hd6, fin_rt, fin_nx, ret_d, if_true, if_false, Bool.false_eq_true, Bool.true_eq_false, Bool.not_true, Bool.not_false, beq_self_eq_true, decide_true, decide_false, true_and, and_true, lit0, lit1, lit2, lit3, lit4, lit5, lit6, lit7, lit8, lit9, lit10, wYes]
    rw [hN]
    have hsl2 : s2.length = n := by rw [w2.len]; exact hn
    refine seq_intro fun N hN => ?_
    refine expr_app (n := n) (xs := ds.map encDd) rfl (rd_at (get10 hsl2)) (by rw [List.length_map]; unfold lim; omega) fun Q hQ => ?_
    try simp only [wSeq, wIf, wRet, wRetN, wAsg, wExpr, wSkip, wBrk, wCnt, wVar, wC, wBin, wUn, wIfE, wT, wTr, wNot, wAnd, wOr, wAndV, wOrV, wChain, wBinS, wUnS, wOpN, wTup, wLst, wCons, wNil, wCall, wMs, wPar, wPar3, gN, gTupN, gCons, gNil, isD, isSt, isDc, optK_some, rd_d, rdS_d, frs_nil, frs_d, rds_nil, rds_d, on1, on2, asB_b, set0, setS, get0, getS, startE, List.map_cons, List.map_nil, List.length_cons, List.length_nil, List.replicate, List.cons_append, List.nil_append, List.append_nil, Option.map_some, Option.map_none, Option.bind_some, oEq_ss, oNe_ss, oEq_ii, oNe_ii, oAdd_ii, oSub_ii, ix_0, ix_1, ix_2, ix_k0, ix_n1, ix_p1, ix_p2, ix_e1, ix_e2, hd1, hd2, hd3, hd4, hd5, hd6, fin_rt, fin_nx, ret_d, if_true, if_false, Bool.false_eq_true, Bool.true_eq_false, Bool.not_true, Bool.not_false, beq_self_eq_true, decide_true, decide_false, true_and, and_true, lit0, lit1, lit2, lit3, lit4, lit5, lit6, lit7, lit8, lit9, lit10, wYes]
    refine hQ _ _ (get10 hsl2) ?_
    rw [set10 hsl2]
    show N _ _
    rw [hN]
    refine seq_intro fun N hN => ?_
    unfold wPar
    try simp only [wSeq, wIf, wRet, wRetN, wAsg, wExpr, wSkip, wBrk, wCnt, wVar, wC, wBin, wUn, wIfE, wT, wTr, wNot, wAnd, wOr, wAndV, wOrV, wChain, wBinS, wUnS, wOpN, wTup, wLst, wCons, wNil, wCall, wMs, wPar, wPar3, gN, gTupN, gCons, gNil, isD, isSt, isDc, optK_some, rd_d, rdS_d, frs_nil, frs_d, rds_nil, rds_d, on1, on2, asB_b, set0, setS, get0, getS, startE, List.map_cons, List.map_nil, List.length_cons, List.length_nil, List.replicate, List.cons_append, List.nil_append, List.append_nil, Option.map_some, Option.map_none, Option.bind_some, oEq_ss, oNe_ss, oEq_ii, oNe_ii, oAdd_ii, oSub_ii, ix_0, ix_1, ix_2, ix_k0, ix_n1, ix_p1, ix_p2, ix_e1, ix_e2, hd1, hd2, hd3, hd4, hd5, hd6, fin_rt, fin_nx, ret_d, if_true, if_false, Bool.false_eq_true, Bool.true_eq_false, Bool.not_true, Bool.not_false, beq_self_eq_true, decide_true, decide_false, true_and, and_true, lit0, lit1, lit2, lit3, lit4, lit5, lit6, lit7, lit8, lit9, lit10, wYes]
    rw [hN]
    have e1 : ds.map encDd ++ [PyData.tuple [encB b, k.enc, g.enc, (byK k g).enc, encB (nbOf b g)]] = (ds ++ [Deed.mk b k g]).map encDd := by simp [encDd]
    rw [e1]
    have hd' : ∀ d ∈ ds ++ [Deed.mk b k g], okDd d := fun d hd1 => by
      rcases List.mem_append.mp hd1 with h | h
      · exact hd d h
      · simp at h; subst h; exact ⟨ok.okb, hin, hgb, rep.2⟩
    have ns' : ∀ n ∈ ns, wname n ∧ n ∈ (nbOf b g).map (·.1) := fun n hn => ⟨(ok.nsw n hn).1, (nb_in ok.okb hgb (ok.nsw n hn).2).1⟩
    have next : ∀ k' : Kd, kdJ (j + 1) (nbOf b g) k' → k'.parts ≤ 300 → ∀ s3 v6 v7 v8 v9 v10, SpTo st0 i s3 → K (LE i n (nbOf b g) ns k' (some x) v6 v7 v8 v9 v10) (s3 ++ [.lst ((ds ++ [Deed.mk b k g]).map encDd)]) := fun k' hk' hp' s3 v6 v7 v8 v9 v10 t3 =>
      next0 (nbOf b g) k' (ds ++ [Deed.mk b k g]) s3 _ _ _ _ _ _ ⟨hnb, hbj, hk', by omega, hp', by omega, ns'⟩ hd' (by simp; omega) t3
    try simp only [wSeq, wIf, wRet, wRetN, wAsg, wExpr, wSkip, wBrk, wCnt, wVar, wC, wBin, wUn, wIfE, wT, wTr, wNot, wAnd, wOr, wAndV, wOrV, wChain, wBinS, wUnS, wOpN, wTup, wLst, wCons, wNil, wCall, wMs, wPar, wPar3, gN, gTupN, gCons, gNil, isD, isSt, isDc, optK_some, rd_d, rdS_d, frs_nil, frs_d, rds_nil, rds_d, on1, on2, asB_b, set0, setS, get0, getS, startE, List.map_cons, List.map_nil, List.length_cons, List.length_nil, List.replicate, List.cons_append, List.nil_append, List.append_nil, Option.map_some, Option.map_none, Option.bind_some, oEq_ss, oNe_ss, oEq_ii, oNe_ii, oAdd_ii, oSub_ii, ix_0, ix_1, ix_2, ix_k0, ix_n1, ix_p1, ix_p2, ix_e1, ix_e2, hd1, hd2, hd3, hd4, hd5, hd6, fin_rt, fin_nx, ret_d, if_true, if_false, Bool.false_eq_true, Bool.true_eq_false, Bool.not_true, Bool.not_false, beq_self_eq_true, decide_true, decide_false, true_and, and_true, lit0, lit1, lit2, lit3, lit4, lit5, lit6, lit7, lit8, lit9, lit10, wYes]
    refine spS_go (rest := [.d (.int 3)]) ((w2.spr hs).app _) ⟨3, rfl, by omega, by omega, rfl⟩ ?_
    rintro y st3 ⟨z, rfl, z0, z1⟩ t3
    obtain ⟨s3, rfl, u3⟩ := t3.app (w2.spr hs).lt
    have w3 := w2.trans u3
    by_cases hz : z = 0
    · subst hz
      try simp only [wSeq, wIf, wRet, wRetN, wAsg, wExpr, wSkip, wBrk, wCnt, wVar, wC, wBin, wUn, wIfE, wT, wTr, wNot, wAnd, wOr, wAndV, wOrV, wChain, wBinS, wUnS, wOpN, wTup, wLst, wCons, wNil, wCall, wMs, wPar, wPar3, gN, gTupN, gCons, gNil, isD, isSt, isDc, optK_some, rd_d, rdS_d, frs_nil, frs_d, rds_nil, rds_d, on1, on2, asB_b, set0, setS, get0, getS, startE, List.map_cons, List.map_nil, List.length_cons, List.length_nil, List.replicate, List.cons_append, List.nil_append, List.append_nil, Option.map_some, Option.map_none, Option.bind_some, oEq_ss, oNe_ss, oEq_ii, oNe_ii, oAdd_ii, oSub_ii, ix_0, ix_1, ix_2, ix_k0, ix_n1, ix_p1, ix_p2, ix_e1, ix_e2, hd1, hd2, hd3, hd4, hd5, hd6, fin_rt, fin_nx, ret_d, if_true, if_false, Bool.false_eq_true, Bool.true_eq_false, Bool.not_true, Bool.not_false, beq_self_eq_true, decide_true, decide_false, true_and, and_true, lit0, lit1, lit2, lit3, lit4, lit5, lit6, lit7, lit8, lit9, lit10, wYes]
      refine spS_go (rest := [.d (encB (nbOf b g))]) ((w3.spr hs).app _) ⟨_, (nbOf b g).map encR, rfl, .inr rfl, by simpa using hnb.ne, by rw [List.length_map]; have := hnb.len; omega, rfl⟩ ?_
      rintro y st4 hy t4
      obtain ⟨r, hr, rfl⟩ := List.mem_map.mp hy
      obtain ⟨s4, rfl, u4⟩ := t4.app (w3.spr hs).lt
      simp only [ix_r0, wSeq, wIf, wRet, wRetN, wAsg, wExpr, wSkip, wBrk, wCnt, wVar, wC, wBin, wUn, wIfE, wT, wTr, wNot, wAnd, wOr, wAndV, wOrV, wChain, wBinS, wUnS, wOpN, wTup, wLst, wCons, wNil, wCall, wMs, wPar, wPar3, gN, gTupN, gCons, gNil, isD, isSt, isDc, optK_some, rd_d, rdS_d, frs_nil, frs_d, rds_nil, rds_d, on1, on2, asB_b, set0, setS, get0, getS, startE, List.map_cons, List.map_nil, List.length_cons, List.length_nil, List.replicate, List.cons_append, List.nil_append, List.append_nil, Option.map_some, Option.map_none, Option.bind_some, oEq_ss, oNe_ss, oEq_ii, oNe_ii, oAdd_ii, oSub_ii, ix_0, ix_1, ix_2, ix_k0, ix_n1, ix_p1, ix_p2, ix_e1, ix_e2, hd1, hd2, hd3, hd4, hd5, hd6, fin_rt, fin_nx, ret_d, if_true, if_false, Bool.false_eq_true, Bool.true_eq_false, Bool.not_true, Bool.not_false, beq_self_eq_true, decide_true, decide_false, true_and, and_true, lit0, lit1, lit2, lit3, lit4, lit5, lit6, lit7, lit8, lit9, lit10, wYes]
      exact next (.name r.1) ⟨fun n hn => by simp [Kd.names] at hn; subst hn; exact hbj.nm r hr, by simp only [mu]; omega, fun n hn => by simp [Kd.names] at hn; subst hn; exact List.mem_map.mpr ⟨r, hr, rfl⟩⟩ (by simp [Kd.parts]) s4 _ _ _ _ _ (w3.trans u4)
    · have hz' : (z == 0) = false := by simpa using hz
      simp only [wSeq, wIf, wRet, wRetN, wAsg, wExpr, wSkip, wBrk, wCnt, wVar, wC, wBin, wUn, wIfE, wT, wTr, wNot, wAnd, wOr, wAndV, wOrV, wChain, wBinS, wUnS, wOpN, wTup, wLst, wCons, wNil, wCall, wMs, wPar, wPar3, gN, gTupN, gCons, gNil, isD, isSt, isDc, optK_some, rd_d, rdS_d, frs_nil, frs_d, rds_nil, rds_d, on1, on2, asB_b, set0, setS, get0, getS, startE, List.map_cons, List.map_nil, List.length_cons, List.length_nil, List.replicate, List.cons_append, List.nil_append, List.append_nil, Option.map_some, Option.map_none, Option.bind_some, oEq_ss, oNe_ss, oEq_ii, oNe_ii, oAdd_ii, oSub_ii, ix_0, ix_1, ix_2, ix_k0, ix_n1, ix_p1, ix_p2, ix_e1, ix_e2, hd1, hd2, hd3, hd4, hd5, hd6, fin_rt, fin_nx, ret_d, if_true, if_false, Bool.false_eq_true, Bool.true_eq_false, Bool.not_true, Bool.not_false, beq_self_eq_true, decide_true, decide_false, true_and, and_true, lit0, lit1, lit2, lit3, lit4, lit5, lit6, lit7, lit8, lit9, lit10, wYes, hz']
      exact next (byK k g) hkj (by omega) s3 _ _ _ _ _ w3
/-! ### asked again -/
theorem again_loop {E : EK} {D : DL.Fin} {i n : Nat} {st : Store} {v2 v5 v9 v10 : Option DV} (hq : ∀ e, D.nx e st) : ∀ (ds : List Deed) (v1 v4 v6 v7 v8 : Option DV), (∀ d ∈ ds, okDd d) →
    forGo (DL.gTupN 5 (DL.gCons (gN 1) (DL.gCons (gN 4) (DL.gCons (gN 6) (DL.gCons (gN 7) (DL.gCons (gN 8) DL.gNil)))))) (wIf (wNot (wT (wCall (spF pIs) E (wCons (wLst (wCons (wCallK (spF pBB) [1, 0] E (wCons (wVar 6) (wCons (wVar 1) wNil))) (wCons (wCallK (spF pKy) [2, 1, 0] E (wCons (wVar 6) (wCons (wVar 4) (wCons (wVar 1) wNil)))) wNil))) (wCons (wLst (wCons (wVar 8) (wCons (wVar 7) wNil))) wNil))))) (wRet (wC (.bool false))) wSkip) D
      ((ds.map encDd).map DV.d) [some (.loc i), v1, v2, some (.loc n), v4, v5, v6, v7, v8, v9, v10] st
  | [], _, _, _, _, _, _ => hq _
  | d :: ds, v1, v4, v6, v7, v8, h => by
    have ok := h d (List.mem_cons_self ..)
    have p2 : ∀ a b : DV, pick [1, 0] [a, b] = [b, a] := fun _ _ => rfl
    have p3 : ∀ a b c : DV, pick [2, 1, 0] [a, b, c] = [c, b, a] := fun _ _ _ => rfl
    simp only [List.map_cons, forGo, encDd, wSeq, wIf, wRet, wRetN, wAsg, wExpr, wSkip, wBrk, wCnt, wVar, wC, wBin, wUn, wIfE, wT, wTr, wNot, wAnd, wOr, wAndV, wOrV, wChain, wBinS, wUnS, wOpN, wTup, wLst, wCons, wNil, wCall, wMs, wPar, wPar3, gN, gTupN, gCons, gNil, isD, isSt, isDc, optK_some, rd_d, rdS_d, frs_nil, frs_d, rds_nil, rds_d, on1, on2, asB_b, set0, setS, get0, getS, startE, List.map_cons, List.map_nil, List.length_cons, List.length_nil, List.replicate, List.cons_append, List.nil_append, List.append_nil, Option.map_some, Option.map_none, Option.bind_some, oEq_ss, oNe_ss, oEq_ii, oNe_ii, oAdd_ii, oSub_ii, ix_0, ix_1, ix_2, ix_k0, ix_n1, ix_p1, ix_p2, ix_e1, ix_e2, hd1, hd2, hd3, hd4, hd5, hd6, fin_rt, fin_nx, ret_d, if_true, if_false, Bool.false_eq_true, Bool.true_eq_false, Bool.not_true, Bool.not_false, beq_self_eq_true, decide_true, decide_false, true_and, and_true, lit0, lit1, lit2, lit3, lit4, lit5, lit6, lit7, lit8, lit9, lit10, wYes, wCallK, p2, p3]
    refine spF_go (xs := [encB d.b, d.g.enc]) ⟨d.b, d.g, rfl, ok.b, ok.g, rfl⟩ ?_
    simp only [wSeq, wIf, wRet, wRetN, wAsg, wExpr, wSkip, wBrk, wCnt, wVar, wC, wBin, wUn, wIfE, wT, wTr, wNot, wAnd, wOr, wAndV, wOrV, wChain, wBinS, wUnS, wOpN, wTup, wLst, wCons, wNil, wCall, wMs, wPar, wPar3, gN, gTupN, gCons, gNil, isD, isSt, isDc, optK_some, rd_d, rdS_d, frs_nil, frs_d, rds_nil, rds_d, on1, on2, asB_b, set0, setS, get0, getS, startE, List.map_cons, List.map_nil, List.length_cons, List.length_nil, List.replicate, List.cons_append, List.nil_append, List.append_nil, Option.map_some, Option.map_none, Option.bind_some, oEq_ss, oNe_ss, oEq_ii, oNe_ii, oAdd_ii, oSub_ii, ix_0, ix_1, ix_2, ix_k0, ix_n1, ix_p1, ix_p2, ix_e1, ix_e2, hd1, hd2, hd3, hd4, hd5, hd6, fin_rt, fin_nx, ret_d, if_true, if_false, Bool.false_eq_true, Bool.true_eq_false, Bool.not_true, Bool.not_false, beq_self_eq_true, decide_true, decide_false, true_and, and_true, lit0, lit1, lit2, lit3, lit4, lit5, lit6, lit7, lit8, lit9, lit10, wYes, p2, p3]
    refine spF_go (xs := [encB d.b, d.k.enc, d.g.enc]) ⟨d.b, d.k, d.g, rfl, ok.b, ok.k, ok.g, rfl⟩ ?_
    try simp only [wSeq, wIf, wRet, wRetN, wAsg, wExpr, wSkip, wBrk, wCnt, wVar, wC, wBin, wUn, wIfE, wT, wTr, wNot, wAnd, wOr, wAndV, wOrV, wChain, wBinS, wUnS, wOpN, wTup, wLst, wCons, wNil, wCall, wMs, wPar, wPar3, gN, gTupN, gCons, gNil, isD, isSt, isDc, optK_some, rd_d, rdS_d, frs_nil, frs_d, rds_nil, rds_d, on1, on2, asB_b, set0, setS, get0, getS, startE, List.map_cons, List.map_nil, List.length_cons, List.length_nil, List.replicate, List.cons_append, List.nil_append, List.append_nil, Option.map_some, Option.map_none, Option.bind_some, oEq_ss, oNe_ss, oEq_ii, oNe_ii, oAdd_ii, oSub_ii, ix_0, ix_1, ix_2, ix_k0, ix_n1, ix_p1, ix_p2, ix_e1, ix_e2, hd1, hd2, hd3, hd4, hd5, hd6, fin_rt, fin_nx, ret_d, if_true, if_false, Bool.false_eq_true, Bool.true_eq_false, Bool.not_true, Bool.not_false, beq_self_eq_true, decide_true, decide_false, true_and, and_true, lit0, lit1, lit2, lit3, lit4, lit5, lit6, lit7, lit8, lit9, lit10, wYes]
    refine spF_go (xs := [.list [encB (nbOf d.b d.g), (byK d.k d.g).enc], .list [encB (nbOf d.b d.g), (byK d.k d.g).enc]]) ⟨_, rfl, ok.r, rfl⟩ ?_
    try simp only [wSeq, wIf, wRet, wRetN, wAsg, wExpr, wSkip, wBrk, wCnt, wVar, wC, wBin, wUn, wIfE, wT, wTr, wNot, wAnd, wOr, wAndV, wOrV, wChain, wBinS, wUnS, wOpN, wTup, wLst, wCons, wNil, wCall, wMs, wPar, wPar3, gN, gTupN, gCons, gNil, isD, isSt, isDc, optK_some, rd_d, rdS_d, frs_nil, frs_d, rds_nil, rds_d, on1, on2, asB_b, set0, setS, get0, getS, startE, List.map_cons, List.map_nil, List.length_cons, List.length_nil, List.replicate, List.cons_append, List.nil_append, List.append_nil, Option.map_some, Option.map_none, Option.bind_some, oEq_ss, oNe_ss, oEq_ii, oNe_ii, oAdd_ii, oSub_ii, ix_0, ix_1, ix_2, ix_k0, ix_n1, ix_p1, ix_p2, ix_e1, ix_e2, hd1, hd2, hd3, hd4, hd5, hd6, fin_rt, fin_nx, ret_d, if_true, if_false, Bool.false_eq_true, Bool.true_eq_false, Bool.not_true, Bool.not_false, beq_self_eq_true, decide_true, decide_false, true_and, and_true, lit0, lit1, lit2, lit3, lit4, lit5, lit6, lit7, lit8, lit9, lit10, wYes]
    exact again_loop hq ds _ _ _ _ _ fun e he => h e (List.mem_cons_of_mem _ he)
theorem keeps_law_right : Keeps 11 (spS pRi) (b_law_right (spF pIs) (spF pKy) (spF pBB) (spS pDr) (spS pPk) (spS pSt) (spF (pPa 30)) (spF (pKB 30)) (spF pLB) (spS pGp) (spS (pFm 9)) (spS pLi)) := by
  rintro args st Q E ⟨i, rest, R, rfl, hs, ⟨rfl, rfl⟩, q⟩
  unfold b_law_right
  refine seq_intro fun N hN => ?_
  try simp only [wSeq, wIf, wRet, wRetN, wAsg, wExpr, wSkip, wBrk, wCnt, wVar, wC, wBin, wUn, wIfE, wT, wTr, wNot, wAnd, wOr, wAndV, wOrV, wChain, wBinS, wUnS, wOpN, wTup, wLst, wCons, wNil, wCall, wMs, wPar, wPar3, gN, gTupN, gCons, gNil, isD, isSt, isDc, optK_some, rd_d, rdS_d, frs_nil, frs_d, rds_nil, rds_d, on1, on2, asB_b, set0, setS, get0, getS, startE, List.map_cons, List.map_nil, List.length_cons, List.length_nil, List.replicate, List.cons_append, List.nil_append, List.append_nil, Option.map_some, Option.map_none, Option.bind_some, oEq_ss, oNe_ss, oEq_ii, oNe_ii, oAdd_ii, oSub_ii, ix_0, ix_1, ix_2, ix_k0, ix_n1, ix_p1, ix_p2, ix_e1, ix_e2, hd1, hd2, hd3, hd4, hd5, hd6, fin_rt, fin_nx, ret_d, if_true, if_false, Bool.false_eq_true, Bool.true_eq_false, Bool.not_true, Bool.not_false, beq_self_eq_true, decide_true, decide_false, true_and, and_true, lit0, lit1, lit2, lit3, lit4, lit5, lit6, lit7, lit8, lit9, lit10, wYes]
  refine spS_go (rest := [.d (.int 5)]) hs ⟨rfl, rfl⟩ ?_
  rintro y st1 ⟨b, rfl, hb0⟩ t1
  obtain ⟨hb, hbj, hbl, hbp, hbw⟩ := lib0_ok hb0
  try simp only [wSeq, wIf, wRet, wRetN, wAsg, wExpr, wSkip, wBrk, wCnt, wVar, wC, wBin, wUn, wIfE, wT, wTr, wNot, wAnd, wOr, wAndV, wOrV, wChain, wBinS, wUnS, wOpN, wTup, wLst, wCons, wNil, wCall, wMs, wPar, wPar3, gN, gTupN, gCons, gNil, isD, isSt, isDc, optK_some, rd_d, rdS_d, frs_nil, frs_d, rds_nil, rds_d, on1, on2, asB_b, set0, setS, get0, getS, startE, List.map_cons, List.map_nil, List.length_cons, List.length_nil, List.replicate, List.cons_append, List.nil_append, List.append_nil, Option.map_some, Option.map_none, Option.bind_some, oEq_ss, oNe_ss, oEq_ii, oNe_ii, oAdd_ii, oSub_ii, ix_0, ix_1, ix_2, ix_k0, ix_n1, ix_p1, ix_p2, ix_e1, ix_e2, hd1, hd2, hd3, hd4, hd5, hd6, fin_rt, fin_nx, ret_d, if_true, if_false, Bool.false_eq_true, Bool.true_eq_false, Bool.not_true, Bool.not_false, beq_self_eq_true, decide_true, decide_false, true_and, and_true, lit0, lit1, lit2, lit3, lit4, lit5, lit6, lit7, lit8, lit9, lit10, wYes]
  rw [hN]
  refine seq_intro fun N hN => ?_
  simp only [wPar, wLstM, wLc, iSeq, wSeq, wIf, wRet, wRetN, wAsg, wExpr, wSkip, wBrk, wCnt, wVar, wC, wBin, wUn, wIfE, wT, wTr, wNot, wAnd, wOr, wAndV, wOrV, wChain, wBinS, wUnS, wOpN, wTup, wLst, wCons, wNil, wCall, wMs, wPar, wPar3, gN, gTupN, gCons, gNil, isD, isSt, isDc, optK_some, rd_d, rdS_d, frs_nil, frs_d, rds_nil, rds_d, on1, on2, asB_b, set0, setS, get0, getS, startE, List.map_cons, List.map_nil, List.length_cons, List.length_nil, List.replicate, List.cons_append, List.nil_append, List.append_nil, Option.map_some, Option.map_none, Option.bind_some, oEq_ss, oNe_ss, oEq_ii, oNe_ii, oAdd_ii, oSub_ii, ix_0, ix_1, ix_2, ix_k0, ix_n1, ix_p1, ix_p2, ix_e1, ix_e2, hd1, hd2, hd3, hd4, hd5, hd6, fin_rt, fin_nx, ret_d, if_true, if_false, Bool.false_eq_true, Bool.true_eq_false, Bool.not_true, Bool.not_false, beq_self_eq_true, decide_true, decide_false, true_and, and_true, lit0, lit1, lit2, lit3, lit4, lit5, lit6, lit7, lit8, lit9, lit10, wYes, it_b, wipeE]
  refine lc_map (fun r : Row => DV.d (encR r)) (fun r : Row => PyData.str r.1) b [] (xs := _) (by rw [List.map_map]; rfl) (fun r hr K1 K2 hk1 => ?_) ?_
  · simp only [encR, wSeq, wIf, wRet, wRetN, wAsg, wExpr, wSkip, wBrk, wCnt, wVar, wC, wBin, wUn, wIfE, wT, wTr, wNot, wAnd, wOr, wAndV, wOrV, wChain, wBinS, wUnS, wOpN, wTup, wLst, wCons, wNil, wCall, wMs, wPar, wPar3, gN, gTupN, gCons, gNil, isD, isSt, isDc, optK_some, rd_d, rdS_d, frs_nil, frs_d, rds_nil, rds_d, on1, on2, asB_b, set0, setS, get0, getS, startE, List.map_cons, List.map_nil, List.length_cons, List.length_nil, List.replicate, List.cons_append, List.nil_append, List.append_nil, Option.map_some, Option.map_none, Option.bind_some, oEq_ss, oNe_ss, oEq_ii, oNe_ii, oAdd_ii, oSub_ii, ix_0, ix_1, ix_2, ix_k0, ix_n1, ix_p1, ix_p2, ix_e1, ix_e2, hd1, hd2, hd3, hd4, hd5, hd6, fin_rt, fin_nx, ret_d, if_true, if_false, Bool.false_eq_true, Bool.true_eq_false, Bool.not_true, Bool.not_false, beq_self_eq_true, decide_true, decide_false, true_and, and_true, lit0, lit1, lit2, lit3, lit4, lit5, lit6, lit7, lit8, lit9, lit10, wYes]
    exact hk1
  simp only [List.nil_append, wSeq, wIf, wRet, wRetN, wAsg, wExpr, wSkip, wBrk, wCnt, wVar, wC, wBin, wUn, wIfE, wT, wTr, wNot, wAnd, wOr, wAndV, wOrV, wChain, wBinS, wUnS, wOpN, wTup, wLst, wCons, wNil, wCall, wMs, wPar, wPar3, gN, gTupN, gCons, gNil, isD, isSt, isDc, optK_some, rd_d, rdS_d, frs_nil, frs_d, rds_nil, rds_d, on1, on2, asB_b, set0, setS, get0, getS, startE, List.map_cons, List.map_nil, List.length_cons, List.length_nil, List.replicate, List.cons_append, List.nil_append, List.append_nil, Option.map_some, Option.map_none, Option.bind_some, oEq_ss, oNe_ss, oEq_ii, oNe_ii, oAdd_ii, oSub_ii, ix_0, ix_1, ix_2, ix_k0, ix_n1, ix_p1, ix_p2, ix_e1, ix_e2, hd1, hd2, hd3, hd4, hd5, hd6, fin_rt, fin_nx, ret_d, if_true, if_false, Bool.false_eq_true, Bool.true_eq_false, Bool.not_true, Bool.not_false, beq_self_eq_true, decide_true, decide_false, true_and, and_true, lit0, lit1, lit2, lit3, lit4, lit5, lit6, lit7, lit8, lit9, lit10, wYes]
  rw [hN]
  have hns : b.map (fun r : Row => PyData.str r.1) = (b.map (·.1)).map PyData.str := by rw [List.map_map]; rfl
  rw [hns]
  generalize hnse : b.map (·.1) = ns
  have h0 : ns ≠ [] := by subst hnse; simpa using hb.ne
  have hl4 : ns.length ≤ 4 := by subst hnse; rw [List.length_map]; exact hbl
  refine seq_intro fun N hN => ?_
  try simp only [wSeq, wIf, wRet, wRetN, wAsg, wExpr, wSkip, wBrk, wCnt, wVar, wC, wBin, wUn, wIfE, wT, wTr, wNot, wAnd, wOr, wAndV, wOrV, wChain, wBinS, wUnS, wOpN, wTup, wLst, wCons, wNil, wCall, wMs, wPar, wPar3, gN, gTupN, gCons, gNil, isD, isSt, isDc, optK_some, rd_d, rdS_d, frs_nil, frs_d, rds_nil, rds_d, on1, on2, asB_b, set0, setS, get0, getS, startE, List.map_cons, List.map_nil, List.length_cons, List.length_nil, List.replicate, List.cons_append, List.nil_append, List.append_nil, Option.map_some, Option.map_none, Option.bind_some, oEq_ss, oNe_ss, oEq_ii, oNe_ii, oAdd_ii, oSub_ii, ix_0, ix_1, ix_2, ix_k0, ix_n1, ix_p1, ix_p2, ix_e1, ix_e2, hd1, hd2, hd3, hd4, hd5, hd6, fin_rt, fin_nx, ret_d, if_true, if_false, Bool.false_eq_true, Bool.true_eq_false, Bool.not_true, Bool.not_false, beq_self_eq_true, decide_true, decide_false, true_and, and_true, lit0, lit1, lit2, lit3, lit4, lit5, lit6, lit7, lit8, lit9, lit10, wYes]
  have hs1 := t1.spr hs
  refine spS_go (rest := [.d (.list (ns.map .str)), .d (.int 9)]) (hs1.app _) ⟨_, ns, 9, rfl, .inl rfl, by omega, by omega, by omega, by omega, rfl⟩ ?_
  rintro y st2 ⟨k, rfl, k1, k2, k3⟩ t2
  obtain ⟨s2, rfl, u2⟩ := t2.app hs1.lt
  have w2 := t1.trans u2
  try simp only [wSeq, wIf, wRet, wRetN, wAsg, wExpr, wSkip, wBrk, wCnt, wVar, wC, wBin, wUn, wIfE, wT, wTr, wNot, wAnd, wOr, wAndV, wOrV, wChain, wBinS, wUnS, wOpN, wTup, wLst, wCons, wNil, wCall, wMs, wPar, wPar3, gN, gTupN, gCons, gNil, isD, isSt, isDc, optK_some, rd_d, rdS_d, frs_nil, frs_d, rds_nil, rds_d, on1, on2, asB_b, set0, setS, get0, getS, startE, List.map_cons, List.map_nil, List.length_cons, List.length_nil, List.replicate, List.cons_append, List.nil_append, List.append_nil, Option.map_some, Option.map_none, Option.bind_some, oEq_ss, oNe_ss, oEq_ii, oNe_ii, oAdd_ii, oSub_ii, ix_0, ix_1, ix_2, ix_k0, ix_n1, ix_p1, ix_p2, ix_e1, ix_e2, hd1, hd2, hd3, hd4, hd5, hd6, fin_rt, fin_nx, ret_d, if_true, if_false, Bool.false_eq_true, Bool.true_eq_false, Bool.not_true, Bool.not_false, beq_self_eq_true, decide_true, decide_false, true_and, and_true, lit0, lit1, lit2, lit3, lit4, lit5, lit6, lit7, lit8, lit9, lit10, wYes]
  rw [hN]
  refine seq_intro fun N hN => ?_
  have hk2 : okLap ns 0 b k := by
    subst hnse
    have hin : ∀ n ∈ k.names, wname n := fun n hn => by
      obtain ⟨r, hr, e⟩ := List.mem_map.mp (k3 n hn)
      exact e ▸ hbw r hr
    refine ⟨hb, hbj, ⟨fun n hn => ⟨n, [], rfl, hin n hn, by simp, by simp⟩, ?_, k3⟩, by omega, by omega, ?_, fun n hn => ⟨?_, hn⟩⟩
    · have := mu_start 3 k
      show mu 3 k ≤ 24
      omega
    · have gen : ∀ c : List Row, (∀ r ∈ c, r.2.parts ≤ 20) → (c.map fun r => r.2.parts).sum ≤ 20 * c.length := by
        intro c
        induction c with
        | nil => intro _; simp
        | cons r c ih =>
          intro h
          have h1 := ih fun s hs => h s (List.mem_cons_of_mem _ hs)
          have h2 := h r (List.mem_cons_self ..)
          simp only [List.map_cons, List.sum_cons, List.length_cons]
          omega
      have := gen b hbp
      omega
    · obtain ⟨r, hr, e⟩ := List.mem_map.mp hn
      exact e ▸ hbw r hr
  simp only [wFor, iRng1D, wSeq, wIf, wRet, wRetN, wAsg, wExpr, wSkip, wBrk, wCnt, wVar, wC, wBin, wUn, wIfE, wT, wTr, wNot, wAnd, wOr, wAndV, wOrV, wChain, wBinS, wUnS, wOpN, wTup, wLst, wCons, wNil, wCall, wMs, wPar, wPar3, gN, gTupN, gCons, gNil, isD, isSt, isDc, optK_some, rd_d, rdS_d, frs_nil, frs_d, rds_nil, rds_d, on1, on2, asB_b, set0, setS, get0, getS, startE, List.map_cons, List.map_nil, List.length_cons, List.length_nil, List.replicate, List.cons_append, List.nil_append, List.append_nil, Option.map_some, Option.map_none, Option.bind_some, oEq_ss, oNe_ss, oEq_ii, oNe_ii, oAdd_ii, oSub_ii, ix_0, ix_1, ix_2, ix_k0, ix_n1, ix_p1, ix_p2, ix_e1, ix_e2, hd1, hd2, hd3, hd4, hd5, hd6, fin_rt, fin_nx, ret_d, if_true, if_false, Bool.false_eq_true, Bool.true_eq_false, Bool.not_true, Bool.not_false, beq_self_eq_true, decide_true, decide_false, true_and, and_true, lit0, lit1, lit2, lit3, lit4, lit5, lit6, lit7, lit8, lit9, lit10, wYes, asI]
  refine ⟨⟨by omega, by omega⟩, lim_of (by omega), ?_⟩
  have hlen : (rngL 0 (3 : Int).toNat).length = 3 := rfl
  have hn1 : st1.length = st.length := t1.len
  show forGo (gN 5) (lapBody E) _ (rngL 0 (3 : Int).toNat) (LE i st1.length b ns k none none none none none none) (s2 ++ [.lst (([] : List Deed).map encDd)])
  refine lap_loop (st0 := st) hs hn1.symm h0 hl4 ?_ (rngL 0 (3 : Int).toNat) 0 b k [] s2 none none none none none none (by rw [hlen]; omega) hk2 (fun d hd => by simp at hd) (Nat.zero_le _) w2
  rintro ds s env ⟨b', k', v5, v6, v7, v8, v9, v10, rfl⟩ t hds
  show N _ _
  rw [hN]
  refine seq_intro fun N hN => ?_
  have hsl : s.length = st1.length := by rw [t.len, hn1]
  have hrd : rd (s ++ [Cell.lst (ds.map encDd)]) (.loc st1.length) = some (.list (ds.map encDd)) := rd_at (get10 hsl)
  simp only [wFor, iSeq, wFrz, wSeq, wIf, wRet, wRetN, wAsg, wExpr, wSkip, wBrk, wCnt, wVar, wC, wBin, wUn, wIfE, wT, wTr, wNot, wAnd, wOr, wAndV, wOrV, wChain, wBinS, wUnS, wOpN, wTup, wLst, wCons, wNil, wCall, wMs, wPar, wPar3, gN, gTupN, gCons, gNil, isD, isSt, isDc, optK_some, rd_d, rdS_d, frs_nil, frs_d, rds_nil, rds_d, on1, on2, asB_b, set0, setS, get0, getS, startE, List.map_cons, List.map_nil, List.length_cons, List.length_nil, List.replicate, List.cons_append, List.nil_append, List.append_nil, Option.map_some, Option.map_none, Option.bind_some, oEq_ss, oNe_ss, oEq_ii, oNe_ii, oAdd_ii, oSub_ii, ix_0, ix_1, ix_2, ix_k0, ix_n1, ix_p1, ix_p2, ix_e1, ix_e2, hd1, hd2, hd3, hd4, hd5, hd6, fin_rt, fin_nx, ret_d, if_true, if_false, Bool.false_eq_true, Bool.true_eq_false, Bool.not_true, Bool.not_false, beq_self_eq_true, decide_true, decide_false, true_and, and_true, lit0, lit1, lit2, lit3, lit4, lit5, lit6, lit7, lit8, lit9, lit10, wYes, hrd, itemsOf]
  refine again_loop (fun e => ?_) ds _ _ _ _ _ hds
  show N _ _
  rw [hN]
  simp only [wSeq, wIf, wRet, wRetN, wAsg, wExpr, wSkip, wBrk, wCnt, wVar, wC, wBin, wUn, wIfE, wT, wTr, wNot, wAnd, wOr, wAndV, wOrV, wChain, wBinS, wUnS, wOpN, wTup, wLst, wCons, wNil, wCall, wMs, wPar, wPar3, gN, gTupN, gCons, gNil, isD, isSt, isDc, optK_some, rd_d, rdS_d, frs_nil, frs_d, rds_nil, rds_d, on1, on2, asB_b, set0, setS, get0, getS, startE, List.map_cons, List.map_nil, List.length_cons, List.length_nil, List.replicate, List.cons_append, List.nil_append, List.append_nil, Option.map_some, Option.map_none, Option.bind_some, oEq_ss, oNe_ss, oEq_ii, oNe_ii, oAdd_ii, oSub_ii, ix_0, ix_1, ix_2, ix_k0, ix_n1, ix_p1, ix_p2, ix_e1, ix_e2, hd1, hd2, hd3, hd4, hd5, hd6, fin_rt, fin_nx, ret_d, if_true, if_false, Bool.false_eq_true, Bool.true_eq_false, Bool.not_true, Bool.not_false, beq_self_eq_true, decide_true, decide_false, true_and, and_true, lit0, lit1, lit2, lit3, lit4, lit5, lit6, lit7, lit8, lit9, lit10, wYes, ret_tk]
  have ht : ((s ++ [Cell.lst (ds.map encDd)]).modify st1.length frzC).take st.length = s := by
    rw [← hn1, ← hsl]
    exact take_mod s _ _
  rw [ht]
  exact q _ s rfl t
end DL.K20
/-! text K20F -/
namespace DL.K20
open PySem PySem.Spec PyProof.Rows L2 DL
theorem no_pKB : ∀ args st P PE, ¬ spF (pKB 0) args st P PE := by
  rintro _ _ _ _ ⟨xs, y, rfl, ⟨k, g, _, _, h, _⟩, _⟩
  have := k.dep_pos
  omega
theorem no_pKF : ∀ args st P PE, ¬ spF (pKF 0) args st P PE := by
  rintro _ _ _ _ ⟨xs, y, rfl, ⟨k, d, _, h, _⟩, _⟩
  have := k.dep_pos
  omega
theorem no_pCK : ∀ args st P PE, ¬ spF (pCK 0) args st P PE := by
  rintro _ _ _ _ ⟨xs, y, rfl, ⟨k, _, h, _⟩, _⟩
  have := k.dep_pos
  omega
theorem no_pPa : ∀ args st P PE, ¬ spF (pPa 0) args st P PE := by
  rintro _ _ _ _ ⟨xs, y, rfl, ⟨k, _, h, _⟩, _⟩
  have := k.dep_pos
  omega
theorem no_preNB : ∀ args st P PE, ¬ spR (preNB 0) relNB args st P PE := by
  rintro _ _ _ _ ⟨xs, rfl, ⟨k, _, h, _⟩, _⟩
  have := k.dep_pos
  omega
theorem no_pFm : ∀ args st P PE, ¬ spS (pFm 0) args st P PE := by
  rintro _ _ _ _ ⟨i, rest, R, rfl, _, ⟨r, ns, left, _, _, _, h1, h2, _⟩, _⟩
  omega
section
variable {P : Program} {w : World} {K : PySem.W.Frag} {mg : Str → Option Value} {base : Heap}
/-- a promise that asks what nothing is -/
theorem has_no {x : Str} {st : Stmt} {ps : List Str} {k : Nat} {sp : SpD} (h : Fn1 K mg x st)
    (hb : ∀ (kV doc pm : Value) (an : Option Addr) (cdv ct : Value) (us : List Value), us.length = ps.length → bindArgs (PySem.W.fnOf x x (defArgs st) (defBody st) (defScope st) .none kV doc pm an cdv ct) ⟨us, []⟩ = pure (ps.zip us))
    (ar : ∀ args st P PE, sp args st P PE → args.length = ps.length) (no : ∀ args st P PE, ¬ sp args st P PE) : Has P w K mg base k x ps sp := by
  obtain ⟨f, fd, hm, Fu⟩ := h
  exact ⟨⟨f, fd, hm, Fu.kp, Fu.binds hb, ⟨fun vs H Q E ⟨_, _, _, args, _, _, hl, _, hv, _⟩ => hv.length.trans hl, fun A outer s H args us vs Q E _ _ _ _ ⟨_, _, _, _, _, _, _, _, _, hsp, _⟩ => (no _ _ _ _ hsp).elim⟩⟩, ar⟩
theorem h_marked_name (T : Txt K w mg) : Has P w K mg base 1 "marked_name" p_marked_name (spF pMN) :=
  has_of T.f_marked_name S_marked_name (fun _ _ _ _ _ _ us hl => match us, hl with | [_, _], _ => rfl) (by rintro _ _ _ _ ⟨xs, y, rfl, ⟨_, _, h, _⟩, _⟩; subst h; rfl) keeps_marked_name (fun f cdv A outer s H E EE hr => d_marked_name T  f cdv A outer s H E EE hr)
theorem h_kind_by_hole (T : Txt K w mg) : ∀ l, Has P w K mg base (l + 2) "kind_by_hole" p_kind_by_hole (spF (pKB l))
  | 0 => has_no T.f_kind_by_hole (fun _ _ _ _ _ _ us hl => match us, hl with | [_, _], _ => rfl) (by rintro _ _ _ _ ⟨xs, y, rfl, ⟨_, _, h, _⟩, _⟩; subst h; rfl) no_pKB
  | l + 1 => by
    have ih := h_kind_by_hole T l
    exact has_of T.f_kind_by_hole S_kind_by_hole (fun _ _ _ _ _ _ us hl => match us, hl with | [_, _], _ => rfl) (by rintro _ _ _ _ ⟨xs, y, rfl, ⟨_, _, h, _⟩, _⟩; subst h; rfl) (keeps_kind_by_hole l) (fun f cdv A outer s H E EE hr => d_kind_by_hole T (ih.mono (by omega)) ((h_marked_name T).mono (by omega)) f cdv A outer s H E EE hr)
theorem h_book_by_hole (T : Txt K w mg) : Has P w K mg base 33 "book_by_hole" p_book_by_hole (spF pBH) :=
  has_of T.f_book_by_hole S_book_by_hole (fun _ _ _ _ _ _ us hl => match us, hl with | [_, _], _ => rfl) (by rintro _ _ _ _ ⟨xs, y, rfl, ⟨_, _, h, _⟩, _⟩; subst h; rfl) keeps_book_by_hole (fun f cdv A outer s H E EE hr => d_book_by_hole T ((h_kind_by_hole T 30).mono (by omega)) ((h_marked_name T).mono (by omega)) f cdv A outer s H E EE hr)
theorem h_is_written_name (T : Txt K w mg) : Has P w K mg base 1 "is_written_name" p_is_written_name (spF pWN) :=
  has_of T.f_is_written_name S_is_written_name (fun _ _ _ _ _ _ us hl => match us, hl with | [_], _ => rfl) (by rintro _ _ _ _ ⟨xs, y, rfl, ⟨_, h, _⟩, _⟩; subst h; rfl) keeps_is_written_name (fun f cdv A outer s H E EE hr => d_is_written_name T  f cdv A outer s H E EE hr)
theorem h_is_named (T : Txt K w mg) : Has P w K mg base 2 "is_named" p_is_named (spF pNm) :=
  has_of T.f_is_named S_is_named (fun _ _ _ _ _ _ us hl => match us, hl with | [_], _ => rfl) (by rintro _ _ _ _ ⟨xs, y, rfl, ⟨_, h, _⟩, _⟩; subst h; rfl) keeps_is_named (fun f cdv A outer s H E EE hr => d_is_named T ((h_is_written_name T).mono (by omega)) f cdv A outer s H E EE hr)
theorem h_is_kind_formed (T : Txt K w mg) : ∀ l, Has P w K mg base (l + 3) "is_kind_formed" p_is_kind_formed (spF (pKF l))
  | 0 => has_no T.f_is_kind_formed (fun _ _ _ _ _ _ us hl => match us, hl with | [_, _], _ => rfl) (by rintro _ _ _ _ ⟨xs, y, rfl, ⟨_, _, h, _⟩, _⟩; subst h; rfl) no_pKF
  | l + 1 => by
    have ih := h_is_kind_formed T l
    exact has_of T.f_is_kind_formed S_is_kind_formed (fun _ _ _ _ _ _ us hl => match us, hl with | [_, _], _ => rfl) (by rintro _ _ _ _ ⟨xs, y, rfl, ⟨_, _, h, _⟩, _⟩; subst h; rfl) (keeps_is_kind_formed l) (fun f cdv A outer s H E EE hr => d_is_kind_formed T (ih.mono (by omega)) ((h_is_named T).mono (by omega)) f cdv A outer s H E EE hr)
theorem h_kinds_in (T : Txt K w mg) : Has P w K mg base 1 "kinds_in" p_kinds_in (spF pKI) :=
  has_of T.f_kinds_in S_kinds_in (fun _ _ _ _ _ _ us hl => match us, hl with | [_], _ => rfl) (by rintro _ _ _ _ ⟨xs, y, rfl, ⟨_, h, _⟩, _⟩; subst h; rfl) keeps_kinds_in (fun f cdv A outer s H E EE hr => d_kinds_in T  f cdv A outer s H E EE hr)
theorem h_count_kinds (T : Txt K w mg) : ∀ l, Has P w K mg base (l + 2) "count_kinds" p_count_kinds (spF (pCK l))
  | 0 => has_no T.f_count_kinds (fun _ _ _ _ _ _ us hl => match us, hl with | [_], _ => rfl) (by rintro _ _ _ _ ⟨xs, y, rfl, ⟨_, h, _⟩, _⟩; subst h; rfl) no_pCK
  | l + 1 => by
    have ih := h_count_kinds T l
    exact has_of T.f_count_kinds S_count_kinds (fun _ _ _ _ _ _ us hl => match us, hl with | [_], _ => rfl) (by rintro _ _ _ _ ⟨xs, y, rfl, ⟨_, h, _⟩, _⟩; subst h; rfl) (keeps_count_kinds l) (fun f cdv A outer s H E EE hr => d_count_kinds T ((h_kinds_in T).mono (by omega)) (ih.mono (by omega)) f cdv A outer s H E EE hr)
theorem h_is_kinded (T : Txt K w mg) : Has P w K mg base 34 "is_kinded" p_is_kinded (spF pKd) :=
  has_of T.f_is_kinded S_is_kinded (fun _ _ _ _ _ _ us hl => match us, hl with | [_], _ => rfl) (by rintro _ _ _ _ ⟨xs, y, rfl, ⟨_, h, _⟩, _⟩; subst h; rfl) keeps_is_kinded (fun f cdv A outer s H E EE hr => d_is_kinded T ((h_count_kinds T 30).mono (by omega)) ((h_is_kind_formed T 30).mono (by omega)) f cdv A outer s H E EE hr)
theorem h_names_by (T : Txt K w mg) : ∀ l, Has P w K mg base (l + 2) "names_by" p_names_by (spR (preNB l) relNB)
  | 0 => has_no T.f_names_by (fun _ _ _ _ _ _ us hl => match us, hl with | [_], _ => rfl) (by rintro _ _ _ _ ⟨xs, rfl, ⟨_, h, _⟩, _⟩; subst h; rfl) no_preNB
  | l + 1 => by
    have ih := h_names_by T l
    exact has_of T.f_names_by S_names_by (fun _ _ _ _ _ _ us hl => match us, hl with | [_], _ => rfl) (by rintro _ _ _ _ ⟨xs, rfl, ⟨_, h, _⟩, _⟩; subst h; rfl) (keeps_names_by l) (fun f cdv A outer s H E EE hr => d_names_by T ((h_kinds_in T).mono (by omega)) (ih.mono (by omega)) f cdv A outer s H E EE hr)
theorem h_is_kind_in (T : Txt K w mg) : Has P w K mg base 35 "is_kind_in" p_is_kind_in (spF pIn) :=
  has_of T.f_is_kind_in S_is_kind_in (fun _ _ _ _ _ _ us hl => match us, hl with | [_, _], _ => rfl) (by rintro _ _ _ _ ⟨xs, y, rfl, ⟨_, _, h, _⟩, _⟩; subst h; rfl) keeps_is_kind_in (fun f cdv A outer s H E EE hr => d_is_kind_in T ((h_names_by T 30).mono (by omega)) ((h_is_kinded T).mono (by omega)) f cdv A outer s H E EE hr)
theorem h_is_hole_in (T : Txt K w mg) : Has P w K mg base 2 "is_hole_in" p_is_hole_in (spF pHI) :=
  has_of T.f_is_hole_in S_is_hole_in (fun _ _ _ _ _ _ us hl => match us, hl with | [_, _], _ => rfl) (by rintro _ _ _ _ ⟨xs, y, rfl, ⟨_, _, h, _⟩, _⟩; subst h; rfl) keeps_is_hole_in (fun f cdv A outer s H E EE hr => d_is_hole_in T ((h_is_written_name T).mono (by omega)) f cdv A outer s H E EE hr)
theorem h_wrong_forms (T : Txt K w mg) : Has P w K mg base 35 "wrong_forms" p_wrong_forms (spF pWF) :=
  has_of T.f_wrong_forms S_wrong_forms (fun _ _ _ _ _ _ us hl => match us, hl with | [_], _ => rfl) (by rintro _ _ _ _ ⟨xs, y, rfl, ⟨_, h, _⟩, _⟩; subst h; rfl) keeps_wrong_forms (fun f cdv A outer s H E EE hr => d_wrong_forms T ((h_is_kinded T).mono (by omega)) ((h_is_named T).mono (by omega)) f cdv A outer s H E EE hr)
theorem h_is_made (T : Txt K w mg) : Has P w K mg base 33 "is_made" p_is_made (spF pIM) :=
  has_of T.f_is_made S_is_made (fun _ _ _ _ _ _ us hl => match us, hl with | [_, _, _], _ => rfl) (by rintro _ _ _ _ ⟨xs, y, rfl, ⟨_, _, h, _⟩, _⟩; subst h; rfl) keeps_is_made (fun f cdv A outer s H E EE hr => d_is_made T ((h_kind_by_hole T 30).mono (by omega)) f cdv A outer s H E EE hr)
theorem h_wrong_in_book (T : Txt K w mg) : Has P w K mg base 36 "wrong_in_book" p_wrong_in_book (spF pWB) :=
  has_of T.f_wrong_in_book S_wrong_in_book (fun _ _ _ _ _ _ us hl => match us, hl with | [_], _ => rfl) (by rintro _ _ _ _ ⟨xs, y, rfl, ⟨_, h, _⟩, _⟩; subst h; rfl) keeps_wrong_in_book (fun f cdv A outer s H E EE hr => d_wrong_in_book T ((h_is_made T).mono (by omega)) ((h_names_by T 30).mono (by omega)) ((h_wrong_forms T).mono (by omega)) f cdv A outer s H E EE hr)
theorem h_check_book (T : Txt K w mg) : Has P w K mg base 37 "check_book" p_check_book (spF pCB) :=
  has_of T.f_check_book S_check_book (fun _ _ _ _ _ _ us hl => match us, hl with | [_], _ => rfl) (by rintro _ _ _ _ ⟨xs, y, rfl, ⟨_, h, _⟩, _⟩; subst h; rfl) keeps_check_book (fun f cdv A outer s H E EE hr => d_check_book T ((h_wrong_in_book T).mono (by omega)) f cdv A outer s H E EE hr)
theorem h_checked_book (T : Txt K w mg) : Has P w K mg base 38 "checked_book" p_checked_book (spF pCd) :=
  has_of T.f_checked_book S_checked_book (fun _ _ _ _ _ _ us hl => match us, hl with | [_], _ => rfl) (by rintro _ _ _ _ ⟨xs, y, rfl, ⟨_, h, _⟩, _⟩; subst h; rfl) keeps_checked_book (fun f cdv A outer s H E EE hr => d_checked_book T ((h_check_book T).mono (by omega)) f cdv A outer s H E EE hr)
theorem h_check_kind_of (T : Txt K w mg) : Has P w K mg base 36 "check_kind_of" p_check_kind_of (spF pCk) :=
  has_of T.f_check_kind_of S_check_kind_of (fun _ _ _ _ _ _ us hl => match us, hl with | [_, _], _ => rfl) (by rintro _ _ _ _ ⟨xs, y, rfl, ⟨_, _, h, _⟩, _⟩; subst h; rfl) keeps_check_kind_of (fun f cdv A outer s H E EE hr => d_check_kind_of T ((h_is_kind_in T).mono (by omega)) f cdv A outer s H E EE hr)
theorem h_check_hole (T : Txt K w mg) : Has P w K mg base 3 "check_hole" p_check_hole (spF pCh) :=
  has_of T.f_check_hole S_check_hole (fun _ _ _ _ _ _ us hl => match us, hl with | [_, _], _ => rfl) (by rintro _ _ _ _ ⟨xs, y, rfl, ⟨_, _, h, _⟩, _⟩; subst h; rfl) keeps_check_hole (fun f cdv A outer s H E EE hr => d_check_hole T ((h_is_hole_in T).mono (by omega)) f cdv A outer s H E EE hr)
theorem h_checked_places (T : Txt K w mg) : Has P w K mg base 39 "checked_places" p_checked_places (spF pCp) :=
  has_of T.f_checked_places S_checked_places (fun _ _ _ _ _ _ us hl => match us, hl with | [_, _, _], _ => rfl) (by rintro _ _ _ _ ⟨xs, y, rfl, ⟨_, _, _, h, _⟩, _⟩; subst h; rfl) keeps_checked_places (fun f cdv A outer s H E EE hr => d_checked_places T ((h_check_hole T).mono (by omega)) ((h_check_kind_of T).mono (by omega)) ((h_checked_book T).mono (by omega)) f cdv A outer s H E EE hr)
theorem h_kind_by (T : Txt K w mg) : Has P w K mg base 40 "kind_by" p_kind_by (spF pKy) :=
  has_of T.f_kind_by S_kind_by (fun _ _ _ _ _ _ us hl => match us, hl with | [_, _, _], _ => rfl) (by rintro _ _ _ _ ⟨xs, y, rfl, ⟨_, _, _, h, _⟩, _⟩; subst h; rfl) keeps_kind_by (fun f cdv A outer s H E EE hr => d_kind_by T ((h_kind_by_hole T 30).mono (by omega)) ((h_checked_places T).mono (by omega)) f cdv A outer s H E EE hr)
theorem hk_kind_by (T : Txt K w mg) : HasK P w K mg base 40 "kind_by" p_kind_by (spF pKy) ["hole", "kind", "book"] [2, 1, 0] :=
  hasKw_of T.f_kind_by S_kind_by (fun _ _ _ _ _ _ us hl => match us, hl with | [_, _, _], _ => rfl) (by rintro _ _ _ _ ⟨xs, y, rfl, ⟨_, _, _, h, _⟩, _⟩; subst h; rfl) keeps_kind_by (fun f cdv A outer s H E EE hr => d_kind_by T ((h_kind_by_hole T 30).mono (by omega)) ((h_checked_places T).mono (by omega)) f cdv A outer s H E EE hr)
theorem h_book_by (T : Txt K w mg) : Has P w K mg base 39 "book_by" p_book_by (spF pBB) :=
  has_of T.f_book_by S_book_by (fun _ _ _ _ _ _ us hl => match us, hl with | [_, _], _ => rfl) (by rintro _ _ _ _ ⟨xs, y, rfl, ⟨_, _, h, _⟩, _⟩; subst h; rfl) keeps_book_by (fun f cdv A outer s H E EE hr => d_book_by T ((h_book_by_hole T).mono (by omega)) ((h_check_hole T).mono (by omega)) ((h_checked_book T).mono (by omega)) f cdv A outer s H E EE hr)
theorem hk_book_by (T : Txt K w mg) : HasK P w K mg base 39 "book_by" p_book_by (spF pBB) ["hole", "book"] [1, 0] :=
  hasKw_of T.f_book_by S_book_by (fun _ _ _ _ _ _ us hl => match us, hl with | [_, _], _ => rfl) (by rintro _ _ _ _ ⟨xs, y, rfl, ⟨_, _, h, _⟩, _⟩; subst h; rfl) keeps_book_by (fun f cdv A outer s H E EE hr => d_book_by T ((h_book_by_hole T).mono (by omega)) ((h_check_hole T).mono (by omega)) ((h_checked_book T).mono (by omega)) f cdv A outer s H E EE hr)
theorem h_is_book (T : Txt K w mg) : Has P w K mg base 37 "is_book" p_is_book (spF pIb) :=
  has_of T.f_is_book S_is_book (fun _ _ _ _ _ _ us hl => match us, hl with | [_], _ => rfl) (by rintro _ _ _ _ ⟨xs, y, rfl, ⟨_, h, _⟩, _⟩; subst h; rfl) keeps_is_book (fun f cdv A outer s H E EE hr => d_is_book T ((h_wrong_in_book T).mono (by omega)) f cdv A outer s H E EE hr)
theorem h_kind_named (T : Txt K w mg) : Has P w K mg base 39 "kind_named" p_kind_named (spF pKn) :=
  has_of T.f_kind_named S_kind_named (fun _ _ _ _ _ _ us hl => match us, hl with | [_, _], _ => rfl) (by rintro _ _ _ _ ⟨xs, y, rfl, ⟨_, _, h, _⟩, _⟩; subst h; rfl) keeps_kind_named (fun f cdv A outer s H E EE hr => d_kind_named T ((h_is_named T).mono (by omega)) ((h_checked_book T).mono (by omega)) f cdv A outer s H E EE hr)
theorem h_law_spring (T : Txt K w mg) : Has P w K mg base 1 "_law_spring" p_law_spring sp_spring :=
  has_of T.f_law_spring S_law_spring (fun _ _ _ _ _ _ us hl => match us, hl with | [_, _], _ => rfl) (by rintro _ _ _ _ ⟨_, _, rfl, _⟩; rfl) keeps_law_spring (fun f cdv A outer s H E EE hr => d_law_spring T  f cdv A outer s H E EE hr)
theorem h_law_draw (T : Txt K w mg) : Has P w K mg base 1 "_law_draw" p_law_draw (spS pDr) :=
  has_of T.f_law_draw S_law_draw (fun _ _ _ _ _ _ us hl => match us, hl with | [_, _], _ => rfl) (by rintro _ _ _ _ ⟨i, rest, R, rfl, _, ⟨_, h, _⟩, _⟩; subst h; rfl) keeps_law_draw (fun f cdv A outer s H E EE hr => d_law_draw T  f cdv A outer s H E EE hr)
theorem h_law_pick (T : Txt K w mg) : Has P w K mg base 2 "_law_pick" p_law_pick (spS pPk) :=
  has_of T.f_law_pick S_law_pick (fun _ _ _ _ _ _ us hl => match us, hl with | [_, _], _ => rfl) (by rintro _ _ _ _ ⟨i, rest, R, rfl, _, ⟨_, _, h, _⟩, _⟩; subst h; rfl) keeps_law_pick (fun f cdv A outer s H E EE hr => d_law_pick T ((h_law_draw T).mono (by omega)) f cdv A outer s H E EE hr)
theorem h_law_is (T : Txt K w mg) : Has P w K mg base 1 "_law_is" p_law_is (spF pIs) :=
  has_of T.f_law_is S_law_is (fun _ _ _ _ _ _ us hl => match us, hl with | [_, _], _ => rfl) (by rintro _ _ _ _ ⟨xs, y, rfl, ⟨_, h, _⟩, _⟩; subst h; rfl) keeps_law_is (fun f cdv A outer s H E EE hr => d_law_is T  f cdv A outer s H E EE hr)
theorem h_law_name (T : Txt K w mg) : Has P w K mg base 2 "_law_name" p_law_name (spS pNe) :=
  has_of T.f_law_name S_law_name (fun _ _ _ _ _ _ us hl => match us, hl with | [_, _], _ => rfl) (by rintro _ _ _ _ ⟨i, rest, R, rfl, _, ⟨_, _, h, _⟩, _⟩; subst h; rfl) keeps_law_name (fun f cdv A outer s H E EE hr => d_law_name T ((h_law_draw T).mono (by omega)) f cdv A outer s H E EE hr)
theorem h_law_form (T : Txt K w mg) : ∀ l, Has P w K mg base (l + 3) "_law_form" p_law_form (spS (pFm l))
  | 0 => has_no T.f_law_form (fun _ _ _ _ _ _ us hl => match us, hl with | [_, _, _], _ => rfl) (by rintro _ _ _ _ ⟨i, rest, R, rfl, _, ⟨_, _, _, h, _⟩, _⟩; subst h; rfl) no_pFm
  | l + 1 => by
    have ih := h_law_form T l
    exact has_of T.f_law_form S_law_form (fun _ _ _ _ _ _ us hl => match us, hl with | [_, _, _], _ => rfl) (by rintro _ _ _ _ ⟨i, rest, R, rfl, _, ⟨_, _, _, h, _⟩, _⟩; subst h; rfl) (keeps_law_form l) (fun f cdv A outer s H E EE hr => d_law_form T (ih.mono (by omega)) ((h_law_draw T).mono (by omega)) ((h_law_pick T).mono (by omega)) f cdv A outer s H E EE hr)
theorem h_law_own_form (T : Txt K w mg) : Has P w K mg base 13 "_law_own_form" p_law_own_form (spS pOf) :=
  has_of T.f_law_own_form S_law_own_form (fun _ _ _ _ _ _ us hl => match us, hl with | [_, _, _, _], _ => rfl) (by rintro _ _ _ _ ⟨i, rest, R, rfl, _, ⟨_, _, _, h, _⟩, _⟩; subst h; rfl) keeps_law_own_form (fun f cdv A outer s H E EE hr => d_law_own_form T ((h_law_draw T).mono (by omega)) ((h_law_form T 9).mono (by omega)) ((h_law_pick T).mono (by omega)) f cdv A outer s H E EE hr)
theorem h_law_lib (T : Txt K w mg) : Has P w K mg base 14 "_law_lib" p_law_lib (spS pLi) :=
  has_of T.f_law_lib S_law_lib (fun _ _ _ _ _ _ us hl => match us, hl with | [_, _], _ => rfl) (by rintro _ _ _ _ ⟨i, rest, R, rfl, _, ⟨h, _⟩, _⟩; subst h; rfl) keeps_law_lib (fun f cdv A outer s H E EE hr => d_law_lib T ((h_law_own_form T).mono (by omega)) ((h_law_draw T).mono (by omega)) ((h_law_name T).mono (by omega)) f cdv A outer s H E EE hr)
theorem h_law_gap (T : Txt K w mg) : Has P w K mg base 3 "_law_gap" p_law_gap (spS pGp) :=
  has_of T.f_law_gap S_law_gap (fun _ _ _ _ _ _ us hl => match us, hl with | [_, _], _ => rfl) (by rintro _ _ _ _ ⟨i, rest, R, rfl, _, ⟨_, _, h, _⟩, _⟩; subst h; rfl) keeps_law_gap (fun f cdv A outer s H E EE hr => d_law_gap T ((h_law_draw T).mono (by omega)) ((h_law_pick T).mono (by omega)) f cdv A outer s H E EE hr)
theorem h_law_name_by (T : Txt K w mg) : Has P w K mg base 1 "_law_name_by" p_law_name_by (spF pMN) :=
  has_of T.f_law_name_by S_law_name_by (fun _ _ _ _ _ _ us hl => match us, hl with | [_, _], _ => rfl) (by rintro _ _ _ _ ⟨xs, y, rfl, ⟨_, _, h, _⟩, _⟩; subst h; rfl) keeps_law_name_by (fun f cdv A outer s H E EE hr => d_law_name_by T  f cdv A outer s H E EE hr)
theorem h_law_by (T : Txt K w mg) : ∀ l, Has P w K mg base (l + 2) "_law_by" p_law_by (spF (pKB l))
  | 0 => has_no T.f_law_by (fun _ _ _ _ _ _ us hl => match us, hl with | [_, _], _ => rfl) (by rintro _ _ _ _ ⟨xs, y, rfl, ⟨_, _, h, _⟩, _⟩; subst h; rfl) no_pKB
  | l + 1 => by
    have ih := h_law_by T l
    exact has_of T.f_law_by S_law_by (fun _ _ _ _ _ _ us hl => match us, hl with | [_, _], _ => rfl) (by rintro _ _ _ _ ⟨xs, y, rfl, ⟨_, _, h, _⟩, _⟩; subst h; rfl) (keeps_law_by l) (fun f cdv A outer s H E EE hr => d_law_by T (ih.mono (by omega)) ((h_law_name_by T).mono (by omega)) f cdv A outer s H E EE hr)
theorem h_law_lib_by (T : Txt K w mg) : Has P w K mg base 33 "_law_lib_by" p_law_lib_by (spF pLB) :=
  has_of T.f_law_lib_by S_law_lib_by (fun _ _ _ _ _ _ us hl => match us, hl with | [_, _], _ => rfl) (by rintro _ _ _ _ ⟨xs, y, rfl, ⟨_, _, h, _⟩, _⟩; subst h; rfl) keeps_law_lib_by (fun f cdv A outer s H E EE hr => d_law_lib_by T ((h_law_by T 30).mono (by omega)) ((h_law_name_by T).mono (by omega)) f cdv A outer s H E EE hr)
theorem h_law_parts (T : Txt K w mg) : ∀ l, Has P w K mg base (l + 1) "_law_parts" p_law_parts (spF (pPa l))
  | 0 => has_no T.f_law_parts (fun _ _ _ _ _ _ us hl => match us, hl with | [_], _ => rfl) (by rintro _ _ _ _ ⟨xs, y, rfl, ⟨_, h, _⟩, _⟩; subst h; rfl) no_pPa
  | l + 1 => by
    have ih := h_law_parts T l
    exact has_of T.f_law_parts S_law_parts (fun _ _ _ _ _ _ us hl => match us, hl with | [_], _ => rfl) (by rintro _ _ _ _ ⟨xs, y, rfl, ⟨_, h, _⟩, _⟩; subst h; rfl) (keeps_law_parts l) (fun f cdv A outer s H E EE hr => d_law_parts T (ih.mono (by omega)) f cdv A outer s H E EE hr)
theorem h_law_step (T : Txt K w mg) : Has P w K mg base 41 "_law_step" p_law_step (spS pSt) :=
  has_of T.f_law_step S_law_step (fun _ _ _ _ _ _ us hl => match us, hl with | [_, _, _, _], _ => rfl) (by rintro _ _ _ _ ⟨i, rest, R, rfl, _, ⟨_, _, _, h, _⟩, _⟩; subst h; rfl) keeps_law_step (fun f cdv A outer s H E EE hr => d_law_step T ((h_law_is T).mono (by omega)) ((h_law_by T 30).mono (by omega)) ((h_kind_named T).mono (by omega)) ((h_is_book T).mono (by omega)) ((h_law_name_by T).mono (by omega)) ((h_law_pick T).mono (by omega)) ((h_book_by T).mono (by omega)) ((h_kind_by T).mono (by omega)) ((h_law_lib_by T).mono (by omega)) f cdv A outer s H E EE hr)
theorem h_law_right (T : Txt K w mg) : Has P w K mg base 42 "_law_right" p_law_right (spS pRi) :=
  has_of T.f_law_right S_law_right (fun _ _ _ _ _ _ us hl => match us, hl with | [_], _ => rfl) (by rintro _ _ _ _ ⟨i, rest, R, rfl, _, ⟨h, _⟩, _⟩; subst h; rfl) keeps_law_right (fun f cdv A outer s H E EE hr => d_law_right T ((h_law_is T).mono (by omega)) ((h_law_draw T).mono (by omega)) ((h_law_pick T).mono (by omega)) ((h_law_step T).mono (by omega)) ((h_law_parts T 30).mono (by omega)) ((h_law_by T 30).mono (by omega)) ((h_law_lib_by T).mono (by omega)) ((h_law_gap T).mono (by omega)) ((h_law_form T 9).mono (by omega)) ((h_law_lib T).mono (by omega)) ((hk_kind_by T).mono (by omega)) ((hk_book_by T).mono (by omega)) f cdv A outer s H E EE hr)
theorem h_law (T : Txt K w mg) : Has P w K mg base 43 "law" p_law sp_law :=
  has_of T.f_law S_law (fun _ _ _ _ _ _ us hl => match us, hl with | [_], _ => rfl) (by rintro _ _ _ _ ⟨_, rfl, _⟩; rfl) keeps_law (fun f cdv A outer s H E EE hr => d_law T ((h_law_right T).mono (by omega)) ((h_law_spring T).mono (by omega)) f cdv A outer s H E EE hr)
theorem law_fn {fa : Addr} (T : Txt K w mg) (hfa : mg "law" = some (.ref fa)) :
    ∃ fd : FuncData, (∀ (s : Shared) (u : Value), BindsTo s fd ⟨[u], []⟩ [("script", u)]) ∧ ∀ base : Heap, K.In base → base.Ns mainGlobals mg → FnG P w K mg base CX0 43 fa fd ["script"] (spV K mg 1 sp_law) := by
  obtain ⟨f, fd, hm, Fu⟩ := T.f_law
  have e : f = fa := by
    rw [hm] at hfa
    cases hfa
    rfl
  subst e
  have ar : ∀ args st P PE, sp_law args st P PE → args.length = 1 := (by rintro _ _ _ _ ⟨_, rfl, _⟩; rfl)
  refine ⟨fd, fun s u => ?_, fun base _ _ => ?_⟩
  · obtain ⟨oc, od, kV, doc, pm, an, cdv, ct, osl, rfl, lk, hcd⟩ := Fu.ex
    exact .of_eq rfl
  · exact fn_keep (k := 42) Fu S_law ar keeps_law (fun cdv A outer s H E EE hr => d_law T ((h_law_right T).mono (by omega)) ((h_law_spring T).mono (by omega)) f cdv A outer s H E EE hr)
end
end DL.K20
/-! text K20T -/
namespace DL.K20
open PySem PySem.Spec PyProof.Rows L2 DL
end DL.K20
open PySem PySem.W PyProof.Rows
set_option maxHeartbeats 0 in
theorem PySem.Challenge.cw_holekinds_k20_whole_kinds_and_books_by_h_holds : PySem.Challenge.rw_holekinds_k20_whole_kinds_and_books_by_h.Holds := by
  w_on; o_law; k_head; (case hw => w_witness2)
  k_fill
  refine DL.walkD (l := PySem.Challenge.rw_holekinds_k20_whole_kinds_and_books_by_h) (n := 63) (k := 43) (x := "script") (sp := DL.K20.sp_law) rfl (by decide) rfl ⟨rfl, rfl, by decide, by decide⟩ (fun w h Y => PySem.W.kIn_of Y) ?F (fun ns PE hl => ⟨ns, rfl, hl, fun _ => rfl⟩)
  case F =>
    intro w mg fa h KX G hmg
    refine' DL.K20.law_fn (DL.K20.txt_mk KX G ?a0 ?l0 ?c0 ?k0 ?a1 ?l1 ?c1 ?k1 ?a2 ?l2 ?c2 ?k2 ?a3 ?l3 ?c3 ?k3 ?a4 ?l4 ?c4 ?k4 ?a5 ?l5 ?c5 ?k5 ?a6 ?l6 ?c6 ?k6 ?a7 ?l7 ?c7 ?k7 ?a8 ?l8 ?c8 ?k8 ?a9 ?l9 ?c9 ?k9 ?a10 ?l10 ?c10 ?k10 ?a11 ?l11 ?c11 ?k11 ?a12 ?l12 ?c12 ?k12 ?a13 ?l13 ?c13 ?k13 ?a14 ?l14 ?c14 ?k14 ?a15 ?l15 ?c15 ?k15 ?a16 ?l16 ?c16 ?k16 ?a17 ?l17 ?c17 ?k17 ?a18 ?l18 ?c18 ?k18 ?a19 ?l19 ?c19 ?k19 ?a20 ?l20 ?c20 ?k20 ?a21 ?l21 ?c21 ?k21 ?a22 ?l22 ?c22 ?k22 ?a23 ?l23 ?c23 ?k23 ?a24 ?l24 ?c24 ?k24 ?a25 ?l25 ?c25 ?k25 ?a26 ?l26 ?c26 ?k26 ?a27 ?l27 ?c27 ?k27 ?a28 ?l28 ?c28 ?k28 ?a29 ?l29 ?c29 ?k29 ?a30 ?l30 ?c30 ?k30 ?a31 ?l31 ?c31 ?k31 ?a32 ?l32 ?c32 ?k32 ?a33 ?l33 ?c33 ?k33 ?a34 ?l34 ?c34 ?k34 ?a35 ?l35 ?c35 ?k35 ?a36 ?l36 ?c36 ?k36 ?a37 ?l37 ?c37 ?k37 ?a38 ?l38 ?c38 ?k38 ?a39 ?l39 ?c39 ?k39 ?z0 ?z1 ?z2 ?z3 ?z4 ?z5 ?z6 ?z7 ?z8 ?z9 ?z10 ?z11 ?z12 ?z13 ?z14 ?z15 ?z16 ?da0 ?dl0 ?dq0 ?ds0 ?gg0 ?gl0 ?gg1 ?gl1 ?gg2 ?gg3 ?gg4 ?gg5 ?gg6 ?gg7 ?gg8 ?gg9) hmg
    (case a0 => k_is)
    (case l0 => k_is)
    (case c0 => k_is)
    (case k0 => k_is)
    (case a1 => k_is)
    (case l1 => k_is)
    (case c1 => k_is)
    (case k1 => k_is)
    (case a2 => k_is)
    (case l2 => k_is)
    (case c2 => k_is)
    (case k2 => k_is)
    (case a3 => k_is)
    (case l3 => k_is)
    (case c3 => k_is)
    (case k3 => k_is)
    (case a4 => k_is)
    (case l4 => k_is)
    (case c4 => k_is)
    (case k4 => k_is)
    (case a5 => k_is)
    (case l5 => k_is)
    (case c5 => k_is)
    (case k5 => k_is)
    (case a6 => k_is)
    (case l6 => k_is)
    (case c6 => k_is)
    (case k6 => k_is)
    (case a7 => k_is)
    (case l7 => k_is)
    (case c7 => k_is)
    (case k7 => k_is)
    (case a8 => k_is)
    (case l8 => k_is)
    (case c8 => k_is)
    (case k8 => k_is)
    (case a9 => k_is)
    (case l9 => k_is)
    (case c9 => k_is)
    (case k9 => k_is)
    (case a10 => k_is)
    (case l10 => k_is)
    (case c10 => k_is)
    (case k10 => k_is)
    (case a11 => k_is)
    (case l11 => k_is)
    (case c11 => k_is)
    (case k11 => k_is)
    (case a12 => k_is)
    (case l12 => k_is)
    (case c12 => k_is)
    (case k12 => k_is)
    (case a13 => k_is)
    (case l13 => k_is)
    (case c13 => k_is)
    (case k13 => k_is)
    (case a14 => k_is)
    (case l14 => k_is)
    (case c14 => k_is)
    (case k14 => k_is)
    (case a15 => k_is)
    (case l15 => k_is)
    (case c15 => k_is)
    (case k15 => k_is)
    (case a16 => k_is)
    (case l16 => k_is)
    (case c16 => k_is)
    (case k16 => k_is)
    (case a17 => k_is)
    (case l17 => k_is)
    (case c17 => k_is)
    (case k17 => k_is)
    (case a18 => k_is)
    (case l18 => k_is)
    (case c18 => k_is)
    (case k18 => k_is)
    (case a19 => k_is)
    (case l19 => k_is)
    (case c19 => k_is)
    (case k19 => k_is)
    (case a20 => k_is)
    (case l20 => k_is)
    (case c20 => k_is)
    (case k20 => k_is)
    (case a21 => k_is)
    (case l21 => k_is)
    (case c21 => k_is)
    (case k21 => k_is)
    (case a22 => k_is)
    (case l22 => k_is)
    (case c22 => k_is)
    (case k22 => k_is)
    (case a23 => k_is)
    (case l23 => k_is)
    (case c23 => k_is)
    (case k23 => k_is)
    (case a24 => k_is)
    (case l24 => k_is)
    (case c24 => k_is)
    (case k24 => k_is)
    (case a25 => k_is)
    (case l25 => k_is)
    (case c25 => k_is)
    (case k25 => k_is)
    (case a26 => k_is)
    (case l26 => k_is)
    (case c26 => k_is)
    (case k26 => k_is)
    (case a27 => k_is)
    (case l27 => k_is)
    (case c27 => k_is)
    (case k27 => k_is)
    (case a28 => k_is)
    (case l28 => k_is)
    (case c28 => k_is)
    (case k28 => k_is)
    (case a29 => k_is)
    (case l29 => k_is)
    (case c29 => k_is)
    (case k29 => k_is)
    (case a30 => k_is)
    (case l30 => k_is)
    (case c30 => k_is)
    (case k30 => k_is)
    (case a31 => k_is)
    (case l31 => k_is)
    (case c31 => k_is)
    (case k31 => k_is)
    (case a32 => k_is)
    (case l32 => k_is)
    (case c32 => k_is)
    (case k32 => k_is)
    (case a33 => k_is)
    (case l33 => k_is)
    (case c33 => k_is)
    (case k33 => k_is)
    (case a34 => k_is)
    (case l34 => k_is)
    (case c34 => k_is)
    (case k34 => k_is)
    (case a35 => k_is)
    (case l35 => k_is)
    (case c35 => k_is)
    (case k35 => k_is)
    (case a36 => k_is)
    (case l36 => k_is)
    (case c36 => k_is)
    (case k36 => k_is)
    (case a37 => k_is)
    (case l37 => k_is)
    (case c37 => k_is)
    (case k37 => k_is)
    (case a38 => k_is)
    (case l38 => k_is)
    (case c38 => k_is)
    (case k38 => k_is)
    (case a39 => k_is)
    (case l39 => k_is)
    (case c39 => k_is)
    (case k39 => k_is)
    (case z0 => k_is)
    (case z1 => k_is)
    (case z2 => k_is)
    (case z3 => k_is)
    (case z4 => k_is)
    (case z5 => k_is)
    (case z6 => k_is)
    (case z7 => k_is)
    (case z8 => k_is)
    (case z9 => k_is)
    (case z10 => k_is)
    (case z11 => k_is)
    (case z12 => k_is)
    (case z13 => k_is)
    (case z14 => k_is)
    (case z15 => k_is)
    (case z16 => k_is)
    (case da0 => k_is)
    (case dl0 => k_is)
    (case dq0 => first | k_is | (simp only [KeysLit]; exact ⟨⟨_, _, rfl, rfl⟩, ⟨_, _, rfl, rfl⟩, ⟨_, _, rfl, rfl⟩, ⟨_, _, rfl, rfl⟩, ⟨_, _, rfl, rfl⟩, trivial⟩))
    (case ds0 => first | rfl | decide | k_is)
    (case gg0 => k_is)
    (case gl0 => k_is)
    (case gg1 => k_is)
    (case gl1 => k_is)
    (case gg2 => k_is)
    (case gg3 => k_is)
    (case gg4 => k_is)
    (case gg5 => k_is)
    (case gg6 => k_is)
    (case gg7 => k_is)
    (case gg8 => k_is)
    (case gg9 => k_is)
