import PyProof.Rows.All
import PySem.Challenge.RW_hindcost_k01_is_system
import HandS.Head0
import HandS.Head1
import HandS.Head2
import HandS.HeadEnd
import HandS.WordsExc
import HandS.More
import KE.KStateDown
import Lean
import Wide.All
import OpenK.AllK
import Wide.FinOn
import HandS.ForMost
import HandS.Exc
import HandS.ExcOwn
import HandS.Lambda
import HandS.EndTab
import HandS.HeadHook1
import KE.KeyNested
import PyProof.DictRoadsH
import HandS.IsInst
import HandS.Wide
import HandS.TupAny
import HandS.TupMul
import HandS.Deep
import HandS.Style
import PyProof.ReprLen
import PyProof.P3In
import HandS.Dict
import HandS.Conv
import HandS.Text
import KE.GoesEnum
import KE.GoesEnumKw
import PyProof.Rows.CallKwBuiltin
import HandS.Defaults
import HandS.HeadHook2
import HandS.Ends
import KE.KRevSl
import KE.DataMinMax
import KE.KDictZip
import HandS.Zip
import KE.KExcInit
import PyProof.ExcBaseAll.LookupError
import HandS.ExcField
import HandS.TryOnly
import HandS.HeadHook4
import HandS.Sort
import HandS.Iter
import PyProof.ListNew
import HandS.DictComp
import HandS.ExcIs
import KE.KTryMore
import KE.KExcIs
import HandS.SortKw
import KE.DatumOrd
import KE.KDictDisplayH
import KE.SortData
import KE.KDictPairs
import HandS.MakeKwOnly
import KE.KDictCopyH
import PyProof.Transfer
import KE.KDictSum
import HandS.SetKeys
import KE.DataMinKey
import PyProof.DictMoreH
import HandS.SetBool
import HandS.Strs
import HandS.WordsDict
import PyProof.EqKinds
import PyProof.EqAt
import KE.KEqDict
import KE.KIndexWalk
import KE.KIndexOf
import HandS.Nested
import HandS.WrittenGet
import KE.DatumIndex
import PyProof.NeKinds
set_option Elab.async false
set_option linter.all false
set_option maxRecDepth 100000
set_option maxHeartbeats 4000000
namespace FL
open PySem PySem.Spec PyProof.Rows L2
def clsFB (c : Str) (fs : List Str) (K : PySem.W.Frag) : Bool :=
  PySem.W.plainGet K (He.ga K c) Str.empty && (PySem.W.hasDictIn K (He.ga K c) && (PySem.W.plainOver K (He.ga K c) && (He.eqO (PySem.W.findIn K (.ref (He.ga K c)) "__setattr__") (some (some (.builtin "object.__setattr__"))) && fs.all fun f => He.eqO (PySem.W.findIn K (.ref (He.ga K c)) f) (some none))))
def methB (c m : Str) (K : PySem.W.Frag) : Bool :=
  He.eqO (PySem.W.findIn K (.ref (He.ga K c)) m) (some (some (.ref (He.ma K (He.ga K c) m)))) && (PySem.W.isFn K (.ref (He.ma K (He.ga K c) m)) && PySem.W.keepIn K (.ref (He.ma K (He.ga K c) m)))
def mkB (c : Str) (K : PySem.W.Frag) : Bool :=
  PySem.W.makesIn K (He.ga K c) && (He.eqO (PySem.W.findIn K (.ref (He.ga K c)) "__init__") (some (some (.ref (He.ma K (He.ga K c) "__init__")))) && (PySem.W.isFn K (.ref (He.ma K (He.ga K c) "__init__")) && PySem.W.keepIn K (.ref (He.ga K c))))
abbrev pg : Program := PySem.Challenge.pw_hindcost_k01_is_system
def top (i : Nat) : Stmt := pg.main.body.getD i (.Pass ⟨0, 0, 0, 0⟩)
abbrev s_is_integer : Stmt := top 6
abbrev s_has_shortcuts : Stmt := top 8
abbrev s__law_stream : Stmt := top 12
abbrev s__law_draw : Stmt := top 13
abbrev s__law_in_range : Stmt := top 19
abbrev s__law_flat : Stmt := top 24
abbrev s_is_table : Stmt := top 7
abbrev s_is_request_row : Stmt := top 9
abbrev s__law_switching : Stmt := top 14
abbrev s__law_request : Stmt := top 15
abbrev s__law_unrelated : Stmt := top 17
abbrev s__law_valid_table : Stmt := top 20
abbrev s__law_longer : Stmt := top 23
abbrev s_is_system : Stmt := top 10
abbrev s__law_system : Stmt := top 16
abbrev s__law_valid_system : Stmt := top 21
abbrev s__law_agrees : Stmt := top 22
abbrev s__law_bounds_right : Stmt := top 25
abbrev s__law_damaged : Stmt := top 18
abbrev s_law : Stmt := top 26
def d_is_integer : He.DefD := ⟨("is_integer", none), "is_integer", "is_integer", defArgs s_is_integer, defBody s_is_integer, defScope s_is_integer, [], []⟩
def d_has_shortcuts : He.DefD := ⟨("has_shortcuts", none), "has_shortcuts", "has_shortcuts", defArgs s_has_shortcuts, defBody s_has_shortcuts, defScope s_has_shortcuts, [], []⟩
def d__law_stream : He.DefD := ⟨("_law_stream", none), "_law_stream", "_law_stream", defArgs s__law_stream, defBody s__law_stream, defScope s__law_stream, [], []⟩
def d__law_draw : He.DefD := ⟨("_law_draw", none), "_law_draw", "_law_draw", defArgs s__law_draw, defBody s__law_draw, defScope s__law_draw, [], []⟩
def d__law_in_range : He.DefD := ⟨("_law_in_range", none), "_law_in_range", "_law_in_range", defArgs s__law_in_range, defBody s__law_in_range, defScope s__law_in_range, [], []⟩
def d__law_flat : He.DefD := ⟨("_law_flat", none), "_law_flat", "_law_flat", defArgs s__law_flat, defBody s__law_flat, defScope s__law_flat, [], []⟩
def d_is_table : He.DefD := ⟨("is_table", none), "is_table", "is_table", defArgs s_is_table, defBody s_is_table, defScope s_is_table, [], []⟩
def d_is_request_row : He.DefD := ⟨("is_request_row", none), "is_request_row", "is_request_row", defArgs s_is_request_row, defBody s_is_request_row, defScope s_is_request_row, [], []⟩
def d__law_switching : He.DefD := ⟨("_law_switching", none), "_law_switching", "_law_switching", defArgs s__law_switching, defBody s__law_switching, defScope s__law_switching, [], []⟩
def d__law_request : He.DefD := ⟨("_law_request", none), "_law_request", "_law_request", defArgs s__law_request, defBody s__law_request, defScope s__law_request, [], []⟩
def d__law_unrelated : He.DefD := ⟨("_law_unrelated", none), "_law_unrelated", "_law_unrelated", defArgs s__law_unrelated, defBody s__law_unrelated, defScope s__law_unrelated, [], []⟩
def d__law_valid_table : He.DefD := ⟨("_law_valid_table", none), "_law_valid_table", "_law_valid_table", defArgs s__law_valid_table, defBody s__law_valid_table, defScope s__law_valid_table, [], []⟩
def d__law_longer : He.DefD := ⟨("_law_longer", none), "_law_longer", "_law_longer", defArgs s__law_longer, defBody s__law_longer, defScope s__law_longer, [], []⟩
def d_is_system : He.DefD := ⟨("is_system", none), "is_system", "is_system", defArgs s_is_system, defBody s_is_system, defScope s_is_system, [], []⟩
def d__law_system : He.DefD := ⟨("_law_system", none), "_law_system", "_law_system", defArgs s__law_system, defBody s__law_system, defScope s__law_system, [], []⟩
def d__law_valid_system : He.DefD := ⟨("_law_valid_system", none), "_law_valid_system", "_law_valid_system", defArgs s__law_valid_system, defBody s__law_valid_system, defScope s__law_valid_system, [], []⟩
def d__law_agrees : He.DefD := ⟨("_law_agrees", none), "_law_agrees", "_law_agrees", defArgs s__law_agrees, defBody s__law_agrees, defScope s__law_agrees, [], []⟩
def d__law_bounds_right : He.DefD := ⟨("_law_bounds_right", none), "_law_bounds_right", "_law_bounds_right", defArgs s__law_bounds_right, defBody s__law_bounds_right, defScope s__law_bounds_right, [], []⟩
def d__law_damaged : He.DefD := ⟨("_law_damaged", none), "_law_damaged", "_law_damaged", defArgs s__law_damaged, defBody s__law_damaged, defScope s__law_damaged, [], []⟩
def d_law : He.DefD := ⟨("law", none), "law", "law", defArgs s_law, defBody s_law, defScope s_law, [], []⟩
def fn : List He.DefD := [d_is_integer, d_has_shortcuts, d__law_stream, d__law_draw, d__law_in_range, d__law_flat, d_is_table, d_is_request_row, d__law_switching, d__law_request, d__law_unrelated, d__law_valid_table, d__law_longer, d_is_system, d__law_system, d__law_valid_system, d__law_agrees, d__law_bounds_right, d__law_damaged, d_law]
def fa0 : List He.Fa := [.free "isinstance", .free "int", .free "bool", .free "len", .free "list", .free "range", .free "any", .free "abs", .free "max", .free "tuple", .int "MIN_STATES" 2, .int "MAX_STATES" 10, .free "enumerate", .free "zip", .int "MAX_COST" 1000, .free "all", .free "min", .int "MAX_REQUESTS" 8, .free "repr", .int "MAX_LENGTH" 400, .glo "is_integer", .glo "has_shortcuts", .glo "_law_stream", .glo "_law_draw", .glo "_law_in_range", .glo "_law_flat", .glo "is_table", .glo "is_request_row", .glo "_law_switching", .glo "_law_request"]
def fa1 : List He.Fa := [.glo "_law_unrelated", .glo "_law_valid_table", .glo "_law_longer", .glo "is_system", .glo "_law_system", .glo "_law_valid_system", .glo "_law_agrees", .glo "_law_bounds_right", .glo "_law_damaged", .glo "law"]
def fa : List He.Fa := fa0 ++ fa1
end FL
set_option Elab.async false
set_option linter.all false
set_option maxRecDepth 100000
set_option maxHeartbeats 0
namespace FL
open PySem PySem.Spec PyProof.Rows L2
def nm0 : List Str := ["MIN_STATES", "MAX_STATES", "MAX_REQUESTS", "MAX_COST", "MAX_LENGTH", "is_integer", "is_table", "has_shortcuts", "is_request_row", "is_system", "_law_stream", "_law_draw", "_law_switching", "_law_request", "_law_system", "_law_unrelated", "_law_damaged", "_law_in_range", "_law_valid_table", "_law_valid_system", "_law_agrees", "_law_longer", "_law_flat", "_law_bounds_right"]
def nms : List Str := nm0
abbrev hrow : PySem.W.OpenRow := PySem.W.OpenLaw.row PySem.Challenge.rw_hindcost_k01_is_system
abbrev hkk : PySem.W.Hook := He.hookD 4 fa fn
def hob (s : PySem.W.SharedT) : He.AlD := He.obsDG 4 fa fn (HandSHeadRun.getT s)
theorem hob_eq (s : PySem.W.SharedT) : hob s = hkk.obs s.abs := He.obsDG_eq (HandSHeadRun.getT_eq s)
theorem hrun (w : World) : HandSHeadRun.RunEq hrow (PySem.W.view hrow.prog [26]) hkk hob 6000 nms w := by
  intro os
  kernel_rfl
end FL

set_option Elab.async false
set_option linter.all false
set_option maxRecDepth 100000
/-! FL1: values, the abstract heap by places, how they stand for the layer's values and heaps. -/
namespace FL
open PySem PySem.Spec PyProof.Rows L2

inductive Va where
  | non
  | bl (b : Bool)
  | int (i : Int)
  | str (x : Str)
  | tup (xs : List Va)
  | ref (l : Nat)
  | rol (xs : List Va)
  | rp (d : PyData)
  | dv (kvs : List (List Int × Int))
  | exo (a : Addr)
  | exn (a d : Addr) (f : Str) (x : Va)
  | tud (xs : List Va)
inductive AO where
  | lst (xs : List Va)
  | dct (kvs : List (Va × Va))
  | dtl (kvs : List (Va × Va))
  | ins (c : Str) (fs : List (Str × Va))
abbrev AH := List AO
abbrev Ev := List (Option Va)
inductive Rs (α : Type) where
  | ok (a : α) (h : AH)
  | exc (c : Str) (p : List (Str × Va)) (h : AH)
  | bad
def Rs.bind {α β : Type} (r : Rs α) (k : α → AH → Rs β) : Rs β :=
  match r with
  | .ok a h => k a h
  | .exc c p h => .exc c p h
  | .bad => .bad
@[simp] theorem Rs.bind_ok {α β : Type} (a : α) (h : AH) (k : α → AH → Rs β) : (Rs.ok a h).bind k = k a h := rfl
@[simp] theorem Rs.bind_exc {α β : Type} (c : Str) (p : List (Str × Va)) (h : AH) (k : α → AH → Rs β) : (Rs.exc c p h : Rs α).bind k = .exc c p h := rfl
@[simp] theorem Rs.bind_bad {α β : Type} (k : α → AH → Rs β) : (Rs.bad : Rs α).bind k = .bad := rfl

/-- the tables of code objects of the law's makers of lambdas, and the name that each one's code objects bear -/
class Tabz where
  T : List (Addr × Str)
variable [Tabz]
/-- a list that is not written any more: known to the object, or of the module -/
def Fz (K : PySem.W.Frag) (H : Hp) (a : Addr) (vs : List V) : Prop :=
  (∃ o, H a = some (.frz o (.lst vs))) ∨
    ∃ (o : Obj) (its : Array Value) (n : Nat), K.lookup a = some o ∧ o.cls = .type "list" ∧ o.dict = none ∧ o.data = .seq its n ∧ its.size ≤ sizeLine ∧ Vals vs its.toList
theorem Fz.seq {K : PySem.W.Frag} {H : Hp} {a : Addr} {vs : List V} (h : Fz K H a vs) : SqL K H a vs := by
  rcases h with ⟨o, h⟩ | h
  · exact .inl (.inr ⟨o, h⟩)
  · exact .inr h
/-- the entry of a dict whose keys are tuples of ints -/
def entI (x : List Int × Addr × Value) : DictEntry := ⟨reduceHash (Builtin.Tuple.tupleHashOf (x.1.map hashInt)), .ref x.2.1, x.2.2⟩
def DvE (K : PySem.W.Frag) (H : Hp) (kvs : List (List Int × Int)) (xs : List (List Int × Addr × Value)) : Prop :=
  Paired (fun (p : List Int × Int) (x : List Int × Addr × Value) => p.1 = x.1 ∧ SqT K H x.2.1 (x.1.map V.int) ∧ RelV (.int p.2) x.2.2) kvs xs
/-- a dict that is not written any more: keys tuples of ints, values ints -/
def Dv (K : PySem.W.Frag) (H : Hp) (a : Addr) (kvs : List (List Int × Int)) : Prop :=
  ∃ (o : Obj) (φ : Heap → Prop) (es : Array DictEntry) (ep : Nat) (xs : List (List Int × Addr × Value)), H a = some (.frz o (.ext φ)) ∧ o.ExactDict ∧ o.data = .dict es ep ∧ es.toList = xs.map entI ∧ (xs.map (·.1)).Nodup ∧ DvE K H kvs xs
theorem DvE.to {K : PySem.W.Frag} {H H' : Hp} (e : ∀ b vs, SqT K H b vs → SqT K H' b vs) {kvs : List (List Int × Int)} {xs : List (List Int × Addr × Value)} (h : DvE K H kvs xs) : DvE K H' kvs xs :=
  Paired.mapP h fun _ _ z => ⟨z.1, e _ _ z.2.1, z.2.2⟩
theorem Dv.to {K : PySem.W.Frag} {H H' : Hp} {a : Addr} (e1 : ∀ o φ, H a = some (.frz o (.ext φ)) → H' a = some (.frz o (.ext φ))) (e : ∀ b vs, SqT K H b vs → SqT K H' b vs) {kvs : List (List Int × Int)} (h : Dv K H a kvs) : Dv K H' a kvs := by
  obtain ⟨o, φ, es, ep, xs, h1, h2, h3, h4, h5, h6⟩ := h
  exact ⟨o, φ, es, ep, xs, e1 _ _ h1, h2, h3, h4, h5, h6.to e⟩
/-- a tuple that bears no __dict__ -/
def SqN (H : Hp) (a : Addr) (vs : List V) : Prop := ∃ o, H a = some (.frz o (.tup vs)) ∧ o.dict = none
theorem SqN.sq {K : PySem.W.Frag} {H : Hp} {a : Addr} {vs : List V} (h : SqN H a vs) : SqT K H a vs := let ⟨o, h, _⟩ := h; .inl (.inr ⟨o, h⟩)
mutual
inductive VR (K : PySem.W.Frag) (H : Hp) (m : List Addr) : Va → V → Prop
  | non : VR K H m .non .non
  | bl (b : Bool) : VR K H m (.bl b) (.bl b)
  | int (i : Int) : VR K H m (.int i) (.int i)
  | str (x : Str) : VR K H m (.str x) (.str x)
  | rp (d : PyData) : VR K H m (.rp d) (.str d.shown)
  | ref {l : Nat} {a : Addr} : m[l]? = some a → VR K H m (.ref l) (.ref a)
  | tup {xs : List Va} {a : Addr} {vs : List V} : SqT K H a vs → VRs K H m xs vs → VR K H m (.tup xs) (.ref a)
  | rol {xs : List Va} {a : Addr} {vs : List V} : Fz K H a vs → VRs K H m xs vs → VR K H m (.rol xs) (.ref a)
  | dv {kvs : List (List Int × Int)} {a : Addr} : Dv K H a kvs → VR K H m (.dv kvs) (.ref a)
  | exo (a : Addr) : VR K H m (.exo a) (.ref a)
  | exn {a d : Addr} {f : Str} {x : Va} {w : V} : H d = some (.xd [(f, w)]) → VR K H m x w → VR K H m (.exn a d f x) (.ref a)
  | tud {xs : List Va} {a : Addr} {vs : List V} : SqN H a vs → VRs K H m xs vs → VR K H m (.tud xs) (.ref a)
inductive VRs (K : PySem.W.Frag) (H : Hp) (m : List Addr) : List Va → List V → Prop
  | nil : VRs K H m [] []
  | cons {x : Va} {xs : List Va} {v : V} {vs : List V} : VR K H m x v → VRs K H m xs vs → VRs K H m (x :: xs) (v :: vs)
end
/-- pairs of a dict -/
inductive VRp (K : PySem.W.Frag) (H : Hp) (m : List Addr) : List (Va × Va) → List (V × V) → Prop
  | nil : VRp K H m [] []
  | cons {x y : Va} {xs : List (Va × Va)} {v w : V} {vs : List (V × V)} : VR K H m x v → VR K H m y w → VRp K H m xs vs → VRp K H m ((x, y) :: xs) ((v, w) :: vs)

/-- the fields of an instance -/
inductive VRf (K : PySem.W.Frag) (H : Hp) (m : List Addr) : List (Str × Va) → List (Str × V) → Prop
  | nil : VRf K H m [] []
  | cons {f : Str} {x : Va} {xs : List (Str × Va)} {v : V} {vs : List (Str × V)} : VR K H m x v → VRf K H m xs vs → VRf K H m ((f, x) :: xs) ((f, v) :: vs)

mutual
/-- a value as the key of a dict (no texts) -/
def nk : Va → Option PySem.NestedKey
  | .non => some .none
  | .bl b => some (.num (if b then 1 else 0))
  | .int i => some (.num i)
  | .tup xs => (nks xs).map .tup
  | _ => none
def nks : List Va → Option (List PySem.NestedKey)
  | [] => some []
  | x :: xs => match nk x, nks xs with
    | some k, some ks => some (k :: ks)
    | _, _ => none
end
/-- the written dict at a whose keys are tuples -/
def phiN (a : Addr) (xs : List (PySem.NestedKey × Addr × Value)) : Heap → Prop := fun h => ∃ (o : Obj) (es : Array DictEntry) (ep : Nat), h.get? a = some o ∧ o.ExactDict ∧ o.data = .dict es ep ∧ ∀ w : World, es.toList = xs.map fun x => (⟨x.1.hash w, .ref x.2.1, x.2.2⟩ : DictEntry)
/-- pairs of such a dict -/
inductive DtE (K : PySem.W.Frag) (H : Hp) (m : List Addr) : List (Va × Va) → List (PySem.NestedKey × Addr × Value) → Prop
  | nil : DtE K H m [] []
  | cons {p q : Va} {k : PySem.NestedKey} {b : Addr} {v : V} {u : Value} {kvs : List (Va × Va)} {xs : List (PySem.NestedKey × Addr × Value)} (h1 : nk p = some k ∧ k.depth ≤ 8) (h2 : VR K H m p (.ref b)) (h3 : VR K H m q v) (h4 : RelV v u) (h5 : DtE K H m kvs xs) : DtE K H m ((p, q) :: kvs) ((k, b, u) :: xs)
/-- the written dict's pairs, as values -/
def kvV (kvs : List (Key × V)) : List (V × V) := kvs.map fun p => (kV p.1, p.2)
def OR (K : PySem.W.Frag) (H : Hp) (m : List Addr) : AO → Addr → Prop
  | .lst xs, a => ∃ vs, H a = some (.lst vs) ∧ VRs K H m xs vs
  | .dct kvs, a => ∃ ps, H a = some (.dK ps) ∧ VRp K H m kvs (kvV ps)
  | .dtl kvs, a => ∃ xs, H a = some (.ext (phiN a xs)) ∧ DtE K H m kvs xs ∧ (xs.map (·.1)).Nodup ∧ (a == sysModules) = false
  | .ins c fs, a => ∃ dx vs, H a = some (.ins (He.ga K c) dx vs) ∧ VRf K H m fs vs

structure HR (K : PySem.W.Frag) (H : Hp) (m : List Addr) (ah : AH) : Prop where
  len : m.length = ah.length
  nd : m.Nodup
  at_ : ∀ (l : Nat) (a : Addr) (o : AO), m[l]? = some a → ah[l]? = some o → OR K H m o a
  tb : LamX.Tabs Tabz.T H
structure Ext (m : List Addr) (H : Hp) (m' : List Addr) (H' : Hp) : Prop where
  pre : ∃ r, m' = m ++ r
  keep : ∀ b o, H b = some o → b ∉ m → (nt : ∀ ps, o ≠ .tbl ps := by first | assumption | (intro _ z; cases z) | simp) → H' b = some o
  new : ∀ a, a ∈ m' → a ∉ m → H a = none ∨ ∃ ps, H a = some (.tbl ps)
structure ER (K : PySem.W.Frag) (H : Hp) (m : List Addr) (ev : Ev) (σ : L2.St) : Prop where
  len : ev.length = σ.length
  get : ∀ (i : Nat) (v : Va), ev[i]? = some (some v) → ∃ w, σ[i]? = some (some w) ∧ VR K H m v w
/-- an exception: its class by the module's name, its fields -/
def XR (K : PySem.W.Frag) (mg : Str → Option Value) (H : Hp) (m : List Addr) (c : Str) (p : List (Str × Va)) (cls : Value) (d : Option Addr) : Prop :=
  ∃ C, mg c = some (.ref C) ∧ cls = .ref C ∧ match p with
    | [] => d = none
    | [(f, v)] => ∃ dd w, d = some dd ∧ H dd = some (.xd [(f, w)]) ∧ VR K H m v w
    | _ => False

section
variable {K : PySem.W.Frag} {mg : Str → Option Value} {H H' H2 : Hp} {m m' m2 : List Addr} {ah ah' : AH} {ev : Ev} {σ : L2.St}

theorem Ext.refl : Ext m H m H := ⟨⟨[], by simp⟩, fun _ _ h _ _ => h, fun a h1 h2 => absurd h1 h2⟩
theorem Ext.sub (e : Ext m H m' H') {a : Addr} (h : a ∈ m) : a ∈ m' := by
  obtain ⟨r, rfl⟩ := e.pre
  exact List.mem_append_left _ h
theorem Ext.trans (e : Ext m H m' H') (f : Ext m' H' m2 H2) : Ext m H m2 H2 := by
  refine ⟨?_, fun b o h n nt => ?_, fun a h n => ?_⟩
  · obtain ⟨r, e1⟩ := e.pre
    obtain ⟨q, e2⟩ := f.pre
    exact ⟨r ++ q, by rw [e2, e1, List.append_assoc]⟩
  · refine f.keep b o (e.keep b o h n nt) (fun hb => ?_) nt
    rcases e.new b hb n with this | ⟨ps, this⟩
    · rw [h] at this
      cases this
    · rw [h] at this
      exact nt ps (Option.some.inj this)
  · by_cases h1 : a ∈ m'
    · exact e.new a h1 n
    · have q := f.new a h h1
      cases z : H a with
      | none => exact .inl rfl
      | some o =>
        by_cases nt : ∃ ps, o = .tbl ps
        · obtain ⟨ps, y⟩ := nt
          exact .inr ⟨ps, by rw [y]⟩
        · have nt' : ∀ ps, o ≠ .tbl ps := fun ps y => nt ⟨ps, y⟩
          rw [e.keep a o z n nt'] at q
          rcases q with q | ⟨ps, q⟩
          · cases q
          · exact (nt' ps (Option.some.inj q)).elim
theorem Ext.get (e : Ext m H m' H') {l : Nat} {a : Addr} (h : m[l]? = some a) : m'[l]? = some a := by
  obtain ⟨r, rfl⟩ := e.pre
  have hl := (List.getElem?_eq_some_iff.mp h).1
  rw [List.getElem?_append_left hl]
  exact h
theorem HR.mut (r : HR K H m ah) {a : Addr} (h : a ∈ m) : (∃ vs, H a = some (.lst vs)) ∨ (∃ kv, H a = some (.dK kv)) ∨ (∃ xs, H a = some (.ext (phiN a xs))) ∨ ∃ C dx fs, H a = some (.ins C dx fs) := by
  obtain ⟨l, hl⟩ := List.mem_iff_getElem?.mp h
  have hb : l < ah.length := by rw [← r.len]; exact (List.getElem?_eq_some_iff.mp hl).1
  have q := r.at_ l a _ hl (List.getElem?_eq_getElem hb)
  cases e : ah[l] with
  | lst xs => rw [e] at q; obtain ⟨vs, h1, _⟩ := q; exact .inl ⟨vs, h1⟩
  | dct kv => rw [e] at q; obtain ⟨vs, h1, _⟩ := q; exact .inr (.inl ⟨vs, h1⟩)
  | dtl kv => rw [e] at q; obtain ⟨vs, h1, _⟩ := q; exact .inr (.inr (.inl ⟨vs, h1⟩))
  | ins c fs => rw [e] at q; obtain ⟨dx, vs, h1, _⟩ := q; exact .inr (.inr (.inr ⟨_, dx, vs, h1⟩))
theorem HR.notin (r : HR K H m ah) {a : Addr} {o : HO} (h : H a = some o) (h1 : ∀ vs, o ≠ .lst vs) (h2 : ∀ kv, o ≠ .dK kv) (h3 : ∀ φ, o ≠ .ext φ := by first | assumption | (intro _ z; cases z)) (h4 : ∀ C dx fs, o ≠ .ins C dx fs := by first | assumption | (intro _ _ _ z; cases z)) : a ∉ m := fun hm => by
  rcases r.mut hm with ⟨vs, q⟩ | ⟨kv, q⟩ | ⟨kv, q⟩ | ⟨C, dx, fs, q⟩
  · rw [h] at q; exact h1 vs (Option.some.inj q)
  · rw [h] at q; exact h2 kv (Option.some.inj q)
  · rw [h] at q; exact h3 _ (Option.some.inj q)
  · rw [h] at q; exact h4 _ _ _ (Option.some.inj q)
theorem HR.notnone (r : HR K H m ah) {a : Addr} (h : H a = none) : a ∉ m := fun hm => by
  rcases r.mut hm with ⟨vs, q⟩ | ⟨kv, q⟩ | ⟨kv, q⟩ | ⟨_, _, _, q⟩ <;> (rw [h] at q; cases q)
theorem HR.notnew (r : HR K H m ah) {a : Addr} (h : H a = none ∨ ∃ ps, H a = some (.tbl ps)) : a ∉ m := by
  rcases h with h | ⟨ps, h⟩
  · exact r.notnone h
  · exact r.notin h (fun _ z => nomatch z) (fun _ z => nomatch z)
theorem sqT_ext (r : HR K H m ah) (e : Ext m H m' H') {a : Addr} {vs : List V} (h : SqT K H a vs) : SqT K H' a vs := by
  rcases h with (h | ⟨o, h⟩) | h
  · exact .inl (.inl (e.keep _ _ h (r.notin h (fun _ z => nomatch z) (fun _ z => nomatch z))))
  · exact .inl (.inr ⟨o, e.keep _ _ h (r.notin h (fun _ z => nomatch z) (fun _ z => nomatch z))⟩)
  · exact .inr h
theorem fz_ext (r : HR K H m ah) (e : Ext m H m' H') {a : Addr} {vs : List V} (h : Fz K H a vs) : Fz K H' a vs := by
  rcases h with ⟨o, h⟩ | h
  · exact .inl ⟨o, e.keep _ _ h (r.notin h (fun _ z => nomatch z) (fun _ z => nomatch z))⟩
  · exact .inr h
theorem sqN_ext (r : HR K H m ah) (e : Ext m H m' H') {a : Addr} {vs : List V} (h : SqN H a vs) : SqN H' a vs := let ⟨o, h, d⟩ := h; ⟨o, e.keep _ _ h (r.notin h (fun _ z => nomatch z) (fun _ z => nomatch z)), d⟩
mutual
theorem VR.ext (r : HR K H m ah) (e : Ext m H m' H') : ∀ {x : Va} {v : V}, VR K H m x v → VR K H' m' x v
  | _, _, .non => .non
  | _, _, .bl b => .bl b
  | _, _, .int i => .int i
  | _, _, .str x => .str x
  | _, _, .rp d => .rp d
  | _, _, .ref h => .ref (e.get h)
  | _, _, .tup h hs => .tup (sqT_ext r e h) (VRs.ext r e hs)
  | _, _, .rol h hs => .rol (fz_ext r e h) (VRs.ext r e hs)
  | _, _, .dv h => .dv (h.to (fun _ _ z => e.keep _ _ z (r.notin z (fun _ z => nomatch z) (fun _ z => nomatch z))) fun _ _ => sqT_ext r e)
  | _, _, .exo a => .exo a
  | _, _, .exn h g => .exn (e.keep _ _ h (r.notin h (fun _ z => nomatch z) (fun _ z => nomatch z))) (VR.ext r e g)
  | _, _, .tud h hs => .tud (sqN_ext r e h) (VRs.ext r e hs)
theorem VRs.ext (r : HR K H m ah) (e : Ext m H m' H') : ∀ {xs : List Va} {vs : List V}, VRs K H m xs vs → VRs K H' m' xs vs
  | _, _, .nil => .nil
  | _, _, .cons h hs => .cons (VR.ext r e h) (VRs.ext r e hs)
end
theorem VRp.ext (r : HR K H m ah) (e : Ext m H m' H') : ∀ {xs : List (Va × Va)} {vs : List (V × V)}, VRp K H m xs vs → VRp K H' m' xs vs
  | _, _, .nil => .nil
  | _, _, .cons h g hs => .cons (h.ext r e) (g.ext r e) (VRp.ext r e hs)
theorem VRf.imp {K' : PySem.W.Frag} (h : ∀ {x : Va} {v : V}, VR K H m x v → VR K' H' m' x v) : ∀ {xs : List (Str × Va)} {vs : List (Str × V)}, VRf K H m xs vs → VRf K' H' m' xs vs
  | _, _, .nil => .nil
  | _, _, .cons q qs => .cons (h q) (VRf.imp h qs)
theorem VRf.ext (r : HR K H m ah) (e : Ext m H m' H') : ∀ {xs : List (Str × Va)} {vs : List (Str × V)}, VRf K H m xs vs → VRf K H' m' xs vs
  | _, _, .nil => .nil
  | _, _, .cons h hs => .cons (h.ext r e) (VRf.ext r e hs)
theorem DtE.ext (r : HR K H m ah) (e : Ext m H m' H') : ∀ {kvs : List (Va × Va)} {xs : List (PySem.NestedKey × Addr × Value)}, DtE K H m kvs xs → DtE K H' m' kvs xs
  | _, _, .nil => .nil
  | _, _, .cons h1 h2 h3 h4 h5 => .cons h1 (h2.ext r e) (h3.ext r e) h4 (DtE.ext r e h5)
theorem OR.ext (r : HR K H m ah) (e : Ext m H m' H') {o : AO} {a : Addr} (k : H' a = H a) (h : OR K H m o a) : OR K H' m' o a := by
  cases o with
  | lst xs => obtain ⟨vs, h1, h2⟩ := h; exact ⟨vs, k.trans h1, h2.ext r e⟩
  | dct kv => obtain ⟨vs, h1, h2⟩ := h; exact ⟨vs, k.trans h1, h2.ext r e⟩
  | dtl kv => obtain ⟨vs, h1, h2, h3⟩ := h; exact ⟨vs, k.trans h1, h2.ext r e, h3⟩
  | ins c fs => obtain ⟨dx, vs, h1, h2⟩ := h; exact ⟨dx, vs, k.trans h1, h2.ext r e⟩
theorem ER.ext (r : HR K H m ah) (e : Ext m H m' H') (h : ER K H m ev σ) : ER K H' m' ev σ :=
  ⟨h.len, fun i v q => let ⟨w, h1, h2⟩ := h.get i v q; ⟨w, h1, h2.ext r e⟩⟩
theorem XR.ext (r : HR K H m ah) (e : Ext m H m' H') {c : Str} {p : List (Str × Va)} {cls : Value} {d : Option Addr} (h : XR K mg H m c p cls d) : XR K mg H' m' c p cls d := by
  obtain ⟨C, h1, h2, h3⟩ := h
  refine ⟨C, h1, h2, ?_⟩
  match p, h3 with
  | [], h3 => exact h3
  | [(f, v)], ⟨dd, w, a1, a2, a3⟩ => exact ⟨dd, w, a1, e.keep _ _ a2 (r.notin a2 (fun _ z => nomatch z) (fun _ z => nomatch z)), a3.ext r e⟩

/-! ### a new object, a changed one -/
/-- neither a table nor a code object -/
def NoT (u : HO) : Prop := (∀ ps, u ≠ .tbl ps) ∧ ∀ c q, u ≠ LamX.CodeO c q
theorem phiN_ne {a c : Addr} {xs : List (PySem.NestedKey × Addr × Value)} {q : Str} : HO.ext (phiN a xs) ≠ LamX.CodeO c q := fun z => by
  unfold LamX.CodeO at z
  have z := HO.ext.inj z
  let o : Obj := { cls := .none, data := .fields #[.none, .str q default] }
  let h : Heap := { objs := Array.replicate (max a c + 1) o }
  have ga : h.get? a = some o := by
    have : a < max a c + 1 := Nat.lt_succ_of_le (Nat.le_max_left a c)
    simp [Heap.get?, h, o, this]
  have gc : h.get? c = some o := by
    have : c < max a c + 1 := Nat.lt_succ_of_le (Nat.le_max_right a c)
    simp [Heap.get?, h, o, this]
  have y : phiN a xs h := by
    rw [z]
    exact ⟨o, _, _, gc, rfl, rfl⟩
  obtain ⟨o', es, ep, h1, h2, h3, h4⟩ := y
  rw [ga] at h1
  cases h1
  cases h3
theorem tabs_upd {T : List (Addr × Str)} {p : Addr} {o : HO} (t : LamX.Tabs T H) (h : ∀ u, H p = some u → NoT u) : LamX.Tabs T (upd H p o) := fun x hx => by
  obtain ⟨ps, h1, h2, h3⟩ := t x hx
  have n1 : x.1 ≠ p := fun z => (h _ (z ▸ h1)).1 ps rfl
  refine ⟨ps, by rw [upd_ne n1]; exact h1, h2, fun pos cv hc => ?_⟩
  obtain ⟨c, e1, e2⟩ := h3 pos cv hc
  have n2 : c ≠ p := fun z => (h _ (z ▸ e2)).2 _ _ rfl
  exact ⟨c, e1, by rw [upd_ne n2]; exact e2⟩
theorem tabs_new {T : List (Addr × Str)} {p : Addr} {o : HO} (t : LamX.Tabs T H) (hp : H p = none) : LamX.Tabs T (upd H p o) := tabs_upd t fun u z => by
  rw [hp] at z
  cases z
theorem HR.noT (r : HR K H m ah) {a : Addr} (h : a ∈ m) : ∀ u, H a = some u → NoT u := fun u z => by
  rcases r.mut h with ⟨vs, q⟩ | ⟨kv, q⟩ | ⟨kv, q⟩ | ⟨_, _, _, q⟩
  · rw [q] at z; cases z; exact ⟨fun _ z => (nomatch z), fun _ _ z => by unfold LamX.CodeO at z; cases z⟩
  · rw [q] at z; cases z; exact ⟨fun _ z => (nomatch z), fun _ _ z => by unfold LamX.CodeO at z; cases z⟩
  · rw [q] at z; cases z; exact ⟨fun _ z => (nomatch z), fun _ _ z => phiN_ne z⟩
  · rw [q] at z; cases z; exact ⟨fun _ z => (nomatch z), fun _ _ z => by unfold LamX.CodeO at z; cases z⟩
theorem HR.tset (r : HR K H m ah) {l : Nat} {a : Addr} {o : HO} (h : m[l]? = some a) : LamX.Tabs Tabz.T (upd H a o) := tabs_upd r.tb (r.noT (List.mem_of_getElem? h))
theorem ext_new {p : Addr} {o : HO} (r : HR K H m ah) (hp : H p = none) : Ext m H m (upd H p o) :=
  ⟨⟨[], by simp⟩, fun b u h n _ => by rw [upd_ne (ne_of_none h hp)]; exact h, fun a h1 h2 => absurd h1 h2⟩
theorem hr_new {p : Addr} {o : HO} (r : HR K H m ah) (hp : H p = none) : HR K (upd H p o) m ah :=
  ⟨r.len, r.nd, fun l a u h1 h2 => (r.at_ l a u h1 h2).ext r (ext_new r hp) (upd_ne fun z => r.notnone hp (z ▸ List.mem_of_getElem? h1)), tabs_new r.tb hp⟩
theorem ext_lay {p : Addr} {o : HO} (r : HR K H m ah) (hp : H p = none) : Ext m H (m ++ [p]) (upd H p o) :=
  ⟨⟨[p], rfl⟩, fun b u h n _ => by rw [upd_ne (ne_of_none h hp)]; exact h, fun a h1 h2 => by
    rcases List.mem_append.mp h1 with z | z
    · exact absurd z h2
    · rw [List.mem_singleton.mp z]; exact .inl hp⟩
/-- a new list at p -/
theorem hr_lay {p : Addr} {xs : List Va} {vs : List V} (r : HR K H m ah) (hp : H p = none) (hv : VRs K H m xs vs) : HR K (upd H p (.lst vs)) (m ++ [p]) (ah ++ [.lst xs]) := by
  have e : Ext m H (m ++ [p]) (upd H p (.lst vs)) := ext_lay r hp
  refine ⟨by simp [r.len], ?_, fun l a o h1 h2 => ?_, tabs_new r.tb hp⟩
  · rw [List.nodup_append]
    refine ⟨r.nd, by simp, fun a ha b hb z => ?_⟩
    rw [List.mem_singleton.mp hb] at z
    exact r.notnone hp (z ▸ ha)
  · by_cases hl : l < m.length
    · rw [List.getElem?_append_left hl] at h1
      rw [List.getElem?_append_left (by rw [← r.len]; exact hl)] at h2
      exact (r.at_ l a o h1 h2).ext r e (upd_ne fun z => r.notnone hp (z ▸ List.mem_of_getElem? h1))
    · have hb := (List.getElem?_eq_some_iff.mp h1).1
      have hl2 : l = m.length := by simp at hb; omega
      subst hl2
      rw [List.getElem?_append_right (Nat.le_refl _)] at h1
      rw [List.getElem?_append_right (by rw [← r.len]; exact Nat.le_refl _), ← r.len] at h2
      simp at h1 h2
      subst h1 h2
      exact ⟨vs, upd_same, hv.ext r e⟩
/-- the list at a is changed -/
theorem ext_set {l : Nat} {a : Addr} {o : HO} (h : m[l]? = some a) : Ext m H m (upd H a o) :=
  ⟨⟨[], by simp⟩, fun b u hb n _ => by
    have hn : b ≠ a := fun z => n (by rw [z]; exact List.mem_of_getElem? h)
    rw [upd_ne hn]; exact hb, fun b h1 h2 => absurd h1 h2⟩
theorem hr_set {l : Nat} {a : Addr} {xs : List Va} {vs : List V} (r : HR K H m ah) (h : m[l]? = some a) (hv : VRs K H m xs vs) : HR K (upd H a (.lst vs)) m (ah.set l (.lst xs)) := by
  have e : Ext m H m (upd H a (.lst vs)) := ext_set h
  refine ⟨by rw [List.length_set]; exact r.len, r.nd, fun j b o h1 h2 => ?_, r.tset h⟩
  by_cases hj : j = l
  · subst hj
    rw [h] at h1; cases h1
    rw [List.getElem?_set_self (by rw [← r.len]; exact (List.getElem?_eq_some_iff.mp h).1)] at h2
    cases h2
    exact ⟨vs, upd_same, hv.ext r e⟩
  · rw [List.getElem?_set_ne (Ne.symm hj)] at h2
    refine (r.at_ j b o h1 h2).ext r e (upd_ne fun z => hj ?_)
    subst z
    exact nd_ix r.nd h1 h
/-- the field f is set -/
def putFA (f : Str) (x : Va) : List (Str × Va) → List (Str × Va)
  | [] => [(f, x)]
  | (g, y) :: r => if f = g then (g, x) :: r else (g, y) :: putFA f x r
/-! ### lists of values -/
theorem VRs.length : ∀ {xs : List Va} {vs : List V}, VRs K H m xs vs → xs.length = vs.length
  | _, _, .nil => rfl
  | _, _, .cons _ hs => by simp [VRs.length hs]
theorem VRs.get : ∀ {xs : List Va} {vs : List V} {i : Nat} {x : Va}, VRs K H m xs vs → xs[i]? = some x → ∃ v, vs[i]? = some v ∧ VR K H m x v
  | _, _, _, _, .nil, h => by simp at h
  | _, _, 0, _, .cons h _, e => by simp at e; subst e; exact ⟨_, rfl, h⟩
  | _, _, i + 1, _, .cons _ hs, e => by
    obtain ⟨v, h1, h2⟩ := VRs.get (i := i) hs (by simpa using e)
    exact ⟨v, by simpa using h1, h2⟩
theorem VRs.append : ∀ {xs ys : List Va} {vs ws : List V}, VRs K H m xs vs → VRs K H m ys ws → VRs K H m (xs ++ ys) (vs ++ ws)
  | _, _, _, _, .nil, h => h
  | _, _, _, _, .cons h hs, g => .cons h (VRs.append hs g)
theorem VRs.set {x : Va} {v : V} (h : VR K H m x v) : ∀ {xs : List Va} {vs : List V} (i : Nat), VRs K H m xs vs → VRs K H m (xs.set i x) (vs.set i v)
  | _, _, _, .nil => .nil
  | _, _, 0, .cons _ hs => .cons h hs
  | _, _, i + 1, .cons g hs => .cons g (VRs.set h i hs)
theorem VRs.take : ∀ {xs : List Va} {vs : List V} (n : Nat), VRs K H m xs vs → VRs K H m (xs.take n) (vs.take n)
  | _, _, 0, _ => .nil
  | _, _, _ + 1, .nil => .nil
  | _, _, n + 1, .cons h hs => .cons h (VRs.take n hs)
theorem VRs.drop : ∀ {xs : List Va} {vs : List V} (n : Nat), VRs K H m xs vs → VRs K H m (xs.drop n) (vs.drop n)
  | _, _, 0, h => h
  | _, _, _ + 1, .nil => .nil
  | _, _, n + 1, .cons _ hs => VRs.drop n hs
/-- nothing else stands for a number, a bool, a tuple .. -/
theorem VR.int_inv {i : Int} {v : V} (h : VR K H m (.int i) v) : v = .int i := by cases h; rfl
theorem VR.bl_inv {b : Bool} {v : V} (h : VR K H m (.bl b) v) : v = .bl b := by cases h; rfl
theorem VR.non_inv {v : V} (h : VR K H m .non v) : v = .non := by cases h; rfl
theorem VR.str_inv {x : Str} {v : V} (h : VR K H m (.str x) v) : v = .str x := by cases h; rfl
theorem ER.set (r : ER K H m ev σ) {i : Nat} {x : Va} {v : V} (h : VR K H m x v) : ER K H m (ev.set i (some x)) (σ.set i (some v)) := by
  refine ⟨by simp [r.len], fun j y e => ?_⟩
  by_cases hj : j = i
  · subst hj
    have hb : j < ev.length := by
      have := (List.getElem?_eq_some_iff.mp e).1
      simpa using this
    rw [List.getElem?_set_self hb] at e
    cases e
    exact ⟨v, by rw [List.getElem?_set_self (by rw [← r.len]; exact hb)], h⟩
  · rw [List.getElem?_set_ne (Ne.symm hj)] at e
    obtain ⟨w, h1, h2⟩ := r.get j y e
    exact ⟨w, by rw [List.getElem?_set_ne (Ne.symm hj)]; exact h1, h2⟩
def ewipe (ev : Ev) : List Nat → Ev
  | [] => ev
  | v :: vs => (ewipe ev vs).set v none
theorem ER.wipe (r : ER K H m ev σ) : ∀ vs : List Nat, ER K H m (ewipe ev vs) (L2.wipe σ vs)
  | [] => r
  | v :: vs => by
    have q := ER.wipe r vs
    refine ⟨by simp [ewipe, L2.wipe, q.len], fun j y e => ?_⟩
    unfold ewipe at e
    unfold L2.wipe
    by_cases hj : j = v
    · subst hj
      have hb : j < (ewipe ev vs).length := by
        have := (List.getElem?_eq_some_iff.mp e).1
        simpa using this
      rw [List.getElem?_set_self hb] at e
      cases e
    · rw [List.getElem?_set_ne (Ne.symm hj)] at e
      rw [List.getElem?_set_ne (Ne.symm hj)]
      exact q.get j y e
end
end FL

set_option Elab.async false
set_option linter.all false
set_option maxRecDepth 100000
/-! FL2: evaluation as a plain function over the abstract state; judgements. -/
namespace FL
open PySem PySem.Spec PyProof.Rows L2
variable [Tabz]
abbrev EF := Ev → AH → Rs Va
abbrev TF := Ev → AH → Rs Bool
abbrev AF := Ev → AH → Rs (List Va)
abbrev Op1 := Va → AH → Option (Va × AH)
abbrev Op2 := Va → Va → AH → Option (Va × AH)
def ofO {α : Type} (o : Option (α × AH)) : Rs α := match o with | some (v, h) => .ok v h | none => .bad
@[simp] theorem ofO_some {α : Type} (v : α) (h : AH) : ofO (some (v, h)) = .ok v h := rfl
@[simp] theorem ofO_none {α : Type} : ofO (none : Option (α × AH)) = .bad := rfl

/-- what is wanted behind an evaluation that gives r -/
def Post {α β : Type} (K : PySem.W.Frag) (mg : Str → Option Value) (R : Hp → List Addr → α → β → Prop) (m : List Addr) (H : Hp) (W : XK) (r : Rs α) (Q : β → Hp → Prop) : Prop :=
  match r with
  | .ok v ah => ∀ m' H' w, Ext m H m' H' → HR K H' m' ah → R H' m' v w → Q w H'
  | .exc c p ah => ∀ m' H' cls d, Ext m H m' H' → HR K H' m' ah → XR K mg H' m' c p cls d → W cls d H'
  | .bad => False
/-- the reading of a function -/
def Wi {α β : Type} (K : PySem.W.Frag) (mg : Str → Option Value) (R : Hp → List Addr → α → β → Prop) (W : WX) (f : Ev → AH → Rs α) : L2.St → Hp → (β → Hp → Prop) → Prop := fun σ H Q =>
  ∃ m ah ev, HR K H m ah ∧ ER K H m ev σ ∧ Post K mg R m H (fun cls d H' => W cls d σ H') (f ev ah) Q
abbrev RB : Hp → List Addr → Bool → Bool → Prop := fun _ _ a b => a = b

section
variable {α β γ δ : Type} {K : PySem.W.Frag} {mg : Str → Option Value} {R : Hp → List Addr → α → β → Prop} {R' : Hp → List Addr → γ → δ → Prop} {m m' : List Addr} {H H' : Hp} {W : WX} {Wk : XK} {Q : δ → Hp → Prop} {ah : AH} {σ : L2.St} {ev : Ev}
theorem Post.ext {r : Rs γ} (h : Post K mg R' m H Wk r Q) (e : Ext m H m' H') : Post K mg R' m' H' Wk r Q := by
  cases r with
  | ok v a => exact fun m2 H2 w e2 => h m2 H2 w (e.trans e2)
  | exc c p a => exact fun m2 H2 cls d e2 => h m2 H2 cls d (e.trans e2)
  | bad => exact h
theorem Post.bind {r : Rs α} {k : α → AH → Rs γ} (h : Post K mg R' m H Wk (r.bind k) Q) :
    Post K mg R m H Wk r (fun w H1 => ∃ m1 ah1 v, Ext m H m1 H1 ∧ HR K H1 m1 ah1 ∧ R H1 m1 v w ∧ Post K mg R' m1 H1 Wk (k v ah1) Q) := by
  cases r with
  | ok v a => exact fun m2 H2 w e2 r2 q2 => ⟨m2, a, v, e2, r2, q2, h.ext e2⟩
  | exc c p a => exact h
  | bad => exact h
/-- one evaluation, then another -/
theorem Wi.bind {f : Ev → AH → Rs α} {k : Ev → α → AH → Rs γ} (h : Wi K mg R' W (fun ev h => (f ev h).bind (k ev)) σ H Q) :
    Wi K mg R W f σ H (fun w H1 => ∃ m ah ev v, HR K H1 m ah ∧ ER K H1 m ev σ ∧ R H1 m v w ∧ Post K mg R' m H1 (fun cls d H' => W cls d σ H') (k ev v ah) Q) := by
  obtain ⟨m, ah, ev, r, re, q⟩ := h
  refine ⟨m, ah, ev, r, re, ?_⟩
  have q2 : Post K mg R' m H (fun cls d H' => W cls d σ H') ((f ev ah).bind (k ev)) Q := q
  cases e : f ev ah with
  | ok v a =>
    rw [e] at q2
    exact fun m2 H2 w e2 r2 rr => ⟨m2, a, ev, v, r2, re.ext r e2, rr, Post.ext q2 e2⟩
  | exc c p a => rw [e] at q2; exact q2
  | bad => rw [e] at q2; exact q2
end

structure ME (X : Cx) (W : WX) (e : Expr) (f : EF) : Prop where
  pe : PE X e (Wi X.K X.mg (VR X.K) W f)
structure MT (X : Cx) (W : WX) (e : Expr) (f : TF) : Prop where
  pt : PT X e (Wi X.K X.mg RB W f)
structure MA (X : Cx) (W : WX) (es : List Expr) (f : AF) : Prop where
  pa : PA X es (Wi X.K X.mg (VRs X.K) W f)
theorem pe_imp {X : Cx} {e : Expr} {t t' : TE} (h : PE X e t) (i : ∀ σ H Q, t' σ H Q → t σ H Q) : PE X e t' := ⟨fun pins s σ H Q I q => h.run pins s σ H Q I (i σ H Q q)⟩
theorem pt_imp {X : Cx} {e : Expr} {t t' : TT} (h : PT X e t) (i : ∀ σ H Q, t' σ H Q → t σ H Q) : PT X e t' := ⟨fun pins s σ H Q I q => h.run pins s σ H Q I (i σ H Q q)⟩
theorem pw_imp {X : Cx} {e : Expr} {t t' : TT} (h : PW X e t) (i : ∀ σ H Q, t' σ H Q → t σ H Q) : PW X e t' := ⟨fun wh pins s σ H Q I q => h.run wh pins s σ H Q I (i σ H Q q)⟩
theorem pa_imp {X : Cx} {es : List Expr} {t t' : TA} (h : PA X es t) (i : ∀ σ H Q, t' σ H Q → t σ H Q) : PA X es t' := ⟨fun pos pins s σ H Q I q => h.run pos pins s σ H Q I (i σ H Q q)⟩
theorem ps_imp {X : Cx} {e : Stmt} {t t' : TS} (h : PS X e t) (i : ∀ D σ H, t' D σ H → t D σ H) : PS X e t' := ⟨fun pins s σ H D I q => h.run pins s σ H D I (i D σ H q)⟩
theorem pss_imp {X : Cx} {e : List Stmt} {t t' : TS} (h : PSs X e t) (i : ∀ D σ H, t' D σ H → t D σ H) : PSs X e t' := ⟨fun pins s σ H D I q => h.run pins s σ H D I (i D σ H q)⟩
theorem OpR.imp {X : Cx} {f : Value → Value → Sem Value} {r r' : R2} (h : OpR X f r) (i : ∀ x y H Q, r' x y H Q → r x y H Q) : OpR X f r' := fun pins s σ H x y v u Q I rx ry q => h pins s σ H x y v u Q I rx ry (i x y H Q q)
theorem CallR.imp {X : Cx} {f : Value} {r r' : List V → Hp → VK → Prop} (h : CallR X f r) (i : ∀ x H Q, r' x H Q → r x H Q) : CallR X f r' := fun pins s σ H x us Q I rx q => h pins s σ H x us Q I rx (i x H Q q)
theorem CallR.or {X : Cx} {f : Value} {r r' : List V → Hp → VK → Prop} (h : CallR X f r) (h' : CallR X f r') : CallR X f (fun x H Q => r x H Q ∨ r' x H Q) := fun pins s σ H x us Q I rx q => q.elim (h pins s σ H x us Q I rx) (h' pins s σ H x us Q I rx)
theorem UnR.imp {X : Cx} {f : Value → Sem Value} {r r' : V → Hp → VK → Prop} (h : UnR X f r) (i : ∀ x H Q, r' x H Q → r x H Q) : UnR X f r' := fun pins s σ H x v Q I rx q => h pins s σ H x v Q I rx (i x H Q q)

/-! ### names, constants -/
def eVar (i : Nat) : EF := fun ev h => match ev[i]? with | some (some v) => .ok v h | _ => .bad
def eC (v : Va) : EF := fun _ h => .ok v h
section
variable {X : Cx} {W : WX} {pos : Pos}
theorem me_var (i : Nat) {x : Str} (hN : X.N[i]? = some x := by rfl) (hv : Vis X.env.scope x := by first | exact Or.inl rfl | exact Or.inr (Or.inl rfl) | exact Or.inr (Or.inr rfl)) (hd : (x == ("__debug__" : Str)) = false := by decide)
    (hcd : (x == ("__classdict__" : Str)) = false := by decide) : ME X W (.Name x pos) (eVar i) := ⟨pe_imp (pe_var hN hv hd hcd) fun σ H Q ⟨m, ah, ev, r, re, q⟩ => by
  unfold eVar at q
  cases e : ev[i]? with
  | none => rw [e] at q; exact q.elim
  | some o =>
    cases o with
    | none => rw [e] at q; exact q.elim
    | some v =>
      rw [e] at q
      obtain ⟨w, h1, h2⟩ := re.get i v e
      exact ⟨w, h1, q m H w .refl r h2⟩⟩
theorem me_c {e : Expr} {v : Va} {w : V} (h : PE X e (tC w)) (hr : ∀ H m, VR X.K H m v w) : ME X W e (eC v) := ⟨pe_imp h fun σ H Q ⟨m, ah, ev, r, re, q⟩ => q m H w .refl r (hr H m)⟩
theorem me_int {i : Int} {j} : ME X W (.Constant (.int i) j pos) (eC (.int i)) := me_c pe_int fun _ _ => .int i
theorem me_bl {b j} : ME X W (.Constant (.bool b) j pos) (eC (.bl b)) := me_c pe_bl fun _ _ => .bl b
theorem me_non {j} : ME X W (.Constant .none j pos) (eC .non) := me_c pe_non fun _ _ => .non
theorem me_str {x : Str} {j} : ME X W (.Constant (.str x) j pos) (eC (.str x)) := me_c pe_str fun _ _ => .str x
/-- a constant of the module -/
theorem me_glob {x : Str} {v : Va} {w : V} {u : Value} (hm : X.mg x = some u) (r : RelV w u) (hr : ∀ H m, VR X.K H m v w) (hg : Gl X x := by rfl) (hd : (x == ("__debug__" : Str)) = false := by decide) : ME X W (.Name x pos) (eC v) := me_c (pe_glob hg hm r hd) hr
end

/-! ### operators -/
/-- the reading of an operation by values -/
def rO (K : PySem.W.Frag) (o : Op2) : R2 := fun x y H Q => ∃ m ah p q v ah', HR K H m ah ∧ VR K H m p x ∧ VR K H m q y ∧ o p q ah = some (v, ah') ∧ ∀ m' H' w, Ext m H m' H' → HR K H' m' ah' → VR K H' m' v w → Q w H'
def eOp (o : Op2) (f g : EF) : EF := fun ev h => (f ev h).bind fun v h1 => (g ev h1).bind fun w h2 => ofO (o v w h2)
section
variable {K : PySem.W.Frag} {mg : Str → Option Value} {W : WX}
theorem Wi.op {o : Op2} {f g : EF} {σ : L2.St} {H : Hp} {Q : VK} (h : Wi K mg (VR K) W (eOp o f g) σ H Q) :
    tOp (rO K o) (Wi K mg (VR K) W f) (Wi K mg (VR K) W g) σ H Q := by
  have h1 := Wi.bind (R := VR K) h
  unfold tOp
  obtain ⟨m, ah, ev, r, re, q⟩ := h1
  refine ⟨m, ah, ev, r, re, ?_⟩
  cases ef : f ev ah with
  | exc c p a => rw [ef] at q; exact q
  | bad => rw [ef] at q; exact q
  | ok v a =>
    rw [ef] at q
    intro m1 H1 x e1 r1 rx
    obtain ⟨m2, ah2, ev2, v2, r2, re2, rv2, q2⟩ := q m1 H1 x e1 r1 rx
    refine ⟨m2, ah2, ev2, r2, re2, ?_⟩
    have q3 := Post.bind (R := VR K) q2
    cases eg : g ev2 ah2 with
    | exc c p a => rw [eg] at q3; exact q3
    | bad => rw [eg] at q3; exact q3
    | ok w b =>
      rw [eg] at q3
      intro m3 H3 y e3 r3 ry
      obtain ⟨m4, ah4, v4, e4, r4, rv4, q4⟩ := q3 m3 H3 y e3 r3 ry
      cases eo : o v2 v4 ah4 with
      | none => rw [eo] at q4; exact q4.elim
      | some z =>
        obtain ⟨z, ahz⟩ := z
        rw [eo] at q4
        exact ⟨m4, ah4, v2, v4, z, ahz, r4, rv2.ext r2 e4, rv4, eo, q4⟩
end
section
variable {X : Cx} {W : WX} {a b : Expr} {f g : EF} {pos : Pos}
theorem me_op {op : Operator} {o : Op2} (ho : OpR X (binaryOp op) (rO X.K o)) (ha : ME X W a f) (hb : ME X W b g) : ME X W (.BinOp a op b pos) (eOp o f g) :=
  ⟨pe_imp (pe_op ho ha.pe hb.pe) fun _ _ _ h => h.op⟩
theorem me_cmp {op : CmpOp} {o : Op2} (ho : OpR X (compareOp op) (rO X.K o)) (ha : ME X W a f) (hb : ME X W b g) (hm : behindInMarks op b = false := by first | exact nobehind _ (by decide) (by decide) | rfl) : ME X W (.Compare a [op] [b] pos) (eOp o f g) :=
  ⟨pe_imp (pe_cmpR ho ha.pe hb.pe hm) fun _ _ _ h => h.op⟩
/-- a value as a truth value: only True, False -/
def tB (f : EF) : TF := fun ev h => (f ev h).bind fun v h1 => match v with | .bl b => .ok b h1 | _ => .bad
theorem Wi.tB {K : PySem.W.Frag} {mg : Str → Option Value} {f : EF} {σ : L2.St} {H : Hp} {Q : Bool → Hp → Prop} (h : Wi K mg RB W (FL.tB f) σ H Q) : Wi K mg (VR K) W f σ H (fun x H' => ∃ k, x = .bl k ∧ Q k H') := by
  have h1 := Wi.bind (R := VR K) h
  obtain ⟨m, ah, ev, r, re, q⟩ := h1
  refine ⟨m, ah, ev, r, re, ?_⟩
  cases ef : f ev ah with
  | exc c p a => rw [ef] at q; exact q
  | bad => rw [ef] at q; exact q
  | ok v a =>
    rw [ef] at q
    intro m1 H1 x e1 r1 rx
    obtain ⟨m2, ah2, ev2, v2, r2, re2, rv2, q2⟩ := q m1 H1 x e1 r1 rx
    cases v2 with
    | bl b =>
      cases rv2
      exact ⟨b, rfl, q2 m2 H1 b .refl r2 rfl⟩
    | _ => exact q2.elim
theorem mt_cmp {op : CmpOp} {o : Op2} (ho : OpR X (compareOp op) (rO X.K o)) (ha : ME X W a f) (hb : ME X W b g) (hm : behindInMarks op b = false := by first | exact nobehind _ (by decide) (by decide) | rfl) : MT X W (.Compare a [op] [b] pos) (tB (eOp o f g)) :=
  ⟨pt_imp (pt_cmpR ho ha.pe hb.pe hm) fun σ H Q h => by
    have h2 := Wi.tB h
    unfold tTest
    exact h2.op⟩
theorem mt_val (h : ME X W a f) (he : ∀ whole, isTrue a X.env whole = (do let v ← whole; standAt a.pos; holding [v] (truthy v)) := by intro _; rfl) : MT X W a (tB f) :=
  ⟨pt_imp (pt_val h.pe he) fun _ _ _ h => Wi.tB h⟩
end
end FL

set_option Elab.async false
set_option linter.all false
set_option maxRecDepth 100000
/-! FL3: operators on values. -/
namespace FL
open PySem PySem.Spec PyProof.Rows L2
variable [Tabz]

/-- the greatest length of what is laid -/
def lim : Nat := 1000000
theorem lim_line {n : Nat} (h : n ≤ lim) : n ≤ sizeLine := Nat.le_trans h (by decide)
/-- ints below this are multiplied, divided -/
def okI (i : Int) : Bool := decide (i.natAbs.log2 < 4000)
theorem okI_of {i : Int} {n : Nat} (h : i.natAbs < 2 ^ n) (h0 : 0 < n := by decide) (h1 : n ≤ 4000 := by decide) : okI i = true :=
  decide_eq_true (Nat.lt_of_lt_of_le (PySem.Flt.log2_lt_of h0 h) h1)

def oAdd : Op2 := fun p q h => match p, q with
  | .int i, .int j => some (.int (i + j), h)
  | .str x, .str y => if x.length + y.length ≤ lim then some (.str (x ++ y), h) else none
  | .tup xs, .tup ys => if xs.length + ys.length ≤ lim then some (.tup (xs ++ ys), h) else none
  | .ref l, .ref k => match h[l]?, h[k]? with
    | some (.lst xs), some (.lst ys) => if xs.length + ys.length ≤ lim then some (.ref h.length, h ++ [.lst (xs ++ ys)]) else none
    | _, _ => none
  | _, _ => none
def oSub : Op2 := fun p q h => match p, q with
  | .int i, .int j => some (.int (i - j), h)
  | _, _ => none
def oMul : Op2 := fun p q h => match p, q with
  | .int i, .int j => if okI i && okI j then some (.int (i * j), h) else none
  | .ref l, .int k => match h[l]? with
    | some (.lst xs) => if decide (0 ≤ k) && decide (k ≤ lim) && decide (xs.length * k.toNat ≤ lim) then some (.ref h.length, h ++ [.lst (List.replicate k.toNat xs).flatten]) else none
    | _ => none
  | .tup xs, .int k => if decide (2 ≤ k) && decide (k ≤ 1000) && decide (xs.length ≤ 1000) && !xs.isEmpty then some (.tup (List.replicate k.toNat xs).flatten, h) else none
  | _, _ => none
def oFdiv : Op2 := fun p q h => match p, q with
  | .int i, .int j => if decide (0 < j) && okI j then some (.int (i / j), h) else none
  | _, _ => none
def oMod : Op2 := fun p q h => match p, q with
  | .int i, .int j => if decide (0 < j) then some (.int (i % j), h) else none
  | _, _ => none
def oIntC (f : Int → Int → Bool) : Op2 := fun p q h => match p, q with
  | .int i, .int j => some (.bl (f i j), h)
  | _, _ => none
abbrev oLt : Op2 := oIntC fun i j => decide (i < j)
abbrev oLe : Op2 := oIntC fun i j => decide (i ≤ j)
abbrev oGt : Op2 := oIntC fun i j => decide (j < i)
abbrev oGe : Op2 := oIntC fun i j => decide (j ≤ i)

section
variable {K : PySem.W.Frag} {H : Hp} {m : List Addr} {ah : AH}
/-- a value that is a reference to a list -/
theorem HR.lst (r : HR K H m ah) {l : Nat} {a : Addr} {xs : List Va} (h : m[l]? = some a) (e : ah[l]? = some (.lst xs)) : ∃ vs, H a = some (.lst vs) ∧ VRs K H m xs vs := r.at_ l a _ h e
theorem flatRep {n : Nat} : ∀ {xs : List Va} {vs : List V}, VRs K H m xs vs → VRs K H m (List.replicate n xs).flatten (List.replicate n vs).flatten := by
  intro xs vs h
  induction n with
  | zero => exact .nil
  | succ n ih =>
    rw [List.replicate_succ, List.replicate_succ, List.flatten_cons, List.flatten_cons]
    exact h.append ih
theorem VRs.ne {xs : List Va} {vs : List V} (h : VRs K H m xs vs) (e : xs ≠ []) : vs ≠ [] := by
  cases h with
  | nil => exact absurd rfl e
  | cons _ _ => intro z; cases z
theorem VRs.nil_of {xs : List Va} {vs : List V} (h : VRs K H m xs vs) (e : vs = []) : xs = [] := by
  cases h with
  | nil => rfl
  | cons _ _ => cases e
end
section
variable {X : Cx}
theorem op_oAdd : OpR X (binaryOp .Add) (rO X.K oAdd) := by
  refine OpR.imp (op_add.or (op_add_str.or (op_catA.or op_cat))) fun x y H Q ⟨m, ah, p, q, v, ah', r, rp, rq, e, k⟩ => ?_
  unfold oAdd at e
  split at e
  · cases e
    exact .inl ⟨_, _, rp.int_inv, rq.int_inv, k m H _ .refl r (.int _)⟩
  · split at e
    · cases e
      exact .inr (.inl ⟨_, _, rp.str_inv, rq.str_inv, lim_line (by assumption), k m H _ .refl r (.str _)⟩)
    · cases e
  · rename_i xs ys
    split at e
    · rename_i hz
      cases e
      cases rp with
      | @tup _ a vs ha hv =>
        cases rq with
        | @tup _ b ws hb hw =>
          refine .inr (.inr (.inl ⟨a, b, vs, ws, rfl, rfl, ha, hb, ?_, fun e1 => ?_, fun n1 e2 => ?_, fun n1 n2 p hp => ?_⟩))
          · rw [← hv.length, ← hw.length]; exact lim_line hz
          · have := hv.nil_of e1
            subst this
            exact k m H _ .refl r (.tup hb hw)
          · have := hw.nil_of e2
            subst this
            rw [List.append_nil] at k
            exact k m H _ .refl r (.tup ha hv)
          · have e1 : Ext m H m (upd H p (.tup (vs ++ ws))) := ext_new r hp
            exact k m _ _ e1 (hr_new r hp) (.tup (SqT.of upd_same) ((hv.append hw).ext r e1))
    · cases e
  · rename_i l1 l2
    split at e
    · rename_i xs ys h1 h2
      split at e
      · rename_i hz
        cases e
        cases rp with
        | ref a1 =>
          cases rq with
          | ref a2 =>
            obtain ⟨vs, g1, hv⟩ := r.lst a1 h1
            obtain ⟨ws, g2, hw⟩ := r.lst a2 h2
            refine .inr (.inr (.inr ⟨_, _, vs, ws, rfl, rfl, g1, g2, ?_, fun p hp => ?_⟩))
            · rw [← hv.length, ← hw.length]; exact lim_line hz
            · refine k (m ++ [p]) _ _ (ext_lay r hp) (hr_lay r hp (hv.append hw)) (.ref ?_)
              rw [← r.len]; simp
      · cases e
    · cases e
  · cases e
theorem op_oSub : OpR X (binaryOp .Sub) (rO X.K oSub) := by
  refine OpR.imp op_sub fun x y H Q ⟨m, ah, p, q, v, ah', r, rp, rq, e, k⟩ => ?_
  unfold oSub at e
  split at e
  · cases e
    exact ⟨_, _, rp.int_inv, rq.int_inv, k m H _ .refl r (.int _)⟩
  · cases e
theorem op_oMul : OpR X (binaryOp .Mult) (rO X.K oMul) := by
  refine OpR.imp (op_mulW.or (op_rep.or op_repT)) fun x y H Q ⟨m, ah, p, q, v, ah', r, rp, rq, e, k⟩ => ?_
  unfold oMul at e
  split at e
  · split at e
    · rename_i hz
      cases e
      rw [Bool.and_eq_true] at hz
      have h1 := of_decide_eq_true hz.1
      have h2 := of_decide_eq_true hz.2
      exact .inl ⟨_, _, rp.int_inv, rq.int_inv, (by unfold CMulW; omega), k m H _ .refl r (.int _)⟩
    · cases e
  · split at e
    · rename_i hl
      split at e
      · rename_i hz
        cases e
        simp only [Bool.and_eq_true, decide_eq_true_eq] at hz
        have hlim : lim = 1000000 := rfl
        cases rp with
        | ref a1 =>
          obtain ⟨vs, g1, hv⟩ := r.lst a1 hl
          refine .inr (.inl ⟨_, _, vs, rfl, rq.int_inv, g1, by omega, by omega, ?_, fun p hp => ?_⟩)
          · rw [← hv.length]; exact lim_line hz.2
          · refine k (m ++ [p]) _ _ (ext_lay r hp) (hr_lay r hp (flatRep hv)) (.ref ?_)
            rw [← r.len]; simp
      · cases e
    · cases e
  · rename_i xs kk
    split at e
    · rename_i hz
      cases e
      simp only [Bool.and_eq_true, decide_eq_true_eq, Bool.not_eq_true'] at hz
      cases rp with
      | @tup _ a vs ha hv =>
        refine .inr (.inr ⟨a, kk, vs, rfl, rq.int_inv, ha, hv.ne (by intro z; rw [z] at hz; simp at hz), hz.1.1.1, hz.1.1.2, by rw [← hv.length]; exact hz.1.2, fun p hp => ?_⟩)
        have e1 : Ext m H m (upd H p (.tup (List.replicate kk.toNat vs).flatten)) := ext_new r hp
        exact k m _ _ e1 (hr_new r hp) (.tup (SqT.of upd_same) ((flatRep hv).ext r e1))
    · cases e
  · cases e
theorem op_oFdiv : OpR X (binaryOp .FloorDiv) (rO X.K oFdiv) := by
  refine OpR.imp op_fdivW fun x y H Q ⟨m, ah, p, q, v, ah', r, rp, rq, e, k⟩ => ?_
  unfold oFdiv at e
  split at e
  · split at e
    · rename_i hz
      cases e
      rw [Bool.and_eq_true] at hz
      have h1 := of_decide_eq_true hz.1
      have h2 := of_decide_eq_true hz.2
      exact ⟨_, _, rp.int_inv, rq.int_inv, ⟨h1, by omega⟩, k m H _ .refl r (.int _)⟩
    · cases e
  · cases e
theorem op_oMod : OpR X (binaryOp .Mod) (rO X.K oMod) := by
  refine OpR.imp op_mod fun x y H Q ⟨m, ah, p, q, v, ah', r, rp, rq, e, k⟩ => ?_
  unfold oMod at e
  split at e
  · split at e
    · rename_i hz
      cases e
      exact ⟨_, _, rp.int_inv, rq.int_inv, of_decide_eq_true hz, k m H _ .refl r (.int _)⟩
    · cases e
  · cases e
theorem intC {op : CmpOp} {f : Int → Int → Bool} (h : OpR X (compareOp op) (rI0 fun i j => .bl (f i j))) : OpR X (compareOp op) (rO X.K (oIntC f)) := by
  refine OpR.imp h fun x y H Q ⟨m, ah, p, q, v, ah', r, rp, rq, e, k⟩ => ?_
  unfold oIntC at e
  split at e
  · cases e
    exact ⟨_, _, rp.int_inv, rq.int_inv, k m H _ .refl r (.bl _)⟩
  · cases e
theorem op_oLt : OpR X (compareOp .Lt) (rO X.K oLt) := intC op_lt
theorem op_oLe : OpR X (compareOp .LtE) (rO X.K oLe) := intC op_le
theorem op_oGt : OpR X (compareOp .Gt) (rO X.K oGt) := intC op_gt
theorem op_oGe : OpR X (compareOp .GtE) (rO X.K oGe) := intC op_ge
end
end FL

set_option Elab.async false
set_option linter.all false
set_option maxRecDepth 100000
/-! FL4: data: ==, in, is, repr. -/
namespace FL
open PySem PySem.Spec PyProof.Rows L2
variable [Tabz]

/-- all of a list, or nothing -/
def toPysF {α β : Type} (f : α → Option β) : List α → Option (List β)
  | [] => some []
  | x :: xs => match f x, toPysF f xs with
    | some d, some ds => some (d :: ds)
    | _, _ => none
/-- a value as data, its lists looked up (to a depth) -/
def toPy (ah : AH) : Nat → Va → Option PyData
  | _, .non => some .none
  | _, .bl b => some (.bool b)
  | _, .int i => some (.int i)
  | _, .str x => some (.str x)
  | _, .rp d => some (.str d.shown)
  | 0, .tup _ => none
  | 0, .tud _ => none
  | 0, .rol _ => none
  | 0, .ref _ => none
  | _, .dv _ => none
  | _, .exo _ => none
  | _, .exn _ _ _ _ => none
  | n + 1, .tup xs => (toPysF (toPy ah n) xs).map .tuple
  | n + 1, .tud xs => (toPysF (toPy ah n) xs).map .tuple
  | n + 1, .rol xs => (toPysF (toPy ah n) xs).map .list
  | n + 1, .ref l => match ah[l]? with
    | some (.lst xs) => (toPysF (toPy ah n) xs).map .list
    | _ => none
section
variable {K : PySem.W.Frag} {H : Hp} {m : List Addr} {ah : AH}
mutual
theorem toPy_dp (r : HR K H m ah) : ∀ (n : Nat) (x : Va) (v : V) (d : PyData), VR K H m x v → toPy ah n x = some d → Dp K H v d
  | n, .non, v, d, h, e => by cases h; cases n <;> (unfold toPy at e; cases e; exact .non)
  | n, .bl b, v, d, h, e => by cases h; cases n <;> (unfold toPy at e; cases e; exact .bl b)
  | n, .int i, v, d, h, e => by cases h; cases n <;> (unfold toPy at e; cases e; exact .int i)
  | n, .str x, v, d, h, e => by cases h; cases n <;> (unfold toPy at e; cases e; exact .str x)
  | n, .rp x, v, d, h, e => by cases h; cases n <;> (unfold toPy at e; cases e; exact .str _)
  | 0, .tup _, v, d, h, e => by unfold toPy at e; cases e
  | 0, .tud _, v, d, h, e => by unfold toPy at e; cases e
  | 0, .rol _, v, d, h, e => by unfold toPy at e; cases e
  | 0, .ref _, v, d, h, e => by unfold toPy at e; cases e
  | n, .dv _, v, d, h, e => by cases n <;> (unfold toPy at e; cases e)
  | n, .exo _, v, d, h, e => by cases n <;> (unfold toPy at e; cases e)
  | n, .exn _ _ _ _, v, d, h, e => by cases n <;> (unfold toPy at e; cases e)
  | n + 1, .tup xs, v, d, h, e => by
    unfold toPy at e
    cases h with
    | tup ht hv =>
      cases q : toPysF (toPy ah n) xs with
      | none => rw [q] at e; cases e
      | some ds =>
        rw [q] at e
        cases e
        exact .tup ht (toPys_dp r n xs _ ds hv q)
  | n + 1, .tud xs, v, d, h, e => by
    unfold toPy at e
    cases h with
    | tud ht hv =>
      cases q : toPysF (toPy ah n) xs with
      | none => rw [q] at e; cases e
      | some ds =>
        rw [q] at e
        cases e
        exact .tup ht.sq (toPys_dp r n xs _ ds hv q)
  | n + 1, .rol xs, v, d, h, e => by
    unfold toPy at e
    cases h with
    | rol ht hv =>
      cases q : toPysF (toPy ah n) xs with
      | none => rw [q] at e; cases e
      | some ds =>
        rw [q] at e
        cases e
        exact .lst ht.seq (toPys_dp r n xs _ ds hv q)
  | n + 1, .ref l, v, d, h, e => by
    unfold toPy at e
    cases h with
    | ref ha =>
      split at e
      · rename_i xs hl
        obtain ⟨vs, g1, hv⟩ := r.lst ha hl
        cases q : toPysF (toPy ah n) xs with
        | none => rw [q] at e; cases e
        | some ds =>
          rw [q] at e
          cases e
          exact .lst (SqL.of g1) (toPys_dp r n xs _ ds hv q)
      · cases e
theorem toPys_dp (r : HR K H m ah) : ∀ (n : Nat) (xs : List Va) (vs : List V) (ds : List PyData), VRs K H m xs vs → toPysF (toPy ah n) xs = some ds → DpAll K H vs ds
  | n, [], vs, ds, h, e => by cases h; unfold toPysF at e; cases e; exact .nil
  | n, x :: xs, vs, ds, h, e => by
    cases h with
    | cons h1 h2 =>
      unfold toPysF at e
      cases q1 : toPy ah n x with
      | none => rw [q1] at e; cases e
      | some d =>
        cases q2 : toPysF (toPy ah n) xs with
        | none => rw [q1, q2] at e; cases e
        | some ds' =>
          rw [q1, q2] at e
          cases e
          exact .cons (toPy_dp r n x _ d h1 q1) (toPys_dp r n xs _ ds' h2 q2)
end
end
/-! ### == and in -/
def depthL : Nat := 12
def oEqv (neg : Bool) : Op2 := fun p q h => match toPy h depthL p, toPy h depthL q with
  | some d, some e => if SeqAt.shaped d && SeqAt.shaped e then some (.bl (if neg then !PyData.eqv d e else PyData.eqv d e), h) else none
  | _, _ => none
abbrev oEq : Op2 := oEqv false
abbrev oNe : Op2 := oEqv true
def oInn (neg : Bool) : Op2 := fun p q h => match toPy h depthL p, toPy h depthL q with
  | some d, some (.list ds) => if SeqAt.shaped d && SeqAt.shaped (.list ds) then some (.bl (if neg then !ds.any fun z => PyData.eqv z d else ds.any fun z => PyData.eqv z d), h) else none
  | some d, some (.tuple ds) => if SeqAt.shaped d && SeqAt.shaped (.tuple ds) then some (.bl (if neg then !ds.any fun z => PyData.eqv z d else ds.any fun z => PyData.eqv z d), h) else none
  | _, _ => none
abbrev oIn : Op2 := oInn false
abbrev oNotIn : Op2 := oInn true
section
variable {X : Cx}
theorem op_oEq {k : Nat} (hr : Room k X.A) : OpR X (compareOp .Eq) (rO X.K oEq) := by
  refine OpR.imp (op_eqD hr.units) fun x y H Q ⟨m, ah, p, q, v, ah', r, rp, rq, e, kk⟩ => ?_
  unfold oEq oEqv at e
  split at e
  · rename_i d e' h1 h2
    split at e
    · rename_i hz
      cases e
      rw [Bool.and_eq_true] at hz
      exact ⟨d, e', toPy_dp r _ _ _ _ rp h1, toPy_dp r _ _ _ _ rq h2, hz.1, hz.2, kk m H _ .refl r (.bl _)⟩
    · cases e
  · cases e
theorem op_oNe {k : Nat} (hr : Room k X.A) : OpR X (compareOp .NotEq) (rO X.K oNe) := by
  refine OpR.imp (op_neD hr.units) fun x y H Q ⟨m, ah, p, q, v, ah', r, rp, rq, e, kk⟩ => ?_
  unfold oNe oEqv at e
  split at e
  · rename_i d e' h1 h2
    split at e
    · rename_i hz
      cases e
      rw [Bool.and_eq_true] at hz
      exact ⟨d, e', toPy_dp r _ _ _ _ rp h1, toPy_dp r _ _ _ _ rq h2, hz.1, hz.2, kk m H _ .refl r (.bl _)⟩
    · cases e
  · cases e
def rInT (K : PySem.W.Frag) (neg : Bool) : R2 := fun x y H Q => ∃ d ds, Dp K H x d ∧ Dp K H y (.tuple ds) ∧ SeqAt.shaped d = true ∧ SeqAt.shaped (.tuple ds) = true ∧ Q (.bl (if neg then !ds.any fun z => PyData.eqv z d else ds.any fun z => PyData.eqv z d)) H
/-! ### is -/
def isNon : Va → Bool
  | .non => true
  | _ => false
def oIs (neg : Bool) : Op2 := fun p q h => match p, q with
  | p, .non => some (.bl (if neg then !isNon p else isNon p), h)
  | .bl a, .bl b => some (.bl (if neg then !decide (a = b) else decide (a = b)), h)
  | _, _ => none
theorem isNon_dec {K : PySem.W.Frag} {H : Hp} {m : List Addr} {p : Va} {x : V} (h : VR K H m p x) : decide (x = V.non) = isNon p := by
  cases h <;> first | rfl | exact decide_eq_false (fun z => nomatch z)
theorem op_oIs : OpR X (compareOp .Is) (rO X.K (oIs false)) := by
  refine OpR.imp (op_isN.or op_isBl) fun x y H Q ⟨m, ah, p, q, v, ah', r, rp, rq, e, kk⟩ => ?_
  unfold oIs at e
  split at e
  · cases e
    refine .inl ⟨rq.non_inv, ?_⟩
    rw [isNon_dec rp]
    exact kk m H _ .refl r (.bl _)
  · cases e
    exact .inr ⟨_, _, rp.bl_inv, rq.bl_inv, kk m H _ .refl r (.bl _)⟩
  · cases e
theorem op_oIsNot : OpR X (compareOp .IsNot) (rO X.K (oIs true)) := by
  refine OpR.imp (op_notN.or op_notBl) fun x y H Q ⟨m, ah, p, q, v, ah', r, rp, rq, e, kk⟩ => ?_
  unfold oIs at e
  split at e
  · cases e
    refine .inl ⟨rq.non_inv, ?_⟩
    rw [isNon_dec rp]
    exact kk m H _ .refl r (.bl _)
  · cases e
    exact .inr ⟨_, _, rp.bl_inv, rq.bl_inv, kk m H _ .refl r (.bl _)⟩
  · cases e
end
/-! ### repr -/
mutual
/-- the text's length is no more -/
def lenB : PyData → Nat
  | .none => 4
  | .bool _ => 5
  | .int i => i.natAbs.log2 + 2
  | .str x => 10 * x.length + 2
  | .list xs => lenBs xs + 3
  | .tuple xs => lenBs xs + 3
  | .dict _ => sizeLine + 1
def lenBs : List PyData → Nat
  | [] => 0
  | x :: xs => lenB x + 2 + lenBs xs
end
mutual
theorem lenB_ok : ∀ d : PyData, d.canLay0 = true → d.shown.length ≤ lenB d
  | .none, _ => by decide
  | .bool b, _ => by cases b <;> decide
  | .int i, _ => by
    simp only [PyData.shown, lenB]
    have e : (Str.ofString (toString i)).length = (toString i).length := PySem.ofString_length _
    have h := int_text_length_le (a := i) (k := i.natAbs.log2 + 1) (by omega) (by omega)
    show (Str.ofString (toString i)).length ≤ _
    omega
  | .str x, h => by
    simp only [PyData.shown, lenB]
    refine StrLaws.reprText_len x fun c hc => ?_
    have h' : PyData.strOk x = true := by simpa [PyData.canLay0] using h
    unfold PyData.strOk at h'
    rw [← Array.all_toList, List.all_eq_true] at h'
    have := h' c hc
    simp at this
    omega
  | .list xs, h => by
    have h1 := lenBs_ok xs (by simpa [PyData.canLay0] using h)
    have h2 := listText_len_le (PyData.shownAll xs)
    have h3 := PyData.shownAll_length xs
    simp only [PyData.shown, lenB]
    omega
  | .tuple xs, h => by
    have h1 := lenBs_ok xs (by simpa [PyData.canLay0] using h)
    have h2 := tupleText_len_le (PyData.shownAll xs)
    have h3 := PyData.shownAll_length xs
    simp only [PyData.shown, lenB]
    omega
  | .dict kvs, h => by simp [PyData.canLay0] at h
theorem lenBs_ok : ∀ xs : List PyData, PyData.canLayAll0 xs = true → ((PyData.shownAll xs).map (·.length)).sum + 2 * xs.length ≤ lenBs xs
  | [], _ => by simp [PyData.shownAll, lenBs]
  | x :: xs, h => by
    have h' : x.canLay0 = true ∧ PyData.canLayAll0 xs = true := by simpa [PyData.canLayAll0] using h
    have h1 := lenB_ok x h'.1
    have h2 := lenBs_ok xs h'.2
    simp only [PyData.shownAll, lenBs, List.map_cons, List.sum_cons, List.length_cons]
    omega
end
def okR (d : PyData) : Bool := d.showable && d.canLay0 && decide (d.depth ≤ 60) && decide (lenB d ≤ 16000000)
def oRepr : Op1 := fun p h => match toPy h depthL p with
  | some d => if okR d then some (.rp d, h) else none
  | none => none
/-- the reading of a call of one argument by values -/
def rC1 (K : PySem.W.Frag) (o : Op1) : List V → Hp → VK → Prop := fun xs H Q => ∃ x m ah p v ah', xs = [x] ∧ HR K H m ah ∧ VR K H m p x ∧ o p ah = some (v, ah') ∧ ∀ m' H' w, Ext m H m' H' → HR K H' m' ah' → VR K H' m' v w → Q w H'
section
variable {X : Cx}
theorem call_oReprU (hun : X.A.units + 200 < cLine) (hg : X.A.guards = some []) : CallR X (.builtin "repr") (rC1 X.K oRepr) := by
  intro pins s σ H xs us Q I rx h
  obtain ⟨x, m, ah, p, v, ah', rfl, r, rp, e, kk⟩ := h
  obtain ⟨u, rfl, ru⟩ := vals1 rx
  unfold oRepr at e
  cases hd : toPy ah depthL p with
  | none => rw [hd] at e; cases e
  | some d =>
    rw [hd] at e
    have e' : (if okR d then some (Va.rp d, ah) else none) = some (v, ah') := e
    split at e'
    · rename_i hz
      cases e'
      have hz' := hz
      unfold okR at hz
      simp only [Bool.and_eq_true, decide_eq_true_eq] at hz
      obtain ⟨⟨⟨z1, z2⟩, z3⟩, z4⟩ := hz
      have hlen : d.shown.length ≤ sizeLine := by
        have := lenB_ok d z2
        have := sizeLine_eq
        omega
      have dp := toPy_dp r _ _ _ _ rp hd
      obtain ⟨as, rd⟩ := Dp.reads I d x u dp ru
      have q := kk m H _ .refl r (.rp d)
      have fin : ∀ {s' : Shared} {t : Tok}, Inv X pins σ H s' → EP X pins σ Q (.str d.shown t) s' := fun {s' t} J => ⟨.str d.shown, H, J, ⟨t, rfl⟩, q⟩
      have hu := hun
      cases u with
      | ref a => exact repr_of_reads' rd z1 (fun e => by rw [PyData.hasDict_of_canLay d z2] at e; cases e) hg (by omega) (fun _ _ e => e) (fun h' u tk hk => fin (I.kept hk)) hlen
      | int i t =>
        cases rd
        have hi : i.natAbs.log2 < 1920 := by simpa [PyData.showable] using z1
        exact PySem.P.repr_of_int hi (fin (I.tok _))
      | str y t =>
        cases rd
        exact PySem.P.repr_of_str (fin (I.tok _)) hlen
      | bool b =>
        cases rd
        exact PySem.P.repr_of_bool (fin (I.tok _))
      | none =>
        cases rd
        exact PySem.P.repr_of_none (fin (I.tok _))
      | _ => cases rd
    · cases e'
end
end FL

set_option Elab.async false
set_option linter.all false
set_option maxRecDepth 100000
/-! FL4E: repr of data in which empty dicts stand. -/
namespace FL
open PySem PySem.Spec PyProof.Rows L2
variable [Tabz]
mutual
/-- data whose dicts are empty -/
def canE : PyData → Bool
  | .none => true
  | .bool _ => true
  | .int _ => true
  | .str x => PyData.strOk x
  | .list xs => canEs xs
  | .tuple xs => canEs xs
  | .dict kvs => kvs.isEmpty
def canEs : List PyData → Bool
  | [] => true
  | x :: xs => canE x && canEs xs
end
mutual
def lenE : PyData → Nat
  | .none => 4
  | .bool _ => 5
  | .int i => i.natAbs.log2 + 2
  | .str x => 10 * x.length + 2
  | .list xs => lenEs xs + 3
  | .tuple xs => lenEs xs + 3
  | .dict _ => 2
def lenEs : List PyData → Nat
  | [] => 0
  | x :: xs => lenE x + 2 + lenEs xs
end
mutual
theorem lenE_ok : ∀ d : PyData, canE d = true → d.shown.length ≤ lenE d
  | .none, _ => by decide
  | .bool b, _ => by cases b <;> decide
  | .int i, _ => by
    have := lenB_ok (.int i) rfl
    simp only [lenB] at this
    simp only [lenE]
    exact this
  | .str x, h => by
    have := lenB_ok (.str x) (by simpa [canE, PyData.canLay0] using h)
    simp only [lenB] at this
    simp only [lenE]
    exact this
  | .list xs, h => by
    have h1 := lenEs_ok xs (by simpa [canE] using h)
    have h2 := listText_len_le (PyData.shownAll xs)
    have h3 := PyData.shownAll_length xs
    simp only [PyData.shown, lenE]
    omega
  | .tuple xs, h => by
    have h1 := lenEs_ok xs (by simpa [canE] using h)
    have h2 := tupleText_len_le (PyData.shownAll xs)
    have h3 := PyData.shownAll_length xs
    simp only [PyData.shown, lenE]
    omega
  | .dict kvs, h => by
    cases kvs with
    | nil => decide +kernel
    | cons _ _ => simp [canE] at h
theorem lenEs_ok : ∀ xs : List PyData, canEs xs = true → ((PyData.shownAll xs).map (·.length)).sum + 2 * xs.length ≤ lenEs xs
  | [], _ => by simp [PyData.shownAll, lenEs]
  | x :: xs, h => by
    have h' : canE x = true ∧ canEs xs = true := by simpa [canEs] using h
    have h1 := lenE_ok x h'.1
    have h2 := lenEs_ok xs h'.2
    simp only [PyData.shownAll, lenEs, List.map_cons, List.sum_cons, List.length_cons]
    omega
end
/-- a value as data, empty dicts too, its lists and dicts written ones -/
def toPyE (ah : AH) : Nat → Va → Option PyData
  | _, .non => some .none
  | _, .bl b => some (.bool b)
  | _, .int i => some (.int i)
  | _, .str x => some (.str x)
  | _, .rp d => some (.str d.shown)
  | 0, .tup _ => none
  | 0, .tud _ => none
  | 0, .rol _ => none
  | 0, .ref _ => none
  | _, .dv _ => none
  | _, .exo _ => none
  | _, .exn _ _ _ _ => none
  | n + 1, .tup xs => (toPysF (toPyE ah n) xs).map .tuple
  | n + 1, .tud xs => (toPysF (toPyE ah n) xs).map .tuple
  | n + 1, .rol xs => (toPysF (toPyE ah n) xs).map .list
  | n + 1, .ref l => match ah[l]? with
    | some (.lst xs) => (toPysF (toPyE ah n) xs).map .list
    | some (.dct []) => some (.dict [])
    | _ => none
mutual
inductive DpE (K : PySem.W.Frag) (H : Hp) : V → PyData → Prop
  | non : DpE K H .non .none
  | bl (b : Bool) : DpE K H (.bl b) (.bool b)
  | int (i : Int) : DpE K H (.int i) (.int i)
  | str (x : Str) : DpE K H (.str x) (.str x)
  | lst {a : Addr} {xs : List V} {ds : List PyData} : SqL K H a xs → DpEs K H xs ds → DpE K H (.ref a) (.list ds)
  | tup {a : Addr} {xs : List V} {ds : List PyData} : SqT K H a xs → DpEs K H xs ds → DpE K H (.ref a) (.tuple ds)
  | dct {a : Addr} : H a = some (.dK []) → DpE K H (.ref a) (.dict [])
inductive DpEs (K : PySem.W.Frag) (H : Hp) : List V → List PyData → Prop
  | nil : DpEs K H [] []
  | cons {v : V} {vs : List V} {d : PyData} {ds : List PyData} : DpE K H v d → DpEs K H vs ds → DpEs K H (v :: vs) (d :: ds)
end
section
variable {K : PySem.W.Frag} {H : Hp} {m : List Addr} {ah : AH}
mutual
theorem toPyE_dp (r : HR K H m ah) : ∀ (n : Nat) (x : Va) (v : V) (d : PyData), VR K H m x v → toPyE ah n x = some d → DpE K H v d
  | n, .non, v, d, h, e => by cases h; cases n <;> (unfold toPyE at e; cases e; exact .non)
  | n, .bl b, v, d, h, e => by cases h; cases n <;> (unfold toPyE at e; cases e; exact .bl b)
  | n, .int i, v, d, h, e => by cases h; cases n <;> (unfold toPyE at e; cases e; exact .int i)
  | n, .str x, v, d, h, e => by cases h; cases n <;> (unfold toPyE at e; cases e; exact .str x)
  | n, .rp x, v, d, h, e => by cases h; cases n <;> (unfold toPyE at e; cases e; exact .str _)
  | 0, .tup _, v, d, h, e => by unfold toPyE at e; cases e
  | 0, .tud _, v, d, h, e => by unfold toPyE at e; cases e
  | 0, .rol _, v, d, h, e => by unfold toPyE at e; cases e
  | 0, .ref _, v, d, h, e => by unfold toPyE at e; cases e
  | n, .dv _, v, d, h, e => by cases n <;> (unfold toPyE at e; cases e)
  | n, .exo _, v, d, h, e => by cases n <;> (unfold toPyE at e; cases e)
  | n, .exn _ _ _ _, v, d, h, e => by cases n <;> (unfold toPyE at e; cases e)
  | n + 1, .tup xs, v, d, h, e => by
    unfold toPyE at e
    cases h with
    | tup ht hv =>
      cases q : toPysF (toPyE ah n) xs with
      | none => rw [q] at e; cases e
      | some ds =>
        rw [q] at e
        cases e
        exact .tup ht (toPyEs_dp r n xs _ ds hv q)
  | n + 1, .tud xs, v, d, h, e => by
    unfold toPyE at e
    cases h with
    | tud ht hv =>
      cases q : toPysF (toPyE ah n) xs with
      | none => rw [q] at e; cases e
      | some ds =>
        rw [q] at e
        cases e
        exact .tup ht.sq (toPyEs_dp r n xs _ ds hv q)
  | n + 1, .rol xs, v, d, h, e => by
    unfold toPyE at e
    cases h with
    | rol ht hv =>
      cases q : toPysF (toPyE ah n) xs with
      | none => rw [q] at e; cases e
      | some ds =>
        rw [q] at e
        cases e
        exact .lst ht.seq (toPyEs_dp r n xs _ ds hv q)
  | n + 1, .ref l, v, d, h, e => by
    unfold toPyE at e
    cases h with
    | ref ha =>
      split at e
      · rename_i xs hl
        obtain ⟨vs, g1, hv⟩ := r.lst ha hl
        cases q : toPysF (toPyE ah n) xs with
        | none => rw [q] at e; cases e
        | some ds =>
          rw [q] at e
          cases e
          exact .lst (SqL.of g1) (toPyEs_dp r n xs _ ds hv q)
      · rename_i hl
        cases e
        obtain ⟨ps, g1, g2⟩ := r.at_ _ _ _ ha hl
        refine .dct ?_
        rw [g1]
        cases ps with
        | nil => rfl
        | cons _ _ => cases g2
      · cases e
theorem toPyEs_dp (r : HR K H m ah) : ∀ (n : Nat) (xs : List Va) (vs : List V) (ds : List PyData), VRs K H m xs vs → toPysF (toPyE ah n) xs = some ds → DpEs K H vs ds
  | n, [], vs, ds, h, e => by cases h; unfold toPysF at e; cases e; exact .nil
  | n, x :: xs, vs, ds, h, e => by
    cases h with
    | cons h1 h2 =>
      unfold toPysF at e
      cases q1 : toPyE ah n x with
      | none => rw [q1] at e; cases e
      | some d =>
        cases q2 : toPysF (toPyE ah n) xs with
        | none => rw [q1, q2] at e; cases e
        | some ds' =>
          rw [q1, q2] at e
          cases e
          exact .cons (toPyE_dp r n x _ d h1 q1) (toPyEs_dp r n xs _ ds' h2 q2)
end
end
/-! what stands in the heap, dicts empty and not sys.modules -/
mutual
inductive RdE (h : Heap) : Value → PyData → Prop
  | non : RdE h .none .none
  | bl (b : Bool) : RdE h (.bool b) (.bool b)
  | int (i : Int) (t : Tok) : RdE h (.int i t) (.int i)
  | str (x : Str) (t : Tok) : RdE h (.str x t) (.str x)
  | lst {a : Addr} {o : Obj} {vs : Array Value} {n : Nat} {xs : List PyData} (g1 : h.get? a = some o) (g2 : o.cls = .type "list") (g3 : o.data = .seq vs n) (g4 : RdEs h vs.toList xs) : RdE h (.ref a) (.list xs)
  | tup {a : Addr} {o : Obj} {vs : Array Value} {n : Nat} {xs : List PyData} (g1 : h.get? a = some o) (g2 : o.cls = .type "tuple") (g3 : o.data = .seq vs n) (g4 : RdEs h vs.toList xs) : RdE h (.ref a) (.tuple xs)
  | dct {a : Addr} {o : Obj} {es : Array DictEntry} {n : Nat} (g1 : h.get? a = some o) (g2 : o.cls = .type "dict") (g3 : o.data = .dict es n) (g4 : es.toList = []) (g5 : (a == sysModules) = false) : RdE h (.ref a) (.dict [])
inductive RdEs (h : Heap) : List Value → List PyData → Prop
  | nil : RdEs h [] []
  | cons {v : Value} {vs : List Value} {d : PyData} {ds : List PyData} (g1 : RdE h v d) (g2 : RdEs h vs ds) : RdEs h (v :: vs) (d :: ds)
end
section
variable {h : Heap} {P : Program} {w : World}
mutual
theorem RdE.rd : ∀ {v : Value} {d : PyData}, RdE h v d → ∃ as, Reads h v d as
  | _, _, .non => ⟨_, .none⟩
  | _, _, .bl b => ⟨_, .bool b⟩
  | _, _, .int i t => ⟨_, .int i t⟩
  | _, _, .str x t => ⟨_, .str x t⟩
  | _, _, .lst g1 g2 g3 g4 => by obtain ⟨as, r⟩ := RdEs.rd g4; exact ⟨_, .list g1 g2 g3 r⟩
  | _, _, .tup g1 g2 g3 g4 => by obtain ⟨as, r⟩ := RdEs.rd g4; exact ⟨_, .tuple g1 g2 g3 r⟩
  | _, _, .dct g1 g2 g3 g4 g5 => ⟨_, .dict g1 g2 g3 (by rw [g4]; exact .nil) (by rw [g4]; exact .nil)⟩
theorem RdEs.rd : ∀ {vs : List Value} {ds : List PyData}, RdEs h vs ds → ∃ as, ReadsAll h vs ds as
  | _, _, .nil => ⟨_, .nil⟩
  | _, _, .cons g1 g2 => by
    obtain ⟨as, r1⟩ := RdE.rd g1
    obtain ⟨bs, r2⟩ := RdEs.rd g2
    exact ⟨_, .cons r1 r2⟩
end
mutual
theorem RdE.rk : ∀ {v : Value} {d : PyData}, RdE h v d → d.showable = true → d.shown.length ≤ sizeLine → ∃ bs, ReadAtMost h d.depth bs ∧ ReprK P w bs h d.depth v d.shown
  | _, _, .non, _, _ => by
    refine ⟨[], (fun _ z => nomatch z), ?_⟩
    simp only [PyData.shown]
    exact .of_is ReprIs.none _ _ _
  | _, _, .bl b, _, _ => by
    refine ⟨[], (fun _ z => nomatch z), ?_⟩
    simp only [PyData.shown]
    exact .of_is (ReprIs.bool b) _ _ _
  | _, _, .int i t, hs, _ => by
    refine ⟨[], (fun _ z => nomatch z), ?_⟩
    simp only [PyData.shown]
    exact .of_is (ReprIs.int t (by simpa [PyData.showable] using hs)) _ _ _
  | _, _, .str x t, _, hz => by
    refine ⟨[], (fun _ z => nomatch z), ?_⟩
    simp only [PyData.shown] at hz ⊢
    exact .of_is (ReprIs.str x t hz) _ _ _
  | _, _, .lst (a := a) (vs := vs) (xs := xs) g1 g2 g3 g4, hs, hz => by
    have hz2 : (listText (PyData.shownAll xs)).length ≤ sizeLine := by simpa only [PyData.shown] using hz
    obtain ⟨bs, k1, k2⟩ := RdEs.rk g4 (by simpa [PyData.showable] using hs) fun t ht => Nat.le_trans (listText_mem_le ht) hz2
    obtain ⟨as, r⟩ := RdE.rd (.lst g1 g2 g3 g4)
    have away : a ∉ bs := not_mem_of_deeper r (by simp only [PyData.depth]; omega) k1
    refine ⟨a :: bs, ReadAtMost.cons r (by simp only [PyData.depth]; omega) k1, ?_⟩
    simp only [PyData.depth, PyData.shown]
    obtain ⟨l⟩ := vs
    cases l with
    | nil =>
      have g5 : RdEs h [] xs := g4
      cases g5
      simp only [PyData.shownAll, listText_nil]
      exact ReprK.listEmpty g1 g2 g3
    | cons x l => exact ReprK.list g1 g2 g3 away (by simpa using k2.length_eq) fun i y e => k2.item i y (by simpa using e)
  | _, _, .tup (a := a) (xs := xs) g1 g2 g3 g4, hs, hz => by
    have hz2 : (tupleText (PyData.shownAll xs)).length ≤ sizeLine := by simpa only [PyData.shown] using hz
    obtain ⟨bs, k1, k2⟩ := RdEs.rk g4 (by simpa [PyData.showable] using hs) fun t ht => Nat.le_trans (tupleText_mem_le ht) hz2
    obtain ⟨as, r⟩ := RdE.rd (.tup g1 g2 g3 g4)
    have away : a ∉ bs := not_mem_of_deeper r (by simp only [PyData.depth]; omega) k1
    refine ⟨a :: bs, ReadAtMost.cons r (by simp only [PyData.depth]; omega) k1, ?_⟩
    simp only [PyData.depth, PyData.shown]
    exact ReprK.tuple g1 g2 g3 away k2
  | _, _, .dct (a := a) (es := es) g1 g2 g3 g4 g5, _, _ => by
    obtain ⟨as, r⟩ := RdE.rd (.dct g1 g2 g3 g4 g5)
    have k1 : ReadAtMost h (PyData.depthKv []) [] := fun _ z => nomatch z
    refine ⟨[a], ReadAtMost.cons r (by simp only [PyData.depth]; omega) k1, ?_⟩
    have e : (PyData.dict []).shown = dictText [] := by simp only [PyData.shown, PyData.shownKv]
    rw [e]
    exact ReprK.dict g1 g2 g3 g5 (by simp) (by rw [g4]; exact .nil)
theorem RdEs.rk : ∀ {vs : List Value} {ds : List PyData}, RdEs h vs ds → PyData.showableAll ds = true → (∀ t ∈ PyData.shownAll ds, t.length ≤ sizeLine) → ∃ bs, ReadAtMost h (PyData.depthAll ds) bs ∧ ReprAllK P w bs h (PyData.depthAll ds) vs (PyData.shownAll ds)
  | _, _, .nil, _, _ => by
    refine ⟨[], (fun _ z => nomatch z), ?_⟩
    simp only [PyData.shownAll]
    exact .nil
  | _, _, .cons (d := d) (ds := ds) g1 g2, hs, hz => by
    obtain ⟨s1, s2⟩ : d.showable = true ∧ PyData.showableAll ds = true := by simpa [PyData.showableAll] using hs
    simp only [PyData.shownAll] at hz ⊢
    obtain ⟨b1, k1, q1⟩ := RdE.rk g1 s1 (hz _ List.mem_cons_self)
    obtain ⟨b2, k2, q2⟩ := RdEs.rk g2 s2 fun t ht => hz t (List.mem_cons_of_mem _ ht)
    simp only [PyData.depthAll]
    refine ⟨b1 ++ b2, fun b hm => ?_, .cons ((q1.more fun b hb => List.mem_append_left _ hb).level_le (Nat.le_max_left _ _)) (q2.more_le (fun b hb => List.mem_append_right _ hb) (Nat.le_max_right _ _))⟩
    rcases List.mem_append.mp hm with hm | hm
    · obtain ⟨d', as', r', hd'⟩ := k1 b hm
      exact ⟨d', as', r', Nat.le_trans hd' (Nat.le_max_left _ _)⟩
    · obtain ⟨d', as', r', hd'⟩ := k2 b hm
      exact ⟨d', as', r', Nat.le_trans hd' (Nat.le_max_right _ _)⟩
end
/-- repr(x) -/
theorem RdE.repr {A : Around} {E : Value → Shared → Prop} {s : Shared} {Q : Value → Shared → Prop} {a : Addr} {d : PyData} (r : RdE s.heap (.ref a) d) (hs : d.showable = true) (hg : A.guards = some []) (hu : A.units + (d.depth + 1) < cLine) (hz : d.shown.length ≤ sizeLine)
    (hQ : ∀ h' u tk, (∀ b o, s.heap.get? b = some o → h'.get? b = some o) → Q (.str d.shown u) { s with heap := h', toks := tk }) : wpAny (model P w) A (call (.builtin "repr") [.ref a]) Q E s := by
  have up : A.in1.guards = some [] := hg
  cases r with
  | lst g1 g2 g3 g4 =>
    rename_i o vs n xs
    have hz2 : (listText (PyData.shownAll xs)).length ≤ sizeLine := by simpa only [PyData.shown] using hz
    obtain ⟨bs, k1, k2⟩ := RdEs.rk (P := P) (w := w) g4 (by simpa [PyData.showable] using hs) fun t ht => Nat.le_trans (listText_mem_le ht) hz2
    obtain ⟨as, r⟩ := RdE.rd (.lst g1 g2 g3 g4)
    have away : a ∉ bs := not_mem_of_deeper r (by simp only [PyData.depth]; omega) k1
    simp only [PyData.depth] at hu
    simp only [PyData.shown] at hQ
    refine call_repr_slot (by omega) ⟨o, g1, g2⟩ F.slot_list_repr.toG ?_
    obtain ⟨l⟩ := vs
    cases l with
    | nil =>
      have g5 : RdEs s.heap [] xs := g4
      cases g5
      simp only [PyData.shownAll, listText_nil] at hQ
      exact call_list_repr_empty ⟨o, g1, g2⟩ g1 g3 ⟨_, _, rfl, hQ s.heap _ _ fun _ _ e => e⟩
    | cons x l =>
      exact call_list_reprK g1 g2 g3 away (by simpa using k2.length_eq) (fun i y e => k2.item i y (by simpa using e)) up (fun b _ => Clear.nil b) (by show A.units + 1 + _ < _; omega) (fun _ _ e => e) (fun h' u tk hk => ⟨_, _, rfl, hQ h' u tk hk⟩) hz2
  | tup g1 g2 g3 g4 =>
    rename_i o vs n xs
    have hz2 : (tupleText (PyData.shownAll xs)).length ≤ sizeLine := by simpa only [PyData.shown] using hz
    obtain ⟨bs, k1, k2⟩ := RdEs.rk (P := P) (w := w) g4 (by simpa [PyData.showable] using hs) fun t ht => Nat.le_trans (tupleText_mem_le ht) hz2
    obtain ⟨as, r⟩ := RdE.rd (.tup g1 g2 g3 g4)
    have away : a ∉ bs := not_mem_of_deeper r (by simp only [PyData.depth]; omega) k1
    simp only [PyData.depth] at hu
    simp only [PyData.shown] at hQ
    exact call_repr_slot (by omega) ⟨o, g1, g2⟩ F.slot_tuple_repr (call_tuple_reprK g1 g2 g3 away k2 up (fun b _ => Clear.nil b) (by show A.units + 1 + _ < _; omega) (fun _ _ e => e) (fun h' u tk hk => ⟨_, _, rfl, hQ h' u tk hk⟩) hz2)
  | dct g1 g2 g3 g4 g5 =>
    rename_i o es n
    have rd : Reads s.heap (.ref a) (.dict []) (a :: [] ++ []) := .dict g1 g2 g3 (by rw [g4]; exact .nil) (by rw [g4]; exact .nil)
    exact repr_of_reads' rd hs (fun _ hm => by simp at hm; rw [hm] at g5; simp at g5) hg hu (fun _ _ e => e) hQ hz
end
section
variable {X : Cx} {pins : List (Addr × Obj)} {σ : L2.St} {H : Hp} {s : Shared}
mutual
theorem DpE.at (I : L2.Inv X pins σ H s) : ∀ (d : PyData) (v : V) (u : Value), DpE X.K H v d → RelV v u → RdE s.heap u d
  | .none, _, _, h, r => by cases h; cases r; exact .non
  | .bool b, _, _, h, r => by cases h; cases r; exact .bl b
  | .int i, _, _, h, r => by cases h; obtain ⟨t, rfl⟩ := r; exact .int i t
  | .str x, _, _, h, r => by cases h; obtain ⟨t, rfl⟩ := r; exact .str x t
  | .list ds, _, _, h, r => by
    cases h with
    | lst hs ha =>
      cases r
      obtain ⟨its, rv, ⟨o, n, ho, hc, _, hd⟩, _⟩ := I.list hs
      exact .lst ho hc hd (DpEs.at I ds _ its ha rv)
  | .tuple ds, _, _, h, r => by
    cases h with
    | tup hs ha =>
      cases r
      obtain ⟨its, rv, ⟨o, ho, hc, n, hd⟩, _⟩ := I.tuple hs
      exact .tup ho hc hd (DpEs.at I ds _ its ha rv)
  | .dict _, _, _, h, r => by
    cases h with
    | dct ha =>
      cases r
      obtain ⟨_, hne, vs, hv, hd⟩ := L2.dk_of I.hok ha
      cases vs with
      | cons _ _ => cases hv
      | nil =>
        obtain ⟨o, es, ep, ho, hx, hdat, _, hp, _⟩ := hd
        exact .dct ho hx.1 hdat (List.eq_nil_of_length_eq_zero hp.length) hne
theorem DpEs.at (I : L2.Inv X pins σ H s) : ∀ (ds : List PyData) (vs : List V) (us : List Value), DpEs X.K H vs ds → Vals vs us → RdEs s.heap us ds
  | [], _, _, h, r => by cases h; cases r; exact .nil
  | d :: ds, _, _, h, r => by
    cases h with
    | cons h1 h2 =>
      cases r with
      | cons r1 r2 => exact .cons (DpE.at I d _ _ h1 r1) (DpEs.at I ds _ _ h2 r2)
end
end
def okE (d : PyData) : Bool := d.showable && canE d && decide (d.depth ≤ 60) && decide (lenE d ≤ 16000000)
def oReprE : Op1 := fun p h => match toPyE h depthL p with
  | some d => if okE d then some (.rp d, h) else none
  | none => none
section
variable {X : Cx}
theorem call_oReprE (hun : X.A.units + 200 < cLine) (hg : X.A.guards = some []) : CallR X (.builtin "repr") (rC1 X.K oReprE) := by
  intro pins s σ H xs us Q I rx h
  obtain ⟨x, m, ah, p, v, ah', rfl, r, rp, e, kk⟩ := h
  obtain ⟨u, rfl, ru⟩ := vals1 rx
  unfold oReprE at e
  cases hd : toPyE ah depthL p with
  | none => rw [hd] at e; cases e
  | some d =>
    rw [hd] at e
    have e' : (if okE d then some (Va.rp d, ah) else none) = some (v, ah') := e
    split at e'
    case isFalse => cases e'
    rename_i hz
    cases e'
    unfold okE at hz
    simp only [Bool.and_eq_true, decide_eq_true_eq] at hz
    obtain ⟨⟨⟨z1, z2⟩, z3⟩, z4⟩ := hz
    have hlen : d.shown.length ≤ sizeLine := by
      have := lenE_ok d z2
      have := sizeLine_eq
      omega
    have dp := toPyE_dp r _ _ _ _ rp hd
    have rd := DpE.at I d x u dp ru
    have q := kk m H _ .refl r (.rp d)
    have fin : ∀ {s' : Shared} {t : Tok}, L2.Inv X pins σ H s' → EP X pins σ Q (.str d.shown t) s' := fun {s' t} J => ⟨.str d.shown, H, J, ⟨t, rfl⟩, q⟩
    have hu := hun
    cases u with
    | ref a => exact rd.repr z1 hg (by omega) hlen fun h' u tk hk => fin (I.kept hk)
    | int i t =>
      cases rd
      have hi : i.natAbs.log2 < 1920 := by simpa [PyData.showable] using z1
      exact PySem.P.repr_of_int hi (fin (I.tok _))
    | str y t =>
      cases rd
      exact PySem.P.repr_of_str (fin (I.tok _)) hlen
    | bool b =>
      cases rd
      exact PySem.P.repr_of_bool (fin (I.tok _))
    | none =>
      cases rd
      exact PySem.P.repr_of_none (fin (I.tok _))
    | _ => cases rd
end
end FL

set_option Elab.async false
set_option linter.all false
set_option maxRecDepth 100000
/-! FL5: and, or, not, if; displays; arguments; built-ins by name; subscripts, slices. -/
namespace FL
open PySem PySem.Spec PyProof.Rows L2
variable [Tabz]
/-! ### tests -/
structure MW (X : Cx) (W : WX) (e : Expr) (f : TF) : Prop where
  pw : PW X e (Wi X.K X.mg RB W f)
def tAnd (f g : TF) : TF := fun ev h => (f ev h).bind fun b h1 => if b then g ev h1 else .ok false h1
def tOr (f g : TF) : TF := fun ev h => (f ev h).bind fun b h1 => if b then .ok true h1 else g ev h1
def tNot (f : TF) : TF := fun ev h => (f ev h).bind fun b h1 => .ok (!b) h1
section
variable {K : PySem.W.Frag} {mg : Str → Option Value} {W : WX} {σ : L2.St} {H : Hp}
theorem Wi.tAnd {f g : TF} {Q : Bool → Hp → Prop} (h : Wi K mg RB W (FL.tAnd f g) σ H Q) : L2.tAnd (Wi K mg RB W f) (Wi K mg RB W g) σ H Q := by
  obtain ⟨m, ah, ev, r, re, q⟩ := Wi.bind (R := RB) h
  refine ⟨m, ah, ev, r, re, ?_⟩
  cases ef : f ev ah with
  | exc c p a => rw [ef] at q; exact q
  | bad => rw [ef] at q; exact q
  | ok b a =>
    rw [ef] at q
    intro m1 H1 b' e1 r1 rb
    obtain ⟨m2, ah2, ev2, b2, r2, re2, rb2, q2⟩ := q m1 H1 b' e1 r1 rb
    cases (show b2 = b' from rb2)
    cases b' with
    | true => exact ⟨m2, ah2, ev2, r2, re2, q2⟩
    | false => exact q2 m2 H1 false .refl r2 rfl
theorem Wi.tOr {f g : TF} {Q : Bool → Hp → Prop} (h : Wi K mg RB W (FL.tOr f g) σ H Q) : L2.tOr (Wi K mg RB W f) (Wi K mg RB W g) σ H Q := by
  obtain ⟨m, ah, ev, r, re, q⟩ := Wi.bind (R := RB) h
  refine ⟨m, ah, ev, r, re, ?_⟩
  cases ef : f ev ah with
  | exc c p a => rw [ef] at q; exact q
  | bad => rw [ef] at q; exact q
  | ok b a =>
    rw [ef] at q
    intro m1 H1 b' e1 r1 rb
    obtain ⟨m2, ah2, ev2, b2, r2, re2, rb2, q2⟩ := q m1 H1 b' e1 r1 rb
    cases (show b2 = b' from rb2)
    cases b' with
    | true => exact q2 m2 H1 true .refl r2 rfl
    | false => exact ⟨m2, ah2, ev2, r2, re2, q2⟩
theorem Wi.tNot {f : TF} {Q : Bool → Hp → Prop} (h : Wi K mg RB W (FL.tNot f) σ H Q) : L2.tNot (Wi K mg RB W f) σ H Q := by
  obtain ⟨m, ah, ev, r, re, q⟩ := Wi.bind (R := RB) h
  refine ⟨m, ah, ev, r, re, ?_⟩
  cases ef : f ev ah with
  | exc c p a => rw [ef] at q; exact q
  | bad => rw [ef] at q; exact q
  | ok b a =>
    rw [ef] at q
    intro m1 H1 b' e1 r1 rb
    obtain ⟨m2, ah2, ev2, b2, r2, re2, rb2, q2⟩ := q m1 H1 b' e1 r1 rb
    cases (show b2 = b' from rb2)
    exact q2 m2 H1 _ .refl r2 rfl
end
section
variable {X : Cx} {W : WX} {a b c e : Expr} {es rest : List Expr} {pos : Pos} {f g t : TF}
theorem mw_and1 (h : MT X W a f) : MW X W (.BoolOp .And [a] pos) f := ⟨pw_and1 h.pt⟩
theorem mw_or1 (h : MT X W a f) : MW X W (.BoolOp .Or [a] pos) f := ⟨pw_or1 h.pt⟩
theorem mw_and (h : MT X W a f) (h2 : MW X W (.BoolOp .And (b :: rest) pos) g) : MW X W (.BoolOp .And (a :: b :: rest) pos) (tAnd f g) := ⟨pw_imp (pw_and h.pt h2.pw) fun _ _ _ q => q.tAnd⟩
theorem mw_or (h : MT X W a f) (h2 : MW X W (.BoolOp .Or (b :: rest) pos) g) : MW X W (.BoolOp .Or (a :: b :: rest) pos) (tOr f g) := ⟨pw_imp (pw_or h.pt h2.pw) fun _ _ _ q => q.tOr⟩
theorem mt_w (h : MW X W e f) : MT X W e f := ⟨h.pw.pt⟩
theorem mt_not (h : MT X W a f) : MT X W (.UnaryOp .Not a pos) (tNot f) := ⟨pt_imp (pt_not h.pt) fun _ _ _ q => q.tNot⟩
/-! ### as values -/
def bOf (v : Va) (k : Bool → Rs Va) : Rs Va := match v with | .bl b => k b | _ => .bad
def eAnd (f g : EF) : EF := fun ev h => (f ev h).bind fun v h1 => bOf v fun b => if b then g ev h1 else .ok (.bl false) h1
def eOr (f g : EF) : EF := fun ev h => (f ev h).bind fun v h1 => bOf v fun b => if b then .ok (.bl true) h1 else g ev h1
def eNot (f : EF) : EF := fun ev h => (f ev h).bind fun v h1 => bOf v fun b => .ok (.bl (!b)) h1
theorem Wi.eAnd {K : PySem.W.Frag} {mg : Str → Option Value} {f g : EF} {σ : L2.St} {H : Hp} {Q : VK} (h : Wi K mg (VR K) W (FL.eAnd f g) σ H Q) : tAndV (Wi K mg (VR K) W f) (Wi K mg (VR K) W g) σ H Q := by
  obtain ⟨m, ah, ev, r, re, q⟩ := Wi.bind (R := VR K) h
  refine ⟨m, ah, ev, r, re, ?_⟩
  cases ef : f ev ah with
  | exc c p a => rw [ef] at q; exact q
  | bad => rw [ef] at q; exact q
  | ok v a =>
    rw [ef] at q
    intro m1 H1 x e1 r1 rx
    obtain ⟨m2, ah2, ev2, v2, r2, re2, rv2, q2⟩ := q m1 H1 x e1 r1 rx
    cases v2 with
    | bl b =>
      refine ⟨b, rv2.bl_inv, ?_⟩
      cases b with
      | true => exact ⟨m2, ah2, ev2, r2, re2, q2⟩
      | false => exact q2 m2 H1 _ .refl r2 (.bl false)
    | _ => exact q2.elim
theorem Wi.eOr {K : PySem.W.Frag} {mg : Str → Option Value} {f g : EF} {σ : L2.St} {H : Hp} {Q : VK} (h : Wi K mg (VR K) W (FL.eOr f g) σ H Q) : tOrV (Wi K mg (VR K) W f) (Wi K mg (VR K) W g) σ H Q := by
  obtain ⟨m, ah, ev, r, re, q⟩ := Wi.bind (R := VR K) h
  refine ⟨m, ah, ev, r, re, ?_⟩
  cases ef : f ev ah with
  | exc c p a => rw [ef] at q; exact q
  | bad => rw [ef] at q; exact q
  | ok v a =>
    rw [ef] at q
    intro m1 H1 x e1 r1 rx
    obtain ⟨m2, ah2, ev2, v2, r2, re2, rv2, q2⟩ := q m1 H1 x e1 r1 rx
    cases v2 with
    | bl b =>
      refine ⟨b, rv2.bl_inv, ?_⟩
      cases b with
      | true => exact q2 m2 H1 _ .refl r2 (.bl true)
      | false => exact ⟨m2, ah2, ev2, r2, re2, q2⟩
    | _ => exact q2.elim
theorem Wi.eNot {K : PySem.W.Frag} {mg : Str → Option Value} {f : EF} {σ : L2.St} {H : Hp} {Q : VK} (h : Wi K mg (VR K) W (FL.eNot f) σ H Q) : tNotV (Wi K mg (VR K) W f) σ H Q := by
  obtain ⟨m, ah, ev, r, re, q⟩ := Wi.bind (R := VR K) h
  refine ⟨m, ah, ev, r, re, ?_⟩
  cases ef : f ev ah with
  | exc c p a => rw [ef] at q; exact q
  | bad => rw [ef] at q; exact q
  | ok v a =>
    rw [ef] at q
    intro m1 H1 x e1 r1 rx
    obtain ⟨m2, ah2, ev2, v2, r2, re2, rv2, q2⟩ := q m1 H1 x e1 r1 rx
    cases v2 with
    | bl b => exact ⟨b, rv2.bl_inv, q2 m2 H1 _ .refl r2 (.bl _)⟩
    | _ => exact q2.elim
variable {fa ga : EF}
theorem me_one {op} (h : ME X W a fa) : ME X W (.BoolOp op [a] pos) fa := ⟨pe_one h.pe⟩
theorem me_and (h : ME X W a fa) (h2 : ME X W (.BoolOp .And (b :: rest) pos) ga) : ME X W (.BoolOp .And (a :: b :: rest) pos) (eAnd fa ga) := ⟨pe_imp (pe_and h.pe h2.pe) fun _ _ _ q => q.eAnd⟩
theorem me_or (h : ME X W a fa) (h2 : ME X W (.BoolOp .Or (b :: rest) pos) ga) : ME X W (.BoolOp .Or (a :: b :: rest) pos) (eOr fa ga) := ⟨pe_imp (pe_or h.pe h2.pe) fun _ _ _ q => q.eOr⟩
theorem me_not (h : ME X W a fa) : ME X W (.UnaryOp .Not a pos) (eNot fa) := ⟨pe_imp (pe_not h.pe) fun _ _ _ q => q.eNot⟩
/-- a if t else b -/
def eIf (t : TF) (f g : EF) : EF := fun ev h => (t ev h).bind fun b h1 => if b then f ev h1 else g ev h1
theorem Wi.eIf {K : PySem.W.Frag} {mg : Str → Option Value} {t : TF} {f g : EF} {σ : L2.St} {H : Hp} {Q : VK} (h : Wi K mg (VR K) W (FL.eIf t f g) σ H Q) : tIf (Wi K mg RB W t) (Wi K mg (VR K) W f) (Wi K mg (VR K) W g) σ H Q := by
  obtain ⟨m, ah, ev, r, re, q⟩ := Wi.bind (R := RB) h
  refine ⟨m, ah, ev, r, re, ?_⟩
  cases ef : t ev ah with
  | exc c p a => rw [ef] at q; exact q
  | bad => rw [ef] at q; exact q
  | ok b a =>
    rw [ef] at q
    intro m1 H1 b' e1 r1 rb
    obtain ⟨m2, ah2, ev2, b2, r2, re2, rb2, q2⟩ := q m1 H1 b' e1 r1 rb
    cases (show b2 = b' from rb2)
    cases b' with
    | true => exact ⟨m2, ah2, ev2, r2, re2, q2⟩
    | false => exact ⟨m2, ah2, ev2, r2, re2, q2⟩
theorem me_if (hc : MT X W c t) (h : ME X W a fa) (h2 : ME X W b ga) : ME X W (.IfExp c a b pos) (eIf t fa ga) := ⟨pe_imp (pe_ifExp hc.pt h.pe h2.pe) fun _ _ _ q => q.eIf⟩
/-! ### arguments, displays -/
def aNil : AF := fun _ h => .ok [] h
def aCons (f : EF) (g : AF) : AF := fun ev h => (f ev h).bind fun v h1 => (g ev h1).bind fun vs h2 => .ok (v :: vs) h2
theorem Wi.aCons {K : PySem.W.Frag} {mg : Str → Option Value} {f : EF} {g : AF} {σ : L2.St} {H : Hp} {Q : List V → Hp → Prop} (h : Wi K mg (VRs K) W (FL.aCons f g) σ H Q) : tCons (Wi K mg (VR K) W f) (Wi K mg (VRs K) W g) σ H Q := by
  obtain ⟨m, ah, ev, r, re, q⟩ := Wi.bind (R := VR K) h
  refine ⟨m, ah, ev, r, re, ?_⟩
  cases ef : f ev ah with
  | exc c p a => rw [ef] at q; exact q
  | bad => rw [ef] at q; exact q
  | ok v a =>
    rw [ef] at q
    intro m1 H1 x e1 r1 rx
    obtain ⟨m2, ah2, ev2, v2, r2, re2, rv2, q2⟩ := q m1 H1 x e1 r1 rx
    refine ⟨m2, ah2, ev2, r2, re2, ?_⟩
    have q3 := Post.bind (R := VRs K) q2
    cases eg : g ev2 ah2 with
    | exc c p a => rw [eg] at q3; exact q3
    | bad => rw [eg] at q3; exact q3
    | ok w b =>
      rw [eg] at q3
      intro m3 H3 y e3 r3 ry
      obtain ⟨m4, ah4, v4, e4, r4, rv4, q4⟩ := q3 m3 H3 y e3 r3 ry
      exact q4 m4 H3 _ .refl r4 (.cons (rv2.ext r2 e4) rv4)
theorem ma_nil : MA X W [] aNil := ⟨pa_imp pa_nil fun σ H Q ⟨m, ah, ev, r, re, q⟩ => q m H _ .refl r .nil⟩
variable {ta : AF}
theorem ma_cons (h : ME X W e fa) (h2 : MA X W es ta) (hs : starEach (e :: es) X.env = (false, eval e X.env) :: starEach es X.env := by rfl) : MA X W (e :: es) (aCons fa ta) := ⟨pa_imp (pa_cons h.pe h2.pa hs) fun _ _ _ q => q.aCons⟩
abbrev OpN := List Va → AH → Option (Va × AH)
def eAp (o : OpN) (g : AF) : EF := fun ev h => (g ev h).bind fun vs h1 => ofO (o vs h1)
/-- an operation on a list of values, its reading -/
def rN (K : PySem.W.Frag) (o : OpN) : List V → Hp → VK → Prop := fun xs H Q => ∃ m ah ps v ah', HR K H m ah ∧ VRs K H m ps xs ∧ o ps ah = some (v, ah') ∧ ∀ m' H' w, Ext m H m' H' → HR K H' m' ah' → VR K H' m' v w → Q w H'
theorem Wi.eAp {K : PySem.W.Frag} {mg : Str → Option Value} {o : OpN} {g : AF} {σ : L2.St} {H : Hp} {Q : VK} (h : Wi K mg (VR K) W (FL.eAp o g) σ H Q) : Wi K mg (VRs K) W g σ H (fun vs H1 => rN K o vs H1 Q) := by
  obtain ⟨m, ah, ev, r, re, q⟩ := Wi.bind (R := VRs K) h
  refine ⟨m, ah, ev, r, re, ?_⟩
  cases ef : g ev ah with
  | exc c p a => rw [ef] at q; exact q
  | bad => rw [ef] at q; exact q
  | ok v a =>
    rw [ef] at q
    intro m1 H1 x e1 r1 rx
    obtain ⟨m2, ah2, ev2, v2, r2, re2, rv2, q2⟩ := q m1 H1 x e1 r1 rx
    cases eo : o v2 ah2 with
    | none => rw [eo] at q2; exact q2.elim
    | some z =>
      obtain ⟨z, ahz⟩ := z
      rw [eo] at q2
      exact ⟨m2, ah2, v2, z, ahz, r2, rv2, eo, q2⟩
def oTup : OpN := fun xs h => if xs.length ≤ lim then some (.tup xs, h) else none
def oLst : OpN := fun xs h => if xs.length ≤ lim then some (.ref h.length, h ++ [.lst xs]) else none
theorem me_tup {k} (h : MA X W es ta) : ME X W (.Tuple es k pos) (eAp oTup ta) := ⟨pe_imp (pe_tup h.pa) fun σ H Q q => by
  obtain ⟨m, ah, ev, r, re, q⟩ := q.eAp
  refine ⟨m, ah, ev, r, re, ?_⟩
  cases ef : ta ev ah with
  | exc c p a => rw [ef] at q; exact q
  | bad => rw [ef] at q; exact q
  | ok v a =>
    rw [ef] at q
    intro m1 H1 x e1 r1 rx
    obtain ⟨m2, ah2, ps, v2, ah3, r2, rv2, eo, q2⟩ := q m1 H1 x e1 r1 rx
    unfold oTup at eo
    split at eo
    · rename_i hz
      cases eo
      refine ⟨by rw [← rv2.length]; exact lim_line hz, fun p hp => ?_⟩
      have e1 : Ext m2 H1 m2 (upd H1 p (.tup x)) := ext_new r2 hp
      exact q2 m2 _ _ e1 (hr_new r2 hp) (.tup (SqT.of upd_same) (rv2.ext r2 e1))
    · cases eo⟩
theorem me_lst (h : MA X W es ta) : ME X W (.List es pos) (eAp oLst ta) := ⟨pe_imp (pe_lst h.pa) fun σ H Q q => by
  obtain ⟨m, ah, ev, r, re, q⟩ := q.eAp
  refine ⟨m, ah, ev, r, re, ?_⟩
  cases ef : ta ev ah with
  | exc c p a => rw [ef] at q; exact q
  | bad => rw [ef] at q; exact q
  | ok v a =>
    rw [ef] at q
    intro m1 H1 x e1 r1 rx
    obtain ⟨m2, ah2, ps, v2, ah3, r2, rv2, eo, q2⟩ := q m1 H1 x e1 r1 rx
    unfold oLst at eo
    split at eo
    · rename_i hz
      cases eo
      refine ⟨by rw [← rv2.length]; exact lim_line hz, fun p hp => ?_⟩
      refine q2 (m2 ++ [p]) _ _ (ext_lay r2 hp) (hr_lay r2 hp rv2) (.ref ?_)
      rw [← r2.len]; simp
    · cases eo⟩
/-! ### built-ins by name -/
theorem me_callB {x : Str} {id : String} {p : Pos} {o : OpN} (hc : CallR X (.builtin id) (rN X.K o)) (hm : X.mg x = none) (hv : bootBuiltins x = some (.builtin id)) (ha : MA X W (e :: es) ta) (hg : Gl X x := by rfl) (hn : x ≠ "__name__" := by decide) (hdb : (x == ("__debug__" : Str)) = false := by decide)
    (he : starEach (e :: es) X.env = (false, eval e X.env) :: starEach es X.env := by rfl) (hpl : (backTo pos (starEach es X.env)).any (·.1) = false := by rfl) : ME X W (.Call (.Name x p) (e :: es) [] pos) (eAp o ta) :=
  ⟨pe_imp (pe_callB hc hg hm hv ha.pa hn hdb he hpl) fun _ _ _ q => q.eAp⟩
theorem me_callT {x : Str} {T : String} {p : Pos} {o : OpN} (hc : CallR X (.type T) (rN X.K o)) (hm : X.mg x = none) (hv : bootBuiltins x = some (.type T)) (ha : MA X W (e :: es) ta) (hg : Gl X x := by rfl) (hn : x ≠ "__name__" := by decide) (hdb : (x == ("__debug__" : Str)) = false := by decide)
    (he : starEach (e :: es) X.env = (false, eval e X.env) :: starEach es X.env := by rfl) (hpl : (backTo pos (starEach es X.env)).any (·.1) = false := by rfl) : ME X W (.Call (.Name x p) (e :: es) [] pos) (eAp o ta) :=
  ⟨pe_imp (pe_callTy hc hg hm hv ha.pa hn hdb he hpl) fun _ _ _ q => q.eAp⟩
end
section
variable {K : PySem.W.Frag} {H : Hp} {m : List Addr} {ah : AH}
/-- the list at a place -/
def lstAt (h : AH) (l : Nat) : Option (List Va) := match h[l]? with
  | some (.lst xs) => some xs
  | _ => none
theorem lstAt_some {h : AH} {l : Nat} {xs : List Va} (e : lstAt h l = some xs) : h[l]? = some (.lst xs) := by
  unfold lstAt at e
  split at e
  · rename_i ys hl
    rw [hl, Option.some.inj e]
  · cases e
/-- the items of a list or a tuple -/
def seqOf (h : AH) : Va → Option (List Va)
  | .tup xs => some xs
  | .rol xs => some xs
  | .ref l => lstAt h l
  | _ => none
theorem seqOf_ok (r : HR K H m ah) {p : Va} {x : V} {xs : List Va} (h : VR K H m p x) (e : seqOf ah p = some xs) : ∃ a vs, x = .ref a ∧ VRs K H m xs vs ∧ (SqL K H a vs ∨ SqT K H a vs) := by
  cases h with
  | tup ht hv => cases e; exact ⟨_, _, rfl, hv, .inr ht⟩
  | rol ht hv => cases e; exact ⟨_, _, rfl, hv, .inl ht.seq⟩
  | ref ha =>
    obtain ⟨vs, g1, hv⟩ := r.lst ha (lstAt_some e)
    exact ⟨_, vs, rfl, hv, .inl (SqL.of g1)⟩
  | _ => cases e
end
section
variable {X : Cx}
def oLen : OpN := fun ps h => match ps with
  | [.str x] => if x.length ≤ lim then some (.int x.length, h) else none
  | [p] => match seqOf h p with
    | some xs => some (.int xs.length, h)
    | none => none
  | _ => none
theorem vrs1 {K : PySem.W.Frag} {H : Hp} {m : List Addr} {p : Va} {xs : List V} (h : VRs K H m [p] xs) : ∃ x, xs = [x] ∧ VR K H m p x := by
  cases h with
  | cons h1 h2 => cases h2; exact ⟨_, rfl, h1⟩
theorem vrs2 {K : PySem.W.Frag} {H : Hp} {m : List Addr} {p q : Va} {xs : List V} (h : VRs K H m [p, q] xs) : ∃ x y, xs = [x, y] ∧ VR K H m p x ∧ VR K H m q y := by
  cases h with
  | cons h1 h2 =>
    obtain ⟨y, rfl, h3⟩ := vrs1 h2
    exact ⟨_, _, rfl, h1, h3⟩
theorem call_oLen : CallR X (.builtin "len") (rN X.K oLen) := by
  refine CallR.imp call_len fun xs H Q ⟨m, ah, ps, v, ah', r, rp, e, k⟩ => ?_
  unfold oLen at e
  split at e
  · split at e
    · rename_i x hz
      cases e
      obtain ⟨x, rfl, h1⟩ := vrs1 rp
      cases h1
      exact ⟨_, _, rfl, ⟨lim_line hz, rfl⟩, k m H _ .refl r (.int _)⟩
    · cases e
  · rename_i p _
    obtain ⟨x, rfl, h1⟩ := vrs1 rp
    cases hs : seqOf ah p with
    | none => rw [hs] at e; cases e
    | some ys =>
      rw [hs] at e
      cases e
      obtain ⟨a, vs, rfl, hv, hq⟩ := seqOf_ok r h1 hs
      refine ⟨_, ys.length, rfl, ?_, k m H _ .refl r (.int _)⟩
      rcases hq with hq | hq
      · exact .inl ⟨vs, hq, hv.length⟩
      · exact .inr ⟨vs, hq, hv.length⟩
  · cases e
def oAbs : OpN := fun ps h => match ps with
  | [.int i] => some (.int (if i < 0 then -i else i), h)
  | _ => none
theorem call_oAbs : CallR X (.builtin "abs") (rN X.K oAbs) := by
  refine CallR.imp call_abs fun xs H Q ⟨m, ah, ps, v, ah', r, rp, e, k⟩ => ?_
  unfold oAbs at e
  split at e
  · cases e
    obtain ⟨x, rfl, h1⟩ := vrs1 rp
    cases h1
    exact ⟨_, rfl, k m H _ .refl r (.int _)⟩
  · cases e
def oInt : OpN := fun ps h => match ps with
  | [.int i] => some (.int i, h)
  | [.bl b] => some (.int (if b then 1 else 0), h)
  | _ => none
theorem call_oInt : CallR X (.type "int") (rN X.K oInt) := by
  refine CallR.imp call_int1 fun xs H Q ⟨m, ah, ps, v, ah', r, rp, e, k⟩ => ?_
  unfold oInt at e
  split at e
  · cases e
    obtain ⟨x, rfl, h1⟩ := vrs1 rp
    cases h1
    exact .inl ⟨_, rfl, k m H _ .refl r (.int _)⟩
  · cases e
    obtain ⟨x, rfl, h1⟩ := vrs1 rp
    cases h1
    exact .inr ⟨_, rfl, k m H _ .refl r (.int _)⟩
  · cases e
/-- an empty dict's text -/
def isDct0 (h : AH) : Va → Bool
  | .ref l => match h[l]? with
    | some (.dct []) => true
    | _ => false
  | _ => false
def oReprN : OpN := fun ps h => match ps with
  | [p] => if isDct0 h p then some (.str "{}", h) else match oRepr p h with
    | some r => some r
    | none => oReprE p h
  | _ => none
/-- repr of a written dict without entries -/
def rDct0 : List V → Hp → VK → Prop := fun xs H Q => ∃ a, xs = [.ref a] ∧ H a = some (.dK []) ∧ Q (.str "{}") H
theorem call_dct0 (hun : X.A.units + 200 < cLine) (hg : X.A.guards = some []) : CallR X (.builtin "repr") rDct0 := by
  rintro pins s σ H xs us Q I rx ⟨a, rfl, ha, q⟩
  obtain ⟨u, rfl, ru⟩ := vals1 rx
  obtain rfl : u = Value.ref a := ru
  obtain ⟨_, hne, vs, hv, hd⟩ := L2.dk_of I.hok ha
  cases vs with
  | cons _ _ => cases hv
  | nil =>
  obtain ⟨o, es, ep, ho, hx, hdat, _, hp, _⟩ := hd
  have hc : o.cls = .type "dict" := hx.1
  have hes : es.toList = [] := List.eq_nil_of_length_eq_zero hp.length
  have rd : Reads s.heap (.ref a) (.dict []) (a :: [] ++ []) := .dict ho hc hdat (by rw [hes]; exact .nil) (by rw [hes]; exact .nil)
  refine repr_of_reads' rd rfl (fun _ hm => ?_) hg (by show _ + (_ + 1) < _; have : (PyData.dict []).depth ≤ 3 := by decide
                                                       omega) (fun _ _ e => e) (fun h' u tk hk => ⟨.str "{}", H, I.kept hk, ⟨u, rfl⟩, q⟩) (by decide +kernel)
  simp at hm
  rw [hm] at hne
  simp at hne
theorem call_oReprNU (hun : X.A.units + 200 < cLine) (hg : X.A.guards = some []) : CallR X (.builtin "repr") (rN X.K oReprN) := by
  refine CallR.imp ((call_oReprU hun hg).or ((call_dct0 hun hg).or (call_oReprE hun hg))) fun xs H Q ⟨m, ah, ps, v, ah', r, rp, e, k⟩ => ?_
  unfold oReprN at e
  split at e
  · rename_i p
    obtain ⟨x, rfl, h1⟩ := vrs1 rp
    split at e
    · rename_i hz
      cases e
      unfold isDct0 at hz
      split at hz
      · split at hz
        · rename_i l hl
          cases h1 with
          | ref h1 =>
            obtain ⟨ps, g1, g2⟩ := r.at_ _ _ _ h1 hl
            refine .inr (.inl ⟨_, rfl, ?_, k m H _ .refl r (.str _)⟩)
            rw [g1]
            cases ps with
            | nil => rfl
            | cons _ _ => cases g2
        · cases hz
      · cases hz
    · split at e
      · rename_i z hz
        cases e
        exact .inl ⟨x, m, ah, _, v, ah', rfl, r, h1, hz, k⟩
      · exact .inr (.inr ⟨x, m, ah, _, v, ah', rfl, r, h1, e, k⟩)
  · cases e
theorem call_oReprN {k : Nat} (hr : Room k X.A) (hg : X.A.guards = some []) : CallR X (.builtin "repr") (rN X.K oReprN) := call_oReprNU (by have := hr.un; omega) hg
def allB : List Va → Option (List Bool)
  | [] => some []
  | .bl b :: xs => (allB xs).map (b :: ·)
  | _ => none
def allI : List Va → Option (List Int)
  | [] => some []
  | .int i :: xs => (allI xs).map (i :: ·)
  | _ => none
theorem allB_ok {K : PySem.W.Frag} {H : Hp} {m : List Addr} : ∀ {xs : List Va} {bs : List Bool} {vs : List V}, allB xs = some bs → VRs K H m xs vs → vs = bs.map V.bl
  | [], bs, vs, e, h => by cases e; cases h; rfl
  | .bl b :: xs, bs, vs, e, h => by
    cases h with
    | cons h1 h2 =>
      unfold allB at e
      cases q : allB xs with
      | none => rw [q] at e; cases e
      | some cs =>
        rw [q] at e
        cases e
        rw [h1.bl_inv, allB_ok q h2]
        rfl
  | .non :: _, _, _, e, _ | .int _ :: _, _, _, e, _ | .str _ :: _, _, _, e, _ | .tup _ :: _, _, _, e, _ | .tud _ :: _, _, _, e, _ | .ref _ :: _, _, _, e, _ | .rol _ :: _, _, _, e, _ | .dv _ :: _, _, _, e, _ | .exo _ :: _, _, _, e, _ | .exn _ _ _ _ :: _, _, _, e, _ | .rp _ :: _, _, _, e, _ => by unfold allB at e; cases e
theorem allI_ok {K : PySem.W.Frag} {H : Hp} {m : List Addr} : ∀ {xs : List Va} {bs : List Int} {vs : List V}, allI xs = some bs → VRs K H m xs vs → vs = bs.map V.int
  | [], bs, vs, e, h => by cases e; cases h; rfl
  | .int b :: xs, bs, vs, e, h => by
    cases h with
    | cons h1 h2 =>
      unfold allI at e
      cases q : allI xs with
      | none => rw [q] at e; cases e
      | some cs =>
        rw [q] at e
        cases e
        rw [h1.int_inv, allI_ok q h2]
        rfl
  | .non :: _, _, _, e, _ | .bl _ :: _, _, _, e, _ | .str _ :: _, _, _, e, _ | .tup _ :: _, _, _, e, _ | .tud _ :: _, _, _, e, _ | .ref _ :: _, _, _, e, _ | .rol _ :: _, _, _, e, _ | .dv _ :: _, _, _, e, _ | .exo _ :: _, _, _, e, _ | .exn _ _ _ _ :: _, _, _, e, _ | .rp _ :: _, _, _, e, _ => by unfold allI at e; cases e
/-- the items of a list (not a tuple) -/
def lstOf (h : AH) : Va → Option (List Va)
  | .rol xs => some xs
  | .ref l => lstAt h l
  | _ => none
theorem lstOf_ok {K : PySem.W.Frag} {H : Hp} {m : List Addr} {ah : AH} (r : HR K H m ah) {p : Va} {x : V} {xs : List Va} (h : VR K H m p x) (e : lstOf ah p = some xs) : ∃ a vs, x = .ref a ∧ VRs K H m xs vs ∧ SqL K H a vs := by
  cases h with
  | rol ht hv => cases e; exact ⟨_, _, rfl, hv, ht.seq⟩
  | ref ha =>
    obtain ⟨vs, g1, hv⟩ := r.lst ha (lstAt_some e)
    exact ⟨_, vs, rfl, hv, SqL.of g1⟩
  | _ => cases e
def oAll : OpN := fun ps h => match ps with
  | [p] => match (lstOf h p).bind allB with
    | some bs => some (.bl (bs.all id), h)
    | none => none
  | _ => none
def oAny : OpN := fun ps h => match ps with
  | [p] => match (lstOf h p).bind allB with
    | some bs => some (.bl (bs.any id), h)
    | none => none
  | _ => none
def oSum : OpN := fun ps h => match ps with
  | [p] => match (lstOf h p).bind allI with
    | some bs => some (.int bs.sum, h)
    | none => none
  | _ => none
theorem call_oAll (hc : X.calm = true) : CallR X (.builtin "all") (rN X.K oAll) := by
  refine CallR.imp (cr_all hc) fun xs H Q ⟨m, ah, ps, v, ah', r, rp, e, k⟩ => ?_
  unfold oAll at e
  split at e
  · rename_i p
    obtain ⟨x, rfl, h1⟩ := vrs1 rp
    cases hs : lstOf ah p with
    | none => rw [hs] at e; cases e
    | some ys =>
      rw [hs] at e
      cases hb : allB ys with
      | none => rw [Option.bind_some, hb] at e; cases e
      | some bs =>
        rw [Option.bind_some, hb] at e
        cases e
        obtain ⟨a, vs, rfl, hv, hq⟩ := lstOf_ok r h1 hs
        rw [allB_ok hb hv] at hq
        exact ⟨a, bs, rfl, hq, k m H _ .refl r (.bl _)⟩
  · cases e
theorem call_oAny (hc : X.calm = true) : CallR X (.builtin "any") (rN X.K oAny) := by
  refine CallR.imp (cr_any hc) fun xs H Q ⟨m, ah, ps, v, ah', r, rp, e, k⟩ => ?_
  unfold oAny at e
  split at e
  · rename_i p
    obtain ⟨x, rfl, h1⟩ := vrs1 rp
    cases hs : lstOf ah p with
    | none => rw [hs] at e; cases e
    | some ys =>
      rw [hs] at e
      cases hb : allB ys with
      | none => rw [Option.bind_some, hb] at e; cases e
      | some bs =>
        rw [Option.bind_some, hb] at e
        cases e
        obtain ⟨a, vs, rfl, hv, hq⟩ := lstOf_ok r h1 hs
        rw [allB_ok hb hv] at hq
        exact ⟨a, bs, rfl, hq, k m H _ .refl r (.bl _)⟩
  · cases e
/-- list(x), tuple(x) of a list or a tuple -/
def oList : OpN := fun ps h => match ps with
  | [p] => match seqOf h p with
    | some xs => some (.ref h.length, h ++ [.lst xs])
    | none => none
  | _ => none
def oTuple : OpN := fun ps h => match ps with
  | [p] => match seqOf h p with
    | some xs => some (.tup xs, h)
    | none => none
  | _ => none
theorem call_oList : CallR X (.type "list") (rN X.K oList) := by
  refine CallR.imp call_list_of fun xs H Q ⟨m, ah, ps, v, ah', r, rp, e, k⟩ => ?_
  unfold oList at e
  split at e
  · rename_i p
    obtain ⟨x, rfl, h1⟩ := vrs1 rp
    cases hs : seqOf ah p with
    | none => rw [hs] at e; cases e
    | some ys =>
      rw [hs] at e
      cases e
      obtain ⟨a, vs, rfl, hv, hq⟩ := seqOf_ok r h1 hs
      refine ⟨a, vs, rfl, hq, fun p hp => k (m ++ [p]) _ _ (ext_lay r hp) (hr_lay r hp hv) (.ref ?_)⟩
      rw [← r.len]; simp
  · cases e
theorem call_oTuple : CallR X (.type "tuple") (rN X.K oTuple) := by
  refine CallR.imp call_tuple_of fun xs H Q ⟨m, ah, ps, v, ah', r, rp, e, k⟩ => ?_
  unfold oTuple at e
  split at e
  · rename_i p
    obtain ⟨x, rfl, h1⟩ := vrs1 rp
    cases hs : seqOf ah p with
    | none => rw [hs] at e; cases e
    | some ys =>
      rw [hs] at e
      cases e
      obtain ⟨a, vs, rfl, hv, hq⟩ := seqOf_ok r h1 hs
      rcases hq with hq | hq
      · refine ⟨a, vs, rfl, .inl ⟨hq, fun p hp => ?_⟩⟩
        have e1 : Ext m H m (upd H p (.tup vs)) := ext_new r hp
        exact k m _ _ e1 (hr_new r hp) (.tup (SqT.of upd_same) (hv.ext r e1))
      · exact ⟨a, vs, rfl, .inr ⟨hq, k m H _ .refl r (.tup hq hv)⟩⟩
  · cases e
/-- max, min -/
def oMax : OpN := fun ps h => match ps with
  | [.int i, .int j] => some (.int (if j > i then j else i), h)
  | [p] => match (lstOf h p).bind allI with
    | some (b :: bs) => some (.int (bs.foldl max b), h)
    | _ => none
  | _ => none
def oMin : OpN := fun ps h => match ps with
  | [.int i, .int j] => some (.int (if j < i then j else i), h)
  | [p] => match (lstOf h p).bind allI with
    | some (b :: bs) => some (.int (bs.foldl min b), h)
    | _ => none
  | _ => none
theorem foldl_max (l : List Int) : ∀ b : Int, (∀ y ∈ b :: l, y ≤ l.foldl max b) ∧ l.foldl max b ∈ b :: l := by
  induction l with
  | nil => intro b; simp
  | cons a l ih =>
    intro b
    obtain ⟨h1, h2⟩ := ih (max b a)
    refine ⟨fun y hy => ?_, ?_⟩
    · have hm := h1 (max b a) List.mem_cons_self
      show y ≤ l.foldl max (max b a)
      rcases List.mem_cons.mp hy with rfl | hy
      · omega
      · rcases List.mem_cons.mp hy with rfl | hy
        · omega
        · exact h1 y (List.mem_cons_of_mem _ hy)
    · show l.foldl max (max b a) ∈ _
      rcases List.mem_cons.mp h2 with h | h
      · rw [h]
        by_cases hba : b ≤ a
        · rw [Int.max_eq_right hba]; simp
        · rw [Int.max_eq_left (by omega)]; simp
      · exact List.mem_cons_of_mem _ (List.mem_cons_of_mem _ h)
theorem foldl_min (l : List Int) : ∀ b : Int, (∀ y ∈ b :: l, l.foldl min b ≤ y) ∧ l.foldl min b ∈ b :: l := by
  induction l with
  | nil => intro b; simp
  | cons a l ih =>
    intro b
    obtain ⟨h1, h2⟩ := ih (min b a)
    refine ⟨fun y hy => ?_, ?_⟩
    · have hm := h1 (min b a) List.mem_cons_self
      show l.foldl min (min b a) ≤ y
      rcases List.mem_cons.mp hy with rfl | hy
      · omega
      · rcases List.mem_cons.mp hy with rfl | hy
        · omega
        · exact h1 y (List.mem_cons_of_mem _ hy)
    · show l.foldl min (min b a) ∈ _
      rcases List.mem_cons.mp h2 with h | h
      · rw [h]
        by_cases hba : b ≤ a
        · rw [Int.min_eq_left hba]; simp
        · rw [Int.min_eq_right (by omega)]; simp
      · exact List.mem_cons_of_mem _ (List.mem_cons_of_mem _ h)
theorem call_oMax (hc : X.calm = true) : CallR X (.builtin "max") (rN X.K oMax) := by
  refine CallR.imp (CallR.or (call_max2 hc) (cr_max hc)) fun xs H Q ⟨m, ah, ps, v, ah', r, rp, e, k⟩ => ?_
  unfold oMax at e
  split at e
  · cases e
    obtain ⟨x, y, rfl, h1, h2⟩ := vrs2 rp
    cases h1; cases h2
    exact .inl ⟨_, _, rfl, k m H _ .refl r (.int _)⟩
  · rename_i p
    obtain ⟨x, rfl, h1⟩ := vrs1 rp
    split at e
    · rename_i b bs hb
      cases e
      cases hs : lstOf ah p with
      | none => rw [hs] at hb; cases hb
      | some ys =>
        rw [hs, Option.bind_some] at hb
        obtain ⟨a, vs, rfl, hv, hq⟩ := lstOf_ok r h1 hs
        rw [allI_ok hb hv] at hq
        refine .inr ⟨a, b :: bs, rfl, hq, by simp, fun z hz hle => ?_⟩
        obtain ⟨g1, g2⟩ := foldl_max bs b
        have : z = bs.foldl max b := by
          have := g1 z hz
          have := hle _ g2
          omega
        rw [this]
        exact k m H _ .refl r (.int _)
    · cases e
  · cases e
theorem call_oMin (hc : X.calm = true) : CallR X (.builtin "min") (rN X.K oMin) := by
  refine CallR.imp (CallR.or (call_min2 hc) (cr_min hc)) fun xs H Q ⟨m, ah, ps, v, ah', r, rp, e, k⟩ => ?_
  unfold oMin at e
  split at e
  · cases e
    obtain ⟨x, y, rfl, h1, h2⟩ := vrs2 rp
    cases h1; cases h2
    exact .inl ⟨_, _, rfl, k m H _ .refl r (.int _)⟩
  · rename_i p
    obtain ⟨x, rfl, h1⟩ := vrs1 rp
    split at e
    · rename_i b bs hb
      cases e
      cases hs : lstOf ah p with
      | none => rw [hs] at hb; cases hb
      | some ys =>
        rw [hs, Option.bind_some] at hb
        obtain ⟨a, vs, rfl, hv, hq⟩ := lstOf_ok r h1 hs
        rw [allI_ok hb hv] at hq
        refine .inr ⟨a, b :: bs, rfl, hq, by simp, fun z hz hle => ?_⟩
        obtain ⟨g1, g2⟩ := foldl_min bs b
        have : z = bs.foldl min b := by
          have := g1 z hz
          have := hle _ g2
          omega
        rw [this]
        exact k m H _ .refl r (.int _)
    · cases e
  · cases e
end
end FL

set_option Elab.async false
set_option linter.all false
set_option maxRecDepth 100000
/-! FL6: subscripts, slices, isinstance, chains, negative numbers, powers. -/
namespace FL
open PySem PySem.Spec PyProof.Rows L2
variable [Tabz]
section
variable {K : PySem.W.Frag} {H : Hp} {m : List Addr} {ah : AH}
theorem VRs.atI {xs : List Va} {vs : List V} {i : Int} {x : Va} (h : VRs K H m xs vs) (e : L2.atI xs i = some x) : ∃ v, L2.atI vs i = some v ∧ VR K H m x v := by
  unfold L2.atI at e ⊢
  rw [← h.length]
  cases q : ixN xs.length i with
  | none => rw [q] at e; cases e
  | some j =>
    rw [q] at e
    exact h.get e
end
def oIx : Op2 := fun p q h => match q with
  | .int i => match p with
    | .str x => if x.length ≤ lim then (atI x.cps.toList i).map fun c => (.str ⟨#[c]⟩, h) else none
    | p => match seqOf h p with
      | some xs => (atI xs i).map fun v => (v, h)
      | none => none
  | _ => none
def cutA (xs : List Va) (lo hi : Option Int) : List Va := (xs.drop (HT.sIx xs.length 0 lo)).take (HT.sIx xs.length xs.length hi - HT.sIx xs.length 0 lo)
theorem VRs.cut {K : PySem.W.Frag} {H : Hp} {m : List Addr} {xs : List Va} {vs : List V} (h : VRs K H m xs vs) (lo hi : Option Int) : VRs K H m (cutA xs lo hi) (cutV vs lo hi) := by
  unfold cutA cutV
  rw [h.length]
  exact (h.drop _).take _
theorem cut_whole {vs : List V} {lo hi : Option Int} (h : HT.sIx vs.length 0 lo = 0 ∧ HT.sIx vs.length vs.length hi = vs.length) : cutV vs lo hi = vs := by
  unfold cutV
  rw [h.1, h.2]
  simp
/-- a part of a sequence -/
def oSl (p : Va) (lo hi : Option Int) (h : AH) : Option (Va × AH) := match p with
  | .str x => if x.length ≤ lim then some (.str (cutS x lo hi), h) else none
  | .tup xs => some (.tup (cutA xs lo hi), h)
  | p => match lstOf h p with
    | some xs => some (.ref h.length, h ++ [.lst (cutA xs lo hi)])
    | none => none
section
variable {X : Cx} {W : WX} {a b : Expr} {f g : EF} {pos : Pos}
theorem ix_o : IxR X (rO X.K oIx) := by
  have base : IxR X (rIx X.K) := ix_seq
  refine fun value slice pins s σ H x y v u Q I rx ry h hs => base value slice pins s σ H x y v u Q I rx ry ?_ hs
  obtain ⟨m, ah, p, q, z, ah', r, rp, rq, e, k⟩ := h
  unfold oIx at e
  split at e
  · rename_i i
    have ei := rq.int_inv
    split at e
    · rename_i x'
      split at e
      · rename_i hz
        cases q : atI x'.cps.toList i with
        | none => rw [q] at e; cases e
        | some c =>
          rw [q] at e
          cases e
          exact .inr (.inr ⟨_, _, c, rp.str_inv, ei, lim_line hz, q, k m H _ .refl r (.str _)⟩)
      · cases e
    · cases hq : seqOf ah p with
      | none => rw [hq] at e; cases e
      | some xs =>
        rw [hq] at e
        cases q : atI xs i with
        | none => simp only [q] at e; cases e
        | some w =>
          simp only [q] at e
          cases e
          obtain ⟨a, vs, rfl, hv, hsq⟩ := seqOf_ok r rp hq
          obtain ⟨w', h1, h2⟩ := hv.atI q
          rcases hsq with hsq | hsq
          · exact .inl ⟨a, vs, i, w', rfl, ei, hsq, h1, k m H _ .refl r h2⟩
          · exact .inr (.inl ⟨a, vs, i, w', rfl, ei, hsq, h1, k m H _ .refl r h2⟩)
  · cases e
theorem me_ix (ha : ME X W a f) (hb : ME X W b g) (hs : PlainIx b := by exact fun _ _ => rfl) : ME X W (.Subscript a b pos) (eOp oIx f g) := ⟨pe_imp (pe_ix ix_o ha.pe hb.pe hs) fun _ _ _ h => h.op⟩
/-! ### slices -/
structure MO (X : Cx) (W : WX) (e : Option Expr) (f : Ev → AH → Rs (Option Int)) : Prop where
  po : PO X e (Wi X.K X.mg (fun _ _ a b => a = b) W f)
theorem po_imp {o : Option Expr} {t t' : TO} (h : PO X o t) (i : ∀ σ H Q, t' σ H Q → t σ H Q) : PO X o t' := ⟨fun pins s σ H Q I q => h.run pins s σ H Q I (i σ H Q q)⟩
def lNone : Ev → AH → Rs (Option Int) := fun _ h => .ok none h
def lSome (f : EF) : Ev → AH → Rs (Option Int) := fun ev h => (f ev h).bind fun v h1 => match v with | .int i => .ok (some i) h1 | _ => .bad
theorem mo_none : MO X W none lNone := ⟨po_imp po_none fun σ H Q ⟨m, ah, ev, r, re, q⟩ => q m H none .refl r rfl⟩
theorem mo_some (h : ME X W a f) : MO X W (some a) (lSome f) := ⟨po_imp (po_some h.pe) fun σ H Q q => by
  obtain ⟨m, ah, ev, r, re, q⟩ := Wi.bind (R := VR X.K) q
  refine ⟨m, ah, ev, r, re, ?_⟩
  cases ef : f ev ah with
  | exc c p a => rw [ef] at q; exact q
  | bad => rw [ef] at q; exact q
  | ok v a =>
    rw [ef] at q
    intro m1 H1 x e1 r1 rx
    obtain ⟨m2, ah2, ev2, v2, r2, re2, rv2, q2⟩ := q m1 H1 x e1 r1 rx
    cases v2 with
    | int i => exact ⟨i, rv2.int_inv, q2 m2 H1 (some i) .refl r2 rfl⟩
    | _ => exact q2.elim⟩
def rSl (K : PySem.W.Frag) : V → Option Int → Option Int → Hp → VK → Prop := fun x lo hi H Q => ∃ m ah p v ah', HR K H m ah ∧ VR K H m p x ∧ oSl p lo hi ah = some (v, ah') ∧ ∀ m' H' w, Ext m H m' H' → HR K H' m' ah' → VR K H' m' v w → Q w H'
theorem sl_o : SlR X (rSl X.K) := by
  have base := SlR.or (X := X) sl_tupA (SlR.or sl_str sl_list)
  refine fun pins s σ H x v vl vu lo hi sl Q I rx hs pl pu h => base pins s σ H x v vl vu lo hi sl Q I rx hs pl pu ?_
  obtain ⟨m, ah, p, z, ah', r, rp, e, k⟩ := h
  unfold oSl at e
  split at e
  · split at e
    · rename_i hz
      cases e
      exact .inr (.inl ⟨_, rp.str_inv, lim_line hz, k m H _ .refl r (.str _)⟩)
    · cases e
  · cases e
    cases rp with
    | @tup _ a vs ha hv =>
      refine .inl ⟨a, vs, rfl, ha, fun hw => ?_, fun hw p hp => ?_⟩
      · refine k m H _ .refl r (.tup ha ?_)
        have := hv.cut lo hi
        rw [cut_whole hw] at this
        exact this
      · have e1 : Ext m H m (upd H p (.tup (cutV vs lo hi))) := ext_new r hp
        exact k m _ _ e1 (hr_new r hp) (.tup (SqT.of upd_same) ((hv.cut lo hi).ext r e1))
  · cases hq : lstOf ah p with
    | none => rw [hq] at e; cases e
    | some xs =>
      rw [hq] at e
      cases e
      obtain ⟨a, vs, rfl, hv, hsq⟩ := lstOf_ok r rp hq
      refine .inr (.inr ⟨a, vs, rfl, hsq, fun p hp => k (m ++ [p]) _ _ (ext_lay r hp) (hr_lay r hp (hv.cut lo hi)) (.ref ?_)⟩)
      rw [← r.len]; simp
def eSl (f : EF) (lo hi : Ev → AH → Rs (Option Int)) : EF := fun ev h => (f ev h).bind fun v h1 => (lo ev h1).bind fun l h2 => (hi ev h2).bind fun u h3 => ofO (oSl v l u h3)
theorem me_sl {lo hi : Option Expr} {fl fh : Ev → AH → Rs (Option Int)} {p2 : Pos} (ha : ME X W a f) (hl : MO X W lo fl) (hh : MO X W hi fh) : ME X W (.Subscript a (.Slice lo hi none p2) pos) (eSl f fl fh) := ⟨pe_imp (pe_slice sl_o ha.pe hl.po hh.po) fun σ H Q q => by
  obtain ⟨m, ah, ev, r, re, q⟩ := Wi.bind (R := VR X.K) q
  refine ⟨m, ah, ev, r, re, ?_⟩
  cases ef : f ev ah with
  | exc c p a => rw [ef] at q; exact q
  | bad => rw [ef] at q; exact q
  | ok v a =>
    rw [ef] at q
    intro m1 H1 x e1 r1 rx
    obtain ⟨m2, ah2, ev2, v2, r2, re2, rv2, q2⟩ := q m1 H1 x e1 r1 rx
    refine ⟨m2, ah2, ev2, r2, re2, ?_⟩
    have q3 := Post.bind (R := fun _ _ (a b : Option Int) => a = b) q2
    cases el : fl ev2 ah2 with
    | exc c p a => rw [el] at q3; exact q3
    | bad => rw [el] at q3; exact q3
    | ok l b =>
      rw [el] at q3
      intro m3 H3 y e3 r3 ry
      obtain ⟨m4, ah4, l4, e4, r4, rl4, q4⟩ := q3 m3 H3 y e3 r3 ry
      refine ⟨m4, ah4, ev2, r4, re2.ext r2 e4, ?_⟩
      have q5 := Post.bind (R := fun _ _ (a b : Option Int) => a = b) q4
      cases eh : fh ev2 ah4 with
      | exc c p a => rw [eh] at q5; exact q5
      | bad => rw [eh] at q5; exact q5
      | ok u c =>
        rw [eh] at q5
        intro m5 H5 z e5 r5 rz
        obtain ⟨m6, ah6, u6, e6, r6, ru6, q6⟩ := q5 m5 H5 z e5 r5 rz
        subst rl4 ru6
        cases eo : oSl v2 l4 u6 ah6 with
        | none => rw [eo] at q6; exact q6.elim
        | some w =>
          obtain ⟨w, ahw⟩ := w
          rw [eo] at q6
          exact ⟨m6, ah6, v2, w, ahw, r6, (rv2.ext r2 e4).ext r4 e6, eo, q6⟩⟩
/-! ### isinstance -/
def tyName : AH → Va → Option String
  | _, .non => some "NoneType"
  | _, .bl _ => some "bool"
  | _, .int _ => some "int"
  | _, .str _ => some "str"
  | _, .rp _ => some "str"
  | _, .tup _ => some "tuple"
  | _, .rol _ => some "list"
  | _, .dv _ => none
  | _, .exo _ => none
  | _, .exn _ _ _ _ => none
  | _, .tud _ => some "tuple"
  | h, .ref l => match h[l]? with
    | some (.lst _) => some "list"
    | some (.dct _) => some "dict"
    | some (.dtl _) => none
    | some (.ins _ _) => none
    | none => none
theorem tyName_ok {K : PySem.W.Frag} {H : Hp} {m : List Addr} {ah : AH} (r : HR K H m ah) {p : Va} {x : V} {t : String} (h : VR K H m p x) (e : tyName ah p = some t) : TyX K H x (.type t) := by
  cases h with
  | non => cases e; exact .base .non
  | bl b => cases e; exact .base (.bl b)
  | int b => cases e; exact .base (.int b)
  | str b => cases e; exact .base (.str b)
  | rp b => cases e; exact .base (.str _)
  | tup ht hv =>
    cases e
    rcases ht with (ht | ⟨o, ht⟩) | ⟨o, its, n, h1, h2, _⟩
    · exact .base (.tup ht)
    · exact .fTuple ht
    · exact .kTuple h1 h2
  | rol ht hv =>
    cases e
    rcases ht with ⟨o, ht⟩ | ⟨o, its, n, h1, h2, _⟩
    · exact .base (.frz ht)
    · exact .kList h1 h2
  | dv hd => cases e
  | exo _ => cases e
  | exn _ _ => cases e
  | tud ht hv =>
    cases e
    obtain ⟨o, ht, _⟩ := ht
    exact .fTuple ht
  | @ref l a ha =>
    cases q : ah[l]? with
    | none => simp only [tyName, q] at e; cases e
    | some o =>
      cases o with
      | lst xs =>
        simp only [tyName, q] at e; cases e
        obtain ⟨vs, g1, _⟩ := r.at_ _ _ _ ha q
        exact .base (.lst g1)
      | dct xs =>
        simp only [tyName, q] at e; cases e
        obtain ⟨vs, g1, _⟩ := r.at_ _ _ _ ha q
        exact .base (.dK g1)
      | dtl xs => simp only [tyName, q] at e; cases e
      | ins c fs => simp only [tyName, q] at e; cases e
def isiT (t T : String) : Bool := t == T || (t == "bool" && T == "int")
def tyNames : List String := ["NoneType", "bool", "int", "str", "tuple", "list", "dict"]
theorem tyName_mem {ah : AH} {p : Va} {t : String} (e : tyName ah p = some t) : t ∈ tyNames := by
  unfold tyName at e
  split at e <;> first | (cases e; decide) | (cases e; done) | (split at e <;> first | (cases e; decide) | cases e)
def eIsi (T : String) (f : EF) : EF := fun ev h => (f ev h).bind fun v h1 => match tyName h1 v with
  | some t => .ok (.bl (isiT t T)) h1
  | none => .bad
theorem isi_kit {K : PySem.W.Frag} {T : String} (hT : (tyNames.all fun t => decide (kitB t T = some (isiT t T))) = true) {t : String} (h : t ∈ tyNames) : PySem.W.kitOne K (.type t) (.type T) = some (isiT t T) :=
  kit_ty (of_decide_eq_true (List.all_eq_true.mp hT t h))
theorem me_isi {x : Str} {T : String} {p p2 : Pos} (hm : X.mg "isinstance" = none) (hm2 : X.mg x = none) (hv2 : bootBuiltins x = some (.type T)) (hT : (tyNames.all fun t => decide (kitB t T = some (isiT t T))) = true) (ha : ME X W a f)
    (hg : Gl X "isinstance" := by rfl) (hg2 : Gl X x := by rfl) (hn : x ≠ "__name__" := by decide) (hdb : (x == ("__debug__" : Str)) = false := by decide)
    (hv : bootBuiltins "isinstance" = some (.builtin "isinstance") := by decide +kernel)
    (he : starEach (a :: [.Name x p2]) X.env = (false, eval a X.env) :: starEach [.Name x p2] X.env := by rfl) (he2 : starEach [.Name x p2] X.env = (false, eval (.Name x p2) X.env) :: starEach [] X.env := by rfl) (hpl : (backTo pos (starEach [.Name x p2] X.env)).any (·.1) = false := by rfl) :
    ME X W (.Call (.Name "isinstance" p) [a, .Name x p2] [] pos) (eIsi T f) := ⟨pe_imp (pe_callB call_isi hg hm hv (pa_cons ha.pe (pa_cons (pe_bltn (v := .ty T) hg2 hm2 hv2 rfl hn hdb) pa_nil he2) he) (by decide) (by decide) he hpl) fun σ H Q q => by
  obtain ⟨m, ah, ev, r, re, q⟩ := Wi.bind (R := VR X.K) q
  refine ⟨m, ah, ev, r, re, ?_⟩
  cases ef : f ev ah with
  | exc c p a => rw [ef] at q; exact q
  | bad => rw [ef] at q; exact q
  | ok v a =>
    rw [ef] at q
    intro m1 H1 x e1 r1 rx
    obtain ⟨m2, ah2, ev2, v2, r2, re2, rv2, q2⟩ := q m1 H1 x e1 r1 rx
    cases et : tyName ah2 v2 with
    | none => simp only [et] at q2; exact q2.elim
    | some t =>
      simp only [et] at q2
      exact ⟨x, .ty T, .type t, .type T, isiT t T, rfl, .ty T, tyName_ok r2 rv2 et, isi_kit hT (tyName_mem et), q2 m2 H1 _ .refl r2 (.bl _)⟩⟩
theorem isi_int : (tyNames.all fun t => decide (kitB t "int" = some (isiT t "int"))) = true := by decide +kernel
theorem isi_bool : (tyNames.all fun t => decide (kitB t "bool" = some (isiT t "bool"))) = true := by decide +kernel
theorem isi_tuple : (tyNames.all fun t => decide (kitB t "tuple" = some (isiT t "tuple"))) = true := by decide +kernel
/-! ### -a -/
def oNeg : Op1 := fun p h => match p with | .int i => some (.int (-i), h) | _ => none
def eUn (o : Op1) (f : EF) : EF := fun ev h => (f ev h).bind fun v h1 => ofO (o v h1)
theorem me_neg (ha : ME X W a f) : ME X W (.UnaryOp .USub a pos) (eUn oNeg f) := ⟨pe_imp (pe_un un_neg ha.pe) fun σ H Q q => by
  obtain ⟨m, ah, ev, r, re, q⟩ := Wi.bind (R := VR X.K) q
  refine ⟨m, ah, ev, r, re, ?_⟩
  cases ef : f ev ah with
  | exc c p a => rw [ef] at q; exact q
  | bad => rw [ef] at q; exact q
  | ok v a =>
    rw [ef] at q
    intro m1 H1 x e1 r1 rx
    obtain ⟨m2, ah2, ev2, v2, r2, re2, rv2, q2⟩ := q m1 H1 x e1 r1 rx
    unfold oNeg at q2
    split at q2
    · exact ⟨_, rv2.int_inv, q2 m2 H1 _ .refl r2 (.int _)⟩
    · exact q2.elim⟩
/-! ### a < b < c -/
def eChain (o o' : Op2) (f g t : EF) : EF := fun ev h => (f ev h).bind fun v h1 => (g ev h1).bind fun w h2 => match o v w h2 with
  | some (.bl true, h3) => (t ev h3).bind fun u h4 => ofO (o' w u h4)
  | some (.bl false, h3) => .ok (.bl false) h3
  | _ => .bad
theorem Wi.chain {K : PySem.W.Frag} {mg : Str → Option Value} {o o' : Op2} {f g t : EF} {σ : L2.St} {H : Hp} {Q : VK} (h : Wi K mg (VR K) W (eChain o o' f g t) σ H Q) : tChain (rO K o) (rO K o') (Wi K mg (VR K) W f) (Wi K mg (VR K) W g) (Wi K mg (VR K) W t) σ H Q := by
  obtain ⟨m, ah, ev, r, re, q⟩ := Wi.bind (R := VR K) h
  refine ⟨m, ah, ev, r, re, ?_⟩
  cases ef : f ev ah with
  | exc c p a => rw [ef] at q; exact q
  | bad => rw [ef] at q; exact q
  | ok v a =>
    rw [ef] at q
    intro m1 H1 x e1 r1 rx
    obtain ⟨m2, ah2, ev2, v2, r2, re2, rv2, q2⟩ := q m1 H1 x e1 r1 rx
    refine ⟨m2, ah2, ev2, r2, re2, ?_⟩
    have q3 := Post.bind (R := VR K) q2
    cases eg : g ev2 ah2 with
    | exc c p a => rw [eg] at q3; exact q3
    | bad => rw [eg] at q3; exact q3
    | ok w b =>
      rw [eg] at q3
      intro m3 H3 y e3 r3 ry
      obtain ⟨m4, ah4, v4, e4, r4, rv4, q4⟩ := q3 m3 H3 y e3 r3 ry
      have rv2' := rv2.ext r2 e4
      cases eo : o v2 v4 ah4 with
      | none => simp only [eo] at q4; exact q4.elim
      | some z =>
        obtain ⟨z, ahz⟩ := z
        simp only [eo] at q4
        refine ⟨m4, ah4, v2, v4, z, ahz, r4, rv2', rv4, eo, fun m5 H5 k e5 r5 rk => ?_⟩
        cases z with
        | bl c =>
          cases rk
          refine ⟨c, rfl, ?_⟩
          cases c with
          | false => exact q4 m5 H5 _ e5 r5 (.bl false)
          | true =>
            refine ⟨m5, ahz, ev2, r5, (re2.ext r2 e4).ext r4 e5, ?_⟩
            have q5 := Post.bind (R := VR K) (Post.ext q4 e5)
            cases et : t ev2 ahz with
            | exc c p a => rw [et] at q5; exact q5
            | bad => rw [et] at q5; exact q5
            | ok u d =>
              rw [et] at q5
              intro m6 H6 y6 e6 r6 r6y
              obtain ⟨m7, ah7, v7, e7, r7, rv7, q7⟩ := q5 m6 H6 y6 e6 r6 r6y
              cases eo2 : o' v4 v7 ah7 with
              | none => rw [eo2] at q7; exact q7.elim
              | some z2 =>
                obtain ⟨z2, ahz2⟩ := z2
                rw [eo2] at q7
                exact ⟨m7, ah7, v4, v7, z2, ahz2, r7, (rv4.ext r4 e5).ext r5 e7, rv7, eo2, q7⟩
        | _ => exact q4.elim
theorem me_chain {c : Expr} {op op' : CmpOp} {o o' : Op2} {t : EF} (ho : OpR X (compareOp op) (rO X.K o)) (ho' : OpR X (compareOp op') (rO X.K o')) (ha : ME X W a f) (hb : ME X W b g) (hc : ME X W c t)
    (hm : lastMarks [op, op'] [b, c] = false := by with_unfolding_all rfl) : ME X W (.Compare a [op, op'] [b, c] pos) (eChain o o' f g t) :=
  ⟨pe_imp (pe_chain ho ho' ha.pe hb.pe hc.pe hm) fun _ _ _ q => q.chain⟩
theorem mt_chain {c : Expr} {op op' : CmpOp} {o o' : Op2} {t : EF} (ho : OpR X (compareOp op) (rO X.K o)) (ho' : OpR X (compareOp op') (rO X.K o')) (ha : ME X W a f) (hb : ME X W b g) (hc : ME X W c t)
    (hm : lastMarks [op, op'] [b, c] = false := by with_unfolding_all rfl) : MT X W (.Compare a [op, op'] [b, c] pos) (tB (eChain o o' f g t)) :=
  ⟨pt_imp (pt_chain ho ho' ha.pe hb.pe hc.pe hm) fun _ _ _ q => (Wi.tB q).chain⟩
end
end FL

set_option Elab.async false
set_option linter.all false
set_option maxRecDepth 100000
/-! FL7: statements, targets, loops, comprehensions. -/
namespace FL
open PySem PySem.Spec PyProof.Rows L2
variable [Tabz]
inductive SR where
  | nx (ev : Ev) (h : AH)
  | rt (v : Va) (h : AH)
  | bk (ev : Ev) (h : AH)
  | ct (ev : Ev) (h : AH)
  | exc (c : Str) (p : List (Str × Va)) (ev : Ev) (h : AH)
  | bad
abbrev SF := Ev → AH → SR
def Rs.s {α : Type} (r : Rs α) (ev : Ev) (k : α → AH → SR) : SR := match r with
  | .ok a h => k a h
  | .exc c p h => .exc c p ev h
  | .bad => .bad
@[simp] theorem Rs.s_ok {α : Type} (a : α) (h : AH) (ev : Ev) (k : α → AH → SR) : (Rs.ok a h).s ev k = k a h := rfl
@[simp] theorem Rs.s_exc {α : Type} (c : Str) (p : List (Str × Va)) (h : AH) (ev : Ev) (k : α → AH → SR) : (Rs.exc c p h : Rs α).s ev k = .exc c p ev h := rfl
@[simp] theorem Rs.s_bad {α : Type} (ev : Ev) (k : α → AH → SR) : (Rs.bad : Rs α).s ev k = .bad := rfl
def SR.andThen (r : SR) (k : SF) : SR := match r with
  | .nx ev h => k ev h
  | r => r
def PostS (K : PySem.W.Frag) (mg : Str → Option Value) (W : WX) (m : List Addr) (H : Hp) (D : Ends) (r : SR) : Prop :=
  match r with
  | .nx ev ah => ∀ m' H' σ', Ext m H m' H' → HR K H' m' ah → ER K H' m' ev σ' → D.nx σ' H'
  | .bk ev ah => ∀ m' H' σ', Ext m H m' H' → HR K H' m' ah → ER K H' m' ev σ' → D.bk σ' H'
  | .ct ev ah => ∀ m' H' σ', Ext m H m' H' → HR K H' m' ah → ER K H' m' ev σ' → D.ct σ' H'
  | .rt v ah => ∀ m' H' w, Ext m H m' H' → HR K H' m' ah → VR K H' m' v w → D.rt w H'
  | .exc c p ev ah => ∀ m' H' cls d σ', Ext m H m' H' → HR K H' m' ah → ER K H' m' ev σ' → XR K mg H' m' c p cls d → W cls d σ' H'
  | .bad => False
def WiS (K : PySem.W.Frag) (mg : Str → Option Value) (W : WX) (f : SF) : TS := fun D σ H => ∃ m ah ev, HR K H m ah ∧ ER K H m ev σ ∧ PostS K mg W m H D (f ev ah)
structure MS (X : Cx) (W : WX) (s : Stmt) (f : SF) : Prop where
  ps : PS X s (WiS X.K X.mg W f)
structure MSs (X : Cx) (W : WX) (s : List Stmt) (f : SF) : Prop where
  pss : PSs X s (WiS X.K X.mg W f)
section
variable {α β : Type} {K : PySem.W.Frag} {mg : Str → Option Value} {R : Hp → List Addr → α → β → Prop} {W : WX} {m m' : List Addr} {H H' : Hp} {D : Ends} {σ : L2.St}
theorem PostS.ext {r : SR} (h : PostS K mg W m H D r) (e : Ext m H m' H') : PostS K mg W m' H' D r := by
  cases r with
  | nx ev a => exact fun m2 H2 s e2 => h m2 H2 s (e.trans e2)
  | bk ev a => exact fun m2 H2 s e2 => h m2 H2 s (e.trans e2)
  | ct ev a => exact fun m2 H2 s e2 => h m2 H2 s (e.trans e2)
  | rt v a => exact fun m2 H2 s e2 => h m2 H2 s (e.trans e2)
  | exc c p ev a => exact fun m2 H2 cls d s e2 => h m2 H2 cls d s (e.trans e2)
  | bad => exact h
theorem WiS.bind {f : Ev → AH → Rs α} {k : Ev → α → AH → SR} (h : WiS K mg W (fun ev h => (f ev h).s ev (k ev)) D σ H) :
    Wi K mg R W f σ H (fun w H1 => ∃ m ah ev v, HR K H1 m ah ∧ ER K H1 m ev σ ∧ R H1 m v w ∧ PostS K mg W m H1 D (k ev v ah)) := by
  obtain ⟨m, ah, ev, r, re, q⟩ := h
  refine ⟨m, ah, ev, r, re, ?_⟩
  have q2 : PostS K mg W m H D ((f ev ah).s ev (k ev)) := q
  cases e : f ev ah with
  | ok v a =>
    rw [e] at q2
    exact fun m2 H2 w e2 r2 rr => ⟨m2, a, ev, v, r2, re.ext r e2, rr, PostS.ext q2 e2⟩
  | exc c p a =>
    rw [e] at q2
    exact fun m2 H2 cls d e2 r2 x2 => q2 m2 H2 cls d σ e2 r2 (re.ext r e2) x2
  | bad => rw [e] at q2; exact q2
end
def sNil : SF := fun ev h => .nx ev h
def sSeq (f g : SF) : SF := fun ev h => (f ev h).andThen g
section
variable {X : Cx} {W : WX} {s : Stmt} {ss : List Stmt} {f g : SF} {e : Expr} {fe : EF} {pos : Pos}
theorem mss_nil : MSs X W [] sNil := ⟨pss_imp pss_nil fun D σ H ⟨m, ah, ev, r, re, q⟩ => q m H σ .refl r re⟩
theorem mss_cons (h : MS X W s f) (h2 : MSs X W ss g) : MSs X W (s :: ss) (sSeq f g) := ⟨pss_imp (pss_cons h.ps h2.pss) fun D σ H ⟨m, ah, ev, r, re, q⟩ => by
  refine ⟨m, ah, ev, r, re, ?_⟩
  unfold sSeq at q
  cases ef : f ev ah with
  | nx ev2 a => rw [ef] at q; exact fun m2 H2 s2 e2 r2 re2 => ⟨m2, a, ev2, r2, re2, PostS.ext q e2⟩
  | bk ev2 a => rw [ef] at q; exact q
  | ct ev2 a => rw [ef] at q; exact q
  | rt v a => rw [ef] at q; exact q
  | exc c p ev2 a => rw [ef] at q; exact q
  | bad => rw [ef] at q; exact q⟩
theorem mss_one (h : MS X W s f) : MSs X W [s] f := ⟨pss_imp (pss_one h.ps) fun D σ H q => q⟩
/-- a statement that is never come to -/
theorem ms_never : MS X W s (fun _ _ => .bad) := ⟨ps_imp ps_never fun D σ H ⟨m, ah, ev, r, re, q⟩ => q⟩
def sRet (f : EF) : SF := fun ev h => (f ev h).s ev fun v h1 => .rt v h1
theorem ms_ret (h : ME X W e fe) : MS X W (.Return (some e) pos) (sRet fe) := ⟨ps_imp (ps_ret h.pe) fun D σ H q => by
  obtain ⟨m, ah, ev, r, re, q⟩ := WiS.bind (R := VR X.K) q
  refine ⟨m, ah, ev, r, re, ?_⟩
  cases ef : fe ev ah with
  | exc c p a => rw [ef] at q; exact q
  | bad => rw [ef] at q; exact q
  | ok v a =>
    rw [ef] at q
    intro m1 H1 x e1 r1 rx
    obtain ⟨m2, ah2, ev2, v2, r2, re2, rv2, q2⟩ := q m1 H1 x e1 r1 rx
    exact q2 m2 H1 x .refl r2 rv2⟩
def sExpr (f : EF) : SF := fun ev h => (f ev h).s ev fun _ h1 => .nx ev h1
theorem ms_expr (h : ME X W e fe) (hs : swapsWith e none pos.line X.env = pure false := by rfl) : MS X W (.Expr e pos) (sExpr fe) := ⟨ps_imp (ps_expr h.pe hs) fun D σ H q => by
  obtain ⟨m, ah, ev, r, re, q⟩ := WiS.bind (R := VR X.K) q
  refine ⟨m, ah, ev, r, re, ?_⟩
  cases ef : fe ev ah with
  | exc c p a => rw [ef] at q; exact q
  | bad => rw [ef] at q; exact q
  | ok v a =>
    rw [ef] at q
    intro m1 H1 x e1 r1 rx
    obtain ⟨m2, ah2, ev2, v2, r2, re2, rv2, q2⟩ := q m1 H1 x e1 r1 rx
    exact q2 m2 H1 σ .refl r2 re2⟩
def sIf (t : TF) (f g : SF) : SF := fun ev h => (t ev h).s ev fun b h1 => if b then f ev h1 else g ev h1
theorem ms_if {c : Expr} {t : TF} {a b : List Stmt} (hc : MT X W c t) (ha : MSs X W a f) (hb : MSs X W b g) : MS X W (.If c a b pos) (sIf t f g) := ⟨ps_imp (ps_if hc.pt ha.pss hb.pss) fun D σ H q => by
  obtain ⟨m, ah, ev, r, re, q⟩ := WiS.bind (R := RB) q
  refine ⟨m, ah, ev, r, re, ?_⟩
  cases ef : t ev ah with
  | exc c p a => rw [ef] at q; exact q
  | bad => rw [ef] at q; exact q
  | ok v a =>
    rw [ef] at q
    intro m1 H1 x e1 r1 rx
    obtain ⟨m2, ah2, ev2, v2, r2, re2, rv2, q2⟩ := q m1 H1 x e1 r1 rx
    cases (show v2 = x from rv2)
    cases x with
    | true => exact ⟨m2, ah2, ev2, r2, re2, q2⟩
    | false => exact ⟨m2, ah2, ev2, r2, re2, q2⟩⟩
end
/-! ### targets -/
abbrev GF := Va → Ev → Option Ev
def WiG (K : PySem.W.Frag) (vs : List Nat) (g : GF) : TG := fun v σ H Q => ∃ m p ev ev', ER K H m ev σ ∧ VR K H m p v ∧ g p ev = some ev' ∧ ∀ σ', ER K H m ev' σ' → (∀ j, j ∉ vs → σ'[j]? = σ[j]?) → σ'.length = σ.length → Q σ' H
structure MG (X : Cx) (tg : Expr) (vs : List Nat) (g : GF) : Prop where
  pg : PG X tg (WiG X.K vs g)
abbrev GsF := List Va → Ev → Option Ev
def WiGs (K : PySem.W.Frag) (vs : List Nat) (g : GsF) : TGs := fun v σ H Q => ∃ m p ev ev', ER K H m ev σ ∧ VRs K H m p v ∧ g p ev = some ev' ∧ ∀ σ', ER K H m ev' σ' → (∀ j, j ∉ vs → σ'[j]? = σ[j]?) → σ'.length = σ.length → Q σ' H
structure MGs (X : Cx) (tg : List Expr) (vs : List Nat) (g : GsF) : Prop where
  pgs : PGs X tg (WiGs X.K vs g)
def gNm (i : Nat) : GF := fun p ev => some (ev.set i (some p))
def gNl : GsF := fun xs ev => match xs with | [] => some ev | _ => none
def gCs (g : GF) (gs : GsF) : GsF := fun xs ev => match xs with
  | x :: xs => (g x ev).bind fun ev1 => gs xs ev1
  | [] => none
def gTp (gs : GsF) : GF := fun p ev => match p with
  | .tup xs => gs xs ev
  | _ => none
theorem pg_imp {X : Cx} {e : Expr} {t t' : TG} (h : PG X e t) (i : ∀ v σ H Q, t' v σ H Q → t v σ H Q) : PG X e t' := ⟨fun pins s σ H v u Q I r q => h.run pins s σ H v u Q I r (i v σ H Q q)⟩
theorem pgs_imp {X : Cx} {e : List Expr} {t t' : TGs} (h : PGs X e t) (i : ∀ v σ H Q, t' v σ H Q → t v σ H Q) : PGs X e t' := ⟨fun pins s σ H v u Q I r q => h.run pins s σ H v u Q I r (i v σ H Q q)⟩
section
variable {X : Cx} {W : WX} {e : Expr} {es : List Expr} {vs ws : List Nat} {g : GF} {gs : GsF} {pos : Pos}
theorem mg_name (i : Nat) {x : Str} (hN : X.N.Nodup) (hi : X.N[i]? = some x := by rfl) (hx : Loc X.env.scope x := by first | exact Or.inl rfl | exact Or.inr rfl) (hf : X.fn x = true ∨ X.env.scope.names.lookup x = some .local := by first | exact .inl rfl | exact .inr rfl) : MG X (.Name x pos) [i] (gNm i) :=
  ⟨pg_imp (pg_name hN hi hx hf) fun v σ H Q ⟨m, p, ev, ev', re, rv, eg, k⟩ => by
    cases eg
    exact k _ (re.set rv) (fun j hj => List.getElem?_set_ne (fun z => hj (by rw [z]; exact List.mem_singleton_self _))) (by simp)⟩
theorem mgs_nil : MGs X [] [] gNl := ⟨pgs_imp pgs_nil fun v σ H Q ⟨m, p, ev, ev', re, rv, eg, k⟩ => by
  unfold gNl at eg
  split at eg
  · cases eg
    cases rv
    exact ⟨rfl, k σ re (fun _ _ => rfl) rfl⟩
  · cases eg⟩
theorem mgs_cons (h : MG X e vs g) (h2 : MGs X es ws gs) (hs : (assignEach (e :: es) X.env).map (·.2) = assign e X.env :: (assignEach es X.env).map (·.2) := by rfl) : MGs X (e :: es) (vs ++ ws) (gCs g gs) :=
  ⟨pgs_imp (pgs_cons h.pg h2.pgs hs) fun v σ H Q ⟨m, p, ev, ev', re, rv, eg, k⟩ => by
    unfold gCs at eg
    split at eg
    · rename_i x xs
      cases rv with
      | @cons _ _ w ws' r1 r2 =>
        cases e1 : g x ev with
        | none => rw [e1] at eg; cases eg
        | some ev1 =>
          rw [e1] at eg
          exact ⟨w, ws', rfl, m, x, ev, ev1, re, r1, e1, fun σ1 re1 k1 l1 => ⟨m, xs, ev1, ev', re1, r2, eg, fun σ2 re2 k2 l2 => k σ2 re2 (fun j hj => by
            have h1 : j ∉ vs := fun z => hj (List.mem_append_left _ z)
            have h2 : j ∉ ws := fun z => hj (List.mem_append_right _ z)
            rw [k2 j h2, k1 j h1]) (by omega)⟩⟩
    · cases eg⟩
/-- the number of targets that gs takes -/
def gsN (gs : GsF) (n : Nat) : Prop := ∀ xs ev ev', gs xs ev = some ev' → xs.length = n
theorem gsN_nil : gsN gNl 0 := fun xs ev ev' h => by
  unfold gNl at h
  split at h
  · rfl
  · cases h
theorem gsN_cons {n : Nat} (h : gsN gs n) : gsN (gCs g gs) (n + 1) := fun xs ev ev' q => by
  unfold gCs at q
  split at q
  · rename_i x xs'
    cases e1 : g x ev with
    | none => rw [e1] at q; cases q
    | some ev1 =>
      rw [e1] at q
      rw [List.length_cons, h _ _ _ q]
  · cases q
theorem mg_tup {k n : Nat} (hc : X.calm = true) (h : MGs X es vs gs) (hn : gsN gs n) (hl : (assignEach es X.env).length = n := by rfl) (hst : (assignEach es X.env).findIdx? (·.1) = none := by rfl) : MG X (.Tuple es k pos) vs (gTp gs) :=
  ⟨pg_imp (pg_tup hc h.pgs hl hst) fun v σ H Q ⟨m, p, ev, ev', re, rv, eg, k⟩ => by
    unfold gTp at eg
    split at eg
    · rename_i xs
      cases rv with
      | @tup _ a ws ht hv =>
        exact ⟨a, ws, rfl, ht, by rw [← hv.length]; exact hn _ _ _ eg, m, xs, ev, ev', re, hv, eg, k⟩
    · cases eg⟩
/-! ### stores -/
def sAsg (g : GF) (f : EF) : SF := fun ev h => (f ev h).s ev fun v h1 => match g v ev with | some ev1 => .nx ev1 h1 | none => .bad
theorem ms_asg {tg : Expr} {fe : EF} (he : ME X W e fe) (hg : MG X tg vs g) (hs : swapsWithSole [tg] e pos.line X.env = pure false := by rfl) (hw : swappedStores [tg] e X.env = pure none := by rfl)
    (h1 : (assignEach [tg] X.env).map (·.2) = [assign tg X.env] := by rfl) : MS X W (.Assign [tg] e pos) (sAsg g fe) := ⟨ps_imp (ps_asg he.pe hg.pg hs hw h1) fun D σ H q => by
  obtain ⟨m, ah, ev, r, re, q⟩ := WiS.bind (R := VR X.K) q
  refine ⟨m, ah, ev, r, re, ?_⟩
  cases ef : fe ev ah with
  | exc c p a => rw [ef] at q; exact q
  | bad => rw [ef] at q; exact q
  | ok v a =>
    rw [ef] at q
    intro m1 H1 x e1 r1 rx
    obtain ⟨m2, ah2, ev2, v2, r2, re2, rv2, q2⟩ := q m1 H1 x e1 r1 rx
    cases eg : g v2 ev2 with
    | none => simp only [eg] at q2; exact q2.elim
    | some ev3 =>
      simp only [eg] at q2
      exact ⟨m2, v2, ev2, ev3, re2, rv2, eg, fun σ' re' _ _ => q2 m2 H1 σ' .refl r2 re'⟩⟩
def sSet (i : Nat) (f : EF) : SF := fun ev h => (f ev h).s ev fun v h1 => .nx (ev.set i (some v)) h1
theorem ms_set (i : Nat) {x : Str} {fe : EF} {pos' : Pos} (hN : X.N.Nodup) (he : ME X W e fe) (hi : X.N[i]? = some x := by rfl) (hx : Loc X.env.scope x := by first | exact Or.inl rfl | exact Or.inr rfl)
    (hs : swapsWith e (some (.Name x pos')) pos.line X.env = pure false := by rfl) (hf : X.fn x = true ∨ X.env.scope.names.lookup x = some .local := by first | exact .inl rfl | exact .inr rfl) : MS X W (.Assign [.Name x pos'] e pos) (sSet i fe) := ⟨ps_imp (ps_set hN hi hx he.pe hs hf) fun D σ H q => by
  obtain ⟨m, ah, ev, r, re, q⟩ := WiS.bind (R := VR X.K) q
  refine ⟨m, ah, ev, r, re, ?_⟩
  cases ef : fe ev ah with
  | exc c p a => rw [ef] at q; exact q
  | bad => rw [ef] at q; exact q
  | ok v a =>
    rw [ef] at q
    intro m1 H1 x e1 r1 rx
    obtain ⟨m2, ah2, ev2, v2, r2, re2, rv2, q2⟩ := q m1 H1 x e1 r1 rx
    exact q2 m2 H1 _ .refl r2 (re2.set rv2)⟩
/-- a, b = x, y (both written) -/
def sPar (i j : Nat) (f : AF) : SF := fun ev h => (f ev h).s ev fun vs h1 => match vs with
  | [v, w] => .nx ((ev.set i (some v)).set j (some w)) h1
  | _ => .bad
theorem ms_par (i j : Nat) {x y : Str} {a b : Expr} {ta : AF} {px py pt : Pos} {kt k2 pt2} (hc : X.calm = true) (hN : X.N.Nodup) (ha : MA X W [a, b] ta) (hi : X.N[i]? = some x := by rfl) (hj : X.N[j]? = some y := by rfl) (hij : i ≠ j := by decide)
    (hx : X.env.scope.names.lookup x = some .local := by rfl) (hy : X.env.scope.names.lookup y = some .local := by rfl)
    (hw : swappedStores [.Tuple [.Name x px, .Name y py] kt pt] (.Tuple [a, b] k2 pt2) X.env = pure (some [x, y]) := by rfl)
    (hs : swapsWithSole [.Tuple [.Name x px, .Name y py] kt pt] (.Tuple [a, b] k2 pt2) pos.line X.env = pure false := by rfl) :
    MS X W (.Assign [.Tuple [.Name x px, .Name y py] kt pt] (.Tuple [a, b] k2 pt2) pos) (sPar i j ta) := ⟨ps_imp (ps_par hc hN hi hj hij hx hy ha.pa hw hs) fun D σ H q => by
  obtain ⟨m, ah, ev, r, re, q⟩ := WiS.bind (R := VRs X.K) q
  refine ⟨m, ah, ev, r, re, ?_⟩
  cases ef : ta ev ah with
  | exc c p a => rw [ef] at q; exact q
  | bad => rw [ef] at q; exact q
  | ok v a =>
    rw [ef] at q
    intro m1 H1 x e1 r1 rx
    obtain ⟨m2, ah2, ev2, v2, r2, re2, rv2, q2⟩ := q m1 H1 x e1 r1 rx
    split at q2
    · obtain ⟨x1, x2, rfl, h1, h2⟩ := vrs2 rv2
      exact ⟨x1, x2, rfl, q2 m2 H1 _ .refl r2 ((re2.set h1).set h2)⟩
    · exact q2.elim⟩
/-- o[i] = e, a list -/
def setAt (o i v : Va) (h : AH) : Option AH := match o, i with
  | .ref l, .int k => match lstAt h l with
    | some xs => match ixN xs.length k with
      | some j => some (h.set l (.lst (xs.set j v)))
      | none => none
    | none => none
  | _, _ => none
def sSetIx (fo fi f : EF) : SF := fun ev h => (f ev h).s ev fun v h1 => (fo ev h1).s ev fun o h2 => (fi ev h2).s ev fun i h3 => match setAt o i v h3 with | some h4 => .nx ev h4 | none => .bad
theorem ms_setIx {o i : Expr} {fo fi fe : EF} {p1 : Pos} (he : ME X W e fe) (ho : ME X W o fo) (hi : ME X W i fi) (hs : swapsWithSole [.Subscript o i p1] e pos.line X.env = pure false := by rfl) (hw : swappedStores [.Subscript o i p1] e X.env = pure none := by rfl)
    (h1 : (assignEach [.Subscript o i p1] X.env).map (·.2) = [assign (.Subscript o i p1) X.env] := by rfl)
    (ha : ∀ v, assign (.Subscript o i p1) X.env v = (do
      let ov ← holding [v] (eval o X.env)
      let iv ← holding [v, ov] (eval i X.env)
      standAt p1
      holding [v, ov, iv] (setItem ov iv v)
      release [v, ov, iv] []) := by intro _; rfl) : MS X W (.Assign [.Subscript o i p1] e pos) (sSetIx fo fi fe) :=
  ⟨ps_imp (ps_asg he.pe (pg_sub ho.pe hi.pe set_list ha) hs hw h1) fun D σ H q => by
    obtain ⟨m, ah, ev, r, re, q⟩ := WiS.bind (R := VR X.K) q
    refine ⟨m, ah, ev, r, re, ?_⟩
    cases ef : fe ev ah with
    | exc c p a => rw [ef] at q; exact q
    | bad => rw [ef] at q; exact q
    | ok v a =>
      rw [ef] at q
      intro m1 H1 x e1 r1 rx
      obtain ⟨m2, ah2, ev2, v2, r2, re2, rv2, q2⟩ := q m1 H1 x e1 r1 rx
      obtain ⟨m3, ah3, ev3, r3, re3, q3⟩ := WiS.bind (R := VR X.K) (W := W) (k := fun ev o h2 => (fi ev h2).s ev fun i h3 => match setAt o i v2 h3 with | some h4 => .nx ev h4 | none => .bad) ⟨m2, ah2, ev2, r2, re2, q2⟩
      refine ⟨m2, ah2, ev2, r2, re2, ?_⟩
      have q2' : PostS X.K X.mg W m2 H1 D ((fo ev2 ah2).s ev2 fun o h2 => (fi ev2 h2).s ev2 fun i h3 => match setAt o i v2 h3 with | some h4 => .nx ev2 h4 | none => .bad) := q2
      cases eo : fo ev2 ah2 with
      | exc c p a => rw [eo] at q2'; exact fun m2 H2 cls d e2 r3 x2 => q2' m2 H2 cls d σ e2 r3 (re2.ext r2 e2) x2
      | bad => rw [eo] at q2'; exact q2'
      | ok ov a =>
        rw [eo] at q2'
        intro m4 H4 y e4 r4 ry
        refine ⟨m4, a, ev2, r4, re2.ext r2 e4, ?_⟩
        have q3' : PostS X.K X.mg W m4 H4 D ((fi ev2 a).s ev2 fun i h3 => match setAt ov i v2 h3 with | some h4 => .nx ev2 h4 | none => .bad) := PostS.ext q2' e4
        cases ei : fi ev2 a with
        | exc c p b => rw [ei] at q3'; exact fun m2 H2 cls d e2 r3 x2 => q3' m2 H2 cls d σ e2 r3 ((re2.ext r2 e4).ext r4 e2) x2
        | bad => rw [ei] at q3'; exact q3'
        | ok iv b =>
          rw [ei] at q3'
          intro m5 H5 z e5 r5 rz
          have q5 : PostS X.K X.mg W m5 H5 D (match setAt ov iv v2 b with | some h4 => .nx ev2 h4 | none => .bad) := PostS.ext q3' e5
          unfold setAt at q5
          split at q5
          · rename_i h4 hs4
            split at hs4
            · rename_i l k
              cases hl : lstAt b l with
              | none => simp only [hl] at hs4; cases hs4
              | some xs =>
                simp only [hl] at hs4
                cases hj : ixN xs.length k with
                | none => simp only [hj] at hs4; cases hs4
                | some j =>
                  simp only [hj] at hs4
                  cases hs4
                  have ry' := ry.ext r4 e5
                  cases ry' with
                  | @ref _ a1 ha1 =>
                    obtain ⟨vs, g1, hv⟩ := r5.lst ha1 (lstAt_some hl)
                    refine ⟨a1, vs, k, j, rfl, rz.int_inv, g1, by rw [← hv.length]; exact hj, ?_⟩
                    have rx' := (rv2.ext r2 e4).ext r4 e5
                    have ex : Ext m5 H5 m5 (upd H5 a1 (.lst (vs.set j x))) := ext_set ha1
                    exact q5 m5 _ σ ex (hr_set r5 ha1 (hv.set rx' j)) (((re2.ext r2 e4).ext r4 e5).ext r5 ex)
            · cases hs4
          · exact q5.elim⟩
end
/-! ### equality of values, for what a loop walks -/
mutual
def pdBeq : PyData → PyData → Bool
  | .none, .none => true
  | .bool a, .bool b => a == b
  | .int a, .int b => decide (a = b)
  | .str a, .str b => decide (a = b)
  | .list a, .list b => pdBeqs a b
  | .tuple a, .tuple b => pdBeqs a b
  | .dict a, .dict b => pdBeqp a b
  | _, _ => false
def pdBeqs : List PyData → List PyData → Bool
  | [], [] => true
  | x :: xs, y :: ys => pdBeq x y && pdBeqs xs ys
  | _, _ => false
def pdBeqp : List (PyData × PyData) → List (PyData × PyData) → Bool
  | [], [] => true
  | (x, x') :: xs, (y, y') :: ys => pdBeq x y && pdBeq x' y' && pdBeqp xs ys
  | _, _ => false
end
mutual
theorem pdBeq_eq : ∀ (a b : PyData), pdBeq a b = true → a = b
  | .none, b, h => by cases b <;> simp [pdBeq] at h ⊢
  | .bool a, b, h => by cases b <;> simp [pdBeq] at h ⊢; exact h
  | .int a, b, h => by cases b <;> simp [pdBeq] at h ⊢; exact h
  | .str a, b, h => by cases b <;> simp [pdBeq] at h ⊢; exact h
  | .list a, b, h => by cases b <;> simp [pdBeq] at h ⊢; exact pdBeqs_eq _ _ h
  | .tuple a, b, h => by cases b <;> simp [pdBeq] at h ⊢; exact pdBeqs_eq _ _ h
  | .dict a, b, h => by cases b <;> simp [pdBeq] at h ⊢; exact pdBeqp_eq _ _ h
theorem pdBeqs_eq : ∀ (a b : List PyData), pdBeqs a b = true → a = b
  | [], b, h => by cases b <;> simp [pdBeqs] at h ⊢
  | x :: xs, b, h => by
    cases b with
    | nil => simp [pdBeqs] at h
    | cons y ys =>
      simp [pdBeqs] at h
      rw [pdBeq_eq _ _ h.1, pdBeqs_eq _ _ h.2]
theorem pdBeqp_eq : ∀ (a b : List (PyData × PyData)), pdBeqp a b = true → a = b
  | [], b, h => by cases b <;> simp [pdBeqp] at h ⊢
  | (x, x') :: xs, b, h => by
    cases b with
    | nil => simp [pdBeqp] at h
    | cons y ys =>
      obtain ⟨y, y'⟩ := y
      simp [pdBeqp] at h
      rw [pdBeq_eq _ _ h.1.1, pdBeq_eq _ _ h.1.2, pdBeqp_eq _ _ h.2]
end
mutual
theorem pdBeq_refl : ∀ (a : PyData), pdBeq a a = true
  | .none => by simp [pdBeq]
  | .bool a => by simp [pdBeq]
  | .int a => by simp [pdBeq]
  | .str a => by simp [pdBeq]
  | .list a => by simp [pdBeq, pdBeqs_refl a]
  | .tuple a => by simp [pdBeq, pdBeqs_refl a]
  | .dict a => by simp [pdBeq, pdBeqp_refl a]
theorem pdBeqs_refl : ∀ (a : List PyData), pdBeqs a a = true
  | [] => by simp [pdBeqs]
  | x :: xs => by simp [pdBeqs, pdBeq_refl x, pdBeqs_refl xs]
theorem pdBeqp_refl : ∀ (a : List (PyData × PyData)), pdBeqp a a = true
  | [] => by simp [pdBeqp]
  | (x, y) :: xs => by simp [pdBeqp, pdBeq_refl x, pdBeq_refl y, pdBeqp_refl xs]
end
mutual
def vaBeq : Va → Va → Bool
  | .non, .non => true
  | .bl a, .bl b => a == b
  | .int a, .int b => decide (a = b)
  | .str a, .str b => decide (a = b)
  | .tup a, .tup b => vaBeqs a b
  | .tud a, .tud b => vaBeqs a b
  | .rol a, .rol b => vaBeqs a b
  | .ref a, .ref b => a == b
  | .rp a, .rp b => pdBeq a b
  | .dv a, .dv b => decide (a = b)
  | .exo a, .exo b => decide (a = b)
  | .exn a d f x, .exn b e g y => decide (a = b) && decide (d = e) && decide (f = g) && vaBeq x y
  | _, _ => false
def vaBeqs : List Va → List Va → Bool
  | [], [] => true
  | x :: xs, y :: ys => vaBeq x y && vaBeqs xs ys
  | _, _ => false
end
mutual
theorem vaBeq_eq : ∀ (a b : Va), vaBeq a b = true → a = b
  | .non, b, h => by cases b <;> simp [vaBeq] at h ⊢
  | .bl a, b, h => by cases b <;> simp [vaBeq] at h ⊢; exact h
  | .int a, b, h => by cases b <;> simp [vaBeq] at h ⊢; exact h
  | .str a, b, h => by cases b <;> simp [vaBeq] at h ⊢; exact h
  | .tup a, b, h => by cases b <;> simp [vaBeq] at h ⊢; exact vaBeqs_eq _ _ h
  | .tud a, b, h => by cases b <;> simp [vaBeq] at h ⊢; exact vaBeqs_eq _ _ h
  | .rol a, b, h => by cases b <;> simp [vaBeq] at h ⊢; exact vaBeqs_eq _ _ h
  | .ref a, b, h => by cases b <;> simp [vaBeq] at h ⊢; exact h
  | .rp a, b, h => by cases b <;> simp [vaBeq] at h ⊢; exact pdBeq_eq _ _ h
  | .dv a, b, h => by cases b <;> simp [vaBeq] at h ⊢; exact h
  | .exo a, b, h => by cases b <;> simp [vaBeq] at h ⊢; exact h
  | .exn a d f x, b, h => by
    cases b <;> simp [vaBeq] at h ⊢
    exact ⟨h.1.1.1, h.1.1.2, h.1.2, vaBeq_eq _ _ h.2⟩
theorem vaBeqs_eq : ∀ (a b : List Va), vaBeqs a b = true → a = b
  | [], b, h => by cases b <;> simp [vaBeqs] at h ⊢
  | x :: xs, b, h => by
    cases b with
    | nil => simp [vaBeqs] at h
    | cons y ys =>
      simp [vaBeqs] at h
      rw [vaBeq_eq _ _ h.1, vaBeqs_eq _ _ h.2]
end
mutual
theorem vaBeq_refl : ∀ (a : Va), vaBeq a a = true
  | .non => by simp [vaBeq]
  | .bl a => by simp [vaBeq]
  | .int a => by simp [vaBeq]
  | .str a => by simp [vaBeq]
  | .tup a => by simp [vaBeq, vaBeqs_refl a]
  | .tud a => by simp [vaBeq, vaBeqs_refl a]
  | .rol a => by simp [vaBeq, vaBeqs_refl a]
  | .ref a => by simp [vaBeq]
  | .rp a => by simp [vaBeq, pdBeq_refl a]
  | .dv a => by simp [vaBeq]
  | .exo a => by simp [vaBeq]
  | .exn a d f x => by simp [vaBeq, vaBeq_refl x]
theorem vaBeqs_refl : ∀ (a : List Va), vaBeqs a a = true
  | [] => by simp [vaBeqs]
  | x :: xs => by simp [vaBeqs, vaBeq_refl x, vaBeqs_refl xs]
end
end FL

set_option Elab.async false
set_option linter.all false
set_option maxRecDepth 100000
/-! FLZ: zip(.., strict=True) of two sequences: the object, a turn, the end. -/
namespace FLZ
open PySem
/-- a zip that is strict -/
abbrev IsZs (h : Heap) (z ti to_ : Addr) (f0 : Value) : Prop := h.get? z = some { cls := .type "zip", data := .fields #[f0, .bool false, .bool true, .ref ti, .ref to_] }
section
variable {prog : Program} {w : World} {A : Around} {E : Value → Shared → Prop} {s : Shared} {z ti to_ j1 j2 : Addr} {f1 f2 : List Addr} {n i : Nat} {P1 P2 : Nat → Value → Prop} {S1 S2 : Nat → Heap → Prop} {a1 a2 : Value}
theorem draw_some {j : Addr} {f : List Addr} {P : Nat → Value → Prop} {St : Nat → Heap → Prop} {Q : Option Value → Shared → Prop} (D : Draws prog w A j f n P St) (lt : i < n) (st : St i s.heap)
    (k : ∀ x h' tk, P i x → St (i + 1) h' → Heap.SameBut j s.heap h' → Q (some x) { s with heap := h', toks := tk }) : wpAny (model prog w) A (Builtin.SmallTypes.nextOrEnd (.ref j)) Q E s := by
  unfold Builtin.SmallTypes.nextOrEnd
  exact wpAny_bind (wpAny_attempt (D.item i s _ _ lt st fun x h' tk hp hs sb => wpAny_pure (k x h' tk hp hs sb)))
theorem draw_none {j : Addr} {f : List Addr} {P : Nat → Value → Prop} {St : Nat → Heap → Prop} {Q : Option Value → Shared → Prop} (D : Draws prog w A j f n P St) (st : St n s.heap)
    (k : ∀ h', Heap.ExtBut j s.heap h' → Q none { s with heap := h' }) : wpAny (model prog w) A (Builtin.SmallTypes.nextOrEnd (.ref j)) Q E s := by
  unfold Builtin.SmallTypes.nextOrEnd
  refine wpAny_bind (wpAny_attempt (D.done s _ _ st fun h' e x ⟨o, ho, hc⟩ => ?_))
  exact wpAny_bind (wpAny_isInstance (T := "StopIteration") (b := true) ⟨o, ho, hc⟩ isSubtype_stop (wpAny_pure (k h' x)))
theorem strict_item {Q : Value → Shared → Prop} (S : ZipSep2 z ti to_ j1 j2 f1 f2) (D1 : Draws prog w A j1 f1 n P1 S1) (D2 : Draws prog w A j2 f2 n P2 S2)
    (hz : IsZs s.heap z ti to_ .none) (hi : IsTupOf2 s.heap ti (.ref j1) (.ref j2)) (ho : IsTupOf2 s.heap to_ a1 a2) (st1 : S1 i s.heap) (st2 : S2 i s.heap) (lt : i < n)
    (fin : ∀ x1 x2 h' tk, P1 i x1 → P2 i x2 → IsZs h' z ti to_ (rawInt s.heap.objs.size) → IsTupOf2 h' to_ x1 x2 → S1 (i + 1) h' → S2 (i + 1) h' → IsTupOf2 h' s.heap.objs.size x1 x2 → h'.objs.size = s.heap.objs.size + 1 →
      (∀ c o, c ≠ z → c ≠ to_ → c ≠ j1 → c ≠ j2 → s.heap.get? c = some o → h'.get? c = some o) → Q (.ref s.heap.objs.size) { s with heap := h', toks := tk }) :
    wpAny (model prog w) A (Builtin.«zip.__next__» ⟨[.ref z], []⟩) (fun r s' => ∃ v, r = .done (.ret v) ∧ Q v s') E s := by
  obtain ⟨hp, gn, dr, t0, os⟩ := s
  show wpAny _ _ (field (.ref z) 2 >>= _) _ _ _
  refine wpAny_bind (wpAny_field hz rfl (x := .bool true) rfl ?_)
  show wpAny _ _ (field (.ref z) 3 >>= _) _ _ _
  refine wpAny_bind (wpAny_field hz rfl (x := .ref ti) rfl (wpAny_bind (wpAny_seqItems hi rfl ?_)))
  show wpAny _ _ (Builtin.SmallTypes.ownedTupleIsFree (.ref z) >>= _) _ _ _
  refine wpAny_bind ?_
  unfold Builtin.SmallTypes.ownedTupleIsFree
  refine wpAny_bind (wpAny_field hz rfl (x := .none) rfl (wpAny_pure ?_))
  simp only [if_true]
  refine wpAny_bind (wpAny_rule (wpAny_bind (wpAny_field hz rfl (x := .ref to_) rfl ?_)))
  refine wpAny_bind (wpAny_setField_rec hz (by simp) fun k0 z0 b0 => ?_)
  replace z0 : IsZs k0 z ti to_ .ellipsis := z0
  replace b0 : Heap.SameBut z hp k0 := b0
  refine wpAny_bind ?_
  simp only [List.zipIdx_cons, List.zipIdx_nil, List.forIn_cons, List.forIn_nil]
  refine wpAny_bind (wpAny_bind (wpAny_onRaise ?_))
  show wpAny _ _ (Builtin.SmallTypes.nextOrEnd (.ref j1)) _ _ ⟨k0, gn, dr, t0, os⟩
  refine draw_some D1 lt (D1.over st1 b0 S.zf1) fun x1 q1 u1 w1 n1 c1 => ?_
  replace c1 : Heap.SameBut j1 k0 q1 := c1
  have o1 : IsTupOf2 q1 to_ a1 a2 := c1.extBut _ _ S.Ti1 (b0.extBut _ _ S.TOz ho)
  refine wpAny_bind (wpAny_seqItems (s := ⟨q1, gn, dr, u1, os⟩) o1 rfl (wpAny_bind (updateSeq_IsTupOf2 (s := ⟨q1, gn, dr, u1, os⟩) o1 fun k1 t1 b1 => ?_)))
  replace t1 : IsTupOf2 k1 to_ x1 a2 := t1
  replace b1 : Heap.SameBut to_ q1 k1 := b1
  refine wpAny_bind (wpAny_letGo (wpAny_pure (wpAny_bind (wpAny_bind (wpAny_onRaise ?_)))))
  show wpAny _ _ (Builtin.SmallTypes.nextOrEnd (.ref j2)) _ _ ⟨k1, gn, dr, u1, os⟩
  refine draw_some D2 lt (D2.over (D2.over (D2.over st2 b0 S.zf2) c1 S.sep1_2) b1 S.Tf2) fun x2 q2 u2 w2 n2 c2 => ?_
  replace c2 : Heap.SameBut j2 k1 q2 := c2
  have o2 : IsTupOf2 q2 to_ x1 a2 := c2.extBut _ _ S.Ti2 t1
  refine wpAny_bind (wpAny_seqItems (s := ⟨q2, gn, dr, u2, os⟩) o2 rfl (wpAny_bind (updateSeq_IsTupOf2 (s := ⟨q2, gn, dr, u2, os⟩) o2 fun k2 t2 b2 => ?_)))
  replace t2 : IsTupOf2 k2 to_ x1 x2 := t2
  replace b2 : Heap.SameBut to_ q2 k2 := b2
  refine wpAny_bind (wpAny_letGo (wpAny_pure (wpAny_pure (wpAny_bind (wpAny_seqItems (s := ⟨k2, gn, dr, u2, os⟩) t2 rfl (wpAny_bind (wpAny_newTuple ?_)))))))
  have size2 : k2.objs.size = hp.objs.size := by rw [b2.1, c2.1, b1.1, c1.1, b0.1]
  have zz : IsZs k2 z ti to_ .ellipsis := b2.extBut _ _ S.TOz.symm (c2.extBut _ _ S.zi2 (b1.extBut _ _ S.TOz.symm (c1.extBut _ _ S.zi1 z0)))
  have old : ∀ c o, c ≠ z → c ≠ to_ → c ≠ j1 → c ≠ j2 → hp.get? c = some o → k2.get? c = some o := fun c o y0 y1 y2 y3 e =>
    b2.extBut _ _ y1 (c2.extBut _ _ y3 (b1.extBut _ _ y1 (c1.extBut _ _ y2 (b0.extBut _ _ y0 e))))
  have v1 : S1 (i + 1) k2 := D1.over (D1.over (D1.over n1 b1 S.Tf1) c2 S.sep2_1) b2 S.Tf1
  have v2 : S2 (i + 1) k2 := D2.over n2 b2 S.Tf2
  have below : z < k2.objs.size := Heap.lt_size zz
  show wpAny _ _ (Builtin.SmallTypes.ownedTupleHandOut (.ref z) (.ref k2.objs.size) >>= _) _ _ ⟨k2.push { cls := .type "tuple", data := .seq #[x1, x2] }, gn, dr, u2, os⟩
  refine wpAny_bind ?_
  unfold Builtin.SmallTypes.ownedTupleHandOut
  have z6 : IsZs (k2.push { cls := .type "tuple", data := .seq #[x1, x2] }) z ti to_ .ellipsis := Heap.get?_push_of_some _ zz
  refine wpAny_bind (wpAny_setField_rec z6 (by simp) fun k7 z7 b7 => ?_)
  replace z7 : IsZs k7 z ti to_ (rawInt k2.objs.size) := z7
  refine wpAny_setField_rec z7 (by simp) fun k8 z8 b8 => ?_
  replace z8 : IsZs k8 z ti to_ (rawInt k2.objs.size) := z8
  replace b7 : Heap.SameBut z (k2.push { cls := .type "tuple", data := .seq #[x1, x2] }) k7 := b7
  replace b8 : Heap.SameBut z k7 k8 := b8
  have up : ∀ c o, c ≠ z → k2.get? c = some o → k8.get? c = some o := fun c o y e => b8.extBut _ _ y (b7.extBut _ _ y (Heap.get?_push_of_some _ e))
  have t8 : IsTupOf2 k8 k2.objs.size x1 x2 := b8.extBut _ _ (Nat.ne_of_gt below) (b7.extBut _ _ (Nat.ne_of_gt below) (Heap.get?_push_size _ rfl))
  have s8 : k8.objs.size = k2.objs.size + 1 := by rw [b8.1, b7.1, Heap.size_push]
  rw [size2] at z8 t8 s8
  refine wpAny_pure ⟨_, rfl, ?_⟩
  show Q (.ref k2.objs.size) ⟨k8, gn, dr, u2, os⟩
  rw [size2]
  exact fin x1 x2 k8 u2 w1 w2 z8 (up _ _ S.TOz t2) (D1.frame _ _ _ v1 fun b hb o e => up b o (fun y => S.zf1 (y ▸ hb)) e) (D2.frame _ _ _ v2 fun b hb o e => up b o (fun y => S.zf2 (y ▸ hb)) e) t8 s8 fun c o y0 y1 y2 y3 e => up c o y0 (old c o y0 y1 y2 y3 e)
theorem strict_end {Q : Fin → Shared → Prop} (hh : A.handled = none) (S : ZipSep2 z ti to_ j1 j2 f1 f2) (D1 : Draws prog w A j1 f1 n P1 S1) (D2 : Draws prog w A j2 f2 n P2 S2)
    (hz : IsZs s.heap z ti to_ .none) (hi : IsTupOf2 s.heap ti (.ref j1) (.ref j2)) (ho : IsTupOf2 s.heap to_ a1 a2) (st1 : S1 n s.heap) (st2 : S2 n s.heap)
    (fin : ∀ h' tk e, (∀ c o, c ≠ z → c ≠ to_ → c ≠ j1 → c ≠ j2 → s.heap.get? c = some o → h'.get? c = some o) → (∃ o, h'.get? e = some o ∧ o.cls = .type "StopIteration") → E (.ref e) { s with heap := h', toks := tk }) :
    wpAny (model prog w) A (Builtin.«zip.__next__» ⟨[.ref z], []⟩) Q E s := by
  obtain ⟨hp, gn, dr, t0, os⟩ := s
  show wpAny _ _ (field (.ref z) 2 >>= _) _ _ _
  refine wpAny_bind (wpAny_field hz rfl (x := .bool true) rfl ?_)
  show wpAny _ _ (field (.ref z) 3 >>= _) _ _ _
  refine wpAny_bind (wpAny_field hz rfl (x := .ref ti) rfl (wpAny_bind (wpAny_seqItems hi rfl ?_)))
  show wpAny _ _ (Builtin.SmallTypes.ownedTupleIsFree (.ref z) >>= _) _ _ _
  refine wpAny_bind ?_
  unfold Builtin.SmallTypes.ownedTupleIsFree
  refine wpAny_bind (wpAny_field hz rfl (x := .none) rfl (wpAny_pure ?_))
  simp only [if_true]
  refine wpAny_bind (wpAny_rule (wpAny_bind (wpAny_field hz rfl (x := .ref to_) rfl ?_)))
  refine wpAny_bind (wpAny_setField_rec hz (by simp) fun k0 z0 b0 => ?_)
  replace z0 : IsZs k0 z ti to_ .ellipsis := z0
  replace b0 : Heap.SameBut z hp k0 := b0
  refine wpAny_bind ?_
  simp only [List.zipIdx_cons, List.zipIdx_nil, List.forIn_cons, List.forIn_nil]
  refine wpAny_bind (wpAny_bind (wpAny_onRaise ?_))
  show wpAny _ _ (Builtin.SmallTypes.nextOrEnd (.ref j1)) _ _ ⟨k0, gn, dr, t0, os⟩
  refine draw_none D1 (D1.over st1 b0 S.zf1) fun q1 c1 => ?_
  replace c1 : Heap.ExtBut j1 k0 q1 := c1
  have zq : IsZs q1 z ti to_ .ellipsis := c1 _ _ S.zi1 z0
  refine wpAny_bind (wpAny_setField_rec (s := ⟨q1, gn, dr, t0, os⟩) zq (by simp) fun k1 _ b1 => ?_)
  replace b1 : Heap.SameBut z q1 k1 := b1
  refine wpAny_bind ?_
  wp_step
  rw [if_neg (by decide)]
  dsimp only
  simp only [List.drop_succ_cons, List.drop_zero, List.zipIdx_cons, List.zipIdx_nil, List.forIn_cons, List.forIn_nil]
  have v2 : S2 n k1 := by
    have y0 := D2.over st2 b0 S.zf2
    have y1 : S2 n q1 := D2.frame _ _ _ y0 fun b hb o e => c1 b o (fun y => S.sep1_2 (y ▸ hb)) e
    exact D2.over y1 b1 S.zf2
  refine wpAny_bind (wpAny_bind (wpAny_bind ?_))
  refine draw_none (s := ⟨k1, gn, dr, t0, os⟩) D2 v2 fun q2 c2 => ?_
  replace c2 : Heap.ExtBut j2 k1 q2 := c2
  simp only [Option.isSome_none, Bool.false_eq_true, if_false]
  refine wpAny_pure (wpAny_pure ?_)
  refine wpAny_bind (wpAny_rule ?_)
  show wpAny _ _ (newExc (.type "StopIteration") [] >>= _) _ _ _
  refine wpAny_bind ?_
  simp only [newExc, newTuple]
  refine wpAny_bind (wpAny_newObj_type (wpAny_bind (m := firstArgMember _ _) (wpAny_of_eq (a := Value.none) (by first | rfl | (simp only [firstArgMember]; rfl)) (wpAny_newObj_type ?_ (by size_fits)))) (by size_fits))
  simp only [raiseNew]
  refine wpAny_bind (wpAny_handled ?_)
  rw [hh]
  refine wpAny_bind (wpAny_pure (wpAny_throw (fin _ _ _ (fun c o y0 y1 y2 y3 e => ?_) ⟨_, Heap.get?_push_size _ rfl, rfl⟩)))
  exact Heap.get?_push_of_some _ (Heap.get?_push_of_some _ (c2 _ _ y3 (b1.extBut _ _ y0 (c1 _ _ y2 (b0.extBut _ _ y0 e)))))
theorem strict_next_item {Q : Option Value → Shared → Prop} (S : ZipSep2 z ti to_ j1 j2 f1 f2) (D1 : Draws prog w A.in1 j1 f1 n P1 S1) (D2 : Draws prog w A.in1 j2 f2 n P2 S2)
    (hz : IsZs s.heap z ti to_ .none) (hi : IsTupOf2 s.heap ti (.ref j1) (.ref j2)) (ho : IsTupOf2 s.heap to_ a1 a2) (st1 : S1 i s.heap) (st2 : S2 i s.heap) (lt : i < n)
    (fin : ∀ x1 x2 h' tk, P1 i x1 → P2 i x2 → IsZs h' z ti to_ (rawInt s.heap.objs.size) → IsTupOf2 h' to_ x1 x2 → S1 (i + 1) h' → S2 (i + 1) h' → IsTupOf2 h' s.heap.objs.size x1 x2 → h'.objs.size = s.heap.objs.size + 1 →
      (∀ c o, c ≠ z → c ≠ to_ → c ≠ j1 → c ≠ j2 → s.heap.get? c = some o → h'.get? c = some o) → Q (some (.ref s.heap.objs.size)) { s with heap := h', toks := tk }) :
    wpAny (model prog w) A (pyNext (.ref z)) Q E s := by
  have ty : s.TypeIs (.ref z) "zip" := ⟨_, hz, rfl⟩
  unfold pyNext
  exact wpAny_bind (wpAny_attempt (wpAny_callSpecial?_slot (name := Str.ofString "__next__") ty F.slot_zip_next (wpAny_call_entry F.slot_zip_next ty F.entry_zip_next
    (strict_item S D1 D2 hz hi ho st1 st2 lt fun x1 x2 h' tk y1 y2 y3 y4 y5 y6 y7 y8 y9 => wpAny_pure (fin x1 x2 h' tk y1 y2 y3 y4 y5 y6 y7 y8 y9)) (F.args_zip_next_1 _))))
theorem strict_next_end {Q : Option Value → Shared → Prop} (hh : A.handled = none) (S : ZipSep2 z ti to_ j1 j2 f1 f2) (D1 : Draws prog w A.in1 j1 f1 n P1 S1) (D2 : Draws prog w A.in1 j2 f2 n P2 S2)
    (hz : IsZs s.heap z ti to_ .none) (hi : IsTupOf2 s.heap ti (.ref j1) (.ref j2)) (ho : IsTupOf2 s.heap to_ a1 a2) (st1 : S1 n s.heap) (st2 : S2 n s.heap)
    (fin : ∀ h' tk, (∀ c o, c ≠ z → c ≠ to_ → c ≠ j1 → c ≠ j2 → s.heap.get? c = some o → h'.get? c = some o) → Q none { s with heap := h', toks := tk }) : wpAny (model prog w) A (pyNext (.ref z)) Q E s := by
  have ty : s.TypeIs (.ref z) "zip" := ⟨_, hz, rfl⟩
  unfold pyNext
  refine wpAny_bind (wpAny_attempt (wpAny_callSpecial?_slot (name := Str.ofString "__next__") ty F.slot_zip_next (wpAny_call_entry F.slot_zip_next ty F.entry_zip_next
    (strict_end hh S D1 D2 hz hi ho st1 st2 fun h' tk e y ⟨o, ho, hc⟩ => ?_) (F.args_zip_next_1 _))))
  exact wpAny_bind (wpAny_isInstance (T := "StopIteration") (b := true) ⟨o, ho, hc⟩ isSubtype_stop (wpAny_pure (fin h' tk y)))
theorem strict_go {es : List Expr} {k} {pos : Pos} {T : Addr} {Q : Unit → Shared → Prop} (hz : IsZs s.heap z ti to_ (rawInt T)) (fin : ∀ h', IsZs h' z ti to_ .none → Heap.SameBut z s.heap h' → Q () { s with heap := h' }) :
    wpAny (model prog w) A (letOwnedTupleGo (.Tuple es k pos) (.ref z) (.ref T)) Q E s := by
  unfold letOwnedTupleGo
  refine wpAny_bind (wpAny_load hz ?_)
  show wpAny _ _ (if (_ && (#[rawInt T, .bool false, .bool true, .ref ti, .ref to_] : Array Value)[0]? == some (rawInt T)) = true then _ else _) Q E s
  rw [if_pos (by simp)]
  refine wpAny_bind (wpAny_rule ?_)
  show wpAny _ _ (setField (.ref z) 0 .none) Q E s
  exact wpAny_setField_rec hz (by simp) fun h' z' b' => fin h' z' b'
theorem strict_iter {f0 : Value} {Q : Value → Shared → Prop} (hz : IsZs s.heap z ti to_ f0) (h : Q (.ref z) s) : wpAny (model prog w) A (pyIter (.ref z)) Q E s := by
  have ty : s.TypeIs (.ref z) "zip" := ⟨_, hz, rfl⟩
  refine wpAny_pyIter_slot ty F.slot_zip_iter (wpAny_call_entry F.slot_zip_iter ty F.entry_zip_iter ?_ (F.args_zip_iter_1 _))
  show wpAny _ _ (ret (.ref z)) _ _ s
  exact wpAny_pure ⟨_, rfl, "zip", _, ty, F.slot_zip_next.lookup, h⟩
end
/-! ### zip(a, b, strict=True) begins -/
theorem tc_zip (a b : Value) : checkTypeCall "zip" ⟨[a, b], [(Str.ofString "strict", .bool true)]⟩ = pure () := by kernel_rfl
theorem nc_zip (a b : Value) : checkBuiltinCall "zip.__new__" ⟨[.type "zip", a, b], [(Str.ofString "strict", .bool true)]⟩ = pure () := by kernel_rfl
theorem ao_zip (o a b : Value) : argsOk "object.__init__" ⟨[o, a, b], [(Str.ofString "strict", .bool true)]⟩ := by unfold argsOk; kernel_rfl
abbrev zs2 (h : Heap) (o1 o2 : Obj) : Heap := (gzO2 h o1 o2).push { cls := .type "zip", data := .fields #[.none, .bool false, .bool true, .ref ((h.push o1).push o2).objs.size, .ref (gzT2 h o1 o2).objs.size] }
set_option maxHeartbeats 1000000 in
theorem new_strict {v1 v2 : Value} {o1 o2 : Obj} {H1 H2 : Heap → Prop} (B1 : Begins v1 o1 H1) (B2 : Begins v2 o2 H2) :
    Meets (Builtin.«zip.__new__» ⟨[.type "zip", v1, v2], [(Str.ofString "strict", .bool true)]⟩) (fun _ R s => (H1 s.heap ∧ H2 s.heap) ∧ R (.ok (.ret (.ref (gzO2 s.heap o1 o2).objs.size))) { s with heap := zs2 s.heap o1 o2 }) :=
  .of_wp fun prog w A R s h => by
    obtain ⟨hp, gn, dr, t0, os⟩ := s
    obtain ⟨⟨h1, h2⟩, h⟩ := h
    have hsub := sub_zip
    have r1 : ∀ {A' : Around} {E : Value → Shared → Prop} {Q : Value → Shared → Prop}, Q (.ref hp.objs.size) ⟨hp.push o1, gn, dr, t0, os⟩ → wpAny (model prog w) A' (pyIter v1) Q E ⟨hp, gn, dr, t0, os⟩ :=
      fun q => B1.iter prog w _ _ ⟨hp, gn, dr, t0, os⟩ _ (B1.keeps _ _ h1 fun _ _ e => e) q
    have r2 : ∀ {A' : Around} {E : Value → Shared → Prop} {Q : Value → Shared → Prop}, Q (.ref (hp.push o1).objs.size) ⟨(hp.push o1).push o2, gn, dr, t0, os⟩ → wpAny (model prog w) A' (pyIter v2) Q E ⟨hp.push o1, gn, dr, t0, os⟩ :=
      fun q => B2.iter prog w _ _ ⟨hp.push o1, gn, dr, t0, os⟩ _ (B2.keeps _ _ h2 fun _ _ e => Heap.get?_push_of_some _ e) q
    have e1 : (Str.ofString "strict" != ("strict" : Str)) = false := by decide +kernel
    have e2 : (Str.ofString "strict" == ("strict" : Str)) = true := by decide +kernel
    wp_walk using r1, r2
    exact ⟨_, rfl, h⟩
section
variable {prog : Program} {w : World} {A : Around} {E : Value → Shared → Prop} {s : Shared}
theorem strict_begins {v1 v2 : Value} {o1 o2 : Obj} {H1 H2 : Heap → Prop} {Q : Value → Shared → Prop} (B1 : Begins v1 o1 H1) (B2 : Begins v2 o2 H2) (h1 : H1 s.heap) (h2 : H2 s.heap)
    (fin : ∀ h', IsZs h' (s.heap.objs.size + 4) (s.heap.objs.size + 2) (s.heap.objs.size + 3) .none → IsTupOf2 h' (s.heap.objs.size + 2) (.ref s.heap.objs.size) (.ref (s.heap.objs.size + 1)) →
      IsTupOf2 h' (s.heap.objs.size + 3) .none .none → h'.get? s.heap.objs.size = some o1 → h'.get? (s.heap.objs.size + 1) = some o2 → h'.objs.size = s.heap.objs.size + 5 →
      (∀ c o, s.heap.get? c = some o → h'.get? c = some o) → Q (.ref (s.heap.objs.size + 4)) { s with heap := h' }) :
    wpAny (model prog w) A (call (.type "zip") [v1, v2] [(Str.ofString "strict", .bool true)]) Q E s := by
  refine callType_newKw F.called_zip (by decide) (tc_zip v1 v2) (nc_zip v1 v2) (fun obj => ao_zip obj v1 v2) F.entry_zip_new (new_strict B1 B2) ⟨⟨h1, h2⟩, ?_⟩
  have n1 : (s.heap.push o1).objs.size = s.heap.objs.size + 1 := by rw [Heap.size_push]
  have n2 : ((s.heap.push o1).push o2).objs.size = s.heap.objs.size + 2 := by rw [Heap.size_push, n1]
  have n3 : (gzT2 s.heap o1 o2).objs.size = s.heap.objs.size + 3 := by show ((((s.heap.push o1).push o2).push _)).objs.size = _; rw [Heap.size_push, n2]
  have n4 : (gzO2 s.heap o1 o2).objs.size = s.heap.objs.size + 4 := by show ((gzT2 s.heap o1 o2).push _).objs.size = _; rw [Heap.size_push, n3]
  have hz : IsZs (zs2 s.heap o1 o2) (s.heap.objs.size + 4) (s.heap.objs.size + 2) (s.heap.objs.size + 3) .none := by
    have q := Heap.get?_push_size (gzO2 s.heap o1 o2) (o := { cls := .type "zip", data := .fields #[.none, .bool false, .bool true, .ref ((s.heap.push o1).push o2).objs.size, .ref (gzT2 s.heap o1 o2).objs.size] }) rfl
    rw [n4, n2, n3] at q
    show (zs2 s.heap o1 o2).get? _ = _
    unfold zs2
    rw [n2, n3]
    exact q
  have hTO : IsTupOf2 (gzO2 s.heap o1 o2) (s.heap.objs.size + 3) .none .none := by
    have q := Heap.get?_push_size (gzT2 s.heap o1 o2) (o := { cls := .type "tuple", data := .seq #[.none, .none] }) rfl
    rw [n3] at q
    exact q
  have hTI : IsTupOf2 (gzT2 s.heap o1 o2) (s.heap.objs.size + 2) (.ref s.heap.objs.size) (.ref (s.heap.objs.size + 1)) := by
    have q := Heap.get?_push_size ((s.heap.push o1).push o2) (o := { cls := .type "tuple", data := .seq #[.ref s.heap.objs.size, .ref (s.heap.push o1).objs.size] }) rfl
    rw [n2] at q
    show ((((s.heap.push o1).push o2).push _)).get? _ = _
    rw [n1]
    rw [n1] at q
    exact q
  have l1 : (s.heap.push o1).get? s.heap.objs.size = some o1 := Heap.get?_push_size _ B1.free
  have l2 : ((s.heap.push o1).push o2).get? (s.heap.objs.size + 1) = some o2 := by
    have q := Heap.get?_push_size (s.heap.push o1) (o := o2) B2.free
    rw [n1] at q
    exact q
  rw [n4]
  refine ⟨⟨_, hz, rfl⟩, fin _ hz (Heap.get?_push_of_some _ (Heap.get?_push_of_some _ hTI)) (Heap.get?_push_of_some _ hTO) ?_ ?_ (by show ((gzO2 s.heap o1 o2).push _).objs.size = _; rw [Heap.size_push, n4]) fun c o e => ?_⟩
  · exact Heap.get?_push_of_some _ (Heap.get?_push_of_some _ (Heap.get?_push_of_some _ (Heap.get?_push_of_some _ l1)))
  · exact Heap.get?_push_of_some _ (Heap.get?_push_of_some _ (Heap.get?_push_of_some _ l2))
  · exact Heap.get?_push_of_some _ (Heap.get?_push_of_some _ (Heap.get?_push_of_some _ (Heap.get?_push_of_some _ (Heap.get?_push_of_some _ e))))
end
end FLZ

set_option Elab.async false
set_option linter.all false
set_option maxRecDepth 100000
/-! FLT: what a loop walks: a list or a tuple (told by a Bool), enumerate and zip over such, strict or not. -/
namespace FL
open PySem PySem.Spec PyProof.Rows L2 FLZ
def isG (h : Heap) (k : Bool) (a : Addr) (its : Array Value) : Prop := if k = true then h.IsTuple a its else h.IsList a its
def itG (h : Heap) (k : Bool) (it a : Addr) (i : Nat) : Prop := if k = true then h.IsTupleIter it a i else h.IsListIter it a i
def SqG (K : PySem.W.Frag) (H : Hp) (k : Bool) (a : Addr) (xs : List V) : Prop := if k = true then SqT K H a xs else SqL K H a xs
def itO (k : Bool) (a : Addr) : Obj := if k = true then { cls := .type "tuple_iterator", data := .fields #[.ref a, .int 0 0] } else { cls := .type "list_iterator", data := .fields #[.ref a, .int 0 0] }
theorem drawsG {prog : Program} {w : World} {A : Around} (hh : A.handled = none) (k : Bool) (it a : Addr) (ne : a ≠ it) (its : Array Value) :
    Draws prog w A it [it, a] its.size (fun i v => its[i]? = some v) (fun i h => itG h k it a i ∧ isG h k a its) := by
  cases k
  · exact Draws.list hh it a ne its
  · exact Draws.tuple hh it a ne its
theorem beginsG (k : Bool) (a : Addr) (its : Array Value) : Begins (.ref a) (itO k a) fun h => isG h k a its := by
  cases k
  · exact begins_list a its
  · exact begins_tuple a its
theorem itG_new {h : Heap} {k : Bool} {it a : Addr} (e : h.get? it = some (itO k a)) : itG h k it a 0 := by
  cases k
  · exact ⟨_, e, rfl, rfl⟩
  · exact ⟨_, e, rfl, rfl⟩
theorem itG.at {h h' : Heap} {k : Bool} {it a : Addr} {i : Nat} (s : itG h k it a i) (e : ∀ o, h.get? it = some o → h'.get? it = some o) : itG h' k it a i := by
  cases k
  · exact Heap.IsListIter.at s e
  · exact Heap.IsTupleIter.at s e
theorem itG.there {h : Heap} {k : Bool} {it a : Addr} {i : Nat} (s : itG h k it a i) : ∃ o, h.get? it = some o ∧ ∀ v, o.data ≠ .cell v := by
  cases k
  · obtain ⟨o, e, c, d⟩ := s
    exact ⟨o, e, fun v z => by rw [d] at z; cases z⟩
  · obtain ⟨o, e, c, d⟩ := s
    exact ⟨o, e, fun v z => by rw [d] at z; cases z⟩
section
variable {X : Cx} {pins : List (Addr × Obj)} {σ : L2.St} {H : Hp} {s : Shared} {k : Bool} {a b : Addr} {xs ys : List V}
theorem Inv.seqG (I : Inv X pins σ H s) (h : SqG X.K H k a xs) : ∃ its : List Value, Vals xs its ∧ isG s.heap k a its.toArray := by
  cases k
  · obtain ⟨its, r, p, _⟩ := I.list h
    exact ⟨its, r, p.isList⟩
  · obtain ⟨its, r, p, _⟩ := I.tuple h
    exact ⟨its, r, p⟩
theorem Inv.seqG_inj (I : Inv X pins σ H s) (h : SqG X.K H k a xs) (h' : SqG X.K H k a ys) : xs = ys := by
  cases k
  · exact I.list_inj h h'
  · exact I.tuple_inj h h'
theorem Inv.seq_ne (I : Inv X pins σ H s) (h : SqG X.K H k a xs) (f : FpOk X pins H b) : a ≠ b := by
  intro e
  have tr : ∀ o, H a = some o → False := fun o q => by rw [e, f.1] at q; cases q
  have ks : ∀ o, X.K.lookup a = some o → False := fun o q => by
    have e1 := I.ok.mod.kin a o q
    have e2 := (I.ok.bs a o e1).1
    rcases f.2.2.2.1 with z | z
    · exact I.ok.noex a o e1 (e ▸ z)
    · have lt := Heap.lt_size e2
      rw [e] at lt
      exact absurd (Nat.lt_of_lt_of_le lt z) (Nat.lt_irrefl _)
  cases k
  · rcases h with (h | ⟨o, h⟩) | ⟨o, its, n, h, _⟩
    · exact tr _ h
    · exact tr _ h
    · exact ks _ h
  · rcases h with (h | ⟨o, h⟩) | ⟨o, its, n, h, _⟩
    · exact tr _ h
    · exact tr _ h
    · exact ks _ h
end
/-! ### enumerate -/
def ItEn (K : PySem.W.Frag) (k : Bool) (a : Addr) : It :=
  ⟨fun i H => ∃ (xs : List V) (x : V), SqG K H k a xs ∧ xs[i]? = some x,
   fun i H v H' => ∃ T x, v = .ref T ∧ H T = none ∧ H' = upd H T (.tup [.int (i : Nat), x]) ∧ ∀ xs, SqG K H k a xs → xs[i]? = some x,
   fun i H => ∃ xs : List V, SqG K H k a xs ∧ xs.length = i⟩
theorem turn_enG {P : Program} {w : World} {K : PySem.W.Frag} {es : List Expr} {kk : Nat} {tp : Pos} (k : Bool) (a e it : Addr) :
    Turn P w K (.Tuple es kk tp) (ItEn K k a) [e, it] e (fun i h => (∃ old, IsEnum h e it ((i : Nat) : Int) old) ∧ itG h k it a i ∧ e ≠ it) where
  mem := by simp
  obj := fun i h st b hb => by
    obtain ⟨⟨old, he⟩, hi, _⟩ := st
    rcases (show b = e ∨ b = it by simpa using hb) with rfl | rfl
    · exact ⟨_, he, fun v q => nomatch q⟩
    · exact hi.there
  keep := fun i h h' st kp => ⟨st.1.imp fun _ he => kp e (by simp) _ he, st.2.1.at fun o q => kp it (by simp) o q, st.2.2⟩
  item := by
    intro X hP hw hK hc i pins s σ H E I hf st hg
    subst hP hw hK
    obtain ⟨⟨old, he⟩, hit, ne⟩ := st
    obtain ⟨xs, x, hq, hx⟩ := hg
    obtain ⟨its, rv, hl⟩ := Inv.seqG I hq
    obtain ⟨u, hu, ru⟩ := rv.get hx
    have nae : a ≠ e := Inv.seq_ne I hq (hf e (by simp))
    have nai : a ≠ it := Inv.seq_ne I hq (hf it (by simp))
    have el : e < s.heap.objs.size := Heap.lt_size he
    have il : it < s.heap.objs.size := by obtain ⟨_, q, _⟩ := hit.there; exact Heap.lt_size q
    have lt : i < its.toArray.size := by
      have := (List.getElem?_eq_some_iff.mp hu).1
      simpa using this
    refine wpAny_pyNext_enum_itemC (drawsG (by show X.A.handled = none; exact I.ok.hd hc) k it a nai its.toArray) he ⟨hit, hl⟩ lt ne (by simp [ne, Ne.symm nae]) fun y h1 tk hy ho st1 hT hz kp => ?_
    have hy' : y = u := by
      have z : its.toArray[i]? = some u := by simpa using hu
      rw [z] at hy
      exact (Option.some.inj hy).symm
    subst hy'
    refine ⟨_, rfl, wpAny_letOwnedTupleGo_enum (s := { s with heap := h1, toks := tk + 1 }) ho fun h2 he2 sb => ?_⟩
    have hT2 : h2.get? s.heap.objs.size = some { cls := .type "tuple", data := .seq #[.int i tk, y] } := (sb.2 _ (Nat.ne_of_gt el)).trans hT
    have new : ObjOk X.prog X.w (upd H s.heap.objs.size (.tup [.int (i : Nat), x])) h2 s.heap.objs.size (.tup [.int (i : Nat), x]) :=
      ⟨by show 2 ≤ sizeLine; decide, [.int i tk, y], .cons ⟨_, rfl⟩ (.cons ru .nil), ⟨_, hT2, rfl, _, rfl⟩⟩
    have J : Inv X pins σ (upd H s.heap.objs.size (.tup [.int (i : Nat), x])) { s with heap := h2, toks := tk + 1 } :=
      I.turnedNew (ch := [e, it]) (fun c o hc q => (sb.2 c (fun z => hc (by simp [z]))).trans (kp c o (fun z => hc (by simp [z])) (fun z => hc (by simp [z])) q)) hf (Nat.le_refl _) new
    refine ⟨.ref s.heap.objs.size, _, J, rfl, ⟨_, x, rfl, I.hok.fresh (Nat.le_refl _), rfl, fun ys hys => by rw [Inv.seqG_inj I hys hq]; exact hx⟩, ⟨⟨y, ?_⟩, st1.1.at fun o q => (sb.2 it (Ne.symm ne)).trans q, ne⟩, fun c hc => ?_⟩
    · have e1 : ((i + 1 : Nat) : Int) = (i : Int) + 1 := by omega
      rw [e1]; exact he2
    · have lc : c < s.heap.objs.size := by
        rcases (show c = e ∨ c = it by simpa using hc) with z | z
        · rw [z]; exact el
        · rw [z]; exact il
      rw [upd_ne (Nat.ne_of_lt lc)]
      exact (hf c hc).1
  done := by
    intro X hP hw hK hc i pins s σ H E I hf st hg
    subst hP hw hK
    obtain ⟨⟨old, he⟩, hit, ne⟩ := st
    obtain ⟨xs, hq, hx⟩ := hg
    obtain ⟨its, rv, hl⟩ := Inv.seqG I hq
    have nai : a ≠ it := Inv.seq_ne I hq (hf it (by simp))
    obtain ⟨f0, f1, f2, f3, f4, f5⟩ := hf it (by simp)
    have sz : its.toArray.size = i := by simp [← rv.length, hx]
    have D := drawsG (prog := X.prog) (w := X.w) (A := X.A.in1) (by show X.A.handled = none; exact I.ok.hd hc) k it a nai its.toArray
    rw [sz] at D
    exact wpAny_pyNext_enum_endD D he ⟨hit, hl⟩ fun h1 eb => ⟨rfl, I.turned (t' := s.toks) (fun c o hc q => eb c o hc q) f0 f1 f3 f4 f5⟩
  self := fun A i s Q E st h => let ⟨⟨_, he⟩, _⟩ := st; wpAny_pyIter_enum he h
/-! ### zip -/
def IsZb (b : Bool) (h : Heap) (z ti to_ : Addr) (f0 : Value) : Prop := if b = true then IsZs h z ti to_ f0 else IsZip h z ti to_ f0
def ItZp (K : PySem.W.Frag) (b k1 k2 : Bool) (a c : Addr) : It :=
  ⟨fun i H => ∃ (xs ys : List V) (x y : V), SqG K H k1 a xs ∧ SqG K H k2 c ys ∧ xs[i]? = some x ∧ ys[i]? = some y ∧ (b = true → xs.length = ys.length),
   fun i H v H' => ∃ T x y, v = .ref T ∧ H T = none ∧ H' = upd H T (.tup [x, y]) ∧ (∀ xs, SqG K H k1 a xs → xs[i]? = some x) ∧ ∀ ys, SqG K H k2 c ys → ys[i]? = some y,
   fun i H => ∃ xs ys : List V, SqG K H k1 a xs ∧ SqG K H k2 c ys ∧ i ≤ xs.length ∧ i ≤ ys.length ∧ (if b = true then xs.length = i ∧ ys.length = i else (i = xs.length ∨ i = ys.length))⟩
structure Zap (z ti to_ j1 j2 : Addr) : Prop where
  a1 : ti ≠ z
  a2 : to_ ≠ z
  a3 : ti ≠ to_
  a4 : ti ≠ j1
  a5 : ti ≠ j2
  a6 : to_ ≠ j1
  a7 : to_ ≠ j2
  a8 : j1 ≠ z
  a9 : j2 ≠ z
  a10 : j1 ≠ j2
theorem turn_zpG {P : Program} {w : World} {K : PySem.W.Frag} {es : List Expr} {kk : Nat} {tp : Pos} (b k1 k2 : Bool) {a c z ti to_ j1 j2 : Addr} (Z : Zap z ti to_ j1 j2) :
    Turn P w K (.Tuple es kk tp) (ItZp K b k1 k2 a c) [z, ti, to_, j1, j2] z (fun i h => IsZb b h z ti to_ .none ∧ IsTupOf2 h ti (.ref j1) (.ref j2) ∧ (∃ x y, IsTupOf2 h to_ x y) ∧ itG h k1 j1 a i ∧ itG h k2 j2 c i) where
  mem := by simp
  obj := fun i h st d hd => by
    obtain ⟨hz, h1, ⟨x, y, h2⟩, h3, h4⟩ := st
    rcases (show d = z ∨ d = ti ∨ d = to_ ∨ d = j1 ∨ d = j2 by simpa using hd) with rfl | rfl | rfl | rfl | rfl
    · cases b
      · exact ⟨_, hz, fun v q => nomatch q⟩
      · exact ⟨_, hz, fun v q => nomatch q⟩
    · exact ⟨_, h1, fun v q => nomatch q⟩
    · exact ⟨_, h2, fun v q => nomatch q⟩
    · exact h3.there
    · exact h4.there
  keep := fun i h h' st kp => by
    obtain ⟨hz, h1, ⟨x, y, h2⟩, h3, h4⟩ := st
    refine ⟨?_, kp ti (by simp) _ h1, ⟨x, y, kp to_ (by simp) _ h2⟩, h3.at fun o q => kp j1 (by simp) o q, h4.at fun o q => kp j2 (by simp) o q⟩
    cases b
    · exact kp z (by simp) _ hz
    · exact kp z (by simp) _ hz
  item := by
    intro X hP hw hK hc i pins s σ H E I hf st hg
    subst hP hw hK
    obtain ⟨hz, h1, ⟨x0, y0, h2⟩, h3, h4⟩ := st
    obtain ⟨xs, ys, x, y, hqx, hqy, hx, hy, heq⟩ := hg
    obtain ⟨its, rv, hl⟩ := Inv.seqG I hqx
    obtain ⟨its2, rv2, hl2⟩ := Inv.seqG I hqy
    obtain ⟨u, hu, ru⟩ := rv.get hx
    obtain ⟨u2, hu2, ru2⟩ := rv2.get hy
    have na : ∀ d ∈ [z, ti, to_, j1, j2], a ≠ d := fun d hd => Inv.seq_ne I hqx (hf d hd)
    have nc : ∀ d ∈ [z, ti, to_, j1, j2], c ≠ d := fun d hd => Inv.seq_ne I hqy (hf d hd)
    have hzg : ∃ o, s.heap.get? z = some o := by cases b <;> exact ⟨_, hz⟩
    have zl : z < s.heap.objs.size := by obtain ⟨_, q⟩ := hzg; exact Heap.lt_size q
    have lt1 : i < its.toArray.size := by have := (List.getElem?_eq_some_iff.mp hu).1; simpa using this
    have lt2 : i < its2.toArray.size := by have := (List.getElem?_eq_some_iff.mp hu2).1; simpa using this
    have S : ZipSep2 z ti to_ j1 j2 [j1, a] [j2, c] :=
      { TIz := Z.a1, TOz := Z.a2, TITO := Z.a3, TIi1 := Z.a4, mem1 := by simp, zf1 := by simp [Ne.symm Z.a8, Ne.symm (na z (by simp))], Tf1 := by simp [Z.a6, Ne.symm (na to_ (by simp))],
        TIi2 := Z.a5, mem2 := by simp, zf2 := by simp [Ne.symm Z.a9, Ne.symm (nc z (by simp))], Tf2 := by simp [Z.a7, Ne.symm (nc to_ (by simp))],
        sep1_2 := by simp [Z.a10, Ne.symm (nc j1 (by simp))], sep2_1 := by simp [Ne.symm Z.a10, Ne.symm (na j2 (by simp))] }
    have hd1 : X.A.in1.handled = none := by show X.A.handled = none; exact I.ok.hd hc
    have D1 := drawsG (prog := X.prog) (w := X.w) hd1 k1 j1 a (na j1 (by simp)) its.toArray
    have D2 := drawsG (prog := X.prog) (w := X.w) hd1 k2 j2 c (nc j2 (by simp)) its2.toArray
    have eqx : ∀ {v}, its.toArray[i]? = some v → v = u := fun q => by
      have z : its.toArray[i]? = some u := by simpa using hu
      rw [z] at q; exact (Option.some.inj q).symm
    have eqy : ∀ {v}, its2.toArray[i]? = some v → v = u2 := fun q => by
      have z : its2.toArray[i]? = some u2 := by simpa using hu2
      rw [z] at q; exact (Option.some.inj q).symm
    -- behind the draw
    have fin : ∀ (h' : Heap) (tk : Nat), IsZb b h' z ti to_ (rawInt s.heap.objs.size) → IsTupOf2 h' to_ u u2 → itG h' k1 j1 a (i + 1) → itG h' k2 j2 c (i + 1) → IsTupOf2 h' s.heap.objs.size u u2 → h'.objs.size = s.heap.objs.size + 1 →
        (∀ d o, d ≠ z → d ≠ to_ → d ≠ j1 → d ≠ j2 → s.heap.get? d = some o → h'.get? d = some o) →
        wpAny (model X.prog X.w) X.A (letOwnedTupleGo (.Tuple es kk tp) (.ref z) (.ref s.heap.objs.size)) (fun _ s2 => ∃ w H', Inv X pins σ H' s2 ∧ RelV w (.ref s.heap.objs.size) ∧ (ItZp X.K b k1 k2 a c).yld i H w H' ∧
          (IsZb b s2.heap z ti to_ .none ∧ IsTupOf2 s2.heap ti (.ref j1) (.ref j2) ∧ (∃ x y, IsTupOf2 s2.heap to_ x y) ∧ itG s2.heap k1 j1 a (i + 1) ∧ itG s2.heap k2 j2 c (i + 1)) ∧ ∀ d ∈ [z, ti, to_, j1, j2], H' d = none) E { s with heap := h', toks := tk } := by
      intro h' tk z' t' g1 g2 hT hsz hk
      have after : ∀ h'', IsZb b h'' z ti to_ .none → Heap.SameBut z h' h'' → ∃ w H', Inv X pins σ H' { s with heap := h'', toks := tk } ∧ RelV w (.ref s.heap.objs.size) ∧ (ItZp X.K b k1 k2 a c).yld i H w H' ∧
          (IsZb b h'' z ti to_ .none ∧ IsTupOf2 h'' ti (.ref j1) (.ref j2) ∧ (∃ x y, IsTupOf2 h'' to_ x y) ∧ itG h'' k1 j1 a (i + 1) ∧ itG h'' k2 j2 c (i + 1)) ∧ ∀ d ∈ [z, ti, to_, j1, j2], H' d = none := by
        intro h'' z'' sb
        have hT2 : h''.get? s.heap.objs.size = some { cls := .type "tuple", data := .seq #[u, u2] } := (sb.2 _ (Nat.ne_of_gt zl)).trans hT
        have new : ObjOk X.prog X.w (upd H s.heap.objs.size (.tup [x, y])) h'' s.heap.objs.size (.tup [x, y]) :=
          ⟨by show 2 ≤ sizeLine; decide, [u, u2], .cons ru (.cons ru2 .nil), ⟨_, hT2, rfl, _, rfl⟩⟩
        have J : Inv X pins σ (upd H s.heap.objs.size (.tup [x, y])) { s with heap := h'', toks := tk } :=
          I.turnedNew (ch := [z, ti, to_, j1, j2]) (fun d o hd q => (sb.2 d (fun e => hd (by simp [e]))).trans (hk d o (fun e => hd (by simp [e])) (fun e => hd (by simp [e])) (fun e => hd (by simp [e])) (fun e => hd (by simp [e])) q)) hf (Nat.le_refl _) new
        refine ⟨.ref s.heap.objs.size, _, J, rfl, ⟨_, x, y, rfl, I.hok.fresh (Nat.le_refl _), rfl, fun l hl => by rw [Inv.seqG_inj I hl hqx]; exact hx, fun l hl => by rw [Inv.seqG_inj I hl hqy]; exact hy⟩, ⟨z'', ?_, ⟨u, u2, ?_⟩, ?_, ?_⟩, fun d hd => ?_⟩
        · exact (sb.2 _ Z.a1).trans (hk _ _ Z.a1 Z.a3 Z.a4 Z.a5 h1)
        · exact (sb.2 _ Z.a2).trans t'
        · exact g1.at fun o q => (sb.2 _ Z.a8).trans q
        · exact g2.at fun o q => (sb.2 _ Z.a9).trans q
        · have lt : d < s.heap.objs.size := by
            rcases (show d = z ∨ d = ti ∨ d = to_ ∨ d = j1 ∨ d = j2 by simpa using hd) with q | q | q | q | q
            · rw [q]; exact zl
            · rw [q]; exact Heap.lt_size h1
            · rw [q]; exact Heap.lt_size h2
            · rw [q]; obtain ⟨_, e1, _⟩ := h3.there; exact Heap.lt_size e1
            · rw [q]; obtain ⟨_, e1, _⟩ := h4.there; exact Heap.lt_size e1
          rw [upd_ne (Nat.ne_of_lt lt)]
          exact (hf d hd).1
      cases b
      · exact wpAny_letOwnedTupleGo_zip (s := { s with heap := h', toks := tk }) z' fun h'' z'' sb => after h'' z'' sb
      · exact strict_go (s := { s with heap := h', toks := tk }) z' fun h'' z'' sb => after h'' z'' sb
    cases b
    · refine wpAny_pyNext_zipD2_item S D1 D2 hz h1 h2 ⟨h3, hl⟩ ⟨h4, hl2⟩ lt1 lt2 fun v1 v2 h' tk e1 e2 z' t' g1 g2 hT hsz hk => ⟨_, rfl, ?_⟩
      rw [eqx e1, eqy e2] at t' hT
      exact fin h' tk z' t' g1.1 g2.1 hT hsz hk
    · have same : its.toArray.size = its2.toArray.size := by
        have := heq rfl
        have := rv.length
        have := rv2.length
        simp
        omega
      rw [← same] at D2
      refine strict_next_item S D1 D2 hz h1 h2 ⟨h3, hl⟩ ⟨h4, hl2⟩ lt1 fun v1 v2 h' tk e1 e2 z' t' g1 g2 hT hsz hk => ⟨_, rfl, ?_⟩
      rw [eqx e1, eqy e2] at t' hT
      exact fin h' tk z' t' g1.1 g2.1 hT hsz hk
  done := by
    intro X hP hw hK hc i pins s σ H E I hf st hg
    subst hP hw hK
    obtain ⟨hz, h1, ⟨x0, y0, h2⟩, h3, h4⟩ := st
    obtain ⟨xs, ys, hqx, hqy, le1, le2, hend⟩ := hg
    obtain ⟨its, rv, hl⟩ := Inv.seqG I hqx
    obtain ⟨its2, rv2, hl2⟩ := Inv.seqG I hqy
    have na : ∀ d ∈ [z, ti, to_, j1, j2], a ≠ d := fun d hd => Inv.seq_ne I hqx (hf d hd)
    have nc : ∀ d ∈ [z, ti, to_, j1, j2], c ≠ d := fun d hd => Inv.seq_ne I hqy (hf d hd)
    have S : ZipSep2 z ti to_ j1 j2 [j1, a] [j2, c] :=
      { TIz := Z.a1, TOz := Z.a2, TITO := Z.a3, TIi1 := Z.a4, mem1 := by simp, zf1 := by simp [Ne.symm Z.a8, Ne.symm (na z (by simp))], Tf1 := by simp [Z.a6, Ne.symm (na to_ (by simp))],
        TIi2 := Z.a5, mem2 := by simp, zf2 := by simp [Ne.symm Z.a9, Ne.symm (nc z (by simp))], Tf2 := by simp [Z.a7, Ne.symm (nc to_ (by simp))],
        sep1_2 := by simp [Z.a10, Ne.symm (nc j1 (by simp))], sep2_1 := by simp [Ne.symm Z.a10, Ne.symm (na j2 (by simp))] }
    have hd1 : X.A.in1.handled = none := by show X.A.handled = none; exact I.ok.hd hc
    have D1 := drawsG (prog := X.prog) (w := X.w) hd1 k1 j1 a (na j1 (by simp)) its.toArray
    have D2 := drawsG (prog := X.prog) (w := X.w) hd1 k2 j2 c (nc j2 (by simp)) its2.toArray
    have l1 : its.toArray.size = xs.length := by simp [rv.length]
    have l2 : its2.toArray.size = ys.length := by simp [rv2.length]
    have fin : ∀ (h' : Heap) (tk : Nat), (∀ d o, d ≠ z → d ≠ to_ → d ≠ j1 → d ≠ j2 → s.heap.get? d = some o → h'.get? d = some o) → (none : Option Value) = none ∧ Inv X pins σ H { s with heap := h', toks := tk } := fun h' tk hk =>
      ⟨rfl, I.turnedL (ch := [z, ti, to_, j1, j2]) (fun d o hd q => hk d o (fun e => hd (by simp [e])) (fun e => hd (by simp [e])) (fun e => hd (by simp [e])) (fun e => hd (by simp [e])) q) hf⟩
    cases b
    · have hend' : i = xs.length ∨ i = ys.length := by simpa using hend
      exact wpAny_pyNext_zipD2_end S D1 D2 hz h1 h2 ⟨h3, hl⟩ ⟨h4, hl2⟩ (by omega) (by omega) (by omega) fun h' tk hk => fin h' tk hk
    · have hend' : xs.length = i ∧ ys.length = i := by simpa using hend
      rw [l1, hend'.1] at D1
      rw [l2, hend'.2] at D2
      exact strict_next_end (by show X.A.handled = none; exact I.ok.hd hc) S D1 D2 hz h1 h2 ⟨h3, hl⟩ ⟨h4, hl2⟩ fun h' tk hk => fin h' tk hk
  self := fun A i s Q E st h => by
    cases b
    · exact wpAny_pyIter_zip st.1 h
    · exact strict_iter st.1 h
end FL

set_option Elab.async false
set_option linter.all false
set_option maxRecDepth 100000
/-! FL8: walks. -/
namespace FL
open PySem PySem.Spec PyProof.Rows L2 FLZ
variable [Tabz]
set_option maxHeartbeats 1000000 in
theorem new_enum {v : Value} {o : Obj} {H : Heap → Prop} (B : Begins v o H) :
    Meets (Builtin.«enumerate.__new__» ⟨[.type "enumerate", v], []⟩) (fun _ R s => H s.heap ∧
      R (.ok (.ret (.ref (s.heap.push o).objs.size))) { s with heap := (s.heap.push o).push { cls := .type "enumerate", data := .fields #[.none, .bool false, .ref s.heap.objs.size, rawInt 0, .none, .none] } }) :=
  .of_wp fun prog w A R s h => by
    obtain ⟨hp, gn, dr, t0, os⟩ := s
    obtain ⟨h1, h⟩ := h
    have hsub := sub_enumerate
    have q1 : ∀ {A' : Around} {E : Value → Shared → Prop} {Q : Value → Shared → Prop}, Q (.ref hp.objs.size) ⟨hp.push o, gn, dr, t0, os⟩ → wpAny (model prog w) A' (pyIter v) Q E ⟨hp, gn, dr, t0, os⟩ :=
      fun q => B.iter prog w _ _ ⟨hp, gn, dr, t0, os⟩ _ h1 q
    wp_walk using q1
    refine wpAny_stack_any fun st => wpAny_pure ?_
    split
    · rename_i c _ _ _ _ _
      cases (c == Value.type "enumerate")
      · wp_walk using q1
        exact ⟨_, rfl, h⟩
      · wp_walk using q1
        exact ⟨_, rfl, h⟩
    · wp_walk using q1
      exact ⟨_, rfl, h⟩
theorem call_enG {prog : Program} {w : World} {A : Around} {E : Value → Shared → Prop} {s : Shared} {v : Value} {o : Obj} {H : Heap → Prop} {Q : Value → Shared → Prop} (B : Begins v o H) (h1 : H s.heap)
    (fin : ∀ h', IsEnum h' (s.heap.objs.size + 1) s.heap.objs.size 0 .none → h'.get? s.heap.objs.size = some o → (∀ b o, s.heap.get? b = some o → h'.get? b = some o) → Q (.ref (s.heap.objs.size + 1)) { s with heap := h' }) :
    wpAny (model prog w) A (call (.type "enumerate") [v]) Q E s := by
  refine callType_new F.called_enumerate (by decide) (F.typeCall_enumerate_1 _) (F.newCall_enumerate_1 _) (fun obj => F.args_object_init_2 obj _) F.entry_enumerate_new (new_enum B) ⟨h1, ?_⟩
  have n1 : (s.heap.push o).objs.size = s.heap.objs.size + 1 := Heap.size_push ..
  have he : IsEnum ((s.heap.push o).push { cls := .type "enumerate", data := .fields #[.none, .bool false, .ref s.heap.objs.size, rawInt 0, .none, .none] }) (s.heap.objs.size + 1) s.heap.objs.size 0 .none := by
    have q := Heap.get?_push_size (s.heap.push o) (o := { cls := .type "enumerate", data := .fields #[.none, .bool false, .ref s.heap.objs.size, rawInt 0, .none, .none] }) rfl
    rw [n1] at q
    exact q
  show _ ∧ _
  rw [n1]
  exact ⟨⟨_, he, rfl⟩, fin _ he (Heap.get?_push_of_some _ (Heap.get?_push_size _ B.free)) fun b o x => Heap.get?_push_of_some _ (Heap.get?_push_of_some _ x)⟩
/-- a built-in class called with written keywords -/
theorem callWith_tyK {M : Model} {A : Around} {E : Value → Shared → Prop} {s : Shared} {env : Env} {pos : Pos} {T : String} {e : Expr} {rest : List Expr} {kws : List Keyword} {Q : Value → Shared → Prop}
    (h : wpAny M A (spliced (backTo pos (starEach (e :: rest) env))) (fun vs s₁ => wpAny M A (evalAll ((backToKw pos (keywordEach kws env)).map (·.2))) (fun kvs s₂ => wpAny M A (call (.type T) vs (((backToKw pos (keywordEach kws env)).filterMap (·.1)).zip kvs)) Q E s₂) E s₁) E s)
    (hall : (backToKw pos (keywordEach kws env)).all (·.1.isSome) = true) (hkw : (backToKw pos (keywordEach kws env)).any (·.1.isNone) = false)
    (he : starEach (e :: rest) env = (false, eval e env) :: starEach rest env) (hplain : (backTo pos (starEach (e :: rest) env)).any (·.1) = false) :
    wpAny M A (callWith pos (.type T) [] (backTo pos (starEach (e :: rest) env)) (backToKw pos (keywordEach kws env))) Q E s := by
  have ev : wpAny M A (evalArgs (.type T) true (backTo pos (starEach (e :: rest) env)) (backToKw pos (keywordEach kws env))) (fun a s₁ => wpAny M A (call (.type T) ([] ++ a.pos) a.kw) Q E s₁) E s := by
    rw [he] at h ⊢
    exact evalArgs_kwB hall h
  unfold callWith
  refine wpAny_bind (wpAny_holding (wpAny_mono ev (fun a s1 h1 => wpAny_bind (wpAny_standAt ?_)) fun _ _ x => x))
  simp only [hplain, hkw, Bool.or_false]
  exact wpAny_bind (wpAny_pure (wpAny_bind (wpAny_mono h1 (fun r s2 hr => wpAny_bind (wpAny_holding (wpAny_point (wpAny_pure hr)))) fun _ _ x => x)))

/-! ### the layer's walks over lists and tuples -/
section
variable {X : Cx} {tg : Expr}
/-- a list or a tuple -/
def iSeq (K : PySem.W.Frag) (tl : TE) : TI := fun σ H R => tl σ H fun x H1 => ∃ a, x = .ref a ∧ (((∃ xs, SqL K H1 a xs) ∧ R (Itl K a) H1) ∨ ((∃ xs, SqT K H1 a xs) ∧ R (Itt K a) H1))
theorem pi_seqG {l : Expr} {tl : TE} (hl : PE X l tl) : PI X tg l (iSeq X.K tl) := by
  refine ⟨fun pins s σ H R I h => thn (hl.run pins s σ H _ I h) fun v s1 ⟨x, H1, I1, r1, a, e, q1⟩ => ?_⟩
  subst e
  cases r1
  rcases q1 with ⟨⟨xs, hq⟩, q⟩ | ⟨⟨xs, hq⟩, q⟩
  · obtain ⟨its, rv, p, hz⟩ := I1.list hq
    refine wpAny_pyIter_list p.isList ⟨s1.heap.objs.size, [s1.heap.objs.size], _, _, H1, rfl, I1.kept (t' := s1.toks) fun b o e => Heap.get?_push_of_some _ e, turn_list a _, ⟨_, Heap.get?_push_size _ rfl, rfl, rfl⟩, fun b hb => ?_, q⟩
    rw [show b = s1.heap.objs.size by simpa using hb]
    exact I1.fpOk (Nat.le_refl _) (I1.hok.fresh (Nat.le_refl _))
  · obtain ⟨its, rv, p, hz⟩ := I1.tuple hq
    refine wpAny_pyIter_tuple (show s1.heap.IsTuple a its.toArray from p) ⟨s1.heap.objs.size, [s1.heap.objs.size], _, _, H1, rfl, I1.kept (t' := s1.toks) fun b o e => Heap.get?_push_of_some _ e, turn_tuple a _, ⟨_, Heap.get?_push_size _ rfl, rfl, rfl⟩, fun b hb => ?_, q⟩
    rw [show b = s1.heap.objs.size by simpa using hb]
    exact I1.fpOk (Nat.le_refl _) (I1.hok.fresh (Nat.le_refl _))
def iEnG (K : PySem.W.Frag) (ta : TA) : TI := fun σ H R => ta σ H fun vs H1 => ∃ k a xs, vs = [.ref a] ∧ SqG K H1 k a xs ∧ R (ItEn K k a) H1
theorem pi_enG {e : Expr} {es : List Expr} {ta : TA} {p pos tp : Pos} {kk : Nat} (hg : Gl X "enumerate") (hm : X.mg "enumerate" = none) (ha : PA X [e] ta) (hs : starEach [e] X.env = [(false, eval e X.env)] := by rfl) :
    PI X (.Tuple es kk tp) (.Call (.Name "enumerate" p) [e] [] pos) (iEnG X.K ta) := by
  refine ⟨fun pins s σ H R I h => Call_ (ld_blt I hg hm boot_enumerate (PyProof.Rows.callWith_type1 (thn (ha.run pos pins s σ H _ I h) fun us s1 ⟨vs, H1, I1, r1, k, a, xs, ex, hq, q⟩ => ?_) hs rfl))⟩
  subst ex
  obtain ⟨u, rfl, ru⟩ := vals1 r1
  cases ru
  obtain ⟨its, rv, hl⟩ := Inv.seqG I1 hq
  refine call_enG (beginsG k a its.toArray) hl fun h' he hit hk => wpAny_pyIter_enum he ?_
  have I2 : Inv X pins σ H1 { s1 with heap := h' } := I1.kept (t' := s1.toks) hk
  refine ⟨s1.heap.objs.size + 1, [s1.heap.objs.size + 1, s1.heap.objs.size], _, _, H1, rfl, I2, turn_enG k a (s1.heap.objs.size + 1) s1.heap.objs.size, ⟨⟨.none, he⟩, itG_new hit, Nat.succ_ne_self _⟩, fun b hb => ?_, q⟩
  have hle : s1.heap.objs.size ≤ b := by
    rcases (show b = s1.heap.objs.size + 1 ∨ b = s1.heap.objs.size by simpa using hb) with z | z
    · rw [z]; exact Nat.le_add_right _ _
    · rw [z]; exact Nat.le_refl _
  exact I1.fpOk hle (I1.hok.fresh hle)
def iZpG (K : PySem.W.Frag) (b : Bool) (ta : TA) : TI := fun σ H R => ta σ H fun vs H1 => ∃ k1 k2 a c xs ys, vs = [.ref a, .ref c] ∧ SqG K H1 k1 a xs ∧ SqG K H1 k2 c ys ∧ R (ItZp K b k1 k2 a c) H1
theorem zap_new {n : Nat} : Zap (n + 4) (n + 2) (n + 3) n (n + 1) :=
  ⟨show (n + 2 : Nat) ≠ n + 4 by omega, show (n + 3 : Nat) ≠ n + 4 by omega, show (n + 2 : Nat) ≠ n + 3 by omega, show (n + 2 : Nat) ≠ n by omega, show (n + 2 : Nat) ≠ n + 1 by omega,
    show (n + 3 : Nat) ≠ n by omega, show (n + 3 : Nat) ≠ n + 1 by omega, show (n : Nat) ≠ n + 4 by omega, show (n + 1 : Nat) ≠ n + 4 by omega, show (n : Nat) ≠ n + 1 by omega⟩
theorem zip_done {es : List Expr} {kk : Nat} {tp : Pos} {pins : List (Addr × Obj)} {σ : L2.St} {H1 : Hp} {s1 : Shared} {b k1 k2 : Bool} {a c : Addr} {R : It → Hp → Prop} (I1 : Inv X pins σ H1 s1) (h' : Heap) (hz : IsZb b h' (s1.heap.objs.size + 4) (s1.heap.objs.size + 2) (s1.heap.objs.size + 3) .none)
    (g1 : IsTupOf2 h' (s1.heap.objs.size + 2) (.ref s1.heap.objs.size) (.ref (s1.heap.objs.size + 1))) (g2 : IsTupOf2 h' (s1.heap.objs.size + 3) .none .none) (g3 : h'.get? s1.heap.objs.size = some (itO k1 a)) (g4 : h'.get? (s1.heap.objs.size + 1) = some (itO k2 c))
    (hk : ∀ c o, s1.heap.get? c = some o → h'.get? c = some o) (q : R (ItZp X.K b k1 k2 a c) H1) : PIE X pins σ (.Tuple es kk tp) R (.ref (s1.heap.objs.size + 4)) { s1 with heap := h' } := by
  refine ⟨s1.heap.objs.size + 4, [s1.heap.objs.size + 4, s1.heap.objs.size + 2, s1.heap.objs.size + 3, s1.heap.objs.size, s1.heap.objs.size + 1], _, _, H1, rfl, I1.kept (t' := s1.toks) hk, turn_zpG b k1 k2 zap_new, ⟨hz, g1, ⟨_, _, g2⟩, itG_new g3, itG_new g4⟩, fun d hd => ?_, q⟩
  have hle : s1.heap.objs.size ≤ d := by
    rcases (show d = s1.heap.objs.size + 4 ∨ d = s1.heap.objs.size + 2 ∨ d = s1.heap.objs.size + 3 ∨ d = s1.heap.objs.size ∨ d = s1.heap.objs.size + 1 by simpa using hd) with z | z | z | z | z <;> rw [z] <;> first | exact Nat.le_add_right _ _ | exact Nat.le_refl _
  exact I1.fpOk hle (I1.hok.fresh hle)
theorem pi_zpS {e e2 : Expr} {es : List Expr} {ta : TA} {p pos tp p3 p4 : Pos} {kk j : Nat} (hg : Gl X "zip") (hm : X.mg "zip" = none) (ha : PA X [e, e2] ta)
    (hs : starEach [e, e2] X.env = (false, eval e X.env) :: starEach [e2] X.env := by rfl) (hpl : (backTo pos (starEach [e, e2] X.env)).any (·.1) = false := by rfl) :
    PI X (.Tuple es kk tp) (.Call (.Name "zip" p) [e, e2] [⟨some "strict", .Constant (.bool true) j p3, p4⟩] pos) (iZpG X.K true ta) := by
  refine ⟨fun pins s σ H R I h => wpAny_Call_Name_kw (ld_blt I hg hm PyProof.Rows.boot_zip (callWith_tyK (thn (ha.run pos pins s σ H _ I h) fun us s1 ⟨vs, H1, I1, r1, k1, k2, a, c, xs, ys, ex, hqx, hqy, q⟩ => ?_) (by rfl) (by rfl) hs hpl))⟩
  subst ex
  obtain ⟨u, u2, rfl, ru, ru2⟩ := vals2 r1
  cases ru
  cases ru2
  obtain ⟨its, rv, hl⟩ := Inv.seqG I1 hqx
  obtain ⟨its2, rv2, hl2⟩ := Inv.seqG I1 hqy
  refine kws_cons (Constant_bool (kws_nil ?_))
  show wpAny _ _ (call (.type "zip") [.ref a, .ref c] [(Str.ofString "strict", .bool true)]) _ _ _
  exact strict_begins (beginsG k1 a its.toArray) (beginsG k2 c its2.toArray) hl hl2 fun h' hz g1 g2 g3 g4 _ hk => strict_iter hz (zip_done (b := true) I1 h' hz g1 g2 g3 g4 hk q)
end
end FL

set_option Elab.async false
set_option linter.all false
set_option maxRecDepth 100000
/-! FL9: sources, for, while, comprehensions. -/
namespace FL
open PySem PySem.Spec PyProof.Rows L2
variable [Tabz]
/-- what a loop walks: its items, and the lists that are to stay as they are -/
structure Src where
  items : List Va
  gs : List (Nat × List Va)
def gsOk (gs : List (Nat × List Va)) (h : AH) : Bool := gs.all fun p => match lstAt h p.1 with
  | some ys => vaBeqs p.2 ys
  | none => false
theorem gsOk_at {gs : List (Nat × List Va)} {h : AH} (e : gsOk gs h = true) {l : Nat} {xs : List Va} (hm : (l, xs) ∈ gs) : lstAt h l = some xs := by
  have q := List.all_eq_true.mp e (l, xs) hm
  simp only at q
  split at q
  · rename_i ys hy
    rw [hy, vaBeqs_eq _ _ q]
  · cases q
@[simp] theorem gsOk_nil (h : AH) : gsOk [] h = true := rfl
theorem gsOk_of {gs : List (Nat × List Va)} {h : AH} (e : ∀ p ∈ gs, lstAt h p.1 = some p.2) : gsOk gs h = true := by
  unfold gsOk
  rw [List.all_eq_true]
  intro p hp
  rw [e p hp]
  exact vaBeqs_refl _
/-- all but lists and dicts is kept -/
structure ExtW (m : List Addr) (H : Hp) (m' : List Addr) (H' : Hp) : Prop where
  pre : ∃ r, m' = m ++ r
  keep : ∀ b o, H b = some o → (∀ vs, o ≠ .lst vs) → (∀ kv, o ≠ .dK kv) → (nt : ∀ ps, o ≠ .tbl ps := by first | assumption | (intro _ z; cases z) | simp) → (ne : ∀ φ, o ≠ .ext φ := by first | assumption | (intro _ z; cases z) | simp) → (ni : ∀ C dx fs, o ≠ .ins C dx fs := by first | assumption | (intro _ _ _ z; cases z) | simp) → H' b = some o
theorem ExtW.refl {m : List Addr} {H : Hp} : ExtW m H m H := ⟨⟨[], by simp⟩, fun _ _ h _ _ _ _ _ => h⟩
theorem Ext.w {K : PySem.W.Frag} {m m' : List Addr} {H H' : Hp} {ah : AH} (e : Ext m H m' H') (r : HR K H m ah) : ExtW m H m' H' := ⟨e.pre, fun b o h h1 h2 _ _ _ => e.keep b o h (r.notin h h1 h2)⟩
theorem ExtW.trans {m m' m2 : List Addr} {H H' H2 : Hp} (e : ExtW m H m' H') (f : ExtW m' H' m2 H2) : ExtW m H m2 H2 := by
  refine ⟨?_, fun b o h h1 h2 _ _ _ => f.keep b o (e.keep b o h h1 h2) h1 h2⟩
  obtain ⟨r, e1⟩ := e.pre
  obtain ⟨q, e2⟩ := f.pre
  exact ⟨r ++ q, by rw [e2, e1, List.append_assoc]⟩
theorem ExtW.get {m m' : List Addr} {H H' : Hp} (e : ExtW m H m' H') {l : Nat} {a : Addr} (h : m[l]? = some a) : m'[l]? = some a := by
  obtain ⟨r, rfl⟩ := e.pre
  rw [List.getElem?_append_left (List.getElem?_eq_some_iff.mp h).1]
  exact h
section
variable {K : PySem.W.Frag} {H H' : Hp} {m m' : List Addr}
theorem sqT_w (e : ExtW m H m' H') {a : Addr} {vs : List V} (h : SqT K H a vs) : SqT K H' a vs := by
  rcases h with (h | ⟨o, h⟩) | h
  · exact .inl (.inl (e.keep _ _ h (fun _ z => nomatch z) (fun _ z => nomatch z)))
  · exact .inl (.inr ⟨o, e.keep _ _ h (fun _ z => nomatch z) (fun _ z => nomatch z)⟩)
  · exact .inr h
theorem fz_w (e : ExtW m H m' H') {a : Addr} {vs : List V} (h : Fz K H a vs) : Fz K H' a vs := by
  rcases h with ⟨o, h⟩ | h
  · exact .inl ⟨o, e.keep _ _ h (fun _ z => nomatch z) (fun _ z => nomatch z)⟩
  · exact .inr h
theorem sqN_w (e : ExtW m H m' H') {a : Addr} {vs : List V} (h : SqN H a vs) : SqN H' a vs := let ⟨o, h, d⟩ := h; ⟨o, e.keep _ _ h (fun _ z => nomatch z) (fun _ z => nomatch z), d⟩
mutual
theorem VR.w (e : ExtW m H m' H') : ∀ {x : Va} {v : V}, VR K H m x v → VR K H' m' x v
  | _, _, .non => .non
  | _, _, .bl b => .bl b
  | _, _, .int i => .int i
  | _, _, .str x => .str x
  | _, _, .rp d => .rp d
  | _, _, .ref h => .ref (e.get h)
  | _, _, .tup h hs => .tup (sqT_w e h) (VRs.w e hs)
  | _, _, .rol h hs => .rol (fz_w e h) (VRs.w e hs)
  | _, _, .dv h => .dv (h.to (fun _ _ z => e.keep _ _ z (fun _ z => nomatch z) (fun _ z => nomatch z)) fun _ _ => sqT_w e)
  | _, _, .exo a => .exo a
  | _, _, .exn h g => .exn (e.keep _ _ h (fun _ z => nomatch z) (fun _ z => nomatch z)) (VR.w e g)
  | _, _, .tud h hs => .tud (sqN_w e h) (VRs.w e hs)
theorem VRs.w (e : ExtW m H m' H') : ∀ {xs : List Va} {vs : List V}, VRs K H m xs vs → VRs K H' m' xs vs
  | _, _, .nil => .nil
  | _, _, .cons h hs => .cons (VR.w e h) (VRs.w e hs)
end
end
def JOk (K : PySem.W.Frag) (J : It) (m : List Addr) (H : Hp) (s : Src) : Prop :=
  ∀ m2 H2 ah2, ExtW m H m2 H2 → HR K H2 m2 ah2 → gsOk s.gs ah2 = true →
    (∀ i x, s.items[i]? = some x → J.go i H2 ∧ ∀ y H3, J.yld i H2 y H3 → Ext m2 H2 m2 H3 ∧ HR K H3 m2 ah2 ∧ VR K H3 m2 x y) ∧ J.stop s.items.length H2
abbrev IF := Ev → AH → Rs Src
def WiI (K : PySem.W.Frag) (mg : Str → Option Value) (W : WX) (f : IF) : TI := fun σ H R => ∃ m ah ev, HR K H m ah ∧ ER K H m ev σ ∧ match f ev ah with
  | .ok s ah' => ∀ m' H' J, Ext m H m' H' → HR K H' m' ah' → JOk K J m' H' s → R J H'
  | .exc c p ah' => ∀ m' H' cls d, Ext m H m' H' → HR K H' m' ah' → XR K mg H' m' c p cls d → W cls d σ H'
  | .bad => False
structure MI (X : Cx) (W : WX) (tg iter : Expr) (f : IF) : Prop where
  pi : PI X tg iter (WiI X.K X.mg W f)
theorem pi_imp {X : Cx} {tg e : Expr} {t t' : TI} (h : PI X tg e t) (i : ∀ σ H R, t' σ H R → t σ H R) : PI X tg e t' := ⟨fun pins s σ H R I q => h.run pins s σ H R I (i σ H R q)⟩
/-- evaluate, then make a source of the values -/
def iOf (g : AF) (o : List Va → AH → Option Src) : IF := fun ev h => (g ev h).bind fun vs h1 => match o vs h1 with | some s => .ok s h1 | none => .bad
def iOf1 (g : EF) (o : Va → AH → Option Src) : IF := fun ev h => (g ev h).bind fun v h1 => match o v h1 with | some s => .ok s h1 | none => .bad
section
variable {K : PySem.W.Frag} {mg : Str → Option Value} {W : WX} {σ : L2.St} {H : Hp} {R : It → Hp → Prop}
theorem WiI.of {g : AF} {o : List Va → AH → Option Src} (h : WiI K mg W (iOf g o) σ H R) :
    Wi K mg (VRs K) W g σ H (fun vs H1 => ∃ m ah ps s, HR K H1 m ah ∧ VRs K H1 m ps vs ∧ o ps ah = some s ∧ ∀ J, JOk K J m H1 s → R J H1) := by
  obtain ⟨m, ah, ev, r, re, q⟩ := h
  refine ⟨m, ah, ev, r, re, ?_⟩
  unfold iOf at q
  cases eg : g ev ah with
  | exc c p a => rw [eg] at q; exact q
  | bad => rw [eg] at q; exact q
  | ok vs a =>
    simp only [eg, Rs.bind_ok] at q
    intro m1 H1 ws e1 r1 rv
    cases eo : o vs a with
    | none => rw [eo] at q; exact q.elim
    | some s =>
      rw [eo] at q
      exact ⟨m1, a, vs, s, r1, rv, eo, fun J hJ => q m1 H1 J e1 r1 hJ⟩
theorem WiI.of1 {g : EF} {o : Va → AH → Option Src} (h : WiI K mg W (iOf1 g o) σ H R) :
    Wi K mg (VR K) W g σ H (fun v H1 => ∃ m ah p s, HR K H1 m ah ∧ VR K H1 m p v ∧ o p ah = some s ∧ ∀ J, JOk K J m H1 s → R J H1) := by
  obtain ⟨m, ah, ev, r, re, q⟩ := h
  refine ⟨m, ah, ev, r, re, ?_⟩
  unfold iOf1 at q
  cases eg : g ev ah with
  | exc c p a => rw [eg] at q; exact q
  | bad => rw [eg] at q; exact q
  | ok vs a =>
    simp only [eg, Rs.bind_ok] at q
    intro m1 H1 ws e1 r1 rv
    cases eo : o vs a with
    | none => rw [eo] at q; exact q.elim
    | some s =>
      rw [eo] at q
      exact ⟨m1, a, vs, s, r1, rv, eo, fun J hJ => q m1 H1 J e1 r1 hJ⟩
end
/-- the items of a list or tuple, and the guard -/
def srcOf (p : Va) (h : AH) : Option Src := match p with
  | .tup xs => some ⟨xs, []⟩
  | .rol xs => some ⟨xs, []⟩
  | .ref l => match lstAt h l with
    | some xs => some ⟨xs, [(l, xs)]⟩
    | none => none
  | _ => none
/-- how such a sequence stands for a list or tuple of the layer -/
theorem srcOf_ok {K : PySem.W.Frag} {H : Hp} {m : List Addr} {ah : AH} (r : HR K H m ah) {p : Va} {v : V} {s : Src} (h : VR K H m p v) (e : srcOf p ah = some s) :
    ∃ k a, v = .ref a ∧ ∀ m2 H2 ah2, ExtW m H m2 H2 → HR K H2 m2 ah2 → gsOk s.gs ah2 = true → ∃ vs, SqG K H2 k a vs ∧ VRs K H2 m2 s.items vs := by
  cases h with
  | @tup xs a vs ht hv =>
    cases e
    exact ⟨true, a, rfl, fun m2 H2 ah2 e2 r2 g2 => ⟨vs, sqT_w e2 ht, hv.w e2⟩⟩
  | @rol xs a vs ht hv =>
    cases e
    exact ⟨false, a, rfl, fun m2 H2 ah2 e2 r2 g2 => ⟨vs, (fz_w e2 ht).seq, hv.w e2⟩⟩
  | @ref l a ha =>
    unfold srcOf at e
    cases hl : lstAt ah l with
    | none => simp only [hl] at e; cases e
    | some xs =>
      simp only [hl] at e
      cases e
      refine ⟨false, a, rfl, fun m2 H2 ah2 e2 r2 g2 => ?_⟩
      have hl2 := gsOk_at g2 (List.mem_singleton_self _)
      obtain ⟨vs, g1, hv⟩ := r2.lst (e2.get ha) (lstAt_some hl2)
      exact ⟨vs, SqL.of g1, hv⟩
  | _ => cases e
section
variable {X : Cx} {W : WX} {tg e e2 : Expr} {es : List Expr} {fe fe2 : EF} {ta : AF} {pos p tp : Pos} {kk : Nat}
/-- a list or tuple is walked -/
theorem mi_seq (h : ME X W e fe) : MI X W tg e (iOf1 fe srcOf) := ⟨pi_imp (pi_seqG h.pe) fun σ H R q => by
  obtain ⟨m, ah, ev, r, re, q⟩ := q.of1
  refine ⟨m, ah, ev, r, re, ?_⟩
  cases eg : fe ev ah with
  | exc c p a => rw [eg] at q; exact q
  | bad => rw [eg] at q; exact q
  | ok v a =>
    rw [eg] at q
    intro m1 H1 x e1 r1 rx
    obtain ⟨m2, ah2, p2, s, r2, rv, es, q2⟩ := q m1 H1 x e1 r1 rx
    obtain ⟨k, b, rfl, hk⟩ := srcOf_ok r2 rv es
    have gs0 : gsOk s.gs ah2 = true := by
      refine gsOk_of fun pp hp => ?_
      unfold srcOf at es
      split at es
      · cases es; cases hp
      · cases es; cases hp
      · rename_i l
        cases hl : lstAt ah2 l with
        | none => simp only [hl] at es; cases es
        | some xs =>
          simp only [hl] at es
          cases es
          rw [List.mem_singleton.mp hp]
          exact hl
      · cases es
    obtain ⟨vs0, s0, _⟩ := hk m2 H1 ah2 .refl r2 gs0
    refine ⟨b, rfl, ?_⟩
    cases k
    · refine .inl ⟨⟨vs0, s0⟩, q2 _ fun m3 H3 ah3 e3 r3 g3 => ?_⟩
      obtain ⟨vs, s3, h3⟩ := hk m3 H3 ah3 e3 r3 g3
      refine ⟨fun i x hx => ?_, ⟨vs, s3, Nat.le_of_eq h3.length.symm⟩⟩
      obtain ⟨w, hw, rw'⟩ := h3.get hx
      refine ⟨⟨vs, w, s3, hw⟩, fun y H4 hy => ?_⟩
      obtain ⟨rfl, hy⟩ := hy
      have hyw := hy vs s3
      rw [hw] at hyw
      cases hyw
      exact ⟨.refl, r3, rw'⟩
    · refine .inr ⟨⟨vs0, s0⟩, q2 _ fun m3 H3 ah3 e3 r3 g3 => ?_⟩
      obtain ⟨vs, s3, h3⟩ := hk m3 H3 ah3 e3 r3 g3
      refine ⟨fun i x hx => ?_, ⟨vs, s3, Nat.le_of_eq h3.length.symm⟩⟩
      obtain ⟨w, hw, rw'⟩ := h3.get hx
      refine ⟨⟨vs, w, s3, hw⟩, fun y H4 hy => ?_⟩
      obtain ⟨rfl, hy⟩ := hy
      have hyw := hy vs s3
      rw [hw] at hyw
      cases hyw
      exact ⟨.refl, r3, rw'⟩⟩
/-- lo, lo + 1, .., n of them -/
def intsF : Int → Nat → List Va
  | _, 0 => []
  | lo, n + 1 => .int lo :: intsF (lo + 1) n
theorem ints_len : ∀ (n : Nat) (lo : Int), (intsF lo n).length = n
  | 0, _ => rfl
  | n + 1, lo => by simp [intsF, ints_len n]
theorem ints_get : ∀ (n : Nat) (lo : Int) (i : Nat), (intsF lo n)[i]? = if i < n then some (.int (lo + i)) else none
  | 0, _, i => by simp [intsF]
  | n + 1, lo, 0 => by simp [intsF]
  | n + 1, lo, i + 1 => by
    simp only [intsF, List.getElem?_cons_succ, ints_get n]
    by_cases h : i < n
    · rw [if_pos h, if_pos (by omega)]; congr 2; omega
    · rw [if_neg h, if_neg (by omega)]
def rngL : Int := 1000000000
def srcR : List Va → AH → Option Src := fun vs _ => match vs with
  | [.int j] => if decide (-rngL ≤ j) && decide (j ≤ rngL) then some ⟨intsF 0 j.toNat, []⟩ else none
  | _ => none
def srcR2 : List Va → AH → Option Src := fun vs _ => match vs with
  | [.int i, .int j] => if decide (-rngL ≤ i) && decide (i ≤ rngL) && decide (-rngL ≤ j) && decide (j ≤ rngL) then some ⟨intsF i (j - i).toNat, []⟩ else none
  | _ => none
theorem jok_rng {K : PySem.W.Frag} {m : List Addr} {H : Hp} (lo : Int) (n : Nat) : JOk K (Itr lo n) m H ⟨intsF lo n, []⟩ := fun m2 H2 ah2 e2 r2 g2 => by
  refine ⟨fun i x hx => ?_, by show n ≤ _; rw [ints_len]; exact Nat.le_refl _⟩
  rw [ints_get] at hx
  split at hx
  · rename_i hi
    cases hx
    refine ⟨hi, fun y H3 hy => ?_⟩
    obtain ⟨rfl, rfl⟩ := hy
    exact ⟨.refl, r2, .int _⟩
  · cases hx

theorem mi_range1 (ha : MA X W [e] ta) (hm : X.mg "range" = none := by rfl) (hg : Gl X "range" := by rfl) (hs : starEach [e] X.env = [(false, eval e X.env)] := by rfl) : MI X W tg (.Call (.Name "range" p) [e] [] pos) (iOf ta srcR) :=
  ⟨pi_imp (pi_range1 hg hm ha.pa hs) fun σ H R q => by
    obtain ⟨m, ah, ev, r, re, q⟩ := q.of
    refine ⟨m, ah, ev, r, re, ?_⟩
    cases eg : ta ev ah with
    | exc c p a => rw [eg] at q; exact q
    | bad => rw [eg] at q; exact q
    | ok v a =>
      rw [eg] at q
      intro m1 H1 x e1 r1 rx
      obtain ⟨m2, ah2, ps, s, r2, rv, es, q2⟩ := q m1 H1 x e1 r1 rx
      unfold srcR at es
      split at es
      · rename_i j
        cases rv with
        | cons r0 rr =>
        cases rr
        cases r0
        split at es
        · rename_i hz
          obtain ⟨z1, z2⟩ := Bool.and_eq_true_iff.mp hz
          have z1 : -1000000000 ≤ j := of_decide_eq_true z1
          have z2 : j ≤ 1000000000 := of_decide_eq_true z2
          cases es
          exact ⟨j, rfl, by omega, by omega, q2 _ (jok_rng 0 j.toNat)⟩
        · cases es
      · cases es⟩
/-- numbered items -/
def enumF : Int → List Va → List Va
  | _, [] => []
  | i, x :: xs => .tup [.int i, x] :: enumF (i + 1) xs
theorem enumF_len : ∀ (xs : List Va) (i : Int), (enumF i xs).length = xs.length
  | [], _ => rfl
  | x :: xs, i => by simp [enumF, enumF_len xs]
theorem enumF_get : ∀ (xs : List Va) (n : Int) (i : Nat) (y : Va), (enumF n xs)[i]? = some y → ∃ x, xs[i]? = some x ∧ y = .tup [.int (n + i), x]
  | [], _, i, y, h => by simp [enumF] at h
  | x :: xs, n, 0, y, h => by
    simp only [enumF, List.getElem?_cons_zero, Option.some.injEq] at h
    exact ⟨x, rfl, by rw [← h]; simp⟩
  | x :: xs, n, i + 1, y, h => by
    simp only [enumF, List.getElem?_cons_succ] at h
    obtain ⟨z, h1, h2⟩ := enumF_get xs (n + 1) i y h
    refine ⟨z, by simpa using h1, ?_⟩
    rw [h2]
    congr 2
    push_cast
    congr 1
    omega
def srcE : List Va → AH → Option Src := fun ps h => match ps with
  | [p] => (srcOf p h).map fun s => ⟨enumF 0 s.items, s.gs⟩
  | _ => none
theorem srcOf_gs {p : Va} {h : AH} {s : Src} (es : srcOf p h = some s) : gsOk s.gs h = true := by
  refine gsOk_of fun pp hp => ?_
  unfold srcOf at es
  split at es
  · cases es; cases hp
  · cases es; cases hp
  · rename_i l
    cases hl : lstAt h l with
    | none => simp only [hl] at es; cases es
    | some xs =>
      simp only [hl] at es
      cases es
      rw [List.mem_singleton.mp hp]
      exact hl
  · cases es
theorem gsOk_append {g1 g2 : List (Nat × List Va)} {h : AH} : gsOk (g1 ++ g2) h = (gsOk g1 h && gsOk g2 h) := by
  unfold gsOk; rw [List.all_append]
theorem mi_enum (ha : MA X W [e] ta) (hm : X.mg "enumerate" = none := by rfl) (hg : Gl X "enumerate" := by rfl) (hs : starEach [e] X.env = [(false, eval e X.env)] := by rfl) :
    MI X W (.Tuple es kk tp) (.Call (.Name "enumerate" p) [e] [] pos) (iOf ta srcE) :=
  ⟨pi_imp (pi_enG hg hm ha.pa hs) fun σ H R q => by
    obtain ⟨m, ah, ev, r, re, q⟩ := q.of
    refine ⟨m, ah, ev, r, re, ?_⟩
    cases eg : ta ev ah with
    | exc c p a => rw [eg] at q; exact q
    | bad => rw [eg] at q; exact q
    | ok v a =>
      rw [eg] at q
      intro m1 H1 x e1 r1 rx
      obtain ⟨m2, ah2, ps, s, r2, rv, es, q2⟩ := q m1 H1 x e1 r1 rx
      unfold srcE at es
      split at es
      · rename_i p0
        cases rv with
        | cons r0 rr =>
        cases rr
        cases eo : srcOf p0 ah2 with
        | none => rw [eo] at es; cases es
        | some s0 =>
        rw [eo] at es
        cases es
        obtain ⟨k, b, rfl, hk⟩ := srcOf_ok r2 r0 eo
        obtain ⟨vs0, s1, _⟩ := hk m2 H1 ah2 .refl r2 (srcOf_gs eo)
        refine ⟨k, b, vs0, rfl, s1, q2 _ fun m3 H3 ah3 e3 r3 g3 => ?_⟩
        obtain ⟨vs, s3, h3⟩ := hk m3 H3 ah3 e3 r3 g3
        refine ⟨fun i x hx => ?_, ⟨vs, s3, by rw [enumF_len]; exact h3.length.symm⟩⟩
        obtain ⟨z, hz, rfl⟩ := enumF_get _ _ _ _ hx
        obtain ⟨w, hw, rw'⟩ := h3.get hz
        refine ⟨⟨vs, w, s3, hw⟩, fun y H4 hy => ?_⟩
        obtain ⟨T, x', rfl, hT, rfl, hx'⟩ := hy
        have hyw := hx' vs s3
        rw [hw] at hyw
        cases hyw
        have ee : Ext m3 H3 m3 (upd H3 T (.tup [.int (i : Nat), w])) := ext_new r3 hT
        refine ⟨ee, hr_new r3 hT, .tup (SqT.of upd_same) (.cons ?_ (.cons (rw'.ext r3 ee) .nil))⟩
        rw [show ((0 : Int) + (i : Nat)) = (i : Nat) by omega]
        exact .int _
      · cases es⟩
/-- pairs -/
def zipF : List Va → List Va → List Va
  | x :: xs, y :: ys => .tup [x, y] :: zipF xs ys
  | _, _ => []
theorem zipF_len : ∀ (xs ys : List Va), (zipF xs ys).length = min xs.length ys.length
  | [], _ => by simp [zipF]
  | x :: xs, [] => by simp [zipF]
  | x :: xs, y :: ys => by simp [zipF, zipF_len xs ys]
theorem zipF_get : ∀ (xs ys : List Va) (i : Nat) (z : Va), (zipF xs ys)[i]? = some z → ∃ x y, xs[i]? = some x ∧ ys[i]? = some y ∧ z = .tup [x, y]
  | [], _, i, z, h => by simp [zipF] at h
  | x :: xs, [], i, z, h => by simp [zipF] at h
  | x :: xs, y :: ys, 0, z, h => by
    simp only [zipF, List.getElem?_cons_zero, Option.some.injEq] at h
    exact ⟨x, y, rfl, rfl, h.symm⟩
  | x :: xs, y :: ys, i + 1, z, h => by
    simp only [zipF, List.getElem?_cons_succ] at h
    obtain ⟨a, b, h1, h2, h3⟩ := zipF_get xs ys i z h
    exact ⟨a, b, by simpa using h1, by simpa using h2, h3⟩
def srcZ (b : Bool) : List Va → AH → Option Src := fun ps h => match ps with
  | [p, q] => (srcOf p h).bind fun s => (srcOf q h).bind fun t => if b && (s.items.length != t.items.length) then none else some ⟨zipF s.items t.items, s.gs ++ t.gs⟩
  | _ => none
theorem zip_wi {b : Bool} {σ : L2.St} {H : Hp} {R : It → Hp → Prop} (q : WiI X.K X.mg W (iOf ta (srcZ b)) σ H R) :
    Wi X.K X.mg (VRs X.K) W ta σ H (fun vs H1 => ∃ k1 k2 a c xs ys, vs = [.ref a, .ref c] ∧ SqG X.K H1 k1 a xs ∧ SqG X.K H1 k2 c ys ∧ R (ItZp X.K b k1 k2 a c) H1) := by
    obtain ⟨m, ah, ev, r, re, q⟩ := q.of
    refine ⟨m, ah, ev, r, re, ?_⟩
    cases eg : ta ev ah with
    | exc c p a => rw [eg] at q; exact q
    | bad => rw [eg] at q; exact q
    | ok v a =>
      rw [eg] at q
      intro m1 H1 x e1 r1 rx
      obtain ⟨m2, ah2, ps, s, r2, rv, es, q2⟩ := q m1 H1 x e1 r1 rx
      unfold srcZ at es
      split at es
      · rename_i p0 p1
        cases rv with
        | cons r0 rr =>
        cases rr with
        | cons r1 rr =>
        cases rr
        cases eo : srcOf p0 ah2 with
        | none => rw [eo] at es; cases es
        | some s0 =>
        rw [eo] at es
        cases eo2 : srcOf p1 ah2 with
        | none => rw [eo2] at es; cases es
        | some s1 =>
        rw [eo2] at es
        simp only [Option.bind_some] at es
        split at es
        · cases es
        rename_i hb
        cases es
        obtain ⟨k, a1, rfl, hk⟩ := srcOf_ok r2 r0 eo
        obtain ⟨k2, a2, rfl, hk2⟩ := srcOf_ok r2 r1 eo2
        obtain ⟨vs0, t1, _⟩ := hk m2 H1 ah2 .refl r2 (srcOf_gs eo)
        obtain ⟨vs2, t2, _⟩ := hk2 m2 H1 ah2 .refl r2 (srcOf_gs eo2)
        have hbb : b = true → s0.items.length = s1.items.length := fun hbt => by
          subst hbt
          simpa using hb
        refine ⟨k, k2, a1, a2, vs0, vs2, rfl, t1, t2, q2 _ fun m3 H3 ah3 e3 r3 g3 => ?_⟩
        rw [show (Src.gs ⟨zipF s0.items s1.items, s0.gs ++ s1.gs⟩) = s0.gs ++ s1.gs from rfl, gsOk_append, Bool.and_eq_true] at g3
        obtain ⟨vs, s3, h3⟩ := hk m3 H3 ah3 e3 r3 g3.1
        obtain ⟨ws, s4, h4⟩ := hk2 m3 H3 ah3 e3 r3 g3.2
        have hl3 := h3.length
        have hl4 := h4.length
        refine ⟨fun i x hx => ?_, ⟨vs, ws, s3, s4, ?_⟩⟩
        · obtain ⟨z1, z2, hz1, hz2, rfl⟩ := zipF_get _ _ _ _ hx
          obtain ⟨w, hw, rw'⟩ := h3.get hz1
          obtain ⟨w2, hw2, rw2⟩ := h4.get hz2
          refine ⟨⟨vs, ws, w, w2, s3, s4, hw, hw2, fun hbt => by rw [← hl3, ← hl4]; exact hbb hbt⟩, fun y H4 hy => ?_⟩
          obtain ⟨T, x', y', rfl, hT, rfl, hx', hy'⟩ := hy
          have hyw := hx' vs s3
          rw [hw] at hyw
          cases hyw
          have hyw := hy' ws s4
          rw [hw2] at hyw
          cases hyw
          have ee : Ext m3 H3 m3 (upd H3 T (.tup [w, w2])) := ext_new r3 hT
          exact ⟨ee, hr_new r3 hT, .tup (SqT.of upd_same) (.cons (rw'.ext r3 ee) (.cons (rw2.ext r3 ee) .nil))⟩
        · show (zipF s0.items s1.items).length ≤ vs.length ∧ (zipF s0.items s1.items).length ≤ ws.length ∧ _
          rw [zipF_len]
          refine ⟨by omega, by omega, ?_⟩
          cases b
          · show _ ∨ _
            omega
          · show _ ∧ _
            have := hbb rfl
            omega
      · cases es
theorem mi_zipS {p3 p4 : Pos} {j : Nat} (ha : MA X W [e, e2] ta) (hm : X.mg "zip" = none := by rfl) (hg : Gl X "zip" := by rfl)
    (hs : starEach [e, e2] X.env = (false, eval e X.env) :: starEach [e2] X.env := by rfl) (hpl : (backTo pos (starEach [e, e2] X.env)).any (·.1) = false := by rfl) :
    MI X W (.Tuple es kk tp) (.Call (.Name "zip" p) [e, e2] [⟨some "strict", .Constant (.bool true) j p3, p4⟩] pos) (iOf ta (srcZ true)) := ⟨pi_imp (pi_zpS hg hm ha.pa hs hpl) fun σ H R q => zip_wi q⟩
/-! ### for -/
def loopF (gs : List (Nat × List Va)) (g : GF) (body : SF) : List Va → SF
  | [], ev, h => if gsOk gs h then .nx ev h else .bad
  | x :: xs, ev, h => if gsOk gs h then match g x ev with
      | none => .bad
      | some ev1 => match body ev1 h with
        | .nx ev2 h2 => loopF gs g body xs ev2 h2
        | .ct ev2 h2 => loopF gs g body xs ev2 h2
        | .bk ev2 h2 => .nx ev2 h2
        | .rt v h2 => .rt v h2
        | .exc c p ev2 h2 => .exc c p ev2 h2
        | .bad => .bad
    else .bad
def sFor (i : IF) (g : GF) (body : SF) : SF := fun ev h => (i ev h).s ev fun s h1 => loopF s.gs g body s.items ev h1
theorem ms_for {vs : List Nat} {body : List Stmt} {fi : IF} {g : GF} {fb : SF} (hp : PassesOwn (model X.prog X.w) X.A X.env X.xe) (hc : X.calm = true) (hi : MI X W tg e fi) (hg : MG X tg vs g) (hb : MSs X W body fb)
    (hs : ∀ x, foldedSetIterable e X.env x = pure x := by intro _; rfl) : MS X W (.For tg e body [] pos) (sFor fi g fb) := ⟨ps_imp (ps_for hp hc hi.pi hg.pg hb.pss hs) fun D σ H q => by
  obtain ⟨m, ah, ev, r, re, q⟩ := q
  refine ⟨m, ah, ev, r, re, ?_⟩
  unfold sFor at q
  cases eg : fi ev ah with
  | exc c p a => rw [eg] at q; exact fun m2 H2 cls d e2 r2 x2 => q m2 H2 cls d σ e2 r2 (re.ext r e2) x2
  | bad => rw [eg] at q; exact q
  | ok s a =>
    rw [eg] at q
    intro m1 H1 J e1 r1 hJ
    refine ⟨fun i k σ' H' => ∃ m' ah' ev', Ext m1 H1 m' H' ∧ HR X.K H' m' ah' ∧ ER X.K H' m' ev' σ' ∧ k = s.items.length - i ∧ i ≤ s.items.length ∧ PostS X.K X.mg W m' H' D (loopF s.gs g fb (s.items.drop i) ev' ah'), ⟨_, m1, a, ev, .refl, r1, re.ext r e1, rfl, Nat.zero_le _, PostS.ext q e1⟩, ?_⟩
    rintro i k σ1 H2 ⟨m2, ah2, ev2, e2, r2, re2, hk, hle, q2⟩
    cases hi : s.items.drop i with
    | nil =>
      rw [hi] at q2
      unfold loopF at q2
      split at q2
      · rename_i hgs
        have hlen : i = s.items.length := by
          have := List.drop_eq_nil_iff.mp hi
          omega
        subst hlen
        exact .inl ⟨(hJ m2 H2 ah2 (e2.w r1) r2 hgs).2, q2 m2 H2 σ1 .refl r2 re2⟩
      · exact q2.elim
    | cons x xs =>
      rw [hi] at q2
      unfold loopF at q2
      split at q2
      case isFalse => exact q2.elim
      rename_i hgs
      have hlt : i < s.items.length := by
        rcases Nat.lt_or_ge i s.items.length with z | z
        · exact z
        · rw [List.drop_eq_nil_of_le z] at hi; cases hi
      have hx : s.items[i]? = some x := by
        have := List.getElem?_drop (xs := s.items) (i := i) (j := 0)
        rw [hi] at this
        simpa using this.symm
      have hxs : s.items.drop (i + 1) = xs := by
        rw [← List.tail_drop, hi]; rfl
      obtain ⟨hgo, hy⟩ := (hJ m2 H2 ah2 (e2.w r1) r2 hgs).1 i x hx
      refine .inr ⟨hgo, fun σ' H' => ∃ m' ah' ev', Ext m2 H2 m' H' ∧ HR X.K H' m' ah' ∧ ER X.K H' m' ev' σ' ∧ PostS X.K X.mg W m' H' D (loopF s.gs g fb xs ev' ah'), ?_, ?_⟩
      · rintro σ' H' ⟨m', ah', ev', e3, r3, re3, q3⟩
        exact ⟨k - 1, by omega, m', ah', ev', e2.trans e3, r3, re3, by omega, by omega, by rw [hxs]; exact q3⟩
      · intro y H3 hyl
        obtain ⟨e3, r3, ry⟩ := hy y H3 hyl
        cases hg' : g x ev2 with
        | none => simp only [hg'] at q2; exact q2.elim
        | some ev1 =>
        simp only [hg'] at q2
        refine ⟨m2, x, ev2, ev1, re2.ext r2 e3, ry, hg', fun σ' re' _ _ => ⟨m2, ah2, ev1, r3, re', ?_⟩⟩
        cases hb' : fb ev1 ah2 with
        | nx ev3 h3 =>
          simp only [hb'] at q2
          exact fun m' H' s' e4 r4 re4 => ⟨m', h3, ev3, e3.trans e4, r4, re4, PostS.ext q2 (e3.trans e4)⟩
        | ct ev3 h3 =>
          simp only [hb'] at q2
          exact fun m' H' s' e4 r4 re4 => ⟨m', h3, ev3, e3.trans e4, r4, re4, PostS.ext q2 (e3.trans e4)⟩
        | bk ev3 h3 =>
          simp only [hb'] at q2
          exact fun m' H' s' e4 r4 re4 => q2 m' H' s' (e3.trans e4) r4 re4
        | rt v h3 =>
          simp only [hb'] at q2
          exact fun m' H' s' e4 r4 re4 => q2 m' H' s' (e3.trans e4) r4 re4
        | exc c p ev3 h3 =>
          simp only [hb'] at q2
          exact fun m' H' cls d s' e4 r4 re4 x4 => q2 m' H' cls d s' (e3.trans e4) r4 re4 x4
        | bad => simp only [hb'] at q2; exact q2.elim⟩
end
end FL

set_option Elab.async false
set_option linter.all false
set_option maxRecDepth 100000
/-! FLC: comprehensions. -/
namespace FL
open PySem PySem.Spec PyProof.Rows L2
variable [Tabz]
section
variable {K : PySem.W.Frag} {H H' : Hp} {m : List Addr}
theorem sqT_off (e : ∀ b o, H b = some o → (∀ vs, o ≠ .lst vs) → H' b = some o) {a : Addr} {vs : List V} (h : SqT K H a vs) : SqT K H' a vs := by
  rcases h with (h | ⟨o, h⟩) | h
  · exact .inl (.inl (e _ _ h (fun _ z => nomatch z)))
  · exact .inl (.inr ⟨o, e _ _ h (fun _ z => nomatch z)⟩)
  · exact .inr h
theorem fz_off (e : ∀ b o, H b = some o → (∀ vs, o ≠ .lst vs) → H' b = some o) {a : Addr} {vs : List V} (h : Fz K H a vs) : Fz K H' a vs := by
  rcases h with ⟨o, h⟩ | h
  · exact .inl ⟨o, e _ _ h (fun _ z => nomatch z)⟩
  · exact .inr h
theorem sqN_off (e : ∀ b o, H b = some o → (∀ vs, o ≠ .lst vs) → H' b = some o) {a : Addr} {vs : List V} (h : SqN H a vs) : SqN H' a vs := let ⟨o, h, d⟩ := h; ⟨o, e _ _ h (fun _ z => nomatch z), d⟩
mutual
theorem VR.off (e : ∀ b o, H b = some o → (∀ vs, o ≠ .lst vs) → H' b = some o) : ∀ {x : Va} {v : V}, VR K H m x v → VR K H' m x v
  | _, _, .non => .non
  | _, _, .bl b => .bl b
  | _, _, .int i => .int i
  | _, _, .str x => .str x
  | _, _, .rp d => .rp d
  | _, _, .ref h => .ref h
  | _, _, .tup h hs => .tup (sqT_off e h) (VRs.off e hs)
  | _, _, .rol h hs => .rol (fz_off e h) (VRs.off e hs)
  | _, _, .dv h => .dv (h.to (fun _ _ z => e _ _ z (fun _ z => nomatch z)) fun _ _ => sqT_off e)
  | _, _, .exo a => .exo a
  | _, _, .exn h g => .exn (e _ _ h (fun _ z => nomatch z)) (VR.off e g)
  | _, _, .tud h hs => .tud (sqN_off e h) (VRs.off e hs)
theorem VRs.off (e : ∀ b o, H b = some o → (∀ vs, o ≠ .lst vs) → H' b = some o) : ∀ {xs : List Va} {vs : List V}, VRs K H m xs vs → VRs K H' m xs vs
  | _, _, .nil => .nil
  | _, _, .cons h hs => .cons (VR.off e h) (VRs.off e hs)
end
theorem DtE.off (e : ∀ b o, H b = some o → (∀ vs, o ≠ .lst vs) → H' b = some o) : ∀ {kvs : List (Va × Va)} {xs : List (PySem.NestedKey × Addr × Value)}, DtE K H m kvs xs → DtE K H' m kvs xs
  | _, _, .nil => .nil
  | _, _, .cons h1 h2 h3 h4 h5 => .cons h1 (VR.off e h2) (VR.off e h3) h4 (DtE.off e h5)
theorem VRp.off (e : ∀ b o, H b = some o → (∀ vs, o ≠ .lst vs) → H' b = some o) : ∀ {xs : List (Va × Va)} {vs : List (V × V)}, VRp K H m xs vs → VRp K H' m xs vs
  | _, _, .nil => .nil
  | _, _, .cons h g hs => .cons (VR.off e h) (VR.off e g) (VRp.off e hs)
theorem HR.off {ah : AH} (e : ∀ b o, H b = some o → (∀ vs, o ≠ .lst vs) → H' b = some o) (e2 : ∀ b, b ∈ m → H' b = H b) (r : HR K H m ah) : HR K H' m ah := by
  refine ⟨r.len, r.nd, fun l a o h1 h2 => ?_, fun x hx => by
    obtain ⟨ps, t1, t2, t3⟩ := r.tb x hx
    refine ⟨ps, e _ _ t1 (fun _ z => nomatch z), t2, fun pos cv hc => ?_⟩
    obtain ⟨c, e1, e3⟩ := t3 pos cv hc
    exact ⟨c, e1, e _ _ e3 (fun _ z => by unfold LamX.CodeO at z; cases z)⟩⟩
  have q := r.at_ l a o h1 h2
  have ea := e2 a (List.mem_of_getElem? h1)
  cases o with
  | lst xs => obtain ⟨vs, q1, q2⟩ := q; exact ⟨vs, by rw [ea]; exact q1, q2.off e⟩
  | dct xs => obtain ⟨vs, q1, q2⟩ := q; exact ⟨vs, by rw [ea]; exact q1, q2.off e⟩
  | dtl xs => obtain ⟨vs, q1, q2, q3⟩ := q; exact ⟨vs, by rw [ea]; exact q1, q2.off e, q3⟩
  | ins c fs => obtain ⟨dx, vs, q1, q2⟩ := q; exact ⟨dx, vs, by rw [ea]; exact q1, q2.imp fun h => VR.off e h⟩
theorem off_upd {D : Addr} {ws us : List V} (h : H D = some (.lst ws)) : ∀ b o, H b = some o → (∀ vs, o ≠ .lst vs) → upd H D (.lst us) b = some o := fun b o hb hn => by
  have : b ≠ D := fun z => by rw [z, h] at hb; cases hb; exact hn _ rfl
  rw [upd_ne this]; exact hb
end
/-- as Ext, but for the thing at D -/
structure ExtD (D : Addr) (m : List Addr) (H : Hp) (m' : List Addr) (H' : Hp) : Prop where
  pre : ∃ r, m' = m ++ r
  keep : ∀ b o, b ≠ D → H b = some o → b ∉ m → (nt : ∀ ps, o ≠ .tbl ps := by first | assumption | (intro _ z; cases z) | simp) → H' b = some o
  new : ∀ a, a ∈ m' → a ∉ m → a ≠ D ∧ (H a = none ∨ ∃ ps, H a = some (.tbl ps))
section
variable {K : PySem.W.Frag} {D : Addr} {H H' H2 H3 : Hp} {m m' m2 : List Addr}
theorem ExtD.get (e : ExtD D m H m' H') {l : Nat} {a : Addr} (h : m[l]? = some a) : m'[l]? = some a := by
  obtain ⟨r, rfl⟩ := e.pre
  rw [List.getElem?_append_left (List.getElem?_eq_some_iff.mp h).1]
  exact h
theorem ExtD.then (e : ExtD D m H m' H') (f : Ext m' H' m2 H2) (hD : ∃ ws, H' D = some (.lst ws)) (hn : D ∉ m') : ExtD D m H m2 H2 := by
  refine ⟨?_, fun b o hb h n nt => ?_, fun a h n => ?_⟩
  · obtain ⟨r, e1⟩ := e.pre
    obtain ⟨q, e2⟩ := f.pre
    exact ⟨r ++ q, by rw [e2, e1, List.append_assoc]⟩
  · refine f.keep b o (e.keep b o hb h n nt) (fun hb' => ?_) nt
    rcases (e.new b hb' n).2 with this | ⟨ps, this⟩
    · rw [h] at this
      cases this
    · rw [h] at this
      exact nt ps (Option.some.inj this)
  · by_cases h1 : a ∈ m'
    · exact e.new a h1 n
    · have q := f.new a h h1
      have hd : a ≠ D := fun z => by
        obtain ⟨o, ho⟩ := hD
        rcases q with q | ⟨_, q⟩ <;> (rw [z, ho] at q; cases q)
      refine ⟨hd, ?_⟩
      cases z : H a with
      | none => exact .inl rfl
      | some o =>
        by_cases nt : ∃ ps, o = .tbl ps
        · obtain ⟨ps, y⟩ := nt
          exact .inr ⟨ps, by rw [y]⟩
        · have nt' : ∀ ps, o ≠ .tbl ps := fun ps y => nt ⟨ps, y⟩
          rw [e.keep a o hd z n nt'] at q
          rcases q with q | ⟨ps, q⟩
          · cases q
          · exact (nt' ps (Option.some.inj q)).elim
theorem ExtD.upd (e : ExtD D m H m' H') {o : HO} : ExtD D m H m' (upd H' D o) :=
  ⟨e.pre, fun b u hb h n nt => by rw [upd_ne hb]; exact e.keep b u hb h n nt, e.new⟩
theorem ExtD.start {o : HO} : ExtD D m H m (L2.upd H D o) :=
  ⟨⟨[], by simp⟩, fun b u hb h n _ => by rw [upd_ne hb]; exact h, fun a h1 h2 => absurd h1 h2⟩
theorem ExtD.done (e : ExtD D m H m' H') (hD : H D = none) : Ext m H (m' ++ [D]) H' := by
  refine ⟨?_, fun b o h n nt => ?_, fun a h n => ?_⟩
  · obtain ⟨r, e1⟩ := e.pre
    exact ⟨r ++ [D], by rw [e1, List.append_assoc]⟩
  · exact e.keep b o (fun z => by rw [z, hD] at h; cases h) h n nt
  · rcases List.mem_append.mp h with z | z
    · exact (e.new a z n).2
    · rw [List.mem_singleton.mp z]; exact .inl hD
mutual
theorem VR.more {x : List Addr} : ∀ {p : Va} {v : V}, VR K H m p v → VR K H (m ++ x) p v
  | _, _, .non => .non
  | _, _, .bl b => .bl b
  | _, _, .int i => .int i
  | _, _, .str x => .str x
  | _, _, .rp d => .rp d
  | _, _, .ref h => .ref (by rw [List.getElem?_append_left (List.getElem?_eq_some_iff.mp h).1]; exact h)
  | _, _, .tup h hs => .tup h (VRs.more hs)
  | _, _, .rol h hs => .rol h (VRs.more hs)
  | _, _, .dv h => .dv h
  | _, _, .exo a => .exo a
  | _, _, .exn h g => .exn h (VR.more g)
  | _, _, .tud h hs => .tud h (VRs.more hs)
theorem VRs.more {x : List Addr} : ∀ {p : List Va} {v : List V}, VRs K H m p v → VRs K H (m ++ x) p v
  | _, _, .nil => .nil
  | _, _, .cons h hs => .cons (VR.more h) (VRs.more hs)
end
theorem DtE.more {x : List Addr} : ∀ {kvs : List (Va × Va)} {xs : List (PySem.NestedKey × Addr × Value)}, DtE K H m kvs xs → DtE K H (m ++ x) kvs xs
  | _, _, .nil => .nil
  | _, _, .cons h1 h2 h3 h4 h5 => .cons h1 (VR.more h2) (VR.more h3) h4 (DtE.more h5)
theorem VRp.more {x : List Addr} : ∀ {p : List (Va × Va)} {v : List (V × V)}, VRp K H m p v → VRp K H (m ++ x) p v
  | _, _, .nil => .nil
  | _, _, .cons h g hs => .cons (VR.more h) (VR.more g) (VRp.more hs)
/-- the list at D is taken into the layer's heap -/
theorem HR.take_in {ah : AH} {xs : List Va} {vs : List V} (r : HR K H m ah) (hn : D ∉ m) (hD : H D = some (.lst vs)) (hv : VRs K H m xs vs) : HR K H (m ++ [D]) (ah ++ [.lst xs]) := by
  refine ⟨by simp [r.len], ?_, fun l a o h1 h2 => ?_, r.tb⟩
  · rw [List.nodup_append]
    refine ⟨r.nd, by simp, fun a ha b hb z => ?_⟩
    rw [List.mem_singleton.mp hb] at z
    exact hn (z ▸ ha)
  · rcases Nat.lt_or_ge l m.length with hl | hl
    · rw [List.getElem?_append_left hl] at h1
      rw [List.getElem?_append_left (by rw [← r.len]; exact hl)] at h2
      have q := r.at_ l a o h1 h2
      cases o with
      | lst xs => obtain ⟨vs, q1, q2⟩ := q; exact ⟨vs, q1, q2.more⟩
      | dct xs => obtain ⟨vs, q1, q2⟩ := q; exact ⟨vs, q1, q2.more⟩
      | dtl xs => obtain ⟨vs, q1, q2, q3⟩ := q; exact ⟨vs, q1, q2.more, q3⟩
      | ins c fs => obtain ⟨dx, vs, q1, q2⟩ := q; exact ⟨dx, vs, q1, q2.imp fun h => VR.more h⟩
    · have hl2 : l = m.length := by
        have := (List.getElem?_eq_some_iff.mp h1).1
        rw [List.length_append, List.length_singleton] at this
        omega
      subst hl2
      rw [List.getElem?_append_right (Nat.le_refl _)] at h1
      rw [List.getElem?_append_right (by rw [← r.len]; exact Nat.le_refl _), ← r.len] at h2
      simp at h1 h2
      subst h1 h2
      exact ⟨vs, hD, hv.more⟩
end
/-! ### the tests of a comprehension -/
structure MTs (X : Cx) (W : WX) (ifs : List Expr) (t : TF) : Prop where
  pts : PTs X ifs (Wi X.K X.mg RB W t)
def tYesF : TF := fun _ h => .ok true h
def compF (gs : List (Nat × List Va)) (g : GF) (t : TF) (el : EF) (ev0 : Ev) : List Va → AH → Rs (List Va)
  | [], h => if gsOk gs h then .ok [] h else .bad
  | x :: xs, h => if gsOk gs h then match g x ev0 with
      | none => .bad
      | some ev1 => match t ev1 h with
        | .ok true h2 => (match el ev1 h2 with
          | .ok y h3 => (compF gs g t el ev0 xs h3).bind fun ys h4 => .ok (y :: ys) h4
          | _ => .bad)
        | .ok false h2 => compF gs g t el ev0 xs h2
        | _ => .bad
    else .bad
def lcF (g : GF) (t : TF) (el : EF) (vs : List Nat) (ev : Ev) : Src → AH → Rs Va := fun s h1 =>
  if s.items.length < lim then (compF s.gs g t el (ewipe ev vs) s.items h1).bind fun ys h2 => .ok (.ref h2.length) (h2 ++ [.lst ys]) else .bad
def eLc (i : IF) (g : GF) (t : TF) (el : EF) (vs : List Nat) : EF := fun ev h => (i ev h).bind (lcF g t el vs ev)
theorem wipe_of : ∀ {vs : List Nat} {σ2 σ : L2.St}, σ2.length = σ.length → (∀ j, j ∉ vs → σ2[j]? = (wipe σ vs)[j]?) → wipe σ2 vs = wipe σ vs := by
  intro vs σ2 σ hl h
  have key : ∀ (us : List Nat) (τ : L2.St) (j : Nat), (wipe τ us)[j]? = if j ∈ us then (if j < τ.length then some none else none) else τ[j]? := by
    intro us
    induction us with
    | nil => intro τ j; simp [wipe]
    | cons u us ih =>
      intro τ j
      unfold wipe
      by_cases hj : u = j
      · subst hj
        by_cases hlt : u < τ.length
        · rw [List.getElem?_set_self (by rw [wipe_length]; exact hlt)]
          simp [hlt]
        · rw [List.getElem?_eq_none (by rw [List.length_set, wipe_length]; omega)]
          simp [hlt]
      · rw [List.getElem?_set_ne hj, ih]
        simp [Ne.symm hj]
  apply List.ext_getElem?
  intro j
  rw [key, key]
  by_cases hj : j ∈ vs
  · simp [hj, hl]
  · simp only [hj, if_false]
    rw [h j hj, key]
    simp [hj]
section
variable {X : Cx} {W : WX} {tg iter elt : Expr} {ifs : List Expr} {scope : Scope} {own : List (Str × Nat)} {pos : Pos} {vs : List Nat} {fi : IF} {g : GF} {t : TF} {el : EF}
theorem mts_nil : MTs X W [] tYesF := ⟨⟨fun pins s σ H Q I h => (pts_nil (X := X)).run pins s σ H Q I (by
  obtain ⟨m, ah, ev, r, re, q⟩ := h
  exact q m H true .refl r rfl)⟩⟩
theorem mts_one {c : Expr} (h : MT X W c t) : MTs X W [c] t := ⟨⟨fun pins s σ H Q I q => (pts_one h.pt).run pins s σ H Q I q⟩⟩
def WN : WX := fun _ _ _ _ => False
theorem lc_wi {σ : L2.St} {H : Hp} {Q : V → Hp → Prop} (q : Wi X.K X.mg (VR X.K) W (eLc fi g t el (own.map (·.2))) σ H Q) :
    tLc (WiI X.K X.mg W fi) (WiG X.K (own.map (·.2)) g) (Wi X.K X.mg RB WN t) (Wi X.K X.mg (VR X.K) WN el) (own.map (·.2)) σ H Q := by
  obtain ⟨m, ah, ev, r, re, q⟩ := q
  refine ⟨m, ah, ev, r, re, ?_⟩
  unfold eLc at q
  cases eg : fi ev ah with
  | exc c p a => rw [eg] at q; exact q
  | bad => rw [eg] at q; exact q
  | ok s a =>
    rw [eg] at q
    simp only [Rs.bind_ok] at q
    unfold lcF at q
    split at q
    case isFalse => exact q.elim
    rename_i hlim
    intro m1 H1 J e1 r1 hJ D hD
    have hDm : D ∉ m1 := r1.notnone hD
    generalize hev0 : ewipe ev (own.map (·.2)) = ev0 at q
    have e0 : Ext m1 H1 m1 (upd H1 D (.lst [])) := ext_new r1 hD
    have re0 : ER X.K (upd H1 D (.lst [])) m1 ev0 (wipe σ (own.map (·.2))) := by
      rw [← hev0]
      exact ((re.ext r e1).ext r1 e0).wipe _
    refine ⟨fun i k H2 => ∃ m2 ah2 acc vacc, ExtD D m1 H1 m2 H2 ∧ HR X.K H2 m2 ah2 ∧ ER X.K H2 m2 ev0 (wipe σ (own.map (·.2))) ∧ VRs X.K H2 m2 acc vacc ∧ H2 D = some (.lst vacc) ∧ D ∉ m2 ∧ acc.length ≤ i ∧ k = s.items.length - i ∧ i ≤ s.items.length ∧
      Post X.K X.mg (VR X.K) m H (fun cls d H' => W cls d σ H') ((compF s.gs g t el ev0 (s.items.drop i) ah2).bind fun ys h2 => .ok (.ref h2.length) (h2 ++ [.lst (acc ++ ys)])) (fun w H' => Q w H'), ?_, ?_⟩
    · refine ⟨_, m1, a, [], [], ExtD.start, hr_new r1 hD, re0, .nil, upd_same, hDm, Nat.le_refl _, rfl, Nat.zero_le _, ?_⟩
      simpa using q
    rintro i k H2 ⟨m2, ah2, acc, vacc, e2, r2, re2, rv2, hD2, hn2, hle2, rfl, hi2, q2⟩
    have eJ : ExtW m1 H1 m2 H2 := ⟨e2.pre, fun b o h h1 h2 _ _ _ => e2.keep b o (fun z => by rw [z, hD] at h; cases h) h (r1.notin h h1 h2)⟩
    cases hi : s.items.drop i with
    | nil =>
      rw [hi] at q2
      unfold compF at q2
      split at q2
      · rename_i hgs
        have hlen : i = s.items.length := by
          have := List.drop_eq_nil_iff.mp hi
          omega
        subst hlen
        refine .inl ⟨(hJ m2 H2 _ eJ r2 hgs).2, ?_⟩
        simp only [Rs.bind_ok, List.append_nil] at q2
        exact q2 (m2 ++ [D]) H2 (.ref D) (e1.trans (e2.done hD)) (r2.take_in hn2 hD2 rv2) (.ref (by rw [← r2.len]; simp))
      · exact q2.elim
    | cons x xs =>
      rw [hi] at q2
      unfold compF at q2
      split at q2
      case isFalse => exact q2.elim
      rename_i hgs
      have hlt : i < s.items.length := by
        rcases Nat.lt_or_ge i s.items.length with z | z
        · exact z
        · rw [List.drop_eq_nil_of_le z] at hi; cases hi
      have hx : s.items[i]? = some x := by
        have := List.getElem?_drop (xs := s.items) (i := i) (j := 0)
        rw [hi] at this
        simpa using this.symm
      have hxs : s.items.drop (i + 1) = xs := by
        rw [← List.tail_drop, hi]; rfl
      obtain ⟨hgo, hy⟩ := (hJ m2 H2 _ eJ r2 hgs).1 i x hx
      refine .inr ⟨hgo, fun H' => ∃ m' ah' acc' vacc', ExtD D m1 H1 m' H' ∧ HR X.K H' m' ah' ∧ ER X.K H' m' ev0 (wipe σ (own.map (·.2))) ∧ VRs X.K H' m' acc' vacc' ∧ H' D = some (.lst vacc') ∧ D ∉ m' ∧ acc'.length ≤ i + 1 ∧
        Post X.K X.mg (VR X.K) m H (fun cls d H' => W cls d σ H') ((compF s.gs g t el ev0 xs ah').bind fun ys h2 => .ok (.ref h2.length) (h2 ++ [.lst (acc' ++ ys)])) (fun w H' => Q w H'), ?_, ?_⟩
      · rintro H' ⟨m', ah', acc', vacc', e3, r3, re3, rv3, hD3, hn3, hle3, q3⟩
        exact ⟨_, by omega, m', ah', acc', vacc', e3, r3, re3, rv3, hD3, hn3, hle3, rfl, by omega, by rw [hxs]; exact q3⟩
      · intro y H3 hyl
        obtain ⟨e3, r3, ry⟩ := hy y H3 hyl
        have hD3 := e3.keep D _ hD2 hn2
        have re3 := re2.ext r2 e3
        have rv3 := rv2.ext r2 e3
        cases hg' : g x ev0 with
        | none => simp only [hg'] at q2; exact q2.elim
        | some ev1 =>
        simp only [hg'] at q2
        refine ⟨m2, x, ev0, ev1, re3, ry, hg', fun σ' re' hu hul => ⟨wipe_of (by rw [hul, wipe_length]) hu, m2, ah2, ev1, r3, re', ?_⟩⟩
        cases ht' : t ev1 ah2 with
        | exc c p h2 => simp only [ht'] at q2; exact q2.elim
        | bad => simp only [ht'] at q2; exact q2.elim
        | ok b h2 =>
        intro m4 H4 b' e4 r4 hb'
        cases hb'
        have hD4 := e4.keep D _ hD3 hn2
        have hn4 : D ∉ m4 := fun z => by
          rcases e4.new D z hn2 with this | ⟨_, this⟩ <;> (rw [hD3] at this; cases this)
        have eD3 : ExtD D m1 H1 m2 H3 := e2.then e3 ⟨_, hD2⟩ hn2
        have eD4 : ExtD D m1 H1 m4 H4 := eD3.then e4 ⟨_, hD3⟩ hn2
        cases b with
        | false =>
          simp only [ht'] at q2
          show _
          exact ⟨m4, h2, acc, vacc, eD4, r4, re3.ext r3 e4, rv3.ext r3 e4, hD4, hn4, by omega, q2⟩
        | true =>
          simp only [ht'] at q2
          show Wi _ _ _ _ _ _ _ _
          refine ⟨m4, h2, ev1, r4, re'.ext r3 e4, ?_⟩
          cases he' : el ev1 h2 with
          | exc c p h3 => simp only [he'] at q2; exact q2.elim
          | bad => simp only [he'] at q2; exact q2.elim
          | ok z h3 =>
            simp only [he'] at q2
            intro m5 H5 w e5 r5 rw5
            have hD5 := e5.keep D _ hD4 hn4
            have hn5 : D ∉ m5 := fun z => by
              rcases e5.new D z hn4 with this | ⟨_, this⟩ <;> (rw [hD4] at this; cases this)
            have eD5 : ExtD D m1 H1 m5 H5 := eD4.then e5 ⟨_, hD4⟩ hn4
            have rv5 := (rv3.ext r3 e4).ext r4 e5
            have off := off_upd (H := H5) (D := D) (us := vacc ++ [w]) hD5
            have hls := rv2.length
            have hl := lim_line hlim
            have hnb : ∀ b, b ∈ m5 → upd H5 D (.lst (vacc ++ [w])) b = H5 b := fun b hb => upd_ne fun z => hn5 (z ▸ hb)
            refine ⟨vacc, hD5, by omega, m5, h3, acc ++ [z], vacc ++ [w], eD5.upd, r5.off off hnb, ?_, (rv5.off off).append (.cons (rw5.off off) .nil), upd_same, hn5, by simp; omega, ?_⟩
            · have := (re3.ext r3 e4).ext r4 e5
              refine ⟨this.len, fun j v hj => ?_⟩
              obtain ⟨u, hu1, hu2⟩ := this.get j v hj
              exact ⟨u, hu1, hu2.off off⟩
            · have e9 : ((compF s.gs g t el ev0 xs h3).bind fun ys h2 => Rs.ok (Va.ref h2.length) (h2 ++ [.lst (acc ++ [z] ++ ys)])) = (((compF s.gs g t el ev0 xs h3).bind fun ys h4 => .ok (z :: ys) h4).bind fun ys h2 => .ok (Va.ref h2.length) (h2 ++ [.lst (acc ++ ys)])) := by
                cases compF s.gs g t el ev0 xs h3 with
                | ok ys h4 => simp [Rs.bind_ok]
                | exc c p h4 => rfl
                | bad => rfl
              rw [e9]
              exact q2
theorem me_lc (own : List (Str × Nat)) (hc : X.calm = true) (hN : X.N.Nodup) (hi : MI X W tg iter fi) (ok : BlkOk X.N X.env.scope scope own)
    (hg : ∀ (s : Shared) (H : Hp) (C : Addr) (cl : List (Str × Addr)) (fp : List Addr), MG (X.blk s H scope (compEnvC scope cl C X.env) fp) tg (own.map (·.2)) g)
    (ht : ∀ (s : Shared) (H : Hp) (C : Addr) (cl : List (Str × Addr)) (fp : List Addr), MTs (X.blk s H scope (compEnvC scope cl C X.env) fp) WN ifs t)
    (he : ∀ (s : Shared) (H : Hp) (C : Addr) (cl : List (Str × Addr)) (fp : List Addr), ME (X.blk s H scope (compEnvC scope cl C X.env) fp) WN elt el) (hs : ∀ x, foldedSetIterable iter X.env x = pure x := by intro _; rfl) :
    ME X W (.ListComp elt [⟨tg, iter, ifs, 0⟩] scope pos) (eLc fi g t el (own.map (·.2))) :=
  ⟨pe_imp (pe_lc hc hN hi.pi ok (fun s H C cl fp => (hg s H C cl fp).pg) (fun s H C cl fp => (ht s H C cl fp).pts) (fun s H C cl fp => (he s H C cl fp).pe) hs) fun σ H Q q => lc_wi q⟩
theorem ms_setLc {i : Nat} {y : Str} {py spos : Pos} (own : List (Str × Nat)) (hc : X.calm = true) (hN : X.N.Nodup) (hy : X.N[i]? = some y) (hyl : X.env.scope.names.lookup y = some .local)
    (hsw : swapsWith (.ListComp elt [⟨tg, iter, ifs, 0⟩] scope pos) (some (.Name y py)) spos.line X.env = pure true) (hi : MI X W tg iter fi) (ok : BlkOk X.N X.env.scope scope own)
    (hg : ∀ (s : Shared) (H : Hp) (C : Addr) (cl : List (Str × Addr)) (fp : List Addr), MG (X.blk s H scope (compEnvC scope cl C X.env) fp) tg (own.map (·.2)) g)
    (ht : ∀ (s : Shared) (H : Hp) (C : Addr) (cl : List (Str × Addr)) (fp : List Addr), MTs (X.blk s H scope (compEnvC scope cl C X.env) fp) WN ifs t)
    (he : ∀ (s : Shared) (H : Hp) (C : Addr) (cl : List (Str × Addr)) (fp : List Addr), ME (X.blk s H scope (compEnvC scope cl C X.env) fp) WN elt el) (hs : ∀ x, foldedSetIterable iter X.env x = pure x := by intro _; rfl) :
    MS X W (.Assign [.Name y py] (.ListComp elt [⟨tg, iter, ifs, 0⟩] scope pos) spos) (sSet i (eLc fi g t el (own.map (·.2)))) :=
  ⟨ps_imp (ps_setLc hc hN hy hyl hsw hi.pi ok (fun s H C cl fp => (hg s H C cl fp).pg) (fun s H C cl fp => (ht s H C cl fp).pts) (fun s H C cl fp => (he s H C cl fp).pe) hs) fun D σ H q => lc_wi (by
    obtain ⟨m, ah, ev, r, re, q⟩ := WiS.bind (R := VR X.K) q
    refine ⟨m, ah, ev, r, re, ?_⟩
    cases ef : eLc fi g t el (own.map (·.2)) ev ah with
    | exc c p a => rw [ef] at q; exact q
    | bad => rw [ef] at q; exact q
    | ok v a =>
      rw [ef] at q
      intro m1 H1 x e1 r1 rx
      obtain ⟨m2, ah2, ev2, v2, r2, re2, rv2, q2⟩ := q m1 H1 x e1 r1 rx
      exact q2 m2 H1 _ .refl r2 (re2.set rv2))⟩
end
end FL

set_option Elab.async false
set_option linter.all false
set_option maxRecDepth 100000
/-! FLF: defs, calls, the law's end. -/
namespace FL
open PySem PySem.Spec PyProof.Rows L2
variable [Tabz]
/-! ### what is no longer reached is left away -/
mutual
def inR (n : Nat) : Va → Bool
  | .ref l => l.blt n
  | .tup xs => inRs n xs
  | .tud xs => inRs n xs
  | .rol xs => inRs n xs
  | .exn _ _ _ x => inR n x
  | _ => true
def inRs (n : Nat) : List Va → Bool
  | [] => true
  | x :: xs => inR n x && inRs n xs
end
def inRp (n : Nat) : List (Va × Va) → Bool
  | [] => true
  | (x, y) :: xs => inR n x && (inR n y && inRp n xs)
def inRf (n : Nat) : List (Str × Va) → Bool
  | [] => true
  | (_, x) :: xs => inR n x && inRf n xs
def inRO (n : Nat) : AO → Bool
  | .lst xs => inRs n xs
  | .dct ps => inRp n ps
  | .dtl ps => inRp n ps
  | .ins _ fs => inRf n fs
def gcF (n : Nat) (r : Rs Va) : Rs Va := match r with
  | .ok v h => if inR n v && (h.take n).all (inRO n) then .ok v (h.take n) else .ok v h
  | r => r
section
variable {K : PySem.W.Frag} {H : Hp} {m : List Addr}
mutual
theorem VR.less {n : Nat} : ∀ {x : Va} {v : V}, VR K H m x v → inR n x = true → VR K H (m.take n) x v
  | _, _, .non, _ => .non
  | _, _, .bl b, _ => .bl b
  | _, _, .int i, _ => .int i
  | _, _, .str x, _ => .str x
  | _, _, .rp d, _ => .rp d
  | _, _, .ref h, e => .ref (by
      unfold inR at e
      rw [List.getElem?_take_of_lt (Nat.le_of_ble_eq_true e)]
      exact h)
  | _, _, .tup h hs, e => .tup h (VRs.less hs (by unfold inR at e; exact e))
  | _, _, .tud h hs, e => .tud h (VRs.less hs (by unfold inR at e; exact e))
  | _, _, .rol h hs, e => .rol h (VRs.less hs (by unfold inR at e; exact e))
  | _, _, .dv h, _ => .dv h
  | _, _, .exo a, _ => .exo a
  | _, _, .exn h g, e => .exn h (VR.less g (by unfold inR at e; exact e))
theorem VRs.less {n : Nat} : ∀ {x : List Va} {v : List V}, VRs K H m x v → inRs n x = true → VRs K H (m.take n) x v
  | _, _, .nil, _ => .nil
  | _, _, .cons h hs, e => by
    unfold inRs at e
    obtain ⟨e1, e2⟩ := Bool.and_eq_true_iff.mp e
    exact .cons (VR.less h e1) (VRs.less hs e2)
end
theorem DtE.less {n : Nat} : ∀ {kvs : List (Va × Va)} {xs : List (PySem.NestedKey × Addr × Value)}, DtE K H m kvs xs → inRp n kvs = true → DtE K H (m.take n) kvs xs
  | _, _, .nil, _ => .nil
  | _, _, .cons h1 h2 h3 h4 h5, e => by
    unfold inRp at e
    obtain ⟨e1, e2⟩ := Bool.and_eq_true_iff.mp e
    obtain ⟨e3, e4⟩ := Bool.and_eq_true_iff.mp e2
    exact .cons h1 (VR.less h2 e1) (VR.less h3 e3) h4 (DtE.less h5 e4)
theorem VRp.less {n : Nat} : ∀ {x : List (Va × Va)} {v : List (V × V)}, VRp K H m x v → inRp n x = true → VRp K H (m.take n) x v
  | _, _, .nil, _ => .nil
  | _, _, .cons h g hs, e => by
    unfold inRp at e
    obtain ⟨e1, e2⟩ := Bool.and_eq_true_iff.mp e
    obtain ⟨e2, e3⟩ := Bool.and_eq_true_iff.mp e2
    exact .cons (VR.less h e1) (VR.less g e2) (VRp.less hs e3)
theorem VRf.less {n : Nat} : ∀ {x : List (Str × Va)} {v : List (Str × V)}, VRf K H m x v → inRf n x = true → VRf K H (m.take n) x v
  | _, _, .nil, _ => .nil
  | _, _, .cons h hs, e => by
    unfold inRf at e
    obtain ⟨e1, e2⟩ := Bool.and_eq_true_iff.mp e
    exact .cons (VR.less h e1) (VRf.less hs e2)
theorem HR.less {ah : AH} {n : Nat} (r : HR K H m ah) (h : (ah.take n).all (inRO n) = true) : HR K H (m.take n) (ah.take n) := by
  refine ⟨by rw [List.length_take, List.length_take, r.len], r.nd.sublist (List.take_sublist _ _), fun l a o h1 h2 => ?_, r.tb⟩
  have hl : l < n := by
    have := (List.getElem?_eq_some_iff.mp h1).1
    rw [List.length_take] at this
    omega
  have ho := List.all_eq_true.mp h o (List.mem_of_getElem? h2)
  rw [List.getElem?_take_of_lt hl] at h1 h2
  have q := r.at_ l a o h1 h2
  cases o with
  | lst xs => obtain ⟨vs, q1, q2⟩ := q; exact ⟨vs, q1, q2.less (by simpa [inRO] using ho)⟩
  | dct xs => obtain ⟨vs, q1, q2⟩ := q; exact ⟨vs, q1, q2.less (by simpa [inRO] using ho)⟩
  | dtl xs => obtain ⟨vs, q1, q2, q3⟩ := q; exact ⟨vs, q1, q2.less (by simpa [inRO] using ho), q3⟩
  | ins c fs => obtain ⟨dx, vs, q1, q2⟩ := q; exact ⟨dx, vs, q1, q2.less (by simpa [inRO] using ho)⟩
end
theorem Post.gc {K : PySem.W.Frag} {mg : Str → Option Value} {m : List Addr} {H : Hp} {ah : AH} {W : XK} {r : Rs Va} {Q : VK} (hr : HR K H m ah) (h : Post K mg (VR K) m H W (gcF ah.length r) (fun w H' => Q w H')) : Post K mg (VR K) m H W r (fun w H' => Q w H') := by
  cases r with
  | exc c p a => exact h
  | bad => exact h
  | ok v a =>
    unfold gcF at h
    simp only at h
    split at h
    · rename_i hz
      obtain ⟨z1, z2⟩ := Bool.and_eq_true_iff.mp hz
      intro m' H' w e1 r1 rw1
      have et : m'.take ah.length = m := by
        obtain ⟨q, e⟩ := e1.pre
        rw [e, ← hr.len, List.take_left']
        rfl
      have e2 : Ext m H (m'.take ah.length) H' := by
        rw [et]
        exact ⟨⟨[], by simp⟩, fun b o h1 h2 nt => e1.keep b o h1 h2 nt, fun a h1 h2 => absurd h1 h2⟩
      exact h (m'.take ah.length) H' w e2 (r1.less z2) (rw1.less z1)
    · exact h
/-! ### defs -/
def endF (r : SR) : Rs Va := match r with
  | .nx _ h => .ok .non h
  | .rt v h => .ok v h
  | .exc c p _ h => .exc c p h
  | _ => .bad
def fnF (n k : Nat) (b : SF) : List Va → AH → Rs Va := fun ps h => if ps.length == k then gcF h.length (endF (b (ps.map some ++ List.replicate (n - k) none) h)) else .bad
def spG (K : PySem.W.Frag) (mg : Str → Option Value) (F : List Va → AH → Rs Va) : Sp := fun vs H Q E => ∃ m ah pvs, HR K H m ah ∧ VRs K H m pvs vs ∧ Post K mg (VR K) m H E (F pvs ah) (fun w H' => Q w H')
structure FnG (P : Program) (w : World) (K : PySem.W.Frag) (mg : Str → Option Value) (base : Heap) (k : Nat) (f : Addr) (fd : FuncData) (ps : List Str) (F : List Va → AH → Rs Va) : Prop where
  len : ∀ vs H Q E, spG K mg F vs H Q E → vs.length = ps.length
  run : ∀ (A : Around) (outer : List Env) (s : Shared) (H : Hp) (args : Args) (us : List Value) (vs : List V) (Q : VK) (E : XK), Room k A → A.guards = some [] → Env0 P w K mg base A outer s H → BindsTo s fd args (ps.zip us) → Vals vs us → spG K mg F vs H Q E →
    codeAny (model P w) A (.call (.ref f) args) (CR (L2.CX P w) outer P w H s Q E) s
theorem er_start {K : PySem.W.Frag} {H : Hp} {m : List Addr} {pvs : List Va} {vs : List V} (N : List Str) (h : VRs K H m pvs vs) : ER K H m (pvs.map some ++ List.replicate (N.length - pvs.length) none) (start N vs) := by
  have hl := h.length
  refine ⟨by simp [L2.start, hl], fun i v e => ?_⟩
  by_cases hi : i < pvs.length
  · rw [List.getElem?_append_left (by simpa using hi), List.getElem?_map] at e
    cases ev : pvs[i]? with
    | none => rw [ev] at e; cases e
    | some x =>
      rw [ev] at e
      have : x = v := by simpa using e
      subst this
      obtain ⟨w, h1, h2⟩ := h.get ev
      refine ⟨w, ?_, h2⟩
      unfold L2.start
      rw [List.getElem?_append_left (by simp; omega), List.getElem?_map, h1]
      rfl
  · rw [List.getElem?_append_right (by simpa using hi), List.getElem?_replicate] at e
    split at e <;> cases e
section
variable {P : Program} {w : World} {K : PySem.W.Frag} {mg : Str → Option Value} {base : Heap}
abbrev WB (E : XK) : WX := fun cls d _ H => E cls d H
/-- a def by its body's meaning -/
theorem fnG_of {k : Nat} {f : Addr} {x qual : Str} {params : Arguments} {body : List Stmt} {scope : Scope} {dvs : List V} {kws : List (Str × V)} {fd : FuncData} {N ps : List Str} {b : SF} (F : FunD K x qual params body scope dvs kws f fd) (S : FnScope N ps scope)
    (hbody : ∀ (cdv : Value) (A : Around) (outer : List Env) (s : Shared) (H : Hp) (E : XK), Room k (A.deeper (envOfC qual scope s.heap.objs.size f cdv)) → (A.deeper (envOfC qual scope s.heap.objs.size f cdv)).guards = some [] →
      MSs (cxOf (L2.CX P w) P w K mg base N qual scope f cdv A outer s H E) (WB E) body b) :
    FnG P w K mg base (k + 1) f fd ps (fnF N.length ps.length b) := by
  have hlen : ∀ vs H Q E, spG K mg (fnF N.length ps.length b) vs H Q E → vs.length = ps.length := fun vs H Q E ⟨m, ah, pvs, r, rv, q⟩ => by
    rw [← rv.length]
    unfold fnF at q
    split at q
    · rename_i hz; exact eq_of_beq hz
    · exact q.elim
  refine ⟨hlen, fun A outer s H args us vs Q E hr hgd e0 hb r hsp => ?_⟩
  have hl := hlen _ _ _ _ hsp
  obtain ⟨oc, od, dV, kV, doc, pm, an, cdv, ct, osl, rfl, lk, hcd, hdd, hkk⟩ := F.ex
  have kx : K.In s.heap := e0.mod.kin.keeps fun b o e => (e0.bs b o e).1
  have nolim : s.heap.NoLimit := e0.mod.nolimit.keeps fun b o e => (e0.bs b o e).1
  have kinds : ∀ y ∈ ps.zip us, scope.names.lookup y.1 = some .local ∨ (scope.names.lookup y.1 = some .cell ∧ ((cellsFrom (s.heap.objs.size + 1) scope.names []).lookup y.1).isSome = true) := fun ⟨n, v⟩ hy => by
    rcases S.par n (List.of_mem_zip hy).1 with z | z
    · exact .inl z
    · exact .inr ⟨z, PySem.W.cellsFrom_some _ _ _ (.inl z)⟩
  refine codeAny_call_function hr.depth (kx _ _ lk) rfl S.co S.gen rfl (PySem.W.codeRec_of kx hcd) (hb _ _ _ _ ?_)
  refine wpAny_newFunctionEnv_cells S.kind kinds fun env he s1 x => ?_
  subst he
  refine ⟨nolim.keeps x.toInCall.keep, codeAny_func ?_⟩
  obtain ⟨m, ah, pvs, rH, rv, q⟩ := hsp
  have ht := hbody cdv A outer s H E (hr.deeper _) hgd
  have J : Inv (cxOf (L2.CX P w) P w K mg base N qual scope f cdv A outer s H E) [] (start N vs) H s1 := inv_start S hr.hd e0 hl r x
  have hpl : pvs.length = ps.length := by rw [rv.length]; exact hl
  have q2 : Post K mg (VR K) m H E (endF (b (pvs.map some ++ List.replicate (N.length - pvs.length) none) ah)) (fun w H' => Q w H') := by
    unfold fnF at q
    rw [if_pos (by rw [hpl]; exact beq_self_eq_true _), ← hpl] at q
    exact Post.gc rH q
  have hw : WiS K mg (WB E) b { nx := fun _ H' => Q .non H', rt := fun v H' => Q v H' } (start N vs) H := by
    refine ⟨m, ah, _, rH, er_start N rv, ?_⟩
    cases e : b (pvs.map some ++ List.replicate (N.length - pvs.length) none) ah with
    | nx ev a => rw [e] at q2; exact fun m' H' σ' e1 r1 _ => q2 m' H' .non e1 r1 .non
    | rt v a => rw [e] at q2; exact q2
    | bk ev a => rw [e] at q2; exact q2.elim
    | ct ev a => rw [e] at q2; exact q2.elim
    | exc c p ev a => rw [e] at q2; exact fun m' H' cls d σ' e1 r1 _ x1 => q2 m' H' cls d e1 r1 x1
    | bad => rw [e] at q2; exact q2.elim
  refine wpAny_mono (ht.pss.run [] s1 (start N vs) H _ J hw) (fun fl s' hs => ?_) fun e s' hs => hs
  have fin : ∀ {σ' : L2.St} {H' : Hp} {v : V} {u : Value}, Inv (cxOf (L2.CX P w) P w K mg base N qual scope f cdv A outer s H E) [] σ' H' s' → RelV v u → Q v H' → CE outer P w H s Q u s' :=
    fun {σ' H' v u} J rv q => ⟨v, H', J.os, J.bare, J.base, J.hok, rv, q⟩
  cases fl with
  | ret u =>
    obtain ⟨v, σ', H', J, rv, q⟩ := hs
    exact fin J rv q
  | next =>
    obtain ⟨σ', H', J, q⟩ := hs
    exact fin (v := V.non) (u := Value.none) J rfl q
  | brk =>
    obtain ⟨_, _, _, q⟩ := hs
    exact False.elim q
  | cont =>
    obtain ⟨_, _, _, q⟩ := hs
    exact False.elim q
theorem FnG.mono {j k : Nat} {f : Addr} {fd : FuncData} {ps : List Str} {F : List Va → AH → Rs Va} (G : FnG P w K mg base j f fd ps F) (h : j ≤ k) : FnG P w K mg base k f fd ps F :=
  ⟨G.len, fun A outer s H args us vs Q E hr => G.run A outer s H args us vs Q E (hr.mono h)⟩
/-- another meaning, where it says as much -/
theorem FnG.as {k : Nat} {f : Addr} {fd : FuncData} {ps : List Str} {F F' : List Va → AH → Rs Va} (G : FnG P w K mg base k f fd ps F) (h : F' = F) : FnG P w K mg base k f fd ps F' := h ▸ G
/-- a def that may be called: das the defaults behind the written values -/
structure Cd (P : Program) (w : World) (K : PySem.W.Frag) (mg : Str → Option Value) (base : Heap) (k : Nat) (x : Str) (das : List Va) (F : List Va → AH → Rs Va) : Prop where
  ex : ∃ (f : Addr) (fd : FuncData) (ps : List Str) (dvs : List V) (ds : List Value), FnG P w K mg base k f fd ps F ∧ mg x = some (.ref f) ∧ PySem.W.keepIn K (.ref f) = true ∧ Binds K fd ps ds ∧ Vals dvs ds ∧ ∀ H m, VRs K H m das dvs
/-- .. with keywords: n written values, the keywords' names, how they are put in order -/
structure Ck (P : Program) (w : World) (K : PySem.W.Frag) (mg : Str → Option Value) (base : Heap) (k : Nat) (x : Str) (n : Nat) (ks : List Str) (gA : List Va → List Va → List Va) (F : List Va → AH → Rs Va) : Prop where
  ex : ∃ (f : Addr) (fd : FuncData) (ps : List Str) (g : List Value → List Value → List Value) (gV : List V → List V → List V), FnG P w K mg base k f fd ps F ∧ mg x = some (.ref f) ∧ PySem.W.keepIn K (.ref f) = true ∧ KBn K fd ps n ks g gV ∧
    ∀ H m a b c d, VRs K H m a b → VRs K H m c d → VRs K H m (gA a c) (gV b d)
end
section
variable {X : Cx} {W : WX} {k kk n : Nat} {f : Addr} {fd : FuncData} {ps ks : List Str} {F : List Va → AH → Rs Va} {x : Str} {p pos : Pos} {e : Expr} {es : List Expr} {kws : List Keyword} {ta tk : AF} {das : List Va} {gA : List Va → List Va → List Va}
theorem after {pins : List (Addr × Obj)} {σ : L2.St} {H : Hp} {s : Shared} {Q : VK} {args : Args} {us : List Value} {vs : List V} (G : FnG X.prog X.w X.K X.mg X.base k f fd ps F) (hr : Room k X.A) (hgd : X.A.guards = some []) (b : BindsTo s fd args (ps.zip us)) (hx : PassesAt (L2.CX X.prog X.w) X σ (WE W σ))
    (I : Inv X pins σ H s) (r : Vals vs us) (h : spG X.K X.mg F vs H Q (WE W σ)) : wpAny (model X.prog X.w) X.A (call (.ref f) args.pos args.kw) (EP X pins σ Q) X.xe s := by
  refine wpAny_call (codeAny_mono (G.run X.A X.stack s H args us vs Q (WE W σ) hr hgd I.env0 b r h) fun r s' hq => ?_)
  cases r with
  | error e => exact hx pins H s e s' I hq
  | ok fl =>
    cases fl with
    | ret u => exact I.after hq
    | next => exact False.elim hq
    | brk => exact False.elim hq
    | cont => exact False.elim hq
def eCall (das : List Va) (F : List Va → AH → Rs Va) (ta : AF) : EF := fun ev h => (ta ev h).bind fun vs h1 => F (vs ++ das) h1
theorem me_call (C : Cd X.prog X.w X.K X.mg X.base kk x das F) (hr : Room k X.A) (hkk : kk ≤ k) (hgd : X.A.guards = some []) (tk : Takes X W) (ha : MA X W (e :: es) ta) (hg : Gl X x := by rfl)
    (hdb : (x == ("__debug__" : Str)) = false := by decide) (he : starEach (e :: es) X.env = (false, eval e X.env) :: starEach es X.env := by rfl) (hpl : (backTo pos (starEach es X.env)).any (·.1) = false := by rfl) :
    ME X W (.Call (.Name x p) (e :: es) [] pos) (eCall das F ta) := by
  obtain ⟨f, fd, ps, dvs, ds, G, hm, hk, hb, hd, hda⟩ := C.ex
  refine ⟨⟨fun pins s σ H Q I h => ?_⟩⟩
  have h := Wi.bind (R := VRs X.K) (k := fun _ vs h1 => F (vs ++ das) h1) h
  refine wpAny_Call_Name_kw (ld_glob I hg hm ?_ hdb)
  refine PySem.W.callWith_K (h₀ := X.base) I.ok.mod.kin hk (thn (ha.pa.run pos pins s σ H _ I h) fun us s1 ⟨vs, H1, I1, r, q⟩ => ⟨I1.kIn, ?_⟩) he hpl
  obtain ⟨m, ah, ev, pvs, rH, re, rv, q⟩ := q
  have hsp : spG X.K X.mg F (vs ++ dvs) H1 Q (WE W σ) := ⟨m, ah, pvs ++ das, rH, rv.append (hda _ _), q⟩
  have r2 : Vals (vs ++ dvs) (us ++ ds) := r.append hd
  have hl : (us ++ ds).length = ps.length := by rw [← r2.length]; exact G.len _ _ _ _ hsp
  exact after (args := ⟨us, []⟩) G (hr.mono hkk) hgd (hb s1 us I1.kIn hl) (L2.passAt tk σ) I1 r2 hsp
structure MK (X : Cx) (W : WX) (kws : List Keyword) (f : AF) : Prop where
  pk : PK X kws (Wi X.K X.mg (VRs X.K) W f)
def eCallK (n m : Nat) (gA : List Va → List Va → List Va) (F : List Va → AH → Rs Va) (ta tk : AF) : EF := fun ev h => (ta ev h).bind fun vs h1 => (tk ev h1).bind fun zs h2 => if vs.length == n && zs.length == m then F (gA vs zs) h2 else .bad
end
/-! ### the law's end -/
theorem only_fz {K : PySem.W.Frag} {H : Hp} {a : Addr} {vs : List V} (o : Only H) (h : SqL K H a vs) : Fz K H a vs := by
  rcases h with (h | ⟨ob, h⟩) | h
  · rcases o a with z | ⟨ob, xs, z⟩ <;> (rw [h] at z; cases z)
  · exact .inl ⟨ob, h⟩
  · exact .inr h
theorem hr_nil {K : PySem.W.Frag} {H : Hp} (t : LamX.Tabs Tabz.T H) : HR K H [] [] := ⟨rfl, .nil, fun l a o h => by simp at h, t⟩
theorem vrs_ints {K : PySem.W.Frag} {H : Hp} {m : List Addr} : ∀ ns : List Int, VRs K H m (ns.map Va.int) (ns.map V.int)
  | [] => .nil
  | n :: ns => .cons (.int n) (vrs_ints ns)
/-- the law's promise at the heap behind the top -/
theorem law_callG {P : Program} {w : World} {K : PySem.W.Frag} {mg mb : Str → Option Value} {k : Nat} {fa ad : Addr} {fd : FuncData} {x : Str} {F : List Va → AH → Rs Va} {t1 : Shared} {us : List Value} {ns : List Int}
    (kx : K.In t1.heap) (gn : t1.heap.Ns mainGlobals mg) (gb : t1.heap.Ns builtinsNs mb) (gbb : ∀ y : Str, y ≠ "__name__" → mb y = bootBuiltins y) (gl : t1.heap.NoLimit) (gg : t1.gens = #[])
    (ga : t1.heap.get? ad = some { cls := .type "list", data := .seq us.toArray }) (gi : IntsAre us ns) (gz : ns.length ≤ sizeLine) (hr : Room k callerA) (hgc : callerA.guards = some [])
    (G : ∀ base : Heap, K.In base → base.Ns mainGlobals mg → FnG P w K mg base k fa fd [x] F) (hbind : ∀ (s : Shared) (u : Value), BindsTo s fd ⟨[u], []⟩ [(x, u)])
    (hsp : ∀ H : Hp, Only H → SqL K H ad (ns.map V.int) → spG K mg F [.ref ad] H (fun v _ => v = .bl true) fun _ _ _ => False) :
    codeAny (model P w) callerA (.call (.ref fa) ⟨[.ref ad], []⟩) (fun r s2 => r = .ok (.ret (.bool true)) ∧ OldK t1.heap s2.heap ∧ s2.os = t1.os ∧ AllBare s2.gens) t1 := by
  have rv0 := vals_ints gi
  have ln0 := gi.length
  have main : ∀ H : Hp, Only H → SqL K H ad (ns.map V.int) → HOk P w H t1.heap → (∀ b, H b ≠ none → b = ad) → (H ad ≠ none → K.lookup ad = none) →
      codeAny (model P w) callerA (.call (.ref fa) ⟨[.ref ad], []⟩) (fun r s2 => r = .ok (.ret (.bool true)) ∧ OldK t1.heap s2.heap ∧ s2.os = t1.os ∧ AllBare s2.gens) t1 := by
    intro H hO hS okH only1 only2
    have hidden : ∀ {b : Addr} {o : Obj}, t1.heap.get? b = some o → H b = none → (hidT t1.heap H).get? b = some o := fun e n => hidT_get e n
    have noDict : ∀ {b : Addr} {o : Obj} {es : Array DictEntry} {ep : Nat}, t1.heap.get? b = some o → o.data = .dict es ep → H b = none := fun {b o es ep} e dd => by
      cases z : H b with
      | none => rfl
      | some u =>
        obtain rfl : b = ad := only1 b (by rw [z]; simp)
        rw [ga] at e
        cases e
        have d2 : Data.seq us.toArray _ = Data.dict es ep := dd
        cases d2
    have nsH : ∀ {b : Addr} {m : Str → Option Value}, t1.heap.Ns b m → (hidT t1.heap H).Ns b m := fun {b m} ⟨o, es, ep, e, dd, r⟩ => ⟨o, es, ep, hidden e (noDict e dd), dd, r⟩
    have kb : K.In (hidT t1.heap H) := fun b o e => hidden (kx b o e) (by
      cases z : H b with
      | none => rfl
      | some u =>
        obtain rfl : b = ad := only1 b (by rw [z]; simp)
        rw [only2 (by rw [z]; simp)] at e
        cases e)
    have md : Mod K mg (hidT t1.heap H) := ⟨kb, nsH gn, ⟨mb, nsH gb, gbb⟩, let ⟨mc, y1, y2⟩ := gl; ⟨mc, nsH y1, y2⟩⟩
    have en : Env0 P w K mg (hidT t1.heap H) callerA [] t1 H := ⟨rfl, md, fun b o e => of_hidT e, Nat.le_of_eq (hidT_size _ _), trivial, fun b hb => absurd (show b ∈ ([] : List Addr) from hb) (by simp), okH, .of_eq gg⟩
    refine codeAny_mono ((G _ kb (nsH gn)).run callerA [] t1 H ⟨[.ref ad], []⟩ [.ref ad] [.ref ad] _ _ hr hgc en (hbind t1 (.ref ad)) (.cons rfl .nil) (hsp H hO hS)) fun r s2 h => ?_
    cases r with
    | error e =>
      obtain ⟨_, _, _, _, _, _, _, _, _, _, _, _, z⟩ := h
      exact z.elim
    | ok fl =>
      cases fl with
      | next => exact False.elim h
      | brk => exact False.elim h
      | cont => exact False.elim h
      | ret u =>
        obtain ⟨v, H2, o2, b2, un, ok2, r2, q⟩ := h
        obtain rfl : v = .bl true := q
        obtain rfl : u = Value.bool true := r2
        refine ⟨rfl, OldK.of_keep fun b o e => ?_, o2, b2⟩
        cases z : H b with
        | none => exact un.keep b o e z (by intro y; exact absurd (show b ∈ ([] : List Addr) from y) (by simp)) (by simp)
        | some u =>
          rcases hO b with y | ⟨ob, xs, y⟩
          · rw [z] at y
            cases y
          · have y2 := un.frzs b ob _ y
            obtain ⟨e1, _⟩ := okH b _ y
            obtain ⟨e2, _⟩ := ok2 b _ y2
            rw [e] at e1
            cases e1
            exact e2
  cases hk : K.lookup ad with
  | some o =>
    have e := kx ad o hk
    rw [ga] at e
    cases e
    refine main (fun _ => none) (fun _ => .inl rfl) (.inr ⟨_, us.toArray, _, hk, rfl, rfl, rfl, by rw [List.size_toArray, ln0]; exact gz, by simpa using rv0⟩) (fun b u z => ?_) (fun b z => absurd rfl z) fun z => absurd rfl z
    have z2 : (none : Option HO) = some u := z
    cases z2
  | none =>
    refine main (fun b => if b = ad then some (.frz { cls := .type "list", data := .seq us.toArray } (.lst (ns.map V.int))) else none) (fun b => ?_) (.inl (.inr ⟨{ cls := .type "list", data := .seq us.toArray }, if_pos rfl⟩)) (fun b u z => ?_) (fun b z => ?_) fun _ => hk
    · by_cases hb : b = ad
      · exact .inr ⟨_, _, if_pos hb⟩
      · exact .inl (if_neg hb)
    · by_cases hb : b = ad
      · have z2 := (if_pos hb).symm.trans z
        cases z2
        subst hb
        exact ⟨ga, by rw [List.length_map]; exact gz, us, _, rv0, ga⟩
      · have z2 := (if_neg hb).symm.trans z
        cases z2
    · by_cases hb : b = ad
      · exact hb
      · exact absurd (if_neg hb) z
/-- the law's end: the promise of a meaning that says True of every script -/
theorem walk_ofG {l : PySem.W.OpenLaw} {n k : Nat} {q : Program} {loose : List Str} {XP : (Str → Option Value) → Heap → Prop} {YP : World → Heap → Prop} {d : DefRec} {x : Str} (hT0 : Tabz.T = [])
    (hn : l.most = some n) (hn2 : n ≤ sizeLine) (hdf : d.params.defaults = []) (hr : Room k callerA) (hgc : callerA.guards = some [])
    (T : ∀ (w : World) (mg : Str → Option Value) (fa : Addr) (h : Heap), YP w h → h.Ns mainGlobals mg → mg d.name = some (.ref fa) →
      ∃ (K : PySem.W.Frag) (fd : FuncData) (F : List Va → AH → Rs Va), K.In h ∧ (∀ (s : Shared) (u : Value), BindsTo s fd ⟨[u], []⟩ [(x, u)]) ∧
        (∀ ns : List Int, ns.length ≤ n → ∃ ah, F [.rol (ns.map Va.int)] [] = .ok (.bl true) ah) ∧
        ∀ base : Heap, K.In base → base.Ns mainGlobals mg → FnG l.prog w K mg base k fa fd [x] F) :
    PySem.W.WalkO q loose XP YP l.row.toRowW d [] (fun f vs => PySem.call f vs) := by
  refine Att.attach_call hn hdf fun w t0 t1 mg mb fa ob pm cd doc ad vs ns G Yh ho hd hcd hmg hobj hints hlen hgen => ?_
  obtain ⟨K, fd, F, kx, hbind, hF, hG⟩ := T w mg fa _ Yh G.T.g hmg
  refine law_callG kx G.T.g G.T.b G.T.builtins G.T.nolimit hgen hobj hints (Nat.le_trans hlen hn2) hr hgc hG hbind fun H hO hS => ?_
  obtain ⟨ah, e⟩ := hF ns hlen
  refine ⟨[], [], [.rol (ns.map Va.int)], hr_nil (by rw [hT0]; exact fun p hp => (nomatch hp)), .cons (.rol (only_fz hO hS) (vrs_ints ns)) .nil, ?_⟩
  rw [e]
  intro m' H' w' _ _ rv
  cases rv
  rfl
end FL

set_option Elab.async false
set_option linter.all false
set_option maxRecDepth 100000
/-! FLM: methods of lists, powers, a tuple times an int. -/
namespace FL
open PySem PySem.Spec PyProof.Rows L2
variable [Tabz]
/-! ### methods -/
abbrev OpM := Va → List Va → AH → Option (Va × AH)
def isLst : Va → AH → Bool
  | .ref l, h => (lstAt h l).isSome
  | .rol _, _ => true
  | _, _ => false
def eM (fo : EF) (ta : AF) (o : OpM) : EF := fun ev h => (fo ev h).bind fun v h1 => if isLst v h1 then (ta ev h1).bind fun vs h2 => ofO (o v vs h2) else .bad
def rM (K : PySem.W.Frag) (o : OpM) : V → List V → Hp → VK → Prop := fun x xs H Q => ∃ m ah p ps v ah', HR K H m ah ∧ VR K H m p x ∧ VRs K H m ps xs ∧ o p ps ah = some (v, ah') ∧ ∀ m' H' w, Ext m H m' H' → HR K H' m' ah' → VR K H' m' v w → Q w H'
def oAppend : OpM := fun v vs h => match v, vs with
  | .ref l, [y] => (match lstAt h l with
    | some xs => if xs.length < lim then some (.non, h.set l (.lst (xs ++ [y]))) else none
    | none => none)
  | _, _ => none
def oPop : OpM := fun v vs h => match v, vs with
  | .ref l, [] => (match lstAt h l with
    | some xs => (match xs.getLast? with
      | some y => some (y, h.set l (.lst xs.dropLast))
      | none => none)
    | none => none)
  | _, _ => none
def oExtend : OpM := fun v vs h => match v, vs with
  | .ref l, [.ref b] => (match lstAt h l, lstAt h b with
    | some xs, some ys => if xs.length + ys.length ≤ lim then some (.non, h.set l (.lst (xs ++ ys))) else none
    | _, _ => none)
  | _, _ => none
section
variable {X : Cx} {W : WX} {o e : Expr} {es : List Expr} {fo : EF} {ta : AF} {name : Str} {apos cpos : Pos} {T id : String} {f : OpM}
theorem isLst_ty {H : Hp} {m : List Addr} {ah : AH} {v : Va} {x : V} (r : HR X.K H m ah) (rv : VR X.K H m v x) (h : isLst v ah = true) : tyV X.K "list" x H := by
  unfold isLst at h
  split at h
  · rename_i l
    cases rv with
    | ref ha =>
      cases e : lstAt ah l with
      | none => rw [e] at h; cases h
      | some xs =>
        obtain ⟨vs, g1, _⟩ := r.lst ha (lstAt_some e)
        exact .inl ⟨rfl, vs, SqL.of g1⟩
  · cases rv with
    | rol hz _ => exact .inl ⟨rfl, _, hz.seq⟩
  · cases h
theorem me_m (slot : Slot "list" name id) (hty : typeOf (.builtin id) = pure (.type "method_descriptor")) (hm : MtR X id (rM X.K f)) (ho : ME X W o fo) (ha : MA X W (e :: es) ta)
    (hbase : attributeBase o name X.env (eval o X.env) = eval o X.env := by rfl)
    (hfew : ((backTo cpos (starEach (e :: es) X.env)).all (fun x => !x.1) && (backToKw cpos (keywordEach [] X.env)).all (fun x => x.1.isSome)
      && decide ((e :: es).length + ([] : List Keyword).length + (if ([] : List Keyword).isEmpty then 0 else 1) < 30)) = true := by rfl)
    (hline : (apos.endLine == cpos.line) = true := by rfl) (hs : starEach (e :: es) X.env = (false, eval e X.env) :: starEach es X.env := by rfl) (hplain : (backTo cpos (starEach es X.env)).any (·.1) = false := by rfl) :
    ME X W (.Call (.Attribute o name apos) (e :: es) [] cpos) (eM fo ta f) := ⟨pe_imp (pe_bm PySem.F.plainAttrs_list slot hty hm ho.pe ha.pa hbase hfew hline hs hplain) fun σ H Q q => by
  have q := Wi.bind (R := VR X.K) (k := fun ev v h1 => if isLst v h1 then (ta ev h1).bind fun vs h2 => ofO (f v vs h2) else .bad) q
  obtain ⟨m, ah, ev, r, re, q⟩ := q
  refine ⟨m, ah, ev, r, re, ?_⟩
  cases ef : fo ev ah with
  | exc c p a => rw [ef] at q; exact q
  | bad => rw [ef] at q; exact q
  | ok v a =>
    rw [ef] at q
    intro m1 H1 x e1 r1 rx
    obtain ⟨m2, ah2, ev2, v2, r2, re2, rv2, q2⟩ := q m1 H1 x e1 r1 rx
    split at q2
    case isFalse => exact q2.elim
    rename_i hz
    refine ⟨isLst_ty r2 rv2 hz, m2, ah2, ev2, r2, re2, ?_⟩
    have q2 := Post.bind (R := VRs X.K) q2
    cases ef2 : ta ev2 ah2 with
    | exc c p a => rw [ef2] at q2; exact q2
    | bad => rw [ef2] at q2; exact q2
    | ok vs a2 =>
      rw [ef2] at q2
      intro m3 H3 xs e3 r3 rx3
      obtain ⟨m4, ah4, v4, e4, r4, rv4, q4⟩ := q2 m3 H3 xs e3 r3 rx3
      cases eo : f v2 v4 ah4 with
      | none => rw [eo] at q4; exact q4.elim
      | some p =>
        rw [eo] at q4
        exact ⟨m4, ah4, v2, v4, p.1, p.2, r4, rv2.ext r2 e4, rv4, eo, q4⟩⟩
theorem mt_oAppend : MtR X "list.append" (rM X.K oAppend) := fun pins s σ H x xs v us Q I rx rxs ⟨m, ah, p, ps, vv, ah', r, rp, rps, eo, k⟩ => mt_append pins s σ H x xs v us Q I rx rxs (by
  unfold oAppend at eo
  split at eo
  · rename_i l y
    cases e : lstAt ah l with
    | none => rw [e] at eo; cases eo
    | some zs =>
      rw [e] at eo
      simp only at eo
      split at eo
      · rename_i hz
        cases eo
        cases rp with
        | ref ha =>
        cases rps with
        | cons ry rr =>
        cases rr
        obtain ⟨vs, g1, hv⟩ := r.lst ha (lstAt_some e)
        have hl := hv.length
        have h2 : zs.length + 1 ≤ lim := hz
        have h3 := lim_line h2
        exact ⟨_, vs, _, rfl, rfl, g1, by omega, k m _ _ (ext_set ha) (hr_set r ha (hv.append (.cons ry .nil))) .non⟩
      · cases eo
  · cases eo)
theorem me_append (ho : ME X W o fo) (ha : MA X W [e] ta)
    (hbase : attributeBase o "append" X.env (eval o X.env) = eval o X.env := by rfl)
    (hfew : ((backTo cpos (starEach [e] X.env)).all (fun x => !x.1) && (backToKw cpos (keywordEach [] X.env)).all (fun x => x.1.isSome)
      && decide ([e].length + ([] : List Keyword).length + (if ([] : List Keyword).isEmpty then 0 else 1) < 30)) = true := by rfl)
    (hline : (apos.endLine == cpos.line) = true := by rfl) (hs : starEach [e] X.env = [(false, eval e X.env)] := by rfl) :
    ME X W (.Call (.Attribute o "append" apos) [e] [] cpos) (eM fo ta oAppend) := me_m PySem.F.slot_list_append PySem.F.type_list_append mt_oAppend ho ha hbase hfew hline hs
/-! ### powers -/
def oPow : Op2 := fun p q h => match p, q with
  | .int i, .int j => if decide (0 ≤ j) && decide (j ≤ 1000) && decide (i.natAbs.log2 < 100000) then some (.int (i ^ j.toNat), h) else none
  | _, _ => none
theorem op_oPow : OpR X (binaryOp .Pow) (rO X.K oPow) := by
  intro pins s σ H x y v u Q I rx ry h
  obtain ⟨m, ah, p, q, vv, ah', r, rp, rq, eo, k⟩ := h
  unfold oPow at eo
  split at eo
  · rename_i i j
    split at eo
    · rename_i hz
      cases eo
      cases rp
      cases rq
      obtain ⟨t, rfl⟩ := rx
      obtain ⟨t2, rfl⟩ := ry
      obtain ⟨hz, z3⟩ := Bool.and_eq_true_iff.mp hz
      obtain ⟨z1, z2⟩ := Bool.and_eq_true_iff.mp hz
      have z1 := of_decide_eq_true z1
      have z2 := of_decide_eq_true z2
      have z3 := of_decide_eq_true z3
      have hb : Builtin.Int.intBits i ≤ 100000 := by
        unfold Builtin.Int.intBits
        split <;> omega
      have hm : (Builtin.Int.intBits i : Int) * j ≤ 100000 * j := Int.mul_le_mul_of_nonneg_right (by omega) z1
      refine pow_int z1 (by omega) ⟨.int (i ^ j.toNat), H, I.kept (fun _ _ e => e), ⟨_, rfl⟩, k m H _ .refl r (.int _)⟩
    · cases eo
  · cases eo
/-! ### a tuple times an int -/
theorem tuple_mulSame (l : Addr) (items : Array Value) (n : Nat) (dd : Option Addr) (sl : Array (Option Value)) (x : Int) (u : Tok) (c0 : (decide (x < -(2 ^ 63)) || decide (x ≥ 2 ^ 63)) = false) (c1 : (items.isEmpty || x == 1) = true) :
    Meets (Builtin.«tuple.__mul__» ⟨[.ref l, .int x u], []⟩) (fun _ R s => s.heap.get? l = some { cls := .type "tuple", dict := dd, data := .seq items n, slots := sl } ∧ R (.ok (.ret (.ref l))) s) :=
  .of_wp fun prog w A R s h => by
    obtain ⟨hp, g, d, tk, os⟩ := s
    obtain ⟨hl, h⟩ := h
    have f1 := AutoSeq1.idx_int
    wp_walk using wpAny_loadPart' hl
    repeat (first
      | (refine wpAny_ite_false (decide_eq_false (by rw [c0]; exact Bool.false_ne_true)) ?_; wp_walk using wpAny_loadPart' hl)
      | (refine wpAny_ite_true (decide_eq_true c1) ?_; wp_walk using wpAny_loadPart' hl))
    all_goals first | exact ⟨_, rfl, h⟩ | skip
theorem tuple_mulNone (l : Addr) (items : Array Value) (n : Nat) (dd : Option Addr) (sl : Array (Option Value)) (x : Int) (u : Tok) (c0 : (decide (x < -(2 ^ 63)) || decide (x ≥ 2 ^ 63)) = false) (c1 : (items.isEmpty || x == 1) = false) (c2 : (decide (x ≤ 0) || items.isEmpty) = true) :
    Meets (Builtin.«tuple.__mul__» ⟨[.ref l, .int x u], []⟩) (fun _ R s => s.heap.get? l = some { cls := .type "tuple", dict := dd, data := .seq items n, slots := sl } ∧
      R (.ok (.ret (.ref s.heap.objs.size))) { s with heap := s.heap.push { cls := .type "tuple", data := .seq #[] }, toks := s.toks }) :=
  .of_wp fun prog w A R s h => by
    obtain ⟨hp, g, d, tk, os⟩ := s
    obtain ⟨hl, h⟩ := h
    have f1 := AutoSeq1.idx_int
    wp_walk using wpAny_loadPart' hl
    repeat (first
      | (refine wpAny_ite_false (decide_eq_false (by rw [c0]; exact Bool.false_ne_true)) ?_; wp_walk using wpAny_loadPart' hl)
      | (refine wpAny_ite_false (decide_eq_false (by rw [c1]; exact Bool.false_ne_true)) ?_; wp_walk using wpAny_loadPart' hl)
      | (refine wpAny_ite_true (decide_eq_true c2) ?_; wp_walk using wpAny_loadPart' hl))
    all_goals first | exact ⟨_, rfl, h⟩ | skip
def rRep1 (K : PySem.W.Frag) : R2 := fun x y H Q => ∃ l k xs, x = .ref l ∧ y = .int k ∧ SqT K H l xs ∧ ((k = 1 ∧ Q (.ref l) H) ∨ (-1000 ≤ k ∧ k ≤ 0 ∧ xs ≠ [] ∧ ∀ p, H p = none → Q (.ref p) (upd H p (.tup []))))
theorem op_rep1 : OpR X (binaryOp .Mult) (rRep1 X.K) := by
  intro pins s σ H x y v u Q I rx ry h
  obtain ⟨l, k, xs, rfl, rfl, hT, h⟩ := h
  cases rx
  obtain ⟨t, rfl⟩ := ry
  obtain ⟨its, r, ⟨⟨cls, dd, data, sl⟩, ho, hc, n, hd⟩, hs⟩ := I.tuple hT
  simp only at hc hd
  subst hc hd
  have hk : -1000 ≤ k ∧ k ≤ 1 := by
    rcases h with ⟨h, _⟩ | ⟨h1, h2, _⟩ <;> omega
  have c0 : (decide (k < -(2 ^ 63)) || decide (k ≥ 2 ^ 63)) = false := by
    rw [decide_eq_false (by omega), decide_eq_false (by omega)] <;> rfl
  refine wpAny_binaryOp_repeat_ref (T := "tuple") (U := "int") (by decide) ⟨_, ho, rfl⟩ (fun s' => typeIs_int s' k t) noFill_tuple_mul F.fills_int_mul F.slot_int_rmul repeat_tuple F.slot_int_index.lookup
    (call_meets F.slot_int_rmul (typeIs_int s k t) F.entry_int_rmul (F.args_int_rmul_2 _ _) (int_rmul_tuple k t l its.toArray n dd sl) ⟨ho, rfl, ⟨_, ho, rfl⟩, ?_⟩)
  rcases h with ⟨rfl, q⟩ | ⟨h1, h2, h3, q⟩
  · exact call_meets F.slot_tuple_mul ⟨_, ho, rfl⟩ F.entry_tuple_mul (F.args_tuple_mul_2 _ _) (tuple_mulSame l its.toArray n dd sl 1 t c0 (by simp)) ⟨ho, .ref l, H, I, rfl, q⟩
  · have hi : its ≠ [] := fun e => h3 (by
      have hle : its.length = xs.length := r.length.symm
      rw [e] at hle
      exact List.eq_nil_of_length_eq_zero hle.symm)
    have he : its.toArray.isEmpty = false := by
      cases its with
      | nil => exact absurd rfl hi
      | cons a b => rfl
    refine call_meets F.slot_tuple_mul ⟨_, ho, rfl⟩ F.entry_tuple_mul (F.args_tuple_mul_2 _ _) (tuple_mulNone l its.toArray n dd sl k t c0 (by rw [he, Bool.false_or]; exact beq_eq_false_iff_ne.mpr (by omega)) (by rw [decide_eq_true h2]; rfl)) ⟨ho, ?_⟩
    refine ⟨.ref s.heap.objs.size, _, I.laid (t' := s.toks) (o := .tup []) (fun b ob q => Heap.get?_push_of_some _ q) (Nat.le_refl _) ?_, rfl, q _ (I.hok.fresh (Nat.le_refl _))⟩
    exact ⟨Nat.zero_le _, _, .nil, IsTup.new _ _⟩
def oMul2 : Op2 := fun p q h => match p, q with
  | .tup xs, .int k => if decide (-1000 ≤ k) && decide (k ≤ 1) && !xs.isEmpty then (if decide (k = 1) then some (.tup xs, h) else some (.tup [], h)) else oMul (.tup xs) (.int k) h
  | p, q => oMul p q h
theorem op_oMul2 : OpR X (binaryOp .Mult) (rO X.K oMul2) := by
  refine OpR.imp (op_oMul.or op_rep1) fun x y H Q ⟨m, ah, p, q, v, ah', r, rp, rq, e, k⟩ => ?_
  unfold oMul2 at e
  split at e
  · rename_i xs kk
    split at e
    · rename_i hz
      simp only [Bool.and_eq_true, decide_eq_true_eq, Bool.not_eq_true'] at hz
      cases rp with
      | @tup _ a vs ha hv =>
        have hvn : vs ≠ [] := hv.ne (by intro z; rw [z] at hz; simp at hz)
        split at e
        · rename_i h1
          cases e
          exact .inr ⟨a, kk, vs, rfl, rq.int_inv, ha, .inl ⟨of_decide_eq_true h1, k m H _ .refl r (.tup ha hv)⟩⟩
        · rename_i h1
          cases e
          have h1 : kk ≠ 1 := fun z => h1 (decide_eq_true z)
          refine .inr ⟨a, kk, vs, rfl, rq.int_inv, ha, .inr ⟨hz.1.1, by omega, hvn, fun p hp => ?_⟩⟩
          exact k m _ _ (ext_new r hp) (hr_new r hp) (.tup (SqT.of upd_same) .nil)
    · exact .inl ⟨m, ah, .tup xs, .int kk, v, ah', r, rp, rq, e, k⟩
  · exact .inl ⟨m, ah, p, q, v, ah', r, rp, rq, e, k⟩
end
end FL

set_option Elab.async false
set_option linter.all false
set_option maxRecDepth 100000
/-! FLN: sums of tuples, list(range), constants. -/
namespace FL
open PySem PySem.Spec PyProof.Rows L2
variable [Tabz]
section
variable {prog : Program} {w : World} {A : Around} {E : Value → Shared → Prop} {s : Shared} {l : Addr} {xs : Array (Int × Tok)}
theorem iter_intTup {R : Value → Shared → Prop} (hl : s.heap.IsTuple l (intItems xs))
    (h : ∀ s2 : Shared, s2 = { s with heap := s.heap.push { cls := .type "tuple_iterator", data := .fields #[.ref l, .int 0 0] } } → s2.heap.IsTupleIter s.heap.objs.size l 0 → s2.heap.IsTuple l (intItems xs) → l < s.heap.objs.size → R (.ref s.heap.objs.size) s2) :
    wpAny (model prog w) A (pyIter (.ref l)) R E s :=
  wpAny_pyIter_tuple hl (h _ rfl ⟨_, Heap.get?_push_size _ rfl, rfl, rfl⟩ (hl.push _) (by obtain ⟨o, e, _⟩ := hl; exact Heap.lt_size e))
theorem max_intTup {Q : Value → Shared → Prop} (hh : A.handled = none) (hl : s.heap.IsTuple l (intItems xs)) (hne : 0 < xs.size)
    (h : ∀ v h' tk, (intItems xs)[argBest (fun i j => decide (numAt xs i > numAt xs j)) (xs.size - 1)]? = some v → (∀ b o, s.heap.get? b = some o → h'.get? b = some o) → Q v { s with heap := h', toks := tk }) :
    wpAny (model prog w) A (call (.builtin "max") [.ref l]) Q E s := by
  refine call_max_walk (iter_intTup hl fun s2 e st hl2 hlt => ?_)
  subst e
  refine ⟨_, _, _, _, _, _, _, rfl, Walks.tuple (A := A.in1) hh _ l (Nat.ne_of_lt hlt) (intItems xs), ⟨st, hl2⟩, (fun b hb => ?_), by simpa [intItems] using hne, CmpOf.ints_gt (numAt xs) (fun _ _ => intItems_at), fun v h' tk hP hk => ?_⟩
  · show b < (s.heap.push _).objs.size
    rw [Heap.size_push]
    rcases (show b = s.heap.objs.size ∨ b = l by simpa using hb) with z | z
    · rw [z]; exact Nat.lt_succ_self _
    · rw [z]; exact Nat.lt_succ_of_lt hlt
  · exact h v h' tk (by simpa [intItems] using hP) fun b o e => hk b o (fun hb => by
      have z : b = s.heap.objs.size := by simpa using hb
      have z2 := Heap.lt_size e
      rw [z] at z2
      exact Nat.lt_irrefl _ z2) (Heap.get?_push_of_some _ e)
theorem min_intTup {Q : Value → Shared → Prop} (hh : A.handled = none) (hl : s.heap.IsTuple l (intItems xs)) (hne : 0 < xs.size)
    (h : ∀ v h' tk, (intItems xs)[argBest (fun i j => decide (numAt xs i < numAt xs j)) (xs.size - 1)]? = some v → (∀ b o, s.heap.get? b = some o → h'.get? b = some o) → Q v { s with heap := h', toks := tk }) :
    wpAny (model prog w) A (call (.builtin "min") [.ref l]) Q E s := by
  refine call_min_walk (iter_intTup hl fun s2 e st hl2 hlt => ?_)
  subst e
  refine ⟨_, _, _, _, _, _, _, rfl, Walks.tuple (A := A.in1) hh _ l (Nat.ne_of_lt hlt) (intItems xs), ⟨st, hl2⟩, (fun b hb => ?_), by simpa [intItems] using hne, CmpOf.ints_lt (numAt xs) (fun _ _ => intItems_at), fun v h' tk hP hk => ?_⟩
  · show b < (s.heap.push _).objs.size
    rw [Heap.size_push]
    rcases (show b = s.heap.objs.size ∨ b = l by simpa using hb) with z | z
    · rw [z]; exact Nat.lt_succ_self _
    · rw [z]; exact Nat.lt_succ_of_lt hlt
  · exact h v h' tk (by simpa [intItems] using hP) fun b o e => hk b o (fun hb => by
      have z : b = s.heap.objs.size := by simpa using hb
      have z2 := Heap.lt_size e
      rw [z] at z2
      exact Nat.lt_irrefl _ z2) (Heap.get?_push_of_some _ e)
variable {us : List Value} {ns : List Int}
theorem max_rawT {Q : Value → Shared → Prop} (hh : A.handled = none) (hl : s.heap.IsTuple l us.toArray) (hi : IntsAre us ns) (hne : 0 < ns.length)
    (h : ∀ h' tk z t', (∀ b o, s.heap.get? b = some o → h'.get? b = some o) → z ∈ ns → (∀ y, y ∈ ns → y ≤ z) → Q (.int z t') { s with heap := h', toks := tk }) : wpAny (model prog w) A (call (.builtin "max") [.ref l]) Q E s := by
  obtain ⟨zs, e⟩ := hi.allInts.items
  have hn : numsOf (intItems zs).toList = ns := by rw [← e]; exact hi.numsOf
  rw [nums_intItems] at hn
  subst hn
  rw [e] at hl
  have hsz : 0 < zs.size := by simpa using hne
  refine max_intTup hh hl hsz fun v h' tk hv hk => ?_
  obtain ⟨t, rfl⟩ := intItems_at hv
  obtain ⟨g1, g2⟩ := argBest_gt (numAt zs) (zs.size - 1)
  refine h h' tk _ t hk ?_ fun y hy => ?_
  · rw [numAt_eq]
    exact PySem.getD_mem (by rw [List.length_map, Array.length_toList]; omega)
  · obtain ⟨j, hj, rfl⟩ := mem_getD hy
    rw [List.length_map, Array.length_toList] at hj
    rw [← numAt_eq]
    exact g2 j (by omega)
theorem min_rawT {Q : Value → Shared → Prop} (hh : A.handled = none) (hl : s.heap.IsTuple l us.toArray) (hi : IntsAre us ns) (hne : 0 < ns.length)
    (h : ∀ h' tk z t', (∀ b o, s.heap.get? b = some o → h'.get? b = some o) → z ∈ ns → (∀ y, y ∈ ns → z ≤ y) → Q (.int z t') { s with heap := h', toks := tk }) : wpAny (model prog w) A (call (.builtin "min") [.ref l]) Q E s := by
  obtain ⟨zs, e⟩ := hi.allInts.items
  have hn : numsOf (intItems zs).toList = ns := by rw [← e]; exact hi.numsOf
  rw [nums_intItems] at hn
  subst hn
  rw [e] at hl
  have hsz : 0 < zs.size := by simpa using hne
  refine min_intTup hh hl hsz fun v h' tk hv hk => ?_
  obtain ⟨t, rfl⟩ := intItems_at hv
  obtain ⟨g1, g2⟩ := argBest_lt (numAt zs) (zs.size - 1)
  refine h h' tk _ t hk ?_ fun y hy => ?_
  · rw [numAt_eq]
    exact PySem.getD_mem (by rw [List.length_map, Array.length_toList]; omega)
  · obtain ⟨j, hj, rfl⟩ := mem_getD hy
    rw [List.length_map, Array.length_toList] at hj
    rw [← numAt_eq]
    exact g2 j (by omega)
end
section
variable {X : Cx} {W : WX} {e e2 : Expr} {fe fe2 : EF} {p p2 pos pos2 : Pos}
def rT1 (K : PySem.W.Frag) (C : List Int → Prop) (P : List Int → Int → Prop) : List V → Hp → VK → Prop := fun vs H Q => ∃ (a : Addr) (ns : List Int), vs = [V.ref a] ∧ SqT K H a (ns.map V.int) ∧ C ns ∧ ∀ z, P ns z → Q (.int z) H
theorem cr_maxT (hc : X.calm = true) : CallR X (.builtin "max") (rT1 X.K (fun ns => 0 < ns.length) fun ns z => z ∈ ns ∧ ∀ y, y ∈ ns → y ≤ z) := by
  intro pins s σ H vs us Q I r h
  obtain ⟨a, ns, rfl, hs, hne, q⟩ := h
  obtain ⟨its, rv, hl, _⟩ := I.tuple hs
  rw [Vals.ref1 r]
  exact max_rawT (I.ok.hd hc) hl rv.ints hne fun h' tk z t' hk h1 h2 => ⟨.int _, H, I.kept hk, ⟨_, rfl⟩, q z ⟨h1, h2⟩⟩
theorem cr_minT (hc : X.calm = true) : CallR X (.builtin "min") (rT1 X.K (fun ns => 0 < ns.length) fun ns z => z ∈ ns ∧ ∀ y, y ∈ ns → z ≤ y) := by
  intro pins s σ H vs us Q I r h
  obtain ⟨a, ns, rfl, hs, hne, q⟩ := h
  obtain ⟨its, rv, hl, _⟩ := I.tuple hs
  rw [Vals.ref1 r]
  exact min_rawT (I.ok.hd hc) hl rv.ints hne fun h' tk z t' hk h1 h2 => ⟨.int _, H, I.kept hk, ⟨_, rfl⟩, q z ⟨h1, h2⟩⟩
def oSum2 : OpN := fun ps h => match ps with
  | [.tup xs] => (allI xs).map fun ns => (.int ns.sum, h)
  | ps => oSum ps h
def oMax2 : OpN := fun ps h => match ps with
  | [.tup xs] => (match allI xs with
    | some (b :: bs) => some (.int (bs.foldl max b), h)
    | _ => none)
  | ps => oMax ps h
def oMin2 : OpN := fun ps h => match ps with
  | [.tup xs] => (match allI xs with
    | some (b :: bs) => some (.int (bs.foldl min b), h)
    | _ => none)
  | ps => oMin ps h
theorem call_oMax2 (hc : X.calm = true) : CallR X (.builtin "max") (rN X.K oMax2) := by
  refine CallR.imp (CallR.or (call_oMax hc) (cr_maxT hc)) fun xs H Q ⟨m, ah, ps, v, ah', r, rp, e, k⟩ => ?_
  unfold oMax2 at e
  split at e
  · rename_i zs
    split at e
    · rename_i b bs hb
      cases e
      obtain ⟨x, rfl, h1⟩ := vrs1 rp
      cases h1 with
      | @tup _ a vs ht hv =>
        rw [allI_ok hb hv] at ht
        refine .inr ⟨a, b :: bs, rfl, ht, by simp, fun z ⟨hz, hle⟩ => ?_⟩
        obtain ⟨g1, g2⟩ := foldl_max bs b
        have : z = bs.foldl max b := by
          have := g1 z hz
          have := hle _ g2
          omega
        rw [this]
        exact k m H _ .refl r (.int _)
    · cases e
  · exact .inl ⟨m, ah, ps, v, ah', r, rp, e, k⟩
theorem call_oMin2 (hc : X.calm = true) : CallR X (.builtin "min") (rN X.K oMin2) := by
  refine CallR.imp (CallR.or (call_oMin hc) (cr_minT hc)) fun xs H Q ⟨m, ah, ps, v, ah', r, rp, e, k⟩ => ?_
  unfold oMin2 at e
  split at e
  · rename_i zs
    split at e
    · rename_i b bs hb
      cases e
      obtain ⟨x, rfl, h1⟩ := vrs1 rp
      cases h1 with
      | @tup _ a vs ht hv =>
        rw [allI_ok hb hv] at ht
        refine .inr ⟨a, b :: bs, rfl, ht, by simp, fun z ⟨hz, hle⟩ => ?_⟩
        obtain ⟨g1, g2⟩ := foldl_min bs b
        have : z = bs.foldl min b := by
          have := g1 z hz
          have := hle _ g2
          omega
        rw [this]
        exact k m H _ .refl r (.int _)
    · cases e
  · exact .inl ⟨m, ah, ps, v, ah', r, rp, e, k⟩
/-! ### list(range(..)), tuple(range(..)) -/
theorem vrs_intsF {K : PySem.W.Frag} {H : Hp} {m : List Addr} : ∀ (n : Nat) (lo : Int), VRs K H m (intsF lo n) ((List.range n).map fun i => V.int (lo + (i : Nat)))
  | 0, _ => .nil
  | n + 1, lo => by
    rw [List.range_succ_eq_map, List.map_cons, List.map_map]
    refine .cons (by simpa using VR.int lo) ?_
    have h := vrs_intsF (K := K) (H := H) (m := m) n (lo + 1)
    have e : ((fun i => V.int (lo + ((i : Nat) : Int))) ∘ Nat.succ) = fun i : Nat => V.int (lo + 1 + (i : Int)) := by
      funext i
      show V.int _ = V.int _
      congr 1
      push_cast
      omega
    rw [e]
    exact h
def rgF (lo hi : Int) (h : AH) : Option (List Va) := if decide (-lim ≤ lo) && decide (lo ≤ lim) && decide (-lim ≤ hi) && decide (hi ≤ lim) then some (intsF lo (hi - lo).toNat) else none
theorem rgF_ok {lo hi : Int} {h : AH} {xs : List Va} (e : rgF lo hi h = some xs) : RgOk lo hi ∧ xs = intsF lo (hi - lo).toNat := by
  unfold rgF at e
  split at e
  · rename_i hz
    obtain ⟨z1, z4⟩ := Bool.and_eq_true_iff.mp hz
    obtain ⟨z1, z3⟩ := Bool.and_eq_true_iff.mp z1
    obtain ⟨z1, z2⟩ := Bool.and_eq_true_iff.mp z1
    have z1 : -((1000000 : Nat) : Int) ≤ lo := of_decide_eq_true z1
    have z2 : lo ≤ ((1000000 : Nat) : Int) := of_decide_eq_true z2
    have z3 : -((1000000 : Nat) : Int) ≤ hi := of_decide_eq_true z3
    have z4 : hi ≤ ((1000000 : Nat) : Int) := of_decide_eq_true z4
    cases e
    exact ⟨⟨by omega, by omega, by omega, by omega, by omega⟩, rfl⟩
  · cases e
def mkL (xs : List Va) (h : AH) : Rs Va := .ok (.ref h.length) (h ++ [.lst xs])
def eLR1 (k : List Va → AH → Rs Va) (f : EF) : EF := fun ev h => (f ev h).bind fun v h1 => match v with
  | .int n => (match rgF 0 n h1 with | some xs => k xs h1 | none => .bad)
  | _ => .bad
def eLR2 (k : List Va → AH → Rs Va) (f g : EF) : EF := fun ev h => (f ev h).bind fun v h1 => (g ev h1).bind fun w h2 => match v, w with
  | .int i, .int j => (match rgF i j h2 with | some xs => k xs h2 | none => .bad)
  | _, _ => .bad
theorem me_listR1 (hc : X.calm = true) (ha : ME X W e fe) (hm : X.mg "list" = none) (hm2 : X.mg "range" = none) (hg : Gl X "list" := by rfl) (hg2 : Gl X "range" := by rfl) (na2 : starEach [e] X.env = (false, eval e X.env) :: starEach [] X.env := by rfl)
    (na : starEach [.Call (.Name "range" p2) [e] [] pos2] X.env = (false, eval (.Call (.Name "range" p2) [e] [] pos2) X.env) :: starEach [] X.env := by rfl) :
    ME X W (.Call (.Name "list" p) [.Call (.Name "range" p2) [e] [] pos2] [] pos) (eLR1 mkL fe) := ⟨pe_imp (pe_listRg hc hg hm (prg_1 hg2 hm2 ha.pe na2) na) fun σ H Q q => by
  obtain ⟨m, ah, ev, r, re, q⟩ := Wi.bind (R := VR X.K) q
  refine ⟨m, ah, ev, r, re, ?_⟩
  cases ef : fe ev ah with
  | exc c p a => rw [ef] at q; exact q
  | bad => rw [ef] at q; exact q
  | ok v a =>
    rw [ef] at q
    intro m1 H1 x e1 r1 rx
    obtain ⟨m2, ah2, ev2, v2, r2, re2, rv2, q2⟩ := q m1 H1 x e1 r1 rx
    split at q2
    · rename_i n
      cases rv2
      split at q2
      · rename_i xs hz
        obtain ⟨ok, rfl⟩ := rgF_ok hz
        refine ⟨_, rfl, ok, fun p hp => ?_⟩
        exact q2 (m2 ++ [p]) _ _ (ext_lay r2 hp) (hr_lay r2 hp (vrs_intsF _ _)) (.ref (by rw [← r2.len]; simp))
      · exact q2.elim
    · exact q2.elim⟩
/-! ### the module's constants -/
theorem me_gint {x : Str} {i : Int} (hm : ∃ t, X.mg x = some (.int i t)) (hg : Gl X x := by rfl) (hd : (x == ("__debug__" : Str)) = false := by decide) : ME X W (.Name x pos) (eC (.int i)) := by
  obtain ⟨t, h⟩ := hm
  exact me_glob (w := .int i) h ⟨t, rfl⟩ (fun _ _ => .int i) hg hd
end
/-! ### texts of repr, compared -/
def oEqv2 (neg : Bool) : Op2 := fun p q h => match p, q with
  | .rp d, .rp e => if pdBeq d e then some (.bl (!neg), h) else none
  | p, q => oEqv neg p q h
abbrev oEq2 : Op2 := oEqv2 false
abbrev oNe2 : Op2 := oEqv2 true
section
variable {X : Cx}
theorem op_oEq2 {k : Nat} (hr : Room k X.A) : OpR X (compareOp .Eq) (rO X.K oEq2) := by
  refine OpR.imp ((op_oEq hr).or op_eq) fun x y H Q ⟨m, ah, p, q, v, ah', r, rp, rq, e, kk⟩ => ?_
  unfold oEq2 oEqv2 at e
  split at e
  · split at e
    · rename_i hz
      cases e
      cases rp
      cases rq
      have := pdBeq_eq _ _ hz
      subst this
      refine .inr ⟨rfl, ?_⟩
      rw [decide_eq_true rfl]
      exact kk m H _ .refl r (.bl _)
    · cases e
  · exact .inl ⟨m, ah, p, q, v, ah', r, rp, rq, e, kk⟩
theorem op_oNe2 {k : Nat} (hr : Room k X.A) : OpR X (compareOp .NotEq) (rO X.K oNe2) := by
  refine OpR.imp ((op_oNe hr).or op_ne) fun x y H Q ⟨m, ah, p, q, v, ah', r, rp, rq, e, kk⟩ => ?_
  unfold oNe2 oEqv2 at e
  split at e
  · split at e
    · rename_i hz
      cases e
      cases rp
      cases rq
      have := pdBeq_eq _ _ hz
      subst this
      refine .inr ⟨rfl, ?_⟩
      rw [decide_eq_true rfl]
      exact kk m H _ .refl r (.bl _)
    · cases e
  · exact .inl ⟨m, ah, p, q, v, ah', r, rp, rq, e, kk⟩
end
end FL

set_option Elab.async false
set_option linter.all false
set_option maxRecDepth 100000
/-! FLG: small helps of the printed proofs. -/
namespace FL
open PySem PySem.Spec PyProof.Rows L2
variable [Tabz]
theorem takes_WN {X : Cx} : Takes X WN := fun u s' ⟨_, _, _, _, _, _, _, _, _, _, _, _, _, _, _, _, z⟩ => z.elim
/-! ### x += e -/
def sAug (i : Nat) (o : Int → Int → Int) (f : EF) : SF := fun ev h => match ev[i]? with
  | some (some (.int a)) => (f ev h).s ev fun v h1 => match v with
    | .int b => .nx (ev.set i (some (.int (o a b)))) h1
    | _ => .bad
  | _ => .bad
end FL

set_option Elab.async false
set_option linter.all false
set_option maxRecDepth 100000
/-! FLL: a call sees no more of the heap than its arguments name. -/
namespace FL
open PySem PySem.Spec PyProof.Rows L2
variable [Tabz]
mutual
def mapR (f : Nat → Nat) : Va → Va
  | .ref l => .ref (f l)
  | .tup xs => .tup (mapRs f xs)
  | .tud xs => .tud (mapRs f xs)
  | .rol xs => .rol (mapRs f xs)
  | .non => .non
  | .bl b => .bl b
  | .int i => .int i
  | .str x => .str x
  | .rp d => .rp d
  | .dv d => .dv d
  | .exo a => .exo a
  | .exn a d n x => .exn a d n (mapR f x)
def mapRs (f : Nat → Nat) : List Va → List Va
  | [] => []
  | x :: xs => mapR f x :: mapRs f xs
end
mutual
def refsOf : Va → List Nat
  | .ref l => [l]
  | .tup xs => refsOfs xs
  | .tud xs => refsOfs xs
  | .rol xs => refsOfs xs
  | .exn _ _ _ x => refsOf x
  | _ => []
def refsOfs : List Va → List Nat
  | [] => []
  | x :: xs => refsOf x ++ refsOfs xs
end
def mapRp (f : Nat → Nat) : List (Va × Va) → List (Va × Va)
  | [] => []
  | (x, y) :: xs => (mapR f x, mapR f y) :: mapRp f xs
def mapRf (f : Nat → Nat) : List (Str × Va) → List (Str × Va)
  | [] => []
  | (n, x) :: xs => (n, mapR f x) :: mapRf f xs
def mapRO (f : Nat → Nat) : AO → AO
  | .lst xs => .lst (mapRs f xs)
  | .dct ps => .dct (mapRp f ps)
  | .dtl ps => .dtl (mapRp f ps)
  | .ins c fs => .ins c (mapRf f fs)
/-- ref-free things stay as they are -/
def bk (f : Nat → Nat) (v : Va) : Va := if inR 0 v then v else mapR f v
section
variable {K : PySem.W.Frag} {H : Hp} {m M : List Addr} {f : Nat → Nat}
mutual
theorem VR.mapR (hf : ∀ k a, m[k]? = some a → M[f k]? = some a) : ∀ {x : Va} {v : V}, VR K H m x v → VR K H M (FL.mapR f x) v
  | _, _, .non => .non
  | _, _, .bl b => .bl b
  | _, _, .int i => .int i
  | _, _, .str x => .str x
  | _, _, .rp d => .rp d
  | _, _, .ref h => .ref (hf _ _ h)
  | _, _, .tup h hs => .tup h (VRs.mapR hf hs)
  | _, _, .tud h hs => .tud h (VRs.mapR hf hs)
  | _, _, .rol h hs => .rol h (VRs.mapR hf hs)
  | _, _, .dv h => .dv h
  | _, _, .exo a => .exo a
  | _, _, .exn h g => .exn h (VR.mapR hf g)
theorem VRs.mapR (hf : ∀ k a, m[k]? = some a → M[f k]? = some a) : ∀ {x : List Va} {v : List V}, VRs K H m x v → VRs K H M (mapRs f x) v
  | _, _, .nil => .nil
  | _, _, .cons h hs => .cons (VR.mapR hf h) (VRs.mapR hf hs)
end
theorem VRp.mapR (hf : ∀ k a, m[k]? = some a → M[f k]? = some a) : ∀ {x : List (Va × Va)} {v : List (V × V)}, VRp K H m x v → VRp K H M (mapRp f x) v
  | _, _, .nil => .nil
  | _, _, .cons h g hs => .cons (h.mapR hf) (g.mapR hf) (VRp.mapR hf hs)
mutual
theorem nk_map {f : Nat → Nat} : ∀ {x : Va} {k : PySem.NestedKey}, nk x = some k → nk (FL.mapR f x) = some k
  | .non, _, e => e
  | .bl _, _, e => e
  | .int _, _, e => e
  | .tup xs, k, e => by
    unfold nk at e
    cases q : nks xs with
    | none => rw [q] at e; cases e
    | some ks =>
      rw [q] at e
      show nk (.tup (mapRs f xs)) = _
      unfold nk
      rw [nks_map q]
      exact e
  | .str _, _, e => by simp [nk] at e
  | .rp _, _, e => by simp [nk] at e
  | .ref _, _, e => by simp [nk] at e
  | .rol _, _, e => by simp [nk] at e
  | .dv _, _, e => by simp [nk] at e
  | .exo _, _, e => by simp [nk] at e
  | .exn _ _ _ _, _, e => by simp [nk] at e
  | .tud _, _, e => by simp [nk] at e
theorem nks_map {f : Nat → Nat} : ∀ {xs : List Va} {ks : List PySem.NestedKey}, nks xs = some ks → nks (mapRs f xs) = some ks
  | [], _, e => e
  | x :: xs, ks, e => by
    unfold nks at e
    cases q1 : nk x with
    | none => rw [q1] at e; cases e
    | some k =>
      cases q2 : nks xs with
      | none => rw [q1, q2] at e; cases e
      | some ks' =>
        rw [q1, q2] at e
        show nks (FL.mapR f x :: mapRs f xs) = _
        unfold nks
        rw [nk_map q1, nks_map q2]
        exact e
end
theorem DtE.mapR (hf : ∀ k a, m[k]? = some a → M[f k]? = some a) : ∀ {kvs : List (Va × Va)} {xs : List (PySem.NestedKey × Addr × Value)}, DtE K H m kvs xs → DtE K H M (mapRp f kvs) xs
  | _, _, .nil => .nil
  | _, _, .cons h1 h2 h3 h4 h5 => .cons ⟨nk_map h1.1, h1.2⟩ (h2.mapR hf) (h3.mapR hf) h4 (DtE.mapR hf h5)
theorem VRf.mapR (hf : ∀ k a, m[k]? = some a → M[f k]? = some a) : ∀ {x : List (Str × Va)} {v : List (Str × V)}, VRf K H m x v → VRf K H M (mapRf f x) v
  | _, _, .nil => .nil
  | _, _, .cons h hs => .cons (h.mapR hf) (VRf.mapR hf hs)
theorem OR.mapR (hf : ∀ k a, m[k]? = some a → M[f k]? = some a) {o : AO} {a : Addr} (h : OR K H m o a) : OR K H M (mapRO f o) a := by
  cases o with
  | lst xs => obtain ⟨vs, q1, q2⟩ := h; exact ⟨vs, q1, q2.mapR hf⟩
  | dct xs => obtain ⟨vs, q1, q2⟩ := h; exact ⟨vs, q1, q2.mapR hf⟩
  | dtl xs => obtain ⟨vs, q1, q2, q3⟩ := h; exact ⟨vs, q1, q2.mapR hf, q3⟩
  | ins c fs => obtain ⟨dx, vs, q1, q2⟩ := h; exact ⟨dx, vs, q1, q2.mapR hf⟩
mutual
theorem VR.free : ∀ {x : Va} {v : V}, VR K H m x v → refsOf x = [] → VR K H M x v
  | _, _, .non, _ => .non
  | _, _, .bl b, _ => .bl b
  | _, _, .int i, _ => .int i
  | _, _, .str x, _ => .str x
  | _, _, .rp d, _ => .rp d
  | _, _, .ref h, e => by simp [refsOf] at e
  | _, _, .tup h hs, e => .tup h (VRs.free hs (by simpa [refsOf] using e))
  | _, _, .tud h hs, e => .tud h (VRs.free hs (by simpa [refsOf] using e))
  | _, _, .rol h hs, e => .rol h (VRs.free hs (by simpa [refsOf] using e))
  | _, _, .dv h, _ => .dv h
  | _, _, .exo a, _ => .exo a
  | _, _, .exn h g, e => .exn h (VR.free g (by simpa [refsOf] using e))
theorem VRs.free : ∀ {x : List Va} {v : List V}, VRs K H m x v → refsOfs x = [] → VRs K H M x v
  | _, _, .nil, _ => .nil
  | _, _, .cons h hs, e => by
    simp only [refsOfs, List.append_eq_nil_iff] at e
    exact .cons (VR.free h e.1) (VRs.free hs e.2)
end
mutual
theorem inR_free : ∀ {x : Va}, inR 0 x = true → refsOf x = []
  | .non, _ => rfl
  | .bl _, _ => rfl
  | .int _, _ => rfl
  | .str _, _ => rfl
  | .rp _, _ => rfl
  | .dv _, _ => rfl
  | .exo _, _ => rfl
  | .exn _ _ _ x, e => by
    have := inR_free (x := x) (by simpa [inR] using e)
    simpa [refsOf] using this
  | .ref l, e => by simp [inR] at e
  | .tup xs, e => by
    have := inRs_free (xs := xs) (by simpa [inR] using e)
    simpa [refsOf] using this
  | .rol xs, e => by
    have := inRs_free (xs := xs) (by simpa [inR] using e)
    simpa [refsOf] using this
  | .tud xs, e => by
    have := inRs_free (xs := xs) (by simpa [inR] using e)
    simpa [refsOf] using this
theorem inRs_free : ∀ {xs : List Va}, inRs 0 xs = true → refsOfs xs = []
  | [], _ => rfl
  | x :: xs, e => by
    simp only [inRs, Bool.and_eq_true] at e
    rw [refsOfs, inR_free e.1, inRs_free e.2]
    rfl
end
theorem VR.bk (hf : ∀ k a, m[k]? = some a → M[f k]? = some a) {x : Va} {v : V} (h : VR K H m x v) : VR K H M (FL.bk f x) v := by
  unfold FL.bk
  split
  · rename_i e; exact h.free (inR_free e)
  · exact h.mapR hf
mutual
theorem VR.one {l : Nat} {a : Addr} (hm : m[l]? = some a) : ∀ {x : Va} {v : V}, VR K H m x v → (∀ k ∈ refsOf x, k = l) → VR K H [a] (FL.mapR (fun _ => 0) x) v
  | _, _, .non, _ => .non
  | _, _, .bl b, _ => .bl b
  | _, _, .int i, _ => .int i
  | _, _, .str x, _ => .str x
  | _, _, .rp d, _ => .rp d
  | _, _, .ref h, e => by
    have := e _ (show _ ∈ [_] from List.mem_cons_self)
    subst this
    rw [hm] at h
    cases h
    exact .ref rfl
  | _, _, .tup h hs, e => .tup h (VRs.one hm hs (by simpa [refsOf] using e))
  | _, _, .tud h hs, e => .tud h (VRs.one hm hs (by simpa [refsOf] using e))
  | _, _, .rol h hs, e => .rol h (VRs.one hm hs (by simpa [refsOf] using e))
  | _, _, .dv h, _ => .dv h
  | _, _, .exo a, _ => .exo a
  | _, _, .exn h g, e => .exn h (VR.one hm g (by simpa [refsOf] using e))
theorem VRs.one {l : Nat} {a : Addr} (hm : m[l]? = some a) : ∀ {x : List Va} {v : List V}, VRs K H m x v → (∀ k ∈ refsOfs x, k = l) → VRs K H [a] (mapRs (fun _ => 0) x) v
  | _, _, .nil, _ => .nil
  | _, _, .cons h hs, e => .cons (VR.one hm h fun k hk => e k (by rw [refsOfs]; exact List.mem_append_left _ hk)) (VRs.one hm hs fun k hk => e k (by rw [refsOfs]; exact List.mem_append_right _ hk))
end
end
def sh0 (n : Nat) (k : Nat) : Nat := n + k
def sh1 (n l : Nat) (k : Nat) : Nat := if k == 0 then l else n + (k - 1)
def back0 (h : AH) : Rs Va → Rs Va
  | .ok v h' => .ok (bk (sh0 h.length) v) (h ++ h'.map (mapRO (sh0 h.length)))
  | .exc c p h' => .exc c (mapRf (sh0 h.length) p) (h ++ h'.map (mapRO (sh0 h.length)))
  | .bad => .bad
def ins1 (h : AH) (l : Nat) (h' : AH) : AH := match h' with
  | o :: r => h.set l (mapRO (sh1 h.length l) o) ++ r.map (mapRO (sh1 h.length l))
  | [] => h
def back1 (h : AH) (l : Nat) : Rs Va → Rs Va
  | .ok v h' => .ok (bk (sh1 h.length l) v) (ins1 h l h')
  | .exc c p h' => .exc c (mapRf (sh1 h.length l) p) (ins1 h l h')
  | .bad => .bad
def callL (F : List Va → AH → Rs Va) (args : List Va) (h : AH) : Rs Va := match refsOfs args with
  | [] => back0 h (F args [])
  | l :: ls => if ls.all (· == l) then (match h[l]? with
      | some (.lst xs) => if inRs 0 xs then back1 h l (F (mapRs (fun _ => 0) args) [.lst xs]) else F args h
      | _ => F args h) else F args h
section
variable {K : PySem.W.Frag} {mg : Str → Option Value} {H : Hp} {m : List Addr} {ah : AH} {vs : List V} {ps : List Va} {Q : VK} {E : XK}
theorem XR.mapR {M : List Addr} {f : Nat → Nat} {c : Str} {p : List (Str × Va)} {cls : Value} {d : Option Addr} (hf : ∀ k a, m[k]? = some a → M[f k]? = some a) (h : XR K mg H m c p cls d) : XR K mg H M c (mapRf f p) cls d := by
  obtain ⟨C, h1, h2, h3⟩ := h
  refine ⟨C, h1, h2, ?_⟩
  cases p with
  | nil => exact h3
  | cons q r =>
    cases r with
    | nil =>
      obtain ⟨dd, w, g1, g2, g3⟩ := h3
      exact ⟨dd, w, g1, g2, g3.mapR hf⟩
    | cons _ _ => exact h3.elim
/-- the joined heap -/
theorem join0 {m' : List Addr} {H' : Hp} {h' : AH} (r : HR K H m ah) (e : Ext [] H m' H') (r' : HR K H' m' h') :
    Ext m H (m ++ m') H' ∧ HR K H' (m ++ m') (ah ++ h'.map (mapRO (sh0 ah.length))) ∧ ∀ k a, m'[k]? = some a → (m ++ m')[sh0 ah.length k]? = some a := by
  have hf : ∀ k a, m'[k]? = some a → (m ++ m')[sh0 ah.length k]? = some a := fun k a h => by
    unfold sh0
    rw [← r.len, List.getElem?_append_right (Nat.le_add_right _ _), Nat.add_sub_cancel_left]
    exact h
  have kp : ∀ b o, H b = some o → (∀ ps, o ≠ .tbl ps) → H' b = some o := fun b o h nt => e.keep b o h (by simp) nt
  have nw : ∀ a, a ∈ m' → H a = none ∨ ∃ ps, H a = some (.tbl ps) := fun a h => e.new a h (by simp)
  have eE : Ext m H (m ++ m') H' := by
    refine ⟨⟨m', rfl⟩, fun b o h _ nt => kp b o h nt, fun a h1 h2 => ?_⟩
    rcases List.mem_append.mp h1 with z | z
    · exact absurd z h2
    · exact nw a z
  refine ⟨eE, ⟨by simp [r.len, r'.len], ?_, fun l a o h1 h2 => ?_, r'.tb⟩, hf⟩
  · rw [List.nodup_append]
    refine ⟨r.nd, r'.nd, fun a ha b hb z => ?_⟩
    subst z
    exact r.notnew (nw a hb) ha
  · rcases Nat.lt_or_ge l m.length with hl | hl
    · rw [List.getElem?_append_left hl] at h1
      rw [List.getElem?_append_left (by rw [← r.len]; exact hl)] at h2
      have q := r.at_ l a o h1 h2
      cases o with
      | lst xs => obtain ⟨vs, q1, q2⟩ := q; exact ⟨vs, kp _ _ q1 (fun _ z => nomatch z), q2.ext r eE⟩
      | dct xs => obtain ⟨vs, q1, q2⟩ := q; exact ⟨vs, kp _ _ q1 (fun _ z => nomatch z), q2.ext r eE⟩
      | dtl xs => obtain ⟨vs, q1, q2, q3⟩ := q; exact ⟨vs, kp _ _ q1 (fun _ z => nomatch z), q2.ext r eE, q3⟩
      | ins c fs => obtain ⟨dx, vs, q1, q2⟩ := q; exact ⟨dx, vs, kp _ _ q1 (fun _ z => nomatch z), q2.ext r eE⟩
    · rw [List.getElem?_append_right hl] at h1
      rw [List.getElem?_append_right (by rw [← r.len]; exact hl), List.getElem?_map, ← r.len] at h2
      cases e2 : h'[l - m.length]? with
      | none => rw [e2] at h2; cases h2
      | some o2 =>
        rw [e2] at h2
        cases h2
        have q := (r'.at_ _ a o2 h1 e2).mapR hf
        rw [r.len]
        exact q
theorem join1 {l : Nat} {a : Addr} {xs : List Va} {m' : List Addr} {H' : Hp} {h' : AH} (r : HR K H m ah) (hl : m[l]? = some a) (hx : ah[l]? = some (.lst xs)) (e : Ext [a] H m' H') (r' : HR K H' m' h') :
    ∃ M, Ext m H M H' ∧ HR K H' M (ins1 ah l h') ∧ ∀ k b, m'[k]? = some b → M[sh1 ah.length l k]? = some b := by
  obtain ⟨t, ht⟩ := e.pre
  have hm' : m' = a :: t := by rw [ht]; rfl
  subst hm'
  have hlm : l < m.length := (List.getElem?_eq_some_iff.mp hl).1
  have hla : l < ah.length := by rw [← r.len]; exact hlm
  obtain ⟨vs0, ha0, _⟩ := r.lst hl hx
  have kp : ∀ b o, H b = some o → b ≠ a → (∀ ps, o ≠ .tbl ps) → H' b = some o := fun b o h n nt => e.keep b o h (by simpa using n) nt
  have nd' : a ∉ t := by have := r'.nd; rw [List.nodup_cons] at this; exact this.1
  have nw : ∀ b, b ∈ t → H b = none ∨ ∃ ps, H b = some (.tbl ps) := fun b h => e.new b (List.mem_cons_of_mem _ h) (by
    intro z
    have z : b = a := by simpa using z
    exact nd' (z ▸ h))
  have hf : ∀ k b, (a :: t)[k]? = some b → (m ++ t)[sh1 ah.length l k]? = some b := fun k b h => by
    cases k with
    | zero =>
      simp at h
      subst h
      show (m ++ t)[l]? = _
      rw [List.getElem?_append_left hlm]
      exact hl
    | succ k =>
      have : sh1 ah.length l (k + 1) = m.length + k := by
        unfold sh1
        rw [← r.len]
        simp
      rw [this, List.getElem?_append_right (Nat.le_add_right _ _), Nat.add_sub_cancel_left]
      simpa using h
  have eE : Ext m H (m ++ t) H' := by
    refine ⟨⟨t, rfl⟩, fun b o h n nt => kp b o h (fun z => n (z ▸ List.mem_of_getElem? hl)) nt, fun b h1 h2 => ?_⟩
    rcases List.mem_append.mp h1 with z | z
    · exact absurd z h2
    · exact nw b z
  refine ⟨m ++ t, eE, ?_, hf⟩
  cases h' with
  | nil => have := r'.len; simp at this
  | cons o0 h0 =>
  have hlen : t.length = h0.length := by have := r'.len; simpa using this
  show HR K H' (m ++ t) (ah.set l (mapRO (sh1 ah.length l) o0) ++ h0.map (mapRO (sh1 ah.length l)))
  refine ⟨by simp [r.len, hlen], ?_, fun j b o h1 h2 => ?_, r'.tb⟩
  · rw [List.nodup_append]
    refine ⟨r.nd, (List.nodup_cons.mp r'.nd).2, fun b hb c hc z => ?_⟩
    subst z
    exact r.notnew (nw b hc) hb
  · rcases Nat.lt_or_ge j m.length with hj | hj
    · rw [List.getElem?_append_left hj] at h1
      rw [List.getElem?_append_left (by rw [List.length_set, ← r.len]; exact hj)] at h2
      by_cases hjl : j = l
      · subst hjl
        rw [hl] at h1
        cases h1
        rw [List.getElem?_set_self hla] at h2
        cases h2
        exact (r'.at_ 0 a o0 rfl rfl).mapR hf
      · rw [List.getElem?_set_ne (Ne.symm hjl)] at h2
        have hba : b ≠ a := fun z => hjl (by subst z; exact nd_ix r.nd h1 hl)
        have q := r.at_ j b o h1 h2
        cases o with
        | lst xs => obtain ⟨vs, q1, q2⟩ := q; exact ⟨vs, kp _ _ q1 hba (fun _ z => nomatch z), q2.ext r eE⟩
        | dct xs => obtain ⟨vs, q1, q2⟩ := q; exact ⟨vs, kp _ _ q1 hba (fun _ z => nomatch z), q2.ext r eE⟩
        | dtl xs => obtain ⟨vs, q1, q2, q3⟩ := q; exact ⟨vs, kp _ _ q1 hba (fun _ z => nomatch z), q2.ext r eE, q3⟩
        | ins c fs => obtain ⟨dx, vs, q1, q2⟩ := q; exact ⟨dx, vs, kp _ _ q1 hba (fun _ z => nomatch z), q2.ext r eE⟩
    · rw [List.getElem?_append_right hj] at h1
      rw [List.getElem?_append_right (by rw [List.length_set, ← r.len]; exact hj), List.getElem?_map, List.length_set, ← r.len] at h2
      cases e2 : h0[j - m.length]? with
      | none => rw [e2] at h2; cases h2
      | some o2 =>
        rw [e2] at h2
        cases h2
        have q := (r'.at_ (j - m.length + 1) b o2 (by simpa using h1) (by simpa using e2)).mapR hf
        rw [r.len]
        exact q
theorem sp_local {F : List Va → AH → Rs Va} (r : HR K H m ah) (rv : VRs K H m ps vs) (q : Post K mg (VR K) m H E (callL F ps ah) (fun w H' => Q w H')) : spG K mg F vs H Q E := by
  unfold callL at q
  split at q
  · rename_i hr
    refine ⟨[], [], ps, hr_nil r.tb, rv.free hr, ?_⟩
    cases e : F ps [] with
    | bad => rw [e] at q; exact q
    | ok v h' =>
      rw [e] at q
      intro m' H' w e1 r1 rw1
      obtain ⟨g1, g2, g3⟩ := join0 r e1 r1
      exact q (m ++ m') H' w g1 g2 (rw1.bk g3)
    | exc c p h' =>
      rw [e] at q
      intro m' H' cls d e1 r1 x1
      obtain ⟨g1, g2, g3⟩ := join0 r e1 r1
      exact q (m ++ m') H' cls d g1 g2 (x1.mapR g3)
  · rename_i l ls hr
    split at q
    case isFalse => exact ⟨m, ah, ps, r, rv, q⟩
    rename_i hall
    split at q
    · rename_i xs hx
      split at q
      case isFalse => exact ⟨m, ah, ps, r, rv, q⟩
      rename_i hfree
      have hla : l < m.length := by rw [r.len]; exact (List.getElem?_eq_some_iff.mp hx).1
      have hl : m[l]? = some m[l] := List.getElem?_eq_getElem hla
      obtain ⟨vs0, ha0, hv0⟩ := r.lst hl hx
      have hone : ∀ k ∈ refsOfs ps, k = l := fun k hk => by
        rw [hr] at hk
        rcases List.mem_cons.mp hk with z | z
        · exact z
        · exact eq_of_beq (List.all_eq_true.mp hall k z)
      refine ⟨[m[l]], [.lst xs], mapRs (fun _ => 0) ps, ⟨rfl, by simp, fun j a o h1 h2 => ?_, r.tb⟩, rv.one hl hone, ?_⟩
      · cases j with
        | zero =>
          simp at h1 h2
          subst h1 h2
          exact ⟨vs0, ha0, hv0.free (inRs_free hfree)⟩
        | succ j => simp at h1
      · cases e : F (mapRs (fun _ => 0) ps) [.lst xs] with
        | bad => rw [e] at q; exact q
        | ok v h' =>
          rw [e] at q
          intro m' H' w e1 r1 rw1
          obtain ⟨M, g1, g2, g3⟩ := join1 r hl hx e1 r1
          exact q M H' w g1 g2 (rw1.bk g3)
        | exc c p h' =>
          rw [e] at q
          intro m' H' cls d e1 r1 x1
          obtain ⟨M, g1, g2, g3⟩ := join1 r hl hx e1 r1
          exact q M H' cls d g1 g2 (x1.mapR g3)
    · exact ⟨m, ah, ps, r, rv, q⟩
theorem FnG.loc {P : Program} {w : World} {base : Heap} {k : Nat} {f : Addr} {fd : FuncData} {ns : List Str} {F : List Va → AH → Rs Va} (G : FnG P w K mg base k f fd ns F) : FnG P w K mg base k f fd ns (callL F) :=
  ⟨fun vs H Q E ⟨m, ah, pvs, r, rv, q⟩ => G.len vs H Q E (sp_local r rv q), fun A outer s H args us vs Q E hr hg e b v ⟨m, ah, pvs, r, rv, q⟩ => G.run A outer s H args us vs Q E hr hg e b v (sp_local r rv q)⟩
theorem Cd.loc {P : Program} {w : World} {base : Heap} {k : Nat} {x : Str} {das : List Va} {F : List Va → AH → Rs Va} (C : Cd P w K mg base k x das F) : Cd P w K mg base k x das (callL F) := by
  obtain ⟨f, fd, ps, dvs, ds, G, r⟩ := C.ex
  exact ⟨f, fd, ps, dvs, ds, G.loc, r⟩
theorem Ck.loc {P : Program} {w : World} {base : Heap} {k n : Nat} {x : Str} {ks : List Str} {gA : List Va → List Va → List Va} {F : List Va → AH → Rs Va} (C : Ck P w K mg base k x n ks gA F) : Ck P w K mg base k x n ks gA (callL F) := by
  obtain ⟨f, fd, ps, g, gV, G, r⟩ := C.ex
  exact ⟨f, fd, ps, g, gV, G.loc, r⟩
end
end FL

set_option Elab.async false
set_option linter.all false
set_option maxRecDepth 100000
/-! FLS: the meanings step by step (rules for simp: the first part alone is looked at). -/
namespace FL
open PySem PySem.Spec PyProof.Rows L2
/-- plain facts name no table -/
instance (priority := low) noTabz : Tabz := ⟨[]⟩
section
variable {ev ev1 : Ev} {h h1 h2 : AH} {v w : Va} {vs : List Va} {f g t : EF} {tf tg : TF} {sf sg : SF} {af : AF} {i j : Nat} {b : Bool} {c : Str} {p : List (Str × Va)}
/-! #### names -/
def vK (h : AH) : Option (Option Va) → Rs Va
  | some (some v) => .ok v h
  | _ => .bad
theorem s_var : eVar i ev h = vK h ev[i]? := by
  unfold eVar vK
  rfl
theorem k_var : vK h (some (some v)) = .ok v h := rfl
theorem s_c : eC v ev h = .ok v h := rfl
/-! #### operations -/
def o1K (o : Op2) (v : Va) : Rs Va → Rs Va := fun r => r.bind fun w h2 => ofO (o v w h2)
def oK (o : Op2) (g : EF) (ev : Ev) : Rs Va → Rs Va := fun r => r.bind fun v h1 => o1K o v (g ev h1)
theorem s_op {o : Op2} : eOp o f g ev h = oK o g ev (f ev h) := rfl
theorem k_op {o : Op2} : oK o g ev (.ok v h) = o1K o v (g ev h) := rfl
theorem k_op1 {o : Op2} : o1K o v (.ok w h) = ofO (o v w h) := rfl
theorem k_o {α : Type} {a : α} : ofO (some (a, h)) = .ok a h := rfl
def unK (o : Op1) : Rs Va → Rs Va := fun r => r.bind fun v h1 => ofO (o v h1)
theorem s_un {o : Op1} : eUn o f ev h = unK o (f ev h) := rfl
theorem k_un {o : Op1} : unK o (.ok v h) = ofO (o v h) := rfl
def apK (o : OpN) : Rs (List Va) → Rs Va := fun r => r.bind fun vs h1 => ofO (o vs h1)
theorem s_ap {o : OpN} : eAp o af ev h = apK o (af ev h) := rfl
theorem k_ap {o : OpN} : apK o (.ok vs h) = ofO (o vs h) := rfl
def a1K (v : Va) : Rs (List Va) → Rs (List Va) := fun r => r.bind fun vs h2 => .ok (v :: vs) h2
def aK (g : AF) (ev : Ev) : Rs Va → Rs (List Va) := fun r => r.bind fun v h1 => a1K v (g ev h1)
theorem s_nil : aNil ev h = .ok [] h := rfl
theorem s_cons : aCons f af ev h = aK af ev (f ev h) := rfl
theorem k_cons : aK af ev (.ok v h) = a1K v (af ev h) := rfl
theorem k_cons1 : a1K v (.ok vs h) = .ok (v :: vs) h := rfl
/-! #### tests -/
def tBK : Rs Va → Rs Bool := fun r => r.bind fun v h1 => match v with | .bl b => .ok b h1 | _ => .bad
theorem s_tB : tB f ev h = tBK (f ev h) := rfl
theorem k_tB : tBK (.ok (.bl b) h) = .ok b h := rfl
def andK (g : TF) (ev : Ev) : Rs Bool → Rs Bool := fun r => r.bind fun b h1 => if b then g ev h1 else .ok false h1
def orK (g : TF) (ev : Ev) : Rs Bool → Rs Bool := fun r => r.bind fun b h1 => if b then .ok true h1 else g ev h1
def notK : Rs Bool → Rs Bool := fun r => r.bind fun b h1 => .ok (!b) h1
theorem s_and : tAnd tf tg ev h = andK tg ev (tf ev h) := rfl
theorem k_andT : andK tg ev (.ok true h) = tg ev h := rfl
theorem k_andF : andK tg ev (.ok false h) = .ok false h := rfl
theorem s_or : tOr tf tg ev h = orK tg ev (tf ev h) := rfl
theorem k_orT : orK tg ev (.ok true h) = .ok true h := rfl
theorem k_orF : orK tg ev (.ok false h) = tg ev h := rfl
theorem s_not : tNot tf ev h = notK (tf ev h) := rfl
theorem k_not : notK (.ok b h) = .ok (!b) h := rfl
def eandK (g : EF) (ev : Ev) : Rs Va → Rs Va := fun r => r.bind fun v h1 => bOf v fun b => if b then g ev h1 else .ok (.bl false) h1
def eorK (g : EF) (ev : Ev) : Rs Va → Rs Va := fun r => r.bind fun v h1 => bOf v fun b => if b then .ok (.bl true) h1 else g ev h1
def enotK : Rs Va → Rs Va := fun r => r.bind fun v h1 => bOf v fun b => .ok (.bl (!b)) h1
theorem s_eand : eAnd f g ev h = eandK g ev (f ev h) := rfl
theorem k_eandT : eandK g ev (.ok (.bl true) h) = g ev h := rfl
theorem k_eandF : eandK g ev (.ok (.bl false) h) = .ok (.bl false) h := rfl
theorem s_eor : eOr f g ev h = eorK g ev (f ev h) := rfl
theorem k_eorT : eorK g ev (.ok (.bl true) h) = .ok (.bl true) h := rfl
theorem k_eorF : eorK g ev (.ok (.bl false) h) = g ev h := rfl
theorem s_enot : eNot f ev h = enotK (f ev h) := rfl
theorem k_enot : enotK (.ok (.bl b) h) = .ok (.bl (!b)) h := rfl
def ifK (f g : EF) (ev : Ev) : Rs Bool → Rs Va := fun r => r.bind fun b h1 => if b then f ev h1 else g ev h1
theorem s_if : eIf tf f g ev h = ifK f g ev (tf ev h) := rfl
theorem k_ifT : ifK f g ev (.ok true h) = f ev h := rfl
theorem k_ifF : ifK f g ev (.ok false h) = g ev h := rfl
def isiK (T : String) : Rs Va → Rs Va := fun r => r.bind fun v h1 => match tyName h1 v with
  | some t => .ok (.bl (isiT t T)) h1
  | none => .bad
theorem s_isi {T : String} : eIsi T f ev h = isiK T (f ev h) := rfl
theorem i_ii {n : Int} : isiK "int" (.ok (.int n) h) = .ok (.bl true) h := by simp [isiK, tyName, isiT]
theorem i_ib {n : Int} : isiK "bool" (.ok (.int n) h) = .ok (.bl false) h := by simp [isiK, tyName, isiT]
theorem i_it {n : Int} : isiK "tuple" (.ok (.int n) h) = .ok (.bl false) h := by simp [isiK, tyName, isiT]
theorem i_il {n : Int} : isiK "list" (.ok (.int n) h) = .ok (.bl false) h := by simp [isiK, tyName, isiT]
theorem i_is {n : Int} : isiK "str" (.ok (.int n) h) = .ok (.bl false) h := by simp [isiK, tyName, isiT]
theorem i_bi {n : Bool} : isiK "int" (.ok (.bl n) h) = .ok (.bl true) h := by simp [isiK, tyName, isiT]
theorem i_bb {n : Bool} : isiK "bool" (.ok (.bl n) h) = .ok (.bl true) h := by simp [isiK, tyName, isiT]
theorem i_bt {n : Bool} : isiK "tuple" (.ok (.bl n) h) = .ok (.bl false) h := by simp [isiK, tyName, isiT]
theorem i_ni : isiK "int" (.ok .non h) = .ok (.bl false) h := by simp [isiK, tyName, isiT]
theorem i_nb : isiK "bool" (.ok .non h) = .ok (.bl false) h := by simp [isiK, tyName, isiT]
theorem i_nt : isiK "tuple" (.ok .non h) = .ok (.bl false) h := by simp [isiK, tyName, isiT]
theorem i_ti {x : List Va} : isiK "int" (.ok (.tup x) h) = .ok (.bl false) h := by simp [isiK, tyName, isiT]
theorem i_tb {x : List Va} : isiK "bool" (.ok (.tup x) h) = .ok (.bl false) h := by simp [isiK, tyName, isiT]
theorem i_tt {x : List Va} : isiK "tuple" (.ok (.tup x) h) = .ok (.bl true) h := by simp [isiK, tyName, isiT]
theorem i_si {x : Str} : isiK "int" (.ok (.str x) h) = .ok (.bl false) h := by simp [isiK, tyName, isiT]
theorem i_st {x : Str} : isiK "tuple" (.ok (.str x) h) = .ok (.bl false) h := by simp [isiK, tyName, isiT]
def ch2K (t : EF) (ev : Ev) (o' : Op2) (w : Va) : Rs Va → Rs Va := fun r => r.bind fun x h3 => match x with
  | .bl true => (t ev h3).bind fun u h4 => ofO (o' w u h4)
  | .bl false => .ok (.bl false) h3
  | _ => .bad
def ch1K (t : EF) (ev : Ev) (o o' : Op2) (v : Va) : Rs Va → Rs Va := fun r => r.bind fun w h2 => ch2K t ev o' w (ofO (o v w h2))
def chK (g t : EF) (ev : Ev) (o o' : Op2) : Rs Va → Rs Va := fun r => r.bind fun v h1 => ch1K t ev o o' v (g ev h1)
theorem s_ch {o o' : Op2} : eChain o o' f g t ev h = chK g t ev o o' (f ev h) := by
  unfold eChain chK ch1K ch2K
  congr 1
  funext v h1
  congr 1
  funext w h2
  cases o v w h2 with
  | none => rfl
  | some q =>
    obtain ⟨x, h3⟩ := q
    cases x with
    | bl b => cases b <;> rfl
    | _ => rfl
theorem k_ch {o o' : Op2} : chK g t ev o o' (.ok v h) = ch1K t ev o o' v (g ev h) := rfl
theorem k_ch1 {o o' : Op2} : ch1K t ev o o' v (.ok w h) = ch2K t ev o' w (ofO (o v w h)) := rfl
theorem k_ch2T {o' : Op2} : ch2K t ev o' w (.ok (.bl true) h) = o1K o' w (t ev h) := rfl
theorem k_ch2F {o' : Op2} : ch2K t ev o' w (.ok (.bl false) h) = .ok (.bl false) h := rfl
/-! #### slices -/
def sl2K (v : Va) (l : Option Int) : Rs (Option Int) → Rs Va := fun r => r.bind fun u h3 => ofO (oSl v l u h3)
def sl1K (hi : Ev → AH → Rs (Option Int)) (ev : Ev) (v : Va) : Rs (Option Int) → Rs Va := fun r => r.bind fun l h2 => sl2K v l (hi ev h2)
def slK (lo hi : Ev → AH → Rs (Option Int)) (ev : Ev) : Rs Va → Rs Va := fun r => r.bind fun v h1 => sl1K hi ev v (lo ev h1)
variable {lo hi : Ev → AH → Rs (Option Int)} {l u : Option Int} {n : Int}
theorem s_sl : eSl f lo hi ev h = slK lo hi ev (f ev h) := rfl
theorem k_sl : slK lo hi ev (.ok v h) = sl1K hi ev v (lo ev h) := rfl
theorem k_sl1 : sl1K hi ev v (.ok l h) = sl2K v l (hi ev h) := rfl
theorem k_sl2 : sl2K v l (.ok u h) = ofO (oSl v l u h) := rfl
def lsK : Rs Va → Rs (Option Int) := fun r => r.bind fun v h1 => match v with | .int i => .ok (some i) h1 | _ => .bad
theorem s_lN : lNone ev h = .ok none h := rfl
theorem s_lS : lSome f ev h = lsK (f ev h) := rfl
theorem k_lS : lsK (.ok (.int n) h) = .ok (some n) h := rfl
/-! #### statements -/
def sqK (g : SF) : SR → SR := fun r => r.andThen g
theorem s_seq : sSeq sf sg ev h = sqK sg (sf ev h) := rfl
theorem k_seqN : sqK sg (.nx ev h) = sg ev h := rfl
theorem k_seqR : sqK sg (.rt v h) = .rt v h := rfl
theorem k_seqB : sqK sg (.bk ev h) = .bk ev h := rfl
theorem k_seqC : sqK sg (.ct ev h) = .ct ev h := rfl
theorem k_seqX : sqK sg (.exc c p ev h) = .exc c p ev h := rfl
theorem s_sN : sNil ev h = .nx ev h := rfl
def setK (i : Nat) (ev : Ev) : Rs Va → SR := fun r => r.s ev fun v h1 => .nx (ev.set i (some v)) h1
theorem s_set : sSet i f ev h = setK i ev (f ev h) := rfl
theorem k_set : setK i ev (.ok v h) = .nx (ev.set i (some v)) h := rfl
def sifK (f g : SF) (ev : Ev) : Rs Bool → SR := fun r => r.s ev fun b h1 => if b then f ev h1 else g ev h1
theorem s_sif : sIf tf sf sg ev h = sifK sf sg ev (tf ev h) := rfl
theorem k_sifT : sifK sf sg ev (.ok true h) = sf ev h := rfl
theorem k_sifF : sifK sf sg ev (.ok false h) = sg ev h := rfl
def retK (ev : Ev) : Rs Va → SR := fun r => r.s ev fun v h1 => .rt v h1
theorem s_ret : sRet f ev h = retK ev (f ev h) := rfl
theorem k_ret : retK ev (.ok v h) = .rt v h := rfl
def expK (ev : Ev) : Rs Va → SR := fun r => r.s ev fun _ h1 => .nx ev h1
theorem s_exp : sExpr f ev h = expK ev (f ev h) := rfl
theorem k_exp : expK ev (.ok v h) = .nx ev h := rfl
variable {gf : GF} {gs : GsF}
def asg1K (h : AH) : Option Ev → SR := fun o => match o with | some ev1 => .nx ev1 h | none => .bad
def asgK (g : GF) (ev : Ev) : Rs Va → SR := fun r => r.s ev fun v h1 => asg1K h1 (g v ev)
theorem s_asg : sAsg gf f ev h = asgK gf ev (f ev h) := rfl
theorem k_asg : asgK gf ev (.ok v h) = asg1K h (gf v ev) := rfl
theorem k_asg1 : asg1K h (some ev) = .nx ev h := rfl
theorem s_gNm : gNm i v ev = some (ev.set i (some v)) := rfl
theorem s_gTp : gTp gs (.tup vs) ev = gs vs ev := rfl
theorem s_gNl : gNl [] ev = some ev := rfl
def gsK (gs : GsF) (vs : List Va) : Option Ev → Option Ev := fun o => o.bind fun ev1 => gs vs ev1
theorem s_gCs : gCs gf gs (v :: vs) ev = gsK gs vs (gf v ev) := rfl
theorem k_gCs : gsK gs vs (some ev) = gs vs ev := rfl
def parK (i j : Nat) (ev : Ev) : Rs (List Va) → SR := fun r => r.s ev fun vs h1 => match vs with
  | [v, w] => .nx ((ev.set i (some v)).set j (some w)) h1
  | _ => .bad
theorem s_par : sPar i j af ev h = parK i j ev (af ev h) := rfl
theorem k_par : parK i j ev (.ok [v, w] h) = .nx ((ev.set i (some v)).set j (some w)) h := rfl
def six3K (ev : Ev) : Option AH → SR := fun o => match o with | some h4 => .nx ev h4 | none => .bad
def six2K (ev : Ev) (v o : Va) : Rs Va → SR := fun r => r.s ev fun i h3 => six3K ev (setAt o i v h3)
def six1K (fi : EF) (ev : Ev) (v : Va) : Rs Va → SR := fun r => r.s ev fun o h2 => six2K ev v o (fi ev h2)
def sixK (fo fi : EF) (ev : Ev) : Rs Va → SR := fun r => r.s ev fun v h1 => six1K fi ev v (fo ev h1)
variable {fo fi : EF} {o : Va}
theorem s_six : sSetIx fo fi f ev h = sixK fo fi ev (f ev h) := rfl
theorem k_six : sixK fo fi ev (.ok v h) = six1K fi ev v (fo ev h) := rfl
theorem k_six1 : six1K fi ev v (.ok o h) = six2K ev v o (fi ev h) := rfl
theorem k_six2 : six2K ev v o (.ok w h) = six3K ev (setAt o w v h) := rfl
theorem k_six3 : six3K ev (some h) = .nx ev h := rfl
def auK (i : Nat) (o : Int → Int → Int) (ev : Ev) (a : Int) : Rs Va → SR := fun r => r.s ev fun v h1 => match v with
  | .int b => .nx (ev.set i (some (.int (o a b)))) h1
  | _ => .bad
def au0K (i : Nat) (o : Int → Int → Int) (f : EF) (ev : Ev) (h : AH) : Option (Option Va) → SR := fun x => match x with
  | some (some (.int a)) => auK i o ev a (f ev h)
  | _ => .bad
theorem s_aug {o : Int → Int → Int} : sAug i o f ev h = au0K i o f ev h ev[i]? := by
  unfold sAug au0K auK
  rfl
theorem k_aug0 {o : Int → Int → Int} {a : Int} : au0K i o f ev h (some (some (.int a))) = auK i o ev a (f ev h) := rfl
theorem k_aug {o : Int → Int → Int} {a d : Int} : auK i o ev a (.ok (.int d) h) = .nx (ev.set i (some (.int (o a d)))) h := rfl
/-! #### methods, calls -/
def m1K (o : OpM) (v : Va) : Rs (List Va) → Rs Va := fun r => r.bind fun vs h2 => ofO (o v vs h2)
def m0K (o : OpM) (ta : AF) (ev : Ev) (v : Va) (h1 : AH) : Bool → Rs Va := fun b => if b then m1K o v (ta ev h1) else .bad
def mK (o : OpM) (ta : AF) (ev : Ev) : Rs Va → Rs Va := fun r => r.bind fun v h1 => m0K o ta ev v h1 (isLst v h1)
theorem s_m {o : OpM} : eM f af o ev h = mK o af ev (f ev h) := rfl
theorem k_m {o : OpM} : mK o af ev (.ok v h) = m0K o af ev v h (isLst v h) := rfl
theorem k_m0 {o : OpM} : m0K o af ev v h true = m1K o v (af ev h) := rfl
theorem k_m1 {o : OpM} : m1K o v (.ok vs h) = ofO (o v vs h) := rfl
variable {F : List Va → AH → Rs Va} {das : List Va} {gA : List Va → List Va → List Va} {n1 n2 : Nat} {tk : AF}
def clK (das : List Va) (F : List Va → AH → Rs Va) : Rs (List Va) → Rs Va := fun r => r.bind fun vs h1 => F (vs ++ das) h1
theorem s_cl : eCall das F af ev h = clK das F (af ev h) := rfl
theorem k_cl : clK das F (.ok vs h) = F (vs ++ das) h := rfl
def ck1K (n m : Nat) (gA : List Va → List Va → List Va) (F : List Va → AH → Rs Va) (vs : List Va) : Rs (List Va) → Rs Va := fun r => r.bind fun zs h2 => if vs.length == n && zs.length == m then F (gA vs zs) h2 else .bad
def ckK (n m : Nat) (gA : List Va → List Va → List Va) (F : List Va → AH → Rs Va) (tk : AF) (ev : Ev) : Rs (List Va) → Rs Va := fun r => r.bind fun vs h1 => ck1K n m gA F vs (tk ev h1)
theorem s_ck : eCallK n1 n2 gA F af tk ev h = ckK n1 n2 gA F tk ev (af ev h) := rfl
theorem k_ck : ckK n1 n2 gA F tk ev (.ok vs h) = ck1K n1 n2 gA F vs (tk ev h) := rfl
/-! #### loops -/
variable {it : IF} {s : Src} {gsl : List (Nat × List Va)} {xs : List Va} {x : Va} {ns : List Nat}
def itK (o : List Va → AH → Option Src) : Rs (List Va) → Rs Src := fun r => r.bind fun vs h1 => match o vs h1 with | some s => .ok s h1 | none => .bad
theorem s_it {o : List Va → AH → Option Src} : iOf af o ev h = itK o (af ev h) := rfl
def it2K (h : AH) : Option Src → Rs Src := fun o => match o with | some s => .ok s h | none => .bad
theorem k_it {o : List Va → AH → Option Src} : itK o (.ok vs h) = it2K h (o vs h) := rfl
theorem k_it2 : it2K h (some s) = .ok s h := rfl
def it1K (o : Va → AH → Option Src) : Rs Va → Rs Src := fun r => r.bind fun v h1 => match o v h1 with | some s => .ok s h1 | none => .bad
theorem s_it1 {o : Va → AH → Option Src} : iOf1 f o ev h = it1K o (f ev h) := rfl
theorem k_it1 {o : Va → AH → Option Src} : it1K o (.ok v h) = it2K h (o v h) := rfl
def forK (g : GF) (b : SF) (ev : Ev) : Rs Src → SR := fun r => r.s ev fun s h1 => loopF s.gs g b s.items ev h1
theorem s_for : sFor it gf sf ev h = forK gf sf ev (it ev h) := rfl
theorem k_for : forK gf sf ev (.ok s h) = loopF s.gs gf sf s.items ev h := rfl
def lp1K (gs : List (Nat × List Va)) (g : GF) (b : SF) (xs : List Va) : SR → SR := fun r => match r with
  | .nx ev2 h2 => loopF gs g b xs ev2 h2
  | .ct ev2 h2 => loopF gs g b xs ev2 h2
  | .bk ev2 h2 => .nx ev2 h2
  | .rt v h2 => .rt v h2
  | .exc c p ev2 h2 => .exc c p ev2 h2
  | .bad => .bad
def lpK (gs : List (Nat × List Va)) (g : GF) (b : SF) (xs : List Va) (h : AH) : Option Ev → SR := fun o => match o with
  | none => .bad
  | some ev1 => lp1K gs g b xs (b ev1 h)
theorem s_lpN (e : gsOk gsl h = true) : loopF gsl gf sf [] ev h = .nx ev h := by simp [loopF, e]
theorem s_lpC (e : gsOk gsl h = true) : loopF gsl gf sf (x :: xs) ev h = lpK gsl gf sf xs h (gf x ev) := by
  simp only [loopF, e, if_true, lpK, lp1K]
  all_goals (cases gf x ev <;> rfl)
theorem k_lp : lpK gsl gf sf xs h (some ev) = lp1K gsl gf sf xs (sf ev h) := rfl
theorem k_lpN : lp1K gsl gf sf xs (.nx ev h) = loopF gsl gf sf xs ev h := rfl
theorem k_lpC : lp1K gsl gf sf xs (.ct ev h) = loopF gsl gf sf xs ev h := rfl
theorem k_lpB : lp1K gsl gf sf xs (.bk ev h) = .nx ev h := rfl
theorem k_lpR : lp1K gsl gf sf xs (.rt v h) = .rt v h := rfl
def lcK (g : GF) (t : TF) (el : EF) (ns : List Nat) (ev : Ev) : Rs Src → Rs Va := fun r => r.bind (lcF g t el ns ev)
def lc1K : Rs (List Va) → Rs Va := fun r => r.bind fun ys h2 => .ok (.ref h2.length) (h2 ++ [.lst ys])
theorem s_lc : eLc it gf tf f ns ev h = lcK gf tf f ns ev (it ev h) := rfl
theorem k_lc (e : s.items.length < lim) : lcK gf tf f ns ev (.ok s h) = lc1K (compF s.gs gf tf f (ewipe ev ns) s.items h) := by
  simp only [lcK, Rs.bind_ok, lcF, lc1K, if_pos e]
theorem k_lc1 : lc1K (.ok vs h) = .ok (.ref h.length) (h ++ [.lst vs]) := rfl
def cp3K (y : Va) : Rs (List Va) → Rs (List Va) := fun r => r.bind fun ys h4 => .ok (y :: ys) h4
def cp2K (gs : List (Nat × List Va)) (g : GF) (t : TF) (el : EF) (ev0 : Ev) (xs : List Va) : Rs Va → Rs (List Va) := fun r => match r with
  | .ok y h3 => cp3K y (compF gs g t el ev0 xs h3)
  | _ => .bad
def cp1K (gs : List (Nat × List Va)) (g : GF) (t : TF) (el : EF) (ev0 ev1 : Ev) (xs : List Va) : Rs Bool → Rs (List Va) := fun r => match r with
  | .ok true h2 => cp2K gs g t el ev0 xs (el ev1 h2)
  | .ok false h2 => compF gs g t el ev0 xs h2
  | _ => .bad
def cpK (gs : List (Nat × List Va)) (g : GF) (t : TF) (el : EF) (ev0 : Ev) (xs : List Va) (h : AH) : Option Ev → Rs (List Va) := fun o => match o with
  | none => .bad
  | some ev1 => cp1K gs g t el ev0 ev1 xs (t ev1 h)
theorem s_cpN (e : gsOk gsl h = true) : compF gsl gf tf f ev [] h = .ok [] h := by simp [compF, e]
theorem s_cpC (e : gsOk gsl h = true) : compF gsl gf tf f ev (x :: xs) h = cpK gsl gf tf f ev xs h (gf x ev) := by
  simp only [compF, e, if_true, cpK, cp1K, cp2K, cp3K]
  all_goals
    cases gf x ev with
    | none => rfl
    | some ev1 =>
      simp only
      all_goals
        cases tf ev1 h with
        | ok b h2 =>
          cases b
          · rfl
          · simp only
            all_goals (cases f ev1 h2 <;> rfl)
        | exc _ _ _ => rfl
        | bad => rfl
theorem k_cp : cpK gsl gf tf f ev xs h (some ev1) = cp1K gsl gf tf f ev ev1 xs (tf ev1 h) := rfl
theorem k_cpT : cp1K gsl gf tf f ev ev1 xs (.ok true h) = cp2K gsl gf tf f ev xs (f ev1 h) := rfl
theorem k_cpF : cp1K gsl gf tf f ev ev1 xs (.ok false h) = compF gsl gf tf f ev xs h := rfl
theorem k_cp2 : cp2K gsl gf tf f ev xs (.ok v h) = cp3K v (compF gsl gf tf f ev xs h) := rfl
theorem k_cp3 : cp3K v (.ok vs h) = .ok (v :: vs) h := rfl
theorem s_yes : tYesF ev h = .ok true h := rfl
/-! #### ends of defs -/
theorem s_fn {m k : Nat} (e : vs.length = k) : fnF m k sf vs h = gcF h.length (endF (sf (vs.map some ++ List.replicate (m - k) none) h)) := by simp [fnF, e]
theorem k_endN : endF (.nx ev h) = .ok .non h := rfl
theorem k_endR : endF (.rt v h) = .ok v h := rfl
/-! #### operations on known kinds -/
variable {a d : Int} {ys : List Va} {k : Nat}
theorem o_add : oAdd (.int a) (.int d) h = some (.int (a + d), h) := rfl
theorem o_sub : oSub (.int a) (.int d) h = some (.int (a - d), h) := rfl
theorem o_mul (h1 : okI a = true) (h2 : okI d = true) : oMul2 (.int a) (.int d) h = some (.int (a * d), h) := by
  show oMul (.int a) (.int d) h = _
  simp [oMul, h1, h2]
theorem o_fdiv (h1 : 0 < d) (h2 : okI d = true) : oFdiv (.int a) (.int d) h = some (.int (a / d), h) := by simp [oFdiv, h1, h2]
theorem o_mod (h1 : 0 < d) : oMod (.int a) (.int d) h = some (.int (a % d), h) := by simp [oMod, h1]
theorem o_lt : oLt (.int a) (.int d) h = some (.bl (decide (a < d)), h) := rfl
theorem o_le : oLe (.int a) (.int d) h = some (.bl (decide (a ≤ d)), h) := rfl
theorem o_gt : oGt (.int a) (.int d) h = some (.bl (decide (d < a)), h) := rfl
theorem o_ge : oGe (.int a) (.int d) h = some (.bl (decide (d ≤ a)), h) := rfl
theorem py_int {n : Nat} : toPy h n (.int a) = some (.int a) := by cases n <;> simp [toPy]
theorem sh_int : SeqAt.shaped (.int a) = true := rfl
theorem o_eqI : oEq2 (.int a) (.int d) h = some (.bl (decide (a = d)), h) := by
  show oEq (.int a) (.int d) h = _
  simp only [oEq, oEqv, py_int, sh_int, Bool.and_self, if_true]
  by_cases e : a = d <;> simp [PyData.eqv, e]
theorem o_neI : oNe2 (.int a) (.int d) h = some (.bl (!decide (a = d)), h) := by
  show oNe (.int a) (.int d) h = _
  simp only [oNe, oEqv, py_int, sh_int, Bool.and_self, if_true]
  by_cases e : a = d <;> simp [PyData.eqv, e]
theorem o_neR {q : PyData} : oNe2 (.rp q) (.rp q) h = some (.bl false, h) := by simp [oNe2, oEqv2, pdBeq_refl]
theorem o_eqR {q : PyData} : oEq2 (.rp q) (.rp q) h = some (.bl true, h) := by simp [oEq2, oEqv2, pdBeq_refl]
theorem o_isN1 : oIs false .non .non h = some (.bl true, h) := rfl
theorem o_isN2 : oIs false (.int a) .non h = some (.bl false, h) := rfl
theorem o_isN3 : oIs true .non .non h = some (.bl false, h) := rfl
theorem o_isN4 : oIs true (.int a) .non h = some (.bl true, h) := rfl
theorem o_isB1 {b b' : Bool} : oIs false (.bl b) (.bl b') h = some (.bl (decide (b = b')), h) := rfl
theorem o_isB2 {b b' : Bool} : oIs true (.bl b) (.bl b') h = some (.bl (!decide (b = b')), h) := rfl
theorem o_tup (e : vs.length ≤ lim) : oTup vs h = some (.tup vs, h) := by simp [oTup, e]
theorem o_lst (e : vs.length ≤ lim) : oLst vs h = some (.ref h.length, h ++ [.lst vs]) := by simp [oLst, e]
theorem o_lenT : oLen [.tup xs] h = some (.int (xs.length : Nat), h) := rfl
theorem o_lenR : oLen [.rol xs] h = some (.int (xs.length : Nat), h) := rfl
def lnK (h : AH) : Option (List Va) → Option (Va × AH) := fun o => match o with | some xs => some (.int (xs.length : Nat), h) | none => none
theorem o_lenL : oLen [.ref k] h = lnK h (lstAt h k) := rfl
theorem k_lenL : lnK h (some xs) = some (.int (xs.length : Nat), h) := rfl
theorem o_ixT : oIx (.tup xs) (.int a) h = (atI xs a).map fun v => (v, h) := rfl
theorem o_ixR : oIx (.rol xs) (.int a) h = (atI xs a).map fun v => (v, h) := rfl
def ixK (a : Int) (h : AH) : Option (List Va) → Option (Va × AH) := fun o => match o with | some xs => (atI xs a).map fun v => (v, h) | none => none
theorem o_ixL : oIx (.ref k) (.int a) h = ixK a h (lstAt h k) := rfl
theorem k_ixL : ixK a h (some xs) = (atI xs a).map fun v => (v, h) := rfl
theorem k_ix : (some v).map (fun v : Va => (v, h)) = some (v, h) := rfl
theorem o_int : oInt [.int a] h = some (.int a, h) := rfl
theorem o_intB {b : Bool} : oInt [.bl b] h = some (.int (if b then 1 else 0), h) := rfl
theorem o_abs : oAbs [.int a] h = some (.int (if a < 0 then -a else a), h) := rfl
theorem o_max : oMax2 [.int a, .int d] h = some (.int (if d > a then d else a), h) := rfl
theorem o_min : oMin2 [.int a, .int d] h = some (.int (if d < a then d else a), h) := rfl
theorem o_tupT : oTuple [.tup xs] h = some (.tup xs, h) := rfl
def tuK (h : AH) : Option (List Va) → Option (Va × AH) := fun o => match o with | some xs => some (.tup xs, h) | none => none
theorem o_tupL : oTuple [.ref k] h = tuK h (lstAt h k) := rfl
theorem k_tupL : tuK h (some xs) = some (.tup xs, h) := rfl
theorem o_lstT : oList [.tup xs] h = some (.ref h.length, h ++ [.lst xs]) := rfl
def liK (h : AH) : Option (List Va) → Option (Va × AH) := fun o => match o with | some xs => some (.ref h.length, h ++ [.lst xs]) | none => none
theorem o_lstL : oList [.ref k] h = liK h (lstAt h k) := rfl
theorem k_lstL : liK h (some xs) = some (.ref h.length, h ++ [.lst xs]) := rfl
theorem o_slT : oSl (.tup xs) l u h = some (.tup (cutA xs l u), h) := rfl
def appvK (k : Nat) (v : Va) (h : AH) : Option (List Va) → Option (Va × AH) := fun o => match o with | some xs => if xs.length < lim then some (.non, h.set k (.lst (xs ++ [v]))) else none | none => none
theorem o_app : oAppend (.ref k) [v] h = appvK k v h (lstAt h k) := rfl
theorem k_app (e2 : xs.length < lim) : appvK k v h (some xs) = some (.non, h.set k (.lst (xs ++ [v]))) := by simp [appvK, e2]
theorem o_isLst : isLst (.ref k) h = (lstAt h k).isSome := rfl
theorem k_isSome : (some xs).isSome = true := rfl
theorem o_cat (e : xs.length + ys.length ≤ lim) : oAdd (.tup xs) (.tup ys) h = some (.tup (xs ++ ys), h) := by simp [oAdd, e]
def st2K (k : Nat) (v : Va) (h : AH) (xs : List Va) : Option Nat → Option AH := fun o => match o with | some j => some (h.set k (.lst (xs.set j v))) | none => none
def stK (k : Nat) (a : Int) (v : Va) (h : AH) : Option (List Va) → Option AH := fun o => match o with | some xs => st2K k v h xs (ixN xs.length a) | none => none
theorem o_setAt : setAt (.ref k) (.int a) v h = stK k a v h (lstAt h k) := rfl
theorem k_setAt : stK k a v h (some xs) = st2K k v h xs (ixN xs.length a) := rfl
theorem k_setAt2 : st2K k v h xs (some i) = some (h.set k (.lst (xs.set i v))) := rfl
/-! #### sources -/
theorem c_T : srcOf (.tup xs) h = some ⟨xs, []⟩ := rfl
theorem c_R : srcOf (.rol xs) h = some ⟨xs, []⟩ := rfl
def srK (k : Nat) : Option (List Va) → Option Src := fun o => match o with | some xs => some ⟨xs, [(k, xs)]⟩ | none => none
theorem c_L : srcOf (.ref k) h = srK k (lstAt h k) := rfl
theorem k_srcL : srK k (some xs) = some ⟨xs, [(k, xs)]⟩ := rfl
theorem c_g (e : lstAt h k = some xs) : gsOk [(k, xs)] h = true := gsOk_of fun p hp => by rw [List.mem_singleton.mp hp]; exact e
theorem c_rng (h1 : -rngL ≤ d) (h2 : d ≤ rngL) : srcR [.int d] h = some ⟨intsF 0 d.toNat, []⟩ := by simp [srcR, h1, h2]
theorem lst0 {r : AH} : lstAt (.lst xs :: r) 0 = some xs := rfl
theorem lstS {q : AO} {r : AH} : lstAt (q :: r) (k + 1) = lstAt r k := by simp [lstAt]
theorem atI0 : atI (x :: xs) 0 = some x := by simp [atI, ixN]
theorem atIn {m : Nat} (e : a = (m : Nat)) : atI xs a = xs[m]? := by
  subst e
  unfold atI ixN
  rw [if_pos (by omega)]
  by_cases hm : m < xs.length
  · rw [if_pos (by omega)]
    simp
  · rw [if_neg (by omega)]
    simp [List.getElem?_eq_none (Nat.le_of_not_lt hm)]
theorem okI_lt {i : Int} (h1 : -(10 ^ 1000) < i) (h2 : i < 10 ^ 1000) : okI i = true := okI_of (n := 3400) (by
  have : (10 : Nat) ^ 1000 < 2 ^ 3400 := by decide +kernel
  omega)
/-! #### local calls -/
theorem loc0 {v : Va} (e : F vs [] = .ok v []) (e2 : refsOfs vs = []) (e3 : inR 0 v = true) : callL F vs h = .ok v h := by
  simp [callL, e2, e, back0, bk, e3]
end
end FL

set_option Elab.async false
set_option linter.all false
set_option maxRecDepth 100000
/-! FLP: what is reached behind a call of which no more is known than its promise. -/
namespace FL
open PySem PySem.Spec PyProof.Rows L2
/-- r ends well, in P -/
def Tk {α : Type} (r : Rs α) (P : α → AH → Prop) : Prop := ∃ a h, r = .ok a h ∧ P a h
def Ts (r : SR) (P : SR → Prop) : Prop := P r
section
variable {α β : Type} {ev ev1 : Ev} {h h1 h2 : AH} {v w : Va} {vs xs : List Va} {f g t : EF} {tf tg : TF} {sf sg : SF} {af : AF} {i j n m : Nat} {b : Bool} {o : Op2} {r : Rs Va} {rb : Rs Bool} {rl : Rs (List Va)} {P : Va → AH → Prop} {Pb : Bool → AH → Prop} {Pl : List Va → AH → Prop} {Q : SR → Prop}
theorem Tk.ok {a : α} {P : α → AH → Prop} (q : P a h) : Tk (.ok a h) P := ⟨a, h, rfl, q⟩
theorem tk_ok {a : α} {P : α → AH → Prop} : Tk (.ok a h) P = P a h := by
  apply propext
  constructor
  · rintro ⟨a', h', e, q⟩
    cases e
    exact q
  · exact Tk.ok
theorem ts_nx : Ts (.nx ev h) Q = Q (.nx ev h) := rfl
theorem ts_rt : Ts (.rt v h) Q = Q (.rt v h) := rfl
theorem Tk.mono {r : Rs α} {P P' : α → AH → Prop} (q : Tk r P) (i : ∀ a h, P a h → P' a h) : Tk r P' := by
  obtain ⟨a, h, e, p⟩ := q
  exact ⟨a, h, e, i a h p⟩
theorem Tk.bind {r : Rs α} {k : α → AH → Rs β} {P : β → AH → Prop} (q : Tk r fun a h => Tk (k a h) P) : Tk (r.bind k) P := by
  obtain ⟨a, h, e, p⟩ := q
  rw [e]
  exact p
theorem Tk.s {r : Rs α} {k : α → AH → SR} (q : Tk r fun a h => Ts (k a h) Q) : Ts (r.s ev k) Q := by
  obtain ⟨a, h, e, p⟩ := q
  rw [e]
  exact p
theorem p_o1 (q : Tk r fun w h => Tk (o1K o v (.ok w h)) P) : Tk (o1K o v r) P := Tk.bind q
theorem p_o (q : Tk r fun w h => Tk (oK o g ev (.ok w h)) P) : Tk (oK o g ev r) P := Tk.bind q
theorem p_ap {o : OpN} (q : Tk rl fun w h => Tk (apK o (.ok w h)) P) : Tk (apK o rl) P := Tk.bind q
theorem p_a1 (q : Tk rl fun w h => Tk (a1K v (.ok w h)) Pl) : Tk (a1K v rl) Pl := Tk.bind q
theorem p_a (q : Tk r fun w h => Tk (aK af ev (.ok w h)) Pl) : Tk (aK af ev r) Pl := Tk.bind q
theorem p_tB (q : Tk r fun w h => Tk (tBK (.ok w h)) Pb) : Tk (tBK r) Pb := Tk.bind q
theorem p_not (q : Tk rb fun w h => Tk (notK (.ok w h)) Pb) : Tk (notK rb) Pb := Tk.bind q
theorem p_set (q : Tk r fun w h => Ts (setK i ev (.ok w h)) Q) : Ts (setK i ev r) Q := Tk.s q
theorem p_sif (q : Tk rb fun w h => Ts (sifK sf sg ev (.ok w h)) Q) : Ts (sifK sf sg ev rb) Q := Tk.s q
theorem p_ret (q : Tk r fun w h => Ts (retK ev (.ok w h)) Q) : Ts (retK ev r) Q := Tk.s q
theorem p_exp (q : Tk r fun w h => Ts (expK ev (.ok w h)) Q) : Ts (expK ev r) Q := Tk.s q
theorem p_par (q : Tk rl fun w h => Ts (parK i j ev (.ok w h)) Q) : Ts (parK i j ev rl) Q := Tk.s q
theorem p_sq {r : SR} (q : Ts r fun r => Ts (sqK sg r) Q) : Ts (sqK sg r) Q := q
theorem p_m1 {o : OpM} (q : Tk rl fun w h => Tk (m1K o v (.ok w h)) P) : Tk (m1K o v rl) P := Tk.bind q
variable {F : List Va → AH → Rs Va} {das : List Va} {gA : List Va → List Va → List Va} {n1 n2 : Nat} {tk : AF}
theorem p_cl (q : Tk rl fun w h => Tk (clK das F (.ok w h)) P) : Tk (clK das F rl) P := Tk.bind q
variable {rs : Rs Src} {Ps : Src → AH → Prop} {gf : GF} {ns : List Nat} {gsl : List (Nat × List Va)}
theorem p_it1 {o : Va → AH → Option Src} (q : Tk r fun w h => Tk (it1K o (.ok w h)) Ps) : Tk (it1K o r) Ps := Tk.bind q
theorem p_for (q : Tk rs fun w h => Ts (forK gf sf ev (.ok w h)) Q) : Ts (forK gf sf ev rs) Q := Tk.s q
theorem p_lc1 (q : Tk rl fun w h => Tk (lc1K (.ok w h)) P) : Tk (lc1K rl) P := Tk.bind q
theorem p_cp3 (q : Tk rl fun w h => Tk (cp3K v (.ok w h)) Pl) : Tk (cp3K v rl) Pl := Tk.bind q
theorem p_cp2 (q : Tk r fun w h => Tk (cp2K gsl gf tf f ev xs (.ok w h)) Pl) : Tk (cp2K gsl gf tf f ev xs r) Pl := by
  obtain ⟨a, h, e, p⟩ := q
  rw [e]
  exact p
/-- a def, by its body -/
theorem p_fn {m k : Nat} (e : vs.length = k) (q : Ts (sf (vs.map some ++ List.replicate (m - k) none) h) fun r => Tk (gcF h.length (endF r)) P) : Tk (fnF m k sf vs h) P := by
  rw [s_fn e]
  exact q
/-- a call without references -/
theorem p_loc0 (e2 : refsOfs vs = []) (q : Tk (F vs []) fun v h' => P (bk (sh0 h.length) v) (h ++ h'.map (mapRO (sh0 h.length)))) : Tk (callL F vs h) P := by
  obtain ⟨a, h', e, p⟩ := q
  refine ⟨_, _, ?_, p⟩
  simp [callL, e2, e, back0]
/-- a call that names one list -/
theorem p_loc1 {k : Nat} (e0 : refsOfs vs = [k]) (e1 : lstAt h k = some xs) (e2 : inRs 0 xs = true) (q : Tk (F (mapRs (fun _ => 0) vs) [.lst xs]) fun v h' => P (bk (sh1 h.length k) v) (ins1 h k h')) : Tk (callL F vs h) P := by
  obtain ⟨a, h', e, p⟩ := q
  refine ⟨_, _, ?_, p⟩
  have e1' := lstAt_some e1
  simp [callL, e0, e1', e2, e, back1]
/-- a loop, by what stands at each turn -/
theorem loop_inv (I : Nat → Ev → AH → Prop) : ∀ (ys : List Va) (j : Nat) (ev : Ev) (h : AH), I j ev h → (∀ k ev h, j ≤ k → k ≤ j + ys.length → I k ev h → gsOk gsl h = true) →
    (∀ k x ev h, ys[k]? = some x → I (j + k) ev h → ∃ ev1, gf x ev = some ev1 ∧ Ts (sf ev1 h) fun r => (∃ ev2 h2, r = .nx ev2 h2 ∧ I (j + k + 1) ev2 h2) ∨ (∃ ev2 h2, r = .ct ev2 h2 ∧ I (j + k + 1) ev2 h2) ∨ (∃ ev2 h2, r = .bk ev2 h2 ∧ Q (.nx ev2 h2)) ∨ (∃ v h2, r = .rt v h2 ∧ Q (.rt v h2))) →
    (∀ ev h, I (j + ys.length) ev h → Q (.nx ev h)) → Ts (loopF gsl gf sf ys ev h) Q := by
  intro ys
  induction ys with
  | nil =>
    intro j ev h hI hg _ hq
    rw [s_lpN (hg j ev h (Nat.le_refl _) (Nat.le_add_right _ _) hI)]
    exact hq ev h hI
  | cons x ys ih =>
    intro j ev h hI hg hs hq
    rw [s_lpC (hg j ev h (Nat.le_refl _) (Nat.le_add_right _ _) hI)]
    obtain ⟨ev1, e1, q⟩ := hs 0 x ev h rfl hI
    rw [e1, k_lp]
    have go : ∀ ev2 h2, I (j + 0 + 1) ev2 h2 → Ts (loopF gsl gf sf ys ev2 h2) Q := fun ev2 h2 hI2 => by
      refine ih (j + 1) ev2 h2 hI2 (fun k ev h h1 h3 => hg k ev h (by omega) (by simp only [List.length_cons]; omega)) (fun k x ev h hk hI3 => ?_) fun ev h hI3 => hq ev h ?_
      · have := hs (k + 1) x ev h (by simpa using hk) (by rw [show j + (k + 1) = j + 1 + k by omega]; exact hI3)
        rw [show j + (k + 1) + 1 = j + 1 + k + 1 by omega] at this
        exact this
      · rw [show j + (x :: ys).length = j + 1 + ys.length by simp only [List.length_cons]; omega]
        exact hI3
    rcases q with ⟨ev2, h2, e, q⟩ | ⟨ev2, h2, e, q⟩ | ⟨ev2, h2, e, q⟩ | ⟨v, h2, e, q⟩
    · rw [e]; exact go ev2 h2 q
    · rw [e]; exact go ev2 h2 q
    · rw [e]; exact q
    · rw [e]; exact q
/-- a comprehension, by what stands at each turn -/
theorem comp_inv (I : Nat → List Va → AH → Prop) : ∀ (ys : List Va) (Pl : List Va → AH → Prop) (j : Nat) (acc : List Va) (h : AH), I j acc h → (∀ k acc h, I k acc h → gsOk gsl h = true) →
    (∀ k x acc h, ys[k]? = some x → I (j + k) acc h → ∃ ev1, gf x ev = some ev1 ∧ Tk (f ev1 h) fun y h2 => I (j + k + 1) (acc ++ [y]) h2) →
    (∀ out h, I (j + ys.length) (acc ++ out) h → out.length = ys.length → Pl out h) → Tk (compF gsl gf tYesF f ev ys h) Pl := by
  intro ys
  induction ys with
  | nil =>
    intro Pl j acc h hI hg _ hq
    rw [s_cpN (hg _ _ _ hI)]
    exact Tk.ok (hq [] h (by simpa using hI) rfl)
  | cons x ys ih =>
    intro Pl j acc h hI hg hs hq
    rw [s_cpC (hg _ _ _ hI)]
    obtain ⟨ev1, e1, q⟩ := hs 0 x acc h rfl hI
    rw [e1, k_cp]
    show Tk (cp1K _ _ _ _ _ _ _ (.ok true h)) _
    rw [k_cpT]
    refine p_cp2 (q.mono fun y h2 hI2 => ?_)
    rw [k_cp2]
    refine p_cp3 (ih _ (j + 1) (acc ++ [y]) h2 hI2 hg (fun k x acc h hk hI3 => ?_) fun out h hI3 hl => Tk.ok (hq (y :: out) h ?_ (by simp [hl])))
    · have := hs (k + 1) x acc h (by simpa using hk) (by rw [show j + (k + 1) = j + 1 + k by omega]; exact hI3)
      rw [show j + (k + 1) + 1 = j + 1 + k + 1 by omega] at this
      exact this
    · rw [show j + (x :: ys).length = j + 1 + ys.length by simp only [List.length_cons]; omega]
      simpa using hI3
end
end FL

set_option Elab.async false
set_option linter.all false
set_option maxRecDepth 100000
/-! FLQ: plain facts of walks. -/
namespace FL
open PySem PySem.Spec PyProof.Rows L2
section
variable {ev ev1 : Ev} {h h1 h2 : AH} {gf : GF} {f : EF} {sf : SF} {gsl : List (Nat × List Va)} {Q : SR → Prop}
theorem comp_map {φ : Va → Va} {e1 : Va → Ev} (hgs : gsOk gsl h = true) : ∀ ys : List Va, (∀ x ∈ ys, gf x ev = some (e1 x) ∧ f (e1 x) h = .ok (φ x) h) → compF gsl gf tYesF f ev ys h = .ok (ys.map φ) h
  | [], _ => s_cpN hgs
  | x :: ys, hq => by
    obtain ⟨g1, g2⟩ := hq x (List.mem_cons_self ..)
    rw [s_cpC hgs, g1, k_cp]
    show cp1K _ _ _ _ _ _ _ (.ok true h) = _
    rw [k_cpT, g2, k_cp2, comp_map hgs ys fun y hy => hq y (List.mem_cons_of_mem _ hy), k_cp3]
    rfl
theorem allB_map {α : Type} {φ : α → Bool} : ∀ ys : List α, allB (ys.map fun x => Va.bl (φ x)) = some (ys.map φ)
  | [] => rfl
  | y :: ys => by simp [allB, allB_map ys]
theorem intsF_eq : ∀ (n : Nat) (lo : Int), intsF lo n = (List.range n).map fun i => Va.int (lo + (i : Nat))
  | 0, _ => rfl
  | n + 1, lo => by
    rw [List.range_succ_eq_map, List.map_cons, List.map_map, intsF, intsF_eq n]
    congr 1
    · simp
    · apply List.map_congr_left
      intro a _
      simp only [Function.comp]
      congr 1
      push_cast
      omega
theorem lstAt_end {xs : List Va} {h : AH} : lstAt (h ++ [.lst xs]) h.length = some xs := by simp [lstAt]
theorem o_allL {xs : List Va} {bs : List Bool} {k : Nat} (e : lstAt h k = some xs) (e2 : allB xs = some bs) : oAll [.ref k] h = some (.bl (bs.all id), h) := by simp [oAll, lstOf, e, e2]
theorem o_anyL {xs : List Va} {bs : List Bool} {k : Nat} (e : lstAt h k = some xs) (e2 : allB xs = some bs) : oAny [.ref k] h = some (.bl (bs.any id), h) := by simp [oAny, lstOf, e, e2]
end
/-! ### systems -/
abbrev tI (xs : List Int) : Va := .tup (xs.map Va.int)
def oI : Option Int → Va
  | some i => .int i
  | none => .non
def tabV (sw : List (List Int)) : Va := .tup (sw.map tI)
def reqV (rq : List (List (Option Int))) : Va := .tup (rq.map fun r => .tup (r.map oI))
def sysV (sw : List (List Int)) (rq : List (List (Option Int))) (st : Int) : Va := .tup [tabV sw, reqV rq, .int st]
theorem inR_map {α : Type} {φ : α → Va} (hφ : ∀ x, inR 0 (φ x) = true) : ∀ ys : List α, inRs 0 (ys.map φ) = true
  | [] => rfl
  | y :: ys => by simp [inRs, hφ y, inR_map hφ ys]
theorem inR_int (i : Int) : inR 0 (.int i) = true := rfl
theorem inR_oI : ∀ i : Option Int, inR 0 (oI i) = true
  | some _ => rfl
  | none => rfl
theorem inR_tI (xs : List Int) : inR 0 (tI xs) = true := by
  show inRs 0 (xs.map Va.int) = true
  exact inR_map inR_int xs
theorem inR_tab (sw : List (List Int)) : inR 0 (tabV sw) = true := by
  show inRs 0 (sw.map tI) = true
  exact inR_map inR_tI sw
theorem inR_req (rq : List (List (Option Int))) : inR 0 (reqV rq) = true := by
  show inRs 0 (rq.map _) = true
  exact inR_map (φ := fun r => Va.tup (r.map oI)) (fun r => by show inRs 0 _ = true; exact inR_map inR_oI r) rq
theorem inR_sys (sw : List (List Int)) (rq : List (List (Option Int))) (st : Int) : inR 0 (sysV sw rq st) = true := by
  show inRs 0 [_, _, _] = true
  simp [inRs, inR_tab, inR_req, inR_int]
theorem refs_cons {v : Va} {vs : List Va} (h1 : inR 0 v = true) (h2 : refsOfs vs = []) : refsOfs (v :: vs) = [] := by
  rw [refsOfs, inR_free h1, h2]
  rfl
def at2 (sw : List (List Int)) (i j : Nat) : Int := ((sw[i]?.getD [])[j]?).getD 0
structure TabOk (sw : List (List Int)) (n : Nat) : Prop where
  len : sw.length = n
  n2 : 2 ≤ n
  n10 : n ≤ 10
  row : ∀ r ∈ sw, r.length = n
  diag : ∀ i, i < n → at2 sw i i = 0
  off : ∀ i j, i < n → j < n → i ≠ j → 1 ≤ at2 sw i j ∧ at2 sw i j ≤ 1000
  tri : ∀ i j k, i < n → j < n → k < n → at2 sw i k ≤ at2 sw i j + at2 sw j k
theorem TabOk.get {sw : List (List Int)} {n : Nat} (T : TabOk sw n) {i : Nat} (hi : i < n) : ∃ r, sw[i]? = some r ∧ r.length = n ∧ ∀ j, j < n → r[j]? = some (at2 sw i j) := by
  have hl : i < sw.length := by rw [T.len]; exact hi
  refine ⟨sw[i], List.getElem?_eq_getElem hl, T.row _ (List.getElem_mem hl), fun j hj => ?_⟩
  have hr : sw[i].length = n := T.row _ (List.getElem_mem hl)
  unfold at2
  rw [List.getElem?_eq_getElem hl]
  simp only [Option.getD_some]
  rw [List.getElem?_eq_getElem (by rw [hr]; exact hj)]
  rfl
theorem at_map {α : Type} {φ : α → Va} {xs : List α} {x : α} {i : Nat} (h : xs[i]? = some x) : atI (xs.map φ) ((i : Nat) : Int) = some (φ x) := by
  rw [atIn rfl, List.getElem?_map, h]
  rfl
theorem TabOk.ix1 {sw : List (List Int)} {n : Nat} (T : TabOk sw n) {i : Nat} (hi : i < n) {h : AH} : ∃ r, sw[i]? = some r ∧ oIx (tabV sw) (.int (i : Nat)) h = some (tI r, h) := by
  obtain ⟨r, h1, _, _⟩ := T.get hi
  refine ⟨r, h1, ?_⟩
  show (atI (sw.map tI) _).map _ = _
  rw [at_map h1]
  rfl
/-- table[i][j] -/
theorem TabOk.ix2 {sw : List (List Int)} {n : Nat} (T : TabOk sw n) {i j a b c : Nat} (hi : i < n) (hj : j < n) {ev : Ev} {h : AH} (ha : ev[a]? = some (some (tabV sw))) (hb : ev[b]? = some (some (.int (i : Nat)))) (hc : ev[c]? = some (some (.int (j : Nat)))) :
    eOp oIx (eOp oIx (eVar a) (eVar b)) (eVar c) ev h = .ok (.int (at2 sw i j)) h := by
  obtain ⟨r, h1, h2, h3⟩ := T.get hi
  have e1 : oIx (tabV sw) (.int (i : Nat)) h = some (tI r, h) := by
    show (atI (sw.map tI) _).map _ = _
    rw [at_map h1]
    rfl
  have e2 : oIx (tI r) (.int (j : Nat)) h = some (.int (at2 sw i j), h) := by
    show (atI (r.map Va.int) _).map _ = _
    rw [at_map (h3 j hj)]
    rfl
  simp only [s_op, s_var, ha, hb, hc, k_var, k_op, k_op1, e1, e2, k_o]
theorem zipF_at : ∀ (xs ys : List Va) (j : Nat), (zipF xs ys)[j]? = (xs[j]?).bind fun x => (ys[j]?).map fun y => .tup [x, y]
  | [], _, j => by simp [zipF]
  | x :: xs, [], j => by cases h : (x :: xs)[j]? <;> simp [zipF]
  | x :: xs, y :: ys, 0 => by simp [zipF]
  | x :: xs, y :: ys, j + 1 => by simp [zipF, zipF_at xs ys j]
theorem range_at {α : Type} {φ : Nat → α} {n j : Nat} (h : j < n) : ((List.range n).map φ)[j]? = some (φ j) := by simp [h]
/-- a list by its places -/
theorem by_places {α : Type} {xs : List α} {n : Nat} {φ : Nat → α} (hl : xs.length = n) (h : ∀ j, j < n → xs[j]? = some (φ j)) : xs = (List.range n).map φ := by
  apply List.ext_getElem?
  intro j
  by_cases hj : j < n
  · rw [h j hj, range_at hj]
  · rw [List.getElem?_eq_none (by omega), List.getElem?_eq_none (by simp; omega)]
theorem all_true {α : Type} (xs : List α) : (xs.map fun _ => true).all id = true := by simp
theorem c_rngN {n : Nat} {h : AH} (e : n ≤ 1000000) : srcR [.int (n : Nat)] h = some ⟨intsF 0 n, []⟩ := by
  have : srcR [.int (n : Nat)] h = some ⟨intsF 0 ((n : Nat) : Int).toNat, []⟩ := c_rng (by show -1000000000 ≤ ((n : Nat) : Int); omega) (by show ((n : Nat) : Int) ≤ 1000000000; omega)
  rw [this]
  simp
theorem o_lenM {α : Type} {φ : α → Va} {xs : List α} {h : AH} : oLen [.tup (xs.map φ)] h = some (.int (xs.length : Nat), h) := by
  rw [o_lenT, List.length_map]
section
variable {h : AH} {k : Nat} {xs : List Va} {bs : List Bool} {is : List Int}
def alK (h : AH) : Option (List Bool) → Option (Va × AH) := fun o => match o with | some bs => some (.bl (bs.all id), h) | none => none
def anK (h : AH) : Option (List Bool) → Option (Va × AH) := fun o => match o with | some bs => some (.bl (bs.any id), h) | none => none
def suK (h : AH) : Option (List Int) → Option (Va × AH) := fun o => match o with | some bs => some (.int bs.sum, h) | none => none
def bdB : Option (List Va) → Option (List Bool) := fun o => o.bind allB
def bdI : Option (List Va) → Option (List Int) := fun o => o.bind allI
theorem o_all : oAll [.ref k] h = alK h (bdB (lstAt h k)) := rfl
theorem o_any : oAny [.ref k] h = anK h (bdB (lstAt h k)) := rfl
theorem o_sum : oSum2 [.ref k] h = suK h (bdI (lstAt h k)) := rfl
theorem o_sumTT : oSum2 [.tup xs] h = suK h (allI xs) := by
  show (allI xs).map _ = _
  cases allI xs <;> rfl
theorem k_bdB : bdB (some xs) = allB xs := rfl
theorem k_bdI : bdI (some xs) = allI xs := rfl
theorem k_al : alK h (some bs) = some (.bl (bs.all id), h) := rfl
theorem k_an : anK h (some bs) = some (.bl (bs.any id), h) := rfl
theorem k_su : suK h (some is) = some (.int is.sum, h) := rfl
end
theorem gc0 {v : Va} {h : AH} (hv : inR 0 v = true) : gcF 0 (.ok v h) = .ok v [] := by simp [gcF, hv]
section
variable {ev : Ev} {h : AH} {gf : GF} {f : EF} {tf : TF} {sf : SF} {x : Va} {xs : List Va}
theorem s_lpN0 : loopF [] gf sf [] ev h = .nx ev h := s_lpN rfl
theorem s_lpC0 : loopF [] gf sf (x :: xs) ev h = lpK [] gf sf xs h (gf x ev) := s_lpC rfl
theorem s_cpN0 : compF [] gf tf f ev [] h = .ok [] h := s_cpN rfl
theorem s_cpC0 : compF [] gf tf f ev (x :: xs) h = cpK [] gf tf f ev xs h (gf x ev) := s_cpC rfl
end
theorem c_r0 {h : AH} : srcR [.int 0] h = some ⟨[], []⟩ := rfl
theorem c_r1 {h : AH} : srcR [.int 1] h = some ⟨[.int 0], []⟩ := rfl
theorem c_r2 {h : AH} : srcR [.int 2] h = some ⟨[.int 0, .int 1], []⟩ := rfl
theorem c_r3 {h : AH} : srcR [.int 3] h = some ⟨[.int 0, .int 1, .int 2], []⟩ := rfl
theorem c_r4 {h : AH} : srcR [.int 4] h = some ⟨[.int 0, .int 1, .int 2, .int 3], []⟩ := rfl
theorem c_r5 {h : AH} : srcR [.int 5] h = some ⟨[.int 0, .int 1, .int 2, .int 3, .int 4], []⟩ := rfl
theorem c_r6 {h : AH} : srcR [.int 6] h = some ⟨[.int 0, .int 1, .int 2, .int 3, .int 4, .int 5], []⟩ := rfl
theorem c_r7 {h : AH} : srcR [.int 7] h = some ⟨[.int 0, .int 1, .int 2, .int 3, .int 4, .int 5, .int 6], []⟩ := rfl
theorem c_r8 {h : AH} : srcR [.int 8] h = some ⟨[.int 0, .int 1, .int 2, .int 3, .int 4, .int 5, .int 6, .int 7], []⟩ := rfl
theorem c_r9 {h : AH} : srcR [.int 9] h = some ⟨[.int 0, .int 1, .int 2, .int 3, .int 4, .int 5, .int 6, .int 7, .int 8], []⟩ := rfl
theorem c_r10 {h : AH} : srcR [.int 10] h = some ⟨[.int 0, .int 1, .int 2, .int 3, .int 4, .int 5, .int 6, .int 7, .int 8, .int 9], []⟩ := rfl
theorem c_r11 {h : AH} : srcR [.int 11] h = some ⟨[.int 0, .int 1, .int 2, .int 3, .int 4, .int 5, .int 6, .int 7, .int 8, .int 9, .int 10], []⟩ := rfl
theorem c_r12 {h : AH} : srcR [.int 12] h = some ⟨[.int 0, .int 1, .int 2, .int 3, .int 4, .int 5, .int 6, .int 7, .int 8, .int 9, .int 10, .int 11], []⟩ := rfl
/-! ### texts -/
def OkD (e B : Nat) (d : PyData) : Prop := d.showable = true ∧ d.canLay0 = true ∧ d.depth ≤ e ∧ lenB d ≤ B
def pyO : Option Int → PyData
  | some i => .int i
  | none => .none
def pySys (sw : List (List Int)) (rq : List (List (Option Int))) (st : Int) : PyData := .tuple [.tuple (sw.map fun r => .tuple (r.map .int)), .tuple (rq.map fun r => .tuple (r.map pyO)), .int st]
theorem inR_mono {n : Nat} : ∀ {v : Va}, inR 0 v = true → inR n v = true := by
  have key : ∀ k : Nat, ∀ v : Va, sizeOf v ≤ k → inR 0 v = true → inR n v = true := by
    intro k
    induction k with
    | zero => intro v hv; cases v <;> simp at hv
    | succ k ih =>
      intro v hv h
      have lst : ∀ xs : List Va, sizeOf xs ≤ k → inRs 0 xs = true → inRs n xs = true := by
        intro xs
        induction xs with
        | nil => intros; rfl
        | cons x xs ih2 =>
          intro hs hx
          simp only [inRs, Bool.and_eq_true] at hx ⊢
          simp at hs
          exact ⟨ih x (by omega) hx.1, ih2 (by omega) hx.2⟩
      cases v with
      | ref l => simp [inR] at h
      | tup xs => simp at hv; simp only [inR] at h ⊢; exact lst xs (by omega) h
      | tud xs => simp at hv; simp only [inR] at h ⊢; exact lst xs (by omega) h
      | rol xs => simp at hv; simp only [inR] at h ⊢; exact lst xs (by omega) h
      | exn a d f x => simp at hv; simp only [inR] at h ⊢; exact ih x (by omega) h
      | _ => rfl
  exact fun {v} h => key _ v (Nat.le_refl _) h
theorem inRs_mono {n : Nat} : ∀ {xs : List Va}, inRs 0 xs = true → inRs n xs = true
  | [], _ => rfl
  | x :: xs, h => by
    simp only [inRs, Bool.and_eq_true] at h ⊢
    exact ⟨inR_mono h.1, inRs_mono h.2⟩
theorem gc1 {v : Va} {ys : List Va} {r : AH} (hv : inR 0 v = true) (hy : inRs 0 ys = true) : gcF 1 (.ok v (.lst ys :: r)) = .ok v [.lst ys] := by
  simp [gcF, inR_mono hv, inRO, inRs_mono hy]
end FL

set_option Elab.async false
set_option linter.all false
set_option maxRecDepth 100000
/-! FLR: a sequence backwards. -/
namespace FL
open PySem PySem.Spec PyProof PyProof.Rows L2
variable [Tabz]
section
variable {prog : Program} {w : World} {A : Around} {E : Value → Shared → Prop} {s : Shared}
theorem sliceApplied_rev {sl : Addr} {vl vu vs : Value} {n : Nat} {Q : Int × Int × Nat → Shared → Prop} (hs : s.heap.IsSliceOf sl vl vu vs) (pl : IsPart vl none) (pu : IsPart vu none) (ps : IsPart vs (some (-1)))
    (h : Q ((n : Int) - 1, -1, n) s) : wpAny (model prog w) A (Builtin.Slice.sliceApplied (.ref sl) (pure (n : Int))) Q E s := by
  obtain ⟨os, hos, hcs, hds⟩ := id hs
  unfold Builtin.Slice.sliceApplied Builtin.Slice.sliceFields
  refine wpAny_bind (wpAny_bind (wpAny_field hos hds (x := vl) rfl (wpAny_bind (wpAny_field hos hds (x := vu) rfl (wpAny_bind (wpAny_field hos hds (x := vs) rfl (wpAny_pure ?_)))))))
  refine wpAny_bind (HT.slicePart_ ps ?_)
  show wpAny _ _ (if ((-1 : Int) == 0) = true then _ else _) _ _ s
  rw [if_neg (by decide)]
  refine wpAny_bind (HT.slicePart_ pl (wpAny_bind (HT.slicePart_ pu (wpAny_bind (wpAny_pure ?_)))))
  show wpAny _ _ (match Builtin.Slice.sliceAdjust none none (-1) (n : Int) with | (lo, hi) => pure (lo, (-1 : Int), Builtin.Slice.slicePlaces lo hi (-1))) _ _ s
  rw [show Builtin.Slice.sliceAdjust none none (-1) (n : Int) = ((n : Int) - 1, -1) from rfl]
  show wpAny _ _ (pure ((n : Int) - 1, (-1 : Int), Builtin.Slice.slicePlaces ((n : Int) - 1) (-1) (-1))) _ _ s
  rw [show Builtin.Slice.slicePlaces ((n : Int) - 1) (-1) (-1) = n by
    unfold Builtin.Slice.slicePlaces
    have h1 : ¬ ((-1 : Int) > 0) := by omega
    simp only [h1, if_false]
    split <;> simp <;> omega]
  exact wpAny_pure h
theorem pick_rev (xs : Array Value) : ((List.range xs.size).filterMap fun (m : Nat) => xs[(((xs.size : Int) - 1) + (m : Int) * (-1)).toNat]?).toArray = xs.toList.reverse.toArray := by
  have e : (fun (m : Nat) => xs[(((xs.size : Int) - 1) + (m : Int) * (-1)).toNat]?) = (fun x => xs[x]?) ∘ fun m => xs.size - 1 - m := by
    funext m
    have : (((xs.size : Int) - 1) + (m : Int) * (-1)).toNat = xs.size - 1 - m := by omega
    rw [this]
    rfl
  rw [e, ← List.filterMap_map, PySem.W.krv_range, List.filterMap_reverse, PySem.W.krv_all]
theorem getItem_tuple_rev {t sl : Addr} {items : Array Value} {vl vu vs : Value} {Q : Value → Shared → Prop} (ht : IsTup s.heap t items) (hs : s.heap.IsSliceOf sl vl vu vs) (pl : IsPart vl none) (pu : IsPart vu none) (ps : IsPart vs (some (-1)))
    (h : Q (.ref s.heap.objs.size) { s with heap := s.heap.push { cls := .type "tuple", data := .seq items.toList.reverse.toArray } })
    (hsz : items.size ≤ sizeLine) : wpAny (model prog w) A (getItem (.ref t) (.ref sl)) Q E s := by
  have htake : sizeOk (.seq items.toList.reverse.toArray) := by
    show items.toList.reverse.toArray.size ≤ sizeLine
    rw [List.size_toArray, List.length_reverse, Array.length_toList]
    exact hsz
  obtain ⟨os, hos, hcs, hds⟩ := id hs
  have hTs : s.TypeIs (.ref sl) "slice" := ⟨os, hos, hcs⟩
  unfold getItem
  try with_reducible refine wpAny_holding ?_
  first | refine wpAny_bind (wpAny_pure ?_) | skip
  refine wpAny_bind (wpAny_sequenceKey ht.typeIs (by decide) ?_)
  refine wpAny_bind (wpAny_callSpecial?_slot (name := Str.ofString "__getitem__") ht.typeIs PyProof.Rows.slot_tuple_getitem
    (wpAny_call_entry PyProof.Rows.slot_tuple_getitem ht.typeIs entry_tuple_getitem ?_ (args_tuple_getitem _ _)))
  show wpAny _ _ (Builtin.Tuple.tupleItemsOf (.ref t) >>= _) _ _ s
  refine wpAny_bind (tupleItemsOf_ ht ?_)
  refine wpAny_bind (wpAny_typeOf hTs ?_)
  rw [if_pos (by decide)]
  refine wpAny_bind (sliceApplied_rev (n := items.size) hs pl pu ps ?_)
  have hno : ¬ ((((items.size : Int) - 1) == 0 && (-1 : Int) == 1 && items.size == items.size) = true) := by
    intro q
    rw [Bool.and_eq_true, Bool.and_eq_true] at q
    have := eq_of_beq q.1.2
    omega
  show wpAny _ _ (if (((items.size : Int) - 1) == 0 && (-1 : Int) == 1 && items.size == items.size) = true then _ else _) _ _ s
  rw [if_neg hno, pick_rev]
  first
    | exact wpAny_bind (m := Builtin.Tuple.tupleExact _) (wpAny_newObj_type (wpAny_pure ⟨_, rfl, wpAny_pure h⟩) htake)
    | exact wpAny_bind (m := Builtin.Tuple.tupleExact _) (wpAny_newObj_type (wpAny_bind (wpAny_pure (wpAny_pure ⟨_, rfl, wpAny_pure h⟩))) htake)
    | exact wpAny_bind (wpAny_bind (m := Builtin.Tuple.tupleExact _) (wpAny_newObj_type (wpAny_pure (wpAny_pure ⟨_, rfl, wpAny_pure h⟩)) htake))
    | exact wpAny_bind (wpAny_bind (m := Builtin.Tuple.tupleExact _) (wpAny_newObj_type (wpAny_pure ⟨_, rfl, wpAny_pure h⟩) htake))
end

theorem VRs.rev {K : PySem.W.Frag} {H : Hp} {m : List Addr} : ∀ {xs : List Va} {vs : List V}, VRs K H m xs vs → VRs K H m xs.reverse vs.reverse
  | _, _, .nil => .nil
  | _, _, .cons h hs => by
    rw [List.reverse_cons, List.reverse_cons]
    exact hs.rev.append (.cons h .nil)
/-- a sequence backwards -/
def oRev (p : Va) (h : AH) : Option (Va × AH) := match p with
  | .tup xs => some (.tup xs.reverse, h)
  | p => match lstOf h p with
    | some xs => some (.ref h.length, h ++ [.lst xs.reverse])
    | none => none
def rRev (K : PySem.W.Frag) : V → Hp → VK → Prop := fun x H Q => (∃ a xs, x = .ref a ∧ SqL K H a xs ∧ ∀ p, H p = none → Q (.ref p) (upd H p (.lst xs.reverse))) ∨ (∃ a xs, x = .ref a ∧ SqT K H a xs ∧ ∀ p, H p = none → Q (.ref p) (upd H p (.tup xs.reverse)))
section
variable {X : Cx} {W : WX} {a : Expr} {f : EF} {pos : Pos}
theorem pe_rev {e : Expr} {te : TE} {k : Nat} {p1 p2 p3 pos : Pos} (he : PE X e te) : PE X (.Subscript e (.Slice none none (some (.UnaryOp .USub (.Constant (.int 1) k p1) p2)) p3) pos) (fun σ H Q => te σ H fun x H1 => rRev X.K x H1 Q) := by
  refine ⟨fun pins s σ H Q I h => ?_⟩
  refine Subscript_ (thn (he.run pins s σ H _ I h) fun v s1 ⟨x, H1, I1, r1, q1⟩ => ?_)
  have hst : PO X (some (.UnaryOp .USub (.Constant (.int 1) k p1) p2)) (tPart (tUn (rU fun i => .int (-i)) (tC (.int 1)))) := po_some (pe_un un_neg pe_int)
  refine wpAny_Slice (thn (po_none.run pins s1 σ H1 (fun o H2 => o = none ∧ H2 = H1) I1 ⟨rfl, rfl⟩) fun vl s2 ⟨l, H2, I2, pl, el, e2⟩ => ?_)
  subst el e2
  refine thn (po_none.run pins s2 σ H2 (fun o H3 => o = none ∧ H3 = H2) I2 ⟨rfl, rfl⟩) fun vu s3 ⟨u, H3, I3, pu, eu, e3⟩ => ?_
  subst eu e3
  refine thn (hst.run pins s3 σ H3 (fun o H4 => o = some (-1) ∧ H4 = H3) I3 ⟨1, rfl, -1, rfl, rfl, rfl⟩) fun vs s4 ⟨o, H4, I4, ps, eo, e4⟩ => ?_
  subst eo e4
  have I5 : Inv X pins σ H4 { s4 with heap := s4.heap.push { cls := .type "slice", data := .fields #[vl, vu, vs] } } := I4.kept (t' := s4.toks) fun b ob q => Heap.get?_push_of_some _ q
  rcases q1 with ⟨a, xs, ex, hx, q⟩ | ⟨a, xs, ex, hx, q⟩
  · subst ex
    cases r1
    obtain ⟨its, r, ht, hz⟩ := I5.list hx
    have hlen := r.length
    show wpAny (model X.prog X.w) X.A (subscriptTail e (.Slice none none (some (.UnaryOp .USub (.Constant (.int 1) k p1) p2)) p3) (.ref a) (.ref s4.heap.objs.size)) (EP X pins σ Q) X.xe { s4 with heap := s4.heap.push { cls := .type "slice", data := .fields #[vl, vu, vs] } }
    refine tail_any (ops := [.ref a, .ref s4.heap.objs.size]) ht.isList.typeIs (PySem.slot_list_getitem.lookup) ?_ (by with_unfolding_all rfl)
    refine wpAny_getItem_list_slice ht.isList (Heap.IsSliceOf.new _ vl vu vs) pl pu ps (by decide) ?_ (by rw [List.size_toArray]; omega)
    rw [PySem.W.krv_pick]
    refine ⟨.ref _, _, I5.laid (t' := s4.toks) (o := .lst xs.reverse) (fun b ob q => Heap.get?_push_of_some _ q) (Nat.le_refl _) ?_, rfl, q _ (I5.hok.fresh (Nat.le_refl _))⟩
    exact ⟨by rw [List.length_reverse]; exact hz, _, 0, r.reverse, Heap.get?_push_size _ rfl⟩
  · subst ex
    cases r1
    obtain ⟨its, r, ht, hz⟩ := I5.tuple hx
    have hlen := r.length
    show wpAny (model X.prog X.w) X.A (subscriptTail e (.Slice none none (some (.UnaryOp .USub (.Constant (.int 1) k p1) p2)) p3) (.ref a) (.ref s4.heap.objs.size)) (EP X pins σ Q) X.xe { s4 with heap := s4.heap.push { cls := .type "slice", data := .fields #[vl, vu, vs] } }
    refine tail_any (ops := [.ref a, .ref s4.heap.objs.size]) ht.typeIs (PyProof.Rows.slot_tuple_getitem.lookup) ?_ (by with_unfolding_all rfl)
    refine getItem_tuple_rev ht (Heap.IsSliceOf.new _ vl vu vs) pl pu ps ?_ (by rw [List.size_toArray]; omega)
    refine ⟨.ref _, _, I5.laid (t' := s4.toks) (o := .tup xs.reverse) (fun b ob q => Heap.get?_push_of_some _ q) (Nat.le_refl _) ?_, rfl, q _ (I5.hok.fresh (Nat.le_refl _))⟩
    exact ⟨by rw [List.length_reverse]; exact hz, _, r.reverse, IsTup.new _ _⟩
def eRev (f : EF) : EF := fun ev h => (f ev h).bind fun v h1 => ofO (oRev v h1)
theorem me_rev {k : Nat} {p1 p2 p3 : Pos} (ha : ME X W a f) : ME X W (.Subscript a (.Slice none none (some (.UnaryOp .USub (.Constant (.int 1) k p1) p2)) p3) pos) (eRev f) := ⟨pe_imp (pe_rev ha.pe) fun σ H Q q => by
  obtain ⟨m, ah, ev, r, re, q⟩ := Wi.bind (R := VR X.K) q
  refine ⟨m, ah, ev, r, re, ?_⟩
  cases ef : f ev ah with
  | exc c p a => rw [ef] at q; exact q
  | bad => rw [ef] at q; exact q
  | ok v a =>
    rw [ef] at q
    intro m1 H1 x e1 r1 rx
    obtain ⟨m2, ah2, ev2, v2, r2, re2, rv2, q2⟩ := q m1 H1 x e1 r1 rx
    cases eo : oRev v2 ah2 with
    | none => rw [eo] at q2; exact q2.elim
    | some w =>
      obtain ⟨w, ahw⟩ := w
      rw [eo] at q2
      unfold oRev at eo
      split at eo
      · cases eo
        cases rv2 with
        | @tup _ a vs ha hv =>
          refine .inr ⟨a, vs, rfl, ha, fun p hp => ?_⟩
          have e1 : Ext m2 H1 m2 (upd H1 p (.tup vs.reverse)) := ext_new r2 hp
          exact q2 m2 _ _ e1 (hr_new r2 hp) (.tup (SqT.of upd_same) (hv.rev.ext r2 e1))
      · cases hq : lstOf ah2 v2 with
        | none => rw [hq] at eo; cases eo
        | some xs =>
          rw [hq] at eo
          cases eo
          obtain ⟨a, vs, rfl, hv, hsq⟩ := lstOf_ok r2 rv2 hq
          refine .inl ⟨a, vs, rfl, hsq, fun p hp => q2 (m2 ++ [p]) _ _ (ext_lay r2 hp) (hr_lay r2 hp hv.rev) (.ref ?_)⟩
          rw [← r2.len]; simp⟩
end
/-! evaluation -/
section
variable {f : EF} {ev : Ev} {h : AH} {v : Va} {xs : List Va} {P : Va → AH → Prop} {r : Rs Va}
def revK (r : Rs Va) : Rs Va := r.bind fun v h1 => ofO (oRev v h1)
theorem s_rev : eRev f ev h = revK (f ev h) := rfl
theorem k_rev : revK (.ok v h) = ofO (oRev v h) := rfl
theorem o_revT : oRev (.tup xs) h = some (.tup xs.reverse, h) := rfl
end
end FL

set_option Elab.async false
set_option linter.all false
set_option maxRecDepth 100000
/-! FLU: the empty dict display. -/
namespace FL
open PySem PySem.Spec PyProof.Rows L2
variable [Tabz]
section
variable {K : PySem.W.Frag} {H : Hp} {m : List Addr} {ah : AH}
theorem hr_layD {p : Addr} (r : HR K H m ah) (hp : H p = none) : HR K (upd H p (.dK [])) (m ++ [p]) (ah ++ [.dct []]) := by
  have e : Ext m H (m ++ [p]) (upd H p (.dK [])) := ext_lay r hp
  refine ⟨by simp [r.len], ?_, fun l a o h1 h2 => ?_, tabs_new r.tb hp⟩
  · rw [List.nodup_append]
    refine ⟨r.nd, by simp, fun a ha b hb z => ?_⟩
    rw [List.mem_singleton.mp hb] at z
    exact r.notnone hp (z ▸ ha)
  · by_cases hl : l < m.length
    · rw [List.getElem?_append_left hl] at h1
      rw [List.getElem?_append_left (by rw [← r.len]; exact hl)] at h2
      exact (r.at_ l a o h1 h2).ext r e (upd_ne fun z => r.notnone hp (z ▸ List.mem_of_getElem? h1))
    · have hb := (List.getElem?_eq_some_iff.mp h1).1
      have hl2 : l = m.length := by simp at hb; omega
      subst hl2
      rw [List.getElem?_append_right (Nat.le_refl _)] at h1
      rw [List.getElem?_append_right (by rw [← r.len]; exact Nat.le_refl _), ← r.len] at h2
      simp at h1 h2
      subst h1 h2
      exact ⟨[], upd_same, .nil⟩
end
def eD0 : EF := fun _ h => .ok (.ref h.length) (h ++ [.dct []])
section
variable {X : Cx} {W : WX} {pos : Pos}
theorem me_d0 : ME X W (.Dict [] [] pos) eD0 := ⟨pe_imp pe_dnewK fun σ H Q ⟨m, ah, ev, r, re, q⟩ => by
  intro p hp
  refine q (m ++ [p]) _ _ (ext_lay r hp) (hr_layD r hp) (.ref ?_)
  rw [← r.len]; simp⟩
end
section
variable {ev : Ev} {h : AH}
theorem s_d0 : eD0 ev h = .ok (.ref h.length) (h ++ [.dct []]) := rfl
end
end FL

set_option Elab.async false
set_option linter.all false
set_option maxRecDepth 100000
/-! FLV: range(i, j, -1); min of a list of data (tuples). -/
namespace FL
open PySem PySem.Spec PyProof.Rows L2
variable [Tabz]
/-! ### range(i, j, -1) -/
def downF (i : Int) (n : Nat) : List Va := (List.range n).map fun k : Nat => Va.int (i + (k : Nat) * (-1))
def srcR3 : List Va → AH → Option Src := fun vs _ => match vs with
  | [.int i, .int j, .int c] => if decide (c = -1) && decide (-rngL ≤ i) && decide (i ≤ rngL) && decide (-rngL ≤ j) && decide (j ≤ rngL) then some ⟨downF i (i - j).toNat, []⟩ else none
  | _ => none
section
variable {X : Cx} {W : WX} {tg e e2 e3 : Expr} {ta : AF} {p pos : Pos}
end
/-! ### min of a list of data -/
section
open PySem.W
def isNoneP : PyData → Bool
  | .none => true
  | _ => false
def alikeB (ds : List PyData) : Bool := (ds.all fun x => ds.all fun y => alike x y) && ds.all fun x => !isNoneP x
/-- the place of the first of the least -/
def firstLe (ds : List PyData) : Nat := argBest (fun i j => dataLt (ds.getD i .none) (ds.getD j .none)) (ds.length - 1)
def oMinD : OpN := fun ps h => match ps with
  | [.ref k] => match lstAt h k with
    | some xs => (match toPysF (toPy h 11) xs with
      | some ds => if alikeB ds && SeqAt.shaped (.list ds) && decide (0 < ds.length) then (xs[firstLe ds]?).map fun v => (v, h) else none
      | none => none)
    | none => none
  | _ => none
def rMinD (K : PySem.W.Frag) : List V → Hp → VK → Prop := fun vs H Q => ∃ (a : Addr) (xs : List V) (ds : List PyData) (v : V), vs = [V.ref a] ∧ SqL K H a xs ∧ DpAll K H xs ds ∧ AlikeAll ds ∧ SeqAt.shaped (.list ds) = true ∧ 0 < ds.length ∧ xs[firstLe ds]? = some v ∧ Q v H
end
end FL

set_option Elab.async false
set_option linter.all false
set_option maxRecDepth 100000
/-! FLW: comprehensions of two clauses. -/
namespace FL
open PySem PySem.Spec PyProof.Rows L2
variable [Tabz]
def comp2F (gs : List (Nat × List Va)) (g : GF) (t : TF) (i1 : IF) (g1 : GF) (t1 : TF) (el : EF) (vs1 : List Nat) (ev0 : Ev) : List Va → AH → Rs (List Va)
  | [], h => if gsOk gs h then .ok [] h else .bad
  | x :: xs, h => if gsOk gs h then match g x ev0 with
      | none => .bad
      | some ev1 => match t ev1 h with
        | .ok true h2 => (match i1 ev1 h2 with
          | .ok s1 h3 => if s1.items.length ≤ 900 then (match compF s1.gs g1 t1 el (ewipe ev1 vs1) s1.items h3 with
              | .ok ys h4 => (comp2F gs g t i1 g1 t1 el vs1 ev0 xs h4).bind fun zs h5 => .ok (ys ++ zs) h5
              | _ => .bad) else .bad
          | _ => .bad)
        | .ok false h2 => comp2F gs g t i1 g1 t1 el vs1 ev0 xs h2
        | _ => .bad
    else .bad
def lc2F (g : GF) (t : TF) (i1 : IF) (g1 : GF) (t1 : TF) (el : EF) (vs vs1 : List Nat) (ev : Ev) : Src → AH → Rs Va := fun s h1 =>
  if s.items.length ≤ 1000 then (comp2F s.gs g t i1 g1 t1 el vs1 (ewipe ev vs) s.items h1).bind fun ys h2 => .ok (.ref h2.length) (h2 ++ [.lst ys]) else .bad
def eLc2 (i : IF) (g : GF) (t : TF) (i1 : IF) (g1 : GF) (t1 : TF) (el : EF) (vs vs1 : List Nat) : EF := fun ev h => (i ev h).bind (lc2F g t i1 g1 t1 el vs vs1 ev)
section
variable {X : Cx} {W : WX} {tg iter tg1 iter1 elt : Expr} {ifs ifs1 : List Expr} {scope : Scope} {own : List (Str × Nat)} {pos : Pos} {vs vs1 : List Nat} {fi fi1 : IF} {g g1 : GF} {t t1 : TF} {el : EF}
end
/-! evaluation -/
section
variable {ev : Ev} {h : AH} {it it1 : IF} {gf g1 : GF} {tf t1 : TF} {f : EF} {ns ns1 : List Nat} {s : Src} {r : Rs Src} {P : Va → AH → Prop}
def lc2K (g : GF) (t : TF) (i1 : IF) (g1 : GF) (t1 : TF) (el : EF) (vs vs1 : List Nat) (ev : Ev) : Rs Src → Rs Va := fun r => r.bind (lc2F g t i1 g1 t1 el vs vs1 ev)
theorem s_lc2 : eLc2 it gf tf it1 g1 t1 f ns ns1 ev h = lc2K gf tf it1 g1 t1 f ns ns1 ev (it ev h) := rfl
theorem k_lc2 (e : s.items.length ≤ 1000) : lc2K gf tf it1 g1 t1 f ns ns1 ev (.ok s h) = lc1K (comp2F s.gs gf tf it1 g1 t1 f ns1 (ewipe ev ns) s.items h) := by
  simp only [lc2K, Rs.bind_ok, lc2F, lc1K, if_pos e]
end
end FL

set_option Elab.async false
set_option linter.all false
set_option maxRecDepth 100000
/-! FLX: xs.pop(i); a, b, c = x, y, z. -/
namespace FL
open PySem PySem.Spec PyProof.Rows L2
variable [Tabz]
def oPopAt : OpM := fun v vs h => match v, vs with
  | .ref l, [.int i] => (match lstAt h l with
    | some xs => if decide (0 ≤ i) && decide (i < xs.length) && decide (i < 1000000000) then (match xs[i.toNat]? with
      | some y => some (y, h.set l (.lst (xs.eraseIdx i.toNat)))
      | none => none) else none
    | none => none)
  | _, _ => none
section
variable {X : Cx} {W : WX} {o e : Expr} {fo : EF} {ta : AF} {apos cpos : Pos}
end
section
variable {h : AH} {xs : List Va} {v : Va} {k i : Nat}
def popK (k : Nat) (i : Int) (h : AH) : Option (List Va) → Option (Va × AH) := fun o => match o with
  | some xs => if decide (0 ≤ i) && decide (i < xs.length) && decide (i < 1000000000) then (match xs[i.toNat]? with
      | some y => some (y, h.set k (.lst (xs.eraseIdx i.toNat)))
      | none => none) else none
  | none => none
end
/-- a, b, c = x, y, z (all written) -/
def par3K (i j l : Nat) (ev : Ev) : Rs (List Va) → SR := fun r => r.s ev fun vs h1 => match vs with
  | [u, v, w] => .nx (((ev.set i (some u)).set j (some v)).set l (some w)) h1
  | _ => .bad
def sPar3 (i j l : Nat) (f : AF) : SF := fun ev h => (f ev h).s ev fun vs h1 => match vs with
  | [u, v, w] => .nx (((ev.set i (some u)).set j (some v)).set l (some w)) h1
  | _ => .bad
section
variable {af : AF} {ev : Ev} {h : AH} {u v w : Va} {i j l : Nat}
end
end FL

set_option Elab.async false
set_option linter.all false
set_option maxRecDepth 100000
set_option maxHeartbeats 1000000
/-! FLY: zip of two tuples whose pairs are bound whole to a name. -/
namespace FL
open PySem PySem.Spec PyProof.Rows L2 RZ
variable [Tabz]
abbrev IsZA (h : Heap) (z TI TO : Addr) (w : Value) (f : Bool) : Prop :=
  h.get? z = some { cls := .type "zip", dict := none, data := .fields #[w, .bool f, .bool false, .ref TI, .ref TO], slots := #[] }
def OutW (w : Value) : Prop := w = .none ∨ ∃ T : Addr, w = rawInt T
section
variable {prog : Program} {wo : World} {A : Around} {E : Value → Shared → Prop} {s : Shared}
end
def iZipN (K : PySem.W.Frag) (ta : TA) : TI := fun σ H R => ta σ H fun vs H1 => ∃ a b xs ys, vs = [.ref a, .ref b] ∧ SqT K H1 a xs ∧ SqT K H1 b ys ∧ R (ItzT K a b) H1
/-- two tuples, walked together -/
def srcZT : List Va → AH → Option Src := fun ps _ => match ps with
  | [.tup xs, .tup ys] => some ⟨zipF xs ys, []⟩
  | _ => none
end FL

set_option Elab.async false
set_option linter.all false
set_option maxRecDepth 100000
set_option maxHeartbeats 2000000
/-! FLEN: an own class over a built-in error that inherits its __new__ (KeyError): the hand layer's way to the object, with the facts of the one that has the __new__. -/
namespace PySem
namespace FLX
open PySem.W PySem.Calls PyProof.Rows PySem.HandSPX Builtin
/-- B has the __new__; bm, the bases of the class told of -/
structure NewOf (B newId initId : String) (bmB bm : List Value) : Prop where
  F : ExcBaseFacts B newId initId bmB
  hB : bm.contains (.type B) = true
  hA : bm.contains (.type "AttributeError") = false
  hN : bm.contains (.type "NameError") = false
section
variable {M : Model} {A : Around} {E : Value → Shared → Prop} {h : Heap} {g : Array GenState} {d : Drawn} {t : Nat} {os : OsState}
variable {nm q : Str} {C N : Addr} {bs bm bmB : List Value} {hdct : Bool} {sn : List Str} {sub : List Value} {ab : Bool} {col : Option Bool} {dd : Option Addr} {k0 k1 k2 k3 k5 : Option Value} {B newId initId : String}
end
section
variable {prog : Program} {w : World} {A : Around} {E : Value → Shared → Prop} {R : Result → Shared → Prop} {h : Heap} {g : Array GenState} {d : Drawn} {t : Nat} {os : OsState}
variable {nm q : Str} {C N : Addr} {bs bm bmB : List Value} {hdct : Bool} {sn : List Str} {sub : List Value} {ab : Bool} {col : Option Bool} {dd : Option Addr} {k0 k1 k2 k3 k5 : Option Value} {B newId initId : String}
end
end FLX
end PySem
namespace FL
open PySem PySem.F PySem.W PySem.Calls
end FL

set_option Elab.async false
set_option linter.all false
set_option maxRecDepth 100000
set_option maxHeartbeats 2000000
/-! FLE: exceptions: own classes that store a field, raise, try. -/
namespace PySem
namespace FLX
open PySem.W PySem.Calls PyProof.Rows PySem.HandSPX Builtin Builtin.ObjectAttr L2
section
variable {prog : Program} {w : World} {A : Around} {E : Value → Shared → Prop} {R : Result → Shared → Prop} {hp : Heap} {g : Array GenState} {d : Drawn} {t : Nat} {os : OsState}
end
/-- what __init__ leaves of a fresh exception at x -/
structure InitEnd (f : Str) (h h' : Heap) (x C dx t1 : Addr) (v : Value) : Prop where
  keep : ∀ b o, b ≠ x → h.get? b = some o → h'.get? b = some o
  obj : h'.get? x = some { cls := .ref C, dict := some dx, data := .fields #[.ref t1, .none, .none, .none, .bool false, .none] }
  dbig : h.objs.size ≤ dx
  dne : dx ≠ x
  ns : h'.Ns1 dx (fun y => if y = f then some v else none)
/-- a made one -/
structure OwnMade (f : Str) (h h' : Heap) (e C d : Addr) (v : Value) : Prop where
  keep : ∀ b o, h.get? b = some o → h'.get? b = some o
  new : h.objs.size ≤ e
  obj : ∃ oe vs, h'.get? e = some oe ∧ oe.cls = .ref C ∧ oe.dict = some d ∧ oe.data = .fields vs ∧ vs[1]? = some .none
  dbig : h.objs.size ≤ d
  dne : d ≠ e
  ns : h'.Ns1 d (fun y => if y = f then some v else none)
/-- what the written part says of the class x at C, straight over a built-in, whose __init__ at fI stores f -/
structure OwnTxt (x f : Str) (bm : List Value) (newId : String) (K : Frag) (mg : Str → Option Value) (C fI : Addr) : Prop where
  gC : mg x = some (.ref C)
  cls : ∃ nm q N bs sn sub ab col dd k0 k1 k2 k3 k5, K.lookup C = some (excClassObj nm q C N bs bm true sn sub ab col dd k0 k1 k2 k3 k5 newId)
  sa : findIn K (.ref C) "__setattr__" = some (some (.builtin "object.__setattr__"))
  ga : findIn K (.ref C) "__getattribute__" = some (some (.builtin "BaseException.__getattribute__"))
  gg : findIn K (.ref C) "__getattr__" = some none
  noN : findIn K (.ref C) f = some none
  iC : findIn K (.ref C) "__init__" = some (some (.ref fI))
  tC : typeIn K (.ref fI) = some (.type "function")
  kC : keepIn K (.ref C) = true
  exC : subIn K (.ref C) (.type "BaseException") = some true
  tyC : typeIn K (.ref C) = some (.type "type")
  hdC : hasDictIn K C = true
  te : exmOne K (.ref C) (.ref C) = some true
def clsB (K : Frag) (C : Addr) (bm : List Value) (newId : String) : Bool := match K.lookup C with
  | some ⟨.type "type", _, .cls cd, sl⟩ => (match cd.mro, sl.toList with
    | .ref C' :: b, [_, _, _, _, some (.builtin n), _] => C' == C && n == newId && !cd.hasDel && cd.hasDict && b == bm
    | _, _ => false)
  | _ => false
def ownB (x f : Str) (bm : List Value) (newId : String) (K : Frag) : Bool :=
  He.eqO (nsIn K mainGlobals x) (some (some (.ref (He.ga K x)))) && (clsB K (He.ga K x) bm newId && (He.eqO (findIn K (.ref (He.ga K x)) "__setattr__") (some (some (.builtin "object.__setattr__"))) && (He.eqO (findIn K (.ref (He.ga K x)) "__getattribute__") (some (some (.builtin "BaseException.__getattribute__"))) &&
  (He.eqO (findIn K (.ref (He.ga K x)) "__getattr__") (some none) && (He.eqO (findIn K (.ref (He.ga K x)) f) (some none) && (He.eqO (findIn K (.ref (He.ga K x)) "__init__") (some (some (.ref (He.ma K (He.ga K x) "__init__")))) && (decide (typeIn K (.ref (He.ma K (He.ga K x) "__init__")) = some (.type "function")) &&
  (keepIn K (.ref (He.ga K x)) && (decide (subIn K (.ref (He.ga K x)) (.type "BaseException") = some true) && (decide (typeIn K (.ref (He.ga K x)) = some (.type "type")) && (hasDictIn K (He.ga K x) && decide (exmOne K (.ref (He.ga K x)) (.ref (He.ga K x)) = some true))))))))))))
/-- its __init__ does what it should -/
def Inits (f : Str) (K : Frag) (C fI : Addr) : Prop := ∀ (prog : Program) (w : World) (A : Around) (R : Result → Shared → Prop) (s : Shared) (x t0 : Addr) (v : Value), K.In s.heap → s.heap.NoLimit → s.heap.get? x = some (excO C t0) → K.lookup x = none → A.depth < recursionLimit →
  (∀ h' tk dx, InitEnd f s.heap h' x C dx t0 v → R (.ok (.ret .none)) { s with heap := h', toks := tk }) → codeAny (model prog w) A (.call (.ref fI) ⟨[.ref x, v], []⟩) R s
section
variable {prog : Program} {w : World} {A : Around} {E : Value → Shared → Prop} {R : Result → Shared → Prop} {s : Shared} {K : Frag} {mg : Str → Option Value} {C fI : Addr} {x f : Str} {bm bmB : List Value} {B newId initId : String}
end
end FLX
end PySem
namespace FL
open PySem PySem.Spec PyProof.Rows L2
variable [Tabz]
section
variable {X : Cx} {C fI : Addr} {x f : Str} {bm bmB : List Value} {B newId initId : String}
def tMkX (f : Str) (C : Addr) (ta : TA) : L2.St → Hp → XK → Prop := fun σ H Q => ta σ H fun vs H1 => ∃ v, vs = [v] ∧ ∀ d, H1 d = none → Q (.ref C) (some d) (upd H1 d (.xd [(f, v)]))
/-- raise C(e), the field f stored -/
def sRaise1 (x f : Str) (af : AF) : SF := fun ev h => (af ev h).s ev fun vs h1 => match vs with
  | [v] => .exc x [(f, v)] ev h1
  | _ => .bad
variable {W : WX}
/-- try: body, except C as n: return n.f (any other exception: not covered) -/
def xfK (f : Str) (h : AH) : List (Str × Va) → SR
  | [(y, v)] => if y = f then .rt v h else .bad
  | _ => .bad
def tryK (i : Nat) (x f : Str) : SR → SR
  | .exc c p ev h => if c = x ∧ i < ev.length then xfK f h p else .bad
  | r => r
def sTry1 (i : Nat) (x f : Str) (b : SF) : SF := fun ev h => tryK i x f (b ev h)
end
end FL

set_option Elab.async false
set_option linter.all false
set_option maxRecDepth 100000
set_option maxHeartbeats 2000000
/-! FLI: xs.index(x) of lists of data; try whose handler gives [text, e.field]. -/
namespace FL
open PySem PySem.Spec PyProof.Rows L2
variable [Tabz]
def oIndex : OpM := fun v vs h => match v, vs with
  | .ref l, [y] => (match toPy h depthL (.ref l), toPy h depthL y with
    | some (.list ds), some d => if SeqAt.shaped (.list ds) && SeqAt.shaped d then (match ds.findIdx? (fun z => PyData.eqv z d) with
        | some j => some (.int (j : Nat), h)
        | none => none) else none
    | _, _ => none)
  | _, _ => none
section
variable {X : Cx} {W : WX} {o e : Expr} {fo : EF} {ta : AF} {apos cpos : Pos}
end
section
variable {X : Cx} {W : WX} {C fI : Addr} {x f : Str} {bm : List Value} {newId : String}
/-- try: body, except C as n: return [c, n.f] -/
def xfL (f c : Str) (h : AH) : List (Str × Va) → SR
  | [(y, v)] => if y = f then .rt (.ref h.length) (h ++ [.lst [.str c, v]]) else .bad
  | _ => .bad
def tryL (i : Nat) (x f c : Str) : SR → SR
  | .exc cl p ev h => if cl = x ∧ i < ev.length then xfL f c h p else .bad
  | r => r
def sTryL (i : Nat) (x f c : Str) (b : SF) : SF := fun ev h => tryL i x f c (b ev h)
end
section
variable {h : AH} {ev : Ev} {f c x cl : Str} {v w : Va} {i : Nat} {b : SF}
end
end FL

set_option Elab.async false
set_option linter.all false
set_option maxRecDepth 100000
set_option maxHeartbeats 2000000
/-! FLJ: dicts with keys that are ints: {k: v}, d[k] = v, min(d.values()), [.. for k, v in d.items()]. -/
namespace FL
open PySem PySem.Spec PyProof.Rows L2
variable [Tabz]
section
variable {K : PySem.W.Frag} {H H' : Hp} {m m' : List Addr} {ah : AH}
theorem HR.dct {l : Nat} {a : Addr} {kvs : List (Va × Va)} (r : HR K H m ah) (h : m[l]? = some a) (e : ah[l]? = some (.dct kvs)) : ∃ ps, H a = some (.dK ps) ∧ VRp K H m kvs (kvV ps) := r.at_ l a _ h e
end
def isI (i : Int) : Va → Bool
  | .int j => decide (j = i)
  | _ => false
def putA (kvs : List (Va × Va)) (i : Int) (v : Va) : List (Va × Va) :=
  if kvs.any fun p => isI i p.1 then kvs.map fun p => if isI i p.1 then (p.1, v) else p else kvs ++ [(.int i, v)]
section
variable {K : PySem.W.Frag} {H : Hp} {m : List Addr}
theorem VRp.length : ∀ {kvs : List (Va × Va)} {ps : List (V × V)}, VRp K H m kvs ps → kvs.length = ps.length
  | _, _, .nil => rfl
  | _, _, .cons _ _ h => by rw [List.length_cons, List.length_cons, VRp.length h]
end
/-! ### {k: v} -/
def eD1 (fk fv : EF) : EF := fun ev h => (fk ev (h ++ [.dct []])).bind fun k h1 => (fv ev h1).bind fun v h2 => match k, h2[h.length]? with
  | .int i, some (.dct []) => .ok (.ref h.length) (h2.set h.length (.dct [(.int i, v)]))
  | _, _ => .bad
section
variable {X : Cx} {W : WX} {k v : Expr} {fk fv : EF} {pos : Pos}
end
/-! ### d[k] = v -/
def putAt (o i v : Va) (h : AH) : Option AH := match o, i with
  | .ref l, .int k => match h[l]? with
    | some (.dct kvs) => if kvs.length < lim then some (h.set l (.dct (putA kvs k v))) else none
    | _ => none
  | _, _ => none
def sPutD (fo fi f : EF) : SF := fun ev h => (f ev h).s ev fun v h1 => (fo ev h1).s ev fun o h2 => (fi ev h2).s ev fun i h3 => match putAt o i v h3 with | some h4 => .nx ev h4 | none => .bad
section
variable {X : Cx} {W : WX} {o i e : Expr} {fo fi fe : EF} {p1 pos : Pos}
end
/-! ### min(d.values()) -/
def minVals (p : Va) (h : AH) : Option (Va × AH) := match p with
  | .ref l => match h[l]? with
    | some (.dct kvs) => match allI (kvs.map (·.2)) with
      | some (b :: bs) => some (.int (bs.foldl min b), h)
      | _ => none
    | _ => none
  | _ => none
def eMinV (f : EF) : EF := fun ev h => (f ev h).bind fun v h1 => ofO (minVals v h1)
section
variable {K : PySem.W.Frag} {H : Hp} {m : List Addr}
theorem VRp.vals : ∀ {kvs : List (Va × Va)} {ps : List (V × V)}, VRp K H m kvs ps → VRs K H m (kvs.map (·.2)) (ps.map (·.2))
  | _, _, .nil => .nil
  | _, _, .cons _ g h => .cons g (VRp.vals h)
end
section
variable {X : Cx} {W : WX} {o : Expr} {fo : EF} {p pos apos mpos : Pos}
end
/-! ### what stays known while a dict is locked -/
def KeepT (H H' : Hp) : Prop := ∀ b o, H b = some o → (∀ vs, o ≠ .lst vs) → (∀ kv, o ≠ .dK kv) → (∀ od kv, o ≠ .frz od (.dK kv)) → (∀ ps, o ≠ .tbl ps) → (∀ φ, o ≠ .ext φ) → (∀ C dx fs, o ≠ .ins C dx fs) → H' b = some o
section
variable {K : PySem.W.Frag} {H H' : Hp} {m m' : List Addr}
theorem sqT_t (e : KeepT H H') {a : Addr} {vs : List V} (h : SqT K H a vs) : SqT K H' a vs := by
  rcases h with (h | ⟨o, h⟩) | h
  · exact .inl (.inl (e _ _ h (fun _ z => nomatch z) (fun _ z => nomatch z) (fun _ _ z => nomatch z) (fun _ z => nomatch z) (fun _ z => nomatch z) (fun _ _ _ z => nomatch z)))
  · exact .inl (.inr ⟨o, e _ _ h (fun _ z => nomatch z) (fun _ z => nomatch z) (fun _ _ z => nomatch z) (fun _ z => nomatch z) (fun _ z => nomatch z) (fun _ _ _ z => nomatch z)⟩)
  · exact .inr h
theorem fz_t (e : KeepT H H') {a : Addr} {vs : List V} (h : Fz K H a vs) : Fz K H' a vs := by
  rcases h with ⟨o, h⟩ | h
  · exact .inl ⟨o, e _ _ h (fun _ z => nomatch z) (fun _ z => nomatch z) (fun _ _ z => nomatch z) (fun _ z => nomatch z) (fun _ z => nomatch z) (fun _ _ _ z => nomatch z)⟩
  · exact .inr h
theorem sqN_t (e : KeepT H H') {a : Addr} {vs : List V} (h : SqN H a vs) : SqN H' a vs := let ⟨o, h, d⟩ := h; ⟨o, e _ _ h (fun _ z => nomatch z) (fun _ z => nomatch z) (fun _ _ z => nomatch z) (fun _ z => nomatch z) (fun _ z => nomatch z) (fun _ _ _ z => nomatch z), d⟩
mutual
theorem VR.tr (e : KeepT H H') (p : ∀ (l : Nat) (a : Addr), m[l]? = some a → m'[l]? = some a) : ∀ {x : Va} {v : V}, VR K H m x v → VR K H' m' x v
  | _, _, .non => .non
  | _, _, .bl b => .bl b
  | _, _, .int i => .int i
  | _, _, .str x => .str x
  | _, _, .rp d => .rp d
  | _, _, .ref h => .ref (p _ _ h)
  | _, _, .tup h hs => .tup (sqT_t e h) (VRs.tr e p hs)
  | _, _, .rol h hs => .rol (fz_t e h) (VRs.tr e p hs)
  | _, _, .dv h => .dv (h.to (fun _ _ z => e _ _ z (fun _ z => nomatch z) (fun _ z => nomatch z) (fun _ _ z => nomatch z) (fun _ z => nomatch z) (fun _ z => nomatch z) (fun _ _ _ z => nomatch z)) fun _ _ => sqT_t e)
  | _, _, .exo a => .exo a
  | _, _, .exn h g => .exn (e _ _ h (fun _ z => nomatch z) (fun _ z => nomatch z) (fun _ _ z => nomatch z) (fun _ z => nomatch z) (fun _ z => nomatch z) (fun _ _ _ z => nomatch z)) (VR.tr e p g)
  | _, _, .tud h hs => .tud (sqN_t e h) (VRs.tr e p hs)
theorem VRs.tr (e : KeepT H H') (p : ∀ (l : Nat) (a : Addr), m[l]? = some a → m'[l]? = some a) : ∀ {x : List Va} {v : List V}, VRs K H m x v → VRs K H' m' x v
  | _, _, .nil => .nil
  | _, _, .cons h hs => .cons (VR.tr e p h) (VRs.tr e p hs)
end
end
/-! ### x = [el for a, b in d.items()] -/
def plainEv (ev : Ev) : Ev := ev.map fun o => match o with
  | some v => if inR 0 v then some v else none
  | none => none
def itemsA (kvs : List (Va × Va)) : List Va := kvs.map fun p => .tup [p.1, p.2]
def lcIF (g : GF) (el : EF) (vs : List Nat) (ev : Ev) (h : AH) (kvs : List (Va × Va)) (k : AH → List Va → SR) : SR :=
  if inRs 0 (itemsA kvs) then (if kvs.length < lim then (match compF [] g tYesF el (ewipe (plainEv ev) vs) (itemsA kvs) [] with
    | .ok ys _ => if inRs 0 ys then k h ys else .bad
    | _ => .bad) else .bad) else .bad
def sSetI (i j : Nat) (g : GF) (el : EF) (vs : List Nat) : SF := fun ev h => match ev[j]? with
  | some (some (.ref k)) => (match h[k]? with
    | some (.dct kvs) => lcIF g el vs ev h kvs fun h ys => .nx (ev.set i (some (.ref h.length))) (h ++ [.lst ys])
    | _ => .bad)
  | _ => .bad
section
variable {X : Cx} {W : WX} {elt : Expr} {elts : List Expr} {kk : Nat} {scope : Scope} {own : List (Str × Nat)} {pos spos tpos apos cpos np : Pos} {g : GF} {el : EF} {i j : Nat} {n y : Str} {py : Pos}
end
end FL

set_option Elab.async false
set_option linter.all false
set_option maxRecDepth 100000
set_option maxHeartbeats 2000000
/-! FLK: while; sorted of a list of ints. -/
namespace FL
open PySem PySem.Spec PyProof.Rows L2
variable [Tabz]
def whileF (t : TF) (b : SF) : Nat → SF
  | 0, _, _ => .bad
  | n + 1, ev, h => match t ev h with
    | .ok true h1 => (match b ev h1 with
      | .nx ev2 h2 => whileF t b n ev2 h2
      | .ct ev2 h2 => whileF t b n ev2 h2
      | .bk ev2 h2 => .nx ev2 h2
      | r => r)
    | .ok false h1 => .nx ev h1
    | .exc c p h1 => .exc c p ev h1
    | .bad => .bad
def fuelW : Nat := 10000000000000000000000000000000000000000
def sWhile (t : TF) (b : SF) : SF := whileF t b fuelW
section
variable {X : Cx} {W : WX} {c : Expr} {body : List Stmt} {t : TF} {b : SF} {pos : Pos}
end
/-! ### sorted -/
def insI (x : Int) : List Int → List Int
  | [] => [x]
  | y :: l => if x ≤ y then x :: y :: l else y :: insI x l
def sortI : List Int → List Int
  | [] => []
  | x :: l => insI x (sortI l)
def oSorted : OpN := fun ps h => match ps with
  | [.ref l] => (match lstAt h l with
    | some xs => (match allI xs with
      | some is => if is.length < 64 then some (.ref h.length, h ++ [.lst ((sortI is).map Va.int)]) else none
      | none => none)
    | none => none)
  | _ => none
section
variable {t : TF} {b : SF} {ev : Ev} {h : AH}
end
end FL

set_option Elab.async false
set_option linter.all false
set_option maxRecDepth 100000
set_option maxHeartbeats 2000000
/-! FLO: list(zip(xs, ys)) of two lists. -/
namespace FL
open PySem PySem.Spec PyProof.Rows L2 RZ
variable [Tabz]
section
variable {prog : Program} {wo : World} {A : Around} {E : Value → Shared → Prop} {s : Shared}
end
def ZSt (h : Heap) (z TI TO i1 i2 a b : Addr) (i : Nat) : Prop := (∃ w f, IsZA h z TI TO w f ∧ OutW w) ∧ IsPair h TI (.ref i1) (.ref i2) ∧ (∃ x y, IsPair h TO x y) ∧ h.IsListIter i1 a i ∧ h.IsListIter i2 b i
theorem ZSt.keep {h h' : Heap} {z TI TO i1 i2 a b : Addr} {i : Nat} (st : ZSt h z TI TO i1 i2 a b i) (k : ∀ c ∈ [z, TI, TO, i1, i2], ∀ o, h.get? c = some o → h'.get? c = some o) : ZSt h' z TI TO i1 i2 a b i := by
  obtain ⟨⟨w, f, hz, ow⟩, hTI, ⟨x, y, hTO⟩, h1, h2⟩ := st
  exact ⟨⟨w, f, k z (by simp) _ hz, ow⟩, k TI (by simp) _ hTI, ⟨x, y, k TO (by simp) _ hTO⟩, h1.at fun o q => k i1 (by simp) o q, h2.at fun o q => k i2 (by simp) o q⟩
/-- what a list of a zip is -/
def ZipTs (xs ys : List V) (H : Hp) (Ts : List Addr) : Prop := ∀ (j : Nat) (T : Addr), Ts[j]? = some T → ∃ x y, xs[j]? = some x ∧ ys[j]? = some y ∧ H T = some (.tup [x, y])
def tLZ (ta : TA) : TE := fun σ H Q => ta σ H fun vs H1 => ∃ a b xs ys, vs = [.ref a, .ref b] ∧ H1 a = some (.lst xs) ∧ H1 b = some (.lst ys) ∧ min xs.length ys.length < sizeLine ∧
  ∀ (p : Addr) (H2 : Hp) (Ts : List Addr), H1 p = none → (∀ (c : Addr) (o : HO), H1 c = some o → H2 c = some o) → H2 p = some (.lst (Ts.map V.ref)) → Ts.length = min xs.length ys.length → ZipTs xs ys H2 Ts → Q (.ref p) H2
section
variable {X : Cx} {e1 e2 : Expr} {ta : TA} {p pos p2 pos2 : Pos}
end
def eLZ (ta : AF) : EF := fun ev h => (ta ev h).bind fun vs h1 => match vs with
  | [.ref k, .ref l] => (match lstAt h1 k, lstAt h1 l with
    | some xs, some ys => if xs.length < lim then .ok (.ref h1.length) (h1 ++ [.lst (zipF xs ys)]) else .bad
    | _, _ => .bad)
  | _ => .bad
section
variable {X : Cx} {W : WX} {e1 e2 : Expr} {ta : AF} {p pos p2 pos2 : Pos}
end
end FL

set_option Elab.async false
set_option linter.all false
set_option maxRecDepth 100000
set_option maxHeartbeats 2000000
/-! FLD: dicts whose keys are tuples of ints, made by {w: n for n, w in ..} and only read. -/
namespace FL
open PySem PySem.Spec PyProof.Rows L2
variable [Tabz]
/-! ### the dict as a thing of one's own -/
def φD (D : Addr) (xs : List (List Int × Addr × Value)) : Heap → Prop := fun h => ∃ o es ep, h.get? D = some o ∧ o.ExactDict ∧ o.data = .dict es ep ∧ es.toList = xs.map entI
def keysK (xs : List (List Int × Addr × Value)) : List (List L2.Key × Addr × Value) := xs.map fun x => (x.1.map Sum.inl, x.2)
section
variable {X : Cx} {pins : List (Addr × Obj)} {σ : L2.St} {H : Hp} {s : Shared} {a b D : Addr} {ks : List Int} {xs : List (List Int × Addr × Value)} {E : Value → Shared → Prop}
end
/-! ### the comprehension -/
section
variable {X : Cx}
def tDcT (wi : TI) (g : TG) (tk tv : TE) (vs : List Nat) : TE := fun σ H Q => wi σ H fun J H1 => ∀ D, H1 D = none → ∃ W : Nat → Nat → Hp → Prop, (∃ m, W 0 m (upd H1 D (.ext (φD D [])))) ∧ ∀ i m H, W i m H →
  (J.stop i H ∧ ∃ xs, H D = some (.ext (φD D xs)) ∧ ∀ o es ep, o.ExactDict → o.data = .dict es ep → es.toList = xs.map entI → Q (.ref D) (upd H D (.frz o (.ext (φD D xs))))) ∨
  (J.go i H ∧ ∃ Nx : Hp → Prop, (∀ H', Nx H' → ∃ m', m' < m ∧ W (i + 1) m' H') ∧ ∀ x H', J.yld i H x H' → g x (wipe σ vs) H' fun σ2 H2 => wipe σ2 vs = wipe σ vs ∧
    tk σ2 H2 fun y H4 => tv σ2 H4 fun z H5 => ∃ xs ks b, y = .ref b ∧ H5 D = some (.ext (φD D xs)) ∧ (∀ x ∈ xs, SqT X.K H5 x.2.1 (x.1.map V.int)) ∧ (xs.map (·.1)).Nodup ∧ SqT X.K H5 b (ks.map V.int) ∧ ks ∉ xs.map (·.1) ∧ xs.length < sizeLine ∧ ∀ u, RelV z u → Nx (upd H5 D (.ext (φD D (xs ++ [(ks, b, u)])))))
end
end FL

set_option Elab.async false
set_option linter.all false
set_option maxRecDepth 100000
set_option maxHeartbeats 2000000
/-! FLH: {w: n for n, w in ..} and d[k], as plain functions. -/
namespace FL
open PySem PySem.Spec PyProof.Rows L2
variable [Tabz]
/-! ### all stays but what is of one's own -/
def KeepX (H H' : Hp) : Prop := ∀ b o, H b = some o → (∀ φ, o ≠ .ext φ) → H' b = some o
section
variable {K : PySem.W.Frag} {H H' : Hp} {m : List Addr}
theorem sqT_x (e : KeepX H H') {a : Addr} {vs : List V} (h : SqT K H a vs) : SqT K H' a vs := by
  rcases h with (h | ⟨o, h⟩) | h
  · exact .inl (.inl (e _ _ h (fun _ z => nomatch z)))
  · exact .inl (.inr ⟨o, e _ _ h (fun _ z => nomatch z)⟩)
  · exact .inr h
theorem fz_x (e : KeepX H H') {a : Addr} {vs : List V} (h : Fz K H a vs) : Fz K H' a vs := by
  rcases h with ⟨o, h⟩ | h
  · exact .inl ⟨o, e _ _ h (fun _ z => nomatch z)⟩
  · exact .inr h
theorem sqN_x (e : KeepX H H') {a : Addr} {vs : List V} (h : SqN H a vs) : SqN H' a vs := let ⟨o, h, d⟩ := h; ⟨o, e _ _ h (fun _ z => nomatch z), d⟩
mutual
theorem VR.ofx (e : KeepX H H') : ∀ {x : Va} {v : V}, VR K H m x v → VR K H' m x v
  | _, _, .non => .non
  | _, _, .bl b => .bl b
  | _, _, .int i => .int i
  | _, _, .str x => .str x
  | _, _, .rp d => .rp d
  | _, _, .ref h => .ref h
  | _, _, .tup h hs => .tup (sqT_x e h) (VRs.ofx e hs)
  | _, _, .rol h hs => .rol (fz_x e h) (VRs.ofx e hs)
  | _, _, .dv h => .dv (h.to (fun _ _ z => e _ _ z (fun _ z => nomatch z)) fun _ _ => sqT_x e)
  | _, _, .exo a => .exo a
  | _, _, .exn h g => .exn (e _ _ h (fun _ z => nomatch z)) (VR.ofx e g)
  | _, _, .tud h hs => .tud (sqN_x e h) (VRs.ofx e hs)
theorem VRs.ofx (e : KeepX H H') : ∀ {xs : List Va} {vs : List V}, VRs K H m xs vs → VRs K H' m xs vs
  | _, _, .nil => .nil
  | _, _, .cons h hs => .cons (VR.ofx e h) (VRs.ofx e hs)
end
end
/-! ### {w: n for n, w in ..} -/
def dcF (gs : List (Nat × List Va)) (g : GF) (ik iv : Nat) (ev0 : Ev) (h : AH) : List Va → List (List Int × Int) → Option (List (List Int × Int))
  | [], acc => if gsOk gs h then some acc else none
  | x :: xs, acc => if gsOk gs h then match g x ev0 with
      | none => none
      | some ev1 => match ev1[ik]?, ev1[iv]? with
        | some (some (.tup ks)), some (some (.int n)) => match allI ks with
          | some is => if is ∈ acc.map (·.1) then none else dcF gs g ik iv ev0 h xs (acc ++ [(is, n)])
          | none => none
        | _, _ => none
    else none
def dcK (g : GF) (ik iv : Nat) (vs : List Nat) (ev : Ev) : Src → AH → Rs Va := fun s h1 =>
  if s.items.length < lim then match dcF s.gs g ik iv (ewipe ev vs) h1 s.items [] with
    | some kvs => .ok (.dv kvs) h1
    | none => .bad
  else .bad
def eDcT (i : IF) (g : GF) (ik iv : Nat) (vs : List Nat) : EF := fun ev h => (i ev h).bind (dcK g ik iv vs ev)
theorem vr_tup {K : PySem.W.Frag} {H : Hp} {m : List Addr} {xs : List Va} {v : V} (h : VR K H m (.tup xs) v) : ∃ a vs, v = .ref a ∧ SqT K H a vs ∧ VRs K H m xs vs := by
  cases h with
  | tup h hs => exact ⟨_, _, rfl, h, hs⟩
theorem DvE.sq {K : PySem.W.Frag} {H : Hp} : ∀ {kvs : List (List Int × Int)} {xs : List (List Int × Addr × Value)}, DvE K H kvs xs → ∀ x ∈ xs, SqT K H x.2.1 (x.1.map V.int)
  | _, _, .nil => fun x hx => nomatch hx
  | _, _, .cons h t => fun x hx => by
    rcases List.mem_cons.mp hx with rfl | hx
    · exact h.2.1
    · exact DvE.sq t x hx
theorem DvE.find {K : PySem.W.Frag} {H : Hp} {is : List Int} {n : Int} : ∀ {kvs : List (List Int × Int)} {xs : List (List Int × Addr × Value)}, DvE K H kvs xs → ((kvs.find? fun p => decide (p.1 = is)).map (·.2)) = some n → ∃ b u, ((xs.find? fun x => decide (x.1 = is)).map (·.2)) = some (b, u) ∧ RelV (.int n) u
  | _, _, .nil, e => nomatch e
  | _, _, .cons (a := p) (b := x) h t, e => by
    rw [List.find?_cons] at e ⊢
    rw [← h.1]
    by_cases hp : p.1 = is
    · rw [decide_eq_true hp] at e ⊢
      have e : p.2 = n := Option.some.inj e
      exact ⟨x.2.1, x.2.2, rfl, by rw [← e]; exact h.2.2⟩
    · rw [decide_eq_false hp] at e ⊢
      exact DvE.find t e
section
variable {X : Cx} {W : WX} {tg iter : Expr} {scope : Scope} {own : List (Str × Nat)} {pos : Pos} {fi : IF} {g : GF} {ik iv : Nat}
end
/-! ### d[k] -/
def getD2 (p q : Va) (h : AH) : Option (Va × AH) := match p, q with
  | .dv kvs, .tup ks => match allI ks with
    | some is => ((kvs.find? fun p => decide (p.1 = is)).map (·.2)).map fun n => (.int n, h)
    | none => none
  | _, _ => none
def tDGetV (K : PySem.W.Frag) (td ty : TE) : TE := fun σ H Q => td σ H fun x H1 => ty σ H1 fun y H2 => ∃ a b kvs is n, x = .ref a ∧ y = .ref b ∧ Dv K H2 a kvs ∧ SqT K H2 b (is.map V.int) ∧ ((kvs.find? fun p => decide (p.1 = is)).map (·.2)) = some n ∧ Q (.int n) H2
section
variable {X : Cx} {W : WX} {o i : Expr} {pos : Pos} {td ty : TE} {fo fi : EF}
end
end FL

set_option Elab.async false
set_option linter.all false
set_option maxRecDepth 100000
set_option maxHeartbeats 2000000
/-! FLA: try: .. except C as n: return n.f == k. -/
namespace FL
open PySem PySem.Spec PyProof.Rows L2
variable [Tabz]
section
variable {X : Cx} {W : WX} {C fI : Addr} {x f : Str} {bm : List Value} {newId : String}
def xfQ (f : Str) (k : Int) (h : AH) : List (Str × Va) → SR
  | [(y, .int v)] => if y = f then .rt (.bl (decide (v = k))) h else .bad
  | _ => .bad
def tryQ (i : Nat) (x f : Str) (k : Int) : SR → SR
  | .exc cl p ev h => if cl = x ∧ i < ev.length then xfQ f k h p else .bad
  | r => r
def sTryQ (i : Nat) (x f : Str) (k : Int) (b : SF) : SF := fun ev h => tryQ i x f k (b ev h)
end
section
variable {h : AH} {ev : Ev} {f x cl : Str} {v k : Int} {i : Nat} {b : SF} {w : Va}
end
end FL

set_option Elab.async false
set_option linter.all false
set_option maxRecDepth 100000
set_option maxHeartbeats 2000000
/-! FLB: x(lambda: body): the def x calls what it got first of all; its meaning is a function of the outcome of that call. -/
namespace FL
open PySem PySem.Spec PyProof.Rows L2
variable [Tabz]
section
variable {X : Cx} {W : WX}
abbrev gX (X : Cx) (Ng : List Str) (x : Str) (sg : Scope) (g : Addr) (cdg : Value) (s : Shared) (H : Hp) : Cx := cxOf C8.CX0 X.prog X.w X.K X.mg X.base Ng x sg g cdg X.A X.stack s H C8.E0
/-- nothing is let out -/
def okOnly {α : Type} : Rs α → Rs α
  | .ok v h => .ok v h
  | _ => .bad
/-- the def x, given a thunk with the outcome r at its start, has the outcome mo r -/
def GvF (X : Cx) (k : Nat) (Ng : List Str) (x : Str) (sg : Scope) (g : Addr) (cdg : Value) (bg : List Stmt) (a q : Str) (mo : Rs Va → Rs Va) : Prop :=
  ∀ (f c' : Addr) (s : Shared) (H : Hp) (Q : VK) (m : List Addr) (ah : AH) (r : Rs Va),
    (∀ (W : WX) (pn : List (Addr × Obj)) (xe : Value → Shared → Prop) (p1 p2 : Pos), Takes ((gX X Ng x sg g cdg s H).tr pn xe) W →
      PE ((gX X Ng x sg g cdg s H).tr pn xe) (.Call (.Name a p1) [] [] p2) (fun σZ HZ Q' => σZ[0]? = some (some (.ref f)) ∧ HZ = H ∧ Post X.K X.mg (VR X.K) m H (WE W σZ) r (fun w H' => Q' w H'))) →
    HR X.K H m ah → Post X.K X.mg (VR X.K) m H C8.E0 (okOnly (mo r)) (fun w H' => Q w H') → Room (k + 1) (X.A.deeper (envOfC x sg s.heap.objs.size g cdg)) → (X.A.deeper (envOfC x sg s.heap.objs.size g cdg)).guards = some [] →
    ∃ t, PSs (gX X Ng x sg g cdg s H).nox bg t ∧ t { nx := fun _ H' => Q .non H', rt := Q } (L2.start Ng [.ref f]) H
/-- x(lambda: el) -/
def eLam (mo : Rs Va → Rs Va) (el : EF) : EF := fun ev h => okOnly (mo (el ev h))
theorem extN_ext {H H1 : Hp} {m : List Addr} (e : LamX.ExtN H H1) : Ext m H m H1 := ⟨⟨[], by simp⟩, fun b o h _ nt => e b o h nt, fun a h1 h2 => absurd h1 h2⟩
theorem hr_extN {K : PySem.W.Frag} {H H1 : Hp} {m : List Addr} {ah : AH} (r : HR K H m ah) (e : LamX.ExtN H H1) (t : LamX.Tabs Tabz.T H1) : HR K H1 m ah := by
  refine ⟨r.len, r.nd, fun l a o h1 h2 => ?_, t⟩
  refine (r.at_ l a o h1 h2).ext r (extN_ext e) ?_
  rcases r.mut (List.mem_of_getElem? h1) with ⟨vs, q⟩ | ⟨kv, q⟩ | ⟨kv, q⟩ | ⟨_, _, _, q⟩
  · rw [q]; exact e _ _ q (fun _ z => nomatch z)
  · rw [q]; exact e _ _ q (fun _ z => nomatch z)
  · rw [q]; exact e _ _ q (fun _ z => nomatch z)
  · rw [q]; exact e _ _ q (fun _ z => nomatch z)
end
end FL

set_option Elab.async false
set_option linter.all false
set_option maxRecDepth 100000
set_option maxHeartbeats 2000000
/-! FLBR: def x(a): try: a() / except C as n: return repr(n.f) / return None. -/
namespace FL
open PySem PySem.Spec PyProof.Rows L2
variable [Tabz]
section
variable {X : Cx}
def exRepr (xc f : Str) (c : Str) (p : List (Str × Va)) (h : AH) : Rs Va := match p with
  | [(y, v)] => if c = xc ∧ y = f then match oReprN [v] h with
    | some (w, h') => .ok w h'
    | none => .bad else .bad
  | _ => .bad
def moRepr (xc f : Str) : Rs Va → Rs Va
  | .ok _ h => .ok .non h
  | .exc c p h => exRepr xc f c p h
  | .bad => .bad
end
end FL

set_option Elab.async false
set_option linter.all false
set_option maxRecDepth 100000
set_option maxHeartbeats 2000000
/-! FLBT: the law's end where defs make lambdas: their tables are empty behind the top. -/
namespace FL
open PySem PySem.Spec PyProof.Rows L2
/-- nothing but frozen lists and the tables is told -/
def OnlyT (cs : List (Addr × Addr)) (H : Hp) : Prop := ∀ b, H b = none ∨ (b ∈ cs.map (·.2) ∧ H b = some (.tbl #[])) ∨ ∃ o xs, H b = some (.frz o (.lst xs))
end FL

set_option Elab.async false
set_option linter.all false
set_option maxRecDepth 100000
set_option maxHeartbeats 2000000
/-! FLBU: a def that makes lambdas; a lambda handed to a def that the module tells. -/
namespace FL
open PySem PySem.Spec PyProof.Rows L2
variable [Tabz]
section
variable {P : Program} {w : World} {K : PySem.W.Frag} {mg : Str → Option Value} {base : Heap}
end
/-- the tables of the makers tf: known to base, and to the heaps -/
structure TBs (K : PySem.W.Frag) (mg : Str → Option Value) (base : Heap) (tf : List He.Defn) : Prop where
  tb : ∀ p ∈ tf, LamX.TabB base mg (He.cT K p).1 (He.cT K p).2
  at_ : ∀ p ∈ tf, ((He.cT K p).2, p.1 ++ (".<locals>.<lambda>" : Str)) ∈ Tabz.T
  un : ∀ p ∈ tf, ∀ z ∈ Tabz.T, z.1 = (He.cT K p).2 → z.2 = p.1 ++ (".<locals>.<lambda>" : Str)
end FL

set_option Elab.async false
set_option linter.all false
set_option maxRecDepth 100000
set_option maxHeartbeats 2000000
/-! FLBM: several except clauses with names: the exception lies on the ground, the clauses look at it one after the other. -/
namespace FL
open PySem PySem.Spec PyProof.Rows L2
variable [Tabz]
section
variable {X : Cx} {pins : List (Addr × Obj)} {σ : L2.St} {H : Hp} {a : Addr} {cls : Value} {d : Option Addr} {s : Shared}
/-- the exception a lies on the ground, nothing of the state behind it is lost -/
def Gnd (X : Cx) (pins : List (Addr × Obj)) (σ : L2.St) (H : Hp) (a : Addr) (cls : Value) (d : Option Addr) (s : Shared) : Prop :=
  ∃ (G : Heap) (sI : Shared), Inv X pins σ H sI ∧ (∀ b o, sI.heap.get? b = some o → b ∉ frs X.stack → G.get? b = some o) ∧ sI.heap.UpToSlots s.heap ∧ HandSPX.FlyingZ G (X.env :: X.outer) a (Zc cls d) s.heap ∧ H a = none ∧ s.os = sI.os ∧ AllBare s.gens
theorem fly_up {G h h' : Heap} {l : List Env} {e : Addr} {Z : Obj → Prop} (f : HandSPX.FlyingZ G l e Z h) (k : ∀ b o, h.get? b = some o → h'.get? b = some o) : HandSPX.FlyingZ G l e Z h' := by
  obtain ⟨g1, g2, g3, oe, vs, T, oT, ts, g4, g5, g6, g7, g8, g9, g10, g11, g12⟩ := f
  exact ⟨fun b o z => k b o (g1 b o z), g2, g3.of_keeps fun b o z _ => ⟨o, k b o z, rfl⟩, oe, vs, T, oT, ts, k _ _ g4, g5, g6, g7, g8, g9, k _ _ g10, g11, g12⟩
theorem Gnd.up (g : Gnd X pins σ H a cls d s) {h' : Heap} (k : ∀ b o, s.heap.get? b = some o → h'.get? b = some o) : Gnd X pins σ H a cls d { s with heap := h' } := by
  obtain ⟨G, sI, g1, g2, g3, g4, g5, g6, g7⟩ := g
  exact ⟨G, sI, g1, g2, g3.trans (Heap.UpToSlots.of_keeps k), fly_up g4 k, g5, g6, g7⟩
/-- the test of a clause: a fresh look at the class of what lies there -/
def Tst (X : Cx) (te : Expr) (cls : Value) (b : Bool) : Prop :=
  ∀ (a : Addr) (oe : Obj) (pn : List (Addr × Obj)) (σ : L2.St) (H : Hp) (s : Shared) (Q : Bool → Shared → Prop) (E : Value → Shared → Prop), Inv (X.suite a ((a, oe) :: pn)) [] σ H s → s.heap.get? a = some oe → oe.cls = cls →
    (∀ h', (∀ b o, s.heap.get? b = some o → h'.get? b = some o) → Q b { s with heap := h' }) →
    wpAny (model X.prog X.w) (X.A.mark (some (.ref a))) (eval te X.env) (fun c s1 => wpAny (model X.prog X.w) (X.A.mark (some (.ref a))) (excMatches (.ref a) c) Q E s1) E s
/-- the clauses l do what is wished of the exception that lies there -/
def HB (X : Cx) (l : List ExceptHandler) (w : Ends → Addr → Value → Option Addr → L2.St → Hp → Prop) : Prop :=
  ∀ (pins : List (Addr × Obj)) (σ : L2.St) (H : Hp) (a : Addr) (cls : Value) (d : Option Addr) (s : Shared) (D : Ends), X.Ok → Gnd X pins σ H a cls d s → w D a cls d σ H → wpAny (model X.prog X.w) X.A (handleBy (.ref a) X.env l) (SP X pins D) X.xe s
/-- the ends behind a named clause: its name goes -/
def Ends.off (i : Nat) (D : Ends) : Ends := { nx := fun σ H => D.nx (σ.set i none) H, rt := D.rt, bk := fun σ H => D.bk (σ.set i none) H, ct := fun σ H => D.ct (σ.set i none) H }
end
end FL

set_option Elab.async false
set_option linter.all false
set_option maxRecDepth 100000
set_option maxHeartbeats 2000000
/-! FLBN: classes without fields raised; isinstance and fields of a caught exception; the def that calls its thunk under several clauses. -/
namespace FL
open PySem PySem.Spec PyProof.Rows L2
variable [Tabz]
/-! ### raise C('m') -/
def sRaise0 (x : Str) : SF := fun ev h => .exc x [] ev h
section
variable {X : Cx} {W : WX} {C : Addr} {bmB : List Value} {B newId initId : String}
end
/-! ### what a class of the program says -/
def excB (K : PySem.W.Frag) (C : Addr) : Bool :=
  He.eqO (PySem.W.findIn K (.ref C) "__getattribute__") (some (some (.builtin "BaseException.__getattribute__"))) && (He.eqO (PySem.W.findIn K (.ref C) "__getattr__") (some none) && (decide (PySem.W.subIn K (.ref C) (.type "BaseException") = some true) && (PySem.W.hasDictIn K C &&
  (He.eqO (PySem.W.findIn K (.ref C) "__class__") (some (some (.builtin "object.__class__"))) && (He.eqO (PySem.W.specialIn K (.builtin "object.__class__") "__get__") (some (some (.builtin "getset_descriptor.__get__"))) && (decide (PySem.W.takesIn K (.builtin "object.__class__") = some true) && decide (PySem.W.mroIn K C (.type "object") = some true)))))))
/-- a class without own __init__, over the built-in one with bmB -/
structure PlainX (x : Str) (bmB : List Value) (newId : String) (K : PySem.W.Frag) (mg : Str → Option Value) (C : Addr) : Prop where
  gC : mg x = some (.ref C)
  q : PySem.W.excIn K C bmB newId = true
  kC : PySem.W.keepIn K (.ref C) = true
  exC : PySem.W.subIn K (.ref C) (.type "BaseException") = some true
  tyC : PySem.W.typeIn K (.ref C) = some (.type "type")
def plainB (x : Str) (bmB : List Value) (newId : String) (K : PySem.W.Frag) : Bool :=
  He.eqO (PySem.W.nsIn K mainGlobals x) (some (some (.ref (He.ga K x)))) && (PySem.W.excIn K (He.ga K x) bmB newId && (PySem.W.keepIn K (.ref (He.ga K x)) && (decide (PySem.W.subIn K (.ref (He.ga K x)) (.type "BaseException") = some true) && decide (PySem.W.typeIn K (.ref (He.ga K x)) = some (.type "type")))))
/-! ### isinstance, a field -/
section
variable {X : Cx} {W : WX} {a C : Addr} {oe : Obj} {pn : List (Addr × Obj)} {d : Option Addr} {i : Nat} {n : Str}
def rIsX (K : PySem.W.Frag) (C a : Addr) (d : Option Addr) : List V → Hp → VK → Prop := fun xs H Q => ∃ (c : V) (cv : Value) (b : Bool), xs = [.ref a, c] ∧ (∀ u, RelV c u → u = cv) ∧ PySem.W.kitOne K (.ref C) cv = some b ∧ (∀ dd, d = some dd → ∃ fs, H dd = some (.xd fs)) ∧ Q (.bl b) H
/-- isinstance(e, D): e bare, e with a dict -/
def eIs0 (i : Nat) (a : Addr) (b : Bool) : EF := fun ev h => match ev[i]? with
  | some (some (.exo a')) => if a' = a then .ok (.bl b) h else .bad
  | _ => .bad
def eIs1 (i : Nat) (a dd : Addr) (b : Bool) : EF := fun ev h => match ev[i]? with
  | some (some (.exn a' d' _ _)) => if a' = a ∧ d' = dd then .ok (.bl b) h else .bad
  | _ => .bad
/-- e.f -/
def eXf (i : Nat) (a dd : Addr) (f : Str) : EF := fun ev h => match ev[i]? with
  | some (some (.exn a' d' g v)) => if a' = a ∧ d' = dd ∧ g = f then .ok v h else .bad
  | _ => .bad
end
end FL

set_option Elab.async false
set_option linter.all false
set_option maxRecDepth 100000
set_option maxHeartbeats 2000000
/-! FLBO: def x(a): try: a() / except .. as e: .. / return c, under several clauses. -/
namespace FL
open PySem PySem.Spec PyProof.Rows L2
variable [Tabz]
/-- hm: what it gives back of an exception -/
def moM (endv : Va) (hm : Str → List (Str × Va) → AH → Rs Va) : Rs Va → Rs Va
  | .ok _ h => .ok endv h
  | .exc c p h => hm c p h
  | .bad => .bad
section
variable {X : Cx} {nσ i : Nat} {n : Str} {body : List Stmt} {c fld : Str} {C : Addr} {f : List (Str × Va) → AH → Rs Va} {hm : Str → List (Str × Va) → AH → Rs Va}
/-- a suite does with an exception of the class c what f says -/
def HC (X : Cx) (nσ i : Nat) (body : List Stmt) (c : Str) (C : Addr) (f : List (Str × Va) → AH → Rs Va) : Prop :=
  ∀ (a : Addr) (oe : Obj) (d : Option Addr) (pn : List (Addr × Obj)), Zc (.ref C) d oe → (∃ vs, oe.data = .fields vs) →
    PSs (X.suite a ((a, oe) :: pn)) body (fun D σ H => σ.length = nσ ∧ σ[i]? = some (some (.ref a)) ∧ ∃ m h p, HR X.K H m h ∧ XR X.K X.mg H m c p (.ref C) d ∧ Post X.K X.mg (VR X.K) m H C8.E0 (okOnly (f p h)) (fun w H' => D.rt w H'))
/-- an exception with one field, with none -/
def on1 (fld : Str) (r : Va → AH → Rs Va) : List (Str × Va) → AH → Rs Va := fun p h => match p with
  | [(g, x)] => if g = fld then r x h else .bad
  | _ => .bad
def on0 (r : AH → Rs Va) : List (Str × Va) → AH → Rs Va := fun p h => match p with
  | [] => r h
  | _ => .bad
/-- a suite of a clause without a name does with an exception of the class c what f says -/
def HN (X : Cx) (nσ : Nat) (body : List Stmt) (c : Str) (C : Addr) (f : List (Str × Va) → AH → Rs Va) : Prop :=
  ∀ (a : Addr) (oe : Obj) (d : Option Addr) (pn : List (Addr × Obj)), Zc (.ref C) d oe → (∃ vs, oe.data = .fields vs) →
    PSs (X.suite a ((a, oe) :: pn)) body (fun D σ H => σ.length = nσ ∧ ∃ m h p, HR X.K H m h ∧ XR X.K X.mg H m c p (.ref C) d ∧ Post X.K X.mg (VR X.K) m H C8.E0 (okOnly (f p h)) (fun w H' => D.rt w H'))
/-- the clauses, by the classes that come to each -/
inductive HdM (X : Cx) (nσ i : Nat) (n : Str) (hm : Str → List (Str × Va) → AH → Rs Va) : List ExceptHandler → List (Str × Addr) → Prop
  | any (l : List ExceptHandler) : HdM X nσ i n hm l []
  | cons {te : Expr} {b0 : Stmt} {bs : List Stmt} {hp : Pos} {l : List ExceptHandler} {M : List (Str × Addr)} (L : List (Str × Addr)) (hy : ∀ z ∈ L, Tst X te (.ref z.2) true ∧ HC X nσ i (b0 :: bs) z.1 z.2 (hm z.1)) (hn : ∀ z ∈ M, Tst X te (.ref z.2) false) (hr : HdM X nσ i n hm l M) :
      HdM X nσ i n hm (.ExceptHandler (some te) (some n) (b0 :: bs) hp :: l) (L ++ M)
  | consN {te : Expr} {b0 : Stmt} {bs : List Stmt} {hp : Pos} {l : List ExceptHandler} {M : List (Str × Addr)} (L : List (Str × Addr)) (hy : ∀ z ∈ L, Tst X te (.ref z.2) true ∧ HN X nσ (b0 :: bs) z.1 z.2 (hm z.1)) (hn : ∀ z ∈ M, Tst X te (.ref z.2) false) (hr : HdM X nσ i n hm l M) :
      HdM X nσ i n hm (.ExceptHandler (some te) none (b0 :: bs) hp :: l) (L ++ M)
/-- what the clauses ask -/
def wHd (X : Cx) (nσ i : Nat) (hm : Str → List (Str × Va) → AH → Rs Va) (ok : List (Str × Addr)) : Ends → Addr → Value → Option Addr → L2.St → Hp → Prop := fun D a cls d σ H =>
  ∃ c C, (c, C) ∈ ok ∧ cls = .ref C ∧ σ.length = nσ ∧ i < nσ ∧ ∃ m h p, HR X.K H m h ∧ XR X.K X.mg H m c p (.ref C) d ∧ Post X.K X.mg (VR X.K) m H C8.E0 (okOnly (hm c p h)) (fun w H' => D.rt w H')
end
section
variable {X : Cx} {i : Nat} {n : Str} {hm : Str → List (Str × Va) → AH → Rs Va}
end
end FL

set_option Elab.async false
set_option linter.all false
set_option maxRecDepth 100000
set_option maxHeartbeats 2000000
/-! FLBP: a text and the text of a value; what the handlers give back. -/
namespace FL
open PySem PySem.Spec PyProof.Rows L2
variable [Tabz]
def oAddR : Op2 := fun p q h => match p, q with
  | .str x, .rp d => if (d.canLay0 && decide (x.length + lenB d ≤ lim)) = true then some (.str (x ++ d.shown), h) else none
  | p, q => oAdd p q h
section
variable {i n : Nat} {a dd : Addr} {b : Bool} {f : Str} {x : Va} {h : AH}
/-- a text and the value's own text -/
def resN (s : Str) (x : Va) (h : AH) : Rs Va := match oReprN [x] h with
  | some (w, h1) => ofO (oAddR (.str s) w h1)
  | none => .bad
variable {ev : Ev} {g : EF} {s : Str} {v : Va} {h' : AH}
/-- [s, repr(e.f)] -/
def resL (s : Str) (x : Va) (h : AH) : Rs Va := match oReprN [x] h with
  | some (w, h1) => ofO (oLst [.str s, w] h1)
  | none => .bad
end
end FL

set_option Elab.async false
set_option linter.all false
set_option maxRecDepth 100000
set_option maxHeartbeats 2000000
/-! FLBQ: max(t, default=d) of a tuple of ints. -/
namespace FL
open PySem PySem.Spec PyProof.Rows L2
variable [Tabz]
section
variable {X : Cx} {W : WX} {a : Expr} {f : EF} {tk : AF} {kws : List Keyword} {p pos : Pos}
/-- the greatest of i and is, the first of them -/
def mxI (i : Int) (is : List Int) : Int := PySem.W.maxOf i is
def oMxK (v w : Va) (h : AH) : Option (Va × AH) := match v with
  | .tup xs => (match allI xs with
    | some [] => some (w, h)
    | some (i :: is) => some (.int (mxI i is), h)
    | none => none)
  | _ => none
def eMxK (f : EF) (tk : AF) : EF := fun ev h => (f ev h).bind fun v h1 => (tk ev h1).bind fun zs h2 => match zs with
  | [w] => ofO (oMxK v w h2)
  | _ => .bad
def rMxK (K : PySem.W.Frag) : List V → List V → Hp → VK → Prop := fun xs zs H Q => ∃ (a : Addr) (is : List Int) (z : V), xs = [.ref a] ∧ SqT K H a (is.map V.int) ∧ zs = [z] ∧ (is = [] → Q z H) ∧ ∀ i js, is = i :: js → Q (.int (mxI i js)) H
def mxKK (tk : AF) (ev : Ev) : Rs Va → Rs Va := fun r => r.bind fun v h1 => (tk ev h1).bind fun zs h2 => match zs with
  | [w] => ofO (oMxK v w h2)
  | _ => .bad
end
end FL

set_option Elab.async false
set_option linter.all false
set_option maxRecDepth 100000
set_option maxHeartbeats 2000000
/-! FLBD: dicts whose keys are tuples. -/
namespace FL
open PySem PySem.Spec PyProof.Rows L2
variable [Tabz]
mutual
theorem nk_hash {w w' : World} : ∀ (x : Va) {k : PySem.NestedKey}, nk x = some k → k.hash w = k.hash w'
  | .non, k, e => by
    have e : some PySem.NestedKey.none = some k := e
    cases e; rfl
  | .bl b, k, e => by
    have e : some (PySem.NestedKey.num (if b then 1 else 0)) = some k := e
    cases e; rfl
  | .int i, k, e => by
    have e : some (PySem.NestedKey.num i) = some k := e
    cases e; rfl
  | .tup xs, k, e => by
    unfold nk at e
    cases q : nks xs with
    | none => rw [q] at e; cases e
    | some ks =>
      rw [q] at e; cases e
      show reduceHash (Builtin.Tuple.tupleHashOf (PySem.NestedKey.hashes w ks)) = reduceHash (Builtin.Tuple.tupleHashOf (PySem.NestedKey.hashes w' ks))
      rw [nks_hash (w := w) (w' := w') xs q]
  | .str _, _, e => by simp [nk] at e
  | .rp _, _, e => by simp [nk] at e
  | .ref _, _, e => by simp [nk] at e
  | .rol _, _, e => by simp [nk] at e
  | .dv _, _, e => by simp [nk] at e
  | .exo _, _, e => by simp [nk] at e
  | .exn _ _ _ _, _, e => by simp [nk] at e
  | .tud _, _, e => by simp [nk] at e
theorem nks_hash {w w' : World} : ∀ (xs : List Va) {ks : List PySem.NestedKey}, nks xs = some ks → PySem.NestedKey.hashes w ks = PySem.NestedKey.hashes w' ks
  | [], ks, e => by
    have e : some [] = some ks := e
    cases e; rfl
  | x :: xs, ks, e => by
    unfold nks at e
    cases q1 : nk x with
    | none => rw [q1] at e; cases e
    | some k =>
      cases q2 : nks xs with
      | none => rw [q1, q2] at e; cases e
      | some ks' =>
        rw [q1, q2] at e
        cases e
        show k.hash w :: PySem.NestedKey.hashes w ks' = k.hash w' :: PySem.NestedKey.hashes w' ks'
        rw [nk_hash (w := w) (w' := w') x q1, nks_hash (w := w) (w' := w') xs q2]
end
section
variable {X : Cx} {pins : List (Addr × Obj)} {σ : L2.St} {H : Hp} {s : Shared} {m : List Addr}
mutual
theorem nk_is (I : Inv X pins σ H s) : ∀ (x : Va) {k : PySem.NestedKey} {v : V} {u : Value}, nk x = some k → VR X.K H m x v → RelV v u → PySem.NestedIs s.heap k u
  | .non, k, v, u, e, r, ru => by
    have e : some PySem.NestedKey.none = some k := e
    cases e; cases r
    obtain rfl : u = Value.none := ru
    exact .none
  | .bl b, k, v, u, e, r, ru => by
    have e : some (PySem.NestedKey.num (if b then 1 else 0)) = some k := e
    cases e; cases r
    obtain rfl : u = Value.bool b := ru
    exact .bool rfl
  | .int i, k, v, u, e, r, ru => by
    have e : some (PySem.NestedKey.num i) = some k := e
    cases e; cases r
    obtain ⟨t, rfl⟩ : ∃ t, u = Value.int i t := ru
    exact .int i t
  | .tup xs, k, v, u, e, r, ru => by
    unfold nk at e
    cases q : nks xs with
    | none => rw [q] at e; cases e
    | some ks =>
      rw [q] at e; cases e
      obtain ⟨a, vs, rfl, h, hs⟩ := vr_tup r
      obtain rfl : u = Value.ref a := ru
      obtain ⟨its, r1, ⟨o, h1, h2, n, h3⟩, _⟩ := I.tuple h
      exact .tup h1 h2 h3 (by simpa using nks_is I xs q hs r1)
  | .str _, _, _, _, e, _, _ => by simp [nk] at e
  | .rp _, _, _, _, e, _, _ => by simp [nk] at e
  | .ref _, _, _, _, e, _, _ => by simp [nk] at e
  | .rol _, _, _, _, e, _, _ => by simp [nk] at e
  | .dv _, _, _, _, e, _, _ => by simp [nk] at e
  | .exo _, _, _, _, e, _, _ => by simp [nk] at e
  | .exn _ _ _ _, _, _, _, e, _, _ => by simp [nk] at e
  | .tud _, _, _, _, e, _, _ => by simp [nk] at e
theorem nks_is (I : Inv X pins σ H s) : ∀ (xs : List Va) {ks : List PySem.NestedKey} {vs : List V} {us : List Value}, nks xs = some ks → VRs X.K H m xs vs → Vals vs us → PySem.NestedAll s.heap ks us
  | [], ks, vs, us, e, r, ru => by
    have e : some [] = some ks := e
    cases e; cases r; cases ru
    exact .nil
  | x :: xs, ks, vs, us, e, r, ru => by
    unfold nks at e
    cases q1 : nk x with
    | none => rw [q1] at e; cases e
    | some k =>
      cases q2 : nks xs with
      | none => rw [q1, q2] at e; cases e
      | some ks' =>
        rw [q1, q2] at e
        cases e
        cases r with
        | cons h hs =>
          cases ru with
          | cons h1 t1 => exact .cons (nk_is I x q1 h h1) (nks_is I xs q2 hs t1)
end
end
/-! ### looking and storing -/
def sameN (k : PySem.NestedKey) (p : Va) : Bool := match nk p with
  | some k' => PySem.NestedKey.beq k' k
  | none => false
def findN (kvs : List (Va × Va)) (k : PySem.NestedKey) : Option Va := (kvs.find? fun p => sameN k p.1).map (·.2)
def putN (kvs : List (Va × Va)) (i : Va) (k : PySem.NestedKey) (v : Va) : List (Va × Va) :=
  if (findN kvs k).isSome then kvs.map fun p => if sameN k p.1 then (p.1, v) else p else kvs ++ [(i, v)]
/-- a tuple as a key -/
def keyN : Va → Option PySem.NestedKey
  | .tup xs => match nk (.tup xs) with
    | some k => if k.depth ≤ 8 then some k else none
    | none => none
  | _ => none
section
variable {K : PySem.W.Frag} {H H' : Hp} {m m' : List Addr} {ah : AH}
theorem DtE.key : ∀ {kvs : List (Va × Va)} {xs : List (PySem.NestedKey × Addr × Value)}, DtE K H m kvs xs → ∀ x ∈ xs, ∃ p, nk p = some x.1 ∧ x.1.depth ≤ 8 ∧ VR K H m p (.ref x.2.1)
  | _, _, .nil => fun x h => nomatch h
  | _, _, .cons h1 h2 _ _ h5 => fun x h => by
    rcases List.mem_cons.mp h with rfl | h
    · exact ⟨_, h1.1, h1.2, h2⟩
    · exact DtE.key h5 x h
theorem DtE.length : ∀ {kvs : List (Va × Va)} {xs : List (PySem.NestedKey × Addr × Value)}, DtE K H m kvs xs → kvs.length = xs.length
  | _, _, .nil => rfl
  | _, _, .cons _ _ _ _ h5 => by rw [List.length_cons, List.length_cons, DtE.length h5]
theorem DtE.find (k : PySem.NestedKey) : ∀ {kvs : List (Va × Va)} {xs : List (PySem.NestedKey × Addr × Value)}, DtE K H m kvs xs → match findN kvs k, atKey xs k with
    | some q, some bu => ∃ v, VR K H m q v ∧ RelV v bu.2
    | none, none => True
    | _, _ => False
  | _, _, .nil => True.intro
  | (p, q) :: kvs, (k0, b, u) :: xs, .cons h1 h2 h3 h4 h5 => by
    have ih := DtE.find k h5
    unfold findN atKey at ih ⊢
    rw [List.find?_cons, List.find?_cons]
    have e1 : sameN k p = PySem.NestedKey.beq k0 k := by unfold sameN; rw [h1.1]
    have e2 : decide (k0 = k) = PySem.NestedKey.beq k0 k := PySem.NestedKey.decide_eq k0 k
    simp only [e1, e2]
    cases PySem.NestedKey.beq k0 k with
    | true => exact ⟨_, h3, h4⟩
    | false => exact ih
theorem DtE.is (k : PySem.NestedKey) {kvs : List (Va × Va)} {xs : List (PySem.NestedKey × Addr × Value)} (d : DtE K H m kvs xs) : (findN kvs k).isSome = (atKey xs k).isSome := by
  have h := d.find k
  cases e1 : findN kvs k <;> cases e2 : atKey xs k <;> rw [e1, e2] at h <;> first | rfl | exact h.elim
theorem DtE.app {p q : Va} {k : PySem.NestedKey} {b : Addr} {v : V} {u : Value} (h1 : nk p = some k ∧ k.depth ≤ 8) (h2 : VR K H m p (.ref b)) (h3 : VR K H m q v) (h4 : RelV v u) : ∀ {kvs : List (Va × Va)} {xs : List (PySem.NestedKey × Addr × Value)}, DtE K H m kvs xs → DtE K H m (kvs ++ [(p, q)]) (xs ++ [(k, b, u)])
  | _, _, .nil => .cons h1 h2 h3 h4 .nil
  | _, _, .cons g1 g2 g3 g4 g5 => .cons g1 g2 g3 g4 (DtE.app h1 h2 h3 h4 g5)
theorem HR.dtl {l : Nat} {a : Addr} {kvs : List (Va × Va)} (r : HR K H m ah) (h : m[l]? = some a) (e : ah[l]? = some (.dtl kvs)) : ∃ xs, H a = some (.ext (phiN a xs)) ∧ DtE K H m kvs xs ∧ (xs.map (·.1)).Nodup ∧ (a == sysModules) = false := r.at_ l a _ h e
end
/-! ### in the machine -/
section
variable {X : Cx} {pins : List (Addr × Obj)} {σ : L2.St} {H : Hp} {s : Shared} {m : List Addr} {ah : AH} {a : Addr} {kvs : List (Va × Va)} {xs : List (PySem.NestedKey × Addr × Value)} {A : Around} {E : Value → Shared → Prop}
end
/-! ### d[k], k in d -/
def oIxN : Op2 := fun p q h => match p with
  | .ref l => match h[l]? with
    | some (.dtl kvs) => match keyN q with
      | some k => (findN kvs k).map fun v => (v, h)
      | none => none
    | _ => oIx p q h
  | _ => oIx p q h
def oInN (neg : Bool) : Op2 := fun p q h => match q with
  | .ref l => match h[l]? with
    | some (.dtl kvs) => match keyN p with
      | some k => some (.bl (if neg then !(findN kvs k).isSome else (findN kvs k).isSome), h)
      | none => none
    | _ => oInn neg p q h
  | _ => oInn neg p q h
abbrev oInD : Op2 := oInN false
abbrev oNotInD : Op2 := oInN true
section
variable {X : Cx} {W : WX} {a b : Expr} {f g : EF} {pos : Pos}
end
/-! ### d[k] = v -/
def putAtN (o i v : Va) (h : AH) : Option AH := match o with
  | .ref l => match h[l]? with
    | some (.dtl kvs) => match keyN i with
      | some k => if kvs.length < lim then some (h.set l (.dtl (putN kvs i k v))) else none
      | none => none
    | _ => none
  | _ => none
def sPutN (fo fi f : EF) : SF := fun ev h => (f ev h).s ev fun v h1 => (fo ev h1).s ev fun o h2 => (fi ev h2).s ev fun i h3 => match putAtN o i v h3 with | some h4 => .nx ev h4 | none => .bad
def rPutN (K : PySem.W.Frag) (x y v : V) (H : Hp) (Q : Hp → Prop) : Prop := ∃ m ah p q z ah', HR K H m ah ∧ VR K H m p x ∧ VR K H m q y ∧ VR K H m z v ∧ putAtN p q z ah = some ah' ∧ ∀ H', HR K H' m ah' → Ext m H m H' → Q H'
def sPG (K : PySem.W.Frag) (td ty tv : TE) : TS := fun D σ H => tv σ H fun v H1 => td σ H1 fun x H2 => ty σ H2 fun y H3 => rPutN K x y v H3 fun H4 => D.nx σ H4
section
variable {X : Cx} {W : WX} {o i e : Expr} {fo fi fe : EF} {p1 pos : Pos} {td ty tv : TE}
end
/-! ### {k: v} -/
section
variable {prog : Program} {w : World} {K : Type} [DecidableEq K] {knd : HeapKind prog w K} {A : Around} {E : Value → Shared → Prop} {s : Shared}
end
def tDispN (K : PySem.W.Frag) (tk tv : TE) : TE := fun σ H Q => ∀ p, H p = none → (p == sysModules) = false → tk σ (upd H p (.dK [])) fun x H1 => tv σ H1 fun y H2 => H2 p = some (.dK []) ∧ ∃ m q k b, x = .ref b ∧ nk q = some k ∧ k.depth ≤ 8 ∧ VR K H2 m q (.ref b) ∧ ∀ u, RelV y u → Q (.ref p) (upd H2 p (.ext (phiN p [(k, b, u)])))
section
variable {X : Cx} {W : WX} {k v : Expr} {fk fv : EF} {pos : Pos} {tk tv : TE}
/-- {k: v} with a tuple as key -/
def eDN (fk fv : EF) : EF := fun ev h => (fk ev (h ++ [.dct []])).bind fun k h1 => (fv ev h1).bind fun v h2 => match keyN k, h2[h.length]? with
  | some _, some (.dct []) => .ok (.ref h.length) (h2.set h.length (.dtl [(k, v)]))
  | _, _ => .bad
end
end FL

set_option Elab.async false
set_option linter.all false
set_option maxRecDepth 100000
set_option maxHeartbeats 2000000
/-! FLSD: sorted of a list of things that read as alike data; <<, >>, & of numbers. -/
namespace FL
open PySem PySem.Spec PyProof.Rows L2
/-! ### an insertion sort, the same as the stable one -/
section
variable {α : Type} {le : α → α → Bool}
def insS (le : α → α → Bool) (x : α) : List α → List α
  | [] => [x]
  | y :: l => if le x y then x :: y :: l else y :: insS le x l
def sortS (le : α → α → Bool) : List α → List α
  | [] => []
  | x :: l => insS le x (sortS le l)
end
/-- the order of data -/
def leD (a b : PyData) : Bool := !PySem.W.dataLt b a
def leP (p q : Va × PyData) : Bool := leD p.2 q.2
def nonT : PyData → Bool
  | .none => false
  | .tuple _ => false
  | _ => true
def consT : PyData → Bool
  | .tuple (_ :: _) => true
  | _ => false
def sortable (ds : List PyData) : Bool := ds.all (fun d => ds.all (PySem.W.alike d)) && (ds.all consT || ds.all nonT) && ds.all fun d => decide (d.depth ≤ 60)
/-- sorted of what reads as data -/
def oSortD : OpN := fun ps h => match ps with
  | [.ref l] => (match lstAt h l with
    | some xs => (match toPysF (toPy h depthL) xs with
      | some ds => if sortable ds && decide (xs.length ≤ lim) then some (.ref h.length, h ++ [.lst ((sortS leP (xs.zip ds)).map (·.1))]) else none
      | none => none)
    | none => none)
  | _ => none
def oSortA : OpN := fun ps h => match oSorted ps h with
  | some r => some r
  | none => oSortD ps h
variable [Tabz]
section
variable {X : Cx} {pins : List (Addr × Obj)} {σ : L2.St} {H : Hp} {m : List Addr} {ah : AH} {s : Shared}
/-! ### bits -/
def oShl : Op2 := fun p q h => match p, q with
  | .int i, .int j => if decide (0 ≤ j) && decide (j ≤ 1000) && decide (i.natAbs < 2 ^ 64) then some (.int (i * 2 ^ j.toNat), h) else none
  | _, _ => none
def oShr : Op2 := fun p q h => match p, q with
  | .int i, .int j => if decide (0 ≤ j) && decide (j ≤ 1000) then some (.int (i / 2 ^ j.toNat), h) else none
  | _, _ => none
def oBand : Op2 := fun p q h => match p, q with
  | .int i, .int j => some (.int (Builtin.bitAnd i j), h)
  | _, _ => none
end
end FL

set_option Elab.async false
set_option linter.all false
set_option maxRecDepth 100000
set_option maxHeartbeats 2000000
/-! FLTV: def x(a): try: return a() / except .. as e: .., under several clauses. -/
namespace FL
open PySem PySem.Spec PyProof.Rows L2
variable [Tabz]
def moP (hm : Str → List (Str × Va) → AH → Rs Va) : Rs Va → Rs Va
  | .ok v h => .ok v h
  | .exc c p h => hm c p h
  | .bad => .bad
section
variable {X : Cx} {i : Nat} {n : Str} {hm : Str → List (Str × Va) → AH → Rs Va}
end
end FL

set_option Elab.async false
set_option linter.all false
set_option maxRecDepth 100000
set_option maxHeartbeats 2000000
/-! FLHC: list.count; count, index, == and != without a Room (they stand in except suites, too). -/
namespace FL
open PySem PySem.Spec PyProof.Rows L2
variable [Tabz]
def oCount : OpM := fun v vs h => match v, vs with
  | .ref l, [y] => (match toPy h depthL (.ref l), toPy h depthL y with
    | some (.list ds), some d => if SeqAt.shaped (.list ds) && SeqAt.shaped d && PyData.plainAll ds && d.plain then some (.int ((ds.countP fun z => PyData.eqv z d : Nat) : Int), h) else none
    | _, _ => none)
  | _, _ => none
section
variable {X : Cx} {W : WX} {o e a b : Expr} {fo f g : EF} {ta : AF} {apos cpos pos : Pos}
/-- l.count(x) -/
def rCountD (K : PySem.W.Frag) : V → List V → Hp → VK → Prop := fun x xs H Q => ∃ (a : Addr) (y : V) (d : PyData) (ds : List PyData), x = V.ref a ∧ xs = [y] ∧ Dp K H (V.ref a) (.list ds) ∧ Dp K H y d ∧
  SeqAt.shaped (.list ds) = true ∧ SeqAt.shaped d = true ∧ PyData.plainAll ds = true ∧ d.plain = true ∧ Q (.int ((ds.countP fun z => PyData.eqv z d : Nat) : Int)) H
/-- whole numbers compared, with no Room -/
def oEqI (neg : Bool) : Op2 := fun p q h => match p, q with
  | .int i, .int j => some (.bl (if neg then decide (i ≠ j) else decide (i = j)), h)
  | _, _ => none
end
/-! ### suites that only look at the class -/
section
variable {i : Nat} {a : Addr} {b : Bool} {ev : Ev} {h : AH} {x y z : Bool} {ws : List Va}
end
section
variable {h t : AH} {A : AO} {i : Int} {a b c : Va}
end
end FL

set_option Elab.async false
set_option linter.all false
set_option maxRecDepth 100000
set_option maxHeartbeats 4000000
/-! FLMB: a tuple of one thing, up to 2000 times. -/
namespace FL
open PySem PySem.Spec PyProof.Rows L2
variable [Tabz]
/-- (z,) * k -/
def rOneK (K : PySem.W.Frag) : R2 := fun x y H Q => ∃ l k z, x = .ref l ∧ y = .int k ∧ SqT K H l [z] ∧ 2 ≤ k ∧ k ≤ 2000 ∧ ∀ p, H p = none → Q (.ref p) (upd H p (.tup (List.replicate k.toNat z)))
section
variable {X : Cx}
def oMulB : Op2 := fun p q h => match p, q with
  | .tup [z], .int k => if decide (2 ≤ k) && decide (k ≤ 2000) then some (.tup (List.replicate k.toNat z), h) else none
  | _, _ => none
end
section
variable {X : Cx} {W : WX} {x : Str} {k kk : Nat} {das : List Va} {F : List Va → AH → Rs Va} {p pos : Pos}
/-- a call without arguments -/
theorem me_call0 (C : Cd X.prog X.w X.K X.mg X.base kk x das F) (hr : Room k X.A) (hkk : kk ≤ k) (hgd : X.A.guards = some []) (tk : Takes X W) (hg : Gl X x := by rfl) (hdb : (x == ("__debug__" : Str)) = false := by decide) :
    ME X W (.Call (.Name x p) [] [] pos) (eCall das F aNil) := by
  obtain ⟨f, fd, ps, dvs, ds, G, hm, hk, hb, hd, hda⟩ := C.ex
  refine ⟨⟨fun pins s σ H Q I h => ?_⟩⟩
  have h := Wi.bind (R := VRs X.K) (k := fun _ vs h1 => F (vs ++ das) h1) h
  obtain ⟨m0, ah0, ev0, r0, re0, q0⟩ := h
  obtain ⟨m, ah, ev, pvs, rH, re, rv, q⟩ := q0 m0 H [] .refl r0 .nil
  refine wpAny_Call_Name_kw (ld_glob I hg hm ?_ hdb)
  refine PySem.W.callWith_K0 I.kIn hk ?_
  have hsp : spG X.K X.mg F ([] ++ dvs) H Q (WE W σ) := ⟨m, ah, pvs ++ das, rH, rv.append (hda _ _), q⟩
  have r2 : Vals ([] ++ dvs) ([] ++ ds) := Vals.append .nil hd
  have hl : (([] : List Value) ++ ds).length = ps.length := by rw [← r2.length]; exact G.len _ _ _ _ hsp
  exact after (args := ⟨[], []⟩) G (hr.mono hkk) hgd (hb s [] I.kIn hl) (L2.passAt tk σ) I r2 hsp
end
end FL

set_option Elab.async false
set_option linter.all false
set_option maxRecDepth 100000
set_option maxHeartbeats 2000000
/-! FLOB: instances of own classes: fields read and set, methods, new ones. -/
namespace FL
open PySem PySem.Spec PyProof.Rows L2
variable [Tabz]
section
variable {K : PySem.W.Frag} {H : Hp} {m : List Addr} {ah : AH}
theorem VRf.none {f : Str} : ∀ {xs : List (Str × Va)} {vs : List (Str × V)}, VRf K H m xs vs → xs.lookup f = none → vs.lookup f = none
  | _, _, .nil, _ => rfl
  | (g, y) :: xs, (_, v) :: vs, .cons h hs, e => by
    by_cases q : f = g
    · subst q
      rw [List.lookup_cons_self] at e
      cases e
    · have b : (f == g) = false := beq_eq_false_iff_ne.mpr q
      rw [List.lookup_cons, b] at e ⊢
      exact VRf.none hs e
theorem VRf.length : ∀ {xs : List (Str × Va)} {vs : List (Str × V)}, VRf K H m xs vs → xs.length = vs.length
  | _, _, .nil => rfl
  | _, _, .cons _ hs => by simp [VRf.length hs]
/-- what a class must be for its instances' plain fields -/
structure ClsF (K : PySem.W.Frag) (c : Str) (fs : List Str) : Prop where
  cls : Cls K (He.ga K c)
  non : ∀ f ∈ fs, NoAttr K (He.ga K c) f
end
/-- the fields of the instance that v names, if it is of the class c -/
def insOf (c : Str) (v : Va) (h : AH) : Option (Nat × List (Str × Va)) := match v with
  | .ref l => match h[l]? with
    | some (.ins c' fs) => if c' = c then some (l, fs) else none
    | _ => none
  | _ => none
section
variable {K : PySem.W.Frag} {H : Hp} {m : List Addr} {ah : AH}
end
/-- e.f -/
def eFld (c f : Str) (fe : EF) : EF := fun ev h => (fe ev h).bind fun v h1 => match insOf c v h1 with
  | some (_, fs) => (match fs.lookup f with | some x => .ok x h1 | none => .bad)
  | none => .bad
section
variable {X : Cx} {W : WX} {e o : Expr} {fe fo : EF} {f c : Str} {fl : List Str} {pos pos' : Pos}
/-- o.f = e -/
def sFld1 (c f : Str) (fo fe : EF) : SF := fun ev h => (fe ev h).s ev fun v h1 => (fo ev h1).s ev fun o h2 => match insOf c o h2 with
  | some (l, fs) => if fs.length < 900 then .nx ev (h2.set l (.ins c (putFA f v fs))) else .bad
  | none => .bad
end
/-! ### o.f, o.g, .. = a tuple -/
def putFAs : List Str → List Va → List (Str × Va) → List (Str × Va)
  | f :: fs, x :: xs, r => putFAs fs xs (putFA f x r)
  | _, _, r => r
def putFs : List Str → List V → List (Str × V) → List (Str × V)
  | f :: fs, x :: xs, r => putFs fs xs (putF f x r)
  | _, _, r => r
/-- an attribute of the local variable i as a target -/
def gFld (K : PySem.W.Frag) (i : Nat) (c f : Str) : TG := fun v σ H Q => ∃ a dx fs, σ[i]? = some (some (.ref a)) ∧ H a = some (.ins (He.ga K c) dx fs) ∧ fs.length < 1000 ∧ Q σ (upd H a (.ins (He.ga K c) dx (putF f v fs)))
section
variable {X : Cx} {W : WX} {f c x : Str} {i : Nat} {fl : List Str} {pos pos' : Pos}
end
/-- the fields one after another -/
def gFlds (K : PySem.W.Frag) (i : Nat) (c : Str) : List Str → TGs
  | [] => gNil
  | f :: fs => gCons (gFld K i c f) (gFlds K i c fs)
/-- x.f, x.g, .. = e -/
def sFldN (i : Nat) (c : Str) (fs : List Str) (fe : EF) : SF := fun ev h => (fe ev h).s ev fun v h1 => match v, ev[i]? with
  | .tup xs, some (some o) => (match insOf c o h1 with
    | some (l, r) => if xs.length = fs.length ∧ r.length + fs.length < 900 then .nx ev (h1.set l (.ins c (putFAs fs xs r))) else .bad
    | none => .bad)
  | _, _ => .bad
section
variable {X : Cx} {W : WX} {c x : Str} {i n : Nat} {fl fs : List Str} {pos : Pos} {tg e : Expr} {fe : EF}
end
/-! ### methods -/
/-- a method that may be called -/
structure Cm (P : Program) (w : World) (K : PySem.W.Frag) (mg : Str → Option Value) (base : Heap) (k : Nat) (c mt : Str) (das : List Va) (F : List Va → AH → Rs Va) : Prop where
  cls : Cls K (He.ga K c)
  ex : ∃ (f : Addr) (fd : FuncData) (ps : List Str) (dvs : List V) (ds : List Value), FnG P w K mg base k f fd ps F ∧ Meth K (He.ga K c) mt f ∧ Binds K fd ps ds ∧ Vals dvs ds ∧ ∀ H m, VRs K H m das dvs
/-- o.m(..) -/
def eMeth (c mt : Str) (das : List Va) (F : List Va → AH → Rs Va) (fo : EF) (ta : AF) : EF := fun ev h => (fo ev h).bind fun o h1 => match insOf c o h1 with
  | some (_, fs) => if (fs.lookup mt).isNone then (ta ev h1).bind fun vs h2 => F (o :: (vs ++ das)) h2 else .bad
  | none => .bad
section
variable {X : Cx} {W : WX} {c mt : Str} {k kk : Nat} {das : List Va} {F : List Va → AH → Rs Va} {p pos apos : Pos} {o e : Expr} {es : List Expr} {fo : EF} {ta : AF} {pl : Sem Bool}
end
/-! ### new instances -/
/-- a class that may be called -/
structure Cmk (P : Program) (w : World) (K : PySem.W.Frag) (mg : Str → Option Value) (base : Heap) (k : Nat) (x : Str) (das : List Va) (F : List Va → AH → Rs Va) : Prop where
  glo : mg x = some (.ref (He.ga K x))
  ex : ∃ (f : Addr) (fd : FuncData) (ps : List Str) (dvs : List V) (ds : List Value), FnG P w K mg base k f fd ps F ∧ Mk K (He.ga K x) f ∧ Binds K fd ps ds ∧ Vals dvs ds ∧ ∀ H m, VRs K H m das dvs
def mkF (c : Str) (F : List Va → AH → Rs Va) (vs : List Va) (h : AH) : Rs Va := match F (.ref h.length :: vs) (h ++ [.ins c []]) with
  | .ok .non h2 => .ok (.ref h.length) h2
  | .exc c p a => .exc c p a
  | _ => .bad
/-- C(..) -/
def eMake (c : Str) (das : List Va) (F : List Va → AH → Rs Va) (ta : AF) : EF := fun ev h => (ta ev h).bind fun vs h1 => mkF c F (vs ++ das) h1
section
variable {X : Cx} {W : WX} {x : Str} {k kk : Nat} {das : List Va} {F : List Va → AH → Rs Va} {p pos : Pos} {e : Expr} {es : List Expr} {ta : AF}
end
/-! ### facts of the text, as tests -/
section
variable {K : PySem.W.Frag} {c m : Str} {fs : List Str}
end
/-! ### rules that evaluate -/
section
variable {c f mt : Str} {fe fo : EF} {ta : AF} {ev : Ev} {h : AH} {v o x : Va} {l i : Nat} {fs : List (Str × Va)} {vs das : List Va} {F : List Va → AH → Rs Va} {fl : List Str}
theorem i_ins (e : h[l]? = some (.ins c fs)) : insOf c (.ref l) h = some (l, fs) := by
  unfold insOf
  simp only [e, if_true]
def fld2K (h : AH) : Option Va → Rs Va := fun o => match o with | some x => .ok x h | none => .bad
def fld1K (f : Str) (h : AH) : Option (Nat × List (Str × Va)) → Rs Va := fun o => match o with | some (_, fs) => fld2K h (fs.lookup f) | none => .bad
def fldK (c f : Str) : Rs Va → Rs Va := fun r => r.bind fun v h1 => fld1K f h1 (insOf c v h1)
theorem s_fld : eFld c f fe ev h = fldK c f (fe ev h) := rfl
theorem k_fld : fldK c f (.ok v h) = fld1K f h (insOf c v h) := rfl
theorem k_fld1 : fld1K f h (some (l, fs)) = fld2K h (fs.lookup f) := rfl
theorem k_fld2 : fld2K h (some x) = .ok x h := rfl
def mt2K (das : List Va) (F : List Va → AH → Rs Va) (o : Va) : Rs (List Va) → Rs Va := fun r => r.bind fun vs h2 => F (o :: (vs ++ das)) h2
def mt1K (mt : Str) (das : List Va) (F : List Va → AH → Rs Va) (ta : AF) (ev : Ev) (o : Va) (h : AH) : Option (Nat × List (Str × Va)) → Rs Va := fun w => match w with
  | some (_, fs) => if (fs.lookup mt).isNone then mt2K das F o (ta ev h) else .bad
  | none => .bad
def mtK (c mt : Str) (das : List Va) (F : List Va → AH → Rs Va) (ta : AF) (ev : Ev) : Rs Va → Rs Va := fun r => r.bind fun o h1 => mt1K mt das F ta ev o h1 (insOf c o h1)
theorem s_mt : eMeth c mt das F fo ta ev h = mtK c mt das F ta ev (fo ev h) := rfl
theorem k_mt : mtK c mt das F ta ev (.ok o h) = mt1K mt das F ta ev o h (insOf c o h) := rfl
theorem k_mt2 : mt2K das F o (.ok vs h) = F (o :: (vs ++ das)) h := rfl
def mk2K (l : Nat) : Rs Va → Rs Va := fun r => match r with
  | .ok .non h2 => .ok (.ref l) h2
  | .exc c p a => .exc c p a
  | _ => .bad
def mkK (c : Str) (das : List Va) (F : List Va → AH → Rs Va) : Rs (List Va) → Rs Va := fun r => r.bind fun vs h1 => mkF c F (vs ++ das) h1
theorem s_mk : eMake c das F ta ev h = mkK c das F (ta ev h) := rfl
theorem k_mk : mkK c das F (.ok vs h) = mk2K h.length (F (.ref h.length :: (vs ++ das)) (h ++ [.ins c []])) := rfl
theorem k_mk2 : mk2K l (.ok .non h) = .ok (.ref l) h := rfl
theorem k_mk2X {p : List (Str × Va)} : mk2K l (.exc c p h) = .exc c p h := rfl
def sf2K (c f : Str) (v : Va) (ev : Ev) (h : AH) : Option (Nat × List (Str × Va)) → SR := fun w => match w with
  | some (l, fs) => if fs.length < 900 then .nx ev (h.set l (.ins c (putFA f v fs))) else .bad
  | none => .bad
def sf1K (c f : Str) (v : Va) (ev : Ev) : Rs Va → SR := fun r => r.s ev fun o h2 => sf2K c f v ev h2 (insOf c o h2)
def sfK (c f : Str) (fo : EF) (ev : Ev) : Rs Va → SR := fun r => r.s ev fun v h1 => sf1K c f v ev (fo ev h1)
theorem s_sf : sFld1 c f fo fe ev h = sfK c f fo ev (fe ev h) := rfl
theorem k_sf : sfK c f fo ev (.ok v h) = sf1K c f v ev (fo ev h) := rfl
theorem k_sf1 : sf1K c f v ev (.ok o h) = sf2K c f v ev h (insOf c o h) := rfl
def sfn2K (c : Str) (fl : List Str) (xs : List Va) (ev : Ev) (h : AH) : Option (Nat × List (Str × Va)) → SR := fun w => match w with
  | some (l, r) => if xs.length = fl.length ∧ r.length + fl.length < 900 then .nx ev (h.set l (.ins c (putFAs fl xs r))) else .bad
  | none => .bad
def sfn1K (c : Str) (fl : List Str) (ev : Ev) (v : Va) (h : AH) : Option (Option Va) → SR := fun q => match v, q with
  | .tup xs, some (some o) => sfn2K c fl xs ev h (insOf c o h)
  | _, _ => .bad
def sfnK (i : Nat) (c : Str) (fl : List Str) (ev : Ev) : Rs Va → SR := fun r => r.s ev fun v h1 => sfn1K c fl ev v h1 ev[i]?
theorem s_sfn : sFldN i c fl fe ev h = sfnK i c fl ev (fe ev h) := by
  unfold sFldN sfnK
  cases fe ev h with
  | ok v a =>
    cases v <;> first | rfl | (cases ev[i]? with | none => rfl | some q => cases q <;> rfl)
  | exc c p a => rfl
  | bad => rfl
theorem k_sfn : sfnK i c fl ev (.ok v h) = sfn1K c fl ev v h ev[i]? := rfl
theorem k_sfn1 {xs : List Va} : sfn1K c fl ev (.tup xs) h (some (some o)) = sfn2K c fl xs ev h (insOf c o h) := rfl
end
end FL

set_option Elab.async false
set_option linter.all false
set_option maxRecDepth 100000
set_option maxHeartbeats 2000000
/-! FLDC: dict(a list of pairs), the keys tuples. -/
namespace FL
open PySem PySem.Spec PyProof.Rows L2
variable [Tabz]
def prN : List Va → Option (List (Va × PySem.NestedKey × Va))
  | [] => some []
  | .tup [k, v] :: xs => match keyN k, prN xs with
    | some n, some r => some ((k, n, v) :: r)
    | _, _ => none
  | _ => none
def foldN (acc : List (Va × Va)) (ps : List (Va × PySem.NestedKey × Va)) : List (Va × Va) := ps.foldl (fun acc p => putN acc p.1 p.2.1 p.2.2) acc
def oDictN : OpN := fun vs h => match vs with
  | [.ref l] => (match lstAt h l with
    | some xs => (match prN xs with
      | some ps => if ps.length < lim then some (.ref h.length, h ++ [.dtl (foldN [] ps)]) else none
      | none => none)
    | none => none)
  | _ => none
section
variable {X : Cx} {pins : List (Addr × Obj)} {σ : L2.St} {H : Hp} {s : Shared} {m : List Addr}
/-- the pairs in the machine -/
inductive DtL (K : PySem.W.Frag) (H : Hp) (m : List Addr) : List (Va × PySem.NestedKey × Va) → List (PySem.NestedKey × Addr × Value) → Prop
  | nil : DtL K H m [] []
  | cons {k v : Va} {n : PySem.NestedKey} {b : Addr} {u : Value} {w : V} {ps : List (Va × PySem.NestedKey × Va)} {qs : List (PySem.NestedKey × Addr × Value)} : (nk k = some n ∧ n.depth ≤ 8) → VR K H m k (.ref b) → VR K H m v w → RelV w u → DtL K H m ps qs → DtL K H m ((k, n, v) :: ps) ((n, b, u) :: qs)
theorem DtL.len {K : PySem.W.Frag} : ∀ {ps : List (Va × PySem.NestedKey × Va)} {qs : List (PySem.NestedKey × Addr × Value)}, DtL K H m ps qs → ps.length = qs.length
  | _, _, .nil => rfl
  | _, _, .cons _ _ _ _ h5 => by rw [List.length_cons, List.length_cons, DtL.len h5]
theorem DtL.key {K : PySem.W.Frag} : ∀ {ps : List (Va × PySem.NestedKey × Va)} {qs : List (PySem.NestedKey × Addr × Value)}, DtL K H m ps qs → ∀ x ∈ qs, ∃ p, nk p = some x.1 ∧ x.1.depth ≤ 8 ∧ VR K H m p (.ref x.2.1)
  | _, _, .nil => fun x h => nomatch h
  | _, _, .cons h1 h2 _ _ h5 => fun x h => by
    rcases List.mem_cons.mp h with rfl | h
    · exact ⟨_, h1.1, h1.2, h2⟩
    · exact DtL.key h5 x h
end
end FL

set_option Elab.async false
set_option linter.all false
set_option maxRecDepth 100000
set_option maxHeartbeats 2000000
/-! FLDN: {k: v for .. in ..}, the keys tuples. -/
namespace FL
open PySem PySem.Spec PyProof.Rows L2
variable [Tabz]
section
variable {E : Value → Shared → Prop} {X : Cx} {pins : List (Addr × Obj)} {σ : L2.St} {H : Hp} {s : Shared} {m : List Addr} {D : Addr} {xs : List (PySem.NestedKey × Addr × Value)} {kvs : List (Va × Va)}
end
/-! ### the comprehension -/
section
variable {X : Cx}
def tDcN (wi : TI) (g : TG) (tk tv : TE) (vs : List Nat) : TE := fun σ H Q => wi σ H fun J H1 => ∀ D, H1 D = none → (D == sysModules) = false → ∃ W : Nat → Nat → Hp → Prop, (∃ m, W 0 m (upd H1 D (.ext (phiN D [])))) ∧ ∀ i m H, W i m H →
  (J.stop i H ∧ ∃ xs, H D = some (.ext (phiN D xs)) ∧ Q (.ref D) H) ∨
  (J.go i H ∧ ∃ Nx : Hp → Prop, (∀ H', Nx H' → ∃ m', m' < m ∧ W (i + 1) m' H') ∧ ∀ x H', J.yld i H x H' → g x (wipe σ vs) H' fun σ2 H2 => wipe σ2 vs = wipe σ vs ∧
    tk σ2 H2 fun y H4 => tv σ2 H4 fun z H5 => ∃ ma kvs xs p k b, y = .ref b ∧ H5 D = some (.ext (phiN D xs)) ∧ DtE X.K H5 ma kvs xs ∧ (xs.map (·.1)).Nodup ∧ (nk p = some k ∧ k.depth ≤ 8) ∧ VR X.K H5 ma p (.ref b) ∧ xs.length < sizeLine ∧
      ∀ u, RelV z u → ((storedH xs k b u).map (·.1)).Nodup → Nx (upd H5 D (.ext (phiN D (storedH xs k b u)))))
end
end FL

set_option Elab.async false
set_option linter.all false
set_option maxRecDepth 100000
set_option maxHeartbeats 2000000
/-! FLDE: dicts with tuple keys: {}, len. -/
namespace FL
open PySem PySem.Spec PyProof.Rows L2
variable [Tabz]
/-- {}, to have tuples as keys -/
def eD0N : EF := fun _ h => .ok (.ref h.length) (h ++ [.dtl []])
def tDNewN : TE := fun _ H Q => ∀ p, H p = none → (p == sysModules) = false → Q (.ref p) (upd H p (.ext (phiN p [])))
section
variable {X : Cx} {W : WX} {pos : Pos}
end
def oLenN : OpN := fun vs h => match vs with
  | [.ref l] => (match h[l]? with
    | some (.dtl kvs) => if kvs.length < lim then some (.int (kvs.length : Nat), h) else none
    | _ => oLen vs h)
  | _ => oLen vs h
section
variable {X : Cx}
end
end FL

set_option Elab.async false
set_option linter.all false
set_option maxRecDepth 100000
set_option maxHeartbeats 2000000
/-! FLEQ: list(enumerate(xs)) of a list or a tuple; dict(a list of pairs), the keys whole numbers. -/
namespace FL
open PySem PySem.Spec PyProof.Rows L2 FLZ
variable [Tabz]
section
variable {prog : Program} {wo : World} {A : Around} {E : Value → Shared → Prop} {s : Shared}
/-- an enumerate that has not begun, or whose last pair is held -/
def EqE (h : Heap) (e it : Addr) (c : Int) : Prop := (∃ old, IsEnum h e it c old) ∨ ∃ (old : Value) (T : Addr) (f : Bool) (oT : Obj), IsEnumHeld h e it c old T f ∧ h.get? T = some oT ∧ T ≠ e ∧ T ≠ it
theorem EqE.there {h : Heap} {e it : Addr} {c : Int} (q : EqE h e it c) : ∃ (o : Obj) (w : Value) (f : Bool) (old : Value), h.get? e = some o ∧ o = { cls := .type "enumerate", dict := none, data := .fields #[w, .bool f, .ref it, rawInt c, .none, old], slots := #[] } := by
  rcases q with ⟨old, q⟩ | ⟨old, T, f, oT, q, _⟩
  · exact ⟨_, _, _, _, q, rfl⟩
  · exact ⟨_, _, _, _, q, rfl⟩
end
theorem EqE.keep {h h' : Heap} {e it : Addr} {c : Int} (q : EqE h e it c) (k1 : ∀ o, h.get? e = some o → h'.get? e = some o) (k2 : ∀ b o, h.get? b = some o → ∃ o', h'.get? b = some o') : EqE h' e it c := by
  rcases q with ⟨old, q⟩ | ⟨old, T, f, oT, q, h1, h2, h3⟩
  · exact .inl ⟨old, k1 _ q⟩
  · obtain ⟨o', ho'⟩ := k2 T _ h1
    exact .inr ⟨old, T, f, o', k1 _ q, ho', h2, h3⟩
/-- what a list of an enumerate is -/
def EnTs (xs : List V) (H : Hp) (Ts : List Addr) : Prop := ∀ (j : Nat) (T : Addr), Ts[j]? = some T → ∃ x, xs[j]? = some x ∧ H T = some (.tup [.int (j : Nat), x])
def tLE (ta : TA) (K : PySem.W.Frag) : TE := fun σ H Q => ta σ H fun vs H1 => ∃ a xs, vs = [.ref a] ∧ SqT K H1 a xs ∧ xs.length < sizeLine ∧
  ∀ (p : Addr) (H2 : Hp) (Ts : List Addr), H1 p = none → (∀ (c : Addr) (o : HO), H1 c = some o → H2 c = some o) → H2 p = some (.lst (Ts.map V.ref)) → Ts.length = xs.length → EnTs xs H2 Ts → Q (.ref p) H2
section
variable {X : Cx} {e1 : Expr} {ta : TA} {p pos p2 pos2 : Pos}
end
def enumFr : Nat → List Va → List Va
  | _, [] => []
  | n, x :: xs => .tup [.int (n : Nat), x] :: enumFr (n + 1) xs
def eLE (ta : AF) : EF := fun ev h => (ta ev h).bind fun vs h1 => match vs with
  | [.tup xs] => if xs.length < lim then .ok (.ref h1.length) (h1 ++ [.lst (enumFr 0 xs)]) else .bad
  | _ => .bad
section
variable {X : Cx} {W : WX} {e1 : Expr} {ta : AF} {p pos p2 pos2 : Pos}
end
/-! ### dict(pairs with whole numbers as keys) -/
def prI : List Va → Option (List (Int × Va))
  | [] => some []
  | .tup [.int i, v] :: xs => (prI xs).map ((i, v) :: ·)
  | _ => none
def foldA (acc : List (Va × Va)) (ps : List (Int × Va)) : List (Va × Va) := ps.foldl (fun acc p => putA acc p.1 p.2) acc
def oDictI : OpN := fun vs h => match vs with
  | [.ref l] => (match lstAt h l with
    | some xs => (match prI xs with
      | some ps => some (.ref h.length, h ++ [.dct (foldA [] ps)])
      | none => none)
    | none => none)
  | _ => none
section
variable {X : Cx}
end
end FL

set_option Elab.async false
set_option linter.all false
set_option maxRecDepth 100000
set_option maxHeartbeats 2000000
/-! FLDV: [d[k] for k in d], [d[k] + e for k in d]: dicts of whole numbers walked by their keys (the dict is locked meanwhile; e does not use it). -/
namespace FL
open PySem PySem.Spec PyProof.Rows L2
variable [Tabz]
def intsD : List (Va × Va) → Option (List (Int × Int))
  | [] => some []
  | (.int k, .int v) :: r => (intsD r).map ((k, v) :: ·)
  | _ => none
def psI (ps : List (Int × Int)) : List (L2.Key × V) := ps.map fun p => (.inl p.1, .int p.2)
/-- d[k] of the locked dict -/
def eFz (ks : Nat) (ps : List (Int × Int)) : EF := fun ev h => match ev[ks]? with
  | some (some (.int k)) => (match ps.find? fun p => decide (p.1 = k) with | some p => .ok (.int p.2) h | none => .bad)
  | _ => .bad
def kI (ps : List (Int × Int)) : List Va := ps.map fun p => Va.int p.1
def eLcD (j : Nat) (g : GF) (el : List (Int × Int) → EF) (vs : List Nat) : EF := fun ev h => match ev[j]? with
  | some (some (.ref l)) => (match h[l]? with
    | some (.dct kvs) => (match intsD kvs with
      | some ps => if ps.length < lim then (match compF [] g tYesF (el ps) (ewipe (plainEv ev) vs) (kI ps) [] with
        | .ok ys _ => if inRs 0 ys then .ok (.ref h.length) (h ++ [.lst ys]) else .bad
        | _ => .bad) else .bad
      | none => .bad)
    | _ => .bad)
  | _ => .bad
section
variable {K : PySem.W.Frag} {H : Hp} {m : List Addr}
end
/-- what is read of an element -/
def teD (K : PySem.W.Frag) (mg : Str → Option Value) (j : Nat) (el : List (Int × Int) → EF) : TE := fun σ H Q => ∃ d od ps, σ[j]? = some (some (V.ref d)) ∧ H d = some (.frz od (.dK (psI ps))) ∧ Wi K mg (VR K) WN (el ps) σ H Q
section
variable {X : Cx} {dn kn : Str} {p1 p2 pos : Pos} {j ks : Nat} {r : Expr} {g : EF}
end
section
variable {X : Cx} {W : WX} {tg elt : Expr} {scope : Scope} {own : List (Str × Nat)} {pos np : Pos} {g : GF} {el : List (Int × Int) → EF} {j : Nat} {n : Str}
end
end FL

set_option Elab.async false
set_option linter.all false
set_option maxRecDepth 100000
set_option maxHeartbeats 2000000
/-! FLDX: {k: v for .. in ..}, the keys tuples (a name), the value a name or a constant; sorted(d) of such a dict. -/
namespace FL
open PySem PySem.Spec PyProof.Rows L2
variable [Tabz]
def dcFN (gs : List (Nat × List Va)) (g : GF) (ik : Nat) (fv : Ev → Option Va) (ev0 : Ev) (h : AH) : List Va → List (Va × Va) → Option (List (Va × Va))
  | [], acc => if gsOk gs h then some acc else none
  | x :: xs, acc => if gsOk gs h then match g x ev0 with
      | none => none
      | some ev1 => match ev1[ik]?, fv ev1 with
        | some (some p), some y => match keyN p with
          | some k => dcFN gs g ik fv ev0 h xs (putN acc p k y)
          | none => none
        | _, _ => none
    else none
def dcKN (g : GF) (ik : Nat) (fv : Ev → Option Va) (vs : List Nat) (ev : Ev) : Src → AH → Rs Va := fun s h1 =>
  if s.items.length < lim then match dcFN s.gs g ik fv (ewipe ev vs) h1 s.items [] with
    | some kvs => .ok (.ref h1.length) (h1 ++ [.dtl kvs])
    | none => .bad
  else .bad
def eDcN (i : IF) (g : GF) (ik : Nat) (fv : Ev → Option Va) (vs : List Nat) : EF := fun ev h => (i ev h).bind (dcKN g ik fv vs ev)
/-- the value: a name, a constant -/
def fvN (iv : Nat) : Ev → Option Va := fun ev => match ev[iv]? with
  | some (some y) => some y
  | _ => none
def fvC (c : Va) : Ev → Option Va := fun _ => some c
section
variable {K : PySem.W.Frag} {H : Hp} {m : List Addr} {D : Addr}
end
section
variable {X : Cx} {W : WX} {tg iter : Expr} {scope : Scope} {own : List (Str × Nat)} {pos : Pos} {fi : IF} {g : GF} {ik : Nat} {fv : Ev → Option Va} {tv : TE}
end
end FL

set_option Elab.async false
set_option linter.all false
set_option maxRecDepth 100000
set_option maxHeartbeats 2000000
/-! FLDS: sorted(d), list(d) of a dict with tuple keys. -/
namespace FL
open PySem PySem.Spec PyProof.Rows L2 PySem.Calls PySem.W
variable [Tabz]
def oSortK : OpN := fun ps h => match ps with
  | [.ref l] => (match h[l]? with
    | some (.dtl kvs) => (match toPysF (toPy h depthL) (kvs.map (·.1)) with
      | some ds => if sortable ds && decide (kvs.length ≤ lim) then some (.ref h.length, h ++ [.lst ((sortS leP ((kvs.map (·.1)).zip ds)).map (·.1))]) else none
      | none => none)
    | _ => oSortA ps h)
  | _ => oSortA ps h
section
variable {X : Cx} {pins : List (Addr × Obj)} {σ : L2.St} {H : Hp} {m : List Addr} {ah : AH} {s : Shared}
end
end FL

set_option Elab.async false
set_option linter.all false
set_option maxRecDepth 100000
set_option maxHeartbeats 2000000
/-! FLTJ: try: .. except C as n: return A if n.f == k else B, with constants A and B. -/
namespace FL
open PySem PySem.Spec PyProof.Rows L2
variable [Tabz]
section
variable {X : Cx} {W : WX} {C fI : Addr} {x f : Str} {bm : List Value} {newId : String}
def xfJ (f : Str) (k : Int) (c1 c2 : Va) (h : AH) : List (Str × Va) → SR
  | [(y, .int v)] => if y = f then .rt (if v = k then c1 else c2) h else .bad
  | _ => .bad
def tryJ (i : Nat) (x f : Str) (k : Int) (c1 c2 : Va) : SR → SR
  | .exc cl p ev h => if cl = x ∧ i < ev.length then xfJ f k c1 c2 h p else .bad
  | r => r
def sTryJ (i : Nat) (x f : Str) (k : Int) (c1 c2 : Va) (b : SF) : SF := fun ev h => tryJ i x f k c1 c2 (b ev h)
end
section
variable {h : AH} {ev : Ev} {f x cl : Str} {v k : Int} {i : Nat} {b : SF} {w c1 c2 : Va}
end
end FL

set_option Elab.async false
set_option linter.all false
set_option maxRecDepth 100000
set_option maxHeartbeats 2000000
/-! FLDY: name = {k: v for .. in ..} on one line, the keys tuples. -/
namespace FL
open PySem PySem.Spec PyProof.Rows L2
variable [Tabz]
section
variable {X : Cx} {W : WX} {tg iter : Expr} {scope : Scope} {own : List (Str × Nat)} {pos : Pos} {fi : IF} {g : GF} {ik : Nat} {fv : Ev → Option Va}
end
end FL

set_option Elab.async false
set_option linter.all false
set_option maxRecDepth 100000
set_option maxHeartbeats 2000000
/-! FLTM: try: .. except C as n: return -c * n.f, with a constant c. -/
namespace FL
open PySem PySem.Spec PyProof.Rows L2
variable [Tabz]
section
variable {X : Cx} {W : WX} {C fI : Addr} {x f : Str} {bm : List Value} {newId : String}
def xfM (f : Str) (c : Int) (h : AH) : List (Str × Va) → SR
  | [(y, .int v)] => if y = f then .rt (.int (-c * v)) h else .bad
  | _ => .bad
def tryM (i : Nat) (x f : Str) (c : Int) : SR → SR
  | .exc cl p ev h => if cl = x ∧ i < ev.length then xfM f c h p else .bad
  | r => r
def sTryM (i : Nat) (x f : Str) (c : Int) (b : SF) : SF := fun ev h => tryM i x f c (b ev h)
end
section
variable {h : AH} {ev : Ev} {f x cl : Str} {v c : Int} {i : Nat} {b : SF} {w : Va}
end
end FL

set_option Elab.async false
set_option linter.all false
set_option maxRecDepth 100000
set_option maxHeartbeats 2000000
/-! FLIK: dicts with keys that are ints: k in d, k not in d, d[k]. -/
namespace FL
open PySem PySem.Spec PyProof.Rows L2
def getA (kvs : List (Va × Va)) (i : Int) : Option Va := (kvs.find? fun p => isI i p.1).map (·.2)
def oDGet : Op2 := fun p q h => match p, q with
  | .ref l, .int i => match h[l]? with
    | some (.dct kvs) => (getA kvs i).map fun v => (v, h)
    | _ => none
  | _, _ => none
def oDInn (neg : Bool) : Op2 := fun p q h => match p, q with
  | .int i, .ref l => match h[l]? with
    | some (.dct kvs) => some (.bl (if neg then !(getA kvs i).isSome else (getA kvs i).isSome), h)
    | _ => none
  | _, _ => none
abbrev oDIn : Op2 := oDInn false
abbrev oDNotIn : Op2 := oDInn true
variable [Tabz]
section
variable {K : PySem.W.Frag} {H : Hp} {m : List Addr}
end
section
variable {X : Cx} {W : WX} {a b : Expr} {f g : EF} {pos : Pos}
end
end FL

set_option Elab.async false
set_option linter.all false
set_option maxRecDepth 100000
set_option maxHeartbeats 2000000
/-! FLGD: dicts with whole numbers as keys: d.get(k, x), d.setdefault(k, x), {k: v for .. in ..}. -/
namespace FL
open PySem PySem.Spec PyProof.Rows L2
variable [Tabz]
section
variable {K : PySem.W.Frag} {H H' : Hp} {m : List Addr}
theorem sqT_offk (e : ∀ b o, H b = some o → (∀ vs, o ≠ .dK vs) → H' b = some o) {a : Addr} {vs : List V} (h : SqT K H a vs) : SqT K H' a vs := by
  rcases h with (h | ⟨o, h⟩) | h
  · exact .inl (.inl (e _ _ h (fun _ z => nomatch z)))
  · exact .inl (.inr ⟨o, e _ _ h (fun _ z => nomatch z)⟩)
  · exact .inr h
theorem fz_offk (e : ∀ b o, H b = some o → (∀ vs, o ≠ .dK vs) → H' b = some o) {a : Addr} {vs : List V} (h : Fz K H a vs) : Fz K H' a vs := by
  rcases h with ⟨o, h⟩ | h
  · exact .inl ⟨o, e _ _ h (fun _ z => nomatch z)⟩
  · exact .inr h
theorem sqN_offk (e : ∀ b o, H b = some o → (∀ vs, o ≠ .dK vs) → H' b = some o) {a : Addr} {vs : List V} (h : SqN H a vs) : SqN H' a vs := let ⟨o, h, d⟩ := h; ⟨o, e _ _ h (fun _ z => nomatch z), d⟩
mutual
theorem VR.offk (e : ∀ b o, H b = some o → (∀ vs, o ≠ .dK vs) → H' b = some o) : ∀ {x : Va} {v : V}, VR K H m x v → VR K H' m x v
  | _, _, .non => .non
  | _, _, .bl b => .bl b
  | _, _, .int i => .int i
  | _, _, .str x => .str x
  | _, _, .rp d => .rp d
  | _, _, .ref h => .ref h
  | _, _, .tup h hs => .tup (sqT_offk e h) (VRs.offk e hs)
  | _, _, .rol h hs => .rol (fz_offk e h) (VRs.offk e hs)
  | _, _, .dv h => .dv (h.to (fun _ _ z => e _ _ z (fun _ z => nomatch z)) fun _ _ => sqT_offk e)
  | _, _, .exo a => .exo a
  | _, _, .exn h g => .exn (e _ _ h (fun _ z => nomatch z)) (VR.offk e g)
  | _, _, .tud h hs => .tud (sqN_offk e h) (VRs.offk e hs)
theorem VRs.offk (e : ∀ b o, H b = some o → (∀ vs, o ≠ .dK vs) → H' b = some o) : ∀ {xs : List Va} {vs : List V}, VRs K H m xs vs → VRs K H' m xs vs
  | _, _, .nil => .nil
  | _, _, .cons h hs => .cons (VR.offk e h) (VRs.offk e hs)
end
end
def isDct (d : Va) (h : AH) : Bool := match d with
  | .ref l => match h[l]? with
    | some (.dct _) => true
    | _ => false
  | _ => false
/-! ### d.get(k, x) -/
def dgetF (d i z : Va) (h : AH) : Option Va := match d, i with
  | .ref l, .int k => match h[l]? with
    | some (.dct kvs) => some ((getA kvs k).getD z)
    | _ => none
  | _, _ => none
def eDGet2 (fo fk fz : EF) : EF := fun ev h => (fo ev h).bind fun d h1 => if isDct d h1 then (fk ev h1).bind fun i h2 => (fz ev h2).bind fun z h3 => match dgetF d i z h3 with
  | some v => .ok v h3
  | none => .bad else .bad
/-! ### d.setdefault(k, x) -/
def dsetF (d i z : Va) (h : AH) : Option (Va × AH) := match d, i with
  | .ref l, .int k => match h[l]? with
    | some (.dct kvs) => if kvs.length < lim then (match getA kvs k with
      | some v => some (v, h)
      | none => some (z, h.set l (.dct (putA kvs k z)))) else none
    | _ => none
  | _, _ => none
def eDSet2 (fo fk fz : EF) : EF := fun ev h => (fo ev h).bind fun d h1 => if isDct d h1 then (fk ev h1).bind fun i h2 => (fz ev h2).bind fun z h3 => match dsetF d i z h3 with
  | some p => .ok p.1 p.2
  | none => .bad else .bad
section
variable {X : Cx} {W : WX} {o e f : Expr} {apos cpos : Pos} {fo fk fz : EF}
end
/-! ### {k: v for .. in ..}, the keys whole numbers (a name), the value told by the names alone -/
def dcFI (gs : List (Nat × List Va)) (g : GF) (ik : Nat) (fv : Ev → Option Va) (ev0 : Ev) (h : AH) : List Va → List (Va × Va) → Option (List (Va × Va))
  | [], acc => if gsOk gs h then some acc else none
  | x :: xs, acc => if gsOk gs h then match g x ev0 with
      | none => none
      | some ev1 => match ev1[ik]?, fv ev1 with
        | some (some (.int i)), some y => dcFI gs g ik fv ev0 h xs (putA acc i y)
        | _, _ => none
    else none
def dcKI (g : GF) (ik : Nat) (fv : Ev → Option Va) (vs : List Nat) (ev : Ev) : Src → AH → Rs Va := fun s h1 =>
  if s.items.length < lim then match dcFI s.gs g ik fv (ewipe ev vs) h1 s.items [] with
    | some kvs => .ok (.ref h1.length) (h1 ++ [.dct kvs])
    | none => .bad
  else .bad
def eDcI (i : IF) (g : GF) (ik : Nat) (fv : Ev → Option Va) (vs : List Nat) : EF := fun ev h => (i ev h).bind (dcKI g ik fv vs ev)
/-- the value: a pair of a name and the empty tuple -/
def fvNE (iv : Nat) : Ev → Option Va := fun ev => match ev[iv]? with
  | some (some y) => some (.tup [y, .tup []])
  | _ => none
section
variable {X : Cx} {W : WX} {tg iter : Expr} {scope : Scope} {own : List (Str × Nat)} {pos : Pos} {fi : IF} {g : GF} {ik : Nat} {fv : Ev → Option Va} {tv : TE}
end
/-! the rules of evaluation -/
section
variable {fo fk fz : EF} {ev : Ev} {h : AH} {d i z : Va} {F : Va → AH → Rs Va}
end
end FL

set_option Elab.async false
set_option linter.all false
set_option maxRecDepth 100000
set_option maxHeartbeats 2000000
/-! FLZL: list(zip(xs, ys)) of two tuples. -/
namespace FL
open PySem PySem.Spec PyProof.Rows L2 RZ
variable [Tabz]
def ZStT (h : Heap) (z TI TO i1 i2 a b : Addr) (i : Nat) : Prop := (∃ w f, IsZA h z TI TO w f ∧ OutW w) ∧ IsPair h TI (.ref i1) (.ref i2) ∧ (∃ x y, IsPair h TO x y) ∧ h.IsTupleIter i1 a i ∧ h.IsTupleIter i2 b i
theorem ZStT.keep {h h' : Heap} {z TI TO i1 i2 a b : Addr} {i : Nat} (st : ZStT h z TI TO i1 i2 a b i) (k : ∀ c ∈ [z, TI, TO, i1, i2], ∀ o, h.get? c = some o → h'.get? c = some o) : ZStT h' z TI TO i1 i2 a b i := by
  obtain ⟨⟨w, f, hz, ow⟩, hTI, ⟨x, y, hTO⟩, h1, h2⟩ := st
  exact ⟨⟨w, f, k z (by simp) _ hz, ow⟩, k TI (by simp) _ hTI, ⟨x, y, k TO (by simp) _ hTO⟩, h1.at fun o q => k i1 (by simp) o q, h2.at fun o q => k i2 (by simp) o q⟩
def tLZT (K : PySem.W.Frag) (ta : TA) : TE := fun σ H Q => ta σ H fun vs H1 => ∃ a b xs ys, vs = [.ref a, .ref b] ∧ SqT K H1 a xs ∧ SqT K H1 b ys ∧ min xs.length ys.length < sizeLine ∧
  ∀ (p : Addr) (H2 : Hp) (Ts : List Addr), H1 p = none → (∀ (c : Addr) (o : HO), H1 c = some o → H2 c = some o) → H2 p = some (.lst (Ts.map V.ref)) → Ts.length = min xs.length ys.length → ZipTs xs ys H2 Ts → Q (.ref p) H2
section
variable {X : Cx} {e1 e2 : Expr} {ta : TA} {p pos p2 pos2 : Pos}
end
def eLZT (ta : AF) : EF := fun ev h => (ta ev h).bind fun vs h1 => match vs with
  | [.tup xs, .tup ys] => if xs.length < lim then .ok (.ref h1.length) (h1 ++ [.lst (zipF xs ys)]) else .bad
  | _ => .bad
section
variable {X : Cx} {W : WX} {e1 e2 : Expr} {ta : AF} {p pos p2 pos2 : Pos}
end
section
variable {X : Cx} {W : WX} {tg iter : Expr} {scope : Scope} {own : List (Str × Nat)} {pos : Pos} {fi : IF} {g : GF} {ik : Nat} {fv : Ev → Option Va}
end
end FL

set_option Elab.async false
set_option linter.all false
set_option maxRecDepth 100000
set_option maxHeartbeats 2000000
/-! FLMK: lambdas with one parameter as keys: max(xs, key=lambda x: ..). -/
namespace FL
open PySem PySem.Spec PyProof.Rows L2 LamX
variable [Tabz]
/-- one parameter, no other name of its own -/
structure LamP (sc scope : Scope) (p : Str) : Prop where
  kind : scope.kind = .function
  co : scope.isCoroutine = false
  gen : scope.isGenerator = false
  own : ∀ y ∈ scope.names, y.2 ≠ .cell ∧ (y.2 = .local → y.1 = p)
  par : scope.names.lookup p = some .local
  free : ∀ y ∈ scope.names, y.2 = .free → sc.names.lookup y.1 = some .cell ∨ sc.names.lookup y.1 = some .free
def lamPB (sc scope : Scope) (p : Str) : Bool :=
  decide (scope.kind = .function) && !scope.isCoroutine && !scope.isGenerator && decide (scope.names.lookup p = some .local) && scope.names.all fun y => !decide (y.2 = .cell) && (!decide (y.2 = .local) || decide (y.1 = p)) && (!decide (y.2 = .free) || decide (sc.names.lookup y.1 = some .cell) || decide (sc.names.lookup y.1 = some .free))
theorem LamP.has {X : Cx} {scope : Scope} {p : Str} (L : LamP X.env.scope scope p) (ok : X.Ok) : ∀ y ∈ scope.names, y.2 = .free → ∃ c, X.env.cells.lookup y.1 = some c := fun y hy e => by
  rcases L.free y hy e with k | k
  · exact ok.has _ (.inl k)
  · exact ok.has _ (.inr k)
section
variable {X : Cx} {pins : List (Addr × Obj)} {σ : L2.St} {HZ : Hp} {s1 : Shared}
end
/-! ### max(xs, key=f): f called by turns -/
section
variable {X : Cx} {pins : List (Addr × Obj)} {σ : L2.St} {xs : List V} {a f it S : Addr} {fo : Obj} {kf : Nat → Int} {RH : Hp → Prop} {R : Result → Shared → Prop}
/-- what stays true between turns -/
structure MkJ (X : Cx) (pins : List (Addr × Obj)) (σ : L2.St) (RH : Hp → Prop) (it S f : Addr) (fo : Obj) (H : Hp) (s : Shared) : Prop where
  r : RH H
  i : Inv X pins σ H s
  ni : H it = none
  ns : H S = none
  fo : s.heap.get? f = some fo
  nf : H f = none
/-- f, called with an item -/
def MkT (X : Cx) (σ : L2.St) (xs : List V) (RH : Hp → Prop) (f : Addr) (fo : Obj) (kf : Nat → Int) : Prop := ∀ (i : Nat) (x : V) (u : Value) (H : Hp) (s : Shared) (pins : List (Addr × Obj)) (Ex : Value → Shared → Prop),
  xs[i]? = some x → L2.RelV x u → RH H → Inv X pins σ H s → s.heap.get? f = some fo → wpAny (model X.prog X.w) X.A.in1 (call (.ref f) [u]) (EP X pins σ (fun k H2 => k = .int (kf i) ∧ RH H2)) Ex s
end
/-! ### what it means -/
/-- the first of the greatest -/
def fstMax (ks : List Int) : Option Nat := (List.range ks.length).find? fun i => ks.all fun k => decide (k ≤ ks.getD i 0)
def allK (kf : Int → Option Int) : List Va → Option (List (Int × Int))
  | [] => some []
  | .int i :: xs => (match kf i, allK kf xs with
    | some k, some ks => some ((i, k) :: ks)
    | _, _ => none)
  | _ :: _ => none
def eMaxK (ta : AF) (kf : Ev → AH → Int → Option Int) : EF := fun ev h => (ta ev h).bind fun vs h1 => match vs with
  | [.ref l] => (match lstAt h1 l with
    | some xs => (match allK (kf ev h1) xs with
      | some ps => (match (fstMax (ps.map (·.2))).bind fun i => ps[i]? with
        | some p => .ok (.int p.1) h1
        | none => .bad)
      | none => .bad)
    | none => .bad)
  | _ => .bad
section
variable {X : Cx} {W : WX} {ta : AF} {kf : Ev → AH → Int → Option Int} {el : EF} {ip k : Nat} {xp : Str} {e1 : Expr} {kws : List Keyword} {params : Arguments} {body : Expr} {scope : Scope} {p lpos pos : Pos} {c P : Addr}
/-- the key: a number of a list -/
def kIx (iy : Nat) : Ev → AH → Int → Option Int := fun ev h i => match ev[iy]? with
  | some (some (.ref l)) => (match lstAt h l with
    | some xs => (match atI xs i with
      | some (.int r) => some r
      | _ => none)
    | none => none)
  | _ => none
end
/-! ### try: .. except C as n: return n.f if isinstance(n, D) else None, D a class of C -/
section
variable {X : Cx} {W : WX} {C fI : Addr} {x f : Str} {bm : List Value} {newId : String}
def tWhen (P : Prop) (t : TE) : TE := fun σ H Q => P ∧ t σ H Q
def tIsX (i : Nat) (a : Addr) (d : Option Addr) (b : Bool) : TE := fun σ H Q => σ[i]? = some (some (.ref a)) ∧ (∀ dd, d = some dd → ∃ fs, H dd = some (.xd fs)) ∧ Q (.bl b) H
end
end FL

set_option Elab.async false
set_option linter.all false
set_option maxRecDepth 100000
set_option maxHeartbeats 2000000
/-! FLRD: d.setdefault(k, x), the keys tuples; a def with two meanings. -/
namespace FL
open PySem PySem.Spec PyProof.Rows L2
variable [Tabz]
/-- a def that is evaluated in two ways: which, tell the values handed in -/
def altF (c : List Va → Bool) (F G : List Va → AH → Rs Va) : List Va → AH → Rs Va := fun vs h => if c vs then F vs h else G vs h
/-- the first value is a tuple -/
def isTupV : List Va → Bool
  | .tup _ :: _ => true
  | _ => false
/-! ### d.setdefault(k, x), the keys tuples -/
def isDtl (d : Va) (h : AH) : Bool := match d with
  | .ref l => match h[l]? with
    | some (.dtl _) => true
    | _ => false
  | _ => false
def dsetNF (d i z : Va) (h : AH) : Option (Va × AH) := match d with
  | .ref l => match h[l]? with
    | some (.dtl kvs) => match keyN i with
      | some k => if kvs.length < lim then (match findN kvs k with
        | some v => some (v, h)
        | none => some (z, h.set l (.dtl (putN kvs i k z)))) else none
      | none => none
    | _ => none
  | _ => none
def eDSet2N (fo fk fz : EF) : EF := fun ev h => (fo ev h).bind fun d h1 => if isDtl d h1 then (fk ev h1).bind fun i h2 => (fz ev h2).bind fun z h3 => match dsetNF d i z h3 with
  | some p => .ok p.1 p.2
  | none => .bad else .bad
section
variable {X : Cx} {pins : List (Addr × Obj)} {σ : L2.St} {H : Hp} {s : Shared} {m : List Addr} {ah : AH} {a : Addr} {kvs : List (Va × Va)} {xs : List (PySem.NestedKey × Addr × Value)} {A : Around} {E : Value → Shared → Prop}
end
def rDSetN (K : PySem.W.Frag) (x y v : V) (H : Hp) (Q : V → Hp → Prop) : Prop := ∃ m ah p q z w ah', HR K H m ah ∧ VR K H m p x ∧ VR K H m q y ∧ VR K H m z v ∧ dsetNF p q z ah = some (w, ah') ∧ ∀ H' v', HR K H' m ah' → Ext m H m H' → VR K H' m w v' → Q v' H'
def tDSetN (K : PySem.W.Frag) (td ty tx : TE) : TE := fun σ H Q => td σ H fun x H1 => (∃ (m : List Addr) (ah : AH) (l : Nat) (a : Addr) (kvs : List (Va × Va)), x = V.ref a ∧ HR K H1 m ah ∧ m[l]? = some a ∧ ah[l]? = some (AO.dtl kvs)) ∧ ty σ H1 fun y H2 => tx σ H2 fun z H3 => rDSetN K x y z H3 Q
section
variable {X : Cx} {W : WX} {o e f : Expr} {td ty tx : TE} {apos cpos : Pos} {fo fk fz : EF}
end
end FL

set_option Elab.async false
set_option linter.all false
set_option maxRecDepth 100000
set_option maxHeartbeats 2000000
/-! FLRC: {xs[a]: b for .. in ..}, the keys whole numbers. -/
namespace FL
open PySem PySem.Spec PyProof.Rows L2
variable [Tabz]
/-! ### {e: v for .. in ..}, e a whole number read without a change of the heap -/
def dcFE (gs : List (Nat × List Va)) (g : GF) (fk : Ev → AH → Option Int) (fv : Ev → Option Va) (ev0 : Ev) (h : AH) : List Va → List (Va × Va) → Option (List (Va × Va))
  | [], acc => if gsOk gs h then some acc else none
  | x :: xs, acc => if gsOk gs h then match g x ev0 with
      | none => none
      | some ev1 => match fk ev1 h, fv ev1 with
        | some i, some y => dcFE gs g fk fv ev0 h xs (putA acc i y)
        | _, _ => none
    else none
def dcKE (g : GF) (fk : Ev → AH → Option Int) (fv : Ev → Option Va) (vs : List Nat) (ev : Ev) : Src → AH → Rs Va := fun s h1 =>
  if s.items.length < lim then match dcFE s.gs g fk fv (ewipe ev vs) h1 s.items [] with
    | some kvs => .ok (.ref h1.length) (h1 ++ [.dct kvs])
    | none => .bad
  else .bad
def eDcE (i : IF) (g : GF) (fk : Ev → AH → Option Int) (fv : Ev → Option Va) (vs : List Nat) : EF := fun ev h => (i ev h).bind (dcKE g fk fv vs ev)
/-- the value: a name -/
def fvNm (iv : Nat) : Ev → Option Va := fun ev => match ev[iv]? with
  | some (some y) => some y
  | _ => none
/-- the key: an item of a list of whole numbers -/
def fkIx (iy ip : Nat) : Ev → AH → Option Int := fun ev h => match ev[ip]? with
  | some (some (.int i)) => kIx iy ev h i
  | _ => none
section
variable {X : Cx} {W : WX} {tg iter : Expr} {scope : Scope} {own : List (Str × Nat)} {pos : Pos} {fi : IF} {g : GF} {fk : Ev → AH → Option Int} {fv : Ev → Option Va} {tk tv : TE}
end
end FL

set_option Elab.async false
set_option linter.all false
set_option maxRecDepth 100000
set_option maxHeartbeats 2000000
/-! FLRS: len({x for .. in ..}), the x whole numbers. -/
namespace FL
open PySem PySem.Spec PyProof.Rows L2 PpSet
variable [Tabz]
/-- the empty set of whole numbers, and the set with one more -/
def so0 (w : World) (D : Addr) : HO := SetO w D (fun _ => false) 0
def so1 (w : World) (D : Addr) (S : Int → Bool) (n : Nat) (k : Int) : HO := SetO w D (fun j => S j || decide (j = k)) (if S k = true then n else n + 1)
/-- {e for t in it}: a set D of whole numbers, grown item by item -/
def tSetI (w : World) (ti : TI) (tg : TG) (te : TE) (own : List Nat) : TE := fun σ H Q => ti σ H fun J H1 => ∀ D, H1 D = none → ∃ (Z : Nat → Nat → Hp → Prop) (m0 : Nat), Z 0 m0 (upd H1 D (so0 w D)) ∧
  ∀ i k G, Z i k G → (J.stop i G ∧ Q (.ref D) G) ∨ (J.go i G ∧ ∃ N : Hp → Prop, (∀ G', N G' → ∃ k', k' < k ∧ Z (i + 1) k' G') ∧
    ∀ x G1, J.yld i G x G1 → tg x (wipe σ own) G1 fun σ2 G2 => wipe σ2 own = wipe σ own ∧ te σ2 G2 fun y G3 => ∃ (c : Int) (S : Int → Bool) (n : Nat), y = .int c ∧ G3 D = some (SetO w D S n) ∧ n + 1 < scanBound ∧ N (upd G3 D (so1 w D S n c)))
section
variable {X : Cx}
/-- len of a set of whole numbers -/
def tLenZ (w : World) (ta : TE) : TE := fun σ H Q => ta σ H fun x H1 => ∃ D S n, x = .ref D ∧ H1 D = some (SetO w D S n) ∧ Q (.int (n : Nat)) H1
end
/-! ### in the layer -/
section
variable {K : PySem.W.Frag} {H H' : Hp} {m : List Addr}
theorem sqT_offx (e : ∀ b o, H b = some o → (∀ φ, o ≠ .ext φ) → H' b = some o) {a : Addr} {vs : List V} (h : SqT K H a vs) : SqT K H' a vs := by
  rcases h with (h | ⟨o, h⟩) | h
  · exact .inl (.inl (e _ _ h (fun _ z => nomatch z)))
  · exact .inl (.inr ⟨o, e _ _ h (fun _ z => nomatch z)⟩)
  · exact .inr h
theorem fz_offx (e : ∀ b o, H b = some o → (∀ φ, o ≠ .ext φ) → H' b = some o) {a : Addr} {vs : List V} (h : Fz K H a vs) : Fz K H' a vs := by
  rcases h with ⟨o, h⟩ | h
  · exact .inl ⟨o, e _ _ h (fun _ z => nomatch z)⟩
  · exact .inr h
theorem sqN_offx (e : ∀ b o, H b = some o → (∀ φ, o ≠ .ext φ) → H' b = some o) {a : Addr} {vs : List V} (h : SqN H a vs) : SqN H' a vs := let ⟨o, h, d⟩ := h; ⟨o, e _ _ h (fun _ z => nomatch z), d⟩
mutual
theorem VR.offx (e : ∀ b o, H b = some o → (∀ φ, o ≠ .ext φ) → H' b = some o) : ∀ {x : Va} {v : V}, VR K H m x v → VR K H' m x v
  | _, _, .non => .non
  | _, _, .bl b => .bl b
  | _, _, .int i => .int i
  | _, _, .str x => .str x
  | _, _, .rp d => .rp d
  | _, _, .ref h => .ref h
  | _, _, .tup h hs => .tup (sqT_offx e h) (VRs.offx e hs)
  | _, _, .rol h hs => .rol (fz_offx e h) (VRs.offx e hs)
  | _, _, .dv h => .dv (h.to (fun _ _ z => e _ _ z (fun _ z => nomatch z)) fun _ _ => sqT_offx e)
  | _, _, .exo a => .exo a
  | _, _, .exn h g => .exn (e _ _ h (fun _ z => nomatch z)) (VR.offx e g)
  | _, _, .tud h hs => .tud (sqN_offx e h) (VRs.offx e hs)
theorem VRs.offx (e : ∀ b o, H b = some o → (∀ φ, o ≠ .ext φ) → H' b = some o) : ∀ {xs : List Va} {vs : List V}, VRs K H m xs vs → VRs K H' m xs vs
  | _, _, .nil => .nil
  | _, _, .cons h hs => .cons (VR.offx e h) (VRs.offx e hs)
end
end
def lsF (gs : List (Nat × List Va)) (g : GF) (ik : Nat) (ev0 : Ev) (h : AH) : List Va → List Int → Option (List Int)
  | [], acc => if gsOk gs h then some acc else none
  | x :: xs, acc => if gsOk gs h then match g x ev0 with
      | none => none
      | some ev1 => match ev1[ik]? with
        | some (some (.int i)) => lsF gs g ik ev0 h xs (if i ∈ acc then acc else acc ++ [i])
        | _ => none
    else none
def lsKF (g : GF) (ik : Nat) (vs : List Nat) (ev : Ev) : Src → AH → Rs Va := fun s h1 =>
  if s.items.length < 4000 then match lsF s.gs g ik (ewipe ev vs) h1 s.items [] with
    | some ks => .ok (.int (ks.length : Nat)) h1
    | none => .bad
  else .bad
/-- len({x for .. in ..}) -/
def eLenSC (i : IF) (g : GF) (ik : Nat) (vs : List Nat) : EF := fun ev h => (i ev h).bind (lsKF g ik vs ev)
section
variable {X : Cx} {W : WX} {tg iter : Expr} {scope : Scope} {own : List (Str × Nat)} {pos : Pos} {fi : IF} {g : GF} {ik : Nat}
end
end FL

set_option Elab.async false
set_option linter.all false
set_option maxRecDepth 100000
set_option maxHeartbeats 2000000
/-! FLRL: list(d) of a dict with tuple keys. -/
namespace FL
open PySem PySem.Spec PyProof.Rows L2 PySem.Calls PySem.W
variable [Tabz]
/-- len(d), d a dict with whole numbers as keys -/
def oLenD : OpN := fun vs h => match vs with
  | [.ref l] => (match h[l]? with
    | some (.dct kvs) => some (.int (kvs.length : Nat), h)
    | _ => oLen vs h)
  | _ => oLen vs h
def oListK : OpN := fun ps h => match ps with
  | [.ref l] => (match h[l]? with
    | some (.dtl kvs) => if kvs.length ≤ lim then some (.ref h.length, h ++ [.lst (kvs.map (·.1))]) else none
    | _ => oList ps h)
  | _ => oList ps h
section
variable {X : Cx}
end
end FL

set_option Elab.async false
set_option linter.all false
set_option maxRecDepth 100000
set_option maxHeartbeats 2000000
/-! FLRG: d.get(k, x), the keys tuples. -/
namespace FL
open PySem PySem.Spec PyProof.Rows L2
variable [Tabz]
def dgetNF (d i z : Va) (h : AH) : Option (Va × AH) := match d with
  | .ref l => match h[l]? with
    | some (.dtl kvs) => match keyN i with
      | some k => if kvs.length < lim then some ((findN kvs k).getD z, h) else none
      | none => none
    | _ => none
  | _ => none
def eDGet2N (fo fk fz : EF) : EF := fun ev h => (fo ev h).bind fun d h1 => if isDtl d h1 then (fk ev h1).bind fun i h2 => (fz ev h2).bind fun z h3 => match dgetNF d i z h3 with
  | some p => .ok p.1 p.2
  | none => .bad else .bad
section
variable {X : Cx} {pins : List (Addr × Obj)} {σ : L2.St} {H : Hp} {s : Shared} {m : List Addr} {ah : AH} {a : Addr} {kvs : List (Va × Va)} {xs : List (PySem.NestedKey × Addr × Value)} {A : Around} {E : Value → Shared → Prop}
end
def rDGetN (K : PySem.W.Frag) (x y v : V) (H : Hp) (Q : V → Hp → Prop) : Prop := ∃ m ah p q z w ah', HR K H m ah ∧ VR K H m p x ∧ VR K H m q y ∧ VR K H m z v ∧ dgetNF p q z ah = some (w, ah') ∧ ∀ H' v', HR K H' m ah' → Ext m H m H' → VR K H' m w v' → Q v' H'
def tDGetN (K : PySem.W.Frag) (td ty tx : TE) : TE := fun σ H Q => td σ H fun x H1 => (∃ (m : List Addr) (ah : AH) (l : Nat) (a : Addr) (kvs : List (Va × Va)), x = V.ref a ∧ HR K H1 m ah ∧ m[l]? = some a ∧ ah[l]? = some (AO.dtl kvs)) ∧ ty σ H1 fun y H2 => tx σ H2 fun z H3 => rDGetN K x y z H3 Q
section
variable {X : Cx} {W : WX} {o e f : Expr} {td ty tx : TE} {apos cpos : Pos} {fo fk fz : EF}
end
end FL

set_option Elab.async false
set_option linter.all false
set_option maxRecDepth 100000
set_option maxHeartbeats 2000000
/-! FLKD: [d[k] for k in d]: dicts with tuples as keys walked by their keys (the dict is locked meanwhile). -/
namespace FL
open PySem PySem.Spec PyProof.Rows L2
variable [Tabz]
mutual
/-- data without lists and dicts -/
def pl0 : Va → Bool
  | .non => true
  | .bl _ => true
  | .int _ => true
  | .str _ => true
  | .tup xs => pl0s xs
  | _ => false
def pl0s : List Va → Bool
  | [] => true
  | x :: xs => pl0 x && pl0s xs
end
/-- d[k] of the locked dict -/
def eFzN (ks : Nat) (kvs : List (Va × Va)) : EF := fun ev h => match ev[ks]? with
  | some (some v) => (match keyN v with
    | some k => (match findN kvs k with | some w => .ok w h | none => .bad)
    | none => .bad)
  | _ => .bad
def eLcDN (j : Nat) (g : GF) (el : List (Va × Va) → EF) (vs : List Nat) : EF := fun ev h => match ev[j]? with
  | some (some (.ref l)) => (match h[l]? with
    | some (.dtl kvs) => if inRs 0 (kvs.map (·.1)) && inRs 0 (kvs.map (·.2)) then (if kvs.length < lim then (match compF [] g tYesF (el kvs) (ewipe (plainEv ev) vs) (kvs.map (·.1)) [] with
        | .ok ys _ => if pl0s ys then .ok (.ref h.length) (h ++ [.lst ys]) else .bad
        | _ => .bad) else .bad) else .bad
    | _ => .bad)
  | _ => .bad
abbrev Qs := List (PySem.NestedKey × Addr × Value)
/-- the keys of a locked dict -/
def Ite (d : Addr) (o : Obj) (qs : Qs) : It :=
  ⟨fun i H => H d = some (.frz o (.ext (phiN d qs))) ∧ i < qs.length, fun i H x H' => H' = H ∧ ∃ q, qs[i]? = some q ∧ x = .ref q.2.1, fun i H => H d = some (.frz o (.ext (phiN d qs))) ∧ qs.length ≤ i⟩
section
variable {K : PySem.W.Frag} {H H' : Hp} {m m' : List Addr}
def KeepU (H H' : Hp) : Prop := ∀ b o, H b = some o → (∃ xs, o = .tup xs) ∨ (∃ ob xs, o = .frz ob (.tup xs)) → H' b = some o
theorem sqT_u (e : KeepU H H') {a : Addr} {vs : List V} (h : SqT K H a vs) : SqT K H' a vs := by
  rcases h with (h | ⟨o, h⟩) | h
  · exact .inl (.inl (e _ _ h (.inl ⟨_, rfl⟩)))
  · exact .inl (.inr ⟨o, e _ _ h (.inr ⟨_, _, rfl⟩)⟩)
  · exact .inr h
mutual
theorem VR.pu (e : KeepU H H') : ∀ {x : Va} {v : V}, VR K H m x v → pl0 x = true → VR K H' m' x v
  | _, _, .non, _ => .non
  | _, _, .bl b, _ => .bl b
  | _, _, .int i, _ => .int i
  | _, _, .str x, _ => .str x
  | _, _, .rp d, p => by simp [pl0] at p
  | _, _, .ref h, p => by simp [pl0] at p
  | _, _, .tup h hs, p => .tup (sqT_u e h) (VRs.pu e hs p)
  | _, _, .rol h hs, p => by simp [pl0] at p
  | _, _, .dv h, p => by simp [pl0] at p
  | _, _, .exo a, p => by simp [pl0] at p
  | _, _, .exn h g, p => by simp [pl0] at p
  | _, _, .tud h hs, p => by simp [pl0] at p
theorem VRs.pu (e : KeepU H H') : ∀ {x : List Va} {v : List V}, VRs K H m x v → pl0s x = true → VRs K H' m' x v
  | _, _, .nil, _ => .nil
  | _, _, .cons h hs, p => by
    have p : (pl0 _ && pl0s _) = true := p
    rw [Bool.and_eq_true] at p
    exact .cons (VR.pu e h p.1) (VRs.pu e hs p.2)
end
theorem DtE.tr (e : KeepT H H') (p : ∀ (l : Nat) (a : Addr), m[l]? = some a → m'[l]? = some a) : ∀ {kvs : List (Va × Va)} {xs : Qs}, DtE K H m kvs xs → DtE K H' m' kvs xs
  | _, _, .nil => .nil
  | _, _, .cons h1 h2 h3 h4 h5 => .cons h1 (h2.tr e p) (h3.tr e p) h4 (DtE.tr e p h5)
end
def iKeysN (td : TE) : TI := fun σ H R => td σ H fun x H1 => ∃ d o qs, x = .ref d ∧ (d == sysModules) = false ∧ H1 d = some (.frz o (.ext (phiN d qs))) ∧ R (Ite d o qs) H1
/-- what is read of an element -/
def teDN (K : PySem.W.Frag) (mg : Str → Option Value) (j : Nat) (el : List (Va × Va) → EF) : TE := fun σ H Q => ∃ d od qs kvs, σ[j]? = some (some (V.ref d)) ∧ H d = some (.frz od (.ext (phiN d qs))) ∧ DtE K H [] kvs qs ∧ (qs.map (·.1)).Nodup ∧ Wi K mg (VR K) WN (el kvs) σ H Q
section
variable {X : Cx} {dn kn : Str} {p1 p2 pos : Pos} {j ks : Nat} {r : Expr} {g : EF}
/-- d[k], the dict locked -/
def tFzN (K : PySem.W.Frag) (td ty : TE) : TE := fun σ H Q => td σ H fun x H1 => ty σ H1 fun y H2 => ∃ d od qs kvs m p q k b, x = .ref d ∧ y = .ref b ∧ H2 d = some (.frz od (.ext (phiN d qs))) ∧ DtE K H2 m kvs qs ∧ (qs.map (·.1)).Nodup ∧ (nk p = some k ∧ k.depth ≤ 8) ∧ VR K H2 m p (.ref b) ∧ findN kvs k = some q ∧ ∀ v, VR K H2 m q v → Q v H2
end
section
variable {X : Cx} {W : WX} {tg elt : Expr} {scope : Scope} {own : List (Str × Nat)} {pos np : Pos} {g : GF} {el : List (Va × Va) → EF} {j : Nat} {n : Str}
end
end FL

set_option Elab.async false
set_option linter.all false
set_option maxRecDepth 100000
set_option maxHeartbeats 2000000
/-! FLXD: an empty dict is in no tuple of tuples; a list with something in it is not the empty list, whatever it holds. -/
namespace FL
open PySem PySem.Spec PyProof.Rows L2 PySem.W PySem.SeqAt PySem.Calls
variable [Tabz]
section
variable {A : Around} {s : Shared} {l b : Addr} {items : Array Value} {es : Array DictEntry} {ep : Nat}
end
def isTup : Va → Bool
  | .tup _ => true
  | _ => false
/-- x not in ys; an empty dict is in no tuple of tuples -/
def oNotInX : Op2 := fun p q h => match p with
  | .ref l => (match h[l]? with
    | some (.dct []) => (match q with
      | .tup xs => if xs.all isTup then some (.bl true, h) else none
      | _ => none)
    | _ => oNotIn p q h)
  | _ => oNotIn p q h
/-- x == y; a list with something in it is not the empty one -/
def oEqX : Op2 := fun p q h => match p with
  | .ref a => (match q with
    | .ref b => (match lstAt h a with
      | some (x :: xs) => (match lstAt h b with
        | some [] => some (.bl false, h)
        | _ => oEq2 p q h)
      | _ => oEq2 p q h)
    | _ => oEq2 p q h)
  | _ => oEq2 p q h
section
variable {X : Cx}
end
end FL

set_option Elab.async false
set_option linter.all false
set_option maxRecDepth 100000
set_option maxHeartbeats 2000000
/-! FLTU: tuples made at run time, known to bear no __dict__: t.index(x) of whole numbers. -/
namespace FL
open PySem PySem.Spec PyProof.Rows L2 PySem.SeqAt
variable [Tabz]
/-- a tuple of either kind -/
def tupW : Va → Option (List Va)
  | .tup xs => some xs
  | .tud xs => some xs
  | _ => none
mutual
/-- what is known of tuples' objects is forgotten -/
def dn : Va → Va
  | .tud xs => .tup (dns xs)
  | .tup xs => .tup (dns xs)
  | x => x
def dns : List Va → List Va
  | [] => []
  | x :: xs => dn x :: dns xs
end
section
variable {K : PySem.W.Frag} {H : Hp} {m : List Addr}
mutual
theorem VR.dn : ∀ {x : Va} {v : V}, VR K H m x v → VR K H m (FL.dn x) v
  | _, _, .non => .non
  | _, _, .bl b => .bl b
  | _, _, .int i => .int i
  | _, _, .str x => .str x
  | _, _, .rp d => .rp d
  | _, _, .ref h => .ref h
  | _, _, .tup h hs => .tup h (VRs.dn hs)
  | _, _, .rol h hs => .rol h hs
  | _, _, .dv h => .dv h
  | _, _, .exo a => .exo a
  | _, _, .exn h g => .exn h g
  | _, _, .tud h hs => .tup h.sq (VRs.dn hs)
theorem VRs.dn : ∀ {x : List Va} {v : List V}, VRs K H m x v → VRs K H m (dns x) v
  | _, _, .nil => .nil
  | _, _, .cons h hs => .cons (VR.dn h) (VRs.dn hs)
end
end
def dn1 : Va → Va
  | .tud xs => .tup xs
  | x => x
theorem VR.dn1 {K : PySem.W.Frag} {H : Hp} {m : List Addr} {x : Va} {v : V} (h : VR K H m x v) : VR K H m (FL.dn1 x) v := by
  cases h with
  | tud h hs => exact .tup h.sq hs
  | tup h hs => exact .tup h hs
  | rol h hs => exact .rol h hs
  | exn h g => exact .exn h g
  | non => exact .non
  | bl b => exact .bl b
  | int b => exact .int b
  | str b => exact .str b
  | rp b => exact .rp b
  | ref h => exact .ref h
  | dv h => exact .dv h
  | exo a => exact .exo a
def eDn1 (f : EF) : EF := fun ev h => (f ev h).bind fun v h1 => .ok (dn1 v) h1
def eDn (f : EF) : EF := fun ev h => (f ev h).bind fun v h1 => .ok (dn v) h1
section
variable {X : Cx} {W : WX} {e o : Expr} {es : List Expr} {f fo fe : EF} {ta : AF} {td ty : TE} {t : TA} {pos apos cpos : Pos}
/-! ### (a, b), tuple(xs), t + u -/
def tTupD (t : TA) : TE := fun σ H Q => t σ H fun xs H1 => xs.length ≤ sizeLine ∧ ∀ (p : Addr) (o : Obj), H1 p = none → o.dict = none → Q (.ref p) (upd H1 p (.frz o (.tup xs)))
def oTupD : OpN := fun xs h => if xs.length ≤ lim then some (.tud xs, h) else none
def oTupleD : OpN := fun ps h => match ps with
  | [p] => match tupW p with
    | some xs => some (p, h)
    | none => match seqOf h p with
      | some xs => some (.tud xs, h)
      | none => none
  | _ => none
/-- t + u -/
def oAddD : Op2 := fun p q h => match tupW p with
  | some xs => (match tupW q with
    | some ys => if xs.length + ys.length ≤ lim then (if xs.isEmpty then some (q, h) else if ys.isEmpty then some (p, h) else some (.tud (xs ++ ys), h)) else none
    | none => oAdd p q h)
  | none => oAdd p q h
/-! ### t.index(x), whole numbers -/
def eIdxT (fo fe : EF) : EF := fun ev h => (fo ev h).bind fun v h1 => match v with
  | .tud xs => (fe ev h1).bind fun i h2 => match i, allI xs with
    | .int k, some ns => if k ∈ ns then .ok (.int (ns.idxOf k : Nat)) h2 else .bad
    | _, _ => .bad
  | _ => .bad
def tIdxT (K : PySem.W.Frag) (td ty : TE) : TE := fun σ H Q => td σ H fun x H1 => ∃ (a : Addr) (o : Obj) (vs : List V), x = V.ref a ∧ H1 a = some (.frz o (.tup vs)) ∧ o.dict = none ∧ ty σ H1 fun y H2 => ∃ (ns : List Int) (k : Int), vs = ns.map V.int ∧ H2 a = some (.frz o (.tup vs)) ∧ y = .int k ∧ k ∈ ns ∧ Q (.int (ns.idxOf k : Nat)) H2
end
end FL

set_option Elab.async false
set_option linter.all false
set_option maxRecDepth 100000
set_option maxHeartbeats 2000000
/-! FLTN: try: .. except C: return A, A a constant; tuple(range(n)) known to bear no __dict__. -/
namespace FL
open PySem PySem.Spec PyProof.Rows L2
variable [Tabz]
section
variable {X : Cx} {W : WX} {C : Addr} {x : Str}
def tryN (x : Str) (c1 : Va) : SR → SR
  | .exc cl p ev h => if cl = x then .rt c1 h else .bad
  | r => r
def sTryN (x : Str) (c1 : Va) (b : SF) : SF := fun ev h => tryN x c1 (b ev h)
end
section
variable {h : AH} {ev : Ev} {x cl : Str} {p : List (Str × Va)} {b : SF} {w c1 : Va}
end
/-! ### tuple(range(n)) -/
section
variable {X : Cx} {W : WX} {e : Expr} {te : L2.St → Hp → (Int → Int → Hp → Prop) → Prop} {fe : EF} {p p2 pos pos2 : Pos}
def tTupRgD (te : L2.St → Hp → (Int → Int → Hp → Prop) → Prop) : TE := fun σ H Q => te σ H fun a b H1 => RgOk a b ∧ ∀ (q : Addr) (o : Obj), H1 q = none → o.dict = none → Q (.ref q) (upd H1 q (.frz o (.tup (rgV a b))))
def mkTD (xs : List Va) (h : AH) : Rs Va := .ok (.tud xs) h
end
end FL

set_option Elab.async false
set_option linter.all false
set_option maxRecDepth 100000
set_option maxHeartbeats 1000000
/-! FLZT: zip of three lists or tuples, walked together. -/
namespace FL
open PySem PySem.Spec PyProof.Rows L2 FLZ
variable [Tabz]
def ItZ3 (K : PySem.W.Frag) (k1 k2 k3 : Bool) (a c e : Addr) : It :=
  ⟨fun i H => ∃ (xs ys zs : List V) (x y w : V), SqG K H k1 a xs ∧ SqG K H k2 c ys ∧ SqG K H k3 e zs ∧ xs[i]? = some x ∧ ys[i]? = some y ∧ zs[i]? = some w,
   fun i H v H' => ∃ T x y w, v = .ref T ∧ H T = none ∧ H' = upd H T (.tup [x, y, w]) ∧ (∀ xs, SqG K H k1 a xs → xs[i]? = some x) ∧ (∀ ys, SqG K H k2 c ys → ys[i]? = some y) ∧ ∀ zs, SqG K H k3 e zs → zs[i]? = some w,
   fun i H => ∃ xs ys zs : List V, SqG K H k1 a xs ∧ SqG K H k2 c ys ∧ SqG K H k3 e zs ∧ i ≤ xs.length ∧ i ≤ ys.length ∧ i ≤ zs.length ∧ (i = xs.length ∨ i = ys.length ∨ i = zs.length)⟩
structure Zap3 (z ti to_ j1 j2 j3 : Addr) : Prop where
  a1 : ti ≠ z
  a2 : to_ ≠ z
  a3 : ti ≠ to_
  a4 : ti ≠ j1
  a5 : ti ≠ j2
  a6 : ti ≠ j3
  b1 : to_ ≠ j1
  b2 : to_ ≠ j2
  b3 : to_ ≠ j3
  c1 : j1 ≠ z
  c2 : j2 ≠ z
  c3 : j3 ≠ z
  d1 : j1 ≠ j2
  d2 : j1 ≠ j3
  d3 : j2 ≠ j3
section
variable {X : Cx} {W : WX}
def iZ3 (K : PySem.W.Frag) (ta : TA) : TI := fun σ H R => ta σ H fun vs H1 => ∃ k1 k2 k3 a c e xs ys zs, vs = [.ref a, .ref c, .ref e] ∧ SqG K H1 k1 a xs ∧ SqG K H1 k2 c ys ∧ SqG K H1 k3 e zs ∧ R (ItZ3 K k1 k2 k3 a c e) H1
def zip3F : List Va → List Va → List Va → List Va
  | x :: xs, y :: ys, z :: zs => .tup [x, y, z] :: zip3F xs ys zs
  | _, _, _ => []
def srcZ3 : List Va → AH → Option Src := fun ps h => match ps with
  | [p, q, r] => (srcOf p h).bind fun s => (srcOf q h).bind fun t => (srcOf r h).bind fun u => some ⟨zip3F s.items t.items u.items, s.gs ++ t.gs ++ u.gs⟩
  | _ => none
end
section
variable {xs ys zs : List Va} {h : AH} {i j k : Nat}
end
end FL

set_option Elab.async false
set_option linter.all false
set_option maxRecDepth 100000
set_option maxHeartbeats 2000000
/-! FLHO: function values: a lambda with one parameter, handed to a def that calls it, within comprehensions too. -/
namespace FL
open PySem PySem.Spec PyProof.Rows L2 LamX NdefX
variable [Tabz]
/-! ### a list comprehension whose element knows where the block began -/
section
variable {X : Cx}
/-- what a block may count on: it begins at a state of the def's, and its iterator is new to the def -/
def BlkAt (X : Cx) (s : Shared) (H : Hp) (fp : List Addr) : Prop := (∃ pins σ, Inv X pins σ H s) ∧ ∀ b ∈ fp, b ∈ X.ex ∨ X.s_0.heap.objs.size ≤ b
end
section
variable {X : Cx} {W : WX} {tg iter elt : Expr} {ifs : List Expr} {scope : Scope} {pos : Pos} {fi : IF} {g : GF} {t : TF} {el : EF}
end
/-! ### a lambda made, with its place in its maker's table -/
theorem among_more {p : Pos} {c : Value} (l r : List Value) (h : codeAmong p l = some c) : codeAmong p (l ++ r) = some c := by
  fun_induction codeAmong p l with
  | case1 a t b u x rest q => simpa [codeAmong, q] using h
  | case2 a t b u x rest q ih => simpa [codeAmong, q] using ih h
  | case3 => cases h
theorem among_last {p : Pos} {c : Value} (l : List Value) (t : TriplesOk l) (h : codeAmong p l = none) : codeAmong p (l ++ [rawInt p.line, rawInt p.col, c]) = some c := by
  fun_induction TriplesOk l with
  | case1 => simp [rawInt, codeAmong]
  | case2 a v b u x rest ih =>
    simp only [List.cons_append, codeAmong] at h ⊢
    split at h
    · cases h
    · rename_i q
      rw [if_neg q]
      exact ih t h
  | case3 l h1 h2 => exact t.elim
section
variable {X : Cx} {pins : List (Addr × Obj)} {σ : L2.St} {H : Hp} {s : Shared}
theorem lam_makeT {c P : Addr} {params : Arguments} {body : Expr} {sc : Scope} {pos : Pos} {E : Value → Shared → Prop} {Q : Value → Shared → Prop} (I : Inv X pins σ H s) (TB : TabB X.base X.mg c P) (hcode : X.env.code = .ref c)
    (hm : (P, X.env.qual ++ "<lambda>") ∈ Tabz.T) (hu : ∀ z ∈ Tabz.T, z.1 = P → z.2 = X.env.qual ++ "<lambda>") (hT : Tabs Tabz.T H) (hdef : defaultsOf params X.env = ([], [])) (hfree : ∀ y ∈ sc.names, y.2 = .free → ∃ c, X.env.cells.lookup y.1 = some c)
    (next : ∀ (f c' : Addr) (pm ctv : Value) (H1 : Hp) (s' : Shared), Inv X pins σ H1 s' → ExtN H H1 → Tabs Tabz.T H1 → s'.heap.get? f = some (PySem.W.kla_obj "<lambda>" (X.env.qual ++ "<lambda>") params body sc (cloFrom X.env.cells sc.names []) pm c' ctv) →
      H1 f = none → f ∉ frs X.stack → (∃ ps : Array Value, H1 P = some (.tbl ps) ∧ codeAmong pos ps.toList = some (.ref c')) → Q (.ref f) s') : wpAny (model X.prog X.w) X.A (eval (.Lambda params body sc pos) X.env) Q E s := by
  obtain ⟨ps, atP, tri, known⟩ := hT _ hm
  have blt : s.heap.BuiltinsAt X.mg P := TB.bm.keeps I.bk
  have obP : s.heap.get? P = some { cls := .none, data := .fields ps } := I.hok P _ atP
  have apart : ∀ a, s.heap.objs.size ≤ a → a ∉ frs X.stack := fun a ha z => by
    rcases List.mem_cons.mp (I.stkSub _ z) with e | e
    · subst e
      exact absurd (Nat.lt_of_lt_of_le I.lt ha) (Nat.lt_irrefl _)
    · exact I.nofs ha e
  refine PySem.W.kla_eval hdef ?_
  rcases hc : codeAmong pos ps.toList with _ | cv
  · refine PySem.W.kla_makeFunction (mg := X.mg) (c := c) (P := P) (ps := ps) (closure_ok hfree) I.ok.glob (I.mod.glob.keeps I.bk) hcode (TB.code.keeps I.bk) obP tri hc TB.gP blt ?_
    rintro c' ctv h' tk hx hge hlt ⟨_, oc, vs, t, e2, hoc, hd, hv⟩ htb
    cases e2
    have far : s.heap.objs.size ≤ h'.objs.size := Nat.le_trans hge (Nat.le_of_lt hlt)
    have nC : H c' = none := I.hok.fresh hge
    have nPC : P ≠ c' := ne_of_none atP nC
    have J := inv_table (t' := tk) (more := #[rawInt pos.line, rawInt pos.col, .ref c']) (h' := h'.push (PySem.W.kla_obj "<lambda>" (X.env.qual ++ "<lambda>") params body sc (cloFrom X.env.cells sc.names []) ((X.mg "__name__").getD .none) c' ctv)) I atP
      (fun _ _ hb e => Heap.get?_push_of_some _ (hx _ _ hb e)) (Heap.get?_push_of_some _ htb) hge ⟨oc, vs, t, Heap.get?_push_of_some _ hoc, hd, hv⟩
    generalize hH1 : upd (upd H P (.tbl (ps ++ #[rawInt pos.line, rawInt pos.col, .ref c']))) c' (CodeO c' (X.env.qual ++ "<lambda>")) = H1 at J
    have at1 : ∀ b, b ≠ P → b ≠ c' → H1 b = H b := fun b z1 z2 => by rw [← hH1, upd_ne z2, upd_ne z1]
    have atC : H1 c' = some (CodeO c' (X.env.qual ++ "<lambda>")) := by rw [← hH1, upd_same]
    have atP1 : H1 P = some (.tbl (ps ++ #[rawInt pos.line, rawInt pos.col, .ref c'])) := by rw [← hH1, upd_ne nPC, upd_same]
    have grow : ExtN H H1 := fun b o e n => by
      have z1 : b ≠ P := fun z => by subst z; rw [atP] at e; exact n ps (Option.some.inj e).symm
      rw [at1 b z1 (ne_of_none e nC)]
      exact e
    have eL : (ps ++ #[rawInt pos.line, rawInt pos.col, .ref c']).toList = ps.toList ++ [rawInt pos.line, rawInt pos.col, .ref c'] := by simp
    have tabs : Tabs Tabz.T H1 := fun z hz => by
      by_cases hb : z.1 = P
      · unfold TabS
        rw [hu z hz hb, hb]
        refine ⟨_, atP1, by rw [eL]; exact PySem.TriplesOk_snoc _ _ _ _ tri, fun p' cv hcv => ?_⟩
        rw [eL] at hcv
        rcases among_app _ tri hcv with y | y
        · obtain ⟨c0, e1, e2⟩ := known p' cv y
          exact ⟨c0, e1, grow _ _ e2 codeO_ne⟩
        · exact ⟨c', y, atC⟩
      · obtain ⟨qs, a1, a2, a3⟩ := hT z hz
        refine ⟨qs, by rw [at1 _ hb (ne_of_none a1 nC)]; exact a1, a2, fun p' cv hcv => ?_⟩
        obtain ⟨c0, e1, e2⟩ := a3 p' cv hcv
        exact ⟨c0, e1, grow _ _ e2 codeO_ne⟩
    refine next h'.objs.size c' ((X.mg "__name__").getD .none) ctv H1 _ J grow tabs (Heap.get?_push_size _ rfl) ?_ (apart _ far) ⟨_, atP1, by rw [eL]; exact among_last _ tri hc⟩
    rw [at1 _ (Nat.ne_of_gt (Nat.lt_of_lt_of_le (Heap.lt_size obP) far)) (Nat.ne_of_gt hlt)]
    exact I.hok.fresh far
  · obtain ⟨c', rfl, hco⟩ := known pos cv hc
    refine PySem.W.kla_makeFunctionHit (mg := X.mg) (c := c) (P := P) (ps := ps) (closure_ok hfree) I.ok.glob (I.mod.glob.keeps I.bk) hcode (TB.code.keeps I.bk) obP tri hc blt fun ctv h' tk hx far => ?_
    exact next h'.objs.size c' ((X.mg "__name__").getD .none) ctv H _ (I.kept fun _ _ e => Heap.get?_push_of_some _ (hx _ _ e)) (ExtN.refl H) hT (Heap.get?_push_size _ rfl) (I.hok.fresh far) (apart _ far) ⟨ps, atP, hc⟩
end
/-! ### plain things stay -/
mutual
def flatV : Va → Bool
  | .non => true
  | .bl _ => true
  | .int _ => true
  | .str _ => true
  | .tup xs => flatVs xs
  | .tud xs => flatVs xs
  | _ => false
def flatVs : List Va → Bool
  | [] => true
  | x :: xs => flatV x && flatVs xs
end
section
variable {K : PySem.W.Frag} {H H' : Hp} {m m' : List Addr}
mutual
theorem VR.flat (e1 : ∀ b xs, H b = some (.tup xs) → H' b = some (.tup xs)) (e2 : ∀ b o u, H b = some (.frz o u) → H' b = some (.frz o u)) : ∀ {x : Va} {v : V}, VR K H m x v → flatV x = true → VR K H' m' x v
  | _, _, .non, _ => .non
  | _, _, .bl b, _ => .bl b
  | _, _, .int i, _ => .int i
  | _, _, .str x, _ => .str x
  | _, _, .tup h hs, q => .tup (by
      rcases h with (h | ⟨o, h⟩) | h
      · exact .inl (.inl (e1 _ _ h))
      · exact .inl (.inr ⟨o, e2 _ _ _ h⟩)
      · exact .inr h) (VRs.flat e1 e2 hs (by simpa [flatV] using q))
  | _, _, .rp d, q => by simp [flatV] at q
  | _, _, .ref h, q => by simp [flatV] at q
  | _, _, .rol h hs, q => by simp [flatV] at q
  | _, _, .dv h, q => by simp [flatV] at q
  | _, _, .exo a, q => by simp [flatV] at q
  | _, _, .exn h g, q => by simp [flatV] at q
  | _, _, .tud h hs, q => .tud (by obtain ⟨o, h, d⟩ := h; exact ⟨o, e2 _ _ _ h, d⟩) (VRs.flat e1 e2 hs (by simpa [flatV] using q))
theorem VRs.flat (e1 : ∀ b xs, H b = some (.tup xs) → H' b = some (.tup xs)) (e2 : ∀ b o u, H b = some (.frz o u) → H' b = some (.frz o u)) : ∀ {x : List Va} {v : List V}, VRs K H m x v → flatVs x = true → VRs K H' m' x v
  | _, _, .nil, _ => .nil
  | _, _, .cons h hs, q => by
    simp only [flatVs, Bool.and_eq_true] at q
    exact .cons (VR.flat e1 e2 h q.1) (VRs.flat e1 e2 hs q.2)
end
end
/-! ### a lambda as it lies -/
/-- its words, cells, code object, its maker's table -/
structure LamD where
  q : Str
  params : Arguments
  body : Expr
  scope : Scope
  cl : List (Str × Addr)
  pm : Value
  ctv : Value
  c : Addr
  P : Addr
  pos : Pos
abbrev LamD.nf (d : LamD) : NF := ⟨"<lambda>", d.q, d.params, [], d.scope, d.cl, d.c⟩
structure CloH (K : PySem.W.Frag) (d : LamD) (f : Addr) (fr : List Str) (ws : List V) (pvs : List Va) (h : Heap) (H : Hp) : Prop where
  fo : h.get? f = some (PySem.W.kla_obj "<lambda>" d.q d.params d.body d.scope d.cl d.pm d.c d.ctv)
  nf : H f = none
  cells : CellsAt d.cl fr (ws.map some) h H
  code : ∃ ps : Array Value, H d.P = some (.tbl ps) ∧ codeAmong d.pos ps.toList = some (.ref d.c)
  vals : VRs K H [] pvs ws
  flat : flatVs pvs = true
section
variable {K : PySem.W.Frag} {d : LamD} {f : Addr} {fr : List Str} {ws : List V} {pvs : List Va} {fs ex : List Addr} {H H' : Hp} {h h' : Heap}
theorem CloH.un (k : CloH K d f fr ws pvs h H) (u : Un fs ex H H' h h') (hf : f ∉ fs ∧ f ∉ ex) (hc : ∀ y c, d.cl.lookup y = some c → c ∉ fs ∧ c ∉ ex) : CloH K d f fr ws pvs h' H' where
  fo := u.keep f _ k.fo k.nf hf.1 hf.2
  nf := u.free f _ k.fo k.nf hf.2
  cells := by
    refine ⟨k.cells.len, fun y c e => ?_, k.cells.inj, fun i y e => ?_⟩
    · obtain ⟨n, v, o, ho, hd⟩ := k.cells.all y c e
      exact ⟨u.free c o ho n (hc y c e).2, v, o, u.keep c o ho n (hc y c e).1 (hc y c e).2, hd⟩
    · obtain ⟨c, e1, hv⟩ := k.cells.has i y e
      refine ⟨c, e1, fun v ev => ?_⟩
      obtain ⟨w, r, o, ho, hd⟩ := hv v ev
      exact ⟨w, r, o, u.keep c o ho (k.cells.all y c e1).1 (hc y c e1).1 (hc y c e1).2, hd⟩
  code := by
    obtain ⟨ps, a, b⟩ := k.code
    obtain ⟨more, e⟩ := u.tbls _ ps a
    exact ⟨_, e, by rw [Array.toList_append]; exact among_more _ _ b⟩
  vals := k.vals.flat u.tups (fun b o v => u.frzs b o v) k.flat
  flat := k.flat
/-- it lies so at the context's beginning, and out of the frames' and the iterators' reach -/
structure CloX (X : Cx) (d : LamD) (f : Addr) (fr : List Str) (ws : List V) (pvs : List Va) : Prop where
  beg : CloH X.K d f fr ws pvs X.s_0.heap X.H_0
  fs : f ∉ X.fs ∧ ∀ y c, d.cl.lookup y = some c → c ∉ X.fs
  ex : f ∉ X.ex ∧ ∀ y c, d.cl.lookup y = some c → c ∉ X.ex
variable {X : Cx} {pins : List (Addr × Obj)} {σ : L2.St} {s : Shared} {fp : List Addr}
theorem CloX.now (k : CloX X d f fr ws pvs) (I : Inv X pins σ H s) : CloH X.K d f fr ws pvs s.heap H :=
  k.beg.un I.base ⟨k.fs.1, k.ex.1⟩ fun y c e => ⟨k.fs.2 y c e, k.ex.2 y c e⟩
theorem CloX.blk (k : CloX X d f fr ws pvs) (b : BlkAt X s H fp) {sc : Scope} {ce : Env} : CloX (X.blk s H sc ce fp) d f fr ws pvs := by
  obtain ⟨⟨pins, σ, I⟩, hfp⟩ := b
  have out : ∀ a o, X.s_0.heap.get? a = some o → a ∉ X.fs → a ∉ frs X.stack := fun a o e n z => by
    rcases List.mem_cons.mp (I.stkSub _ z) with y | y
    · subst y
      exact absurd (Nat.lt_of_lt_of_le (Heap.lt_size e) I.ok.above) (Nat.lt_irrefl _)
    · exact n y
  have old : ∀ a o, X.s_0.heap.get? a = some o → a ∉ X.ex → a ∉ fp := fun a o e n z => by
    rcases hfp a z with y | y
    · exact n y
    · exact absurd (Nat.lt_of_lt_of_le (Heap.lt_size e) y) (Nat.lt_irrefl _)
  refine ⟨k.now I, ⟨out _ _ k.beg.fo k.fs.1, fun y c e => ?_⟩, ⟨old _ _ k.beg.fo k.ex.1, fun y c e => ?_⟩⟩
  · obtain ⟨_, v, o, ho, _⟩ := k.beg.cells.all y c e
    exact out _ _ ho (k.fs.2 y c e)
  · obtain ⟨_, v, o, ho, _⟩ := k.beg.cells.all y c e
    exact old _ _ ho (k.ex.2 y c e)
end
/-! ### it is called -/
/-- its meaning: the one argument, then what it captured -/
def cloF (n : Nat) (pvs : List Va) (el : EF) : List Va → AH → Rs Va := fun vs h => match vs with
  | [x] => el (some x :: (pvs.map some ++ List.replicate (n - 1 - pvs.length) none)) h
  | _ => .bad
section
variable {P : Program} {w : World} {K : PySem.W.Frag} {mg : Str → Option Value} {base : Heap} {d : LamD} {f : Addr} {N fr : List Str} {ws : List V} {pvs : List Va} {p : Str} {el : EF} {k : Nat}
theorem er_startF {H : Hp} {m : List Addr} {x : Va} {v : V} (rx : VR K H m x v) (rv : VRs K H m pvs ws) : ER K H m (some x :: (pvs.map some ++ List.replicate (N.length - 1 - pvs.length) none)) (startF N [v] (ws.map some)) := by
  have hl := rv.length
  unfold startF
  refine ⟨by simp [hl], fun i y e => ?_⟩
  cases i with
  | zero =>
    simp at e
    subst e
    exact ⟨v, rfl, rx⟩
  | succ j =>
    rw [List.getElem?_cons_succ] at e
    by_cases hj : j < pvs.length
    · rw [List.getElem?_append_left (by simpa using hj), List.getElem?_map] at e
      cases ex : pvs[j]? with
      | none => rw [ex] at e; cases e
      | some z =>
        rw [ex] at e
        cases e
        obtain ⟨u, hu, ru⟩ := rv.get ex
        refine ⟨u, ?_, ru⟩
        show (([v].map some) ++ (ws.map some ++ _))[j + 1]? = _
        simp only [List.map_cons, List.map_nil, List.singleton_append, List.getElem?_cons_succ]
        rw [List.getElem?_append_left (by rw [List.length_map, ← hl]; exact hj), List.getElem?_map, hu]
        rfl
    · rw [List.getElem?_append_right (by simpa using hj), List.getElem?_replicate] at e
      split at e <;> cases e
theorem clo_run {A : Around} {outer : List Env} {s : Shared} {H : Hp} {u : Value} {v : V} {Q : VK} {E : XK} (c : CloH K d f fr ws pvs s.heap H) (S : NScope N [p] fr d.scope) (hbind : ∀ u, bindArgs (PySem.W.kla_fn "<lambda>" d.q d.params d.body d.scope d.cl d.pm (.ref d.c) d.ctv) ⟨[u], []⟩ = pure [(p, u)])
    (hT : (d.P, d.q) ∈ Tabz.T)
    (hbody : ∀ (A : Around) (outer : List Env) (s : Shared) (H : Hp) (E : XK), Room k (A.deeper (envF d.nf f s.heap.objs.size)) → (A.deeper (envF d.nf f s.heap.objs.size)).guards = some [] → ME (ncx (L2.CX P w) P w K mg base N d.nf f A outer s H E) (WB E) d.body el)
    (e0 : Env0 P w K mg base A outer s H) (hr : Room (k + 1) A) (hgd : A.guards = some []) (rv : RelV v u) (hsp : spG K mg (cloF N.length pvs el) [v] H Q E) : codeAny (model P w) A (.call (.ref f) ⟨[u], []⟩) (CR (L2.CX P w) outer P w H s Q E) s := by
  obtain ⟨m, ah, pa, rH, ra, q⟩ := hsp
  obtain ⟨ps, hP, ha⟩ := c.code
  obtain ⟨ps2, hP2, _, hk⟩ := rH.tb _ hT
  have hP2 : H d.P = some (.tbl ps2) := hP2
  rw [hP] at hP2
  cases hP2
  obtain ⟨c2, e, hc⟩ := hk _ _ ha
  cases e
  obtain ⟨⟨oc, vs, tok, y1, y2, y3⟩, _, _⟩ := e0.hok d.c _ hc
  have lim : s.heap.NoLimit := e0.mod.nolimit.keeps fun b o e => (e0.bs b o e).1
  refine PySem.W.kla_callFunE hr.depth c.fo rfl S.co S.gen rfl ⟨d.c, oc, vs, tok, rfl, y1, y2, y3⟩ ?_
  rw [hbind]
  refine wpAny_pure (wpAny_newFunctionEnv (fun y hy => S.nocell y hy) (fun y hy => by rw [List.mem_singleton.mp hy]; exact S.par p (by simp)) (fun h₁ hns hsb => ⟨lim.fresh _ hsb, ?_⟩) S.kind)
  show codeAny _ _ (.expr d.body (envF d.nf f s.heap.objs.size)) _ _
  have kp : ∀ b o, s.heap.get? b = some o → h₁.get? b = some o := fun b o e => hsb.extBut b o (Nat.ne_of_lt (Heap.lt_size e)) (Heap.get?_push_of_some _ e)
  have J : Inv (ncx (L2.CX P w) P w K mg base N d.nf f A outer s H E) [] (startF N [v] (ws.map some)) H { s with heap := h₁, toks := s.toks + ([(p, u)] : List (Str × Value)).length } :=
    inv_startN (us := [u]) S hr.hd e0 rfl (.cons rv .nil) c.cells hns kp
  have hw : Wi K mg (VR K) (WB E) el (startF N [v] (ws.map some)) H (fun w H' => Q w H') := by
    unfold cloF at q
    split at q
    · rename_i x
      cases ra with
      | cons rx rr =>
        exact ⟨m, ah, _, rH, er_startF rx (c.vals.flat (fun _ _ z => z) (fun _ _ _ z => z) c.flat), q⟩
    · exact q.elim
  refine PySem.W.kla_codeExpr (wpAny_mono ((hbody A outer s H E (hr.deeper _) hgd).pe.run [] _ _ H Q J hw) (fun z s' hq => ?_) fun e s' hq => hq)
  obtain ⟨w', H', J', r', q'⟩ := hq
  exact ⟨w', H', J'.os, J'.bare, J'.base, J'.hok, r', q'⟩
end
/-! ### a name that holds a function -/
/-- within X, the function at f means F -/
structure HoX (k : Nat) (X : Cx) (f : Addr) (F : List Va → AH → Rs Va) : Prop where
  at_ : ∀ pins σ H s, Inv X pins σ H s → PySem.W.FnAt f s.heap
  run : ∀ pins σ H s, Inv X pins σ H s → ∀ (us : List Value) (vs : List V) (Q : VK) (E : XK), Room k X.A → X.A.guards = some [] → Vals vs us → spG X.K X.mg F vs H Q E → codeAny (model X.prog X.w) X.A (.call (.ref f) ⟨us, []⟩) (CR (L2.CX X.prog X.w) X.stack X.prog X.w H s Q E) s
/-- .. and in its blocks -/
structure Hold (k : Nat) (X : Cx) (f : Addr) (F : List Va → AH → Rs Va) : Prop where
  ho : HoX k X f F
  blk : ∀ s H sc ce fp, BlkAt X s H fp → HoX k (X.blk s H sc ce fp) f F
section
variable {X : Cx} {W : WX} {d : LamD} {f : Addr} {N fr : List Str} {ws : List V} {pvs : List Va} {p : Str} {el : EF} {k kk i : Nat} {F : List Va → AH → Rs Va}
theorem clo_ho (c : CloX X d f fr ws pvs) (S : NScope N [p] fr d.scope) (hbind : ∀ u, bindArgs (PySem.W.kla_fn "<lambda>" d.q d.params d.body d.scope d.cl d.pm (.ref d.c) d.ctv) ⟨[u], []⟩ = pure [(p, u)]) (hT : (d.P, d.q) ∈ Tabz.T)
    (hbody : ∀ (A : Around) (outer : List Env) (s : Shared) (H : Hp) (E : XK), Room k (A.deeper (envF d.nf f s.heap.objs.size)) → (A.deeper (envF d.nf f s.heap.objs.size)).guards = some [] → ME (ncx (L2.CX X.prog X.w) X.prog X.w X.K X.mg X.base N d.nf f A outer s H E) (WB E) d.body el) :
    HoX (k + 1) X f (cloF N.length pvs el) := by
  refine ⟨fun pins σ H s I => ⟨_, _, _, _, (c.now I).fo⟩, fun pins σ H s I us vs Q E hr hgd r hsp => ?_⟩
  have h1 : ∃ v, vs = [v] := by
    obtain ⟨m, ah, pa, rH, ra, q⟩ := hsp
    unfold cloF at q
    split at q
    · cases ra with
      | cons _ rr => cases rr; exact ⟨_, rfl⟩
    · exact q.elim
  obtain ⟨v, rfl⟩ := h1
  cases r with
  | cons rv rr =>
    cases rr
    exact clo_run (c.now I) S hbind hT hbody I.env0 hr hgd rv hsp
theorem clo_hold (c : CloX X d f fr ws pvs) (S : NScope N [p] fr d.scope) (hbind : ∀ u, bindArgs (PySem.W.kla_fn "<lambda>" d.q d.params d.body d.scope d.cl d.pm (.ref d.c) d.ctv) ⟨[u], []⟩ = pure [(p, u)]) (hT : (d.P, d.q) ∈ Tabz.T)
    (hbody : ∀ (A : Around) (outer : List Env) (s : Shared) (H : Hp) (E : XK), Room k (A.deeper (envF d.nf f s.heap.objs.size)) → (A.deeper (envF d.nf f s.heap.objs.size)).guards = some [] → ME (ncx (L2.CX X.prog X.w) X.prog X.w X.K X.mg X.base N d.nf f A outer s H E) (WB E) d.body el) :
    Hold (k + 1) X f (cloF N.length pvs el) :=
  ⟨clo_ho c S hbind hT hbody, fun s H sc ce fp b => clo_ho (X := X.blk s H sc ce fp) (c.blk b) S hbind hT hbody⟩
/-- x(..), x a name that holds the function at f -/
def eCallX (i : Nat) (f : Addr) (F : List Va → AH → Rs Va) (ta : AF) : EF := fun ev h => match ev[i]? with
  | some (some (.exo a)) => if a = f then (ta ev h).bind fun vs h1 => F vs h1 else .bad
  | _ => .bad
end
end FL

set_option Elab.async false
set_option linter.all false
set_option maxRecDepth 100000
set_option maxHeartbeats 2000000
/-! FLHP: a def that is given two functions; its caller hands it a lambda with one parameter and an item of a dict of defs. -/
namespace FL
open PySem PySem.Spec PyProof.Rows L2 LamX NdefX
variable [Tabz]
section
variable {P : Program} {w : World} {K : PySem.W.Frag} {mg : Str → Option Value} {base : Heap}
/-- what a def that is given two functions promises -/
abbrev HF := Addr → Addr → (List Va → AH → Rs Va) → (List Va → AH → Rs Va) → List Va → AH → Rs Va
structure HoG (P : Program) (w : World) (K : PySem.W.Frag) (mg : Str → Option Value) (base : Heap) (k kc : Nat) (f : Addr) (fd : FuncData) (ps N : List Str) (qual : Str) (scope : Scope) (M : HF) : Prop where
  len : ∀ f1 f2 F1 F2 vs H Q E, spG K mg (M f1 f2 F1 F2) vs H Q E → vs.length = ps.length
  run : ∀ (A : Around) (outer : List Env) (s : Shared) (H : Hp) (args : Args) (us : List Value) (vs : List V) (Q : VK) (E : XK) (f1 f2 : Addr) (F1 F2 : List Va → AH → Rs Va), Room k A → A.guards = some [] → Env0 P w K mg base A outer s H → BindsTo s fd args (ps.zip us) → Vals vs us →
    (∀ cdv, Hold kc (cxOf (L2.CX P w) P w K mg base N qual scope f cdv A outer s H E) f1 F1) → (∀ cdv, Hold kc (cxOf (L2.CX P w) P w K mg base N qual scope f cdv A outer s H E) f2 F2) → spG K mg (M f1 f2 F1 F2) vs H Q E →
    codeAny (model P w) A (.call (.ref f) args) (CR (L2.CX P w) outer P w H s Q E) s
end
/-! ### an expression that gives a function -/
structure FunE (X : Cx) (kc : Nat) (fe : Expr) (sel : Ev → Option (List Va → AH → Rs Va)) : Prop where
  run : ∀ (pins : List (Addr × Obj)) (s : Shared) (σ : L2.St) (H : Hp) (m : List Addr) (ev : Ev) (F : List Va → AH → Rs Va), Inv X pins σ H s → ER X.K H m ev σ → sel ev = some F →
    ∃ g, (∀ X' : Cx, X'.prog = X.prog → X'.w = X.w → X'.K = X.K → X'.mg = X.mg → X'.base = X.base → Hold kc X' g F) ∧ ∀ Q : VK, Q (.ref g) H → wpAny (model X.prog X.w) X.A (eval fe X.env) (EP X pins σ Q) X.xe s
/-- the functions of a dict of defs, by its keys -/
def selD (i : Nat) (rules : List (Str × (List Va → AH → Rs Va))) : Ev → Option (List Va → AH → Rs Va) := fun ev => match ev[i]? with
  | some (some (.str z)) => rules.lookup z
  | _ => none
section
variable {X : Cx} {W : WX}
/-- x in R, x not in R, x a text -/
def eInD (i : Nat) (ks : List Str) (b : Bool) : EF := fun ev h => match ev[i]? with
  | some (some (.str z)) => .ok (.bl (ks.contains z == b)) h
  | _ => .bad
end
/-! ### the call -/
/-- what the lambda captures -/
def capV (ev : Ev) (js : List Nat) : Option (List Va) := js.mapM fun j => match ev[j]? with
  | some (some x) => some x
  | _ => none
theorem capV_er {K : PySem.W.Frag} {H : Hp} {m : List Addr} {ev : Ev} {σ : L2.St} (re : ER K H m ev σ) : ∀ {js : List Nat} {pvs : List Va}, capV ev js = some pvs → ∃ ws : List V, VRs K H m pvs ws ∧ js.map (NdefX.slotAt σ) = ws.map some
  | [], pvs, h => by
    simp [capV] at h
    subst h
    exact ⟨[], .nil, rfl⟩
  | j :: js, pvs, h => by
    unfold capV at h
    rw [List.mapM_cons] at h
    cases e : ev[j]? with
    | none => simp [e] at h
    | some o =>
      cases o with
      | none => simp [e] at h
      | some x =>
        cases e2 : capV ev js with
        | none =>
          unfold capV at e2
          simp [e, e2] at h
        | some xs =>
          obtain ⟨ws, r, q⟩ := capV_er re e2
          unfold capV at e2
          simp [e, e2] at h
          subst h
          obtain ⟨u, h1, h2⟩ := re.get j x e
          refine ⟨u :: ws, .cons h2 r, ?_⟩
          simp only [List.map_cons, q]
          unfold NdefX.slotAt
          rw [h1]
open Classical in
/-- x(a, b, c, lambda p: el, fe) -/
noncomputable def eHof (e1 e2 e3 : EF) (js : List Nat) (n : Nat) (el : EF) (sel : Ev → Option (List Va → AH → Rs Va)) (M : HF) : EF := fun ev h => (e1 ev h).bind fun v1 h1 => (e2 ev h1).bind fun v2 h2 => (e3 ev h2).bind fun v3 h3 => match capV ev js, sel ev with
  | some pvs, some F => if flatVs pvs = true ∧ ∀ f g : Addr, M f g (cloF n pvs el) F [v1, v2, v3, .exo f, .exo g] h3 = M 0 0 (cloF n pvs el) F [v1, v2, v3, .exo 0, .exo 0] h3 then M 0 0 (cloF n pvs el) F [v1, v2, v3, .exo 0, .exo 0] h3 else .bad
  | _, _ => .bad
section
variable {X : Cx} {W : WX}
theorem sp_cons {e : Expr} {es : List Expr} {t : TE} {pins : List (Addr × Obj)} {σ : L2.St} {H : Hp} {s : Shared} {pos : Pos} {R : V → Hp → Prop} {Q : List Value → Shared → Prop} (he : PE X e t) (hs : starEach (e :: es) X.env = (false, eval e X.env) :: starEach es X.env) (I : Inv X pins σ H s) (h : t σ H R)
    (k : ∀ u v s1 H1, Inv X pins σ H1 s1 → L2.RelV v u → R v H1 → wpAny (model X.prog X.w) X.A (spliced (backTo pos (starEach es X.env))) (fun us s2 => Q (u :: us) s2) X.xe s1) : wpAny (model X.prog X.w) X.A (spliced (backTo pos (starEach (e :: es) X.env))) Q X.xe s := by
  rw [hs]
  show wpAny _ _ (spliced ((false, eval e X.env) :: backTo pos (starEach es X.env))) _ _ s
  exact Calls.spliced_cons (thn (he.run pins s σ H R I h) fun u s1 ⟨v, H1, I1, r, q⟩ => k u v s1 H1 I1 r q)
open Classical in
theorem me_hof {x : Str} {p0 pos lpos : Pos} {a1 a2 a3 fe : Expr} {e1 e2 e3 el : EF} {params : Arguments} {body : Expr} {sc : Scope} {g c PT : Addr} {fd : FuncData} {ps N fr Ng : List Str} {qual p : Str} {scope : Scope} {M : HF} {js : List Nat} {k kk kc : Nat} {sel : Ev → Option (List Va → AH → Rs Va)}
    (G : HoG X.prog X.w X.K X.mg X.base kk (kc + 1) g fd ps Ng qual scope M) (hg : Gl X x) (hm : X.mg x = some (.ref g)) (hk : PySem.W.keepIn X.K (.ref g) = true) (hb : Binds X.K fd ps []) (hr : Room k X.A) (hkk : kk ≤ k) (hgd : X.A.guards = some []) (tk : Takes X W)
    (h1 : ME X W a1 e1) (h2 : ME X W a2 e2) (h3 : ME X W a3 e3) (h5 : FunE X (kc + 1) fe sel)
    (TB : TabB X.base X.mg c PT) (hcode : X.env.code = .ref c) (hmT : (PT, X.env.qual ++ "<lambda>") ∈ Tabz.T) (hu : ∀ z ∈ Tabz.T, z.1 = PT → z.2 = X.env.qual ++ "<lambda>") (hdef : defaultsOf params X.env = ([], []))
    (hfree : ∀ y ∈ sc.names, y.2 = .free → X.env.scope.names.lookup y.1 = some .cell ∨ X.env.scope.names.lookup y.1 = some .free) (hfr : ∀ y ∈ fr, (y, NameKind.free) ∈ sc.names) (hjs : js.map (fun j => X.N[j]?) = fr.map some) (hfn : ∀ y, X.fn y = true) (hex : X.ex = [])
    (S : NScope N [p] fr sc) (hbind : ∀ (q : Str) (cl : List (Str × Addr)) (pm cv ctv : Value) (u : Value), bindArgs (PySem.W.kla_fn "<lambda>" q params body sc cl pm cv ctv) ⟨[u], []⟩ = pure [(p, u)])
    (hbody : ∀ (f c' : Addr) (q : Str) (cl : List (Str × Addr)) (A : Around) (outer : List Env) (s : Shared) (H : Hp) (E : XK), Room kc (A.deeper (envF ⟨"<lambda>", q, params, [], sc, cl, c'⟩ f s.heap.objs.size)) → (A.deeper (envF ⟨"<lambda>", q, params, [], sc, cl, c'⟩ f s.heap.objs.size)).guards = some [] → ME (ncx (L2.CX X.prog X.w) X.prog X.w X.K X.mg X.base N ⟨"<lambda>", q, params, [], sc, cl, c'⟩ f A outer s H E) (WB E) body el)
    (hdb : (x == ("__debug__" : Str)) = false := by decide) (hs1 : starEach [a1, a2, a3, .Lambda params body sc lpos, fe] X.env = (false, eval a1 X.env) :: starEach [a2, a3, .Lambda params body sc lpos, fe] X.env := by rfl) (hs2 : starEach [a2, a3, .Lambda params body sc lpos, fe] X.env = (false, eval a2 X.env) :: starEach [a3, .Lambda params body sc lpos, fe] X.env := by rfl)
    (hs3 : starEach [a3, .Lambda params body sc lpos, fe] X.env = (false, eval a3 X.env) :: starEach [.Lambda params body sc lpos, fe] X.env := by rfl) (hs5 : starEach [fe] X.env = (false, eval fe X.env) :: starEach [] X.env := by rfl) (hpl : (backTo pos (starEach [a2, a3, .Lambda params body sc lpos, fe] X.env)).any (·.1) = false := by rfl) :
    ME X W (.Call (.Name x p0) [a1, a2, a3, .Lambda params body sc lpos, fe] [] pos) (eHof e1 e2 e3 js N.length el sel M) := by
  refine ⟨⟨fun pins s σ H Q I h => ?_⟩⟩
  refine wpAny_Call_Name_kw (ld_glob I hg hm ?_ hdb)
  refine PySem.W.callWith_K (h₀ := X.base) I.ok.mod.kin hk ?_ hs1 hpl
  have h := Wi.bind (R := VR X.K) (k := fun ev v1 h1 => (e2 ev h1).bind fun v2 h2 => (e3 ev h2).bind fun v3 h3 => match capV ev js, sel ev with
    | some pvs, some F => if flatVs pvs = true ∧ ∀ f g : Addr, M f g (cloF N.length pvs el) F [v1, v2, v3, .exo f, .exo g] h3 = M 0 0 (cloF N.length pvs el) F [v1, v2, v3, .exo 0, .exo 0] h3 then M 0 0 (cloF N.length pvs el) F [v1, v2, v3, .exo 0, .exo 0] h3 else .bad
    | _, _ => .bad) h
  refine sp_cons h1.pe hs1 I h ?_
  rintro u1 w1 s1 H1 I1 rv1 ⟨m1, ah1, ev, v1, r1, re1, rx1, q1⟩
  have q1 := Post.bind (R := VR X.K) q1
  refine sp_cons h2.pe hs2 I1 ⟨m1, ah1, ev, r1, re1, q1⟩ ?_
  rintro u2 w2 s2 H2 I2 rv2 ⟨m2, ah2, v2, x2, r2, rx2, q2⟩
  have q2 := Post.bind (R := VR X.K) q2
  refine sp_cons h3.pe hs3 I2 ⟨m2, ah2, ev, r2, re1.ext r1 x2, q2⟩ ?_
  rintro u3 w3 s3 H3 I3 rv3 ⟨m3, ah3, v3, x3, r3, rx3, q3⟩
  have re3 : ER X.K H3 m3 ev σ := (re1.ext r1 x2).ext r2 x3
  cases hcap : capV ev js with
  | none => rw [hcap] at q3; exact q3.elim
  | some pvs =>
  rw [hcap] at q3
  cases hsel : sel ev with
  | none => rw [hsel] at q3; exact q3.elim
  | some F =>
  rw [hsel] at q3
  simp only at q3
  split at q3
  case isFalse => exact q3.elim
  rename_i hcond
  obtain ⟨hflat, hind⟩ := hcond
  show wpAny _ _ (spliced ((false, eval (.Lambda params body sc lpos) X.env) :: backTo pos (starEach [fe] X.env))) _ _ s3
  have hhas : ∀ y ∈ sc.names, y.2 = .free → ∃ c, X.env.cells.lookup y.1 = some c := fun y hy e => I3.ok.has _ (hfree y hy e)
  refine Calls.spliced_cons (lam_makeT I3 TB hcode hmT hu r3.tb hdef hhas fun f c' pm ctv H4 s4 I4 eN T4 hf hfN hff hcd => ?_)
  have e4 : Ext m3 H3 m3 H4 := extN_ext eN
  have r4 := hr_extN r3 eN T4
  have re4 := re3.ext r3 e4
  obtain ⟨fo, hfo⟩ : ∃ fo, fo = PySem.W.kla_obj "<lambda>" (X.env.qual ++ "<lambda>") params body sc (cloFrom X.env.cells sc.names []) pm c' ctv := ⟨_, rfl⟩
  have I4p : Inv X (pins ++ [(f, fo)]) σ H4 s4 := I4.pins_of fun z hz => by
    rcases List.mem_append.mp hz with hz | hz
    · exact I4.pin z (List.mem_append_right _ hz)
    · rw [List.mem_singleton] at hz
      subst hz
      refine ⟨by rw [hfo]; exact hf, hfN, fun e => ?_, fun e => ?_, fun v e => by rw [hfo] at e; cases e⟩
      · obtain ⟨mm, ⟨o, es, ep, ho, hd, _⟩, _⟩ := I4.loc
        have e : f = X.env.locals := e
        rw [← e, hf] at ho
        cases ho
        cases hd
      · exact hff (by
          rcases I4.ok.stk with z | ⟨z, _⟩
          · rw [z]; exact e
          · rw [z]
            unfold frs
            rw [List.filterMap_cons]
            split
            · exact e
            · exact List.mem_cons_of_mem _ e)
  obtain ⟨g2, good, h5r⟩ := h5.run _ _ _ _ _ _ _ I4p re4 hsel
  rw [hs5]
  show wpAny _ _ (spliced ((false, eval fe X.env) :: backTo pos (starEach [] X.env))) _ _ s4
  refine Calls.spliced_cons (thn (h5r (fun v H' => v = .ref g2 ∧ H' = H4) ⟨rfl, rfl⟩) ?_)
  rintro u5 s5 ⟨v5, H5, I5, rv5, ev5, eH5⟩
  rw [eH5] at I5
  rw [ev5] at rv5
  cases rv5
  refine Calls.spliced_nil ⟨I5.kIn, ?_⟩
  have pinf := I5.pin (f, fo) (List.mem_append_right _ (List.mem_append_right _ (by simp)))
  obtain ⟨ws, rws, hws⟩ := capV_er re4 hcap
  have caps : Caps X (cloFrom X.env.cells sc.names []) fr js := Caps.made I5.ok hfree hfr hjs
  have cells := cells_of I5 caps
  rw [hws] at cells
  have cout : ∀ y c, (cloFrom X.env.cells sc.names []).lookup y = some c → c ∉ frs X.stack := fun y c e z => by
    have e1 := caps.sub y c e
    rcases List.mem_cons.mp (I5.stkSub _ z) with z | z
    · exact I5.cne y c e1 z
    · obtain ⟨_, o, ho, _⟩ := I5.ok.funs.mem z
      exact absurd (Nat.lt_of_lt_of_le (Heap.lt_size ho) (I5.ok.cab y c (hfn y) e1)) (Nat.lt_irrefl _)
  have hold1 : ∀ cdv, Hold (kc + 1) (cxOf (L2.CX X.prog X.w) X.prog X.w X.K X.mg X.base Ng qual scope g cdv X.A X.stack s5 H4 (WE W σ)) f (cloF N.length pvs el) := fun cdv =>
    clo_hold (X := cxOf (L2.CX X.prog X.w) X.prog X.w X.K X.mg X.base Ng qual scope g cdv X.A X.stack s5 H4 (WE W σ)) (d := ⟨X.env.qual ++ "<lambda>", params, body, sc, cloFrom X.env.cells sc.names [], pm, ctv, c', PT, lpos⟩) (ws := ws) (fr := fr)
      ⟨⟨by rw [← hfo]; exact pinf.1, pinf.2.1, cells, hcd, rws.flat (fun _ _ z => z) (fun _ _ _ z => z) hflat, hflat⟩, ⟨hff, cout⟩, ⟨by simp [cxOf], fun _ _ _ => by simp [cxOf]⟩⟩ S (hbind _ _ _ _ _) hmT fun A outer s H E hr2 hg2 => hbody f _ _ _ A outer s H E hr2 hg2
  have hold2 : ∀ cdv, Hold (kc + 1) (cxOf (L2.CX X.prog X.w) X.prog X.w X.K X.mg X.base Ng qual scope g cdv X.A X.stack s5 H4 (WE W σ)) g2 F := fun cdv => good _ rfl rfl rfl rfl rfl
  have hsp : spG X.K X.mg (M f g2 (cloF N.length pvs el) F) [w1, w2, w3, .ref f, .ref g2] H4 Q (WE W σ) :=
    ⟨m3, ah3, [v1, v2, v3, .exo f, .exo g2], r4, .cons (((rx1.ext r1 x2).ext r2 x3).ext r3 e4) (.cons ((rx2.ext r2 x3).ext r3 e4) (.cons (rx3.ext r3 e4) (.cons (.exo f) (.cons (.exo g2) .nil)))), by rw [hind f g2]; exact Post.ext q3 e4⟩
  have hv5 : Vals [w1, w2, w3, .ref f, .ref g2] [u1, u2, u3, .ref f, .ref g2] := .cons rv1 (.cons rv2 (.cons rv3 (.cons rfl (.cons rfl .nil))))
  have hl := G.len _ _ _ _ _ _ _ _ hsp
  have b := hb s5 [u1, u2, u3, .ref f, .ref g2] I5.kIn (by simpa using hl)
  rw [List.append_nil] at b
  refine wpAny_call (codeAny_mono (G.run X.A X.stack s5 H4 ⟨_, []⟩ _ _ Q (WE W σ) f g2 _ F (hr.mono hkk) hgd I5.env0 b hv5 hold1 hold2 hsp) fun r s' hq => ?_)
  cases r with
  | error e => exact L2.passAt tk σ pins H4 s5 e s' I5.unpinned hq
  | ok fl =>
    cases fl with
    | ret u => exact (I5.unpinned (pins := pins)).after hq
    | next => exact False.elim hq
    | brk => exact False.elim hq
    | cont => exact False.elim hq
end
/-- a lambda's names against its maker's -/
def capB (sc msc : Scope) (fr : List Str) : Bool := (sc.names.all fun y => !decide (y.2 = .free) || decide (msc.names.lookup y.1 = some .cell) || decide (msc.names.lookup y.1 = some .free)) && fr.all fun y => decide ((y, NameKind.free) ∈ sc.names)
/-! ### dicts of defs at the module's top -/
section
variable {X : Cx} {W : WX}
end
end FL

set_option Elab.async false
set_option linter.all false
set_option maxRecDepth 100000
set_option maxHeartbeats 2000000
/-! FLHQ: max(xs, default=d), min(xs, default=d) of a list of whole numbers. -/
namespace FL
open PySem PySem.Spec PyProof.Rows L2
variable [Tabz]
def exI (mx : Bool) (i : Int) (is : List Int) : Int := if mx then PySem.W.maxOf i is else PySem.W.minOf i is
/-- the greatest (the least) of a tuple or a list, or w -/
def oExK (mx : Bool) (v w : Va) (h : AH) : Option (Va × AH) := match v with
  | .ref l => (match h[l]? with
    | some (.lst xs) => (match allI xs with
      | some [] => some (w, h)
      | some (i :: is) => some (.int (exI mx i is), h)
      | none => none)
    | _ => none)
  | _ => none
def eExK (mx : Bool) (f : EF) (tk : AF) : EF := fun ev h => (f ev h).bind fun v h1 => (tk ev h1).bind fun zs h2 => match zs with
  | [w] => ofO (oExK mx v w h2)
  | _ => .bad
def exN (mx : Bool) : String := if mx then "max" else "min"
def rExK (mx : Bool) (K : PySem.W.Frag) : List V → List V → Hp → VK → Prop := fun xs zs H Q => ∃ (a : Addr) (is : List Int) (z : V), xs = [.ref a] ∧ SqL K H a (is.map V.int) ∧ zs = [z] ∧ (is = [] → Q z H) ∧ ∀ i js, is = i :: js → Q (.int (exI mx i js)) H
section
variable {X : Cx} {W : WX} {a : Expr} {f : EF} {tk : AF} {kws : List Keyword} {p pos : Pos} {mx : Bool}
end
end FL

set_option Elab.async false
set_option linter.all false
set_option maxRecDepth 100000
set_option maxHeartbeats 2000000
/-! FLHI: what a def that is given two functions does hangs on the functions alone, not on where they stand. -/
namespace FL
open PySem
variable {f g : Nat}
/-- the two addresses made 0 -/
def zr (ev : Ev) : Ev := (ev.set 3 (some (.exo 0))).set 4 (some (.exo 0))
structure Gd (f g : Nat) (ev : Ev) : Prop where
  a : ev[3]? = some (some (.exo f))
  b : ev[4]? = some (some (.exo g))
theorem Gd.zr {ev : Ev} (G : Gd f g ev) : Gd 0 0 (zr ev) := by
  have l3 := (List.getElem?_eq_some_iff.mp G.a).1
  have l4 := (List.getElem?_eq_some_iff.mp G.b).1
  unfold FL.zr
  refine ⟨?_, ?_⟩
  · rw [List.getElem?_set_ne (by decide), List.getElem?_set_self l3]
  · rw [List.getElem?_set_self (by rw [List.length_set]; exact l4)]
theorem Gd.set {ev : Ev} (G : Gd f g ev) {k : Nat} {x : Option Va} (h3 : k ≠ 3) (h4 : k ≠ 4) : Gd f g (ev.set k x) :=
  ⟨by rw [List.getElem?_set_ne h3]; exact G.a, by rw [List.getElem?_set_ne h4]; exact G.b⟩
/-- expressions, tests, lists of them -/
def SimE (f g : Nat) {α : Type} (e e' : Ev → AH → Rs α) : Prop := ∀ ev, Gd f g ev → e ev = e' (zr ev)
section
variable {α : Type} {e e1 e' e1' : EF} {a a' : AF} {t t' : TF} {i i' : IF} {o : Op2}
end
/-! ### statements -/
def zrS : SR → SR
  | .nx ev h => .nx (zr ev) h
  | .rt v h => .rt v h
  | .bk ev h => .bk (zr ev) h
  | .ct ev h => .ct (zr ev) h
  | .exc c p ev h => .exc c p (zr ev) h
  | .bad => .bad
def gdS (f g : Nat) : SR → Prop
  | .nx ev _ => Gd f g ev
  | .bk ev _ => Gd f g ev
  | .ct ev _ => Gd f g ev
  | _ => True
def SimO (f g : Nat) (r r' : SR) : Prop := zrS r = r' ∧ gdS f g r
def SimS (f g : Nat) (b b' : SF) : Prop := ∀ ev h, Gd f g ev → SimO f g (b ev h) (b' (zr ev) h)
section
variable {α : Type} {e e1 e2 e' e1' e2' : EF} {a a' : AF} {t t' : TF} {i i' : IF} {b b' c c' : SF}
end
end FL

set_option Elab.async false
set_option linter.all false
set_option maxRecDepth 100000
set_option maxHeartbeats 2000000
/-! FLHT: sorted(t) of a tuple of whole numbers. -/
namespace FL
open PySem PySem.Spec PyProof PyProof.Rows L2
variable [Tabz]
section
variable {prog : Program} {w : World} {A : Around} {E : Value → Shared → Prop} {s : Shared}
end
section
variable {X : Cx}
def rSortT (K : PySem.W.Frag) : List V → Hp → VK → Prop := fun vs H Q => ∃ (a : Addr) (ns : List Int), vs = [V.ref a] ∧ SqT K H a (ns.map V.int) ∧ ns.length < 64 ∧
  ∀ (p : Addr), H p = none → Q (.ref p) (upd H p (.lst ((sortI ns).map V.int)))
/-- sorted(t): t a tuple of whole numbers -/
def oSortT : OpN := fun ps h => match ps with
  | [p] => (match tupW p with
    | some xs => (match allI xs with
      | some is => if is.length < 64 then some (.ref h.length, h ++ [.lst ((sortI is).map Va.int)]) else none
      | none => none)
    | none => none)
  | _ => none
end
end FL

set_option Elab.async false
set_option linter.all false
set_option maxRecDepth 100000
set_option maxHeartbeats 2000000
/-! FLHU: t.index(x), t a tuple (without __dict__) of tuples of whole numbers. -/
namespace FL
open PySem PySem.Spec PyProof.Rows L2
variable [Tabz]
def tupI (v : Va) : Option (List Int) := match tupW v with
  | some xs => allI xs
  | none => none
def allT : List Va → Option (List (List Int))
  | [] => some []
  | x :: xs => match tupI x, allT xs with
    | some y, some ys => some (y :: ys)
    | _, _ => none
def tD (is : List Int) : PyData := .tuple (is.map .int)
section
variable {K : PySem.W.Frag} {H : Hp} {m : List Addr}
end
def eIdxTT (fo fe : EF) : EF := fun ev h => (fo ev h).bind fun v h1 => match v with
  | .tud xs => (fe ev h1).bind fun i h2 => match tupI i, allT xs with
    | some k, some nss => if PySem.W.Tup.mk k ∈ nss.map PySem.W.Tup.mk then .ok (.int ((nss.map PySem.W.Tup.mk).idxOf (PySem.W.Tup.mk k) : Nat)) h2 else .bad
    | _, _ => .bad
  | _ => .bad
def tIdxTT (K : PySem.W.Frag) (td ty : TE) : TE := fun σ H Q => td σ H fun x H1 => ∃ (a : Addr) (o : Obj) (vs : List V), x = V.ref a ∧ H1 a = some (.frz o (.tup vs)) ∧ o.dict = none ∧ ty σ H1 fun y H2 => ∃ (nss : List (List Int)) (k : List Int), H2 a = some (.frz o (.tup vs)) ∧ DpAll K H2 vs (nss.map tD) ∧ Dp K H2 y (tD k) ∧ PySem.W.Tup.mk k ∈ nss.map PySem.W.Tup.mk ∧ Q (.int ((nss.map PySem.W.Tup.mk).idxOf (PySem.W.Tup.mk k) : Nat)) H2
section
variable {X : Cx} {W : WX} {o e : Expr} {fo fe : EF} {td ty : TE} {apos cpos : Pos}
end
end FL

set_option Elab.async false
set_option linter.all false
set_option maxRecDepth 100000
set_option maxHeartbeats 2000000
/-! FLHV: xs.insert(i, y); a local name that holds a lambda, handed over. -/
namespace FL
open PySem PySem.Spec PyProof.Rows L2
variable [Tabz]
section
variable {X : Cx}
def rInsert : V → List V → Hp → VK → Prop := fun x vs H Q => ∃ l xs i y, x = .ref l ∧ vs = [.int i, y] ∧ H l = some (.lst xs) ∧ 0 ≤ i ∧ i < 2 ^ 63 ∧ xs.length < sizeLine ∧ Q .non (upd H l (.lst (xs.take i.toNat ++ y :: xs.drop i.toNat)))
end
def oInsert : OpM := fun v vs h => match v, vs with
  | .ref l, [.int i, y] => (match lstAt h l with
    | some xs => if decide (0 ≤ i) && decide (i < 1000000000) && decide (xs.length < lim) then some (.non, h.set l (.lst (xs.take i.toNat ++ y :: xs.drop i.toNat))) else none
    | none => none)
  | _, _ => none
section
variable {X : Cx} {W : WX} {o e1 e2 : Expr} {fo : EF} {ta : AF} {apos cpos : Pos}
end
/-! ### quiet expressions: what they leave of tables is the same -/
def TabSame (H H' : Hp) : Prop := ∀ P ps, H P = some (.tbl ps) → H' P = some (.tbl ps)
theorem TabSame.refl {H : Hp} : TabSame H H := fun _ _ h => h
theorem TabSame.trans {H H1 H2 : Hp} (a : TabSame H H1) (b : TabSame H1 H2) : TabSame H H2 := fun P ps h => b P ps (a P ps h)
def tQ (K : PySem.W.Frag) (f : EF) : TE := fun σ H Q => ∃ m ah ev v ah', HR K H m ah ∧ ER K H m ev σ ∧ f ev ah = .ok v ah' ∧ ∀ m' H' w, Ext m H m' H' → TabSame H H' → HR K H' m' ah' → VR K H' m' v w → Q w H'
def tQs (K : PySem.W.Frag) (f : AF) : TA := fun σ H Q => ∃ m ah ev v ah', HR K H m ah ∧ ER K H m ev σ ∧ f ev ah = .ok v ah' ∧ ∀ m' H' w, Ext m H m' H' → TabSame H H' → HR K H' m' ah' → VRs K H' m' v w → Q w H'
structure MQ (X : Cx) (e : Expr) (f : EF) : Prop where
  pe : PE X e (tQ X.K f)
  ne : ∀ ev h c p a, f ev h ≠ .exc c p a
structure MQA (X : Cx) (es : List Expr) (f : AF) : Prop where
  pa : PA X es (tQs X.K f)
  ne : ∀ ev h c p a, f ev h ≠ .exc c p a
section
variable {X : Cx} {W : WX} {e a b : Expr} {es : List Expr} {f g : EF} {ta : AF} {pos : Pos}
def rOQ (K : PySem.W.Frag) (o : Op2) : R2 := fun x y H Q => ∃ m ah p q v ah', HR K H m ah ∧ VR K H m p x ∧ VR K H m q y ∧ o p q ah = some (v, ah') ∧ ∀ m' H' w, Ext m H m' H' → TabSame H H' → HR K H' m' ah' → VR K H' m' v w → Q w H'
end
end FL

set_option Elab.async false
set_option linter.all false
set_option maxRecDepth 100000
set_option maxHeartbeats 2000000
/-! FLHW: y = lambda p: ..; return x(a, b, c, y, fe). -/
namespace FL
open PySem PySem.Spec PyProof.Rows L2 LamX NdefX
variable [Tabz]
/-- y (slot i) = lambda p: el; return x(a, b, c, y, fe) -/
noncomputable def sHofL (i : Nat) (e1 e2 e3 : EF) (js : List Nat) (n : Nat) (el : EF) (sel : Ev → Option (List Va → AH → Rs Va)) (M : HF) : SF := fun ev h => (eHof e1 e2 e3 js n el sel M (ev.set i none) h).s (ev.set i none) fun v h1 => .rt v h1
theorem post_ofS {K : PySem.W.Frag} {mg : Str → Option Value} {W : WX} {m m3 : List Addr} {H H3 : Hp} {D : Ends} {r : Rs Va} {ev : Ev} {σ : L2.St} {ah : AH} (q : PostS K mg W m H D (r.s ev fun v h1 => .rt v h1)) (x : Ext m H m3 H3) (rh : HR K H3 m3 ah) (re : ER K H3 m3 ev σ) : Post K mg (VR K) m3 H3 (fun cls d H' => W cls d σ H') r (fun w H' => D.rt w H') := by
  cases r with
  | ok v a => exact fun m' H' w x2 => q m' H' w (x.trans x2)
  | exc c p a => exact fun m' H' cls d x2 r2 xr => q m' H' cls d σ (x.trans x2) r2 (re.ext rh x2) xr
  | bad => exact q
theorem er_unset {K : PySem.W.Frag} {H : Hp} {m : List Addr} {ev : Ev} {σ : L2.St} {i : Nat} {v : V} (re : ER K H m ev σ) : ER K H m (ev.set i none) (σ.set i (some v)) := by
  refine ⟨by simp [re.len], fun j w e => ?_⟩
  by_cases h : i = j
  · subst h
    by_cases hl : i < ev.length
    · rw [List.getElem?_set_self hl] at e
      cases e
    · rw [List.getElem?_eq_none (by simp; omega)] at e
      cases e
  · rw [List.getElem?_set_ne h] at e
    rw [List.getElem?_set_ne h]
    exact re.get j w e
section
variable {X : Cx} {W : WX}
open Classical in
theorem mss_hofL {i : Nat} {x y : Str} {p0 py p4 pa pr pos lpos : Pos} {a1 a2 a3 fe : Expr} {e1 e2 e3 el : EF} {params : Arguments} {body : Expr} {sc : Scope} {g c PT : Addr} {fd : FuncData} {ps N fr Ng : List Str} {qual p : Str} {scope : Scope} {M : HF} {js : List Nat} {k kk kc : Nat} {sel : Ev → Option (List Va → AH → Rs Va)}
    (G : HoG X.prog X.w X.K X.mg X.base kk (kc + 1) g fd ps Ng qual scope M) (hg : Gl X x) (hm : X.mg x = some (.ref g)) (hk : PySem.W.keepIn X.K (.ref g) = true) (hb : Binds X.K fd ps []) (hr : Room k X.A) (hkk : kk ≤ k) (hgd : X.A.guards = some []) (tk : Takes X W)
    (hNd : X.N.Nodup) (hi : X.N[i]? = some y) (hLoc : Loc X.env.scope y) (hv : Vis X.env.scope y) (hdy : (y == ("__debug__" : Str)) = false) (hcy : (y == ("__classdict__" : Str)) = false)
    (h1 : MQ X a1 e1) (h2 : MQ X a2 e2) (h3 : MQ X a3 e3) (h5 : FunE X (kc + 1) fe sel)
    (TB : TabB X.base X.mg c PT) (hcode : X.env.code = .ref c) (hmT : (PT, X.env.qual ++ "<lambda>") ∈ Tabz.T) (hu : ∀ z ∈ Tabz.T, z.1 = PT → z.2 = X.env.qual ++ "<lambda>") (hdef : defaultsOf params X.env = ([], []))
    (hfree : ∀ y ∈ sc.names, y.2 = .free → X.env.scope.names.lookup y.1 = some .cell ∨ X.env.scope.names.lookup y.1 = some .free) (hfr : ∀ y ∈ fr, (y, NameKind.free) ∈ sc.names) (hjs : js.map (fun j => X.N[j]?) = fr.map some) (hfn : ∀ y, X.fn y = true) (hex : X.ex = [])
    (S : NScope N [p] fr sc) (hbind : ∀ (q : Str) (cl : List (Str × Addr)) (pm cv ctv : Value) (u : Value), bindArgs (PySem.W.kla_fn "<lambda>" q params body sc cl pm cv ctv) ⟨[u], []⟩ = pure [(p, u)])
    (hbody : ∀ (f c' : Addr) (q : Str) (cl : List (Str × Addr)) (A : Around) (outer : List Env) (s : Shared) (H : Hp) (E : XK), Room kc (A.deeper (envF ⟨"<lambda>", q, params, [], sc, cl, c'⟩ f s.heap.objs.size)) → (A.deeper (envF ⟨"<lambda>", q, params, [], sc, cl, c'⟩ f s.heap.objs.size)).guards = some [] → ME (ncx (L2.CX X.prog X.w) X.prog X.w X.K X.mg X.base N ⟨"<lambda>", q, params, [], sc, cl, c'⟩ f A outer s H E) (WB E) body el)
    (hdb : (x == ("__debug__" : Str)) = false := by decide) (hsw : swapsWith (.Lambda params body sc lpos) (some (.Name y py)) pa.line X.env = pure false := by rfl) (hs1 : starEach [a1, a2, a3, .Name y p4, fe] X.env = (false, eval a1 X.env) :: starEach [a2, a3, .Name y p4, fe] X.env := by rfl) (hs2 : starEach [a2, a3, .Name y p4, fe] X.env = (false, eval a2 X.env) :: starEach [a3, .Name y p4, fe] X.env := by rfl)
    (hs3 : starEach [a3, .Name y p4, fe] X.env = (false, eval a3 X.env) :: starEach [.Name y p4, fe] X.env := by rfl) (hs4 : starEach [.Name y p4, fe] X.env = (false, eval (.Name y p4) X.env) :: starEach [fe] X.env := by rfl) (hs5 : starEach [fe] X.env = (false, eval fe X.env) :: starEach [] X.env := by rfl) (hpl : (backTo pos (starEach [a2, a3, .Name y p4, fe] X.env)).any (·.1) = false := by rfl) :
    MSs X W [.Assign [.Name y py] (.Lambda params body sc lpos) pa, .Return (some (.Call (.Name x p0) [a1, a2, a3, .Name y p4, fe] [] pos)) pr] (sHofL i e1 e2 e3 js N.length el sel M) := by
  refine ⟨⟨fun pins s σ H D I h => ?_⟩⟩
  obtain ⟨m, ah, ev, r, re, q⟩ := h
  unfold sHofL at q
  obtain ⟨ev', hev'⟩ : ∃ ev', ev' = ev.set i none := ⟨_, rfl⟩
  rw [← hev'] at q
  -- what is reckoned
  have q := q
  unfold eHof at q
  cases ef1 : e1 ev' ah with
  | exc c p a => exact absurd ef1 (h1.ne _ _ _ _ _)
  | bad => rw [ef1] at q; exact q.elim
  | ok v1 ah1 =>
  rw [ef1] at q
  simp only [Rs.bind_ok] at q
  cases ef2 : e2 ev' ah1 with
  | exc c p a => exact absurd ef2 (h2.ne _ _ _ _ _)
  | bad => rw [ef2] at q; exact q.elim
  | ok v2 ah2 =>
  rw [ef2] at q
  simp only [Rs.bind_ok] at q
  cases ef3 : e3 ev' ah2 with
  | exc c p a => exact absurd ef3 (h3.ne _ _ _ _ _)
  | bad => rw [ef3] at q; exact q.elim
  | ok v3 ah3 =>
  rw [ef3] at q
  simp only [Rs.bind_ok] at q
  cases hcap : capV ev' js with
  | none => rw [hcap] at q; exact q.elim
  | some pvs =>
  rw [hcap] at q
  cases hsel : sel ev' with
  | none => rw [hsel] at q; exact q.elim
  | some F =>
  rw [hsel] at q
  simp only at q
  split at q
  case isFalse => exact q.elim
  rename_i hcond
  obtain ⟨hflat, hind⟩ := hcond
  -- the lambda
  have hhas : ∀ y ∈ sc.names, y.2 = .free → ∃ c, X.env.cells.lookup y.1 = some c := fun y hy e => I.ok.has _ (hfree y hy e)
  refine wpAny_execs_cons (wpAny_Assign_Name (lam_makeT I TB hcode hmT hu r.tb hdef hhas fun f c' pm ctv H4 s4 I4 eN T4 hf hfN hff hcd => ?_) hsw)
  have e4 : Ext m H m H4 := extN_ext eN
  have r4 := hr_extN r eN T4
  obtain ⟨fo, hfo⟩ : ∃ fo, fo = PySem.W.kla_obj "<lambda>" (X.env.qual ++ "<lambda>") params body sc (cloFrom X.env.cells sc.names []) pm c' ctv := ⟨_, rfl⟩
  have I4p : Inv X (pins ++ [(f, fo)]) σ H4 s4 := I4.pins_of fun z hz => by
    rcases List.mem_append.mp hz with hz | hz
    · exact I4.pin z (List.mem_append_right _ hz)
    · rw [List.mem_singleton] at hz
      subst hz
      refine ⟨by rw [hfo]; exact hf, hfN, fun e => ?_, fun e => ?_, fun v e => by rw [hfo] at e; cases e⟩
      · obtain ⟨mm, ⟨o, es, ep, ho, hd, _⟩, _⟩ := I4.loc
        have e : f = X.env.locals := e
        rw [← e, hf] at ho
        cases ho
        cases hd
      · exact hff (by
          rcases I4.ok.stk with z | ⟨z, _⟩
          · rw [z]; exact e
          · rw [z]
            unfold frs
            rw [List.filterMap_cons]
            split
            · exact e
            · exact List.mem_cons_of_mem _ e)
  refine store_ok I4p hNd hi hLoc (v := .ref f) rfl (fun s5 I5 => ?_) (.inl (hfn y))
  have re5 : ER X.K H4 m ev' (σ.set i (some (.ref f))) := by
    rw [hev']
    exact er_unset (re.ext r e4)
  have hσi : (σ.set i (some (V.ref f)))[i]? = some (some (.ref f)) := by
    have : i < σ.length := by rw [I.len]; exact (List.getElem?_eq_some_iff.mp hi).1
    exact List.getElem?_set_self this
  generalize σ.set i (some (V.ref f)) = σ' at I5 re5 hσi
  refine wpAny_execs_cons (wpAny_Return_some ?_)
  refine wpAny_Call_Name_kw (ld_glob I5 hg hm ?_ hdb)
  refine PySem.W.callWith_K (h₀ := X.base) I5.ok.mod.kin hk ?_ hs1 hpl
  refine sp_cons h1.pe hs1 I5 (R := fun w H' => ∃ m', Ext m H4 m' H' ∧ TabSame H4 H' ∧ HR X.K H' m' ah1 ∧ VR X.K H' m' v1 w) ⟨m, ah, ev', v1, ah1, r4, re5, ef1, fun m' H' w x t r rv => ⟨m', x, t, r, rv⟩⟩ ?_
  rintro u1 w1 s6 H6 I6 rv1 ⟨m6, x6, t6, r6, rx1⟩
  have re6 := re5.ext r4 x6
  refine sp_cons h2.pe hs2 I6 (R := fun w H' => ∃ m', Ext m6 H6 m' H' ∧ TabSame H6 H' ∧ HR X.K H' m' ah2 ∧ VR X.K H' m' v2 w) ⟨m6, ah1, ev', v2, ah2, r6, re6, ef2, fun m' H' w x t r rv => ⟨m', x, t, r, rv⟩⟩ ?_
  rintro u2 w2 s7 H7 I7 rv2 ⟨m7, x7, t7, r7, rx2⟩
  have re7 := re6.ext r6 x7
  refine sp_cons h3.pe hs3 I7 (R := fun w H' => ∃ m', Ext m7 H7 m' H' ∧ TabSame H7 H' ∧ HR X.K H' m' ah3 ∧ VR X.K H' m' v3 w) ⟨m7, ah2, ev', v3, ah3, r7, re7, ef3, fun m' H' w x t r rv => ⟨m', x, t, r, rv⟩⟩ ?_
  rintro u3 w3 s8 H8 I8 rv3 ⟨m8, x8, t8, r8, rx3⟩
  have re8 := re7.ext r7 x8
  refine sp_cons (pe_var hi hv hdy hcy) hs4 I8 (R := fun w H' => w = .ref f ∧ H' = H8) ⟨.ref f, hσi, rfl, rfl⟩ ?_
  rintro u4 w4 s9 H9 I9 rv4 ⟨ew4, eH9⟩
  rw [eH9] at I9
  rw [ew4] at rv4
  cases rv4
  obtain ⟨g2, good, h5r⟩ := h5.run _ _ _ _ _ _ _ I9 re8 hsel
  rw [hs5]
  show wpAny _ _ (spliced ((false, eval fe X.env) :: backTo pos (starEach [] X.env))) _ _ s9
  refine Calls.spliced_cons (thn (h5r (fun v H' => v = .ref g2 ∧ H' = H8) ⟨rfl, rfl⟩) ?_)
  rintro u5 sA ⟨v5, HA, IA, rv5, ev5, eHA⟩
  rw [eHA] at IA
  rw [ev5] at rv5
  cases rv5
  refine Calls.spliced_nil ⟨IA.kIn, ?_⟩
  have pinf := IA.pin (f, fo) (List.mem_append_right _ (List.mem_append_right _ (by simp)))
  obtain ⟨ws, rws, hws⟩ := capV_er re8 hcap
  have caps : Caps X (cloFrom X.env.cells sc.names []) fr js := Caps.made IA.ok hfree hfr hjs
  have cells := cells_of IA caps
  rw [hws] at cells
  have cout : ∀ y c, (cloFrom X.env.cells sc.names []).lookup y = some c → c ∉ frs X.stack := fun y c e z => by
    have e1 := caps.sub y c e
    rcases List.mem_cons.mp (IA.stkSub _ z) with z | z
    · exact IA.cne y c e1 z
    · obtain ⟨_, o, ho, _⟩ := IA.ok.funs.mem z
      exact absurd (Nat.lt_of_lt_of_le (Heap.lt_size ho) (IA.ok.cab y c (hfn y) e1)) (Nat.lt_irrefl _)
  have hcd8 : ∃ ps : Array Value, H8 PT = some (.tbl ps) ∧ codeAmong lpos ps.toList = some (.ref c') := by
    obtain ⟨qs, z1, z2⟩ := hcd
    exact ⟨qs, t8 _ _ (t7 _ _ (t6 _ _ z1)), z2⟩
  have hold1 : ∀ cdv, Hold (kc + 1) (cxOf (L2.CX X.prog X.w) X.prog X.w X.K X.mg X.base Ng qual scope g cdv X.A X.stack sA H8 (WE W σ')) f (cloF N.length pvs el) := fun cdv =>
    clo_hold (X := cxOf (L2.CX X.prog X.w) X.prog X.w X.K X.mg X.base Ng qual scope g cdv X.A X.stack sA H8 (WE W σ')) (d := ⟨X.env.qual ++ "<lambda>", params, body, sc, cloFrom X.env.cells sc.names [], pm, ctv, c', PT, lpos⟩) (ws := ws) (fr := fr)
      ⟨⟨by rw [← hfo]; exact pinf.1, pinf.2.1, cells, hcd8, rws.flat (fun _ _ z => z) (fun _ _ _ z => z) hflat, hflat⟩, ⟨hff, cout⟩, ⟨by simp [cxOf], fun _ _ _ => by simp [cxOf]⟩⟩ S (hbind _ _ _ _ _) hmT fun A outer s H E hr2 hg2 => hbody f _ _ _ A outer s H E hr2 hg2
  have hold2 : ∀ cdv, Hold (kc + 1) (cxOf (L2.CX X.prog X.w) X.prog X.w X.K X.mg X.base Ng qual scope g cdv X.A X.stack sA H8 (WE W σ')) g2 F := fun cdv => good _ rfl rfl rfl rfl rfl
  have hsp : spG X.K X.mg (M f g2 (cloF N.length pvs el) F) [w1, w2, w3, .ref f, .ref g2] H8 (fun w H' => D.rt w H') (WE W σ') :=
    ⟨m8, ah3, [v1, v2, v3, .exo f, .exo g2], r8, .cons ((rx1.ext r6 x7).ext r7 x8) (.cons (rx2.ext r7 x8) (.cons rx3 (.cons (.exo f) (.cons (.exo g2) .nil)))), by
      rw [hind f g2]
      exact post_ofS q (((e4.trans x6).trans x7).trans x8) r8 re8⟩
  have hv5 : Vals [w1, w2, w3, .ref f, .ref g2] [u1, u2, u3, .ref f, .ref g2] := .cons rv1 (.cons rv2 (.cons rv3 (.cons rfl (.cons rfl .nil))))
  have hl := G.len _ _ _ _ _ _ _ _ hsp
  have b := hb sA [u1, u2, u3, .ref f, .ref g2] IA.kIn (by simpa using hl)
  rw [List.append_nil] at b
  refine wpAny_call (codeAny_mono (G.run X.A X.stack sA H8 ⟨_, []⟩ _ _ (fun w H' => D.rt w H') (WE W σ') f g2 _ F (hr.mono hkk) hgd IA.env0 b hv5 hold1 hold2 hsp) fun r s' hq => ?_)
  cases r with
  | error e => exact L2.passAt tk σ' pins H8 sA e s' IA.unpinned hq
  | ok fl =>
    cases fl with
    | ret u =>
      obtain ⟨w, H', I', r', q'⟩ := (IA.unpinned (pins := pins)).after hq
      exact ⟨w, σ', H', I', r', q'⟩
    | next => exact False.elim hq
    | brk => exact False.elim hq
    | cont => exact False.elim hq
end
end FL

set_option Elab.async false
set_option linter.all false
set_option maxRecDepth 100000
set_option maxHeartbeats 2000000
/-! FLEZ: tuples and lists that are not empty, compared with the empty one (their parts are not read). -/
namespace FL
open PySem PySem.Spec PyProof.Rows L2 LamX NdefX
variable [Tabz]
def oEqZ (neg : Bool) : Op2 := fun p q h => match p with
  | .tup (x :: xs) => (match q with
    | .tup [] => some (.bl neg, h)
    | q => oEqv2 neg (.tup (x :: xs)) q h)
  | .ref a => (match q with
    | .ref b => (match lstAt h a with
      | some (x :: xs) => (match lstAt h b with
        | some [] => some (.bl neg, h)
        | _ => oEqv2 neg (.ref a) (.ref b) h)
      | _ => oEqv2 neg (.ref a) (.ref b) h)
    | q => oEqv2 neg (.ref a) q h)
  | p => oEqv2 neg p q h
section
variable {X : Cx}
theorem op_oEqZ {k : Nat} (hr : Room k X.A) : OpR X (compareOp .Eq) (rO X.K (oEqZ false)) := by
  intro pins s σ H x y v u Q I rx ry h
  obtain ⟨m, ah, p, q, z, ah', r, rp, rq, e, kk⟩ := h
  have base := op_oEq2 (X := X) hr
  have hu := hr.un
  unfold oEqZ at e
  split at e
  case h_3 => exact base pins s σ H x y v u Q I rx ry ⟨m, ah, _, _, z, ah', r, rp, rq, e, kk⟩
  · rename_i w ws
    split at e
    case h_2 => exact base pins s σ H x y v u Q I rx ry ⟨m, ah, _, _, z, ah', r, rp, rq, e, kk⟩
    cases e
    cases rp with
    | tup ha g1 =>
    cases rq with
    | tup hb g2 =>
    cases g2
    rename_i a1 vs b1
    obtain rfl : v = Value.ref a1 := rx
    obtain rfl : u = Value.ref b1 := ry
    obtain ⟨its, t1, t2, _⟩ := I.tuple ha
    obtain ⟨its2, t3, t4, _⟩ := I.tuple hb
    cases t3
    cases g1 with
    | cons q1 q2 =>
    cases t1 with
    | @cons _ _ _ i1 w1 w2 =>
    refine SeqAt.eq_tupleAt (e := fun _ => true) t2 t4 (by omega) (fun j h1 h2 => absurd h2 (by simp)) ?_
    exact ⟨.bl false, H, I, (by show Value.bool _ = Value.bool false; simp), kk m H _ .refl r (.bl _)⟩
  · rename_i a
    split at e
    case h_2 => exact base pins s σ H x y v u Q I rx ry ⟨m, ah, _, _, z, ah', r, rp, rq, e, kk⟩
    rename_i b
    split at e
    case h_2 => exact base pins s σ H x y v u Q I rx ry ⟨m, ah, _, _, z, ah', r, rp, rq, e, kk⟩
    rename_i w ws hla
    split at e
    case h_2 => exact base pins s σ H x y v u Q I rx ry ⟨m, ah, _, _, z, ah', r, rp, rq, e, kk⟩
    rename_i hlb
    cases e
    cases rp with
    | @ref _ a1 ha =>
    cases rq with
    | @ref _ b1 hb =>
    obtain rfl : v = Value.ref a1 := rx
    obtain rfl : u = Value.ref b1 := ry
    obtain ⟨vs, g1, g2⟩ := r.lst ha (lstAt_some hla)
    obtain ⟨us, g3, g4⟩ := r.lst hb (lstAt_some hlb)
    cases g4
    obtain ⟨_, its, n, t1, t2⟩ := (show ObjOk X.prog X.w H s.heap a1 (.lst vs) from I.hok a1 _ g1)
    obtain ⟨_, its2, n2, t3, t4⟩ := (show ObjOk X.prog X.w H s.heap b1 (.lst []) from I.hok b1 _ g3)
    cases t3
    cases g2 with
    | cons q1 q2 =>
    cases t1 with
    | cons w1 w2 =>
    exact SeqAt.eq_list_lengthsAt ⟨_, t2, rfl, n, rfl⟩ ⟨_, t4, rfl, n2, rfl⟩ (by simp) (by omega) ⟨.bl false, H, I, rfl, kk m H _ .refl r (.bl _)⟩
theorem op_oNeZ {k : Nat} (hr : Room k X.A) : OpR X (compareOp .NotEq) (rO X.K (oEqZ true)) := by
  intro pins s σ H x y v u Q I rx ry h
  obtain ⟨m, ah, p, q, z, ah', r, rp, rq, e, kk⟩ := h
  have base := op_oNe2 (X := X) hr
  have hu := hr.un
  unfold oEqZ at e
  split at e
  case h_3 => exact base pins s σ H x y v u Q I rx ry ⟨m, ah, _, _, z, ah', r, rp, rq, e, kk⟩
  · rename_i w ws
    split at e
    case h_2 => exact base pins s σ H x y v u Q I rx ry ⟨m, ah, _, _, z, ah', r, rp, rq, e, kk⟩
    cases e
    cases rp with
    | tup ha g1 =>
    cases rq with
    | tup hb g2 =>
    cases g2
    rename_i a1 vs b1
    obtain rfl : v = Value.ref a1 := rx
    obtain rfl : u = Value.ref b1 := ry
    obtain ⟨its, t1, t2, _⟩ := I.tuple ha
    obtain ⟨its2, t3, t4, _⟩ := I.tuple hb
    cases t3
    cases g1 with
    | cons q1 q2 =>
    cases t1 with
    | @cons _ _ _ i1 w1 w2 =>
    refine SeqAt.RcNeAt.tuples (e := fun _ => true) t2 t4 (by omega) (fun j h1 h2 => absurd h2 (by simp)) _ _ _ _ ?_
    exact ⟨.bl true, H, I, (by show Value.bool _ = Value.bool true; simp), kk m H _ .refl r (.bl _)⟩
  · rename_i a
    split at e
    case h_2 => exact base pins s σ H x y v u Q I rx ry ⟨m, ah, _, _, z, ah', r, rp, rq, e, kk⟩
    rename_i b
    split at e
    case h_2 => exact base pins s σ H x y v u Q I rx ry ⟨m, ah, _, _, z, ah', r, rp, rq, e, kk⟩
    rename_i w ws hla
    split at e
    case h_2 => exact base pins s σ H x y v u Q I rx ry ⟨m, ah, _, _, z, ah', r, rp, rq, e, kk⟩
    rename_i hlb
    cases e
    cases rp with
    | @ref _ a1 ha =>
    cases rq with
    | @ref _ b1 hb =>
    obtain rfl : v = Value.ref a1 := rx
    obtain rfl : u = Value.ref b1 := ry
    obtain ⟨vs, g1, g2⟩ := r.lst ha (lstAt_some hla)
    obtain ⟨us, g3, g4⟩ := r.lst hb (lstAt_some hlb)
    cases g4
    obtain ⟨_, its, n, t1, t2⟩ := (show ObjOk X.prog X.w H s.heap a1 (.lst vs) from I.hok a1 _ g1)
    obtain ⟨_, its2, n2, t3, t4⟩ := (show ObjOk X.prog X.w H s.heap b1 (.lst []) from I.hok b1 _ g3)
    cases t3
    cases g2 with
    | cons q1 q2 =>
    cases t1 with
    | cons w1 w2 =>
    exact SeqAt.RcNeAt.lists_lengths ⟨_, t2, rfl, n, rfl⟩ ⟨_, t4, rfl, n2, rfl⟩ (by simp) (by omega) _ _ _ _ ⟨.bl true, H, I, rfl, kk m H _ .refl r (.bl _)⟩
end
section
variable {neg : Bool} {h : AH} {x : Va} {xs : List Va} {a b : Nat}
theorem o_eqZl (e1 : lstAt h a = some (x :: xs)) (e2 : lstAt h b = some []) : oEqZ neg (.ref a) (.ref b) h = some (.bl neg, h) := by
  unfold oEqZ
  simp only [e1, e2]
theorem o_eqZn (e1 : lstAt h a = some []) (e2 : lstAt h b = some []) : oEqZ neg (.ref a) (.ref b) h = some (.bl (!neg), h) := by
  have q1 : ∀ c : Nat, lstAt h c = some [] → toPy h depthL (.ref c) = some (.list []) := fun c e => by
    show toPy h (11 + 1) (.ref c) = _
    rw [toPy, lstAt_some e]
    rfl
  have sn : SeqAt.shaped (.list []) = true := rfl
  unfold oEqZ
  simp only [e1]
  unfold oEqv2 oEqv
  simp only [q1 a e1, q1 b e2, sn, Bool.and_self, if_true]
  cases neg <;> rfl
end
end FL

set_option Elab.async false
set_option linter.all false
set_option maxRecDepth 100000
set_option maxHeartbeats 4000000
namespace FL
open PySem PySem.Spec PyProof.Rows L2 NdefX LamX
def b_is_integer : SF := sSeq (sIf (tOr (tNot (tB (eIsi "int" (eVar 0)))) (tB (eIsi "bool" (eVar 0)))) (sRet (eC (.bl false))) (sNil)) (sRet (eAnd (eOr (eOp (oIs false) (eVar 1) (eC .non)) (eOp oGe (eVar 0) (eVar 1))) (eOr (eOp (oIs false) (eVar 2) (eC .non)) (eOp oLe (eVar 0) (eVar 2)))))
def m_is_integer : List Va → AH → Rs Va := fnF 3 3 b_is_integer

def b_has_shortcuts : SF := sSeq (sSet 1 (eLR1 mkL (eAp oLen (aCons (eVar 0) (aNil))))) (sSeq (sFor (iOf1 (eVar 1) srcOf) (gNm 2) (sFor (iOf1 (eVar 1) srcOf) (gNm 3) (sIf (tB (eAp oAny (aCons (eLc (iOf1 (eVar 1) srcOf) (gNm 4) (tYesF) (eOp oGt (eOp oIx (eOp oIx (eVar 0) (eVar 3)) (eVar 4)) (eOp oAdd (eOp oIx (eOp oIx (eVar 0) (eVar 3)) (eVar 2)) (eOp oIx (eOp oIx (eVar 0) (eVar 2)) (eVar 4)))) [4]) (aNil)))) (sRet (eC (.bl true))) (sNil)))) (sRet (eC (.bl false))))
def m_has_shortcuts : List Va → AH → Rs Va := fnF 5 1 b_has_shortcuts

def b__law_stream : SF := sSeq (sSet 2 (eOp oAdd (eOp oMul2 (eC (.int 5)) (eVar 1)) (eC (.int 3)))) (sSeq (sIf (tB (eOp oLt (eVar 1) (eAp oLen (aCons (eVar 0) (aNil))))) (sSet 2 (eOp oIx (eVar 0) (eVar 1))) (sNil)) (sSeq (sSet 3 (eOp oMod (eAp oAbs (aCons (eVar 2) (aNil))) (eOp oPow (eOp oPow (eC (.int 10)) (eC (.int 60))) (eC (.int 12))))) (sRet (eAp oLst (aCons (eAp oMax2 (aCons (eC (.int 0)) (aCons (eOp oSub (eVar 3) (eOp oPow (eC (.int 10)) (eC (.int 17)))) (aNil)))) (aCons (eOp oMod (eOp oAdd (eOp oAdd (eOp oAdd (eOp oMul2 (eVar 3) (eC (.int 9576890767))) (eOp oMul2 (eC (.int 611953)) (eVar 1))) (eOp oMul2 (eC (.int 2)) (eAp oInt (aCons (eOp oLt (eVar 2) (eC (.int 0))) (aNil))))) (eC (.int 7))) (eC (.int 4294967291))) (aCons (eC (.int 0)) (aNil))))))))
def m__law_stream : List Va → AH → Rs Va := fnF 4 2 b__law_stream

def b__law_draw : SF := sSeq (sIf (tB (eOp oGt (eOp oIx (eVar 0) (eC (.int 0))) (eC (.int 0)))) (sSeq (sSet 5 (eOp oMod (eOp oIx (eVar 0) (eC (.int 0))) (eVar 1))) (sSeq (sSetIx (eVar 0) (eC (.int 0)) (eOp oFdiv (eOp oIx (eVar 0) (eC (.int 0))) (eVar 1))) (sRet (eVar 5)))) (sNil)) (sSeq (sSetIx (eVar 0) (eC (.int 2)) (eOp oAdd (eOp oIx (eVar 0) (eC (.int 2))) (eC (.int 1)))) (sSeq (sSet 2 (eOp oMod (eOp oAdd (eOp oIx (eVar 0) (eC (.int 1))) (eOp oMul2 (eC (.int 1500450271)) (eOp oIx (eVar 0) (eC (.int 2))))) (eC (.int 4294967279)))) (sSeq (sSet 3 (eOp oAdd (eOp oMul2 (eOp oMod (eOp oMul2 (eVar 2) (eVar 2)) (eC (.int 4294967231))) (eVar 2)) (eOp oMul2 (eC (.int 10007)) (eOp oIx (eVar 0) (eC (.int 2)))))) (sSeq (sSet 4 (eOp oMod (eOp oAdd (eVar 3) (eOp oMod (eOp oIx (eVar 0) (eC (.int 1))) (eC (.int 65537)))) (eC (.int 4294967197)))) (sRet (eOp oMod (eOp oFdiv (eOp oMod (eOp oMul2 (eVar 4) (eVar 4)) (eC (.int 4294967189))) (eC (.int 64))) (eVar 1)))))))
def m__law_draw : List Va → AH → Rs Va := fnF 6 2 b__law_draw

def b__law_in_range : SF := sRet (eAnd (eIsi "int" (eVar 0)) (eAnd (eNot (eIsi "bool" (eVar 0))) (eChain oLe oLe (eVar 1) (eVar 0) (eVar 2))))
def m__law_in_range : List Va → AH → Rs Va := fnF 3 3 b__law_in_range

def b__law_flat : SF := sSeq (sSet 3 (eAp oLst (aNil))) (sSeq (sFor (iOf (aCons (eVar 0) (aNil)) srcR) (gNm 4) (sSeq (sSet 5 (eOp oMul2 (eAp oLst (aCons (eVar 2) (aNil))) (eVar 0))) (sSeq (sSetIx (eVar 5) (eVar 4) (eC (.int 0))) (sExpr (eM (eVar 3) (aCons (eAp oTuple (aCons (eVar 5) (aNil))) (aNil)) oAppend))))) (sRet (eAp oTup (aCons (eAp oTuple (aCons (eVar 3) (aNil))) (aCons (eOp oMul2 (eAp oTup (aCons (eOp oMul2 (eAp oTup (aCons (eC (.int 0)) (aNil))) (eVar 0)) (aNil))) (eVar 1)) (aCons (eOp oSub (eVar 0) (eC (.int 1))) (aNil)))))))
def m__law_flat : List Va → AH → Rs Va := fnF 6 3 b__law_flat

def b_is_table : SF := sSeq (sIf (tOr (tNot (tB (eIsi "tuple" (eVar 0)))) (tNot (tB (eChain oLe oLe (eC (.int 2)) (eAp oLen (aCons (eVar 0) (aNil))) (eC (.int 10)))))) (sRet (eC (.bl false))) (sNil)) (sSeq (sFor (iOf (aCons (eVar 0) (aNil)) srcE) (gTp (gCs (gNm 1) (gCs (gNm 2) (gNl)))) (sSeq (sIf (tOr (tNot (tB (eIsi "tuple" (eVar 2)))) (tB (eOp oNe2 (eAp oLen (aCons (eVar 2) (aNil))) (eAp oLen (aCons (eVar 0) (aNil)))))) (sRet (eC (.bl false))) (sNil)) (sSeq (sSet 3 (eLc (iOf (aCons (eAp oLen (aCons (eVar 0) (aNil))) (aNil)) srcR) (gNm 4) (tYesF) (eAp oInt (aCons (eOp oNe2 (eVar 1) (eVar 4)) (aNil))) [4])) (sIf (tNot (tB (eAp oAll (aCons (eLc (iOf (aCons (eVar 2) (aCons (eVar 3) (aNil))) (srcZ true)) (gTp (gCs (gNm 5) (gCs (gNm 6) (gNl)))) (tYesF) (eCall [] (callL m_is_integer) (aCons (eVar 5) (aCons (eVar 6) (aCons (eOp oMul2 (eC (.int 1000)) (eVar 6)) (aNil))))) [5, 6]) (aNil))))) (sRet (eC (.bl false))) (sNil))))) (sRet (eC (.bl true))))
def m_is_table : List Va → AH → Rs Va := fnF 7 1 b_is_table

def b_is_request_row : SF := sSeq (sIf (tOr (tNot (tB (eIsi "tuple" (eVar 0)))) (tB (eOp oNe2 (eAp oLen (aCons (eVar 0) (aNil))) (eVar 1)))) (sRet (eC (.bl false))) (sNil)) (sSeq (sIf (tNot (tB (eAp oAll (aCons (eLc (iOf1 (eVar 0) srcOf) (gNm 2) (tYesF) (eOr (eOp (oIs false) (eVar 2) (eC .non)) (eCall [] (callL m_is_integer) (aCons (eVar 2) (aCons (eC (.int 0)) (aCons (eC (.int 1000)) (aNil)))))) [2]) (aNil))))) (sRet (eC (.bl false))) (sNil)) (sRet (eAp oAny (aCons (eLc (iOf1 (eVar 0) srcOf) (gNm 2) (tYesF) (eOp (oIs true) (eVar 2) (eC .non)) [2]) (aNil)))))
def m_is_request_row : List Va → AH → Rs Va := fnF 3 2 b_is_request_row

def b__law_switching : SF := sSeq (sSet 2 (eOp oIx (eAp oLst (aCons (eC (.int 1)) (aCons (eC (.int 2)) (aCons (eC (.int 4)) (aCons (eC (.int 9)) (aCons (eC (.int 1000)) (aNil))))))) (eCall [] (callL m__law_draw) (aCons (eVar 0) (aCons (eC (.int 5)) (aNil)))))) (sSeq (sSet 3 (eAp oLst (aNil))) (sSeq (sFor (iOf (aCons (eVar 1) (aNil)) srcR) (gNm 4) (sSeq (sExpr (eM (eVar 3) (aCons (eLc (iOf (aCons (eVar 1) (aNil)) srcR) (gNm 6) (tYesF) (eOp oAdd (eC (.int 1)) (eCall [] (callL m__law_draw) (aCons (eVar 0) (aCons (eVar 2) (aNil))))) [6]) (aNil)) oAppend)) (sSetIx (eOp oIx (eVar 3) (eVar 4)) (eVar 4) (eC (.int 0))))) (sSeq (sIf (tB (eOp oEq2 (eCall [] (callL m__law_draw) (aCons (eVar 0) (aCons (eC (.int 3)) (aNil)))) (eC (.int 0)))) (sFor (iOf (aCons (eVar 1) (aNil)) srcR) (gNm 4) (sFor (iOf (aCons (eVar 4) (aNil)) srcR) (gNm 6) (sSetIx (eOp oIx (eVar 3) (eVar 4)) (eVar 6) (eOp oIx (eOp oIx (eVar 3) (eVar 6)) (eVar 4))))) (sNil)) (sSeq (sFor (iOf (aCons (eVar 1) (aNil)) srcR) (gNm 5) (sFor (iOf (aCons (eVar 1) (aNil)) srcR) (gNm 4) (sFor (iOf (aCons (eVar 1) (aNil)) srcR) (gNm 6) (sSetIx (eOp oIx (eVar 3) (eVar 4)) (eVar 6) (eAp oMin2 (aCons (eOp oIx (eOp oIx (eVar 3) (eVar 4)) (eVar 6)) (aCons (eOp oAdd (eOp oIx (eOp oIx (eVar 3) (eVar 4)) (eVar 5)) (eOp oIx (eOp oIx (eVar 3) (eVar 5)) (eVar 6))) (aNil)))))))) (sRet (eAp oTuple (aCons (eLc (iOf1 (eVar 3) srcOf) (gNm 7) (tYesF) (eAp oTuple (aCons (eVar 7) (aNil))) [7]) (aNil))))))))
def m__law_switching : List Va → AH → Rs Va := fnF 8 2 b__law_switching

def b__law_request : SF := sSeq (sSet 2 (eOp oIx (eAp oLst (aCons (eC (.int 2)) (aCons (eC (.int 3)) (aCons (eC (.int 5)) (aCons (eC (.int 1001)) (aNil)))))) (eCall [] (callL m__law_draw) (aCons (eVar 0) (aCons (eC (.int 4)) (aNil)))))) (sSeq (sSet 3 (eOp oIx (eAp oLst (aCons (eC (.int 0)) (aCons (eC (.int 0)) (aCons (eC (.int 2)) (aCons (eC (.int 3)) (aNil)))))) (eCall [] (callL m__law_draw) (aCons (eVar 0) (aCons (eC (.int 4)) (aNil)))))) (sSeq (sSet 4 (eCall [] (callL m__law_draw) (aCons (eVar 0) (aCons (eVar 1) (aNil))))) (sSeq (sSet 5 (eAp oLst (aNil))) (sSeq (sFor (iOf (aCons (eVar 1) (aNil)) srcR) (gNm 6) (sSeq (sSet 7 (eCall [] (callL m__law_draw) (aCons (eVar 0) (aCons (eVar 2) (aNil))))) (sSeq (sSet 8 (eAnd (eOp oGt (eVar 3) (eC (.int 0))) (eOp oEq2 (eCall [] (callL m__law_draw) (aCons (eVar 0) (aCons (eVar 3) (aNil)))) (eC (.int 0))))) (sExpr (eM (eVar 5) (aCons (eIf (tAnd (tB (eVar 8)) (tB (eOp oNe2 (eVar 6) (eVar 4)))) (eC .non) (eVar 7)) (aNil)) oAppend))))) (sRet (eAp oTuple (aCons (eVar 5) (aNil))))))))
def m__law_request : List Va → AH → Rs Va := fnF 9 2 b__law_request

def b__law_unrelated : SF := sSeq (sSet 1 (eAp oLst (aCons (eC .non) (aCons (eC (.bl true)) (aCons (eC (.bl false)) (aCons (eC (.int 0)) (aCons (eC (.int 1)) (aCons (eUn oNeg (eC (.int 1))) (aCons (eC (.int 1001)) (aCons (eC (.str "")) (aCons (eC (.str "0")) (aCons (eC (.str "a")) (aCons (eAp oTup (aNil)) (aCons (eAp oLst (aNil)) (aCons (eD0) (aCons (eAp oTup (aCons (eC (.int 0)) (aNil))) (aCons (eAp oTup (aCons (eC .non) (aNil))) (aCons (eAp oTup (aCons (eAp oTup (aCons (eC (.int 0)) (aCons (eC (.int 1)) (aNil)))) (aCons (eAp oTup (aCons (eC (.int 1)) (aCons (eC (.int 0)) (aNil)))) (aNil)))) (aCons (eOp oPow (eC (.int 10)) (eC (.int 39))) (aNil)))))))))))))))))))) (sRet (eOp oIx (eVar 1) (eCall [] (callL m__law_draw) (aCons (eVar 0) (aCons (eC (.int 17)) (aNil))))))
def m__law_unrelated : List Va → AH → Rs Va := fnF 2 1 b__law_unrelated

def b__law_valid_table : SF := sSeq (sIf (tOr (tNot (tB (eIsi "tuple" (eVar 0)))) (tNot (tB (eChain oLe oLe (eC (.int 2)) (eAp oLen (aCons (eVar 0) (aNil))) (eC (.int 10)))))) (sRet (eC (.bl false))) (sNil)) (sSeq (sFor (iOf (aCons (eVar 0) (aNil)) srcE) (gTp (gCs (gNm 1) (gCs (gNm 2) (gNl)))) (sSeq (sIf (tOr (tNot (tB (eIsi "tuple" (eVar 2)))) (tB (eOp oNe2 (eAp oLen (aCons (eVar 2) (aNil))) (eAp oLen (aCons (eVar 0) (aNil)))))) (sRet (eC (.bl false))) (sNil)) (sFor (iOf (aCons (eVar 2) (aNil)) srcE) (gTp (gCs (gNm 3) (gCs (gNm 4) (gNl)))) (sIf (tOr (tNot (tB (eCall [] (callL m__law_in_range) (aCons (eVar 4) (aCons (eC (.int 0)) (aCons (eC (.int 1000)) (aNil))))))) (tB (eOp oNe2 (eOp oEq2 (eVar 4) (eC (.int 0))) (eOp oEq2 (eVar 1) (eVar 3))))) (sRet (eC (.bl false))) (sNil))))) (sSeq (sFor (iOf1 (eVar 0) srcOf) (gNm 2) (sFor (iOf (aCons (eVar 2) (aNil)) srcE) (gTp (gCs (gNm 5) (gCs (gNm 4) (gNl)))) (sFor (iOf (aCons (eAp oLen (aCons (eVar 0) (aNil))) (aNil)) srcR) (gNm 3) (sIf (tB (eOp oGt (eOp oIx (eVar 2) (eVar 3)) (eOp oAdd (eVar 4) (eOp oIx (eOp oIx (eVar 0) (eVar 5)) (eVar 3))))) (sRet (eC (.bl false))) (sNil))))) (sRet (eC (.bl true)))))
def m__law_valid_table : List Va → AH → Rs Va := fnF 6 1 b__law_valid_table

def b__law_longer : SF := sSeq (sPar 2 3 (aCons (eOp oIx (eVar 1) (eC (.int 0))) (aCons (eAp oLen (aCons (eOp oIx (eVar 1) (eC (.int 0))) (aNil))) (aNil)))) (sSeq (sPar 4 5 (aCons (eCall [] (callL m__law_draw) (aCons (eVar 0) (aCons (eVar 3) (aNil)))) (aCons (eCall [] (callL m__law_draw) (aCons (eVar 0) (aCons (eVar 3) (aNil)))) (aNil)))) (sSeq (sSet 6 (eCall [] (callL m__law_draw) (aCons (eVar 0) (aCons (eVar 3) (aNil))))) (sSeq (sSet 7 (eOp oAdd (eOp oIx (eOp oIx (eVar 2) (eVar 4)) (eVar 6)) (eOp oIx (eOp oIx (eVar 2) (eVar 6)) (eVar 5)))) (sSeq (sSet 7 (eOp oAdd (eVar 7) (eCall [] (callL m__law_draw) (aCons (eVar 0) (aCons (eC (.int 2)) (aNil)))))) (sSeq (sSet 8 (eOp oAdd (eOp oAdd (eSl (eOp oIx (eVar 2) (eVar 4)) (lNone) (lSome (eVar 5))) (eAp oTup (aCons (eVar 7) (aNil)))) (eSl (eOp oIx (eVar 2) (eVar 4)) (lSome (eOp oAdd (eVar 5) (eC (.int 1)))) (lNone)))) (sRet (eOp oAdd (eAp oTup (aCons (eOp oAdd (eOp oAdd (eSl (eVar 2) (lNone) (lSome (eVar 4))) (eAp oTup (aCons (eVar 8) (aNil)))) (eSl (eVar 2) (lSome (eOp oAdd (eVar 4) (eC (.int 1)))) (lNone))) (aNil))) (eSl (eVar 1) (lSome (eC (.int 1))) (lNone)))))))))
def m__law_longer : List Va → AH → Rs Va := fnF 9 2 b__law_longer

def b_is_system : SF := sSeq (sIf (tOr (tNot (tB (eIsi "tuple" (eVar 0)))) (tB (eOp oNe2 (eAp oLen (aCons (eVar 0) (aNil))) (eC (.int 3))))) (sRet (eC (.bl false))) (sNil)) (sSeq (sAsg (gTp (gCs (gNm 1) (gCs (gNm 2) (gCs (gNm 3) (gNl))))) (eVar 0)) (sSeq (sIf (tOr (tNot (tB (eCall [] (callL m_is_table) (aCons (eVar 1) (aNil))))) (tB (eCall [] (callL m_has_shortcuts) (aCons (eVar 1) (aNil))))) (sRet (eC (.bl false))) (sNil)) (sSeq (sIf (tOr (tNot (tB (eIsi "tuple" (eVar 2)))) (tNot (tB (eChain oLe oLe (eC (.int 1)) (eAp oLen (aCons (eVar 2) (aNil))) (eC (.int 8)))))) (sRet (eC (.bl false))) (sNil)) (sSeq (sIf (tNot (tB (eAp oAll (aCons (eLc (iOf1 (eVar 2) srcOf) (gNm 4) (tYesF) (eCall [] (callL m_is_request_row) (aCons (eVar 4) (aCons (eAp oLen (aCons (eVar 1) (aNil))) (aNil)))) [4]) (aNil))))) (sRet (eC (.bl false))) (sNil)) (sRet (eCall [] (callL m_is_integer) (aCons (eVar 3) (aCons (eC (.int 0)) (aCons (eOp oSub (eAp oLen (aCons (eVar 1) (aNil))) (eC (.int 1))) (aNil))))))))))
def m_is_system : List Va → AH → Rs Va := fnF 5 1 b_is_system

def b__law_system : SF := sSeq (sSet 3 (eLc (iOf (aCons (eVar 2) (aNil)) srcR) (gNm 4) (tYesF) (eCall [] (callL m__law_request) (aCons (eVar 0) (aCons (eVar 1) (aNil)))) [4])) (sRet (eAp oTup (aCons (eCall [] (callL m__law_switching) (aCons (eVar 0) (aCons (eVar 1) (aNil)))) (aCons (eAp oTuple (aCons (eVar 3) (aNil))) (aCons (eCall [] (callL m__law_draw) (aCons (eVar 0) (aCons (eVar 1) (aNil)))) (aNil))))))
def m__law_system : List Va → AH → Rs Va := fnF 5 3 b__law_system

def b__law_valid_system : SF := sSeq (sIf (tOr (tNot (tB (eIsi "tuple" (eVar 0)))) (tOr (tB (eOp oNe2 (eAp oLen (aCons (eVar 0) (aNil))) (eC (.int 3)))) (tNot (tB (eCall [] (callL m__law_valid_table) (aCons (eOp oIx (eVar 0) (eC (.int 0))) (aNil))))))) (sRet (eC (.bl false))) (sNil)) (sSeq (sIf (tOr (tNot (tB (eIsi "tuple" (eOp oIx (eVar 0) (eC (.int 1)))))) (tNot (tB (eChain oLe oLe (eC (.int 1)) (eAp oLen (aCons (eOp oIx (eVar 0) (eC (.int 1))) (aNil))) (eC (.int 8)))))) (sRet (eC (.bl false))) (sNil)) (sSeq (sFor (iOf1 (eOp oIx (eVar 0) (eC (.int 1))) srcOf) (gNm 1) (sSeq (sIf (tOr (tNot (tB (eIsi "tuple" (eVar 1)))) (tB (eOp oNe2 (eAp oLen (aCons (eVar 1) (aNil))) (eAp oLen (aCons (eOp oIx (eVar 0) (eC (.int 0))) (aNil)))))) (sRet (eC (.bl false))) (sNil)) (sSeq (sSet 2 (eLc (iOf1 (eVar 1) srcOf) (gNm 3) (tB (eOp (oIs true) (eVar 3) (eC .non))) (eVar 3) [3])) (sSeq (sIf (tB (eOp (oEqZ false) (eVar 2) (eAp oLst (aNil)))) (sRet (eC (.bl false))) (sNil)) (sIf (tB (eOp (oEqZ true) (eLc (iOf1 (eVar 2) srcOf) (gNm 3) (tNot (tB (eCall [] (callL m__law_in_range) (aCons (eVar 3) (aCons (eC (.int 0)) (aCons (eC (.int 1000)) (aNil))))))) (eVar 3) [3]) (eAp oLst (aNil)))) (sRet (eC (.bl false))) (sNil)))))) (sRet (eCall [] (callL m__law_in_range) (aCons (eOp oIx (eVar 0) (eC (.int 2))) (aCons (eC (.int 0)) (aCons (eOp oSub (eAp oLen (aCons (eOp oIx (eVar 0) (eC (.int 0))) (aNil))) (eC (.int 1))) (aNil))))))))
def m__law_valid_system : List Va → AH → Rs Va := fnF 4 1 b__law_valid_system

def b__law_agrees : SF := sSeq (sPar 1 2 (aCons (eAp oReprN (aCons (eVar 0) (aNil))) (aCons (eCall [] (callL m__law_valid_system) (aCons (eVar 0) (aNil))) (aNil)))) (sRet (eAnd (eOp oEq2 (eAp oReprN (aCons (eAp oLst (aCons (eCall [] (callL m_is_system) (aCons (eVar 0) (aNil))) (aCons (eCall [] (callL m_is_system) (aCons (eVar 0) (aNil))) (aNil)))) (aNil))) (eAp oReprN (aCons (eAp oLst (aCons (eVar 2) (aCons (eVar 2) (aNil)))) (aNil)))) (eOp oEq2 (eAp oReprN (aCons (eVar 0) (aNil))) (eVar 1))))
def m__law_agrees : List Va → AH → Rs Va := fnF 3 1 b__law_agrees

def b__law_bounds_right : SF := sSeq (sSet 0 (eAp oLst (aCons (eCall [] (callL m__law_flat) (aCons (eC (.int 2)) (aCons (eC (.int 1)) (aCons (eC (.int 1)) (aNil))))) (aCons (eCall [] (callL m__law_flat) (aCons (eC (.int 10)) (aCons (eC (.int 8)) (aCons (eC (.int 1000)) (aNil))))) (aCons (eCall [] (callL m__law_flat) (aCons (eC (.int 3)) (aCons (eC (.int 2)) (aCons (eC (.int 7)) (aNil))))) (aNil)))))) (sSeq (sSet 1 (eAp oLst (aCons (eCall [] (callL m__law_flat) (aCons (eC (.int 11)) (aCons (eC (.int 1)) (aCons (eC (.int 1)) (aNil))))) (aCons (eCall [] (callL m__law_flat) (aCons (eC (.int 2)) (aCons (eC (.int 9)) (aCons (eC (.int 1)) (aNil))))) (aCons (eCall [] (callL m__law_flat) (aCons (eC (.int 2)) (aCons (eC (.int 0)) (aCons (eC (.int 1)) (aNil))))) (aNil)))))) (sSeq (sSet 1 (eOp oAdd (eVar 1) (eAp oLst (aCons (eCall [] (callL m__law_flat) (aCons (eC (.int 2)) (aCons (eC (.int 1)) (aCons (eC (.int 1001)) (aNil))))) (aCons (eCall [] (callL m__law_flat) (aCons (eC (.int 2)) (aCons (eC (.int 1)) (aCons (eC (.int 0)) (aNil))))) (aNil)))))) (sSeq (sSet 2 (eCall [] (callL m__law_flat) (aCons (eC (.int 2)) (aCons (eC (.int 1)) (aCons (eC (.int 5)) (aNil)))))) (sSeq (sSet 0 (eOp oAdd (eVar 0) (eAp oLst (aCons (eAp oTup (aCons (eOp oIx (eVar 2) (eC (.int 0))) (aCons (eAp oTup (aCons (eAp oTup (aCons (eC (.int 1000)) (aCons (eC .non) (aNil)))) (aNil))) (aCons (eC (.int 0)) (aNil))))) (aCons (eAp oTup (aCons (eOp oIx (eVar 2) (eC (.int 0))) (aCons (eAp oTup (aCons (eAp oTup (aCons (eC .non) (aCons (eC (.int 0)) (aNil)))) (aNil))) (aCons (eC (.int 0)) (aNil))))) (aNil)))))) (sSeq (sSet 1 (eOp oAdd (eVar 1) (eAp oLst (aCons (eAp oTup (aCons (eOp oIx (eVar 2) (eC (.int 0))) (aCons (eAp oTup (aCons (eAp oTup (aCons (eC (.int 1001)) (aCons (eC (.int 0)) (aNil)))) (aNil))) (aCons (eC (.int 0)) (aNil))))) (aCons (eAp oTup (aCons (eOp oIx (eVar 2) (eC (.int 0))) (aCons (eAp oTup (aCons (eAp oTup (aCons (eUn oNeg (eC (.int 1))) (aCons (eC (.int 0)) (aNil)))) (aNil))) (aCons (eC (.int 0)) (aNil))))) (aNil)))))) (sSeq (sExpr (eM (eVar 1) (aCons (eAp oTup (aCons (eOp oIx (eVar 2) (eC (.int 0))) (aCons (eAp oTup (aCons (eAp oTup (aCons (eC .non) (aCons (eC .non) (aNil)))) (aNil))) (aCons (eC (.int 0)) (aNil))))) (aNil)) oAppend)) (sSeq (sSet 1 (eOp oAdd (eVar 1) (eAp oLst (aCons (eAp oTup (aCons (eOp oIx (eVar 2) (eC (.int 0))) (aCons (eOp oIx (eVar 2) (eC (.int 1))) (aCons (eC (.int 2)) (aNil))))) (aCons (eAp oTup (aCons (eOp oIx (eVar 2) (eC (.int 0))) (aCons (eOp oIx (eVar 2) (eC (.int 1))) (aCons (eUn oNeg (eC (.int 1))) (aNil))))) (aCons (eAp oTup (aCons (eOp oIx (eVar 2) (eC (.int 0))) (aCons (eOp oIx (eVar 2) (eC (.int 1))) (aCons (eC (.bl true)) (aNil))))) (aNil))))))) (sSeq (sExpr (eM (eVar 1) (aCons (eAp oTup (aCons (eAp oTup (aCons (eAp oTup (aCons (eC (.int 0)) (aNil))) (aNil))) (aCons (eAp oTup (aCons (eAp oTup (aCons (eC (.int 0)) (aNil))) (aNil))) (aCons (eC (.int 0)) (aNil))))) (aNil)) oAppend)) (sSeq (sSet 1 (eOp oAdd (eVar 1) (eAp oLst (aCons (eAp oTup (aCons (eOp oIx (eVar 2) (eC (.int 0))) (aCons (eAp oTup (aCons (eAp oTup (aCons (eC (.bl true)) (aCons (eC (.int 0)) (aNil)))) (aNil))) (aCons (eC (.int 0)) (aNil))))) (aCons (eAp oTup (aCons (eAp oTup (aCons (eAp oTup (aCons (eC (.int 0)) (aCons (eC (.int 5)) (aNil)))) (aCons (eAp oTup (aCons (eC (.int 5)) (aCons (eC (.bl false)) (aNil)))) (aNil)))) (aCons (eOp oIx (eVar 2) (eC (.int 1))) (aCons (eC (.int 0)) (aNil))))) (aNil)))))) (sSeq (sSet 1 (eOp oAdd (eVar 1) (eAp oLst (aCons (eOp oAdd (eVar 2) (eAp oTup (aCons (eC (.int 0)) (aNil)))) (aCons (eSl (eVar 2) (lNone) (lSome (eC (.int 2)))) (aNil)))))) (sSeq (sExpr (eM (eVar 1) (aCons (eAp oTup (aCons (eAp oTup (aCons (eAp oTup (aCons (eC (.int 0)) (aCons (eC (.int 1)) (aCons (eC (.int 3)) (aNil))))) (aCons (eAp oTup (aCons (eC (.int 1)) (aCons (eC (.int 0)) (aCons (eC (.int 1)) (aNil))))) (aCons (eAp oTup (aCons (eC (.int 1)) (aCons (eC (.int 1)) (aCons (eC (.int 0)) (aNil))))) (aNil))))) (aCons (eAp oTup (aCons (eAp oTup (aCons (eC (.int 0)) (aCons (eC (.int 0)) (aCons (eC (.int 0)) (aNil))))) (aNil))) (aCons (eC (.int 0)) (aNil))))) (aNil)) oAppend)) (sSeq (sExpr (eM (eVar 1) (aCons (eAp oTup (aCons (eAp oTup (aCons (eAp oTup (aCons (eC (.int 0)) (aCons (eC (.int 5)) (aNil)))) (aCons (eAp oTup (aCons (eC (.int 5)) (aCons (eC (.int 1)) (aNil)))) (aNil)))) (aCons (eOp oIx (eVar 2) (eC (.int 1))) (aCons (eC (.int 0)) (aNil))))) (aNil)) oAppend)) (sSeq (sSet 1 (eOp oAdd (eVar 1) (eAp oLst (aCons (eAp oTup (aCons (eAp oTup (aCons (eAp oTup (aCons (eC (.int 0)) (aCons (eC (.bl true)) (aNil)))) (aCons (eAp oTup (aCons (eC (.int 1)) (aCons (eC (.int 0)) (aNil)))) (aNil)))) (aCons (eAp oTup (aCons (eAp oTup (aCons (eC (.int 0)) (aCons (eC (.int 0)) (aNil)))) (aNil))) (aCons (eC (.int 1)) (aNil))))) (aCons (eAp oTup (aCons (eAp oTup (aCons (eAp oTup (aCons (eC (.int 0)) (aCons (eC (.int 1)) (aNil)))) (aCons (eAp oTup (aCons (eC (.int 1)) (aCons (eC (.int 0)) (aNil)))) (aNil)))) (aCons (eAp oTup (aCons (eAp oTup (aCons (eC (.int 0)) (aCons (eC (.int 0)) (aNil)))) (aNil))) (aCons (eC (.bl true)) (aNil))))) (aNil)))))) (sSeq (sSet 3 (eLc (iOf1 (eOp oAdd (eVar 0) (eVar 1)) srcOf) (gNm 4) (tYesF) (eCall [] (callL m_is_system) (aCons (eVar 4) (aNil))) [4])) (sRet (eOp oEq2 (eAp oReprN (aCons (eVar 3) (aNil))) (eAp oReprN (aCons (eOp oAdd (eOp oMul2 (eAp oLst (aCons (eC (.bl true)) (aNil))) (eAp oLen (aCons (eVar 0) (aNil)))) (eOp oMul2 (eAp oLst (aCons (eC (.bl false)) (aNil))) (eAp oLen (aCons (eVar 1) (aNil))))) (aNil)))))))))))))))))))
def m__law_bounds_right : List Va → AH → Rs Va := fnF 5 0 b__law_bounds_right

def b__law_damaged_0 : SF := sSeq (sSet 3 (eCall [] (callL m__law_draw) (aCons (eVar 0) (aCons (eC (.int 8)) (aNil))))) (sSeq (sIf (tAnd (tB (eIsi "tuple" (eVar 1))) (tAnd (tB (eOp (oEqZ true) (eVar 1) (eAp oTup (aNil)))) (tAnd (tB (eOp oGt (eVar 2) (eC (.int 0)))) (tB (eOp oLt (eVar 3) (eC (.int 5))))))) (sSeq (sSet 4 (eCall [] (callL m__law_draw) (aCons (eVar 0) (aCons (eAp oLen (aCons (eVar 1) (aNil))) (aNil))))) ((fun _ _ => .bad))) (sNil)) (sSeq (sIf (tB (eIsi "tuple" (eVar 1))) (sSeq (sSet 4 (eCall [] (callL m__law_draw) (aCons (eVar 0) (aCons (eOp oAdd (eAp oLen (aCons (eVar 1) (aNil))) (eC (.int 1))) (aNil))))) (sSeq (sSet 5 (eAp oLst (aCons (eAp oList (aCons (eVar 1) (aNil))) (aCons (eOp oAdd (eSl (eVar 1) (lNone) (lSome (eVar 4))) (eSl (eVar 1) (lSome (eOp oAdd (eVar 4) (eC (.int 1)))) (lNone))) (aCons (eOp oAdd (eOp oAdd (eSl (eVar 1) (lNone) (lSome (eVar 4))) (eSl (eVar 1) (lSome (eVar 4)) (lSome (eOp oAdd (eVar 4) (eC (.int 1)))))) (eSl (eVar 1) (lSome (eVar 4)) (lNone))) (aCons (eRev (eVar 1)) (aNil))))))) (sSeq (sSet 6 (eCall [] (callL m__law_unrelated) (aCons (eVar 0) (aNil)))) (sRet (eOp oIx (eOp oAdd (eVar 5) (eAp oLst (aCons (eOp oAdd (eVar 1) (eAp oTup (aCons (eVar 6) (aNil)))) (aCons (eOp oAdd (eOp oAdd (eSl (eVar 1) (lNone) (lSome (eVar 4))) (eAp oTup (aCons (eVar 6) (aNil)))) (eSl (eVar 1) (lSome (eOp oAdd (eVar 4) (eC (.int 1)))) (lNone))) (aNil))))) (eCall [] (callL m__law_draw) (aCons (eVar 0) (aCons (eC (.int 6)) (aNil))))))))) (sNil)) (sSeq (sIf (tAnd (tB (eIsi "int" (eVar 1))) (tAnd (tNot (tB (eIsi "bool" (eVar 1)))) (tB (eOp oLt (eVar 3) (eC (.int 6)))))) (sRet (eOp oIx (eAp oLst (aCons (eOp oAdd (eVar 1) (eC (.int 1))) (aCons (eOp oSub (eVar 1) (eC (.int 1))) (aCons (eC .non) (aCons (eC (.int 1000)) (aCons (eC (.int 1001)) (aCons (eC (.int 0)) (aNil)))))))) (eVar 3))) (sNil)) (sRet (eCall [] (callL m__law_unrelated) (aCons (eVar 0) (aNil)))))))
def m__law_damaged_0 : List Va → AH → Rs Va := fnF 7 3 b__law_damaged_0

def b__law_damaged_1 : SF := sSeq (sSet 3 (eCall [] (callL m__law_draw) (aCons (eVar 0) (aCons (eC (.int 8)) (aNil))))) (sSeq (sIf (tAnd (tB (eIsi "tuple" (eVar 1))) (tAnd (tB (eOp (oEqZ true) (eVar 1) (eAp oTup (aNil)))) (tAnd (tB (eOp oGt (eVar 2) (eC (.int 0)))) (tB (eOp oLt (eVar 3) (eC (.int 5))))))) (sSeq (sSet 4 (eCall [] (callL m__law_draw) (aCons (eVar 0) (aCons (eAp oLen (aCons (eVar 1) (aNil))) (aNil))))) (sRet (eOp oAdd (eOp oAdd (eSl (eVar 1) (lNone) (lSome (eVar 4))) (eAp oTup (aCons (eCall [] (callL m__law_damaged_0) (aCons (eVar 0) (aCons (eOp oIx (eVar 1) (eVar 4)) (aCons (eOp oSub (eVar 2) (eC (.int 1))) (aNil))))) (aNil)))) (eSl (eVar 1) (lSome (eOp oAdd (eVar 4) (eC (.int 1)))) (lNone))))) (sNil)) (sSeq (sIf (tB (eIsi "tuple" (eVar 1))) (sSeq (sSet 4 (eCall [] (callL m__law_draw) (aCons (eVar 0) (aCons (eOp oAdd (eAp oLen (aCons (eVar 1) (aNil))) (eC (.int 1))) (aNil))))) (sSeq (sSet 5 (eAp oLst (aCons (eAp oList (aCons (eVar 1) (aNil))) (aCons (eOp oAdd (eSl (eVar 1) (lNone) (lSome (eVar 4))) (eSl (eVar 1) (lSome (eOp oAdd (eVar 4) (eC (.int 1)))) (lNone))) (aCons (eOp oAdd (eOp oAdd (eSl (eVar 1) (lNone) (lSome (eVar 4))) (eSl (eVar 1) (lSome (eVar 4)) (lSome (eOp oAdd (eVar 4) (eC (.int 1)))))) (eSl (eVar 1) (lSome (eVar 4)) (lNone))) (aCons (eRev (eVar 1)) (aNil))))))) (sSeq (sSet 6 (eCall [] (callL m__law_unrelated) (aCons (eVar 0) (aNil)))) (sRet (eOp oIx (eOp oAdd (eVar 5) (eAp oLst (aCons (eOp oAdd (eVar 1) (eAp oTup (aCons (eVar 6) (aNil)))) (aCons (eOp oAdd (eOp oAdd (eSl (eVar 1) (lNone) (lSome (eVar 4))) (eAp oTup (aCons (eVar 6) (aNil)))) (eSl (eVar 1) (lSome (eOp oAdd (eVar 4) (eC (.int 1)))) (lNone))) (aNil))))) (eCall [] (callL m__law_draw) (aCons (eVar 0) (aCons (eC (.int 6)) (aNil))))))))) (sNil)) (sSeq (sIf (tAnd (tB (eIsi "int" (eVar 1))) (tAnd (tNot (tB (eIsi "bool" (eVar 1)))) (tB (eOp oLt (eVar 3) (eC (.int 6)))))) (sRet (eOp oIx (eAp oLst (aCons (eOp oAdd (eVar 1) (eC (.int 1))) (aCons (eOp oSub (eVar 1) (eC (.int 1))) (aCons (eC .non) (aCons (eC (.int 1000)) (aCons (eC (.int 1001)) (aCons (eC (.int 0)) (aNil)))))))) (eVar 3))) (sNil)) (sRet (eCall [] (callL m__law_unrelated) (aCons (eVar 0) (aNil)))))))
def m__law_damaged_1 : List Va → AH → Rs Va := fnF 7 3 b__law_damaged_1

def b__law_damaged_2 : SF := sSeq (sSet 3 (eCall [] (callL m__law_draw) (aCons (eVar 0) (aCons (eC (.int 8)) (aNil))))) (sSeq (sIf (tAnd (tB (eIsi "tuple" (eVar 1))) (tAnd (tB (eOp (oEqZ true) (eVar 1) (eAp oTup (aNil)))) (tAnd (tB (eOp oGt (eVar 2) (eC (.int 0)))) (tB (eOp oLt (eVar 3) (eC (.int 5))))))) (sSeq (sSet 4 (eCall [] (callL m__law_draw) (aCons (eVar 0) (aCons (eAp oLen (aCons (eVar 1) (aNil))) (aNil))))) (sRet (eOp oAdd (eOp oAdd (eSl (eVar 1) (lNone) (lSome (eVar 4))) (eAp oTup (aCons (eCall [] (callL m__law_damaged_1) (aCons (eVar 0) (aCons (eOp oIx (eVar 1) (eVar 4)) (aCons (eOp oSub (eVar 2) (eC (.int 1))) (aNil))))) (aNil)))) (eSl (eVar 1) (lSome (eOp oAdd (eVar 4) (eC (.int 1)))) (lNone))))) (sNil)) (sSeq (sIf (tB (eIsi "tuple" (eVar 1))) (sSeq (sSet 4 (eCall [] (callL m__law_draw) (aCons (eVar 0) (aCons (eOp oAdd (eAp oLen (aCons (eVar 1) (aNil))) (eC (.int 1))) (aNil))))) (sSeq (sSet 5 (eAp oLst (aCons (eAp oList (aCons (eVar 1) (aNil))) (aCons (eOp oAdd (eSl (eVar 1) (lNone) (lSome (eVar 4))) (eSl (eVar 1) (lSome (eOp oAdd (eVar 4) (eC (.int 1)))) (lNone))) (aCons (eOp oAdd (eOp oAdd (eSl (eVar 1) (lNone) (lSome (eVar 4))) (eSl (eVar 1) (lSome (eVar 4)) (lSome (eOp oAdd (eVar 4) (eC (.int 1)))))) (eSl (eVar 1) (lSome (eVar 4)) (lNone))) (aCons (eRev (eVar 1)) (aNil))))))) (sSeq (sSet 6 (eCall [] (callL m__law_unrelated) (aCons (eVar 0) (aNil)))) (sRet (eOp oIx (eOp oAdd (eVar 5) (eAp oLst (aCons (eOp oAdd (eVar 1) (eAp oTup (aCons (eVar 6) (aNil)))) (aCons (eOp oAdd (eOp oAdd (eSl (eVar 1) (lNone) (lSome (eVar 4))) (eAp oTup (aCons (eVar 6) (aNil)))) (eSl (eVar 1) (lSome (eOp oAdd (eVar 4) (eC (.int 1)))) (lNone))) (aNil))))) (eCall [] (callL m__law_draw) (aCons (eVar 0) (aCons (eC (.int 6)) (aNil))))))))) (sNil)) (sSeq (sIf (tAnd (tB (eIsi "int" (eVar 1))) (tAnd (tNot (tB (eIsi "bool" (eVar 1)))) (tB (eOp oLt (eVar 3) (eC (.int 6)))))) (sRet (eOp oIx (eAp oLst (aCons (eOp oAdd (eVar 1) (eC (.int 1))) (aCons (eOp oSub (eVar 1) (eC (.int 1))) (aCons (eC .non) (aCons (eC (.int 1000)) (aCons (eC (.int 1001)) (aCons (eC (.int 0)) (aNil)))))))) (eVar 3))) (sNil)) (sRet (eCall [] (callL m__law_unrelated) (aCons (eVar 0) (aNil)))))))
def m__law_damaged_2 : List Va → AH → Rs Va := fnF 7 3 b__law_damaged_2

def b__law_damaged_3 : SF := sSeq (sSet 3 (eCall [] (callL m__law_draw) (aCons (eVar 0) (aCons (eC (.int 8)) (aNil))))) (sSeq (sIf (tAnd (tB (eIsi "tuple" (eVar 1))) (tAnd (tB (eOp (oEqZ true) (eVar 1) (eAp oTup (aNil)))) (tAnd (tB (eOp oGt (eVar 2) (eC (.int 0)))) (tB (eOp oLt (eVar 3) (eC (.int 5))))))) (sSeq (sSet 4 (eCall [] (callL m__law_draw) (aCons (eVar 0) (aCons (eAp oLen (aCons (eVar 1) (aNil))) (aNil))))) (sRet (eOp oAdd (eOp oAdd (eSl (eVar 1) (lNone) (lSome (eVar 4))) (eAp oTup (aCons (eCall [] (callL m__law_damaged_2) (aCons (eVar 0) (aCons (eOp oIx (eVar 1) (eVar 4)) (aCons (eOp oSub (eVar 2) (eC (.int 1))) (aNil))))) (aNil)))) (eSl (eVar 1) (lSome (eOp oAdd (eVar 4) (eC (.int 1)))) (lNone))))) (sNil)) (sSeq (sIf (tB (eIsi "tuple" (eVar 1))) (sSeq (sSet 4 (eCall [] (callL m__law_draw) (aCons (eVar 0) (aCons (eOp oAdd (eAp oLen (aCons (eVar 1) (aNil))) (eC (.int 1))) (aNil))))) (sSeq (sSet 5 (eAp oLst (aCons (eAp oList (aCons (eVar 1) (aNil))) (aCons (eOp oAdd (eSl (eVar 1) (lNone) (lSome (eVar 4))) (eSl (eVar 1) (lSome (eOp oAdd (eVar 4) (eC (.int 1)))) (lNone))) (aCons (eOp oAdd (eOp oAdd (eSl (eVar 1) (lNone) (lSome (eVar 4))) (eSl (eVar 1) (lSome (eVar 4)) (lSome (eOp oAdd (eVar 4) (eC (.int 1)))))) (eSl (eVar 1) (lSome (eVar 4)) (lNone))) (aCons (eRev (eVar 1)) (aNil))))))) (sSeq (sSet 6 (eCall [] (callL m__law_unrelated) (aCons (eVar 0) (aNil)))) (sRet (eOp oIx (eOp oAdd (eVar 5) (eAp oLst (aCons (eOp oAdd (eVar 1) (eAp oTup (aCons (eVar 6) (aNil)))) (aCons (eOp oAdd (eOp oAdd (eSl (eVar 1) (lNone) (lSome (eVar 4))) (eAp oTup (aCons (eVar 6) (aNil)))) (eSl (eVar 1) (lSome (eOp oAdd (eVar 4) (eC (.int 1)))) (lNone))) (aNil))))) (eCall [] (callL m__law_draw) (aCons (eVar 0) (aCons (eC (.int 6)) (aNil))))))))) (sNil)) (sSeq (sIf (tAnd (tB (eIsi "int" (eVar 1))) (tAnd (tNot (tB (eIsi "bool" (eVar 1)))) (tB (eOp oLt (eVar 3) (eC (.int 6)))))) (sRet (eOp oIx (eAp oLst (aCons (eOp oAdd (eVar 1) (eC (.int 1))) (aCons (eOp oSub (eVar 1) (eC (.int 1))) (aCons (eC .non) (aCons (eC (.int 1000)) (aCons (eC (.int 1001)) (aCons (eC (.int 0)) (aNil)))))))) (eVar 3))) (sNil)) (sRet (eCall [] (callL m__law_unrelated) (aCons (eVar 0) (aNil)))))))
def m__law_damaged_3 : List Va → AH → Rs Va := fnF 7 3 b__law_damaged_3

def b_law : SF := sSeq (sIf (tB (eOp oNe2 (eAp oLst (aCons (eC (.int 10)) (aCons (eC (.int 8)) (aCons (eC (.int 1000)) (aCons (eC (.int 400)) (aNil)))))) (eAp oLst (aCons (eC (.int 10)) (aCons (eC (.int 8)) (aCons (eC (.int 1000)) (aCons (eC (.int 400)) (aNil)))))))) (sRet (eC (.bl false))) (sNil)) (sSeq (sIf (tNot (tB (eCall [] (callL m__law_bounds_right) (aNil)))) (sRet (eC (.bl false))) (sNil)) (sSeq (sFor (iOf (aCons (eAp oMax2 (aCons (eC (.int 1)) (aCons (eAp oMin2 (aCons (eC (.int 16)) (aCons (eAp oLen (aCons (eVar 0) (aNil))) (aNil)))) (aNil)))) (aNil)) srcR) (gNm 1) (sSeq (sSet 2 (eCall [] (callL m__law_stream) (aCons (eVar 0) (aCons (eVar 1) (aNil))))) (sSeq (sSet 3 (eCall [] (callL m__law_system) (aCons (eVar 2) (aCons (eOp oAdd (eC (.int 2)) (eCall [] (callL m__law_draw) (aCons (eVar 2) (aCons (eC (.int 9)) (aNil))))) (aCons (eOp oAdd (eC (.int 1)) (eCall [] (callL m__law_draw) (aCons (eVar 2) (aCons (eC (.int 8)) (aNil))))) (aNil)))))) (sSeq (sIf (tOr (tB (eOp (oIs true) (eCall [] (callL m_is_system) (aCons (eVar 3) (aNil))) (eC (.bl true)))) (tNot (tB (eCall [] (callL m__law_agrees) (aCons (eCall [] (callL m__law_unrelated) (aCons (eVar 2) (aNil))) (aNil)))))) (sRet (eC (.bl false))) (sNil)) (sFor (iOf (aCons (eC (.int 8)) (aNil)) srcR) (gNm 4) (sSeq (sSet 5 (eCall [] (callL m__law_damaged_3) (aCons (eVar 2) (aCons (eVar 3) (aCons (eC (.int 3)) (aNil)))))) (sFor (iOf1 (eAp oTup (aCons (eVar 5) (aCons (eCall [] (callL m__law_damaged_3) (aCons (eVar 2) (aCons (eVar 5) (aCons (eC (.int 3)) (aNil))))) (aCons (eCall [] (callL m__law_longer) (aCons (eVar 2) (aCons (eVar 3) (aNil)))) (aNil))))) srcOf) (gNm 6) (sIf (tNot (tB (eCall [] (callL m__law_agrees) (aCons (eVar 6) (aNil))))) (sRet (eC (.bl false))) (sNil))))))))) (sRet (eC (.bl true)))))
def m_law : List Va → AH → Rs Va := fnF 7 1 b_law
end FL

set_option Elab.async false
set_option linter.all false
set_option maxRecDepth 100000
set_option maxHeartbeats 4000000
namespace FL
open PySem PySem.Spec PyProof.Rows L2 NdefX LamX
variable [Tabz]
structure KM (K : PySem.W.Frag) (mg : Str → Option Value) : Prop where
  says : He.SaysD fa fn K
  ex : ∃ h : Heap, K.In h ∧ h.Ns mainGlobals mg
section
variable {P : Program} {w : World} {K : PySem.W.Frag} {mg : Str → Option Value} {base : Heap}
theorem KM.free (C : KM K mg) (i : Nat) {x : Str} (h : fa[i]? = some (.free x) := by rfl) : mg x = none := by
  obtain ⟨hp, k, g⟩ := C.ex
  exact He.free_ok k g (C.says.fact i h)
theorem KM.glo (C : KM K mg) (i : Nat) {x : Str} (h : fa[i]? = some (.glo x) := by rfl) : mg x = some (.ref (He.ga K x)) := by
  obtain ⟨hp, k, g⟩ := C.ex
  exact He.glo_ok k g (C.says.fact i h)
theorem KM.int (C : KM K mg) (i : Nat) {x : Str} {n : Int} (h : fa[i]? = some (.int x n) := by rfl) : ∃ t, mg x = some (.int n t) := by
  obtain ⟨hp, k, g⟩ := C.ex
  exact He.int_ok k g (C.says.fact i h)
theorem KM.str (C : KM K mg) (i : Nat) {x z : Str} (h : fa[i]? = some (.str x z) := by rfl) : ∃ t, mg x = some (.str z t) := by
  obtain ⟨hp, k, g⟩ := C.ex
  exact He.str_ok k g (C.says.fact i h)
theorem sc_is_integer : FnScope ["value", "low", "high"] ["value", "low", "high"] (defScope s_is_integer) := ⟨rfl, rfl, rfl, by decide +kernel, rfl, by decide +kernel, by decide +kernel⟩
theorem fd_is_integer (C : KM K mg) : ∃ fd, FunD K "is_integer" "is_integer" (defArgs s_is_integer) (defBody s_is_integer) (defScope s_is_integer) [] [] (He.ga K "is_integer") fd := C.says.def_ 0 (d := d_is_integer) rfl
theorem fg_is_integer (C : KM K mg) {fd : FuncData} (F : FunD K "is_integer" "is_integer" (defArgs s_is_integer) (defBody s_is_integer) (defScope s_is_integer) [] [] (He.ga K "is_integer") fd) : FnG P w K mg base 1 (He.ga K "is_integer") fd ["value", "low", "high"] m_is_integer := by
  refine fnG_of (k := 0) (N := ["value", "low", "high"]) (b := b_is_integer) F sc_is_integer fun cdv A outer s H E hr hgd => ?_
  have tk : Takes (cxOf (L2.CX P w) P w K mg base ["value", "low", "high"] "is_integer" (defScope s_is_integer) (He.ga K "is_integer") cdv A outer s H E) (WB E) := takes_of rfl rfl rfl rfl
  unfold b_is_integer
  exact mss_cons (ms_if (mt_w (mw_or (mt_not (mt_val (me_isi (C.free 0) (C.free 1) (by decide +kernel) isi_int (me_var 0)))) (mw_or1 (mt_val (me_isi (C.free 0) (C.free 2) (by decide +kernel) isi_bool (me_var 0)))))) (mss_one (ms_ret (me_bl))) (mss_nil)) (mss_one (ms_ret (me_and (me_or (me_cmp op_oIs (me_var 1) (me_non)) (me_one (me_cmp op_oGe (me_var 0) (me_var 1)))) (me_one (me_or (me_cmp op_oIs (me_var 2) (me_non)) (me_one (me_cmp op_oLe (me_var 0) (me_var 2))))))))
theorem ok_is_integer (C : KM K mg) : Cd P w K mg base 1 "is_integer" [] m_is_integer := by
  obtain ⟨fd, F⟩ := fd_is_integer C
  exact ⟨_, fd, ["value", "low", "high"], [], [], fg_is_integer C F, (C.glo 20), F.kp, F.bindsN fun _ _ _ _ _ _ us hl => (match us, hl with | [_, _, _], _ => rfl), .nil, fun _ _ => .nil⟩
theorem sc_has_shortcuts : FnScope ["table", "states", "middle", "here", "there"] ["table"] (defScope s_has_shortcuts) := ⟨rfl, rfl, rfl, by decide +kernel, rfl, by decide +kernel, by decide +kernel⟩
theorem fd_has_shortcuts (C : KM K mg) : ∃ fd, FunD K "has_shortcuts" "has_shortcuts" (defArgs s_has_shortcuts) (defBody s_has_shortcuts) (defScope s_has_shortcuts) [] [] (He.ga K "has_shortcuts") fd := C.says.def_ 1 (d := d_has_shortcuts) rfl
theorem fg_has_shortcuts (C : KM K mg) {fd : FuncData} (F : FunD K "has_shortcuts" "has_shortcuts" (defArgs s_has_shortcuts) (defBody s_has_shortcuts) (defScope s_has_shortcuts) [] [] (He.ga K "has_shortcuts") fd) : FnG P w K mg base 1 (He.ga K "has_shortcuts") fd ["table"] m_has_shortcuts := by
  refine fnG_of (k := 0) (N := ["table", "states", "middle", "here", "there"]) (b := b_has_shortcuts) F sc_has_shortcuts fun cdv A outer s H E hr hgd => ?_
  have tk : Takes (cxOf (L2.CX P w) P w K mg base ["table", "states", "middle", "here", "there"] "has_shortcuts" (defScope s_has_shortcuts) (He.ga K "has_shortcuts") cdv A outer s H E) (WB E) := takes_of rfl rfl rfl rfl
  unfold b_has_shortcuts
  exact mss_cons (ms_set 1 sc_has_shortcuts.nd (me_listR1 rfl (me_callB call_oLen (C.free 3) (by decide +kernel) (ma_cons (me_var 0) (ma_nil))) (C.free 4) (C.free 5))) (mss_cons (ms_for (passes_of rfl) rfl (mi_seq (me_var 1)) (mg_name 2 sc_has_shortcuts.nd) (mss_one (ms_for (passes_of rfl) rfl (mi_seq (me_var 1)) (mg_name 3 sc_has_shortcuts.nd) (mss_one (ms_if (mt_val (me_callB (call_oAny rfl) (C.free 6) (by decide +kernel) (ma_cons (me_lc [("there", 4)] rfl sc_has_shortcuts.nd (mi_seq (me_var 1)) (blkOk_by (by kernel_rfl)) (fun _ _ _ _ _ => mg_name 4 sc_has_shortcuts.nd) (fun _ _ _ _ _ => mts_nil) (fun _ _ _ _ _ => me_cmp op_oGt (me_ix (me_ix (me_var 0) (me_var 3)) (me_var 4)) (me_op op_oAdd (me_ix (me_ix (me_var 0) (me_var 3)) (me_var 2)) (me_ix (me_ix (me_var 0) (me_var 2)) (me_var 4))))) (ma_nil)))) (mss_one (ms_ret (me_bl))) (mss_nil)))))) (mss_one (ms_ret (me_bl))))
theorem ok_has_shortcuts (C : KM K mg) : Cd P w K mg base 1 "has_shortcuts" [] m_has_shortcuts := by
  obtain ⟨fd, F⟩ := fd_has_shortcuts C
  exact ⟨_, fd, ["table"], [], [], fg_has_shortcuts C F, (C.glo 21), F.kp, F.bindsN fun _ _ _ _ _ _ us hl => (match us, hl with | [_], _ => rfl), .nil, fun _ _ => .nil⟩
theorem sc__law_stream : FnScope ["_law_script", "_law_at", "_law_cell", "_law_great"] ["_law_script", "_law_at"] (defScope s__law_stream) := ⟨rfl, rfl, rfl, by decide +kernel, rfl, by decide +kernel, by decide +kernel⟩
theorem fd__law_stream (C : KM K mg) : ∃ fd, FunD K "_law_stream" "_law_stream" (defArgs s__law_stream) (defBody s__law_stream) (defScope s__law_stream) [] [] (He.ga K "_law_stream") fd := C.says.def_ 2 (d := d__law_stream) rfl
theorem fg__law_stream (C : KM K mg) {fd : FuncData} (F : FunD K "_law_stream" "_law_stream" (defArgs s__law_stream) (defBody s__law_stream) (defScope s__law_stream) [] [] (He.ga K "_law_stream") fd) : FnG P w K mg base 1 (He.ga K "_law_stream") fd ["_law_script", "_law_at"] m__law_stream := by
  refine fnG_of (k := 0) (N := ["_law_script", "_law_at", "_law_cell", "_law_great"]) (b := b__law_stream) F sc__law_stream fun cdv A outer s H E hr hgd => ?_
  have tk : Takes (cxOf (L2.CX P w) P w K mg base ["_law_script", "_law_at", "_law_cell", "_law_great"] "_law_stream" (defScope s__law_stream) (He.ga K "_law_stream") cdv A outer s H E) (WB E) := takes_of rfl rfl rfl rfl
  unfold b__law_stream
  exact mss_cons (ms_set 2 sc__law_stream.nd (me_op op_oAdd (me_op op_oMul2 (me_int) (me_var 1)) (me_int))) (mss_cons (ms_if (mt_cmp op_oLt (me_var 1) (me_callB call_oLen (C.free 3) (by decide +kernel) (ma_cons (me_var 0) (ma_nil)))) (mss_one (ms_set 2 sc__law_stream.nd (me_ix (me_var 0) (me_var 1)))) (mss_nil)) (mss_cons (ms_set 3 sc__law_stream.nd (me_op op_oMod (me_callB call_oAbs (C.free 7) (by decide +kernel) (ma_cons (me_var 2) (ma_nil))) (me_op op_oPow (me_op op_oPow (me_int) (me_int)) (me_int)))) (mss_one (ms_ret (me_lst (ma_cons (me_callB (call_oMax2 rfl) (C.free 8) (by decide +kernel) (ma_cons (me_int) (ma_cons (me_op op_oSub (me_var 3) (me_op op_oPow (me_int) (me_int))) (ma_nil)))) (ma_cons (me_op op_oMod (me_op op_oAdd (me_op op_oAdd (me_op op_oAdd (me_op op_oMul2 (me_var 3) (me_int)) (me_op op_oMul2 (me_int) (me_var 1))) (me_op op_oMul2 (me_int) (me_callT call_oInt (C.free 1) (by decide +kernel) (ma_cons (me_cmp op_oLt (me_var 2) (me_int)) (ma_nil))))) (me_int)) (me_int)) (ma_cons (me_int) (ma_nil)))))))))
theorem ok__law_stream (C : KM K mg) : Cd P w K mg base 1 "_law_stream" [] m__law_stream := by
  obtain ⟨fd, F⟩ := fd__law_stream C
  exact ⟨_, fd, ["_law_script", "_law_at"], [], [], fg__law_stream C F, (C.glo 22), F.kp, F.bindsN fun _ _ _ _ _ _ us hl => (match us, hl with | [_, _], _ => rfl), .nil, fun _ _ => .nil⟩
theorem sc__law_draw : FnScope ["_law_stream_here", "_law_total", "_law_one", "_law_stir", "_law_two", "_law_found"] ["_law_stream_here", "_law_total"] (defScope s__law_draw) := ⟨rfl, rfl, rfl, by decide +kernel, rfl, by decide +kernel, by decide +kernel⟩
theorem fd__law_draw (C : KM K mg) : ∃ fd, FunD K "_law_draw" "_law_draw" (defArgs s__law_draw) (defBody s__law_draw) (defScope s__law_draw) [] [] (He.ga K "_law_draw") fd := C.says.def_ 3 (d := d__law_draw) rfl
theorem fg__law_draw (C : KM K mg) {fd : FuncData} (F : FunD K "_law_draw" "_law_draw" (defArgs s__law_draw) (defBody s__law_draw) (defScope s__law_draw) [] [] (He.ga K "_law_draw") fd) : FnG P w K mg base 1 (He.ga K "_law_draw") fd ["_law_stream_here", "_law_total"] m__law_draw := by
  refine fnG_of (k := 0) (N := ["_law_stream_here", "_law_total", "_law_one", "_law_stir", "_law_two", "_law_found"]) (b := b__law_draw) F sc__law_draw fun cdv A outer s H E hr hgd => ?_
  have tk : Takes (cxOf (L2.CX P w) P w K mg base ["_law_stream_here", "_law_total", "_law_one", "_law_stir", "_law_two", "_law_found"] "_law_draw" (defScope s__law_draw) (He.ga K "_law_draw") cdv A outer s H E) (WB E) := takes_of rfl rfl rfl rfl
  unfold b__law_draw
  exact mss_cons (ms_if (mt_cmp op_oGt (me_ix (me_var 0) (me_int)) (me_int)) (mss_cons (ms_set 5 sc__law_draw.nd (me_op op_oMod (me_ix (me_var 0) (me_int)) (me_var 1))) (mss_cons (ms_setIx (me_op op_oFdiv (me_ix (me_var 0) (me_int)) (me_var 1)) (me_var 0) (me_int)) (mss_one (ms_ret (me_var 5))))) (mss_nil)) (mss_cons (ms_setIx (me_op op_oAdd (me_ix (me_var 0) (me_int)) (me_int)) (me_var 0) (me_int)) (mss_cons (ms_set 2 sc__law_draw.nd (me_op op_oMod (me_op op_oAdd (me_ix (me_var 0) (me_int)) (me_op op_oMul2 (me_int) (me_ix (me_var 0) (me_int)))) (me_int))) (mss_cons (ms_set 3 sc__law_draw.nd (me_op op_oAdd (me_op op_oMul2 (me_op op_oMod (me_op op_oMul2 (me_var 2) (me_var 2)) (me_int)) (me_var 2)) (me_op op_oMul2 (me_int) (me_ix (me_var 0) (me_int))))) (mss_cons (ms_set 4 sc__law_draw.nd (me_op op_oMod (me_op op_oAdd (me_var 3) (me_op op_oMod (me_ix (me_var 0) (me_int)) (me_int))) (me_int))) (mss_one (ms_ret (me_op op_oMod (me_op op_oFdiv (me_op op_oMod (me_op op_oMul2 (me_var 4) (me_var 4)) (me_int)) (me_int)) (me_var 1))))))))
theorem ok__law_draw (C : KM K mg) : Cd P w K mg base 1 "_law_draw" [] m__law_draw := by
  obtain ⟨fd, F⟩ := fd__law_draw C
  exact ⟨_, fd, ["_law_stream_here", "_law_total"], [], [], fg__law_draw C F, (C.glo 23), F.kp, F.bindsN fun _ _ _ _ _ _ us hl => (match us, hl with | [_, _], _ => rfl), .nil, fun _ _ => .nil⟩
theorem sc__law_in_range : FnScope ["_law_value", "_law_low", "_law_high"] ["_law_value", "_law_low", "_law_high"] (defScope s__law_in_range) := ⟨rfl, rfl, rfl, by decide +kernel, rfl, by decide +kernel, by decide +kernel⟩
theorem fd__law_in_range (C : KM K mg) : ∃ fd, FunD K "_law_in_range" "_law_in_range" (defArgs s__law_in_range) (defBody s__law_in_range) (defScope s__law_in_range) [] [] (He.ga K "_law_in_range") fd := C.says.def_ 4 (d := d__law_in_range) rfl
theorem fg__law_in_range (C : KM K mg) {fd : FuncData} (F : FunD K "_law_in_range" "_law_in_range" (defArgs s__law_in_range) (defBody s__law_in_range) (defScope s__law_in_range) [] [] (He.ga K "_law_in_range") fd) : FnG P w K mg base 1 (He.ga K "_law_in_range") fd ["_law_value", "_law_low", "_law_high"] m__law_in_range := by
  refine fnG_of (k := 0) (N := ["_law_value", "_law_low", "_law_high"]) (b := b__law_in_range) F sc__law_in_range fun cdv A outer s H E hr hgd => ?_
  have tk : Takes (cxOf (L2.CX P w) P w K mg base ["_law_value", "_law_low", "_law_high"] "_law_in_range" (defScope s__law_in_range) (He.ga K "_law_in_range") cdv A outer s H E) (WB E) := takes_of rfl rfl rfl rfl
  unfold b__law_in_range
  exact mss_one (ms_ret (me_and (me_isi (C.free 0) (C.free 1) (by decide +kernel) isi_int (me_var 0)) (me_and (me_not (me_isi (C.free 0) (C.free 2) (by decide +kernel) isi_bool (me_var 0))) (me_one (me_chain op_oLe op_oLe (me_var 1) (me_var 0) (me_var 2))))))
theorem ok__law_in_range (C : KM K mg) : Cd P w K mg base 1 "_law_in_range" [] m__law_in_range := by
  obtain ⟨fd, F⟩ := fd__law_in_range C
  exact ⟨_, fd, ["_law_value", "_law_low", "_law_high"], [], [], fg__law_in_range C F, (C.glo 24), F.kp, F.bindsN fun _ _ _ _ _ _ us hl => (match us, hl with | [_, _, _], _ => rfl), .nil, fun _ _ => .nil⟩
theorem sc__law_flat : FnScope ["_law_size", "_law_total", "_law_cost", "_law_rows", "_law_here", "_law_row"] ["_law_size", "_law_total", "_law_cost"] (defScope s__law_flat) := ⟨rfl, rfl, rfl, by decide +kernel, rfl, by decide +kernel, by decide +kernel⟩
theorem fd__law_flat (C : KM K mg) : ∃ fd, FunD K "_law_flat" "_law_flat" (defArgs s__law_flat) (defBody s__law_flat) (defScope s__law_flat) [] [] (He.ga K "_law_flat") fd := C.says.def_ 5 (d := d__law_flat) rfl
theorem fg__law_flat (C : KM K mg) {fd : FuncData} (F : FunD K "_law_flat" "_law_flat" (defArgs s__law_flat) (defBody s__law_flat) (defScope s__law_flat) [] [] (He.ga K "_law_flat") fd) : FnG P w K mg base 1 (He.ga K "_law_flat") fd ["_law_size", "_law_total", "_law_cost"] m__law_flat := by
  refine fnG_of (k := 0) (N := ["_law_size", "_law_total", "_law_cost", "_law_rows", "_law_here", "_law_row"]) (b := b__law_flat) F sc__law_flat fun cdv A outer s H E hr hgd => ?_
  have tk : Takes (cxOf (L2.CX P w) P w K mg base ["_law_size", "_law_total", "_law_cost", "_law_rows", "_law_here", "_law_row"] "_law_flat" (defScope s__law_flat) (He.ga K "_law_flat") cdv A outer s H E) (WB E) := takes_of rfl rfl rfl rfl
  unfold b__law_flat
  exact mss_cons (ms_set 3 sc__law_flat.nd (me_lst (ma_nil))) (mss_cons (ms_for (passes_of rfl) rfl (mi_range1 (ma_cons (me_var 0) (ma_nil)) (C.free 5)) (mg_name 4 sc__law_flat.nd) (mss_cons (ms_set 5 sc__law_flat.nd (me_op op_oMul2 (me_lst (ma_cons (me_var 2) (ma_nil))) (me_var 0))) (mss_cons (ms_setIx (me_int) (me_var 5) (me_var 4)) (mss_one (ms_expr (me_append (me_var 3) (ma_cons (me_callT call_oTuple (C.free 9) (by decide +kernel) (ma_cons (me_var 5) (ma_nil))) (ma_nil)))))))) (mss_one (ms_ret (me_tup (ma_cons (me_callT call_oTuple (C.free 9) (by decide +kernel) (ma_cons (me_var 3) (ma_nil))) (ma_cons (me_op op_oMul2 (me_tup (ma_cons (me_op op_oMul2 (me_tup (ma_cons (me_int) (ma_nil))) (me_var 0)) (ma_nil))) (me_var 1)) (ma_cons (me_op op_oSub (me_var 0) (me_int)) (ma_nil))))))))
theorem ok__law_flat (C : KM K mg) : Cd P w K mg base 1 "_law_flat" [] m__law_flat := by
  obtain ⟨fd, F⟩ := fd__law_flat C
  exact ⟨_, fd, ["_law_size", "_law_total", "_law_cost"], [], [], fg__law_flat C F, (C.glo 25), F.kp, F.bindsN fun _ _ _ _ _ _ us hl => (match us, hl with | [_, _, _], _ => rfl), .nil, fun _ _ => .nil⟩
theorem sc_is_table : FnScope ["value", "here", "row", "lowest", "there", "cost", "low"] ["value"] (defScope s_is_table) := ⟨rfl, rfl, rfl, by decide +kernel, rfl, by decide +kernel, by decide +kernel⟩
theorem fd_is_table (C : KM K mg) : ∃ fd, FunD K "is_table" "is_table" (defArgs s_is_table) (defBody s_is_table) (defScope s_is_table) [] [] (He.ga K "is_table") fd := C.says.def_ 6 (d := d_is_table) rfl
theorem fg_is_table (C : KM K mg) {fd : FuncData} (F : FunD K "is_table" "is_table" (defArgs s_is_table) (defBody s_is_table) (defScope s_is_table) [] [] (He.ga K "is_table") fd) : FnG P w K mg base 2 (He.ga K "is_table") fd ["value"] m_is_table := by
  refine fnG_of (k := 1) (N := ["value", "here", "row", "lowest", "there", "cost", "low"]) (b := b_is_table) F sc_is_table fun cdv A outer s H E hr hgd => ?_
  have tk : Takes (cxOf (L2.CX P w) P w K mg base ["value", "here", "row", "lowest", "there", "cost", "low"] "is_table" (defScope s_is_table) (He.ga K "is_table") cdv A outer s H E) (WB E) := takes_of rfl rfl rfl rfl
  unfold b_is_table
  exact mss_cons (ms_if (mt_w (mw_or (mt_not (mt_val (me_isi (C.free 0) (C.free 9) (by decide +kernel) isi_tuple (me_var 0)))) (mw_or1 (mt_not (mt_chain op_oLe op_oLe (me_gint (C.int 10)) (me_callB call_oLen (C.free 3) (by decide +kernel) (ma_cons (me_var 0) (ma_nil))) (me_gint (C.int 11))))))) (mss_one (ms_ret (me_bl))) (mss_nil)) (mss_cons (ms_for (passes_of rfl) rfl (mi_enum (ma_cons (me_var 0) (ma_nil)) (C.free 12)) (mg_tup rfl (mgs_cons (mg_name 1 sc_is_table.nd) (mgs_cons (mg_name 2 sc_is_table.nd) (mgs_nil))) (gsN_cons (gsN_cons (gsN_nil)))) (mss_cons (ms_if (mt_w (mw_or (mt_not (mt_val (me_isi (C.free 0) (C.free 9) (by decide +kernel) isi_tuple (me_var 2)))) (mw_or1 (mt_cmp (op_oNe2 hr) (me_callB call_oLen (C.free 3) (by decide +kernel) (ma_cons (me_var 2) (ma_nil))) (me_callB call_oLen (C.free 3) (by decide +kernel) (ma_cons (me_var 0) (ma_nil))))))) (mss_one (ms_ret (me_bl))) (mss_nil)) (mss_cons (ms_setLc (i := 3) [("there", 4)] rfl sc_is_table.nd rfl rfl (sw_true rfl rfl rfl rfl) (mi_range1 (ma_cons (me_callB call_oLen (C.free 3) (by decide +kernel) (ma_cons (me_var 0) (ma_nil))) (ma_nil)) (C.free 5)) (blkOk_by (by kernel_rfl)) (fun _ _ _ _ _ => mg_name 4 sc_is_table.nd) (fun _ _ _ _ _ => mts_nil) (fun _ _ _ _ _ => me_callT call_oInt (C.free 1) (by decide +kernel) (ma_cons (me_cmp (op_oNe2 hr) (me_var 1) (me_var 4)) (ma_nil)))) (mss_one (ms_if (mt_not (mt_val (me_callB (call_oAll rfl) (C.free 15) (by decide +kernel) (ma_cons (me_lc [("cost", 5), ("low", 6)] rfl sc_is_table.nd (mi_zipS (ma_cons (me_var 2) (ma_cons (me_var 3) (ma_nil))) (C.free 13)) (blkOk_by (by kernel_rfl)) (fun _ _ _ _ _ => mg_tup rfl (mgs_cons (mg_name 5 sc_is_table.nd) (mgs_cons (mg_name 6 sc_is_table.nd) (mgs_nil))) (gsN_cons (gsN_cons (gsN_nil)))) (fun _ _ _ _ _ => mts_nil) (fun _ _ _ _ _ => me_call (ok_is_integer C).loc hr (by decide) hgd takes_WN (ma_cons (me_var 5) (ma_cons (me_var 6) (ma_cons (me_op op_oMul2 (me_gint (C.int 14)) (me_var 6)) (ma_nil)))))) (ma_nil))))) (mss_one (ms_ret (me_bl))) (mss_nil)))))) (mss_one (ms_ret (me_bl))))
theorem ok_is_table (C : KM K mg) : Cd P w K mg base 2 "is_table" [] m_is_table := by
  obtain ⟨fd, F⟩ := fd_is_table C
  exact ⟨_, fd, ["value"], [], [], fg_is_table C F, (C.glo 26), F.kp, F.bindsN fun _ _ _ _ _ _ us hl => (match us, hl with | [_], _ => rfl), .nil, fun _ _ => .nil⟩
theorem sc_is_request_row : FnScope ["value", "size", "cost"] ["value", "size"] (defScope s_is_request_row) := ⟨rfl, rfl, rfl, by decide +kernel, rfl, by decide +kernel, by decide +kernel⟩
theorem fd_is_request_row (C : KM K mg) : ∃ fd, FunD K "is_request_row" "is_request_row" (defArgs s_is_request_row) (defBody s_is_request_row) (defScope s_is_request_row) [] [] (He.ga K "is_request_row") fd := C.says.def_ 7 (d := d_is_request_row) rfl
theorem fg_is_request_row (C : KM K mg) {fd : FuncData} (F : FunD K "is_request_row" "is_request_row" (defArgs s_is_request_row) (defBody s_is_request_row) (defScope s_is_request_row) [] [] (He.ga K "is_request_row") fd) : FnG P w K mg base 2 (He.ga K "is_request_row") fd ["value", "size"] m_is_request_row := by
  refine fnG_of (k := 1) (N := ["value", "size", "cost"]) (b := b_is_request_row) F sc_is_request_row fun cdv A outer s H E hr hgd => ?_
  have tk : Takes (cxOf (L2.CX P w) P w K mg base ["value", "size", "cost"] "is_request_row" (defScope s_is_request_row) (He.ga K "is_request_row") cdv A outer s H E) (WB E) := takes_of rfl rfl rfl rfl
  unfold b_is_request_row
  exact mss_cons (ms_if (mt_w (mw_or (mt_not (mt_val (me_isi (C.free 0) (C.free 9) (by decide +kernel) isi_tuple (me_var 0)))) (mw_or1 (mt_cmp (op_oNe2 hr) (me_callB call_oLen (C.free 3) (by decide +kernel) (ma_cons (me_var 0) (ma_nil))) (me_var 1))))) (mss_one (ms_ret (me_bl))) (mss_nil)) (mss_cons (ms_if (mt_not (mt_val (me_callB (call_oAll rfl) (C.free 15) (by decide +kernel) (ma_cons (me_lc [("cost", 2)] rfl sc_is_request_row.nd (mi_seq (me_var 0)) (blkOk_by (by kernel_rfl)) (fun _ _ _ _ _ => mg_name 2 sc_is_request_row.nd) (fun _ _ _ _ _ => mts_nil) (fun _ _ _ _ _ => me_or (me_cmp op_oIs (me_var 2) (me_non)) (me_one (me_call (ok_is_integer C).loc hr (by decide) hgd takes_WN (ma_cons (me_var 2) (ma_cons (me_int) (ma_cons (me_gint (C.int 14)) (ma_nil)))))))) (ma_nil))))) (mss_one (ms_ret (me_bl))) (mss_nil)) (mss_one (ms_ret (me_callB (call_oAny rfl) (C.free 6) (by decide +kernel) (ma_cons (me_lc [("cost", 2)] rfl sc_is_request_row.nd (mi_seq (me_var 0)) (blkOk_by (by kernel_rfl)) (fun _ _ _ _ _ => mg_name 2 sc_is_request_row.nd) (fun _ _ _ _ _ => mts_nil) (fun _ _ _ _ _ => me_cmp op_oIsNot (me_var 2) (me_non))) (ma_nil))))))
theorem ok_is_request_row (C : KM K mg) : Cd P w K mg base 2 "is_request_row" [] m_is_request_row := by
  obtain ⟨fd, F⟩ := fd_is_request_row C
  exact ⟨_, fd, ["value", "size"], [], [], fg_is_request_row C F, (C.glo 27), F.kp, F.bindsN fun _ _ _ _ _ _ us hl => (match us, hl with | [_, _], _ => rfl), .nil, fun _ _ => .nil⟩
theorem sc__law_switching : FnScope ["_law_stream_here", "_law_size", "_law_top", "_law_table", "_law_here", "_law_middle", "_law_there", "_law_row"] ["_law_stream_here", "_law_size"] (defScope s__law_switching) := ⟨rfl, rfl, rfl, by decide +kernel, rfl, by decide +kernel, by decide +kernel⟩
theorem fd__law_switching (C : KM K mg) : ∃ fd, FunD K "_law_switching" "_law_switching" (defArgs s__law_switching) (defBody s__law_switching) (defScope s__law_switching) [] [] (He.ga K "_law_switching") fd := C.says.def_ 8 (d := d__law_switching) rfl
theorem fg__law_switching (C : KM K mg) {fd : FuncData} (F : FunD K "_law_switching" "_law_switching" (defArgs s__law_switching) (defBody s__law_switching) (defScope s__law_switching) [] [] (He.ga K "_law_switching") fd) : FnG P w K mg base 2 (He.ga K "_law_switching") fd ["_law_stream_here", "_law_size"] m__law_switching := by
  refine fnG_of (k := 1) (N := ["_law_stream_here", "_law_size", "_law_top", "_law_table", "_law_here", "_law_middle", "_law_there", "_law_row"]) (b := b__law_switching) F sc__law_switching fun cdv A outer s H E hr hgd => ?_
  have tk : Takes (cxOf (L2.CX P w) P w K mg base ["_law_stream_here", "_law_size", "_law_top", "_law_table", "_law_here", "_law_middle", "_law_there", "_law_row"] "_law_switching" (defScope s__law_switching) (He.ga K "_law_switching") cdv A outer s H E) (WB E) := takes_of rfl rfl rfl rfl
  unfold b__law_switching
  exact mss_cons (ms_set 2 sc__law_switching.nd (me_ix (me_lst (ma_cons (me_int) (ma_cons (me_int) (ma_cons (me_int) (ma_cons (me_int) (ma_cons (me_int) (ma_nil))))))) (me_call (ok__law_draw C).loc hr (by decide) hgd tk (ma_cons (me_var 0) (ma_cons (me_int) (ma_nil)))))) (mss_cons (ms_set 3 sc__law_switching.nd (me_lst (ma_nil))) (mss_cons (ms_for (passes_of rfl) rfl (mi_range1 (ma_cons (me_var 1) (ma_nil)) (C.free 5)) (mg_name 4 sc__law_switching.nd) (mss_cons (ms_expr (me_append (me_var 3) (ma_cons (me_lc [("_law_there", 6)] rfl sc__law_switching.nd (mi_range1 (ma_cons (me_var 1) (ma_nil)) (C.free 5)) (blkOk_by (by kernel_rfl)) (fun _ _ _ _ _ => mg_name 6 sc__law_switching.nd) (fun _ _ _ _ _ => mts_nil) (fun _ _ _ _ _ => me_op op_oAdd (me_int) (me_call (ok__law_draw C).loc hr (by decide) hgd takes_WN (ma_cons (me_var 0) (ma_cons (me_var 2) (ma_nil)))))) (ma_nil)))) (mss_one (ms_setIx (me_int) (me_ix (me_var 3) (me_var 4)) (me_var 4))))) (mss_cons (ms_if (mt_cmp (op_oEq2 hr) (me_call (ok__law_draw C).loc hr (by decide) hgd tk (ma_cons (me_var 0) (ma_cons (me_int) (ma_nil)))) (me_int)) (mss_one (ms_for (passes_of rfl) rfl (mi_range1 (ma_cons (me_var 1) (ma_nil)) (C.free 5)) (mg_name 4 sc__law_switching.nd) (mss_one (ms_for (passes_of rfl) rfl (mi_range1 (ma_cons (me_var 4) (ma_nil)) (C.free 5)) (mg_name 6 sc__law_switching.nd) (mss_one (ms_setIx (me_ix (me_ix (me_var 3) (me_var 6)) (me_var 4)) (me_ix (me_var 3) (me_var 4)) (me_var 6))))))) (mss_nil)) (mss_cons (ms_for (passes_of rfl) rfl (mi_range1 (ma_cons (me_var 1) (ma_nil)) (C.free 5)) (mg_name 5 sc__law_switching.nd) (mss_one (ms_for (passes_of rfl) rfl (mi_range1 (ma_cons (me_var 1) (ma_nil)) (C.free 5)) (mg_name 4 sc__law_switching.nd) (mss_one (ms_for (passes_of rfl) rfl (mi_range1 (ma_cons (me_var 1) (ma_nil)) (C.free 5)) (mg_name 6 sc__law_switching.nd) (mss_one (ms_setIx (me_callB (call_oMin2 rfl) (C.free 16) (by decide +kernel) (ma_cons (me_ix (me_ix (me_var 3) (me_var 4)) (me_var 6)) (ma_cons (me_op op_oAdd (me_ix (me_ix (me_var 3) (me_var 4)) (me_var 5)) (me_ix (me_ix (me_var 3) (me_var 5)) (me_var 6))) (ma_nil)))) (me_ix (me_var 3) (me_var 4)) (me_var 6)))))))) (mss_one (ms_ret (me_callT call_oTuple (C.free 9) (by decide +kernel) (ma_cons (me_lc [("_law_row", 7)] rfl sc__law_switching.nd (mi_seq (me_var 3)) (blkOk_by (by kernel_rfl)) (fun _ _ _ _ _ => mg_name 7 sc__law_switching.nd) (fun _ _ _ _ _ => mts_nil) (fun _ _ _ _ _ => me_callT call_oTuple (C.free 9) (by decide +kernel) (ma_cons (me_var 7) (ma_nil)))) (ma_nil)))))))))
theorem ok__law_switching (C : KM K mg) : Cd P w K mg base 2 "_law_switching" [] m__law_switching := by
  obtain ⟨fd, F⟩ := fd__law_switching C
  exact ⟨_, fd, ["_law_stream_here", "_law_size"], [], [], fg__law_switching C F, (C.glo 28), F.kp, F.bindsN fun _ _ _ _ _ _ us hl => (match us, hl with | [_, _], _ => rfl), .nil, fun _ _ => .nil⟩
theorem sc__law_request : FnScope ["_law_stream_here", "_law_size", "_law_top", "_law_bans", "_law_free", "_law_entries", "_law_here", "_law_entry", "_law_banned"] ["_law_stream_here", "_law_size"] (defScope s__law_request) := ⟨rfl, rfl, rfl, by decide +kernel, rfl, by decide +kernel, by decide +kernel⟩
theorem fd__law_request (C : KM K mg) : ∃ fd, FunD K "_law_request" "_law_request" (defArgs s__law_request) (defBody s__law_request) (defScope s__law_request) [] [] (He.ga K "_law_request") fd := C.says.def_ 9 (d := d__law_request) rfl
theorem fg__law_request (C : KM K mg) {fd : FuncData} (F : FunD K "_law_request" "_law_request" (defArgs s__law_request) (defBody s__law_request) (defScope s__law_request) [] [] (He.ga K "_law_request") fd) : FnG P w K mg base 2 (He.ga K "_law_request") fd ["_law_stream_here", "_law_size"] m__law_request := by
  refine fnG_of (k := 1) (N := ["_law_stream_here", "_law_size", "_law_top", "_law_bans", "_law_free", "_law_entries", "_law_here", "_law_entry", "_law_banned"]) (b := b__law_request) F sc__law_request fun cdv A outer s H E hr hgd => ?_
  have tk : Takes (cxOf (L2.CX P w) P w K mg base ["_law_stream_here", "_law_size", "_law_top", "_law_bans", "_law_free", "_law_entries", "_law_here", "_law_entry", "_law_banned"] "_law_request" (defScope s__law_request) (He.ga K "_law_request") cdv A outer s H E) (WB E) := takes_of rfl rfl rfl rfl
  unfold b__law_request
  exact mss_cons (ms_set 2 sc__law_request.nd (me_ix (me_lst (ma_cons (me_int) (ma_cons (me_int) (ma_cons (me_int) (ma_cons (me_int) (ma_nil)))))) (me_call (ok__law_draw C).loc hr (by decide) hgd tk (ma_cons (me_var 0) (ma_cons (me_int) (ma_nil)))))) (mss_cons (ms_set 3 sc__law_request.nd (me_ix (me_lst (ma_cons (me_int) (ma_cons (me_int) (ma_cons (me_int) (ma_cons (me_int) (ma_nil)))))) (me_call (ok__law_draw C).loc hr (by decide) hgd tk (ma_cons (me_var 0) (ma_cons (me_int) (ma_nil)))))) (mss_cons (ms_set 4 sc__law_request.nd (me_call (ok__law_draw C).loc hr (by decide) hgd tk (ma_cons (me_var 0) (ma_cons (me_var 1) (ma_nil))))) (mss_cons (ms_set 5 sc__law_request.nd (me_lst (ma_nil))) (mss_cons (ms_for (passes_of rfl) rfl (mi_range1 (ma_cons (me_var 1) (ma_nil)) (C.free 5)) (mg_name 6 sc__law_request.nd) (mss_cons (ms_set 7 sc__law_request.nd (me_call (ok__law_draw C).loc hr (by decide) hgd tk (ma_cons (me_var 0) (ma_cons (me_var 2) (ma_nil))))) (mss_cons (ms_set 8 sc__law_request.nd (me_and (me_cmp op_oGt (me_var 3) (me_int)) (me_one (me_cmp (op_oEq2 hr) (me_call (ok__law_draw C).loc hr (by decide) hgd tk (ma_cons (me_var 0) (ma_cons (me_var 3) (ma_nil)))) (me_int))))) (mss_one (ms_expr (me_append (me_var 5) (ma_cons (me_if (mt_w (mw_and (mt_val (me_var 8)) (mw_and1 (mt_cmp (op_oNe2 hr) (me_var 6) (me_var 4))))) (me_non) (me_var 7)) (ma_nil)))))))) (mss_one (ms_ret (me_callT call_oTuple (C.free 9) (by decide +kernel) (ma_cons (me_var 5) (ma_nil)))))))))
theorem ok__law_request (C : KM K mg) : Cd P w K mg base 2 "_law_request" [] m__law_request := by
  obtain ⟨fd, F⟩ := fd__law_request C
  exact ⟨_, fd, ["_law_stream_here", "_law_size"], [], [], fg__law_request C F, (C.glo 29), F.kp, F.bindsN fun _ _ _ _ _ _ us hl => (match us, hl with | [_, _], _ => rfl), .nil, fun _ _ => .nil⟩
theorem sc__law_unrelated : FnScope ["_law_stream_here", "_law_some"] ["_law_stream_here"] (defScope s__law_unrelated) := ⟨rfl, rfl, rfl, by decide +kernel, rfl, by decide +kernel, by decide +kernel⟩
theorem fd__law_unrelated (C : KM K mg) : ∃ fd, FunD K "_law_unrelated" "_law_unrelated" (defArgs s__law_unrelated) (defBody s__law_unrelated) (defScope s__law_unrelated) [] [] (He.ga K "_law_unrelated") fd := C.says.def_ 10 (d := d__law_unrelated) rfl
theorem fg__law_unrelated (C : KM K mg) {fd : FuncData} (F : FunD K "_law_unrelated" "_law_unrelated" (defArgs s__law_unrelated) (defBody s__law_unrelated) (defScope s__law_unrelated) [] [] (He.ga K "_law_unrelated") fd) : FnG P w K mg base 2 (He.ga K "_law_unrelated") fd ["_law_stream_here"] m__law_unrelated := by
  refine fnG_of (k := 1) (N := ["_law_stream_here", "_law_some"]) (b := b__law_unrelated) F sc__law_unrelated fun cdv A outer s H E hr hgd => ?_
  have tk : Takes (cxOf (L2.CX P w) P w K mg base ["_law_stream_here", "_law_some"] "_law_unrelated" (defScope s__law_unrelated) (He.ga K "_law_unrelated") cdv A outer s H E) (WB E) := takes_of rfl rfl rfl rfl
  unfold b__law_unrelated
  exact mss_cons (ms_set 1 sc__law_unrelated.nd (me_lst (ma_cons (me_non) (ma_cons (me_bl) (ma_cons (me_bl) (ma_cons (me_int) (ma_cons (me_int) (ma_cons (me_neg (me_int)) (ma_cons (me_int) (ma_cons (me_str) (ma_cons (me_str) (ma_cons (me_str) (ma_cons (me_tup (ma_nil)) (ma_cons (me_lst (ma_nil)) (ma_cons (me_d0) (ma_cons (me_tup (ma_cons (me_int) (ma_nil))) (ma_cons (me_tup (ma_cons (me_non) (ma_nil))) (ma_cons (me_tup (ma_cons (me_tup (ma_cons (me_int) (ma_cons (me_int) (ma_nil)))) (ma_cons (me_tup (ma_cons (me_int) (ma_cons (me_int) (ma_nil)))) (ma_nil)))) (ma_cons (me_op op_oPow (me_int) (me_int)) (ma_nil)))))))))))))))))))) (mss_one (ms_ret (me_ix (me_var 1) (me_call (ok__law_draw C).loc hr (by decide) hgd tk (ma_cons (me_var 0) (ma_cons (me_int) (ma_nil)))))))
theorem ok__law_unrelated (C : KM K mg) : Cd P w K mg base 2 "_law_unrelated" [] m__law_unrelated := by
  obtain ⟨fd, F⟩ := fd__law_unrelated C
  exact ⟨_, fd, ["_law_stream_here"], [], [], fg__law_unrelated C F, (C.glo 30), F.kp, F.bindsN fun _ _ _ _ _ _ us hl => (match us, hl with | [_], _ => rfl), .nil, fun _ _ => .nil⟩
theorem sc__law_valid_table : FnScope ["_law_value", "_law_here", "_law_row", "_law_there", "_law_cost", "_law_middle"] ["_law_value"] (defScope s__law_valid_table) := ⟨rfl, rfl, rfl, by decide +kernel, rfl, by decide +kernel, by decide +kernel⟩
theorem fd__law_valid_table (C : KM K mg) : ∃ fd, FunD K "_law_valid_table" "_law_valid_table" (defArgs s__law_valid_table) (defBody s__law_valid_table) (defScope s__law_valid_table) [] [] (He.ga K "_law_valid_table") fd := C.says.def_ 11 (d := d__law_valid_table) rfl
theorem fg__law_valid_table (C : KM K mg) {fd : FuncData} (F : FunD K "_law_valid_table" "_law_valid_table" (defArgs s__law_valid_table) (defBody s__law_valid_table) (defScope s__law_valid_table) [] [] (He.ga K "_law_valid_table") fd) : FnG P w K mg base 2 (He.ga K "_law_valid_table") fd ["_law_value"] m__law_valid_table := by
  refine fnG_of (k := 1) (N := ["_law_value", "_law_here", "_law_row", "_law_there", "_law_cost", "_law_middle"]) (b := b__law_valid_table) F sc__law_valid_table fun cdv A outer s H E hr hgd => ?_
  have tk : Takes (cxOf (L2.CX P w) P w K mg base ["_law_value", "_law_here", "_law_row", "_law_there", "_law_cost", "_law_middle"] "_law_valid_table" (defScope s__law_valid_table) (He.ga K "_law_valid_table") cdv A outer s H E) (WB E) := takes_of rfl rfl rfl rfl
  unfold b__law_valid_table
  exact mss_cons (ms_if (mt_w (mw_or (mt_not (mt_val (me_isi (C.free 0) (C.free 9) (by decide +kernel) isi_tuple (me_var 0)))) (mw_or1 (mt_not (mt_chain op_oLe op_oLe (me_int) (me_callB call_oLen (C.free 3) (by decide +kernel) (ma_cons (me_var 0) (ma_nil))) (me_int)))))) (mss_one (ms_ret (me_bl))) (mss_nil)) (mss_cons (ms_for (passes_of rfl) rfl (mi_enum (ma_cons (me_var 0) (ma_nil)) (C.free 12)) (mg_tup rfl (mgs_cons (mg_name 1 sc__law_valid_table.nd) (mgs_cons (mg_name 2 sc__law_valid_table.nd) (mgs_nil))) (gsN_cons (gsN_cons (gsN_nil)))) (mss_cons (ms_if (mt_w (mw_or (mt_not (mt_val (me_isi (C.free 0) (C.free 9) (by decide +kernel) isi_tuple (me_var 2)))) (mw_or1 (mt_cmp (op_oNe2 hr) (me_callB call_oLen (C.free 3) (by decide +kernel) (ma_cons (me_var 2) (ma_nil))) (me_callB call_oLen (C.free 3) (by decide +kernel) (ma_cons (me_var 0) (ma_nil))))))) (mss_one (ms_ret (me_bl))) (mss_nil)) (mss_one (ms_for (passes_of rfl) rfl (mi_enum (ma_cons (me_var 2) (ma_nil)) (C.free 12)) (mg_tup rfl (mgs_cons (mg_name 3 sc__law_valid_table.nd) (mgs_cons (mg_name 4 sc__law_valid_table.nd) (mgs_nil))) (gsN_cons (gsN_cons (gsN_nil)))) (mss_one (ms_if (mt_w (mw_or (mt_not (mt_val (me_call (ok__law_in_range C).loc hr (by decide) hgd tk (ma_cons (me_var 4) (ma_cons (me_int) (ma_cons (me_int) (ma_nil))))))) (mw_or1 (mt_cmp (op_oNe2 hr) (me_cmp (op_oEq2 hr) (me_var 4) (me_int)) (me_cmp (op_oEq2 hr) (me_var 1) (me_var 3)))))) (mss_one (ms_ret (me_bl))) (mss_nil))))))) (mss_cons (ms_for (passes_of rfl) rfl (mi_seq (me_var 0)) (mg_name 2 sc__law_valid_table.nd) (mss_one (ms_for (passes_of rfl) rfl (mi_enum (ma_cons (me_var 2) (ma_nil)) (C.free 12)) (mg_tup rfl (mgs_cons (mg_name 5 sc__law_valid_table.nd) (mgs_cons (mg_name 4 sc__law_valid_table.nd) (mgs_nil))) (gsN_cons (gsN_cons (gsN_nil)))) (mss_one (ms_for (passes_of rfl) rfl (mi_range1 (ma_cons (me_callB call_oLen (C.free 3) (by decide +kernel) (ma_cons (me_var 0) (ma_nil))) (ma_nil)) (C.free 5)) (mg_name 3 sc__law_valid_table.nd) (mss_one (ms_if (mt_cmp op_oGt (me_ix (me_var 2) (me_var 3)) (me_op op_oAdd (me_var 4) (me_ix (me_ix (me_var 0) (me_var 5)) (me_var 3)))) (mss_one (ms_ret (me_bl))) (mss_nil)))))))) (mss_one (ms_ret (me_bl)))))
theorem ok__law_valid_table (C : KM K mg) : Cd P w K mg base 2 "_law_valid_table" [] m__law_valid_table := by
  obtain ⟨fd, F⟩ := fd__law_valid_table C
  exact ⟨_, fd, ["_law_value"], [], [], fg__law_valid_table C F, (C.glo 31), F.kp, F.bindsN fun _ _ _ _ _ _ us hl => (match us, hl with | [_], _ => rfl), .nil, fun _ _ => .nil⟩
theorem sc__law_longer : FnScope ["_law_stream_here", "_law_system_here", "_law_table", "_law_size", "_law_here", "_law_there", "_law_middle", "_law_cost", "_law_row"] ["_law_stream_here", "_law_system_here"] (defScope s__law_longer) := ⟨rfl, rfl, rfl, by decide +kernel, rfl, by decide +kernel, by decide +kernel⟩
theorem fd__law_longer (C : KM K mg) : ∃ fd, FunD K "_law_longer" "_law_longer" (defArgs s__law_longer) (defBody s__law_longer) (defScope s__law_longer) [] [] (He.ga K "_law_longer") fd := C.says.def_ 12 (d := d__law_longer) rfl
theorem fg__law_longer (C : KM K mg) {fd : FuncData} (F : FunD K "_law_longer" "_law_longer" (defArgs s__law_longer) (defBody s__law_longer) (defScope s__law_longer) [] [] (He.ga K "_law_longer") fd) : FnG P w K mg base 2 (He.ga K "_law_longer") fd ["_law_stream_here", "_law_system_here"] m__law_longer := by
  refine fnG_of (k := 1) (N := ["_law_stream_here", "_law_system_here", "_law_table", "_law_size", "_law_here", "_law_there", "_law_middle", "_law_cost", "_law_row"]) (b := b__law_longer) F sc__law_longer fun cdv A outer s H E hr hgd => ?_
  have tk : Takes (cxOf (L2.CX P w) P w K mg base ["_law_stream_here", "_law_system_here", "_law_table", "_law_size", "_law_here", "_law_there", "_law_middle", "_law_cost", "_law_row"] "_law_longer" (defScope s__law_longer) (He.ga K "_law_longer") cdv A outer s H E) (WB E) := takes_of rfl rfl rfl rfl
  unfold b__law_longer
  exact mss_cons (ms_par 2 3 rfl sc__law_longer.nd (ma_cons (me_ix (me_var 1) (me_int)) (ma_cons (me_callB call_oLen (C.free 3) (by decide +kernel) (ma_cons (me_ix (me_var 1) (me_int)) (ma_nil))) (ma_nil)))) (mss_cons (ms_par 4 5 rfl sc__law_longer.nd (ma_cons (me_call (ok__law_draw C).loc hr (by decide) hgd tk (ma_cons (me_var 0) (ma_cons (me_var 3) (ma_nil)))) (ma_cons (me_call (ok__law_draw C).loc hr (by decide) hgd tk (ma_cons (me_var 0) (ma_cons (me_var 3) (ma_nil)))) (ma_nil)))) (mss_cons (ms_set 6 sc__law_longer.nd (me_call (ok__law_draw C).loc hr (by decide) hgd tk (ma_cons (me_var 0) (ma_cons (me_var 3) (ma_nil))))) (mss_cons (ms_set 7 sc__law_longer.nd (me_op op_oAdd (me_ix (me_ix (me_var 2) (me_var 4)) (me_var 6)) (me_ix (me_ix (me_var 2) (me_var 6)) (me_var 5)))) (mss_cons (ms_set 7 sc__law_longer.nd (me_op op_oAdd (me_var 7) (me_call (ok__law_draw C).loc hr (by decide) hgd tk (ma_cons (me_var 0) (ma_cons (me_int) (ma_nil)))))) (mss_cons (ms_set 8 sc__law_longer.nd (me_op op_oAdd (me_op op_oAdd (me_sl (me_ix (me_var 2) (me_var 4)) (mo_none) (mo_some (me_var 5))) (me_tup (ma_cons (me_var 7) (ma_nil)))) (me_sl (me_ix (me_var 2) (me_var 4)) (mo_some (me_op op_oAdd (me_var 5) (me_int))) (mo_none)))) (mss_one (ms_ret (me_op op_oAdd (me_tup (ma_cons (me_op op_oAdd (me_op op_oAdd (me_sl (me_var 2) (mo_none) (mo_some (me_var 4))) (me_tup (ma_cons (me_var 8) (ma_nil)))) (me_sl (me_var 2) (mo_some (me_op op_oAdd (me_var 4) (me_int))) (mo_none))) (ma_nil))) (me_sl (me_var 1) (mo_some (me_int)) (mo_none))))))))))
theorem ok__law_longer (C : KM K mg) : Cd P w K mg base 2 "_law_longer" [] m__law_longer := by
  obtain ⟨fd, F⟩ := fd__law_longer C
  exact ⟨_, fd, ["_law_stream_here", "_law_system_here"], [], [], fg__law_longer C F, (C.glo 32), F.kp, F.bindsN fun _ _ _ _ _ _ us hl => (match us, hl with | [_, _], _ => rfl), .nil, fun _ _ => .nil⟩
theorem sc_is_system : FnScope ["value", "switching", "requests", "start", "row"] ["value"] (defScope s_is_system) := ⟨rfl, rfl, rfl, by decide +kernel, rfl, by decide +kernel, by decide +kernel⟩
theorem fd_is_system (C : KM K mg) : ∃ fd, FunD K "is_system" "is_system" (defArgs s_is_system) (defBody s_is_system) (defScope s_is_system) [] [] (He.ga K "is_system") fd := C.says.def_ 13 (d := d_is_system) rfl
theorem fg_is_system (C : KM K mg) {fd : FuncData} (F : FunD K "is_system" "is_system" (defArgs s_is_system) (defBody s_is_system) (defScope s_is_system) [] [] (He.ga K "is_system") fd) : FnG P w K mg base 3 (He.ga K "is_system") fd ["value"] m_is_system := by
  refine fnG_of (k := 2) (N := ["value", "switching", "requests", "start", "row"]) (b := b_is_system) F sc_is_system fun cdv A outer s H E hr hgd => ?_
  have tk : Takes (cxOf (L2.CX P w) P w K mg base ["value", "switching", "requests", "start", "row"] "is_system" (defScope s_is_system) (He.ga K "is_system") cdv A outer s H E) (WB E) := takes_of rfl rfl rfl rfl
  unfold b_is_system
  exact mss_cons (ms_if (mt_w (mw_or (mt_not (mt_val (me_isi (C.free 0) (C.free 9) (by decide +kernel) isi_tuple (me_var 0)))) (mw_or1 (mt_cmp (op_oNe2 hr) (me_callB call_oLen (C.free 3) (by decide +kernel) (ma_cons (me_var 0) (ma_nil))) (me_int))))) (mss_one (ms_ret (me_bl))) (mss_nil)) (mss_cons (ms_asg (me_var 0) (mg_tup rfl (mgs_cons (mg_name 1 sc_is_system.nd) (mgs_cons (mg_name 2 sc_is_system.nd) (mgs_cons (mg_name 3 sc_is_system.nd) (mgs_nil)))) (gsN_cons (gsN_cons (gsN_cons (gsN_nil)))))) (mss_cons (ms_if (mt_w (mw_or (mt_not (mt_val (me_call (ok_is_table C).loc hr (by decide) hgd tk (ma_cons (me_var 1) (ma_nil))))) (mw_or1 (mt_val (me_call (ok_has_shortcuts C).loc hr (by decide) hgd tk (ma_cons (me_var 1) (ma_nil))))))) (mss_one (ms_ret (me_bl))) (mss_nil)) (mss_cons (ms_if (mt_w (mw_or (mt_not (mt_val (me_isi (C.free 0) (C.free 9) (by decide +kernel) isi_tuple (me_var 2)))) (mw_or1 (mt_not (mt_chain op_oLe op_oLe (me_int) (me_callB call_oLen (C.free 3) (by decide +kernel) (ma_cons (me_var 2) (ma_nil))) (me_gint (C.int 17))))))) (mss_one (ms_ret (me_bl))) (mss_nil)) (mss_cons (ms_if (mt_not (mt_val (me_callB (call_oAll rfl) (C.free 15) (by decide +kernel) (ma_cons (me_lc [("row", 4)] rfl sc_is_system.nd (mi_seq (me_var 2)) (blkOk_by (by kernel_rfl)) (fun _ _ _ _ _ => mg_name 4 sc_is_system.nd) (fun _ _ _ _ _ => mts_nil) (fun _ _ _ _ _ => me_call (ok_is_request_row C).loc hr (by decide) hgd takes_WN (ma_cons (me_var 4) (ma_cons (me_callB call_oLen (C.free 3) (by decide +kernel) (ma_cons (me_var 1) (ma_nil))) (ma_nil))))) (ma_nil))))) (mss_one (ms_ret (me_bl))) (mss_nil)) (mss_one (ms_ret (me_call (ok_is_integer C).loc hr (by decide) hgd tk (ma_cons (me_var 3) (ma_cons (me_int) (ma_cons (me_op op_oSub (me_callB call_oLen (C.free 3) (by decide +kernel) (ma_cons (me_var 1) (ma_nil))) (me_int)) (ma_nil)))))))))))
theorem ok_is_system (C : KM K mg) : Cd P w K mg base 3 "is_system" [] m_is_system := by
  obtain ⟨fd, F⟩ := fd_is_system C
  exact ⟨_, fd, ["value"], [], [], fg_is_system C F, (C.glo 33), F.kp, F.bindsN fun _ _ _ _ _ _ us hl => (match us, hl with | [_], _ => rfl), .nil, fun _ _ => .nil⟩
theorem sc__law_system : FnScope ["_law_stream_here", "_law_size", "_law_total", "_law_requests", "_law_turn"] ["_law_stream_here", "_law_size", "_law_total"] (defScope s__law_system) := ⟨rfl, rfl, rfl, by decide +kernel, rfl, by decide +kernel, by decide +kernel⟩
theorem fd__law_system (C : KM K mg) : ∃ fd, FunD K "_law_system" "_law_system" (defArgs s__law_system) (defBody s__law_system) (defScope s__law_system) [] [] (He.ga K "_law_system") fd := C.says.def_ 14 (d := d__law_system) rfl
theorem fg__law_system (C : KM K mg) {fd : FuncData} (F : FunD K "_law_system" "_law_system" (defArgs s__law_system) (defBody s__law_system) (defScope s__law_system) [] [] (He.ga K "_law_system") fd) : FnG P w K mg base 3 (He.ga K "_law_system") fd ["_law_stream_here", "_law_size", "_law_total"] m__law_system := by
  refine fnG_of (k := 2) (N := ["_law_stream_here", "_law_size", "_law_total", "_law_requests", "_law_turn"]) (b := b__law_system) F sc__law_system fun cdv A outer s H E hr hgd => ?_
  have tk : Takes (cxOf (L2.CX P w) P w K mg base ["_law_stream_here", "_law_size", "_law_total", "_law_requests", "_law_turn"] "_law_system" (defScope s__law_system) (He.ga K "_law_system") cdv A outer s H E) (WB E) := takes_of rfl rfl rfl rfl
  unfold b__law_system
  exact mss_cons (ms_setLc (i := 3) [("_law_turn", 4)] rfl sc__law_system.nd rfl rfl (sw_true rfl rfl rfl rfl) (mi_range1 (ma_cons (me_var 2) (ma_nil)) (C.free 5)) (blkOk_by (by kernel_rfl)) (fun _ _ _ _ _ => mg_name 4 sc__law_system.nd) (fun _ _ _ _ _ => mts_nil) (fun _ _ _ _ _ => me_call (ok__law_request C).loc hr (by decide) hgd takes_WN (ma_cons (me_var 0) (ma_cons (me_var 1) (ma_nil))))) (mss_one (ms_ret (me_tup (ma_cons (me_call (ok__law_switching C).loc hr (by decide) hgd tk (ma_cons (me_var 0) (ma_cons (me_var 1) (ma_nil)))) (ma_cons (me_callT call_oTuple (C.free 9) (by decide +kernel) (ma_cons (me_var 3) (ma_nil))) (ma_cons (me_call (ok__law_draw C).loc hr (by decide) hgd tk (ma_cons (me_var 0) (ma_cons (me_var 1) (ma_nil)))) (ma_nil)))))))
theorem ok__law_system (C : KM K mg) : Cd P w K mg base 3 "_law_system" [] m__law_system := by
  obtain ⟨fd, F⟩ := fd__law_system C
  exact ⟨_, fd, ["_law_stream_here", "_law_size", "_law_total"], [], [], fg__law_system C F, (C.glo 34), F.kp, F.bindsN fun _ _ _ _ _ _ us hl => (match us, hl with | [_, _, _], _ => rfl), .nil, fun _ _ => .nil⟩
theorem sc__law_valid_system : FnScope ["_law_value", "_law_row", "_law_costs", "_law_cost"] ["_law_value"] (defScope s__law_valid_system) := ⟨rfl, rfl, rfl, by decide +kernel, rfl, by decide +kernel, by decide +kernel⟩
theorem fd__law_valid_system (C : KM K mg) : ∃ fd, FunD K "_law_valid_system" "_law_valid_system" (defArgs s__law_valid_system) (defBody s__law_valid_system) (defScope s__law_valid_system) [] [] (He.ga K "_law_valid_system") fd := C.says.def_ 15 (d := d__law_valid_system) rfl
theorem fg__law_valid_system (C : KM K mg) {fd : FuncData} (F : FunD K "_law_valid_system" "_law_valid_system" (defArgs s__law_valid_system) (defBody s__law_valid_system) (defScope s__law_valid_system) [] [] (He.ga K "_law_valid_system") fd) : FnG P w K mg base 3 (He.ga K "_law_valid_system") fd ["_law_value"] m__law_valid_system := by
  refine fnG_of (k := 2) (N := ["_law_value", "_law_row", "_law_costs", "_law_cost"]) (b := b__law_valid_system) F sc__law_valid_system fun cdv A outer s H E hr hgd => ?_
  have tk : Takes (cxOf (L2.CX P w) P w K mg base ["_law_value", "_law_row", "_law_costs", "_law_cost"] "_law_valid_system" (defScope s__law_valid_system) (He.ga K "_law_valid_system") cdv A outer s H E) (WB E) := takes_of rfl rfl rfl rfl
  unfold b__law_valid_system
  exact mss_cons (ms_if (mt_w (mw_or (mt_not (mt_val (me_isi (C.free 0) (C.free 9) (by decide +kernel) isi_tuple (me_var 0)))) (mw_or (mt_cmp (op_oNe2 hr) (me_callB call_oLen (C.free 3) (by decide +kernel) (ma_cons (me_var 0) (ma_nil))) (me_int)) (mw_or1 (mt_not (mt_val (me_call (ok__law_valid_table C).loc hr (by decide) hgd tk (ma_cons (me_ix (me_var 0) (me_int)) (ma_nil))))))))) (mss_one (ms_ret (me_bl))) (mss_nil)) (mss_cons (ms_if (mt_w (mw_or (mt_not (mt_val (me_isi (C.free 0) (C.free 9) (by decide +kernel) isi_tuple (me_ix (me_var 0) (me_int))))) (mw_or1 (mt_not (mt_chain op_oLe op_oLe (me_int) (me_callB call_oLen (C.free 3) (by decide +kernel) (ma_cons (me_ix (me_var 0) (me_int)) (ma_nil))) (me_int)))))) (mss_one (ms_ret (me_bl))) (mss_nil)) (mss_cons (ms_for (passes_of rfl) rfl (mi_seq (me_ix (me_var 0) (me_int))) (mg_name 1 sc__law_valid_system.nd) (mss_cons (ms_if (mt_w (mw_or (mt_not (mt_val (me_isi (C.free 0) (C.free 9) (by decide +kernel) isi_tuple (me_var 1)))) (mw_or1 (mt_cmp (op_oNe2 hr) (me_callB call_oLen (C.free 3) (by decide +kernel) (ma_cons (me_var 1) (ma_nil))) (me_callB call_oLen (C.free 3) (by decide +kernel) (ma_cons (me_ix (me_var 0) (me_int)) (ma_nil))))))) (mss_one (ms_ret (me_bl))) (mss_nil)) (mss_cons (ms_setLc (i := 2) [("_law_cost", 3)] rfl sc__law_valid_system.nd rfl rfl (sw_true rfl rfl rfl rfl) (mi_seq (me_var 1)) (blkOk_by (by kernel_rfl)) (fun _ _ _ _ _ => mg_name 3 sc__law_valid_system.nd) (fun _ _ _ _ _ => mts_one (mt_cmp op_oIsNot (me_var 3) (me_non))) (fun _ _ _ _ _ => me_var 3)) (mss_cons (ms_if (mt_cmp (op_oEqZ hr) (me_var 2) (me_lst (ma_nil))) (mss_one (ms_ret (me_bl))) (mss_nil)) (mss_one (ms_if (mt_cmp (op_oNeZ hr) (me_lc [("_law_cost", 3)] rfl sc__law_valid_system.nd (mi_seq (me_var 2)) (blkOk_by (by kernel_rfl)) (fun _ _ _ _ _ => mg_name 3 sc__law_valid_system.nd) (fun _ _ _ _ _ => mts_one (mt_not (mt_val (me_call (ok__law_in_range C).loc hr (by decide) hgd takes_WN (ma_cons (me_var 3) (ma_cons (me_int) (ma_cons (me_int) (ma_nil)))))))) (fun _ _ _ _ _ => me_var 3)) (me_lst (ma_nil))) (mss_one (ms_ret (me_bl))) (mss_nil))))))) (mss_one (ms_ret (me_call (ok__law_in_range C).loc hr (by decide) hgd tk (ma_cons (me_ix (me_var 0) (me_int)) (ma_cons (me_int) (ma_cons (me_op op_oSub (me_callB call_oLen (C.free 3) (by decide +kernel) (ma_cons (me_ix (me_var 0) (me_int)) (ma_nil))) (me_int)) (ma_nil)))))))))
theorem ok__law_valid_system (C : KM K mg) : Cd P w K mg base 3 "_law_valid_system" [] m__law_valid_system := by
  obtain ⟨fd, F⟩ := fd__law_valid_system C
  exact ⟨_, fd, ["_law_value"], [], [], fg__law_valid_system C F, (C.glo 35), F.kp, F.bindsN fun _ _ _ _ _ _ us hl => (match us, hl with | [_], _ => rfl), .nil, fun _ _ => .nil⟩
theorem sc__law_agrees : FnScope ["_law_value", "_law_kept", "_law_due"] ["_law_value"] (defScope s__law_agrees) := ⟨rfl, rfl, rfl, by decide +kernel, rfl, by decide +kernel, by decide +kernel⟩
theorem fd__law_agrees (C : KM K mg) : ∃ fd, FunD K "_law_agrees" "_law_agrees" (defArgs s__law_agrees) (defBody s__law_agrees) (defScope s__law_agrees) [] [] (He.ga K "_law_agrees") fd := C.says.def_ 16 (d := d__law_agrees) rfl
theorem fg__law_agrees (C : KM K mg) {fd : FuncData} (F : FunD K "_law_agrees" "_law_agrees" (defArgs s__law_agrees) (defBody s__law_agrees) (defScope s__law_agrees) [] [] (He.ga K "_law_agrees") fd) : FnG P w K mg base 4 (He.ga K "_law_agrees") fd ["_law_value"] m__law_agrees := by
  refine fnG_of (k := 3) (N := ["_law_value", "_law_kept", "_law_due"]) (b := b__law_agrees) F sc__law_agrees fun cdv A outer s H E hr hgd => ?_
  have tk : Takes (cxOf (L2.CX P w) P w K mg base ["_law_value", "_law_kept", "_law_due"] "_law_agrees" (defScope s__law_agrees) (He.ga K "_law_agrees") cdv A outer s H E) (WB E) := takes_of rfl rfl rfl rfl
  unfold b__law_agrees
  exact mss_cons (ms_par 1 2 rfl sc__law_agrees.nd (ma_cons (me_callB (call_oReprN hr hgd) (C.free 18) (by decide +kernel) (ma_cons (me_var 0) (ma_nil))) (ma_cons (me_call (ok__law_valid_system C).loc hr (by decide) hgd tk (ma_cons (me_var 0) (ma_nil))) (ma_nil)))) (mss_one (ms_ret (me_and (me_cmp (op_oEq2 hr) (me_callB (call_oReprN hr hgd) (C.free 18) (by decide +kernel) (ma_cons (me_lst (ma_cons (me_call (ok_is_system C).loc hr (by decide) hgd tk (ma_cons (me_var 0) (ma_nil))) (ma_cons (me_call (ok_is_system C).loc hr (by decide) hgd tk (ma_cons (me_var 0) (ma_nil))) (ma_nil)))) (ma_nil))) (me_callB (call_oReprN hr hgd) (C.free 18) (by decide +kernel) (ma_cons (me_lst (ma_cons (me_var 2) (ma_cons (me_var 2) (ma_nil)))) (ma_nil)))) (me_one (me_cmp (op_oEq2 hr) (me_callB (call_oReprN hr hgd) (C.free 18) (by decide +kernel) (ma_cons (me_var 0) (ma_nil))) (me_var 1))))))
theorem ok__law_agrees (C : KM K mg) : Cd P w K mg base 4 "_law_agrees" [] m__law_agrees := by
  obtain ⟨fd, F⟩ := fd__law_agrees C
  exact ⟨_, fd, ["_law_value"], [], [], fg__law_agrees C F, (C.glo 36), F.kp, F.bindsN fun _ _ _ _ _ _ us hl => (match us, hl with | [_], _ => rfl), .nil, fun _ _ => .nil⟩
theorem sc__law_bounds_right : FnScope ["_law_good", "_law_bad", "_law_two", "_law_results", "_law_value"] [] (defScope s__law_bounds_right) := ⟨rfl, rfl, rfl, by decide +kernel, rfl, by decide +kernel, by decide +kernel⟩
theorem fd__law_bounds_right (C : KM K mg) : ∃ fd, FunD K "_law_bounds_right" "_law_bounds_right" (defArgs s__law_bounds_right) (defBody s__law_bounds_right) (defScope s__law_bounds_right) [] [] (He.ga K "_law_bounds_right") fd := C.says.def_ 17 (d := d__law_bounds_right) rfl
theorem fg__law_bounds_right (C : KM K mg) {fd : FuncData} (F : FunD K "_law_bounds_right" "_law_bounds_right" (defArgs s__law_bounds_right) (defBody s__law_bounds_right) (defScope s__law_bounds_right) [] [] (He.ga K "_law_bounds_right") fd) : FnG P w K mg base 4 (He.ga K "_law_bounds_right") fd [] m__law_bounds_right := by
  refine fnG_of (k := 3) (N := ["_law_good", "_law_bad", "_law_two", "_law_results", "_law_value"]) (b := b__law_bounds_right) F sc__law_bounds_right fun cdv A outer s H E hr hgd => ?_
  have tk : Takes (cxOf (L2.CX P w) P w K mg base ["_law_good", "_law_bad", "_law_two", "_law_results", "_law_value"] "_law_bounds_right" (defScope s__law_bounds_right) (He.ga K "_law_bounds_right") cdv A outer s H E) (WB E) := takes_of rfl rfl rfl rfl
  unfold b__law_bounds_right
  exact mss_cons (ms_set 0 sc__law_bounds_right.nd (me_lst (ma_cons (me_call (ok__law_flat C).loc hr (by decide) hgd tk (ma_cons (me_int) (ma_cons (me_int) (ma_cons (me_int) (ma_nil))))) (ma_cons (me_call (ok__law_flat C).loc hr (by decide) hgd tk (ma_cons (me_int) (ma_cons (me_int) (ma_cons (me_int) (ma_nil))))) (ma_cons (me_call (ok__law_flat C).loc hr (by decide) hgd tk (ma_cons (me_int) (ma_cons (me_int) (ma_cons (me_int) (ma_nil))))) (ma_nil)))))) (mss_cons (ms_set 1 sc__law_bounds_right.nd (me_lst (ma_cons (me_call (ok__law_flat C).loc hr (by decide) hgd tk (ma_cons (me_int) (ma_cons (me_int) (ma_cons (me_int) (ma_nil))))) (ma_cons (me_call (ok__law_flat C).loc hr (by decide) hgd tk (ma_cons (me_int) (ma_cons (me_int) (ma_cons (me_int) (ma_nil))))) (ma_cons (me_call (ok__law_flat C).loc hr (by decide) hgd tk (ma_cons (me_int) (ma_cons (me_int) (ma_cons (me_int) (ma_nil))))) (ma_nil)))))) (mss_cons (ms_set 1 sc__law_bounds_right.nd (me_op op_oAdd (me_var 1) (me_lst (ma_cons (me_call (ok__law_flat C).loc hr (by decide) hgd tk (ma_cons (me_int) (ma_cons (me_int) (ma_cons (me_int) (ma_nil))))) (ma_cons (me_call (ok__law_flat C).loc hr (by decide) hgd tk (ma_cons (me_int) (ma_cons (me_int) (ma_cons (me_int) (ma_nil))))) (ma_nil)))))) (mss_cons (ms_set 2 sc__law_bounds_right.nd (me_call (ok__law_flat C).loc hr (by decide) hgd tk (ma_cons (me_int) (ma_cons (me_int) (ma_cons (me_int) (ma_nil)))))) (mss_cons (ms_set 0 sc__law_bounds_right.nd (me_op op_oAdd (me_var 0) (me_lst (ma_cons (me_tup (ma_cons (me_ix (me_var 2) (me_int)) (ma_cons (me_tup (ma_cons (me_tup (ma_cons (me_int) (ma_cons (me_non) (ma_nil)))) (ma_nil))) (ma_cons (me_int) (ma_nil))))) (ma_cons (me_tup (ma_cons (me_ix (me_var 2) (me_int)) (ma_cons (me_tup (ma_cons (me_tup (ma_cons (me_non) (ma_cons (me_int) (ma_nil)))) (ma_nil))) (ma_cons (me_int) (ma_nil))))) (ma_nil)))))) (mss_cons (ms_set 1 sc__law_bounds_right.nd (me_op op_oAdd (me_var 1) (me_lst (ma_cons (me_tup (ma_cons (me_ix (me_var 2) (me_int)) (ma_cons (me_tup (ma_cons (me_tup (ma_cons (me_int) (ma_cons (me_int) (ma_nil)))) (ma_nil))) (ma_cons (me_int) (ma_nil))))) (ma_cons (me_tup (ma_cons (me_ix (me_var 2) (me_int)) (ma_cons (me_tup (ma_cons (me_tup (ma_cons (me_neg (me_int)) (ma_cons (me_int) (ma_nil)))) (ma_nil))) (ma_cons (me_int) (ma_nil))))) (ma_nil)))))) (mss_cons (ms_expr (me_append (me_var 1) (ma_cons (me_tup (ma_cons (me_ix (me_var 2) (me_int)) (ma_cons (me_tup (ma_cons (me_tup (ma_cons (me_non) (ma_cons (me_non) (ma_nil)))) (ma_nil))) (ma_cons (me_int) (ma_nil))))) (ma_nil)))) (mss_cons (ms_set 1 sc__law_bounds_right.nd (me_op op_oAdd (me_var 1) (me_lst (ma_cons (me_tup (ma_cons (me_ix (me_var 2) (me_int)) (ma_cons (me_ix (me_var 2) (me_int)) (ma_cons (me_int) (ma_nil))))) (ma_cons (me_tup (ma_cons (me_ix (me_var 2) (me_int)) (ma_cons (me_ix (me_var 2) (me_int)) (ma_cons (me_neg (me_int)) (ma_nil))))) (ma_cons (me_tup (ma_cons (me_ix (me_var 2) (me_int)) (ma_cons (me_ix (me_var 2) (me_int)) (ma_cons (me_bl) (ma_nil))))) (ma_nil))))))) (mss_cons (ms_expr (me_append (me_var 1) (ma_cons (me_tup (ma_cons (me_tup (ma_cons (me_tup (ma_cons (me_int) (ma_nil))) (ma_nil))) (ma_cons (me_tup (ma_cons (me_tup (ma_cons (me_int) (ma_nil))) (ma_nil))) (ma_cons (me_int) (ma_nil))))) (ma_nil)))) (mss_cons (ms_set 1 sc__law_bounds_right.nd (me_op op_oAdd (me_var 1) (me_lst (ma_cons (me_tup (ma_cons (me_ix (me_var 2) (me_int)) (ma_cons (me_tup (ma_cons (me_tup (ma_cons (me_bl) (ma_cons (me_int) (ma_nil)))) (ma_nil))) (ma_cons (me_int) (ma_nil))))) (ma_cons (me_tup (ma_cons (me_tup (ma_cons (me_tup (ma_cons (me_int) (ma_cons (me_int) (ma_nil)))) (ma_cons (me_tup (ma_cons (me_int) (ma_cons (me_bl) (ma_nil)))) (ma_nil)))) (ma_cons (me_ix (me_var 2) (me_int)) (ma_cons (me_int) (ma_nil))))) (ma_nil)))))) (mss_cons (ms_set 1 sc__law_bounds_right.nd (me_op op_oAdd (me_var 1) (me_lst (ma_cons (me_op op_oAdd (me_var 2) (me_tup (ma_cons (me_int) (ma_nil)))) (ma_cons (me_sl (me_var 2) (mo_none) (mo_some (me_int))) (ma_nil)))))) (mss_cons (ms_expr (me_append (me_var 1) (ma_cons (me_tup (ma_cons (me_tup (ma_cons (me_tup (ma_cons (me_int) (ma_cons (me_int) (ma_cons (me_int) (ma_nil))))) (ma_cons (me_tup (ma_cons (me_int) (ma_cons (me_int) (ma_cons (me_int) (ma_nil))))) (ma_cons (me_tup (ma_cons (me_int) (ma_cons (me_int) (ma_cons (me_int) (ma_nil))))) (ma_nil))))) (ma_cons (me_tup (ma_cons (me_tup (ma_cons (me_int) (ma_cons (me_int) (ma_cons (me_int) (ma_nil))))) (ma_nil))) (ma_cons (me_int) (ma_nil))))) (ma_nil)))) (mss_cons (ms_expr (me_append (me_var 1) (ma_cons (me_tup (ma_cons (me_tup (ma_cons (me_tup (ma_cons (me_int) (ma_cons (me_int) (ma_nil)))) (ma_cons (me_tup (ma_cons (me_int) (ma_cons (me_int) (ma_nil)))) (ma_nil)))) (ma_cons (me_ix (me_var 2) (me_int)) (ma_cons (me_int) (ma_nil))))) (ma_nil)))) (mss_cons (ms_set 1 sc__law_bounds_right.nd (me_op op_oAdd (me_var 1) (me_lst (ma_cons (me_tup (ma_cons (me_tup (ma_cons (me_tup (ma_cons (me_int) (ma_cons (me_bl) (ma_nil)))) (ma_cons (me_tup (ma_cons (me_int) (ma_cons (me_int) (ma_nil)))) (ma_nil)))) (ma_cons (me_tup (ma_cons (me_tup (ma_cons (me_int) (ma_cons (me_int) (ma_nil)))) (ma_nil))) (ma_cons (me_int) (ma_nil))))) (ma_cons (me_tup (ma_cons (me_tup (ma_cons (me_tup (ma_cons (me_int) (ma_cons (me_int) (ma_nil)))) (ma_cons (me_tup (ma_cons (me_int) (ma_cons (me_int) (ma_nil)))) (ma_nil)))) (ma_cons (me_tup (ma_cons (me_tup (ma_cons (me_int) (ma_cons (me_int) (ma_nil)))) (ma_nil))) (ma_cons (me_bl) (ma_nil))))) (ma_nil)))))) (mss_cons (ms_setLc (i := 3) [("_law_value", 4)] rfl sc__law_bounds_right.nd rfl rfl (sw_true rfl rfl rfl rfl) (mi_seq (me_op op_oAdd (me_var 0) (me_var 1))) (blkOk_by (by kernel_rfl)) (fun _ _ _ _ _ => mg_name 4 sc__law_bounds_right.nd) (fun _ _ _ _ _ => mts_nil) (fun _ _ _ _ _ => me_call (ok_is_system C).loc hr (by decide) hgd takes_WN (ma_cons (me_var 4) (ma_nil)))) (mss_one (ms_ret (me_cmp (op_oEq2 hr) (me_callB (call_oReprN hr hgd) (C.free 18) (by decide +kernel) (ma_cons (me_var 3) (ma_nil))) (me_callB (call_oReprN hr hgd) (C.free 18) (by decide +kernel) (ma_cons (me_op op_oAdd (me_op op_oMul2 (me_lst (ma_cons (me_bl) (ma_nil))) (me_callB call_oLen (C.free 3) (by decide +kernel) (ma_cons (me_var 0) (ma_nil)))) (me_op op_oMul2 (me_lst (ma_cons (me_bl) (ma_nil))) (me_callB call_oLen (C.free 3) (by decide +kernel) (ma_cons (me_var 1) (ma_nil))))) (ma_nil))))))))))))))))))))
theorem ok__law_bounds_right (C : KM K mg) : Cd P w K mg base 4 "_law_bounds_right" [] m__law_bounds_right := by
  obtain ⟨fd, F⟩ := fd__law_bounds_right C
  exact ⟨_, fd, [], [], [], fg__law_bounds_right C F, (C.glo 37), F.kp, F.bindsN fun _ _ _ _ _ _ us hl => (match us, hl with | [], _ => rfl), .nil, fun _ _ => .nil⟩
theorem sc__law_damaged : FnScope ["_law_stream_here", "_law_value", "_law_deep", "_law_way", "_law_at", "_law_some", "_law_other"] ["_law_stream_here", "_law_value", "_law_deep"] (defScope s__law_damaged) := ⟨rfl, rfl, rfl, by decide +kernel, rfl, by decide +kernel, by decide +kernel⟩
theorem fd__law_damaged (C : KM K mg) : ∃ fd, FunD K "_law_damaged" "_law_damaged" (defArgs s__law_damaged) (defBody s__law_damaged) (defScope s__law_damaged) [] [] (He.ga K "_law_damaged") fd := C.says.def_ 18 (d := d__law_damaged) rfl
theorem fg__law_damaged_0 (C : KM K mg) {fd : FuncData} (F : FunD K "_law_damaged" "_law_damaged" (defArgs s__law_damaged) (defBody s__law_damaged) (defScope s__law_damaged) [] [] (He.ga K "_law_damaged") fd) : FnG P w K mg base 3 (He.ga K "_law_damaged") fd ["_law_stream_here", "_law_value", "_law_deep"] m__law_damaged_0 := by
  refine fnG_of (k := 2) (N := ["_law_stream_here", "_law_value", "_law_deep", "_law_way", "_law_at", "_law_some", "_law_other"]) (b := b__law_damaged_0) F sc__law_damaged fun cdv A outer s H E hr hgd => ?_
  have tk : Takes (cxOf (L2.CX P w) P w K mg base ["_law_stream_here", "_law_value", "_law_deep", "_law_way", "_law_at", "_law_some", "_law_other"] "_law_damaged" (defScope s__law_damaged) (He.ga K "_law_damaged") cdv A outer s H E) (WB E) := takes_of rfl rfl rfl rfl
  unfold b__law_damaged_0
  exact mss_cons (ms_set 3 sc__law_damaged.nd (me_call (ok__law_draw C).loc hr (by decide) hgd tk (ma_cons (me_var 0) (ma_cons (me_int) (ma_nil))))) (mss_cons (ms_if (mt_w (mw_and (mt_val (me_isi (C.free 0) (C.free 9) (by decide +kernel) isi_tuple (me_var 1))) (mw_and (mt_cmp (op_oNeZ hr) (me_var 1) (me_tup (ma_nil))) (mw_and (mt_cmp op_oGt (me_var 2) (me_int)) (mw_and1 (mt_cmp op_oLt (me_var 3) (me_int))))))) (mss_cons (ms_set 4 sc__law_damaged.nd (me_call (ok__law_draw C).loc hr (by decide) hgd tk (ma_cons (me_var 0) (ma_cons (me_callB call_oLen (C.free 3) (by decide +kernel) (ma_cons (me_var 1) (ma_nil))) (ma_nil))))) (mss_one (ms_never))) (mss_nil)) (mss_cons (ms_if (mt_val (me_isi (C.free 0) (C.free 9) (by decide +kernel) isi_tuple (me_var 1))) (mss_cons (ms_set 4 sc__law_damaged.nd (me_call (ok__law_draw C).loc hr (by decide) hgd tk (ma_cons (me_var 0) (ma_cons (me_op op_oAdd (me_callB call_oLen (C.free 3) (by decide +kernel) (ma_cons (me_var 1) (ma_nil))) (me_int)) (ma_nil))))) (mss_cons (ms_set 5 sc__law_damaged.nd (me_lst (ma_cons (me_callT call_oList (C.free 4) (by decide +kernel) (ma_cons (me_var 1) (ma_nil))) (ma_cons (me_op op_oAdd (me_sl (me_var 1) (mo_none) (mo_some (me_var 4))) (me_sl (me_var 1) (mo_some (me_op op_oAdd (me_var 4) (me_int))) (mo_none))) (ma_cons (me_op op_oAdd (me_op op_oAdd (me_sl (me_var 1) (mo_none) (mo_some (me_var 4))) (me_sl (me_var 1) (mo_some (me_var 4)) (mo_some (me_op op_oAdd (me_var 4) (me_int))))) (me_sl (me_var 1) (mo_some (me_var 4)) (mo_none))) (ma_cons (me_rev (me_var 1)) (ma_nil))))))) (mss_cons (ms_set 6 sc__law_damaged.nd (me_call (ok__law_unrelated C).loc hr (by decide) hgd tk (ma_cons (me_var 0) (ma_nil)))) (mss_one (ms_ret (me_ix (me_op op_oAdd (me_var 5) (me_lst (ma_cons (me_op op_oAdd (me_var 1) (me_tup (ma_cons (me_var 6) (ma_nil)))) (ma_cons (me_op op_oAdd (me_op op_oAdd (me_sl (me_var 1) (mo_none) (mo_some (me_var 4))) (me_tup (ma_cons (me_var 6) (ma_nil)))) (me_sl (me_var 1) (mo_some (me_op op_oAdd (me_var 4) (me_int))) (mo_none))) (ma_nil))))) (me_call (ok__law_draw C).loc hr (by decide) hgd tk (ma_cons (me_var 0) (ma_cons (me_int) (ma_nil)))))))))) (mss_nil)) (mss_cons (ms_if (mt_w (mw_and (mt_val (me_isi (C.free 0) (C.free 1) (by decide +kernel) isi_int (me_var 1))) (mw_and (mt_not (mt_val (me_isi (C.free 0) (C.free 2) (by decide +kernel) isi_bool (me_var 1)))) (mw_and1 (mt_cmp op_oLt (me_var 3) (me_int)))))) (mss_one (ms_ret (me_ix (me_lst (ma_cons (me_op op_oAdd (me_var 1) (me_int)) (ma_cons (me_op op_oSub (me_var 1) (me_int)) (ma_cons (me_non) (ma_cons (me_int) (ma_cons (me_int) (ma_cons (me_int) (ma_nil)))))))) (me_var 3)))) (mss_nil)) (mss_one (ms_ret (me_call (ok__law_unrelated C).loc hr (by decide) hgd tk (ma_cons (me_var 0) (ma_nil))))))))
theorem ok__law_damaged_0 (C : KM K mg) : Cd P w K mg base 3 "_law_damaged" [] m__law_damaged_0 := by
  obtain ⟨fd, F⟩ := fd__law_damaged C
  exact ⟨_, fd, ["_law_stream_here", "_law_value", "_law_deep"], [], [], fg__law_damaged_0 C F, (C.glo 38), F.kp, F.bindsN fun _ _ _ _ _ _ us hl => (match us, hl with | [_, _, _], _ => rfl), .nil, fun _ _ => .nil⟩
theorem fg__law_damaged_1 (C : KM K mg) {fd : FuncData} (F : FunD K "_law_damaged" "_law_damaged" (defArgs s__law_damaged) (defBody s__law_damaged) (defScope s__law_damaged) [] [] (He.ga K "_law_damaged") fd) : FnG P w K mg base 4 (He.ga K "_law_damaged") fd ["_law_stream_here", "_law_value", "_law_deep"] m__law_damaged_1 := by
  refine fnG_of (k := 3) (N := ["_law_stream_here", "_law_value", "_law_deep", "_law_way", "_law_at", "_law_some", "_law_other"]) (b := b__law_damaged_1) F sc__law_damaged fun cdv A outer s H E hr hgd => ?_
  have tk : Takes (cxOf (L2.CX P w) P w K mg base ["_law_stream_here", "_law_value", "_law_deep", "_law_way", "_law_at", "_law_some", "_law_other"] "_law_damaged" (defScope s__law_damaged) (He.ga K "_law_damaged") cdv A outer s H E) (WB E) := takes_of rfl rfl rfl rfl
  unfold b__law_damaged_1
  exact mss_cons (ms_set 3 sc__law_damaged.nd (me_call (ok__law_draw C).loc hr (by decide) hgd tk (ma_cons (me_var 0) (ma_cons (me_int) (ma_nil))))) (mss_cons (ms_if (mt_w (mw_and (mt_val (me_isi (C.free 0) (C.free 9) (by decide +kernel) isi_tuple (me_var 1))) (mw_and (mt_cmp (op_oNeZ hr) (me_var 1) (me_tup (ma_nil))) (mw_and (mt_cmp op_oGt (me_var 2) (me_int)) (mw_and1 (mt_cmp op_oLt (me_var 3) (me_int))))))) (mss_cons (ms_set 4 sc__law_damaged.nd (me_call (ok__law_draw C).loc hr (by decide) hgd tk (ma_cons (me_var 0) (ma_cons (me_callB call_oLen (C.free 3) (by decide +kernel) (ma_cons (me_var 1) (ma_nil))) (ma_nil))))) (mss_one (ms_ret (me_op op_oAdd (me_op op_oAdd (me_sl (me_var 1) (mo_none) (mo_some (me_var 4))) (me_tup (ma_cons (me_call (ok__law_damaged_0 C).loc hr (by decide) hgd tk (ma_cons (me_var 0) (ma_cons (me_ix (me_var 1) (me_var 4)) (ma_cons (me_op op_oSub (me_var 2) (me_int)) (ma_nil))))) (ma_nil)))) (me_sl (me_var 1) (mo_some (me_op op_oAdd (me_var 4) (me_int))) (mo_none)))))) (mss_nil)) (mss_cons (ms_if (mt_val (me_isi (C.free 0) (C.free 9) (by decide +kernel) isi_tuple (me_var 1))) (mss_cons (ms_set 4 sc__law_damaged.nd (me_call (ok__law_draw C).loc hr (by decide) hgd tk (ma_cons (me_var 0) (ma_cons (me_op op_oAdd (me_callB call_oLen (C.free 3) (by decide +kernel) (ma_cons (me_var 1) (ma_nil))) (me_int)) (ma_nil))))) (mss_cons (ms_set 5 sc__law_damaged.nd (me_lst (ma_cons (me_callT call_oList (C.free 4) (by decide +kernel) (ma_cons (me_var 1) (ma_nil))) (ma_cons (me_op op_oAdd (me_sl (me_var 1) (mo_none) (mo_some (me_var 4))) (me_sl (me_var 1) (mo_some (me_op op_oAdd (me_var 4) (me_int))) (mo_none))) (ma_cons (me_op op_oAdd (me_op op_oAdd (me_sl (me_var 1) (mo_none) (mo_some (me_var 4))) (me_sl (me_var 1) (mo_some (me_var 4)) (mo_some (me_op op_oAdd (me_var 4) (me_int))))) (me_sl (me_var 1) (mo_some (me_var 4)) (mo_none))) (ma_cons (me_rev (me_var 1)) (ma_nil))))))) (mss_cons (ms_set 6 sc__law_damaged.nd (me_call (ok__law_unrelated C).loc hr (by decide) hgd tk (ma_cons (me_var 0) (ma_nil)))) (mss_one (ms_ret (me_ix (me_op op_oAdd (me_var 5) (me_lst (ma_cons (me_op op_oAdd (me_var 1) (me_tup (ma_cons (me_var 6) (ma_nil)))) (ma_cons (me_op op_oAdd (me_op op_oAdd (me_sl (me_var 1) (mo_none) (mo_some (me_var 4))) (me_tup (ma_cons (me_var 6) (ma_nil)))) (me_sl (me_var 1) (mo_some (me_op op_oAdd (me_var 4) (me_int))) (mo_none))) (ma_nil))))) (me_call (ok__law_draw C).loc hr (by decide) hgd tk (ma_cons (me_var 0) (ma_cons (me_int) (ma_nil)))))))))) (mss_nil)) (mss_cons (ms_if (mt_w (mw_and (mt_val (me_isi (C.free 0) (C.free 1) (by decide +kernel) isi_int (me_var 1))) (mw_and (mt_not (mt_val (me_isi (C.free 0) (C.free 2) (by decide +kernel) isi_bool (me_var 1)))) (mw_and1 (mt_cmp op_oLt (me_var 3) (me_int)))))) (mss_one (ms_ret (me_ix (me_lst (ma_cons (me_op op_oAdd (me_var 1) (me_int)) (ma_cons (me_op op_oSub (me_var 1) (me_int)) (ma_cons (me_non) (ma_cons (me_int) (ma_cons (me_int) (ma_cons (me_int) (ma_nil)))))))) (me_var 3)))) (mss_nil)) (mss_one (ms_ret (me_call (ok__law_unrelated C).loc hr (by decide) hgd tk (ma_cons (me_var 0) (ma_nil))))))))
theorem ok__law_damaged_1 (C : KM K mg) : Cd P w K mg base 4 "_law_damaged" [] m__law_damaged_1 := by
  obtain ⟨fd, F⟩ := fd__law_damaged C
  exact ⟨_, fd, ["_law_stream_here", "_law_value", "_law_deep"], [], [], fg__law_damaged_1 C F, (C.glo 38), F.kp, F.bindsN fun _ _ _ _ _ _ us hl => (match us, hl with | [_, _, _], _ => rfl), .nil, fun _ _ => .nil⟩
theorem fg__law_damaged_2 (C : KM K mg) {fd : FuncData} (F : FunD K "_law_damaged" "_law_damaged" (defArgs s__law_damaged) (defBody s__law_damaged) (defScope s__law_damaged) [] [] (He.ga K "_law_damaged") fd) : FnG P w K mg base 5 (He.ga K "_law_damaged") fd ["_law_stream_here", "_law_value", "_law_deep"] m__law_damaged_2 := by
  refine fnG_of (k := 4) (N := ["_law_stream_here", "_law_value", "_law_deep", "_law_way", "_law_at", "_law_some", "_law_other"]) (b := b__law_damaged_2) F sc__law_damaged fun cdv A outer s H E hr hgd => ?_
  have tk : Takes (cxOf (L2.CX P w) P w K mg base ["_law_stream_here", "_law_value", "_law_deep", "_law_way", "_law_at", "_law_some", "_law_other"] "_law_damaged" (defScope s__law_damaged) (He.ga K "_law_damaged") cdv A outer s H E) (WB E) := takes_of rfl rfl rfl rfl
  unfold b__law_damaged_2
  exact mss_cons (ms_set 3 sc__law_damaged.nd (me_call (ok__law_draw C).loc hr (by decide) hgd tk (ma_cons (me_var 0) (ma_cons (me_int) (ma_nil))))) (mss_cons (ms_if (mt_w (mw_and (mt_val (me_isi (C.free 0) (C.free 9) (by decide +kernel) isi_tuple (me_var 1))) (mw_and (mt_cmp (op_oNeZ hr) (me_var 1) (me_tup (ma_nil))) (mw_and (mt_cmp op_oGt (me_var 2) (me_int)) (mw_and1 (mt_cmp op_oLt (me_var 3) (me_int))))))) (mss_cons (ms_set 4 sc__law_damaged.nd (me_call (ok__law_draw C).loc hr (by decide) hgd tk (ma_cons (me_var 0) (ma_cons (me_callB call_oLen (C.free 3) (by decide +kernel) (ma_cons (me_var 1) (ma_nil))) (ma_nil))))) (mss_one (ms_ret (me_op op_oAdd (me_op op_oAdd (me_sl (me_var 1) (mo_none) (mo_some (me_var 4))) (me_tup (ma_cons (me_call (ok__law_damaged_1 C).loc hr (by decide) hgd tk (ma_cons (me_var 0) (ma_cons (me_ix (me_var 1) (me_var 4)) (ma_cons (me_op op_oSub (me_var 2) (me_int)) (ma_nil))))) (ma_nil)))) (me_sl (me_var 1) (mo_some (me_op op_oAdd (me_var 4) (me_int))) (mo_none)))))) (mss_nil)) (mss_cons (ms_if (mt_val (me_isi (C.free 0) (C.free 9) (by decide +kernel) isi_tuple (me_var 1))) (mss_cons (ms_set 4 sc__law_damaged.nd (me_call (ok__law_draw C).loc hr (by decide) hgd tk (ma_cons (me_var 0) (ma_cons (me_op op_oAdd (me_callB call_oLen (C.free 3) (by decide +kernel) (ma_cons (me_var 1) (ma_nil))) (me_int)) (ma_nil))))) (mss_cons (ms_set 5 sc__law_damaged.nd (me_lst (ma_cons (me_callT call_oList (C.free 4) (by decide +kernel) (ma_cons (me_var 1) (ma_nil))) (ma_cons (me_op op_oAdd (me_sl (me_var 1) (mo_none) (mo_some (me_var 4))) (me_sl (me_var 1) (mo_some (me_op op_oAdd (me_var 4) (me_int))) (mo_none))) (ma_cons (me_op op_oAdd (me_op op_oAdd (me_sl (me_var 1) (mo_none) (mo_some (me_var 4))) (me_sl (me_var 1) (mo_some (me_var 4)) (mo_some (me_op op_oAdd (me_var 4) (me_int))))) (me_sl (me_var 1) (mo_some (me_var 4)) (mo_none))) (ma_cons (me_rev (me_var 1)) (ma_nil))))))) (mss_cons (ms_set 6 sc__law_damaged.nd (me_call (ok__law_unrelated C).loc hr (by decide) hgd tk (ma_cons (me_var 0) (ma_nil)))) (mss_one (ms_ret (me_ix (me_op op_oAdd (me_var 5) (me_lst (ma_cons (me_op op_oAdd (me_var 1) (me_tup (ma_cons (me_var 6) (ma_nil)))) (ma_cons (me_op op_oAdd (me_op op_oAdd (me_sl (me_var 1) (mo_none) (mo_some (me_var 4))) (me_tup (ma_cons (me_var 6) (ma_nil)))) (me_sl (me_var 1) (mo_some (me_op op_oAdd (me_var 4) (me_int))) (mo_none))) (ma_nil))))) (me_call (ok__law_draw C).loc hr (by decide) hgd tk (ma_cons (me_var 0) (ma_cons (me_int) (ma_nil)))))))))) (mss_nil)) (mss_cons (ms_if (mt_w (mw_and (mt_val (me_isi (C.free 0) (C.free 1) (by decide +kernel) isi_int (me_var 1))) (mw_and (mt_not (mt_val (me_isi (C.free 0) (C.free 2) (by decide +kernel) isi_bool (me_var 1)))) (mw_and1 (mt_cmp op_oLt (me_var 3) (me_int)))))) (mss_one (ms_ret (me_ix (me_lst (ma_cons (me_op op_oAdd (me_var 1) (me_int)) (ma_cons (me_op op_oSub (me_var 1) (me_int)) (ma_cons (me_non) (ma_cons (me_int) (ma_cons (me_int) (ma_cons (me_int) (ma_nil)))))))) (me_var 3)))) (mss_nil)) (mss_one (ms_ret (me_call (ok__law_unrelated C).loc hr (by decide) hgd tk (ma_cons (me_var 0) (ma_nil))))))))
theorem ok__law_damaged_2 (C : KM K mg) : Cd P w K mg base 5 "_law_damaged" [] m__law_damaged_2 := by
  obtain ⟨fd, F⟩ := fd__law_damaged C
  exact ⟨_, fd, ["_law_stream_here", "_law_value", "_law_deep"], [], [], fg__law_damaged_2 C F, (C.glo 38), F.kp, F.bindsN fun _ _ _ _ _ _ us hl => (match us, hl with | [_, _, _], _ => rfl), .nil, fun _ _ => .nil⟩
theorem fg__law_damaged_3 (C : KM K mg) {fd : FuncData} (F : FunD K "_law_damaged" "_law_damaged" (defArgs s__law_damaged) (defBody s__law_damaged) (defScope s__law_damaged) [] [] (He.ga K "_law_damaged") fd) : FnG P w K mg base 6 (He.ga K "_law_damaged") fd ["_law_stream_here", "_law_value", "_law_deep"] m__law_damaged_3 := by
  refine fnG_of (k := 5) (N := ["_law_stream_here", "_law_value", "_law_deep", "_law_way", "_law_at", "_law_some", "_law_other"]) (b := b__law_damaged_3) F sc__law_damaged fun cdv A outer s H E hr hgd => ?_
  have tk : Takes (cxOf (L2.CX P w) P w K mg base ["_law_stream_here", "_law_value", "_law_deep", "_law_way", "_law_at", "_law_some", "_law_other"] "_law_damaged" (defScope s__law_damaged) (He.ga K "_law_damaged") cdv A outer s H E) (WB E) := takes_of rfl rfl rfl rfl
  unfold b__law_damaged_3
  exact mss_cons (ms_set 3 sc__law_damaged.nd (me_call (ok__law_draw C).loc hr (by decide) hgd tk (ma_cons (me_var 0) (ma_cons (me_int) (ma_nil))))) (mss_cons (ms_if (mt_w (mw_and (mt_val (me_isi (C.free 0) (C.free 9) (by decide +kernel) isi_tuple (me_var 1))) (mw_and (mt_cmp (op_oNeZ hr) (me_var 1) (me_tup (ma_nil))) (mw_and (mt_cmp op_oGt (me_var 2) (me_int)) (mw_and1 (mt_cmp op_oLt (me_var 3) (me_int))))))) (mss_cons (ms_set 4 sc__law_damaged.nd (me_call (ok__law_draw C).loc hr (by decide) hgd tk (ma_cons (me_var 0) (ma_cons (me_callB call_oLen (C.free 3) (by decide +kernel) (ma_cons (me_var 1) (ma_nil))) (ma_nil))))) (mss_one (ms_ret (me_op op_oAdd (me_op op_oAdd (me_sl (me_var 1) (mo_none) (mo_some (me_var 4))) (me_tup (ma_cons (me_call (ok__law_damaged_2 C).loc hr (by decide) hgd tk (ma_cons (me_var 0) (ma_cons (me_ix (me_var 1) (me_var 4)) (ma_cons (me_op op_oSub (me_var 2) (me_int)) (ma_nil))))) (ma_nil)))) (me_sl (me_var 1) (mo_some (me_op op_oAdd (me_var 4) (me_int))) (mo_none)))))) (mss_nil)) (mss_cons (ms_if (mt_val (me_isi (C.free 0) (C.free 9) (by decide +kernel) isi_tuple (me_var 1))) (mss_cons (ms_set 4 sc__law_damaged.nd (me_call (ok__law_draw C).loc hr (by decide) hgd tk (ma_cons (me_var 0) (ma_cons (me_op op_oAdd (me_callB call_oLen (C.free 3) (by decide +kernel) (ma_cons (me_var 1) (ma_nil))) (me_int)) (ma_nil))))) (mss_cons (ms_set 5 sc__law_damaged.nd (me_lst (ma_cons (me_callT call_oList (C.free 4) (by decide +kernel) (ma_cons (me_var 1) (ma_nil))) (ma_cons (me_op op_oAdd (me_sl (me_var 1) (mo_none) (mo_some (me_var 4))) (me_sl (me_var 1) (mo_some (me_op op_oAdd (me_var 4) (me_int))) (mo_none))) (ma_cons (me_op op_oAdd (me_op op_oAdd (me_sl (me_var 1) (mo_none) (mo_some (me_var 4))) (me_sl (me_var 1) (mo_some (me_var 4)) (mo_some (me_op op_oAdd (me_var 4) (me_int))))) (me_sl (me_var 1) (mo_some (me_var 4)) (mo_none))) (ma_cons (me_rev (me_var 1)) (ma_nil))))))) (mss_cons (ms_set 6 sc__law_damaged.nd (me_call (ok__law_unrelated C).loc hr (by decide) hgd tk (ma_cons (me_var 0) (ma_nil)))) (mss_one (ms_ret (me_ix (me_op op_oAdd (me_var 5) (me_lst (ma_cons (me_op op_oAdd (me_var 1) (me_tup (ma_cons (me_var 6) (ma_nil)))) (ma_cons (me_op op_oAdd (me_op op_oAdd (me_sl (me_var 1) (mo_none) (mo_some (me_var 4))) (me_tup (ma_cons (me_var 6) (ma_nil)))) (me_sl (me_var 1) (mo_some (me_op op_oAdd (me_var 4) (me_int))) (mo_none))) (ma_nil))))) (me_call (ok__law_draw C).loc hr (by decide) hgd tk (ma_cons (me_var 0) (ma_cons (me_int) (ma_nil)))))))))) (mss_nil)) (mss_cons (ms_if (mt_w (mw_and (mt_val (me_isi (C.free 0) (C.free 1) (by decide +kernel) isi_int (me_var 1))) (mw_and (mt_not (mt_val (me_isi (C.free 0) (C.free 2) (by decide +kernel) isi_bool (me_var 1)))) (mw_and1 (mt_cmp op_oLt (me_var 3) (me_int)))))) (mss_one (ms_ret (me_ix (me_lst (ma_cons (me_op op_oAdd (me_var 1) (me_int)) (ma_cons (me_op op_oSub (me_var 1) (me_int)) (ma_cons (me_non) (ma_cons (me_int) (ma_cons (me_int) (ma_cons (me_int) (ma_nil)))))))) (me_var 3)))) (mss_nil)) (mss_one (ms_ret (me_call (ok__law_unrelated C).loc hr (by decide) hgd tk (ma_cons (me_var 0) (ma_nil))))))))
theorem ok__law_damaged_3 (C : KM K mg) : Cd P w K mg base 6 "_law_damaged" [] m__law_damaged_3 := by
  obtain ⟨fd, F⟩ := fd__law_damaged C
  exact ⟨_, fd, ["_law_stream_here", "_law_value", "_law_deep"], [], [], fg__law_damaged_3 C F, (C.glo 38), F.kp, F.bindsN fun _ _ _ _ _ _ us hl => (match us, hl with | [_, _, _], _ => rfl), .nil, fun _ _ => .nil⟩
theorem sc_law : FnScope ["_law_script", "_law_at", "_law_stream_here", "_law_system_here", "_law_turn", "_law_changed", "_law_value"] ["_law_script"] (defScope s_law) := ⟨rfl, rfl, rfl, by decide +kernel, rfl, by decide +kernel, by decide +kernel⟩
theorem fd_law (C : KM K mg) : ∃ fd, FunD K "law" "law" (defArgs s_law) (defBody s_law) (defScope s_law) [] [] (He.ga K "law") fd := C.says.def_ 19 (d := d_law) rfl
theorem fg_law (C : KM K mg) {fd : FuncData} (F : FunD K "law" "law" (defArgs s_law) (defBody s_law) (defScope s_law) [] [] (He.ga K "law") fd) : FnG P w K mg base 7 (He.ga K "law") fd ["_law_script"] m_law := by
  refine fnG_of (k := 6) (N := ["_law_script", "_law_at", "_law_stream_here", "_law_system_here", "_law_turn", "_law_changed", "_law_value"]) (b := b_law) F sc_law fun cdv A outer s H E hr hgd => ?_
  have tk : Takes (cxOf (L2.CX P w) P w K mg base ["_law_script", "_law_at", "_law_stream_here", "_law_system_here", "_law_turn", "_law_changed", "_law_value"] "law" (defScope s_law) (He.ga K "law") cdv A outer s H E) (WB E) := takes_of rfl rfl rfl rfl
  unfold b_law
  exact mss_cons (ms_if (mt_cmp (op_oNe2 hr) (me_lst (ma_cons (me_gint (C.int 11)) (ma_cons (me_gint (C.int 17)) (ma_cons (me_gint (C.int 14)) (ma_cons (me_gint (C.int 19)) (ma_nil)))))) (me_lst (ma_cons (me_int) (ma_cons (me_int) (ma_cons (me_int) (ma_cons (me_int) (ma_nil))))))) (mss_one (ms_ret (me_bl))) (mss_nil)) (mss_cons (ms_if (mt_not (mt_val (me_call0 (ok__law_bounds_right C).loc hr (by decide) hgd tk))) (mss_one (ms_ret (me_bl))) (mss_nil)) (mss_cons (ms_for (passes_of rfl) rfl (mi_range1 (ma_cons (me_callB (call_oMax2 rfl) (C.free 8) (by decide +kernel) (ma_cons (me_int) (ma_cons (me_callB (call_oMin2 rfl) (C.free 16) (by decide +kernel) (ma_cons (me_int) (ma_cons (me_callB call_oLen (C.free 3) (by decide +kernel) (ma_cons (me_var 0) (ma_nil))) (ma_nil)))) (ma_nil)))) (ma_nil)) (C.free 5)) (mg_name 1 sc_law.nd) (mss_cons (ms_set 2 sc_law.nd (me_call (ok__law_stream C).loc hr (by decide) hgd tk (ma_cons (me_var 0) (ma_cons (me_var 1) (ma_nil))))) (mss_cons (ms_set 3 sc_law.nd (me_call (ok__law_system C).loc hr (by decide) hgd tk (ma_cons (me_var 2) (ma_cons (me_op op_oAdd (me_int) (me_call (ok__law_draw C).loc hr (by decide) hgd tk (ma_cons (me_var 2) (ma_cons (me_int) (ma_nil))))) (ma_cons (me_op op_oAdd (me_int) (me_call (ok__law_draw C).loc hr (by decide) hgd tk (ma_cons (me_var 2) (ma_cons (me_int) (ma_nil))))) (ma_nil)))))) (mss_cons (ms_if (mt_w (mw_or (mt_cmp op_oIsNot (me_call (ok_is_system C).loc hr (by decide) hgd tk (ma_cons (me_var 3) (ma_nil))) (me_bl)) (mw_or1 (mt_not (mt_val (me_call (ok__law_agrees C).loc hr (by decide) hgd tk (ma_cons (me_call (ok__law_unrelated C).loc hr (by decide) hgd tk (ma_cons (me_var 2) (ma_nil))) (ma_nil)))))))) (mss_one (ms_ret (me_bl))) (mss_nil)) (mss_one (ms_for (passes_of rfl) rfl (mi_range1 (ma_cons (me_int) (ma_nil)) (C.free 5)) (mg_name 4 sc_law.nd) (mss_cons (ms_set 5 sc_law.nd (me_call (ok__law_damaged_3 C).loc hr (by decide) hgd tk (ma_cons (me_var 2) (ma_cons (me_var 3) (ma_cons (me_int) (ma_nil)))))) (mss_one (ms_for (passes_of rfl) rfl (mi_seq (me_tup (ma_cons (me_var 5) (ma_cons (me_call (ok__law_damaged_3 C).loc hr (by decide) hgd tk (ma_cons (me_var 2) (ma_cons (me_var 5) (ma_cons (me_int) (ma_nil))))) (ma_cons (me_call (ok__law_longer C).loc hr (by decide) hgd tk (ma_cons (me_var 2) (ma_cons (me_var 3) (ma_nil)))) (ma_nil)))))) (mg_name 6 sc_law.nd) (mss_one (ms_if (mt_not (mt_val (me_call (ok__law_agrees C).loc hr (by decide) hgd tk (ma_cons (me_var 6) (ma_nil))))) (mss_one (ms_ret (me_bl))) (mss_nil)))))))))))) (mss_one (ms_ret (me_bl)))))
theorem ok_law (C : KM K mg) : Cd P w K mg base 7 "law" [] m_law := by
  obtain ⟨fd, F⟩ := fd_law C
  exact ⟨_, fd, ["_law_script"], [], [], fg_law C F, (C.glo 39), F.kp, F.bindsN fun _ _ _ _ _ _ us hl => (match us, hl with | [_], _ => rfl), .nil, fun _ _ => .nil⟩
theorem glo_law (C : KM K mg) : mg "law" = some (.ref (He.ga K "law")) := (C.glo 39)
end
end FL
local macro_rules
| `(tactic| simp! [$xs,*]) => `(tactic| simp -implicitDefEqProofs only [FL.s_var, FL.k_var, FL.s_c, FL.s_op, FL.k_op, FL.k_op1, FL.k_o, FL.s_un, FL.k_un, FL.s_ap, FL.k_ap, FL.s_nil, FL.s_cons, FL.k_cons, FL.k_cons1, FL.s_tB, FL.k_tB, FL.s_and, FL.k_andT, FL.k_andF, FL.s_or, FL.k_orT, FL.k_orF, FL.s_not, FL.k_not, FL.s_eand, FL.k_eandT, FL.k_eandF, FL.s_eor, FL.k_eorT, FL.k_eorF, FL.s_enot, FL.k_enot, FL.s_if, FL.k_ifT, FL.k_ifF, FL.s_isi, FL.i_ii, FL.i_ib, FL.i_it, FL.i_il, FL.i_is, FL.i_bi, FL.i_bb, FL.i_bt, FL.i_ni, FL.i_nb, FL.i_nt, FL.i_ti, FL.i_tb, FL.i_tt, FL.i_si, FL.i_st, FL.s_ch, FL.k_ch, FL.k_ch1, FL.k_ch2T, FL.k_ch2F, FL.s_sl, FL.k_sl, FL.k_sl1, FL.k_sl2, FL.s_lN, FL.s_lS, FL.k_lS, FL.s_seq, FL.k_seqN, FL.k_seqR, FL.k_seqB, FL.k_seqC, FL.k_seqX, FL.s_sN, FL.s_set, FL.k_set, FL.s_sif, FL.k_sifT, FL.k_sifF, FL.s_ret, FL.k_ret, FL.s_exp, FL.k_exp, FL.s_asg, FL.k_asg, FL.k_asg1, FL.s_gNm, FL.s_gTp, FL.s_gNl, FL.s_gCs, FL.k_gCs, FL.s_par, FL.k_par, FL.s_six, FL.k_six, FL.k_six1, FL.k_six2, FL.k_six3, FL.s_aug, FL.k_aug0, FL.k_aug, FL.s_m, FL.k_m, FL.k_m0, FL.k_m1, FL.s_cl, FL.k_cl, FL.s_ck, FL.k_ck, FL.s_it, FL.k_it, FL.k_it2, FL.s_it1, FL.k_it1, FL.s_for, FL.k_for, FL.k_lp, FL.k_lpN, FL.k_lpC, FL.k_lpB, FL.k_lpR, FL.s_lc, FL.k_lc, FL.k_lc1, FL.k_cp, FL.k_cpT, FL.k_cpF, FL.k_cp2, FL.k_cp3, FL.s_yes, FL.k_endN, FL.k_endR, FL.o_add, FL.o_sub, FL.o_mul, FL.o_fdiv, FL.o_mod, FL.o_lt, FL.o_le, FL.o_gt, FL.o_ge, FL.o_eqI, FL.o_neI, FL.o_neR, FL.o_eqR, FL.o_isN1, FL.o_isN2, FL.o_isN3, FL.o_isN4, FL.o_isB1, FL.o_isB2, FL.o_tup, FL.o_lst, FL.o_lenT, FL.o_lenR, FL.o_lenL, FL.k_lenL, FL.o_ixT, FL.o_ixR, FL.o_ixL, FL.k_ixL, FL.k_ix, FL.o_int, FL.o_intB, FL.o_abs, FL.o_max, FL.o_min, FL.o_tupT, FL.o_tupL, FL.k_tupL, FL.o_lstT, FL.o_lstL, FL.k_lstL, FL.o_slT, FL.o_app, FL.k_app, FL.o_isLst, FL.k_isSome, FL.o_cat, FL.o_setAt, FL.k_setAt, FL.k_setAt2, FL.c_T, FL.c_R, FL.c_L, FL.k_srcL, FL.o_all, FL.o_any, FL.o_sum, FL.o_sumTT, FL.k_bdB, FL.k_bdI, FL.k_al, FL.k_an, FL.k_su, FL.s_lpN0, FL.s_lpC0, FL.s_cpN0, FL.s_cpC0, FL.c_r0, FL.c_r1, FL.c_r2, FL.c_r3, FL.c_r4, FL.c_r5, FL.c_r6, FL.c_r7, FL.c_r8, FL.c_r9, FL.c_r10, FL.c_r11, FL.c_r12, FL.s_rev, FL.k_rev, FL.o_revT, FL.s_d0, FL.s_lc2, FL.k_lc2, FL.i_ins, FL.s_fld, FL.k_fld, FL.k_fld1, FL.k_fld2, FL.s_mt, FL.k_mt, FL.k_mt2, FL.s_mk, FL.k_mk, FL.k_mk2, FL.k_mk2X, FL.s_sf, FL.k_sf, FL.k_sf1, FL.s_sfn, FL.k_sfn, FL.k_sfn1, decide_true, decide_false, List.getElem?_cons_zero, List.getElem?_cons_succ, List.set_cons_zero, List.set_cons_succ, Bool.not_true, Bool.not_false, if_true, if_false, Bool.false_eq_true, reduceIte, List.length_cons, List.length_nil, List.map_cons, List.map_nil, List.cons_append, List.nil_append, List.append_nil, $xs,*])
local macro_rules
| `(tactic| simp_all! [$xs,*]) => `(tactic| simp only [FL.s_var, FL.k_var, FL.s_c, FL.s_op, FL.k_op, FL.k_op1, FL.k_o, FL.s_un, FL.k_un, FL.s_ap, FL.k_ap, FL.s_nil, FL.s_cons, FL.k_cons, FL.k_cons1, FL.s_tB, FL.k_tB, FL.s_and, FL.k_andT, FL.k_andF, FL.s_or, FL.k_orT, FL.k_orF, FL.s_not, FL.k_not, FL.s_eand, FL.k_eandT, FL.k_eandF, FL.s_eor, FL.k_eorT, FL.k_eorF, FL.s_enot, FL.k_enot, FL.s_if, FL.k_ifT, FL.k_ifF, FL.s_isi, FL.i_ii, FL.i_ib, FL.i_it, FL.i_il, FL.i_is, FL.i_bi, FL.i_bb, FL.i_bt, FL.i_ni, FL.i_nb, FL.i_nt, FL.i_ti, FL.i_tb, FL.i_tt, FL.i_si, FL.i_st, FL.s_ch, FL.k_ch, FL.k_ch1, FL.k_ch2T, FL.k_ch2F, FL.s_sl, FL.k_sl, FL.k_sl1, FL.k_sl2, FL.s_lN, FL.s_lS, FL.k_lS, FL.s_seq, FL.k_seqN, FL.k_seqR, FL.k_seqB, FL.k_seqC, FL.k_seqX, FL.s_sN, FL.s_set, FL.k_set, FL.s_sif, FL.k_sifT, FL.k_sifF, FL.s_ret, FL.k_ret, FL.s_exp, FL.k_exp, FL.s_asg, FL.k_asg, FL.k_asg1, FL.s_gNm, FL.s_gTp, FL.s_gNl, FL.s_gCs, FL.k_gCs, FL.s_par, FL.k_par, FL.s_six, FL.k_six, FL.k_six1, FL.k_six2, FL.k_six3, FL.s_aug, FL.k_aug0, FL.k_aug, FL.s_m, FL.k_m, FL.k_m0, FL.k_m1, FL.s_cl, FL.k_cl, FL.s_ck, FL.k_ck, FL.s_it, FL.k_it, FL.k_it2, FL.s_it1, FL.k_it1, FL.s_for, FL.k_for, FL.k_lp, FL.k_lpN, FL.k_lpC, FL.k_lpB, FL.k_lpR, FL.s_lc, FL.k_lc, FL.k_lc1, FL.k_cp, FL.k_cpT, FL.k_cpF, FL.k_cp2, FL.k_cp3, FL.s_yes, FL.k_endN, FL.k_endR, FL.o_add, FL.o_sub, FL.o_mul, FL.o_fdiv, FL.o_mod, FL.o_lt, FL.o_le, FL.o_gt, FL.o_ge, FL.o_eqI, FL.o_neI, FL.o_neR, FL.o_eqR, FL.o_isN1, FL.o_isN2, FL.o_isN3, FL.o_isN4, FL.o_isB1, FL.o_isB2, FL.o_tup, FL.o_lst, FL.o_lenT, FL.o_lenR, FL.o_lenL, FL.k_lenL, FL.o_ixT, FL.o_ixR, FL.o_ixL, FL.k_ixL, FL.k_ix, FL.o_int, FL.o_intB, FL.o_abs, FL.o_max, FL.o_min, FL.o_tupT, FL.o_tupL, FL.k_tupL, FL.o_lstT, FL.o_lstL, FL.k_lstL, FL.o_slT, FL.o_app, FL.k_app, FL.o_isLst, FL.k_isSome, FL.o_cat, FL.o_setAt, FL.k_setAt, FL.k_setAt2, FL.c_T, FL.c_R, FL.c_L, FL.k_srcL, FL.o_all, FL.o_any, FL.o_sum, FL.o_sumTT, FL.k_bdB, FL.k_bdI, FL.k_al, FL.k_an, FL.k_su, FL.s_lpN0, FL.s_lpC0, FL.s_cpN0, FL.s_cpC0, FL.c_r0, FL.c_r1, FL.c_r2, FL.c_r3, FL.c_r4, FL.c_r5, FL.c_r6, FL.c_r7, FL.c_r8, FL.c_r9, FL.c_r10, FL.c_r11, FL.c_r12, FL.s_rev, FL.k_rev, FL.o_revT, FL.s_d0, FL.s_lc2, FL.k_lc2, FL.i_ins, FL.s_fld, FL.k_fld, FL.k_fld1, FL.k_fld2, FL.s_mt, FL.k_mt, FL.k_mt2, FL.s_mk, FL.k_mk, FL.k_mk2, FL.k_mk2X, FL.s_sf, FL.k_sf, FL.k_sf1, FL.s_sfn, FL.k_sfn, FL.k_sfn1, decide_true, decide_false, List.getElem?_cons_zero, List.getElem?_cons_succ, List.set_cons_zero, List.set_cons_succ, Bool.not_true, Bool.not_false, if_true, if_false, Bool.false_eq_true, reduceIte, List.length_cons, List.length_nil, List.map_cons, List.map_nil, List.cons_append, List.nil_append, List.append_nil, $xs,*])

set_option linter.all false
set_option maxRecDepth 100000
namespace FL
open PySem PySem.Spec PyProof.Rows L2
theorem is_int {x lo hi : Int} : m_is_integer [.int x, .int lo, .int hi] [] = .ok (.bl (decide (lo ≤ x) && decide (x ≤ hi))) [] := by
  unfold m_is_integer
  rw [s_fn (by rfl)]
  by_cases h1 : lo ≤ x <;> by_cases h2 : x ≤ hi <;>
  (simp_all! [b_is_integer, List.replicate, h1, h2, decide_true, decide_false, Bool.and_true, Bool.and_false, Bool.true_and, Bool.false_and]; rfl)
theorem is_int_l {x lo hi : Int} {h : AH} : callL m_is_integer [.int x, .int lo, .int hi] h = .ok (.bl (decide (lo ≤ x) && decide (x ≤ hi))) h := loc0 is_int rfl rfl
/-- no way over another state is cheaper -/
theorem no_short {sw : List (List Int)} {n : Nat} (T : TabOk sw n) : m_has_shortcuts [tabV sw] [] = .ok (.bl false) [] := by
  have hn10 := T.n10
  unfold m_has_shortcuts
  rw [s_fn (by rfl)]
  unfold b_has_shortcuts
  have e1 : sSet 1 (eLR1 mkL (eAp oLen (aCons (eVar 0) aNil))) [some (tabV sw), none, none, none, none] [] = .nx [some (tabV sw), some (.ref 0), none, none, none] [.lst (intsF 0 n)] := by
    have e2 : oLen [tabV sw] ([] : AH) = some (.int (n : Nat), []) := by
      show some (Va.int ((sw.map tI).length : Nat), ([] : AH)) = _
      rw [List.length_map, T.len]
    have e3 : rgF 0 (n : Nat) ([] : AH) = some (intsF 0 n) := by
      unfold rgF
      have hlim : lim = 1000000 := rfl
      rw [if_pos (by simp [hlim]; omega)]
      simp
    simp_all! [s_set, eLR1, s_ap, s_cons, s_var, s_nil, e2, Rs.bind_ok, e3, mkL]
  have hst : ∀ ev : Ev, gsOk [(0, intsF 0 n)] [AO.lst (intsF 0 n)] = true := fun _ => c_g rfl
  simp only [List.map_cons, List.map_nil, List.replicate, List.cons_append, List.nil_append, s_seq, e1, k_seqN]
  have inner : ∀ (a b : Nat), a < n → b < n → ∀ (x : Option Va) (r : AH), ∃ r',
      sIf (tB (eAp oAny (aCons (eLc (iOf1 (eVar 1) srcOf) (gNm 4) tYesF (eOp oGt (eOp oIx (eOp oIx (eVar 0) (eVar 3)) (eVar 4)) (eOp oAdd (eOp oIx (eOp oIx (eVar 0) (eVar 3)) (eVar 2)) (eOp oIx (eOp oIx (eVar 0) (eVar 2)) (eVar 4)))) [4]) aNil))) (sRet (eC (.bl true))) sNil
        [some (tabV sw), some (.ref 0), some (.int a), some (.int b), x] (.lst (intsF 0 n) :: r) = .nx [some (tabV sw), some (.ref 0), some (.int a), some (.int b), x] (.lst (intsF 0 n) :: r') := by
    intro a b ha hb x r
    have e4 : compF [(0, intsF 0 n)] (gNm 4) tYesF (eOp oGt (eOp oIx (eOp oIx (eVar 0) (eVar 3)) (eVar 4)) (eOp oAdd (eOp oIx (eOp oIx (eVar 0) (eVar 3)) (eVar 2)) (eOp oIx (eOp oIx (eVar 0) (eVar 2)) (eVar 4)))) [some (tabV sw), some (.ref 0), some (.int a), some (.int b), none] (intsF 0 n) (.lst (intsF 0 n) :: r) =
        .ok ((intsF 0 n).map fun _ => Va.bl false) (.lst (intsF 0 n) :: r) := by
      refine comp_map (φ := fun _ => Va.bl false) (e1 := fun v => [some (tabV sw), some (.ref 0), some (.int a), some (.int b), some v]) (c_g rfl) _ fun v hv => ⟨rfl, ?_⟩
      rw [intsF_eq] at hv
      obtain ⟨c, hc, rfl⟩ := List.mem_map.mp hv
      have hc := List.mem_range.mp hc
      have hc0 : ((0 : Int) + (c : Nat)) = (c : Nat) := by omega
      rw [hc0]
      have t := T.tri b a c hb ha hc
      have q1 := T.ix2 (a := 0) (b := 3) (c := 4) (h := AO.lst (intsF 0 n) :: r) (ev := [some (tabV sw), some (.ref 0), some (.int a), some (.int b), some (.int (c : Nat))]) hb hc rfl rfl rfl
      have q2 := T.ix2 (a := 0) (b := 3) (c := 2) (h := AO.lst (intsF 0 n) :: r) (ev := [some (tabV sw), some (.ref 0), some (.int a), some (.int b), some (.int (c : Nat))]) hb ha rfl rfl rfl
      have q3 := T.ix2 (a := 0) (b := 2) (c := 4) (h := AO.lst (intsF 0 n) :: r) (ev := [some (tabV sw), some (.ref 0), some (.int a), some (.int b), some (.int (c : Nat))]) ha hc rfl rfl rfl
      have d : decide (at2 sw b a + at2 sw a c < at2 sw b c) = false := decide_eq_false (by omega)
      rw [s_op, q1, k_op, s_op, q2, k_op, q3, k_op1, o_add, k_o, k_op1, o_gt, k_o, d]
    have e5 : (intsF 0 n).map (fun _ => Va.bl false) = (List.range n).map fun _ => Va.bl ((fun _ => false) ()) := by
      rw [intsF_eq, List.map_map]
      rfl
    have e6 : (List.length (intsF 0 n)) < lim := by
      rw [ints_len]
      have hlim : lim = 1000000 := rfl
      omega
    refine ⟨r ++ [.lst ((intsF 0 n).map fun _ => Va.bl false)], ?_⟩
    have ee : ewipe [some (tabV sw), some (.ref 0), some (.int a), some (.int b), x] [4] = [some (tabV sw), some (.ref 0), some (.int a), some (.int b), none] := rfl
    have e7 := o_anyL (h := (AO.lst (intsF 0 n) :: r) ++ [.lst ((intsF 0 n).map fun _ => Va.bl false)]) (k := (AO.lst (intsF 0 n) :: r).length) (xs := (intsF 0 n).map fun _ => Va.bl false) (bs := (List.range n).map fun _ => false) lstAt_end (by rw [e5]; exact allB_map (φ := fun _ => false) _)
    have e8 : ((List.range n).map fun _ => false).any id = false := by simp
    simp_all! [s_sif, s_tB, s_ap, s_cons, s_lc, s_it1, s_var, lst0]
    rw [k_lc e6, ee, e4]
    simp only [k_lc1, k_cons, k_cons1, s_nil, k_ap, e7, k_o, k_tB, e8, k_sifF, s_sN]
    rfl
  have inner2 : ∀ (a : Nat), a < n → ∀ (y x : Option Va) (r : AH), ∃ y' x' r',
      sFor (iOf1 (eVar 1) srcOf) (gNm 3) (sIf (tB (eAp oAny (aCons (eLc (iOf1 (eVar 1) srcOf) (gNm 4) tYesF (eOp oGt (eOp oIx (eOp oIx (eVar 0) (eVar 3)) (eVar 4)) (eOp oAdd (eOp oIx (eOp oIx (eVar 0) (eVar 3)) (eVar 2)) (eOp oIx (eOp oIx (eVar 0) (eVar 2)) (eVar 4)))) [4]) aNil))) (sRet (eC (.bl true))) sNil)
        [some (tabV sw), some (.ref 0), some (.int a), y, x] (.lst (intsF 0 n) :: r) = .nx [some (tabV sw), some (.ref 0), some (.int a), y', x'] (.lst (intsF 0 n) :: r') := by
    intro a ha y x r
    simp only [s_for, s_it1, s_var, List.getElem?_cons_succ, List.getElem?_cons_zero, k_var, k_it1, c_L, lst0, k_srcL, k_it2, k_for]
    exact loop_inv (Q := fun q => ∃ y' x' r', q = .nx [some (tabV sw), some (.ref 0), some (.int a), y', x'] (.lst (intsF 0 n) :: r'))
      (fun _ ev h => ∃ y' x' r', ev = [some (tabV sw), some (.ref 0), some (.int a), y', x'] ∧ h = .lst (intsF 0 n) :: r') _ 0 _ _ ⟨y, x, r, rfl, rfl⟩ (fun k ev h _ _ ⟨_, _, r, _, e⟩ => by rw [e]; exact c_g rfl)
      (fun k v ev h hk ⟨y, x, r, e1, e2⟩ => by
        rw [ints_get] at hk
        split at hk
        · rename_i hkn
          cases hk
          subst e1 e2
          obtain ⟨r', e3⟩ := inner a k ha hkn x r
          refine ⟨_, rfl, .inl ⟨_, _, ?_, ⟨some (.int (k : Nat)), x, r', rfl, rfl⟩⟩⟩
          rw [← e3]
          simp only [Int.zero_add]
          rfl
        · cases hk)
      (fun ev h ⟨y, x, r, e1, e2⟩ => ⟨y, x, r, by rw [e1, e2]⟩)
  have outer : ∀ (r : AH), ∃ z y' x' r',
      sFor (iOf1 (eVar 1) srcOf) (gNm 2) (sFor (iOf1 (eVar 1) srcOf) (gNm 3) (sIf (tB (eAp oAny (aCons (eLc (iOf1 (eVar 1) srcOf) (gNm 4) tYesF (eOp oGt (eOp oIx (eOp oIx (eVar 0) (eVar 3)) (eVar 4)) (eOp oAdd (eOp oIx (eOp oIx (eVar 0) (eVar 3)) (eVar 2)) (eOp oIx (eOp oIx (eVar 0) (eVar 2)) (eVar 4)))) [4]) aNil))) (sRet (eC (.bl true))) sNil))
        [some (tabV sw), some (.ref 0), none, none, none] (.lst (intsF 0 n) :: r) = .nx [some (tabV sw), some (.ref 0), z, y', x'] (.lst (intsF 0 n) :: r') := by
    intro r
    rw [s_for]
    simp only [s_it1, s_var, List.getElem?_cons_succ, List.getElem?_cons_zero, k_var, k_it1, c_L, lst0, k_srcL, k_it2, k_for]
    exact loop_inv (Q := fun q => ∃ z y' x' r', q = .nx [some (tabV sw), some (.ref 0), z, y', x'] (.lst (intsF 0 n) :: r'))
      (fun _ ev h => ∃ z y' x' r', ev = [some (tabV sw), some (.ref 0), z, y', x'] ∧ h = .lst (intsF 0 n) :: r') _ 0 _ _ ⟨none, none, none, r, rfl, rfl⟩ (fun k ev h _ _ ⟨_, _, _, r, _, e⟩ => by rw [e]; exact c_g rfl)
      (fun k v ev h hk ⟨z, y, x, r, e1, e2⟩ => by
        rw [ints_get] at hk
        split at hk
        · rename_i hkn
          cases hk
          subst e1 e2
          obtain ⟨y', x', r', e3⟩ := inner2 k hkn y x r
          refine ⟨_, rfl, .inl ⟨_, _, ?_, ⟨some (.int (k : Nat)), y', x', r', rfl, rfl⟩⟩⟩
          rw [← e3]
          simp only [Int.zero_add]
          rfl
        · cases hk)
      (fun ev h ⟨z, y, x, r, e1, e2⟩ => ⟨z, y, x, r, by rw [e1, e2]⟩)
  obtain ⟨z, y, x, r, e9⟩ := outer []
  rw [e9, k_seqN]
  rfl
end FL

set_option linter.all false
set_option maxRecDepth 100000
namespace FL
open PySem PySem.Spec PyProof.Rows L2
def low (i j : Nat) : Int := if i = j then 0 else 1
theorem table_row {sw : List (List Int)} {n : Nat} (T : TabOk sw n) {i : Nat} (hi : i < n) {r : List Int} (hr : sw[i]? = some r) (l t c w : Option Va) (h : AH) : ∃ h',
    (sSeq (sIf (tOr (tNot (tB (eIsi "tuple" (eVar 2)))) (tB (eOp oNe2 (eAp oLen (aCons (eVar 2) (aNil))) (eAp oLen (aCons (eVar 0) (aNil)))))) (sRet (eC (.bl false))) (sNil)) (sSeq (sSet 3 (eLc (iOf (aCons (eAp oLen (aCons (eVar 0) (aNil))) (aNil)) srcR) (gNm 4) (tYesF) (eAp oInt (aCons (eOp oNe2 (eVar 1) (eVar 4)) (aNil))) [4])) (sIf (tNot (tB (eAp oAll (aCons (eLc (iOf (aCons (eVar 2) (aCons (eVar 3) (aNil))) (srcZ true)) (gTp (gCs (gNm 5) (gCs (gNm 6) (gNl)))) (tYesF) (eCall [] (callL m_is_integer) (aCons (eVar 5) (aCons (eVar 6) (aCons (eOp oMul2 (eC (.int 1000)) (eVar 6)) (aNil))))) [5, 6]) (aNil))))) (sRet (eC (.bl false))) (sNil)))) 
      [some (tabV sw), some (.int i), some (tI r), l, t, c, w] h = .nx [some (tabV sw), some (.int i), some (tI r), some (.ref h.length), t, c, w] h' := by
  have hn10 := T.n10
  obtain ⟨r', hr1, hr2, hr3⟩ := T.get hi
  rw [hr] at hr1
  cases hr1
  have e2 : ∀ h : AH, oLen [tabV sw] h = some (.int (n : Nat), h) := fun h => by
    show some (Va.int ((sw.map tI).length : Nat), h) = _
    rw [List.length_map, T.len]
  have e3 : ∀ h : AH, oLen [tI r] h = some (.int (n : Nat), h) := fun h => by
    show some (Va.int ((r.map Va.int).length : Nat), h) = _
    rw [List.length_map, hr2]
  have e4 : ∀ (h : AH), compF [] (gNm 4) tYesF (eAp oInt (aCons (eOp oNe2 (eVar 1) (eVar 4)) aNil)) [some (tabV sw), some (.int i), some (tI r), l, none, c, w] (intsF 0 n) h = .ok ((List.range n).map fun j => .int (low i j)) h := by
    intro h
    have q := comp_map (gf := gNm 4) (f := eAp oInt (aCons (eOp oNe2 (eVar 1) (eVar 4)) aNil)) (ev := [some (tabV sw), some (.int i), some (tI r), l, none, c, w]) (gsl := []) (h := h) (φ := fun v => match v with | .int j => .int (if (i : Int) = j then 0 else 1) | _ => .non) (e1 := fun v => [some (tabV sw), some (.int i), some (tI r), l, some v, c, w]) rfl (intsF 0 n) (fun v hv => ⟨rfl, by
      rw [intsF_eq] at hv
      obtain ⟨j, hj, rfl⟩ := List.mem_map.mp hv
      simp only [s_ap, s_cons, s_op, s_var, List.getElem?_cons_succ, List.getElem?_cons_zero, k_var, k_op, k_op1, o_neI, k_o, k_cons, s_nil, k_cons1, k_ap, o_intB]
      by_cases e : (i : Int) = 0 + (j : Nat) <;> simp [e]⟩)
    rw [q, intsF_eq, List.map_map]
    congr 1
    apply List.map_congr_left
    intro j hj
    simp only [Function.comp, low]
    congr 1
    by_cases e : i = j
    · subst e; simp
    · rw [if_neg e, if_neg (by omega)]
  have ez : zipF (r.map Va.int) ((List.range n).map fun j => .int (low i j)) = (List.range n).map fun j => .tup [.int (at2 sw i j), .int (low i j)] := by
    refine by_places (by rw [zipF_len]; simp [hr2]) fun j hj => ?_
    rw [zipF_at, List.getElem?_map, hr3 j hj, range_at hj]
    rfl
  have e5 : ∀ (k : Nat) (h : AH), lstAt h k = some ((List.range n).map fun j => .int (low i j)) → compF [(k, (List.range n).map fun j => .int (low i j))] (gTp (gCs (gNm 5) (gCs (gNm 6) (gNl)))) tYesF (eCall [] (callL m_is_integer) (aCons (eVar 5) (aCons (eVar 6) (aCons (eOp oMul2 (eC (.int 1000)) (eVar 6)) (aNil))))) [some (tabV sw), some (.int i), some (tI r), some (.ref k), t, none, none]
      ((List.range n).map fun j => .tup [.int (at2 sw i j), .int (low i j)]) h = .ok (((List.range n).map fun j => Va.tup [.int (at2 sw i j), .int (low i j)]).map fun _ => .bl true) h := by
    intro k h hk
    refine comp_map (φ := fun _ => .bl true) (e1 := fun v => match v with | .tup [a, b] => [some (tabV sw), some (.int i), some (tI r), some (.ref k), t, some a, some b] | _ => []) (c_g hk) _ fun v hv => ?_
    obtain ⟨j, hj, rfl⟩ := List.mem_map.mp hv
    have hj := List.mem_range.mp hj
    refine ⟨rfl, ?_⟩
    have b : 0 ≤ low i j ∧ low i j ≤ 1 := by unfold low; split <;> omega
    have g : decide (low i j ≤ at2 sw i j) = true ∧ decide (at2 sw i j ≤ 1000 * low i j) = true := by
      unfold low
      by_cases e : i = j
      · subst e
        have := T.diag i hi
        simp [this]
      · have := T.off i j hi hj e
        simp [e]
        omega
    simp (disch := first | assumption | exact okI_lt (by omega) (by omega) | omega) only [s_cl, s_cons, s_op, s_var, s_c, List.getElem?_cons_succ, List.getElem?_cons_zero, k_var, k_op, k_op1, o_mul, k_o, k_cons, s_nil, k_cons1, k_cl, List.append_nil, is_int_l, g.1, g.2, Bool.and_self]
  have hlim : lim = 1000000 := rfl
  have e6 : (intsF 0 n).length < lim := by rw [ints_len]; omega
  have e7 : ((List.range n).map fun j => Va.tup [.int (at2 sw i j), .int (low i j)]).length < lim := by simp; omega
  have dn : decide (((n : Nat) : Int) = (n : Nat)) = true := decide_eq_true rfl
  have ew1 : ewipe [some (tabV sw), some (.int i), some (tI r), l, t, c, w] [4] = [some (tabV sw), some (.int i), some (tI r), l, none, c, w] := rfl
  have ew2 : ∀ k : Nat, ewipe [some (tabV sw), some (.int i), some (tI r), some (.ref k), t, c, w] [5, 6] = [some (tabV sw), some (.int i), some (tI r), some (.ref k), t, none, none] := fun _ => rfl
  have sz : ∀ (k : Nat) (h : AH), lstAt h k = some ((List.range n).map fun j => .int (low i j)) → srcZ true [tI r, .ref k] h = some ⟨(List.range n).map fun j => .tup [.int (at2 sw i j), .int (low i j)], [(k, (List.range n).map fun j => .int (low i j))]⟩ := by
    intro k h hk
    unfold srcZ
    simp only [srcOf, hk, Option.bind_some]
    rw [if_neg (by simp [hr2]), ez]
    rfl
  refine ⟨(h ++ [.lst ((List.range n).map fun j => .int (low i j))]) ++ [.lst (((List.range n).map fun j => Va.tup [.int (at2 sw i j), .int (low i j)]).map fun _ => .bl true)], ?_⟩
  have fin := o_allL (h := (h ++ [.lst ((List.range n).map fun j => .int (low i j))]) ++ [.lst (((List.range n).map fun j => Va.tup [.int (at2 sw i j), .int (low i j)]).map fun _ => .bl true)]) lstAt_end (allB_map (φ := fun _ => true) _)
  simp_all! [s_seq, s_sif, s_or, s_not, s_tB, s_isi, s_op, s_ap, s_cons, s_var, s_nil, s_set, s_lc, s_it, e2, e3, dn, c_rngN (show n ≤ 1000000 by omega)]
  rw [k_lc e6, ew1, e4]
  simp_all! [k_lc1, k_set, k_seqN, s_sif, s_not, s_tB, s_ap, s_cons, s_lc, s_it, sz _ _ lstAt_end]
  rw [k_lc e7, ew2, e5 _ _ lstAt_end]
  simp_all! [k_lc1, k_cons, k_cons1, s_nil, k_ap, fin, all_true]
theorem table_ok {sw : List (List Int)} {n : Nat} (T : TabOk sw n) : m_is_table [tabV sw] [] = .ok (.bl true) [] := by
  have hn10 := T.n10
  have hn2 := T.n2
  have e2 : ∀ h : AH, oLen [tabV sw] h = some (.int (n : Nat), h) := fun h => by
    show some (Va.int ((sw.map tI).length : Nat), h) = _
    rw [List.length_map, T.len]
  have d1 : decide ((2 : Int) ≤ (n : Nat)) = true := decide_eq_true (by omega)
  have d2 : decide (((n : Nat) : Int) ≤ 10) = true := decide_eq_true (by omega)
  have i1 : ∀ h, isiK "tuple" (.ok (tabV sw) h) = .ok (.bl true) h := fun h => i_tt
  have se : ∀ h, srcE [tabV sw] h = some ⟨enumF 0 (sw.map tI), []⟩ := fun h => rfl
  unfold m_is_table
  rw [s_fn (by rfl)]
  unfold b_is_table
  simp_all! [s_seq, s_sif, s_or, s_not, s_tB, s_isi, s_ch, s_ap, s_cons, s_var, s_nil, s_for, s_it, List.replicate, e2, d1, d2, i1, se]
  have key : ∀ h : AH, ∃ a b c d e f h', loopF [] (gTp (gCs (gNm 1) (gCs (gNm 2) (gNl)))) (sSeq (sIf (tOr (tNot (tB (eIsi "tuple" (eVar 2)))) (tB (eOp oNe2 (eAp oLen (aCons (eVar 2) (aNil))) (eAp oLen (aCons (eVar 0) (aNil)))))) (sRet (eC (.bl false))) (sNil)) (sSeq (sSet 3 (eLc (iOf (aCons (eAp oLen (aCons (eVar 0) (aNil))) (aNil)) srcR) (gNm 4) (tYesF) (eAp oInt (aCons (eOp oNe2 (eVar 1) (eVar 4)) (aNil))) [4])) (sIf (tNot (tB (eAp oAll (aCons (eLc (iOf (aCons (eVar 2) (aCons (eVar 3) (aNil))) (srcZ true)) (gTp (gCs (gNm 5) (gCs (gNm 6) (gNl)))) (tYesF) (eCall [] (callL m_is_integer) (aCons (eVar 5) (aCons (eVar 6) (aCons (eOp oMul2 (eC (.int 1000)) (eVar 6)) (aNil))))) [5, 6]) (aNil))))) (sRet (eC (.bl false))) (sNil))))
      (enumF 0 (sw.map tI)) [some (tabV sw), none, none, none, none, none, none] h = .nx [some (tabV sw), a, b, c, d, e, f] h' := fun h =>
    loop_inv (Q := fun q => ∃ a b c d e f h', q = .nx [some (tabV sw), a, b, c, d, e, f] h')
      (fun _ ev h => ∃ a b c d e f, ev = [some (tabV sw), a, b, c, d, e, f]) _ 0 _ _ ⟨_, _, _, _, _, _, rfl⟩ (fun _ _ _ _ _ _ => rfl)
      (fun k v ev h hk ⟨a, b, c, d, e, f, e1⟩ => by
        subst e1
        obtain ⟨x, hx, rfl⟩ := enumF_get _ _ _ _ hk
        rw [List.getElem?_map] at hx
        cases hr : sw[k]? with
        | none => rw [hr] at hx; cases hx
        | some r =>
          rw [hr] at hx
          cases hx
          have hkn : k < n := by
            have := (List.getElem?_eq_some_iff.mp hr).1
            rw [T.len] at this
            exact this
          obtain ⟨h', e3⟩ := table_row T hkn hr c d e f h
          refine ⟨[some (tabV sw), some (.int (0 + (k : Nat))), some (tI r), c, d, e, f], rfl, .inl ⟨[some (tabV sw), some (.int (k : Nat)), some (tI r), some (.ref h.length), d, e, f], h', ?_, ⟨_, _, _, _, _, _, rfl⟩⟩⟩
          rw [show ((0 : Int) + (k : Nat)) = (k : Nat) by omega]
          exact e3)
      (fun ev h ⟨a, b, c, d, e, f, e1⟩ => ⟨a, b, c, d, e, f, h, by rw [e1]⟩)
  obtain ⟨a, b, c, d, e, f, h', k⟩ := key []
  rw [k]
  simp_all! []
  rfl
end FL

set_option linter.all false
set_option maxRecDepth 100000
namespace FL
open PySem PySem.Spec PyProof.Rows L2
structure ReqOk (r : List (Option Int)) (n : Nat) : Prop where
  len : r.length = n
  n10 : n ≤ 10
  cost : ∀ c, some c ∈ r → 0 ≤ c ∧ c ≤ 1000
  some_ : ∃ c, some c ∈ r
theorem row_ok {r : List (Option Int)} {n : Nat} (R : ReqOk r n) : m_is_request_row [.tup (r.map oI), .int (n : Nat)] [] = .ok (.bl true) [] := by
  have hl := R.len
  have hn := R.n10
  have hlim : lim = 1000000 := rfl
  have i1 : ∀ h, isiK "tuple" (.ok (.tup (r.map oI)) h) = .ok (.bl true) h := fun h => i_tt
  have e2 : ∀ h : AH, oLen [.tup (r.map oI)] h = some (.int (n : Nat), h) := fun h => by rw [o_lenM, hl]
  have e6 : (r.map oI).length < lim := by rw [List.length_map, hl, hlim]; omega
  have e4 : ∀ h, compF [] (gNm 2) tYesF (eOr (eOp (oIs false) (eVar 2) (eC .non)) (eCall [] (callL m_is_integer) (aCons (eVar 2) (aCons (eC (.int 0)) (aCons (eC (.int 1000)) (aNil)))))) [some (.tup (r.map oI)), some (.int (n : Nat)), none] (r.map oI) h = .ok ((r.map oI).map fun _ => .bl true) h := fun h =>
    comp_map (φ := fun _ => .bl true) (e1 := fun v => [some (.tup (r.map oI)), some (.int (n : Nat)), some v]) rfl _ fun v hv => by
      refine ⟨rfl, ?_⟩
      obtain ⟨c, hc, rfl⟩ := List.mem_map.mp hv
      cases c with
      | none => simp_all! [oI]
      | some c =>
        obtain ⟨c1, c2⟩ := R.cost c hc
        have d1 := decide_eq_true c1
        have d2 := decide_eq_true c2
        simp_all! [oI, is_int_l, d1, d2, Bool.and_self]
  have e5 : ∀ h, compF [] (gNm 2) tYesF (eOp (oIs true) (eVar 2) (eC .non)) [some (.tup (r.map oI)), some (.int (n : Nat)), none] (r.map oI) h = .ok (r.map fun c => .bl c.isSome) h := fun h => by
    have q := comp_map (gf := gNm 2) (f := eOp (oIs true) (eVar 2) (eC .non)) (ev := [some (.tup (r.map oI)), some (.int (n : Nat)), none]) (gsl := []) (h := h) (φ := fun v => .bl (!isNon v)) (e1 := fun v => [some (.tup (r.map oI)), some (.int (n : Nat)), some v]) rfl (r.map oI) fun v hv => ⟨rfl, by
      obtain ⟨c, hc, rfl⟩ := List.mem_map.mp hv
      cases c with
      | none => simp_all! [oI]; rfl
      | some c => simp_all! [oI]; rfl⟩
    rw [q, List.map_map]
    congr 1
    apply List.map_congr_left
    intro c _
    cases c <;> rfl
  have dn : decide (((n : Nat) : Int) = (n : Nat)) = true := decide_eq_true rfl
  have anyT : (r.map fun c => c.isSome).any id = true := by
    obtain ⟨c, hc⟩ := R.some_
    rw [List.any_map]
    exact List.any_eq_true.mpr ⟨some c, hc, rfl⟩
  have f1 : allB ((r.map oI).map fun _ => .bl true) = some ((r.map oI).map fun _ => true) := allB_map (φ := fun _ => true) _
  have f2 : allB (r.map fun c => .bl c.isSome) = some (r.map fun c => c.isSome) := allB_map _
  have ew : ewipe [some (.tup (r.map oI)), some (.int (n : Nat)), none] [2] = [some (.tup (r.map oI)), some (.int (n : Nat)), none] := rfl
  unfold m_is_request_row
  rw [s_fn (by rfl)]
  unfold b_is_request_row
  simp_all! [List.replicate, i1, e2]
  rw [k_lc e6, ew, e4]
  simp_all! [lst0, f1, all_true]
  rw [k_lc e6, ew, e5]
  simp_all! [lst0, lstS, f2, anyT]
  rfl
structure SysOk (sw : List (List Int)) (rq : List (List (Option Int))) (st : Int) (n : Nat) : Prop where
  tab : TabOk sw n
  rq1 : 1 ≤ rq.length
  rq8 : rq.length ≤ 8
  row : ∀ r ∈ rq, ReqOk r n
  st0 : 0 ≤ st
  stn : st < n
theorem refs_tab (sw : List (List Int)) : refsOfs [tabV sw] = [] := refs_cons (inR_tab sw) rfl
theorem sys_ok {sw : List (List Int)} {rq : List (List (Option Int))} {st : Int} {n : Nat} (S : SysOk sw rq st n) : m_is_system [sysV sw rq st] [] = .ok (.bl true) [] := by
  have T := S.tab
  have hn := T.n10
  have hlim : lim = 1000000 := rfl
  have h1 := S.rq1
  have h8 := S.rq8
  have i1 : ∀ h, isiK "tuple" (.ok (sysV sw rq st) h) = .ok (.bl true) h := fun h => i_tt
  have i2 : ∀ h, isiK "tuple" (.ok (reqV rq) h) = .ok (.bl true) h := fun h => i_tt
  have c1 : ∀ h, callL m_is_table [tabV sw] h = .ok (.bl true) h := fun h => loc0 (table_ok T) (refs_tab sw) rfl
  have c2 : ∀ h, callL m_has_shortcuts [tabV sw] h = .ok (.bl false) h := fun h => loc0 (no_short T) (refs_tab sw) rfl
  have e1 : ∀ h : AH, oLen [sysV sw rq st] h = some (.int 3, h) := fun h => rfl
  have e2 : ∀ h : AH, oLen [tabV sw] h = some (.int (n : Nat), h) := fun h => by
    show some (Va.int ((sw.map tI).length : Nat), h) = _
    rw [List.length_map, T.len]
  have e3 : ∀ h : AH, oLen [reqV rq] h = some (.int (rq.length : Nat), h) := fun h => by
    show some (Va.int ((rq.map _).length : Nat), h) = _
    rw [List.length_map]
  have sr : ∀ h : AH, srcOf (reqV rq) h = some ⟨rq.map fun r => .tup (r.map oI), []⟩ := fun h => rfl
  have e6 : (rq.map fun r => Va.tup (r.map oI)).length < lim := by rw [List.length_map, hlim]; omega
  have e4 : ∀ h, compF [] (gNm 4) tYesF (eCall [] (callL m_is_request_row) (aCons (eVar 4) (aCons (eAp oLen (aCons (eVar 1) (aNil))) (aNil)))) [some (sysV sw rq st), some (tabV sw), some (reqV rq), some (.int st), none] (rq.map fun r => .tup (r.map oI)) h = .ok ((rq.map fun r => Va.tup (r.map oI)).map fun _ => .bl true) h := fun h =>
    comp_map (φ := fun _ => .bl true) (e1 := fun v => [some (sysV sw rq st), some (tabV sw), some (reqV rq), some (.int st), some v]) rfl _ fun v hv => by
      refine ⟨rfl, ?_⟩
      obtain ⟨r, hr, rfl⟩ := List.mem_map.mp hv
      have q : callL m_is_request_row [.tup (r.map oI), .int (n : Nat)] h = .ok (.bl true) h := loc0 (row_ok (S.row r hr)) (refs_cons (by show inRs 0 _ = true; exact inR_map inR_oI r) rfl) rfl
      simp_all! [e2, q]
  have f1 : allB ((rq.map fun r => Va.tup (r.map oI)).map fun _ => .bl true) = some ((rq.map fun r => Va.tup (r.map oI)).map fun _ => true) := allB_map (φ := fun _ => true) _
  have ew : ewipe [some (sysV sw rq st), some (tabV sw), some (reqV rq), some (.int st), none] [4] = [some (sysV sw rq st), some (tabV sw), some (reqV rq), some (.int st), none] := rfl
  have d1 : decide ((1 : Int) ≤ (rq.length : Nat)) = true := decide_eq_true (by omega)
  have d2 : decide (((rq.length : Nat) : Int) ≤ 8) = true := decide_eq_true (by omega)
  have d3 : decide (0 ≤ st) = true := decide_eq_true S.st0
  have d4 : decide (st ≤ (n : Nat) - 1) = true := decide_eq_true (by have := S.stn; omega)
  have g1 : gTp (gCs (gNm 1) (gCs (gNm 2) (gCs (gNm 3) gNl))) (sysV sw rq st) [some (sysV sw rq st), none, none, none, none] = some [some (sysV sw rq st), some (tabV sw), some (reqV rq), some (.int st), none] := rfl
  unfold m_is_system
  rw [s_fn (by rfl)]
  unfold b_is_system
  simp_all! [List.replicate, i1, e1, g1, c1, c2, i2, e3, d1, d2, sr]
  rw [k_lc e6, ew, e4]
  simp_all! [lst0, f1, all_true, e2, is_int_l, d3, d4, Bool.and_self]
  rfl
end FL

set_option linter.all false
set_option maxRecDepth 100000
set_option maxHeartbeats 4000000
namespace FL
open PySem PySem.Spec PyProof.Rows L2
theorem intsF_at0 {n k : Nat} {v : Va} (h : (intsF 0 n)[k]? = some v) : k < n ∧ v = .int (k : Nat) := by
  rw [ints_get] at h
  split at h
  · rename_i hk
    cases h
    exact ⟨hk, by rw [show ((0 : Int) + (k : Nat)) = (k : Nat) by omega]⟩
  · cases h
theorem atI3_1 {x y z : Va} : atI [x, y, z] 1 = some y := rfl
theorem atI3_2 {x y z : Va} : atI [x, y, z] 2 = some z := rfl
theorem ix3_0 : ixN 3 0 = some 0 := rfl
theorem ix3_2 : ixN 3 2 = some 2 := rfl
def St (n : Nat) (xs : List Va) : Prop := ∃ a b c : Int, xs = [.int a, .int b, .int c] ∧ 0 ≤ a ∧ 0 ≤ b ∧ b < 2 ^ 40 ∧ 0 ≤ c ∧ c ≤ n
theorem draw1 {a b c t : Int} (ha : 0 < a) (ht : 0 < t) (ht2 : t < 1000000) : m__law_draw [.ref 0, .int t] [.lst [.int a, .int b, .int c]] = .ok (.int (a % t)) [.lst [.int (a / t), .int b, .int c]] := by
  have h1 : okI t = true := okI_lt (by omega) (by omega)
  have h2 : decide (0 < a) = true := decide_eq_true ha
  unfold m__law_draw
  rw [s_fn (by rfl)]
  simp_all! [b__law_draw, lst0, atI0, atI3_1, atI3_2, h1, h2, ht, List.replicate, ix3_0, ix3_2, Nat.zero_add, Nat.reduceAdd]
  rfl
theorem draw2 {a b c t : Int} (ha : ¬ 0 < a) (ht : 0 < t) (ht2 : t < 1000000) (hb0 : 0 ≤ b) (hb1 : b < 2 ^ 40) (hc0 : 0 ≤ c) (hc1 : c < 2 ^ 40) : ∃ d, m__law_draw [.ref 0, .int t] [.lst [.int a, .int b, .int c]] = .ok (.int (d % t)) [.lst [.int a, .int b, .int (c + 1)]] := by
  have h2 : decide (0 < a) = false := decide_eq_false ha
  unfold m__law_draw
  rw [s_fn (by rfl)]
  simp (disch := first | assumption | exact okI_lt (by omega) (by omega) | omega) only [b__law_draw, s_var, k_var, s_c, s_op, k_op, k_op1, k_o, s_un, k_un, s_ap, k_ap, s_nil, s_cons, k_cons, k_cons1, s_tB, k_tB, s_and, k_andT, k_andF, s_or, k_orT, k_orF, s_not, k_not, s_eand, k_eandT, k_eandF, s_eor, k_eorT, k_eorF, s_enot, k_enot, s_if, k_ifT, k_ifF, s_isi, i_ii, i_ib, i_it, i_il, i_is, i_bi, i_bb, i_bt, i_ni, i_nb, i_nt, i_ti, i_tb, i_tt, i_si, i_st, s_ch, k_ch, k_ch1, k_ch2T, k_ch2F, s_sl, k_sl, k_sl1, k_sl2, s_lN, s_lS, k_lS, s_seq, k_seqN, k_seqR, k_seqB, k_seqC, k_seqX, s_sN, s_set, k_set, s_sif, k_sifT, k_sifF, s_ret, k_ret, s_exp, k_exp, s_asg, k_asg, k_asg1, s_gNm, s_gTp, s_gNl, s_gCs, k_gCs, s_par, k_par, s_six, k_six, k_six1, k_six2, k_six3, s_aug, k_aug0, k_aug, s_m, k_m, k_m0, k_m1, s_cl, k_cl, s_ck, k_ck, s_it, k_it, k_it2, s_it1, k_it1, s_for, k_for, k_lp, k_lpN, k_lpC, k_lpB, k_lpR, s_lc, k_lc, k_lc1, k_cp, k_cpT, k_cpF, k_cp2, k_cp3, s_yes, k_endN, k_endR, o_add, o_sub, o_mul, o_fdiv, o_mod, o_lt, o_le, o_gt, o_ge, o_eqI, o_neI, o_neR, o_eqR, o_isN1, o_isN2, o_isN3, o_isN4, o_isB1, o_isB2, o_tup, o_lst, o_lenT, o_lenR, o_lenL, k_lenL, o_ixT, o_ixR, o_ixL, k_ixL, k_ix, o_int, o_intB, o_abs, o_max, o_min, o_tupT, o_tupL, k_tupL, o_lstT, o_lstL, k_lstL, o_slT, o_app, k_app, o_isLst, k_isSome, o_cat, o_setAt, k_setAt, k_setAt2, c_T, c_R, c_L, k_srcL, o_all, o_any, o_sum, o_sumTT, k_bdB, k_bdI, k_al, k_an, k_su, s_lpN0, s_lpC0, s_cpN0, s_cpC0, c_r0, c_r1, c_r2, c_r3, c_r4, c_r5, c_r6, c_r7, c_r8, c_r9, c_r10, c_r11, c_r12, s_rev, k_rev, o_revT, s_d0, s_lc2, k_lc2, i_ins, s_fld, k_fld, k_fld1, k_fld2, s_mt, k_mt, k_mt2, s_mk, k_mk, k_mk2, k_mk2X, s_sf, k_sf, k_sf1, s_sfn, k_sfn, k_sfn1, decide_true, decide_false, List.getElem?_cons_zero, List.getElem?_cons_succ, List.set_cons_zero, List.set_cons_succ, Bool.not_true, Bool.not_false, if_true, if_false, Bool.false_eq_true, reduceIte, List.length_cons, List.length_nil, List.map_cons, List.map_nil, List.cons_append, List.nil_append, List.append_nil, lst0, atI0, atI3_1, atI3_2, h2, ht, List.replicate, ix3_0, ix3_2, Nat.zero_add, Nat.reduceAdd]
  exact ⟨_, rfl⟩
theorem draw_l {n : Nat} {xs : List Va} {t : Int} {r : AH} {P : Va → AH → Prop} (hs : St n xs) (hn : n ≤ 1000000) (ht : 0 < t) (ht2 : t < 1000000) (q : ∀ d ys, 0 ≤ d → d < t → St (n + 1) ys → P (.int d) (.lst ys :: r)) : Tk (callL m__law_draw [.ref 0, .int t] (.lst xs :: r)) P := by
  obtain ⟨a, b, c, rfl, ha, hb, hb2, hc, hc2⟩ := hs
  refine p_loc1 (k := 0) rfl rfl rfl ?_
  by_cases h : 0 < a
  · refine ⟨_, _, draw1 h ht ht2, ?_⟩
    have := q (a % t) [.int (a / t), .int b, .int c] (Int.emod_nonneg _ (by omega)) (Int.emod_lt_of_pos _ ht) ⟨_, _, _, rfl, Int.ediv_nonneg ha (by omega), hb, hb2, hc, by omega⟩
    simpa [ins1, bk, inR, mapRO, mapRs, mapR] using this
  · obtain ⟨d, e⟩ := draw2 (a := a) (b := b) (c := c) h ht ht2 hb hb2 hc (by omega)
    refine ⟨_, _, e, ?_⟩
    have := q (d % t) [.int a, .int b, .int (c + 1)] (Int.emod_nonneg _ (by omega)) (Int.emod_lt_of_pos _ ht) ⟨_, _, _, rfl, ha, hb, hb2, by omega, by push_cast; omega⟩
    simpa [ins1, bk, inR, mapRO, mapRs, mapR] using this
def BIG : Int := 10 ^ 720
theorem big_pos : 0 < BIG := by decide +kernel
theorem big_lt : BIG < 10 ^ 1000 := by decide +kernel
theorem pow_big {ev : Ev} {h : AH} : eOp oPow (eOp oPow (eC (.int 10)) (eC (.int 60))) (eC (.int 12)) ev h = .ok (.int BIG) h := by
  have e1 : oPow (.int 10) (.int 60) h = some (.int (10 ^ 60), h) := by
    show (if (decide ((0 : Int) ≤ 60) && decide ((60 : Int) ≤ 1000) && decide ((10 : Int).natAbs.log2 < 100000)) = true then some (Va.int ((10 : Int) ^ (60 : Int).toNat), h) else none) = _
    rw [if_pos (by decide +kernel)]
    rfl
  have e2 : oPow (.int (10 ^ 60)) (.int 12) h = some (.int BIG, h) := by
    show (if (decide ((0 : Int) ≤ 12) && decide ((12 : Int) ≤ 1000) && decide (((10 : Int) ^ 60).natAbs.log2 < 100000)) = true then some (Va.int (((10 : Int) ^ 60) ^ (12 : Int).toNat), h) else none) = _
    rw [if_pos (by decide +kernel)]
    have : ((10 : Int) ^ 60) ^ (12 : Int).toNat = BIG := by decide +kernel
    rw [this]
  simp only [s_op, s_c, k_op, k_op1, e1, e2, k_o]
theorem pow_17 {ev : Ev} {h : AH} : eOp oPow (eC (.int 10)) (eC (.int 17)) ev h = .ok (.int 100000000000000000) h := by
  have e1 : oPow (.int 10) (.int 17) h = some (.int 100000000000000000, h) := by
    show (if (decide ((0 : Int) ≤ 17) && decide ((17 : Int) ≤ 1000) && decide ((10 : Int).natAbs.log2 < 100000)) = true then some (Va.int ((10 : Int) ^ (17 : Int).toNat), h) else none) = _
    rw [if_pos (by decide +kernel)]
    have : (10 : Int) ^ (17 : Int).toNat = 100000000000000000 := by decide +kernel
    rw [this]
  simp only [s_op, s_c, k_op, k_op1, e1, k_o]
/-- the part behind the cell -/
theorem stream_end {ns : List Int} {at_ x : Int} {w : Option Va} {Q : SR → Prop} (h0 : 0 ≤ at_) (h1 : at_ ≤ 1000) (q : ∀ ys, St 0 ys → Q (.rt (.ref 0) [.lst ys])) :
    Ts ((sSeq (sSet 3 (eOp oMod (eAp oAbs (aCons (eVar 2) (aNil))) (eOp oPow (eOp oPow (eC (.int 10)) (eC (.int 60))) (eC (.int 12))))) (sRet (eAp oLst (aCons (eAp oMax2 (aCons (eC (.int 0)) (aCons (eOp oSub (eVar 3) (eOp oPow (eC (.int 10)) (eC (.int 17)))) (aNil)))) (aCons (eOp oMod (eOp oAdd (eOp oAdd (eOp oAdd (eOp oMul2 (eVar 3) (eC (.int 9576890767))) (eOp oMul2 (eC (.int 611953)) (eVar 1))) (eOp oMul2 (eC (.int 2)) (eAp oInt (aCons (eOp oLt (eVar 2) (eC (.int 0))) (aNil))))) (eC (.int 7))) (eC (.int 4294967291))) (aCons (eC (.int 0)) (aNil))))))) [some (.rol (ns.map Va.int)), some (.int at_), some (.int x), w] []) Q := by
  have hlim : lim = 1000000 := rfl
  generalize hg : (if x < 0 then -x else x) % BIG = g
  have g0 : 0 ≤ g := by rw [← hg]; exact Int.emod_nonneg _ (Int.ne_of_gt big_pos)
  have g1 : g < 10 ^ 1000 := by rw [← hg]; exact Int.lt_trans (Int.emod_lt_of_pos _ big_pos) big_lt
  have og : okI g = true := okI_lt (by omega) g1
  have ob : ∀ b : Bool, okI (if b then (1 : Int) else 0) = true := fun b => by cases b <;> rfl
  have o1 : okI 9576890767 = true := rfl
  have o2 : okI 611953 = true := rfl
  have o3 : okI 2 = true := rfl
  have oa : okI at_ = true := okI_lt (by omega) (by omega)
  simp only [s_seq, s_set, s_op (o := oMod) (f := eAp oAbs (aCons (eVar 2) aNil)), s_ap, s_cons, s_var, s_nil, k_op]
  rw [show vK [] [some (Va.rol (ns.map Va.int)), some (.int at_), some (.int x), w][2]? = .ok (.int x) [] from rfl]
  simp only [k_cons, s_nil, k_cons1, k_ap, o_abs, k_o, k_op, pow_big, k_op1, o_mod big_pos, hg, k_set, k_seqN, s_ret, s_ap, s_cons]
  rw [show ([some (Va.rol (ns.map Va.int)), some (.int at_), some (.int x), w] : Ev).set 3 (some (.int g)) = [some (Va.rol (ns.map Va.int)), some (.int at_), some (.int x), some (.int g)] from rfl]
  have e17 : eOp oSub (eVar 3) (eOp oPow (eC (.int 10)) (eC (.int 17))) [some (Va.rol (ns.map Va.int)), some (.int at_), some (.int x), some (.int g)] [] = .ok (.int (g - 100000000000000000)) [] := by
    rw [s_op, s_var]
    rw [show vK [] [some (Va.rol (ns.map Va.int)), some (.int at_), some (.int x), some (.int g)][3]? = .ok (.int g) [] from rfl, k_op, pow_17]
    simp only [k_op1, o_sub, k_o]
  simp only [s_c, k_cons, s_cons, e17, k_cons1, s_nil, k_ap, o_max, k_o]
  simp_all! [s_op, s_var, o_mul og o1, o_mul o2 oa, o_mul o3 (ob _), o_mod (show (0 : Int) < 4294967291 by omega)]
  rw [o_lst (by simp [hlim])]
  simp only [k_o, k_ret, List.length_nil, List.nil_append]
  refine q _ ⟨_, _, _, rfl, ?_, Int.emod_nonneg _ (by omega), ?_, Int.le_refl _, Int.le_refl _⟩
  · split <;> omega
  · have := Int.emod_lt_of_pos (g * 9576890767 + 611953 * at_ + 2 * (if decide (x < 0) = true then 1 else 0) + 7) (show (0 : Int) < 4294967291 by omega)
    omega
theorem stream_ok {ns : List Int} {j : Nat} (hj : j ≤ 1000) : Tk (m__law_stream [.rol (ns.map Va.int), .int (j : Nat)] []) (fun v h => v = .ref 0 ∧ ∃ ys, h = [.lst ys] ∧ St 0 ys) := by
  unfold m__law_stream
  refine p_fn (by rfl) ?_
  unfold b__law_stream
  have o5 : okI 5 = true := rfl
  have oj : okI (j : Nat) = true := okI_lt (by omega) (by omega)
  simp_all! [s_seq, s_set, s_op, s_c, s_var, List.map_cons, List.map_nil, List.replicate, List.cons_append, List.nil_append, o_mul o5 oj]
  rw [List.length_map]
  have fin : ∀ (v : SR), (∃ ys, v = .rt (.ref 0) [.lst ys] ∧ St 0 ys) → Tk (gcF 0 (endF v)) (fun v h => v = .ref 0 ∧ ∃ ys, h = [.lst ys] ∧ St 0 ys) := by
    rintro v ⟨ys, rfl, hs⟩
    exact Tk.ok ⟨rfl, ys, rfl, hs⟩
  by_cases hlt : (j : Int) < (ns.length : Nat)
  · have d := decide_eq_true hlt
    have hjn : j < ns.length := by omega
    have ea : atI (ns.map Va.int) (j : Nat) = some (.int ns[j]) := at_map (List.getElem?_eq_getElem hjn)
    simp_all! [k_o, k_op1, o_lt, d, ea, -s_seq]
    exact stream_end (by omega) (by omega) fun ys hs => fin _ ⟨ys, rfl, hs⟩
  · have d := decide_eq_false hlt
    simp_all! [k_o, k_op1, o_lt, d, -s_seq]
    exact stream_end (by omega) (by omega) fun ys hs => fin _ ⟨ys, rfl, hs⟩
theorem stream_l {ns : List Int} {j : Nat} {h : AH} {P : Va → AH → Prop} (hj : j ≤ 1000) (q : ∀ ys, St 0 ys → P (.ref h.length) (h ++ [.lst ys])) : Tk (callL m__law_stream [.rol (ns.map Va.int), .int (j : Nat)] h) P := by
  have e : refsOfs [.rol (ns.map Va.int), .int (j : Nat)] = [] := refs_cons (by show inRs 0 _ = true; exact inR_map inR_int ns) rfl
  refine p_loc0 e ((stream_ok hj).mono ?_)
  rintro v h' ⟨rfl, ys, rfl, hs⟩
  obtain ⟨a, b, c, rfl, _⟩ := id hs
  have := q _ hs
  simpa [bk, inR, mapR, sh0, mapRO, mapRs] using this
end FL

set_option linter.all false
set_option maxRecDepth 100000
set_option maxHeartbeats 4000000
namespace FL
open PySem PySem.Spec PyProof.Rows L2
section
variable {sw : List (List Int)} {rq : List (List (Option Int))} {st : Int} {n : Nat}
theorem refs_sys : refsOfs [sysV sw rq st] = [] := refs_cons (inR_sys sw rq st) rfl
theorem sys_l (S : SysOk sw rq st n) {h : AH} : callL m_is_system [sysV sw rq st] h = .ok (.bl true) h := loc0 (sys_ok S) refs_sys rfl
theorem len_tab (T : TabOk sw n) {h : AH} : oLen [tabV sw] h = some (.int (n : Nat), h) := by
  show some (Va.int ((sw.map tI).length : Nat), h) = _
  rw [List.length_map, T.len]
end
theorem at2_abs {sw : List (List Int)} {n : Nat} (T : TabOk sw n) {r : List Int} (hr : r ∈ sw) : ∀ x ∈ r, 0 ≤ x ∧ x ≤ 1000 := by
  intro x hx
  obtain ⟨i, hi⟩ := List.mem_iff_getElem?.mp hr
  obtain ⟨j, hj⟩ := List.mem_iff_getElem?.mp hx
  have hin : i < n := by have := (List.getElem?_eq_some_iff.mp hi).1; rw [T.len] at this; exact this
  have hjn : j < n := by have := (List.getElem?_eq_some_iff.mp hj).1; rw [T.row r hr] at this; exact this
  obtain ⟨r', e1, e2, e3⟩ := T.get hin
  rw [hi] at e1
  cases e1
  have := e3 j hjn
  rw [hj] at this
  cases this
  by_cases e : i = j
  · subst e
    rw [T.diag i hin]
    omega
  · have := T.off i j hin hjn e
    omega
end FL

set_option linter.all false
set_option maxRecDepth 100000
set_option maxHeartbeats 4000000
namespace FL
open PySem PySem.Spec PyProof.Rows L2
section
variable {sw : List (List Int)} {rq : List (List (Option Int))} {st : Int} {n : Nat}
end
end FL

set_option linter.all false
set_option maxRecDepth 100000
set_option maxHeartbeats 4000000
namespace FL
open PySem PySem.Spec PyProof.Rows L2
/-! ### tables as they are made -/
def rowL (r : List Int) : AO := .lst (r.map Va.int)
def refL (k : Nat) : List Va := (List.range k).map fun i => .ref (3 + i)
def hp (ys tops : List Va) (k : Nat) (rs : List (List Int)) : AH := .lst ys :: .lst tops :: .lst (refL k) :: rs.map rowL
structure Sq (rs : List (List Int)) (n : Nat) : Prop where
  len : rs.length = n
  row : ∀ r ∈ rs, r.length = n
theorem Sq.get {rs : List (List Int)} {n : Nat} (S : Sq rs n) {i : Nat} (hi : i < n) : ∃ r, rs[i]? = some r ∧ r.length = n ∧ ∀ j, j < n → r[j]? = some (at2 rs i j) := by
  have hl : i < rs.length := by rw [S.len]; exact hi
  have hr : rs[i].length = n := S.row _ (List.getElem_mem hl)
  refine ⟨rs[i], List.getElem?_eq_getElem hl, hr, fun j hj => ?_⟩
  unfold at2
  rw [List.getElem?_eq_getElem hl]
  simp only [Option.getD_some]
  rw [List.getElem?_eq_getElem (by rw [hr]; exact hj)]
  rfl
def setT (rs : List (List Int)) (i j : Nat) (v : Int) : List (List Int) := rs.set i ((rs[i]?.getD []).set j v)
theorem setT_sq {rs : List (List Int)} {n : Nat} (S : Sq rs n) {i j : Nat} {v : Int} (hi : i < n) : Sq (setT rs i j v) n := by
  obtain ⟨r, h1, h2, _⟩ := S.get hi
  refine ⟨by simp [setT, S.len], fun x hx => ?_⟩
  unfold setT at hx
  rw [h1] at hx
  rcases List.mem_or_eq_of_mem_set hx with z | z
  · exact S.row x z
  · rw [z]; simp [h2]
theorem setT_at {rs : List (List Int)} {n : Nat} (S : Sq rs n) {i j a b : Nat} {v : Int} (hi : i < n) (hj : j < n) : at2 (setT rs i j v) a b = if a = i ∧ b = j then v else at2 rs a b := by
  obtain ⟨r, h1, h2, _⟩ := S.get hi
  unfold setT at2
  rw [h1]
  simp only [Option.getD_some]
  by_cases ha : a = i
  · subst ha
    rw [List.getElem?_set_self (by rw [S.len]; exact hi), h1]
    simp only [Option.getD_some]
    by_cases hb : b = j
    · subst hb
      rw [List.getElem?_set_self (by rw [h2]; exact hj)]
      simp
    · rw [List.getElem?_set_ne (Ne.symm hb)]
      simp [hb]
  · rw [List.getElem?_set_ne (Ne.symm ha)]
    simp [ha]
theorem hp_at {ys tops : List Va} {k : Nat} {rs : List (List Int)} {i : Nat} {r : List Int} (h : rs[i]? = some r) : lstAt (hp ys tops k rs) (3 + i) = some (r.map Va.int) := by
  unfold hp lstAt
  rw [show 3 + i = i + 1 + 1 + 1 by omega]
  simp only [List.getElem?_cons_succ, List.getElem?_map, h, Option.map_some, rowL]
theorem hp_set {ys tops : List Va} {k : Nat} {rs : List (List Int)} {i : Nat} {r' : List Int} : (hp ys tops k rs).set (3 + i) (.lst (r'.map Va.int)) = hp ys tops k (rs.set i r') := by
  unfold hp
  rw [show 3 + i = i + 1 + 1 + 1 by omega]
  simp only [List.set_cons_succ, List.map_set, rowL]
theorem hp_tab {ys tops : List Va} {k : Nat} {rs : List (List Int)} : lstAt (hp ys tops k rs) 2 = some (refL k) := rfl
theorem refL_at {k i : Nat} (h : i < k) : atI (refL k) ((i : Nat) : Int) = some (.ref (3 + i)) := by
  rw [atIn rfl]
  exact range_at h
theorem ixN_nat {n j : Nat} (h : j < n) : ixN n ((j : Nat) : Int) = some j := by
  unfold ixN
  rw [if_pos (by omega), if_pos (by omega)]
  simp
section
variable {ys tops : List Va} {n : Nat} {rs : List (List Int)}
/-- table[a] -/
theorem ix_row {a b : Nat} {i : Nat} (hi : i < n) {ev : Ev} (ha : ev[a]? = some (some (.ref 2))) (hb : ev[b]? = some (some (.int (i : Nat)))) : eOp oIx (eVar a) (eVar b) ev (hp ys tops n rs) = .ok (.ref (3 + i)) (hp ys tops n rs) := by
  rw [s_op, s_var, ha, k_var, k_op, s_var, hb, k_var, k_op1, o_ixL, hp_tab, k_ixL, refL_at hi]
  rfl
/-- table[a][b] -/
theorem ix_cell (S : Sq rs n) {a b c : Nat} {i j : Nat} (hi : i < n) (hj : j < n) {ev : Ev} (ha : ev[a]? = some (some (.ref 2))) (hb : ev[b]? = some (some (.int (i : Nat)))) (hc : ev[c]? = some (some (.int (j : Nat)))) :
    eOp oIx (eOp oIx (eVar a) (eVar b)) (eVar c) ev (hp ys tops n rs) = .ok (.int (at2 rs i j)) (hp ys tops n rs) := by
  obtain ⟨r, h1, h2, h3⟩ := S.get hi
  rw [s_op, ix_row hi ha hb, k_op, s_var, hc, k_var, k_op1, o_ixL, hp_at h1, k_ixL, at_map (h3 j hj)]
  rfl
/-- table[a][b] = v -/
theorem set_cell (S : Sq rs n) {a b c : Nat} {i j : Nat} {v : Int} {f : EF} (hi : i < n) (hj : j < n) {ev : Ev} (ha : ev[a]? = some (some (.ref 2))) (hb : ev[b]? = some (some (.int (i : Nat)))) (hc : ev[c]? = some (some (.int (j : Nat)))) (hf : f ev (hp ys tops n rs) = .ok (.int v) (hp ys tops n rs)) :
    sSetIx (eOp oIx (eVar a) (eVar b)) (eVar c) f ev (hp ys tops n rs) = .nx ev (hp ys tops n (setT rs i j v)) := by
  obtain ⟨r, h1, h2, h3⟩ := S.get hi
  rw [s_six, hf, k_six, ix_row hi ha hb, k_six1, s_var, hc, k_var, k_six2, o_setAt, hp_at h1, k_setAt, List.length_map, h2, ixN_nat hj, k_setAt2, k_six3]
  have : (r.map Va.int).set j (.int v) = (r.set j v).map Va.int := by rw [List.map_set]
  rw [this, hp_set]
  unfold setT
  rw [h1]
  rfl
end
/-- what every table keeps -/
structure Good (rs : List (List Int)) (n : Nat) : Prop where
  sq : Sq rs n
  diag : ∀ i, i < n → at2 rs i i = 0
  off : ∀ i j, i < n → j < n → i ≠ j → 1 ≤ at2 rs i j ∧ at2 rs i j ≤ 1000
theorem Good.set {rs : List (List Int)} {n i j : Nat} {v : Int} (G : Good rs n) (hi : i < n) (hj : j < n) (hv : if i = j then v = 0 else 1 ≤ v ∧ v ≤ 1000) : Good (setT rs i j v) n := by
  refine ⟨setT_sq G.sq hi, fun a ha => ?_, fun a b ha hb hab => ?_⟩
  · rw [setT_at G.sq hi hj]
    split
    · rename_i e
      rw [if_pos (by omega)] at hv
      exact hv
    · exact G.diag a ha
  · rw [setT_at G.sq hi hj]
    split
    · rename_i e
      rw [if_neg (by omega)] at hv
      exact hv
    · exact G.off a b ha hb hab
theorem Good.nn {rs : List (List Int)} {n i j : Nat} (G : Good rs n) (hi : i < n) (hj : j < n) : 0 ≤ at2 rs i j := by
  by_cases e : i = j
  · subst e; rw [G.diag i hi]; omega
  · have := G.off i j hi hj e; omega
abbrev ssw (n : Nat) (t : Int) (z4 z5 z6 z7 : Option Va) : Ev := [some (.ref 0), some (.int (n : Nat)), some (.int t), some (.ref 2), z4, z5, z6, z7]
theorem cr_n {n : Nat} {h : AH} (hn : n ≤ 1000000) : itK srcR (.ok [.int (n : Nat)] h) = .ok ⟨intsF 0 n, []⟩ h := by
  rw [k_it, c_rngN hn, k_it2]
/-- a loop over range(n), n in slot b -/
theorem for_range {b : Nat} {ev : Ev} {h : AH} {m : Nat} {g : GF} {body : SF} (hm : m ≤ 1000000) (hb : ev[b]? = some (some (.int (m : Nat)))) : sFor (iOf (aCons (eVar b) aNil) srcR) g body ev h = loopF [] g body (intsF 0 m) ev h := by
  rw [s_for, s_it, s_cons, s_var, hb, k_var, k_cons, s_nil, k_cons1, cr_n hm, k_for]
section
variable {ys tops : List Va} {n : Nat} {t : Int}
/-- one stage of the least sums -/
theorem stage {m : Nat} {rs : List (List Int)} (hn : n ≤ 10) (hm : m < n) (G : Good rs n) (z4 z6 z7 : Option Va) : ∃ z4' z6' rs',
    sFor (iOf (aCons (eVar 1) (aNil)) srcR) (gNm 4) (sFor (iOf (aCons (eVar 1) (aNil)) srcR) (gNm 6) (sSetIx (eOp oIx (eVar 3) (eVar 4)) (eVar 6) (eAp oMin2 (aCons (eOp oIx (eOp oIx (eVar 3) (eVar 4)) (eVar 6)) (aCons (eOp oAdd (eOp oIx (eOp oIx (eVar 3) (eVar 4)) (eVar 5)) (eOp oIx (eOp oIx (eVar 3) (eVar 5)) (eVar 6))) (aNil))))))
      (ssw n t z4 (some (.int (m : Nat))) z6 z7) (hp ys tops n rs) = .nx (ssw n t z4' (some (.int (m : Nat))) z6' z7) (hp ys tops n rs') ∧ Good rs' n ∧ ∀ a b, a < n → b < n → at2 rs' a b = min (at2 rs a b) (at2 rs a m + at2 rs m b) := by
  have F0 : ∀ a, a < n → min (at2 rs a m) (at2 rs a m + at2 rs m m) = at2 rs a m := fun a ha => by rw [G.diag m hm]; omega
  have F1 : ∀ b, b < n → min (at2 rs m b) (at2 rs m m + at2 rs m b) = at2 rs m b := fun b hb => by rw [G.diag m hm]; omega
  have inner : ∀ (i : Nat), i < n → ∀ (z6 : Option Va) (rc : List (List Int)), Good rc n → (∀ a b, a < n → b < n → at2 rc a b = if a < i then min (at2 rs a b) (at2 rs a m + at2 rs m b) else at2 rs a b) → ∃ z6' rc',
      sFor (iOf (aCons (eVar 1) (aNil)) srcR) (gNm 6) (sSetIx (eOp oIx (eVar 3) (eVar 4)) (eVar 6) (eAp oMin2 (aCons (eOp oIx (eOp oIx (eVar 3) (eVar 4)) (eVar 6)) (aCons (eOp oAdd (eOp oIx (eOp oIx (eVar 3) (eVar 4)) (eVar 5)) (eOp oIx (eOp oIx (eVar 3) (eVar 5)) (eVar 6))) (aNil)))))
        (ssw n t (some (.int (i : Nat))) (some (.int (m : Nat))) z6 z7) (hp ys tops n rc) = .nx (ssw n t (some (.int (i : Nat))) (some (.int (m : Nat))) z6' z7) (hp ys tops n rc') ∧ Good rc' n ∧ ∀ a b, a < n → b < n → at2 rc' a b = if a < i + 1 then min (at2 rs a b) (at2 rs a m + at2 rs m b) else at2 rs a b := by
    intro i hi z6 rc Gc hc
    rw [for_range (m := n) (by omega) rfl]
    have := loop_inv (gsl := []) (gf := gNm 6) (sf := sSetIx (eOp oIx (eVar 3) (eVar 4)) (eVar 6) (eAp oMin2 (aCons (eOp oIx (eOp oIx (eVar 3) (eVar 4)) (eVar 6)) (aCons (eOp oAdd (eOp oIx (eOp oIx (eVar 3) (eVar 4)) (eVar 5)) (eOp oIx (eOp oIx (eVar 3) (eVar 5)) (eVar 6))) (aNil))))) (Q := fun r => ∃ z6' rc', r = .nx (ssw n t (some (.int (i : Nat))) (some (.int (m : Nat))) z6' z7) (hp ys tops n rc') ∧ Good rc' n ∧ ∀ a b, a < n → b < n → at2 rc' a b = if a < i + 1 then min (at2 rs a b) (at2 rs a m + at2 rs m b) else at2 rs a b)
      (fun j ev h => ∃ z6' rc', ev = ssw n t (some (.int (i : Nat))) (some (.int (m : Nat))) z6' z7 ∧ h = hp ys tops n rc' ∧ Good rc' n ∧ ∀ a b, a < n → b < n → at2 rc' a b = if a < i ∨ (a = i ∧ b < j) then min (at2 rs a b) (at2 rs a m + at2 rs m b) else at2 rs a b)
      (intsF 0 n) 0 _ _ ⟨z6, rc, rfl, rfl, Gc, fun a b ha hb => by rw [hc a b ha hb]; simp⟩ (fun _ _ _ _ _ _ => rfl) ?_ ?_
    · exact this
    · rintro j v ev h hj ⟨z6', rc', rfl, rfl, G', hq⟩
      obtain ⟨hjn, rfl⟩ := intsF_at0 hj
      simp only [Nat.zero_add] at hq ⊢
      refine ⟨_, rfl, ?_⟩
      have v1 : at2 rc' i j = at2 rs i j := by rw [hq i j hi hjn, if_neg (by omega)]
      have v2 : at2 rc' i m = at2 rs i m := by
        rw [hq i m hi hm]
        split
        · exact F0 i hi
        · rfl
      have v3 : at2 rc' m j = at2 rs m j := by
        rw [hq m j hm hjn]
        split
        · exact F1 j hjn
        · rfl
      have ev0 : ∀ (f : EF) (w : Int), f (ssw n t (some (.int (i : Nat))) (some (.int (m : Nat))) (some (.int (j : Nat))) z7) (hp ys tops n rc') = .ok (.int w) (hp ys tops n rc') → sSetIx (eOp oIx (eVar 3) (eVar 4)) (eVar 6) f (ssw n t (some (.int (i : Nat))) (some (.int (m : Nat))) (some (.int (j : Nat))) z7) (hp ys tops n rc') = .nx (ssw n t (some (.int (i : Nat))) (some (.int (m : Nat))) (some (.int (j : Nat))) z7) (hp ys tops n (setT rc' i j w)) :=
        fun f w hf => set_cell G'.sq hi hjn rfl rfl rfl hf
      have e1 := ix_cell (ys := ys) (tops := tops) G'.sq (a := 3) (b := 4) (c := 6) hi hjn (ev := ssw n t (some (.int (i : Nat))) (some (.int (m : Nat))) (some (.int (j : Nat))) z7) rfl rfl rfl
      have e2 := ix_cell (ys := ys) (tops := tops) G'.sq (a := 3) (b := 4) (c := 5) hi hm (ev := ssw n t (some (.int (i : Nat))) (some (.int (m : Nat))) (some (.int (j : Nat))) z7) rfl rfl rfl
      have e3 := ix_cell (ys := ys) (tops := tops) G'.sq (a := 3) (b := 5) (c := 6) hm hjn (ev := ssw n t (some (.int (i : Nat))) (some (.int (m : Nat))) (some (.int (j : Nat))) z7) rfl rfl rfl
      have ef := ev0 (eAp oMin2 (aCons (eOp oIx (eOp oIx (eVar 3) (eVar 4)) (eVar 6)) (aCons (eOp oAdd (eOp oIx (eOp oIx (eVar 3) (eVar 4)) (eVar 5)) (eOp oIx (eOp oIx (eVar 3) (eVar 5)) (eVar 6))) (aNil)))) _ (by
        rw [s_ap, s_cons, e1, k_cons, s_cons, s_op, e2, k_op, e3, k_op1, o_add, k_o, k_cons, s_nil, k_cons1, k_cons1, k_ap, o_min, k_o])
      refine .inl ⟨_, _, ef, some (.int (j : Nat)), _, rfl, rfl, ?_, fun a b ha hb => ?_⟩
      · refine G'.set hi hjn ?_
        have g2 := G'.nn hi hm
        have g3 := G'.nn hm hjn
        by_cases e : i = j
        · subst e
          rw [if_pos rfl, G'.diag i hi]
          split <;> omega
        · rw [if_neg e]
          have g1 := G'.off i j hi hjn e
          have g4 : 1 ≤ at2 rc' i m + at2 rc' m j := by
            by_cases e2 : i = m
            · subst e2
              have := G'.off i j hi hjn e
              omega
            · have := G'.off i m hi hm e2
              omega
          split <;> omega
      · rw [setT_at G'.sq hi hjn]
        by_cases e : a = i ∧ b = j
        · obtain ⟨rfl, rfl⟩ := e
          have c : a < a ∨ a = a ∧ b < b + 1 := by omega
          rw [if_pos ⟨rfl, rfl⟩]
          rw [if_pos c, v1, v2, v3]
          split <;> omega
        · rw [if_neg e, hq a b ha hb]
          by_cases e2 : a < i ∨ (a = i ∧ b < j)
          · rw [if_pos e2, if_pos (by omega)]
          · rw [if_neg e2, if_neg (by omega)]
    · rintro ev h ⟨z6', rc', rfl, rfl, G', hq⟩
      refine ⟨z6', rc', rfl, G', fun a b ha hb => ?_⟩
      rw [hq a b ha hb, ints_len]
      by_cases e2 : a < i + 1
      · rw [if_pos (by omega), if_pos e2]
      · rw [if_neg (by omega), if_neg e2]
  rw [for_range (m := n) (by omega) rfl]
  have := loop_inv (gsl := []) (gf := gNm 4) (sf := sFor (iOf (aCons (eVar 1) (aNil)) srcR) (gNm 6) (sSetIx (eOp oIx (eVar 3) (eVar 4)) (eVar 6) (eAp oMin2 (aCons (eOp oIx (eOp oIx (eVar 3) (eVar 4)) (eVar 6)) (aCons (eOp oAdd (eOp oIx (eOp oIx (eVar 3) (eVar 4)) (eVar 5)) (eOp oIx (eOp oIx (eVar 3) (eVar 5)) (eVar 6))) (aNil)))))) (Q := fun r => ∃ z4' z6' rs', r = .nx (ssw n t z4' (some (.int (m : Nat))) z6' z7) (hp ys tops n rs') ∧ Good rs' n ∧ ∀ a b, a < n → b < n → at2 rs' a b = min (at2 rs a b) (at2 rs a m + at2 rs m b))
    (fun i ev h => ∃ z4' z6' rc', ev = ssw n t z4' (some (.int (m : Nat))) z6' z7 ∧ h = hp ys tops n rc' ∧ Good rc' n ∧ ∀ a b, a < n → b < n → at2 rc' a b = if a < i then min (at2 rs a b) (at2 rs a m + at2 rs m b) else at2 rs a b)
    (intsF 0 n) 0 _ _ ⟨z4, z6, rs, rfl, rfl, G, fun a b ha hb => by simp⟩ (fun _ _ _ _ _ _ => rfl) ?_ ?_
  · exact this
  · rintro i v ev h hi ⟨z4', z6', rc', rfl, rfl, G', hq⟩
    obtain ⟨hin, rfl⟩ := intsF_at0 hi
    simp only [Nat.zero_add] at hq ⊢
    obtain ⟨z6'', rc'', e, G'', hq'⟩ := inner i hin z6' rc' G' hq
    exact ⟨_, rfl, .inl ⟨_, _, e, some (.int (i : Nat)), z6'', rc'', rfl, rfl, G'', hq'⟩⟩
  · rintro ev h ⟨z4', z6', rc', rfl, rfl, G', hq⟩
    refine ⟨z4', z6', rc', rfl, G', fun a b ha hb => ?_⟩
    rw [hq a b ha hb, ints_len, if_pos (by omega)]
end
end FL

set_option linter.all false
set_option maxRecDepth 100000
set_option maxHeartbeats 4000000
namespace FL
open PySem PySem.Spec PyProof.Rows L2
section
variable {ys tops : List Va} {n : Nat} {t : Int}
theorem mirror {rs : List (List Int)} (hn : n ≤ 10) (G : Good rs n) (z4 z6 z7 : Option Va) : ∃ z4' z6' rs',
    sFor (iOf (aCons (eVar 1) (aNil)) srcR) (gNm 4) (sFor (iOf (aCons (eVar 4) (aNil)) srcR) (gNm 6) (sSetIx (eOp oIx (eVar 3) (eVar 4)) (eVar 6) (eOp oIx (eOp oIx (eVar 3) (eVar 6)) (eVar 4))))
      (ssw n t z4 none z6 z7) (hp ys tops n rs) = .nx (ssw n t z4' none z6' z7) (hp ys tops n rs') ∧ Good rs' n := by
  have inner : ∀ (i : Nat), i < n → ∀ (z6 : Option Va) (rc : List (List Int)), Good rc n → ∃ z6' rc',
      sFor (iOf (aCons (eVar 4) (aNil)) srcR) (gNm 6) (sSetIx (eOp oIx (eVar 3) (eVar 4)) (eVar 6) (eOp oIx (eOp oIx (eVar 3) (eVar 6)) (eVar 4)))
        (ssw n t (some (.int (i : Nat))) none z6 z7) (hp ys tops n rc) = .nx (ssw n t (some (.int (i : Nat))) none z6' z7) (hp ys tops n rc') ∧ Good rc' n := by
    intro i hi z6 rc Gc
    rw [for_range (m := i) (by omega) rfl]
    have := loop_inv (gsl := []) (gf := gNm 6) (sf := sSetIx (eOp oIx (eVar 3) (eVar 4)) (eVar 6) (eOp oIx (eOp oIx (eVar 3) (eVar 6)) (eVar 4))) (Q := fun r => ∃ z6' rc', r = .nx (ssw n t (some (.int (i : Nat))) none z6' z7) (hp ys tops n rc') ∧ Good rc' n)
      (fun j ev h => ∃ z6' rc', ev = ssw n t (some (.int (i : Nat))) none z6' z7 ∧ h = hp ys tops n rc' ∧ Good rc' n)
      (intsF 0 i) 0 _ _ ⟨z6, rc, rfl, rfl, Gc⟩ (fun _ _ _ _ _ _ => rfl) ?_ ?_
    · exact this
    · rintro j v ev h hj ⟨z6', rc', rfl, rfl, G'⟩
      obtain ⟨hjn, rfl⟩ := intsF_at0 hj
      refine ⟨_, rfl, ?_⟩
      have e1 := ix_cell (ys := ys) (tops := tops) G'.sq (a := 3) (b := 6) (c := 4) (i := j) (j := i) (by omega) hi (ev := ssw n t (some (.int (i : Nat))) none (some (.int (j : Nat))) z7) rfl rfl rfl
      have ef := set_cell (ys := ys) (tops := tops) G'.sq (a := 3) (b := 4) (c := 6) (i := i) (j := j) hi (by omega) (ev := ssw n t (some (.int (i : Nat))) none (some (.int (j : Nat))) z7) rfl rfl rfl e1
      refine .inl ⟨_, _, ef, some (.int (j : Nat)), _, rfl, rfl, G'.set hi (by omega) ?_⟩
      rw [if_neg (by omega)]
      exact G'.off j i (by omega) hi (by omega)
    · rintro ev h ⟨z6', rc', rfl, rfl, G'⟩
      exact ⟨z6', rc', rfl, G'⟩
  rw [for_range (m := n) (by omega) rfl]
  have := loop_inv (gsl := []) (gf := gNm 4) (sf := sFor (iOf (aCons (eVar 4) (aNil)) srcR) (gNm 6) (sSetIx (eOp oIx (eVar 3) (eVar 4)) (eVar 6) (eOp oIx (eOp oIx (eVar 3) (eVar 6)) (eVar 4)))) (Q := fun r => ∃ z4' z6' rs', r = .nx (ssw n t z4' none z6' z7) (hp ys tops n rs') ∧ Good rs' n)
    (fun i ev h => ∃ z4' z6' rc', ev = ssw n t z4' none z6' z7 ∧ h = hp ys tops n rc' ∧ Good rc' n)
    (intsF 0 n) 0 _ _ ⟨z4, z6, rs, rfl, rfl, G⟩ (fun _ _ _ _ _ _ => rfl) ?_ ?_
  · exact this
  · rintro i v ev h hi ⟨z4', z6', rc', rfl, rfl, G'⟩
    obtain ⟨hin, rfl⟩ := intsF_at0 hi
    obtain ⟨z6'', rc'', e, G''⟩ := inner i hin z6' rc' G'
    exact ⟨_, rfl, .inl ⟨_, _, e, some (.int (i : Nat)), z6'', rc'', rfl, rfl, G''⟩⟩
  · rintro ev h ⟨z4', z6', rc', rfl, rfl, G'⟩
    exact ⟨z4', z6', rc', rfl, G'⟩
theorem stages {rs : List (List Int)} (hn : n ≤ 10) (G : Good rs n) (z4 z5 z6 z7 : Option Va) : ∃ z4' z5' z6' rs',
    sFor (iOf (aCons (eVar 1) (aNil)) srcR) (gNm 5) (sFor (iOf (aCons (eVar 1) (aNil)) srcR) (gNm 4) (sFor (iOf (aCons (eVar 1) (aNil)) srcR) (gNm 6) (sSetIx (eOp oIx (eVar 3) (eVar 4)) (eVar 6) (eAp oMin2 (aCons (eOp oIx (eOp oIx (eVar 3) (eVar 4)) (eVar 6)) (aCons (eOp oAdd (eOp oIx (eOp oIx (eVar 3) (eVar 4)) (eVar 5)) (eOp oIx (eOp oIx (eVar 3) (eVar 5)) (eVar 6))) (aNil)))))))
      (ssw n t z4 z5 z6 z7) (hp ys tops n rs) = .nx (ssw n t z4' z5' z6' z7) (hp ys tops n rs') ∧ Good rs' n ∧ ∀ i m j, i < n → m < n → j < n → at2 rs' i j ≤ at2 rs' i m + at2 rs' m j := by
  rw [for_range (m := n) (by omega) rfl]
  have := loop_inv (gsl := []) (gf := gNm 5) (sf := sFor (iOf (aCons (eVar 1) (aNil)) srcR) (gNm 4) (sFor (iOf (aCons (eVar 1) (aNil)) srcR) (gNm 6) (sSetIx (eOp oIx (eVar 3) (eVar 4)) (eVar 6) (eAp oMin2 (aCons (eOp oIx (eOp oIx (eVar 3) (eVar 4)) (eVar 6)) (aCons (eOp oAdd (eOp oIx (eOp oIx (eVar 3) (eVar 4)) (eVar 5)) (eOp oIx (eOp oIx (eVar 3) (eVar 5)) (eVar 6))) (aNil))))))) (Q := fun r => ∃ z4' z5' z6' rs', r = .nx (ssw n t z4' z5' z6' z7) (hp ys tops n rs') ∧ Good rs' n ∧ ∀ i m j, i < n → m < n → j < n → at2 rs' i j ≤ at2 rs' i m + at2 rs' m j)
    (fun k ev h => ∃ z4' z5' z6' rc', ev = ssw n t z4' z5' z6' z7 ∧ h = hp ys tops n rc' ∧ Good rc' n ∧ ∀ i m j, i < n → m < k → m < n → j < n → at2 rc' i j ≤ at2 rc' i m + at2 rc' m j)
    (intsF 0 n) 0 _ _ ⟨z4, z5, z6, rs, rfl, rfl, G, fun i m j _ h => absurd h (Nat.not_lt_zero _)⟩ (fun _ _ _ _ _ _ => rfl) ?_ ?_
  · exact this
  · rintro k v ev h hk ⟨z4', z5', z6', rc', rfl, rfl, G', hq⟩
    obtain ⟨hkn, rfl⟩ := intsF_at0 hk
    simp only [Nat.zero_add] at hq ⊢
    obtain ⟨z4'', z6'', rc'', e, G'', hF⟩ := stage (ys := ys) (tops := tops) (t := t) hn hkn G' z4' z6' z7
    refine ⟨_, rfl, .inl ⟨_, _, e, z4'', some (.int (k : Nat)), z6'', rc'', rfl, rfl, G'', fun i m j hi hm hmn hj => ?_⟩⟩
    have d0 := G'.diag k hkn
    have p1 := G'.nn hkn hmn
    have p2 := G'.nn hmn hkn
    rw [hF i j hi hj, hF i m hi hmn, hF m j hmn hj]
    by_cases e2 : m = k
    · subst e2
      omega
    · have a1 := hq i m j hi (by omega) hmn hj
      have a2 := hq i m k hi (by omega) hmn hkn
      have a3 := hq k m j hkn (by omega) hmn hj
      omega
  · rintro ev h ⟨z4', z5', z6', rc', rfl, rfl, G', hq⟩
    exact ⟨z4', z5', z6', rc', rfl, G', fun i m j hi hm hj => hq i m j hi (by rw [ints_len]; omega) hm hj⟩
end
structure RowOk (n i : Nat) (r : List Int) : Prop where
  len : r.length = n
  at_ : r[i]? = some 0
  off : ∀ j, j < n → j ≠ i → ∃ v, r[j]? = some v ∧ 1 ≤ v ∧ v ≤ 1000
theorem good_rows {rs : List (List Int)} {n : Nat} (hl : rs.length = n) (h : ∀ i, i < n → ∃ r, rs[i]? = some r ∧ RowOk n i r) : Good rs n := by
  have S : Sq rs n := ⟨hl, fun r hr => by
    obtain ⟨i, hi⟩ := List.mem_iff_getElem?.mp hr
    have hin : i < n := by have := (List.getElem?_eq_some_iff.mp hi).1; omega
    obtain ⟨r', e, R⟩ := h i hin
    rw [hi] at e
    cases e
    exact R.len⟩
  refine ⟨S, fun i hi => ?_, fun i j hi hj hij => ?_⟩
  · obtain ⟨r, e, R⟩ := h i hi
    obtain ⟨r', e1, e2, e3⟩ := S.get hi
    rw [e] at e1
    cases e1
    have := e3 i hi
    rw [R.at_] at this
    exact (Option.some.inj this).symm
  · obtain ⟨r, e, R⟩ := h i hi
    obtain ⟨r', e1, e2, e3⟩ := S.get hi
    rw [e] at e1
    cases e1
    obtain ⟨v, g1, g2⟩ := R.off j hj (Ne.symm hij)
    have := e3 j hj
    rw [g1] at this
    cases this
    exact g2
theorem hp_len {ys tops : List Va} {k : Nat} {rs : List (List Int)} (h : rs.length = k) : (hp ys tops k rs).length = 3 + k := by
  simp [hp, h]; omega
theorem hp_more {ys tops : List Va} {k : Nat} {rs : List (List Int)} {r : List Int} : (hp ys tops k rs ++ [AO.lst (r.map Va.int)]).set 2 (AO.lst (refL k ++ [Va.ref (3 + k)])) = hp ys tops (k + 1) (rs ++ [r]) := by
  unfold hp
  simp only [List.cons_append, List.set_cons_succ, List.set_cons_zero, List.map_append, List.map_cons, List.map_nil]
  have : refL k ++ [Va.ref (3 + k)] = refL (k + 1) := by
    unfold refL
    rw [List.range_succ, List.map_append]
    rfl
  rw [this]
  rfl
/-- what a list's place stands for, as a tuple -/
def lkV (h : AH) : Va → Va
  | .ref k => (match lstAt h k with | some xs => .tup xs | none => .non)
  | v => v
theorem lkV_ref {h : AH} {k : Nat} {xs : List Va} (e : lstAt h k = some xs) : lkV h (.ref k) = .tup xs := by simp [lkV, e]
theorem sw_tail {ys2 tops : List Va} {n m k : Nat} {t : Int} {rs : List (List Int)} (h2 : 2 ≤ n) (hn : n ≤ 10) (G : Good rs n) (hs2 : St m ys2) (hm : m ≤ k) (z4 z6 : Option Va) :
    Ts ((sSeq (sFor (iOf (aCons (eVar 1) (aNil)) srcR) (gNm 5) (sFor (iOf (aCons (eVar 1) (aNil)) srcR) (gNm 4) (sFor (iOf (aCons (eVar 1) (aNil)) srcR) (gNm 6) (sSetIx (eOp oIx (eVar 3) (eVar 4)) (eVar 6) (eAp oMin2 (aCons (eOp oIx (eOp oIx (eVar 3) (eVar 4)) (eVar 6)) (aCons (eOp oAdd (eOp oIx (eOp oIx (eVar 3) (eVar 4)) (eVar 5)) (eOp oIx (eOp oIx (eVar 3) (eVar 5)) (eVar 6))) (aNil)))))))) (sRet (eAp oTuple (aCons (eLc (iOf1 (eVar 3) srcOf) (gNm 7) (tYesF) (eAp oTuple (aCons (eVar 7) (aNil))) [7]) (aNil))))) (ssw n t z4 none z6 none) (hp ys2 tops n rs)) (fun r => Tk (gcF 1 (endF r)) (fun v h => ∃ sw, v = tabV sw ∧ TabOk sw n ∧ ∃ ys, h = [.lst ys] ∧ St k ys)) := by
  have hlim : lim = 1000000 := rfl
  rw [s_seq]
  obtain ⟨z4', z5', z6', rs', e, G', tri⟩ := stages (ys := ys2) (tops := tops) (t := t) hn G z4 none z6 none
  rw [e, k_seqN]
  have T : TabOk rs' n := ⟨G'.sq.len, h2, hn, G'.sq.row, G'.diag, G'.off, fun i j k hi hj hk => tri i j k hi hj hk⟩
  have cm : compF [(2, refL n)] (gNm 7) tYesF (eAp oTuple (aCons (eVar 7) aNil)) (ewipe (ssw n t z4' z5' z6' none) [7]) (refL n) (hp ys2 tops n rs') = .ok ((refL n).map (lkV (hp ys2 tops n rs'))) (hp ys2 tops n rs') :=
    comp_map (φ := lkV (hp ys2 tops n rs')) (e1 := fun v => ssw n t z4' z5' z6' (some v)) (c_g rfl) _ fun v hv => by
      obtain ⟨a, ha, rfl⟩ := List.mem_map.mp hv
      have ha := List.mem_range.mp ha
      obtain ⟨r, g1, _⟩ := G'.sq.get ha
      refine ⟨rfl, ?_⟩
      rw [s_ap, s_cons, s_var]
      show apK _ (aK _ _ (.ok (.ref (3 + a)) _)) = _
      rw [k_cons, s_nil, k_cons1, k_ap, o_tupL, hp_at g1, k_tupL, k_o, lkV_ref (hp_at g1)]
  have cm2 : ((refL n).map (lkV (hp ys2 tops n rs'))) = rs'.map tI := by
    unfold refL
    rw [List.map_map]
    refine (by_places (xs := rs'.map tI) (n := n) (φ := fun i => lkV (hp ys2 tops n rs') (.ref (3 + i))) (by rw [List.length_map, G'.sq.len]) fun i hi => ?_).symm
    obtain ⟨r, g1, _⟩ := G'.sq.get hi
    rw [List.getElem?_map, g1, lkV_ref (hp_at g1)]
    rfl
  have e6 : (refL n).length < lim := by simp [refL, hlim]; omega
  rw [s_ret, s_ap, s_cons, s_lc, s_it1, s_var]
  show Ts (retK _ (apK _ (aK _ _ (lcK _ _ _ _ _ (it1K srcOf (.ok (.ref 2) _)))))) _
  rw [k_it1, c_L, hp_tab, k_srcL, k_it2, k_lc e6, cm, cm2, k_lc1, k_cons, s_nil, k_cons1, k_ap, o_tupL, lstAt_end, k_tupL, k_o, k_ret, ts_rt, k_endR]
  obtain ⟨x1, x2, x3, hx, _⟩ := id hs2
  have hg := gc1 (v := tabV rs') (ys := ys2) (r := .lst tops :: .lst (refL n) :: rs'.map rowL ++ [.lst (rs'.map tI)]) (inR_tab rs') (by rw [hx]; rfl)
  refine ⟨tabV rs', [.lst ys2], hg, rs', rfl, T, ys2, rfl, ?_⟩
  obtain ⟨a, b, c, q1, q2, q3, q4, q5, q6⟩ := hs2
  exact ⟨a, b, c, q1, q2, q3, q4, q5, by push_cast at q6 ⊢; omega⟩
theorem switching_draw {k n : Nat} {xs : List Va} (hs : St k xs) (hk : k ≤ 100000) (h2 : 2 ≤ n) (hn : n ≤ 10) : Tk (m__law_switching [.ref 0, .int (n : Nat)] [.lst xs]) (fun v h => ∃ sw, v = tabV sw ∧ TabOk sw n ∧ ∃ ys, h = [.lst ys] ∧ St (k + 200) ys) := by
  have hlim : lim = 1000000 := rfl
  unfold m__law_switching
  refine p_fn (by rfl) ?_
  unfold b__law_switching
  simp (disch := first | assumption | omega | (simp only [List.length_cons, List.length_nil]; omega) | exact okI_lt (by omega) (by omega) | exact c_g (by with_unfolding_all rfl) | with_unfolding_all rfl) only [List.replicate, s_var, k_var, s_c, s_op, k_op, k_op1, k_o, s_un, k_un, s_ap, k_ap, s_nil, s_cons, k_cons, k_cons1, s_tB, k_tB, s_and, k_andT, k_andF, s_or, k_orT, k_orF, s_not, k_not, s_eand, k_eandT, k_eandF, s_eor, k_eorT, k_eorF, s_enot, k_enot, s_if, k_ifT, k_ifF, s_isi, i_ii, i_ib, i_it, i_il, i_is, i_bi, i_bb, i_bt, i_ni, i_nb, i_nt, i_ti, i_tb, i_tt, i_si, i_st, s_ch, k_ch, k_ch1, k_ch2T, k_ch2F, s_sl, k_sl, k_sl1, k_sl2, s_lN, s_lS, k_lS, s_seq, k_seqN, k_seqR, k_seqB, k_seqC, k_seqX, s_sN, s_set, k_set, s_sif, k_sifT, k_sifF, s_ret, k_ret, s_exp, k_exp, s_asg, k_asg, k_asg1, s_gNm, s_gTp, s_gNl, s_gCs, k_gCs, s_par, k_par, s_six, k_six, k_six1, k_six2, k_six3, s_aug, k_aug0, k_aug, s_m, k_m, k_m0, k_m1, s_cl, k_cl, s_ck, k_ck, s_it, k_it, k_it2, s_it1, k_it1, s_for, k_for, k_lp, k_lpN, k_lpC, k_lpB, k_lpR, s_lc, k_lc, k_lc1, k_cp, k_cpT, k_cpF, k_cp2, k_cp3, s_yes, k_endN, k_endR, o_add, o_sub, o_mul, o_fdiv, o_mod, o_lt, o_le, o_gt, o_ge, o_eqI, o_neI, o_neR, o_eqR, o_isN1, o_isN2, o_isN3, o_isN4, o_isB1, o_isB2, o_tup, o_lst, o_lenT, o_lenR, o_lenL, k_lenL, o_ixT, o_ixR, o_ixL, k_ixL, k_ix, o_int, o_intB, o_abs, o_max, o_min, o_tupT, o_tupL, k_tupL, o_lstT, o_lstL, k_lstL, o_slT, o_app, k_app, o_isLst, k_isSome, o_cat, o_setAt, k_setAt, k_setAt2, c_T, c_R, c_L, k_srcL, o_all, o_any, o_sum, o_sumTT, k_bdB, k_bdI, k_al, k_an, k_su, s_lpN0, s_lpC0, s_cpN0, s_cpC0, c_r0, c_r1, c_r2, c_r3, c_r4, c_r5, c_r6, c_r7, c_r8, c_r9, c_r10, c_r11, c_r12, s_rev, k_rev, o_revT, s_d0, s_lc2, k_lc2, i_ins, s_fld, k_fld, k_fld1, k_fld2, s_mt, k_mt, k_mt2, s_mk, k_mk, k_mk2, k_mk2X, s_sf, k_sf, k_sf1, s_sfn, k_sfn, k_sfn1, decide_true, decide_false, List.getElem?_cons_zero, List.getElem?_cons_succ, List.set_cons_zero, List.set_cons_succ, Bool.not_true, Bool.not_false, if_true, if_false, Bool.false_eq_true, reduceIte, List.length_cons, List.length_nil, List.map_cons, List.map_nil, List.cons_append, List.nil_append, List.append_nil, lst0, lstS]
  refine p_sq (p_set (p_o1 (draw_l hs (by omega) (by omega) (by omega) ?_)))
  intro d1 ys1 h10 h11 hs1
  have hp1 : ∃ t : Int, atI [Va.int 1, .int 2, .int 4, .int 9, .int 1000] d1 = some (.int t) ∧ 1 ≤ t ∧ t ≤ 1000 := by
    rcases (show d1 = 0 ∨ d1 = 1 ∨ d1 = 2 ∨ d1 = 3 ∨ d1 = 4 by omega) with rfl | rfl | rfl | rfl | rfl
    · exact ⟨1, rfl, by omega, by omega⟩
    · exact ⟨2, rfl, by omega, by omega⟩
    · exact ⟨4, rfl, by omega, by omega⟩
    · exact ⟨9, rfl, by omega, by omega⟩
    · exact ⟨1000, rfl, by omega, by omega⟩
  obtain ⟨t, ht, ht1, ht2⟩ := hp1
  simp (disch := first | assumption | omega | (simp only [List.length_cons, List.length_nil]; omega) | exact okI_lt (by omega) (by omega) | exact c_g (by with_unfolding_all rfl) | with_unfolding_all rfl) only [List.replicate, s_var, k_var, s_c, s_op, k_op, k_op1, k_o, s_un, k_un, s_ap, k_ap, s_nil, s_cons, k_cons, k_cons1, s_tB, k_tB, s_and, k_andT, k_andF, s_or, k_orT, k_orF, s_not, k_not, s_eand, k_eandT, k_eandF, s_eor, k_eorT, k_eorF, s_enot, k_enot, s_if, k_ifT, k_ifF, s_isi, i_ii, i_ib, i_it, i_il, i_is, i_bi, i_bb, i_bt, i_ni, i_nb, i_nt, i_ti, i_tb, i_tt, i_si, i_st, s_ch, k_ch, k_ch1, k_ch2T, k_ch2F, s_sl, k_sl, k_sl1, k_sl2, s_lN, s_lS, k_lS, s_seq, k_seqN, k_seqR, k_seqB, k_seqC, k_seqX, s_sN, s_set, k_set, s_sif, k_sifT, k_sifF, s_ret, k_ret, s_exp, k_exp, s_asg, k_asg, k_asg1, s_gNm, s_gTp, s_gNl, s_gCs, k_gCs, s_par, k_par, s_six, k_six, k_six1, k_six2, k_six3, s_aug, k_aug0, k_aug, s_m, k_m, k_m0, k_m1, s_cl, k_cl, s_ck, k_ck, s_it, k_it, k_it2, s_it1, k_it1, s_for, k_for, k_lp, k_lpN, k_lpC, k_lpB, k_lpR, s_lc, k_lc, k_lc1, k_cp, k_cpT, k_cpF, k_cp2, k_cp3, s_yes, k_endN, k_endR, o_add, o_sub, o_mul, o_fdiv, o_mod, o_lt, o_le, o_gt, o_ge, o_eqI, o_neI, o_neR, o_eqR, o_isN1, o_isN2, o_isN3, o_isN4, o_isB1, o_isB2, o_tup, o_lst, o_lenT, o_lenR, o_lenL, k_lenL, o_ixT, o_ixR, o_ixL, k_ixL, k_ix, o_int, o_intB, o_abs, o_max, o_min, o_tupT, o_tupL, k_tupL, o_lstT, o_lstL, k_lstL, o_slT, o_app, k_app, o_isLst, k_isSome, o_cat, o_setAt, k_setAt, k_setAt2, c_T, c_R, c_L, k_srcL, o_all, o_any, o_sum, o_sumTT, k_bdB, k_bdI, k_al, k_an, k_su, s_lpN0, s_lpC0, s_cpN0, s_cpC0, c_r0, c_r1, c_r2, c_r3, c_r4, c_r5, c_r6, c_r7, c_r8, c_r9, c_r10, c_r11, c_r12, s_rev, k_rev, o_revT, s_d0, s_lc2, k_lc2, i_ins, s_fld, k_fld, k_fld1, k_fld2, s_mt, k_mt, k_mt2, s_mk, k_mk, k_mk2, k_mk2X, s_sf, k_sf, k_sf1, s_sfn, k_sfn, k_sfn1, decide_true, decide_false, List.getElem?_cons_zero, List.getElem?_cons_succ, List.set_cons_zero, List.set_cons_succ, Bool.not_true, Bool.not_false, if_true, if_false, Bool.false_eq_true, reduceIte, List.length_cons, List.length_nil, List.map_cons, List.map_nil, List.cons_append, List.nil_append, List.append_nil, -s_for, lst0, lstS, tk_ok, ts_nx, Nat.zero_add, ht]
  generalize hT : [Va.int 1, .int 2, .int 4, .int 9, .int 1000] = tops
  rw [for_range (m := n) (by omega) rfl]
  refine p_sq (loop_inv (fun i ev h => ∃ (z4 : Option Va) (rs : List (List Int)) (ys : List Va), ev = ssw n t z4 none none none ∧ h = hp ys tops i rs ∧ St (k + 1 + i * n) ys ∧ rs.length = i ∧ ∀ a, a < i → ∃ r, rs[a]? = some r ∧ RowOk n a r) _ 0 _ _
    ⟨none, [], ys1, rfl, rfl, by simpa using hs1, rfl, fun a ha => absurd ha (Nat.not_lt_zero _)⟩ (fun _ _ _ _ _ _ => rfl) ?_ ?_)
  · rintro i v ev h hi ⟨z4, rs, ys, rfl, rfl, hst, hl, hr⟩
    obtain ⟨hin, rfl⟩ := intsF_at0 hi
    simp only [Nat.zero_add] at hst hl hr ⊢
    refine ⟨_, rfl, ?_⟩
    have e6 : (intsF 0 n).length < lim := by rw [ints_len, hlim]; omega
    have il : isLst (.ref 2) (hp ys tops i rs) = true := rfl
    show Ts (sSeq _ _ (ssw n t (some (.int (i : Nat))) none none none) _) _
    have hin2 : i * n + n = (i + 1) * n := by rw [Nat.succ_mul]
    have hb : (i + 1) * n ≤ 100 := by
      have : (i + 1) * n ≤ 10 * 10 := Nat.mul_le_mul (by omega) hn
      omega
    rw [s_seq, s_exp, s_m, s_var]
    show Ts (sqK _ (expK _ (mK _ _ _ (.ok (.ref 2) _)))) _
    rw [k_m, il, k_m0, s_cons, s_lc, s_it, s_cons, s_var]
    show Ts (sqK _ (expK _ (m1K _ _ (aK _ _ (lcK _ _ _ _ _ (itK srcR (aK _ _ (.ok (.int (n : Nat)) _)))))))) _
    rw [k_cons, s_nil, k_cons1, cr_n (by omega), k_lc e6]
    refine p_sq (p_exp (p_m1 (p_a (p_lc1 (comp_inv (fun j acc h => ∃ (r : List Int) (ys' : List Va), acc = r.map Va.int ∧ r.length = j ∧ (∀ x ∈ r, 1 ≤ x ∧ x ≤ 1000) ∧ h = hp ys' tops i rs ∧ St (k + 1 + i * n + j) ys') _ _ 0 [] _
      ⟨[], ys, rfl, rfl, by simp, rfl, hst⟩ (fun _ _ _ _ => rfl) ?_ ?_)))))
    · rintro j v acc h hj ⟨r, ys', rfl, hrl, hra, rfl, hst'⟩
      obtain ⟨hjn, rfl⟩ := intsF_at0 hj
      simp only [Nat.zero_add] at hst' hrl ⊢
      refine ⟨_, rfl, ?_⟩
      show Tk (eOp oAdd (eC (.int 1)) _ _ (.lst ys' :: .lst tops :: .lst (refL i) :: rs.map rowL)) _
      rw [s_op, s_c, k_op, s_cl, s_cons, s_var]
      show Tk (o1K _ _ (clK _ _ (aK _ _ (.ok (.ref 0) _)))) _
      rw [k_cons, s_cons, s_var]
      show Tk (o1K _ _ (clK _ _ (a1K _ (aK _ _ (.ok (.int t) _))))) _
      rw [k_cons, s_nil, k_cons1, k_cons1, k_cl]
      refine p_o1 (draw_l hst' (by omega) (by omega) (by omega) ?_)
      intro d ys'' hd0 hd1 hs''
      rw [k_op1, o_add, k_o, tk_ok]
      refine ⟨r ++ [1 + d], ys'', by simp, by simp [hrl], fun x hx => ?_, rfl, by simpa [Nat.add_assoc] using hs''⟩
      rcases List.mem_append.mp hx with z | z
      · exact hra x z
      · have : x = 1 + d := by simpa using z
        omega
    · rintro out h ⟨r, ys', ho, hrl, hra, rfl, hst'⟩ hol
      rw [List.nil_append] at ho
      subst ho
      rw [ints_len, Nat.zero_add] at hrl hst'
      rw [k_lc1, tk_ok, k_cons, s_nil, k_cons1, tk_ok, k_m1, hp_len hl]
      have ea : oAppend (.ref 2) [.ref (3 + i)] (hp ys' tops i rs ++ [.lst (r.map Va.int)]) = some (.non, hp ys' tops (i + 1) (rs ++ [r])) := by
        rw [o_app]
        have : lstAt (hp ys' tops i rs ++ [.lst (r.map Va.int)]) 2 = some (refL i) := rfl
        rw [this, k_app (by simp [refL, hlim]; omega), hp_more]
      rw [ea, k_o, tk_ok, k_exp, ts_nx, k_seqN]
      have er : (rs ++ [r])[i]? = some r := by rw [List.getElem?_append_right (by omega), hl]; simp
      have e3 : sSetIx (eOp oIx (eVar 3) (eVar 4)) (eVar 4) (eC (.int 0)) (ssw n t (some (.int (i : Nat))) none none none) (hp ys' tops (i + 1) (rs ++ [r])) = .nx (ssw n t (some (.int (i : Nat))) none none none) (hp ys' tops (i + 1) ((rs ++ [r]).set i (r.set i 0))) := by
        rw [s_six, s_c, k_six, ix_row (n := i + 1) (i := i) (by omega) rfl rfl, k_six1, s_var]
        show six2K _ _ _ (.ok (.int (i : Nat)) _) = _
        rw [k_six2, o_setAt, hp_at er, k_setAt, List.length_map, hrl, ixN_nat hin, k_setAt2, k_six3]
        have : (r.map Va.int).set i (.int 0) = (r.set i 0).map Va.int := by rw [List.map_set]
        rw [this, hp_set]
      rw [e3]
      refine .inl ⟨_, _, rfl, some (.int (i : Nat)), _, ys', rfl, rfl, by rw [← hin2, ← Nat.add_assoc]; exact hst', by simp [hl], fun a ha => ?_⟩
      by_cases hai : a = i
      · subst hai
        refine ⟨r.set a 0, List.getElem?_set_self (by simp [hl]), by simp [hrl], List.getElem?_set_self (by omega), fun j hj hja => ?_⟩
        have hjl : j < r.length := by omega
        exact ⟨r[j], by rw [List.getElem?_set_ne (Ne.symm hja)]; exact List.getElem?_eq_getElem hjl, hra _ (List.getElem_mem hjl)⟩
      · obtain ⟨r', g1, g2⟩ := hr a (by omega)
        exact ⟨r', by rw [List.getElem?_set_ne (Ne.symm hai), List.getElem?_append_left (by omega)]; exact g1, g2⟩
  · rintro ev h ⟨z4, rs, ys, rfl, rfl, hst, hl, hr⟩
    rw [ints_len, Nat.zero_add] at hst hl hr
    have hbn : n * n ≤ 100 := by
      have : n * n ≤ 10 * 10 := Nat.mul_le_mul hn hn
      omega
    have G := good_rows hl hr
    rw [k_seqN, s_seq, s_sif, s_tB, s_op, s_cl, s_cons, s_var]
    show Ts (sqK _ (sifK _ _ _ (tBK (oK _ _ _ (clK _ _ (aK _ _ (.ok (.ref 0) _))))))) _
    rw [k_cons, s_cons, s_c, k_cons, s_nil, k_cons1, k_cons1, k_cl, ints_len, Nat.zero_add]
    refine p_sq (p_sif (p_tB (p_o (draw_l (r := .lst tops :: .lst (refL n) :: rs.map rowL) hst (by omega) (by omega) (by omega) ?_))))
    intro d2 ys2 h20 h21 hs2
    show Tk (oK oEq2 _ _ (.ok (.int d2) (hp ys2 tops n rs))) _
    rw [k_op, s_c, k_op1, o_eqI, k_o, tk_ok, k_tB, tk_ok]
    by_cases e0 : d2 = 0
    · rw [decide_eq_true e0, k_sifT]
      obtain ⟨z4', z6', rs', e, G'⟩ := mirror (ys := ys2) (tops := tops) (t := t) hn G z4 none none
      rw [e, ts_nx, k_seqN]
      exact sw_tail h2 hn G' hs2 (by omega) z4' z6'
    · rw [decide_eq_false e0, k_sifF, s_sN, ts_nx, k_seqN]
      exact sw_tail h2 hn G hs2 (by omega) z4 none
end FL

set_option linter.all false
set_option maxRecDepth 100000
set_option maxHeartbeats 4000000
namespace FL
open PySem PySem.Spec PyProof.Rows L2
theorem request_draw {k n : Nat} {xs : List Va} (hs : St k xs) (hk : k ≤ 200000) (h2 : 2 ≤ n) (hn : n ≤ 10) : Tk (m__law_request [.ref 0, .int (n : Nat)] [.lst xs]) (fun v h => ∃ r, v = .tup (r.map oI) ∧ ReqOk r n ∧ ∃ ys, h = [.lst ys] ∧ St (k + 50) ys) := by
  have hlim : lim = 1000000 := rfl
  unfold m__law_request
  refine p_fn (by rfl) ?_
  unfold b__law_request
  simp (disch := first | assumption | omega | (simp only [List.length_cons, List.length_nil]; omega) | exact okI_lt (by omega) (by omega) | exact c_g (by with_unfolding_all rfl) | with_unfolding_all rfl) only [List.replicate, s_var, k_var, s_c, s_op, k_op, k_op1, k_o, s_un, k_un, s_ap, k_ap, s_nil, s_cons, k_cons, k_cons1, s_tB, k_tB, s_and, k_andT, k_andF, s_or, k_orT, k_orF, s_not, k_not, s_eand, k_eandT, k_eandF, s_eor, k_eorT, k_eorF, s_enot, k_enot, s_if, k_ifT, k_ifF, s_isi, i_ii, i_ib, i_it, i_il, i_is, i_bi, i_bb, i_bt, i_ni, i_nb, i_nt, i_ti, i_tb, i_tt, i_si, i_st, s_ch, k_ch, k_ch1, k_ch2T, k_ch2F, s_sl, k_sl, k_sl1, k_sl2, s_lN, s_lS, k_lS, s_seq, k_seqN, k_seqR, k_seqB, k_seqC, k_seqX, s_sN, s_set, k_set, s_sif, k_sifT, k_sifF, s_ret, k_ret, s_exp, k_exp, s_asg, k_asg, k_asg1, s_gNm, s_gTp, s_gNl, s_gCs, k_gCs, s_par, k_par, s_six, k_six, k_six1, k_six2, k_six3, s_aug, k_aug0, k_aug, s_m, k_m, k_m0, k_m1, s_cl, k_cl, s_ck, k_ck, s_it, k_it, k_it2, s_it1, k_it1, s_for, k_for, k_lp, k_lpN, k_lpC, k_lpB, k_lpR, s_lc, k_lc, k_lc1, k_cp, k_cpT, k_cpF, k_cp2, k_cp3, s_yes, k_endN, k_endR, o_add, o_sub, o_mul, o_fdiv, o_mod, o_lt, o_le, o_gt, o_ge, o_eqI, o_neI, o_neR, o_eqR, o_isN1, o_isN2, o_isN3, o_isN4, o_isB1, o_isB2, o_tup, o_lst, o_lenT, o_lenR, o_lenL, k_lenL, o_ixT, o_ixR, o_ixL, k_ixL, k_ix, o_int, o_intB, o_abs, o_max, o_min, o_tupT, o_tupL, k_tupL, o_lstT, o_lstL, k_lstL, o_slT, o_app, k_app, o_isLst, k_isSome, o_cat, o_setAt, k_setAt, k_setAt2, c_T, c_R, c_L, k_srcL, o_all, o_any, o_sum, o_sumTT, k_bdB, k_bdI, k_al, k_an, k_su, s_lpN0, s_lpC0, s_cpN0, s_cpC0, c_r0, c_r1, c_r2, c_r3, c_r4, c_r5, c_r6, c_r7, c_r8, c_r9, c_r10, c_r11, c_r12, s_rev, k_rev, o_revT, s_d0, s_lc2, k_lc2, i_ins, s_fld, k_fld, k_fld1, k_fld2, s_mt, k_mt, k_mt2, s_mk, k_mk, k_mk2, k_mk2X, s_sf, k_sf, k_sf1, s_sfn, k_sfn, k_sfn1, decide_true, decide_false, List.getElem?_cons_zero, List.getElem?_cons_succ, List.set_cons_zero, List.set_cons_succ, Bool.not_true, Bool.not_false, if_true, if_false, Bool.false_eq_true, reduceIte, List.length_cons, List.length_nil, List.map_cons, List.map_nil, List.cons_append, List.nil_append, List.append_nil, -s_for, lst0, lstS]
  refine p_sq (p_set (p_o1 (draw_l hs (by omega) (by omega) (by omega) ?_)))
  intro d1 ys1 h10 h11 hs1
  have hp1 : ∃ t : Int, atI [Va.int 2, .int 3, .int 5, .int 1001] d1 = some (.int t) ∧ 2 ≤ t ∧ t ≤ 1001 := by
    rcases (show d1 = 0 ∨ d1 = 1 ∨ d1 = 2 ∨ d1 = 3 by omega) with rfl | rfl | rfl | rfl
    · exact ⟨2, rfl, by omega, by omega⟩
    · exact ⟨3, rfl, by omega, by omega⟩
    · exact ⟨5, rfl, by omega, by omega⟩
    · exact ⟨1001, rfl, by omega, by omega⟩
  obtain ⟨t, ht, ht1, ht2⟩ := hp1
  simp (disch := first | assumption | omega | (simp only [List.length_cons, List.length_nil]; omega) | exact okI_lt (by omega) (by omega) | exact c_g (by with_unfolding_all rfl) | with_unfolding_all rfl) only [List.replicate, s_var, k_var, s_c, s_op, k_op, k_op1, k_o, s_un, k_un, s_ap, k_ap, s_nil, s_cons, k_cons, k_cons1, s_tB, k_tB, s_and, k_andT, k_andF, s_or, k_orT, k_orF, s_not, k_not, s_eand, k_eandT, k_eandF, s_eor, k_eorT, k_eorF, s_enot, k_enot, s_if, k_ifT, k_ifF, s_isi, i_ii, i_ib, i_it, i_il, i_is, i_bi, i_bb, i_bt, i_ni, i_nb, i_nt, i_ti, i_tb, i_tt, i_si, i_st, s_ch, k_ch, k_ch1, k_ch2T, k_ch2F, s_sl, k_sl, k_sl1, k_sl2, s_lN, s_lS, k_lS, s_seq, k_seqN, k_seqR, k_seqB, k_seqC, k_seqX, s_sN, s_set, k_set, s_sif, k_sifT, k_sifF, s_ret, k_ret, s_exp, k_exp, s_asg, k_asg, k_asg1, s_gNm, s_gTp, s_gNl, s_gCs, k_gCs, s_par, k_par, s_six, k_six, k_six1, k_six2, k_six3, s_aug, k_aug0, k_aug, s_m, k_m, k_m0, k_m1, s_cl, k_cl, s_ck, k_ck, s_it, k_it, k_it2, s_it1, k_it1, s_for, k_for, k_lp, k_lpN, k_lpC, k_lpB, k_lpR, s_lc, k_lc, k_lc1, k_cp, k_cpT, k_cpF, k_cp2, k_cp3, s_yes, k_endN, k_endR, o_add, o_sub, o_mul, o_fdiv, o_mod, o_lt, o_le, o_gt, o_ge, o_eqI, o_neI, o_neR, o_eqR, o_isN1, o_isN2, o_isN3, o_isN4, o_isB1, o_isB2, o_tup, o_lst, o_lenT, o_lenR, o_lenL, k_lenL, o_ixT, o_ixR, o_ixL, k_ixL, k_ix, o_int, o_intB, o_abs, o_max, o_min, o_tupT, o_tupL, k_tupL, o_lstT, o_lstL, k_lstL, o_slT, o_app, k_app, o_isLst, k_isSome, o_cat, o_setAt, k_setAt, k_setAt2, c_T, c_R, c_L, k_srcL, o_all, o_any, o_sum, o_sumTT, k_bdB, k_bdI, k_al, k_an, k_su, s_lpN0, s_lpC0, s_cpN0, s_cpC0, c_r0, c_r1, c_r2, c_r3, c_r4, c_r5, c_r6, c_r7, c_r8, c_r9, c_r10, c_r11, c_r12, s_rev, k_rev, o_revT, s_d0, s_lc2, k_lc2, i_ins, s_fld, k_fld, k_fld1, k_fld2, s_mt, k_mt, k_mt2, s_mk, k_mk, k_mk2, k_mk2X, s_sf, k_sf, k_sf1, s_sfn, k_sfn, k_sfn1, decide_true, decide_false, List.getElem?_cons_zero, List.getElem?_cons_succ, List.set_cons_zero, List.set_cons_succ, Bool.not_true, Bool.not_false, if_true, if_false, Bool.false_eq_true, reduceIte, List.length_cons, List.length_nil, List.map_cons, List.map_nil, List.cons_append, List.nil_append, List.append_nil, -s_for, lst0, lstS, tk_ok, ts_nx, Nat.zero_add, Nat.reduceAdd, ht]
  refine p_sq (p_set (p_o1 (draw_l hs1 (by omega) (by omega) (by omega) ?_)))
  intro d2 ys2 h20 h21 hs2
  have hp2 : ∃ b : Int, atI [Va.int 0, .int 0, .int 2, .int 3] d2 = some (.int b) ∧ 0 ≤ b ∧ b ≤ 3 := by
    rcases (show d2 = 0 ∨ d2 = 1 ∨ d2 = 2 ∨ d2 = 3 by omega) with rfl | rfl | rfl | rfl
    · exact ⟨0, rfl, by omega, by omega⟩
    · exact ⟨0, rfl, by omega, by omega⟩
    · exact ⟨2, rfl, by omega, by omega⟩
    · exact ⟨3, rfl, by omega, by omega⟩
  obtain ⟨b, hb, hb1, hb2⟩ := hp2
  simp (disch := first | assumption | omega | (simp only [List.length_cons, List.length_nil]; omega) | exact okI_lt (by omega) (by omega) | exact c_g (by with_unfolding_all rfl) | with_unfolding_all rfl) only [List.replicate, s_var, k_var, s_c, s_op, k_op, k_op1, k_o, s_un, k_un, s_ap, k_ap, s_nil, s_cons, k_cons, k_cons1, s_tB, k_tB, s_and, k_andT, k_andF, s_or, k_orT, k_orF, s_not, k_not, s_eand, k_eandT, k_eandF, s_eor, k_eorT, k_eorF, s_enot, k_enot, s_if, k_ifT, k_ifF, s_isi, i_ii, i_ib, i_it, i_il, i_is, i_bi, i_bb, i_bt, i_ni, i_nb, i_nt, i_ti, i_tb, i_tt, i_si, i_st, s_ch, k_ch, k_ch1, k_ch2T, k_ch2F, s_sl, k_sl, k_sl1, k_sl2, s_lN, s_lS, k_lS, s_seq, k_seqN, k_seqR, k_seqB, k_seqC, k_seqX, s_sN, s_set, k_set, s_sif, k_sifT, k_sifF, s_ret, k_ret, s_exp, k_exp, s_asg, k_asg, k_asg1, s_gNm, s_gTp, s_gNl, s_gCs, k_gCs, s_par, k_par, s_six, k_six, k_six1, k_six2, k_six3, s_aug, k_aug0, k_aug, s_m, k_m, k_m0, k_m1, s_cl, k_cl, s_ck, k_ck, s_it, k_it, k_it2, s_it1, k_it1, s_for, k_for, k_lp, k_lpN, k_lpC, k_lpB, k_lpR, s_lc, k_lc, k_lc1, k_cp, k_cpT, k_cpF, k_cp2, k_cp3, s_yes, k_endN, k_endR, o_add, o_sub, o_mul, o_fdiv, o_mod, o_lt, o_le, o_gt, o_ge, o_eqI, o_neI, o_neR, o_eqR, o_isN1, o_isN2, o_isN3, o_isN4, o_isB1, o_isB2, o_tup, o_lst, o_lenT, o_lenR, o_lenL, k_lenL, o_ixT, o_ixR, o_ixL, k_ixL, k_ix, o_int, o_intB, o_abs, o_max, o_min, o_tupT, o_tupL, k_tupL, o_lstT, o_lstL, k_lstL, o_slT, o_app, k_app, o_isLst, k_isSome, o_cat, o_setAt, k_setAt, k_setAt2, c_T, c_R, c_L, k_srcL, o_all, o_any, o_sum, o_sumTT, k_bdB, k_bdI, k_al, k_an, k_su, s_lpN0, s_lpC0, s_cpN0, s_cpC0, c_r0, c_r1, c_r2, c_r3, c_r4, c_r5, c_r6, c_r7, c_r8, c_r9, c_r10, c_r11, c_r12, s_rev, k_rev, o_revT, s_d0, s_lc2, k_lc2, i_ins, s_fld, k_fld, k_fld1, k_fld2, s_mt, k_mt, k_mt2, s_mk, k_mk, k_mk2, k_mk2X, s_sf, k_sf, k_sf1, s_sfn, k_sfn, k_sfn1, decide_true, decide_false, List.getElem?_cons_zero, List.getElem?_cons_succ, List.set_cons_zero, List.set_cons_succ, Bool.not_true, Bool.not_false, if_true, if_false, Bool.false_eq_true, reduceIte, List.length_cons, List.length_nil, List.map_cons, List.map_nil, List.cons_append, List.nil_append, List.append_nil, -s_for, lst0, lstS, tk_ok, ts_nx, Nat.zero_add, Nat.reduceAdd, hb]
  refine p_sq (p_set (draw_l hs2 (by omega) (by omega) (by omega) ?_))
  intro fr ys3 h30 h31 hs3
  obtain ⟨F, hF⟩ : ∃ F : Nat, fr = (F : Nat) := ⟨fr.toNat, by omega⟩
  subst hF
  simp (disch := first | assumption | omega | (simp only [List.length_cons, List.length_nil]; omega) | exact okI_lt (by omega) (by omega) | exact c_g (by with_unfolding_all rfl) | with_unfolding_all rfl) only [List.replicate, s_var, k_var, s_c, s_op, k_op, k_op1, k_o, s_un, k_un, s_ap, k_ap, s_nil, s_cons, k_cons, k_cons1, s_tB, k_tB, s_and, k_andT, k_andF, s_or, k_orT, k_orF, s_not, k_not, s_eand, k_eandT, k_eandF, s_eor, k_eorT, k_eorF, s_enot, k_enot, s_if, k_ifT, k_ifF, s_isi, i_ii, i_ib, i_it, i_il, i_is, i_bi, i_bb, i_bt, i_ni, i_nb, i_nt, i_ti, i_tb, i_tt, i_si, i_st, s_ch, k_ch, k_ch1, k_ch2T, k_ch2F, s_sl, k_sl, k_sl1, k_sl2, s_lN, s_lS, k_lS, s_seq, k_seqN, k_seqR, k_seqB, k_seqC, k_seqX, s_sN, s_set, k_set, s_sif, k_sifT, k_sifF, s_ret, k_ret, s_exp, k_exp, s_asg, k_asg, k_asg1, s_gNm, s_gTp, s_gNl, s_gCs, k_gCs, s_par, k_par, s_six, k_six, k_six1, k_six2, k_six3, s_aug, k_aug0, k_aug, s_m, k_m, k_m0, k_m1, s_cl, k_cl, s_ck, k_ck, s_it, k_it, k_it2, s_it1, k_it1, s_for, k_for, k_lp, k_lpN, k_lpC, k_lpB, k_lpR, s_lc, k_lc, k_lc1, k_cp, k_cpT, k_cpF, k_cp2, k_cp3, s_yes, k_endN, k_endR, o_add, o_sub, o_mul, o_fdiv, o_mod, o_lt, o_le, o_gt, o_ge, o_eqI, o_neI, o_neR, o_eqR, o_isN1, o_isN2, o_isN3, o_isN4, o_isB1, o_isB2, o_tup, o_lst, o_lenT, o_lenR, o_lenL, k_lenL, o_ixT, o_ixR, o_ixL, k_ixL, k_ix, o_int, o_intB, o_abs, o_max, o_min, o_tupT, o_tupL, k_tupL, o_lstT, o_lstL, k_lstL, o_slT, o_app, k_app, o_isLst, k_isSome, o_cat, o_setAt, k_setAt, k_setAt2, c_T, c_R, c_L, k_srcL, o_all, o_any, o_sum, o_sumTT, k_bdB, k_bdI, k_al, k_an, k_su, s_lpN0, s_lpC0, s_cpN0, s_cpC0, c_r0, c_r1, c_r2, c_r3, c_r4, c_r5, c_r6, c_r7, c_r8, c_r9, c_r10, c_r11, c_r12, s_rev, k_rev, o_revT, s_d0, s_lc2, k_lc2, i_ins, s_fld, k_fld, k_fld1, k_fld2, s_mt, k_mt, k_mt2, s_mk, k_mk, k_mk2, k_mk2X, s_sf, k_sf, k_sf1, s_sfn, k_sfn, k_sfn1, decide_true, decide_false, List.getElem?_cons_zero, List.getElem?_cons_succ, List.set_cons_zero, List.set_cons_succ, Bool.not_true, Bool.not_false, if_true, if_false, Bool.false_eq_true, reduceIte, List.length_cons, List.length_nil, List.map_cons, List.map_nil, List.cons_append, List.nil_append, List.append_nil, -s_for, lst0, lstS, tk_ok, ts_nx, Nat.zero_add, Nat.reduceAdd]
  rw [for_range (m := n) (by omega) rfl]
  refine p_sq (loop_inv (fun j ev h => ∃ (z6 z7 z8 : Option Va) (r : List (Option Int)) (ys : List Va), ev = [some (.ref 0), some (.int (n : Nat)), some (.int t), some (.int b), some (.int (F : Nat)), some (.ref 3), z6, z7, z8] ∧ h = [.lst ys, .lst [.int 2, .int 3, .int 5, .int 1001], .lst [.int 0, .int 0, .int 2, .int 3], .lst (r.map oI)] ∧ St (k + 3 + 2 * j) ys ∧ r.length = j ∧ (∀ c, some c ∈ r → 0 ≤ c ∧ c ≤ 1000) ∧ (F < j → ∃ c, some c ∈ r)) _ 0 _ _
    ⟨none, none, none, [], ys3, rfl, rfl, by simpa using hs3, rfl, by simp, by omega⟩ (fun _ _ _ _ _ _ => rfl) ?_ ?_)
  · rintro j v ev h hj ⟨z6, z7, z8, r, ys, rfl, rfl, hst, hl, hc, hf⟩
    obtain ⟨hjn, rfl⟩ := intsF_at0 hj
    simp only [Nat.zero_add] at hst hl hf ⊢
    refine ⟨_, rfl, ?_⟩
    have hrl : (r.map oI).length < lim := by rw [List.length_map, hlim]; omega
    simp (disch := first | assumption | omega | (simp only [List.length_cons, List.length_nil]; omega) | exact okI_lt (by omega) (by omega) | exact c_g (by with_unfolding_all rfl) | with_unfolding_all rfl) only [List.replicate, s_var, k_var, s_c, s_op, k_op, k_op1, k_o, s_un, k_un, s_ap, k_ap, s_nil, s_cons, k_cons, k_cons1, s_tB, k_tB, s_and, k_andT, k_andF, s_or, k_orT, k_orF, s_not, k_not, s_eand, k_eandT, k_eandF, s_eor, k_eorT, k_eorF, s_enot, k_enot, s_if, k_ifT, k_ifF, s_isi, i_ii, i_ib, i_it, i_il, i_is, i_bi, i_bb, i_bt, i_ni, i_nb, i_nt, i_ti, i_tb, i_tt, i_si, i_st, s_ch, k_ch, k_ch1, k_ch2T, k_ch2F, s_sl, k_sl, k_sl1, k_sl2, s_lN, s_lS, k_lS, s_seq, k_seqN, k_seqR, k_seqB, k_seqC, k_seqX, s_sN, s_set, k_set, s_sif, k_sifT, k_sifF, s_ret, k_ret, s_exp, k_exp, s_asg, k_asg, k_asg1, s_gNm, s_gTp, s_gNl, s_gCs, k_gCs, s_par, k_par, s_six, k_six, k_six1, k_six2, k_six3, s_aug, k_aug0, k_aug, s_m, k_m, k_m0, k_m1, s_cl, k_cl, s_ck, k_ck, s_it, k_it, k_it2, s_it1, k_it1, s_for, k_for, k_lp, k_lpN, k_lpC, k_lpB, k_lpR, s_lc, k_lc, k_lc1, k_cp, k_cpT, k_cpF, k_cp2, k_cp3, s_yes, k_endN, k_endR, o_add, o_sub, o_mul, o_fdiv, o_mod, o_lt, o_le, o_gt, o_ge, o_eqI, o_neI, o_neR, o_eqR, o_isN1, o_isN2, o_isN3, o_isN4, o_isB1, o_isB2, o_tup, o_lst, o_lenT, o_lenR, o_lenL, k_lenL, o_ixT, o_ixR, o_ixL, k_ixL, k_ix, o_int, o_intB, o_abs, o_max, o_min, o_tupT, o_tupL, k_tupL, o_lstT, o_lstL, k_lstL, o_slT, o_app, k_app, o_isLst, k_isSome, o_cat, o_setAt, k_setAt, k_setAt2, c_T, c_R, c_L, k_srcL, o_all, o_any, o_sum, o_sumTT, k_bdB, k_bdI, k_al, k_an, k_su, s_lpN0, s_lpC0, s_cpN0, s_cpC0, c_r0, c_r1, c_r2, c_r3, c_r4, c_r5, c_r6, c_r7, c_r8, c_r9, c_r10, c_r11, c_r12, s_rev, k_rev, o_revT, s_d0, s_lc2, k_lc2, i_ins, s_fld, k_fld, k_fld1, k_fld2, s_mt, k_mt, k_mt2, s_mk, k_mk, k_mk2, k_mk2X, s_sf, k_sf, k_sf1, s_sfn, k_sfn, k_sfn1, decide_true, decide_false, List.getElem?_cons_zero, List.getElem?_cons_succ, List.set_cons_zero, List.set_cons_succ, Bool.not_true, Bool.not_false, if_true, if_false, Bool.false_eq_true, reduceIte, List.length_cons, List.length_nil, List.map_cons, List.map_nil, List.cons_append, List.nil_append, List.append_nil, lst0, lstS, tk_ok, ts_nx, Nat.zero_add, Nat.reduceAdd]
    refine p_sq (p_set (draw_l hst (by omega) (by omega) (by omega) ?_))
    intro d ys4 hd0 hd1 hs4
    have fin : ∀ (bn : Bool) (ys5 : List Va), St (k + 3 + 2 * (j + 1)) ys5 → Ts (sExpr (eM (eVar 5) (aCons (eIf (tAnd (tB (eVar 8)) (tB (eOp oNe2 (eVar 6) (eVar 4)))) (eC .non) (eVar 7)) (aNil)) oAppend) [some (.ref 0), some (.int (n : Nat)), some (.int t), some (.int b), some (.int (F : Nat)), some (.ref 3), some (.int (j : Nat)), some (.int d), some (.bl bn)] [.lst ys5, .lst [.int 2, .int 3, .int 5, .int 1001], .lst [.int 0, .int 0, .int 2, .int 3], .lst (r.map oI)])
        (fun r_1 => (∃ ev2 h2, r_1 = .nx ev2 h2 ∧ ∃ (z6 z7 z8 : Option Va) (r : List (Option Int)) (ys : List Va), ev2 = [some (.ref 0), some (.int (n : Nat)), some (.int t), some (.int b), some (.int (F : Nat)), some (.ref 3), z6, z7, z8] ∧ h2 = [.lst ys, .lst [.int 2, .int 3, .int 5, .int 1001], .lst [.int 0, .int 0, .int 2, .int 3], .lst (r.map oI)] ∧ St (k + 3 + 2 * (j + 1)) ys ∧ r.length = j + 1 ∧ (∀ c, some c ∈ r → 0 ≤ c ∧ c ≤ 1000) ∧ (F < j + 1 → ∃ c, some c ∈ r))) := by
      intro bn ys5 h5
      have go : ∀ c : Option Int, (∀ x, c = some x → 0 ≤ x ∧ x ≤ 1000) → (F = j → ∃ x, c = some x) → ∃ (z6 z7 z8 : Option Va) (r' : List (Option Int)) (ys : List Va), [some (.ref 0), some (.int (n : Nat)), some (.int t), some (.int b), some (.int (F : Nat)), some (.ref 3), some (.int (j : Nat)), some (.int d), some (.bl bn)] = [some (.ref 0), some (.int (n : Nat)), some (.int t), some (.int b), some (.int (F : Nat)), some (.ref 3), z6, z7, z8] ∧ [AO.lst ys5, .lst [.int 2, .int 3, .int 5, .int 1001], .lst [.int 0, .int 0, .int 2, .int 3], .lst (r.map oI ++ [oI c])] = [.lst ys, .lst [.int 2, .int 3, .int 5, .int 1001], .lst [.int 0, .int 0, .int 2, .int 3], .lst (r'.map oI)] ∧ St (k + 3 + 2 * (j + 1)) ys ∧ r'.length = j + 1 ∧ (∀ c, some c ∈ r' → 0 ≤ c ∧ c ≤ 1000) ∧ (F < j + 1 → ∃ c, some c ∈ r') := by
        intro c h1 h2
        refine ⟨_, _, _, r ++ [c], ys5, rfl, by simp, h5, by simp [hl], fun x hx => ?_, fun hx => ?_⟩
        · rcases List.mem_append.mp hx with z | z
          · exact hc x z
          · exact h1 x (List.mem_singleton.mp z).symm
        · by_cases e : F = j
          · obtain ⟨x, hx⟩ := h2 e
            exact ⟨x, by simp [hx]⟩
          · obtain ⟨x, hx⟩ := hf (by omega)
            exact ⟨x, by simp [hx]⟩
      have c1 := go (some d) (fun x hx => by cases hx; omega) (fun _ => ⟨d, rfl⟩)
      cases bn with
      | false =>
        simp (disch := first | assumption | omega | (simp only [List.length_cons, List.length_nil]; omega) | exact okI_lt (by omega) (by omega) | exact c_g (by with_unfolding_all rfl) | with_unfolding_all rfl) only [s_var, k_var, s_c, s_op, k_op, k_op1, k_o, s_un, k_un, s_ap, k_ap, s_nil, s_cons, k_cons, k_cons1, s_tB, k_tB, s_and, k_andT, k_andF, s_or, k_orT, k_orF, s_not, k_not, s_eand, k_eandT, k_eandF, s_eor, k_eorT, k_eorF, s_enot, k_enot, s_if, k_ifT, k_ifF, s_isi, i_ii, i_ib, i_it, i_il, i_is, i_bi, i_bb, i_bt, i_ni, i_nb, i_nt, i_ti, i_tb, i_tt, i_si, i_st, s_ch, k_ch, k_ch1, k_ch2T, k_ch2F, s_sl, k_sl, k_sl1, k_sl2, s_lN, s_lS, k_lS, s_seq, k_seqN, k_seqR, k_seqB, k_seqC, k_seqX, s_sN, s_set, k_set, s_sif, k_sifT, k_sifF, s_ret, k_ret, s_exp, k_exp, s_asg, k_asg, k_asg1, s_gNm, s_gTp, s_gNl, s_gCs, k_gCs, s_par, k_par, s_six, k_six, k_six1, k_six2, k_six3, s_aug, k_aug0, k_aug, s_m, k_m, k_m0, k_m1, s_cl, k_cl, s_ck, k_ck, s_it, k_it, k_it2, s_it1, k_it1, s_for, k_for, k_lp, k_lpN, k_lpC, k_lpB, k_lpR, s_lc, k_lc, k_lc1, k_cp, k_cpT, k_cpF, k_cp2, k_cp3, s_yes, k_endN, k_endR, o_add, o_sub, o_mul, o_fdiv, o_mod, o_lt, o_le, o_gt, o_ge, o_eqI, o_neI, o_neR, o_eqR, o_isN1, o_isN2, o_isN3, o_isN4, o_isB1, o_isB2, o_tup, o_lst, o_lenT, o_lenR, o_lenL, k_lenL, o_ixT, o_ixR, o_ixL, k_ixL, k_ix, o_int, o_intB, o_abs, o_max, o_min, o_tupT, o_tupL, k_tupL, o_lstT, o_lstL, k_lstL, o_slT, o_app, k_app, o_isLst, k_isSome, o_cat, o_setAt, k_setAt, k_setAt2, c_T, c_R, c_L, k_srcL, o_all, o_any, o_sum, o_sumTT, k_bdB, k_bdI, k_al, k_an, k_su, s_lpN0, s_lpC0, s_cpN0, s_cpC0, c_r0, c_r1, c_r2, c_r3, c_r4, c_r5, c_r6, c_r7, c_r8, c_r9, c_r10, c_r11, c_r12, s_rev, k_rev, o_revT, s_d0, s_lc2, k_lc2, i_ins, s_fld, k_fld, k_fld1, k_fld2, s_mt, k_mt, k_mt2, s_mk, k_mk, k_mk2, k_mk2X, s_sf, k_sf, k_sf1, s_sfn, k_sfn, k_sfn1, decide_true, decide_false, List.getElem?_cons_zero, List.getElem?_cons_succ, List.set_cons_zero, List.set_cons_succ, Bool.not_true, Bool.not_false, if_true, if_false, Bool.false_eq_true, reduceIte, List.length_cons, List.length_nil, List.map_cons, List.map_nil, List.cons_append, List.nil_append, List.append_nil, lst0, lstS, ts_nx]
        exact ⟨_, _, rfl, c1⟩
      | true =>
        by_cases e : ((j : Nat) : Int) = (F : Nat)
        · have de := decide_eq_true e
          simp (disch := first | assumption | omega | (simp only [List.length_cons, List.length_nil]; omega) | exact okI_lt (by omega) (by omega) | exact c_g (by with_unfolding_all rfl) | with_unfolding_all rfl) only [s_var, k_var, s_c, s_op, k_op, k_op1, k_o, s_un, k_un, s_ap, k_ap, s_nil, s_cons, k_cons, k_cons1, s_tB, k_tB, s_and, k_andT, k_andF, s_or, k_orT, k_orF, s_not, k_not, s_eand, k_eandT, k_eandF, s_eor, k_eorT, k_eorF, s_enot, k_enot, s_if, k_ifT, k_ifF, s_isi, i_ii, i_ib, i_it, i_il, i_is, i_bi, i_bb, i_bt, i_ni, i_nb, i_nt, i_ti, i_tb, i_tt, i_si, i_st, s_ch, k_ch, k_ch1, k_ch2T, k_ch2F, s_sl, k_sl, k_sl1, k_sl2, s_lN, s_lS, k_lS, s_seq, k_seqN, k_seqR, k_seqB, k_seqC, k_seqX, s_sN, s_set, k_set, s_sif, k_sifT, k_sifF, s_ret, k_ret, s_exp, k_exp, s_asg, k_asg, k_asg1, s_gNm, s_gTp, s_gNl, s_gCs, k_gCs, s_par, k_par, s_six, k_six, k_six1, k_six2, k_six3, s_aug, k_aug0, k_aug, s_m, k_m, k_m0, k_m1, s_cl, k_cl, s_ck, k_ck, s_it, k_it, k_it2, s_it1, k_it1, s_for, k_for, k_lp, k_lpN, k_lpC, k_lpB, k_lpR, s_lc, k_lc, k_lc1, k_cp, k_cpT, k_cpF, k_cp2, k_cp3, s_yes, k_endN, k_endR, o_add, o_sub, o_mul, o_fdiv, o_mod, o_lt, o_le, o_gt, o_ge, o_eqI, o_neI, o_neR, o_eqR, o_isN1, o_isN2, o_isN3, o_isN4, o_isB1, o_isB2, o_tup, o_lst, o_lenT, o_lenR, o_lenL, k_lenL, o_ixT, o_ixR, o_ixL, k_ixL, k_ix, o_int, o_intB, o_abs, o_max, o_min, o_tupT, o_tupL, k_tupL, o_lstT, o_lstL, k_lstL, o_slT, o_app, k_app, o_isLst, k_isSome, o_cat, o_setAt, k_setAt, k_setAt2, c_T, c_R, c_L, k_srcL, o_all, o_any, o_sum, o_sumTT, k_bdB, k_bdI, k_al, k_an, k_su, s_lpN0, s_lpC0, s_cpN0, s_cpC0, c_r0, c_r1, c_r2, c_r3, c_r4, c_r5, c_r6, c_r7, c_r8, c_r9, c_r10, c_r11, c_r12, s_rev, k_rev, o_revT, s_d0, s_lc2, k_lc2, i_ins, s_fld, k_fld, k_fld1, k_fld2, s_mt, k_mt, k_mt2, s_mk, k_mk, k_mk2, k_mk2X, s_sf, k_sf, k_sf1, s_sfn, k_sfn, k_sfn1, decide_true, decide_false, List.getElem?_cons_zero, List.getElem?_cons_succ, List.set_cons_zero, List.set_cons_succ, Bool.not_true, Bool.not_false, if_true, if_false, Bool.false_eq_true, reduceIte, List.length_cons, List.length_nil, List.map_cons, List.map_nil, List.cons_append, List.nil_append, List.append_nil, lst0, lstS, ts_nx, de]
          exact ⟨_, _, rfl, c1⟩
        · have de := decide_eq_false e
          have c2 := go none (fun x hx => by cases hx) (fun hx => absurd hx (by omega))
          simp (disch := first | assumption | omega | (simp only [List.length_cons, List.length_nil]; omega) | exact okI_lt (by omega) (by omega) | exact c_g (by with_unfolding_all rfl) | with_unfolding_all rfl) only [s_var, k_var, s_c, s_op, k_op, k_op1, k_o, s_un, k_un, s_ap, k_ap, s_nil, s_cons, k_cons, k_cons1, s_tB, k_tB, s_and, k_andT, k_andF, s_or, k_orT, k_orF, s_not, k_not, s_eand, k_eandT, k_eandF, s_eor, k_eorT, k_eorF, s_enot, k_enot, s_if, k_ifT, k_ifF, s_isi, i_ii, i_ib, i_it, i_il, i_is, i_bi, i_bb, i_bt, i_ni, i_nb, i_nt, i_ti, i_tb, i_tt, i_si, i_st, s_ch, k_ch, k_ch1, k_ch2T, k_ch2F, s_sl, k_sl, k_sl1, k_sl2, s_lN, s_lS, k_lS, s_seq, k_seqN, k_seqR, k_seqB, k_seqC, k_seqX, s_sN, s_set, k_set, s_sif, k_sifT, k_sifF, s_ret, k_ret, s_exp, k_exp, s_asg, k_asg, k_asg1, s_gNm, s_gTp, s_gNl, s_gCs, k_gCs, s_par, k_par, s_six, k_six, k_six1, k_six2, k_six3, s_aug, k_aug0, k_aug, s_m, k_m, k_m0, k_m1, s_cl, k_cl, s_ck, k_ck, s_it, k_it, k_it2, s_it1, k_it1, s_for, k_for, k_lp, k_lpN, k_lpC, k_lpB, k_lpR, s_lc, k_lc, k_lc1, k_cp, k_cpT, k_cpF, k_cp2, k_cp3, s_yes, k_endN, k_endR, o_add, o_sub, o_mul, o_fdiv, o_mod, o_lt, o_le, o_gt, o_ge, o_eqI, o_neI, o_neR, o_eqR, o_isN1, o_isN2, o_isN3, o_isN4, o_isB1, o_isB2, o_tup, o_lst, o_lenT, o_lenR, o_lenL, k_lenL, o_ixT, o_ixR, o_ixL, k_ixL, k_ix, o_int, o_intB, o_abs, o_max, o_min, o_tupT, o_tupL, k_tupL, o_lstT, o_lstL, k_lstL, o_slT, o_app, k_app, o_isLst, k_isSome, o_cat, o_setAt, k_setAt, k_setAt2, c_T, c_R, c_L, k_srcL, o_all, o_any, o_sum, o_sumTT, k_bdB, k_bdI, k_al, k_an, k_su, s_lpN0, s_lpC0, s_cpN0, s_cpC0, c_r0, c_r1, c_r2, c_r3, c_r4, c_r5, c_r6, c_r7, c_r8, c_r9, c_r10, c_r11, c_r12, s_rev, k_rev, o_revT, s_d0, s_lc2, k_lc2, i_ins, s_fld, k_fld, k_fld1, k_fld2, s_mt, k_mt, k_mt2, s_mk, k_mk, k_mk2, k_mk2X, s_sf, k_sf, k_sf1, s_sfn, k_sfn, k_sfn1, decide_true, decide_false, List.getElem?_cons_zero, List.getElem?_cons_succ, List.set_cons_zero, List.set_cons_succ, Bool.not_true, Bool.not_false, if_true, if_false, Bool.false_eq_true, reduceIte, List.length_cons, List.length_nil, List.map_cons, List.map_nil, List.cons_append, List.nil_append, List.append_nil, lst0, lstS, ts_nx, de]
          exact ⟨_, _, rfl, c2⟩
    have up : ∀ {ys : List Va}, St (k + 3 + 2 * j + 1) ys → St (k + 3 + 2 * (j + 1)) ys := fun ⟨a, b, c, q1, q2, q3, q4, q5, q6⟩ => ⟨a, b, c, q1, q2, q3, q4, q5, by push_cast at q6 ⊢; omega⟩
    by_cases hb0 : 0 < b
    · have db := decide_eq_true hb0
      simp (disch := first | assumption | omega | (simp only [List.length_cons, List.length_nil]; omega) | exact okI_lt (by omega) (by omega) | exact c_g (by with_unfolding_all rfl) | with_unfolding_all rfl) only [List.replicate, s_var, k_var, s_c, s_op, k_op, k_op1, k_o, s_un, k_un, s_ap, k_ap, s_nil, s_cons, k_cons, k_cons1, s_tB, k_tB, s_and, k_andT, k_andF, s_or, k_orT, k_orF, s_not, k_not, s_eand, k_eandT, k_eandF, s_eor, k_eorT, k_eorF, s_enot, k_enot, s_if, k_ifT, k_ifF, s_isi, i_ii, i_ib, i_it, i_il, i_is, i_bi, i_bb, i_bt, i_ni, i_nb, i_nt, i_ti, i_tb, i_tt, i_si, i_st, s_ch, k_ch, k_ch1, k_ch2T, k_ch2F, s_sl, k_sl, k_sl1, k_sl2, s_lN, s_lS, k_lS, s_seq, k_seqN, k_seqR, k_seqB, k_seqC, k_seqX, s_sN, s_set, k_set, s_sif, k_sifT, k_sifF, s_ret, k_ret, s_exp, k_exp, s_asg, k_asg, k_asg1, s_gNm, s_gTp, s_gNl, s_gCs, k_gCs, s_par, k_par, s_six, k_six, k_six1, k_six2, k_six3, s_aug, k_aug0, k_aug, s_m, k_m, k_m0, k_m1, s_cl, k_cl, s_ck, k_ck, s_it, k_it, k_it2, s_it1, k_it1, s_for, k_for, k_lp, k_lpN, k_lpC, k_lpB, k_lpR, s_lc, k_lc, k_lc1, k_cp, k_cpT, k_cpF, k_cp2, k_cp3, s_yes, k_endN, k_endR, o_add, o_sub, o_mul, o_fdiv, o_mod, o_lt, o_le, o_gt, o_ge, o_eqI, o_neI, o_neR, o_eqR, o_isN1, o_isN2, o_isN3, o_isN4, o_isB1, o_isB2, o_tup, o_lst, o_lenT, o_lenR, o_lenL, k_lenL, o_ixT, o_ixR, o_ixL, k_ixL, k_ix, o_int, o_intB, o_abs, o_max, o_min, o_tupT, o_tupL, k_tupL, o_lstT, o_lstL, k_lstL, o_slT, o_app, k_app, o_isLst, k_isSome, o_cat, o_setAt, k_setAt, k_setAt2, c_T, c_R, c_L, k_srcL, o_all, o_any, o_sum, o_sumTT, k_bdB, k_bdI, k_al, k_an, k_su, s_lpN0, s_lpC0, s_cpN0, s_cpC0, c_r0, c_r1, c_r2, c_r3, c_r4, c_r5, c_r6, c_r7, c_r8, c_r9, c_r10, c_r11, c_r12, s_rev, k_rev, o_revT, s_d0, s_lc2, k_lc2, i_ins, s_fld, k_fld, k_fld1, k_fld2, s_mt, k_mt, k_mt2, s_mk, k_mk, k_mk2, k_mk2X, s_sf, k_sf, k_sf1, s_sfn, k_sfn, k_sfn1, decide_true, decide_false, List.getElem?_cons_zero, List.getElem?_cons_succ, List.set_cons_zero, List.set_cons_succ, Bool.not_true, Bool.not_false, if_true, if_false, Bool.false_eq_true, reduceIte, List.length_cons, List.length_nil, List.map_cons, List.map_nil, List.cons_append, List.nil_append, List.append_nil, -s_exp, lst0, lstS, tk_ok, ts_nx, Nat.zero_add, Nat.reduceAdd, db]
      refine p_sq (p_set (p_o (draw_l hs4 (by omega) (by omega) (by omega) ?_)))
      intro d' ys5 hd2 hd3 hs5
      simp (disch := first | assumption | omega | (simp only [List.length_cons, List.length_nil]; omega) | exact okI_lt (by omega) (by omega) | exact c_g (by with_unfolding_all rfl) | with_unfolding_all rfl) only [List.replicate, s_var, k_var, s_c, s_op, k_op, k_op1, k_o, s_un, k_un, s_ap, k_ap, s_nil, s_cons, k_cons, k_cons1, s_tB, k_tB, s_and, k_andT, k_andF, s_or, k_orT, k_orF, s_not, k_not, s_eand, k_eandT, k_eandF, s_eor, k_eorT, k_eorF, s_enot, k_enot, s_if, k_ifT, k_ifF, s_isi, i_ii, i_ib, i_it, i_il, i_is, i_bi, i_bb, i_bt, i_ni, i_nb, i_nt, i_ti, i_tb, i_tt, i_si, i_st, s_ch, k_ch, k_ch1, k_ch2T, k_ch2F, s_sl, k_sl, k_sl1, k_sl2, s_lN, s_lS, k_lS, s_seq, k_seqN, k_seqR, k_seqB, k_seqC, k_seqX, s_sN, s_set, k_set, s_sif, k_sifT, k_sifF, s_ret, k_ret, s_exp, k_exp, s_asg, k_asg, k_asg1, s_gNm, s_gTp, s_gNl, s_gCs, k_gCs, s_par, k_par, s_six, k_six, k_six1, k_six2, k_six3, s_aug, k_aug0, k_aug, s_m, k_m, k_m0, k_m1, s_cl, k_cl, s_ck, k_ck, s_it, k_it, k_it2, s_it1, k_it1, s_for, k_for, k_lp, k_lpN, k_lpC, k_lpB, k_lpR, s_lc, k_lc, k_lc1, k_cp, k_cpT, k_cpF, k_cp2, k_cp3, s_yes, k_endN, k_endR, o_add, o_sub, o_mul, o_fdiv, o_mod, o_lt, o_le, o_gt, o_ge, o_eqI, o_neI, o_neR, o_eqR, o_isN1, o_isN2, o_isN3, o_isN4, o_isB1, o_isB2, o_tup, o_lst, o_lenT, o_lenR, o_lenL, k_lenL, o_ixT, o_ixR, o_ixL, k_ixL, k_ix, o_int, o_intB, o_abs, o_max, o_min, o_tupT, o_tupL, k_tupL, o_lstT, o_lstL, k_lstL, o_slT, o_app, k_app, o_isLst, k_isSome, o_cat, o_setAt, k_setAt, k_setAt2, c_T, c_R, c_L, k_srcL, o_all, o_any, o_sum, o_sumTT, k_bdB, k_bdI, k_al, k_an, k_su, s_lpN0, s_lpC0, s_cpN0, s_cpC0, c_r0, c_r1, c_r2, c_r3, c_r4, c_r5, c_r6, c_r7, c_r8, c_r9, c_r10, c_r11, c_r12, s_rev, k_rev, o_revT, s_d0, s_lc2, k_lc2, i_ins, s_fld, k_fld, k_fld1, k_fld2, s_mt, k_mt, k_mt2, s_mk, k_mk, k_mk2, k_mk2X, s_sf, k_sf, k_sf1, s_sfn, k_sfn, k_sfn1, decide_true, decide_false, List.getElem?_cons_zero, List.getElem?_cons_succ, List.set_cons_zero, List.set_cons_succ, Bool.not_true, Bool.not_false, if_true, if_false, Bool.false_eq_true, reduceIte, List.length_cons, List.length_nil, List.map_cons, List.map_nil, List.cons_append, List.nil_append, List.append_nil, -s_exp, lst0, lstS, tk_ok, ts_nx, Nat.zero_add, Nat.reduceAdd]
      obtain ⟨ev2, h2, e1, e2⟩ := fin (decide (d' = 0)) ys5 (by simpa [Nat.mul_add, Nat.add_assoc] using hs5)
      exact .inl ⟨ev2, h2, e1, e2⟩
    · have db := decide_eq_false hb0
      simp (disch := first | assumption | omega | (simp only [List.length_cons, List.length_nil]; omega) | exact okI_lt (by omega) (by omega) | exact c_g (by with_unfolding_all rfl) | with_unfolding_all rfl) only [List.replicate, s_var, k_var, s_c, s_op, k_op, k_op1, k_o, s_un, k_un, s_ap, k_ap, s_nil, s_cons, k_cons, k_cons1, s_tB, k_tB, s_and, k_andT, k_andF, s_or, k_orT, k_orF, s_not, k_not, s_eand, k_eandT, k_eandF, s_eor, k_eorT, k_eorF, s_enot, k_enot, s_if, k_ifT, k_ifF, s_isi, i_ii, i_ib, i_it, i_il, i_is, i_bi, i_bb, i_bt, i_ni, i_nb, i_nt, i_ti, i_tb, i_tt, i_si, i_st, s_ch, k_ch, k_ch1, k_ch2T, k_ch2F, s_sl, k_sl, k_sl1, k_sl2, s_lN, s_lS, k_lS, s_seq, k_seqN, k_seqR, k_seqB, k_seqC, k_seqX, s_sN, s_set, k_set, s_sif, k_sifT, k_sifF, s_ret, k_ret, s_exp, k_exp, s_asg, k_asg, k_asg1, s_gNm, s_gTp, s_gNl, s_gCs, k_gCs, s_par, k_par, s_six, k_six, k_six1, k_six2, k_six3, s_aug, k_aug0, k_aug, s_m, k_m, k_m0, k_m1, s_cl, k_cl, s_ck, k_ck, s_it, k_it, k_it2, s_it1, k_it1, s_for, k_for, k_lp, k_lpN, k_lpC, k_lpB, k_lpR, s_lc, k_lc, k_lc1, k_cp, k_cpT, k_cpF, k_cp2, k_cp3, s_yes, k_endN, k_endR, o_add, o_sub, o_mul, o_fdiv, o_mod, o_lt, o_le, o_gt, o_ge, o_eqI, o_neI, o_neR, o_eqR, o_isN1, o_isN2, o_isN3, o_isN4, o_isB1, o_isB2, o_tup, o_lst, o_lenT, o_lenR, o_lenL, k_lenL, o_ixT, o_ixR, o_ixL, k_ixL, k_ix, o_int, o_intB, o_abs, o_max, o_min, o_tupT, o_tupL, k_tupL, o_lstT, o_lstL, k_lstL, o_slT, o_app, k_app, o_isLst, k_isSome, o_cat, o_setAt, k_setAt, k_setAt2, c_T, c_R, c_L, k_srcL, o_all, o_any, o_sum, o_sumTT, k_bdB, k_bdI, k_al, k_an, k_su, s_lpN0, s_lpC0, s_cpN0, s_cpC0, c_r0, c_r1, c_r2, c_r3, c_r4, c_r5, c_r6, c_r7, c_r8, c_r9, c_r10, c_r11, c_r12, s_rev, k_rev, o_revT, s_d0, s_lc2, k_lc2, i_ins, s_fld, k_fld, k_fld1, k_fld2, s_mt, k_mt, k_mt2, s_mk, k_mk, k_mk2, k_mk2X, s_sf, k_sf, k_sf1, s_sfn, k_sfn, k_sfn1, decide_true, decide_false, List.getElem?_cons_zero, List.getElem?_cons_succ, List.set_cons_zero, List.set_cons_succ, Bool.not_true, Bool.not_false, if_true, if_false, Bool.false_eq_true, reduceIte, List.length_cons, List.length_nil, List.map_cons, List.map_nil, List.cons_append, List.nil_append, List.append_nil, -s_exp, lst0, lstS, tk_ok, ts_nx, Nat.zero_add, Nat.reduceAdd, db]
      obtain ⟨ev2, h2, e1, e2⟩ := fin false ys4 (up hs4)
      exact .inl ⟨ev2, h2, e1, e2⟩
  · rintro ev h ⟨z6, z7, z8, r, ys, rfl, rfl, hst, hl, hc, hf⟩
    rw [ints_len, Nat.zero_add] at hst hl hf
    simp (disch := first | assumption | omega | (simp only [List.length_cons, List.length_nil]; omega) | exact okI_lt (by omega) (by omega) | exact c_g (by with_unfolding_all rfl) | with_unfolding_all rfl) only [List.replicate, s_var, k_var, s_c, s_op, k_op, k_op1, k_o, s_un, k_un, s_ap, k_ap, s_nil, s_cons, k_cons, k_cons1, s_tB, k_tB, s_and, k_andT, k_andF, s_or, k_orT, k_orF, s_not, k_not, s_eand, k_eandT, k_eandF, s_eor, k_eorT, k_eorF, s_enot, k_enot, s_if, k_ifT, k_ifF, s_isi, i_ii, i_ib, i_it, i_il, i_is, i_bi, i_bb, i_bt, i_ni, i_nb, i_nt, i_ti, i_tb, i_tt, i_si, i_st, s_ch, k_ch, k_ch1, k_ch2T, k_ch2F, s_sl, k_sl, k_sl1, k_sl2, s_lN, s_lS, k_lS, s_seq, k_seqN, k_seqR, k_seqB, k_seqC, k_seqX, s_sN, s_set, k_set, s_sif, k_sifT, k_sifF, s_ret, k_ret, s_exp, k_exp, s_asg, k_asg, k_asg1, s_gNm, s_gTp, s_gNl, s_gCs, k_gCs, s_par, k_par, s_six, k_six, k_six1, k_six2, k_six3, s_aug, k_aug0, k_aug, s_m, k_m, k_m0, k_m1, s_cl, k_cl, s_ck, k_ck, s_it, k_it, k_it2, s_it1, k_it1, s_for, k_for, k_lp, k_lpN, k_lpC, k_lpB, k_lpR, s_lc, k_lc, k_lc1, k_cp, k_cpT, k_cpF, k_cp2, k_cp3, s_yes, k_endN, k_endR, o_add, o_sub, o_mul, o_fdiv, o_mod, o_lt, o_le, o_gt, o_ge, o_eqI, o_neI, o_neR, o_eqR, o_isN1, o_isN2, o_isN3, o_isN4, o_isB1, o_isB2, o_tup, o_lst, o_lenT, o_lenR, o_lenL, k_lenL, o_ixT, o_ixR, o_ixL, k_ixL, k_ix, o_int, o_intB, o_abs, o_max, o_min, o_tupT, o_tupL, k_tupL, o_lstT, o_lstL, k_lstL, o_slT, o_app, k_app, o_isLst, k_isSome, o_cat, o_setAt, k_setAt, k_setAt2, c_T, c_R, c_L, k_srcL, o_all, o_any, o_sum, o_sumTT, k_bdB, k_bdI, k_al, k_an, k_su, s_lpN0, s_lpC0, s_cpN0, s_cpC0, c_r0, c_r1, c_r2, c_r3, c_r4, c_r5, c_r6, c_r7, c_r8, c_r9, c_r10, c_r11, c_r12, s_rev, k_rev, o_revT, s_d0, s_lc2, k_lc2, i_ins, s_fld, k_fld, k_fld1, k_fld2, s_mt, k_mt, k_mt2, s_mk, k_mk, k_mk2, k_mk2X, s_sf, k_sf, k_sf1, s_sfn, k_sfn, k_sfn1, decide_true, decide_false, List.getElem?_cons_zero, List.getElem?_cons_succ, List.set_cons_zero, List.set_cons_succ, Bool.not_true, Bool.not_false, if_true, if_false, Bool.false_eq_true, reduceIte, List.length_cons, List.length_nil, List.map_cons, List.map_nil, List.cons_append, List.nil_append, List.append_nil, lst0, lstS, tk_ok, ts_nx, ts_rt, Nat.zero_add, Nat.reduceAdd]
    obtain ⟨x1, x2, x3, hx, q⟩ := id hst
    rw [gc1 (by show inRs 0 _ = true; exact inR_map inR_oI r) (by rw [hx]; rfl), tk_ok]
    exact ⟨r, rfl, ⟨hl, hn, hc, hf (by omega)⟩, ys, rfl, x1, x2, x3, hx, q.1, q.2.1, q.2.2.1, q.2.2.2.1, by have := q.2.2.2.2; push_cast at this ⊢; omega⟩
end FL

set_option linter.all false
set_option maxRecDepth 100000
set_option maxHeartbeats 4000000
namespace FL
open PySem PySem.Spec PyProof.Rows L2
theorem st_plain {k : Nat} {xs : List Va} (h : St k xs) : inRs 0 xs = true ∧ ∀ f, mapRs f xs = xs := by
  obtain ⟨a, b, c, rfl, _⟩ := h
  exact ⟨rfl, fun _ => rfl⟩
theorem St.up {k m : Nat} {xs : List Va} (h : St k xs) (e : k ≤ m) : St m xs := by
  obtain ⟨a, b, c, q1, q2, q3, q4, q5, q6⟩ := h
  exact ⟨a, b, c, q1, q2, q3, q4, q5, by omega⟩
/-- a call that names the stream alone, and gives back plain things -/
theorem at_stream {F : List Va → AH → Rs Va} {args : List Va} {kk : Nat} {xs : List Va} {h : AH} {P : Va → AH → Prop} {C : Va → List Va → Prop} (e0 : refsOfs args = [kk]) (e1 : lstAt h kk = some xs) (e2 : inRs 0 xs = true)
    (q : Tk (F (mapRs (fun _ => 0) args) [.lst xs]) (fun v h' => inR 0 v = true ∧ ∃ ys, h' = [.lst ys] ∧ (∀ f, mapRs f ys = ys) ∧ C v ys)) (k : ∀ v ys, C v ys → P v (h.set kk (.lst ys))) : Tk (callL F args h) P := by
  refine p_loc1 e0 e1 e2 (q.mono ?_)
  rintro v h' ⟨hv, ys, rfl, hm, hc⟩
  have := k v ys hc
  simpa [ins1, bk, hv, mapRO, hm] using this
theorem request_l {k n kk : Nat} {xs : List Va} {h : AH} {P : Va → AH → Prop} (hk : lstAt h kk = some xs) (hs : St k xs) (hk2 : k ≤ 200000) (h2 : 2 ≤ n) (hn : n ≤ 10) (q : ∀ r ys, ReqOk r n → St (k + 50) ys → P (.tup (r.map oI)) (h.set kk (.lst ys))) : Tk (callL m__law_request [.ref kk, .int (n : Nat)] h) P := by
  refine at_stream (C := fun v ys => ∃ r, v = .tup (r.map oI) ∧ ReqOk r n ∧ St (k + 50) ys) rfl hk (st_plain hs).1 ((request_draw hs hk2 h2 hn).mono ?_) ?_
  · rintro v h' ⟨r, rfl, R, ys, rfl, hs'⟩
    exact ⟨by show inRs 0 _ = true; exact inR_map inR_oI r, ys, rfl, (st_plain hs').2, r, rfl, R, hs'⟩
  · rintro v ys ⟨r, rfl, R, hs'⟩
    exact q r ys R hs'
theorem switching_l {k n kk : Nat} {xs : List Va} {h : AH} {P : Va → AH → Prop} (hk : lstAt h kk = some xs) (hs : St k xs) (hk2 : k ≤ 100000) (h2 : 2 ≤ n) (hn : n ≤ 10) (q : ∀ sw ys, TabOk sw n → St (k + 200) ys → P (tabV sw) (h.set kk (.lst ys))) : Tk (callL m__law_switching [.ref kk, .int (n : Nat)] h) P := by
  refine at_stream (C := fun v ys => ∃ sw, v = tabV sw ∧ TabOk sw n ∧ St (k + 200) ys) rfl hk (st_plain hs).1 ((switching_draw hs hk2 h2 hn).mono ?_) ?_
  · rintro v h' ⟨sw, rfl, T, ys, rfl, hs'⟩
    exact ⟨inR_tab sw, ys, rfl, (st_plain hs').2, sw, rfl, T, hs'⟩
  · rintro v ys ⟨sw, rfl, T, hs'⟩
    exact q sw ys T hs'
theorem draw_at {n kk : Nat} {xs : List Va} {t : Int} {h : AH} {P : Va → AH → Prop} (hk : lstAt h kk = some xs) (hs : St n xs) (hn : n ≤ 1000000) (ht : 0 < t) (ht2 : t < 1000000) (q : ∀ d ys, 0 ≤ d → d < t → St (n + 1) ys → P (.int d) (h.set kk (.lst ys))) : Tk (callL m__law_draw [.ref kk, .int t] h) P := by
  refine at_stream (C := fun v ys => ∃ d, v = .int d ∧ 0 ≤ d ∧ d < t ∧ St (n + 1) ys) rfl hk (st_plain hs).1 ?_ ?_
  · obtain ⟨a, b, c, rfl, ha, hb, hb2, hc, hc2⟩ := hs
    show Tk (m__law_draw [.ref 0, .int t] _) _
    by_cases h : 0 < a
    · exact ⟨_, _, draw1 h ht ht2, rfl, _, rfl, fun _ => rfl, _, rfl, Int.emod_nonneg _ (by omega), Int.emod_lt_of_pos _ ht, ⟨_, _, _, rfl, Int.ediv_nonneg ha (by omega), hb, hb2, hc, by omega⟩⟩
    · obtain ⟨d, e⟩ := draw2 (a := a) (b := b) (c := c) h ht ht2 hb hb2 hc (by omega)
      exact ⟨_, _, e, rfl, _, rfl, fun _ => rfl, _, rfl, Int.emod_nonneg _ (by omega), Int.emod_lt_of_pos _ ht, ⟨_, _, _, rfl, ha, hb, hb2, by omega, by push_cast; omega⟩⟩
  · rintro v ys ⟨d, rfl, h1, h2, hs'⟩
    exact q d ys h1 h2 hs'
theorem system_draw {k n m : Nat} {xs : List Va} (hs : St k xs) (hk : k ≤ 50000) (h2 : 2 ≤ n) (hn : n ≤ 10) (hm1 : 1 ≤ m) (hm8 : m ≤ 8) : Tk (m__law_system [.ref 0, .int (n : Nat), .int (m : Nat)] [.lst xs]) (fun v h => ∃ sw rq st, v = sysV sw rq st ∧ SysOk sw rq st n ∧ rq.length = m ∧ ∃ ys, h = [.lst ys] ∧ St (k + 1000) ys) := by
  have hlim : lim = 1000000 := rfl
  have e6 : (intsF 0 m).length < lim := by rw [ints_len, hlim]; omega
  unfold m__law_system
  refine p_fn (by rfl) ?_
  unfold b__law_system
  simp only [List.replicate, List.map_cons, List.map_nil, List.cons_append, List.nil_append, s_seq, s_set, s_lc, s_it, s_cons, s_var, List.getElem?_cons_succ, List.getElem?_cons_zero, k_var, k_cons, s_nil, k_cons1]
  rw [cr_n (by omega), k_lc e6]
  refine p_sq (p_set (p_lc1 (comp_inv (fun j acc h => ∃ (rq : List (List (Option Int))) (ys : List Va), acc = rq.map (fun r => .tup (r.map oI)) ∧ rq.length = j ∧ (∀ r ∈ rq, ReqOk r n) ∧ h = [.lst ys] ∧ St (k + 50 * j) ys) _ _ 0 [] _
    ⟨[], xs, rfl, rfl, by simp, rfl, hs⟩ (fun _ _ _ _ => rfl) ?_ ?_)))
  · rintro j v acc h hj ⟨rq, ys, rfl, hl, hq, rfl, hst⟩
    obtain ⟨hjn, rfl⟩ := intsF_at0 hj
    simp only [Nat.zero_add] at hst hl ⊢
    refine ⟨_, rfl, ?_⟩
    rw [s_cl, s_cons, s_var]
    show Tk (clK _ _ (aK _ _ (.ok (.ref 0) _))) _
    rw [k_cons, s_cons, s_var]
    show Tk (clK _ _ (a1K _ (aK _ _ (.ok (.int (n : Nat)) _)))) _
    rw [k_cons, s_nil, k_cons1, k_cons1, k_cl]
    refine request_l (kk := 0) lst0 hst (by omega) h2 hn ?_
    intro r ys' R hs'
    refine ⟨rq ++ [r], ys', by simp, by simp [hl], fun x hx => ?_, rfl, hs'.up (by omega)⟩
    rcases List.mem_append.mp hx with z | z
    · exact hq x z
    · rw [List.mem_singleton.mp z]; exact R
  · rintro out h ⟨rq, ys, ho, hl, hq, rfl, hst⟩ hol
    rw [List.nil_append] at ho
    subst ho
    rw [ints_len, Nat.zero_add] at hl hst
    simp only [k_lc1, tk_ok, k_set, ts_nx, k_seqN, s_ret, s_ap, s_cons, s_cl, s_var, List.set_cons_zero, List.set_cons_succ, List.getElem?_cons_succ, List.getElem?_cons_zero, k_var, k_cons, s_nil, k_cons1, k_cl, List.append_nil]
    refine p_ret (p_ap (p_a (switching_l (kk := 0) (xs := ys) rfl hst (by omega) h2 hn ?_)))
    intro sw ys2 T hs2
    have l1 : lstAt ((([AO.lst ys] ++ [AO.lst (rq.map fun r => Va.tup (r.map oI))]) : AH).set 0 (AO.lst ys2)) 1 = some (rq.map fun r => .tup (r.map oI)) := rfl
    rw [k_cons, s_cons, s_ap, s_cons, s_var]
    show Tk (a1K _ (aK _ _ (apK _ (aK _ _ (.ok (.ref 1) _))))) _
    rw [k_cons, s_nil, k_cons1, k_ap, o_tupL, l1, k_tupL, k_o, k_cons, s_cons, s_cl, s_cons, s_var]
    show Tk (a1K _ (a1K _ (aK _ _ (clK _ _ (aK _ _ (.ok (.ref 0) _)))))) _
    rw [k_cons, s_cons, s_var]
    show Tk (a1K _ (a1K _ (aK _ _ (clK _ _ (a1K _ (aK _ _ (.ok (.int (n : Nat)) _))))))) _
    rw [k_cons, s_nil, k_cons1, k_cons1, k_cl]
    refine p_a1 (p_a1 (p_a (draw_at (kk := 0) (xs := ys2) rfl hs2 (by omega) (by omega) (by omega) ?_)))
    intro d ys3 hd0 hd1 hs3
    have l3 : ∀ (x y z : Va) (h : AH), oTup [x, y, z] h = some (.tup [x, y, z], h) := fun _ _ _ _ => rfl
    rw [k_cons, s_nil, k_cons1, tk_ok, k_cons1, tk_ok, k_cons1, tk_ok, k_ap, l3, k_o, tk_ok, k_ret, ts_rt, k_endR]
    obtain ⟨x1, x2, x3, hx, _⟩ := id hs3
    have hg := gc1 (v := sysV sw rq d) (ys := ys3) (r := [.lst (rq.map fun r => Va.tup (r.map oI))]) (inR_sys sw rq d) (by rw [hx]; rfl)
    exact ⟨sysV sw rq d, [.lst ys3], hg, sw, rq, d, rfl, ⟨T, by omega, by omega, hq, hd0, hd1⟩, hl, ys3, rfl, hs3.up (by omega)⟩
theorem system_l {k n m kk : Nat} {xs : List Va} {h : AH} {P : Va → AH → Prop} (hk : lstAt h kk = some xs) (hs : St k xs) (hk2 : k ≤ 50000) (h2 : 2 ≤ n) (hn : n ≤ 10) (hm1 : 1 ≤ m) (hm8 : m ≤ 8)
    (q : ∀ sw rq st ys, SysOk sw rq st n → rq.length = m → St (k + 1000) ys → P (sysV sw rq st) (h.set kk (.lst ys))) : Tk (callL m__law_system [.ref kk, .int (n : Nat), .int (m : Nat)] h) P := by
  refine at_stream (C := fun v ys => ∃ sw rq st, v = sysV sw rq st ∧ SysOk sw rq st n ∧ rq.length = m ∧ St (k + 1000) ys) rfl hk (st_plain hs).1 ((system_draw hs hk2 h2 hn hm1 hm8).mono ?_) ?_
  · rintro v h' ⟨sw, rq, st, rfl, S, hl, ys, rfl, hs'⟩
    exact ⟨inR_sys sw rq st, ys, rfl, (st_plain hs').2, sw, rq, st, rfl, S, hl, hs'⟩
  · rintro v ys ⟨sw, rq, st, rfl, S, hl, hs'⟩
    exact q sw rq st ys S hl hs'
end FL

set_option linter.all false
set_option maxRecDepth 100000
set_option maxHeartbeats 4000000
namespace FL
open PySem PySem.Spec PyProof.Rows L2
/-! IS1: trees with lists and empty dicts within: how they read, wherever they lie. -/
theorem mapRs_mapZ {f : Nat → Nat} : ∀ xs : List Va, mapRs f xs = xs.map (mapR f)
  | [] => rfl
  | x :: xs => by rw [mapRs, mapRs_mapZ xs, List.map_cons]
mutual
theorem mapR_idZ : ∀ v : Va, mapR id v = v
  | .ref _ => rfl
  | .tup xs => by rw [mapR, mapRs_idZ xs]
  | .tud xs => by rw [mapR, mapRs_idZ xs]
  | .rol xs => by rw [mapR, mapRs_idZ xs]
  | .exn a d n x => by rw [mapR, mapR_idZ x]
  | .non => rfl
  | .bl _ => rfl
  | .int _ => rfl
  | .str _ => rfl
  | .rp _ => rfl
  | .dv _ => rfl
  | .exo _ => rfl
theorem mapRs_idZ : ∀ xs : List Va, mapRs id xs = xs
  | [] => rfl
  | x :: xs => by rw [mapRs, mapR_idZ x, mapRs_idZ xs]
end
mutual
theorem inR_ltZ {k : Nat} : ∀ {v : Va}, inR k v = true → ∀ a ∈ refsOf v, a < k
  | .ref l, h, a, ha => by rw [List.mem_singleton.mp ha]; exact Nat.blt_eq.mp h
  | .tup xs, h, a, ha => inRs_ltZ (xs := xs) h a ha
  | .tud xs, h, a, ha => inRs_ltZ (xs := xs) h a ha
  | .rol xs, h, a, ha => inRs_ltZ (xs := xs) h a ha
  | .exn _ _ _ x, h, a, ha => inR_ltZ (v := x) h a ha
  | .non, _, _, ha => by cases ha
  | .bl _, _, _, ha => by cases ha
  | .int _, _, _, ha => by cases ha
  | .str _, _, _, ha => by cases ha
  | .rp _, _, _, ha => by cases ha
  | .dv _, _, _, ha => by cases ha
  | .exo _, _, _, ha => by cases ha
theorem inRs_ltZ {k : Nat} : ∀ {xs : List Va}, inRs k xs = true → ∀ a ∈ refsOfs xs, a < k
  | [], _, _, ha => by cases ha
  | x :: xs, h, a, ha => by
    simp only [inRs, Bool.and_eq_true] at h
    rw [refsOfs, List.mem_append] at ha
    rcases ha with ha | ha
    · exact inR_ltZ h.1 a ha
    · exact inRs_ltZ h.2 a ha
end
mutual
theorem mapR_frZ {f : Nat → Nat} : ∀ {v : Va}, inR 0 v = true → mapR f v = v
  | .ref l, h => by simp [inR] at h
  | .tup xs, h => by rw [mapR, mapRs_frZ (xs := xs) h]
  | .tud xs, h => by rw [mapR, mapRs_frZ (xs := xs) h]
  | .rol xs, h => by rw [mapR, mapRs_frZ (xs := xs) h]
  | .exn _ _ _ x, h => by rw [mapR, mapR_frZ (v := x) h]
  | .non, _ => rfl
  | .bl _, _ => rfl
  | .int _, _ => rfl
  | .str _, _ => rfl
  | .rp _, _ => rfl
  | .dv _, _ => rfl
  | .exo _, _ => rfl
theorem mapRs_frZ {f : Nat → Nat} : ∀ {xs : List Va}, inRs 0 xs = true → mapRs f xs = xs
  | [], _ => rfl
  | x :: xs, h => by
    simp only [inRs, Bool.and_eq_true] at h
    rw [mapRs, mapR_frZ h.1, mapRs_frZ h.2]
end
theorem refs_inZ {w : Va} {a : Nat} (hw : a ∈ refsOf w) : ∀ {xs : List Va}, w ∈ xs → a ∈ refsOfs xs
  | x :: xs, h => by
    rw [refsOfs, List.mem_append]
    rcases List.mem_cons.mp h with rfl | h
    · exact .inl hw
    · exact .inr (refs_inZ hw h)
theorem refs_outZ {a : Nat} : ∀ {xs : List Va}, a ∈ refsOfs xs → ∃ w ∈ xs, a ∈ refsOf w
  | x :: xs, h => by
    rw [refsOfs, List.mem_append] at h
    rcases h with h | h
    · exact ⟨x, List.mem_cons_self .., h⟩
    · obtain ⟨w, h1, h2⟩ := refs_outZ h
      exact ⟨w, List.mem_cons_of_mem _ h1, h2⟩
theorem refs_appZ : ∀ {as bs : List Va}, refsOfs (as ++ bs) = refsOfs as ++ refsOfs bs
  | [], _ => rfl
  | a :: as, bs => by rw [List.cons_append, refsOfs, refs_appZ, refsOfs, List.append_assoc]
theorem mapRs_appZ {f : Nat → Nat} {as bs : List Va} : mapRs f (as ++ bs) = mapRs f as ++ mapRs f bs := by rw [mapRs_mapZ, mapRs_mapZ, mapRs_mapZ, List.map_append]
theorem up_getZ {H g : AH} {a : Nat} {o : AO} (h : H[a]? = some o) : (H ++ g)[a]? = some o := by
  rw [List.getElem?_append_left (List.getElem?_eq_some_iff.mp h).1]
  exact h
/-! lists of readings -/
section
variable {F G : Va → Option PyData} {xs ys : List Va} {ds es : List PyData}
theorem pyz_ren {f : Va → Va} : ∀ {xs : List Va} {ds : List PyData}, (∀ x ∈ xs, ∀ d, F x = some d → G (f x) = some d) → toPysF F xs = some ds → toPysF G (xs.map f) = some ds
  | [], _, _, e => e
  | y :: ys, ds, h, e => by
    rw [toPysF] at e
    rw [List.map_cons, toPysF]
    cases e1 : F y with
    | none => rw [e1] at e; cases e
    | some d =>
      cases e2 : toPysF F ys with
      | none => rw [e1, e2] at e; cases e
      | some ds' =>
        rw [e1, e2] at e
        cases e
        rw [h y (List.mem_cons_self ..) d e1, pyz_ren (fun x hx => h x (List.mem_cons_of_mem _ hx)) e2]
theorem pyz_app : ∀ {xs : List Va} {ds : List PyData}, toPysF F xs = some ds → toPysF F ys = some es → toPysF F (xs ++ ys) = some (ds ++ es)
  | [], _, h1, h2 => by cases h1; exact h2
  | a :: as, ds, h1, h2 => by
    rw [toPysF] at h1
    cases e1 : F a with
    | none => rw [e1] at h1; cases h1
    | some d =>
      cases e2 : toPysF F as with
      | none => rw [e1, e2] at h1; cases h1
      | some ds' =>
        rw [e1, e2] at h1
        cases h1
        rw [List.cons_append, toPysF, e1, pyz_app e2 h2]
        rfl
theorem pyz_split : ∀ {xs : List Va} {ds : List PyData}, toPysF F (xs ++ ys) = some ds → ∃ d1 d2, ds = d1 ++ d2 ∧ toPysF F xs = some d1 ∧ toPysF F ys = some d2
  | [], ds, h => ⟨[], ds, rfl, rfl, h⟩
  | a :: as, ds, h => by
    rw [List.cons_append, toPysF] at h
    cases e1 : F a with
    | none => rw [e1] at h; cases h
    | some d =>
      cases e2 : toPysF F (as ++ ys) with
      | none => rw [e1, e2] at h; cases h
      | some ds' =>
        rw [e1, e2] at h
        cases h
        obtain ⟨d1, d2, rfl, q1, q2⟩ := pyz_split e2
        exact ⟨d :: d1, d2, rfl, by rw [toPysF, e1, q1], q2⟩
theorem pyz_one {x : Va} {d : PyData} (h : F x = some d) : toPysF F [x] = some [d] := by rw [toPysF, h]; rfl
theorem pyz_one' {x : Va} (h : toPysF F [x] = some ds) : ∃ d, ds = [d] ∧ F x = some d := by
  rw [toPysF] at h
  cases e : F x with
  | none => rw [e] at h; cases h
  | some d => rw [e] at h; cases h; exact ⟨d, rfl, rfl⟩
theorem pyz_rev : ∀ {xs : List Va} {ds : List PyData}, toPysF F xs = some ds → toPysF F xs.reverse = some ds.reverse
  | [], _, h => by cases h; rfl
  | a :: as, ds, h => by
    rw [toPysF] at h
    cases e1 : F a with
    | none => rw [e1] at h; cases h
    | some d =>
      cases e2 : toPysF F as with
      | none => rw [e1, e2] at h; cases h
      | some ds' =>
        rw [e1, e2] at h
        cases h
        rw [List.reverse_cons, List.reverse_cons]
        exact pyz_app (pyz_rev e2) (pyz_one e1)
theorem pyz_len : ∀ {xs : List Va} {ds : List PyData}, toPysF F xs = some ds → ds.length = xs.length
  | [], _, h => by cases h; rfl
  | a :: as, ds, h => by
    rw [toPysF] at h
    cases e1 : F a with
    | none => rw [e1] at h; cases h
    | some d =>
      cases e2 : toPysF F as with
      | none => rw [e1, e2] at h; cases h
      | some ds' =>
        rw [e1, e2] at h
        cases h
        rw [List.length_cons, List.length_cons, pyz_len e2]
end
theorem py_renE {G G' : AH} {f : Nat → Nat} {S : Nat → Prop} (h1 : ∀ a xs, S a → G'[a]? = some (.lst xs) → G[f a]? = some (.lst (mapRs f xs)) ∧ ∀ b ∈ refsOfs xs, S b)
    (h2 : ∀ a, S a → G'[a]? = some (.dct []) → G[f a]? = some (.dct [])) : ∀ (n m : Nat) (w : Va) (d : PyData), n ≤ m → (∀ a ∈ refsOf w, S a) → toPyE G' n w = some d → toPyE G m (mapR f w) = some d
  | 0, m, w, d, _, _, e => by
    cases w <;> cases m <;> first | exact e | cases e
  | n + 1, 0, w, d, h, _, _ => absurd h (by omega)
  | n + 1, m + 1, w, d, h, hr, e => by
    have lst : ∀ (xs : List Va) (ds : List PyData), (∀ a ∈ refsOfs xs, S a) → toPysF (toPyE G' n) xs = some ds → toPysF (toPyE G m) (mapRs f xs) = some ds := fun xs ds hx q => by
      rw [mapRs_mapZ]
      exact pyz_ren (fun x hm d e => py_renE h1 h2 n m x d (by omega) (fun a ha => hx a (refs_inZ ha hm)) e) q
    cases w with
    | tup xs =>
      rw [toPyE] at e
      rw [mapR, toPyE]
      cases q : toPysF (toPyE G' n) xs with
      | none => rw [q] at e; cases e
      | some ds => rw [q] at e; rw [lst xs ds hr q]; exact e
    | rol xs =>
      rw [toPyE] at e
      rw [mapR, toPyE]
      cases q : toPysF (toPyE G' n) xs with
      | none => rw [q] at e; cases e
      | some ds => rw [q] at e; rw [lst xs ds hr q]; exact e
    | tud xs =>
      rw [toPyE] at e
      rw [mapR, toPyE]
      cases q : toPysF (toPyE G' n) xs with
      | none => rw [q] at e; cases e
      | some ds => rw [q] at e; rw [lst xs ds hr q]; exact e
    | ref l =>
      have hl : S l := hr l (List.mem_singleton.mpr rfl)
      rw [toPyE] at e
      rw [mapR, toPyE]
      split at e
      · rename_i ys hy
        obtain ⟨g1, g2⟩ := h1 l ys hl hy
        rw [g1]
        simp only
        cases q : toPysF (toPyE G' n) ys with
        | none => rw [q] at e; cases e
        | some ds => rw [q] at e; rw [lst ys ds g2 q]; exact e
      · rename_i hy
        rw [h2 l hl hy]
        exact e
      · cases e
    | _ => first | exact e | cases e
/-- data without dicts -/
def noD : Nat → PyData → Bool
  | n + 1, .list ds => ds.all (noD n)
  | n + 1, .tuple ds => ds.all (noD n)
  | _, .dict _ => false
  | _, _ => true
theorem py_ofE {G : AH} : ∀ (n : Nat) (w : Va) (d : PyData), toPyE G n w = some d → toPy G n w = if noD n d then some d else none
  | 0, w, d, e => by
    cases w <;> first | (cases e; rfl) | cases e
  | n + 1, w, d, e => by
    have lst : ∀ (xs : List Va) (ds : List PyData), toPysF (toPyE G n) xs = some ds → toPysF (toPy G n) xs = if ds.all (noD n) then some ds else none := by
      intro xs
      induction xs with
      | nil => intro ds q; cases q; rfl
      | cons x xs ih =>
        intro ds q
        rw [toPysF] at q
        cases e1 : toPyE G n x with
        | none => rw [e1] at q; cases q
        | some d =>
          cases e2 : toPysF (toPyE G n) xs with
          | none => rw [e1, e2] at q; cases q
          | some ds' =>
            rw [e1, e2] at q
            cases q
            rw [toPysF, py_ofE n x d e1, ih ds' e2, List.all_cons]
            cases noD n d <;> cases ds'.all (noD n) <;> rfl
    cases w with
    | tup xs =>
      rw [toPyE] at e
      rw [toPy]
      cases q : toPysF (toPyE G n) xs with
      | none => rw [q] at e; cases e
      | some ds =>
        rw [q] at e
        cases e
        rw [lst xs ds q]
        show _ = if ds.all (noD n) = true then _ else _
        cases ds.all (noD n) <;> rfl
    | rol xs =>
      rw [toPyE] at e
      rw [toPy]
      cases q : toPysF (toPyE G n) xs with
      | none => rw [q] at e; cases e
      | some ds =>
        rw [q] at e
        cases e
        rw [lst xs ds q]
        show _ = if ds.all (noD n) = true then _ else _
        cases ds.all (noD n) <;> rfl
    | tud xs =>
      rw [toPyE] at e
      rw [toPy]
      cases q : toPysF (toPyE G n) xs with
      | none => rw [q] at e; cases e
      | some ds =>
        rw [q] at e
        cases e
        rw [lst xs ds q]
        show _ = if ds.all (noD n) = true then _ else _
        cases ds.all (noD n) <;> rfl
    | ref l =>
      rw [toPyE] at e
      rw [toPy]
      split at e
      · rename_i ys hy
        rw [hy]
        simp only
        cases q : toPysF (toPyE G n) ys with
        | none => rw [q] at e; cases e
        | some ds =>
          rw [q] at e
          cases e
          rw [lst ys ds q]
          show _ = if ds.all (noD n) = true then _ else _
          cases ds.all (noD n) <;> rfl
      · rename_i hy
        rw [hy]
        cases e
        rfl
      · cases e
    | _ => first | (cases e; rfl) | cases e
/-! what such data are -/
theorem allE_can : ∀ {ds : List PyData}, canEs ds = true ↔ ∀ d ∈ ds, canE d = true
  | [] => by simp [canEs]
  | d :: ds => by simp [canEs, allE_can (ds := ds)]
theorem allE_show : ∀ {ds : List PyData}, PyData.showableAll ds = true ↔ ∀ d ∈ ds, d.showable = true
  | [] => by simp [PyData.showableAll]
  | d :: ds => by simp [PyData.showableAll, allE_show (ds := ds)]
theorem allE_dep {n : Nat} : ∀ {ds : List PyData}, PyData.depthAll ds ≤ n ↔ ∀ d ∈ ds, d.depth ≤ n
  | [] => by simp [PyData.depthAll]
  | d :: ds => by
    have := allE_dep (n := n) (ds := ds)
    simp only [PyData.depthAll, List.mem_cons, forall_eq_or_imp, ← this]
    omega
theorem lenE_app : ∀ {ds es : List PyData}, lenEs (ds ++ es) = lenEs ds + lenEs es
  | [], es => by simp [lenEs]
  | d :: ds, es => by rw [List.cons_append, lenEs, lenEs, lenE_app]; omega
theorem lenE_rev : ∀ {ds : List PyData}, lenEs ds.reverse = lenEs ds
  | [] => rfl
  | d :: ds => by rw [List.reverse_cons, lenE_app, lenE_rev, lenEs, lenEs, lenEs]; omega
theorem can_noD : ∀ (n : Nat) (d : PyData), d.depth ≤ n → canE d = true → noD n d = true → d.canLay0 = true ∧ lenB d = lenE d
  | n, .none, _, _, _ => ⟨rfl, rfl⟩
  | n, .bool _, _, _, _ => ⟨rfl, rfl⟩
  | n, .int _, _, _, _ => ⟨rfl, rfl⟩
  | n, .str x, _, h, _ => ⟨h, rfl⟩
  | 0, .list _, h, _, _ => absurd h (by simp [PyData.depth])
  | 0, .tuple _, h, _, _ => absurd h (by simp [PyData.depth])
  | 0, .dict _, _, _, h => by cases h
  | n + 1, .dict _, _, _, h => by cases h
  | n + 1, .list ds, h, hc, hn => by
    have lst : ∀ ds : List PyData, PyData.depthAll ds ≤ n → canEs ds = true → ds.all (noD n) = true → PyData.canLayAll0 ds = true ∧ lenBs ds = lenEs ds := by
      intro ds
      induction ds with
      | nil => intros; exact ⟨rfl, rfl⟩
      | cons d ds ih =>
        intro h1 h2 h3
        rw [canEs, Bool.and_eq_true] at h2
        rw [List.all_cons, Bool.and_eq_true] at h3
        simp only [PyData.depthAll] at h1
        obtain ⟨a1, a2⟩ := can_noD n d (by omega) h2.1 h3.1
        obtain ⟨b1, b2⟩ := ih (by omega) h2.2 h3.2
        exact ⟨by rw [PyData.canLayAll0, a1, b1]; rfl, by rw [lenBs, lenEs, a2, b2]⟩
    obtain ⟨a, b⟩ := lst ds (by have : PyData.depthAll ds + 1 ≤ n + 1 := h; omega) hc hn
    exact ⟨a, by rw [lenB, lenE, b]⟩
  | n + 1, .tuple ds, h, hc, hn => by
    have lst : ∀ ds : List PyData, PyData.depthAll ds ≤ n → canEs ds = true → ds.all (noD n) = true → PyData.canLayAll0 ds = true ∧ lenBs ds = lenEs ds := by
      intro ds
      induction ds with
      | nil => intros; exact ⟨rfl, rfl⟩
      | cons d ds ih =>
        intro h1 h2 h3
        rw [canEs, Bool.and_eq_true] at h2
        rw [List.all_cons, Bool.and_eq_true] at h3
        simp only [PyData.depthAll] at h1
        obtain ⟨a1, a2⟩ := can_noD n d (by omega) h2.1 h3.1
        obtain ⟨b1, b2⟩ := ih (by omega) h2.2 h3.2
        exact ⟨by rw [PyData.canLayAll0, a1, b1]; rfl, by rw [lenBs, lenEs, a2, b2]⟩
    obtain ⟨a, b⟩ := lst ds (by have : PyData.depthAll ds + 1 ≤ n + 1 := h; omega) hc hn
    exact ⟨a, by rw [lenB, lenE, b]⟩
end FL

set_option linter.all false
set_option maxRecDepth 100000
set_option maxHeartbeats 4000000
namespace FL
open PySem PySem.Spec PyProof.Rows L2
/-! IS2: readable trees; their texts; calls that answer by one tree. -/
/-- trees: numbers, None, bools, texts, references, tuples of trees -/
inductive Tz : Va → Prop
  | int (i : Int) : Tz (.int i)
  | non : Tz .non
  | bl (b : Bool) : Tz (.bl b)
  | str (s : Str) : Tz (.str s)
  | ref (a : Nat) : Tz (.ref a)
  | tup (xs : List Va) (h : ∀ x ∈ xs, Tz x) : Tz (.tup xs)
theorem Tz.map {f : Nat → Nat} {w : Va} (t : Tz w) : Tz (mapR f w) := by
  induction t with
  | tup xs h ih =>
    rw [mapR, mapRs_mapZ]
    refine .tup _ fun x hx => ?_
    obtain ⟨y, hy, rfl⟩ := List.mem_map.mp hx
    exact ih y hy
  | int i => exact .int i
  | non => exact .non
  | bl b => exact .bl b
  | str s => exact .str s
  | ref a => exact .ref _
/-- a list of trees: it reads, to depth e, in length at most B -/
structure Rz (e B : Nat) (G : AH) (xs : List Va) : Prop where
  tr : ∀ x ∈ xs, Tz x
  rd : ∃ ds, toPysF (toPyE G e) xs = some ds ∧ PyData.showableAll ds = true ∧ canEs ds = true ∧ PyData.depthAll ds ≤ e ∧ lenEs ds ≤ B
structure Rb (e B : Nat) (G : AH) (w : Va) : Prop where
  tr : Tz w
  rd : ∃ d, toPyE G e w = some d ∧ d.showable = true ∧ canE d = true ∧ d.depth ≤ e ∧ lenE d ≤ B
section
variable {e e' B B' C : Nat} {G G' H g : AH} {w x : Va} {xs ys : List Va} {f : Nat → Nat} {S : Nat → Prop}
theorem Rz.app (h1 : Rz e B G xs) (h2 : Rz e C G ys) : Rz e (B + C) G (xs ++ ys) := by
  obtain ⟨t1, d1, a1, b1, c1, f1, l1⟩ := h1
  obtain ⟨t2, d2, a2, b2, c2, f2, l2⟩ := h2
  refine ⟨fun x hx => (List.mem_append.mp hx).elim (t1 x) (t2 x), d1 ++ d2, pyz_app a1 a2, allE_show.mpr fun d hd => (List.mem_append.mp hd).elim (allE_show.mp b1 d) (allE_show.mp b2 d), allE_can.mpr fun d hd => (List.mem_append.mp hd).elim (allE_can.mp c1 d) (allE_can.mp c2 d), allE_dep.mpr fun d hd => (List.mem_append.mp hd).elim (allE_dep.mp f1 d) (allE_dep.mp f2 d), ?_⟩
  rw [lenE_app]
  omega
theorem Rz.split (h : Rz e B G (xs ++ ys)) : ∃ B1 B2, B1 + B2 ≤ B ∧ Rz e B1 G xs ∧ Rz e B2 G ys := by
  obtain ⟨t, d, a, b, c, f, l⟩ := h
  obtain ⟨d1, d2, rfl, q1, q2⟩ := pyz_split a
  rw [lenE_app] at l
  exact ⟨lenEs d1, lenEs d2, l,
    ⟨fun x hx => t x (List.mem_append_left _ hx), d1, q1, allE_show.mpr fun d hd => allE_show.mp b d (List.mem_append_left _ hd), allE_can.mpr fun d hd => allE_can.mp c d (List.mem_append_left _ hd), allE_dep.mpr fun d hd => allE_dep.mp f d (List.mem_append_left _ hd), Nat.le_refl _⟩,
    ⟨fun x hx => t x (List.mem_append_right _ hx), d2, q2, allE_show.mpr fun d hd => allE_show.mp b d (List.mem_append_right _ hd), allE_can.mpr fun d hd => allE_can.mp c d (List.mem_append_right _ hd), allE_dep.mpr fun d hd => allE_dep.mp f d (List.mem_append_right _ hd), Nat.le_refl _⟩⟩
theorem Rz.rev (h : Rz e B G xs) : Rz e B G xs.reverse := by
  obtain ⟨t, d, a, b, c, f, l⟩ := h
  exact ⟨fun x hx => t x (List.mem_reverse.mp hx), d.reverse, pyz_rev a, allE_show.mpr fun y hy => allE_show.mp b y (List.mem_reverse.mp hy), allE_can.mpr fun y hy => allE_can.mp c y (List.mem_reverse.mp hy), allE_dep.mpr fun y hy => allE_dep.mp f y (List.mem_reverse.mp hy), by rw [lenE_rev]; exact l⟩
theorem Rz.nil : Rz e 0 G [] := ⟨fun _ h => (by cases h), [], rfl, rfl, rfl, Nat.zero_le _, Nat.le_refl _⟩
theorem Rz.mono (h : Rz e B G xs) (hB : B ≤ B') : Rz e B' G xs := by
  obtain ⟨t, d, a, b, c, f, l⟩ := h
  exact ⟨t, d, a, b, c, f, by omega⟩
theorem Rb.one (h : Rb e B G w) : Rz e (B + 2) G [w] := by
  obtain ⟨t, d, a, b, c, f, l⟩ := h
  refine ⟨fun x hx => by rw [List.mem_singleton.mp hx]; exact t, [d], pyz_one a, ?_, ?_, ?_, ?_⟩
  · show (d.showable && true) = true
    rw [b]
    rfl
  · show (canE d && true) = true
    rw [c]
    rfl
  · show max d.depth 0 ≤ e
    omega
  · show lenE d + 2 + 0 ≤ B + 2
    omega
theorem Rz.one (h : Rz e B G [w]) : ∃ C, C + 2 ≤ B ∧ Rb e C G w := by
  obtain ⟨t, ds, a, b, c, f, l⟩ := h
  obtain ⟨d, rfl, q⟩ := pyz_one' a
  have l : lenE d + 2 + 0 ≤ B := l
  exact ⟨lenE d, by omega, t w (List.mem_singleton.mpr rfl), d, q, allE_show.mp b d (List.mem_singleton.mpr rfl), allE_can.mp c d (List.mem_singleton.mpr rfl), allE_dep.mp f d (List.mem_singleton.mpr rfl), Nat.le_refl _⟩
theorem Rz.tup (h : Rz e B G xs) : Rb (e + 1) (B + 3) G (.tup xs) := by
  obtain ⟨t, ds, a, b, c, f, l⟩ := h
  exact ⟨.tup _ t, .tuple ds, by rw [toPyE, a]; rfl, b, c, Nat.succ_le_succ f, Nat.add_le_add_right l 3⟩
theorem Rz.lst (h : Rz e B G xs) {p : Nat} (hp : G[p]? = some (.lst xs)) : Rb (e + 1) (B + 3) G (.ref p) := by
  obtain ⟨t, ds, a, b, c, f, l⟩ := h
  refine ⟨.ref p, .list ds, ?_, b, c, Nat.succ_le_succ f, Nat.add_le_add_right l 3⟩
  rw [toPyE, hp]
  show (toPysF (toPyE G e) xs).map PyData.list = _
  rw [a]
  rfl
theorem Rb.untup (h : Rb (e + 1) B G (.tup xs)) : ∃ C, C + 3 ≤ B ∧ Rz e C G xs := by
  obtain ⟨t, d, a, b, c, f, l⟩ := h
  rw [toPyE] at a
  cases q : toPysF (toPyE G e) xs with
  | none => rw [q] at a; cases a
  | some ds =>
    rw [q] at a
    cases a
    have l : lenEs ds + 3 ≤ B := l
    have f : PyData.depthAll ds + 1 ≤ e + 1 := f
    exact ⟨lenEs ds, l, (by cases t with | tup _ h => exact h), ds, q, b, c, by omega, Nat.le_refl _⟩
theorem Rz.mem (h : Rz e B G xs) (hx : x ∈ xs) : Rb e B G x := by
  obtain ⟨as, bs, rfl⟩ := List.append_of_mem hx
  obtain ⟨B1, B2, hB, _, q⟩ := h.split
  have q : Rz e B2 G ([x] ++ bs) := q
  obtain ⟨C1, C2, hC, q, _⟩ := q.split
  obtain ⟨D, hD, t, d, a, b, c, f, l⟩ := q.one
  exact ⟨t, d, a, b, c, f, by omega⟩
theorem Rb.sub (h : Rb (e + 1) B G (.tup xs)) (hx : x ∈ xs) : Rb e B G x := by
  obtain ⟨C, hC, q⟩ := h.untup
  obtain ⟨t, d, a, b, c, f, l⟩ := q.mem hx
  exact ⟨t, d, a, b, c, f, by omega⟩
theorem Rb.ren (h : Rb e B G' w) (h1 : ∀ a xs, S a → G'[a]? = some (.lst xs) → G[f a]? = some (.lst (mapRs f xs)) ∧ ∀ b ∈ refsOfs xs, S b) (h2 : ∀ a, S a → G'[a]? = some (.dct []) → G[f a]? = some (.dct []))
    (hr : ∀ a ∈ refsOf w, S a) (he : e ≤ e') (hB : B ≤ B') : Rb e' B' G (mapR f w) := by
  obtain ⟨t, d, a, b, c, k, l⟩ := h
  exact ⟨t.map, d, py_renE h1 h2 e e' w d he hr a, b, c, by omega, by omega⟩
/-- the heap changes, but not where the tree looks -/
theorem Rb.keep (h : Rb e B G' w) (h1 : ∀ (a : Nat) (xs : List Va), G'[a]? = some (AO.lst xs) → G[a]? = some (AO.lst xs)) (h2 : ∀ a : Nat, G'[a]? = some (AO.dct []) → G[a]? = some (AO.dct [])) (he : e ≤ e') (hB : B ≤ B') : Rb e' B' G w := by
  have := h.ren (G := G) (f := id) (S := fun _ => True) (e' := e') (B' := B') (fun a xs _ e => ⟨by rw [mapRs_idZ]; exact h1 a xs e, fun _ _ => trivial⟩) (fun a _ e => h2 a e) (fun _ _ => trivial) he hB
  rwa [mapR_idZ] at this
theorem Rb.mono (h : Rb e B G w) (he : e ≤ e') (hB : B ≤ B') : Rb e' B' G w := h.keep (fun _ _ e => e) (fun _ e => e) he hB
theorem Rb.up (h : Rb e B H w) : Rb e B (H ++ g) w := h.keep (fun _ _ e => up_getZ e) (fun _ e => up_getZ e) (Nat.le_refl _) (Nat.le_refl _)
theorem Rb.cut (h : Rb e B (H ++ g) w) (hw : inR H.length w = true) (hH : H.all (inRO H.length) = true) : Rb e B H w := by
  have := h.ren (G := H) (f := id) (S := fun a => a < H.length) (e' := e) (B' := B) (fun a xs ha e => by
    rw [List.getElem?_append_left ha] at e
    refine ⟨by rw [mapRs_idZ]; exact e, ?_⟩
    exact inRs_ltZ (List.all_eq_true.mp hH (.lst xs) (List.mem_of_getElem? e))) (fun a ha e => by rwa [List.getElem?_append_left ha] at e) (inR_ltZ hw) (Nat.le_refl _) (Nat.le_refl _)
  rwa [mapR_idZ] at this
theorem Rb.free (h : Rb e B G' w) (hr : refsOf w = []) : Rb e B G w := by
  have := h.ren (G := G) (f := id) (S := fun _ => False) (e' := e) (B' := B) (fun _ _ z => z.elim) (fun _ z => z.elim) (fun a ha => by rw [hr] at ha; cases ha) (Nat.le_refl _) (Nat.le_refl _)
  rwa [mapR_idZ] at this
theorem Rb.loc {l : Nat} (h : Rb e B H w) (hl : H[l]? = some (.lst xs)) (hx : inRs 0 xs = true) (hr : ∀ a ∈ refsOf w, a = l) : Rb e B [.lst xs] (mapR (fun _ => 0) w) :=
  h.ren (S := fun a => a = l) (fun a ys ha e => by
    subst ha
    rw [hl] at e
    cases e
    refine ⟨?_, fun b hb => ?_⟩
    · rw [mapRs_frZ hx]
      rfl
    · rw [inRs_free hx] at hb
      cases hb) (fun a ha e => by subst ha; rw [hl] at e; cases e) hr (Nat.le_refl _) (Nat.le_refl _)
end
end FL

set_option linter.all false
set_option maxRecDepth 100000
set_option maxHeartbeats 4000000
namespace FL
open PySem PySem.Spec PyProof.Rows L2
/-! IS3: texts of readable trees; calls that answer by one tree. -/
section
variable {e e' B B' C : Nat} {G G' H g : AH} {w x : Va} {xs ys : List Va} {f : Nat → Nat}
theorem pyE_up {d : PyData} (he : e ≤ e') (h : toPyE H e w = some d) : toPyE (H ++ g) e' w = some d := by
  have := py_renE (G := H ++ g) (G' := H) (f := id) (S := fun _ => True) (fun a xs _ e => ⟨by rw [mapRs_idZ]; exact up_getZ e, fun _ _ => trivial⟩) (fun a _ e => up_getZ e) e e' w d he (fun _ _ => trivial) h
  rwa [mapR_idZ] at this
theorem Rb.repr (r : Rb e B H w) (he : e ≤ 12) (hB : B ≤ 15000000) : ∃ T, (∀ g, oReprN [w] (H ++ g) = some (T, H ++ g)) ∧ (∀ G, oEq2 T T G = some (.bl true, G)) := by
  obtain ⟨t, d, a, b, c, k, l⟩ := r
  by_cases hd : isDct0 H w = true
  · refine ⟨.str "{}", fun g => ?_, fun G => by
      have q : toPy G depthL (.str "{}") = some (.str "{}") := rfl
      have s : SeqAt.shaped (.str "{}") = true := by decide +kernel
      unfold oEq2 oEqv2 oEqv
      simp only [q, s, Bool.and_self, if_true]
      simp [PyData.eqv]⟩
    have : isDct0 (H ++ g) w = true := by
      cases t with
      | ref p =>
        unfold isDct0 at hd ⊢
        simp only at hd ⊢
        split at hd
        · rename_i hp
          rw [up_getZ hp]
        · cases hd
      | _ => cases hd
    unfold oReprN
    simp only [this, if_true]
  · refine ⟨.rp d, fun g => ?_, fun G => by simp [oEq2, oEqv2, pdBeq_refl]⟩
    have h0 : isDct0 (H ++ g) w = false := by
      cases t with
      | ref p =>
        unfold isDct0 at hd ⊢
        simp only at hd ⊢
        cases e with
        | zero => rw [toPyE] at a; cases a
        | succ e =>
          rw [toPyE] at a
          split at a
          · rename_i ys hy
            rw [up_getZ hy]
          · rename_i hy
            rw [hy] at hd
            exact absurd rfl hd
          · cases a
      | _ => rfl
    have hE : toPyE (H ++ g) depthL w = some d := pyE_up he a
    have hP := py_ofE depthL w d hE
    unfold oReprN
    simp only [h0, Bool.false_eq_true, if_false]
    unfold oRepr oReprE
    cases hn : noD depthL d with
    | true =>
      rw [hn] at hP
      simp only [hP, if_true]
      obtain ⟨q1, q2⟩ := can_noD depthL d (by show _ ≤ 12; omega) c hn
      have : okR d = true := by
        unfold okR
        rw [b, q1, q2, decide_eq_true (by omega), decide_eq_true (by omega)]
        rfl
      rw [this]
      rfl
    | false =>
      rw [hn] at hP
      simp only [hP, hE, Bool.false_eq_true, if_false]
      have : okE d = true := by
        unfold okE
        rw [b, c, decide_eq_true (by omega), decide_eq_true (by omega)]
        rfl
      rw [this]
      rfl
variable {F : List Va → AH → Rs Va} {P : Va → Bool} {pre post : List Va}
theorem callC (r : Rb e B H w) (hp : inRs 0 pre = true) (hq : inRs 0 post = true) (hP : ∀ f w, P (mapR f w) = P w) (hF : ∀ G w', Rb e B G w' → ∃ g, F (pre ++ w' :: post) G = .ok (.bl (P w')) (G ++ g)) :
    ∃ g, callL F (pre ++ w :: post) H = .ok (.bl (P w)) (H ++ g) := by
  have er : refsOfs (pre ++ w :: post) = refsOf w := by
    rw [refs_appZ, refsOfs, inRs_free hp, inRs_free hq, List.nil_append, List.append_nil]
  have em : mapRs (fun _ => 0) (pre ++ w :: post) = pre ++ mapR (fun _ => 0) w :: post := by
    rw [mapRs_appZ, mapRs, mapRs_frZ hp, mapRs_frZ hq]
  unfold callL
  rw [er]
  split
  · rename_i h0
    obtain ⟨g, e⟩ := hF [] w (r.free h0)
    rw [e]
    exact ⟨_, rfl⟩
  · rename_i l ls h0
    split
    · rename_i hall
      split
      · rename_i xs hl
        split
        · rename_i hx
          obtain ⟨g, e⟩ := hF [.lst xs] _ (r.loc hl hx fun a ha => by
            rw [h0] at ha
            rcases List.mem_cons.mp ha with rfl | ha
            · rfl
            · exact beq_iff_eq.mp (List.all_eq_true.mp hall a ha))
          rw [em, e, hP]
          refine ⟨g.map (mapRO (sh1 H.length l)), ?_⟩
          show Rs.ok (Va.bl _) (H.set l (mapRO _ (.lst xs)) ++ g.map _) = _
          have e1 : mapRO (sh1 H.length l) (.lst xs) = .lst xs := by
            show AO.lst (mapRs _ xs) = _
            rw [mapRs_frZ hx]
          have e2 : H.set l (.lst xs) = H := by
            apply List.ext_getElem?
            intro i
            by_cases hi : l = i
            · subst hi
              rw [List.getElem?_set_self (List.getElem?_eq_some_iff.mp hl).1, hl]
            · rw [List.getElem?_set_ne hi]
          rw [e1, e2]
        · exact hF H w r
      · exact hF H w r
    · exact hF H w r
/-- the heap is as it was -/
theorem callK (r : Rb e B H w) (hp : inRs 0 pre = true) (hq : inRs 0 post = true) (hP : ∀ f w, P (mapR f w) = P w) (hF : ∀ G w', Rb e B G w' → F (pre ++ w' :: post) G = .ok (.bl (P w')) G) :
    callL F (pre ++ w :: post) H = .ok (.bl (P w)) H := by
  have er : refsOfs (pre ++ w :: post) = refsOf w := by
    rw [refs_appZ, refsOfs, inRs_free hp, inRs_free hq, List.nil_append, List.append_nil]
  have em : mapRs (fun _ => 0) (pre ++ w :: post) = pre ++ mapR (fun _ => 0) w :: post := by
    rw [mapRs_appZ, mapRs, mapRs_frZ hp, mapRs_frZ hq]
  unfold callL
  rw [er]
  split
  · rename_i h0
    rw [hF [] w (r.free h0)]
    show Rs.ok (Va.bl _) (H ++ []) = _
    rw [List.append_nil]
  · rename_i l ls h0
    split
    · rename_i hall
      split
      · rename_i xs hl
        split
        · rename_i hx
          rw [em, hF [.lst xs] _ (r.loc hl hx fun a ha => by
            rw [h0] at ha
            rcases List.mem_cons.mp ha with rfl | ha
            · rfl
            · exact beq_iff_eq.mp (List.all_eq_true.mp hall a ha)), hP]
          show Rs.ok (Va.bl _) (H.set l (mapRO _ (.lst xs)) ++ []) = _
          have e1 : mapRO (sh1 H.length l) (.lst xs) = .lst xs := by
            show AO.lst (mapRs _ xs) = _
            rw [mapRs_frZ hx]
          have e2 : H.set l (.lst xs) = H := by
            apply List.ext_getElem?
            intro i
            by_cases hi : l = i
            · subst hi
              rw [List.getElem?_set_self (List.getElem?_eq_some_iff.mp hl).1, hl]
            · rw [List.getElem?_set_ne hi]
          rw [e1, e2, List.append_nil]
        · exact hF H w r
      · exact hF H w r
    · exact hF H w r
/-- a heap that only grew -/
theorem gcZ {v : Va} (hv : inR 0 v = true) {J : AH} : ∃ J', gcF H.length (.ok v (H ++ J)) = .ok v (H ++ J') := by
  show ∃ J', (if (inR H.length v && ((H ++ J).take H.length).all (inRO H.length)) = true then Rs.ok v ((H ++ J).take H.length) else Rs.ok v (H ++ J)) = _
  by_cases c : (inR H.length v && ((H ++ J).take H.length).all (inRO H.length)) = true
  · rw [if_pos c]
    exact ⟨[], by rw [List.take_left, List.append_nil]⟩
  · rw [if_neg c]
    exact ⟨J, rfl⟩
theorem gcZ0 {v : Va} : gcF H.length (.ok v H) = .ok v H := by
  show (if (inR H.length v && (H.take H.length).all (inRO H.length)) = true then Rs.ok v (H.take H.length) else Rs.ok v H) = _
  rw [List.take_length]
  split <;> rfl
/-! is_integer -/
def isNZ (lo hi : Int) : Va → Bool
  | .int i => decide (lo ≤ i) && decide (i ≤ hi)
  | _ => false
theorem isNZ_map {lo hi : Int} (f : Nat → Nat) (w : Va) : isNZ lo hi (mapR f w) = isNZ lo hi w := by cases w <;> rfl
theorem isi_refZ {a : Nat} {T : String} (hT : T ≠ "list") (hD : T ≠ "dict") (r : Rb e B H (.ref a)) : isiK T (.ok (.ref a) H) = .ok (.bl false) H := by
  obtain ⟨t, d, q, _⟩ := r
  cases e with
  | zero => rw [toPyE] at q; cases q
  | succ e =>
    rw [toPyE] at q
    split at q
    · rename_i ys hy
      simp [isiK, tyName, hy, isiT, Ne.symm hT]
    · rename_i hy
      simp [isiK, tyName, hy, isiT, Ne.symm hD]
    · cases q
theorem isi_noZ (r : Rb e B H w) (h : ∀ xs, w ≠ .tup xs) : isiK "tuple" (.ok w H) = .ok (.bl false) H := by
  have r0 := r
  obtain ⟨t, _⟩ := r
  cases t with
  | ref a => exact isi_refZ (by decide) (by decide) r0
  | tup xs _ => exact absurd rfl (h xs)
  | _ => rfl
theorem int_z {lo hi : Int} (r : Rb e B H w) : callL m_is_integer [w, .int lo, .int hi] H = .ok (.bl (isNZ lo hi w)) H := by
  refine callK (pre := []) (post := [.int lo, .int hi]) (P := isNZ lo hi) r rfl rfl (fun f w => isNZ_map f w) fun G w' r' => ?_
  show m_is_integer [w', .int lo, .int hi] G = _
  have no : ∀ v, isiK "int" (.ok v G) = .ok (.bl false) G → m_is_integer [v, .int lo, .int hi] G = .ok (.bl false) G := fun v i => by
    unfold m_is_integer
    rw [s_fn (by rfl)]
    unfold b_is_integer
    simp! [List.replicate, i]
    exact gcZ0
  have rr := r'
  obtain ⟨t, _⟩ := r'
  cases t with
  | int i =>
    have e1 : ∀ H : AH, isiK "int" (.ok (.int i) H) = .ok (.bl true) H := fun H => rfl
    have e2 : ∀ H : AH, isiK "bool" (.ok (.int i) H) = .ok (.bl false) H := fun H => rfl
    show m_is_integer [.int i, .int lo, .int hi] G = .ok (.bl (decide (lo ≤ i) && decide (i ≤ hi))) G
    unfold m_is_integer
    rw [s_fn (by rfl)]
    unfold b_is_integer
    cases h0 : decide (lo ≤ i) <;> cases h1 : decide (i ≤ hi) <;>
    · simp! [List.replicate, e1, e2, h0, h1, Bool.and_true, Bool.and_false, Bool.true_and, Bool.false_and]
      exact gcZ0
  | non => exact no _ rfl
  | bl b =>
    have e1 : ∀ H : AH, isiK "int" (.ok (.bl b) H) = .ok (.bl true) H := fun H => rfl
    have e2 : ∀ H : AH, isiK "bool" (.ok (.bl b) H) = .ok (.bl true) H := fun H => rfl
    unfold m_is_integer
    rw [s_fn (by rfl)]
    unfold b_is_integer
    simp! [List.replicate, e1, e2]
    exact gcZ0
  | str x => exact no _ rfl
  | ref a => exact no _ (isi_refZ (by decide) (by decide) rr)
  | tup xs h => exact no _ rfl
end
end FL

set_option linter.all false
set_option maxRecDepth 100000
set_option maxHeartbeats 4000000
namespace FL
open PySem PySem.Spec PyProof.Rows L2
/-! IS4: is_table on readable trees. -/
def cellZ (i j : Nat) (v : Va) : Bool := isNZ (low i j) (1000 * low i j) v
def atZ (ys : List Va) (j : Nat) : Va := ys[j]?.getD .non
def rowZ (n i : Nat) : Va → Bool
  | .tup ys => decide (ys.length = n) && (List.range n).all fun j => cellZ i j (atZ ys j)
  | _ => false
def tabZ : Va → Bool
  | .tup xs => decide (2 ≤ xs.length) && (decide (xs.length ≤ 10) && (List.range xs.length).all fun i => rowZ xs.length i (atZ xs i))
  | _ => false
def reqZ (n : Nat) : Va → Bool
  | .tup ys => decide (ys.length = n) && ((ys.all fun v => isNon v || isNZ 0 1000 v) && ys.any fun v => !isNon v)
  | _ => false
theorem atZ_map (f : Nat → Nat) (ys : List Va) (j : Nat) : atZ (mapRs f ys) j = mapR f (atZ ys j) := by
  unfold atZ
  rw [mapRs_mapZ, List.getElem?_map]
  cases ys[j]? <;> rfl
theorem atZ_lt {ys : List Va} {j : Nat} (h : j < ys.length) : ys[j]? = some (atZ ys j) := by
  unfold atZ
  rw [List.getElem?_eq_getElem h]
  rfl
theorem atZ_mem {ys : List Va} {j : Nat} (h : j < ys.length) : atZ ys j ∈ ys := List.mem_of_getElem? (atZ_lt h)
theorem len_mapZ {f : Nat → Nat} (xs : List Va) : (mapRs f xs).length = xs.length := by rw [mapRs_mapZ, List.length_map]
theorem isNon_mapZ (f : Nat → Nat) (w : Va) : isNon (mapR f w) = isNon w := by cases w <;> rfl
theorem rowZ_map {n i : Nat} (f : Nat → Nat) (w : Va) : rowZ n i (mapR f w) = rowZ n i w := by
  cases w with
  | tup ys =>
    show rowZ n i (.tup (mapRs f ys)) = _
    unfold rowZ
    simp only [len_mapZ, atZ_map, cellZ, isNZ_map]
  | _ => rfl
theorem tabZ_map (f : Nat → Nat) (w : Va) : tabZ (mapR f w) = tabZ w := by
  cases w with
  | tup ys =>
    show tabZ (.tup (mapRs f ys)) = _
    unfold tabZ
    simp only [len_mapZ, atZ_map, rowZ_map]
  | _ => rfl
theorem all_mapZ {f : Nat → Nat} {p : Va → Bool} (h : ∀ w, p (mapR f w) = p w) (ys : List Va) : (mapRs f ys).all p = ys.all p := by
  rw [mapRs_mapZ, List.all_map]
  exact congrArg _ (funext h)
theorem any_mapZ {f : Nat → Nat} {p : Va → Bool} (h : ∀ w, p (mapR f w) = p w) (ys : List Va) : (mapRs f ys).any p = ys.any p := by
  rw [mapRs_mapZ, List.any_map]
  exact congrArg _ (funext h)
theorem reqZ_map {n : Nat} (f : Nat → Nat) (w : Va) : reqZ n (mapR f w) = reqZ n w := by
  cases w with
  | tup ys =>
    show reqZ n (.tup (mapRs f ys)) = _
    unfold reqZ
    simp only [len_mapZ]
    rw [all_mapZ (fun w => by rw [isNon_mapZ, isNZ_map]), any_mapZ (fun w => by rw [isNon_mapZ])]
  | _ => rfl
theorem comp_mapZ {α : Type} {gsl : List (Nat × List Va)} {gf : GF} {f : EF} {ev : Ev} {h : AH} {g ψ : α → Va} (hgs : gsOk gsl h = true) : ∀ ys : List α, (∀ x ∈ ys, ∃ ev1, gf (g x) ev = some ev1 ∧ f ev1 h = .ok (ψ x) h) → compF gsl gf tYesF f ev (ys.map g) h = .ok (ys.map ψ) h
  | [], _ => s_cpN hgs
  | x :: ys, hq => by
    obtain ⟨ev1, g1, g2⟩ := hq x (List.mem_cons_self ..)
    have ih := comp_mapZ hgs ys fun y hy => hq y (List.mem_cons_of_mem _ hy)
    rw [List.map_cons, s_cpC hgs, g1, k_cp]
    show cp1K _ _ _ _ _ _ _ (.ok true h) = _
    rw [k_cpT, g2, k_cp2, ih, k_cp3]
    rfl
/-- the heap grew, or is as it was -/
theorem gcZb {b : Bool} {H J : AH} : ∃ J', gcF H.length (.ok (.bl b) (H ++ J)) = .ok (.bl b) (H ++ J') := gcZ rfl
def IT0 : SF := (sIf (tOr (tNot (tB (eIsi "tuple" (eVar 0)))) (tNot (tB (eChain oLe oLe (eC (.int 2)) (eAp oLen (aCons (eVar 0) (aNil))) (eC (.int 10)))))) (sRet (eC (.bl false))) (sNil))
def IT1 : SF := (sFor (iOf (aCons (eVar 0) (aNil)) srcE) (gTp (gCs (gNm 1) (gCs (gNm 2) (gNl)))) (sSeq (sIf (tOr (tNot (tB (eIsi "tuple" (eVar 2)))) (tB (eOp oNe2 (eAp oLen (aCons (eVar 2) (aNil))) (eAp oLen (aCons (eVar 0) (aNil)))))) (sRet (eC (.bl false))) (sNil)) (sSeq (sSet 3 (eLc (iOf (aCons (eAp oLen (aCons (eVar 0) (aNil))) (aNil)) srcR) (gNm 4) (tYesF) (eAp oInt (aCons (eOp oNe2 (eVar 1) (eVar 4)) (aNil))) [4])) (sIf (tNot (tB (eAp oAll (aCons (eLc (iOf (aCons (eVar 2) (aCons (eVar 3) (aNil))) (srcZ true)) (gTp (gCs (gNm 5) (gCs (gNm 6) (gNl)))) (tYesF) (eCall [] (callL m_is_integer) (aCons (eVar 5) (aCons (eVar 6) (aCons (eOp oMul2 (eC (.int 1000)) (eVar 6)) (aNil))))) [5, 6]) (aNil))))) (sRet (eC (.bl false))) (sNil)))))
def IT2 : SF := (sRet (eC (.bl true)))
def IT1_0 : SF := (sIf (tOr (tNot (tB (eIsi "tuple" (eVar 2)))) (tB (eOp oNe2 (eAp oLen (aCons (eVar 2) (aNil))) (eAp oLen (aCons (eVar 0) (aNil)))))) (sRet (eC (.bl false))) (sNil))
def IT1_1 : SF := (sSet 3 (eLc (iOf (aCons (eAp oLen (aCons (eVar 0) (aNil))) (aNil)) srcR) (gNm 4) (tYesF) (eAp oInt (aCons (eOp oNe2 (eVar 1) (eVar 4)) (aNil))) [4]))
def IT1_2 : SF := (sIf (tNot (tB (eAp oAll (aCons (eLc (iOf (aCons (eVar 2) (aCons (eVar 3) (aNil))) (srcZ true)) (gTp (gCs (gNm 5) (gCs (gNm 6) (gNl)))) (tYesF) (eCall [] (callL m_is_integer) (aCons (eVar 5) (aCons (eVar 6) (aCons (eOp oMul2 (eC (.int 1000)) (eVar 6)) (aNil))))) [5, 6]) (aNil))))) (sRet (eC (.bl false))) (sNil))
theorem IT1_is : IT1 = sFor (iOf (aCons (eVar 0) (aNil)) srcE) (gTp (gCs (gNm 1) (gCs (gNm 2) (gNl)))) (sSeq IT1_0 (sSeq IT1_1 IT1_2)) := rfl
theorem IT_is : b_is_table = sSeq IT0 (sSeq IT1 IT2) := rfl
section
variable {e B : Nat} {G H h : AH} {w y : Va} {xs ys : List Va} {n i : Nat}
theorem tabrow_z (hn : xs.length = n) (n10 : n ≤ 10) (r : Rb (e + 1) B h y) (l t c w : Option Va) :
    Ts ((sSeq IT1_0 (sSeq IT1_1 IT1_2)) [some (.tup xs), some (.int (i : Nat)), some y, l, t, c, w] h) fun q => ∃ J, (rowZ n i y = true ∧ ∃ l', q = .nx [some (.tup xs), some (.int (i : Nat)), some y, l', t, c, w] (h ++ J)) ∨ (rowZ n i y = false ∧ q = .rt (.bl false) (h ++ J)) := by
  have lx : ∀ h : AH, oLen [.tup xs] h = some (.int (n : Nat), h) := fun h => by rw [← hn]; rfl
  by_cases hy : ∃ ys, y = .tup ys
  · obtain ⟨ys, rfl⟩ := hy
    have i1 : ∀ h, isiK "tuple" (.ok (.tup ys) h) = .ok (.bl true) h := fun h => i_tt
    have ly : ∀ h : AH, oLen [.tup ys] h = some (.int (ys.length : Nat), h) := fun h => rfl
    by_cases hl : ys.length = n
    · have dn : decide (((ys.length : Nat) : Int) = (n : Nat)) = true := decide_eq_true (by rw [hl])
      have e4 : ∀ (h : AH), compF [] (gNm 4) tYesF (eAp oInt (aCons (eOp oNe2 (eVar 1) (eVar 4)) aNil)) [some (.tup xs), some (.int (i : Nat)), some (.tup ys), l, none, c, w] (intsF 0 n) h = .ok ((List.range n).map fun j => .int (low i j)) h := by
        intro h
        have q := comp_map (gf := gNm 4) (f := eAp oInt (aCons (eOp oNe2 (eVar 1) (eVar 4)) aNil)) (ev := [some (.tup xs), some (.int (i : Nat)), some (.tup ys), l, none, c, w]) (gsl := []) (h := h) (φ := fun v => match v with | .int j => .int (if (i : Int) = j then 0 else 1) | _ => .non) (e1 := fun v => [some (.tup xs), some (.int (i : Nat)), some (.tup ys), l, some v, c, w]) rfl (intsF 0 n) (fun v hv => ⟨rfl, by
          rw [intsF_eq] at hv
          obtain ⟨j, hj, rfl⟩ := List.mem_map.mp hv
          simp only [s_ap, s_cons, s_op, s_var, List.getElem?_cons_succ, List.getElem?_cons_zero, k_var, k_op, k_op1, o_neI, k_o, k_cons, s_nil, k_cons1, k_ap, o_intB]
          by_cases e : (i : Int) = 0 + (j : Nat) <;> simp [e]⟩)
        rw [q, intsF_eq, List.map_map]
        congr 1
        apply List.map_congr_left
        intro j hj
        simp only [Function.comp, low]
        congr 1
        by_cases e : i = j
        · subst e; simp
        · rw [if_neg e, if_neg (by omega)]
      have ez : zipF ys ((List.range n).map fun j => .int (low i j)) = (List.range n).map fun j => .tup [atZ ys j, .int (low i j)] := by
        refine by_places (by rw [zipF_len]; simp [hl]) fun j hj => ?_
        rw [zipF_at, atZ_lt (by omega), range_at hj]
        rfl
      have e5 : ∀ (k : Nat) (J : AH), lstAt (h ++ J) k = some ((List.range n).map fun j => .int (low i j)) → compF [(k, (List.range n).map fun j => .int (low i j))] (gTp (gCs (gNm 5) (gCs (gNm 6) (gNl)))) tYesF (eCall [] (callL m_is_integer) (aCons (eVar 5) (aCons (eVar 6) (aCons (eOp oMul2 (eC (.int 1000)) (eVar 6)) (aNil))))) [some (.tup xs), some (.int (i : Nat)), some (.tup ys), some (.ref k), t, none, none]
          ((List.range n).map fun j => .tup [atZ ys j, .int (low i j)]) (h ++ J) = .ok ((List.range n).map fun j => .bl (cellZ i j (atZ ys j))) (h ++ J) := by
        intro k J hk
        refine comp_mapZ (g := fun j => Va.tup [atZ ys j, .int (low i j)]) (ψ := fun j => .bl (cellZ i j (atZ ys j))) (c_g hk) _ fun j hj => ?_
        have hj := List.mem_range.mp hj
        refine ⟨[some (.tup xs), some (.int (i : Nat)), some (.tup ys), some (.ref k), t, some (atZ ys j), some (.int (low i j))], rfl, ?_⟩
        have b : 0 ≤ low i j ∧ low i j ≤ 1 := by unfold low; split <;> omega
        have q := int_z (lo := low i j) (hi := 1000 * low i j) ((r.sub (atZ_mem (show j < ys.length by omega))).up (g := J))
        simp (disch := first | assumption | exact okI_lt (by omega) (by omega) | omega) only [s_cl, s_cons, s_op, s_var, s_c, List.getElem?_cons_succ, List.getElem?_cons_zero, k_var, k_op, k_op1, o_mul, k_o, k_cons, s_nil, k_cons1, k_cl, List.append_nil, q]
        rfl
      have hlim : lim = 1000000 := rfl
      have e6 : (intsF 0 n).length < lim := by rw [ints_len]; omega
      have e7 : ((List.range n).map fun j => Va.tup [atZ ys j, .int (low i j)]).length < lim := by simp; omega
      have ew1 : ewipe [some (.tup xs), some (.int (i : Nat)), some (.tup ys), l, t, c, w] [4] = [some (.tup xs), some (.int (i : Nat)), some (.tup ys), l, none, c, w] := rfl
      have ew2 : ∀ k : Nat, ewipe [some (.tup xs), some (.int (i : Nat)), some (.tup ys), some (.ref k), t, c, w] [5, 6] = [some (.tup xs), some (.int (i : Nat)), some (.tup ys), some (.ref k), t, none, none] := fun _ => rfl
      have sz : ∀ (k : Nat) (h : AH), lstAt h k = some ((List.range n).map fun j => .int (low i j)) → srcZ true [.tup ys, .ref k] h = some ⟨(List.range n).map fun j => .tup [atZ ys j, .int (low i j)], [(k, (List.range n).map fun j => .int (low i j))]⟩ := by
        intro k h hk
        unfold srcZ
        simp only [srcOf, hk, Option.bind_some]
        rw [if_neg (by simp [hl]), ez]
        rfl
      have hr : rowZ n i (.tup ys) = (List.range n).all fun j => cellZ i j (atZ ys j) := by
        show (decide (ys.length = n) && _) = _
        rw [decide_eq_true hl, Bool.true_and]
      refine ⟨([.lst ((List.range n).map fun j => .int (low i j))]) ++ [.lst ((List.range n).map fun j => .bl (cellZ i j (atZ ys j)))], ?_⟩
      have fin := o_allL (h := (h ++ [.lst ((List.range n).map fun j => .int (low i j))]) ++ [.lst ((List.range n).map fun j => .bl (cellZ i j (atZ ys j)))]) lstAt_end (allB_map (φ := fun j => cellZ i j (atZ ys j)) _)
      have fin2 : ((List.range n).map fun j => cellZ i j (atZ ys j)).all id = (List.range n).all fun j => cellZ i j (atZ ys j) := by rw [List.all_map]; rfl
      rw [fin2, ← hr] at fin
      rw [← List.append_assoc]
      have run : (sSeq IT1_0 (sSeq IT1_1 IT1_2)) [some (.tup xs), some (.int (i : Nat)), some (.tup ys), l, t, c, w] h = if rowZ n i (.tup ys) then .nx [some (.tup xs), some (.int (i : Nat)), some (.tup ys), some (.ref h.length), t, c, w] ((h ++ [.lst ((List.range n).map fun j => .int (low i j))]) ++ [.lst ((List.range n).map fun j => .bl (cellZ i j (atZ ys j)))]) else .rt (.bl false) ((h ++ [.lst ((List.range n).map fun j => .int (low i j))]) ++ [.lst ((List.range n).map fun j => .bl (cellZ i j (atZ ys j)))]) := by
        unfold IT1_0 IT1_1 IT1_2
        simp_all! [s_seq, s_sif, s_or, s_not, s_tB, s_isi, s_op, s_ap, s_cons, s_var, s_nil, s_set, s_lc, s_it, -o_lenT, i1, lx, ly, dn, c_rngN (show n ≤ 1000000 by omega)]
        rw [k_lc e6, ew1, e4]
        simp_all! [k_lc1, k_set, k_seqN, s_sif, s_not, s_tB, s_ap, s_cons, s_lc, s_it, -o_lenT, sz _ _ lstAt_end]
        rw [k_lc e7, ew2, e5 _ _ lstAt_end]
        simp_all! [k_lc1, k_cons, k_cons1, s_nil, k_ap, fin]
        cases rowZ n i (.tup ys) <;> simp_all! []
      rw [run]
      cases hq : rowZ n i (.tup ys) with
      | true => exact .inl ⟨rfl, _, rfl⟩
      | false => exact .inr ⟨rfl, rfl⟩
    · have dn : decide (((ys.length : Nat) : Int) = (n : Nat)) = false := decide_eq_false (by omega)
      have hr : rowZ n i (.tup ys) = false := by
        show (decide (ys.length = n) && _) = _
        rw [decide_eq_false hl, Bool.false_and]
      refine ⟨[], .inr ⟨hr, ?_⟩⟩
      unfold IT1_0 IT1_1 IT1_2
      simp_all! [s_seq, s_sif, s_or, s_not, s_tB, s_isi, s_op, s_ap, s_cons, s_var, s_nil, -o_lenT, i1, lx, ly, dn]
  · have i1 := isi_noZ r fun ys e => hy ⟨ys, e⟩
    have hr : rowZ n i y = false := by
      cases y with
      | tup ys => exact absurd ⟨ys, rfl⟩ hy
      | _ => rfl
    refine ⟨[], .inr ⟨hr, ?_⟩⟩
    unfold IT1_0 IT1_1 IT1_2
    simp_all! [s_seq, s_sif, s_or, s_not, s_tB, s_isi, s_op, s_ap, s_cons, s_var, s_nil, -o_lenT, i1]
theorem table_z (r : Rb (e + 2) B H w) : ∃ g, callL m_is_table [w] H = .ok (.bl (tabZ w)) (H ++ g) := by
  refine callC (pre := []) (post := []) (P := tabZ) r rfl rfl (fun f w => tabZ_map f w) fun G w' r' => ?_
  show ∃ g, m_is_table [w'] G = _
  unfold m_is_table
  rw [s_fn (by rfl), IT_is]
  by_cases hy : ∃ xs, w' = .tup xs
  · obtain ⟨xs, rfl⟩ := hy
    have i1 : ∀ h, isiK "tuple" (.ok (.tup xs) h) = .ok (.bl true) h := fun h => i_tt
    have lx : ∀ h : AH, oLen [.tup xs] h = some (.int (xs.length : Nat), h) := fun h => rfl
    have end0 : ∀ b : Bool, (decide (2 ≤ xs.length) = false ∨ decide (xs.length ≤ 10) = false) → IT0 [some (.tup xs), none, none, none, none, none, none] G = .rt (.bl false) G → ∃ g, gcF G.length (endF ((sSeq IT0 (sSeq IT1 IT2)) ([Va.tup xs].map some ++ List.replicate (7 - 1) none) G)) = .ok (.bl (tabZ (.tup xs))) (G ++ g) := fun _ hd e => by
      have hr : tabZ (.tup xs) = false := by
        show (decide (2 ≤ xs.length) && (decide (xs.length ≤ 10) && _)) = _
        rcases hd with hd | hd <;> rw [hd]
        · rfl
        · rw [Bool.false_and, Bool.and_false]
      rw [hr]
      show ∃ g, gcF G.length (endF (sqK _ (IT0 [some (.tup xs), none, none, none, none, none, none] G))) = _
      rw [e, k_seqR, k_endR, gcZ0]
      exact ⟨[], by rw [List.append_nil]⟩
    by_cases q1 : 2 ≤ xs.length
    · have d1 : decide ((2 : Int) ≤ (xs.length : Nat)) = true := decide_eq_true (by omega)
      by_cases q2 : xs.length ≤ 10
      · have d2 : decide (((xs.length : Nat) : Int) ≤ 10) = true := decide_eq_true (by omega)
        have e0 : IT0 [some (.tup xs), none, none, none, none, none, none] G = .nx [some (.tup xs), none, none, none, none, none, none] G := by
          unfold IT0
          simp_all! [-o_lenT, i1, lx, d1, d2]
        have hr : tabZ (.tup xs) = (List.range xs.length).all fun i => rowZ xs.length i (atZ xs i) := by
          show (decide (2 ≤ xs.length) && (decide (xs.length ≤ 10) && _)) = _
          rw [decide_eq_true q1, decide_eq_true q2]
          rfl
        have se : ∀ h, srcE [.tup xs] h = some ⟨enumF 0 xs, []⟩ := fun h => rfl
        have key : Ts (IT1 [some (.tup xs), none, none, none, none, none, none] G) fun q => ∃ J, (tabZ (.tup xs) = true ∧ ∃ ev, q = .nx ev (G ++ J)) ∨ (tabZ (.tup xs) = false ∧ q = .rt (.bl false) (G ++ J)) := by
          rw [IT1_is]
          simp_all! [s_for, s_it, s_cons, s_nil, s_var, se]
          refine loop_inv (fun k ev h => (∀ i < k, rowZ xs.length i (atZ xs i) = true) ∧ ∃ a b c d e f J, ev = [some (.tup xs), a, b, c, d, e, f] ∧ h = G ++ J) _ 0 _ _ ⟨fun _ h => absurd h (by omega), _, _, _, _, _, _, [], rfl, by rw [List.append_nil]⟩ (fun _ _ _ _ _ _ => rfl) (fun k v ev h hk ⟨ok, a, b, c, d, e', f, J, e1, e2⟩ => ?_) (fun ev h ⟨ok, a, b, c, d, e', f, J, e1, e2⟩ => ?_)
          · subst e1 e2
            obtain ⟨x, hx, rfl⟩ := enumF_get _ _ _ _ hk
            have hkn : k < xs.length := (List.getElem?_eq_some_iff.mp hx).1
            have hxz : atZ xs k = x := by unfold atZ; rw [hx]; rfl
            rw [show ((0 : Int) + (k : Nat)) = (k : Nat) by omega]
            refine ⟨[some (.tup xs), some (.int (k : Nat)), some x, c, d, e', f], rfl, ?_⟩
            have tr := tabrow_z (xs := xs) (n := xs.length) (i := k) rfl q2 ((r'.sub (List.mem_of_getElem? hx)).up (g := J)) c d e' f
            obtain ⟨J2, tr⟩ := tr
            rcases tr with ⟨t1, l', t2⟩ | ⟨t1, t2⟩
            · refine .inl ⟨_, _, t2, fun i hi => ?_, _, _, _, _, _, _, J ++ J2, rfl, by rw [List.append_assoc]⟩
              rcases Nat.lt_or_ge i k with z | z
              · exact ok i (by omega)
              · rw [show i = k by omega, hxz]; exact t1
            · refine .inr (.inr (.inr ⟨_, _, t2, J ++ J2, .inr ⟨?_, by rw [List.append_assoc]⟩⟩))
              rw [hr]
              refine Bool.eq_false_iff.mpr fun z => ?_
              have := List.all_eq_true.mp z k (List.mem_range.mpr hkn)
              rw [hxz, t1] at this
              cases this
          · subst e1 e2
            refine ⟨J, .inl ⟨?_, _, rfl⟩⟩
            rw [hr]
            have : (enumF 0 xs).length = xs.length := by
              have : ∀ (xs : List Va) (n : Int), (enumF n xs).length = xs.length := fun xs => by
                induction xs with
                | nil => intro n; rfl
                | cons x xs ih => intro n; show (enumF (n + 1) xs).length + 1 = _; rw [ih]; rfl
              exact this _ _
            exact List.all_eq_true.mpr fun i hi => ok i (by rw [this]; have := List.mem_range.mp hi; omega)
        show ∃ g, gcF G.length (endF (sqK _ (IT0 [some (.tup xs), none, none, none, none, none, none] G))) = _
        rw [e0, k_seqN, s_seq]
        obtain ⟨J, ⟨t1, ev, t2⟩ | ⟨t1, t2⟩⟩ := key
        · rw [t2, t1, k_seqN]
          exact gcZb
        · rw [t2, t1, k_seqR]
          exact gcZb
      · have d2 : decide (((xs.length : Nat) : Int) ≤ 10) = false := decide_eq_false (by omega)
        refine end0 true (.inr (decide_eq_false q2)) ?_
        unfold IT0
        simp_all! [-o_lenT, i1, lx, d1, d2]
    · have d1 : decide ((2 : Int) ≤ (xs.length : Nat)) = false := decide_eq_false (by omega)
      refine end0 true (.inl (decide_eq_false q1)) ?_
      unfold IT0
      simp_all! [-o_lenT, i1, lx, d1]
  · have i1 := isi_noZ r' fun ys e => hy ⟨ys, e⟩
    have hr : tabZ w' = false := by
      cases w' with
      | tup ys => exact absurd ⟨ys, rfl⟩ hy
      | _ => rfl
    have e0 : IT0 [some w', none, none, none, none, none, none] G = .rt (.bl false) G := by
      unfold IT0
      simp_all! [-o_lenT, i1]
    show ∃ g, gcF G.length (endF (sqK _ (IT0 [some w', none, none, none, none, none, none] G))) = _
    rw [hr, e0, k_seqR, k_endR, gcZ0]
    exact ⟨[], by rw [List.append_nil]⟩
end
end FL

set_option linter.all false
set_option maxRecDepth 100000
set_option maxHeartbeats 4000000
namespace FL
open PySem PySem.Spec PyProof.Rows L2
/-! IS5: has_shortcuts, is_request_row on readable trees. -/
structure TabC (sw : List (List Int)) (n : Nat) : Prop where
  len : sw.length = n
  n2 : 2 ≤ n
  n10 : n ≤ 10
  row : ∀ r ∈ sw, r.length = n
  diag : ∀ i, i < n → at2 sw i i = 0
  off : ∀ i j, i < n → j < n → i ≠ j → 1 ≤ at2 sw i j ∧ at2 sw i j ≤ 1000
theorem TabC.get {sw : List (List Int)} {n : Nat} (T : TabC sw n) {i : Nat} (hi : i < n) : ∃ r, sw[i]? = some r ∧ r.length = n ∧ ∀ j, j < n → r[j]? = some (at2 sw i j) := by
  have hl : i < sw.length := by rw [T.len]; exact hi
  refine ⟨sw[i], List.getElem?_eq_getElem hl, T.row _ (List.getElem_mem hl), fun j hj => ?_⟩
  have hr : sw[i].length = n := T.row _ (List.getElem_mem hl)
  unfold at2
  rw [List.getElem?_eq_getElem hl]
  simp only [Option.getD_some]
  rw [List.getElem?_eq_getElem (by rw [hr]; exact hj)]
  rfl
theorem TabC.ix2 {sw : List (List Int)} {n : Nat} (T : TabC sw n) {i j a b c : Nat} (hi : i < n) (hj : j < n) {ev : Ev} {h : AH} (ha : ev[a]? = some (some (tabV sw))) (hb : ev[b]? = some (some (.int (i : Nat)))) (hc : ev[c]? = some (some (.int (j : Nat)))) :
    eOp oIx (eOp oIx (eVar a) (eVar b)) (eVar c) ev h = .ok (.int (at2 sw i j)) h := by
  obtain ⟨r, h1, h2, h3⟩ := T.get hi
  have e1 : oIx (tabV sw) (.int (i : Nat)) h = some (tI r, h) := by
    show (atI (sw.map tI) _).map _ = _
    rw [at_map h1]
    rfl
  have e2 : oIx (tI r) (.int (j : Nat)) h = some (.int (at2 sw i j), h) := by
    show (atI (r.map Va.int) _).map _ = _
    rw [at_map (h3 j hj)]
    rfl
  simp only [s_op, s_var, ha, hb, hc, k_var, k_op, k_op1, e1, e2, k_o]
def anyS (sw : List (List Int)) (n a b : Nat) : Bool := (List.range n).any fun c => decide (at2 sw b a + at2 sw a c < at2 sw b c)
def triS (sw : List (List Int)) (n : Nat) : Bool := (List.range n).all fun a => (List.range n).all fun b => !anyS sw n a b
theorem TabC.ok {sw : List (List Int)} {n : Nat} (T : TabC sw n) (h : triS sw n = true) : TabOk sw n :=
  ⟨T.len, T.n2, T.n10, T.row, T.diag, T.off, fun i j k hi hj hk => by
    have h1 := List.all_eq_true.mp (List.all_eq_true.mp h j (List.mem_range.mpr hj)) i (List.mem_range.mpr hi)
    have h2 : anyS sw n j i = false := by simpa using h1
    have := List.any_eq_false.mp h2 k (List.mem_range.mpr hk)
    simp only [decide_eq_true_eq] at this
    omega⟩
/-- what the check of tables finds -/
theorem tabZ_tab {w : Va} (h : tabZ w = true) : ∃ sw n, w = tabV sw ∧ TabC sw n := by
  cases w with
  | tup xs =>
    simp only [tabZ, Bool.and_eq_true, decide_eq_true_eq] at h
    obtain ⟨h2, h10, hr⟩ := h
    have row : ∀ i, i < xs.length → ∃ r : List Int, atZ xs i = tI r ∧ r.length = xs.length ∧ ∀ j, j < xs.length → low i j ≤ (r[j]?).getD 0 ∧ (r[j]?).getD 0 ≤ 1000 * low i j := fun i hi => by
      have := List.all_eq_true.mp hr i (List.mem_range.mpr hi)
      cases hx : atZ xs i with
      | tup ys =>
        rw [hx] at this
        simp only [rowZ, Bool.and_eq_true, decide_eq_true_eq] at this
        obtain ⟨hl, hc⟩ := this
        have cell : ∀ j, j < xs.length → ∃ c : Int, atZ ys j = .int c ∧ low i j ≤ c ∧ c ≤ 1000 * low i j := fun j hj => by
          have := List.all_eq_true.mp hc j (List.mem_range.mpr hj)
          unfold cellZ at this
          cases hy : atZ ys j with
          | int c =>
            rw [hy] at this
            simp only [isNZ, Bool.and_eq_true, decide_eq_true_eq] at this
            exact ⟨c, rfl, this⟩
          | _ => rw [hy] at this; cases this
        have inI : ∀ v : Va, (∃ c : Int, v = .int c) → v = .int (match v with | .int c => c | _ => 0) := fun v ⟨c, e⟩ => by rw [e]
        refine ⟨ys.map fun v => match v with | .int c => c | _ => 0, ?_, by rw [List.length_map, hl], fun j hj => ?_⟩
        · show Va.tup ys = .tup _
          congr 1
          rw [List.map_map]
          apply List.ext_getElem?
          intro j
          rw [List.getElem?_map]
          by_cases hj : j < ys.length
          · obtain ⟨c, e, _⟩ := cell j (by omega)
            rw [atZ_lt hj, e]
            rfl
          · rw [List.getElem?_eq_none (by omega)]
            rfl
        · obtain ⟨c, e, hc⟩ := cell j hj
          rw [List.getElem?_map, atZ_lt (by omega), e]
          exact hc
      | _ => rw [hx] at this; cases this
    have rows : ∃ sw : List (List Int), sw.length = xs.length ∧ ∀ i, i < xs.length → atZ xs i = tI ((sw[i]?).getD []) ∧ ((sw[i]?).getD []).length = xs.length ∧ ∀ j, j < xs.length → low i j ≤ at2 sw i j ∧ at2 sw i j ≤ 1000 * low i j := by
      refine ⟨xs.map fun x => match x with | .tup ys => ys.map fun v => (match v with | .int c => c | _ => 0) | _ => [], by rw [List.length_map], fun i hi => ?_⟩
      obtain ⟨r, e1, e2, e3⟩ := row i hi
      have : ((xs.map fun x => match x with | .tup ys => ys.map fun v => (match v with | .int c => c | _ => 0) | _ => [])[i]?).getD [] = r := by
        rw [List.getElem?_map, atZ_lt hi, e1]
        show (r.map Va.int).map _ = r
        rw [List.map_map]
        conv => rhs; rw [← List.map_id r]
        rfl
      unfold at2
      rw [this]
      exact ⟨e1, e2, e3⟩
    obtain ⟨sw, l, hsw⟩ := rows
    have mem : ∀ r ∈ sw, r.length = xs.length := fun r hm => by
      obtain ⟨i, hi⟩ := List.mem_iff_getElem?.mp hm
      have hlt := (List.getElem?_eq_some_iff.mp hi).1
      have := (hsw i (by omega)).2.1
      rw [hi] at this
      exact this
    refine ⟨sw, xs.length, ?_, l, h2, h10, mem, fun i hi => ?_, fun i j hi hj hij => ?_⟩
    · show Va.tup xs = .tup (sw.map tI)
      congr 1
      apply List.ext_getElem?
      intro i
      rw [List.getElem?_map]
      by_cases hi : i < xs.length
      · rw [atZ_lt hi, (hsw i hi).1, List.getElem?_eq_getElem (by omega)]
        rfl
      · rw [List.getElem?_eq_none (by omega), List.getElem?_eq_none (by omega)]
        rfl
    · have := (hsw i hi).2.2 i hi
      unfold low at this
      rw [if_pos rfl] at this
      omega
    · have := (hsw i hi).2.2 j hj
      unfold low at this
      rw [if_neg hij] at this
      omega
  | _ => cases h
def HS0 : SF := (sSet 1 (eLR1 mkL (eAp oLen (aCons (eVar 0) (aNil)))))
def HS1 : SF := (sFor (iOf1 (eVar 1) srcOf) (gNm 2) (sFor (iOf1 (eVar 1) srcOf) (gNm 3) (sIf (tB (eAp oAny (aCons (eLc (iOf1 (eVar 1) srcOf) (gNm 4) (tYesF) (eOp oGt (eOp oIx (eOp oIx (eVar 0) (eVar 3)) (eVar 4)) (eOp oAdd (eOp oIx (eOp oIx (eVar 0) (eVar 3)) (eVar 2)) (eOp oIx (eOp oIx (eVar 0) (eVar 2)) (eVar 4)))) [4]) (aNil)))) (sRet (eC (.bl true))) (sNil))))
def HS2 : SF := (sRet (eC (.bl false)))
def HS1_0 : SF := (sFor (iOf1 (eVar 1) srcOf) (gNm 3) (sIf (tB (eAp oAny (aCons (eLc (iOf1 (eVar 1) srcOf) (gNm 4) (tYesF) (eOp oGt (eOp oIx (eOp oIx (eVar 0) (eVar 3)) (eVar 4)) (eOp oAdd (eOp oIx (eOp oIx (eVar 0) (eVar 3)) (eVar 2)) (eOp oIx (eOp oIx (eVar 0) (eVar 2)) (eVar 4)))) [4]) (aNil)))) (sRet (eC (.bl true))) (sNil)))
def HS1_0_0 : SF := (sIf (tB (eAp oAny (aCons (eLc (iOf1 (eVar 1) srcOf) (gNm 4) (tYesF) (eOp oGt (eOp oIx (eOp oIx (eVar 0) (eVar 3)) (eVar 4)) (eOp oAdd (eOp oIx (eOp oIx (eVar 0) (eVar 3)) (eVar 2)) (eOp oIx (eOp oIx (eVar 0) (eVar 2)) (eVar 4)))) [4]) (aNil)))) (sRet (eC (.bl true))) (sNil))
theorem HS1_0_is : HS1_0 = sFor (iOf1 (eVar 1) srcOf) (gNm 3) (HS1_0_0) := rfl
theorem HS1_is : HS1 = sFor (iOf1 (eVar 1) srcOf) (gNm 2) (HS1_0) := rfl
theorem HS_is : b_has_shortcuts = sSeq HS0 (sSeq HS1 HS2) := rfl
section
variable {sw : List (List Int)} {n : Nat}
theorem short_z (T : TabC sw n) : m_has_shortcuts [tabV sw] [] = .ok (.bl (!triS sw n)) [] := by
  have hn10 := T.n10
  have hlim : lim = 1000000 := rfl
  have e1 : HS0 [some (tabV sw), none, none, none, none] [] = .nx [some (tabV sw), some (.ref 0), none, none, none] [.lst (intsF 0 n)] := by
    have e2 : oLen [tabV sw] ([] : AH) = some (.int (n : Nat), []) := by
      show some (Va.int ((sw.map tI).length : Nat), ([] : AH)) = _
      rw [List.length_map, T.len]
    have e3 : rgF 0 (n : Nat) ([] : AH) = some (intsF 0 n) := by
      unfold rgF
      rw [if_pos (by simp [hlim]; omega)]
      simp
    unfold HS0
    simp_all! [s_set, eLR1, s_ap, s_cons, s_var, s_nil, e2, Rs.bind_ok, e3, mkL]
  have inner : ∀ (a b : Nat), a < n → b < n → ∀ (x : Option Va) (r : AH), ∃ r',
      HS1_0_0 [some (tabV sw), some (.ref 0), some (.int a), some (.int b), x] (.lst (intsF 0 n) :: r) = if anyS sw n a b then .rt (.bl true) (.lst (intsF 0 n) :: r') else .nx [some (tabV sw), some (.ref 0), some (.int a), some (.int b), x] (.lst (intsF 0 n) :: r') := by
    intro a b ha hb x r
    have e4 : compF [(0, intsF 0 n)] (gNm 4) tYesF (eOp oGt (eOp oIx (eOp oIx (eVar 0) (eVar 3)) (eVar 4)) (eOp oAdd (eOp oIx (eOp oIx (eVar 0) (eVar 3)) (eVar 2)) (eOp oIx (eOp oIx (eVar 0) (eVar 2)) (eVar 4)))) [some (tabV sw), some (.ref 0), some (.int a), some (.int b), none] (intsF 0 n) (.lst (intsF 0 n) :: r) =
        .ok ((List.range n).map fun c => .bl (decide (at2 sw b a + at2 sw a c < at2 sw b c))) (.lst (intsF 0 n) :: r) := by
      have e0 : intsF 0 n = (List.range n).map fun c => Va.int (c : Nat) := by
        rw [intsF_eq]
        apply List.map_congr_left
        intro c _
        congr 1
        omega
      conv => lhs; arg 6; rw [e0]
      refine comp_mapZ (g := fun c => Va.int (c : Nat)) (c_g rfl) _ fun c hc => ?_
      have hc := List.mem_range.mp hc
      refine ⟨[some (tabV sw), some (.ref 0), some (.int a), some (.int b), some (.int (c : Nat))], rfl, ?_⟩
      have q1 := T.ix2 (a := 0) (b := 3) (c := 4) (h := AO.lst (intsF 0 n) :: r) (ev := [some (tabV sw), some (.ref 0), some (.int a), some (.int b), some (.int (c : Nat))]) hb hc rfl rfl rfl
      have q2 := T.ix2 (a := 0) (b := 3) (c := 2) (h := AO.lst (intsF 0 n) :: r) (ev := [some (tabV sw), some (.ref 0), some (.int a), some (.int b), some (.int (c : Nat))]) hb ha rfl rfl rfl
      have q3 := T.ix2 (a := 0) (b := 2) (c := 4) (h := AO.lst (intsF 0 n) :: r) (ev := [some (tabV sw), some (.ref 0), some (.int a), some (.int b), some (.int (c : Nat))]) ha hc rfl rfl rfl
      rw [s_op, q1, k_op, s_op, q2, k_op, q3, k_op1, o_add, k_o, k_op1, o_gt, k_o]
    have e6 : (List.length (intsF 0 n)) < lim := by
      rw [ints_len]
      omega
    refine ⟨r ++ [.lst ((List.range n).map fun c => .bl (decide (at2 sw b a + at2 sw a c < at2 sw b c)))], ?_⟩
    have ee : ewipe [some (tabV sw), some (.ref 0), some (.int a), some (.int b), x] [4] = [some (tabV sw), some (.ref 0), some (.int a), some (.int b), none] := rfl
    have e7 := o_anyL (h := (AO.lst (intsF 0 n) :: r) ++ [.lst ((List.range n).map fun c => .bl (decide (at2 sw b a + at2 sw a c < at2 sw b c)))]) (k := (AO.lst (intsF 0 n) :: r).length) lstAt_end (allB_map (φ := fun c => decide (at2 sw b a + at2 sw a c < at2 sw b c)) _)
    have e8 : ((List.range n).map fun c => decide (at2 sw b a + at2 sw a c < at2 sw b c)).any id = anyS sw n a b := by rw [List.any_map]; rfl
    unfold HS1_0_0
    simp_all! [s_sif, s_tB, s_ap, s_cons, s_lc, s_it1, s_var, lst0]
    rw [k_lc e6, ee, e4]
    simp only [k_lc1, k_cons, k_cons1, s_nil, k_ap, e7, k_o, k_tB, e8]
    cases anyS sw n a b with
    | true => simp_all! []
    | false => simp only [k_sifF, s_sN]; rfl
  have inner2 : ∀ (a : Nat), a < n → ∀ (y x : Option Va) (r : AH),
      Ts (HS1_0 [some (tabV sw), some (.ref 0), some (.int a), y, x] (.lst (intsF 0 n) :: r)) fun q => ((∀ b < n, anyS sw n a b = false) ∧ ∃ y' x' r', q = .nx [some (tabV sw), some (.ref 0), some (.int a), y', x'] (.lst (intsF 0 n) :: r')) ∨ (∃ b r', b < n ∧ anyS sw n a b = true ∧ q = .rt (.bl true) (.lst (intsF 0 n) :: r')) := by
    intro a ha y x r
    rw [HS1_0_is]
    simp only [s_for, s_it1, s_var, List.getElem?_cons_succ, List.getElem?_cons_zero, k_var, k_it1, c_L, lst0, k_srcL, k_it2, k_for]
    refine loop_inv (fun k ev h => (∀ b < k, anyS sw n a b = false) ∧ ∃ y' x' r', ev = [some (tabV sw), some (.ref 0), some (.int a), y', x'] ∧ h = .lst (intsF 0 n) :: r') _ 0 _ _ ⟨fun _ h => absurd h (by omega), y, x, r, rfl, rfl⟩ (fun k ev h _ _ ⟨_, _, _, r, _, e⟩ => by rw [e]; exact c_g rfl) (fun k v ev h hk ⟨ok, y, x, r, e1, e2⟩ => ?_) (fun ev h ⟨ok, y, x, r, e1, e2⟩ => .inl ⟨fun b hb => ok b (by rw [ints_len]; omega), y, x, r, by rw [e1, e2]⟩)
    rw [ints_get] at hk
    split at hk
    · rename_i hkn
      cases hk
      subst e1 e2
      obtain ⟨r', e3⟩ := inner a k ha hkn x r
      refine ⟨[some (tabV sw), some (.ref 0), some (.int a), some (.int (k : Nat)), x], by simp only [Int.zero_add]; rfl, ?_⟩
      rw [e3]
      cases hq : anyS sw n a k with
      | true => exact .inr (.inr (.inr ⟨_, _, rfl, .inr ⟨k, r', hkn, hq, rfl⟩⟩))
      | false =>
        refine .inl ⟨_, _, rfl, fun b hb => ?_, _, _, _, rfl, rfl⟩
        rcases Nat.lt_or_ge b k with z | z
        · exact ok b (by omega)
        · rw [show b = k by omega]; exact hq
    · cases hk
  have outer : ∀ (r : AH),
      Ts (HS1 [some (tabV sw), some (.ref 0), none, none, none] (.lst (intsF 0 n) :: r)) fun q => (triS sw n = true ∧ ∃ ev r', q = .nx ev (.lst (intsF 0 n) :: r')) ∨ (triS sw n = false ∧ ∃ r', q = .rt (.bl true) (.lst (intsF 0 n) :: r')) := by
    intro r
    rw [HS1_is]
    simp only [s_for, s_it1, s_var, List.getElem?_cons_succ, List.getElem?_cons_zero, k_var, k_it1, c_L, lst0, k_srcL, k_it2, k_for]
    refine loop_inv (fun k ev h => (∀ a < k, ∀ b < n, anyS sw n a b = false) ∧ ∃ z y' x' r', ev = [some (tabV sw), some (.ref 0), z, y', x'] ∧ h = .lst (intsF 0 n) :: r') _ 0 _ _ ⟨fun _ h => absurd h (by omega), none, none, none, r, rfl, rfl⟩ (fun k ev h _ _ ⟨_, _, _, _, r, _, e⟩ => by rw [e]; exact c_g rfl) (fun k v ev h hk ⟨ok, z, y, x, r, e1, e2⟩ => ?_) (fun ev h ⟨ok, z, y, x, r, e1, e2⟩ => .inl ⟨?_, ev, r, congrArg _ e2⟩)
    · rw [ints_get] at hk
      split at hk
      · rename_i hkn
        cases hk
        subst e1 e2
        refine ⟨[some (tabV sw), some (.ref 0), some (.int (k : Nat)), y, x], by simp only [Int.zero_add]; rfl, ?_⟩
        rcases inner2 k hkn y x r with ⟨q1, y', x', r', q2⟩ | ⟨b, r', hb, q1, q2⟩
        · refine .inl ⟨_, _, q2, fun a ha b hb => ?_, _, _, _, _, rfl, rfl⟩
          rcases Nat.lt_or_ge a k with z | z
          · exact ok a (by omega) b hb
          · rw [show a = k by omega]; exact q1 b hb
        · refine .inr (.inr (.inr ⟨_, _, q2, .inr ⟨?_, r', rfl⟩⟩))
          refine Bool.eq_false_iff.mpr fun z => ?_
          have := List.all_eq_true.mp (List.all_eq_true.mp z k (List.mem_range.mpr hkn)) b (List.mem_range.mpr hb)
          rw [q1] at this
          cases this
      · cases hk
    · refine List.all_eq_true.mpr fun a ha => List.all_eq_true.mpr fun b hb => ?_
      rw [ok a (by rw [ints_len]; have := List.mem_range.mp ha; omega) b (List.mem_range.mp hb)]
      rfl
  unfold m_has_shortcuts
  rw [s_fn (by rfl), HS_is]
  simp only [List.map_cons, List.map_nil, List.replicate, List.cons_append, List.nil_append, s_seq (sf := HS0), e1, k_seqN]
  rw [s_seq]
  rcases outer [] with ⟨q1, ev, r', q2⟩ | ⟨q1, r', q2⟩
  · rw [q2, q1, k_seqN]
    rfl
  · rw [q2, q1, k_seqR]
    rfl
end
section
variable {e B : Nat} {G H h : AH} {w y : Va} {xs ys : List Va} {n i : Nat}
theorem isN_is (v : Va) (h : AH) : oIs false v .non h = some (.bl (isNon v), h) := by cases v <;> rfl
theorem isN_no (v : Va) (h : AH) : oIs true v .non h = some (.bl (!isNon v), h) := by cases v <;> rfl
theorem reqrow_z (hn : n ≤ 10) (r : Rb (e + 1) B H w) : ∃ g, callL m_is_request_row [w, .int (n : Nat)] H = .ok (.bl (reqZ n w)) (H ++ g) := by
  refine callC (pre := []) (post := [.int (n : Nat)]) (P := reqZ n) r rfl rfl (fun f w => reqZ_map f w) fun G w' r' => ?_
  show ∃ g, m_is_request_row [w', .int (n : Nat)] G = _
  have hlim : lim = 1000000 := rfl
  unfold m_is_request_row
  rw [s_fn (by rfl)]
  unfold b_is_request_row
  by_cases hy : ∃ xs, w' = .tup xs
  · obtain ⟨xs, rfl⟩ := hy
    have i1 : ∀ h, isiK "tuple" (.ok (.tup xs) h) = .ok (.bl true) h := fun h => i_tt
    have lx : ∀ h : AH, oLen [.tup xs] h = some (.int (xs.length : Nat), h) := fun h => rfl
    have sr : ∀ h : AH, srcOf (.tup xs) h = some ⟨xs, []⟩ := fun h => rfl
    by_cases hl : xs.length = n
    · have dn : decide (((xs.length : Nat) : Int) = (n : Nat)) = true := decide_eq_true (by rw [hl])
      have e6 : xs.length < lim := by omega
      have e4 : compF [] (gNm 2) tYesF (eOr (eOp (oIs false) (eVar 2) (eC .non)) (eCall [] (callL m_is_integer) (aCons (eVar 2) (aCons (eC (.int 0)) (aCons (eC (.int 1000)) (aNil)))))) [some (.tup xs), some (.int (n : Nat)), none] xs G = .ok (xs.map fun v => .bl (isNon v || isNZ 0 1000 v)) G :=
        comp_map (φ := fun v => .bl (isNon v || isNZ 0 1000 v)) (e1 := fun v => [some (.tup xs), some (.int (n : Nat)), some v]) rfl _ fun v hv => by
          refine ⟨rfl, ?_⟩
          have q := int_z (lo := 0) (hi := 1000) (r'.sub hv)
          cases hc : isNon v <;> simp_all! [isN_is, hc, q, Bool.false_or, Bool.true_or]
      have e5 : ∀ G, compF [] (gNm 2) tYesF (eOp (oIs true) (eVar 2) (eC .non)) [some (.tup xs), some (.int (n : Nat)), none] xs G = .ok (xs.map fun v => .bl (!isNon v)) G := fun G =>
        comp_map (φ := fun v => .bl (!isNon v)) (e1 := fun v => [some (.tup xs), some (.int (n : Nat)), some v]) rfl _ fun v hv => by
          refine ⟨rfl, ?_⟩
          simp_all! [isN_no]
      have ew : ewipe [some (.tup xs), some (.int (n : Nat)), none] [2] = [some (.tup xs), some (.int (n : Nat)), none] := rfl
      have f1 : allB (xs.map fun v => .bl (isNon v || isNZ 0 1000 v)) = some (xs.map fun v => isNon v || isNZ 0 1000 v) := allB_map (φ := fun v => isNon v || isNZ 0 1000 v) _
      have f1' : (xs.map fun v => isNon v || isNZ 0 1000 v).all id = xs.all fun v => isNon v || isNZ 0 1000 v := by rw [List.all_map]; rfl
      have f2 : allB (xs.map fun v => .bl (!isNon v)) = some (xs.map fun v => !isNon v) := allB_map (φ := fun v => !isNon v) _
      have f2' : (xs.map fun v => !isNon v).any id = xs.any fun v => !isNon v := by rw [List.any_map]; rfl
      have hr : reqZ n (.tup xs) = ((xs.all fun v => isNon v || isNZ 0 1000 v) && xs.any fun v => !isNon v) := by
        show (decide (xs.length = n) && _) = _
        rw [decide_eq_true hl, Bool.true_and]
      have g1 := o_allL (h := G ++ [.lst (xs.map fun v => .bl (isNon v || isNZ 0 1000 v))]) lstAt_end f1
      rw [f1'] at g1
      have g2 := o_anyL (h := (G ++ [.lst (xs.map fun v => .bl (isNon v || isNZ 0 1000 v))]) ++ [.lst (xs.map fun v => .bl (!isNon v))]) lstAt_end f2
      rw [f2'] at g2
      rw [hr]
      simp_all! [List.map_cons, List.map_nil, List.replicate, List.cons_append, List.nil_append, s_seq, s_sif, s_or, s_not, s_tB, s_isi, s_op, s_ap, s_cons, s_var, s_nil, s_lc, s_it1, -o_lenT, i1, lx, dn, sr]
      rw [k_lc e6, ew, e4]
      simp_all! [k_lc1, k_cons, k_cons1, s_nil, k_ap, g1, -o_lenT]
      cases hb : xs.all fun v => isNon v || isNZ 0 1000 v with
      | false =>
        simp_all! [-o_lenT, Bool.false_and]
        exact gcZb
      | true =>
        simp_all! [-o_lenT, sr]
        rw [k_lc e6, ew, e5]
        simp_all! [k_lc1, k_cons, k_cons1, s_nil, k_ap, g2, -o_lenT, Bool.true_and]
        rw [List.append_assoc]
        exact gcZb
    · have dn : decide (((xs.length : Nat) : Int) = (n : Nat)) = false := decide_eq_false (by omega)
      have hr : reqZ n (.tup xs) = false := by
        show (decide (xs.length = n) && _) = _
        rw [decide_eq_false hl, Bool.false_and]
      rw [hr]
      simp_all! [List.map_cons, List.map_nil, List.replicate, List.cons_append, List.nil_append, s_seq, s_sif, s_or, s_not, s_tB, s_isi, s_op, s_ap, s_cons, s_var, s_nil, -o_lenT, i1, lx, dn]
      rw [gcZ0]
      exact ⟨[], by rw [List.append_nil]⟩
  · have i1 := isi_noZ r' fun ys e => hy ⟨ys, e⟩
    have hr : reqZ n w' = false := by
      cases w' with
      | tup ys => exact absurd ⟨ys, rfl⟩ hy
      | _ => rfl
    rw [hr]
    simp_all! [List.map_cons, List.map_nil, List.replicate, List.cons_append, List.nil_append, s_seq, s_sif, s_or, s_not, s_tB, s_isi, s_op, s_ap, s_cons, s_var, s_nil, -o_lenT, i1]
    rw [gcZ0]
    exact ⟨[], by rw [List.append_nil]⟩
end
end FL

set_option linter.all false
set_option maxRecDepth 100000
set_option maxHeartbeats 4000000
namespace FL
open PySem PySem.Spec PyProof.Rows L2
/-! IS6: is_system on readable trees. -/
def intZ : Va → Int
  | .int c => c
  | _ => 0
def intsZ : Va → List Int
  | .tup ys => ys.map intZ
  | _ => []
def swZ : Va → List (List Int)
  | .tup xs => xs.map intsZ
  | _ => []
def triV (w : Va) : Bool := triS (swZ w) (swZ w).length
def rqZ (n : Nat) : Va → Bool
  | .tup rs => decide (1 ≤ rs.length) && (decide (rs.length ≤ 8) && rs.all (reqZ n))
  | _ => false
def sys3 : List Va → Bool
  | [a, b, c] => tabZ a && (triV a && (rqZ (swZ a).length b && isNZ 0 (((swZ a).length : Nat) - 1) c))
  | _ => false
def sysZ : Va → Bool
  | .tup xs => sys3 xs
  | _ => false
theorem intZ_map (f : Nat → Nat) (w : Va) : intZ (mapR f w) = intZ w := by cases w <;> rfl
theorem intsZ_map (f : Nat → Nat) (w : Va) : intsZ (mapR f w) = intsZ w := by
  cases w with
  | tup ys =>
    show (mapRs f ys).map intZ = ys.map intZ
    rw [mapRs_mapZ, List.map_map]
    exact List.map_congr_left fun x _ => intZ_map f x
  | _ => rfl
theorem swZ_map (f : Nat → Nat) (w : Va) : swZ (mapR f w) = swZ w := by
  cases w with
  | tup ys =>
    show (mapRs f ys).map intsZ = ys.map intsZ
    rw [mapRs_mapZ, List.map_map]
    exact List.map_congr_left fun x _ => intsZ_map f x
  | _ => rfl
theorem rqZ_map {n : Nat} (f : Nat → Nat) (w : Va) : rqZ n (mapR f w) = rqZ n w := by
  cases w with
  | tup ys =>
    show rqZ n (.tup (mapRs f ys)) = _
    unfold rqZ
    simp only [len_mapZ]
    rw [all_mapZ (fun w => reqZ_map f w)]
  | _ => rfl
theorem sysZ_map (f : Nat → Nat) (w : Va) : sysZ (mapR f w) = sysZ w := by
  cases w with
  | tup xs =>
    show sys3 (mapRs f xs) = sys3 xs
    match xs with
    | [] => rfl
    | [_] => rfl
    | [_, _] => rfl
    | [a, b, c] =>
      show sys3 [mapR f a, mapR f b, mapR f c] = _
      unfold sys3 triV
      simp only [tabZ_map, swZ_map, rqZ_map, isNZ_map]
    | _ :: _ :: _ :: _ :: _ => rfl
  | _ => rfl
theorem swZ_tab (sw : List (List Int)) : swZ (tabV sw) = sw := by
  show (sw.map tI).map intsZ = sw
  rw [List.map_map]
  conv => rhs; rw [← List.map_id sw]
  refine List.map_congr_left fun r _ => ?_
  show (r.map Va.int).map intZ = r
  rw [List.map_map]
  conv => rhs; rw [← List.map_id r]
  rfl
theorem sys3_len {xs : List Va} (h : xs.length ≠ 3) : sys3 xs = false := by
  match xs with
  | [] => rfl
  | [_] => rfl
  | [_, _] => rfl
  | [a, b, c] => exact absurd rfl h
  | _ :: _ :: _ :: _ :: _ => rfl
theorem three {xs : List Va} (h : xs.length = 3) : ∃ a b c, xs = [a, b, c] := by
  match xs with
  | [] => cases h
  | [_] => cases h
  | [_, _] => cases h
  | [a, b, c] => exact ⟨a, b, c, rfl⟩
  | _ :: _ :: _ :: _ :: _ => simp at h
theorem comp_growZ {gsl : List (Nat × List Va)} {gf : GF} {f : EF} {ev : Ev} {h : AH} {ψ : Va → Va} (hgs : ∀ t, gsOk gsl (h ++ t) = true) : ∀ (ys : List Va) (t : AH), (∀ x ∈ ys, ∃ ev1, gf x ev = some ev1 ∧ ∀ t, ∃ t', f ev1 (h ++ t) = .ok (ψ x) (h ++ t')) → ∃ t', compF gsl gf tYesF f ev ys (h ++ t) = .ok (ys.map ψ) (h ++ t')
  | [], t, _ => ⟨t, s_cpN (hgs t)⟩
  | x :: ys, t, hq => by
    obtain ⟨ev1, g1, g2⟩ := hq x (List.mem_cons_self ..)
    obtain ⟨t1, e⟩ := g2 t
    obtain ⟨t2, ih⟩ := comp_growZ hgs ys t1 fun y hy => hq y (List.mem_cons_of_mem _ hy)
    refine ⟨t2, ?_⟩
    rw [s_cpC (hgs t), g1, k_cp]
    show cp1K _ _ _ _ _ _ _ (.ok true (h ++ t)) = _
    rw [k_cpT, e, k_cp2, ih, k_cp3]
    rfl
section
variable {e B : Nat} {G H h : AH} {w y : Va} {xs ys : List Va} {n i : Nat}
theorem lim_eq : lim = 1000000 := rfl
theorem system_z (r : Rb (e + 3) B H w) : ∃ g, callL m_is_system [w] H = .ok (.bl (sysZ w)) (H ++ g) := by
  refine callC (pre := []) (post := []) (P := sysZ) r rfl rfl (fun f w => sysZ_map f w) fun G w' r' => ?_
  show ∃ g, m_is_system [w'] G = _
  unfold m_is_system
  rw [s_fn (by rfl)]
  unfold b_is_system
  by_cases hy : ∃ xs, w' = .tup xs
  · obtain ⟨xs, rfl⟩ := hy
    have i1 : ∀ h, isiK "tuple" (.ok (.tup xs) h) = .ok (.bl true) h := fun h => i_tt
    have lx : ∀ h : AH, oLen [.tup xs] h = some (.int (xs.length : Nat), h) := fun h => rfl
    by_cases hl : xs.length = 3
    · obtain ⟨a, b, c, rfl⟩ := three hl
      clear lx
      have dn : decide ((3 : Int) = 3) = true := rfl
      have lx : ∀ h : AH, oLen [.tup [a, b, c]] h = some (.int 3, h) := fun h => rfl
      have ra : Rb (e + 2) B G a := r'.sub (by simp)
      have rb : Rb (e + 2) B G b := r'.sub (by simp)
      have rc : Rb (e + 2) B G c := r'.sub (by simp)
      have g1 : gTp (gCs (gNm 1) (gCs (gNm 2) (gCs (gNm 3) gNl))) (.tup [a, b, c]) [some (.tup [a, b, c]), none, none, none, none] = some [some (.tup [a, b, c]), some a, some b, some c, none] := rfl
      obtain ⟨J1, t1⟩ := table_z ra
      have hz : sysZ (.tup [a, b, c]) = (tabZ a && (triV a && (rqZ (swZ a).length b && isNZ 0 (((swZ a).length : Nat) - 1) c))) := rfl
      rw [hz]
      generalize hW : Va.tup [a, b, c] = W at *
      cases ht : tabZ a with
      | false =>
        rw [ht] at t1
        simp_all! [List.replicate, -o_lenT, i1, lx, dn, g1, t1, Bool.false_and]
        exact gcZb
      | true =>
        rw [ht] at t1
        obtain ⟨sw, n, rfl, T⟩ := tabZ_tab ht
        have sl : (swZ (tabV sw)).length = n := by rw [swZ_tab, T.len]
        have t2 : ∀ h, callL m_has_shortcuts [tabV sw] h = .ok (.bl (!triS sw n)) h := fun h => loc0 (short_z T) (refs_tab sw) rfl
        have ev : triV (tabV sw) = triS sw n := by unfold triV; rw [swZ_tab, T.len]
        have la : ∀ h : AH, oLen [tabV sw] h = some (.int (n : Nat), h) := fun h => by
          show some (Va.int ((sw.map tI).length : Nat), h) = _
          rw [List.length_map, T.len]
        rw [ev, sl, Bool.true_and]
        cases hs : triS sw n with
        | false =>
          rw [hs] at t2
          simp_all! [List.replicate, -o_lenT, i1, lx, dn, g1, t1, t2, Bool.false_and]
          exact gcZb
        | true =>
          rw [hs] at t2
          rw [Bool.true_and]
          by_cases hb : ∃ rs, b = .tup rs
          · obtain ⟨rs, rfl⟩ := hb
            have i2 : ∀ h, isiK "tuple" (.ok (.tup rs) h) = .ok (.bl true) h := fun h => i_tt
            have lr : ∀ h : AH, oLen [.tup rs] h = some (.int (rs.length : Nat), h) := fun h => rfl
            have sr : ∀ h : AH, srcOf (.tup rs) h = some ⟨rs, []⟩ := fun h => rfl
            by_cases q1 : 1 ≤ rs.length
            · have d1 : decide ((1 : Int) ≤ (rs.length : Nat)) = true := decide_eq_true (by omega)
              by_cases q2 : rs.length ≤ 8
              · have d2 : decide (((rs.length : Nat) : Int) ≤ 8) = true := decide_eq_true (by omega)
                have e6 : rs.length < lim := by have := lim_eq; omega
                have ew : ewipe [some W, some (tabV sw), some (.tup rs), some c, none] [4] = [some W, some (tabV sw), some (.tup rs), some c, none] := rfl
                obtain ⟨J2, e4⟩ := comp_growZ (gsl := []) (gf := gNm 4) (f := eCall [] (callL m_is_request_row) (aCons (eVar 4) (aCons (eAp oLen (aCons (eVar 1) (aNil))) (aNil)))) (ev := [some W, some (tabV sw), some (.tup rs), some c, none]) (h := G) (ψ := fun v => .bl (reqZ n v)) (fun _ => rfl) rs J1 fun x hx => ⟨[some W, some (tabV sw), some (.tup rs), some c, some x], rfl, fun t => by
                  obtain ⟨J, q⟩ := reqrow_z (n := n) T.n10 ((rb.sub hx).up (g := t))
                  refine ⟨t ++ J, ?_⟩
                  rw [← List.append_assoc, ← q]
                  simp only [s_cl, s_cons, s_var, s_ap, s_nil, List.getElem?_cons_succ, List.getElem?_cons_zero, k_var, k_cons, k_cons1, k_ap, k_cl, la, k_o, List.append_nil]⟩
                have f1 : allB (rs.map fun v => .bl (reqZ n v)) = some (rs.map fun v => reqZ n v) := allB_map (φ := fun v => reqZ n v) _
                have f1' : (rs.map fun v => reqZ n v).all id = rs.all (reqZ n) := by rw [List.all_map]; rfl
                have hr : rqZ n (.tup rs) = rs.all (reqZ n) := by
                  show (decide (1 ≤ rs.length) && (decide (rs.length ≤ 8) && _)) = _
                  rw [decide_eq_true q1, decide_eq_true q2]
                  rfl
                have g2 := o_allL (h := (G ++ J2) ++ [.lst (rs.map fun v => .bl (reqZ n v))]) lstAt_end f1
                rw [f1'] at g2
                rw [hr]
                cases ha : rs.all (reqZ n) with
                | false =>
                  rw [ha] at g2
                  simp_all! [List.replicate, -o_lenT, i1, lx, dn, g1, t1, t2, i2, lr, d1, d2, sr]
                  rw [k_lc e6, ew, e4]
                  simp_all! [k_lc1, -o_lenT, g2, Bool.false_and]
                  rw [List.append_assoc]
                  exact gcZb
                | true =>
                  rw [ha] at g2
                  have q := int_z (lo := 0) (hi := ((n : Nat) : Int) - 1) (rc.up (g := J2 ++ [.lst (rs.map fun v => .bl (reqZ n v))]))
                  rw [← List.append_assoc] at q
                  simp_all! [List.replicate, -o_lenT, i1, lx, dn, g1, t1, t2, i2, lr, d1, d2, sr]
                  rw [k_lc e6, ew, e4]
                  simp_all! [k_lc1, -o_lenT, g2, la, q, Bool.true_and]
                  rw [List.append_assoc]
                  exact gcZb
              · have d2 : decide (((rs.length : Nat) : Int) ≤ 8) = false := decide_eq_false (by omega)
                have hr : rqZ n (.tup rs) = false := by
                  show (decide (1 ≤ rs.length) && (decide (rs.length ≤ 8) && _)) = _
                  rw [decide_eq_false q2, Bool.false_and, Bool.and_false]
                rw [hr]
                simp_all! [List.replicate, -o_lenT, i1, lx, dn, g1, t1, t2, i2, lr, d1, d2, Bool.false_and]
                exact gcZb
            · have d1 : decide ((1 : Int) ≤ (rs.length : Nat)) = false := decide_eq_false (by omega)
              have hr : rqZ n (.tup rs) = false := by
                show (decide (1 ≤ rs.length) && (decide (rs.length ≤ 8) && _)) = _
                rw [decide_eq_false q1, Bool.false_and]
              rw [hr]
              simp_all! [List.replicate, -o_lenT, i1, lx, dn, g1, t1, t2, i2, lr, d1, Bool.false_and]
              exact gcZb
          · have i2 := isi_noZ (rb.up (g := J1)) fun ys e => hb ⟨ys, e⟩
            have hr : rqZ n b = false := by
              cases b with
              | tup ys => exact absurd ⟨ys, rfl⟩ hb
              | _ => rfl
            rw [hr]
            simp_all! [List.replicate, -o_lenT, i1, lx, dn, g1, t1, t2, i2, Bool.false_and]
            exact gcZb
    · have dn : decide (((xs.length : Nat) : Int) = 3) = false := decide_eq_false (by omega)
      have hr : sysZ (.tup xs) = false := sys3_len hl
      rw [hr]
      simp_all! [List.replicate, -o_lenT, i1, lx, dn]
      rw [gcZ0]
      exact ⟨[], by rw [List.append_nil]⟩
  · have i1 := isi_noZ r' fun ys e => hy ⟨ys, e⟩
    have hr : sysZ w' = false := by
      cases w' with
      | tup ys => exact absurd ⟨ys, rfl⟩ hy
      | _ => rfl
    rw [hr]
    simp_all! [List.replicate, -o_lenT, i1]
    rw [gcZ0]
    exact ⟨[], by rw [List.append_nil]⟩
/-! the law's own numbers -/
theorem range_z {lo hi : Int} (r : Rb e B H w) : callL m__law_in_range [w, .int lo, .int hi] H = .ok (.bl (isNZ lo hi w)) H := by
  refine callK (pre := []) (post := [.int lo, .int hi]) (P := isNZ lo hi) r rfl rfl (fun f w => isNZ_map f w) fun G w' r' => ?_
  show m__law_in_range [w', .int lo, .int hi] G = _
  have no : ∀ v, isiK "int" (.ok v G) = .ok (.bl false) G → m__law_in_range [v, .int lo, .int hi] G = .ok (.bl false) G := fun v i => by
    unfold m__law_in_range
    rw [s_fn (by rfl)]
    unfold b__law_in_range
    simp! [List.replicate, i]
    exact gcZ0
  have rr := r'
  obtain ⟨t, _⟩ := r'
  cases t with
  | int i =>
    have e1 : ∀ H : AH, isiK "int" (.ok (.int i) H) = .ok (.bl true) H := fun H => rfl
    have e2 : ∀ H : AH, isiK "bool" (.ok (.int i) H) = .ok (.bl false) H := fun H => rfl
    show m__law_in_range [.int i, .int lo, .int hi] G = .ok (.bl (decide (lo ≤ i) && decide (i ≤ hi))) G
    unfold m__law_in_range
    rw [s_fn (by rfl)]
    unfold b__law_in_range
    cases h0 : decide (lo ≤ i) <;> cases h1 : decide (i ≤ hi) <;>
    · simp! [List.replicate, e1, e2, h0, h1, Bool.and_true, Bool.and_false, Bool.true_and, Bool.false_and]
      exact gcZ0
  | non => exact no _ rfl
  | bl b =>
    have e1 : ∀ H : AH, isiK "int" (.ok (.bl b) H) = .ok (.bl true) H := fun H => rfl
    have e2 : ∀ H : AH, isiK "bool" (.ok (.bl b) H) = .ok (.bl true) H := fun H => rfl
    unfold m__law_in_range
    rw [s_fn (by rfl)]
    unfold b__law_in_range
    simp! [List.replicate, e1, e2]
    exact gcZ0
  | str x => exact no _ rfl
  | ref a => exact no _ (isi_refZ (by decide) (by decide) rr)
  | tup xs h => exact no _ rfl
theorem ne_bb (a b : Bool) : oNe2 (.bl a) (.bl b) h = some (.bl (a != b), h) := by cases a <;> cases b <;> rfl
end
end FL

set_option linter.all false
set_option maxRecDepth 100000
set_option maxHeartbeats 4000000
namespace FL
open PySem PySem.Spec PyProof.Rows L2
/-! IS7: the law's own check on readable trees. -/
theorem enumF_lenZ : ∀ (xs : List Va) (n : Int), (enumF n xs).length = xs.length
  | [], _ => rfl
  | x :: xs, n => by show (enumF (n + 1) xs).length + 1 = _; rw [enumF_lenZ xs]; rfl
theorem comp_filtZ {gsl : List (Nat × List Va)} {gf : GF} {tf : TF} {f : EF} {ev : Ev} {h : AH} {p : Va → Bool} (hgs : gsOk gsl h = true) : ∀ ys : List Va, (∀ x ∈ ys, ∃ ev1, gf x ev = some ev1 ∧ tf ev1 h = .ok (p x) h ∧ f ev1 h = .ok x h) → compF gsl gf tf f ev ys h = .ok (ys.filter p) h
  | [], _ => s_cpN hgs
  | x :: ys, hq => by
    obtain ⟨ev1, g1, g2, g3⟩ := hq x (List.mem_cons_self ..)
    have ih := comp_filtZ hgs ys fun y hy => hq y (List.mem_cons_of_mem _ hy)
    rw [s_cpC hgs, g1, k_cp, g2]
    cases hp : p x with
    | false => rw [k_cpF, ih, List.filter_cons_of_neg (by simp [hp])]
    | true => rw [k_cpT, g3, k_cp2, ih, k_cp3, List.filter_cons_of_pos hp]
theorem eqZ_l {neg : Bool} {a b : Nat} {xs : List Va} {h : AH} (e1 : lstAt h a = some xs) (e2 : lstAt h b = some []) : oEqZ neg (.ref a) (.ref b) h = some (.bl (xs.isEmpty != neg), h) := by
  cases xs with
  | nil => rw [o_eqZn e1 e2]; cases neg <;> rfl
  | cons x xs => rw [o_eqZl e1 e2]; cases neg <;> rfl
theorem isEmpty_filtZ {p : Va → Bool} : ∀ xs : List Va, (xs.filter p).isEmpty = !xs.any p
  | [] => rfl
  | x :: xs => by
    rw [List.any_cons]
    cases hp : p x with
    | true => rw [List.filter_cons_of_pos hp]; rfl
    | false => rw [List.filter_cons_of_neg (by simp [hp]), isEmpty_filtZ xs]; rfl
def VT0 : SF := (sIf (tOr (tNot (tB (eIsi "tuple" (eVar 0)))) (tNot (tB (eChain oLe oLe (eC (.int 2)) (eAp oLen (aCons (eVar 0) (aNil))) (eC (.int 10)))))) (sRet (eC (.bl false))) (sNil))
def VT1 : SF := (sFor (iOf (aCons (eVar 0) (aNil)) srcE) (gTp (gCs (gNm 1) (gCs (gNm 2) (gNl)))) (sSeq (sIf (tOr (tNot (tB (eIsi "tuple" (eVar 2)))) (tB (eOp oNe2 (eAp oLen (aCons (eVar 2) (aNil))) (eAp oLen (aCons (eVar 0) (aNil)))))) (sRet (eC (.bl false))) (sNil)) (sFor (iOf (aCons (eVar 2) (aNil)) srcE) (gTp (gCs (gNm 3) (gCs (gNm 4) (gNl)))) (sIf (tOr (tNot (tB (eCall [] (callL m__law_in_range) (aCons (eVar 4) (aCons (eC (.int 0)) (aCons (eC (.int 1000)) (aNil))))))) (tB (eOp oNe2 (eOp oEq2 (eVar 4) (eC (.int 0))) (eOp oEq2 (eVar 1) (eVar 3))))) (sRet (eC (.bl false))) (sNil)))))
def VT2 : SF := (sFor (iOf1 (eVar 0) srcOf) (gNm 2) (sFor (iOf (aCons (eVar 2) (aNil)) srcE) (gTp (gCs (gNm 5) (gCs (gNm 4) (gNl)))) (sFor (iOf (aCons (eAp oLen (aCons (eVar 0) (aNil))) (aNil)) srcR) (gNm 3) (sIf (tB (eOp oGt (eOp oIx (eVar 2) (eVar 3)) (eOp oAdd (eVar 4) (eOp oIx (eOp oIx (eVar 0) (eVar 5)) (eVar 3))))) (sRet (eC (.bl false))) (sNil)))))
def VT3 : SF := (sRet (eC (.bl true)))
def VT1_0 : SF := (sIf (tOr (tNot (tB (eIsi "tuple" (eVar 2)))) (tB (eOp oNe2 (eAp oLen (aCons (eVar 2) (aNil))) (eAp oLen (aCons (eVar 0) (aNil)))))) (sRet (eC (.bl false))) (sNil))
def VT1_1 : SF := (sFor (iOf (aCons (eVar 2) (aNil)) srcE) (gTp (gCs (gNm 3) (gCs (gNm 4) (gNl)))) (sIf (tOr (tNot (tB (eCall [] (callL m__law_in_range) (aCons (eVar 4) (aCons (eC (.int 0)) (aCons (eC (.int 1000)) (aNil))))))) (tB (eOp oNe2 (eOp oEq2 (eVar 4) (eC (.int 0))) (eOp oEq2 (eVar 1) (eVar 3))))) (sRet (eC (.bl false))) (sNil)))
def VT1_1_0 : SF := (sIf (tOr (tNot (tB (eCall [] (callL m__law_in_range) (aCons (eVar 4) (aCons (eC (.int 0)) (aCons (eC (.int 1000)) (aNil))))))) (tB (eOp oNe2 (eOp oEq2 (eVar 4) (eC (.int 0))) (eOp oEq2 (eVar 1) (eVar 3))))) (sRet (eC (.bl false))) (sNil))
theorem VT1_1_is : VT1_1 = sFor (iOf (aCons (eVar 2) (aNil)) srcE) (gTp (gCs (gNm 3) (gCs (gNm 4) (gNl)))) (VT1_1_0) := rfl
theorem VT1_is : VT1 = sFor (iOf (aCons (eVar 0) (aNil)) srcE) (gTp (gCs (gNm 1) (gCs (gNm 2) (gNl)))) (sSeq VT1_0 VT1_1) := rfl
def VT2_0 : SF := (sFor (iOf (aCons (eVar 2) (aNil)) srcE) (gTp (gCs (gNm 5) (gCs (gNm 4) (gNl)))) (sFor (iOf (aCons (eAp oLen (aCons (eVar 0) (aNil))) (aNil)) srcR) (gNm 3) (sIf (tB (eOp oGt (eOp oIx (eVar 2) (eVar 3)) (eOp oAdd (eVar 4) (eOp oIx (eOp oIx (eVar 0) (eVar 5)) (eVar 3))))) (sRet (eC (.bl false))) (sNil))))
def VT2_0_0 : SF := (sFor (iOf (aCons (eAp oLen (aCons (eVar 0) (aNil))) (aNil)) srcR) (gNm 3) (sIf (tB (eOp oGt (eOp oIx (eVar 2) (eVar 3)) (eOp oAdd (eVar 4) (eOp oIx (eOp oIx (eVar 0) (eVar 5)) (eVar 3))))) (sRet (eC (.bl false))) (sNil)))
def VT2_0_0_0 : SF := (sIf (tB (eOp oGt (eOp oIx (eVar 2) (eVar 3)) (eOp oAdd (eVar 4) (eOp oIx (eOp oIx (eVar 0) (eVar 5)) (eVar 3))))) (sRet (eC (.bl false))) (sNil))
theorem VT2_0_0_is : VT2_0_0 = sFor (iOf (aCons (eAp oLen (aCons (eVar 0) (aNil))) (aNil)) srcR) (gNm 3) (VT2_0_0_0) := rfl
theorem VT2_0_is : VT2_0 = sFor (iOf (aCons (eVar 2) (aNil)) srcE) (gTp (gCs (gNm 5) (gCs (gNm 4) (gNl)))) (VT2_0_0) := rfl
theorem VT2_is : VT2 = sFor (iOf1 (eVar 0) srcOf) (gNm 2) (VT2_0) := rfl
theorem VT_is : b__law_valid_table = sSeq VT0 (sSeq VT1 (sSeq VT2 VT3)) := rfl
section
variable {e B : Nat} {G H h : AH} {w y v : Va} {xs ys : List Va} {n i j : Nat} {sw : List (List Int)}
theorem vcell_z (r : Rb e B h v) (W row x : Option Va) : VT1_1_0 [W, some (.int (i : Nat)), row, some (.int (j : Nat)), some v, x] h = if cellZ i j v then .nx [W, some (.int (i : Nat)), row, some (.int (j : Nat)), some v, x] h else .rt (.bl false) h := by
  have q := range_z (lo := 0) (hi := 1000) r
  unfold VT1_1_0
  have lw : 0 ≤ low i j ∧ low i j ≤ 1 := by unfold low; split <;> omega
  cases hv : isNZ 0 1000 v with
  | false =>
    have hc : cellZ i j v = false := by
      unfold cellZ
      cases v with
      | int c =>
        simp only [isNZ, Bool.and_eq_false_iff, decide_eq_false_iff_not] at hv ⊢
        omega
      | _ => rfl
    rw [hc]
    rw [hv] at q
    simp_all! [q]
  | true =>
    rw [hv] at q
    cases v with
    | int c =>
      simp only [isNZ, Bool.and_eq_true, decide_eq_true_eq] at hv
      have hc : cellZ i j (.int c) = !(decide (c = 0) != decide (((i : Nat) : Int) = (j : Nat))) := by
        show (decide (low i j ≤ c) && decide (c ≤ 1000 * low i j)) = _
        unfold low
        by_cases e1 : i = j
        · subst e1
          simp only [if_true, decide_true]
          by_cases e2 : c = 0
          · subst e2; rfl
          · rw [decide_eq_false e2, decide_eq_false (show ¬ c ≤ 1000 * 0 by omega), Bool.and_false]; rfl
        · rw [if_neg e1, decide_eq_false (show ¬ ((i : Nat) : Int) = (j : Nat) by omega)]
          by_cases e2 : c = 0
          · subst e2; rfl
          · rw [decide_eq_false e2, decide_eq_true (show (1 : Int) ≤ c by omega), decide_eq_true (show c ≤ 1000 * 1 by omega)]; rfl
      rw [hc]
      simp_all! [q, ne_bb]
      cases (decide (c = 0) != decide (((i : Nat) : Int) = (j : Nat))) <;> simp_all! []
    | _ => cases hv
theorem vrow_z (hn : xs.length = n) (r : Rb (e + 1) B h y) (a b x : Option Va) :
    Ts ((sSeq VT1_0 VT1_1) [some (.tup xs), some (.int (i : Nat)), some y, a, b, x] h) fun q => (rowZ n i y = true ∧ ∃ a' b', q = .nx [some (.tup xs), some (.int (i : Nat)), some y, a', b', x] h) ∨ (rowZ n i y = false ∧ q = .rt (.bl false) h) := by
  have lx : ∀ h : AH, oLen [.tup xs] h = some (.int (n : Nat), h) := fun h => by rw [← hn]; rfl
  rw [s_seq]
  by_cases hy : ∃ ys, y = .tup ys
  · obtain ⟨ys, rfl⟩ := hy
    have i1 : ∀ h, isiK "tuple" (.ok (.tup ys) h) = .ok (.bl true) h := fun h => i_tt
    have ly : ∀ h : AH, oLen [.tup ys] h = some (.int (ys.length : Nat), h) := fun h => rfl
    by_cases hl : ys.length = n
    · have dn : decide (((ys.length : Nat) : Int) = (n : Nat)) = true := decide_eq_true (by rw [hl])
      have hr : rowZ n i (.tup ys) = (List.range n).all fun j => cellZ i j (atZ ys j) := by
        show (decide (ys.length = n) && _) = _
        rw [decide_eq_true hl, Bool.true_and]
      have e0 : VT1_0 [some (.tup xs), some (.int (i : Nat)), some (.tup ys), a, b, x] h = .nx [some (.tup xs), some (.int (i : Nat)), some (.tup ys), a, b, x] h := by
        unfold VT1_0
        simp_all! [-o_lenT, i1, lx, ly, dn]
      have se : ∀ h, srcE [.tup ys] h = some ⟨enumF 0 ys, []⟩ := fun h => rfl
      rw [e0, k_seqN, VT1_1_is]
      simp_all! [s_for, s_it, s_cons, s_nil, s_var, se]
      refine loop_inv (fun k ev h' => (∀ j < k, cellZ i j (atZ ys j) = true) ∧ h' = h ∧ ∃ a b, ev = [some (.tup xs), some (.int (i : Nat)), some (.tup ys), a, b, x]) _ 0 _ _ ⟨fun _ h => absurd h (by omega), rfl, a, b, rfl⟩ (fun _ _ _ _ _ _ => rfl) (fun k v ev h' hk ⟨ok, e2, a, b, e1⟩ => ?_) (fun ev h' ⟨ok, e2, a, b, e1⟩ => ?_)
      · subst e1 e2
        obtain ⟨c, hx, rfl⟩ := enumF_get _ _ _ _ hk
        have hkn : k < ys.length := (List.getElem?_eq_some_iff.mp hx).1
        have hxz : atZ ys k = c := by unfold atZ; rw [hx]; rfl
        rw [show ((0 : Int) + (k : Nat)) = (k : Nat) by omega]
        refine ⟨[some (.tup xs), some (.int (i : Nat)), some (.tup ys), some (.int (k : Nat)), some c, x], rfl, ?_⟩
        rw [vcell_z (r.sub (List.mem_of_getElem? hx))]
        cases hc : cellZ i k c with
        | true =>
          refine .inl ⟨_, _, rfl, fun j hj => ?_, rfl, _, _, rfl⟩
          rcases Nat.lt_or_ge j k with z | z
          · exact ok j (by omega)
          · rw [show j = k by omega, hxz]; exact hc
        | false =>
          refine .inr (.inr (.inr ⟨_, _, rfl, .inr ⟨?_, rfl⟩⟩))
          rw [hr]
          refine Bool.eq_false_iff.mpr fun z => ?_
          have := List.all_eq_true.mp z k (List.mem_range.mpr (by omega))
          rw [hxz, hc] at this
          cases this
      · subst e1 e2
        refine .inl ⟨?_, _, _, rfl⟩
        rw [hr]
        exact List.all_eq_true.mpr fun j hj => ok j (by rw [enumF_lenZ]; have := List.mem_range.mp hj; omega)
    · have dn : decide (((ys.length : Nat) : Int) = (n : Nat)) = false := decide_eq_false (by omega)
      have hr : rowZ n i (.tup ys) = false := by
        show (decide (ys.length = n) && _) = _
        rw [decide_eq_false hl, Bool.false_and]
      refine .inr ⟨hr, ?_⟩
      unfold VT1_0
      simp_all! [-o_lenT, i1, lx, ly, dn]
  · have i1 := isi_noZ r fun ys e => hy ⟨ys, e⟩
    have hr : rowZ n i y = false := by
      cases y with
      | tup ys => exact absurd ⟨ys, rfl⟩ hy
      | _ => rfl
    refine .inr ⟨hr, ?_⟩
    unfold VT1_0
    simp_all! [-o_lenT, i1]
/-- no cost above that of a way over another state -/
theorem vtri_z (T : TabC sw n) (o1 o2 o3 o4 o5 : Option Va) : Ts (VT2 [some (tabV sw), o1, o2, o3, o4, o5] h) fun q => (triS sw n = true ∧ ∃ ev, q = .nx ev h) ∨ (triS sw n = false ∧ q = .rt (.bl false) h) := by
  have hn10 := T.n10
  have hlim : lim = 1000000 := rfl
  have la : ∀ h : AH, oLen [tabV sw] h = some (.int (n : Nat), h) := fun h => by
    show some (Va.int ((sw.map tI).length : Nat), h) = _
    rw [List.length_map, T.len]
  have ixr : ∀ (k t : Nat) (h : AH), k < n → t < n → oIx (tI ((sw[k]?).getD [])) (.int (t : Nat)) h = some (.int (at2 sw k t), h) := fun k t h hk ht => by
    obtain ⟨r, h1, h2, h3⟩ := T.get hk
    rw [h1]
    show (atI (r.map Va.int) _).map _ = _
    rw [at_map (h3 t ht)]
    rfl
  have inner : ∀ (k m : Nat), k < n → m < n → ∀ (a b : Option Va), Ts (VT2_0_0 [some (tabV sw), a, some (tI ((sw[k]?).getD [])), b, some (.int (at2 sw k m)), some (.int (m : Nat))] h) fun q => (anyS sw n m k = false ∧ ∃ b', q = .nx [some (tabV sw), a, some (tI ((sw[k]?).getD [])), b', some (.int (at2 sw k m)), some (.int (m : Nat))] h) ∨ (anyS sw n m k = true ∧ q = .rt (.bl false) h) := by
    intro k m hk hm a b
    rw [VT2_0_0_is]
    simp_all! [s_for, s_it, s_cons, s_nil, s_var, s_ap, -o_lenT, la, c_rngN (show n ≤ 1000000 by omega)]
    refine loop_inv (fun c ev h' => (∀ t < c, ¬ at2 sw k m + at2 sw m t < at2 sw k t) ∧ h' = h ∧ ∃ b, ev = [some (tabV sw), a, some (tI ((sw[k]?).getD [])), b, some (.int (at2 sw k m)), some (.int (m : Nat))]) _ 0 _ _ ⟨fun _ h => absurd h (by omega), rfl, b, rfl⟩ (fun _ _ _ _ _ _ => rfl) (fun c v ev h' hc ⟨ok, e2, b, e1⟩ => ?_) (fun ev h' ⟨ok, e2, b, e1⟩ => ?_)
    · rw [ints_get] at hc
      split at hc
      · rename_i hcn
        cases hc
        subst e1 e2
        refine ⟨[some (tabV sw), a, some (tI ((sw[k]?).getD [])), some (.int (c : Nat)), some (.int (at2 sw k m)), some (.int (m : Nat))], by simp only [Int.zero_add]; rfl, ?_⟩
        have q3 := T.ix2 (a := 0) (b := 5) (c := 3) (h := h') (ev := [some (tabV sw), a, some (tI ((sw[k]?).getD [])), some (.int (c : Nat)), some (.int (at2 sw k m)), some (.int (m : Nat))]) hm hcn rfl rfl rfl
        have run : VT2_0_0_0 [some (tabV sw), a, some (tI ((sw[k]?).getD [])), some (.int (c : Nat)), some (.int (at2 sw k m)), some (.int (m : Nat))] h' = if decide (at2 sw k m + at2 sw m c < at2 sw k c) then .rt (.bl false) h' else .nx [some (tabV sw), a, some (tI ((sw[k]?).getD [])), some (.int (c : Nat)), some (.int (at2 sw k m)), some (.int (m : Nat))] h' := by
          unfold VT2_0_0_0
          have q1 : eOp oIx (eVar 2) (eVar 3) [some (tabV sw), a, some (tI ((sw[k]?).getD [])), some (.int (c : Nat)), some (.int (at2 sw k m)), some (.int (m : Nat))] h' = .ok (.int (at2 sw k c)) h' := by
            rw [s_op, s_var]
            show oK oIx (eVar 3) _ (.ok _ h') = _
            rw [k_op, s_var]
            show o1K oIx _ (.ok _ h') = _
            rw [k_op1, ixr k c h' hk hcn, k_o]
          have q2 : eVar 4 [some (tabV sw), a, some (tI ((sw[k]?).getD [])), some (.int (c : Nat)), some (.int (at2 sw k m)), some (.int (m : Nat))] h' = .ok (.int (at2 sw k m)) h' := rfl
          rw [s_sif, s_tB, s_op, q1, k_op, s_op, q2, k_op, q3, k_op1, o_add, k_o, k_op1, o_gt, k_o, k_tB]
          by_cases hd : at2 sw k m + at2 sw m c < at2 sw k c
          · rw [decide_eq_true hd]; rfl
          · rw [decide_eq_false hd]; rfl
        rw [run]
        by_cases hd : at2 sw k m + at2 sw m c < at2 sw k c
        · rw [if_pos (decide_eq_true hd)]
          refine .inr (.inr (.inr ⟨_, _, rfl, .inr ⟨?_, rfl⟩⟩))
          exact List.any_eq_true.mpr ⟨c, List.mem_range.mpr hcn, decide_eq_true hd⟩
        · rw [if_neg (by simpa using hd)]
          refine .inl ⟨_, _, rfl, fun t ht => ?_, rfl, _, rfl⟩
          rcases Nat.lt_or_ge t c with z | z
          · exact ok t (by omega)
          · rw [show t = c by omega]; exact hd
      · cases hc
    · subst e1 e2
      refine .inl ⟨?_, _, rfl⟩
      refine List.any_eq_false.mpr fun t ht => ?_
      have := ok t (by rw [ints_len]; have := List.mem_range.mp ht; omega)
      simpa using this
  have mid : ∀ (k : Nat), k < n → ∀ (a b c d : Option Va), Ts (VT2_0 [some (tabV sw), a, some (tI ((sw[k]?).getD [])), b, c, d] h) fun q => ((∀ m < n, anyS sw n m k = false) ∧ ∃ b' c' d', q = .nx [some (tabV sw), a, some (tI ((sw[k]?).getD [])), b', c', d'] h) ∨ (∃ m, m < n ∧ anyS sw n m k = true ∧ q = .rt (.bl false) h) := by
    intro k hk a b c d
    obtain ⟨r, h1, h2, h3⟩ := T.get hk
    have se : ∀ h, srcE [tI ((sw[k]?).getD [])] h = some ⟨enumF 0 (((sw[k]?).getD []).map Va.int), []⟩ := fun h => rfl
    rw [VT2_0_is]
    simp_all! [s_for, s_it, s_cons, s_nil, s_var, s_ap, se]
    refine loop_inv (fun m ev h' => (∀ t < m, anyS sw n t k = false) ∧ h' = h ∧ ∃ b c d, ev = [some (tabV sw), a, some (tI ((sw[k]?).getD [])), b, c, d]) _ 0 _ _ ⟨fun _ h => absurd h (by omega), rfl, b, c, d, rfl⟩ (fun _ _ _ _ _ _ => rfl) (fun m v ev h' hc ⟨ok, e2, b, c, d, e1⟩ => ?_) (fun ev h' ⟨ok, e2, b, c, d, e1⟩ => ?_)
    · subst e1 e2
      obtain ⟨x, hx, rfl⟩ := enumF_get _ _ _ _ hc
      have hmn : m < n := by
        have := (List.getElem?_eq_some_iff.mp hx).1
        rw [h1, List.length_map] at this
        simp only [Option.getD_some] at this
        omega
      have hxe : x = .int (at2 sw k m) := by
        rw [h1, List.getElem?_map] at hx
        simp only [Option.getD_some] at hx
        rw [h3 m hmn] at hx
        cases hx
        rfl
      subst hxe
      rw [show ((0 : Int) + (m : Nat)) = (m : Nat) by omega]
      refine ⟨[some (tabV sw), a, some (tI ((sw[k]?).getD [])), b, some (.int (at2 sw k m)), some (.int (m : Nat))], rfl, ?_⟩
      rcases inner k m hk hmn a b with ⟨q1, b', q2⟩ | ⟨q1, q2⟩
      · refine .inl ⟨_, _, q2, fun t ht => ?_, rfl, _, _, _, rfl⟩
        rcases Nat.lt_or_ge t m with z | z
        · exact ok t (by omega)
        · rw [show t = m by omega]; exact q1
      · exact .inr (.inr (.inr ⟨_, _, q2, .inr ⟨m, hmn, q1, rfl⟩⟩))
    · subst e1 e2
      refine .inl ⟨fun m hm => ok m ?_, _, _, _, rfl⟩
      rw [enumF_lenZ, h1, List.length_map]
      simp only [Option.getD_some]
      omega
  have sr : ∀ h : AH, srcOf (tabV sw) h = some ⟨sw.map tI, []⟩ := fun h => rfl
  rw [VT2_is]
  simp_all! [s_for, s_it1, s_var, sr]
  refine loop_inv (fun k ev h' => (∀ b < k, ∀ m < n, anyS sw n m b = false) ∧ h' = h ∧ ∃ o1 o2 o3 o4 o5, ev = [some (tabV sw), o1, o2, o3, o4, o5]) _ 0 _ _ ⟨fun _ h => absurd h (by omega), rfl, _, _, _, _, _, rfl⟩ (fun _ _ _ _ _ _ => rfl) (fun k v ev h' hc ⟨ok, e2, o1, o2, o3, o4, o5, e1⟩ => ?_) (fun ev h' ⟨ok, e2, o1, o2, o3, o4, o5, e1⟩ => ?_)
  · subst e1 e2
    have hkn : k < n := by
      have := (List.getElem?_eq_some_iff.mp hc).1
      rw [List.length_map, T.len] at this
      exact this
    obtain ⟨r, h1, h2, h3⟩ := T.get hkn
    have hv : v = tI ((sw[k]?).getD []) := by
      rw [List.getElem?_map, h1] at hc
      cases hc
      rw [h1]
      rfl
    subst hv
    refine ⟨[some (tabV sw), o1, some (tI ((sw[k]?).getD [])), o3, o4, o5], rfl, ?_⟩
    rcases mid k hkn o1 o3 o4 o5 with ⟨q1, b', c', d', q2⟩ | ⟨m, hm, q1, q2⟩
    · refine .inl ⟨_, _, q2, fun b hb m hm => ?_, rfl, _, _, _, _, _, rfl⟩
      rcases Nat.lt_or_ge b k with z | z
      · exact ok b (by omega) m hm
      · rw [show b = k by omega]; exact q1 m hm
    · refine .inr (.inr (.inr ⟨_, _, q2, .inr ⟨?_, rfl⟩⟩))
      refine Bool.eq_false_iff.mpr fun z => ?_
      have := List.all_eq_true.mp (List.all_eq_true.mp z m (List.mem_range.mpr hm)) k (List.mem_range.mpr hkn)
      rw [q1] at this
      cases this
  · subst e1 e2
    refine .inl ⟨?_, _, rfl⟩
    refine List.all_eq_true.mpr fun a ha => List.all_eq_true.mpr fun b hb => ?_
    rw [ok b (by rw [List.length_map, T.len]; have := List.mem_range.mp hb; omega) a (List.mem_range.mp ha)]
    rfl
theorem vtable_z (r : Rb (e + 2) B H w) : callL m__law_valid_table [w] H = .ok (.bl (tabZ w && triV w)) H := by
  refine callK (pre := []) (post := []) (P := fun w => tabZ w && triV w) r rfl rfl (fun f w => by unfold triV; rw [tabZ_map, swZ_map]) fun G w' r' => ?_
  show m__law_valid_table [w'] G = _
  unfold m__law_valid_table
  rw [s_fn (by rfl), VT_is]
  by_cases hy : ∃ xs, w' = .tup xs
  · obtain ⟨xs, rfl⟩ := hy
    have i1 : ∀ h, isiK "tuple" (.ok (.tup xs) h) = .ok (.bl true) h := fun h => i_tt
    have lx : ∀ h : AH, oLen [.tup xs] h = some (.int (xs.length : Nat), h) := fun h => rfl
    have end0 : (decide (2 ≤ xs.length) = false ∨ decide (xs.length ≤ 10) = false) → VT0 [some (.tup xs), none, none, none, none, none] G = .rt (.bl false) G → gcF G.length (endF ((sSeq VT0 (sSeq VT1 (sSeq VT2 VT3))) ([Va.tup xs].map some ++ List.replicate (6 - 1) none) G)) = .ok (.bl (tabZ (.tup xs) && triV (.tup xs))) G := fun hd e => by
      have hr : tabZ (.tup xs) = false := by
        show (decide (2 ≤ xs.length) && (decide (xs.length ≤ 10) && _)) = _
        rcases hd with hd | hd <;> rw [hd]
        · rfl
        · rw [Bool.false_and, Bool.and_false]
      rw [hr]
      show gcF G.length (endF (sqK _ (VT0 [some (.tup xs), none, none, none, none, none] G))) = _
      rw [e, k_seqR, k_endR, gcZ0, Bool.false_and]
    by_cases q1 : 2 ≤ xs.length
    · have d1 : decide ((2 : Int) ≤ (xs.length : Nat)) = true := decide_eq_true (by omega)
      by_cases q2 : xs.length ≤ 10
      · have d2 : decide (((xs.length : Nat) : Int) ≤ 10) = true := decide_eq_true (by omega)
        have e0 : VT0 [some (.tup xs), none, none, none, none, none] G = .nx [some (.tup xs), none, none, none, none, none] G := by
          unfold VT0
          simp_all! [-o_lenT, i1, lx, d1, d2]
        have hr : tabZ (.tup xs) = (List.range xs.length).all fun i => rowZ xs.length i (atZ xs i) := by
          show (decide (2 ≤ xs.length) && (decide (xs.length ≤ 10) && _)) = _
          rw [decide_eq_true q1, decide_eq_true q2]
          rfl
        have se : ∀ h, srcE [.tup xs] h = some ⟨enumF 0 xs, []⟩ := fun h => rfl
        have key : Ts (VT1 [some (.tup xs), none, none, none, none, none] G) fun q => (tabZ (.tup xs) = true ∧ ∃ a b c d e, q = .nx [some (.tup xs), a, b, c, d, e] G) ∨ (tabZ (.tup xs) = false ∧ q = .rt (.bl false) G) := by
          rw [VT1_is]
          simp_all! [s_for, s_it, s_cons, s_nil, s_var, se]
          refine loop_inv (fun k ev h => (∀ i < k, rowZ xs.length i (atZ xs i) = true) ∧ h = G ∧ ∃ a b c d e, ev = [some (.tup xs), a, b, c, d, e]) _ 0 _ _ ⟨fun _ h => absurd h (by omega), rfl, _, _, _, _, _, rfl⟩ (fun _ _ _ _ _ _ => rfl) (fun k v ev h hk ⟨ok, e2, a, b, c, d, e', e1⟩ => ?_) (fun ev h ⟨ok, e2, a, b, c, d, e', e1⟩ => ?_)
          · subst e1 e2
            obtain ⟨x, hx, rfl⟩ := enumF_get _ _ _ _ hk
            have hkn : k < xs.length := (List.getElem?_eq_some_iff.mp hx).1
            have hxz : atZ xs k = x := by unfold atZ; rw [hx]; rfl
            rw [show ((0 : Int) + (k : Nat)) = (k : Nat) by omega]
            refine ⟨[some (.tup xs), some (.int (k : Nat)), some x, c, d, e'], rfl, ?_⟩
            rcases vrow_z (xs := xs) (n := xs.length) (i := k) rfl (r'.sub (List.mem_of_getElem? hx)) c d e' with ⟨t1, a', b', t2⟩ | ⟨t1, t2⟩
            · refine .inl ⟨_, _, t2, fun i hi => ?_, rfl, _, _, _, _, _, rfl⟩
              rcases Nat.lt_or_ge i k with z | z
              · exact ok i (by omega)
              · rw [show i = k by omega, hxz]; exact t1
            · refine .inr (.inr (.inr ⟨_, _, t2, .inr ⟨?_, rfl⟩⟩))
              rw [hr]
              refine Bool.eq_false_iff.mpr fun z => ?_
              have := List.all_eq_true.mp z k (List.mem_range.mpr hkn)
              rw [hxz, t1] at this
              cases this
          · subst e1 e2
            refine .inl ⟨?_, _, _, _, _, _, rfl⟩
            rw [hr]
            exact List.all_eq_true.mpr fun i hi => ok i (by rw [enumF_lenZ]; have := List.mem_range.mp hi; omega)
        show gcF G.length (endF (sqK _ (VT0 [some (.tup xs), none, none, none, none, none] G))) = _
        rw [e0, k_seqN, s_seq]
        rcases key with ⟨t1, a, b, c, d, e', t2⟩ | ⟨t1, t2⟩
        · obtain ⟨sw, n, es, T⟩ := tabZ_tab t1
          have ev : triV (.tup xs) = triS sw n := by unfold triV; rw [es, swZ_tab, T.len]
          rw [t2, t1, k_seqN, s_seq, Bool.true_and, ev, es]
          rcases vtri_z (h := G) T a b c d e' with ⟨u1, ev, u2⟩ | ⟨u1, u2⟩
          · rw [u2, u1, k_seqN]
            unfold VT3
            rw [s_ret, s_c, k_ret, k_endR, gcZ0]
          · rw [u2, u1, k_seqR, k_endR, gcZ0]
        · rw [t2, t1, k_seqR, k_endR, gcZ0, Bool.false_and]
      · have d2 : decide (((xs.length : Nat) : Int) ≤ 10) = false := decide_eq_false (by omega)
        refine end0 (.inr (decide_eq_false q2)) ?_
        unfold VT0
        simp_all! [-o_lenT, i1, lx, d1, d2]
    · have d1 : decide ((2 : Int) ≤ (xs.length : Nat)) = false := decide_eq_false (by omega)
      refine end0 (.inl (decide_eq_false q1)) ?_
      unfold VT0
      simp_all! [-o_lenT, i1, lx, d1]
  · have i1 := isi_noZ r' fun ys e => hy ⟨ys, e⟩
    have hr : tabZ w' = false := by
      cases w' with
      | tup ys => exact absurd ⟨ys, rfl⟩ hy
      | _ => rfl
    have e0 : VT0 [some w', none, none, none, none, none] G = .rt (.bl false) G := by
      unfold VT0
      simp_all! [-o_lenT, i1]
    show gcF G.length (endF (sqK _ (VT0 [some w', none, none, none, none, none] G))) = _
    rw [hr, e0, k_seqR, k_endR, gcZ0, Bool.false_and]
end
end FL

set_option linter.all false
set_option maxRecDepth 100000
set_option maxHeartbeats 4000000
namespace FL
open PySem PySem.Spec PyProof.Rows L2
/-! IS8: the law's own is_system; both answers agree. -/
def VS0 : SF := (sIf (tOr (tNot (tB (eIsi "tuple" (eVar 0)))) (tOr (tB (eOp oNe2 (eAp oLen (aCons (eVar 0) (aNil))) (eC (.int 3)))) (tNot (tB (eCall [] (callL m__law_valid_table) (aCons (eOp oIx (eVar 0) (eC (.int 0))) (aNil))))))) (sRet (eC (.bl false))) (sNil))
def VS1 : SF := (sIf (tOr (tNot (tB (eIsi "tuple" (eOp oIx (eVar 0) (eC (.int 1)))))) (tNot (tB (eChain oLe oLe (eC (.int 1)) (eAp oLen (aCons (eOp oIx (eVar 0) (eC (.int 1))) (aNil))) (eC (.int 8)))))) (sRet (eC (.bl false))) (sNil))
def VS2 : SF := (sFor (iOf1 (eOp oIx (eVar 0) (eC (.int 1))) srcOf) (gNm 1) (sSeq (sIf (tOr (tNot (tB (eIsi "tuple" (eVar 1)))) (tB (eOp oNe2 (eAp oLen (aCons (eVar 1) (aNil))) (eAp oLen (aCons (eOp oIx (eVar 0) (eC (.int 0))) (aNil)))))) (sRet (eC (.bl false))) (sNil)) (sSeq (sSet 2 (eLc (iOf1 (eVar 1) srcOf) (gNm 3) (tB (eOp (oIs true) (eVar 3) (eC .non))) (eVar 3) [3])) (sSeq (sIf (tB (eOp (oEqZ false) (eVar 2) (eAp oLst (aNil)))) (sRet (eC (.bl false))) (sNil)) (sIf (tB (eOp (oEqZ true) (eLc (iOf1 (eVar 2) srcOf) (gNm 3) (tNot (tB (eCall [] (callL m__law_in_range) (aCons (eVar 3) (aCons (eC (.int 0)) (aCons (eC (.int 1000)) (aNil))))))) (eVar 3) [3]) (eAp oLst (aNil)))) (sRet (eC (.bl false))) (sNil))))))
def VS3 : SF := (sRet (eCall [] (callL m__law_in_range) (aCons (eOp oIx (eVar 0) (eC (.int 2))) (aCons (eC (.int 0)) (aCons (eOp oSub (eAp oLen (aCons (eOp oIx (eVar 0) (eC (.int 0))) (aNil))) (eC (.int 1))) (aNil))))))
def VS2_0 : SF := (sIf (tOr (tNot (tB (eIsi "tuple" (eVar 1)))) (tB (eOp oNe2 (eAp oLen (aCons (eVar 1) (aNil))) (eAp oLen (aCons (eOp oIx (eVar 0) (eC (.int 0))) (aNil)))))) (sRet (eC (.bl false))) (sNil))
def VS2_1 : SF := (sSet 2 (eLc (iOf1 (eVar 1) srcOf) (gNm 3) (tB (eOp (oIs true) (eVar 3) (eC .non))) (eVar 3) [3]))
def VS2_2 : SF := (sIf (tB (eOp (oEqZ false) (eVar 2) (eAp oLst (aNil)))) (sRet (eC (.bl false))) (sNil))
def VS2_3 : SF := (sIf (tB (eOp (oEqZ true) (eLc (iOf1 (eVar 2) srcOf) (gNm 3) (tNot (tB (eCall [] (callL m__law_in_range) (aCons (eVar 3) (aCons (eC (.int 0)) (aCons (eC (.int 1000)) (aNil))))))) (eVar 3) [3]) (eAp oLst (aNil)))) (sRet (eC (.bl false))) (sNil))
theorem VS2_is : VS2 = sFor (iOf1 (eOp oIx (eVar 0) (eC (.int 1))) srcOf) (gNm 1) (sSeq VS2_0 (sSeq VS2_1 (sSeq VS2_2 VS2_3))) := rfl
theorem VS_is : b__law_valid_system = sSeq VS0 (sSeq VS1 (sSeq VS2 VS3)) := rfl
section
variable {e B : Nat} {G H h : AH} {w y v : Va} {xs ys : List Va} {n i j : Nat} {sw : List (List Int)}
theorem l0_ok (h : AH) : oLst [] h = some (.ref h.length, h ++ [.lst []]) := rfl
theorem up_lst {k : Nat} {g : AH} {xs : List Va} (e : lstAt h k = some xs) : lstAt (h ++ g) k = some xs := by
  unfold lstAt at e ⊢
  cases hk : h[k]? with
  | none => rw [hk] at e; cases e
  | some o => rw [up_getZ hk]; rw [hk] at e; exact e
theorem vreq_z (hn : n ≤ 10) {W : Va} {V0 : Va} (iW : ∀ h, oIx W (.int 0) h = some (V0, h)) (lV : ∀ h, oLen [V0] h = some (.int (n : Nat), h)) (r : Rb (e + 1) B h y) (a b : Option Va) :
    Ts ((sSeq VS2_0 (sSeq VS2_1 (sSeq VS2_2 VS2_3))) [some W, some y, a, b] h) fun q => ∃ J, (reqZ n y = true ∧ ∃ a', q = .nx [some W, some y, a', b] (h ++ J)) ∨ (reqZ n y = false ∧ q = .rt (.bl false) (h ++ J)) := by
  rw [s_seq]
  have hlim := lim_eq
  by_cases hy : ∃ ys, y = .tup ys
  · obtain ⟨ys, rfl⟩ := hy
    have i1 : ∀ h, isiK "tuple" (.ok (.tup ys) h) = .ok (.bl true) h := fun h => i_tt
    have ly : ∀ h : AH, oLen [.tup ys] h = some (.int (ys.length : Nat), h) := fun h => rfl
    have sr : ∀ h : AH, srcOf (.tup ys) h = some ⟨ys, []⟩ := fun h => rfl
    by_cases hl : ys.length = n
    · have dn : decide (((ys.length : Nat) : Int) = (n : Nat)) = true := decide_eq_true (by rw [hl])
      have e0 : VS2_0 [some W, some (.tup ys), a, b] h = .nx [some W, some (.tup ys), a, b] h := by
        unfold VS2_0
        simp_all! [-o_lenT, -o_ixT, i1, iW, lV, ly, dn]
      have hr : reqZ n (.tup ys) = ((ys.all fun v => isNon v || isNZ 0 1000 v) && ys.any fun v => !isNon v) := by
        show (decide (ys.length = n) && _) = _
        rw [decide_eq_true hl, Bool.true_and]
      rw [e0, k_seqN, s_seq, hr]
      have e6 : ys.length < lim := by omega
      have ew : ewipe [some W, some (.tup ys), a, b] [3] = [some W, some (.tup ys), a, none] := rfl
      have f1 : compF [] (gNm 3) (tB (eOp (oIs true) (eVar 3) (eC .non))) (eVar 3) [some W, some (.tup ys), a, none] ys h = .ok (ys.filter fun v => !isNon v) h :=
        comp_filtZ rfl ys fun x hx => ⟨[some W, some (.tup ys), a, some x], rfl, by simp_all! [isN_no], rfl⟩
      have fl : (ys.filter fun v => !isNon v).length ≤ ys.length := List.length_filter_le _ _
      have e1 : VS2_1 [some W, some (.tup ys), a, b] h = .nx [some W, some (.tup ys), some (.ref h.length), b] (h ++ [.lst (ys.filter fun v => !isNon v)]) := by
        unfold VS2_1
        simp_all! [s_set, s_lc, s_it1, s_var, sr]
        rw [k_lc e6, ew, f1]
        simp_all! []
      rw [e1, k_seqN, s_seq]
      have z1 := eqZ_l (neg := false) (up_lst (g := [.lst []]) (lstAt_end (xs := ys.filter fun v => !isNon v) (h := h))) (lstAt_end (xs := []) (h := h ++ [.lst (ys.filter fun v => !isNon v)]))
      rw [isEmpty_filtZ, Bool.bne_false] at z1
      cases ha : ys.any fun v => !isNon v with
      | false =>
        rw [ha] at z1
        refine ⟨[.lst (ys.filter fun v => !isNon v)] ++ [.lst []], .inr ⟨Bool.and_false _, ?_⟩⟩
        unfold VS2_2
        simp_all! [-o_lst, l0_ok, z1, Bool.not_false]
        simp only [List.append_assoc, List.cons_append, List.nil_append]
      | true =>
        rw [ha] at z1
        have e2 : VS2_2 [some W, some (.tup ys), some (.ref h.length), b] (h ++ [.lst (ys.filter fun v => !isNon v)]) = .nx [some W, some (.tup ys), some (.ref h.length), b] ((h ++ [.lst (ys.filter fun v => !isNon v)]) ++ [.lst []]) := by
          unfold VS2_2
          simp_all! [-o_lst, l0_ok, z1, Bool.not_true]
        rw [e2, k_seqN, Bool.and_true]
        generalize hK : (h ++ [AO.lst (ys.filter fun v => !isNon v)]) ++ [.lst []] = K at *
        have lK : lstAt K h.length = some (ys.filter fun v => !isNon v) := by rw [← hK]; exact up_lst lstAt_end
        have rK : Rb (e + 1) B K (.tup ys) := by rw [← hK]; exact r.up.up
        have ew2 : ewipe [some W, some (.tup ys), some (.ref h.length), b] [3] = [some W, some (.tup ys), some (.ref h.length), none] := rfl
        have f2 : compF [(h.length, ys.filter fun v => !isNon v)] (gNm 3) (tNot (tB (eCall [] (callL m__law_in_range) (aCons (eVar 3) (aCons (eC (.int 0)) (aCons (eC (.int 1000)) (aNil))))))) (eVar 3) [some W, some (.tup ys), some (.ref h.length), none] (ys.filter fun v => !isNon v) K = .ok ((ys.filter fun v => !isNon v).filter fun v => !isNZ 0 1000 v) K :=
          comp_filtZ (c_g lK) _ fun x hx => ⟨[some W, some (.tup ys), some (.ref h.length), some x], rfl, by
            have q := range_z (lo := 0) (hi := 1000) (rK.sub (List.mem_filter.mp hx).1)
            simp_all! [q], rfl⟩
        have sK : srcOf (.ref h.length) K = some ⟨ys.filter fun v => !isNon v, [(h.length, ys.filter fun v => !isNon v)]⟩ := by
          show (match lstAt K h.length with | some xs => _ | none => _) = _
          rw [lK]
        have e7 : (ys.filter fun v => !isNon v).length < lim := by omega
        have z2 := eqZ_l (neg := true) (up_lst (g := [.lst []]) (lstAt_end (xs := (ys.filter fun v => !isNon v).filter fun v => !isNZ 0 1000 v) (h := K))) (lstAt_end (xs := []) (h := K ++ [.lst ((ys.filter fun v => !isNon v).filter fun v => !isNZ 0 1000 v)]))
        have fin : ((ys.filter fun v => !isNon v).filter fun v => !isNZ 0 1000 v).isEmpty = ys.all fun v => isNon v || isNZ 0 1000 v := by
          rw [isEmpty_filtZ]
          have : ∀ ys : List Va, (!(ys.filter fun v => !isNon v).any fun v => !isNZ 0 1000 v) = ys.all fun v => isNon v || isNZ 0 1000 v := fun ys => by
            induction ys with
            | nil => rfl
            | cons x ys ih =>
              rw [List.all_cons, ← ih]
              cases hx : isNon x with
              | true => rw [List.filter_cons_of_neg (by simp [hx])]; rfl
              | false =>
                rw [List.filter_cons_of_pos (by simp [hx]), List.any_cons]
                cases isNZ 0 1000 x <;> rfl
          exact this ys
        rw [fin] at z2
        have run : VS2_3 [some W, some (.tup ys), some (.ref h.length), b] K = if ys.all fun v => isNon v || isNZ 0 1000 v then .nx [some W, some (.tup ys), some (.ref h.length), b] ((K ++ [.lst ((ys.filter fun v => !isNon v).filter fun v => !isNZ 0 1000 v)]) ++ [.lst []]) else .rt (.bl false) ((K ++ [.lst ((ys.filter fun v => !isNon v).filter fun v => !isNZ 0 1000 v)]) ++ [.lst []]) := by
          unfold VS2_3
          simp_all! [s_sif, s_tB, s_op, s_lc, s_it1, s_var, sK]
          rw [k_lc e7, ew2, f2]
          simp_all! [-o_lst, l0_ok, z2]
          cases ys.all fun v => isNon v || isNZ 0 1000 v <;> simp_all! [Bool.bne_true, Bool.not_true, Bool.not_false, bne_self_eq_false, Bool.false_bne]
        rw [run]
        refine ⟨([.lst (ys.filter fun v => !isNon v)] ++ [.lst []]) ++ ([.lst ((ys.filter fun v => !isNon v).filter fun v => !isNZ 0 1000 v)] ++ [.lst []]), ?_⟩
        have hh : (K ++ [.lst ((ys.filter fun v => !isNon v).filter fun v => !isNZ 0 1000 v)]) ++ [.lst []] = h ++ (([.lst (ys.filter fun v => !isNon v)] ++ [.lst []]) ++ ([.lst ((ys.filter fun v => !isNon v).filter fun v => !isNZ 0 1000 v)] ++ [.lst []])) := by
          rw [← hK]
          simp only [List.append_assoc]
        rw [hh]
        cases hq : ys.all fun v => isNon v || isNZ 0 1000 v with
        | true => exact .inl ⟨rfl, _, rfl⟩
        | false => exact .inr ⟨rfl, rfl⟩
    · have dn : decide (((ys.length : Nat) : Int) = (n : Nat)) = false := decide_eq_false (by omega)
      have hr : reqZ n (.tup ys) = false := by
        show (decide (ys.length = n) && _) = _
        rw [decide_eq_false hl, Bool.false_and]
      refine ⟨[], .inr ⟨hr, ?_⟩⟩
      unfold VS2_0
      simp_all! [-o_lenT, -o_ixT, i1, iW, lV, ly, dn]
  · have i1 := isi_noZ r fun ys e => hy ⟨ys, e⟩
    have hr : reqZ n y = false := by
      cases y with
      | tup ys => exact absurd ⟨ys, rfl⟩ hy
      | _ => rfl
    refine ⟨[], .inr ⟨hr, ?_⟩⟩
    unfold VS2_0
    simp_all! [-o_lenT, i1]
theorem vsys_z (r : Rb (e + 3) B H w) : ∃ g, callL m__law_valid_system [w] H = .ok (.bl (sysZ w)) (H ++ g) := by
  refine callC (pre := []) (post := []) (P := sysZ) r rfl rfl (fun f w => sysZ_map f w) fun G w' r' => ?_
  show ∃ g, m__law_valid_system [w'] G = _
  unfold m__law_valid_system
  rw [s_fn (by rfl), VS_is]
  by_cases hy : ∃ xs, w' = .tup xs
  · obtain ⟨xs, rfl⟩ := hy
    have i1 : ∀ h, isiK "tuple" (.ok (.tup xs) h) = .ok (.bl true) h := fun h => i_tt
    have lx : ∀ h : AH, oLen [.tup xs] h = some (.int (xs.length : Nat), h) := fun h => rfl
    by_cases hl : xs.length = 3
    · obtain ⟨a, b, c, rfl⟩ := three hl
      clear lx
      have dn : decide ((3 : Int) = 3) = true := rfl
      have lx : ∀ h : AH, oLen [.tup [a, b, c]] h = some (.int 3, h) := fun h => rfl
      have ra : Rb (e + 2) B G a := r'.sub (by simp)
      have rb : Rb (e + 2) B G b := r'.sub (by simp)
      have rc : Rb (e + 2) B G c := r'.sub (by simp)
      have x0 : ∀ h : AH, oIx (.tup [a, b, c]) (.int 0) h = some (a, h) := fun h => rfl
      have x1 : ∀ h : AH, oIx (.tup [a, b, c]) (.int 1) h = some (b, h) := fun h => rfl
      have x2 : ∀ h : AH, oIx (.tup [a, b, c]) (.int 2) h = some (c, h) := fun h => rfl
      have t1 := vtable_z ra
      have hz : sysZ (.tup [a, b, c]) = (tabZ a && (triV a && (rqZ (swZ a).length b && isNZ 0 (((swZ a).length : Nat) - 1) c))) := rfl
      rw [hz]
      generalize hW : Va.tup [a, b, c] = W at *
      show ∃ g, gcF G.length (endF (sqK _ (VS0 [some W, none, none, none] G))) = _
      cases ht : tabZ a && triV a with
      | false =>
        rw [ht] at t1
        have hz2 : (tabZ a && (triV a && (rqZ (swZ a).length b && isNZ 0 (((swZ a).length : Nat) - 1) c))) = false := by
          rw [← Bool.and_assoc, ht, Bool.false_and]
        have e0 : VS0 [some W, none, none, none] G = .rt (.bl false) G := by
          unfold VS0
          simp_all! [-o_lenT, -o_ixT, i1, lx, dn, x0, t1]
        rw [hz2, e0, k_seqR, k_endR, gcZ0]
        exact ⟨[], by rw [List.append_nil]⟩
      | true =>
        rw [ht] at t1
        have hz2 : (tabZ a && (triV a && (rqZ (swZ a).length b && isNZ 0 (((swZ a).length : Nat) - 1) c))) = (rqZ (swZ a).length b && isNZ 0 (((swZ a).length : Nat) - 1) c) := by
          rw [← Bool.and_assoc, ht, Bool.true_and]
        rw [hz2]
        obtain ⟨ht, hs⟩ := Bool.and_eq_true_iff.mp ht
        obtain ⟨sw, n, rfl, T⟩ := tabZ_tab ht
        have hn10 := T.n10
        have sl : (swZ (tabV sw)).length = n := by rw [swZ_tab, T.len]
        have la : ∀ h : AH, oLen [tabV sw] h = some (.int (n : Nat), h) := fun h => by
          show some (Va.int ((sw.map tI).length : Nat), h) = _
          rw [List.length_map, T.len]
        rw [sl]
        have e0 : VS0 [some W, none, none, none] G = .nx [some W, none, none, none] G := by
          unfold VS0
          simp_all! [-o_lenT, -o_ixT, i1, lx, dn, x0, t1]
        rw [e0, k_seqN, s_seq]
        by_cases hb : ∃ rs, b = .tup rs
        · obtain ⟨rs, rfl⟩ := hb
          have i2 : ∀ h, isiK "tuple" (.ok (.tup rs) h) = .ok (.bl true) h := fun h => i_tt
          have lr : ∀ h : AH, oLen [.tup rs] h = some (.int (rs.length : Nat), h) := fun h => rfl
          have sr : ∀ h : AH, srcOf (.tup rs) h = some ⟨rs, []⟩ := fun h => rfl
          by_cases q1 : 1 ≤ rs.length
          · have d1 : decide ((1 : Int) ≤ (rs.length : Nat)) = true := decide_eq_true (by omega)
            by_cases q2 : rs.length ≤ 8
            · have d2 : decide (((rs.length : Nat) : Int) ≤ 8) = true := decide_eq_true (by omega)
              have e1 : VS1 [some W, none, none, none] G = .nx [some W, none, none, none] G := by
                unfold VS1
                simp_all! [-o_lenT, -o_ixT, x1, i2, lr, d1, d2]
              have hr : rqZ n (.tup rs) = rs.all (reqZ n) := by
                show (decide (1 ≤ rs.length) && (decide (rs.length ≤ 8) && _)) = _
                rw [decide_eq_true q1, decide_eq_true q2]
                rfl
              have key : Ts (VS2 [some W, none, none, none] G) fun q => ∃ J, (rqZ n (.tup rs) = true ∧ ∃ o1 o2 o3, q = .nx [some W, o1, o2, o3] (G ++ J)) ∨ (rqZ n (.tup rs) = false ∧ q = .rt (.bl false) (G ++ J)) := by
                rw [VS2_is]
                simp_all! [s_for, s_it1, s_op, s_var, s_c, -o_ixT, x1, sr]
                refine loop_inv (fun k ev h => (∀ i < k, reqZ n (atZ rs i) = true) ∧ ∃ J, h = G ++ J ∧ ∃ o1 o2 o3, ev = [some W, o1, o2, o3]) _ 0 _ _ ⟨fun _ h => absurd h (by omega), [], by rw [List.append_nil], _, _, _, rfl⟩ (fun _ _ _ _ _ _ => rfl) (fun k v ev h hk ⟨ok, J, e2, o1, o2, o3, e1⟩ => ?_) (fun ev h ⟨ok, J, e2, o1, o2, o3, e1⟩ => ?_)
                · subst e1 e2
                  have hkn : k < rs.length := (List.getElem?_eq_some_iff.mp hk).1
                  have hxz : atZ rs k = v := by unfold atZ; rw [hk]; rfl
                  refine ⟨[some W, some v, o2, o3], rfl, ?_⟩
                  obtain ⟨J2, t⟩ := vreq_z (n := n) hn10 x0 la ((rb.sub (List.mem_of_getElem? hk)).up (g := J)) o2 o3
                  rcases t with ⟨t1, a', t2⟩ | ⟨t1, t2⟩
                  · refine .inl ⟨_, _, t2, fun i hi => ?_, J ++ J2, by rw [List.append_assoc], _, _, _, rfl⟩
                    rcases Nat.lt_or_ge i k with z | z
                    · exact ok i (by omega)
                    · rw [show i = k by omega, hxz]; exact t1
                  · refine .inr (.inr (.inr ⟨_, _, t2, J ++ J2, .inr ⟨?_, by rw [List.append_assoc]⟩⟩))
                    rw [hr]
                    refine Bool.eq_false_iff.mpr fun z => ?_
                    have := List.all_eq_true.mp z v (List.mem_of_getElem? hk)
                    rw [t1] at this
                    cases this
                · subst e1 e2
                  refine ⟨J, .inl ⟨?_, _, _, _, rfl⟩⟩
                  rw [hr]
                  refine List.all_eq_true.mpr fun x hx => ?_
                  obtain ⟨i, hi⟩ := List.mem_iff_getElem?.mp hx
                  have hil := (List.getElem?_eq_some_iff.mp hi).1
                  have := ok i (by omega)
                  unfold atZ at this
                  rw [hi] at this
                  exact this
              rw [e1, k_seqN, s_seq]
              obtain ⟨J, ⟨t2, o1, o2, o3, t3⟩ | ⟨t2, t3⟩⟩ := key
              · have q := range_z (lo := 0) (hi := ((n : Nat) : Int) - 1) (rc.up (g := J))
                rw [t3, t2, k_seqN, Bool.true_and]
                unfold VS3
                simp_all! [-o_lenT, -o_ixT, x2, x0, la, q]
                exact gcZb
              · rw [t3, t2, k_seqR, Bool.false_and]
                exact gcZb
            · have d2 : decide (((rs.length : Nat) : Int) ≤ 8) = false := decide_eq_false (by omega)
              have hr : rqZ n (.tup rs) = false := by
                show (decide (1 ≤ rs.length) && (decide (rs.length ≤ 8) && _)) = _
                rw [decide_eq_false q2, Bool.false_and, Bool.and_false]
              have e1 : VS1 [some W, none, none, none] G = .rt (.bl false) G := by
                unfold VS1
                simp_all! [-o_lenT, -o_ixT, x1, i2, lr, d1, d2]
              rw [hr, e1, k_seqR, Bool.false_and, k_endR, gcZ0]
              exact ⟨[], by rw [List.append_nil]⟩
          · have d1 : decide ((1 : Int) ≤ (rs.length : Nat)) = false := decide_eq_false (by omega)
            have hr : rqZ n (.tup rs) = false := by
              show (decide (1 ≤ rs.length) && (decide (rs.length ≤ 8) && _)) = _
              rw [decide_eq_false q1, Bool.false_and]
            have e1 : VS1 [some W, none, none, none] G = .rt (.bl false) G := by
              unfold VS1
              simp_all! [-o_lenT, -o_ixT, x1, i2, lr, d1]
            rw [hr, e1, k_seqR, Bool.false_and, k_endR, gcZ0]
            exact ⟨[], by rw [List.append_nil]⟩
        · have i2 := isi_noZ rb fun ys e => hb ⟨ys, e⟩
          have hr : rqZ n b = false := by
            cases b with
            | tup ys => exact absurd ⟨ys, rfl⟩ hb
            | _ => rfl
          have e1 : VS1 [some W, none, none, none] G = .rt (.bl false) G := by
            unfold VS1
            simp_all! [-o_lenT, -o_ixT, x1, i2]
          rw [hr, e1, k_seqR, Bool.false_and, k_endR, gcZ0]
          exact ⟨[], by rw [List.append_nil]⟩
    · have dn : decide (((xs.length : Nat) : Int) = 3) = false := decide_eq_false (by omega)
      have hr : sysZ (.tup xs) = false := sys3_len hl
      have e0 : VS0 [some (.tup xs), none, none, none] G = .rt (.bl false) G := by
        unfold VS0
        simp_all! [-o_lenT, -o_ixT, i1, lx, dn]
      show ∃ g, gcF G.length (endF (sqK _ (VS0 [some (.tup xs), none, none, none] G))) = _
      rw [hr, e0, k_seqR, k_endR, gcZ0]
      exact ⟨[], by rw [List.append_nil]⟩
  · have i1 := isi_noZ r' fun ys e => hy ⟨ys, e⟩
    have hr : sysZ w' = false := by
      cases w' with
      | tup ys => exact absurd ⟨ys, rfl⟩ hy
      | _ => rfl
    have e0 : VS0 [some w', none, none, none] G = .rt (.bl false) G := by
      unfold VS0
      simp_all! [-o_lenT, i1]
    show ∃ g, gcF G.length (endF (sqK _ (VS0 [some w', none, none, none] G))) = _
    rw [hr, e0, k_seqR, k_endR, gcZ0]
    exact ⟨[], by rw [List.append_nil]⟩
/-! both agree -/
theorem repr_bb {a b : Bool} {k : Nat} (hk : h[k]? = some (.lst [.bl a, .bl b])) : oReprN [.ref k] h = some (.rp (.list [.bool a, .bool b]), h) := by
  have h0 : isDct0 h (.ref k) = false := by
    unfold isDct0
    simp only [hk]
  have hP : toPy h depthL (.ref k) = some (.list [.bool a, .bool b]) := by
    show toPy h (11 + 1) (.ref k) = _
    rw [toPy, hk]
    rfl
  have hb : okR (.list [.bool a, .bool b]) = true := by cases a <;> cases b <;> decide +kernel
  unfold oReprN
  simp only [h0, Bool.false_eq_true, if_false]
  unfold oRepr
  simp only [hP]
  rw [hb]
  rfl
theorem agrees_z (r : Rb (e + 3) B H w) (he : e + 3 ≤ 12) (hB : B ≤ 15000000) : ∃ g, callL m__law_agrees [w] H = .ok (.bl true) (H ++ g) := by
  refine callC (pre := []) (post := []) (P := fun _ => true) r rfl rfl (fun f w => rfl) fun G w' r' => ?_
  show ∃ g, m__law_agrees [w'] G = _
  obtain ⟨T, t1, t2⟩ := r'.repr he hB
  obtain ⟨J1, v1⟩ := vsys_z r'
  obtain ⟨J2, v2⟩ := system_z (r'.up (g := J1))
  obtain ⟨J3, v3⟩ := system_z (r'.up (g := J1 ++ J2))
  have t0 := t1 []
  rw [List.append_nil] at t0
  rw [List.append_assoc] at v2
  have hk1 : ((G ++ (J1 ++ J2 ++ J3)) ++ [AO.lst [.bl (sysZ w'), .bl (sysZ w')]])[(G ++ (J1 ++ J2 ++ J3)).length]? = some (.lst [.bl (sysZ w'), .bl (sysZ w')]) := by simp
  have hk2 : (((G ++ (J1 ++ J2 ++ J3)) ++ [AO.lst [.bl (sysZ w'), .bl (sysZ w')]]) ++ [AO.lst [.bl (sysZ w'), .bl (sysZ w')]])[((G ++ (J1 ++ J2 ++ J3)) ++ [AO.lst [.bl (sysZ w'), .bl (sysZ w')]]).length]? = some (.lst [.bl (sysZ w'), .bl (sysZ w')]) := by simp
  have r1 := repr_bb hk1
  have r2 := repr_bb hk2
  rw [List.append_assoc G (J1 ++ J2) J3] at v3
  have t3 := t1 ((J1 ++ J2 ++ J3) ++ [AO.lst [.bl (sysZ w'), .bl (sysZ w')]] ++ [AO.lst [.bl (sysZ w'), .bl (sysZ w')]])
  rw [← List.append_assoc, ← List.append_assoc] at t3
  have l2 : ∀ (h : AH) (x y : Va), oLst [x, y] h = some (.ref h.length, h ++ [.lst [x, y]]) := fun _ _ _ => rfl
  unfold m__law_agrees
  rw [s_fn (by rfl)]
  unfold b__law_agrees
  simp_all! [List.replicate, -o_lst, t0, v1, v2, v3, l2, r1, r2, t3, t2]
  rw [List.append_assoc, List.append_assoc]
  exact gcZb
end
end FL

set_option linter.all false
set_option maxRecDepth 100000
set_option maxHeartbeats 4000000
namespace FL
open PySem PySem.Spec PyProof.Rows L2
/-! IS9: values with one change: what `_law_unrelated` and `_law_damaged` give. -/
/-- the whole numbers within tuples are at most M -/
inductive Ti (M : Nat) : Va → Prop
  | int (i : Int) (h : i.natAbs ≤ M) : Ti M (.int i)
  | tup (xs : List Va) (h : ∀ x ∈ xs, Ti M x) : Ti M (.tup xs)
  | oth (w : Va) (h1 : ∀ i, w ≠ .int i) (h2 : ∀ xs, w ≠ .tup xs) : Ti M w
theorem Ti.mono {M M' : Nat} (hM : M ≤ M') {w : Va} (t : Ti M w) : Ti M' w := by
  induction t with
  | int i h => exact .int i (Nat.le_trans h hM)
  | tup xs h ih => exact .tup xs ih
  | oth w h1 h2 => exact .oth w h1 h2
theorem Ti.map {M : Nat} {f : Nat → Nat} {w : Va} (t : Ti M w) : Ti M (mapR f w) := by
  induction t with
  | int i h => exact .int i h
  | tup xs h ih =>
    rw [mapR, mapRs_mapZ]
    refine .tup _ fun x hx => ?_
    obtain ⟨y, hy, rfl⟩ := List.mem_map.mp hx
    exact ih y hy
  | oth w h1 h2 =>
    refine .oth _ (fun i e => ?_) (fun xs e => ?_)
    · cases w <;> first | exact absurd rfl (h1 _) | exact absurd rfl (h2 _) | cases e
    · cases w <;> first | exact absurd rfl (h1 _) | exact absurd rfl (h2 _) | cases e
theorem Ti.sub {M : Nat} {x : Va} {xs : List Va} (t : Ti M (.tup xs)) (hx : x ∈ xs) : Ti M x := by
  cases t with
  | tup _ h => exact h x hx
  | oth _ _ h2 => exact absurd rfl (h2 xs)
theorem Ti.num {M : Nat} {i : Int} (t : Ti M (.int i)) : i.natAbs ≤ M := by
  cases t with
  | int _ h => exact h
  | oth _ h1 _ => exact absurd rfl (h1 i)
section
variable {e e' B B' C M j k q : Nat} {G G' H g g' h : AH} {w x v : Va} {xs ys zs : List Va} {F : List Va → AH → Rs Va}
def HS (H : AH) (q : Nat) (ys : List Va) (g : AH) : AH := H.set q (.lst ys) ++ g
def HD (H : AH) (q : Nat) (g : AH) : AH := H.set q (.dtl []) ++ g
theorem hs_get (hq : q < H.length) : lstAt (HS H q ys g) q = some ys := by
  unfold lstAt HS
  rw [List.getElem?_append_left (by simpa using hq), List.getElem?_set_self hq]
theorem hs_set (hq : q < H.length) : (HS H q ys g).set q (.lst zs) = HS H q zs g := by
  unfold HS
  rw [List.set_append_left _ _ (by simpa using hq), List.set_set]
theorem hs_app : HS H q ys g ++ g' = HS H q ys (g ++ g') := by unfold HS; rw [List.append_assoc]
theorem hd_app : HD H q g ++ g' = HD H q (g ++ g') := by unfold HD; rw [List.append_assoc]
theorem hs_hs (hq : q < H.length) : HS (HS H q ys g) q zs g' = HS H q zs (g ++ g') := by
  show (HS H q ys g).set q (.lst zs) ++ g' = _
  rw [hs_set hq, hs_app]
theorem hs_hd (hq : q < H.length) : HD (HS H q ys g) q g' = HD H q (g ++ g') := by
  unfold HS HD
  rw [List.set_append_left _ _ (by simpa using hq), List.set_set, List.append_assoc]
theorem hs_len : (HS H q ys g).length = H.length + g.length := by unfold HS; rw [List.length_append, List.length_set]
theorem hs_self (hk : H[q]? = some (.lst ys)) : HS H q ys [] = H := by
  unfold HS
  rw [List.append_nil]
  apply List.ext_getElem?
  intro i
  by_cases hi : q = i
  · subst hi
    rw [List.getElem?_set_self (List.getElem?_eq_some_iff.mp hk).1, hk]
  · rw [List.getElem?_set_ne hi]
/-- what is left behind -/
def DP (H : AH) (q j e B M : Nat) : Va → AH → Prop := fun v h => ∃ ys g, h = HS H q ys g ∧ St j ys ∧ Rb e B (HD H q g) v ∧ Ti M v
def EndD (H : AH) (q j e B M : Nat) : SR → Prop := fun r => ∃ v h, r = .rt v h ∧ DP H q j e B M v h
theorem DP.mono {j' M' : Nat} (d : DP H q j e B M v h) (h1 : j ≤ j') (h2 : e ≤ e') (h3 : B ≤ B') (h4 : M ≤ M') : DP H q j' e' B' M' v h := by
  obtain ⟨ys, g, a, b, c, d⟩ := d
  exact ⟨ys, g, a, b.up h1, c.mono h2 h3, d.mono h4⟩
theorem EndD.mono {j' M' : Nat} {r : SR} (d : EndD H q j e B M r) (h1 : j ≤ j') (h2 : e ≤ e') (h3 : B ≤ B') (h4 : M ≤ M') : EndD H q j' e' B' M' r := by
  obtain ⟨v, h, a, b⟩ := d
  exact ⟨v, h, a, b.mono h1 h2 h3 h4⟩
theorem gcd_ok {r : SR} (hq : q < H.length) (d : EndD H q j e B M r) : Tk (gcF H.length (endF r)) (DP H q j e B M) := by
  obtain ⟨v, h, rfl, ys, g, rfl, s, rb, t⟩ := d
  rw [k_endR]
  show Tk (if (inR H.length v && ((HS H q ys g).take H.length).all (inRO H.length)) = true then Rs.ok v ((HS H q ys g).take H.length) else Rs.ok v (HS H q ys g)) _
  by_cases c : (inR H.length v && ((HS H q ys g).take H.length).all (inRO H.length)) = true
  · rw [if_pos c, tk_ok]
    obtain ⟨c1, c2⟩ := Bool.and_eq_true_iff.mp c
    have tk : (HS H q ys g).take H.length = HS H q ys [] := by
      unfold HS
      rw [List.append_nil]
      exact List.take_left' (by simp)
    rw [tk] at c2 ⊢
    refine ⟨ys, [], rfl, s, ?_, t⟩
    have l0 : (HD H q []).length = H.length := by unfold HD; simp
    have cut := Rb.cut (H := HD H q []) (g := g) (w := v) (e := e) (B := B) (by rw [hd_app, List.nil_append]; exact rb) (by rw [l0]; exact c1) ?_
    · exact cut
    · refine List.all_eq_true.mpr fun o ho => ?_
      rw [l0]
      unfold HD at ho
      rw [List.append_nil] at ho
      rcases List.mem_or_eq_of_mem_set ho with z | rfl
      · obtain ⟨i, hi⟩ := List.mem_iff_getElem?.mp ho
        by_cases hiq : q = i
        · subst hiq
          rw [List.getElem?_set_self hq] at hi
          cases hi
          rfl
        · rw [List.getElem?_set_ne hiq] at hi
          refine List.all_eq_true.mp c2 o (List.mem_of_getElem? (i := i) ?_)
          unfold HS
          rw [List.append_nil, List.getElem?_set_ne hiq]
          exact hi
      · rfl
  · rw [if_neg c, tk_ok]
    exact ⟨ys, g, rfl, s, rb, t⟩
theorem bk_mapZ {f : Nat → Nat} : bk f v = mapR f v := by
  unfold bk
  split
  · rename_i z
    rw [mapR_frZ z]
  · rfl
/-- a call that names the stream alone -/
theorem drawn_call {args : List Va} (e0 : refsOfs args = [q]) (hk : H[q]? = some (.lst xs)) (hp : inRs 0 xs = true) (t : Tk (F (mapRs (fun _ => 0) args) [.lst xs]) (DP [.lst xs] 0 j e B M)) : Tk (callL F args H) (DP H q j e B M) := by
  have hq := (List.getElem?_eq_some_iff.mp hk).1
  have hl : lstAt H q = some xs := by unfold lstAt; rw [hk]
  refine p_loc1 e0 hl hp (t.mono ?_)
  rintro v h ⟨ys, g, rfl, s, rb, t⟩
  have em : mapRs (sh1 H.length q) ys = ys := (st_plain s).2 _
  refine ⟨ys, g.map (mapRO (sh1 H.length q)), ?_, s, ?_, ?_⟩
  · show H.set q (mapRO (sh1 H.length q) (.lst ys)) ++ _ = _
    show H.set q (.lst (mapRs (sh1 H.length q) ys)) ++ _ = _
    rw [em]
    rfl
  · rw [bk_mapZ]
    have pos : ∀ b : Nat, sh1 H.length q (b + 1) = H.length + b := fun b => rfl
    have get : ∀ b : Nat, (HD H q (g.map (mapRO (sh1 H.length q))))[H.length + b]? = (g.map (mapRO (sh1 H.length q)))[b]? := fun b => by
      unfold HD
      rw [List.getElem?_append_right (by simp), List.length_set]
      congr 1
      omega
    refine rb.ren (S := fun _ => True) (fun a xs _ e => ?_) (fun a _ e => ?_) (fun _ _ => trivial) (Nat.le_refl _) (Nat.le_refl _)
    · cases a with
      | zero => cases e
      | succ b =>
        have e : g[b]? = some (.lst xs) := e
        refine ⟨?_, fun _ _ => trivial⟩
        rw [pos, get, List.getElem?_map, e]
        rfl
    · cases a with
      | zero => cases e
      | succ b =>
        have e : g[b]? = some (.dct []) := e
        rw [pos, get, List.getElem?_map, e]
        rfl
  · rw [bk_mapZ]
    exact t.map
theorem Rb.nq (rb : Rb e B (HD H q g) w) (hq : q < H.length) : q ∉ refsOf w := by
  obtain ⟨t, d, a, _⟩ := rb
  have key : ∀ (w : Va), Tz w → ∀ (e : Nat) (d : PyData), toPyE (HD H q g) e w = some d → q ∉ refsOf w := by
    intro w t
    induction t with
    | ref a =>
      intro e d h ha
      rw [List.mem_singleton.mp ha] at h
      cases e with
      | zero => rw [toPyE] at h; cases h
      | succ e =>
        have z : (HD H a g)[a]? = some (.dtl []) := by
          unfold HD
          have hq' : a < H.length := by rw [← List.mem_singleton.mp ha]; exact hq
          rw [List.getElem?_append_left (by simpa using hq'), List.getElem?_set_self hq']
        have e1 := List.mem_singleton.mp ha
        subst e1
        rw [toPyE] at h
        rw [z] at h
        cases h
    | tup xs hx ih =>
      intro e d h ha
      obtain ⟨x, hm, hr⟩ := refs_outZ (xs := xs) ha
      cases e with
      | zero => rw [toPyE] at h; cases h
      | succ e =>
        rw [toPyE] at h
        have each : ∀ (xs : List Va) (ds : List PyData), toPysF (toPyE (HD H q g) e) xs = some ds → x ∈ xs → ∃ d, toPyE (HD H q g) e x = some d := by
          intro xs
          induction xs with
          | nil => intro ds _ h; cases h
          | cons y ys ih =>
            intro ds h hm
            rw [toPysF] at h
            cases e1 : toPyE (HD H q g) e y with
            | none => rw [e1] at h; cases h
            | some d1 =>
              cases e2 : toPysF (toPyE (HD H q g) e) ys with
              | none => rw [e1, e2] at h; cases h
              | some ds' =>
                rcases List.mem_cons.mp hm with rfl | hm
                · exact ⟨d1, e1⟩
                · exact ih ds' e2 hm
        cases e2 : toPysF (toPyE (HD H q g) e) xs with
        | none => rw [e2] at h; cases h
        | some ds =>
          obtain ⟨d1, h1⟩ := each xs ds e2 hm
          exact ih x hm e d1 h1 hr
    | _ => intro e d h ha; cases ha
  exact key w t e d a
theorem dam_call {D : Int} {j0 : Nat} (hk : H[q]? = some (.lst xs)) (hs : St j0 xs) (rb : Rb e B (HD H q []) w) (ti : Ti M w) {M' : Nat}
    (hF : ∀ (H : AH) (q : Nat) (xs : List Va) (w : Va), H[q]? = some (.lst xs) → St j0 xs → Rb e B (HD H q []) w → Ti M w → Tk (F [.ref q, w, .int D] H) (DP H q j e' B' M')) : Tk (callL F [.ref q, w, .int D] H) (DP H q j e' B' M') := by
  have hq := (List.getElem?_eq_some_iff.mp hk).1
  have er : refsOfs [.ref q, w, .int D] = q :: refsOf w := by
    show [q] ++ (refsOf w ++ ([] ++ [])) = _
    simp
  cases hr : refsOf w with
  | nil =>
    rw [hr] at er
    refine drawn_call er hk (st_plain hs).1 ?_
    have em : mapR (fun _ => 0) w = w := by
      have := rb.tr
      clear er hF rb
      induction this with
      | tup xs h ih =>
        rw [mapR, mapRs_mapZ]
        congr 1
        conv => rhs; rw [← List.map_id xs]
        exact List.map_congr_left fun x hx => by
          cases ti with
          | tup _ h2 =>
            refine ih x hx (h2 x hx) ?_
            by_cases z : refsOf x = []
            · exact z
            · obtain ⟨a, ha⟩ := List.exists_mem_of_ne_nil _ z
              have hz : refsOf (Va.tup xs) = refsOfs xs := rfl
              rw [hz] at hr
              have := refs_inZ ha hx
              rw [hr] at this
              cases this
          | oth _ _ h2 => exact absurd rfl (h2 xs)
      | ref a => cases hr
      | _ => rfl
    show Tk (F [.ref 0, mapR (fun _ => 0) w, .int D] [.lst xs]) _
    rw [em]
    exact hF [.lst xs] 0 xs w rfl hs (rb.free hr) ti
  | cons l ls =>
    have hl : l ≠ q := fun z => rb.nq hq (by rw [hr, z]; exact List.mem_cons_self ..)
    have : (refsOf w).all (· == q) = false := by
      rw [hr, List.all_cons]
      have : (l == q) = false := by simpa using hl
      rw [this, Bool.false_and]
    unfold callL
    rw [er]
    simp only [this, Bool.false_eq_true, if_false]
    exact hF H q xs w hk hs rb ti
/-! readable things -/
theorem Rb.int {i : Int} (h : i.natAbs.log2 < 1920) (hB : i.natAbs.log2 + 2 ≤ B) : Rb e B G (.int i) := ⟨.int i, .int i, by cases e <;> rfl, decide_eq_true h, rfl, Nat.zero_le _, hB⟩
theorem Rb.non : Rb e 4 G .non := ⟨.non, .none, by cases e <;> rfl, rfl, rfl, Nat.zero_le _, Nat.le_refl _⟩
theorem Rb.bl {b : Bool} : Rb e 5 G (.bl b) := ⟨.bl b, .bool b, by cases e <;> rfl, rfl, rfl, Nat.zero_le _, Nat.le_refl _⟩
theorem Rb.str {s : Str} (h : PyData.strOk s = true) (hB : 10 * s.length + 2 ≤ B) : Rb e B G (.str s) := ⟨.str s, .str s, by cases e <;> rfl, rfl, h, Nat.zero_le _, hB⟩
theorem Rb.dct {a : Nat} (h : G[a]? = some (.dct [])) : Rb (e + 1) 2 G (.ref a) := ⟨.ref a, .dict [], by rw [toPyE, h], rfl, rfl, by show 1 ≤ _; omega, Nat.le_refl _⟩
theorem Rz.take {a : Nat} (h : Rz e B G xs) : ∃ B1 B2, B1 + B2 ≤ B ∧ Rz e B1 G (xs.take a) ∧ Rz e B2 G (xs.drop a) := by
  rw [← List.take_append_drop a xs] at h
  exact h.split
theorem Rz.drop1 {a : Nat} (h : Rz e B G (xs.drop a)) : Rz e B G (xs.drop (a + 1)) := by
  have e : xs.drop (a + 1) = (xs.drop a).drop 1 := by rw [List.drop_drop]
  obtain ⟨B1, B2, hB, _, q⟩ := h.take (a := 1)
  rw [e]
  exact q.mono (by omega)
theorem Rz.take1 {a n : Nat} (h : Rz e B G (xs.drop a)) : Rz e B G ((xs.drop a).take n) := by
  obtain ⟨B1, B2, hB, q, _⟩ := h.take (a := n)
  exact q.mono (by omega)
theorem Rz.lenZ (h : Rz e B G xs) : xs.length ≤ B := by
  obtain ⟨_, ds, a, _, _, _, l⟩ := h
  have hl := pyz_len a
  have : ∀ ds : List PyData, ds.length ≤ lenEs ds := fun ds => by
    induction ds with
    | nil => exact Nat.le_refl _
    | cons d ds ih => simp only [lenEs, List.length_cons]; omega
  have := this ds
  omega
theorem tkZ {a : Nat} (ha : a ≤ xs.length) : oSl (.tup xs) none (some (a : Nat)) h = some (.tup (xs.take a), h) := by
  show some (Va.tup (cutA _ none (some (a : Nat))), h) = _
  have e : cutA xs none (some (a : Nat)) = xs.take a := by
    unfold cutA
    rw [HT.sIx_nat]
    show (List.drop 0 _).take (min a _ - 0) = _
    rw [List.drop_zero, Nat.sub_zero, Nat.min_eq_left ha]
  rw [e]
theorem drZ {a : Nat} : oSl (.tup xs) (some (a : Nat)) none h = some (.tup (xs.drop a), h) := by
  show some (Va.tup (cutA _ (some (a : Nat)) none), h) = _
  have e : cutA xs (some (a : Nat)) none = xs.drop a := by
    unfold cutA
    rw [HT.sIx_nat]
    show (List.drop (min a _) _).take (xs.length - min a _) = _
    by_cases ha : a ≤ xs.length
    · rw [Nat.min_eq_left ha, List.take_of_length_le (by simp)]
    · rw [Nat.min_eq_right (by omega), List.drop_eq_nil_of_le (Nat.le_refl _), List.drop_eq_nil_of_le (by omega), List.take_nil]
  rw [e]
theorem mdZ {a b : Nat} : ∃ n, ∀ h : AH, oSl (.tup xs) (some (a : Nat)) (some (b : Nat)) h = some (.tup ((xs.drop a).take n), h) := by
  refine ⟨min b xs.length - min a xs.length, fun h => ?_⟩
  show some (Va.tup (cutA _ (some (a : Nat)) (some (b : Nat))), h) = _
  have e : cutA xs (some (a : Nat)) (some (b : Nat)) = (xs.drop a).take (min b xs.length - min a xs.length) := by
    unfold cutA
    rw [HT.sIx_nat, HT.sIx_nat]
    by_cases ha : a ≤ xs.length
    · rw [Nat.min_eq_left ha]
    · rw [Nat.min_eq_right (show xs.length ≤ a by omega), List.drop_eq_nil_of_le (Nat.le_refl _), List.drop_eq_nil_of_le (show xs.length ≤ a by omega), List.take_nil]
      try rw [List.take_nil]
  rw [e]
theorem adZ {as bs : List Va} (hl : as.length + bs.length ≤ 900000) : oAdd (.tup as) (.tup bs) h = some (.tup (as ++ bs), h) := by
  show (if as.length + bs.length ≤ lim then some (Va.tup (as ++ bs), h) else none) = _
  have := lim_eq
  rw [if_pos (by omega)]
theorem adlZ {l m : Nat} (e1 : h[l]? = some (.lst ys)) (e2 : h[m]? = some (.lst zs)) (hl : ys.length + zs.length ≤ 1000) : oAdd (.ref l) (.ref m) h = some (.ref h.length, h ++ [.lst (ys ++ zs)]) := by
  have := lim_eq
  unfold oAdd
  simp only [e1, e2]
  rw [if_pos (by omega)]
theorem pickZ {i : Int} {p : Nat} (hl : lstAt h p = some ys) (h0 : 0 ≤ i) (h1 : i < (ys.length : Nat)) : ∃ v, v ∈ ys ∧ oIx (.ref p) (.int i) h = some (v, h) := by
  obtain ⟨j, rfl⟩ : ∃ j : Nat, i = (j : Nat) := ⟨i.toNat, by omega⟩
  have hj : j < ys.length := by omega
  refine ⟨ys[j], List.getElem_mem hj, ?_⟩
  rw [o_ixL, hl, k_ixL, atIn rfl, List.getElem?_eq_getElem hj]
  rfl
def M39 : Nat := 10 ^ 39
theorem m39_lt : M39 < 2 ^ 140 := by decide +kernel
theorem unrel_run (hs : St j xs) (hj : j ≤ 900000) : Tk (m__law_unrelated [.ref 0] [.lst xs]) (DP [.lst xs] 0 (j + 1) 2 200 M39) := by
  obtain ⟨m1, hm1⟩ : ∃ m : Int, m = -1 := ⟨_, rfl⟩
  obtain ⟨T, hT⟩ : ∃ m : Int, m = 10 ^ 39 := ⟨_, rfl⟩
  have gm : ∀ h : AH, oNeg (.int 1) h = some (.int m1, h) := fun h => by rw [hm1]; rfl
  have pB : ∀ h : AH, oPow (.int 10) (.int 39) h = some (.int T, h) := fun h => by
    show (if (decide ((0 : Int) ≤ 39) && decide ((39 : Int) ≤ 1000) && decide ((10 : Int).natAbs.log2 < 100000)) = true then some (Va.int ((10 : Int) ^ (39 : Int).toNat), h) else none) = _
    rw [if_pos (by decide +kernel), hT]
    rfl
  have k0 : ∀ (h : AH), oLst [] h = some (.ref h.length, h ++ [.lst []]) := fun _ => rfl
  have k17 : ∀ (a b c d e f g i j l m p q r s t u : Va) (h : AH), oLst [a, b, c, d, e, f, g, i, j, l, m, p, q, r, s, t, u] h = some (.ref h.length, h ++ [.lst [a, b, c, d, e, f, g, i, j, l, m, p, q, r, s, t, u]]) := fun _ _ _ _ _ _ _ _ _ _ _ _ _ _ _ _ _ _ => rfl
  have t0 : ∀ (h : AH), oTup [] h = some (.tup [], h) := fun _ => rfl
  have t1 : ∀ (a : Va) (h : AH), oTup [a] h = some (.tup [a], h) := fun _ _ => rfl
  have t2 : ∀ (a b : Va) (h : AH), oTup [a, b] h = some (.tup [a, b], h) := fun _ _ _ => rfl
  obtain ⟨O, ho⟩ : ∃ O : List Va, O = [.non, .bl true, .bl false, .int 0, .int 1, .int m1, .int 1001, .str "", .str "0", .str "a", .tup [], .ref 1, .ref 2, .tup [.int 0], .tup [.non], .tup [.tup [.int 0, .int 1], .tup [.int 1, .int 0]], .int T] := ⟨_, rfl⟩
  have hlen : O.length = 17 := by rw [ho]; rfl
  unfold m__law_unrelated
  refine p_fn (by rfl) ?_
  unfold b__law_unrelated
  simp! [List.replicate, -o_lst, -o_tup, k0, k17, t0, t1, t2, pB, gm]
  rw [← ho]
  refine p_ret (p_o1 (draw_l hs (by omega) (by omega) (by omega) ?_))
  intro i y2 h0 h1 s2
  obtain ⟨v, hv, ev⟩ := pickZ (h := [.lst y2, .lst [], .dct [], .lst O]) (p := 3) (ys := O) rfl h0 (by rw [hlen]; exact h1)
  rw [k_op1]
  show Tk (ofO (oIx (.ref 3) (.int i) [.lst y2, .lst [], .dct [], .lst O])) _
  rw [ev]
  simp! [tk_ok, ts_rt]
  refine gcd_ok (H := [.lst xs]) (q := 0) (by simp) ⟨v, _, rfl, y2, [.lst [], .dct [], .lst O], rfl, s2, ?_, ?_⟩
  · have nI : ∀ {i : Int} {e : Nat} {G : AH}, i.natAbs ≤ M39 → Rb e 150 G (.int i) := fun {i e G} h => by
      have : i.natAbs.log2 < 140 := PySem.Flt.log2_lt_of (by decide) (Nat.lt_of_le_of_lt h m39_lt)
      exact .int (by omega) (by omega)
    have up : ∀ {b : Nat} {v : Va}, b ≤ 200 → Rb 2 b (HD [.lst xs] 0 [.lst [], .dct [], .lst O]) v → Rb 2 200 (HD [.lst xs] 0 [.lst [], .dct [], .lst O]) v := fun h r => r.mono (Nat.le_refl _) h
    rw [ho] at hv
    simp only [List.mem_cons, List.not_mem_nil, or_false] at hv
    rcases hv with rfl | rfl | rfl | rfl | rfl | rfl | rfl | rfl | rfl | rfl | rfl | rfl | rfl | rfl | rfl | rfl | rfl
    · exact up (by omega) .non
    · exact up (by omega) .bl
    · exact up (by omega) .bl
    · exact up (by omega) (nI (by decide +kernel))
    · exact up (by omega) (nI (by decide +kernel))
    · exact up (by omega) (nI (by rw [hm1]; decide +kernel))
    · exact up (by omega) (nI (by decide +kernel))
    · exact .str (by decide +kernel) (by decide +kernel)
    · exact .str (by decide +kernel) (by decide +kernel)
    · exact .str (by decide +kernel) (by decide +kernel)
    · exact (Rz.nil.tup (e := 0)).mono (by omega) (by omega)
    · exact (Rz.nil.lst (e := 0) (p := 1) rfl).mono (by omega) (by omega)
    · exact (Rb.dct (e := 0) (a := 2) rfl).mono (by omega) (by omega)
    · exact ((nI (i := 0) (e := 0) (by decide +kernel)).one.tup).mono (by omega) (by omega)
    · exact ((Rb.non (e := 0)).one.tup).mono (by omega) (by omega)
    · have p : ∀ {a b : Int}, a.natAbs.log2 + 2 ≤ 3 → b.natAbs.log2 + 2 ≤ 3 → Rb 1 13 (HD [.lst xs] 0 [.lst [], .dct [], .lst O]) (.tup [.int a, .int b]) := fun ha hb => ((Rb.int (e := 0) (B := 3) (by omega) ha).one.app (Rb.int (B := 3) (by omega) hb).one).tup
      exact ((p (a := 0) (b := 1) (by decide +kernel) (by decide +kernel)).one.app (p (a := 1) (b := 0) (by decide +kernel) (by decide +kernel)).one).tup.mono (by omega) (by omega)
    · exact up (by omega) (nI (by rw [hT]; decide +kernel))
  · have oth : ∀ {w : Va}, (∀ i, w ≠ .int i) → (∀ xs, w ≠ .tup xs) → Ti M39 w := fun h1 h2 => .oth _ h1 h2
    rw [ho] at hv
    simp only [List.mem_cons, List.not_mem_nil, or_false] at hv
    rcases hv with rfl | rfl | rfl | rfl | rfl | rfl | rfl | rfl | rfl | rfl | rfl | rfl | rfl | rfl | rfl | rfl | rfl
    · exact oth (by intro i h; cases h) (by intro i h; cases h)
    · exact oth (by intro i h; cases h) (by intro i h; cases h)
    · exact oth (by intro i h; cases h) (by intro i h; cases h)
    · exact .int _ (by decide +kernel)
    · exact .int _ (by decide +kernel)
    · exact .int _ (by rw [hm1]; decide +kernel)
    · exact .int _ (by decide +kernel)
    · exact oth (by intro i h; cases h) (by intro i h; cases h)
    · exact oth (by intro i h; cases h) (by intro i h; cases h)
    · exact oth (by intro i h; cases h) (by intro i h; cases h)
    · exact .tup _ fun x hx => by cases hx
    · exact oth (by intro i h; cases h) (by intro i h; cases h)
    · exact oth (by intro i h; cases h) (by intro i h; cases h)
    · refine .tup _ fun x hx => ?_
      rw [List.mem_singleton.mp hx]
      exact .int _ (by decide +kernel)
    · refine .tup _ fun x hx => ?_
      rw [List.mem_singleton.mp hx]
      exact oth (by intro i h; cases h) (by intro i h; cases h)
    · refine .tup _ fun x hx => ?_
      simp only [List.mem_cons, List.not_mem_nil, or_false] at hx
      rcases hx with rfl | rfl <;>
      · refine .tup _ fun x hx => ?_
        simp only [List.mem_cons, List.not_mem_nil, or_false] at hx
        rcases hx with rfl | rfl <;> exact .int _ (by decide +kernel)
    · exact .int _ (by rw [hT]; decide +kernel)
theorem unrel_l (hk : H[q]? = some (.lst xs)) (hs : St j xs) (hj : j ≤ 900000) : Tk (callL m__law_unrelated [.ref q] H) (DP H q (j + 1) 2 200 M39) :=
  drawn_call rfl hk (st_plain hs).1 (unrel_run hs hj)
end
end FL

set_option linter.all false
set_option maxRecDepth 100000
set_option maxHeartbeats 4000000
namespace FL
open PySem PySem.Spec PyProof.Rows L2
/-! ISA: `_law_damaged` by levels. -/
def DM0 : SF := (sSet 3 (eCall [] (callL m__law_draw) (aCons (eVar 0) (aCons (eC (.int 8)) (aNil)))))
def DM1 : SF := (sIf (tAnd (tB (eIsi "tuple" (eVar 1))) (tAnd (tB (eOp (oEqZ true) (eVar 1) (eAp oTup (aNil)))) (tAnd (tB (eOp oGt (eVar 2) (eC (.int 0)))) (tB (eOp oLt (eVar 3) (eC (.int 5))))))) (sSeq (sSet 4 (eCall [] (callL m__law_draw) (aCons (eVar 0) (aCons (eAp oLen (aCons (eVar 1) (aNil))) (aNil))))) ((fun _ _ => .bad))) (sNil))
def DM2 : SF := (sIf (tB (eIsi "tuple" (eVar 1))) (sSeq (sSet 4 (eCall [] (callL m__law_draw) (aCons (eVar 0) (aCons (eOp oAdd (eAp oLen (aCons (eVar 1) (aNil))) (eC (.int 1))) (aNil))))) (sSeq (sSet 5 (eAp oLst (aCons (eAp oList (aCons (eVar 1) (aNil))) (aCons (eOp oAdd (eSl (eVar 1) (lNone) (lSome (eVar 4))) (eSl (eVar 1) (lSome (eOp oAdd (eVar 4) (eC (.int 1)))) (lNone))) (aCons (eOp oAdd (eOp oAdd (eSl (eVar 1) (lNone) (lSome (eVar 4))) (eSl (eVar 1) (lSome (eVar 4)) (lSome (eOp oAdd (eVar 4) (eC (.int 1)))))) (eSl (eVar 1) (lSome (eVar 4)) (lNone))) (aCons (eRev (eVar 1)) (aNil))))))) (sSeq (sSet 6 (eCall [] (callL m__law_unrelated) (aCons (eVar 0) (aNil)))) (sRet (eOp oIx (eOp oAdd (eVar 5) (eAp oLst (aCons (eOp oAdd (eVar 1) (eAp oTup (aCons (eVar 6) (aNil)))) (aCons (eOp oAdd (eOp oAdd (eSl (eVar 1) (lNone) (lSome (eVar 4))) (eAp oTup (aCons (eVar 6) (aNil)))) (eSl (eVar 1) (lSome (eOp oAdd (eVar 4) (eC (.int 1)))) (lNone))) (aNil))))) (eCall [] (callL m__law_draw) (aCons (eVar 0) (aCons (eC (.int 6)) (aNil))))))))) (sNil))
def DM3 : SF := (sIf (tAnd (tB (eIsi "int" (eVar 1))) (tAnd (tNot (tB (eIsi "bool" (eVar 1)))) (tB (eOp oLt (eVar 3) (eC (.int 6)))))) (sRet (eOp oIx (eAp oLst (aCons (eOp oAdd (eVar 1) (eC (.int 1))) (aCons (eOp oSub (eVar 1) (eC (.int 1))) (aCons (eC .non) (aCons (eC (.int 1000)) (aCons (eC (.int 1001)) (aCons (eC (.int 0)) (aNil)))))))) (eVar 3))) (sNil))
def DM4 : SF := (sRet (eCall [] (callL m__law_unrelated) (aCons (eVar 0) (aNil))))
theorem DM_is : b__law_damaged_0 = sSeq DM0 (sSeq DM1 (sSeq DM2 (sSeq DM3 DM4))) := rfl
def DA (F : List Va → AH → Rs Va) : SF := sIf (tAnd (tB (eIsi "tuple" (eVar 1))) (tAnd (tB (eOp (oEqZ true) (eVar 1) (eAp oTup (aNil)))) (tAnd (tB (eOp oGt (eVar 2) (eC (.int 0)))) (tB (eOp oLt (eVar 3) (eC (.int 5))))))) (sSeq (sSet 4 (eCall [] (callL m__law_draw) (aCons (eVar 0) (aCons (eAp oLen (aCons (eVar 1) (aNil))) (aNil))))) (sRet (eOp oAdd (eOp oAdd (eSl (eVar 1) (lNone) (lSome (eVar 4))) (eAp oTup (aCons (eCall [] (callL F) (aCons (eVar 0) (aCons (eOp oIx (eVar 1) (eVar 4)) (aCons (eOp oSub (eVar 2) (eC (.int 1))) (aNil))))) (aNil)))) (eSl (eVar 1) (lSome (eOp oAdd (eVar 4) (eC (.int 1)))) (lNone))))) (sNil)
section
variable {e e' B B' C M j k q : Nat} {G G' H g g' h : AH} {w x v : Va} {xs ys zs : List Va} {F : List Va → AH → Rs Va} {D W : Int}
theorem Rz.up (h : Rz e B G xs) : Rz e B (G ++ g) xs := by
  obtain ⟨C, hC, r⟩ := (h.tup.up (g := g)).untup
  exact r.mono (by omega)
theorem Rb.hs (r : Rb e B (HD H q g) w) (hq : q < H.length) : Rb e B (HS H q ys g) w := by
  have same : ∀ a : Nat, a ≠ q → (HD H q g)[a]? = (HS H q ys g)[a]? := fun a ha => by
    unfold HD HS
    by_cases hl : a < H.length
    · rw [List.getElem?_append_left (by simpa using hl), List.getElem?_append_left (by simpa using hl), List.getElem?_set_ne (Ne.symm ha), List.getElem?_set_ne (Ne.symm ha)]
    · rw [List.getElem?_append_right (by simpa using hl), List.getElem?_append_right (by simpa using hl), List.length_set, List.length_set]
  have nq : (HD H q g)[q]? = some (.dtl []) := by
    unfold HD
    rw [List.getElem?_append_left (by simpa using hq), List.getElem?_set_self hq]
  exact r.keep (fun a xs e => by
    rw [← same a fun z => by rw [z, nq] at e; cases e]
    exact e) (fun a e => by
    rw [← same a fun z => by rw [z, nq] at e; cases e]
    exact e) (Nat.le_refl _) (Nat.le_refl _)
theorem unrel_h (hq : q < H.length) (hs : St j ys) (hj : j ≤ 900000) : Tk (callL m__law_unrelated [.ref q] (HS H q ys g)) (fun v h => ∃ zs g', h = HS H q zs (g ++ g') ∧ St (j + 1) zs ∧ Rb 2 200 (HD H q (g ++ g')) v ∧ Ti M39 v) := by
  refine (unrel_l (lstAt_some (hs_get hq)) hs hj).mono ?_
  rintro v h ⟨zs, g', rfl, s, r, t⟩
  rw [hs_hd hq] at r
  exact ⟨zs, g', hs_hs hq, s, r, t⟩
theorem lst_at {p : Nat} (hp : p = H.length + g.length) {o : List Va} : lstAt (HS H q ys (g ++ (.lst o :: g'))) p = some o := by
  unfold lstAt HS
  rw [← List.append_assoc, List.getElem?_append_right (by simp; omega)]
  have : p - (H.set q (AO.lst ys) ++ g).length = 0 := by simp; omega
  rw [this]
  rfl
theorem hd_at {p : Nat} (hp : p = H.length + g.length) {o : List Va} : (HD H q (g ++ (.lst o :: g')))[p]? = some (.lst o) := by
  unfold HD
  rw [← List.append_assoc, List.getElem?_append_right (by simp; omega)]
  have : p - (H.set q (AO.dtl []) ++ g).length = 0 := by simp; omega
  rw [this]
  rfl
theorem dm_tail (hq : q < H.length) (hs : St j ys) (hj : j ≤ 800000) (r : Rb (e + 1) B (HD H q g) w) (ti : Ti M w) (he : 2 ≤ e) (hM : M39 ≤ M) (hM2 : M ≤ M39 + 1000) (hB : B ≤ 100000) (hW0 : 0 ≤ W) :
    Ts ((sSeq DM2 (sSeq DM3 DM4)) [some (.ref q), some w, some (.int D), some (.int W), none, none, none] (HS H q ys g)) (EndD H q (j + 3) (e + 1) (2 * B + 400) (M + 1)) := by
  have rs := r.hs (ys := ys) hq
  rw [s_seq]
  by_cases hy : ∃ xs, w = .tup xs
  · obtain ⟨xs, rfl⟩ := hy
    obtain ⟨C, hC, rz⟩ := r.untup
    have ln := rz.lenZ
    have i1 : ∀ h, isiK "tuple" (.ok (.tup xs) h) = .ok (.bl true) h := fun h => i_tt
    have lx : ∀ h : AH, oLen [.tup xs] h = some (.int (xs.length : Nat), h) := fun h => rfl
    unfold DM2
    simp! [-o_lst, -o_tup, -o_lenT, -o_lstT, i1, lx]
    refine p_sq (p_sq (p_set (draw_at (hs_get hq) hs (by omega) (by omega) (by omega) ?_)))
    intro d ys2 h0 h1 s2
    obtain ⟨a, rfl⟩ : ∃ a : Nat, d = (a : Nat) := ⟨d.toNat, by omega⟩
    have ha : a ≤ xs.length := by omega
    rw [hs_set hq]
    have c1 : ((a : Nat) : Int) + 1 = ((a + 1 : Nat) : Int) := rfl
    obtain ⟨n1, md⟩ := mdZ (xs := xs) (a := a) (b := a + 1)
    have tk : ∀ h : AH, oSl (.tup xs) none (some (a : Nat)) h = some (.tup (xs.take a), h) := fun h => tkZ ha
    have dr : ∀ h : AH, oSl (.tup xs) (some (a : Nat)) none h = some (.tup (xs.drop a), h) := fun h => drZ
    have dr1 : ∀ h : AH, oSl (.tup xs) (some ((a + 1 : Nat) : Int)) none h = some (.tup (xs.drop (a + 1)), h) := fun h => drZ
    have lt : ∀ n, (xs.take n).length ≤ xs.length := fun n => List.length_take_le' _ _
    have ld : ∀ n, (xs.drop n).length ≤ xs.length := fun n => by rw [List.length_drop]; omega
    have lm : ((xs.drop a).take n1).length ≤ xs.length := Nat.le_trans (List.length_take_le' _ _) (ld a)
    have a1 : ∀ h, oAdd (.tup (xs.take a)) (.tup (xs.drop (a + 1))) h = some (.tup (xs.take a ++ xs.drop (a + 1)), h) := fun h => adZ (by have := lt a; have := ld (a + 1); omega)
    have a2 : ∀ h, oAdd (.tup (xs.take a)) (.tup ((xs.drop a).take n1)) h = some (.tup (xs.take a ++ (xs.drop a).take n1), h) := fun h => adZ (by have := lt a; omega)
    have a3 : ∀ h, oAdd (.tup (xs.take a ++ (xs.drop a).take n1)) (.tup (xs.drop a)) h = some (.tup ((xs.take a ++ (xs.drop a).take n1) ++ xs.drop a), h) := fun h => adZ (by rw [List.length_append]; have := lt a; have := ld a; omega)
    have a4 : ∀ x h, oAdd (.tup xs) (.tup [x]) h = some (.tup (xs ++ [x]), h) := fun x h => adZ (by simp only [List.length_cons, List.length_nil]; omega)
    have a5 : ∀ x h, oAdd (.tup (xs.take a)) (.tup [x]) h = some (.tup (xs.take a ++ [x]), h) := fun x h => adZ (by simp only [List.length_cons, List.length_nil]; have := lt a; omega)
    have a6 : ∀ x h, oAdd (.tup (xs.take a ++ [x])) (.tup (xs.drop (a + 1))) h = some (.tup ((xs.take a ++ [x]) ++ xs.drop (a + 1)), h) := fun x h => adZ (by simp only [List.length_append, List.length_cons, List.length_nil]; have := lt a; have := ld (a + 1); omega)
    have l1 : ∀ h : AH, oList [.tup xs] h = some (.ref h.length, h ++ [.lst xs]) := fun h => rfl
    have k4 : ∀ (a b c d : Va) (h : AH), oLst [a, b, c, d] h = some (.ref h.length, h ++ [.lst [a, b, c, d]]) := fun _ _ _ _ _ => rfl
    have k2 : ∀ (a b : Va) (h : AH), oLst [a, b] h = some (.ref h.length, h ++ [.lst [a, b]]) := fun _ _ _ => rfl
    have t1 : ∀ (a : Va) (h : AH), oTup [a] h = some (.tup [a], h) := fun _ _ => rfl
    have rv : ∀ h : AH, oRev (.tup xs) h = some (.tup xs.reverse, h) := fun h => rfl
    simp! [-o_lst, -o_tup, -o_lenT, -o_lstT, -o_revT, l1, tk, dr, dr1, c1, md, a1, a2, a3, k4, rv, ts_nx]
    rw [hs_app, hs_app]
    obtain ⟨p1, hp1⟩ : ∃ p1, p1 = (HS H q ys2 g).length := ⟨_, rfl⟩
    obtain ⟨p4, hp4⟩ : ∃ p4, p4 = (HS H q ys2 (g ++ [AO.lst xs])).length := ⟨_, rfl⟩
    rw [← hp1, ← hp4]
    rw [hs_len] at hp1 hp4
    obtain ⟨L4, hL4⟩ : ∃ L4 : List Va, L4 = [.ref p1, .tup (xs.take a ++ xs.drop (a + 1)), .tup ((xs.take a ++ (xs.drop a).take n1) ++ xs.drop a), .tup xs.reverse] := ⟨_, rfl⟩
    rw [← hL4]
    refine p_sq (p_set ((unrel_h hq s2 (by omega)).mono ?_))
    rintro o h ⟨ys3, g3, rfl, s3, ro, to⟩
    obtain ⟨L6, hL6⟩ : ∃ L6 : List Va, L6 = L4 ++ [.tup (xs ++ [o]), .tup ((xs.take a ++ [o]) ++ xs.drop (a + 1))] := ⟨_, rfl⟩
    have e4 : lstAt (HS H q ys3 (g ++ [AO.lst xs] ++ [AO.lst L4] ++ g3)) p4 = some L4 := by
      have : g ++ [AO.lst xs] ++ [AO.lst L4] ++ g3 = (g ++ [AO.lst xs]) ++ (AO.lst L4 :: g3) := by simp
      rw [this]
      exact lst_at hp4
    generalize hG2 : g ++ [AO.lst xs] ++ [AO.lst L4] ++ g3 = G2 at *
    have e4' : (HS H q ys3 G2 ++ [AO.lst [.tup (xs ++ [o]), .tup ((xs.take a ++ [o]) ++ xs.drop (a + 1))]])[p4]? = some (.lst L4) := up_getZ (lstAt_some e4)
    have e5' : (HS H q ys3 G2 ++ [AO.lst [.tup (xs ++ [o]), .tup ((xs.take a ++ [o]) ++ xs.drop (a + 1))]])[(HS H q ys3 G2).length]? = some (.lst [.tup (xs ++ [o]), .tup ((xs.take a ++ [o]) ++ xs.drop (a + 1))]) := lstAt_some lstAt_end
    have ad := adlZ e4' e5' (by rw [hL4]; show 4 + 2 ≤ 1000; omega)
    rw [← hL6] at ad
    simp! [-o_lst, -o_tup, -o_lenT, -o_lstT, -o_revT, tk, dr1, c1, t1, a4, a5, a6, k2, ad, ts_nx]
    rw [hs_app, hs_app]
    obtain ⟨p6, hp6⟩ : ∃ p6, p6 = (HS H q ys3 (G2 ++ [AO.lst [.tup (xs ++ [o]), .tup ((xs.take a ++ [o]) ++ xs.drop (a + 1))]])).length := ⟨_, rfl⟩
    rw [← hp6]
    rw [hs_len] at hp6
    refine p_sq (p_ret (p_o1 (draw_at (hs_get hq) s3 (by omega) (by omega) (by omega) ?_)))
    intro i ys4 h0 h1 s4
    rw [hs_set hq, k_op1]
    have e6 : lstAt (HS H q ys4 (G2 ++ [AO.lst [.tup (xs ++ [o]), .tup ((xs.take a ++ [o]) ++ xs.drop (a + 1))]] ++ [AO.lst L6])) p6 = some L6 := lst_at hp6
    obtain ⟨v, hv, ev⟩ := pickZ (i := i) e6 h0 (by rw [hL6, hL4]; exact h1)
    rw [ev]
    simp! [tk_ok, ts_rt]
    refine ⟨v, _, rfl, ys4, _, rfl, s4, ?_, ?_⟩
    · have hG3 : G2 ++ [AO.lst [.tup (xs ++ [o]), .tup ((xs.take a ++ [o]) ++ xs.drop (a + 1))]] ++ [AO.lst L6] = g ++ (AO.lst xs :: (([AO.lst L4] ++ g3) ++ ([AO.lst [.tup (xs ++ [o]), .tup ((xs.take a ++ [o]) ++ xs.drop (a + 1))]] ++ [AO.lst L6]))) := by
        rw [← hG2]
        simp only [List.append_assoc, List.cons_append, List.nil_append]
      have ro' : Rb 2 200 (HD H q (G2 ++ [AO.lst [.tup (xs ++ [o]), .tup ((xs.take a ++ [o]) ++ xs.drop (a + 1))]] ++ [AO.lst L6])) o := by
        rw [List.append_assoc, ← hd_app]
        exact ro.up
      rw [hG3] at ro' ⊢
      have rz' : Rz e C (HD H q (g ++ (AO.lst xs :: (([AO.lst L4] ++ g3) ++ ([AO.lst [.tup (xs ++ [o]), .tup ((xs.take a ++ [o]) ++ xs.drop (a + 1))]] ++ [AO.lst L6]))))) xs := by
        rw [← hd_app]
        exact rz.up
      have at1 := hd_at (q := q) (g' := ([AO.lst L4] ++ g3) ++ ([AO.lst [.tup (xs ++ [o]), .tup ((xs.take a ++ [o]) ++ xs.drop (a + 1))]] ++ [AO.lst L6])) (o := xs) hp1
      generalize HD H q (g ++ (AO.lst xs :: (([AO.lst L4] ++ g3) ++ ([AO.lst [.tup (xs ++ [o]), .tup ((xs.take a ++ [o]) ++ xs.drop (a + 1))]] ++ [AO.lst L6])))) = K at *
      obtain ⟨B1, B2, hB12, z1, z2⟩ := rz'.take (a := a)
      have zo : Rz e 202 K [o] := (ro'.mono he (Nat.le_refl _)).one
      rw [hL6, hL4] at hv
      simp only [List.cons_append, List.nil_append, List.mem_cons, List.not_mem_nil, or_false] at hv
      rcases hv with rfl | rfl | rfl | rfl | rfl | rfl
      · exact (rz'.lst at1).mono (Nat.le_refl _) (by omega)
      · exact (z1.app z2.drop1).tup.mono (Nat.le_refl _) (by omega)
      · exact ((z1.app z2.take1).app z2).tup.mono (Nat.le_refl _) (by omega)
      · exact rz'.rev.tup.mono (Nat.le_refl _) (by omega)
      · exact (rz'.app zo).tup.mono (Nat.le_refl _) (by omega)
      · exact ((z1.app zo).app z2.drop1).tup.mono (Nat.le_refl _) (by omega)
    · have tx : ∀ x ∈ xs, Ti (M + 1) x := fun x hx => (ti.sub hx).mono (by omega)
      have to' : Ti (M + 1) o := to.mono (by omega)
      have ap : ∀ {as bs : List Va}, (∀ x ∈ as, Ti (M + 1) x) → (∀ x ∈ bs, Ti (M + 1) x) → ∀ x ∈ as ++ bs, Ti (M + 1) x := fun h1 h2 x hx => (List.mem_append.mp hx).elim (h1 x) (h2 x)
      have tt : ∀ n, ∀ x ∈ xs.take n, Ti (M + 1) x := fun n x hx => tx x (List.mem_of_mem_take hx)
      have td : ∀ n, ∀ x ∈ xs.drop n, Ti (M + 1) x := fun n x hx => tx x (List.mem_of_mem_drop hx)
      have tm : ∀ x ∈ (xs.drop a).take n1, Ti (M + 1) x := fun x hx => td a x (List.mem_of_mem_take hx)
      have t1o : ∀ x ∈ [o], Ti (M + 1) x := fun x hx => by rw [List.mem_singleton.mp hx]; exact to'
      rw [hL6, hL4] at hv
      simp only [List.cons_append, List.nil_append, List.mem_cons, List.not_mem_nil, or_false] at hv
      rcases hv with rfl | rfl | rfl | rfl | rfl | rfl
      · exact .oth _ (by intro i h; cases h) (by intro i h; cases h)
      · exact .tup _ (ap (tt a) (td (a + 1)))
      · exact .tup _ (ap (ap (tt a) tm) (td a))
      · exact .tup _ fun x hx => tx x (List.mem_reverse.mp hx)
      · exact .tup _ (ap tx t1o)
      · exact .tup _ (ap (ap (tt a) t1o) (td (a + 1)))
  · have i1 := isi_noZ rs fun ys e => hy ⟨ys, e⟩
    have e2 : DM2 [some (.ref q), some w, some (.int D), some (.int W), none, none, none] (HS H q ys g) = .nx [some (.ref q), some w, some (.int D), some (.int W), none, none, none] (HS H q ys g) := by
      unfold DM2
      simp! [i1]
    rw [e2, k_seqN, s_seq]
    have fin : DM3 [some (.ref q), some w, some (.int D), some (.int W), none, none, none] (HS H q ys g) = .nx [some (.ref q), some w, some (.int D), some (.int W), none, none, none] (HS H q ys g) → Ts (sqK DM4 (DM3 [some (.ref q), some w, some (.int D), some (.int W), none, none, none] (HS H q ys g))) (EndD H q (j + 3) (e + 1) (2 * B + 400) (M + 1)) := fun e3 => by
      rw [e3, k_seqN]
      unfold DM4
      simp! []
      refine p_ret ((unrel_h hq hs (by omega)).mono ?_)
      rintro o h ⟨ys3, g3, rfl, s3, ro, to⟩
      simp! [ts_rt]
      exact ⟨o, _, rfl, ys3, _, rfl, s3.up (by omega), ro.mono (by omega) (by omega), to.mono (by omega)⟩
    by_cases hi : ∃ n, w = .int n
    · obtain ⟨n, rfl⟩ := hi
      have f1 : ∀ H : AH, isiK "int" (.ok (.int n) H) = .ok (.bl true) H := fun H => rfl
      have f2 : ∀ H : AH, isiK "bool" (.ok (.int n) H) = .ok (.bl false) H := fun H => rfl
      by_cases hw : W < 6
      · have dw : decide (W < 6) = true := decide_eq_true hw
        have k6 : ∀ (a b c d e f : Va) (h : AH), oLst [a, b, c, d, e, f] h = some (.ref h.length, h ++ [.lst [a, b, c, d, e, f]]) := fun _ _ _ _ _ _ _ => rfl
        obtain ⟨v, hv, ev⟩ := pickZ (i := W) (p := (HS H q ys g).length) (h := HS H q ys g ++ [.lst [.int (n + 1), .int (n - 1), .non, .int 1000, .int 1001, .int 0]]) lstAt_end hW0 (by simpa using hw)
        have e3 : DM3 [some (.ref q), some (.int n), some (.int D), some (.int W), none, none, none] (HS H q ys g) = .rt v (HS H q ys g ++ [.lst [.int (n + 1), .int (n - 1), .non, .int 1000, .int 1001, .int 0]]) := by
          unfold DM3
          simp! [-o_lst, f1, f2, dw, k6, -o_ixL, ev]
        rw [e3, k_seqR, hs_app]
        refine ⟨v, _, rfl, ys, _, rfl, hs.up (by omega), ?_, ?_⟩
        · have nI : ∀ {i : Int} {e : Nat} {G : AH}, i.natAbs ≤ M39 + 2000 → Rb e 150 G (.int i) := fun {i e G} h => by
            have : i.natAbs.log2 < 141 := PySem.Flt.log2_lt_of (by decide) (by have := m39_lt; omega)
            exact .int (by omega) (by omega)
          have hn := ti.num
          simp only [List.mem_cons, List.not_mem_nil, or_false] at hv
          rcases hv with rfl | rfl | rfl | rfl | rfl | rfl
          · exact (nI (by omega)).mono (Nat.le_refl _) (by omega)
          · exact (nI (by omega)).mono (Nat.le_refl _) (by omega)
          · exact Rb.non.mono (Nat.le_refl _) (by omega)
          · exact (nI (by omega)).mono (Nat.le_refl _) (by omega)
          · exact (nI (by omega)).mono (Nat.le_refl _) (by omega)
          · exact (nI (by omega)).mono (Nat.le_refl _) (by omega)
        · have hn := ti.num
          have h39 : 1001 ≤ M39 := by decide +kernel
          simp only [List.mem_cons, List.not_mem_nil, or_false] at hv
          rcases hv with rfl | rfl | rfl | rfl | rfl | rfl
          · exact .int _ (by omega)
          · exact .int _ (by omega)
          · exact .oth _ (by intro i h; cases h) (by intro i h; cases h)
          · exact .int _ (by omega)
          · exact .int _ (by omega)
          · exact .int _ (by omega)
      · have dw : decide (W < 6) = false := decide_eq_false hw
        refine fin ?_
        unfold DM3
        simp! [f1, f2, dw]
    · refine fin ?_
      have no : isiK "int" (.ok w (HS H q ys g)) = .ok (.bl false) (HS H q ys g) → DM3 [some (.ref q), some w, some (.int D), some (.int W), none, none, none] (HS H q ys g) = .nx [some (.ref q), some w, some (.int D), some (.int W), none, none, none] (HS H q ys g) := fun f1 => by
        unfold DM3
        simp! [f1]
      cases r.tr with
      | int n => exact absurd ⟨n, rfl⟩ hi
      | non => exact no rfl
      | bl b =>
        have f1 : ∀ H : AH, isiK "int" (.ok (.bl b) H) = .ok (.bl true) H := fun H => rfl
        have f2 : ∀ H : AH, isiK "bool" (.ok (.bl b) H) = .ok (.bl true) H := fun H => rfl
        unfold DM3
        simp! [f1, f2]
      | str x => exact no rfl
      | ref a => exact no (isi_refZ (by decide) (by decide) rs)
      | tup xs h => exact absurd ⟨xs, rfl⟩ hy
end
end FL

set_option linter.all false
set_option maxRecDepth 100000
set_option maxHeartbeats 4000000
namespace FL
open PySem PySem.Spec PyProof.Rows L2
/-! ISB: `_law_damaged`, level by level. -/
section
variable {e e' B B' C M j k q c : Nat} {G G' H g g' h : AH} {w x v : Va} {xs ys zs : List Va} {F : List Va → AH → Rs Va} {D W : Int}
/-- the promise of a level -/
def Lvl (F : List Va → AH → Rs Va) (k c : Nat) : Prop := ∀ (H : AH) (q : Nat) (xs : List Va) (w : Va) (j B M : Nat), H[q]? = some (.lst xs) → St j xs → j + 10 * k ≤ 700000 → Rb (3 + k) B (HD H q []) w → Ti M w → M39 ≤ M → M ≤ M39 + 1000 → B ≤ 100000 → Tk (F [.ref q, w, .int (k : Nat)] H) (DP H q (j + c) (3 + k) (2 * B + 400) (M + 1))
theorem eqZt {xs : List Va} (h : AH) : oEqZ true (.tup xs) (.tup []) h = some (.bl (!xs.isEmpty), h) := by cases xs <;> rfl
/-- the change deeper down -/
theorem dm_deep (hq : q < H.length) (hs : St j ys) (hj : j ≤ 750000) (r : Rb (3 + k + 1) B (HD H q g) (.tup xs)) (ti : Ti M (.tup xs)) (hM : M39 ≤ M) (hM2 : M ≤ M39 + 1000) (hB : B ≤ 100000) (hx : xs ≠ []) (hW : W < 5) (hl : Lvl F k c) (hc : j + 1 + 10 * k ≤ 700000) :
    Ts (DA F [some (.ref q), some (.tup xs), some (.int ((k + 1 : Nat) : Int)), some (.int W), none, none, none] (HS H q ys g)) (EndD H q (j + 1 + c) (3 + k + 1) (2 * B + 400) (M + 1)) := by
  obtain ⟨C, hC, rz⟩ := r.untup
  have ln := rz.lenZ
  have i1 : ∀ h, isiK "tuple" (.ok (.tup xs) h) = .ok (.bl true) h := fun h => i_tt
  have lx : ∀ h : AH, oLen [.tup xs] h = some (.int (xs.length : Nat), h) := fun h => rfl
  have ne : xs.isEmpty = false := by cases xs with
    | nil => exact absurd rfl hx
    | cons a as => rfl
  have hlen : 0 < xs.length := by cases xs with
    | nil => exact absurd rfl hx
    | cons a as => simp
  have dD : decide ((0 : Int) < ((k + 1 : Nat) : Int)) = true := decide_eq_true (by omega)
  have dW : decide (W < 5) = true := decide_eq_true hW
  have eq0 : ∀ h : AH, oEqZ true (.tup xs) (.tup []) h = some (.bl true, h) := fun h => by rw [eqZt, ne]; rfl
  have t0 : ∀ (h : AH), oTup [] h = some (.tup [], h) := fun _ => rfl
  have t1 : ∀ (a : Va) (h : AH), oTup [a] h = some (.tup [a], h) := fun _ _ => rfl
  unfold DA
  simp! [-o_lst, -o_tup, -o_lenT, i1, lx, eq0, dD, dW, t0]
  refine p_sq (p_set (draw_at (hs_get hq) hs (by omega) (by omega) (by omega) ?_))
  intro d ys2 h0 h1 s2
  obtain ⟨a, rfl⟩ : ∃ a : Nat, d = (a : Nat) := ⟨d.toNat, by omega⟩
  have ha : a < xs.length := by omega
  rw [hs_set hq]
  have c1 : ((a : Nat) : Int) + 1 = ((a + 1 : Nat) : Int) := rfl
  have tk : ∀ h : AH, oSl (.tup xs) none (some (a : Nat)) h = some (.tup (xs.take a), h) := fun h => tkZ (by omega)
  have dr1 : ∀ h : AH, oSl (.tup xs) (some ((a + 1 : Nat) : Int)) none h = some (.tup (xs.drop (a + 1)), h) := fun h => drZ
  have lt : ∀ n, (xs.take n).length ≤ xs.length := fun n => List.length_take_le' _ _
  have ld : ∀ n, (xs.drop n).length ≤ xs.length := fun n => by rw [List.length_drop]; omega
  have a5 : ∀ x h, oAdd (.tup (xs.take a)) (.tup [x]) h = some (.tup (xs.take a ++ [x]), h) := fun x h => adZ (by simp only [List.length_cons, List.length_nil]; have := lt a; omega)
  have a6 : ∀ x h, oAdd (.tup (xs.take a ++ [x])) (.tup (xs.drop (a + 1))) h = some (.tup ((xs.take a ++ [x]) ++ xs.drop (a + 1)), h) := fun x h => adZ (by simp only [List.length_append, List.length_cons, List.length_nil]; have := lt a; have := ld (a + 1); omega)
  have ix : ∀ h : AH, oIx (.tup xs) (.int (a : Nat)) h = some (xs[a], h) := fun h => by
    rw [o_ixT, atIn rfl, List.getElem?_eq_getElem ha]
    rfl
  have dk : (((k + 1 : Nat) : Int)) - 1 = (k : Nat) := by omega
  have dsp : xs.drop a = xs[a] :: xs.drop (a + 1) := List.drop_eq_getElem_cons ha
  obtain ⟨B1, B2, hB12, z1, z2⟩ := rz.take (a := a)
  rw [dsp] at z2
  obtain ⟨B3, B4, hB34, z3, z4⟩ := Rz.split (xs := [xs[a]]) (ys := xs.drop (a + 1)) z2
  obtain ⟨Cx, hCx, rx⟩ := z3.one
  have tx : Ti M xs[a] := ti.sub (List.getElem_mem ha)
  simp! [-o_lst, -o_tup, -o_lenT, -o_ixT, -o_slT, tk, ix, dk, ts_nx]
  refine p_ret (p_o (p_o1 ?_))
  simp! [-o_lst, -o_tup, -o_lenT, -o_ixT, -o_slT, tk, ix, dk]
  refine p_ap (p_a ?_)
  have hk2 : (HS H q ys2 g)[q]? = some (.lst ys2) := lstAt_some (hs_get hq)
  refine (dam_call (j := j + 1 + c) (e' := 3 + k) (B' := 2 * Cx + 400) (M' := M + 1) hk2 s2 (by rw [hs_hd hq, List.append_nil]; exact rx) tx fun H q xs w h1 h2 h3 h4 => hl H q xs w (j + 1) Cx M h1 h2 (by omega) h3 h4 hM hM2 (by omega)).mono ?_
  rintro v h ⟨ys3, g3, rfl, s3, rv, tv⟩
  rw [hs_hd hq] at rv
  rw [hs_hs hq]
  simp! [-o_lst, -o_tup, -o_slT, t1, tk_ok, a5, c1, dr1, a6, ts_rt]
  refine ⟨_, _, rfl, ys3, _, rfl, s3, ?_, ?_⟩
  · rw [← hd_app] at rv ⊢
    have zz := ((Rz.up (g := g3) z1).app rv.one).app (Rz.up (g := g3) z4)
    exact zz.tup.mono (Nat.le_refl _) (by omega)
  · refine .tup _ fun x hx => ?_
    rcases List.mem_append.mp hx with hx | hx
    · rcases List.mem_append.mp hx with hx | hx
      · exact (ti.sub (List.mem_of_mem_take hx)).mono (by omega)
      · rw [List.mem_singleton.mp hx]; exact tv
    · exact (ti.sub (List.mem_of_mem_drop hx)).mono (by omega)
theorem dm_skip (hq : q < H.length) (r : Rb e B (HD H q g) w) (hs : (∀ xs, w = .tup xs → xs ≠ [] → (D ≤ 0 ∨ 5 ≤ W))) {A : SF} :
    (sIf (tAnd (tB (eIsi "tuple" (eVar 1))) (tAnd (tB (eOp (oEqZ true) (eVar 1) (eAp oTup (aNil)))) (tAnd (tB (eOp oGt (eVar 2) (eC (.int 0)))) (tB (eOp oLt (eVar 3) (eC (.int 5))))))) A (sNil)) [some (.ref q), some w, some (.int D), some (.int W), none, none, none] (HS H q ys g) = .nx [some (.ref q), some w, some (.int D), some (.int W), none, none, none] (HS H q ys g) := by
  have t0 : ∀ (h : AH), oTup [] h = some (.tup [], h) := fun _ => rfl
  by_cases hy : ∃ xs, w = .tup xs
  · obtain ⟨xs, rfl⟩ := hy
    have i1 : ∀ h, isiK "tuple" (.ok (.tup xs) h) = .ok (.bl true) h := fun h => i_tt
    by_cases hx : xs = []
    · subst hx
      have eq0 : ∀ h : AH, oEqZ true (.tup []) (.tup []) h = some (.bl false, h) := fun h => rfl
      simp! [-o_tup, i1, eq0, t0]
    · have ne : xs.isEmpty = false := by cases xs with
        | nil => exact absurd rfl hx
        | cons a as => rfl
      have eq0 : ∀ h : AH, oEqZ true (.tup xs) (.tup []) h = some (.bl true, h) := fun h => by rw [eqZt, ne]; rfl
      by_cases hD : D ≤ 0
      · have dD : decide ((0 : Int) < D) = false := decide_eq_false (by omega)
        simp! [-o_tup, i1, eq0, t0, dD]
      · have dD : decide ((0 : Int) < D) = true := decide_eq_true (by omega)
        have dW : decide (W < 5) = false := decide_eq_false (by have := hs xs rfl hx; omega)
        simp! [-o_tup, i1, eq0, t0, dD, dW]
  · have i1 := isi_noZ (r.hs (ys := ys) hq) fun ys e => hy ⟨ys, e⟩
    simp! [i1]
/-- a level by the level below -/
theorem lvl_step {m : List Va → AH → Rs Va} (hm : m = fnF 7 3 (sSeq DM0 (sSeq (DA F) (sSeq DM2 (sSeq DM3 DM4))))) (hl : Lvl F k c) : Lvl m (k + 1) (c + 4) := by
  intro H q xs w j B M hk hs hj r ti hM hM2 hB
  have hq := (List.getElem?_eq_some_iff.mp hk).1
  subst hm
  refine Tk.mono (P := DP H q (j + (c + 4)) (3 + k + 1) (2 * B + 400) (M + 1)) ?_ fun v h d => d
  rw [s_fn (by rfl)]
  refine gcd_ok hq (?_ : Ts ((sSeq DM0 (sSeq (DA F) (sSeq DM2 (sSeq DM3 DM4)))) [some (.ref q), some w, some (.int ((k + 1 : Nat) : Int)), none, none, none, none] H) (EndD H q (j + (c + 4)) (3 + k + 1) (2 * B + 400) (M + 1)))
  rw [s_seq]
  unfold DM0
  simp! []
  refine p_sq (p_set (draw_at (by unfold lstAt; rw [hk]) hs (by omega) (by omega) (by omega) ?_))
  intro W ys hW0 hW1 s2
  have hH : H.set q (.lst ys) = HS H q ys [] := by unfold HS; rw [List.append_nil]
  rw [hH, k_set, ts_nx, k_seqN, s_seq]
  show Ts (sqK _ (DA F [some (.ref q), some w, some (.int ((k + 1 : Nat) : Int)), some (.int W), none, none, none] (HS H q ys []))) _
  have skip : DA F [some (.ref q), some w, some (.int ((k + 1 : Nat) : Int)), some (.int W), none, none, none] (HS H q ys []) = .nx [some (.ref q), some w, some (.int ((k + 1 : Nat) : Int)), some (.int W), none, none, none] (HS H q ys []) → Ts (sqK (sSeq DM2 (sSeq DM3 DM4)) (DA F [some (.ref q), some w, some (.int ((k + 1 : Nat) : Int)), some (.int W), none, none, none] (HS H q ys []))) (EndD H q (j + (c + 4)) (3 + k + 1) (2 * B + 400) (M + 1)) := fun e1 => by
    rw [e1, k_seqN]
    exact EndD.mono (dm_tail (e := 3 + k) (D := ((k + 1 : Nat) : Int)) hq s2 (by omega) r ti (by omega) hM hM2 hB hW0) (by omega) (Nat.le_refl _) (Nat.le_refl _) (Nat.le_refl _)
  by_cases hy : ∃ xs, w = .tup xs ∧ xs ≠ [] ∧ W < 5
  · obtain ⟨zs, rfl, hz, hW⟩ := hy
    have := dm_deep (g := []) (k := k) (F := F) (c := c) hq s2 (by omega) r ti hM hM2 hB hz hW hl (by omega)
    obtain ⟨v, h, e1, d⟩ := this
    rw [e1, k_seqR]
    exact ⟨v, h, rfl, d.mono (by omega) (Nat.le_refl _) (Nat.le_refl _) (Nat.le_refl _)⟩
  · refine skip (dm_skip hq r fun zs e hz => ?_)
    refine .inr ?_
    rcases Int.lt_or_le W 5 with z | z
    · exact absurd ⟨zs, e, hz, z⟩ hy
    · exact z
theorem lvl_0 : Lvl m__law_damaged_0 0 4 := by
  intro H q xs w j B M hk hs hj r ti hM hM2 hB
  have hq := (List.getElem?_eq_some_iff.mp hk).1
  unfold m__law_damaged_0
  rw [s_fn (by rfl), DM_is]
  refine gcd_ok hq (?_ : Ts ((sSeq DM0 (sSeq DM1 (sSeq DM2 (sSeq DM3 DM4)))) [some (.ref q), some w, some (.int ((0 : Nat) : Int)), none, none, none, none] H) (EndD H q (j + 4) (3 + 0) (2 * B + 400) (M + 1)))
  rw [s_seq]
  unfold DM0
  simp! []
  refine p_sq (p_set (draw_at (by unfold lstAt; rw [hk]) hs (by omega) (by omega) (by omega) ?_))
  intro W ys hW0 hW1 s2
  have hH : H.set q (.lst ys) = HS H q ys [] := by unfold HS; rw [List.append_nil]
  rw [hH, k_set, ts_nx, k_seqN, s_seq]
  show Ts (sqK _ (DM1 [some (.ref q), some w, some (.int ((0 : Nat) : Int)), some (.int W), none, none, none] (HS H q ys []))) _
  have e1 : DM1 [some (.ref q), some w, some (.int ((0 : Nat) : Int)), some (.int W), none, none, none] (HS H q ys []) = .nx [some (.ref q), some w, some (.int ((0 : Nat) : Int)), some (.int W), none, none, none] (HS H q ys []) := by
    unfold DM1
    exact dm_skip hq r fun zs e hz => .inl (Int.le_refl _)
  rw [e1, k_seqN]
  exact EndD.mono (dm_tail (e := 2) (D := ((0 : Nat) : Int)) hq s2 (by omega) r ti (by omega) hM hM2 hB hW0) (by omega) (Nat.le_refl _) (Nat.le_refl _) (Nat.le_refl _)
theorem lvl_3 : Lvl m__law_damaged_3 3 16 := lvl_step rfl (lvl_step (c := 8) rfl (lvl_step (c := 4) rfl lvl_0))
end
end FL

set_option linter.all false
set_option maxRecDepth 100000
set_option maxHeartbeats 4000000
namespace FL
open PySem PySem.Spec PyProof.Rows L2
/-! ISC: systems as readable trees; `_law_longer`; `_law_bounds_right`. -/
section
variable {e e' B B' C M j k q c : Nat} {G G' H g g' h : AH} {w x v : Va} {xs ys zs : List Va} {sw : List (List Int)} {rq : List (List (Option Int))} {n : Nat} {st : Int}
theorem Rz.of : ∀ {xs : List Va}, (∀ x ∈ xs, Rb e B G x) → Rz e (xs.length * (B + 2)) G xs
  | [], _ => Rz.nil.mono (Nat.zero_le _)
  | x :: xs, h => by
    have := (h x (List.mem_cons_self ..)).one.app (Rz.of (xs := xs) fun y hy => h y (List.mem_cons_of_mem _ hy))
    exact this.mono (by rw [List.length_cons, Nat.succ_mul]; omega)
theorem tup_rb {m : Nat} (h : ∀ x ∈ xs, Rb e B G x) (hm : xs.length ≤ m) : Rb (e + 1) (m * (B + 2) + 3) G (.tup xs) :=
  (Rz.of h).tup.mono (Nat.le_refl _) (by have := Nat.mul_le_mul_right (B + 2) hm; omega)
theorem int_rb {i : Int} (h1 : -5000 ≤ i) (h2 : i ≤ 5000) : Rb e 20 G (.int i) := by
  have : i.natAbs.log2 < 13 := PySem.Flt.log2_lt_of (by decide) (by omega)
  exact .int (by omega) (by omega)
theorem oI_rb {r : List (Option Int)} (R : ReqOk r n) : ∀ x ∈ r.map oI, Rb 0 20 G x := fun x hx => by
  obtain ⟨c, hc, rfl⟩ := List.mem_map.mp hx
  cases c with
  | none => exact Rb.non.mono (Nat.le_refl _) (by omega)
  | some c => have := R.cost c hc; exact int_rb (by omega) (by omega)
theorem req_rb (R : ∀ r ∈ rq, ReqOk r n) (hl : rq.length ≤ 8) (hn : n ≤ 10) : Rb 2 2253 G (reqV rq) :=
  (tup_rb (m := 8) (B := 10 * 22 + 3) (e := 1) (fun x hx => by
    obtain ⟨r, hr, rfl⟩ := List.mem_map.mp hx
    exact tup_rb (m := 10) (oI_rb (R r hr)) (by rw [List.length_map, (R r hr).len]; omega)) (by rw [List.length_map]; exact hl)).mono (Nat.le_refl _) (by omega)
theorem rows_rb {m : Nat} {rows : List Va} (h : ∀ x ∈ rows, ∃ cs : List Int, x = tI cs ∧ cs.length ≤ 10 ∧ ∀ c ∈ cs, -5000 ≤ c ∧ c ≤ 5000) (hl : rows.length ≤ 10) : Rb 2 2253 G (.tup rows) :=
  (tup_rb (m := 10) (B := 10 * 22 + 3) (e := 1) (fun x hx => by
    obtain ⟨cs, rfl, h1, h2⟩ := h x hx
    exact tup_rb (m := 10) (fun y hy => by
      obtain ⟨c, hc, rfl⟩ := List.mem_map.mp hy
      exact int_rb (h2 c hc).1 (h2 c hc).2) (by rw [List.length_map]; exact h1)) hl).mono (Nat.le_refl _) (by omega)
theorem tab_rows (T : TabOk sw n) : ∀ x ∈ sw.map tI, ∃ cs : List Int, x = tI cs ∧ cs.length ≤ 10 ∧ ∀ c ∈ cs, -5000 ≤ c ∧ c ≤ 5000 := fun x hx => by
  obtain ⟨r, hr, rfl⟩ := List.mem_map.mp hx
  have := T.n10
  exact ⟨r, rfl, by rw [T.row r hr]; exact this, fun c hc => by have := at2_abs T hr c hc; omega⟩
theorem three_rb {a : Va} (h1 : Rb 2 2253 G a) (h2 : Rb 2 2253 G w) (h3 : Rb 2 2253 G x) : Rb 3 7000 G (.tup [a, w, x]) :=
  (tup_rb (m := 3) (B := 2253) (e := 2) (fun y hy => by
    simp only [List.mem_cons, List.not_mem_nil, or_false] at hy
    rcases hy with rfl | rfl | rfl
    · exact h1
    · exact h2
    · exact h3) (Nat.le_refl _)).mono (Nat.le_refl _) (by omega)
theorem sys_rb (S : SysOk sw rq st n) : Rb 3 7000 G (sysV sw rq st) := by
  have hn := S.tab.n10
  have h0 := S.st0
  have h1 := S.stn
  exact three_rb (rows_rb (m := 0) (tab_rows S.tab) (by rw [List.length_map, S.tab.len]; exact hn)) (req_rb S.row S.rq8 hn) ((int_rb (i := st) (e := 2) (by omega) (by omega)).mono (Nat.le_refl _) (by omega))
theorem m39_ge : 5000 ≤ M39 := by decide +kernel
theorem int_ti {i : Int} (h1 : -5000 ≤ i) (h2 : i ≤ 5000) : Ti M39 (.int i) := .int i (by have := m39_ge; omega)
theorem sys_ti (S : SysOk sw rq st n) : Ti M39 (sysV sw rq st) := by
  have hn := S.tab.n10
  have h0 := S.st0
  have h1 := S.stn
  refine .tup _ fun x hx => ?_
  simp only [List.mem_cons, List.not_mem_nil, or_false] at hx
  rcases hx with rfl | rfl | rfl
  · refine .tup _ fun x hx => ?_
    obtain ⟨r, hr, rfl⟩ := List.mem_map.mp hx
    refine .tup _ fun y hy => ?_
    obtain ⟨c, hc, rfl⟩ := List.mem_map.mp hy
    have := at2_abs S.tab hr c hc
    exact int_ti (by omega) (by omega)
  · refine .tup _ fun x hx => ?_
    obtain ⟨r, hr, rfl⟩ := List.mem_map.mp hx
    refine .tup _ fun y hy => ?_
    obtain ⟨c, hc, rfl⟩ := List.mem_map.mp hy
    cases c with
    | none => exact .oth _ (by intro i h; cases h) (by intro i h; cases h)
    | some c => have := (S.row r hr).cost c hc; exact int_ti (by omega) (by omega)
  · exact int_ti (by omega) (by omega)
theorem bounds_l (h : AH) : callL m__law_bounds_right [] h = .ok (.bl true) h := by
  have e : m__law_bounds_right [] [] = .ok (.bl true) [] := by kernel_rfl
  exact loc0 e rfl rfl
theorem longer_l {K : AH} {P : Va → AH → Prop} (S : SysOk sw rq st n) (hk : lstAt K q = some xs) (hs : St j xs) (hj : j ≤ 900000) (hP : ∀ v ys, (∀ G, Rb 3 7000 G v) → inR 0 v = true → St (j + 4) ys → P v (K.set q (.lst ys))) : Tk (callL m__law_longer [.ref q, sysV sw rq st] K) P := by
  have T := S.tab
  have hn2 := T.n2
  have hn10 := T.n10
  have e0 : refsOfs [.ref q, sysV sw rq st] = [q] := by
    show [q] ++ (refsOf (sysV sw rq st) ++ []) = _
    rw [inR_free (inR_sys sw rq st)]
    rfl
  refine at_stream (C := fun v ys => (∀ G, Rb 3 7000 G v) ∧ inR 0 v = true ∧ St (j + 4) ys) e0 hk (st_plain hs).1 ?_ fun v ys ⟨a, b, c⟩ => hP v ys a b c
  have em : mapRs (fun _ => 0) [.ref q, sysV sw rq st] = [.ref 0, sysV sw rq st] := by
    show [Va.ref 0, mapR _ (sysV sw rq st)] = _
    rw [mapR_frZ (inR_sys sw rq st)]
  rw [em]
  unfold m__law_longer
  refine p_fn (by rfl) ?_
  unfold b__law_longer
  have x0 : ∀ h : AH, oIx (sysV sw rq st) (.int 0) h = some (tabV sw, h) := fun h => rfl
  have lt : ∀ h : AH, oLen [tabV sw] h = some (.int (n : Nat), h) := fun h => len_tab T
  have hk0 : lstAt ([AO.lst xs] : AH) 0 = some xs := rfl
  simp! [List.replicate, -o_lenT, x0, lt]
  refine p_sq (p_par (p_a (draw_at hk0 hs (by omega) (by omega) (by omega) ?_)))
  intro d1 y1 h10 h11 s1
  obtain ⟨a, rfl⟩ : ∃ a : Nat, d1 = (a : Nat) := ⟨d1.toNat, by omega⟩
  have hk1 : lstAt ([AO.lst y1] : AH) 0 = some y1 := rfl
  simp! [-o_lenT]
  refine p_a1 (p_a (draw_at hk1 s1 (by omega) (by omega) (by omega) ?_))
  intro d2 y2 h20 h21 s2
  obtain ⟨b, rfl⟩ : ∃ a : Nat, d2 = (a : Nat) := ⟨d2.toNat, by omega⟩
  have hk2 : lstAt ([AO.lst y2] : AH) 0 = some y2 := rfl
  simp! [-o_lenT, tk_ok, ts_nx]
  refine p_sq (p_set (draw_at hk2 s2 (by omega) (by omega) (by omega) ?_))
  intro d3 y3 h30 h31 s3
  obtain ⟨m, rfl⟩ : ∃ a : Nat, d3 = (a : Nat) := ⟨d3.toNat, by omega⟩
  have ha : a < n := by omega
  have hb : b < n := by omega
  have hm : m < n := by omega
  have hk3 : lstAt ([AO.lst y3] : AH) 0 = some y3 := rfl
  obtain ⟨r, r1, r2⟩ := T.ix1 (h := ([] : AH)) ha
  have r2 : ∀ h : AH, oIx (tabV sw) (.int (a : Nat)) h = some (tI r, h) := fun h => by
    obtain ⟨r', r1', r2'⟩ := T.ix1 (h := h) ha
    rw [r1] at r1'
    cases r1'
    exact r2'
  obtain ⟨rm, rm1, _⟩ := T.ix1 (h := ([] : AH)) hm
  have rm2 : ∀ h : AH, oIx (tabV sw) (.int (m : Nat)) h = some (tI rm, h) := fun h => by
    obtain ⟨r', r1', r2'⟩ := T.ix1 (h := h) hm
    rw [rm1] at r1'
    cases r1'
    exact r2'
  have hr : r ∈ sw := List.mem_of_getElem? r1
  have hrm : rm ∈ sw := List.mem_of_getElem? rm1
  have rl := T.row r hr
  have rml := T.row rm hrm
  have ix : ∀ (r : List Int) (i : Nat), i < r.length → ∃ c, c ∈ r ∧ ∀ h : AH, oIx (tI r) (.int (i : Nat)) h = some (.int c, h) := fun r i hi => by
    refine ⟨r[i], List.getElem_mem hi, fun h => ?_⟩
    show (atI (r.map Va.int) _).map _ = _
    rw [at_map (List.getElem?_eq_getElem hi)]
    rfl
  obtain ⟨c1, hc1, q1⟩ := ix r m (by omega)
  obtain ⟨c2, hc2, q2⟩ := ix rm b (by omega)
  have b1 := at2_abs T hr c1 hc1
  have b2 := at2_abs T hrm c2 hc2
  simp! [-o_lenT, -o_ixT, r2, rm2, q1, q2, ts_nx]
  refine p_sq (p_set (p_o1 (draw_at hk3 s3 (by omega) (by omega) (by omega) ?_)))
  intro d4 y4 h40 h41 s4
  have c1' : ∀ i : Nat, ((i : Nat) : Int) + 1 = ((i + 1 : Nat) : Int) := fun _ => rfl
  have tkr : ∀ h : AH, oSl (tI r) none (some (b : Nat)) h = some (.tup ((r.map Va.int).take b), h) := fun h => tkZ (by rw [List.length_map]; omega)
  have drr : ∀ h : AH, oSl (tI r) (some ((b + 1 : Nat) : Int)) none h = some (.tup ((r.map Va.int).drop (b + 1)), h) := fun h => drZ
  have tkt : ∀ h : AH, oSl (tabV sw) none (some (a : Nat)) h = some (.tup ((sw.map tI).take a), h) := fun h => tkZ (by rw [List.length_map, T.len]; omega)
  have drt : ∀ h : AH, oSl (tabV sw) (some ((a + 1 : Nat) : Int)) none h = some (.tup ((sw.map tI).drop (a + 1)), h) := fun h => drZ
  have drs : ∀ h : AH, oSl (sysV sw rq st) (some 1) none h = some (.tup [reqV rq, .int st], h) := fun h => drZ (xs := [tabV sw, reqV rq, .int st]) (a := 1)
  have t1 : ∀ (a : Va) (h : AH), oTup [a] h = some (.tup [a], h) := fun _ _ => rfl
  obtain ⟨cost, hcost⟩ : ∃ c : Int, c = c1 + c2 + d4 := ⟨_, rfl⟩
  have L1 : ((r.map Va.int).take b).length ≤ 10 := by have := List.length_take_le' b (r.map Va.int); rw [List.length_map] at this; omega
  have L2 : ((r.map Va.int).drop (b + 1)).length ≤ 10 := by rw [List.length_drop, List.length_map]; omega
  have L3 : ((sw.map tI).take a).length ≤ 10 := by have := List.length_take_le' a (sw.map tI); rw [List.length_map, T.len] at this; omega
  have L4 : ((sw.map tI).drop (a + 1)).length ≤ 10 := by rw [List.length_drop, List.length_map, T.len]; omega
  have A1 : ∀ h, oAdd (.tup ((r.map Va.int).take b)) (.tup [.int cost]) h = some (.tup ((r.map Va.int).take b ++ [.int cost]), h) := fun h => adZ (by simp only [List.length_cons, List.length_nil]; omega)
  have A2 : ∀ h, oAdd (.tup ((r.map Va.int).take b ++ [.int cost])) (.tup ((r.map Va.int).drop (b + 1))) h = some (.tup (((r.map Va.int).take b ++ [.int cost]) ++ (r.map Va.int).drop (b + 1)), h) := fun h => adZ (by rw [List.length_append]; simp only [List.length_cons, List.length_nil]; omega)
  obtain ⟨row, hrow⟩ : ∃ row : Va, row = .tup (((r.map Va.int).take b ++ [.int cost]) ++ (r.map Va.int).drop (b + 1)) := ⟨_, rfl⟩
  rw [← hrow] at A2
  have A3 : ∀ h, oAdd (.tup ((sw.map tI).take a)) (.tup [row]) h = some (.tup ((sw.map tI).take a ++ [row]), h) := fun h => adZ (by simp only [List.length_cons, List.length_nil]; omega)
  have A4 : ∀ h, oAdd (.tup ((sw.map tI).take a ++ [row])) (.tup ((sw.map tI).drop (a + 1))) h = some (.tup (((sw.map tI).take a ++ [row]) ++ (sw.map tI).drop (a + 1)), h) := fun h => adZ (by rw [List.length_append]; simp only [List.length_cons, List.length_nil]; omega)
  obtain ⟨tab, htab⟩ : ∃ tab : Va, tab = .tup (((sw.map tI).take a ++ [row]) ++ (sw.map tI).drop (a + 1)) := ⟨_, rfl⟩
  rw [← htab] at A4
  have A5 : ∀ h, oAdd (.tup [tab]) (.tup [reqV rq, .int st]) h = some (.tup [tab, reqV rq, .int st], h) := fun h => adZ (by simp)
  simp! [-o_lenT, -o_ixT, -o_slT, -o_tup, ← hcost, r2, c1', tkr, drr, tkt, drt, drs, t1, A1, A2, A3, A4, A5, tk_ok, ts_nx, ts_rt]
  have row_ok : ∃ cs : List Int, row = tI cs ∧ cs.length ≤ 10 ∧ ∀ c ∈ cs, -5000 ≤ c ∧ c ≤ 5000 := by
    refine ⟨(r.take b ++ [cost]) ++ r.drop (b + 1), ?_, ?_, fun c hc => ?_⟩
    · rw [hrow]
      show Va.tup _ = .tup _
      rw [List.map_append, List.map_append, List.map_take, List.map_drop]
      rfl
    · simp only [List.length_append, List.length_take, List.length_drop, List.length_cons, List.length_nil]
      omega
    · rcases List.mem_append.mp hc with hc | hc
      · rcases List.mem_append.mp hc with hc | hc
        · have := at2_abs T hr c (List.mem_of_mem_take hc); omega
        · rw [List.mem_singleton.mp hc]; omega
      · have := at2_abs T hr c (List.mem_of_mem_drop hc); omega
  have tab_ok : ∀ G, Rb 2 2253 G tab := fun G => by
    rw [htab]
    refine rows_rb (m := 0) (fun x hx => ?_) ?_
    · rcases List.mem_append.mp hx with hx | hx
      · rcases List.mem_append.mp hx with hx | hx
        · exact tab_rows T x (List.mem_of_mem_take hx)
        · rw [List.mem_singleton.mp hx]; exact row_ok
      · exact tab_rows T x (List.mem_of_mem_drop hx)
    · have e1 : ((sw.map tI).take a).length = a := by rw [List.length_take, List.length_map, T.len]; omega
      have e2 : ((sw.map tI).drop (a + 1)).length = n - (a + 1) := by rw [List.length_drop, List.length_map, T.len]
      rw [List.length_append, List.length_append, e1, e2]
      show a + 1 + _ ≤ 10
      omega
  have free : inR 0 (.tup [tab, reqV rq, .int st]) = true := by
    obtain ⟨cs, hcs, _⟩ := row_ok
    have fr : ∀ x ∈ ((sw.map tI).take a ++ [row]) ++ (sw.map tI).drop (a + 1), inR 0 x = true := fun x hx => by
      rcases List.mem_append.mp hx with hx | hx
      · rcases List.mem_append.mp hx with hx | hx
        · obtain ⟨y, _, rfl⟩ := List.mem_map.mp (List.mem_of_mem_take hx); exact inR_tI y
        · rw [List.mem_singleton.mp hx, hcs]; exact inR_tI cs
      · obtain ⟨y, _, rfl⟩ := List.mem_map.mp (List.mem_of_mem_drop hx); exact inR_tI y
    have all : ∀ xs : List Va, (∀ x ∈ xs, inR 0 x = true) → inRs 0 xs = true := fun xs => by
      induction xs with
      | nil => intro _; rfl
      | cons y ys ih => intro h; rw [inRs, h y (List.mem_cons_self ..), ih fun z hz => h z (List.mem_cons_of_mem _ hz)]; rfl
    have ft : inR 0 tab = true := by rw [htab]; exact all _ fr
    show inRs 0 [tab, reqV rq, .int st] = true
    rw [inRs, inRs, ft, inR_req]
    rfl
  have hn := S.tab.n10
  have h0 := S.st0
  have h1 := S.stn
  have fin : gcF 1 (Rs.ok (Va.tup [tab, reqV rq, .int st]) [AO.lst y4]) = .ok (Va.tup [tab, reqV rq, .int st]) [AO.lst y4] := gc1 (r := []) free (st_plain s4).1
  show Tk (gcF 1 (Rs.ok (Va.tup [tab, reqV rq, .int st]) [AO.lst y4])) _
  rw [fin, tk_ok]
  refine ⟨free, y4, rfl, (st_plain s4).2, fun G => three_rb (tab_ok G) (req_rb S.row S.rq8 hn) ((int_rb (i := st) (e := 2) (by omega) (by omega)).mono (Nat.le_refl _) (by omega)), free, s4⟩
end
end FL

set_option linter.all false
set_option maxRecDepth 100000
set_option maxHeartbeats 4000000
namespace FL
open PySem PySem.Spec PyProof.Rows L2
def LW0 : SF := (sIf (tB (eOp oNe2 (eAp oLst (aCons (eC (.int 10)) (aCons (eC (.int 8)) (aCons (eC (.int 1000)) (aCons (eC (.int 400)) (aNil)))))) (eAp oLst (aCons (eC (.int 10)) (aCons (eC (.int 8)) (aCons (eC (.int 1000)) (aCons (eC (.int 400)) (aNil)))))))) (sRet (eC (.bl false))) (sNil))
def LW1 : SF := (sIf (tNot (tB (eCall [] (callL m__law_bounds_right) (aNil)))) (sRet (eC (.bl false))) (sNil))
def LW2 : SF := (sFor (iOf (aCons (eAp oMax2 (aCons (eC (.int 1)) (aCons (eAp oMin2 (aCons (eC (.int 16)) (aCons (eAp oLen (aCons (eVar 0) (aNil))) (aNil)))) (aNil)))) (aNil)) srcR) (gNm 1) (sSeq (sSet 2 (eCall [] (callL m__law_stream) (aCons (eVar 0) (aCons (eVar 1) (aNil))))) (sSeq (sSet 3 (eCall [] (callL m__law_system) (aCons (eVar 2) (aCons (eOp oAdd (eC (.int 2)) (eCall [] (callL m__law_draw) (aCons (eVar 2) (aCons (eC (.int 9)) (aNil))))) (aCons (eOp oAdd (eC (.int 1)) (eCall [] (callL m__law_draw) (aCons (eVar 2) (aCons (eC (.int 8)) (aNil))))) (aNil)))))) (sSeq (sIf (tOr (tB (eOp (oIs true) (eCall [] (callL m_is_system) (aCons (eVar 3) (aNil))) (eC (.bl true)))) (tNot (tB (eCall [] (callL m__law_agrees) (aCons (eCall [] (callL m__law_unrelated) (aCons (eVar 2) (aNil))) (aNil)))))) (sRet (eC (.bl false))) (sNil)) (sFor (iOf (aCons (eC (.int 8)) (aNil)) srcR) (gNm 4) (sSeq (sSet 5 (eCall [] (callL m__law_damaged_3) (aCons (eVar 2) (aCons (eVar 3) (aCons (eC (.int 3)) (aNil)))))) (sFor (iOf1 (eAp oTup (aCons (eVar 5) (aCons (eCall [] (callL m__law_damaged_3) (aCons (eVar 2) (aCons (eVar 5) (aCons (eC (.int 3)) (aNil))))) (aCons (eCall [] (callL m__law_longer) (aCons (eVar 2) (aCons (eVar 3) (aNil)))) (aNil))))) srcOf) (gNm 6) (sIf (tNot (tB (eCall [] (callL m__law_agrees) (aCons (eVar 6) (aNil))))) (sRet (eC (.bl false))) (sNil)))))))))
def LW3 : SF := (sRet (eC (.bl true)))
def LW2_0 : SF := (sSet 2 (eCall [] (callL m__law_stream) (aCons (eVar 0) (aCons (eVar 1) (aNil)))))
def LW2_1 : SF := (sSet 3 (eCall [] (callL m__law_system) (aCons (eVar 2) (aCons (eOp oAdd (eC (.int 2)) (eCall [] (callL m__law_draw) (aCons (eVar 2) (aCons (eC (.int 9)) (aNil))))) (aCons (eOp oAdd (eC (.int 1)) (eCall [] (callL m__law_draw) (aCons (eVar 2) (aCons (eC (.int 8)) (aNil))))) (aNil))))))
def LW2_2 : SF := (sIf (tOr (tB (eOp (oIs true) (eCall [] (callL m_is_system) (aCons (eVar 3) (aNil))) (eC (.bl true)))) (tNot (tB (eCall [] (callL m__law_agrees) (aCons (eCall [] (callL m__law_unrelated) (aCons (eVar 2) (aNil))) (aNil)))))) (sRet (eC (.bl false))) (sNil))
def LW2_3 : SF := (sFor (iOf (aCons (eC (.int 8)) (aNil)) srcR) (gNm 4) (sSeq (sSet 5 (eCall [] (callL m__law_damaged_3) (aCons (eVar 2) (aCons (eVar 3) (aCons (eC (.int 3)) (aNil)))))) (sFor (iOf1 (eAp oTup (aCons (eVar 5) (aCons (eCall [] (callL m__law_damaged_3) (aCons (eVar 2) (aCons (eVar 5) (aCons (eC (.int 3)) (aNil))))) (aCons (eCall [] (callL m__law_longer) (aCons (eVar 2) (aCons (eVar 3) (aNil)))) (aNil))))) srcOf) (gNm 6) (sIf (tNot (tB (eCall [] (callL m__law_agrees) (aCons (eVar 6) (aNil))))) (sRet (eC (.bl false))) (sNil)))))
def LW2_3_0 : SF := (sSet 5 (eCall [] (callL m__law_damaged_3) (aCons (eVar 2) (aCons (eVar 3) (aCons (eC (.int 3)) (aNil))))))
def LW2_3_1 : SF := (sFor (iOf1 (eAp oTup (aCons (eVar 5) (aCons (eCall [] (callL m__law_damaged_3) (aCons (eVar 2) (aCons (eVar 5) (aCons (eC (.int 3)) (aNil))))) (aCons (eCall [] (callL m__law_longer) (aCons (eVar 2) (aCons (eVar 3) (aNil)))) (aNil))))) srcOf) (gNm 6) (sIf (tNot (tB (eCall [] (callL m__law_agrees) (aCons (eVar 6) (aNil))))) (sRet (eC (.bl false))) (sNil)))
def LW2_3_1_0 : SF := (sIf (tNot (tB (eCall [] (callL m__law_agrees) (aCons (eVar 6) (aNil))))) (sRet (eC (.bl false))) (sNil))
theorem LW2_3_1_is : LW2_3_1 = sFor (iOf1 (eAp oTup (aCons (eVar 5) (aCons (eCall [] (callL m__law_damaged_3) (aCons (eVar 2) (aCons (eVar 5) (aCons (eC (.int 3)) (aNil))))) (aCons (eCall [] (callL m__law_longer) (aCons (eVar 2) (aCons (eVar 3) (aNil)))) (aNil))))) srcOf) (gNm 6) (LW2_3_1_0) := rfl
theorem LW2_3_is : LW2_3 = sFor (iOf (aCons (eC (.int 8)) (aNil)) srcR) (gNm 4) (sSeq LW2_3_0 LW2_3_1) := rfl
theorem LW2_is : LW2 = sFor (iOf (aCons (eAp oMax2 (aCons (eC (.int 1)) (aCons (eAp oMin2 (aCons (eC (.int 16)) (aCons (eAp oLen (aCons (eVar 0) (aNil))) (aNil)))) (aNil)))) (aNil)) srcR) (gNm 1) (sSeq LW2_0 (sSeq LW2_1 (sSeq LW2_2 LW2_3))) := rfl
theorem LW_is : b_law = sSeq LW0 (sSeq LW1 (sSeq LW2 LW3)) := rfl
def LB : SF := sSeq LW2_0 (sSeq LW2_1 (sSeq LW2_2 LW2_3))
def LT : SF := sSeq LW2_3_0 LW2_3_1
abbrev EL (ns : List Int) (y1 y2 y3 y4 y5 y6 : Option Va) : Ev := [some (.rol (ns.map Va.int)), y1, y2, y3, y4, y5, y6]
section
variable {ns : List Int} {sw : List (List Int)} {rq : List (List (Option Int))} {n j q B M : Nat} {st : Int} {H g : AH} {w : Va} {ys vs : List Va}
theorem dam3_l (hq : q < H.length) (hs : St j ys) (hj : j ≤ 600000) (r : Rb 6 B (HD H q g) w) (ti : Ti M w) (hM : M39 ≤ M) (hM2 : M ≤ M39 + 1000) (hB : B ≤ 100000) :
    Tk (callL m__law_damaged_3 [.ref q, w, .int 3] (HS H q ys g)) (fun v h => ∃ zs g', h = HS H q zs (g ++ g') ∧ St (j + 16) zs ∧ Rb 6 (2 * B + 400) (HD H q (g ++ g')) v ∧ Ti (M + 1) v) := by
  have hk2 : (HS H q ys g)[q]? = some (.lst ys) := lstAt_some (hs_get hq)
  refine (dam_call (j := j + 16) (e' := 6) (B' := 2 * B + 400) (M' := M + 1) hk2 hs (by rw [hs_hd hq, List.append_nil]; exact r) ti fun H q xs w h1 h2 h3 h4 => lvl_3 H q xs w j B M h1 h2 (by omega) h3 h4 hM hM2 hB).mono ?_
  rintro v h ⟨zs, g', rfl, s, rv, tv⟩
  rw [hs_hd hq] at rv
  exact ⟨zs, g', hs_hs hq, s, rv, tv⟩
theorem turn8 (S : SysOk sw rq st n) (hq : q < H.length) (hs : St j ys) (hj : j ≤ 500000) (y1 y4 y5 y6 : Option Va) :
    Ts (LT (EL ns y1 (some (.ref q)) (some (sysV sw rq st)) y4 y5 y6) (HS H q ys g)) (fun r => ∃ z5 z6 zs g', r = .nx (EL ns y1 (some (.ref q)) (some (sysV sw rq st)) y4 z5 z6) (HS H q zs (g ++ g')) ∧ St (j + 40) zs) := by
  unfold LT LW2_3_0 EL
  simp! []
  refine p_sq (p_set ((dam3_l hq hs (by omega) (B := 7000) ((sys_rb S).mono (by omega) (Nat.le_refl _)) (sys_ti S) (Nat.le_refl _) (by omega) (by omega)).mono ?_))
  rintro v1 h ⟨ys1, g1, rfl, s1, r1, t1⟩
  rw [k_set, ts_nx, k_seqN, LW2_3_1_is]
  simp! [-s_lpC0, -o_tup]
  refine p_for (p_it1 (p_ap (p_a1 (p_a ?_))))
  refine (dam3_l hq s1 (by omega) r1 t1 (by omega) (by omega) (by omega)).mono ?_
  rintro v2 h ⟨ys2, g2, rfl, s2, r2, t2⟩
  simp! [-s_lpC0, -o_tup]
  refine p_a1 (p_a (longer_l S (hs_get hq) s2 (by omega) ?_))
  intro v3 ys3 r3 f3 s3
  rw [hs_set hq]
  have t3 : ∀ (a b c : Va) (h : AH), oTup [a, b, c] h = some (.tup [a, b, c], h) := fun _ _ _ _ => rfl
  have sr : ∀ h : AH, srcOf (.tup [v1, v2, v3]) h = some ⟨[v1, v2, v3], []⟩ := fun h => rfl
  simp! [-s_lpC0, -o_tup, tk_ok, t3, sr]
  have all : ∀ v ∈ [v1, v2, v3], Rb 6 30000 (HD H q (g ++ g1 ++ g2)) v := fun v hv => by
    simp only [List.mem_cons, List.not_mem_nil, or_false] at hv
    rcases hv with rfl | rfl | rfl
    · rw [← hd_app]
      exact r1.up.mono (Nat.le_refl _) (by omega)
    · exact r2.mono (Nat.le_refl _) (by omega)
    · exact (r3 _).mono (by omega) (by omega)
  generalize [v1, v2, v3] = vs at *
  refine loop_inv (fun _ ev h => ∃ J z6, ev = EL ns y1 (some (.ref q)) (some (sysV sw rq st)) y4 (some v1) z6 ∧ h = HS H q ys3 ((g ++ g1 ++ g2) ++ J)) _ 0 _ _ ⟨[], y6, rfl, by rw [List.append_nil]⟩ (fun _ _ _ _ _ _ => rfl) ?_ ?_
  · rintro k v ev h hk ⟨J, z6, rfl, rfl⟩
    refine ⟨EL ns y1 (some (.ref q)) (some (sysV sw rq st)) y4 (some v1) (some v), rfl, ?_⟩
    have r := all v (List.mem_of_getElem? hk)
    have r' : Rb 6 30000 (HD H q ((g ++ g1 ++ g2) ++ J)) v := by
      rw [← hd_app]
      exact r.up
    obtain ⟨g3, e⟩ := agrees_z (e := 3) (r'.hs (ys := ys3) hq) (by omega) (by omega)
    unfold LW2_3_1_0 EL
    simp! [e, ts_nx]
    exact .inl ⟨_, _, rfl, J ++ g3, _, rfl, by rw [hs_app, List.append_assoc]⟩
  · rintro ev h ⟨J, z6, rfl, rfl⟩
    exact ⟨some v1, z6, ys3, (g1 ++ g2) ++ J, by simp only [List.append_assoc], s3.up (by omega)⟩
theorem turn {k : Nat} (hk : k ≤ 1000) (y2 y3 y4 y5 y6 : Option Va) (h : AH) :
    Ts (LB (EL ns (some (.int (k : Nat))) y2 y3 y4 y5 y6) h) (fun r => ∃ z1 z2 z3 z4 z5 z6 h', r = .nx (EL ns z1 z2 z3 z4 z5 z6) h') := by
  have hlim : lim = 1000000 := rfl
  unfold LB LW2_0 LW2_1 EL
  simp! []
  refine p_sq (p_set (stream_l hk ?_))
  intro xs hs
  have k0 : lstAt (h ++ [AO.lst xs]) h.length = some xs := lstAt_end
  generalize h ++ [AO.lst xs] = H0 at *
  generalize h.length = kk at *
  have hq : kk < H0.length := by
    have := lstAt_some k0
    exact (List.getElem?_eq_some_iff.mp this).1
  have hH : H0 = HS H0 kk xs [] := (hs_self (lstAt_some k0)).symm
  obtain ⟨K, hK⟩ : ∃ K : AH, K = H0 := ⟨_, rfl⟩
  rw [hH, ← hK]
  rw [← hK] at hq
  simp! [ts_nx]
  refine p_sq (p_set (p_cl (p_a1 (p_a (p_o1 (draw_at (hs_get hq) hs (by omega) (by omega) (by omega) ?_))))))
  intro d1 ys1 h10 h11 hs1
  rw [hs_set hq]
  simp! [tk_ok]
  refine p_a1 (p_a (p_o1 (draw_at (hs_get hq) hs1 (by omega) (by omega) (by omega) ?_)))
  intro d2 ys2 h20 h21 hs2
  rw [hs_set hq]
  obtain ⟨n, hn⟩ : ∃ n : Nat, 2 + d1 = (n : Nat) := ⟨(2 + d1).toNat, by omega⟩
  obtain ⟨m, hm⟩ : ∃ m : Nat, 1 + d2 = (m : Nat) := ⟨(1 + d2).toNat, by omega⟩
  simp! [tk_ok, hn, hm]
  refine system_l (hs_get hq) hs2 (by omega) (by omega) (by omega) (by omega) (by omega) ?_
  intro sw rq st ys3 S hrl hs3
  rw [hs_set hq]
  simp! [ts_nx]
  have i1 : ∀ h : AH, oIs true (.bl true) (.bl true) h = some (.bl false, h) := fun h => rfl
  unfold LW2_2
  simp! [sys_l S, i1]
  refine p_sq (p_sif (p_not (p_tB (p_cl (p_a ((unrel_h hq hs3 (by omega)).mono ?_))))))
  rintro v h' ⟨ys4, g4, rfl, s4, r4, t4⟩
  rw [List.nil_append] at r4 ⊢
  obtain ⟨g5, e5⟩ := agrees_z (e := 0) ((r4.mono (show 2 ≤ 3 by omega) (Nat.le_refl _)).hs (ys := ys4) hq) (by omega) (by omega)
  simp! [tk_ok, e5, ts_nx]
  rw [hs_app]
  have c8 : ∀ h : AH, srcR [.int 8] h = some ⟨intsF 0 8, []⟩ := fun h => c_rngN (n := 8) (by omega)
  have hL : LW2_3 = sFor (iOf (aCons (eC (.int 8)) (aNil)) srcR) (gNm 4) LT := rfl
  rw [hL]
  simp! [c8, -s_lpC0]
  refine loop_inv (fun i ev h => ∃ z4 z5 z6 zs g', ev = EL ns (some (.int (k : Nat))) (some (.ref kk)) (some (sysV sw rq st)) z4 z5 z6 ∧ h = HS K kk zs g' ∧ St (200000 + 40 * i) zs) _ 0 _ _ ⟨_, _, _, ys4, _, rfl, rfl, s4.up (by omega)⟩ (fun _ _ _ _ _ _ => rfl) ?_ ?_
  · rintro i v ev h hi ⟨z4, z5, z6, zs, g', rfl, rfl, hs⟩
    have hi8 : i < 8 := by
      have := (List.getElem?_eq_some_iff.mp hi).1
      rwa [ints_len] at this
    refine ⟨EL ns (some (.int (k : Nat))) (some (.ref kk)) (some (sysV sw rq st)) (some v) z5 z6, rfl, ?_⟩
    obtain ⟨z5', z6', zs', g'', e, s'⟩ := turn8 (ns := ns) S hq hs (by omega) (some (.int (k : Nat))) (some v) z5 z6 (g := g')
    exact .inl ⟨_, _, e, _, _, _, _, _, rfl, rfl, s'.up (by omega)⟩
  · rintro ev h ⟨z4, z5, z6, zs, g', rfl, rfl, _⟩
    exact ⟨_, _, _, _, _, _, _, rfl⟩
theorem cells {l : Nat} {c : Int} (hc : 1 ≤ c ∧ c ≤ 60) : ∃ N : Nat, (if (if ((l : Nat) : Int) < c then ((l : Nat) : Int) else c) > 1 then (if ((l : Nat) : Int) < c then ((l : Nat) : Int) else c) else 1) = (N : Nat) ∧ N ≤ 60 := by
  refine ⟨_, (Int.toNat_of_nonneg (by split <;> (split <;> omega))).symm, ?_⟩
  split <;> (split <;> omega)
theorem first_w (ns : List Int) : LW0 (EL ns none none none none none none) [] = .nx (EL ns none none none none none none) [.lst [.int 10, .int 8, .int 1000, .int 400], .lst [.int 10, .int 8, .int 1000, .int 400]] := by
  have k4 : ∀ (a b c d : Va) (h : AH), oLst [a, b, c, d] h = some (.ref h.length, h ++ [.lst [a, b, c, d]]) := fun _ _ _ _ _ => rfl
  have e : oNe2 (.ref 0) (.ref 1) [.lst [.int 10, .int 8, .int 1000, .int 400], .lst [.int 10, .int 8, .int 1000, .int 400]] = some (.bl false, [.lst [.int 10, .int 8, .int 1000, .int 400], .lst [.int 10, .int 8, .int 1000, .int 400]]) := by kernel_rfl
  unfold LW0 EL
  simp! [-o_lst, k4, Nat.zero_add]
  rw [e]
  simp! []
theorem plain : ∀ ns : List Int, ns.length ≤ 63 → ∃ ah, m_law [.rol (ns.map Va.int)] [] = .ok (.bl true) ah := by
  intro ns hn
  have hlim : lim = 1000000 := rfl
  suffices q : Tk (m_law [.rol (ns.map Va.int)] []) (fun v _ => v = .bl true) by
    obtain ⟨v, h, e, rfl⟩ := q
    exact ⟨h, e⟩
  unfold m_law
  refine p_fn (by rfl) ?_
  rw [LW_is]
  have e1 : ∀ h : AH, oLen [.rol (ns.map Va.int)] h = some (.int (ns.length : Nat), h) := fun h => by rw [o_lenR, List.length_map]
  obtain ⟨N, hN, hN2⟩ := cells (l := ns.length) (c := 16) (by omega)
  have cr : ∀ h, srcR [.int (N : Nat)] h = some ⟨intsF 0 N, []⟩ := fun h => c_rngN (by omega)
  show Ts ((sSeq LW0 (sSeq LW1 (sSeq LW2 LW3))) (EL ns none none none none none none) []) _
  rw [s_seq, first_w ns, k_seqN, s_seq]
  have e2 : ∀ h : AH, LW1 (EL ns none none none none none none) h = .nx (EL ns none none none none none none) h := fun h => by
    unfold LW1
    simp! [bounds_l]
  rw [e2, k_seqN]
  have hL : LW2 = sFor (iOf (aCons (eAp oMax2 (aCons (eC (.int 1)) (aCons (eAp oMin2 (aCons (eC (.int 16)) (aCons (eAp oLen (aCons (eVar 0) (aNil))) (aNil)))) (aNil)))) (aNil)) srcR) (gNm 1) LB := rfl
  rw [hL]
  unfold EL
  simp! [-o_lenR, e1, hN, cr, -s_lpC0]
  refine p_sq (loop_inv (fun _ ev _ => ∃ y1 y2 y3 y4 y5 y6, ev = EL ns y1 y2 y3 y4 y5 y6) _ 0 _ _ ⟨_, _, _, _, _, _, rfl⟩ (fun _ _ _ _ _ _ => rfl) ?_ ?_)
  · rintro k v ev h hk ⟨y1, y2, y3, y4, y5, y6, rfl⟩
    obtain ⟨hkN, rfl⟩ := intsF_at0 hk
    obtain ⟨z1, z2, z3, z4, z5, z6, h', e⟩ := turn (ns := ns) (k := k) (by omega) y2 y3 y4 y5 y6 h
    exact ⟨_, rfl, .inl ⟨_, h', e, z1, z2, z3, z4, z5, z6, rfl⟩⟩
  · rintro ev h ⟨y1, y2, y3, y4, y5, y6, rfl⟩
    unfold LW3
    simp! [ts_rt]
    show Tk (gcF 0 (.ok (.bl true) _)) _
    rw [gc0 rfl]
    exact Tk.ok rfl
end
end FL

open PySem PySem.W PySem.Calls PyProof.Rows
theorem PySem.Challenge.cw_hindcost_k01_is_system_holds : PySem.Challenge.rw_hindcost_k01_is_system.Holds := by
  w_on; o_law
  refine HandSHeadRun.head_any (r := OpenLaw.row PySem.Challenge.rw_hindcost_k01_is_system) (q := view (OpenLaw.row PySem.Challenge.rw_hindcost_k01_is_system).prog [26]) (H := FL.hkk) (ob := FL.hob) (M := 6000) (loose := FL.nms) (d := HandSHeadRun.topDef (OpenLaw.row PySem.Challenge.rw_hindcost_k01_is_system).prog 26) (kwd := []) FL.hob_eq
    (by kernel_rfl) (fun s => by kernel_rfl) FL.hrun (by kernel_rfl) (by kernel_rfl) (by kernel_rfl) (by rfl) (by first | assumption | decide +kernel) (by decide +kernel) ⟨rfl, rfl, rfl, rfl, rfl, by decide +kernel⟩ ?hw ?hc
  case hw => w_witness2
  case hc =>
    letI : FL.Tabz := ⟨[]⟩
    refine FL.walk_ofG (l := PySem.Challenge.rw_hindcost_k01_is_system) (n := 63) (k := 7) (x := "_law_script") rfl rfl (by decide) (by kernel_rfl) ⟨rfl, by decide, by decide⟩ rfl ?T
    intro w mg fa h Yh G hmg0
    obtain ⟨K, kx, c⟩ := Yh
    have C : FL.KM K mg := ⟨c, h, kx, G⟩
    obtain ⟨fd, F⟩ := FL.fd_law C
    have hmg : mg ("law" : PySem.Str) = some (.ref fa) := by
      have e : (HandSHeadRun.topDef (OpenLaw.row PySem.Challenge.rw_hindcost_k01_is_system).prog 26).name = ("law" : PySem.Str) := by kernel_rfl
      rw [← e]
      exact hmg0
    have e := hmg.symm.trans (FL.glo_law C)
    cases e
    exact ⟨K, fd, FL.m_law, kx, fun s u => L2.FunD.bindsA (ps := ["_law_script"]) F (fun _ _ _ _ _ _ us hl => match us, hl with | [_], _ => rfl) s [u] rfl, FL.plain, fun base _ _ => FL.fg_law C F⟩

#print axioms PySem.Challenge.cw_hindcost_k01_is_system_holds

