import PyProof.Rows.All
import PySem.Challenge.RW_hindcost_k04_switching_from_steps
import HandS.Head0
import HandS.Head1
import HandS.Head2
import HandS.HeadEnd
import HandS.WordsExc
import HandS.More
import KE.KStateDown
import Lean
import Wide.All
import OpenK.AllK
import Wide.FinOn
import HandS.ForMost
import HandS.Exc
import HandS.ExcOwn
import HandS.Lambda
import HandS.EndTab
import HandS.HeadHook1
import KE.KeyNested
import PyProof.DictRoadsH
import HandS.IsInst
import HandS.Wide
import HandS.TupAny
import HandS.TupMul
import HandS.Deep
import HandS.Style
import PyProof.ReprLen
import PyProof.P3In
import HandS.Dict
import HandS.Conv
import HandS.Text
import KE.GoesEnum
import KE.GoesEnumKw
import PyProof.Rows.CallKwBuiltin
import HandS.Defaults
import HandS.HeadHook2
import HandS.Ends
import KE.KRevSl
import KE.DataMinMax
import KE.KDictZip
import HandS.Zip
import KE.KExcInit
import PyProof.ExcBaseAll.LookupError
import HandS.ExcField
import HandS.TryOnly
import HandS.HeadHook4
import HandS.Sort
import HandS.Iter
import PyProof.ListNew
import HandS.DictComp
import HandS.ExcIs
import KE.KTryMore
import KE.KExcIs
import HandS.SortKw
import KE.DatumOrd
import KE.KDictDisplayH
import KE.SortData
import KE.KDictPairs
import HandS.MakeKwOnly
import KE.KDictCopyH
import PyProof.Transfer
import KE.KDictSum
import HandS.SetKeys
import KE.DataMinKey
import PyProof.DictMoreH
import HandS.SetBool
import HandS.Strs
import HandS.WordsDict
import PyProof.EqKinds
import PyProof.EqAt
import KE.KEqDict
namespace PySem
namespace FLX
open PySem.W PySem.Calls PyProof.Rows PySem.HandSPX Builtin Builtin.ObjectAttr L2
def clsB (K : Frag) (C : Addr) (bm : List Value) (newId : String) : Bool := match K.lookup C with
  | some ⟨.type "type", _, .cls cd, sl⟩ => (match cd.mro, sl.toList with
    | .ref C' :: b, [_, _, _, _, some (.builtin n), _] => C' == C && n == newId && !cd.hasDel && cd.hasDict && b == bm
    | _, _ => false)
  | _ => false
def ownB (x f : Str) (bm : List Value) (newId : String) (K : Frag) : Bool :=
  He.eqO (nsIn K mainGlobals x) (some (some (.ref (He.ga K x)))) && (clsB K (He.ga K x) bm newId && (He.eqO (findIn K (.ref (He.ga K x)) "__setattr__") (some (some (.builtin "object.__setattr__"))) && (He.eqO (findIn K (.ref (He.ga K x)) "__getattribute__") (some (some (.builtin "BaseException.__getattribute__"))) &&
  (He.eqO (findIn K (.ref (He.ga K x)) "__getattr__") (some none) && (He.eqO (findIn K (.ref (He.ga K x)) f) (some none) && (He.eqO (findIn K (.ref (He.ga K x)) "__init__") (some (some (.ref (He.ma K (He.ga K x) "__init__")))) && (decide (typeIn K (.ref (He.ma K (He.ga K x) "__init__")) = some (.type "function")) &&
  (keepIn K (.ref (He.ga K x)) && (decide (subIn K (.ref (He.ga K x)) (.type "BaseException") = some true) && (decide (typeIn K (.ref (He.ga K x)) = some (.type "type")) && (hasDictIn K (He.ga K x) && decide (exmOne K (.ref (He.ga K x)) (.ref (He.ga K x)) = some true))))))))))))
end FLX
end PySem
set_option Elab.async false
set_option linter.all false
set_option maxRecDepth 100000
set_option maxHeartbeats 4000000
namespace FL
open PySem PySem.Spec PyProof.Rows L2
def clsFB (c : Str) (fs : List Str) (K : PySem.W.Frag) : Bool :=
  PySem.W.plainGet K (He.ga K c) Str.empty && (PySem.W.hasDictIn K (He.ga K c) && (PySem.W.plainOver K (He.ga K c) && (He.eqO (PySem.W.findIn K (.ref (He.ga K c)) "__setattr__") (some (some (.builtin "object.__setattr__"))) && fs.all fun f => He.eqO (PySem.W.findIn K (.ref (He.ga K c)) f) (some none))))
def methB (c m : Str) (K : PySem.W.Frag) : Bool :=
  He.eqO (PySem.W.findIn K (.ref (He.ga K c)) m) (some (some (.ref (He.ma K (He.ga K c) m)))) && (PySem.W.isFn K (.ref (He.ma K (He.ga K c) m)) && PySem.W.keepIn K (.ref (He.ma K (He.ga K c) m)))
def mkB (c : Str) (K : PySem.W.Frag) : Bool :=
  PySem.W.makesIn K (He.ga K c) && (He.eqO (PySem.W.findIn K (.ref (He.ga K c)) "__init__") (some (some (.ref (He.ma K (He.ga K c) "__init__")))) && (PySem.W.isFn K (.ref (He.ma K (He.ga K c) "__init__")) && PySem.W.keepIn K (.ref (He.ga K c))))
def excB (K : PySem.W.Frag) (C : Addr) : Bool :=
  He.eqO (PySem.W.findIn K (.ref C) "__getattribute__") (some (some (.builtin "BaseException.__getattribute__"))) && (He.eqO (PySem.W.findIn K (.ref C) "__getattr__") (some none) && (decide (PySem.W.subIn K (.ref C) (.type "BaseException") = some true) && (PySem.W.hasDictIn K C &&
  (He.eqO (PySem.W.findIn K (.ref C) "__class__") (some (some (.builtin "object.__class__"))) && (He.eqO (PySem.W.specialIn K (.builtin "object.__class__") "__get__") (some (some (.builtin "getset_descriptor.__get__"))) && (decide (PySem.W.takesIn K (.builtin "object.__class__") = some true) && decide (PySem.W.mroIn K C (.type "object") = some true)))))))
def plainB (x : Str) (bmB : List Value) (newId : String) (K : PySem.W.Frag) : Bool :=
  He.eqO (PySem.W.nsIn K mainGlobals x) (some (some (.ref (He.ga K x)))) && (PySem.W.excIn K (He.ga K x) bmB newId && (PySem.W.keepIn K (.ref (He.ga K x)) && (decide (PySem.W.subIn K (.ref (He.ga K x)) (.type "BaseException") = some true) && decide (PySem.W.typeIn K (.ref (He.ga K x)) = some (.type "type")))))
abbrev pg : Program := PySem.Challenge.pw_hindcost_k04_switching_from_steps
def top (i : Nat) : Stmt := pg.main.body.getD i (.Pass ⟨0, 0, 0, 0⟩)
abbrev s_is_integer : Stmt := top 11
abbrev s_shortest_sums : Stmt := top 13
abbrev s__law_stream : Stmt := top 16
abbrev s__law_draw : Stmt := top 17
abbrev s__law_outcome : Stmt := top 20
abbrev s__law_least_sums : Stmt := top 22
abbrev s_is_step : Stmt := top 12
abbrev s__law_unrelated : Stmt := top 18
abbrev s__law_steps : Stmt := top 21
abbrev s_switching_from_steps : Stmt := top 14
abbrev s__law_damaged : Stmt := top 19
abbrev s__law_right : Stmt := top 23
abbrev s__law_errors_right : Stmt := top 24
abbrev s_law : Stmt := top 25
def d_is_integer : He.DefD := ⟨("is_integer", none), "is_integer", "is_integer", defArgs s_is_integer, defBody s_is_integer, defScope s_is_integer, [], []⟩
def d_shortest_sums : He.DefD := ⟨("shortest_sums", none), "shortest_sums", "shortest_sums", defArgs s_shortest_sums, defBody s_shortest_sums, defScope s_shortest_sums, [], []⟩
def d__law_stream : He.DefD := ⟨("_law_stream", none), "_law_stream", "_law_stream", defArgs s__law_stream, defBody s__law_stream, defScope s__law_stream, [], []⟩
def d__law_draw : He.DefD := ⟨("_law_draw", none), "_law_draw", "_law_draw", defArgs s__law_draw, defBody s__law_draw, defScope s__law_draw, [], []⟩
def d__law_outcome : He.DefD := ⟨("_law_outcome", none), "_law_outcome", "_law_outcome", defArgs s__law_outcome, defBody s__law_outcome, defScope s__law_outcome, [], []⟩
def d__law_least_sums : He.DefD := ⟨("_law_least_sums", none), "_law_least_sums", "_law_least_sums", defArgs s__law_least_sums, defBody s__law_least_sums, defScope s__law_least_sums, [], []⟩
def d_is_step : He.DefD := ⟨("is_step", none), "is_step", "is_step", defArgs s_is_step, defBody s_is_step, defScope s_is_step, [], []⟩
def d__law_unrelated : He.DefD := ⟨("_law_unrelated", none), "_law_unrelated", "_law_unrelated", defArgs s__law_unrelated, defBody s__law_unrelated, defScope s__law_unrelated, [], []⟩
def d__law_steps : He.DefD := ⟨("_law_steps", none), "_law_steps", "_law_steps", defArgs s__law_steps, defBody s__law_steps, defScope s__law_steps, [], []⟩
def d_switching_from_steps : He.DefD := ⟨("switching_from_steps", none), "switching_from_steps", "switching_from_steps", defArgs s_switching_from_steps, defBody s_switching_from_steps, defScope s_switching_from_steps, [], []⟩
def d__law_damaged : He.DefD := ⟨("_law_damaged", none), "_law_damaged", "_law_damaged", defArgs s__law_damaged, defBody s__law_damaged, defScope s__law_damaged, [], []⟩
def d__law_right : He.DefD := ⟨("_law_right", none), "_law_right", "_law_right", defArgs s__law_right, defBody s__law_right, defScope s__law_right, [], []⟩
def d__law_errors_right : He.DefD := ⟨("_law_errors_right", none), "_law_errors_right", "_law_errors_right", defArgs s__law_errors_right, defBody s__law_errors_right, defScope s__law_errors_right, [], []⟩
def d_law : He.DefD := ⟨("law", none), "law", "law", defArgs s_law, defBody s_law, defScope s_law, [], []⟩
def s_InvalidNumber_init : Stmt := (match top 5 with | .ClassDef (body := b) .. => b.getD 0 (.Pass ⟨0, 0, 0, 0⟩) | s => s)
def d_InvalidNumber_init : He.DefD := ⟨("InvalidNumber", some "__init__"), "__init__", "InvalidNumber.__init__", defArgs s_InvalidNumber_init, defBody s_InvalidNumber_init, defScope s_InvalidNumber_init, [], []⟩
def fn : List He.DefD := [d_is_integer, d_shortest_sums, d__law_stream, d__law_draw, d__law_outcome, d__law_least_sums, d_is_step, d__law_unrelated, d__law_steps, d_switching_from_steps, d__law_damaged, d__law_right, d__law_errors_right, d_law, d_InvalidNumber_init]
def tf : List He.Defn := [("_law_right", none), ("_law_errors_right", none), ("law", none)]
def ex : PySem.W.Frag → Bool := fun K => PySem.FLX.ownB "InvalidNumber" "value" [.type "KeyError", .type "LookupError", .type "Exception", .type "BaseException", .type "object"] "LookupError.__new__" K && plainB "InvalidSteps" [.type "ValueError", .type "Exception", .type "BaseException", .type "object"] "ValueError.__new__" K && excB K (He.ga K "InvalidSteps") && excB K (He.ga K "InvalidNumber") && decide (PySem.W.exmOne K (.ref (He.ga K "InvalidNumber")) (.ref (He.ga K "InvalidNumber")) = some true) && decide (PySem.W.exmOne K (.ref (He.ga K "InvalidSteps")) (.ref (He.ga K "HindcostError")) = some true) && decide (PySem.W.exmOne K (.ref (He.ga K "InvalidNumber")) (.ref (He.ga K "HindcostError")) = some false) && decide (PySem.W.kitOne K (.ref (He.ga K "InvalidSteps")) (.ref (He.ga K "InvalidSteps")) = some true) && decide (PySem.W.kitOne K (.ref (He.ga K "InvalidSteps")) (.ref (He.ga K "InvalidSystem")) = some false) && decide (PySem.W.kitOne K (.ref (He.ga K "InvalidNumber")) (.type "KeyError") = some true) && decide ((tf.map fun p => (He.cT K p).2).Nodup)
def fa0 : List He.Fa := [.free "isinstance", .free "int", .free "bool", .free "range", .free "tuple", .free "len", .free "abs", .free "max", .glo "InvalidSteps", .glo "InvalidSystem", .free "KeyError", .free "repr", .glo "InvalidNumber", .glo "HindcostError", .free "dict", .int "MAX_COST" 1000, .int "MAX_STATES" 10, .int "MIN_STATES" 2, .free "all", .free "any", .free "list", .glo "_law_outcome", .free "min", .glo "is_integer", .glo "shortest_sums", .glo "_law_stream", .glo "_law_draw", .glo "_law_least_sums", .glo "is_step", .glo "_law_unrelated"]
def fa1 : List He.Fa := [.glo "_law_steps", .glo "switching_from_steps", .glo "_law_damaged", .glo "_law_right", .glo "_law_errors_right", .glo "law"]
def fa : List He.Fa := fa0 ++ fa1
end FL
set_option Elab.async false
set_option linter.all false
set_option maxRecDepth 100000
set_option maxHeartbeats 0
namespace FL
open PySem PySem.Spec PyProof.Rows L2
def nm0 : List Str := ["HindcostError", "InvalidSystem", "InvalidSteps", "UnknownState", "InvalidNumber", "TooLarge", "MIN_STATES", "MAX_STATES", "MAX_COST", "is_integer", "is_step", "shortest_sums", "switching_from_steps", "_law_stream", "_law_draw", "_law_unrelated", "_law_damaged", "_law_outcome", "_law_steps", "_law_least_sums", "_law_right", "_law_errors_right"]
def nms : List Str := nm0
abbrev hrow : PySem.W.OpenRow := PySem.W.OpenLaw.row PySem.Challenge.rw_hindcost_k04_switching_from_steps
abbrev hkk : PySem.W.Hook := He.hookX 4 fa fn [] tf ex
def hob (s : PySem.W.SharedT) : He.AlX := He.obsX 4 fa fn [] tf ex (HandSHeadRun.getT s)
theorem hob_eq (s : PySem.W.SharedT) : hob s = hkk.obs s.abs := He.obsX_eq (HandSHeadRun.getT_eq s)
theorem hrun (w : World) : HandSHeadRun.RunEq hrow (PySem.W.view hrow.prog [25]) hkk hob 6000 nms w := by
  intro os
  kernel_rfl
theorem inj_nd {α β : Type} {f : α → β} : ∀ {l : List α}, (l.map f).Nodup → ∀ x ∈ l, ∀ y ∈ l, f x = f y → x = y
  | [], _, x, hx, _, _, _ => nomatch hx
  | a :: l, h, x, hx, y, hy, e => by
    rw [List.map_cons, List.nodup_cons] at h
    rcases List.mem_cons.mp hx with hx | hx
    · rcases List.mem_cons.mp hy with hy | hy
      · rw [hx, hy]
      · exact (h.1 (List.mem_map.mpr ⟨y, hy, by rw [← e, hx]⟩)).elim
    · rcases List.mem_cons.mp hy with hy | hy
      · exact (h.1 (List.mem_map.mpr ⟨x, hx, by rw [e, hy]⟩)).elim
      · exact inj_nd h.2 x hx y hy e
end FL

set_option Elab.async false
set_option linter.all false
set_option maxRecDepth 100000
/-! FL1: values, the abstract heap by places, how they stand for the layer's values and heaps. -/
namespace FL
open PySem PySem.Spec PyProof.Rows L2

inductive Va where
  | non
  | bl (b : Bool)
  | int (i : Int)
  | str (x : Str)
  | tup (xs : List Va)
  | ref (l : Nat)
  | rol (xs : List Va)
  | rp (d : PyData)
  | dv (kvs : List (List Int × Int))
  | exo (a : Addr)
  | exn (a d : Addr) (f : Str) (x : Va)
inductive AO where
  | lst (xs : List Va)
  | dct (kvs : List (Va × Va))
  | dtl (kvs : List (Va × Va))
  | ins (c : Str) (fs : List (Str × Va))
abbrev AH := List AO
abbrev Ev := List (Option Va)
inductive Rs (α : Type) where
  | ok (a : α) (h : AH)
  | exc (c : Str) (p : List (Str × Va)) (h : AH)
  | bad
def Rs.bind {α β : Type} (r : Rs α) (k : α → AH → Rs β) : Rs β :=
  match r with
  | .ok a h => k a h
  | .exc c p h => .exc c p h
  | .bad => .bad
@[simp] theorem Rs.bind_ok {α β : Type} (a : α) (h : AH) (k : α → AH → Rs β) : (Rs.ok a h).bind k = k a h := rfl
@[simp] theorem Rs.bind_exc {α β : Type} (c : Str) (p : List (Str × Va)) (h : AH) (k : α → AH → Rs β) : (Rs.exc c p h : Rs α).bind k = .exc c p h := rfl
@[simp] theorem Rs.bind_bad {α β : Type} (k : α → AH → Rs β) : (Rs.bad : Rs α).bind k = .bad := rfl

/-- the tables of code objects of the law's makers of lambdas, and the name that each one's code objects bear -/
class Tabz where
  T : List (Addr × Str)
variable [Tabz]
/-- a list that is not written any more: known to the object, or of the module -/
def Fz (K : PySem.W.Frag) (H : Hp) (a : Addr) (vs : List V) : Prop :=
  (∃ o, H a = some (.frz o (.lst vs))) ∨
    ∃ (o : Obj) (its : Array Value) (n : Nat), K.lookup a = some o ∧ o.cls = .type "list" ∧ o.dict = none ∧ o.data = .seq its n ∧ its.size ≤ sizeLine ∧ Vals vs its.toList
theorem Fz.seq {K : PySem.W.Frag} {H : Hp} {a : Addr} {vs : List V} (h : Fz K H a vs) : SqL K H a vs := by
  rcases h with ⟨o, h⟩ | h
  · exact .inl (.inr ⟨o, h⟩)
  · exact .inr h
/-- the entry of a dict whose keys are tuples of ints -/
def entI (x : List Int × Addr × Value) : DictEntry := ⟨reduceHash (Builtin.Tuple.tupleHashOf (x.1.map hashInt)), .ref x.2.1, x.2.2⟩
def DvE (K : PySem.W.Frag) (H : Hp) (kvs : List (List Int × Int)) (xs : List (List Int × Addr × Value)) : Prop :=
  Paired (fun (p : List Int × Int) (x : List Int × Addr × Value) => p.1 = x.1 ∧ SqT K H x.2.1 (x.1.map V.int) ∧ RelV (.int p.2) x.2.2) kvs xs
/-- a dict that is not written any more: keys tuples of ints, values ints -/
def Dv (K : PySem.W.Frag) (H : Hp) (a : Addr) (kvs : List (List Int × Int)) : Prop :=
  ∃ (o : Obj) (φ : Heap → Prop) (es : Array DictEntry) (ep : Nat) (xs : List (List Int × Addr × Value)), H a = some (.frz o (.ext φ)) ∧ o.ExactDict ∧ o.data = .dict es ep ∧ es.toList = xs.map entI ∧ (xs.map (·.1)).Nodup ∧ DvE K H kvs xs
theorem DvE.to {K : PySem.W.Frag} {H H' : Hp} (e : ∀ b vs, SqT K H b vs → SqT K H' b vs) {kvs : List (List Int × Int)} {xs : List (List Int × Addr × Value)} (h : DvE K H kvs xs) : DvE K H' kvs xs :=
  Paired.mapP h fun _ _ z => ⟨z.1, e _ _ z.2.1, z.2.2⟩
theorem Dv.to {K : PySem.W.Frag} {H H' : Hp} {a : Addr} (e1 : ∀ o φ, H a = some (.frz o (.ext φ)) → H' a = some (.frz o (.ext φ))) (e : ∀ b vs, SqT K H b vs → SqT K H' b vs) {kvs : List (List Int × Int)} (h : Dv K H a kvs) : Dv K H' a kvs := by
  obtain ⟨o, φ, es, ep, xs, h1, h2, h3, h4, h5, h6⟩ := h
  exact ⟨o, φ, es, ep, xs, e1 _ _ h1, h2, h3, h4, h5, h6.to e⟩
mutual
inductive VR (K : PySem.W.Frag) (H : Hp) (m : List Addr) : Va → V → Prop
  | non : VR K H m .non .non
  | bl (b : Bool) : VR K H m (.bl b) (.bl b)
  | int (i : Int) : VR K H m (.int i) (.int i)
  | str (x : Str) : VR K H m (.str x) (.str x)
  | rp (d : PyData) : VR K H m (.rp d) (.str d.shown)
  | ref {l : Nat} {a : Addr} : m[l]? = some a → VR K H m (.ref l) (.ref a)
  | tup {xs : List Va} {a : Addr} {vs : List V} : SqT K H a vs → VRs K H m xs vs → VR K H m (.tup xs) (.ref a)
  | rol {xs : List Va} {a : Addr} {vs : List V} : Fz K H a vs → VRs K H m xs vs → VR K H m (.rol xs) (.ref a)
  | dv {kvs : List (List Int × Int)} {a : Addr} : Dv K H a kvs → VR K H m (.dv kvs) (.ref a)
  | exo (a : Addr) : VR K H m (.exo a) (.ref a)
  | exn {a d : Addr} {f : Str} {x : Va} {w : V} : H d = some (.xd [(f, w)]) → VR K H m x w → VR K H m (.exn a d f x) (.ref a)
inductive VRs (K : PySem.W.Frag) (H : Hp) (m : List Addr) : List Va → List V → Prop
  | nil : VRs K H m [] []
  | cons {x : Va} {xs : List Va} {v : V} {vs : List V} : VR K H m x v → VRs K H m xs vs → VRs K H m (x :: xs) (v :: vs)
end
/-- pairs of a dict -/
inductive VRp (K : PySem.W.Frag) (H : Hp) (m : List Addr) : List (Va × Va) → List (V × V) → Prop
  | nil : VRp K H m [] []
  | cons {x y : Va} {xs : List (Va × Va)} {v w : V} {vs : List (V × V)} : VR K H m x v → VR K H m y w → VRp K H m xs vs → VRp K H m ((x, y) :: xs) ((v, w) :: vs)

/-- the fields of an instance -/
inductive VRf (K : PySem.W.Frag) (H : Hp) (m : List Addr) : List (Str × Va) → List (Str × V) → Prop
  | nil : VRf K H m [] []
  | cons {f : Str} {x : Va} {xs : List (Str × Va)} {v : V} {vs : List (Str × V)} : VR K H m x v → VRf K H m xs vs → VRf K H m ((f, x) :: xs) ((f, v) :: vs)

mutual
/-- a value as the key of a dict (no texts) -/
def nk : Va → Option PySem.NestedKey
  | .non => some .none
  | .bl b => some (.num (if b then 1 else 0))
  | .int i => some (.num i)
  | .tup xs => (nks xs).map .tup
  | _ => none
def nks : List Va → Option (List PySem.NestedKey)
  | [] => some []
  | x :: xs => match nk x, nks xs with
    | some k, some ks => some (k :: ks)
    | _, _ => none
end
/-- the written dict at a whose keys are tuples -/
def phiN (a : Addr) (xs : List (PySem.NestedKey × Addr × Value)) : Heap → Prop := fun h => ∃ (o : Obj) (es : Array DictEntry) (ep : Nat), h.get? a = some o ∧ o.ExactDict ∧ o.data = .dict es ep ∧ ∀ w : World, es.toList = xs.map fun x => (⟨x.1.hash w, .ref x.2.1, x.2.2⟩ : DictEntry)
/-- pairs of such a dict -/
inductive DtE (K : PySem.W.Frag) (H : Hp) (m : List Addr) : List (Va × Va) → List (PySem.NestedKey × Addr × Value) → Prop
  | nil : DtE K H m [] []
  | cons {p q : Va} {k : PySem.NestedKey} {b : Addr} {v : V} {u : Value} {kvs : List (Va × Va)} {xs : List (PySem.NestedKey × Addr × Value)} (h1 : nk p = some k ∧ k.depth ≤ 8) (h2 : VR K H m p (.ref b)) (h3 : VR K H m q v) (h4 : RelV v u) (h5 : DtE K H m kvs xs) : DtE K H m ((p, q) :: kvs) ((k, b, u) :: xs)
/-- the written dict's pairs, as values -/
def kvV (kvs : List (Key × V)) : List (V × V) := kvs.map fun p => (kV p.1, p.2)
def OR (K : PySem.W.Frag) (H : Hp) (m : List Addr) : AO → Addr → Prop
  | .lst xs, a => ∃ vs, H a = some (.lst vs) ∧ VRs K H m xs vs
  | .dct kvs, a => ∃ ps, H a = some (.dK ps) ∧ VRp K H m kvs (kvV ps)
  | .dtl kvs, a => ∃ xs, H a = some (.ext (phiN a xs)) ∧ DtE K H m kvs xs ∧ (xs.map (·.1)).Nodup ∧ (a == sysModules) = false
  | .ins c fs, a => ∃ dx vs, H a = some (.ins (He.ga K c) dx vs) ∧ VRf K H m fs vs

structure HR (K : PySem.W.Frag) (H : Hp) (m : List Addr) (ah : AH) : Prop where
  len : m.length = ah.length
  nd : m.Nodup
  at_ : ∀ (l : Nat) (a : Addr) (o : AO), m[l]? = some a → ah[l]? = some o → OR K H m o a
  tb : LamX.Tabs Tabz.T H
structure Ext (m : List Addr) (H : Hp) (m' : List Addr) (H' : Hp) : Prop where
  pre : ∃ r, m' = m ++ r
  keep : ∀ b o, H b = some o → b ∉ m → (nt : ∀ ps, o ≠ .tbl ps := by first | assumption | (intro _ z; cases z) | simp) → H' b = some o
  new : ∀ a, a ∈ m' → a ∉ m → H a = none ∨ ∃ ps, H a = some (.tbl ps)
structure ER (K : PySem.W.Frag) (H : Hp) (m : List Addr) (ev : Ev) (σ : L2.St) : Prop where
  len : ev.length = σ.length
  get : ∀ (i : Nat) (v : Va), ev[i]? = some (some v) → ∃ w, σ[i]? = some (some w) ∧ VR K H m v w
/-- an exception: its class by the module's name, its fields -/
def XR (K : PySem.W.Frag) (mg : Str → Option Value) (H : Hp) (m : List Addr) (c : Str) (p : List (Str × Va)) (cls : Value) (d : Option Addr) : Prop :=
  ∃ C, mg c = some (.ref C) ∧ cls = .ref C ∧ match p with
    | [] => d = none
    | [(f, v)] => ∃ dd w, d = some dd ∧ H dd = some (.xd [(f, w)]) ∧ VR K H m v w
    | _ => False

section
variable {K : PySem.W.Frag} {mg : Str → Option Value} {H H' H2 : Hp} {m m' m2 : List Addr} {ah ah' : AH} {ev : Ev} {σ : L2.St}

theorem Ext.refl : Ext m H m H := ⟨⟨[], by simp⟩, fun _ _ h _ _ => h, fun a h1 h2 => absurd h1 h2⟩
theorem Ext.sub (e : Ext m H m' H') {a : Addr} (h : a ∈ m) : a ∈ m' := by
  obtain ⟨r, rfl⟩ := e.pre
  exact List.mem_append_left _ h
theorem Ext.trans (e : Ext m H m' H') (f : Ext m' H' m2 H2) : Ext m H m2 H2 := by
  refine ⟨?_, fun b o h n nt => ?_, fun a h n => ?_⟩
  · obtain ⟨r, e1⟩ := e.pre
    obtain ⟨q, e2⟩ := f.pre
    exact ⟨r ++ q, by rw [e2, e1, List.append_assoc]⟩
  · refine f.keep b o (e.keep b o h n nt) (fun hb => ?_) nt
    rcases e.new b hb n with this | ⟨ps, this⟩
    · rw [h] at this
      cases this
    · rw [h] at this
      exact nt ps (Option.some.inj this)
  · by_cases h1 : a ∈ m'
    · exact e.new a h1 n
    · have q := f.new a h h1
      cases z : H a with
      | none => exact .inl rfl
      | some o =>
        by_cases nt : ∃ ps, o = .tbl ps
        · obtain ⟨ps, y⟩ := nt
          exact .inr ⟨ps, by rw [y]⟩
        · have nt' : ∀ ps, o ≠ .tbl ps := fun ps y => nt ⟨ps, y⟩
          rw [e.keep a o z n nt'] at q
          rcases q with q | ⟨ps, q⟩
          · cases q
          · exact (nt' ps (Option.some.inj q)).elim
theorem Ext.get (e : Ext m H m' H') {l : Nat} {a : Addr} (h : m[l]? = some a) : m'[l]? = some a := by
  obtain ⟨r, rfl⟩ := e.pre
  have hl := (List.getElem?_eq_some_iff.mp h).1
  rw [List.getElem?_append_left hl]
  exact h
theorem HR.mut (r : HR K H m ah) {a : Addr} (h : a ∈ m) : (∃ vs, H a = some (.lst vs)) ∨ (∃ kv, H a = some (.dK kv)) ∨ (∃ xs, H a = some (.ext (phiN a xs))) ∨ ∃ C dx fs, H a = some (.ins C dx fs) := by
  obtain ⟨l, hl⟩ := List.mem_iff_getElem?.mp h
  have hb : l < ah.length := by rw [← r.len]; exact (List.getElem?_eq_some_iff.mp hl).1
  have q := r.at_ l a _ hl (List.getElem?_eq_getElem hb)
  cases e : ah[l] with
  | lst xs => rw [e] at q; obtain ⟨vs, h1, _⟩ := q; exact .inl ⟨vs, h1⟩
  | dct kv => rw [e] at q; obtain ⟨vs, h1, _⟩ := q; exact .inr (.inl ⟨vs, h1⟩)
  | dtl kv => rw [e] at q; obtain ⟨vs, h1, _⟩ := q; exact .inr (.inr (.inl ⟨vs, h1⟩))
  | ins c fs => rw [e] at q; obtain ⟨dx, vs, h1, _⟩ := q; exact .inr (.inr (.inr ⟨_, dx, vs, h1⟩))
theorem HR.notin (r : HR K H m ah) {a : Addr} {o : HO} (h : H a = some o) (h1 : ∀ vs, o ≠ .lst vs) (h2 : ∀ kv, o ≠ .dK kv) (h3 : ∀ φ, o ≠ .ext φ := by first | assumption | (intro _ z; cases z)) (h4 : ∀ C dx fs, o ≠ .ins C dx fs := by first | assumption | (intro _ _ _ z; cases z)) : a ∉ m := fun hm => by
  rcases r.mut hm with ⟨vs, q⟩ | ⟨kv, q⟩ | ⟨kv, q⟩ | ⟨C, dx, fs, q⟩
  · rw [h] at q; exact h1 vs (Option.some.inj q)
  · rw [h] at q; exact h2 kv (Option.some.inj q)
  · rw [h] at q; exact h3 _ (Option.some.inj q)
  · rw [h] at q; exact h4 _ _ _ (Option.some.inj q)
theorem HR.notnone (r : HR K H m ah) {a : Addr} (h : H a = none) : a ∉ m := fun hm => by
  rcases r.mut hm with ⟨vs, q⟩ | ⟨kv, q⟩ | ⟨kv, q⟩ | ⟨_, _, _, q⟩ <;> (rw [h] at q; cases q)
theorem HR.notnew (r : HR K H m ah) {a : Addr} (h : H a = none ∨ ∃ ps, H a = some (.tbl ps)) : a ∉ m := by
  rcases h with h | ⟨ps, h⟩
  · exact r.notnone h
  · exact r.notin h (fun _ z => nomatch z) (fun _ z => nomatch z)
theorem sqT_ext (r : HR K H m ah) (e : Ext m H m' H') {a : Addr} {vs : List V} (h : SqT K H a vs) : SqT K H' a vs := by
  rcases h with (h | ⟨o, h⟩) | h
  · exact .inl (.inl (e.keep _ _ h (r.notin h (fun _ z => nomatch z) (fun _ z => nomatch z))))
  · exact .inl (.inr ⟨o, e.keep _ _ h (r.notin h (fun _ z => nomatch z) (fun _ z => nomatch z))⟩)
  · exact .inr h
theorem fz_ext (r : HR K H m ah) (e : Ext m H m' H') {a : Addr} {vs : List V} (h : Fz K H a vs) : Fz K H' a vs := by
  rcases h with ⟨o, h⟩ | h
  · exact .inl ⟨o, e.keep _ _ h (r.notin h (fun _ z => nomatch z) (fun _ z => nomatch z))⟩
  · exact .inr h
mutual
theorem VR.ext (r : HR K H m ah) (e : Ext m H m' H') : ∀ {x : Va} {v : V}, VR K H m x v → VR K H' m' x v
  | _, _, .non => .non
  | _, _, .bl b => .bl b
  | _, _, .int i => .int i
  | _, _, .str x => .str x
  | _, _, .rp d => .rp d
  | _, _, .ref h => .ref (e.get h)
  | _, _, .tup h hs => .tup (sqT_ext r e h) (VRs.ext r e hs)
  | _, _, .rol h hs => .rol (fz_ext r e h) (VRs.ext r e hs)
  | _, _, .dv h => .dv (h.to (fun _ _ z => e.keep _ _ z (r.notin z (fun _ z => nomatch z) (fun _ z => nomatch z))) fun _ _ => sqT_ext r e)
  | _, _, .exo a => .exo a
  | _, _, .exn h g => .exn (e.keep _ _ h (r.notin h (fun _ z => nomatch z) (fun _ z => nomatch z))) (VR.ext r e g)
theorem VRs.ext (r : HR K H m ah) (e : Ext m H m' H') : ∀ {xs : List Va} {vs : List V}, VRs K H m xs vs → VRs K H' m' xs vs
  | _, _, .nil => .nil
  | _, _, .cons h hs => .cons (VR.ext r e h) (VRs.ext r e hs)
end
theorem VRp.ext (r : HR K H m ah) (e : Ext m H m' H') : ∀ {xs : List (Va × Va)} {vs : List (V × V)}, VRp K H m xs vs → VRp K H' m' xs vs
  | _, _, .nil => .nil
  | _, _, .cons h g hs => .cons (h.ext r e) (g.ext r e) (VRp.ext r e hs)
theorem VRf.imp {K' : PySem.W.Frag} (h : ∀ {x : Va} {v : V}, VR K H m x v → VR K' H' m' x v) : ∀ {xs : List (Str × Va)} {vs : List (Str × V)}, VRf K H m xs vs → VRf K' H' m' xs vs
  | _, _, .nil => .nil
  | _, _, .cons q qs => .cons (h q) (VRf.imp h qs)
theorem VRf.ext (r : HR K H m ah) (e : Ext m H m' H') : ∀ {xs : List (Str × Va)} {vs : List (Str × V)}, VRf K H m xs vs → VRf K H' m' xs vs
  | _, _, .nil => .nil
  | _, _, .cons h hs => .cons (h.ext r e) (VRf.ext r e hs)
theorem DtE.ext (r : HR K H m ah) (e : Ext m H m' H') : ∀ {kvs : List (Va × Va)} {xs : List (PySem.NestedKey × Addr × Value)}, DtE K H m kvs xs → DtE K H' m' kvs xs
  | _, _, .nil => .nil
  | _, _, .cons h1 h2 h3 h4 h5 => .cons h1 (h2.ext r e) (h3.ext r e) h4 (DtE.ext r e h5)
theorem OR.ext (r : HR K H m ah) (e : Ext m H m' H') {o : AO} {a : Addr} (k : H' a = H a) (h : OR K H m o a) : OR K H' m' o a := by
  cases o with
  | lst xs => obtain ⟨vs, h1, h2⟩ := h; exact ⟨vs, k.trans h1, h2.ext r e⟩
  | dct kv => obtain ⟨vs, h1, h2⟩ := h; exact ⟨vs, k.trans h1, h2.ext r e⟩
  | dtl kv => obtain ⟨vs, h1, h2, h3⟩ := h; exact ⟨vs, k.trans h1, h2.ext r e, h3⟩
  | ins c fs => obtain ⟨dx, vs, h1, h2⟩ := h; exact ⟨dx, vs, k.trans h1, h2.ext r e⟩
theorem ER.ext (r : HR K H m ah) (e : Ext m H m' H') (h : ER K H m ev σ) : ER K H' m' ev σ :=
  ⟨h.len, fun i v q => let ⟨w, h1, h2⟩ := h.get i v q; ⟨w, h1, h2.ext r e⟩⟩
theorem XR.ext (r : HR K H m ah) (e : Ext m H m' H') {c : Str} {p : List (Str × Va)} {cls : Value} {d : Option Addr} (h : XR K mg H m c p cls d) : XR K mg H' m' c p cls d := by
  obtain ⟨C, h1, h2, h3⟩ := h
  refine ⟨C, h1, h2, ?_⟩
  match p, h3 with
  | [], h3 => exact h3
  | [(f, v)], ⟨dd, w, a1, a2, a3⟩ => exact ⟨dd, w, a1, e.keep _ _ a2 (r.notin a2 (fun _ z => nomatch z) (fun _ z => nomatch z)), a3.ext r e⟩

/-! ### a new object, a changed one -/
/-- neither a table nor a code object -/
def NoT (u : HO) : Prop := (∀ ps, u ≠ .tbl ps) ∧ ∀ c q, u ≠ LamX.CodeO c q
theorem phiN_ne {a c : Addr} {xs : List (PySem.NestedKey × Addr × Value)} {q : Str} : HO.ext (phiN a xs) ≠ LamX.CodeO c q := fun z => by
  unfold LamX.CodeO at z
  have z := HO.ext.inj z
  let o : Obj := { cls := .none, data := .fields #[.none, .str q default] }
  let h : Heap := { objs := Array.replicate (max a c + 1) o }
  have ga : h.get? a = some o := by
    have : a < max a c + 1 := Nat.lt_succ_of_le (Nat.le_max_left a c)
    simp [Heap.get?, h, o, this]
  have gc : h.get? c = some o := by
    have : c < max a c + 1 := Nat.lt_succ_of_le (Nat.le_max_right a c)
    simp [Heap.get?, h, o, this]
  have y : phiN a xs h := by
    rw [z]
    exact ⟨o, _, _, gc, rfl, rfl⟩
  obtain ⟨o', es, ep, h1, h2, h3, h4⟩ := y
  rw [ga] at h1
  cases h1
  cases h3
theorem tabs_upd {T : List (Addr × Str)} {p : Addr} {o : HO} (t : LamX.Tabs T H) (h : ∀ u, H p = some u → NoT u) : LamX.Tabs T (upd H p o) := fun x hx => by
  obtain ⟨ps, h1, h2, h3⟩ := t x hx
  have n1 : x.1 ≠ p := fun z => (h _ (z ▸ h1)).1 ps rfl
  refine ⟨ps, by rw [upd_ne n1]; exact h1, h2, fun pos cv hc => ?_⟩
  obtain ⟨c, e1, e2⟩ := h3 pos cv hc
  have n2 : c ≠ p := fun z => (h _ (z ▸ e2)).2 _ _ rfl
  exact ⟨c, e1, by rw [upd_ne n2]; exact e2⟩
theorem tabs_new {T : List (Addr × Str)} {p : Addr} {o : HO} (t : LamX.Tabs T H) (hp : H p = none) : LamX.Tabs T (upd H p o) := tabs_upd t fun u z => by
  rw [hp] at z
  cases z
theorem HR.noT (r : HR K H m ah) {a : Addr} (h : a ∈ m) : ∀ u, H a = some u → NoT u := fun u z => by
  rcases r.mut h with ⟨vs, q⟩ | ⟨kv, q⟩ | ⟨kv, q⟩ | ⟨_, _, _, q⟩
  · rw [q] at z; cases z; exact ⟨fun _ z => (nomatch z), fun _ _ z => by unfold LamX.CodeO at z; cases z⟩
  · rw [q] at z; cases z; exact ⟨fun _ z => (nomatch z), fun _ _ z => by unfold LamX.CodeO at z; cases z⟩
  · rw [q] at z; cases z; exact ⟨fun _ z => (nomatch z), fun _ _ z => phiN_ne z⟩
  · rw [q] at z; cases z; exact ⟨fun _ z => (nomatch z), fun _ _ z => by unfold LamX.CodeO at z; cases z⟩
theorem HR.tset (r : HR K H m ah) {l : Nat} {a : Addr} {o : HO} (h : m[l]? = some a) : LamX.Tabs Tabz.T (upd H a o) := tabs_upd r.tb (r.noT (List.mem_of_getElem? h))
theorem ext_new {p : Addr} {o : HO} (r : HR K H m ah) (hp : H p = none) : Ext m H m (upd H p o) :=
  ⟨⟨[], by simp⟩, fun b u h n _ => by rw [upd_ne (ne_of_none h hp)]; exact h, fun a h1 h2 => absurd h1 h2⟩
theorem hr_new {p : Addr} {o : HO} (r : HR K H m ah) (hp : H p = none) : HR K (upd H p o) m ah :=
  ⟨r.len, r.nd, fun l a u h1 h2 => (r.at_ l a u h1 h2).ext r (ext_new r hp) (upd_ne fun z => r.notnone hp (z ▸ List.mem_of_getElem? h1)), tabs_new r.tb hp⟩
theorem ext_lay {p : Addr} {o : HO} (r : HR K H m ah) (hp : H p = none) : Ext m H (m ++ [p]) (upd H p o) :=
  ⟨⟨[p], rfl⟩, fun b u h n _ => by rw [upd_ne (ne_of_none h hp)]; exact h, fun a h1 h2 => by
    rcases List.mem_append.mp h1 with z | z
    · exact absurd z h2
    · rw [List.mem_singleton.mp z]; exact .inl hp⟩
/-- a new list at p -/
theorem hr_lay {p : Addr} {xs : List Va} {vs : List V} (r : HR K H m ah) (hp : H p = none) (hv : VRs K H m xs vs) : HR K (upd H p (.lst vs)) (m ++ [p]) (ah ++ [.lst xs]) := by
  have e : Ext m H (m ++ [p]) (upd H p (.lst vs)) := ext_lay r hp
  refine ⟨by simp [r.len], ?_, fun l a o h1 h2 => ?_, tabs_new r.tb hp⟩
  · rw [List.nodup_append]
    refine ⟨r.nd, by simp, fun a ha b hb z => ?_⟩
    rw [List.mem_singleton.mp hb] at z
    exact r.notnone hp (z ▸ ha)
  · by_cases hl : l < m.length
    · rw [List.getElem?_append_left hl] at h1
      rw [List.getElem?_append_left (by rw [← r.len]; exact hl)] at h2
      exact (r.at_ l a o h1 h2).ext r e (upd_ne fun z => r.notnone hp (z ▸ List.mem_of_getElem? h1))
    · have hb := (List.getElem?_eq_some_iff.mp h1).1
      have hl2 : l = m.length := by simp at hb; omega
      subst hl2
      rw [List.getElem?_append_right (Nat.le_refl _)] at h1
      rw [List.getElem?_append_right (by rw [← r.len]; exact Nat.le_refl _), ← r.len] at h2
      simp at h1 h2
      subst h1 h2
      exact ⟨vs, upd_same, hv.ext r e⟩
/-- the list at a is changed -/
theorem ext_set {l : Nat} {a : Addr} {o : HO} (h : m[l]? = some a) : Ext m H m (upd H a o) :=
  ⟨⟨[], by simp⟩, fun b u hb n _ => by
    have hn : b ≠ a := fun z => n (by rw [z]; exact List.mem_of_getElem? h)
    rw [upd_ne hn]; exact hb, fun b h1 h2 => absurd h1 h2⟩
theorem hr_set {l : Nat} {a : Addr} {xs : List Va} {vs : List V} (r : HR K H m ah) (h : m[l]? = some a) (hv : VRs K H m xs vs) : HR K (upd H a (.lst vs)) m (ah.set l (.lst xs)) := by
  have e : Ext m H m (upd H a (.lst vs)) := ext_set h
  refine ⟨by rw [List.length_set]; exact r.len, r.nd, fun j b o h1 h2 => ?_, r.tset h⟩
  by_cases hj : j = l
  · subst hj
    rw [h] at h1; cases h1
    rw [List.getElem?_set_self (by rw [← r.len]; exact (List.getElem?_eq_some_iff.mp h).1)] at h2
    cases h2
    exact ⟨vs, upd_same, hv.ext r e⟩
  · rw [List.getElem?_set_ne (Ne.symm hj)] at h2
    refine (r.at_ j b o h1 h2).ext r e (upd_ne fun z => hj ?_)
    subst z
    exact nd_ix r.nd h1 h
/-- the field f is set -/
def putFA (f : Str) (x : Va) : List (Str × Va) → List (Str × Va)
  | [] => [(f, x)]
  | (g, y) :: r => if f = g then (g, x) :: r else (g, y) :: putFA f x r
/-! ### lists of values -/
theorem VRs.length : ∀ {xs : List Va} {vs : List V}, VRs K H m xs vs → xs.length = vs.length
  | _, _, .nil => rfl
  | _, _, .cons _ hs => by simp [VRs.length hs]
theorem VRs.get : ∀ {xs : List Va} {vs : List V} {i : Nat} {x : Va}, VRs K H m xs vs → xs[i]? = some x → ∃ v, vs[i]? = some v ∧ VR K H m x v
  | _, _, _, _, .nil, h => by simp at h
  | _, _, 0, _, .cons h _, e => by simp at e; subst e; exact ⟨_, rfl, h⟩
  | _, _, i + 1, _, .cons _ hs, e => by
    obtain ⟨v, h1, h2⟩ := VRs.get (i := i) hs (by simpa using e)
    exact ⟨v, by simpa using h1, h2⟩
theorem VRs.append : ∀ {xs ys : List Va} {vs ws : List V}, VRs K H m xs vs → VRs K H m ys ws → VRs K H m (xs ++ ys) (vs ++ ws)
  | _, _, _, _, .nil, h => h
  | _, _, _, _, .cons h hs, g => .cons h (VRs.append hs g)
theorem VRs.set {x : Va} {v : V} (h : VR K H m x v) : ∀ {xs : List Va} {vs : List V} (i : Nat), VRs K H m xs vs → VRs K H m (xs.set i x) (vs.set i v)
  | _, _, _, .nil => .nil
  | _, _, 0, .cons _ hs => .cons h hs
  | _, _, i + 1, .cons g hs => .cons g (VRs.set h i hs)
theorem VRs.take : ∀ {xs : List Va} {vs : List V} (n : Nat), VRs K H m xs vs → VRs K H m (xs.take n) (vs.take n)
  | _, _, 0, _ => .nil
  | _, _, _ + 1, .nil => .nil
  | _, _, n + 1, .cons h hs => .cons h (VRs.take n hs)
theorem VRs.drop : ∀ {xs : List Va} {vs : List V} (n : Nat), VRs K H m xs vs → VRs K H m (xs.drop n) (vs.drop n)
  | _, _, 0, h => h
  | _, _, _ + 1, .nil => .nil
  | _, _, n + 1, .cons _ hs => VRs.drop n hs
/-- nothing else stands for a number, a bool, a tuple .. -/
theorem VR.int_inv {i : Int} {v : V} (h : VR K H m (.int i) v) : v = .int i := by cases h; rfl
theorem VR.bl_inv {b : Bool} {v : V} (h : VR K H m (.bl b) v) : v = .bl b := by cases h; rfl
theorem VR.non_inv {v : V} (h : VR K H m .non v) : v = .non := by cases h; rfl
theorem VR.str_inv {x : Str} {v : V} (h : VR K H m (.str x) v) : v = .str x := by cases h; rfl
theorem ER.set (r : ER K H m ev σ) {i : Nat} {x : Va} {v : V} (h : VR K H m x v) : ER K H m (ev.set i (some x)) (σ.set i (some v)) := by
  refine ⟨by simp [r.len], fun j y e => ?_⟩
  by_cases hj : j = i
  · subst hj
    have hb : j < ev.length := by
      have := (List.getElem?_eq_some_iff.mp e).1
      simpa using this
    rw [List.getElem?_set_self hb] at e
    cases e
    exact ⟨v, by rw [List.getElem?_set_self (by rw [← r.len]; exact hb)], h⟩
  · rw [List.getElem?_set_ne (Ne.symm hj)] at e
    obtain ⟨w, h1, h2⟩ := r.get j y e
    exact ⟨w, by rw [List.getElem?_set_ne (Ne.symm hj)]; exact h1, h2⟩
def ewipe (ev : Ev) : List Nat → Ev
  | [] => ev
  | v :: vs => (ewipe ev vs).set v none
theorem ER.wipe (r : ER K H m ev σ) : ∀ vs : List Nat, ER K H m (ewipe ev vs) (L2.wipe σ vs)
  | [] => r
  | v :: vs => by
    have q := ER.wipe r vs
    refine ⟨by simp [ewipe, L2.wipe, q.len], fun j y e => ?_⟩
    unfold ewipe at e
    unfold L2.wipe
    by_cases hj : j = v
    · subst hj
      have hb : j < (ewipe ev vs).length := by
        have := (List.getElem?_eq_some_iff.mp e).1
        simpa using this
      rw [List.getElem?_set_self hb] at e
      cases e
    · rw [List.getElem?_set_ne (Ne.symm hj)] at e
      rw [List.getElem?_set_ne (Ne.symm hj)]
      exact q.get j y e
end
end FL

set_option Elab.async false
set_option linter.all false
set_option maxRecDepth 100000
/-! FL2: evaluation as a plain function over the abstract state; judgements. -/
namespace FL
open PySem PySem.Spec PyProof.Rows L2
variable [Tabz]
abbrev EF := Ev → AH → Rs Va
abbrev TF := Ev → AH → Rs Bool
abbrev AF := Ev → AH → Rs (List Va)
abbrev Op1 := Va → AH → Option (Va × AH)
abbrev Op2 := Va → Va → AH → Option (Va × AH)
def ofO {α : Type} (o : Option (α × AH)) : Rs α := match o with | some (v, h) => .ok v h | none => .bad
@[simp] theorem ofO_some {α : Type} (v : α) (h : AH) : ofO (some (v, h)) = .ok v h := rfl
@[simp] theorem ofO_none {α : Type} : ofO (none : Option (α × AH)) = .bad := rfl

/-- what is wanted behind an evaluation that gives r -/
def Post {α β : Type} (K : PySem.W.Frag) (mg : Str → Option Value) (R : Hp → List Addr → α → β → Prop) (m : List Addr) (H : Hp) (W : XK) (r : Rs α) (Q : β → Hp → Prop) : Prop :=
  match r with
  | .ok v ah => ∀ m' H' w, Ext m H m' H' → HR K H' m' ah → R H' m' v w → Q w H'
  | .exc c p ah => ∀ m' H' cls d, Ext m H m' H' → HR K H' m' ah → XR K mg H' m' c p cls d → W cls d H'
  | .bad => False
/-- the reading of a function -/
def Wi {α β : Type} (K : PySem.W.Frag) (mg : Str → Option Value) (R : Hp → List Addr → α → β → Prop) (W : WX) (f : Ev → AH → Rs α) : L2.St → Hp → (β → Hp → Prop) → Prop := fun σ H Q =>
  ∃ m ah ev, HR K H m ah ∧ ER K H m ev σ ∧ Post K mg R m H (fun cls d H' => W cls d σ H') (f ev ah) Q
abbrev RB : Hp → List Addr → Bool → Bool → Prop := fun _ _ a b => a = b

section
variable {α β γ δ : Type} {K : PySem.W.Frag} {mg : Str → Option Value} {R : Hp → List Addr → α → β → Prop} {R' : Hp → List Addr → γ → δ → Prop} {m m' : List Addr} {H H' : Hp} {W : WX} {Wk : XK} {Q : δ → Hp → Prop} {ah : AH} {σ : L2.St} {ev : Ev}
theorem Post.ext {r : Rs γ} (h : Post K mg R' m H Wk r Q) (e : Ext m H m' H') : Post K mg R' m' H' Wk r Q := by
  cases r with
  | ok v a => exact fun m2 H2 w e2 => h m2 H2 w (e.trans e2)
  | exc c p a => exact fun m2 H2 cls d e2 => h m2 H2 cls d (e.trans e2)
  | bad => exact h
theorem Post.bind {r : Rs α} {k : α → AH → Rs γ} (h : Post K mg R' m H Wk (r.bind k) Q) :
    Post K mg R m H Wk r (fun w H1 => ∃ m1 ah1 v, Ext m H m1 H1 ∧ HR K H1 m1 ah1 ∧ R H1 m1 v w ∧ Post K mg R' m1 H1 Wk (k v ah1) Q) := by
  cases r with
  | ok v a => exact fun m2 H2 w e2 r2 q2 => ⟨m2, a, v, e2, r2, q2, h.ext e2⟩
  | exc c p a => exact h
  | bad => exact h
/-- one evaluation, then another -/
theorem Wi.bind {f : Ev → AH → Rs α} {k : Ev → α → AH → Rs γ} (h : Wi K mg R' W (fun ev h => (f ev h).bind (k ev)) σ H Q) :
    Wi K mg R W f σ H (fun w H1 => ∃ m ah ev v, HR K H1 m ah ∧ ER K H1 m ev σ ∧ R H1 m v w ∧ Post K mg R' m H1 (fun cls d H' => W cls d σ H') (k ev v ah) Q) := by
  obtain ⟨m, ah, ev, r, re, q⟩ := h
  refine ⟨m, ah, ev, r, re, ?_⟩
  have q2 : Post K mg R' m H (fun cls d H' => W cls d σ H') ((f ev ah).bind (k ev)) Q := q
  cases e : f ev ah with
  | ok v a =>
    rw [e] at q2
    exact fun m2 H2 w e2 r2 rr => ⟨m2, a, ev, v, r2, re.ext r e2, rr, Post.ext q2 e2⟩
  | exc c p a => rw [e] at q2; exact q2
  | bad => rw [e] at q2; exact q2
end

structure ME (X : Cx) (W : WX) (e : Expr) (f : EF) : Prop where
  pe : PE X e (Wi X.K X.mg (VR X.K) W f)
structure MT (X : Cx) (W : WX) (e : Expr) (f : TF) : Prop where
  pt : PT X e (Wi X.K X.mg RB W f)
structure MA (X : Cx) (W : WX) (es : List Expr) (f : AF) : Prop where
  pa : PA X es (Wi X.K X.mg (VRs X.K) W f)
theorem pe_imp {X : Cx} {e : Expr} {t t' : TE} (h : PE X e t) (i : ∀ σ H Q, t' σ H Q → t σ H Q) : PE X e t' := ⟨fun pins s σ H Q I q => h.run pins s σ H Q I (i σ H Q q)⟩
theorem pt_imp {X : Cx} {e : Expr} {t t' : TT} (h : PT X e t) (i : ∀ σ H Q, t' σ H Q → t σ H Q) : PT X e t' := ⟨fun pins s σ H Q I q => h.run pins s σ H Q I (i σ H Q q)⟩
theorem pw_imp {X : Cx} {e : Expr} {t t' : TT} (h : PW X e t) (i : ∀ σ H Q, t' σ H Q → t σ H Q) : PW X e t' := ⟨fun wh pins s σ H Q I q => h.run wh pins s σ H Q I (i σ H Q q)⟩
theorem pa_imp {X : Cx} {es : List Expr} {t t' : TA} (h : PA X es t) (i : ∀ σ H Q, t' σ H Q → t σ H Q) : PA X es t' := ⟨fun pos pins s σ H Q I q => h.run pos pins s σ H Q I (i σ H Q q)⟩
theorem ps_imp {X : Cx} {e : Stmt} {t t' : TS} (h : PS X e t) (i : ∀ D σ H, t' D σ H → t D σ H) : PS X e t' := ⟨fun pins s σ H D I q => h.run pins s σ H D I (i D σ H q)⟩
theorem pss_imp {X : Cx} {e : List Stmt} {t t' : TS} (h : PSs X e t) (i : ∀ D σ H, t' D σ H → t D σ H) : PSs X e t' := ⟨fun pins s σ H D I q => h.run pins s σ H D I (i D σ H q)⟩
theorem OpR.imp {X : Cx} {f : Value → Value → Sem Value} {r r' : R2} (h : OpR X f r) (i : ∀ x y H Q, r' x y H Q → r x y H Q) : OpR X f r' := fun pins s σ H x y v u Q I rx ry q => h pins s σ H x y v u Q I rx ry (i x y H Q q)
theorem CallR.imp {X : Cx} {f : Value} {r r' : List V → Hp → VK → Prop} (h : CallR X f r) (i : ∀ x H Q, r' x H Q → r x H Q) : CallR X f r' := fun pins s σ H x us Q I rx q => h pins s σ H x us Q I rx (i x H Q q)
theorem CallR.or {X : Cx} {f : Value} {r r' : List V → Hp → VK → Prop} (h : CallR X f r) (h' : CallR X f r') : CallR X f (fun x H Q => r x H Q ∨ r' x H Q) := fun pins s σ H x us Q I rx q => q.elim (h pins s σ H x us Q I rx) (h' pins s σ H x us Q I rx)
theorem UnR.imp {X : Cx} {f : Value → Sem Value} {r r' : V → Hp → VK → Prop} (h : UnR X f r) (i : ∀ x H Q, r' x H Q → r x H Q) : UnR X f r' := fun pins s σ H x v Q I rx q => h pins s σ H x v Q I rx (i x H Q q)

/-! ### names, constants -/
def eVar (i : Nat) : EF := fun ev h => match ev[i]? with | some (some v) => .ok v h | _ => .bad
def eC (v : Va) : EF := fun _ h => .ok v h
section
variable {X : Cx} {W : WX} {pos : Pos}
theorem me_var (i : Nat) {x : Str} (hN : X.N[i]? = some x := by rfl) (hv : Vis X.env.scope x := by first | exact Or.inl rfl | exact Or.inr (Or.inl rfl) | exact Or.inr (Or.inr rfl)) (hd : (x == ("__debug__" : Str)) = false := by decide)
    (hcd : (x == ("__classdict__" : Str)) = false := by decide) : ME X W (.Name x pos) (eVar i) := ⟨pe_imp (pe_var hN hv hd hcd) fun σ H Q ⟨m, ah, ev, r, re, q⟩ => by
  unfold eVar at q
  cases e : ev[i]? with
  | none => rw [e] at q; exact q.elim
  | some o =>
    cases o with
    | none => rw [e] at q; exact q.elim
    | some v =>
      rw [e] at q
      obtain ⟨w, h1, h2⟩ := re.get i v e
      exact ⟨w, h1, q m H w .refl r h2⟩⟩
theorem me_c {e : Expr} {v : Va} {w : V} (h : PE X e (tC w)) (hr : ∀ H m, VR X.K H m v w) : ME X W e (eC v) := ⟨pe_imp h fun σ H Q ⟨m, ah, ev, r, re, q⟩ => q m H w .refl r (hr H m)⟩
theorem me_int {i : Int} {j} : ME X W (.Constant (.int i) j pos) (eC (.int i)) := me_c pe_int fun _ _ => .int i
theorem me_bl {b j} : ME X W (.Constant (.bool b) j pos) (eC (.bl b)) := me_c pe_bl fun _ _ => .bl b
theorem me_non {j} : ME X W (.Constant .none j pos) (eC .non) := me_c pe_non fun _ _ => .non
theorem me_str {x : Str} {j} : ME X W (.Constant (.str x) j pos) (eC (.str x)) := me_c pe_str fun _ _ => .str x
/-- a constant of the module -/
theorem me_glob {x : Str} {v : Va} {w : V} {u : Value} (hm : X.mg x = some u) (r : RelV w u) (hr : ∀ H m, VR X.K H m v w) (hg : Gl X x := by rfl) (hd : (x == ("__debug__" : Str)) = false := by decide) : ME X W (.Name x pos) (eC v) := me_c (pe_glob hg hm r hd) hr
end

/-! ### operators -/
/-- the reading of an operation by values -/
def rO (K : PySem.W.Frag) (o : Op2) : R2 := fun x y H Q => ∃ m ah p q v ah', HR K H m ah ∧ VR K H m p x ∧ VR K H m q y ∧ o p q ah = some (v, ah') ∧ ∀ m' H' w, Ext m H m' H' → HR K H' m' ah' → VR K H' m' v w → Q w H'
def eOp (o : Op2) (f g : EF) : EF := fun ev h => (f ev h).bind fun v h1 => (g ev h1).bind fun w h2 => ofO (o v w h2)
section
variable {K : PySem.W.Frag} {mg : Str → Option Value} {W : WX}
theorem Wi.op {o : Op2} {f g : EF} {σ : L2.St} {H : Hp} {Q : VK} (h : Wi K mg (VR K) W (eOp o f g) σ H Q) :
    tOp (rO K o) (Wi K mg (VR K) W f) (Wi K mg (VR K) W g) σ H Q := by
  have h1 := Wi.bind (R := VR K) h
  unfold tOp
  obtain ⟨m, ah, ev, r, re, q⟩ := h1
  refine ⟨m, ah, ev, r, re, ?_⟩
  cases ef : f ev ah with
  | exc c p a => rw [ef] at q; exact q
  | bad => rw [ef] at q; exact q
  | ok v a =>
    rw [ef] at q
    intro m1 H1 x e1 r1 rx
    obtain ⟨m2, ah2, ev2, v2, r2, re2, rv2, q2⟩ := q m1 H1 x e1 r1 rx
    refine ⟨m2, ah2, ev2, r2, re2, ?_⟩
    have q3 := Post.bind (R := VR K) q2
    cases eg : g ev2 ah2 with
    | exc c p a => rw [eg] at q3; exact q3
    | bad => rw [eg] at q3; exact q3
    | ok w b =>
      rw [eg] at q3
      intro m3 H3 y e3 r3 ry
      obtain ⟨m4, ah4, v4, e4, r4, rv4, q4⟩ := q3 m3 H3 y e3 r3 ry
      cases eo : o v2 v4 ah4 with
      | none => rw [eo] at q4; exact q4.elim
      | some z =>
        obtain ⟨z, ahz⟩ := z
        rw [eo] at q4
        exact ⟨m4, ah4, v2, v4, z, ahz, r4, rv2.ext r2 e4, rv4, eo, q4⟩
end
section
variable {X : Cx} {W : WX} {a b : Expr} {f g : EF} {pos : Pos}
theorem me_op {op : Operator} {o : Op2} (ho : OpR X (binaryOp op) (rO X.K o)) (ha : ME X W a f) (hb : ME X W b g) : ME X W (.BinOp a op b pos) (eOp o f g) :=
  ⟨pe_imp (pe_op ho ha.pe hb.pe) fun _ _ _ h => h.op⟩
theorem me_cmp {op : CmpOp} {o : Op2} (ho : OpR X (compareOp op) (rO X.K o)) (ha : ME X W a f) (hb : ME X W b g) (hm : behindInMarks op b = false := by first | exact nobehind _ (by decide) (by decide) | rfl) : ME X W (.Compare a [op] [b] pos) (eOp o f g) :=
  ⟨pe_imp (pe_cmpR ho ha.pe hb.pe hm) fun _ _ _ h => h.op⟩
/-- a value as a truth value: only True, False -/
def tB (f : EF) : TF := fun ev h => (f ev h).bind fun v h1 => match v with | .bl b => .ok b h1 | _ => .bad
theorem Wi.tB {K : PySem.W.Frag} {mg : Str → Option Value} {f : EF} {σ : L2.St} {H : Hp} {Q : Bool → Hp → Prop} (h : Wi K mg RB W (FL.tB f) σ H Q) : Wi K mg (VR K) W f σ H (fun x H' => ∃ k, x = .bl k ∧ Q k H') := by
  have h1 := Wi.bind (R := VR K) h
  obtain ⟨m, ah, ev, r, re, q⟩ := h1
  refine ⟨m, ah, ev, r, re, ?_⟩
  cases ef : f ev ah with
  | exc c p a => rw [ef] at q; exact q
  | bad => rw [ef] at q; exact q
  | ok v a =>
    rw [ef] at q
    intro m1 H1 x e1 r1 rx
    obtain ⟨m2, ah2, ev2, v2, r2, re2, rv2, q2⟩ := q m1 H1 x e1 r1 rx
    cases v2 with
    | bl b =>
      cases rv2
      exact ⟨b, rfl, q2 m2 H1 b .refl r2 rfl⟩
    | _ => exact q2.elim
theorem mt_cmp {op : CmpOp} {o : Op2} (ho : OpR X (compareOp op) (rO X.K o)) (ha : ME X W a f) (hb : ME X W b g) (hm : behindInMarks op b = false := by first | exact nobehind _ (by decide) (by decide) | rfl) : MT X W (.Compare a [op] [b] pos) (tB (eOp o f g)) :=
  ⟨pt_imp (pt_cmpR ho ha.pe hb.pe hm) fun σ H Q h => by
    have h2 := Wi.tB h
    unfold tTest
    exact h2.op⟩
theorem mt_val (h : ME X W a f) (he : ∀ whole, isTrue a X.env whole = (do let v ← whole; standAt a.pos; holding [v] (truthy v)) := by intro _; rfl) : MT X W a (tB f) :=
  ⟨pt_imp (pt_val h.pe he) fun _ _ _ h => Wi.tB h⟩
end
end FL

set_option Elab.async false
set_option linter.all false
set_option maxRecDepth 100000
/-! FL3: operators on values. -/
namespace FL
open PySem PySem.Spec PyProof.Rows L2
variable [Tabz]

/-- the greatest length of what is laid -/
def lim : Nat := 1000000
theorem lim_line {n : Nat} (h : n ≤ lim) : n ≤ sizeLine := Nat.le_trans h (by decide)
/-- ints below this are multiplied, divided -/
def okI (i : Int) : Bool := decide (i.natAbs.log2 < 4000)
theorem okI_of {i : Int} {n : Nat} (h : i.natAbs < 2 ^ n) (h0 : 0 < n := by decide) (h1 : n ≤ 4000 := by decide) : okI i = true :=
  decide_eq_true (Nat.lt_of_lt_of_le (PySem.Flt.log2_lt_of h0 h) h1)

def oAdd : Op2 := fun p q h => match p, q with
  | .int i, .int j => some (.int (i + j), h)
  | .str x, .str y => if x.length + y.length ≤ lim then some (.str (x ++ y), h) else none
  | .tup xs, .tup ys => if xs.length + ys.length ≤ lim then some (.tup (xs ++ ys), h) else none
  | .ref l, .ref k => match h[l]?, h[k]? with
    | some (.lst xs), some (.lst ys) => if xs.length + ys.length ≤ lim then some (.ref h.length, h ++ [.lst (xs ++ ys)]) else none
    | _, _ => none
  | _, _ => none
def oSub : Op2 := fun p q h => match p, q with
  | .int i, .int j => some (.int (i - j), h)
  | _, _ => none
def oMul : Op2 := fun p q h => match p, q with
  | .int i, .int j => if okI i && okI j then some (.int (i * j), h) else none
  | .ref l, .int k => match h[l]? with
    | some (.lst xs) => if decide (0 ≤ k) && decide (k ≤ lim) && decide (xs.length * k.toNat ≤ lim) then some (.ref h.length, h ++ [.lst (List.replicate k.toNat xs).flatten]) else none
    | _ => none
  | .tup xs, .int k => if decide (2 ≤ k) && decide (k ≤ 1000) && decide (xs.length ≤ 1000) && !xs.isEmpty then some (.tup (List.replicate k.toNat xs).flatten, h) else none
  | _, _ => none
def oFdiv : Op2 := fun p q h => match p, q with
  | .int i, .int j => if decide (0 < j) && okI j then some (.int (i / j), h) else none
  | _, _ => none
def oMod : Op2 := fun p q h => match p, q with
  | .int i, .int j => if decide (0 < j) then some (.int (i % j), h) else none
  | _, _ => none
def oIntC (f : Int → Int → Bool) : Op2 := fun p q h => match p, q with
  | .int i, .int j => some (.bl (f i j), h)
  | _, _ => none
abbrev oLt : Op2 := oIntC fun i j => decide (i < j)
abbrev oLe : Op2 := oIntC fun i j => decide (i ≤ j)
abbrev oGt : Op2 := oIntC fun i j => decide (j < i)
abbrev oGe : Op2 := oIntC fun i j => decide (j ≤ i)

section
variable {K : PySem.W.Frag} {H : Hp} {m : List Addr} {ah : AH}
/-- a value that is a reference to a list -/
theorem HR.lst (r : HR K H m ah) {l : Nat} {a : Addr} {xs : List Va} (h : m[l]? = some a) (e : ah[l]? = some (.lst xs)) : ∃ vs, H a = some (.lst vs) ∧ VRs K H m xs vs := r.at_ l a _ h e
theorem flatRep {n : Nat} : ∀ {xs : List Va} {vs : List V}, VRs K H m xs vs → VRs K H m (List.replicate n xs).flatten (List.replicate n vs).flatten := by
  intro xs vs h
  induction n with
  | zero => exact .nil
  | succ n ih =>
    rw [List.replicate_succ, List.replicate_succ, List.flatten_cons, List.flatten_cons]
    exact h.append ih
theorem VRs.ne {xs : List Va} {vs : List V} (h : VRs K H m xs vs) (e : xs ≠ []) : vs ≠ [] := by
  cases h with
  | nil => exact absurd rfl e
  | cons _ _ => intro z; cases z
theorem VRs.nil_of {xs : List Va} {vs : List V} (h : VRs K H m xs vs) (e : vs = []) : xs = [] := by
  cases h with
  | nil => rfl
  | cons _ _ => cases e
end
section
variable {X : Cx}
theorem op_oAdd : OpR X (binaryOp .Add) (rO X.K oAdd) := by
  refine OpR.imp (op_add.or (op_add_str.or (op_catA.or op_cat))) fun x y H Q ⟨m, ah, p, q, v, ah', r, rp, rq, e, k⟩ => ?_
  unfold oAdd at e
  split at e
  · cases e
    exact .inl ⟨_, _, rp.int_inv, rq.int_inv, k m H _ .refl r (.int _)⟩
  · split at e
    · cases e
      exact .inr (.inl ⟨_, _, rp.str_inv, rq.str_inv, lim_line (by assumption), k m H _ .refl r (.str _)⟩)
    · cases e
  · rename_i xs ys
    split at e
    · rename_i hz
      cases e
      cases rp with
      | @tup _ a vs ha hv =>
        cases rq with
        | @tup _ b ws hb hw =>
          refine .inr (.inr (.inl ⟨a, b, vs, ws, rfl, rfl, ha, hb, ?_, fun e1 => ?_, fun n1 e2 => ?_, fun n1 n2 p hp => ?_⟩))
          · rw [← hv.length, ← hw.length]; exact lim_line hz
          · have := hv.nil_of e1
            subst this
            exact k m H _ .refl r (.tup hb hw)
          · have := hw.nil_of e2
            subst this
            rw [List.append_nil] at k
            exact k m H _ .refl r (.tup ha hv)
          · have e1 : Ext m H m (upd H p (.tup (vs ++ ws))) := ext_new r hp
            exact k m _ _ e1 (hr_new r hp) (.tup (SqT.of upd_same) ((hv.append hw).ext r e1))
    · cases e
  · rename_i l1 l2
    split at e
    · rename_i xs ys h1 h2
      split at e
      · rename_i hz
        cases e
        cases rp with
        | ref a1 =>
          cases rq with
          | ref a2 =>
            obtain ⟨vs, g1, hv⟩ := r.lst a1 h1
            obtain ⟨ws, g2, hw⟩ := r.lst a2 h2
            refine .inr (.inr (.inr ⟨_, _, vs, ws, rfl, rfl, g1, g2, ?_, fun p hp => ?_⟩))
            · rw [← hv.length, ← hw.length]; exact lim_line hz
            · refine k (m ++ [p]) _ _ (ext_lay r hp) (hr_lay r hp (hv.append hw)) (.ref ?_)
              rw [← r.len]; simp
      · cases e
    · cases e
  · cases e
theorem op_oSub : OpR X (binaryOp .Sub) (rO X.K oSub) := by
  refine OpR.imp op_sub fun x y H Q ⟨m, ah, p, q, v, ah', r, rp, rq, e, k⟩ => ?_
  unfold oSub at e
  split at e
  · cases e
    exact ⟨_, _, rp.int_inv, rq.int_inv, k m H _ .refl r (.int _)⟩
  · cases e
theorem op_oMul : OpR X (binaryOp .Mult) (rO X.K oMul) := by
  refine OpR.imp (op_mulW.or (op_rep.or op_repT)) fun x y H Q ⟨m, ah, p, q, v, ah', r, rp, rq, e, k⟩ => ?_
  unfold oMul at e
  split at e
  · split at e
    · rename_i hz
      cases e
      rw [Bool.and_eq_true] at hz
      have h1 := of_decide_eq_true hz.1
      have h2 := of_decide_eq_true hz.2
      exact .inl ⟨_, _, rp.int_inv, rq.int_inv, (by unfold CMulW; omega), k m H _ .refl r (.int _)⟩
    · cases e
  · split at e
    · rename_i hl
      split at e
      · rename_i hz
        cases e
        simp only [Bool.and_eq_true, decide_eq_true_eq] at hz
        have hlim : lim = 1000000 := rfl
        cases rp with
        | ref a1 =>
          obtain ⟨vs, g1, hv⟩ := r.lst a1 hl
          refine .inr (.inl ⟨_, _, vs, rfl, rq.int_inv, g1, by omega, by omega, ?_, fun p hp => ?_⟩)
          · rw [← hv.length]; exact lim_line hz.2
          · refine k (m ++ [p]) _ _ (ext_lay r hp) (hr_lay r hp (flatRep hv)) (.ref ?_)
            rw [← r.len]; simp
      · cases e
    · cases e
  · rename_i xs kk
    split at e
    · rename_i hz
      cases e
      simp only [Bool.and_eq_true, decide_eq_true_eq, Bool.not_eq_true'] at hz
      cases rp with
      | @tup _ a vs ha hv =>
        refine .inr (.inr ⟨a, kk, vs, rfl, rq.int_inv, ha, hv.ne (by intro z; rw [z] at hz; simp at hz), hz.1.1.1, hz.1.1.2, by rw [← hv.length]; exact hz.1.2, fun p hp => ?_⟩)
        have e1 : Ext m H m (upd H p (.tup (List.replicate kk.toNat vs).flatten)) := ext_new r hp
        exact k m _ _ e1 (hr_new r hp) (.tup (SqT.of upd_same) ((flatRep hv).ext r e1))
    · cases e
  · cases e
theorem op_oFdiv : OpR X (binaryOp .FloorDiv) (rO X.K oFdiv) := by
  refine OpR.imp op_fdivW fun x y H Q ⟨m, ah, p, q, v, ah', r, rp, rq, e, k⟩ => ?_
  unfold oFdiv at e
  split at e
  · split at e
    · rename_i hz
      cases e
      rw [Bool.and_eq_true] at hz
      have h1 := of_decide_eq_true hz.1
      have h2 := of_decide_eq_true hz.2
      exact ⟨_, _, rp.int_inv, rq.int_inv, ⟨h1, by omega⟩, k m H _ .refl r (.int _)⟩
    · cases e
  · cases e
theorem op_oMod : OpR X (binaryOp .Mod) (rO X.K oMod) := by
  refine OpR.imp op_mod fun x y H Q ⟨m, ah, p, q, v, ah', r, rp, rq, e, k⟩ => ?_
  unfold oMod at e
  split at e
  · split at e
    · rename_i hz
      cases e
      exact ⟨_, _, rp.int_inv, rq.int_inv, of_decide_eq_true hz, k m H _ .refl r (.int _)⟩
    · cases e
  · cases e
theorem intC {op : CmpOp} {f : Int → Int → Bool} (h : OpR X (compareOp op) (rI0 fun i j => .bl (f i j))) : OpR X (compareOp op) (rO X.K (oIntC f)) := by
  refine OpR.imp h fun x y H Q ⟨m, ah, p, q, v, ah', r, rp, rq, e, k⟩ => ?_
  unfold oIntC at e
  split at e
  · cases e
    exact ⟨_, _, rp.int_inv, rq.int_inv, k m H _ .refl r (.bl _)⟩
  · cases e
theorem op_oLt : OpR X (compareOp .Lt) (rO X.K oLt) := intC op_lt
theorem op_oLe : OpR X (compareOp .LtE) (rO X.K oLe) := intC op_le
theorem op_oGt : OpR X (compareOp .Gt) (rO X.K oGt) := intC op_gt
theorem op_oGe : OpR X (compareOp .GtE) (rO X.K oGe) := intC op_ge
end
end FL

set_option Elab.async false
set_option linter.all false
set_option maxRecDepth 100000
/-! FL4: data: ==, in, is, repr. -/
namespace FL
open PySem PySem.Spec PyProof.Rows L2
variable [Tabz]

/-- all of a list, or nothing -/
def toPysF {α β : Type} (f : α → Option β) : List α → Option (List β)
  | [] => some []
  | x :: xs => match f x, toPysF f xs with
    | some d, some ds => some (d :: ds)
    | _, _ => none
/-- a value as data, its lists looked up (to a depth) -/
def toPy (ah : AH) : Nat → Va → Option PyData
  | _, .non => some .none
  | _, .bl b => some (.bool b)
  | _, .int i => some (.int i)
  | _, .str x => some (.str x)
  | _, .rp d => some (.str d.shown)
  | 0, .tup _ => none
  | 0, .rol _ => none
  | 0, .ref _ => none
  | _, .dv _ => none
  | _, .exo _ => none
  | _, .exn _ _ _ _ => none
  | n + 1, .tup xs => (toPysF (toPy ah n) xs).map .tuple
  | n + 1, .rol xs => (toPysF (toPy ah n) xs).map .list
  | n + 1, .ref l => match ah[l]? with
    | some (.lst xs) => (toPysF (toPy ah n) xs).map .list
    | _ => none
section
variable {K : PySem.W.Frag} {H : Hp} {m : List Addr} {ah : AH}
mutual
theorem toPy_dp (r : HR K H m ah) : ∀ (n : Nat) (x : Va) (v : V) (d : PyData), VR K H m x v → toPy ah n x = some d → Dp K H v d
  | n, .non, v, d, h, e => by cases h; cases n <;> (unfold toPy at e; cases e; exact .non)
  | n, .bl b, v, d, h, e => by cases h; cases n <;> (unfold toPy at e; cases e; exact .bl b)
  | n, .int i, v, d, h, e => by cases h; cases n <;> (unfold toPy at e; cases e; exact .int i)
  | n, .str x, v, d, h, e => by cases h; cases n <;> (unfold toPy at e; cases e; exact .str x)
  | n, .rp x, v, d, h, e => by cases h; cases n <;> (unfold toPy at e; cases e; exact .str _)
  | 0, .tup _, v, d, h, e => by unfold toPy at e; cases e
  | 0, .rol _, v, d, h, e => by unfold toPy at e; cases e
  | 0, .ref _, v, d, h, e => by unfold toPy at e; cases e
  | n, .dv _, v, d, h, e => by cases n <;> (unfold toPy at e; cases e)
  | n, .exo _, v, d, h, e => by cases n <;> (unfold toPy at e; cases e)
  | n, .exn _ _ _ _, v, d, h, e => by cases n <;> (unfold toPy at e; cases e)
  | n + 1, .tup xs, v, d, h, e => by
    unfold toPy at e
    cases h with
    | tup ht hv =>
      cases q : toPysF (toPy ah n) xs with
      | none => rw [q] at e; cases e
      | some ds =>
        rw [q] at e
        cases e
        exact .tup ht (toPys_dp r n xs _ ds hv q)
  | n + 1, .rol xs, v, d, h, e => by
    unfold toPy at e
    cases h with
    | rol ht hv =>
      cases q : toPysF (toPy ah n) xs with
      | none => rw [q] at e; cases e
      | some ds =>
        rw [q] at e
        cases e
        exact .lst ht.seq (toPys_dp r n xs _ ds hv q)
  | n + 1, .ref l, v, d, h, e => by
    unfold toPy at e
    cases h with
    | ref ha =>
      split at e
      · rename_i xs hl
        obtain ⟨vs, g1, hv⟩ := r.lst ha hl
        cases q : toPysF (toPy ah n) xs with
        | none => rw [q] at e; cases e
        | some ds =>
          rw [q] at e
          cases e
          exact .lst (SqL.of g1) (toPys_dp r n xs _ ds hv q)
      · cases e
theorem toPys_dp (r : HR K H m ah) : ∀ (n : Nat) (xs : List Va) (vs : List V) (ds : List PyData), VRs K H m xs vs → toPysF (toPy ah n) xs = some ds → DpAll K H vs ds
  | n, [], vs, ds, h, e => by cases h; unfold toPysF at e; cases e; exact .nil
  | n, x :: xs, vs, ds, h, e => by
    cases h with
    | cons h1 h2 =>
      unfold toPysF at e
      cases q1 : toPy ah n x with
      | none => rw [q1] at e; cases e
      | some d =>
        cases q2 : toPysF (toPy ah n) xs with
        | none => rw [q1, q2] at e; cases e
        | some ds' =>
          rw [q1, q2] at e
          cases e
          exact .cons (toPy_dp r n x _ d h1 q1) (toPys_dp r n xs _ ds' h2 q2)
end
end
/-! ### == and in -/
def depthL : Nat := 12
def oEqv (neg : Bool) : Op2 := fun p q h => match toPy h depthL p, toPy h depthL q with
  | some d, some e => if SeqAt.shaped d && SeqAt.shaped e then some (.bl (if neg then !PyData.eqv d e else PyData.eqv d e), h) else none
  | _, _ => none
abbrev oEq : Op2 := oEqv false
abbrev oNe : Op2 := oEqv true
def oInn (neg : Bool) : Op2 := fun p q h => match toPy h depthL p, toPy h depthL q with
  | some d, some (.list ds) => if SeqAt.shaped d && SeqAt.shaped (.list ds) then some (.bl (if neg then !ds.any fun z => PyData.eqv z d else ds.any fun z => PyData.eqv z d), h) else none
  | some d, some (.tuple ds) => if SeqAt.shaped d && SeqAt.shaped (.tuple ds) then some (.bl (if neg then !ds.any fun z => PyData.eqv z d else ds.any fun z => PyData.eqv z d), h) else none
  | _, _ => none
abbrev oIn : Op2 := oInn false
abbrev oNotIn : Op2 := oInn true
section
variable {X : Cx}
theorem op_oEq {k : Nat} (hr : Room k X.A) : OpR X (compareOp .Eq) (rO X.K oEq) := by
  refine OpR.imp (op_eqD hr.units) fun x y H Q ⟨m, ah, p, q, v, ah', r, rp, rq, e, kk⟩ => ?_
  unfold oEq oEqv at e
  split at e
  · rename_i d e' h1 h2
    split at e
    · rename_i hz
      cases e
      rw [Bool.and_eq_true] at hz
      exact ⟨d, e', toPy_dp r _ _ _ _ rp h1, toPy_dp r _ _ _ _ rq h2, hz.1, hz.2, kk m H _ .refl r (.bl _)⟩
    · cases e
  · cases e
theorem op_oNe {k : Nat} (hr : Room k X.A) : OpR X (compareOp .NotEq) (rO X.K oNe) := by
  refine OpR.imp (op_neD hr.units) fun x y H Q ⟨m, ah, p, q, v, ah', r, rp, rq, e, kk⟩ => ?_
  unfold oNe oEqv at e
  split at e
  · rename_i d e' h1 h2
    split at e
    · rename_i hz
      cases e
      rw [Bool.and_eq_true] at hz
      exact ⟨d, e', toPy_dp r _ _ _ _ rp h1, toPy_dp r _ _ _ _ rq h2, hz.1, hz.2, kk m H _ .refl r (.bl _)⟩
    · cases e
  · cases e
theorem depth_of_shaped {d : PyData} (h : SeqAt.shaped d = true) : d.depth ≤ 64 := by
  unfold SeqAt.shaped at h
  rw [Bool.and_eq_true] at h
  exact of_decide_eq_true h.2
def rInT (K : PySem.W.Frag) (neg : Bool) : R2 := fun x y H Q => ∃ d ds, Dp K H x d ∧ Dp K H y (.tuple ds) ∧ SeqAt.shaped d = true ∧ SeqAt.shaped (.tuple ds) = true ∧ Q (.bl (if neg then !ds.any fun z => PyData.eqv z d else ds.any fun z => PyData.eqv z d)) H
theorem canAll {ds : List PyData} (h : SeqAt.shaped (.tuple ds) = true) : PyData.canLayAll0 ds = true := by
  have := SeqAt.canLay_of_shaped h
  simpa [PyData.canLay0] using this
theorem op_inT (hu : X.A.units + 66 < cLine) : OpR X (compareOp .In) (rInT X.K false) := by
  intro pins s σ H x y v u Q I rx ry h
  obtain ⟨d, ds, hd, he, sd, se, q⟩ := h
  obtain ⟨as, r1⟩ := Dp.reads I d x v hd rx
  obtain ⟨bs, r2⟩ := Dp.reads I (.tuple ds) y u he ry
  have := depth_of_shaped sd
  exact SeqAt.in_tuple_reads r2 r1 (canAll se) (SeqAt.canLay_of_shaped sd) (by omega) ⟨.bl _, H, I, rfl, q⟩
theorem op_notInT (hu : X.A.units + 66 < cLine) : OpR X (compareOp .NotIn) (rInT X.K true) := by
  intro pins s σ H x y v u Q I rx ry h
  obtain ⟨d, ds, hd, he, sd, se, q⟩ := h
  obtain ⟨as, r1⟩ := Dp.reads I d x v hd rx
  obtain ⟨bs, r2⟩ := Dp.reads I (.tuple ds) y u he ry
  have := depth_of_shaped sd
  exact SeqAt.notIn_tuple_reads r2 r1 (canAll se) (SeqAt.canLay_of_shaped sd) (by omega) ⟨.bl _, H, I, rfl, q⟩
theorem op_oIn {k : Nat} (hr : Room k X.A) : OpR X (compareOp .In) (rO X.K oIn) := by
  have hu := hr.un
  refine OpR.imp ((op_inD (by omega)).or (op_inT (by omega))) fun x y H Q ⟨m, ah, p, q, v, ah', r, rp, rq, e, kk⟩ => ?_
  unfold oIn oInn at e
  split at e
  · rename_i d ds h1 h2
    split at e
    · rename_i hz
      cases e
      rw [Bool.and_eq_true] at hz
      exact .inl ⟨d, ds, toPy_dp r _ _ _ _ rp h1, toPy_dp r _ _ _ _ rq h2, hz.1, hz.2, kk m H _ .refl r (.bl _)⟩
    · cases e
  · rename_i d ds h1 h2
    split at e
    · rename_i hz
      cases e
      rw [Bool.and_eq_true] at hz
      exact .inr ⟨d, ds, toPy_dp r _ _ _ _ rp h1, toPy_dp r _ _ _ _ rq h2, hz.1, hz.2, kk m H _ .refl r (.bl _)⟩
    · cases e
  · cases e
theorem op_oNotIn {k : Nat} (hr : Room k X.A) : OpR X (compareOp .NotIn) (rO X.K oNotIn) := by
  have hu := hr.un
  refine OpR.imp ((op_notInD (by omega)).or (op_notInT (by omega))) fun x y H Q ⟨m, ah, p, q, v, ah', r, rp, rq, e, kk⟩ => ?_
  unfold oNotIn oInn at e
  split at e
  · rename_i d ds h1 h2
    split at e
    · rename_i hz
      cases e
      rw [Bool.and_eq_true] at hz
      exact .inl ⟨d, ds, toPy_dp r _ _ _ _ rp h1, toPy_dp r _ _ _ _ rq h2, hz.1, hz.2, kk m H _ .refl r (.bl _)⟩
    · cases e
  · rename_i d ds h1 h2
    split at e
    · rename_i hz
      cases e
      rw [Bool.and_eq_true] at hz
      exact .inr ⟨d, ds, toPy_dp r _ _ _ _ rp h1, toPy_dp r _ _ _ _ rq h2, hz.1, hz.2, kk m H _ .refl r (.bl _)⟩
    · cases e
  · cases e
/-! ### is -/
def isNon : Va → Bool
  | .non => true
  | _ => false
def oIs (neg : Bool) : Op2 := fun p q h => match p, q with
  | p, .non => some (.bl (if neg then !isNon p else isNon p), h)
  | .bl a, .bl b => some (.bl (if neg then !decide (a = b) else decide (a = b)), h)
  | _, _ => none
theorem isNon_dec {K : PySem.W.Frag} {H : Hp} {m : List Addr} {p : Va} {x : V} (h : VR K H m p x) : decide (x = V.non) = isNon p := by
  cases h <;> first | rfl | exact decide_eq_false (fun z => nomatch z)
theorem op_oIs : OpR X (compareOp .Is) (rO X.K (oIs false)) := by
  refine OpR.imp (op_isN.or op_isBl) fun x y H Q ⟨m, ah, p, q, v, ah', r, rp, rq, e, kk⟩ => ?_
  unfold oIs at e
  split at e
  · cases e
    refine .inl ⟨rq.non_inv, ?_⟩
    rw [isNon_dec rp]
    exact kk m H _ .refl r (.bl _)
  · cases e
    exact .inr ⟨_, _, rp.bl_inv, rq.bl_inv, kk m H _ .refl r (.bl _)⟩
  · cases e
theorem op_oIsNot : OpR X (compareOp .IsNot) (rO X.K (oIs true)) := by
  refine OpR.imp (op_notN.or op_notBl) fun x y H Q ⟨m, ah, p, q, v, ah', r, rp, rq, e, kk⟩ => ?_
  unfold oIs at e
  split at e
  · cases e
    refine .inl ⟨rq.non_inv, ?_⟩
    rw [isNon_dec rp]
    exact kk m H _ .refl r (.bl _)
  · cases e
    exact .inr ⟨_, _, rp.bl_inv, rq.bl_inv, kk m H _ .refl r (.bl _)⟩
  · cases e
end
/-! ### repr -/
mutual
/-- the text's length is no more -/
def lenB : PyData → Nat
  | .none => 4
  | .bool _ => 5
  | .int i => i.natAbs.log2 + 2
  | .str x => 10 * x.length + 2
  | .list xs => lenBs xs + 3
  | .tuple xs => lenBs xs + 3
  | .dict _ => sizeLine + 1
def lenBs : List PyData → Nat
  | [] => 0
  | x :: xs => lenB x + 2 + lenBs xs
end
mutual
theorem lenB_ok : ∀ d : PyData, d.canLay0 = true → d.shown.length ≤ lenB d
  | .none, _ => by decide
  | .bool b, _ => by cases b <;> decide
  | .int i, _ => by
    simp only [PyData.shown, lenB]
    have e : (Str.ofString (toString i)).length = (toString i).length := PySem.ofString_length _
    have h := int_text_length_le (a := i) (k := i.natAbs.log2 + 1) (by omega) (by omega)
    show (Str.ofString (toString i)).length ≤ _
    omega
  | .str x, h => by
    simp only [PyData.shown, lenB]
    refine StrLaws.reprText_len x fun c hc => ?_
    have h' : PyData.strOk x = true := by simpa [PyData.canLay0] using h
    unfold PyData.strOk at h'
    rw [← Array.all_toList, List.all_eq_true] at h'
    have := h' c hc
    simp at this
    omega
  | .list xs, h => by
    have h1 := lenBs_ok xs (by simpa [PyData.canLay0] using h)
    have h2 := listText_len_le (PyData.shownAll xs)
    have h3 := PyData.shownAll_length xs
    simp only [PyData.shown, lenB]
    omega
  | .tuple xs, h => by
    have h1 := lenBs_ok xs (by simpa [PyData.canLay0] using h)
    have h2 := tupleText_len_le (PyData.shownAll xs)
    have h3 := PyData.shownAll_length xs
    simp only [PyData.shown, lenB]
    omega
  | .dict kvs, h => by simp [PyData.canLay0] at h
theorem lenBs_ok : ∀ xs : List PyData, PyData.canLayAll0 xs = true → ((PyData.shownAll xs).map (·.length)).sum + 2 * xs.length ≤ lenBs xs
  | [], _ => by simp [PyData.shownAll, lenBs]
  | x :: xs, h => by
    have h' : x.canLay0 = true ∧ PyData.canLayAll0 xs = true := by simpa [PyData.canLayAll0] using h
    have h1 := lenB_ok x h'.1
    have h2 := lenBs_ok xs h'.2
    simp only [PyData.shownAll, lenBs, List.map_cons, List.sum_cons, List.length_cons]
    omega
end
def okR (d : PyData) : Bool := d.showable && d.canLay0 && decide (d.depth ≤ 60) && decide (lenB d ≤ 16000000)
def oRepr : Op1 := fun p h => match toPy h depthL p with
  | some d => if okR d then some (.rp d, h) else none
  | none => none
/-- the reading of a call of one argument by values -/
def rC1 (K : PySem.W.Frag) (o : Op1) : List V → Hp → VK → Prop := fun xs H Q => ∃ x m ah p v ah', xs = [x] ∧ HR K H m ah ∧ VR K H m p x ∧ o p ah = some (v, ah') ∧ ∀ m' H' w, Ext m H m' H' → HR K H' m' ah' → VR K H' m' v w → Q w H'
section
variable {X : Cx}
theorem call_oReprU (hun : X.A.units + 200 < cLine) (hg : X.A.guards = some []) : CallR X (.builtin "repr") (rC1 X.K oRepr) := by
  intro pins s σ H xs us Q I rx h
  obtain ⟨x, m, ah, p, v, ah', rfl, r, rp, e, kk⟩ := h
  obtain ⟨u, rfl, ru⟩ := vals1 rx
  unfold oRepr at e
  cases hd : toPy ah depthL p with
  | none => rw [hd] at e; cases e
  | some d =>
    rw [hd] at e
    have e' : (if okR d then some (Va.rp d, ah) else none) = some (v, ah') := e
    split at e'
    · rename_i hz
      cases e'
      have hz' := hz
      unfold okR at hz
      simp only [Bool.and_eq_true, decide_eq_true_eq] at hz
      obtain ⟨⟨⟨z1, z2⟩, z3⟩, z4⟩ := hz
      have hlen : d.shown.length ≤ sizeLine := by
        have := lenB_ok d z2
        have := sizeLine_eq
        omega
      have dp := toPy_dp r _ _ _ _ rp hd
      obtain ⟨as, rd⟩ := Dp.reads I d x u dp ru
      have q := kk m H _ .refl r (.rp d)
      have fin : ∀ {s' : Shared} {t : Tok}, Inv X pins σ H s' → EP X pins σ Q (.str d.shown t) s' := fun {s' t} J => ⟨.str d.shown, H, J, ⟨t, rfl⟩, q⟩
      have hu := hun
      cases u with
      | ref a => exact repr_of_reads' rd z1 (fun e => by rw [PyData.hasDict_of_canLay d z2] at e; cases e) hg (by omega) (fun _ _ e => e) (fun h' u tk hk => fin (I.kept hk)) hlen
      | int i t =>
        cases rd
        have hi : i.natAbs.log2 < 1920 := by simpa [PyData.showable] using z1
        exact PySem.P.repr_of_int hi (fin (I.tok _))
      | str y t =>
        cases rd
        exact PySem.P.repr_of_str (fin (I.tok _)) hlen
      | bool b =>
        cases rd
        exact PySem.P.repr_of_bool (fin (I.tok _))
      | none =>
        cases rd
        exact PySem.P.repr_of_none (fin (I.tok _))
      | _ => cases rd
    · cases e'
end
end FL

set_option Elab.async false
set_option linter.all false
set_option maxRecDepth 100000
/-! FL4E: repr of data in which empty dicts stand. -/
namespace FL
open PySem PySem.Spec PyProof.Rows L2
variable [Tabz]
mutual
/-- data whose dicts are empty -/
def canE : PyData → Bool
  | .none => true
  | .bool _ => true
  | .int _ => true
  | .str x => PyData.strOk x
  | .list xs => canEs xs
  | .tuple xs => canEs xs
  | .dict kvs => kvs.isEmpty
def canEs : List PyData → Bool
  | [] => true
  | x :: xs => canE x && canEs xs
end
mutual
def lenE : PyData → Nat
  | .none => 4
  | .bool _ => 5
  | .int i => i.natAbs.log2 + 2
  | .str x => 10 * x.length + 2
  | .list xs => lenEs xs + 3
  | .tuple xs => lenEs xs + 3
  | .dict _ => 2
def lenEs : List PyData → Nat
  | [] => 0
  | x :: xs => lenE x + 2 + lenEs xs
end
mutual
theorem lenE_ok : ∀ d : PyData, canE d = true → d.shown.length ≤ lenE d
  | .none, _ => by decide
  | .bool b, _ => by cases b <;> decide
  | .int i, _ => by
    have := lenB_ok (.int i) rfl
    simp only [lenB] at this
    simp only [lenE]
    exact this
  | .str x, h => by
    have := lenB_ok (.str x) (by simpa [canE, PyData.canLay0] using h)
    simp only [lenB] at this
    simp only [lenE]
    exact this
  | .list xs, h => by
    have h1 := lenEs_ok xs (by simpa [canE] using h)
    have h2 := listText_len_le (PyData.shownAll xs)
    have h3 := PyData.shownAll_length xs
    simp only [PyData.shown, lenE]
    omega
  | .tuple xs, h => by
    have h1 := lenEs_ok xs (by simpa [canE] using h)
    have h2 := tupleText_len_le (PyData.shownAll xs)
    have h3 := PyData.shownAll_length xs
    simp only [PyData.shown, lenE]
    omega
  | .dict kvs, h => by
    cases kvs with
    | nil => decide +kernel
    | cons _ _ => simp [canE] at h
theorem lenEs_ok : ∀ xs : List PyData, canEs xs = true → ((PyData.shownAll xs).map (·.length)).sum + 2 * xs.length ≤ lenEs xs
  | [], _ => by simp [PyData.shownAll, lenEs]
  | x :: xs, h => by
    have h' : canE x = true ∧ canEs xs = true := by simpa [canEs] using h
    have h1 := lenE_ok x h'.1
    have h2 := lenEs_ok xs h'.2
    simp only [PyData.shownAll, lenEs, List.map_cons, List.sum_cons, List.length_cons]
    omega
end
/-- a value as data, empty dicts too, its lists and dicts written ones -/
def toPyE (ah : AH) : Nat → Va → Option PyData
  | _, .non => some .none
  | _, .bl b => some (.bool b)
  | _, .int i => some (.int i)
  | _, .str x => some (.str x)
  | _, .rp d => some (.str d.shown)
  | 0, .tup _ => none
  | 0, .rol _ => none
  | 0, .ref _ => none
  | _, .dv _ => none
  | _, .exo _ => none
  | _, .exn _ _ _ _ => none
  | n + 1, .tup xs => (toPysF (toPyE ah n) xs).map .tuple
  | n + 1, .rol xs => (toPysF (toPyE ah n) xs).map .list
  | n + 1, .ref l => match ah[l]? with
    | some (.lst xs) => (toPysF (toPyE ah n) xs).map .list
    | some (.dct []) => some (.dict [])
    | _ => none
mutual
inductive DpE (K : PySem.W.Frag) (H : Hp) : V → PyData → Prop
  | non : DpE K H .non .none
  | bl (b : Bool) : DpE K H (.bl b) (.bool b)
  | int (i : Int) : DpE K H (.int i) (.int i)
  | str (x : Str) : DpE K H (.str x) (.str x)
  | lst {a : Addr} {xs : List V} {ds : List PyData} : SqL K H a xs → DpEs K H xs ds → DpE K H (.ref a) (.list ds)
  | tup {a : Addr} {xs : List V} {ds : List PyData} : SqT K H a xs → DpEs K H xs ds → DpE K H (.ref a) (.tuple ds)
  | dct {a : Addr} : H a = some (.dK []) → DpE K H (.ref a) (.dict [])
inductive DpEs (K : PySem.W.Frag) (H : Hp) : List V → List PyData → Prop
  | nil : DpEs K H [] []
  | cons {v : V} {vs : List V} {d : PyData} {ds : List PyData} : DpE K H v d → DpEs K H vs ds → DpEs K H (v :: vs) (d :: ds)
end
section
variable {K : PySem.W.Frag} {H : Hp} {m : List Addr} {ah : AH}
mutual
theorem toPyE_dp (r : HR K H m ah) : ∀ (n : Nat) (x : Va) (v : V) (d : PyData), VR K H m x v → toPyE ah n x = some d → DpE K H v d
  | n, .non, v, d, h, e => by cases h; cases n <;> (unfold toPyE at e; cases e; exact .non)
  | n, .bl b, v, d, h, e => by cases h; cases n <;> (unfold toPyE at e; cases e; exact .bl b)
  | n, .int i, v, d, h, e => by cases h; cases n <;> (unfold toPyE at e; cases e; exact .int i)
  | n, .str x, v, d, h, e => by cases h; cases n <;> (unfold toPyE at e; cases e; exact .str x)
  | n, .rp x, v, d, h, e => by cases h; cases n <;> (unfold toPyE at e; cases e; exact .str _)
  | 0, .tup _, v, d, h, e => by unfold toPyE at e; cases e
  | 0, .rol _, v, d, h, e => by unfold toPyE at e; cases e
  | 0, .ref _, v, d, h, e => by unfold toPyE at e; cases e
  | n, .dv _, v, d, h, e => by cases n <;> (unfold toPyE at e; cases e)
  | n, .exo _, v, d, h, e => by cases n <;> (unfold toPyE at e; cases e)
  | n, .exn _ _ _ _, v, d, h, e => by cases n <;> (unfold toPyE at e; cases e)
  | n + 1, .tup xs, v, d, h, e => by
    unfold toPyE at e
    cases h with
    | tup ht hv =>
      cases q : toPysF (toPyE ah n) xs with
      | none => rw [q] at e; cases e
      | some ds =>
        rw [q] at e
        cases e
        exact .tup ht (toPyEs_dp r n xs _ ds hv q)
  | n + 1, .rol xs, v, d, h, e => by
    unfold toPyE at e
    cases h with
    | rol ht hv =>
      cases q : toPysF (toPyE ah n) xs with
      | none => rw [q] at e; cases e
      | some ds =>
        rw [q] at e
        cases e
        exact .lst ht.seq (toPyEs_dp r n xs _ ds hv q)
  | n + 1, .ref l, v, d, h, e => by
    unfold toPyE at e
    cases h with
    | ref ha =>
      split at e
      · rename_i xs hl
        obtain ⟨vs, g1, hv⟩ := r.lst ha hl
        cases q : toPysF (toPyE ah n) xs with
        | none => rw [q] at e; cases e
        | some ds =>
          rw [q] at e
          cases e
          exact .lst (SqL.of g1) (toPyEs_dp r n xs _ ds hv q)
      · rename_i hl
        cases e
        obtain ⟨ps, g1, g2⟩ := r.at_ _ _ _ ha hl
        refine .dct ?_
        rw [g1]
        cases ps with
        | nil => rfl
        | cons _ _ => cases g2
      · cases e
theorem toPyEs_dp (r : HR K H m ah) : ∀ (n : Nat) (xs : List Va) (vs : List V) (ds : List PyData), VRs K H m xs vs → toPysF (toPyE ah n) xs = some ds → DpEs K H vs ds
  | n, [], vs, ds, h, e => by cases h; unfold toPysF at e; cases e; exact .nil
  | n, x :: xs, vs, ds, h, e => by
    cases h with
    | cons h1 h2 =>
      unfold toPysF at e
      cases q1 : toPyE ah n x with
      | none => rw [q1] at e; cases e
      | some d =>
        cases q2 : toPysF (toPyE ah n) xs with
        | none => rw [q1, q2] at e; cases e
        | some ds' =>
          rw [q1, q2] at e
          cases e
          exact .cons (toPyE_dp r n x _ d h1 q1) (toPyEs_dp r n xs _ ds' h2 q2)
end
end
/-! what stands in the heap, dicts empty and not sys.modules -/
mutual
inductive RdE (h : Heap) : Value → PyData → Prop
  | non : RdE h .none .none
  | bl (b : Bool) : RdE h (.bool b) (.bool b)
  | int (i : Int) (t : Tok) : RdE h (.int i t) (.int i)
  | str (x : Str) (t : Tok) : RdE h (.str x t) (.str x)
  | lst {a : Addr} {o : Obj} {vs : Array Value} {n : Nat} {xs : List PyData} (g1 : h.get? a = some o) (g2 : o.cls = .type "list") (g3 : o.data = .seq vs n) (g4 : RdEs h vs.toList xs) : RdE h (.ref a) (.list xs)
  | tup {a : Addr} {o : Obj} {vs : Array Value} {n : Nat} {xs : List PyData} (g1 : h.get? a = some o) (g2 : o.cls = .type "tuple") (g3 : o.data = .seq vs n) (g4 : RdEs h vs.toList xs) : RdE h (.ref a) (.tuple xs)
  | dct {a : Addr} {o : Obj} {es : Array DictEntry} {n : Nat} (g1 : h.get? a = some o) (g2 : o.cls = .type "dict") (g3 : o.data = .dict es n) (g4 : es.toList = []) (g5 : (a == sysModules) = false) : RdE h (.ref a) (.dict [])
inductive RdEs (h : Heap) : List Value → List PyData → Prop
  | nil : RdEs h [] []
  | cons {v : Value} {vs : List Value} {d : PyData} {ds : List PyData} (g1 : RdE h v d) (g2 : RdEs h vs ds) : RdEs h (v :: vs) (d :: ds)
end
section
variable {h : Heap} {P : Program} {w : World}
mutual
theorem RdE.rd : ∀ {v : Value} {d : PyData}, RdE h v d → ∃ as, Reads h v d as
  | _, _, .non => ⟨_, .none⟩
  | _, _, .bl b => ⟨_, .bool b⟩
  | _, _, .int i t => ⟨_, .int i t⟩
  | _, _, .str x t => ⟨_, .str x t⟩
  | _, _, .lst g1 g2 g3 g4 => by obtain ⟨as, r⟩ := RdEs.rd g4; exact ⟨_, .list g1 g2 g3 r⟩
  | _, _, .tup g1 g2 g3 g4 => by obtain ⟨as, r⟩ := RdEs.rd g4; exact ⟨_, .tuple g1 g2 g3 r⟩
  | _, _, .dct g1 g2 g3 g4 g5 => ⟨_, .dict g1 g2 g3 (by rw [g4]; exact .nil) (by rw [g4]; exact .nil)⟩
theorem RdEs.rd : ∀ {vs : List Value} {ds : List PyData}, RdEs h vs ds → ∃ as, ReadsAll h vs ds as
  | _, _, .nil => ⟨_, .nil⟩
  | _, _, .cons g1 g2 => by
    obtain ⟨as, r1⟩ := RdE.rd g1
    obtain ⟨bs, r2⟩ := RdEs.rd g2
    exact ⟨_, .cons r1 r2⟩
end
mutual
theorem RdE.rk : ∀ {v : Value} {d : PyData}, RdE h v d → d.showable = true → d.shown.length ≤ sizeLine → ∃ bs, ReadAtMost h d.depth bs ∧ ReprK P w bs h d.depth v d.shown
  | _, _, .non, _, _ => by
    refine ⟨[], (fun _ z => nomatch z), ?_⟩
    simp only [PyData.shown]
    exact .of_is ReprIs.none _ _ _
  | _, _, .bl b, _, _ => by
    refine ⟨[], (fun _ z => nomatch z), ?_⟩
    simp only [PyData.shown]
    exact .of_is (ReprIs.bool b) _ _ _
  | _, _, .int i t, hs, _ => by
    refine ⟨[], (fun _ z => nomatch z), ?_⟩
    simp only [PyData.shown]
    exact .of_is (ReprIs.int t (by simpa [PyData.showable] using hs)) _ _ _
  | _, _, .str x t, _, hz => by
    refine ⟨[], (fun _ z => nomatch z), ?_⟩
    simp only [PyData.shown] at hz ⊢
    exact .of_is (ReprIs.str x t hz) _ _ _
  | _, _, .lst (a := a) (vs := vs) (xs := xs) g1 g2 g3 g4, hs, hz => by
    have hz2 : (listText (PyData.shownAll xs)).length ≤ sizeLine := by simpa only [PyData.shown] using hz
    obtain ⟨bs, k1, k2⟩ := RdEs.rk g4 (by simpa [PyData.showable] using hs) fun t ht => Nat.le_trans (listText_mem_le ht) hz2
    obtain ⟨as, r⟩ := RdE.rd (.lst g1 g2 g3 g4)
    have away : a ∉ bs := not_mem_of_deeper r (by simp only [PyData.depth]; omega) k1
    refine ⟨a :: bs, ReadAtMost.cons r (by simp only [PyData.depth]; omega) k1, ?_⟩
    simp only [PyData.depth, PyData.shown]
    obtain ⟨l⟩ := vs
    cases l with
    | nil =>
      have g5 : RdEs h [] xs := g4
      cases g5
      simp only [PyData.shownAll, listText_nil]
      exact ReprK.listEmpty g1 g2 g3
    | cons x l => exact ReprK.list g1 g2 g3 away (by simpa using k2.length_eq) fun i y e => k2.item i y (by simpa using e)
  | _, _, .tup (a := a) (xs := xs) g1 g2 g3 g4, hs, hz => by
    have hz2 : (tupleText (PyData.shownAll xs)).length ≤ sizeLine := by simpa only [PyData.shown] using hz
    obtain ⟨bs, k1, k2⟩ := RdEs.rk g4 (by simpa [PyData.showable] using hs) fun t ht => Nat.le_trans (tupleText_mem_le ht) hz2
    obtain ⟨as, r⟩ := RdE.rd (.tup g1 g2 g3 g4)
    have away : a ∉ bs := not_mem_of_deeper r (by simp only [PyData.depth]; omega) k1
    refine ⟨a :: bs, ReadAtMost.cons r (by simp only [PyData.depth]; omega) k1, ?_⟩
    simp only [PyData.depth, PyData.shown]
    exact ReprK.tuple g1 g2 g3 away k2
  | _, _, .dct (a := a) (es := es) g1 g2 g3 g4 g5, _, _ => by
    obtain ⟨as, r⟩ := RdE.rd (.dct g1 g2 g3 g4 g5)
    have k1 : ReadAtMost h (PyData.depthKv []) [] := fun _ z => nomatch z
    refine ⟨[a], ReadAtMost.cons r (by simp only [PyData.depth]; omega) k1, ?_⟩
    have e : (PyData.dict []).shown = dictText [] := by simp only [PyData.shown, PyData.shownKv]
    rw [e]
    exact ReprK.dict g1 g2 g3 g5 (by simp) (by rw [g4]; exact .nil)
theorem RdEs.rk : ∀ {vs : List Value} {ds : List PyData}, RdEs h vs ds → PyData.showableAll ds = true → (∀ t ∈ PyData.shownAll ds, t.length ≤ sizeLine) → ∃ bs, ReadAtMost h (PyData.depthAll ds) bs ∧ ReprAllK P w bs h (PyData.depthAll ds) vs (PyData.shownAll ds)
  | _, _, .nil, _, _ => by
    refine ⟨[], (fun _ z => nomatch z), ?_⟩
    simp only [PyData.shownAll]
    exact .nil
  | _, _, .cons (d := d) (ds := ds) g1 g2, hs, hz => by
    obtain ⟨s1, s2⟩ : d.showable = true ∧ PyData.showableAll ds = true := by simpa [PyData.showableAll] using hs
    simp only [PyData.shownAll] at hz ⊢
    obtain ⟨b1, k1, q1⟩ := RdE.rk g1 s1 (hz _ List.mem_cons_self)
    obtain ⟨b2, k2, q2⟩ := RdEs.rk g2 s2 fun t ht => hz t (List.mem_cons_of_mem _ ht)
    simp only [PyData.depthAll]
    refine ⟨b1 ++ b2, fun b hm => ?_, .cons ((q1.more fun b hb => List.mem_append_left _ hb).level_le (Nat.le_max_left _ _)) (q2.more_le (fun b hb => List.mem_append_right _ hb) (Nat.le_max_right _ _))⟩
    rcases List.mem_append.mp hm with hm | hm
    · obtain ⟨d', as', r', hd'⟩ := k1 b hm
      exact ⟨d', as', r', Nat.le_trans hd' (Nat.le_max_left _ _)⟩
    · obtain ⟨d', as', r', hd'⟩ := k2 b hm
      exact ⟨d', as', r', Nat.le_trans hd' (Nat.le_max_right _ _)⟩
end
/-- repr(x) -/
theorem RdE.repr {A : Around} {E : Value → Shared → Prop} {s : Shared} {Q : Value → Shared → Prop} {a : Addr} {d : PyData} (r : RdE s.heap (.ref a) d) (hs : d.showable = true) (hg : A.guards = some []) (hu : A.units + (d.depth + 1) < cLine) (hz : d.shown.length ≤ sizeLine)
    (hQ : ∀ h' u tk, (∀ b o, s.heap.get? b = some o → h'.get? b = some o) → Q (.str d.shown u) { s with heap := h', toks := tk }) : wpAny (model P w) A (call (.builtin "repr") [.ref a]) Q E s := by
  have up : A.in1.guards = some [] := hg
  cases r with
  | lst g1 g2 g3 g4 =>
    rename_i o vs n xs
    have hz2 : (listText (PyData.shownAll xs)).length ≤ sizeLine := by simpa only [PyData.shown] using hz
    obtain ⟨bs, k1, k2⟩ := RdEs.rk (P := P) (w := w) g4 (by simpa [PyData.showable] using hs) fun t ht => Nat.le_trans (listText_mem_le ht) hz2
    obtain ⟨as, r⟩ := RdE.rd (.lst g1 g2 g3 g4)
    have away : a ∉ bs := not_mem_of_deeper r (by simp only [PyData.depth]; omega) k1
    simp only [PyData.depth] at hu
    simp only [PyData.shown] at hQ
    refine call_repr_slot (by omega) ⟨o, g1, g2⟩ F.slot_list_repr.toG ?_
    obtain ⟨l⟩ := vs
    cases l with
    | nil =>
      have g5 : RdEs s.heap [] xs := g4
      cases g5
      simp only [PyData.shownAll, listText_nil] at hQ
      exact call_list_repr_empty ⟨o, g1, g2⟩ g1 g3 ⟨_, _, rfl, hQ s.heap _ _ fun _ _ e => e⟩
    | cons x l =>
      exact call_list_reprK g1 g2 g3 away (by simpa using k2.length_eq) (fun i y e => k2.item i y (by simpa using e)) up (fun b _ => Clear.nil b) (by show A.units + 1 + _ < _; omega) (fun _ _ e => e) (fun h' u tk hk => ⟨_, _, rfl, hQ h' u tk hk⟩) hz2
  | tup g1 g2 g3 g4 =>
    rename_i o vs n xs
    have hz2 : (tupleText (PyData.shownAll xs)).length ≤ sizeLine := by simpa only [PyData.shown] using hz
    obtain ⟨bs, k1, k2⟩ := RdEs.rk (P := P) (w := w) g4 (by simpa [PyData.showable] using hs) fun t ht => Nat.le_trans (tupleText_mem_le ht) hz2
    obtain ⟨as, r⟩ := RdE.rd (.tup g1 g2 g3 g4)
    have away : a ∉ bs := not_mem_of_deeper r (by simp only [PyData.depth]; omega) k1
    simp only [PyData.depth] at hu
    simp only [PyData.shown] at hQ
    exact call_repr_slot (by omega) ⟨o, g1, g2⟩ F.slot_tuple_repr (call_tuple_reprK g1 g2 g3 away k2 up (fun b _ => Clear.nil b) (by show A.units + 1 + _ < _; omega) (fun _ _ e => e) (fun h' u tk hk => ⟨_, _, rfl, hQ h' u tk hk⟩) hz2)
  | dct g1 g2 g3 g4 g5 =>
    rename_i o es n
    have rd : Reads s.heap (.ref a) (.dict []) (a :: [] ++ []) := .dict g1 g2 g3 (by rw [g4]; exact .nil) (by rw [g4]; exact .nil)
    exact repr_of_reads' rd hs (fun _ hm => by simp at hm; rw [hm] at g5; simp at g5) hg hu (fun _ _ e => e) hQ hz
end
section
variable {X : Cx} {pins : List (Addr × Obj)} {σ : L2.St} {H : Hp} {s : Shared}
mutual
theorem DpE.at (I : L2.Inv X pins σ H s) : ∀ (d : PyData) (v : V) (u : Value), DpE X.K H v d → RelV v u → RdE s.heap u d
  | .none, _, _, h, r => by cases h; cases r; exact .non
  | .bool b, _, _, h, r => by cases h; cases r; exact .bl b
  | .int i, _, _, h, r => by cases h; obtain ⟨t, rfl⟩ := r; exact .int i t
  | .str x, _, _, h, r => by cases h; obtain ⟨t, rfl⟩ := r; exact .str x t
  | .list ds, _, _, h, r => by
    cases h with
    | lst hs ha =>
      cases r
      obtain ⟨its, rv, ⟨o, n, ho, hc, _, hd⟩, _⟩ := I.list hs
      exact .lst ho hc hd (DpEs.at I ds _ its ha rv)
  | .tuple ds, _, _, h, r => by
    cases h with
    | tup hs ha =>
      cases r
      obtain ⟨its, rv, ⟨o, ho, hc, n, hd⟩, _⟩ := I.tuple hs
      exact .tup ho hc hd (DpEs.at I ds _ its ha rv)
  | .dict _, _, _, h, r => by
    cases h with
    | dct ha =>
      cases r
      obtain ⟨_, hne, vs, hv, hd⟩ := L2.dk_of I.hok ha
      cases vs with
      | cons _ _ => cases hv
      | nil =>
        obtain ⟨o, es, ep, ho, hx, hdat, _, hp, _⟩ := hd
        exact .dct ho hx.1 hdat (List.eq_nil_of_length_eq_zero hp.length) hne
theorem DpEs.at (I : L2.Inv X pins σ H s) : ∀ (ds : List PyData) (vs : List V) (us : List Value), DpEs X.K H vs ds → Vals vs us → RdEs s.heap us ds
  | [], _, _, h, r => by cases h; cases r; exact .nil
  | d :: ds, _, _, h, r => by
    cases h with
    | cons h1 h2 =>
      cases r with
      | cons r1 r2 => exact .cons (DpE.at I d _ _ h1 r1) (DpEs.at I ds _ _ h2 r2)
end
end
def okE (d : PyData) : Bool := d.showable && canE d && decide (d.depth ≤ 60) && decide (lenE d ≤ 16000000)
def oReprE : Op1 := fun p h => match toPyE h depthL p with
  | some d => if okE d then some (.rp d, h) else none
  | none => none
section
variable {X : Cx}
theorem call_oReprE (hun : X.A.units + 200 < cLine) (hg : X.A.guards = some []) : CallR X (.builtin "repr") (rC1 X.K oReprE) := by
  intro pins s σ H xs us Q I rx h
  obtain ⟨x, m, ah, p, v, ah', rfl, r, rp, e, kk⟩ := h
  obtain ⟨u, rfl, ru⟩ := vals1 rx
  unfold oReprE at e
  cases hd : toPyE ah depthL p with
  | none => rw [hd] at e; cases e
  | some d =>
    rw [hd] at e
    have e' : (if okE d then some (Va.rp d, ah) else none) = some (v, ah') := e
    split at e'
    case isFalse => cases e'
    rename_i hz
    cases e'
    unfold okE at hz
    simp only [Bool.and_eq_true, decide_eq_true_eq] at hz
    obtain ⟨⟨⟨z1, z2⟩, z3⟩, z4⟩ := hz
    have hlen : d.shown.length ≤ sizeLine := by
      have := lenE_ok d z2
      have := sizeLine_eq
      omega
    have dp := toPyE_dp r _ _ _ _ rp hd
    have rd := DpE.at I d x u dp ru
    have q := kk m H _ .refl r (.rp d)
    have fin : ∀ {s' : Shared} {t : Tok}, L2.Inv X pins σ H s' → EP X pins σ Q (.str d.shown t) s' := fun {s' t} J => ⟨.str d.shown, H, J, ⟨t, rfl⟩, q⟩
    have hu := hun
    cases u with
    | ref a => exact rd.repr z1 hg (by omega) hlen fun h' u tk hk => fin (I.kept hk)
    | int i t =>
      cases rd
      have hi : i.natAbs.log2 < 1920 := by simpa [PyData.showable] using z1
      exact PySem.P.repr_of_int hi (fin (I.tok _))
    | str y t =>
      cases rd
      exact PySem.P.repr_of_str (fin (I.tok _)) hlen
    | bool b =>
      cases rd
      exact PySem.P.repr_of_bool (fin (I.tok _))
    | none =>
      cases rd
      exact PySem.P.repr_of_none (fin (I.tok _))
    | _ => cases rd
end
end FL

set_option Elab.async false
set_option linter.all false
set_option maxRecDepth 100000
/-! FL5: and, or, not, if; displays; arguments; built-ins by name; subscripts, slices. -/
namespace FL
open PySem PySem.Spec PyProof.Rows L2
variable [Tabz]
/-! ### tests -/
structure MW (X : Cx) (W : WX) (e : Expr) (f : TF) : Prop where
  pw : PW X e (Wi X.K X.mg RB W f)
def tAnd (f g : TF) : TF := fun ev h => (f ev h).bind fun b h1 => if b then g ev h1 else .ok false h1
def tOr (f g : TF) : TF := fun ev h => (f ev h).bind fun b h1 => if b then .ok true h1 else g ev h1
def tNot (f : TF) : TF := fun ev h => (f ev h).bind fun b h1 => .ok (!b) h1
section
variable {K : PySem.W.Frag} {mg : Str → Option Value} {W : WX} {σ : L2.St} {H : Hp}
theorem Wi.tAnd {f g : TF} {Q : Bool → Hp → Prop} (h : Wi K mg RB W (FL.tAnd f g) σ H Q) : L2.tAnd (Wi K mg RB W f) (Wi K mg RB W g) σ H Q := by
  obtain ⟨m, ah, ev, r, re, q⟩ := Wi.bind (R := RB) h
  refine ⟨m, ah, ev, r, re, ?_⟩
  cases ef : f ev ah with
  | exc c p a => rw [ef] at q; exact q
  | bad => rw [ef] at q; exact q
  | ok b a =>
    rw [ef] at q
    intro m1 H1 b' e1 r1 rb
    obtain ⟨m2, ah2, ev2, b2, r2, re2, rb2, q2⟩ := q m1 H1 b' e1 r1 rb
    cases (show b2 = b' from rb2)
    cases b' with
    | true => exact ⟨m2, ah2, ev2, r2, re2, q2⟩
    | false => exact q2 m2 H1 false .refl r2 rfl
theorem Wi.tOr {f g : TF} {Q : Bool → Hp → Prop} (h : Wi K mg RB W (FL.tOr f g) σ H Q) : L2.tOr (Wi K mg RB W f) (Wi K mg RB W g) σ H Q := by
  obtain ⟨m, ah, ev, r, re, q⟩ := Wi.bind (R := RB) h
  refine ⟨m, ah, ev, r, re, ?_⟩
  cases ef : f ev ah with
  | exc c p a => rw [ef] at q; exact q
  | bad => rw [ef] at q; exact q
  | ok b a =>
    rw [ef] at q
    intro m1 H1 b' e1 r1 rb
    obtain ⟨m2, ah2, ev2, b2, r2, re2, rb2, q2⟩ := q m1 H1 b' e1 r1 rb
    cases (show b2 = b' from rb2)
    cases b' with
    | true => exact q2 m2 H1 true .refl r2 rfl
    | false => exact ⟨m2, ah2, ev2, r2, re2, q2⟩
theorem Wi.tNot {f : TF} {Q : Bool → Hp → Prop} (h : Wi K mg RB W (FL.tNot f) σ H Q) : L2.tNot (Wi K mg RB W f) σ H Q := by
  obtain ⟨m, ah, ev, r, re, q⟩ := Wi.bind (R := RB) h
  refine ⟨m, ah, ev, r, re, ?_⟩
  cases ef : f ev ah with
  | exc c p a => rw [ef] at q; exact q
  | bad => rw [ef] at q; exact q
  | ok b a =>
    rw [ef] at q
    intro m1 H1 b' e1 r1 rb
    obtain ⟨m2, ah2, ev2, b2, r2, re2, rb2, q2⟩ := q m1 H1 b' e1 r1 rb
    cases (show b2 = b' from rb2)
    exact q2 m2 H1 _ .refl r2 rfl
end
section
variable {X : Cx} {W : WX} {a b c e : Expr} {es rest : List Expr} {pos : Pos} {f g t : TF}
theorem mw_and1 (h : MT X W a f) : MW X W (.BoolOp .And [a] pos) f := ⟨pw_and1 h.pt⟩
theorem mw_or1 (h : MT X W a f) : MW X W (.BoolOp .Or [a] pos) f := ⟨pw_or1 h.pt⟩
theorem mw_and (h : MT X W a f) (h2 : MW X W (.BoolOp .And (b :: rest) pos) g) : MW X W (.BoolOp .And (a :: b :: rest) pos) (tAnd f g) := ⟨pw_imp (pw_and h.pt h2.pw) fun _ _ _ q => q.tAnd⟩
theorem mw_or (h : MT X W a f) (h2 : MW X W (.BoolOp .Or (b :: rest) pos) g) : MW X W (.BoolOp .Or (a :: b :: rest) pos) (tOr f g) := ⟨pw_imp (pw_or h.pt h2.pw) fun _ _ _ q => q.tOr⟩
theorem mt_w (h : MW X W e f) : MT X W e f := ⟨h.pw.pt⟩
theorem mt_not (h : MT X W a f) : MT X W (.UnaryOp .Not a pos) (tNot f) := ⟨pt_imp (pt_not h.pt) fun _ _ _ q => q.tNot⟩
/-! ### as values -/
def bOf (v : Va) (k : Bool → Rs Va) : Rs Va := match v with | .bl b => k b | _ => .bad
def eAnd (f g : EF) : EF := fun ev h => (f ev h).bind fun v h1 => bOf v fun b => if b then g ev h1 else .ok (.bl false) h1
def eOr (f g : EF) : EF := fun ev h => (f ev h).bind fun v h1 => bOf v fun b => if b then .ok (.bl true) h1 else g ev h1
def eNot (f : EF) : EF := fun ev h => (f ev h).bind fun v h1 => bOf v fun b => .ok (.bl (!b)) h1
theorem Wi.eAnd {K : PySem.W.Frag} {mg : Str → Option Value} {f g : EF} {σ : L2.St} {H : Hp} {Q : VK} (h : Wi K mg (VR K) W (FL.eAnd f g) σ H Q) : tAndV (Wi K mg (VR K) W f) (Wi K mg (VR K) W g) σ H Q := by
  obtain ⟨m, ah, ev, r, re, q⟩ := Wi.bind (R := VR K) h
  refine ⟨m, ah, ev, r, re, ?_⟩
  cases ef : f ev ah with
  | exc c p a => rw [ef] at q; exact q
  | bad => rw [ef] at q; exact q
  | ok v a =>
    rw [ef] at q
    intro m1 H1 x e1 r1 rx
    obtain ⟨m2, ah2, ev2, v2, r2, re2, rv2, q2⟩ := q m1 H1 x e1 r1 rx
    cases v2 with
    | bl b =>
      refine ⟨b, rv2.bl_inv, ?_⟩
      cases b with
      | true => exact ⟨m2, ah2, ev2, r2, re2, q2⟩
      | false => exact q2 m2 H1 _ .refl r2 (.bl false)
    | _ => exact q2.elim
theorem Wi.eOr {K : PySem.W.Frag} {mg : Str → Option Value} {f g : EF} {σ : L2.St} {H : Hp} {Q : VK} (h : Wi K mg (VR K) W (FL.eOr f g) σ H Q) : tOrV (Wi K mg (VR K) W f) (Wi K mg (VR K) W g) σ H Q := by
  obtain ⟨m, ah, ev, r, re, q⟩ := Wi.bind (R := VR K) h
  refine ⟨m, ah, ev, r, re, ?_⟩
  cases ef : f ev ah with
  | exc c p a => rw [ef] at q; exact q
  | bad => rw [ef] at q; exact q
  | ok v a =>
    rw [ef] at q
    intro m1 H1 x e1 r1 rx
    obtain ⟨m2, ah2, ev2, v2, r2, re2, rv2, q2⟩ := q m1 H1 x e1 r1 rx
    cases v2 with
    | bl b =>
      refine ⟨b, rv2.bl_inv, ?_⟩
      cases b with
      | true => exact q2 m2 H1 _ .refl r2 (.bl true)
      | false => exact ⟨m2, ah2, ev2, r2, re2, q2⟩
    | _ => exact q2.elim
theorem Wi.eNot {K : PySem.W.Frag} {mg : Str → Option Value} {f : EF} {σ : L2.St} {H : Hp} {Q : VK} (h : Wi K mg (VR K) W (FL.eNot f) σ H Q) : tNotV (Wi K mg (VR K) W f) σ H Q := by
  obtain ⟨m, ah, ev, r, re, q⟩ := Wi.bind (R := VR K) h
  refine ⟨m, ah, ev, r, re, ?_⟩
  cases ef : f ev ah with
  | exc c p a => rw [ef] at q; exact q
  | bad => rw [ef] at q; exact q
  | ok v a =>
    rw [ef] at q
    intro m1 H1 x e1 r1 rx
    obtain ⟨m2, ah2, ev2, v2, r2, re2, rv2, q2⟩ := q m1 H1 x e1 r1 rx
    cases v2 with
    | bl b => exact ⟨b, rv2.bl_inv, q2 m2 H1 _ .refl r2 (.bl _)⟩
    | _ => exact q2.elim
variable {fa ga : EF}
theorem me_one {op} (h : ME X W a fa) : ME X W (.BoolOp op [a] pos) fa := ⟨pe_one h.pe⟩
theorem me_and (h : ME X W a fa) (h2 : ME X W (.BoolOp .And (b :: rest) pos) ga) : ME X W (.BoolOp .And (a :: b :: rest) pos) (eAnd fa ga) := ⟨pe_imp (pe_and h.pe h2.pe) fun _ _ _ q => q.eAnd⟩
theorem me_or (h : ME X W a fa) (h2 : ME X W (.BoolOp .Or (b :: rest) pos) ga) : ME X W (.BoolOp .Or (a :: b :: rest) pos) (eOr fa ga) := ⟨pe_imp (pe_or h.pe h2.pe) fun _ _ _ q => q.eOr⟩
/-- a if t else b -/
def eIf (t : TF) (f g : EF) : EF := fun ev h => (t ev h).bind fun b h1 => if b then f ev h1 else g ev h1
theorem Wi.eIf {K : PySem.W.Frag} {mg : Str → Option Value} {t : TF} {f g : EF} {σ : L2.St} {H : Hp} {Q : VK} (h : Wi K mg (VR K) W (FL.eIf t f g) σ H Q) : tIf (Wi K mg RB W t) (Wi K mg (VR K) W f) (Wi K mg (VR K) W g) σ H Q := by
  obtain ⟨m, ah, ev, r, re, q⟩ := Wi.bind (R := RB) h
  refine ⟨m, ah, ev, r, re, ?_⟩
  cases ef : t ev ah with
  | exc c p a => rw [ef] at q; exact q
  | bad => rw [ef] at q; exact q
  | ok b a =>
    rw [ef] at q
    intro m1 H1 b' e1 r1 rb
    obtain ⟨m2, ah2, ev2, b2, r2, re2, rb2, q2⟩ := q m1 H1 b' e1 r1 rb
    cases (show b2 = b' from rb2)
    cases b' with
    | true => exact ⟨m2, ah2, ev2, r2, re2, q2⟩
    | false => exact ⟨m2, ah2, ev2, r2, re2, q2⟩
theorem me_if (hc : MT X W c t) (h : ME X W a fa) (h2 : ME X W b ga) : ME X W (.IfExp c a b pos) (eIf t fa ga) := ⟨pe_imp (pe_ifExp hc.pt h.pe h2.pe) fun _ _ _ q => q.eIf⟩
/-! ### arguments, displays -/
def aNil : AF := fun _ h => .ok [] h
def aCons (f : EF) (g : AF) : AF := fun ev h => (f ev h).bind fun v h1 => (g ev h1).bind fun vs h2 => .ok (v :: vs) h2
theorem Wi.aCons {K : PySem.W.Frag} {mg : Str → Option Value} {f : EF} {g : AF} {σ : L2.St} {H : Hp} {Q : List V → Hp → Prop} (h : Wi K mg (VRs K) W (FL.aCons f g) σ H Q) : tCons (Wi K mg (VR K) W f) (Wi K mg (VRs K) W g) σ H Q := by
  obtain ⟨m, ah, ev, r, re, q⟩ := Wi.bind (R := VR K) h
  refine ⟨m, ah, ev, r, re, ?_⟩
  cases ef : f ev ah with
  | exc c p a => rw [ef] at q; exact q
  | bad => rw [ef] at q; exact q
  | ok v a =>
    rw [ef] at q
    intro m1 H1 x e1 r1 rx
    obtain ⟨m2, ah2, ev2, v2, r2, re2, rv2, q2⟩ := q m1 H1 x e1 r1 rx
    refine ⟨m2, ah2, ev2, r2, re2, ?_⟩
    have q3 := Post.bind (R := VRs K) q2
    cases eg : g ev2 ah2 with
    | exc c p a => rw [eg] at q3; exact q3
    | bad => rw [eg] at q3; exact q3
    | ok w b =>
      rw [eg] at q3
      intro m3 H3 y e3 r3 ry
      obtain ⟨m4, ah4, v4, e4, r4, rv4, q4⟩ := q3 m3 H3 y e3 r3 ry
      exact q4 m4 H3 _ .refl r4 (.cons (rv2.ext r2 e4) rv4)
theorem ma_nil : MA X W [] aNil := ⟨pa_imp pa_nil fun σ H Q ⟨m, ah, ev, r, re, q⟩ => q m H _ .refl r .nil⟩
variable {ta : AF}
theorem ma_cons (h : ME X W e fa) (h2 : MA X W es ta) (hs : starEach (e :: es) X.env = (false, eval e X.env) :: starEach es X.env := by rfl) : MA X W (e :: es) (aCons fa ta) := ⟨pa_imp (pa_cons h.pe h2.pa hs) fun _ _ _ q => q.aCons⟩
abbrev OpN := List Va → AH → Option (Va × AH)
def eAp (o : OpN) (g : AF) : EF := fun ev h => (g ev h).bind fun vs h1 => ofO (o vs h1)
/-- an operation on a list of values, its reading -/
def rN (K : PySem.W.Frag) (o : OpN) : List V → Hp → VK → Prop := fun xs H Q => ∃ m ah ps v ah', HR K H m ah ∧ VRs K H m ps xs ∧ o ps ah = some (v, ah') ∧ ∀ m' H' w, Ext m H m' H' → HR K H' m' ah' → VR K H' m' v w → Q w H'
theorem Wi.eAp {K : PySem.W.Frag} {mg : Str → Option Value} {o : OpN} {g : AF} {σ : L2.St} {H : Hp} {Q : VK} (h : Wi K mg (VR K) W (FL.eAp o g) σ H Q) : Wi K mg (VRs K) W g σ H (fun vs H1 => rN K o vs H1 Q) := by
  obtain ⟨m, ah, ev, r, re, q⟩ := Wi.bind (R := VRs K) h
  refine ⟨m, ah, ev, r, re, ?_⟩
  cases ef : g ev ah with
  | exc c p a => rw [ef] at q; exact q
  | bad => rw [ef] at q; exact q
  | ok v a =>
    rw [ef] at q
    intro m1 H1 x e1 r1 rx
    obtain ⟨m2, ah2, ev2, v2, r2, re2, rv2, q2⟩ := q m1 H1 x e1 r1 rx
    cases eo : o v2 ah2 with
    | none => rw [eo] at q2; exact q2.elim
    | some z =>
      obtain ⟨z, ahz⟩ := z
      rw [eo] at q2
      exact ⟨m2, ah2, v2, z, ahz, r2, rv2, eo, q2⟩
def oTup : OpN := fun xs h => if xs.length ≤ lim then some (.tup xs, h) else none
def oLst : OpN := fun xs h => if xs.length ≤ lim then some (.ref h.length, h ++ [.lst xs]) else none
theorem me_tup {k} (h : MA X W es ta) : ME X W (.Tuple es k pos) (eAp oTup ta) := ⟨pe_imp (pe_tup h.pa) fun σ H Q q => by
  obtain ⟨m, ah, ev, r, re, q⟩ := q.eAp
  refine ⟨m, ah, ev, r, re, ?_⟩
  cases ef : ta ev ah with
  | exc c p a => rw [ef] at q; exact q
  | bad => rw [ef] at q; exact q
  | ok v a =>
    rw [ef] at q
    intro m1 H1 x e1 r1 rx
    obtain ⟨m2, ah2, ps, v2, ah3, r2, rv2, eo, q2⟩ := q m1 H1 x e1 r1 rx
    unfold oTup at eo
    split at eo
    · rename_i hz
      cases eo
      refine ⟨by rw [← rv2.length]; exact lim_line hz, fun p hp => ?_⟩
      have e1 : Ext m2 H1 m2 (upd H1 p (.tup x)) := ext_new r2 hp
      exact q2 m2 _ _ e1 (hr_new r2 hp) (.tup (SqT.of upd_same) (rv2.ext r2 e1))
    · cases eo⟩
theorem me_lst (h : MA X W es ta) : ME X W (.List es pos) (eAp oLst ta) := ⟨pe_imp (pe_lst h.pa) fun σ H Q q => by
  obtain ⟨m, ah, ev, r, re, q⟩ := q.eAp
  refine ⟨m, ah, ev, r, re, ?_⟩
  cases ef : ta ev ah with
  | exc c p a => rw [ef] at q; exact q
  | bad => rw [ef] at q; exact q
  | ok v a =>
    rw [ef] at q
    intro m1 H1 x e1 r1 rx
    obtain ⟨m2, ah2, ps, v2, ah3, r2, rv2, eo, q2⟩ := q m1 H1 x e1 r1 rx
    unfold oLst at eo
    split at eo
    · rename_i hz
      cases eo
      refine ⟨by rw [← rv2.length]; exact lim_line hz, fun p hp => ?_⟩
      refine q2 (m2 ++ [p]) _ _ (ext_lay r2 hp) (hr_lay r2 hp rv2) (.ref ?_)
      rw [← r2.len]; simp
    · cases eo⟩
/-! ### built-ins by name -/
theorem me_callB {x : Str} {id : String} {p : Pos} {o : OpN} (hc : CallR X (.builtin id) (rN X.K o)) (hm : X.mg x = none) (hv : bootBuiltins x = some (.builtin id)) (ha : MA X W (e :: es) ta) (hg : Gl X x := by rfl) (hn : x ≠ "__name__" := by decide) (hdb : (x == ("__debug__" : Str)) = false := by decide)
    (he : starEach (e :: es) X.env = (false, eval e X.env) :: starEach es X.env := by rfl) (hpl : (backTo pos (starEach es X.env)).any (·.1) = false := by rfl) : ME X W (.Call (.Name x p) (e :: es) [] pos) (eAp o ta) :=
  ⟨pe_imp (pe_callB hc hg hm hv ha.pa hn hdb he hpl) fun _ _ _ q => q.eAp⟩
theorem me_callT {x : Str} {T : String} {p : Pos} {o : OpN} (hc : CallR X (.type T) (rN X.K o)) (hm : X.mg x = none) (hv : bootBuiltins x = some (.type T)) (ha : MA X W (e :: es) ta) (hg : Gl X x := by rfl) (hn : x ≠ "__name__" := by decide) (hdb : (x == ("__debug__" : Str)) = false := by decide)
    (he : starEach (e :: es) X.env = (false, eval e X.env) :: starEach es X.env := by rfl) (hpl : (backTo pos (starEach es X.env)).any (·.1) = false := by rfl) : ME X W (.Call (.Name x p) (e :: es) [] pos) (eAp o ta) :=
  ⟨pe_imp (pe_callTy hc hg hm hv ha.pa hn hdb he hpl) fun _ _ _ q => q.eAp⟩
end
section
variable {K : PySem.W.Frag} {H : Hp} {m : List Addr} {ah : AH}
/-- the list at a place -/
def lstAt (h : AH) (l : Nat) : Option (List Va) := match h[l]? with
  | some (.lst xs) => some xs
  | _ => none
theorem lstAt_some {h : AH} {l : Nat} {xs : List Va} (e : lstAt h l = some xs) : h[l]? = some (.lst xs) := by
  unfold lstAt at e
  split at e
  · rename_i ys hl
    rw [hl, Option.some.inj e]
  · cases e
/-- the items of a list or a tuple -/
def seqOf (h : AH) : Va → Option (List Va)
  | .tup xs => some xs
  | .rol xs => some xs
  | .ref l => lstAt h l
  | _ => none
theorem seqOf_ok (r : HR K H m ah) {p : Va} {x : V} {xs : List Va} (h : VR K H m p x) (e : seqOf ah p = some xs) : ∃ a vs, x = .ref a ∧ VRs K H m xs vs ∧ (SqL K H a vs ∨ SqT K H a vs) := by
  cases h with
  | tup ht hv => cases e; exact ⟨_, _, rfl, hv, .inr ht⟩
  | rol ht hv => cases e; exact ⟨_, _, rfl, hv, .inl ht.seq⟩
  | ref ha =>
    obtain ⟨vs, g1, hv⟩ := r.lst ha (lstAt_some e)
    exact ⟨_, vs, rfl, hv, .inl (SqL.of g1)⟩
  | _ => cases e
end
section
variable {X : Cx}
def oLen : OpN := fun ps h => match ps with
  | [.str x] => if x.length ≤ lim then some (.int x.length, h) else none
  | [p] => match seqOf h p with
    | some xs => some (.int xs.length, h)
    | none => none
  | _ => none
theorem vrs1 {K : PySem.W.Frag} {H : Hp} {m : List Addr} {p : Va} {xs : List V} (h : VRs K H m [p] xs) : ∃ x, xs = [x] ∧ VR K H m p x := by
  cases h with
  | cons h1 h2 => cases h2; exact ⟨_, rfl, h1⟩
theorem vrs2 {K : PySem.W.Frag} {H : Hp} {m : List Addr} {p q : Va} {xs : List V} (h : VRs K H m [p, q] xs) : ∃ x y, xs = [x, y] ∧ VR K H m p x ∧ VR K H m q y := by
  cases h with
  | cons h1 h2 =>
    obtain ⟨y, rfl, h3⟩ := vrs1 h2
    exact ⟨_, _, rfl, h1, h3⟩
theorem call_oLen : CallR X (.builtin "len") (rN X.K oLen) := by
  refine CallR.imp call_len fun xs H Q ⟨m, ah, ps, v, ah', r, rp, e, k⟩ => ?_
  unfold oLen at e
  split at e
  · split at e
    · rename_i x hz
      cases e
      obtain ⟨x, rfl, h1⟩ := vrs1 rp
      cases h1
      exact ⟨_, _, rfl, ⟨lim_line hz, rfl⟩, k m H _ .refl r (.int _)⟩
    · cases e
  · rename_i p _
    obtain ⟨x, rfl, h1⟩ := vrs1 rp
    cases hs : seqOf ah p with
    | none => rw [hs] at e; cases e
    | some ys =>
      rw [hs] at e
      cases e
      obtain ⟨a, vs, rfl, hv, hq⟩ := seqOf_ok r h1 hs
      refine ⟨_, ys.length, rfl, ?_, k m H _ .refl r (.int _)⟩
      rcases hq with hq | hq
      · exact .inl ⟨vs, hq, hv.length⟩
      · exact .inr ⟨vs, hq, hv.length⟩
  · cases e
def oAbs : OpN := fun ps h => match ps with
  | [.int i] => some (.int (if i < 0 then -i else i), h)
  | _ => none
theorem call_oAbs : CallR X (.builtin "abs") (rN X.K oAbs) := by
  refine CallR.imp call_abs fun xs H Q ⟨m, ah, ps, v, ah', r, rp, e, k⟩ => ?_
  unfold oAbs at e
  split at e
  · cases e
    obtain ⟨x, rfl, h1⟩ := vrs1 rp
    cases h1
    exact ⟨_, rfl, k m H _ .refl r (.int _)⟩
  · cases e
def oInt : OpN := fun ps h => match ps with
  | [.int i] => some (.int i, h)
  | [.bl b] => some (.int (if b then 1 else 0), h)
  | _ => none
theorem call_oInt : CallR X (.type "int") (rN X.K oInt) := by
  refine CallR.imp call_int1 fun xs H Q ⟨m, ah, ps, v, ah', r, rp, e, k⟩ => ?_
  unfold oInt at e
  split at e
  · cases e
    obtain ⟨x, rfl, h1⟩ := vrs1 rp
    cases h1
    exact .inl ⟨_, rfl, k m H _ .refl r (.int _)⟩
  · cases e
    obtain ⟨x, rfl, h1⟩ := vrs1 rp
    cases h1
    exact .inr ⟨_, rfl, k m H _ .refl r (.int _)⟩
  · cases e
/-- an empty dict's text -/
def isDct0 (h : AH) : Va → Bool
  | .ref l => match h[l]? with
    | some (.dct []) => true
    | _ => false
  | _ => false
def oReprN : OpN := fun ps h => match ps with
  | [p] => if isDct0 h p then some (.str "{}", h) else match oRepr p h with
    | some r => some r
    | none => oReprE p h
  | _ => none
/-- repr of a written dict without entries -/
def rDct0 : List V → Hp → VK → Prop := fun xs H Q => ∃ a, xs = [.ref a] ∧ H a = some (.dK []) ∧ Q (.str "{}") H
theorem call_dct0 (hun : X.A.units + 200 < cLine) (hg : X.A.guards = some []) : CallR X (.builtin "repr") rDct0 := by
  rintro pins s σ H xs us Q I rx ⟨a, rfl, ha, q⟩
  obtain ⟨u, rfl, ru⟩ := vals1 rx
  obtain rfl : u = Value.ref a := ru
  obtain ⟨_, hne, vs, hv, hd⟩ := L2.dk_of I.hok ha
  cases vs with
  | cons _ _ => cases hv
  | nil =>
  obtain ⟨o, es, ep, ho, hx, hdat, _, hp, _⟩ := hd
  have hc : o.cls = .type "dict" := hx.1
  have hes : es.toList = [] := List.eq_nil_of_length_eq_zero hp.length
  have rd : Reads s.heap (.ref a) (.dict []) (a :: [] ++ []) := .dict ho hc hdat (by rw [hes]; exact .nil) (by rw [hes]; exact .nil)
  refine repr_of_reads' rd rfl (fun _ hm => ?_) hg (by show _ + (_ + 1) < _; have : (PyData.dict []).depth ≤ 3 := by decide
                                                       omega) (fun _ _ e => e) (fun h' u tk hk => ⟨.str "{}", H, I.kept hk, ⟨u, rfl⟩, q⟩) (by decide +kernel)
  simp at hm
  rw [hm] at hne
  simp at hne
theorem call_oReprNU (hun : X.A.units + 200 < cLine) (hg : X.A.guards = some []) : CallR X (.builtin "repr") (rN X.K oReprN) := by
  refine CallR.imp ((call_oReprU hun hg).or ((call_dct0 hun hg).or (call_oReprE hun hg))) fun xs H Q ⟨m, ah, ps, v, ah', r, rp, e, k⟩ => ?_
  unfold oReprN at e
  split at e
  · rename_i p
    obtain ⟨x, rfl, h1⟩ := vrs1 rp
    split at e
    · rename_i hz
      cases e
      unfold isDct0 at hz
      split at hz
      · split at hz
        · rename_i l hl
          cases h1 with
          | ref h1 =>
            obtain ⟨ps, g1, g2⟩ := r.at_ _ _ _ h1 hl
            refine .inr (.inl ⟨_, rfl, ?_, k m H _ .refl r (.str _)⟩)
            rw [g1]
            cases ps with
            | nil => rfl
            | cons _ _ => cases g2
        · cases hz
      · cases hz
    · split at e
      · rename_i z hz
        cases e
        exact .inl ⟨x, m, ah, _, v, ah', rfl, r, h1, hz, k⟩
      · exact .inr (.inr ⟨x, m, ah, _, v, ah', rfl, r, h1, e, k⟩)
  · cases e
theorem call_oReprN {k : Nat} (hr : Room k X.A) (hg : X.A.guards = some []) : CallR X (.builtin "repr") (rN X.K oReprN) := call_oReprNU (by have := hr.un; omega) hg
def allB : List Va → Option (List Bool)
  | [] => some []
  | .bl b :: xs => (allB xs).map (b :: ·)
  | _ => none
def allI : List Va → Option (List Int)
  | [] => some []
  | .int i :: xs => (allI xs).map (i :: ·)
  | _ => none
theorem allB_ok {K : PySem.W.Frag} {H : Hp} {m : List Addr} : ∀ {xs : List Va} {bs : List Bool} {vs : List V}, allB xs = some bs → VRs K H m xs vs → vs = bs.map V.bl
  | [], bs, vs, e, h => by cases e; cases h; rfl
  | .bl b :: xs, bs, vs, e, h => by
    cases h with
    | cons h1 h2 =>
      unfold allB at e
      cases q : allB xs with
      | none => rw [q] at e; cases e
      | some cs =>
        rw [q] at e
        cases e
        rw [h1.bl_inv, allB_ok q h2]
        rfl
  | .non :: _, _, _, e, _ | .int _ :: _, _, _, e, _ | .str _ :: _, _, _, e, _ | .tup _ :: _, _, _, e, _ | .ref _ :: _, _, _, e, _ | .rol _ :: _, _, _, e, _ | .dv _ :: _, _, _, e, _ | .exo _ :: _, _, _, e, _ | .exn _ _ _ _ :: _, _, _, e, _ | .rp _ :: _, _, _, e, _ => by unfold allB at e; cases e
theorem allI_ok {K : PySem.W.Frag} {H : Hp} {m : List Addr} : ∀ {xs : List Va} {bs : List Int} {vs : List V}, allI xs = some bs → VRs K H m xs vs → vs = bs.map V.int
  | [], bs, vs, e, h => by cases e; cases h; rfl
  | .int b :: xs, bs, vs, e, h => by
    cases h with
    | cons h1 h2 =>
      unfold allI at e
      cases q : allI xs with
      | none => rw [q] at e; cases e
      | some cs =>
        rw [q] at e
        cases e
        rw [h1.int_inv, allI_ok q h2]
        rfl
  | .non :: _, _, _, e, _ | .bl _ :: _, _, _, e, _ | .str _ :: _, _, _, e, _ | .tup _ :: _, _, _, e, _ | .ref _ :: _, _, _, e, _ | .rol _ :: _, _, _, e, _ | .dv _ :: _, _, _, e, _ | .exo _ :: _, _, _, e, _ | .exn _ _ _ _ :: _, _, _, e, _ | .rp _ :: _, _, _, e, _ => by unfold allI at e; cases e
/-- the items of a list (not a tuple) -/
def lstOf (h : AH) : Va → Option (List Va)
  | .rol xs => some xs
  | .ref l => lstAt h l
  | _ => none
theorem lstOf_ok {K : PySem.W.Frag} {H : Hp} {m : List Addr} {ah : AH} (r : HR K H m ah) {p : Va} {x : V} {xs : List Va} (h : VR K H m p x) (e : lstOf ah p = some xs) : ∃ a vs, x = .ref a ∧ VRs K H m xs vs ∧ SqL K H a vs := by
  cases h with
  | rol ht hv => cases e; exact ⟨_, _, rfl, hv, ht.seq⟩
  | ref ha =>
    obtain ⟨vs, g1, hv⟩ := r.lst ha (lstAt_some e)
    exact ⟨_, vs, rfl, hv, SqL.of g1⟩
  | _ => cases e
def oAll : OpN := fun ps h => match ps with
  | [p] => match (lstOf h p).bind allB with
    | some bs => some (.bl (bs.all id), h)
    | none => none
  | _ => none
def oAny : OpN := fun ps h => match ps with
  | [p] => match (lstOf h p).bind allB with
    | some bs => some (.bl (bs.any id), h)
    | none => none
  | _ => none
def oSum : OpN := fun ps h => match ps with
  | [p] => match (lstOf h p).bind allI with
    | some bs => some (.int bs.sum, h)
    | none => none
  | _ => none
theorem call_oAll (hc : X.calm = true) : CallR X (.builtin "all") (rN X.K oAll) := by
  refine CallR.imp (cr_all hc) fun xs H Q ⟨m, ah, ps, v, ah', r, rp, e, k⟩ => ?_
  unfold oAll at e
  split at e
  · rename_i p
    obtain ⟨x, rfl, h1⟩ := vrs1 rp
    cases hs : lstOf ah p with
    | none => rw [hs] at e; cases e
    | some ys =>
      rw [hs] at e
      cases hb : allB ys with
      | none => rw [Option.bind_some, hb] at e; cases e
      | some bs =>
        rw [Option.bind_some, hb] at e
        cases e
        obtain ⟨a, vs, rfl, hv, hq⟩ := lstOf_ok r h1 hs
        rw [allB_ok hb hv] at hq
        exact ⟨a, bs, rfl, hq, k m H _ .refl r (.bl _)⟩
  · cases e
theorem call_oAny (hc : X.calm = true) : CallR X (.builtin "any") (rN X.K oAny) := by
  refine CallR.imp (cr_any hc) fun xs H Q ⟨m, ah, ps, v, ah', r, rp, e, k⟩ => ?_
  unfold oAny at e
  split at e
  · rename_i p
    obtain ⟨x, rfl, h1⟩ := vrs1 rp
    cases hs : lstOf ah p with
    | none => rw [hs] at e; cases e
    | some ys =>
      rw [hs] at e
      cases hb : allB ys with
      | none => rw [Option.bind_some, hb] at e; cases e
      | some bs =>
        rw [Option.bind_some, hb] at e
        cases e
        obtain ⟨a, vs, rfl, hv, hq⟩ := lstOf_ok r h1 hs
        rw [allB_ok hb hv] at hq
        exact ⟨a, bs, rfl, hq, k m H _ .refl r (.bl _)⟩
  · cases e
/-- list(x), tuple(x) of a list or a tuple -/
def oList : OpN := fun ps h => match ps with
  | [p] => match seqOf h p with
    | some xs => some (.ref h.length, h ++ [.lst xs])
    | none => none
  | _ => none
def oTuple : OpN := fun ps h => match ps with
  | [p] => match seqOf h p with
    | some xs => some (.tup xs, h)
    | none => none
  | _ => none
theorem call_oList : CallR X (.type "list") (rN X.K oList) := by
  refine CallR.imp call_list_of fun xs H Q ⟨m, ah, ps, v, ah', r, rp, e, k⟩ => ?_
  unfold oList at e
  split at e
  · rename_i p
    obtain ⟨x, rfl, h1⟩ := vrs1 rp
    cases hs : seqOf ah p with
    | none => rw [hs] at e; cases e
    | some ys =>
      rw [hs] at e
      cases e
      obtain ⟨a, vs, rfl, hv, hq⟩ := seqOf_ok r h1 hs
      refine ⟨a, vs, rfl, hq, fun p hp => k (m ++ [p]) _ _ (ext_lay r hp) (hr_lay r hp hv) (.ref ?_)⟩
      rw [← r.len]; simp
  · cases e
theorem call_oTuple : CallR X (.type "tuple") (rN X.K oTuple) := by
  refine CallR.imp call_tuple_of fun xs H Q ⟨m, ah, ps, v, ah', r, rp, e, k⟩ => ?_
  unfold oTuple at e
  split at e
  · rename_i p
    obtain ⟨x, rfl, h1⟩ := vrs1 rp
    cases hs : seqOf ah p with
    | none => rw [hs] at e; cases e
    | some ys =>
      rw [hs] at e
      cases e
      obtain ⟨a, vs, rfl, hv, hq⟩ := seqOf_ok r h1 hs
      rcases hq with hq | hq
      · refine ⟨a, vs, rfl, .inl ⟨hq, fun p hp => ?_⟩⟩
        have e1 : Ext m H m (upd H p (.tup vs)) := ext_new r hp
        exact k m _ _ e1 (hr_new r hp) (.tup (SqT.of upd_same) (hv.ext r e1))
      · exact ⟨a, vs, rfl, .inr ⟨hq, k m H _ .refl r (.tup hq hv)⟩⟩
  · cases e
/-- max, min -/
def oMax : OpN := fun ps h => match ps with
  | [.int i, .int j] => some (.int (if j > i then j else i), h)
  | [p] => match (lstOf h p).bind allI with
    | some (b :: bs) => some (.int (bs.foldl max b), h)
    | _ => none
  | _ => none
def oMin : OpN := fun ps h => match ps with
  | [.int i, .int j] => some (.int (if j < i then j else i), h)
  | [p] => match (lstOf h p).bind allI with
    | some (b :: bs) => some (.int (bs.foldl min b), h)
    | _ => none
  | _ => none
theorem foldl_max (l : List Int) : ∀ b : Int, (∀ y ∈ b :: l, y ≤ l.foldl max b) ∧ l.foldl max b ∈ b :: l := by
  induction l with
  | nil => intro b; simp
  | cons a l ih =>
    intro b
    obtain ⟨h1, h2⟩ := ih (max b a)
    refine ⟨fun y hy => ?_, ?_⟩
    · have hm := h1 (max b a) List.mem_cons_self
      show y ≤ l.foldl max (max b a)
      rcases List.mem_cons.mp hy with rfl | hy
      · omega
      · rcases List.mem_cons.mp hy with rfl | hy
        · omega
        · exact h1 y (List.mem_cons_of_mem _ hy)
    · show l.foldl max (max b a) ∈ _
      rcases List.mem_cons.mp h2 with h | h
      · rw [h]
        by_cases hba : b ≤ a
        · rw [Int.max_eq_right hba]; simp
        · rw [Int.max_eq_left (by omega)]; simp
      · exact List.mem_cons_of_mem _ (List.mem_cons_of_mem _ h)
theorem foldl_min (l : List Int) : ∀ b : Int, (∀ y ∈ b :: l, l.foldl min b ≤ y) ∧ l.foldl min b ∈ b :: l := by
  induction l with
  | nil => intro b; simp
  | cons a l ih =>
    intro b
    obtain ⟨h1, h2⟩ := ih (min b a)
    refine ⟨fun y hy => ?_, ?_⟩
    · have hm := h1 (min b a) List.mem_cons_self
      show l.foldl min (min b a) ≤ y
      rcases List.mem_cons.mp hy with rfl | hy
      · omega
      · rcases List.mem_cons.mp hy with rfl | hy
        · omega
        · exact h1 y (List.mem_cons_of_mem _ hy)
    · show l.foldl min (min b a) ∈ _
      rcases List.mem_cons.mp h2 with h | h
      · rw [h]
        by_cases hba : b ≤ a
        · rw [Int.min_eq_left hba]; simp
        · rw [Int.min_eq_right (by omega)]; simp
      · exact List.mem_cons_of_mem _ (List.mem_cons_of_mem _ h)
theorem call_oMax (hc : X.calm = true) : CallR X (.builtin "max") (rN X.K oMax) := by
  refine CallR.imp (CallR.or (call_max2 hc) (cr_max hc)) fun xs H Q ⟨m, ah, ps, v, ah', r, rp, e, k⟩ => ?_
  unfold oMax at e
  split at e
  · cases e
    obtain ⟨x, y, rfl, h1, h2⟩ := vrs2 rp
    cases h1; cases h2
    exact .inl ⟨_, _, rfl, k m H _ .refl r (.int _)⟩
  · rename_i p
    obtain ⟨x, rfl, h1⟩ := vrs1 rp
    split at e
    · rename_i b bs hb
      cases e
      cases hs : lstOf ah p with
      | none => rw [hs] at hb; cases hb
      | some ys =>
        rw [hs, Option.bind_some] at hb
        obtain ⟨a, vs, rfl, hv, hq⟩ := lstOf_ok r h1 hs
        rw [allI_ok hb hv] at hq
        refine .inr ⟨a, b :: bs, rfl, hq, by simp, fun z hz hle => ?_⟩
        obtain ⟨g1, g2⟩ := foldl_max bs b
        have : z = bs.foldl max b := by
          have := g1 z hz
          have := hle _ g2
          omega
        rw [this]
        exact k m H _ .refl r (.int _)
    · cases e
  · cases e
theorem call_oMin (hc : X.calm = true) : CallR X (.builtin "min") (rN X.K oMin) := by
  refine CallR.imp (CallR.or (call_min2 hc) (cr_min hc)) fun xs H Q ⟨m, ah, ps, v, ah', r, rp, e, k⟩ => ?_
  unfold oMin at e
  split at e
  · cases e
    obtain ⟨x, y, rfl, h1, h2⟩ := vrs2 rp
    cases h1; cases h2
    exact .inl ⟨_, _, rfl, k m H _ .refl r (.int _)⟩
  · rename_i p
    obtain ⟨x, rfl, h1⟩ := vrs1 rp
    split at e
    · rename_i b bs hb
      cases e
      cases hs : lstOf ah p with
      | none => rw [hs] at hb; cases hb
      | some ys =>
        rw [hs, Option.bind_some] at hb
        obtain ⟨a, vs, rfl, hv, hq⟩ := lstOf_ok r h1 hs
        rw [allI_ok hb hv] at hq
        refine .inr ⟨a, b :: bs, rfl, hq, by simp, fun z hz hle => ?_⟩
        obtain ⟨g1, g2⟩ := foldl_min bs b
        have : z = bs.foldl min b := by
          have := g1 z hz
          have := hle _ g2
          omega
        rw [this]
        exact k m H _ .refl r (.int _)
    · cases e
  · cases e
end
end FL

set_option Elab.async false
set_option linter.all false
set_option maxRecDepth 100000
/-! FL6: subscripts, slices, isinstance, chains, negative numbers, powers. -/
namespace FL
open PySem PySem.Spec PyProof.Rows L2
variable [Tabz]
section
variable {K : PySem.W.Frag} {H : Hp} {m : List Addr} {ah : AH}
theorem VRs.atI {xs : List Va} {vs : List V} {i : Int} {x : Va} (h : VRs K H m xs vs) (e : L2.atI xs i = some x) : ∃ v, L2.atI vs i = some v ∧ VR K H m x v := by
  unfold L2.atI at e ⊢
  rw [← h.length]
  cases q : ixN xs.length i with
  | none => rw [q] at e; cases e
  | some j =>
    rw [q] at e
    exact h.get e
end
def oIx : Op2 := fun p q h => match q with
  | .int i => match p with
    | .str x => if x.length ≤ lim then (atI x.cps.toList i).map fun c => (.str ⟨#[c]⟩, h) else none
    | p => match seqOf h p with
      | some xs => (atI xs i).map fun v => (v, h)
      | none => none
  | _ => none
def cutA (xs : List Va) (lo hi : Option Int) : List Va := (xs.drop (HT.sIx xs.length 0 lo)).take (HT.sIx xs.length xs.length hi - HT.sIx xs.length 0 lo)
theorem VRs.cut {K : PySem.W.Frag} {H : Hp} {m : List Addr} {xs : List Va} {vs : List V} (h : VRs K H m xs vs) (lo hi : Option Int) : VRs K H m (cutA xs lo hi) (cutV vs lo hi) := by
  unfold cutA cutV
  rw [h.length]
  exact (h.drop _).take _
theorem cut_whole {vs : List V} {lo hi : Option Int} (h : HT.sIx vs.length 0 lo = 0 ∧ HT.sIx vs.length vs.length hi = vs.length) : cutV vs lo hi = vs := by
  unfold cutV
  rw [h.1, h.2]
  simp
/-- a part of a sequence -/
def oSl (p : Va) (lo hi : Option Int) (h : AH) : Option (Va × AH) := match p with
  | .str x => if x.length ≤ lim then some (.str (cutS x lo hi), h) else none
  | .tup xs => some (.tup (cutA xs lo hi), h)
  | p => match lstOf h p with
    | some xs => some (.ref h.length, h ++ [.lst (cutA xs lo hi)])
    | none => none
section
variable {X : Cx} {W : WX} {a b : Expr} {f g : EF} {pos : Pos}
theorem ix_o : IxR X (rO X.K oIx) := by
  have base : IxR X (rIx X.K) := ix_seq
  refine fun value slice pins s σ H x y v u Q I rx ry h hs => base value slice pins s σ H x y v u Q I rx ry ?_ hs
  obtain ⟨m, ah, p, q, z, ah', r, rp, rq, e, k⟩ := h
  unfold oIx at e
  split at e
  · rename_i i
    have ei := rq.int_inv
    split at e
    · rename_i x'
      split at e
      · rename_i hz
        cases q : atI x'.cps.toList i with
        | none => rw [q] at e; cases e
        | some c =>
          rw [q] at e
          cases e
          exact .inr (.inr ⟨_, _, c, rp.str_inv, ei, lim_line hz, q, k m H _ .refl r (.str _)⟩)
      · cases e
    · cases hq : seqOf ah p with
      | none => rw [hq] at e; cases e
      | some xs =>
        rw [hq] at e
        cases q : atI xs i with
        | none => simp only [q] at e; cases e
        | some w =>
          simp only [q] at e
          cases e
          obtain ⟨a, vs, rfl, hv, hsq⟩ := seqOf_ok r rp hq
          obtain ⟨w', h1, h2⟩ := hv.atI q
          rcases hsq with hsq | hsq
          · exact .inl ⟨a, vs, i, w', rfl, ei, hsq, h1, k m H _ .refl r h2⟩
          · exact .inr (.inl ⟨a, vs, i, w', rfl, ei, hsq, h1, k m H _ .refl r h2⟩)
  · cases e
theorem me_ix (ha : ME X W a f) (hb : ME X W b g) (hs : PlainIx b := by exact fun _ _ => rfl) : ME X W (.Subscript a b pos) (eOp oIx f g) := ⟨pe_imp (pe_ix ix_o ha.pe hb.pe hs) fun _ _ _ h => h.op⟩
/-! ### slices -/
structure MO (X : Cx) (W : WX) (e : Option Expr) (f : Ev → AH → Rs (Option Int)) : Prop where
  po : PO X e (Wi X.K X.mg (fun _ _ a b => a = b) W f)
theorem po_imp {o : Option Expr} {t t' : TO} (h : PO X o t) (i : ∀ σ H Q, t' σ H Q → t σ H Q) : PO X o t' := ⟨fun pins s σ H Q I q => h.run pins s σ H Q I (i σ H Q q)⟩
def lNone : Ev → AH → Rs (Option Int) := fun _ h => .ok none h
def lSome (f : EF) : Ev → AH → Rs (Option Int) := fun ev h => (f ev h).bind fun v h1 => match v with | .int i => .ok (some i) h1 | _ => .bad
theorem mo_none : MO X W none lNone := ⟨po_imp po_none fun σ H Q ⟨m, ah, ev, r, re, q⟩ => q m H none .refl r rfl⟩
theorem mo_some (h : ME X W a f) : MO X W (some a) (lSome f) := ⟨po_imp (po_some h.pe) fun σ H Q q => by
  obtain ⟨m, ah, ev, r, re, q⟩ := Wi.bind (R := VR X.K) q
  refine ⟨m, ah, ev, r, re, ?_⟩
  cases ef : f ev ah with
  | exc c p a => rw [ef] at q; exact q
  | bad => rw [ef] at q; exact q
  | ok v a =>
    rw [ef] at q
    intro m1 H1 x e1 r1 rx
    obtain ⟨m2, ah2, ev2, v2, r2, re2, rv2, q2⟩ := q m1 H1 x e1 r1 rx
    cases v2 with
    | int i => exact ⟨i, rv2.int_inv, q2 m2 H1 (some i) .refl r2 rfl⟩
    | _ => exact q2.elim⟩
def rSl (K : PySem.W.Frag) : V → Option Int → Option Int → Hp → VK → Prop := fun x lo hi H Q => ∃ m ah p v ah', HR K H m ah ∧ VR K H m p x ∧ oSl p lo hi ah = some (v, ah') ∧ ∀ m' H' w, Ext m H m' H' → HR K H' m' ah' → VR K H' m' v w → Q w H'
theorem sl_o : SlR X (rSl X.K) := by
  have base := SlR.or (X := X) sl_tupA (SlR.or sl_str sl_list)
  refine fun pins s σ H x v vl vu lo hi sl Q I rx hs pl pu h => base pins s σ H x v vl vu lo hi sl Q I rx hs pl pu ?_
  obtain ⟨m, ah, p, z, ah', r, rp, e, k⟩ := h
  unfold oSl at e
  split at e
  · split at e
    · rename_i hz
      cases e
      exact .inr (.inl ⟨_, rp.str_inv, lim_line hz, k m H _ .refl r (.str _)⟩)
    · cases e
  · cases e
    cases rp with
    | @tup _ a vs ha hv =>
      refine .inl ⟨a, vs, rfl, ha, fun hw => ?_, fun hw p hp => ?_⟩
      · refine k m H _ .refl r (.tup ha ?_)
        have := hv.cut lo hi
        rw [cut_whole hw] at this
        exact this
      · have e1 : Ext m H m (upd H p (.tup (cutV vs lo hi))) := ext_new r hp
        exact k m _ _ e1 (hr_new r hp) (.tup (SqT.of upd_same) ((hv.cut lo hi).ext r e1))
  · cases hq : lstOf ah p with
    | none => rw [hq] at e; cases e
    | some xs =>
      rw [hq] at e
      cases e
      obtain ⟨a, vs, rfl, hv, hsq⟩ := lstOf_ok r rp hq
      refine .inr (.inr ⟨a, vs, rfl, hsq, fun p hp => k (m ++ [p]) _ _ (ext_lay r hp) (hr_lay r hp (hv.cut lo hi)) (.ref ?_)⟩)
      rw [← r.len]; simp
def eSl (f : EF) (lo hi : Ev → AH → Rs (Option Int)) : EF := fun ev h => (f ev h).bind fun v h1 => (lo ev h1).bind fun l h2 => (hi ev h2).bind fun u h3 => ofO (oSl v l u h3)
theorem me_sl {lo hi : Option Expr} {fl fh : Ev → AH → Rs (Option Int)} {p2 : Pos} (ha : ME X W a f) (hl : MO X W lo fl) (hh : MO X W hi fh) : ME X W (.Subscript a (.Slice lo hi none p2) pos) (eSl f fl fh) := ⟨pe_imp (pe_slice sl_o ha.pe hl.po hh.po) fun σ H Q q => by
  obtain ⟨m, ah, ev, r, re, q⟩ := Wi.bind (R := VR X.K) q
  refine ⟨m, ah, ev, r, re, ?_⟩
  cases ef : f ev ah with
  | exc c p a => rw [ef] at q; exact q
  | bad => rw [ef] at q; exact q
  | ok v a =>
    rw [ef] at q
    intro m1 H1 x e1 r1 rx
    obtain ⟨m2, ah2, ev2, v2, r2, re2, rv2, q2⟩ := q m1 H1 x e1 r1 rx
    refine ⟨m2, ah2, ev2, r2, re2, ?_⟩
    have q3 := Post.bind (R := fun _ _ (a b : Option Int) => a = b) q2
    cases el : fl ev2 ah2 with
    | exc c p a => rw [el] at q3; exact q3
    | bad => rw [el] at q3; exact q3
    | ok l b =>
      rw [el] at q3
      intro m3 H3 y e3 r3 ry
      obtain ⟨m4, ah4, l4, e4, r4, rl4, q4⟩ := q3 m3 H3 y e3 r3 ry
      refine ⟨m4, ah4, ev2, r4, re2.ext r2 e4, ?_⟩
      have q5 := Post.bind (R := fun _ _ (a b : Option Int) => a = b) q4
      cases eh : fh ev2 ah4 with
      | exc c p a => rw [eh] at q5; exact q5
      | bad => rw [eh] at q5; exact q5
      | ok u c =>
        rw [eh] at q5
        intro m5 H5 z e5 r5 rz
        obtain ⟨m6, ah6, u6, e6, r6, ru6, q6⟩ := q5 m5 H5 z e5 r5 rz
        subst rl4 ru6
        cases eo : oSl v2 l4 u6 ah6 with
        | none => rw [eo] at q6; exact q6.elim
        | some w =>
          obtain ⟨w, ahw⟩ := w
          rw [eo] at q6
          exact ⟨m6, ah6, v2, w, ahw, r6, (rv2.ext r2 e4).ext r4 e6, eo, q6⟩⟩
/-! ### isinstance -/
def tyName : AH → Va → Option String
  | _, .non => some "NoneType"
  | _, .bl _ => some "bool"
  | _, .int _ => some "int"
  | _, .str _ => some "str"
  | _, .rp _ => some "str"
  | _, .tup _ => some "tuple"
  | _, .rol _ => some "list"
  | _, .dv _ => none
  | _, .exo _ => none
  | _, .exn _ _ _ _ => none
  | h, .ref l => match h[l]? with
    | some (.lst _) => some "list"
    | some (.dct _) => some "dict"
    | some (.dtl _) => none
    | some (.ins _ _) => none
    | none => none
theorem tyName_ok {K : PySem.W.Frag} {H : Hp} {m : List Addr} {ah : AH} (r : HR K H m ah) {p : Va} {x : V} {t : String} (h : VR K H m p x) (e : tyName ah p = some t) : TyX K H x (.type t) := by
  cases h with
  | non => cases e; exact .base .non
  | bl b => cases e; exact .base (.bl b)
  | int b => cases e; exact .base (.int b)
  | str b => cases e; exact .base (.str b)
  | rp b => cases e; exact .base (.str _)
  | tup ht hv =>
    cases e
    rcases ht with (ht | ⟨o, ht⟩) | ⟨o, its, n, h1, h2, _⟩
    · exact .base (.tup ht)
    · exact .fTuple ht
    · exact .kTuple h1 h2
  | rol ht hv =>
    cases e
    rcases ht with ⟨o, ht⟩ | ⟨o, its, n, h1, h2, _⟩
    · exact .base (.frz ht)
    · exact .kList h1 h2
  | dv hd => cases e
  | exo _ => cases e
  | exn _ _ => cases e
  | @ref l a ha =>
    cases q : ah[l]? with
    | none => simp only [tyName, q] at e; cases e
    | some o =>
      cases o with
      | lst xs =>
        simp only [tyName, q] at e; cases e
        obtain ⟨vs, g1, _⟩ := r.at_ _ _ _ ha q
        exact .base (.lst g1)
      | dct xs =>
        simp only [tyName, q] at e; cases e
        obtain ⟨vs, g1, _⟩ := r.at_ _ _ _ ha q
        exact .base (.dK g1)
      | dtl xs => simp only [tyName, q] at e; cases e
      | ins c fs => simp only [tyName, q] at e; cases e
def isiT (t T : String) : Bool := t == T || (t == "bool" && T == "int")
def tyNames : List String := ["NoneType", "bool", "int", "str", "tuple", "list", "dict"]
theorem tyName_mem {ah : AH} {p : Va} {t : String} (e : tyName ah p = some t) : t ∈ tyNames := by
  unfold tyName at e
  split at e <;> first | (cases e; decide) | (cases e; done) | (split at e <;> first | (cases e; decide) | cases e)
def eIsi (T : String) (f : EF) : EF := fun ev h => (f ev h).bind fun v h1 => match tyName h1 v with
  | some t => .ok (.bl (isiT t T)) h1
  | none => .bad
theorem isi_kit {K : PySem.W.Frag} {T : String} (hT : (tyNames.all fun t => decide (kitB t T = some (isiT t T))) = true) {t : String} (h : t ∈ tyNames) : PySem.W.kitOne K (.type t) (.type T) = some (isiT t T) :=
  kit_ty (of_decide_eq_true (List.all_eq_true.mp hT t h))
theorem me_isi {x : Str} {T : String} {p p2 : Pos} (hm : X.mg "isinstance" = none) (hm2 : X.mg x = none) (hv2 : bootBuiltins x = some (.type T)) (hT : (tyNames.all fun t => decide (kitB t T = some (isiT t T))) = true) (ha : ME X W a f)
    (hg : Gl X "isinstance" := by rfl) (hg2 : Gl X x := by rfl) (hn : x ≠ "__name__" := by decide) (hdb : (x == ("__debug__" : Str)) = false := by decide)
    (hv : bootBuiltins "isinstance" = some (.builtin "isinstance") := by decide +kernel)
    (he : starEach (a :: [.Name x p2]) X.env = (false, eval a X.env) :: starEach [.Name x p2] X.env := by rfl) (he2 : starEach [.Name x p2] X.env = (false, eval (.Name x p2) X.env) :: starEach [] X.env := by rfl) (hpl : (backTo pos (starEach [.Name x p2] X.env)).any (·.1) = false := by rfl) :
    ME X W (.Call (.Name "isinstance" p) [a, .Name x p2] [] pos) (eIsi T f) := ⟨pe_imp (pe_callB call_isi hg hm hv (pa_cons ha.pe (pa_cons (pe_bltn (v := .ty T) hg2 hm2 hv2 rfl hn hdb) pa_nil he2) he) (by decide) (by decide) he hpl) fun σ H Q q => by
  obtain ⟨m, ah, ev, r, re, q⟩ := Wi.bind (R := VR X.K) q
  refine ⟨m, ah, ev, r, re, ?_⟩
  cases ef : f ev ah with
  | exc c p a => rw [ef] at q; exact q
  | bad => rw [ef] at q; exact q
  | ok v a =>
    rw [ef] at q
    intro m1 H1 x e1 r1 rx
    obtain ⟨m2, ah2, ev2, v2, r2, re2, rv2, q2⟩ := q m1 H1 x e1 r1 rx
    cases et : tyName ah2 v2 with
    | none => simp only [et] at q2; exact q2.elim
    | some t =>
      simp only [et] at q2
      exact ⟨x, .ty T, .type t, .type T, isiT t T, rfl, .ty T, tyName_ok r2 rv2 et, isi_kit hT (tyName_mem et), q2 m2 H1 _ .refl r2 (.bl _)⟩⟩
theorem isi_int : (tyNames.all fun t => decide (kitB t "int" = some (isiT t "int"))) = true := by decide +kernel
theorem isi_bool : (tyNames.all fun t => decide (kitB t "bool" = some (isiT t "bool"))) = true := by decide +kernel
theorem isi_tuple : (tyNames.all fun t => decide (kitB t "tuple" = some (isiT t "tuple"))) = true := by decide +kernel
/-! ### -a -/
def oNeg : Op1 := fun p h => match p with | .int i => some (.int (-i), h) | _ => none
def eUn (o : Op1) (f : EF) : EF := fun ev h => (f ev h).bind fun v h1 => ofO (o v h1)
theorem me_neg (ha : ME X W a f) : ME X W (.UnaryOp .USub a pos) (eUn oNeg f) := ⟨pe_imp (pe_un un_neg ha.pe) fun σ H Q q => by
  obtain ⟨m, ah, ev, r, re, q⟩ := Wi.bind (R := VR X.K) q
  refine ⟨m, ah, ev, r, re, ?_⟩
  cases ef : f ev ah with
  | exc c p a => rw [ef] at q; exact q
  | bad => rw [ef] at q; exact q
  | ok v a =>
    rw [ef] at q
    intro m1 H1 x e1 r1 rx
    obtain ⟨m2, ah2, ev2, v2, r2, re2, rv2, q2⟩ := q m1 H1 x e1 r1 rx
    unfold oNeg at q2
    split at q2
    · exact ⟨_, rv2.int_inv, q2 m2 H1 _ .refl r2 (.int _)⟩
    · exact q2.elim⟩
/-! ### a < b < c -/
def eChain (o o' : Op2) (f g t : EF) : EF := fun ev h => (f ev h).bind fun v h1 => (g ev h1).bind fun w h2 => match o v w h2 with
  | some (.bl true, h3) => (t ev h3).bind fun u h4 => ofO (o' w u h4)
  | some (.bl false, h3) => .ok (.bl false) h3
  | _ => .bad
end
end FL

set_option Elab.async false
set_option linter.all false
set_option maxRecDepth 100000
/-! FL7: statements, targets, loops, comprehensions. -/
namespace FL
open PySem PySem.Spec PyProof.Rows L2
variable [Tabz]
inductive SR where
  | nx (ev : Ev) (h : AH)
  | rt (v : Va) (h : AH)
  | bk (ev : Ev) (h : AH)
  | ct (ev : Ev) (h : AH)
  | exc (c : Str) (p : List (Str × Va)) (ev : Ev) (h : AH)
  | bad
abbrev SF := Ev → AH → SR
def Rs.s {α : Type} (r : Rs α) (ev : Ev) (k : α → AH → SR) : SR := match r with
  | .ok a h => k a h
  | .exc c p h => .exc c p ev h
  | .bad => .bad
@[simp] theorem Rs.s_ok {α : Type} (a : α) (h : AH) (ev : Ev) (k : α → AH → SR) : (Rs.ok a h).s ev k = k a h := rfl
@[simp] theorem Rs.s_exc {α : Type} (c : Str) (p : List (Str × Va)) (h : AH) (ev : Ev) (k : α → AH → SR) : (Rs.exc c p h : Rs α).s ev k = .exc c p ev h := rfl
@[simp] theorem Rs.s_bad {α : Type} (ev : Ev) (k : α → AH → SR) : (Rs.bad : Rs α).s ev k = .bad := rfl
def SR.andThen (r : SR) (k : SF) : SR := match r with
  | .nx ev h => k ev h
  | r => r
def PostS (K : PySem.W.Frag) (mg : Str → Option Value) (W : WX) (m : List Addr) (H : Hp) (D : Ends) (r : SR) : Prop :=
  match r with
  | .nx ev ah => ∀ m' H' σ', Ext m H m' H' → HR K H' m' ah → ER K H' m' ev σ' → D.nx σ' H'
  | .bk ev ah => ∀ m' H' σ', Ext m H m' H' → HR K H' m' ah → ER K H' m' ev σ' → D.bk σ' H'
  | .ct ev ah => ∀ m' H' σ', Ext m H m' H' → HR K H' m' ah → ER K H' m' ev σ' → D.ct σ' H'
  | .rt v ah => ∀ m' H' w, Ext m H m' H' → HR K H' m' ah → VR K H' m' v w → D.rt w H'
  | .exc c p ev ah => ∀ m' H' cls d σ', Ext m H m' H' → HR K H' m' ah → ER K H' m' ev σ' → XR K mg H' m' c p cls d → W cls d σ' H'
  | .bad => False
def WiS (K : PySem.W.Frag) (mg : Str → Option Value) (W : WX) (f : SF) : TS := fun D σ H => ∃ m ah ev, HR K H m ah ∧ ER K H m ev σ ∧ PostS K mg W m H D (f ev ah)
structure MS (X : Cx) (W : WX) (s : Stmt) (f : SF) : Prop where
  ps : PS X s (WiS X.K X.mg W f)
structure MSs (X : Cx) (W : WX) (s : List Stmt) (f : SF) : Prop where
  pss : PSs X s (WiS X.K X.mg W f)
section
variable {α β : Type} {K : PySem.W.Frag} {mg : Str → Option Value} {R : Hp → List Addr → α → β → Prop} {W : WX} {m m' : List Addr} {H H' : Hp} {D : Ends} {σ : L2.St}
theorem PostS.ext {r : SR} (h : PostS K mg W m H D r) (e : Ext m H m' H') : PostS K mg W m' H' D r := by
  cases r with
  | nx ev a => exact fun m2 H2 s e2 => h m2 H2 s (e.trans e2)
  | bk ev a => exact fun m2 H2 s e2 => h m2 H2 s (e.trans e2)
  | ct ev a => exact fun m2 H2 s e2 => h m2 H2 s (e.trans e2)
  | rt v a => exact fun m2 H2 s e2 => h m2 H2 s (e.trans e2)
  | exc c p ev a => exact fun m2 H2 cls d s e2 => h m2 H2 cls d s (e.trans e2)
  | bad => exact h
theorem WiS.bind {f : Ev → AH → Rs α} {k : Ev → α → AH → SR} (h : WiS K mg W (fun ev h => (f ev h).s ev (k ev)) D σ H) :
    Wi K mg R W f σ H (fun w H1 => ∃ m ah ev v, HR K H1 m ah ∧ ER K H1 m ev σ ∧ R H1 m v w ∧ PostS K mg W m H1 D (k ev v ah)) := by
  obtain ⟨m, ah, ev, r, re, q⟩ := h
  refine ⟨m, ah, ev, r, re, ?_⟩
  have q2 : PostS K mg W m H D ((f ev ah).s ev (k ev)) := q
  cases e : f ev ah with
  | ok v a =>
    rw [e] at q2
    exact fun m2 H2 w e2 r2 rr => ⟨m2, a, ev, v, r2, re.ext r e2, rr, PostS.ext q2 e2⟩
  | exc c p a =>
    rw [e] at q2
    exact fun m2 H2 cls d e2 r2 x2 => q2 m2 H2 cls d σ e2 r2 (re.ext r e2) x2
  | bad => rw [e] at q2; exact q2
end
def sNil : SF := fun ev h => .nx ev h
def sSeq (f g : SF) : SF := fun ev h => (f ev h).andThen g
section
variable {X : Cx} {W : WX} {s : Stmt} {ss : List Stmt} {f g : SF} {e : Expr} {fe : EF} {pos : Pos}
theorem mss_nil : MSs X W [] sNil := ⟨pss_imp pss_nil fun D σ H ⟨m, ah, ev, r, re, q⟩ => q m H σ .refl r re⟩
theorem mss_cons (h : MS X W s f) (h2 : MSs X W ss g) : MSs X W (s :: ss) (sSeq f g) := ⟨pss_imp (pss_cons h.ps h2.pss) fun D σ H ⟨m, ah, ev, r, re, q⟩ => by
  refine ⟨m, ah, ev, r, re, ?_⟩
  unfold sSeq at q
  cases ef : f ev ah with
  | nx ev2 a => rw [ef] at q; exact fun m2 H2 s2 e2 r2 re2 => ⟨m2, a, ev2, r2, re2, PostS.ext q e2⟩
  | bk ev2 a => rw [ef] at q; exact q
  | ct ev2 a => rw [ef] at q; exact q
  | rt v a => rw [ef] at q; exact q
  | exc c p ev2 a => rw [ef] at q; exact q
  | bad => rw [ef] at q; exact q⟩
theorem mss_one (h : MS X W s f) : MSs X W [s] f := ⟨pss_imp (pss_one h.ps) fun D σ H q => q⟩
/-- a statement that is never come to -/
theorem ms_never : MS X W s (fun _ _ => .bad) := ⟨ps_imp ps_never fun D σ H ⟨m, ah, ev, r, re, q⟩ => q⟩
def sRet (f : EF) : SF := fun ev h => (f ev h).s ev fun v h1 => .rt v h1
theorem ms_ret (h : ME X W e fe) : MS X W (.Return (some e) pos) (sRet fe) := ⟨ps_imp (ps_ret h.pe) fun D σ H q => by
  obtain ⟨m, ah, ev, r, re, q⟩ := WiS.bind (R := VR X.K) q
  refine ⟨m, ah, ev, r, re, ?_⟩
  cases ef : fe ev ah with
  | exc c p a => rw [ef] at q; exact q
  | bad => rw [ef] at q; exact q
  | ok v a =>
    rw [ef] at q
    intro m1 H1 x e1 r1 rx
    obtain ⟨m2, ah2, ev2, v2, r2, re2, rv2, q2⟩ := q m1 H1 x e1 r1 rx
    exact q2 m2 H1 x .refl r2 rv2⟩
def sExpr (f : EF) : SF := fun ev h => (f ev h).s ev fun _ h1 => .nx ev h1
theorem ms_expr (h : ME X W e fe) (hs : swapsWith e none pos.line X.env = pure false := by rfl) : MS X W (.Expr e pos) (sExpr fe) := ⟨ps_imp (ps_expr h.pe hs) fun D σ H q => by
  obtain ⟨m, ah, ev, r, re, q⟩ := WiS.bind (R := VR X.K) q
  refine ⟨m, ah, ev, r, re, ?_⟩
  cases ef : fe ev ah with
  | exc c p a => rw [ef] at q; exact q
  | bad => rw [ef] at q; exact q
  | ok v a =>
    rw [ef] at q
    intro m1 H1 x e1 r1 rx
    obtain ⟨m2, ah2, ev2, v2, r2, re2, rv2, q2⟩ := q m1 H1 x e1 r1 rx
    exact q2 m2 H1 σ .refl r2 re2⟩
def sIf (t : TF) (f g : SF) : SF := fun ev h => (t ev h).s ev fun b h1 => if b then f ev h1 else g ev h1
theorem ms_if {c : Expr} {t : TF} {a b : List Stmt} (hc : MT X W c t) (ha : MSs X W a f) (hb : MSs X W b g) : MS X W (.If c a b pos) (sIf t f g) := ⟨ps_imp (ps_if hc.pt ha.pss hb.pss) fun D σ H q => by
  obtain ⟨m, ah, ev, r, re, q⟩ := WiS.bind (R := RB) q
  refine ⟨m, ah, ev, r, re, ?_⟩
  cases ef : t ev ah with
  | exc c p a => rw [ef] at q; exact q
  | bad => rw [ef] at q; exact q
  | ok v a =>
    rw [ef] at q
    intro m1 H1 x e1 r1 rx
    obtain ⟨m2, ah2, ev2, v2, r2, re2, rv2, q2⟩ := q m1 H1 x e1 r1 rx
    cases (show v2 = x from rv2)
    cases x with
    | true => exact ⟨m2, ah2, ev2, r2, re2, q2⟩
    | false => exact ⟨m2, ah2, ev2, r2, re2, q2⟩⟩
end
/-! ### targets -/
abbrev GF := Va → Ev → Option Ev
def WiG (K : PySem.W.Frag) (vs : List Nat) (g : GF) : TG := fun v σ H Q => ∃ m p ev ev', ER K H m ev σ ∧ VR K H m p v ∧ g p ev = some ev' ∧ ∀ σ', ER K H m ev' σ' → (∀ j, j ∉ vs → σ'[j]? = σ[j]?) → σ'.length = σ.length → Q σ' H
structure MG (X : Cx) (tg : Expr) (vs : List Nat) (g : GF) : Prop where
  pg : PG X tg (WiG X.K vs g)
abbrev GsF := List Va → Ev → Option Ev
def WiGs (K : PySem.W.Frag) (vs : List Nat) (g : GsF) : TGs := fun v σ H Q => ∃ m p ev ev', ER K H m ev σ ∧ VRs K H m p v ∧ g p ev = some ev' ∧ ∀ σ', ER K H m ev' σ' → (∀ j, j ∉ vs → σ'[j]? = σ[j]?) → σ'.length = σ.length → Q σ' H
structure MGs (X : Cx) (tg : List Expr) (vs : List Nat) (g : GsF) : Prop where
  pgs : PGs X tg (WiGs X.K vs g)
def gNm (i : Nat) : GF := fun p ev => some (ev.set i (some p))
def gNl : GsF := fun xs ev => match xs with | [] => some ev | _ => none
def gCs (g : GF) (gs : GsF) : GsF := fun xs ev => match xs with
  | x :: xs => (g x ev).bind fun ev1 => gs xs ev1
  | [] => none
def gTp (gs : GsF) : GF := fun p ev => match p with
  | .tup xs => gs xs ev
  | _ => none
theorem pg_imp {X : Cx} {e : Expr} {t t' : TG} (h : PG X e t) (i : ∀ v σ H Q, t' v σ H Q → t v σ H Q) : PG X e t' := ⟨fun pins s σ H v u Q I r q => h.run pins s σ H v u Q I r (i v σ H Q q)⟩
theorem pgs_imp {X : Cx} {e : List Expr} {t t' : TGs} (h : PGs X e t) (i : ∀ v σ H Q, t' v σ H Q → t v σ H Q) : PGs X e t' := ⟨fun pins s σ H v u Q I r q => h.run pins s σ H v u Q I r (i v σ H Q q)⟩
section
variable {X : Cx} {W : WX} {e : Expr} {es : List Expr} {vs ws : List Nat} {g : GF} {gs : GsF} {pos : Pos}
theorem mg_name (i : Nat) {x : Str} (hN : X.N.Nodup) (hi : X.N[i]? = some x := by rfl) (hx : Loc X.env.scope x := by first | exact Or.inl rfl | exact Or.inr rfl) (hf : X.fn x = true ∨ X.env.scope.names.lookup x = some .local := by first | exact .inl rfl | exact .inr rfl) : MG X (.Name x pos) [i] (gNm i) :=
  ⟨pg_imp (pg_name hN hi hx hf) fun v σ H Q ⟨m, p, ev, ev', re, rv, eg, k⟩ => by
    cases eg
    exact k _ (re.set rv) (fun j hj => List.getElem?_set_ne (fun z => hj (by rw [z]; exact List.mem_singleton_self _))) (by simp)⟩
theorem mgs_nil : MGs X [] [] gNl := ⟨pgs_imp pgs_nil fun v σ H Q ⟨m, p, ev, ev', re, rv, eg, k⟩ => by
  unfold gNl at eg
  split at eg
  · cases eg
    cases rv
    exact ⟨rfl, k σ re (fun _ _ => rfl) rfl⟩
  · cases eg⟩
theorem mgs_cons (h : MG X e vs g) (h2 : MGs X es ws gs) (hs : (assignEach (e :: es) X.env).map (·.2) = assign e X.env :: (assignEach es X.env).map (·.2) := by rfl) : MGs X (e :: es) (vs ++ ws) (gCs g gs) :=
  ⟨pgs_imp (pgs_cons h.pg h2.pgs hs) fun v σ H Q ⟨m, p, ev, ev', re, rv, eg, k⟩ => by
    unfold gCs at eg
    split at eg
    · rename_i x xs
      cases rv with
      | @cons _ _ w ws' r1 r2 =>
        cases e1 : g x ev with
        | none => rw [e1] at eg; cases eg
        | some ev1 =>
          rw [e1] at eg
          exact ⟨w, ws', rfl, m, x, ev, ev1, re, r1, e1, fun σ1 re1 k1 l1 => ⟨m, xs, ev1, ev', re1, r2, eg, fun σ2 re2 k2 l2 => k σ2 re2 (fun j hj => by
            have h1 : j ∉ vs := fun z => hj (List.mem_append_left _ z)
            have h2 : j ∉ ws := fun z => hj (List.mem_append_right _ z)
            rw [k2 j h2, k1 j h1]) (by omega)⟩⟩
    · cases eg⟩
/-- the number of targets that gs takes -/
def gsN (gs : GsF) (n : Nat) : Prop := ∀ xs ev ev', gs xs ev = some ev' → xs.length = n
theorem gsN_nil : gsN gNl 0 := fun xs ev ev' h => by
  unfold gNl at h
  split at h
  · rfl
  · cases h
theorem gsN_cons {n : Nat} (h : gsN gs n) : gsN (gCs g gs) (n + 1) := fun xs ev ev' q => by
  unfold gCs at q
  split at q
  · rename_i x xs'
    cases e1 : g x ev with
    | none => rw [e1] at q; cases q
    | some ev1 =>
      rw [e1] at q
      rw [List.length_cons, h _ _ _ q]
  · cases q
theorem mg_tup {k n : Nat} (hc : X.calm = true) (h : MGs X es vs gs) (hn : gsN gs n) (hl : (assignEach es X.env).length = n := by rfl) (hst : (assignEach es X.env).findIdx? (·.1) = none := by rfl) : MG X (.Tuple es k pos) vs (gTp gs) :=
  ⟨pg_imp (pg_tup hc h.pgs hl hst) fun v σ H Q ⟨m, p, ev, ev', re, rv, eg, k⟩ => by
    unfold gTp at eg
    split at eg
    · rename_i xs
      cases rv with
      | @tup _ a ws ht hv =>
        exact ⟨a, ws, rfl, ht, by rw [← hv.length]; exact hn _ _ _ eg, m, xs, ev, ev', re, hv, eg, k⟩
    · cases eg⟩
/-! ### stores -/
def sAsg (g : GF) (f : EF) : SF := fun ev h => (f ev h).s ev fun v h1 => match g v ev with | some ev1 => .nx ev1 h1 | none => .bad
theorem ms_asg {tg : Expr} {fe : EF} (he : ME X W e fe) (hg : MG X tg vs g) (hs : swapsWithSole [tg] e pos.line X.env = pure false := by rfl) (hw : swappedStores [tg] e X.env = pure none := by rfl)
    (h1 : (assignEach [tg] X.env).map (·.2) = [assign tg X.env] := by rfl) : MS X W (.Assign [tg] e pos) (sAsg g fe) := ⟨ps_imp (ps_asg he.pe hg.pg hs hw h1) fun D σ H q => by
  obtain ⟨m, ah, ev, r, re, q⟩ := WiS.bind (R := VR X.K) q
  refine ⟨m, ah, ev, r, re, ?_⟩
  cases ef : fe ev ah with
  | exc c p a => rw [ef] at q; exact q
  | bad => rw [ef] at q; exact q
  | ok v a =>
    rw [ef] at q
    intro m1 H1 x e1 r1 rx
    obtain ⟨m2, ah2, ev2, v2, r2, re2, rv2, q2⟩ := q m1 H1 x e1 r1 rx
    cases eg : g v2 ev2 with
    | none => simp only [eg] at q2; exact q2.elim
    | some ev3 =>
      simp only [eg] at q2
      exact ⟨m2, v2, ev2, ev3, re2, rv2, eg, fun σ' re' _ _ => q2 m2 H1 σ' .refl r2 re'⟩⟩
def sSet (i : Nat) (f : EF) : SF := fun ev h => (f ev h).s ev fun v h1 => .nx (ev.set i (some v)) h1
theorem ms_set (i : Nat) {x : Str} {fe : EF} {pos' : Pos} (hN : X.N.Nodup) (he : ME X W e fe) (hi : X.N[i]? = some x := by rfl) (hx : Loc X.env.scope x := by first | exact Or.inl rfl | exact Or.inr rfl)
    (hs : swapsWith e (some (.Name x pos')) pos.line X.env = pure false := by rfl) (hf : X.fn x = true ∨ X.env.scope.names.lookup x = some .local := by first | exact .inl rfl | exact .inr rfl) : MS X W (.Assign [.Name x pos'] e pos) (sSet i fe) := ⟨ps_imp (ps_set hN hi hx he.pe hs hf) fun D σ H q => by
  obtain ⟨m, ah, ev, r, re, q⟩ := WiS.bind (R := VR X.K) q
  refine ⟨m, ah, ev, r, re, ?_⟩
  cases ef : fe ev ah with
  | exc c p a => rw [ef] at q; exact q
  | bad => rw [ef] at q; exact q
  | ok v a =>
    rw [ef] at q
    intro m1 H1 x e1 r1 rx
    obtain ⟨m2, ah2, ev2, v2, r2, re2, rv2, q2⟩ := q m1 H1 x e1 r1 rx
    exact q2 m2 H1 _ .refl r2 (re2.set rv2)⟩
/-- a, b = x, y (both written) -/
def sPar (i j : Nat) (f : AF) : SF := fun ev h => (f ev h).s ev fun vs h1 => match vs with
  | [v, w] => .nx ((ev.set i (some v)).set j (some w)) h1
  | _ => .bad
theorem ms_par (i j : Nat) {x y : Str} {a b : Expr} {ta : AF} {px py pt : Pos} {kt k2 pt2} (hc : X.calm = true) (hN : X.N.Nodup) (ha : MA X W [a, b] ta) (hi : X.N[i]? = some x := by rfl) (hj : X.N[j]? = some y := by rfl) (hij : i ≠ j := by decide)
    (hx : X.env.scope.names.lookup x = some .local := by rfl) (hy : X.env.scope.names.lookup y = some .local := by rfl)
    (hw : swappedStores [.Tuple [.Name x px, .Name y py] kt pt] (.Tuple [a, b] k2 pt2) X.env = pure (some [x, y]) := by rfl)
    (hs : swapsWithSole [.Tuple [.Name x px, .Name y py] kt pt] (.Tuple [a, b] k2 pt2) pos.line X.env = pure false := by rfl) :
    MS X W (.Assign [.Tuple [.Name x px, .Name y py] kt pt] (.Tuple [a, b] k2 pt2) pos) (sPar i j ta) := ⟨ps_imp (ps_par hc hN hi hj hij hx hy ha.pa hw hs) fun D σ H q => by
  obtain ⟨m, ah, ev, r, re, q⟩ := WiS.bind (R := VRs X.K) q
  refine ⟨m, ah, ev, r, re, ?_⟩
  cases ef : ta ev ah with
  | exc c p a => rw [ef] at q; exact q
  | bad => rw [ef] at q; exact q
  | ok v a =>
    rw [ef] at q
    intro m1 H1 x e1 r1 rx
    obtain ⟨m2, ah2, ev2, v2, r2, re2, rv2, q2⟩ := q m1 H1 x e1 r1 rx
    split at q2
    · obtain ⟨x1, x2, rfl, h1, h2⟩ := vrs2 rv2
      exact ⟨x1, x2, rfl, q2 m2 H1 _ .refl r2 ((re2.set h1).set h2)⟩
    · exact q2.elim⟩
/-- o[i] = e, a list -/
def setAt (o i v : Va) (h : AH) : Option AH := match o, i with
  | .ref l, .int k => match lstAt h l with
    | some xs => match ixN xs.length k with
      | some j => some (h.set l (.lst (xs.set j v)))
      | none => none
    | none => none
  | _, _ => none
def sSetIx (fo fi f : EF) : SF := fun ev h => (f ev h).s ev fun v h1 => (fo ev h1).s ev fun o h2 => (fi ev h2).s ev fun i h3 => match setAt o i v h3 with | some h4 => .nx ev h4 | none => .bad
theorem ms_setIx {o i : Expr} {fo fi fe : EF} {p1 : Pos} (he : ME X W e fe) (ho : ME X W o fo) (hi : ME X W i fi) (hs : swapsWithSole [.Subscript o i p1] e pos.line X.env = pure false := by rfl) (hw : swappedStores [.Subscript o i p1] e X.env = pure none := by rfl)
    (h1 : (assignEach [.Subscript o i p1] X.env).map (·.2) = [assign (.Subscript o i p1) X.env] := by rfl)
    (ha : ∀ v, assign (.Subscript o i p1) X.env v = (do
      let ov ← holding [v] (eval o X.env)
      let iv ← holding [v, ov] (eval i X.env)
      standAt p1
      holding [v, ov, iv] (setItem ov iv v)
      release [v, ov, iv] []) := by intro _; rfl) : MS X W (.Assign [.Subscript o i p1] e pos) (sSetIx fo fi fe) :=
  ⟨ps_imp (ps_asg he.pe (pg_sub ho.pe hi.pe set_list ha) hs hw h1) fun D σ H q => by
    obtain ⟨m, ah, ev, r, re, q⟩ := WiS.bind (R := VR X.K) q
    refine ⟨m, ah, ev, r, re, ?_⟩
    cases ef : fe ev ah with
    | exc c p a => rw [ef] at q; exact q
    | bad => rw [ef] at q; exact q
    | ok v a =>
      rw [ef] at q
      intro m1 H1 x e1 r1 rx
      obtain ⟨m2, ah2, ev2, v2, r2, re2, rv2, q2⟩ := q m1 H1 x e1 r1 rx
      obtain ⟨m3, ah3, ev3, r3, re3, q3⟩ := WiS.bind (R := VR X.K) (W := W) (k := fun ev o h2 => (fi ev h2).s ev fun i h3 => match setAt o i v2 h3 with | some h4 => .nx ev h4 | none => .bad) ⟨m2, ah2, ev2, r2, re2, q2⟩
      refine ⟨m2, ah2, ev2, r2, re2, ?_⟩
      have q2' : PostS X.K X.mg W m2 H1 D ((fo ev2 ah2).s ev2 fun o h2 => (fi ev2 h2).s ev2 fun i h3 => match setAt o i v2 h3 with | some h4 => .nx ev2 h4 | none => .bad) := q2
      cases eo : fo ev2 ah2 with
      | exc c p a => rw [eo] at q2'; exact fun m2 H2 cls d e2 r3 x2 => q2' m2 H2 cls d σ e2 r3 (re2.ext r2 e2) x2
      | bad => rw [eo] at q2'; exact q2'
      | ok ov a =>
        rw [eo] at q2'
        intro m4 H4 y e4 r4 ry
        refine ⟨m4, a, ev2, r4, re2.ext r2 e4, ?_⟩
        have q3' : PostS X.K X.mg W m4 H4 D ((fi ev2 a).s ev2 fun i h3 => match setAt ov i v2 h3 with | some h4 => .nx ev2 h4 | none => .bad) := PostS.ext q2' e4
        cases ei : fi ev2 a with
        | exc c p b => rw [ei] at q3'; exact fun m2 H2 cls d e2 r3 x2 => q3' m2 H2 cls d σ e2 r3 ((re2.ext r2 e4).ext r4 e2) x2
        | bad => rw [ei] at q3'; exact q3'
        | ok iv b =>
          rw [ei] at q3'
          intro m5 H5 z e5 r5 rz
          have q5 : PostS X.K X.mg W m5 H5 D (match setAt ov iv v2 b with | some h4 => .nx ev2 h4 | none => .bad) := PostS.ext q3' e5
          unfold setAt at q5
          split at q5
          · rename_i h4 hs4
            split at hs4
            · rename_i l k
              cases hl : lstAt b l with
              | none => simp only [hl] at hs4; cases hs4
              | some xs =>
                simp only [hl] at hs4
                cases hj : ixN xs.length k with
                | none => simp only [hj] at hs4; cases hs4
                | some j =>
                  simp only [hj] at hs4
                  cases hs4
                  have ry' := ry.ext r4 e5
                  cases ry' with
                  | @ref _ a1 ha1 =>
                    obtain ⟨vs, g1, hv⟩ := r5.lst ha1 (lstAt_some hl)
                    refine ⟨a1, vs, k, j, rfl, rz.int_inv, g1, by rw [← hv.length]; exact hj, ?_⟩
                    have rx' := (rv2.ext r2 e4).ext r4 e5
                    have ex : Ext m5 H5 m5 (upd H5 a1 (.lst (vs.set j x))) := ext_set ha1
                    exact q5 m5 _ σ ex (hr_set r5 ha1 (hv.set rx' j)) (((re2.ext r2 e4).ext r4 e5).ext r5 ex)
            · cases hs4
          · exact q5.elim⟩
end
/-! ### equality of values, for what a loop walks -/
mutual
def pdBeq : PyData → PyData → Bool
  | .none, .none => true
  | .bool a, .bool b => a == b
  | .int a, .int b => decide (a = b)
  | .str a, .str b => decide (a = b)
  | .list a, .list b => pdBeqs a b
  | .tuple a, .tuple b => pdBeqs a b
  | .dict a, .dict b => pdBeqp a b
  | _, _ => false
def pdBeqs : List PyData → List PyData → Bool
  | [], [] => true
  | x :: xs, y :: ys => pdBeq x y && pdBeqs xs ys
  | _, _ => false
def pdBeqp : List (PyData × PyData) → List (PyData × PyData) → Bool
  | [], [] => true
  | (x, x') :: xs, (y, y') :: ys => pdBeq x y && pdBeq x' y' && pdBeqp xs ys
  | _, _ => false
end
mutual
theorem pdBeq_eq : ∀ (a b : PyData), pdBeq a b = true → a = b
  | .none, b, h => by cases b <;> simp [pdBeq] at h ⊢
  | .bool a, b, h => by cases b <;> simp [pdBeq] at h ⊢; exact h
  | .int a, b, h => by cases b <;> simp [pdBeq] at h ⊢; exact h
  | .str a, b, h => by cases b <;> simp [pdBeq] at h ⊢; exact h
  | .list a, b, h => by cases b <;> simp [pdBeq] at h ⊢; exact pdBeqs_eq _ _ h
  | .tuple a, b, h => by cases b <;> simp [pdBeq] at h ⊢; exact pdBeqs_eq _ _ h
  | .dict a, b, h => by cases b <;> simp [pdBeq] at h ⊢; exact pdBeqp_eq _ _ h
theorem pdBeqs_eq : ∀ (a b : List PyData), pdBeqs a b = true → a = b
  | [], b, h => by cases b <;> simp [pdBeqs] at h ⊢
  | x :: xs, b, h => by
    cases b with
    | nil => simp [pdBeqs] at h
    | cons y ys =>
      simp [pdBeqs] at h
      rw [pdBeq_eq _ _ h.1, pdBeqs_eq _ _ h.2]
theorem pdBeqp_eq : ∀ (a b : List (PyData × PyData)), pdBeqp a b = true → a = b
  | [], b, h => by cases b <;> simp [pdBeqp] at h ⊢
  | (x, x') :: xs, b, h => by
    cases b with
    | nil => simp [pdBeqp] at h
    | cons y ys =>
      obtain ⟨y, y'⟩ := y
      simp [pdBeqp] at h
      rw [pdBeq_eq _ _ h.1.1, pdBeq_eq _ _ h.1.2, pdBeqp_eq _ _ h.2]
end
mutual
theorem pdBeq_refl : ∀ (a : PyData), pdBeq a a = true
  | .none => by simp [pdBeq]
  | .bool a => by simp [pdBeq]
  | .int a => by simp [pdBeq]
  | .str a => by simp [pdBeq]
  | .list a => by simp [pdBeq, pdBeqs_refl a]
  | .tuple a => by simp [pdBeq, pdBeqs_refl a]
  | .dict a => by simp [pdBeq, pdBeqp_refl a]
theorem pdBeqs_refl : ∀ (a : List PyData), pdBeqs a a = true
  | [] => by simp [pdBeqs]
  | x :: xs => by simp [pdBeqs, pdBeq_refl x, pdBeqs_refl xs]
theorem pdBeqp_refl : ∀ (a : List (PyData × PyData)), pdBeqp a a = true
  | [] => by simp [pdBeqp]
  | (x, y) :: xs => by simp [pdBeqp, pdBeq_refl x, pdBeq_refl y, pdBeqp_refl xs]
end
mutual
def vaBeq : Va → Va → Bool
  | .non, .non => true
  | .bl a, .bl b => a == b
  | .int a, .int b => decide (a = b)
  | .str a, .str b => decide (a = b)
  | .tup a, .tup b => vaBeqs a b
  | .rol a, .rol b => vaBeqs a b
  | .ref a, .ref b => a == b
  | .rp a, .rp b => pdBeq a b
  | .dv a, .dv b => decide (a = b)
  | .exo a, .exo b => decide (a = b)
  | .exn a d f x, .exn b e g y => decide (a = b) && decide (d = e) && decide (f = g) && vaBeq x y
  | _, _ => false
def vaBeqs : List Va → List Va → Bool
  | [], [] => true
  | x :: xs, y :: ys => vaBeq x y && vaBeqs xs ys
  | _, _ => false
end
mutual
theorem vaBeq_eq : ∀ (a b : Va), vaBeq a b = true → a = b
  | .non, b, h => by cases b <;> simp [vaBeq] at h ⊢
  | .bl a, b, h => by cases b <;> simp [vaBeq] at h ⊢; exact h
  | .int a, b, h => by cases b <;> simp [vaBeq] at h ⊢; exact h
  | .str a, b, h => by cases b <;> simp [vaBeq] at h ⊢; exact h
  | .tup a, b, h => by cases b <;> simp [vaBeq] at h ⊢; exact vaBeqs_eq _ _ h
  | .rol a, b, h => by cases b <;> simp [vaBeq] at h ⊢; exact vaBeqs_eq _ _ h
  | .ref a, b, h => by cases b <;> simp [vaBeq] at h ⊢; exact h
  | .rp a, b, h => by cases b <;> simp [vaBeq] at h ⊢; exact pdBeq_eq _ _ h
  | .dv a, b, h => by cases b <;> simp [vaBeq] at h ⊢; exact h
  | .exo a, b, h => by cases b <;> simp [vaBeq] at h ⊢; exact h
  | .exn a d f x, b, h => by
    cases b <;> simp [vaBeq] at h ⊢
    exact ⟨h.1.1.1, h.1.1.2, h.1.2, vaBeq_eq _ _ h.2⟩
theorem vaBeqs_eq : ∀ (a b : List Va), vaBeqs a b = true → a = b
  | [], b, h => by cases b <;> simp [vaBeqs] at h ⊢
  | x :: xs, b, h => by
    cases b with
    | nil => simp [vaBeqs] at h
    | cons y ys =>
      simp [vaBeqs] at h
      rw [vaBeq_eq _ _ h.1, vaBeqs_eq _ _ h.2]
end
mutual
theorem vaBeq_refl : ∀ (a : Va), vaBeq a a = true
  | .non => by simp [vaBeq]
  | .bl a => by simp [vaBeq]
  | .int a => by simp [vaBeq]
  | .str a => by simp [vaBeq]
  | .tup a => by simp [vaBeq, vaBeqs_refl a]
  | .rol a => by simp [vaBeq, vaBeqs_refl a]
  | .ref a => by simp [vaBeq]
  | .rp a => by simp [vaBeq, pdBeq_refl a]
  | .dv a => by simp [vaBeq]
  | .exo a => by simp [vaBeq]
  | .exn a d f x => by simp [vaBeq, vaBeq_refl x]
theorem vaBeqs_refl : ∀ (a : List Va), vaBeqs a a = true
  | [] => by simp [vaBeqs]
  | x :: xs => by simp [vaBeqs, vaBeq_refl x, vaBeqs_refl xs]
end
end FL

set_option Elab.async false
set_option linter.all false
set_option maxRecDepth 100000
/-! FLZ: zip(.., strict=True) of two sequences: the object, a turn, the end. -/
namespace FLZ
open PySem
/-- a zip that is strict -/
abbrev IsZs (h : Heap) (z ti to_ : Addr) (f0 : Value) : Prop := h.get? z = some { cls := .type "zip", data := .fields #[f0, .bool false, .bool true, .ref ti, .ref to_] }
section
variable {prog : Program} {w : World} {A : Around} {E : Value → Shared → Prop} {s : Shared} {z ti to_ j1 j2 : Addr} {f1 f2 : List Addr} {n i : Nat} {P1 P2 : Nat → Value → Prop} {S1 S2 : Nat → Heap → Prop} {a1 a2 : Value}
end
/-! ### zip(a, b, strict=True) begins -/
abbrev zs2 (h : Heap) (o1 o2 : Obj) : Heap := (gzO2 h o1 o2).push { cls := .type "zip", data := .fields #[.none, .bool false, .bool true, .ref ((h.push o1).push o2).objs.size, .ref (gzT2 h o1 o2).objs.size] }
set_option maxHeartbeats 1000000 in
theorem new_strict {v1 v2 : Value} {o1 o2 : Obj} {H1 H2 : Heap → Prop} (B1 : Begins v1 o1 H1) (B2 : Begins v2 o2 H2) :
    Meets (Builtin.«zip.__new__» ⟨[.type "zip", v1, v2], [(Str.ofString "strict", .bool true)]⟩) (fun _ R s => (H1 s.heap ∧ H2 s.heap) ∧ R (.ok (.ret (.ref (gzO2 s.heap o1 o2).objs.size))) { s with heap := zs2 s.heap o1 o2 }) :=
  .of_wp fun prog w A R s h => by
    obtain ⟨hp, gn, dr, t0, os⟩ := s
    obtain ⟨⟨h1, h2⟩, h⟩ := h
    have hsub := sub_zip
    have r1 : ∀ {A' : Around} {E : Value → Shared → Prop} {Q : Value → Shared → Prop}, Q (.ref hp.objs.size) ⟨hp.push o1, gn, dr, t0, os⟩ → wpAny (model prog w) A' (pyIter v1) Q E ⟨hp, gn, dr, t0, os⟩ :=
      fun q => B1.iter prog w _ _ ⟨hp, gn, dr, t0, os⟩ _ (B1.keeps _ _ h1 fun _ _ e => e) q
    have r2 : ∀ {A' : Around} {E : Value → Shared → Prop} {Q : Value → Shared → Prop}, Q (.ref (hp.push o1).objs.size) ⟨(hp.push o1).push o2, gn, dr, t0, os⟩ → wpAny (model prog w) A' (pyIter v2) Q E ⟨hp.push o1, gn, dr, t0, os⟩ :=
      fun q => B2.iter prog w _ _ ⟨hp.push o1, gn, dr, t0, os⟩ _ (B2.keeps _ _ h2 fun _ _ e => Heap.get?_push_of_some _ e) q
    have e1 : (Str.ofString "strict" != ("strict" : Str)) = false := by decide +kernel
    have e2 : (Str.ofString "strict" == ("strict" : Str)) = true := by decide +kernel
    wp_walk using r1, r2
    exact ⟨_, rfl, h⟩
section
variable {prog : Program} {w : World} {A : Around} {E : Value → Shared → Prop} {s : Shared}
end
end FLZ

set_option Elab.async false
set_option linter.all false
set_option maxRecDepth 100000
/-! FLT: what a loop walks: a list or a tuple (told by a Bool), enumerate and zip over such, strict or not. -/
namespace FL
open PySem PySem.Spec PyProof.Rows L2 FLZ
def isG (h : Heap) (k : Bool) (a : Addr) (its : Array Value) : Prop := if k = true then h.IsTuple a its else h.IsList a its
def itG (h : Heap) (k : Bool) (it a : Addr) (i : Nat) : Prop := if k = true then h.IsTupleIter it a i else h.IsListIter it a i
def SqG (K : PySem.W.Frag) (H : Hp) (k : Bool) (a : Addr) (xs : List V) : Prop := if k = true then SqT K H a xs else SqL K H a xs
def itO (k : Bool) (a : Addr) : Obj := if k = true then { cls := .type "tuple_iterator", data := .fields #[.ref a, .int 0 0] } else { cls := .type "list_iterator", data := .fields #[.ref a, .int 0 0] }
theorem itG.at {h h' : Heap} {k : Bool} {it a : Addr} {i : Nat} (s : itG h k it a i) (e : ∀ o, h.get? it = some o → h'.get? it = some o) : itG h' k it a i := by
  cases k
  · exact Heap.IsListIter.at s e
  · exact Heap.IsTupleIter.at s e
theorem itG.there {h : Heap} {k : Bool} {it a : Addr} {i : Nat} (s : itG h k it a i) : ∃ o, h.get? it = some o ∧ ∀ v, o.data ≠ .cell v := by
  cases k
  · obtain ⟨o, e, c, d⟩ := s
    exact ⟨o, e, fun v z => by rw [d] at z; cases z⟩
  · obtain ⟨o, e, c, d⟩ := s
    exact ⟨o, e, fun v z => by rw [d] at z; cases z⟩
section
variable {X : Cx} {pins : List (Addr × Obj)} {σ : L2.St} {H : Hp} {s : Shared} {k : Bool} {a b : Addr} {xs ys : List V}
end
/-! ### enumerate -/
def ItEn (K : PySem.W.Frag) (k : Bool) (a : Addr) : It :=
  ⟨fun i H => ∃ (xs : List V) (x : V), SqG K H k a xs ∧ xs[i]? = some x,
   fun i H v H' => ∃ T x, v = .ref T ∧ H T = none ∧ H' = upd H T (.tup [.int (i : Nat), x]) ∧ ∀ xs, SqG K H k a xs → xs[i]? = some x,
   fun i H => ∃ xs : List V, SqG K H k a xs ∧ xs.length = i⟩
/-! ### zip -/
def IsZb (b : Bool) (h : Heap) (z ti to_ : Addr) (f0 : Value) : Prop := if b = true then IsZs h z ti to_ f0 else IsZip h z ti to_ f0
def ItZp (K : PySem.W.Frag) (b k1 k2 : Bool) (a c : Addr) : It :=
  ⟨fun i H => ∃ (xs ys : List V) (x y : V), SqG K H k1 a xs ∧ SqG K H k2 c ys ∧ xs[i]? = some x ∧ ys[i]? = some y ∧ (b = true → xs.length = ys.length),
   fun i H v H' => ∃ T x y, v = .ref T ∧ H T = none ∧ H' = upd H T (.tup [x, y]) ∧ (∀ xs, SqG K H k1 a xs → xs[i]? = some x) ∧ ∀ ys, SqG K H k2 c ys → ys[i]? = some y,
   fun i H => ∃ xs ys : List V, SqG K H k1 a xs ∧ SqG K H k2 c ys ∧ i ≤ xs.length ∧ i ≤ ys.length ∧ (if b = true then xs.length = i ∧ ys.length = i else (i = xs.length ∨ i = ys.length))⟩
structure Zap (z ti to_ j1 j2 : Addr) : Prop where
  a1 : ti ≠ z
  a2 : to_ ≠ z
  a3 : ti ≠ to_
  a4 : ti ≠ j1
  a5 : ti ≠ j2
  a6 : to_ ≠ j1
  a7 : to_ ≠ j2
  a8 : j1 ≠ z
  a9 : j2 ≠ z
  a10 : j1 ≠ j2
end FL

set_option Elab.async false
set_option linter.all false
set_option maxRecDepth 100000
/-! FL8: walks. -/
namespace FL
open PySem PySem.Spec PyProof.Rows L2 FLZ
variable [Tabz]
set_option maxHeartbeats 1000000 in
theorem new_enum {v : Value} {o : Obj} {H : Heap → Prop} (B : Begins v o H) :
    Meets (Builtin.«enumerate.__new__» ⟨[.type "enumerate", v], []⟩) (fun _ R s => H s.heap ∧
      R (.ok (.ret (.ref (s.heap.push o).objs.size))) { s with heap := (s.heap.push o).push { cls := .type "enumerate", data := .fields #[.none, .bool false, .ref s.heap.objs.size, rawInt 0, .none, .none] } }) :=
  .of_wp fun prog w A R s h => by
    obtain ⟨hp, gn, dr, t0, os⟩ := s
    obtain ⟨h1, h⟩ := h
    have hsub := sub_enumerate
    have q1 : ∀ {A' : Around} {E : Value → Shared → Prop} {Q : Value → Shared → Prop}, Q (.ref hp.objs.size) ⟨hp.push o, gn, dr, t0, os⟩ → wpAny (model prog w) A' (pyIter v) Q E ⟨hp, gn, dr, t0, os⟩ :=
      fun q => B.iter prog w _ _ ⟨hp, gn, dr, t0, os⟩ _ h1 q
    wp_walk using q1
    refine wpAny_stack_any fun st => wpAny_pure ?_
    split
    · rename_i c _ _ _ _ _
      cases (c == Value.type "enumerate")
      · wp_walk using q1
        exact ⟨_, rfl, h⟩
      · wp_walk using q1
        exact ⟨_, rfl, h⟩
    · wp_walk using q1
      exact ⟨_, rfl, h⟩
/-! ### the layer's walks over lists and tuples -/
section
variable {X : Cx} {tg : Expr}
/-- a list or a tuple -/
def iSeq (K : PySem.W.Frag) (tl : TE) : TI := fun σ H R => tl σ H fun x H1 => ∃ a, x = .ref a ∧ (((∃ xs, SqL K H1 a xs) ∧ R (Itl K a) H1) ∨ ((∃ xs, SqT K H1 a xs) ∧ R (Itt K a) H1))
theorem pi_seqG {l : Expr} {tl : TE} (hl : PE X l tl) : PI X tg l (iSeq X.K tl) := by
  refine ⟨fun pins s σ H R I h => thn (hl.run pins s σ H _ I h) fun v s1 ⟨x, H1, I1, r1, a, e, q1⟩ => ?_⟩
  subst e
  cases r1
  rcases q1 with ⟨⟨xs, hq⟩, q⟩ | ⟨⟨xs, hq⟩, q⟩
  · obtain ⟨its, rv, p, hz⟩ := I1.list hq
    refine wpAny_pyIter_list p.isList ⟨s1.heap.objs.size, [s1.heap.objs.size], _, _, H1, rfl, I1.kept (t' := s1.toks) fun b o e => Heap.get?_push_of_some _ e, turn_list a _, ⟨_, Heap.get?_push_size _ rfl, rfl, rfl⟩, fun b hb => ?_, q⟩
    rw [show b = s1.heap.objs.size by simpa using hb]
    exact I1.fpOk (Nat.le_refl _) (I1.hok.fresh (Nat.le_refl _))
  · obtain ⟨its, rv, p, hz⟩ := I1.tuple hq
    refine wpAny_pyIter_tuple (show s1.heap.IsTuple a its.toArray from p) ⟨s1.heap.objs.size, [s1.heap.objs.size], _, _, H1, rfl, I1.kept (t' := s1.toks) fun b o e => Heap.get?_push_of_some _ e, turn_tuple a _, ⟨_, Heap.get?_push_size _ rfl, rfl, rfl⟩, fun b hb => ?_, q⟩
    rw [show b = s1.heap.objs.size by simpa using hb]
    exact I1.fpOk (Nat.le_refl _) (I1.hok.fresh (Nat.le_refl _))
def iEnG (K : PySem.W.Frag) (ta : TA) : TI := fun σ H R => ta σ H fun vs H1 => ∃ k a xs, vs = [.ref a] ∧ SqG K H1 k a xs ∧ R (ItEn K k a) H1
def iZpG (K : PySem.W.Frag) (b : Bool) (ta : TA) : TI := fun σ H R => ta σ H fun vs H1 => ∃ k1 k2 a c xs ys, vs = [.ref a, .ref c] ∧ SqG K H1 k1 a xs ∧ SqG K H1 k2 c ys ∧ R (ItZp K b k1 k2 a c) H1
end
end FL

set_option Elab.async false
set_option linter.all false
set_option maxRecDepth 100000
/-! FL9: sources, for, while, comprehensions. -/
namespace FL
open PySem PySem.Spec PyProof.Rows L2
variable [Tabz]
/-- what a loop walks: its items, and the lists that are to stay as they are -/
structure Src where
  items : List Va
  gs : List (Nat × List Va)
def gsOk (gs : List (Nat × List Va)) (h : AH) : Bool := gs.all fun p => match lstAt h p.1 with
  | some ys => vaBeqs p.2 ys
  | none => false
theorem gsOk_at {gs : List (Nat × List Va)} {h : AH} (e : gsOk gs h = true) {l : Nat} {xs : List Va} (hm : (l, xs) ∈ gs) : lstAt h l = some xs := by
  have q := List.all_eq_true.mp e (l, xs) hm
  simp only at q
  split at q
  · rename_i ys hy
    rw [hy, vaBeqs_eq _ _ q]
  · cases q
@[simp] theorem gsOk_nil (h : AH) : gsOk [] h = true := rfl
theorem gsOk_of {gs : List (Nat × List Va)} {h : AH} (e : ∀ p ∈ gs, lstAt h p.1 = some p.2) : gsOk gs h = true := by
  unfold gsOk
  rw [List.all_eq_true]
  intro p hp
  rw [e p hp]
  exact vaBeqs_refl _
/-- all but lists and dicts is kept -/
structure ExtW (m : List Addr) (H : Hp) (m' : List Addr) (H' : Hp) : Prop where
  pre : ∃ r, m' = m ++ r
  keep : ∀ b o, H b = some o → (∀ vs, o ≠ .lst vs) → (∀ kv, o ≠ .dK kv) → (nt : ∀ ps, o ≠ .tbl ps := by first | assumption | (intro _ z; cases z) | simp) → (ne : ∀ φ, o ≠ .ext φ := by first | assumption | (intro _ z; cases z) | simp) → (ni : ∀ C dx fs, o ≠ .ins C dx fs := by first | assumption | (intro _ _ _ z; cases z) | simp) → H' b = some o
theorem ExtW.refl {m : List Addr} {H : Hp} : ExtW m H m H := ⟨⟨[], by simp⟩, fun _ _ h _ _ _ _ _ => h⟩
theorem Ext.w {K : PySem.W.Frag} {m m' : List Addr} {H H' : Hp} {ah : AH} (e : Ext m H m' H') (r : HR K H m ah) : ExtW m H m' H' := ⟨e.pre, fun b o h h1 h2 _ _ _ => e.keep b o h (r.notin h h1 h2)⟩
theorem ExtW.trans {m m' m2 : List Addr} {H H' H2 : Hp} (e : ExtW m H m' H') (f : ExtW m' H' m2 H2) : ExtW m H m2 H2 := by
  refine ⟨?_, fun b o h h1 h2 _ _ _ => f.keep b o (e.keep b o h h1 h2) h1 h2⟩
  obtain ⟨r, e1⟩ := e.pre
  obtain ⟨q, e2⟩ := f.pre
  exact ⟨r ++ q, by rw [e2, e1, List.append_assoc]⟩
theorem ExtW.get {m m' : List Addr} {H H' : Hp} (e : ExtW m H m' H') {l : Nat} {a : Addr} (h : m[l]? = some a) : m'[l]? = some a := by
  obtain ⟨r, rfl⟩ := e.pre
  rw [List.getElem?_append_left (List.getElem?_eq_some_iff.mp h).1]
  exact h
section
variable {K : PySem.W.Frag} {H H' : Hp} {m m' : List Addr}
theorem sqT_w (e : ExtW m H m' H') {a : Addr} {vs : List V} (h : SqT K H a vs) : SqT K H' a vs := by
  rcases h with (h | ⟨o, h⟩) | h
  · exact .inl (.inl (e.keep _ _ h (fun _ z => nomatch z) (fun _ z => nomatch z)))
  · exact .inl (.inr ⟨o, e.keep _ _ h (fun _ z => nomatch z) (fun _ z => nomatch z)⟩)
  · exact .inr h
theorem fz_w (e : ExtW m H m' H') {a : Addr} {vs : List V} (h : Fz K H a vs) : Fz K H' a vs := by
  rcases h with ⟨o, h⟩ | h
  · exact .inl ⟨o, e.keep _ _ h (fun _ z => nomatch z) (fun _ z => nomatch z)⟩
  · exact .inr h
mutual
theorem VR.w (e : ExtW m H m' H') : ∀ {x : Va} {v : V}, VR K H m x v → VR K H' m' x v
  | _, _, .non => .non
  | _, _, .bl b => .bl b
  | _, _, .int i => .int i
  | _, _, .str x => .str x
  | _, _, .rp d => .rp d
  | _, _, .ref h => .ref (e.get h)
  | _, _, .tup h hs => .tup (sqT_w e h) (VRs.w e hs)
  | _, _, .rol h hs => .rol (fz_w e h) (VRs.w e hs)
  | _, _, .dv h => .dv (h.to (fun _ _ z => e.keep _ _ z (fun _ z => nomatch z) (fun _ z => nomatch z)) fun _ _ => sqT_w e)
  | _, _, .exo a => .exo a
  | _, _, .exn h g => .exn (e.keep _ _ h (fun _ z => nomatch z) (fun _ z => nomatch z)) (VR.w e g)
theorem VRs.w (e : ExtW m H m' H') : ∀ {xs : List Va} {vs : List V}, VRs K H m xs vs → VRs K H' m' xs vs
  | _, _, .nil => .nil
  | _, _, .cons h hs => .cons (VR.w e h) (VRs.w e hs)
end
end
def JOk (K : PySem.W.Frag) (J : It) (m : List Addr) (H : Hp) (s : Src) : Prop :=
  ∀ m2 H2 ah2, ExtW m H m2 H2 → HR K H2 m2 ah2 → gsOk s.gs ah2 = true →
    (∀ i x, s.items[i]? = some x → J.go i H2 ∧ ∀ y H3, J.yld i H2 y H3 → Ext m2 H2 m2 H3 ∧ HR K H3 m2 ah2 ∧ VR K H3 m2 x y) ∧ J.stop s.items.length H2
abbrev IF := Ev → AH → Rs Src
def WiI (K : PySem.W.Frag) (mg : Str → Option Value) (W : WX) (f : IF) : TI := fun σ H R => ∃ m ah ev, HR K H m ah ∧ ER K H m ev σ ∧ match f ev ah with
  | .ok s ah' => ∀ m' H' J, Ext m H m' H' → HR K H' m' ah' → JOk K J m' H' s → R J H'
  | .exc c p ah' => ∀ m' H' cls d, Ext m H m' H' → HR K H' m' ah' → XR K mg H' m' c p cls d → W cls d σ H'
  | .bad => False
structure MI (X : Cx) (W : WX) (tg iter : Expr) (f : IF) : Prop where
  pi : PI X tg iter (WiI X.K X.mg W f)
theorem pi_imp {X : Cx} {tg e : Expr} {t t' : TI} (h : PI X tg e t) (i : ∀ σ H R, t' σ H R → t σ H R) : PI X tg e t' := ⟨fun pins s σ H R I q => h.run pins s σ H R I (i σ H R q)⟩
/-- evaluate, then make a source of the values -/
def iOf (g : AF) (o : List Va → AH → Option Src) : IF := fun ev h => (g ev h).bind fun vs h1 => match o vs h1 with | some s => .ok s h1 | none => .bad
def iOf1 (g : EF) (o : Va → AH → Option Src) : IF := fun ev h => (g ev h).bind fun v h1 => match o v h1 with | some s => .ok s h1 | none => .bad
section
variable {K : PySem.W.Frag} {mg : Str → Option Value} {W : WX} {σ : L2.St} {H : Hp} {R : It → Hp → Prop}
theorem WiI.of {g : AF} {o : List Va → AH → Option Src} (h : WiI K mg W (iOf g o) σ H R) :
    Wi K mg (VRs K) W g σ H (fun vs H1 => ∃ m ah ps s, HR K H1 m ah ∧ VRs K H1 m ps vs ∧ o ps ah = some s ∧ ∀ J, JOk K J m H1 s → R J H1) := by
  obtain ⟨m, ah, ev, r, re, q⟩ := h
  refine ⟨m, ah, ev, r, re, ?_⟩
  unfold iOf at q
  cases eg : g ev ah with
  | exc c p a => rw [eg] at q; exact q
  | bad => rw [eg] at q; exact q
  | ok vs a =>
    simp only [eg, Rs.bind_ok] at q
    intro m1 H1 ws e1 r1 rv
    cases eo : o vs a with
    | none => rw [eo] at q; exact q.elim
    | some s =>
      rw [eo] at q
      exact ⟨m1, a, vs, s, r1, rv, eo, fun J hJ => q m1 H1 J e1 r1 hJ⟩
theorem WiI.of1 {g : EF} {o : Va → AH → Option Src} (h : WiI K mg W (iOf1 g o) σ H R) :
    Wi K mg (VR K) W g σ H (fun v H1 => ∃ m ah p s, HR K H1 m ah ∧ VR K H1 m p v ∧ o p ah = some s ∧ ∀ J, JOk K J m H1 s → R J H1) := by
  obtain ⟨m, ah, ev, r, re, q⟩ := h
  refine ⟨m, ah, ev, r, re, ?_⟩
  unfold iOf1 at q
  cases eg : g ev ah with
  | exc c p a => rw [eg] at q; exact q
  | bad => rw [eg] at q; exact q
  | ok vs a =>
    simp only [eg, Rs.bind_ok] at q
    intro m1 H1 ws e1 r1 rv
    cases eo : o vs a with
    | none => rw [eo] at q; exact q.elim
    | some s =>
      rw [eo] at q
      exact ⟨m1, a, vs, s, r1, rv, eo, fun J hJ => q m1 H1 J e1 r1 hJ⟩
end
/-- the items of a list or tuple, and the guard -/
def srcOf (p : Va) (h : AH) : Option Src := match p with
  | .tup xs => some ⟨xs, []⟩
  | .rol xs => some ⟨xs, []⟩
  | .ref l => match lstAt h l with
    | some xs => some ⟨xs, [(l, xs)]⟩
    | none => none
  | _ => none
/-- how such a sequence stands for a list or tuple of the layer -/
theorem srcOf_ok {K : PySem.W.Frag} {H : Hp} {m : List Addr} {ah : AH} (r : HR K H m ah) {p : Va} {v : V} {s : Src} (h : VR K H m p v) (e : srcOf p ah = some s) :
    ∃ k a, v = .ref a ∧ ∀ m2 H2 ah2, ExtW m H m2 H2 → HR K H2 m2 ah2 → gsOk s.gs ah2 = true → ∃ vs, SqG K H2 k a vs ∧ VRs K H2 m2 s.items vs := by
  cases h with
  | @tup xs a vs ht hv =>
    cases e
    exact ⟨true, a, rfl, fun m2 H2 ah2 e2 r2 g2 => ⟨vs, sqT_w e2 ht, hv.w e2⟩⟩
  | @rol xs a vs ht hv =>
    cases e
    exact ⟨false, a, rfl, fun m2 H2 ah2 e2 r2 g2 => ⟨vs, (fz_w e2 ht).seq, hv.w e2⟩⟩
  | @ref l a ha =>
    unfold srcOf at e
    cases hl : lstAt ah l with
    | none => simp only [hl] at e; cases e
    | some xs =>
      simp only [hl] at e
      cases e
      refine ⟨false, a, rfl, fun m2 H2 ah2 e2 r2 g2 => ?_⟩
      have hl2 := gsOk_at g2 (List.mem_singleton_self _)
      obtain ⟨vs, g1, hv⟩ := r2.lst (e2.get ha) (lstAt_some hl2)
      exact ⟨vs, SqL.of g1, hv⟩
  | _ => cases e
section
variable {X : Cx} {W : WX} {tg e e2 : Expr} {es : List Expr} {fe fe2 : EF} {ta : AF} {pos p tp : Pos} {kk : Nat}
/-- a list or tuple is walked -/
theorem mi_seq (h : ME X W e fe) : MI X W tg e (iOf1 fe srcOf) := ⟨pi_imp (pi_seqG h.pe) fun σ H R q => by
  obtain ⟨m, ah, ev, r, re, q⟩ := q.of1
  refine ⟨m, ah, ev, r, re, ?_⟩
  cases eg : fe ev ah with
  | exc c p a => rw [eg] at q; exact q
  | bad => rw [eg] at q; exact q
  | ok v a =>
    rw [eg] at q
    intro m1 H1 x e1 r1 rx
    obtain ⟨m2, ah2, p2, s, r2, rv, es, q2⟩ := q m1 H1 x e1 r1 rx
    obtain ⟨k, b, rfl, hk⟩ := srcOf_ok r2 rv es
    have gs0 : gsOk s.gs ah2 = true := by
      refine gsOk_of fun pp hp => ?_
      unfold srcOf at es
      split at es
      · cases es; cases hp
      · cases es; cases hp
      · rename_i l
        cases hl : lstAt ah2 l with
        | none => simp only [hl] at es; cases es
        | some xs =>
          simp only [hl] at es
          cases es
          rw [List.mem_singleton.mp hp]
          exact hl
      · cases es
    obtain ⟨vs0, s0, _⟩ := hk m2 H1 ah2 .refl r2 gs0
    refine ⟨b, rfl, ?_⟩
    cases k
    · refine .inl ⟨⟨vs0, s0⟩, q2 _ fun m3 H3 ah3 e3 r3 g3 => ?_⟩
      obtain ⟨vs, s3, h3⟩ := hk m3 H3 ah3 e3 r3 g3
      refine ⟨fun i x hx => ?_, ⟨vs, s3, Nat.le_of_eq h3.length.symm⟩⟩
      obtain ⟨w, hw, rw'⟩ := h3.get hx
      refine ⟨⟨vs, w, s3, hw⟩, fun y H4 hy => ?_⟩
      obtain ⟨rfl, hy⟩ := hy
      have hyw := hy vs s3
      rw [hw] at hyw
      cases hyw
      exact ⟨.refl, r3, rw'⟩
    · refine .inr ⟨⟨vs0, s0⟩, q2 _ fun m3 H3 ah3 e3 r3 g3 => ?_⟩
      obtain ⟨vs, s3, h3⟩ := hk m3 H3 ah3 e3 r3 g3
      refine ⟨fun i x hx => ?_, ⟨vs, s3, Nat.le_of_eq h3.length.symm⟩⟩
      obtain ⟨w, hw, rw'⟩ := h3.get hx
      refine ⟨⟨vs, w, s3, hw⟩, fun y H4 hy => ?_⟩
      obtain ⟨rfl, hy⟩ := hy
      have hyw := hy vs s3
      rw [hw] at hyw
      cases hyw
      exact ⟨.refl, r3, rw'⟩⟩
/-- lo, lo + 1, .., n of them -/
def intsF : Int → Nat → List Va
  | _, 0 => []
  | lo, n + 1 => .int lo :: intsF (lo + 1) n
theorem ints_len : ∀ (n : Nat) (lo : Int), (intsF lo n).length = n
  | 0, _ => rfl
  | n + 1, lo => by simp [intsF, ints_len n]
theorem ints_get : ∀ (n : Nat) (lo : Int) (i : Nat), (intsF lo n)[i]? = if i < n then some (.int (lo + i)) else none
  | 0, _, i => by simp [intsF]
  | n + 1, lo, 0 => by simp [intsF]
  | n + 1, lo, i + 1 => by
    simp only [intsF, List.getElem?_cons_succ, ints_get n]
    by_cases h : i < n
    · rw [if_pos h, if_pos (by omega)]; congr 2; omega
    · rw [if_neg h, if_neg (by omega)]
def rngL : Int := 1000000000
def srcR : List Va → AH → Option Src := fun vs _ => match vs with
  | [.int j] => if decide (-rngL ≤ j) && decide (j ≤ rngL) then some ⟨intsF 0 j.toNat, []⟩ else none
  | _ => none
def srcR2 : List Va → AH → Option Src := fun vs _ => match vs with
  | [.int i, .int j] => if decide (-rngL ≤ i) && decide (i ≤ rngL) && decide (-rngL ≤ j) && decide (j ≤ rngL) then some ⟨intsF i (j - i).toNat, []⟩ else none
  | _ => none
theorem jok_rng {K : PySem.W.Frag} {m : List Addr} {H : Hp} (lo : Int) (n : Nat) : JOk K (Itr lo n) m H ⟨intsF lo n, []⟩ := fun m2 H2 ah2 e2 r2 g2 => by
  refine ⟨fun i x hx => ?_, by show n ≤ _; rw [ints_len]; exact Nat.le_refl _⟩
  rw [ints_get] at hx
  split at hx
  · rename_i hi
    cases hx
    refine ⟨hi, fun y H3 hy => ?_⟩
    obtain ⟨rfl, rfl⟩ := hy
    exact ⟨.refl, r2, .int _⟩
  · cases hx

theorem mi_range1 (ha : MA X W [e] ta) (hm : X.mg "range" = none := by rfl) (hg : Gl X "range" := by rfl) (hs : starEach [e] X.env = [(false, eval e X.env)] := by rfl) : MI X W tg (.Call (.Name "range" p) [e] [] pos) (iOf ta srcR) :=
  ⟨pi_imp (pi_range1 hg hm ha.pa hs) fun σ H R q => by
    obtain ⟨m, ah, ev, r, re, q⟩ := q.of
    refine ⟨m, ah, ev, r, re, ?_⟩
    cases eg : ta ev ah with
    | exc c p a => rw [eg] at q; exact q
    | bad => rw [eg] at q; exact q
    | ok v a =>
      rw [eg] at q
      intro m1 H1 x e1 r1 rx
      obtain ⟨m2, ah2, ps, s, r2, rv, es, q2⟩ := q m1 H1 x e1 r1 rx
      unfold srcR at es
      split at es
      · rename_i j
        cases rv with
        | cons r0 rr =>
        cases rr
        cases r0
        split at es
        · rename_i hz
          obtain ⟨z1, z2⟩ := Bool.and_eq_true_iff.mp hz
          have z1 : -1000000000 ≤ j := of_decide_eq_true z1
          have z2 : j ≤ 1000000000 := of_decide_eq_true z2
          cases es
          exact ⟨j, rfl, by omega, by omega, q2 _ (jok_rng 0 j.toNat)⟩
        · cases es
      · cases es⟩
/-- numbered items -/
def enumF : Int → List Va → List Va
  | _, [] => []
  | i, x :: xs => .tup [.int i, x] :: enumF (i + 1) xs
def srcE : List Va → AH → Option Src := fun ps h => match ps with
  | [p] => (srcOf p h).map fun s => ⟨enumF 0 s.items, s.gs⟩
  | _ => none
/-- pairs -/
def zipF : List Va → List Va → List Va
  | x :: xs, y :: ys => .tup [x, y] :: zipF xs ys
  | _, _ => []
def srcZ (b : Bool) : List Va → AH → Option Src := fun ps h => match ps with
  | [p, q] => (srcOf p h).bind fun s => (srcOf q h).bind fun t => if b && (s.items.length != t.items.length) then none else some ⟨zipF s.items t.items, s.gs ++ t.gs⟩
  | _ => none
/-! ### for -/
def loopF (gs : List (Nat × List Va)) (g : GF) (body : SF) : List Va → SF
  | [], ev, h => if gsOk gs h then .nx ev h else .bad
  | x :: xs, ev, h => if gsOk gs h then match g x ev with
      | none => .bad
      | some ev1 => match body ev1 h with
        | .nx ev2 h2 => loopF gs g body xs ev2 h2
        | .ct ev2 h2 => loopF gs g body xs ev2 h2
        | .bk ev2 h2 => .nx ev2 h2
        | .rt v h2 => .rt v h2
        | .exc c p ev2 h2 => .exc c p ev2 h2
        | .bad => .bad
    else .bad
def sFor (i : IF) (g : GF) (body : SF) : SF := fun ev h => (i ev h).s ev fun s h1 => loopF s.gs g body s.items ev h1
theorem ms_for {vs : List Nat} {body : List Stmt} {fi : IF} {g : GF} {fb : SF} (hp : PassesOwn (model X.prog X.w) X.A X.env X.xe) (hc : X.calm = true) (hi : MI X W tg e fi) (hg : MG X tg vs g) (hb : MSs X W body fb)
    (hs : ∀ x, foldedSetIterable e X.env x = pure x := by intro _; rfl) : MS X W (.For tg e body [] pos) (sFor fi g fb) := ⟨ps_imp (ps_for hp hc hi.pi hg.pg hb.pss hs) fun D σ H q => by
  obtain ⟨m, ah, ev, r, re, q⟩ := q
  refine ⟨m, ah, ev, r, re, ?_⟩
  unfold sFor at q
  cases eg : fi ev ah with
  | exc c p a => rw [eg] at q; exact fun m2 H2 cls d e2 r2 x2 => q m2 H2 cls d σ e2 r2 (re.ext r e2) x2
  | bad => rw [eg] at q; exact q
  | ok s a =>
    rw [eg] at q
    intro m1 H1 J e1 r1 hJ
    refine ⟨fun i k σ' H' => ∃ m' ah' ev', Ext m1 H1 m' H' ∧ HR X.K H' m' ah' ∧ ER X.K H' m' ev' σ' ∧ k = s.items.length - i ∧ i ≤ s.items.length ∧ PostS X.K X.mg W m' H' D (loopF s.gs g fb (s.items.drop i) ev' ah'), ⟨_, m1, a, ev, .refl, r1, re.ext r e1, rfl, Nat.zero_le _, PostS.ext q e1⟩, ?_⟩
    rintro i k σ1 H2 ⟨m2, ah2, ev2, e2, r2, re2, hk, hle, q2⟩
    cases hi : s.items.drop i with
    | nil =>
      rw [hi] at q2
      unfold loopF at q2
      split at q2
      · rename_i hgs
        have hlen : i = s.items.length := by
          have := List.drop_eq_nil_iff.mp hi
          omega
        subst hlen
        exact .inl ⟨(hJ m2 H2 ah2 (e2.w r1) r2 hgs).2, q2 m2 H2 σ1 .refl r2 re2⟩
      · exact q2.elim
    | cons x xs =>
      rw [hi] at q2
      unfold loopF at q2
      split at q2
      case isFalse => exact q2.elim
      rename_i hgs
      have hlt : i < s.items.length := by
        rcases Nat.lt_or_ge i s.items.length with z | z
        · exact z
        · rw [List.drop_eq_nil_of_le z] at hi; cases hi
      have hx : s.items[i]? = some x := by
        have := List.getElem?_drop (xs := s.items) (i := i) (j := 0)
        rw [hi] at this
        simpa using this.symm
      have hxs : s.items.drop (i + 1) = xs := by
        rw [← List.tail_drop, hi]; rfl
      obtain ⟨hgo, hy⟩ := (hJ m2 H2 ah2 (e2.w r1) r2 hgs).1 i x hx
      refine .inr ⟨hgo, fun σ' H' => ∃ m' ah' ev', Ext m2 H2 m' H' ∧ HR X.K H' m' ah' ∧ ER X.K H' m' ev' σ' ∧ PostS X.K X.mg W m' H' D (loopF s.gs g fb xs ev' ah'), ?_, ?_⟩
      · rintro σ' H' ⟨m', ah', ev', e3, r3, re3, q3⟩
        exact ⟨k - 1, by omega, m', ah', ev', e2.trans e3, r3, re3, by omega, by omega, by rw [hxs]; exact q3⟩
      · intro y H3 hyl
        obtain ⟨e3, r3, ry⟩ := hy y H3 hyl
        cases hg' : g x ev2 with
        | none => simp only [hg'] at q2; exact q2.elim
        | some ev1 =>
        simp only [hg'] at q2
        refine ⟨m2, x, ev2, ev1, re2.ext r2 e3, ry, hg', fun σ' re' _ _ => ⟨m2, ah2, ev1, r3, re', ?_⟩⟩
        cases hb' : fb ev1 ah2 with
        | nx ev3 h3 =>
          simp only [hb'] at q2
          exact fun m' H' s' e4 r4 re4 => ⟨m', h3, ev3, e3.trans e4, r4, re4, PostS.ext q2 (e3.trans e4)⟩
        | ct ev3 h3 =>
          simp only [hb'] at q2
          exact fun m' H' s' e4 r4 re4 => ⟨m', h3, ev3, e3.trans e4, r4, re4, PostS.ext q2 (e3.trans e4)⟩
        | bk ev3 h3 =>
          simp only [hb'] at q2
          exact fun m' H' s' e4 r4 re4 => q2 m' H' s' (e3.trans e4) r4 re4
        | rt v h3 =>
          simp only [hb'] at q2
          exact fun m' H' s' e4 r4 re4 => q2 m' H' s' (e3.trans e4) r4 re4
        | exc c p ev3 h3 =>
          simp only [hb'] at q2
          exact fun m' H' cls d s' e4 r4 re4 x4 => q2 m' H' cls d s' (e3.trans e4) r4 re4 x4
        | bad => simp only [hb'] at q2; exact q2.elim⟩
end
end FL

set_option Elab.async false
set_option linter.all false
set_option maxRecDepth 100000
/-! FLC: comprehensions. -/
namespace FL
open PySem PySem.Spec PyProof.Rows L2
variable [Tabz]
section
variable {K : PySem.W.Frag} {H H' : Hp} {m : List Addr}
theorem sqT_off (e : ∀ b o, H b = some o → (∀ vs, o ≠ .lst vs) → H' b = some o) {a : Addr} {vs : List V} (h : SqT K H a vs) : SqT K H' a vs := by
  rcases h with (h | ⟨o, h⟩) | h
  · exact .inl (.inl (e _ _ h (fun _ z => nomatch z)))
  · exact .inl (.inr ⟨o, e _ _ h (fun _ z => nomatch z)⟩)
  · exact .inr h
theorem fz_off (e : ∀ b o, H b = some o → (∀ vs, o ≠ .lst vs) → H' b = some o) {a : Addr} {vs : List V} (h : Fz K H a vs) : Fz K H' a vs := by
  rcases h with ⟨o, h⟩ | h
  · exact .inl ⟨o, e _ _ h (fun _ z => nomatch z)⟩
  · exact .inr h
mutual
theorem VR.off (e : ∀ b o, H b = some o → (∀ vs, o ≠ .lst vs) → H' b = some o) : ∀ {x : Va} {v : V}, VR K H m x v → VR K H' m x v
  | _, _, .non => .non
  | _, _, .bl b => .bl b
  | _, _, .int i => .int i
  | _, _, .str x => .str x
  | _, _, .rp d => .rp d
  | _, _, .ref h => .ref h
  | _, _, .tup h hs => .tup (sqT_off e h) (VRs.off e hs)
  | _, _, .rol h hs => .rol (fz_off e h) (VRs.off e hs)
  | _, _, .dv h => .dv (h.to (fun _ _ z => e _ _ z (fun _ z => nomatch z)) fun _ _ => sqT_off e)
  | _, _, .exo a => .exo a
  | _, _, .exn h g => .exn (e _ _ h (fun _ z => nomatch z)) (VR.off e g)
theorem VRs.off (e : ∀ b o, H b = some o → (∀ vs, o ≠ .lst vs) → H' b = some o) : ∀ {xs : List Va} {vs : List V}, VRs K H m xs vs → VRs K H' m xs vs
  | _, _, .nil => .nil
  | _, _, .cons h hs => .cons (VR.off e h) (VRs.off e hs)
end
theorem DtE.off (e : ∀ b o, H b = some o → (∀ vs, o ≠ .lst vs) → H' b = some o) : ∀ {kvs : List (Va × Va)} {xs : List (PySem.NestedKey × Addr × Value)}, DtE K H m kvs xs → DtE K H' m kvs xs
  | _, _, .nil => .nil
  | _, _, .cons h1 h2 h3 h4 h5 => .cons h1 (VR.off e h2) (VR.off e h3) h4 (DtE.off e h5)
theorem VRp.off (e : ∀ b o, H b = some o → (∀ vs, o ≠ .lst vs) → H' b = some o) : ∀ {xs : List (Va × Va)} {vs : List (V × V)}, VRp K H m xs vs → VRp K H' m xs vs
  | _, _, .nil => .nil
  | _, _, .cons h g hs => .cons (VR.off e h) (VR.off e g) (VRp.off e hs)
theorem HR.off {ah : AH} (e : ∀ b o, H b = some o → (∀ vs, o ≠ .lst vs) → H' b = some o) (e2 : ∀ b, b ∈ m → H' b = H b) (r : HR K H m ah) : HR K H' m ah := by
  refine ⟨r.len, r.nd, fun l a o h1 h2 => ?_, fun x hx => by
    obtain ⟨ps, t1, t2, t3⟩ := r.tb x hx
    refine ⟨ps, e _ _ t1 (fun _ z => nomatch z), t2, fun pos cv hc => ?_⟩
    obtain ⟨c, e1, e3⟩ := t3 pos cv hc
    exact ⟨c, e1, e _ _ e3 (fun _ z => by unfold LamX.CodeO at z; cases z)⟩⟩
  have q := r.at_ l a o h1 h2
  have ea := e2 a (List.mem_of_getElem? h1)
  cases o with
  | lst xs => obtain ⟨vs, q1, q2⟩ := q; exact ⟨vs, by rw [ea]; exact q1, q2.off e⟩
  | dct xs => obtain ⟨vs, q1, q2⟩ := q; exact ⟨vs, by rw [ea]; exact q1, q2.off e⟩
  | dtl xs => obtain ⟨vs, q1, q2, q3⟩ := q; exact ⟨vs, by rw [ea]; exact q1, q2.off e, q3⟩
  | ins c fs => obtain ⟨dx, vs, q1, q2⟩ := q; exact ⟨dx, vs, by rw [ea]; exact q1, q2.imp fun h => VR.off e h⟩
theorem off_upd {D : Addr} {ws us : List V} (h : H D = some (.lst ws)) : ∀ b o, H b = some o → (∀ vs, o ≠ .lst vs) → upd H D (.lst us) b = some o := fun b o hb hn => by
  have : b ≠ D := fun z => by rw [z, h] at hb; cases hb; exact hn _ rfl
  rw [upd_ne this]; exact hb
end
/-- as Ext, but for the thing at D -/
structure ExtD (D : Addr) (m : List Addr) (H : Hp) (m' : List Addr) (H' : Hp) : Prop where
  pre : ∃ r, m' = m ++ r
  keep : ∀ b o, b ≠ D → H b = some o → b ∉ m → (nt : ∀ ps, o ≠ .tbl ps := by first | assumption | (intro _ z; cases z) | simp) → H' b = some o
  new : ∀ a, a ∈ m' → a ∉ m → a ≠ D ∧ (H a = none ∨ ∃ ps, H a = some (.tbl ps))
section
variable {K : PySem.W.Frag} {D : Addr} {H H' H2 H3 : Hp} {m m' m2 : List Addr}
theorem ExtD.get (e : ExtD D m H m' H') {l : Nat} {a : Addr} (h : m[l]? = some a) : m'[l]? = some a := by
  obtain ⟨r, rfl⟩ := e.pre
  rw [List.getElem?_append_left (List.getElem?_eq_some_iff.mp h).1]
  exact h
theorem ExtD.then (e : ExtD D m H m' H') (f : Ext m' H' m2 H2) (hD : ∃ ws, H' D = some (.lst ws)) (hn : D ∉ m') : ExtD D m H m2 H2 := by
  refine ⟨?_, fun b o hb h n nt => ?_, fun a h n => ?_⟩
  · obtain ⟨r, e1⟩ := e.pre
    obtain ⟨q, e2⟩ := f.pre
    exact ⟨r ++ q, by rw [e2, e1, List.append_assoc]⟩
  · refine f.keep b o (e.keep b o hb h n nt) (fun hb' => ?_) nt
    rcases (e.new b hb' n).2 with this | ⟨ps, this⟩
    · rw [h] at this
      cases this
    · rw [h] at this
      exact nt ps (Option.some.inj this)
  · by_cases h1 : a ∈ m'
    · exact e.new a h1 n
    · have q := f.new a h h1
      have hd : a ≠ D := fun z => by
        obtain ⟨o, ho⟩ := hD
        rcases q with q | ⟨_, q⟩ <;> (rw [z, ho] at q; cases q)
      refine ⟨hd, ?_⟩
      cases z : H a with
      | none => exact .inl rfl
      | some o =>
        by_cases nt : ∃ ps, o = .tbl ps
        · obtain ⟨ps, y⟩ := nt
          exact .inr ⟨ps, by rw [y]⟩
        · have nt' : ∀ ps, o ≠ .tbl ps := fun ps y => nt ⟨ps, y⟩
          rw [e.keep a o hd z n nt'] at q
          rcases q with q | ⟨ps, q⟩
          · cases q
          · exact (nt' ps (Option.some.inj q)).elim
theorem ExtD.upd (e : ExtD D m H m' H') {o : HO} : ExtD D m H m' (upd H' D o) :=
  ⟨e.pre, fun b u hb h n nt => by rw [upd_ne hb]; exact e.keep b u hb h n nt, e.new⟩
theorem ExtD.start {o : HO} : ExtD D m H m (L2.upd H D o) :=
  ⟨⟨[], by simp⟩, fun b u hb h n _ => by rw [upd_ne hb]; exact h, fun a h1 h2 => absurd h1 h2⟩
theorem ExtD.done (e : ExtD D m H m' H') (hD : H D = none) : Ext m H (m' ++ [D]) H' := by
  refine ⟨?_, fun b o h n nt => ?_, fun a h n => ?_⟩
  · obtain ⟨r, e1⟩ := e.pre
    exact ⟨r ++ [D], by rw [e1, List.append_assoc]⟩
  · exact e.keep b o (fun z => by rw [z, hD] at h; cases h) h n nt
  · rcases List.mem_append.mp h with z | z
    · exact (e.new a z n).2
    · rw [List.mem_singleton.mp z]; exact .inl hD
mutual
theorem VR.more {x : List Addr} : ∀ {p : Va} {v : V}, VR K H m p v → VR K H (m ++ x) p v
  | _, _, .non => .non
  | _, _, .bl b => .bl b
  | _, _, .int i => .int i
  | _, _, .str x => .str x
  | _, _, .rp d => .rp d
  | _, _, .ref h => .ref (by rw [List.getElem?_append_left (List.getElem?_eq_some_iff.mp h).1]; exact h)
  | _, _, .tup h hs => .tup h (VRs.more hs)
  | _, _, .rol h hs => .rol h (VRs.more hs)
  | _, _, .dv h => .dv h
  | _, _, .exo a => .exo a
  | _, _, .exn h g => .exn h (VR.more g)
theorem VRs.more {x : List Addr} : ∀ {p : List Va} {v : List V}, VRs K H m p v → VRs K H (m ++ x) p v
  | _, _, .nil => .nil
  | _, _, .cons h hs => .cons (VR.more h) (VRs.more hs)
end
theorem DtE.more {x : List Addr} : ∀ {kvs : List (Va × Va)} {xs : List (PySem.NestedKey × Addr × Value)}, DtE K H m kvs xs → DtE K H (m ++ x) kvs xs
  | _, _, .nil => .nil
  | _, _, .cons h1 h2 h3 h4 h5 => .cons h1 (VR.more h2) (VR.more h3) h4 (DtE.more h5)
theorem VRp.more {x : List Addr} : ∀ {p : List (Va × Va)} {v : List (V × V)}, VRp K H m p v → VRp K H (m ++ x) p v
  | _, _, .nil => .nil
  | _, _, .cons h g hs => .cons (VR.more h) (VR.more g) (VRp.more hs)
/-- the list at D is taken into the layer's heap -/
theorem HR.take_in {ah : AH} {xs : List Va} {vs : List V} (r : HR K H m ah) (hn : D ∉ m) (hD : H D = some (.lst vs)) (hv : VRs K H m xs vs) : HR K H (m ++ [D]) (ah ++ [.lst xs]) := by
  refine ⟨by simp [r.len], ?_, fun l a o h1 h2 => ?_, r.tb⟩
  · rw [List.nodup_append]
    refine ⟨r.nd, by simp, fun a ha b hb z => ?_⟩
    rw [List.mem_singleton.mp hb] at z
    exact hn (z ▸ ha)
  · rcases Nat.lt_or_ge l m.length with hl | hl
    · rw [List.getElem?_append_left hl] at h1
      rw [List.getElem?_append_left (by rw [← r.len]; exact hl)] at h2
      have q := r.at_ l a o h1 h2
      cases o with
      | lst xs => obtain ⟨vs, q1, q2⟩ := q; exact ⟨vs, q1, q2.more⟩
      | dct xs => obtain ⟨vs, q1, q2⟩ := q; exact ⟨vs, q1, q2.more⟩
      | dtl xs => obtain ⟨vs, q1, q2, q3⟩ := q; exact ⟨vs, q1, q2.more, q3⟩
      | ins c fs => obtain ⟨dx, vs, q1, q2⟩ := q; exact ⟨dx, vs, q1, q2.imp fun h => VR.more h⟩
    · have hl2 : l = m.length := by
        have := (List.getElem?_eq_some_iff.mp h1).1
        rw [List.length_append, List.length_singleton] at this
        omega
      subst hl2
      rw [List.getElem?_append_right (Nat.le_refl _)] at h1
      rw [List.getElem?_append_right (by rw [← r.len]; exact Nat.le_refl _), ← r.len] at h2
      simp at h1 h2
      subst h1 h2
      exact ⟨vs, hD, hv.more⟩
end
/-! ### the tests of a comprehension -/
structure MTs (X : Cx) (W : WX) (ifs : List Expr) (t : TF) : Prop where
  pts : PTs X ifs (Wi X.K X.mg RB W t)
def tYesF : TF := fun _ h => .ok true h
def compF (gs : List (Nat × List Va)) (g : GF) (t : TF) (el : EF) (ev0 : Ev) : List Va → AH → Rs (List Va)
  | [], h => if gsOk gs h then .ok [] h else .bad
  | x :: xs, h => if gsOk gs h then match g x ev0 with
      | none => .bad
      | some ev1 => match t ev1 h with
        | .ok true h2 => (match el ev1 h2 with
          | .ok y h3 => (compF gs g t el ev0 xs h3).bind fun ys h4 => .ok (y :: ys) h4
          | _ => .bad)
        | .ok false h2 => compF gs g t el ev0 xs h2
        | _ => .bad
    else .bad
def lcF (g : GF) (t : TF) (el : EF) (vs : List Nat) (ev : Ev) : Src → AH → Rs Va := fun s h1 =>
  if s.items.length < lim then (compF s.gs g t el (ewipe ev vs) s.items h1).bind fun ys h2 => .ok (.ref h2.length) (h2 ++ [.lst ys]) else .bad
def eLc (i : IF) (g : GF) (t : TF) (el : EF) (vs : List Nat) : EF := fun ev h => (i ev h).bind (lcF g t el vs ev)
theorem wipe_of : ∀ {vs : List Nat} {σ2 σ : L2.St}, σ2.length = σ.length → (∀ j, j ∉ vs → σ2[j]? = (wipe σ vs)[j]?) → wipe σ2 vs = wipe σ vs := by
  intro vs σ2 σ hl h
  have key : ∀ (us : List Nat) (τ : L2.St) (j : Nat), (wipe τ us)[j]? = if j ∈ us then (if j < τ.length then some none else none) else τ[j]? := by
    intro us
    induction us with
    | nil => intro τ j; simp [wipe]
    | cons u us ih =>
      intro τ j
      unfold wipe
      by_cases hj : u = j
      · subst hj
        by_cases hlt : u < τ.length
        · rw [List.getElem?_set_self (by rw [wipe_length]; exact hlt)]
          simp [hlt]
        · rw [List.getElem?_eq_none (by rw [List.length_set, wipe_length]; omega)]
          simp [hlt]
      · rw [List.getElem?_set_ne hj, ih]
        simp [Ne.symm hj]
  apply List.ext_getElem?
  intro j
  rw [key, key]
  by_cases hj : j ∈ vs
  · simp [hj, hl]
  · simp only [hj, if_false]
    rw [h j hj, key]
    simp [hj]
section
variable {X : Cx} {W : WX} {tg iter elt : Expr} {ifs : List Expr} {scope : Scope} {own : List (Str × Nat)} {pos : Pos} {vs : List Nat} {fi : IF} {g : GF} {t : TF} {el : EF}
theorem mts_nil : MTs X W [] tYesF := ⟨⟨fun pins s σ H Q I h => (pts_nil (X := X)).run pins s σ H Q I (by
  obtain ⟨m, ah, ev, r, re, q⟩ := h
  exact q m H true .refl r rfl)⟩⟩
theorem mts_one {c : Expr} (h : MT X W c t) : MTs X W [c] t := ⟨⟨fun pins s σ H Q I q => (pts_one h.pt).run pins s σ H Q I q⟩⟩
def WN : WX := fun _ _ _ _ => False
theorem lc_wi {σ : L2.St} {H : Hp} {Q : V → Hp → Prop} (q : Wi X.K X.mg (VR X.K) W (eLc fi g t el (own.map (·.2))) σ H Q) :
    tLc (WiI X.K X.mg W fi) (WiG X.K (own.map (·.2)) g) (Wi X.K X.mg RB WN t) (Wi X.K X.mg (VR X.K) WN el) (own.map (·.2)) σ H Q := by
  obtain ⟨m, ah, ev, r, re, q⟩ := q
  refine ⟨m, ah, ev, r, re, ?_⟩
  unfold eLc at q
  cases eg : fi ev ah with
  | exc c p a => rw [eg] at q; exact q
  | bad => rw [eg] at q; exact q
  | ok s a =>
    rw [eg] at q
    simp only [Rs.bind_ok] at q
    unfold lcF at q
    split at q
    case isFalse => exact q.elim
    rename_i hlim
    intro m1 H1 J e1 r1 hJ D hD
    have hDm : D ∉ m1 := r1.notnone hD
    generalize hev0 : ewipe ev (own.map (·.2)) = ev0 at q
    have e0 : Ext m1 H1 m1 (upd H1 D (.lst [])) := ext_new r1 hD
    have re0 : ER X.K (upd H1 D (.lst [])) m1 ev0 (wipe σ (own.map (·.2))) := by
      rw [← hev0]
      exact ((re.ext r e1).ext r1 e0).wipe _
    refine ⟨fun i k H2 => ∃ m2 ah2 acc vacc, ExtD D m1 H1 m2 H2 ∧ HR X.K H2 m2 ah2 ∧ ER X.K H2 m2 ev0 (wipe σ (own.map (·.2))) ∧ VRs X.K H2 m2 acc vacc ∧ H2 D = some (.lst vacc) ∧ D ∉ m2 ∧ acc.length ≤ i ∧ k = s.items.length - i ∧ i ≤ s.items.length ∧
      Post X.K X.mg (VR X.K) m H (fun cls d H' => W cls d σ H') ((compF s.gs g t el ev0 (s.items.drop i) ah2).bind fun ys h2 => .ok (.ref h2.length) (h2 ++ [.lst (acc ++ ys)])) (fun w H' => Q w H'), ?_, ?_⟩
    · refine ⟨_, m1, a, [], [], ExtD.start, hr_new r1 hD, re0, .nil, upd_same, hDm, Nat.le_refl _, rfl, Nat.zero_le _, ?_⟩
      simpa using q
    rintro i k H2 ⟨m2, ah2, acc, vacc, e2, r2, re2, rv2, hD2, hn2, hle2, rfl, hi2, q2⟩
    have eJ : ExtW m1 H1 m2 H2 := ⟨e2.pre, fun b o h h1 h2 _ _ _ => e2.keep b o (fun z => by rw [z, hD] at h; cases h) h (r1.notin h h1 h2)⟩
    cases hi : s.items.drop i with
    | nil =>
      rw [hi] at q2
      unfold compF at q2
      split at q2
      · rename_i hgs
        have hlen : i = s.items.length := by
          have := List.drop_eq_nil_iff.mp hi
          omega
        subst hlen
        refine .inl ⟨(hJ m2 H2 _ eJ r2 hgs).2, ?_⟩
        simp only [Rs.bind_ok, List.append_nil] at q2
        exact q2 (m2 ++ [D]) H2 (.ref D) (e1.trans (e2.done hD)) (r2.take_in hn2 hD2 rv2) (.ref (by rw [← r2.len]; simp))
      · exact q2.elim
    | cons x xs =>
      rw [hi] at q2
      unfold compF at q2
      split at q2
      case isFalse => exact q2.elim
      rename_i hgs
      have hlt : i < s.items.length := by
        rcases Nat.lt_or_ge i s.items.length with z | z
        · exact z
        · rw [List.drop_eq_nil_of_le z] at hi; cases hi
      have hx : s.items[i]? = some x := by
        have := List.getElem?_drop (xs := s.items) (i := i) (j := 0)
        rw [hi] at this
        simpa using this.symm
      have hxs : s.items.drop (i + 1) = xs := by
        rw [← List.tail_drop, hi]; rfl
      obtain ⟨hgo, hy⟩ := (hJ m2 H2 _ eJ r2 hgs).1 i x hx
      refine .inr ⟨hgo, fun H' => ∃ m' ah' acc' vacc', ExtD D m1 H1 m' H' ∧ HR X.K H' m' ah' ∧ ER X.K H' m' ev0 (wipe σ (own.map (·.2))) ∧ VRs X.K H' m' acc' vacc' ∧ H' D = some (.lst vacc') ∧ D ∉ m' ∧ acc'.length ≤ i + 1 ∧
        Post X.K X.mg (VR X.K) m H (fun cls d H' => W cls d σ H') ((compF s.gs g t el ev0 xs ah').bind fun ys h2 => .ok (.ref h2.length) (h2 ++ [.lst (acc' ++ ys)])) (fun w H' => Q w H'), ?_, ?_⟩
      · rintro H' ⟨m', ah', acc', vacc', e3, r3, re3, rv3, hD3, hn3, hle3, q3⟩
        exact ⟨_, by omega, m', ah', acc', vacc', e3, r3, re3, rv3, hD3, hn3, hle3, rfl, by omega, by rw [hxs]; exact q3⟩
      · intro y H3 hyl
        obtain ⟨e3, r3, ry⟩ := hy y H3 hyl
        have hD3 := e3.keep D _ hD2 hn2
        have re3 := re2.ext r2 e3
        have rv3 := rv2.ext r2 e3
        cases hg' : g x ev0 with
        | none => simp only [hg'] at q2; exact q2.elim
        | some ev1 =>
        simp only [hg'] at q2
        refine ⟨m2, x, ev0, ev1, re3, ry, hg', fun σ' re' hu hul => ⟨wipe_of (by rw [hul, wipe_length]) hu, m2, ah2, ev1, r3, re', ?_⟩⟩
        cases ht' : t ev1 ah2 with
        | exc c p h2 => simp only [ht'] at q2; exact q2.elim
        | bad => simp only [ht'] at q2; exact q2.elim
        | ok b h2 =>
        intro m4 H4 b' e4 r4 hb'
        cases hb'
        have hD4 := e4.keep D _ hD3 hn2
        have hn4 : D ∉ m4 := fun z => by
          rcases e4.new D z hn2 with this | ⟨_, this⟩ <;> (rw [hD3] at this; cases this)
        have eD3 : ExtD D m1 H1 m2 H3 := e2.then e3 ⟨_, hD2⟩ hn2
        have eD4 : ExtD D m1 H1 m4 H4 := eD3.then e4 ⟨_, hD3⟩ hn2
        cases b with
        | false =>
          simp only [ht'] at q2
          show _
          exact ⟨m4, h2, acc, vacc, eD4, r4, re3.ext r3 e4, rv3.ext r3 e4, hD4, hn4, by omega, q2⟩
        | true =>
          simp only [ht'] at q2
          show Wi _ _ _ _ _ _ _ _
          refine ⟨m4, h2, ev1, r4, re'.ext r3 e4, ?_⟩
          cases he' : el ev1 h2 with
          | exc c p h3 => simp only [he'] at q2; exact q2.elim
          | bad => simp only [he'] at q2; exact q2.elim
          | ok z h3 =>
            simp only [he'] at q2
            intro m5 H5 w e5 r5 rw5
            have hD5 := e5.keep D _ hD4 hn4
            have hn5 : D ∉ m5 := fun z => by
              rcases e5.new D z hn4 with this | ⟨_, this⟩ <;> (rw [hD4] at this; cases this)
            have eD5 : ExtD D m1 H1 m5 H5 := eD4.then e5 ⟨_, hD4⟩ hn4
            have rv5 := (rv3.ext r3 e4).ext r4 e5
            have off := off_upd (H := H5) (D := D) (us := vacc ++ [w]) hD5
            have hls := rv2.length
            have hl := lim_line hlim
            have hnb : ∀ b, b ∈ m5 → upd H5 D (.lst (vacc ++ [w])) b = H5 b := fun b hb => upd_ne fun z => hn5 (z ▸ hb)
            refine ⟨vacc, hD5, by omega, m5, h3, acc ++ [z], vacc ++ [w], eD5.upd, r5.off off hnb, ?_, (rv5.off off).append (.cons (rw5.off off) .nil), upd_same, hn5, by simp; omega, ?_⟩
            · have := (re3.ext r3 e4).ext r4 e5
              refine ⟨this.len, fun j v hj => ?_⟩
              obtain ⟨u, hu1, hu2⟩ := this.get j v hj
              exact ⟨u, hu1, hu2.off off⟩
            · have e9 : ((compF s.gs g t el ev0 xs h3).bind fun ys h2 => Rs.ok (Va.ref h2.length) (h2 ++ [.lst (acc ++ [z] ++ ys)])) = (((compF s.gs g t el ev0 xs h3).bind fun ys h4 => .ok (z :: ys) h4).bind fun ys h2 => .ok (Va.ref h2.length) (h2 ++ [.lst (acc ++ ys)])) := by
                cases compF s.gs g t el ev0 xs h3 with
                | ok ys h4 => simp [Rs.bind_ok]
                | exc c p h4 => rfl
                | bad => rfl
              rw [e9]
              exact q2
theorem me_lc (own : List (Str × Nat)) (hc : X.calm = true) (hN : X.N.Nodup) (hi : MI X W tg iter fi) (ok : BlkOk X.N X.env.scope scope own)
    (hg : ∀ (s : Shared) (H : Hp) (C : Addr) (cl : List (Str × Addr)) (fp : List Addr), MG (X.blk s H scope (compEnvC scope cl C X.env) fp) tg (own.map (·.2)) g)
    (ht : ∀ (s : Shared) (H : Hp) (C : Addr) (cl : List (Str × Addr)) (fp : List Addr), MTs (X.blk s H scope (compEnvC scope cl C X.env) fp) WN ifs t)
    (he : ∀ (s : Shared) (H : Hp) (C : Addr) (cl : List (Str × Addr)) (fp : List Addr), ME (X.blk s H scope (compEnvC scope cl C X.env) fp) WN elt el) (hs : ∀ x, foldedSetIterable iter X.env x = pure x := by intro _; rfl) :
    ME X W (.ListComp elt [⟨tg, iter, ifs, 0⟩] scope pos) (eLc fi g t el (own.map (·.2))) :=
  ⟨pe_imp (pe_lc hc hN hi.pi ok (fun s H C cl fp => (hg s H C cl fp).pg) (fun s H C cl fp => (ht s H C cl fp).pts) (fun s H C cl fp => (he s H C cl fp).pe) hs) fun σ H Q q => lc_wi q⟩
theorem ms_setLc {i : Nat} {y : Str} {py spos : Pos} (own : List (Str × Nat)) (hc : X.calm = true) (hN : X.N.Nodup) (hy : X.N[i]? = some y) (hyl : X.env.scope.names.lookup y = some .local)
    (hsw : swapsWith (.ListComp elt [⟨tg, iter, ifs, 0⟩] scope pos) (some (.Name y py)) spos.line X.env = pure true) (hi : MI X W tg iter fi) (ok : BlkOk X.N X.env.scope scope own)
    (hg : ∀ (s : Shared) (H : Hp) (C : Addr) (cl : List (Str × Addr)) (fp : List Addr), MG (X.blk s H scope (compEnvC scope cl C X.env) fp) tg (own.map (·.2)) g)
    (ht : ∀ (s : Shared) (H : Hp) (C : Addr) (cl : List (Str × Addr)) (fp : List Addr), MTs (X.blk s H scope (compEnvC scope cl C X.env) fp) WN ifs t)
    (he : ∀ (s : Shared) (H : Hp) (C : Addr) (cl : List (Str × Addr)) (fp : List Addr), ME (X.blk s H scope (compEnvC scope cl C X.env) fp) WN elt el) (hs : ∀ x, foldedSetIterable iter X.env x = pure x := by intro _; rfl) :
    MS X W (.Assign [.Name y py] (.ListComp elt [⟨tg, iter, ifs, 0⟩] scope pos) spos) (sSet i (eLc fi g t el (own.map (·.2)))) :=
  ⟨ps_imp (ps_setLc hc hN hy hyl hsw hi.pi ok (fun s H C cl fp => (hg s H C cl fp).pg) (fun s H C cl fp => (ht s H C cl fp).pts) (fun s H C cl fp => (he s H C cl fp).pe) hs) fun D σ H q => lc_wi (by
    obtain ⟨m, ah, ev, r, re, q⟩ := WiS.bind (R := VR X.K) q
    refine ⟨m, ah, ev, r, re, ?_⟩
    cases ef : eLc fi g t el (own.map (·.2)) ev ah with
    | exc c p a => rw [ef] at q; exact q
    | bad => rw [ef] at q; exact q
    | ok v a =>
      rw [ef] at q
      intro m1 H1 x e1 r1 rx
      obtain ⟨m2, ah2, ev2, v2, r2, re2, rv2, q2⟩ := q m1 H1 x e1 r1 rx
      exact q2 m2 H1 _ .refl r2 (re2.set rv2))⟩
end
end FL

set_option Elab.async false
set_option linter.all false
set_option maxRecDepth 100000
/-! FLF: defs, calls, the law's end. -/
namespace FL
open PySem PySem.Spec PyProof.Rows L2
variable [Tabz]
/-! ### what is no longer reached is left away -/
mutual
def inR (n : Nat) : Va → Bool
  | .ref l => l.blt n
  | .tup xs => inRs n xs
  | .rol xs => inRs n xs
  | .exn _ _ _ x => inR n x
  | _ => true
def inRs (n : Nat) : List Va → Bool
  | [] => true
  | x :: xs => inR n x && inRs n xs
end
def inRp (n : Nat) : List (Va × Va) → Bool
  | [] => true
  | (x, y) :: xs => inR n x && (inR n y && inRp n xs)
def inRf (n : Nat) : List (Str × Va) → Bool
  | [] => true
  | (_, x) :: xs => inR n x && inRf n xs
def inRO (n : Nat) : AO → Bool
  | .lst xs => inRs n xs
  | .dct ps => inRp n ps
  | .dtl ps => inRp n ps
  | .ins _ fs => inRf n fs
def gcF (n : Nat) (r : Rs Va) : Rs Va := match r with
  | .ok v h => if inR n v && (h.take n).all (inRO n) then .ok v (h.take n) else .ok v h
  | r => r
section
variable {K : PySem.W.Frag} {H : Hp} {m : List Addr}
mutual
theorem VR.less {n : Nat} : ∀ {x : Va} {v : V}, VR K H m x v → inR n x = true → VR K H (m.take n) x v
  | _, _, .non, _ => .non
  | _, _, .bl b, _ => .bl b
  | _, _, .int i, _ => .int i
  | _, _, .str x, _ => .str x
  | _, _, .rp d, _ => .rp d
  | _, _, .ref h, e => .ref (by
      unfold inR at e
      rw [List.getElem?_take_of_lt (Nat.le_of_ble_eq_true e)]
      exact h)
  | _, _, .tup h hs, e => .tup h (VRs.less hs (by unfold inR at e; exact e))
  | _, _, .rol h hs, e => .rol h (VRs.less hs (by unfold inR at e; exact e))
  | _, _, .dv h, _ => .dv h
  | _, _, .exo a, _ => .exo a
  | _, _, .exn h g, e => .exn h (VR.less g (by unfold inR at e; exact e))
theorem VRs.less {n : Nat} : ∀ {x : List Va} {v : List V}, VRs K H m x v → inRs n x = true → VRs K H (m.take n) x v
  | _, _, .nil, _ => .nil
  | _, _, .cons h hs, e => by
    unfold inRs at e
    obtain ⟨e1, e2⟩ := Bool.and_eq_true_iff.mp e
    exact .cons (VR.less h e1) (VRs.less hs e2)
end
theorem DtE.less {n : Nat} : ∀ {kvs : List (Va × Va)} {xs : List (PySem.NestedKey × Addr × Value)}, DtE K H m kvs xs → inRp n kvs = true → DtE K H (m.take n) kvs xs
  | _, _, .nil, _ => .nil
  | _, _, .cons h1 h2 h3 h4 h5, e => by
    unfold inRp at e
    obtain ⟨e1, e2⟩ := Bool.and_eq_true_iff.mp e
    obtain ⟨e3, e4⟩ := Bool.and_eq_true_iff.mp e2
    exact .cons h1 (VR.less h2 e1) (VR.less h3 e3) h4 (DtE.less h5 e4)
theorem VRp.less {n : Nat} : ∀ {x : List (Va × Va)} {v : List (V × V)}, VRp K H m x v → inRp n x = true → VRp K H (m.take n) x v
  | _, _, .nil, _ => .nil
  | _, _, .cons h g hs, e => by
    unfold inRp at e
    obtain ⟨e1, e2⟩ := Bool.and_eq_true_iff.mp e
    obtain ⟨e2, e3⟩ := Bool.and_eq_true_iff.mp e2
    exact .cons (VR.less h e1) (VR.less g e2) (VRp.less hs e3)
theorem VRf.less {n : Nat} : ∀ {x : List (Str × Va)} {v : List (Str × V)}, VRf K H m x v → inRf n x = true → VRf K H (m.take n) x v
  | _, _, .nil, _ => .nil
  | _, _, .cons h hs, e => by
    unfold inRf at e
    obtain ⟨e1, e2⟩ := Bool.and_eq_true_iff.mp e
    exact .cons (VR.less h e1) (VRf.less hs e2)
theorem HR.less {ah : AH} {n : Nat} (r : HR K H m ah) (h : (ah.take n).all (inRO n) = true) : HR K H (m.take n) (ah.take n) := by
  refine ⟨by rw [List.length_take, List.length_take, r.len], r.nd.sublist (List.take_sublist _ _), fun l a o h1 h2 => ?_, r.tb⟩
  have hl : l < n := by
    have := (List.getElem?_eq_some_iff.mp h1).1
    rw [List.length_take] at this
    omega
  have ho := List.all_eq_true.mp h o (List.mem_of_getElem? h2)
  rw [List.getElem?_take_of_lt hl] at h1 h2
  have q := r.at_ l a o h1 h2
  cases o with
  | lst xs => obtain ⟨vs, q1, q2⟩ := q; exact ⟨vs, q1, q2.less (by simpa [inRO] using ho)⟩
  | dct xs => obtain ⟨vs, q1, q2⟩ := q; exact ⟨vs, q1, q2.less (by simpa [inRO] using ho)⟩
  | dtl xs => obtain ⟨vs, q1, q2, q3⟩ := q; exact ⟨vs, q1, q2.less (by simpa [inRO] using ho), q3⟩
  | ins c fs => obtain ⟨dx, vs, q1, q2⟩ := q; exact ⟨dx, vs, q1, q2.less (by simpa [inRO] using ho)⟩
end
theorem Post.gc {K : PySem.W.Frag} {mg : Str → Option Value} {m : List Addr} {H : Hp} {ah : AH} {W : XK} {r : Rs Va} {Q : VK} (hr : HR K H m ah) (h : Post K mg (VR K) m H W (gcF ah.length r) (fun w H' => Q w H')) : Post K mg (VR K) m H W r (fun w H' => Q w H') := by
  cases r with
  | exc c p a => exact h
  | bad => exact h
  | ok v a =>
    unfold gcF at h
    simp only at h
    split at h
    · rename_i hz
      obtain ⟨z1, z2⟩ := Bool.and_eq_true_iff.mp hz
      intro m' H' w e1 r1 rw1
      have et : m'.take ah.length = m := by
        obtain ⟨q, e⟩ := e1.pre
        rw [e, ← hr.len, List.take_left']
        rfl
      have e2 : Ext m H (m'.take ah.length) H' := by
        rw [et]
        exact ⟨⟨[], by simp⟩, fun b o h1 h2 nt => e1.keep b o h1 h2 nt, fun a h1 h2 => absurd h1 h2⟩
      exact h (m'.take ah.length) H' w e2 (r1.less z2) (rw1.less z1)
    · exact h
/-! ### defs -/
def endF (r : SR) : Rs Va := match r with
  | .nx _ h => .ok .non h
  | .rt v h => .ok v h
  | .exc c p _ h => .exc c p h
  | _ => .bad
def fnF (n k : Nat) (b : SF) : List Va → AH → Rs Va := fun ps h => if ps.length == k then gcF h.length (endF (b (ps.map some ++ List.replicate (n - k) none) h)) else .bad
def spG (K : PySem.W.Frag) (mg : Str → Option Value) (F : List Va → AH → Rs Va) : Sp := fun vs H Q E => ∃ m ah pvs, HR K H m ah ∧ VRs K H m pvs vs ∧ Post K mg (VR K) m H E (F pvs ah) (fun w H' => Q w H')
structure FnG (P : Program) (w : World) (K : PySem.W.Frag) (mg : Str → Option Value) (base : Heap) (k : Nat) (f : Addr) (fd : FuncData) (ps : List Str) (F : List Va → AH → Rs Va) : Prop where
  len : ∀ vs H Q E, spG K mg F vs H Q E → vs.length = ps.length
  run : ∀ (A : Around) (outer : List Env) (s : Shared) (H : Hp) (args : Args) (us : List Value) (vs : List V) (Q : VK) (E : XK), Room k A → A.guards = some [] → Env0 P w K mg base A outer s H → BindsTo s fd args (ps.zip us) → Vals vs us → spG K mg F vs H Q E →
    codeAny (model P w) A (.call (.ref f) args) (CR (L2.CX P w) outer P w H s Q E) s
theorem er_start {K : PySem.W.Frag} {H : Hp} {m : List Addr} {pvs : List Va} {vs : List V} (N : List Str) (h : VRs K H m pvs vs) : ER K H m (pvs.map some ++ List.replicate (N.length - pvs.length) none) (start N vs) := by
  have hl := h.length
  refine ⟨by simp [L2.start, hl], fun i v e => ?_⟩
  by_cases hi : i < pvs.length
  · rw [List.getElem?_append_left (by simpa using hi), List.getElem?_map] at e
    cases ev : pvs[i]? with
    | none => rw [ev] at e; cases e
    | some x =>
      rw [ev] at e
      have : x = v := by simpa using e
      subst this
      obtain ⟨w, h1, h2⟩ := h.get ev
      refine ⟨w, ?_, h2⟩
      unfold L2.start
      rw [List.getElem?_append_left (by simp; omega), List.getElem?_map, h1]
      rfl
  · rw [List.getElem?_append_right (by simpa using hi), List.getElem?_replicate] at e
    split at e <;> cases e
section
variable {P : Program} {w : World} {K : PySem.W.Frag} {mg : Str → Option Value} {base : Heap}
abbrev WB (E : XK) : WX := fun cls d _ H => E cls d H
/-- a def by its body's meaning -/
theorem fnG_of {k : Nat} {f : Addr} {x qual : Str} {params : Arguments} {body : List Stmt} {scope : Scope} {dvs : List V} {kws : List (Str × V)} {fd : FuncData} {N ps : List Str} {b : SF} (F : FunD K x qual params body scope dvs kws f fd) (S : FnScope N ps scope)
    (hbody : ∀ (cdv : Value) (A : Around) (outer : List Env) (s : Shared) (H : Hp) (E : XK), Room k (A.deeper (envOfC qual scope s.heap.objs.size f cdv)) → (A.deeper (envOfC qual scope s.heap.objs.size f cdv)).guards = some [] →
      MSs (cxOf (L2.CX P w) P w K mg base N qual scope f cdv A outer s H E) (WB E) body b) :
    FnG P w K mg base (k + 1) f fd ps (fnF N.length ps.length b) := by
  have hlen : ∀ vs H Q E, spG K mg (fnF N.length ps.length b) vs H Q E → vs.length = ps.length := fun vs H Q E ⟨m, ah, pvs, r, rv, q⟩ => by
    rw [← rv.length]
    unfold fnF at q
    split at q
    · rename_i hz; exact eq_of_beq hz
    · exact q.elim
  refine ⟨hlen, fun A outer s H args us vs Q E hr hgd e0 hb r hsp => ?_⟩
  have hl := hlen _ _ _ _ hsp
  obtain ⟨oc, od, dV, kV, doc, pm, an, cdv, ct, osl, rfl, lk, hcd, hdd, hkk⟩ := F.ex
  have kx : K.In s.heap := e0.mod.kin.keeps fun b o e => (e0.bs b o e).1
  have nolim : s.heap.NoLimit := e0.mod.nolimit.keeps fun b o e => (e0.bs b o e).1
  have kinds : ∀ y ∈ ps.zip us, scope.names.lookup y.1 = some .local ∨ (scope.names.lookup y.1 = some .cell ∧ ((cellsFrom (s.heap.objs.size + 1) scope.names []).lookup y.1).isSome = true) := fun ⟨n, v⟩ hy => by
    rcases S.par n (List.of_mem_zip hy).1 with z | z
    · exact .inl z
    · exact .inr ⟨z, PySem.W.cellsFrom_some _ _ _ (.inl z)⟩
  refine codeAny_call_function hr.depth (kx _ _ lk) rfl S.co S.gen rfl (PySem.W.codeRec_of kx hcd) (hb _ _ _ _ ?_)
  refine wpAny_newFunctionEnv_cells S.kind kinds fun env he s1 x => ?_
  subst he
  refine ⟨nolim.keeps x.toInCall.keep, codeAny_func ?_⟩
  obtain ⟨m, ah, pvs, rH, rv, q⟩ := hsp
  have ht := hbody cdv A outer s H E (hr.deeper _) hgd
  have J : Inv (cxOf (L2.CX P w) P w K mg base N qual scope f cdv A outer s H E) [] (start N vs) H s1 := inv_start S hr.hd e0 hl r x
  have hpl : pvs.length = ps.length := by rw [rv.length]; exact hl
  have q2 : Post K mg (VR K) m H E (endF (b (pvs.map some ++ List.replicate (N.length - pvs.length) none) ah)) (fun w H' => Q w H') := by
    unfold fnF at q
    rw [if_pos (by rw [hpl]; exact beq_self_eq_true _), ← hpl] at q
    exact Post.gc rH q
  have hw : WiS K mg (WB E) b { nx := fun _ H' => Q .non H', rt := fun v H' => Q v H' } (start N vs) H := by
    refine ⟨m, ah, _, rH, er_start N rv, ?_⟩
    cases e : b (pvs.map some ++ List.replicate (N.length - pvs.length) none) ah with
    | nx ev a => rw [e] at q2; exact fun m' H' σ' e1 r1 _ => q2 m' H' .non e1 r1 .non
    | rt v a => rw [e] at q2; exact q2
    | bk ev a => rw [e] at q2; exact q2.elim
    | ct ev a => rw [e] at q2; exact q2.elim
    | exc c p ev a => rw [e] at q2; exact fun m' H' cls d σ' e1 r1 _ x1 => q2 m' H' cls d e1 r1 x1
    | bad => rw [e] at q2; exact q2.elim
  refine wpAny_mono (ht.pss.run [] s1 (start N vs) H _ J hw) (fun fl s' hs => ?_) fun e s' hs => hs
  have fin : ∀ {σ' : L2.St} {H' : Hp} {v : V} {u : Value}, Inv (cxOf (L2.CX P w) P w K mg base N qual scope f cdv A outer s H E) [] σ' H' s' → RelV v u → Q v H' → CE outer P w H s Q u s' :=
    fun {σ' H' v u} J rv q => ⟨v, H', J.os, J.bare, J.base, J.hok, rv, q⟩
  cases fl with
  | ret u =>
    obtain ⟨v, σ', H', J, rv, q⟩ := hs
    exact fin J rv q
  | next =>
    obtain ⟨σ', H', J, q⟩ := hs
    exact fin (v := V.non) (u := Value.none) J rfl q
  | brk =>
    obtain ⟨_, _, _, q⟩ := hs
    exact False.elim q
  | cont =>
    obtain ⟨_, _, _, q⟩ := hs
    exact False.elim q
theorem FnG.mono {j k : Nat} {f : Addr} {fd : FuncData} {ps : List Str} {F : List Va → AH → Rs Va} (G : FnG P w K mg base j f fd ps F) (h : j ≤ k) : FnG P w K mg base k f fd ps F :=
  ⟨G.len, fun A outer s H args us vs Q E hr => G.run A outer s H args us vs Q E (hr.mono h)⟩
/-- another meaning, where it says as much -/
theorem FnG.as {k : Nat} {f : Addr} {fd : FuncData} {ps : List Str} {F F' : List Va → AH → Rs Va} (G : FnG P w K mg base k f fd ps F) (h : F' = F) : FnG P w K mg base k f fd ps F' := h ▸ G
/-- a def that may be called: das the defaults behind the written values -/
structure Cd (P : Program) (w : World) (K : PySem.W.Frag) (mg : Str → Option Value) (base : Heap) (k : Nat) (x : Str) (das : List Va) (F : List Va → AH → Rs Va) : Prop where
  ex : ∃ (f : Addr) (fd : FuncData) (ps : List Str) (dvs : List V) (ds : List Value), FnG P w K mg base k f fd ps F ∧ mg x = some (.ref f) ∧ PySem.W.keepIn K (.ref f) = true ∧ Binds K fd ps ds ∧ Vals dvs ds ∧ ∀ H m, VRs K H m das dvs
/-- .. with keywords: n written values, the keywords' names, how they are put in order -/
structure Ck (P : Program) (w : World) (K : PySem.W.Frag) (mg : Str → Option Value) (base : Heap) (k : Nat) (x : Str) (n : Nat) (ks : List Str) (gA : List Va → List Va → List Va) (F : List Va → AH → Rs Va) : Prop where
  ex : ∃ (f : Addr) (fd : FuncData) (ps : List Str) (g : List Value → List Value → List Value) (gV : List V → List V → List V), FnG P w K mg base k f fd ps F ∧ mg x = some (.ref f) ∧ PySem.W.keepIn K (.ref f) = true ∧ KBn K fd ps n ks g gV ∧
    ∀ H m a b c d, VRs K H m a b → VRs K H m c d → VRs K H m (gA a c) (gV b d)
end
section
variable {X : Cx} {W : WX} {k kk n : Nat} {f : Addr} {fd : FuncData} {ps ks : List Str} {F : List Va → AH → Rs Va} {x : Str} {p pos : Pos} {e : Expr} {es : List Expr} {kws : List Keyword} {ta tk : AF} {das : List Va} {gA : List Va → List Va → List Va}
theorem after {pins : List (Addr × Obj)} {σ : L2.St} {H : Hp} {s : Shared} {Q : VK} {args : Args} {us : List Value} {vs : List V} (G : FnG X.prog X.w X.K X.mg X.base k f fd ps F) (hr : Room k X.A) (hgd : X.A.guards = some []) (b : BindsTo s fd args (ps.zip us)) (hx : PassesAt (L2.CX X.prog X.w) X σ (WE W σ))
    (I : Inv X pins σ H s) (r : Vals vs us) (h : spG X.K X.mg F vs H Q (WE W σ)) : wpAny (model X.prog X.w) X.A (call (.ref f) args.pos args.kw) (EP X pins σ Q) X.xe s := by
  refine wpAny_call (codeAny_mono (G.run X.A X.stack s H args us vs Q (WE W σ) hr hgd I.env0 b r h) fun r s' hq => ?_)
  cases r with
  | error e => exact hx pins H s e s' I hq
  | ok fl =>
    cases fl with
    | ret u => exact I.after hq
    | next => exact False.elim hq
    | brk => exact False.elim hq
    | cont => exact False.elim hq
def eCall (das : List Va) (F : List Va → AH → Rs Va) (ta : AF) : EF := fun ev h => (ta ev h).bind fun vs h1 => F (vs ++ das) h1
theorem me_call (C : Cd X.prog X.w X.K X.mg X.base kk x das F) (hr : Room k X.A) (hkk : kk ≤ k) (hgd : X.A.guards = some []) (tk : Takes X W) (ha : MA X W (e :: es) ta) (hg : Gl X x := by rfl)
    (hdb : (x == ("__debug__" : Str)) = false := by decide) (he : starEach (e :: es) X.env = (false, eval e X.env) :: starEach es X.env := by rfl) (hpl : (backTo pos (starEach es X.env)).any (·.1) = false := by rfl) :
    ME X W (.Call (.Name x p) (e :: es) [] pos) (eCall das F ta) := by
  obtain ⟨f, fd, ps, dvs, ds, G, hm, hk, hb, hd, hda⟩ := C.ex
  refine ⟨⟨fun pins s σ H Q I h => ?_⟩⟩
  have h := Wi.bind (R := VRs X.K) (k := fun _ vs h1 => F (vs ++ das) h1) h
  refine wpAny_Call_Name_kw (ld_glob I hg hm ?_ hdb)
  refine PySem.W.callWith_K (h₀ := X.base) I.ok.mod.kin hk (thn (ha.pa.run pos pins s σ H _ I h) fun us s1 ⟨vs, H1, I1, r, q⟩ => ⟨I1.kIn, ?_⟩) he hpl
  obtain ⟨m, ah, ev, pvs, rH, re, rv, q⟩ := q
  have hsp : spG X.K X.mg F (vs ++ dvs) H1 Q (WE W σ) := ⟨m, ah, pvs ++ das, rH, rv.append (hda _ _), q⟩
  have r2 : Vals (vs ++ dvs) (us ++ ds) := r.append hd
  have hl : (us ++ ds).length = ps.length := by rw [← r2.length]; exact G.len _ _ _ _ hsp
  exact after (args := ⟨us, []⟩) G (hr.mono hkk) hgd (hb s1 us I1.kIn hl) (L2.passAt tk σ) I1 r2 hsp
structure MK (X : Cx) (W : WX) (kws : List Keyword) (f : AF) : Prop where
  pk : PK X kws (Wi X.K X.mg (VRs X.K) W f)
def eCallK (n m : Nat) (gA : List Va → List Va → List Va) (F : List Va → AH → Rs Va) (ta tk : AF) : EF := fun ev h => (ta ev h).bind fun vs h1 => (tk ev h1).bind fun zs h2 => if vs.length == n && zs.length == m then F (gA vs zs) h2 else .bad
end
/-! ### the law's end -/
theorem hr_nil {K : PySem.W.Frag} {H : Hp} (t : LamX.Tabs Tabz.T H) : HR K H [] [] := ⟨rfl, .nil, fun l a o h => by simp at h, t⟩
theorem vrs_ints {K : PySem.W.Frag} {H : Hp} {m : List Addr} : ∀ ns : List Int, VRs K H m (ns.map Va.int) (ns.map V.int)
  | [] => .nil
  | n :: ns => .cons (.int n) (vrs_ints ns)
end FL

set_option Elab.async false
set_option linter.all false
set_option maxRecDepth 100000
/-! FLM: methods of lists, powers, a tuple times an int. -/
namespace FL
open PySem PySem.Spec PyProof.Rows L2
variable [Tabz]
/-! ### methods -/
abbrev OpM := Va → List Va → AH → Option (Va × AH)
def isLst : Va → AH → Bool
  | .ref l, h => (lstAt h l).isSome
  | .rol _, _ => true
  | _, _ => false
def eM (fo : EF) (ta : AF) (o : OpM) : EF := fun ev h => (fo ev h).bind fun v h1 => if isLst v h1 then (ta ev h1).bind fun vs h2 => ofO (o v vs h2) else .bad
def rM (K : PySem.W.Frag) (o : OpM) : V → List V → Hp → VK → Prop := fun x xs H Q => ∃ m ah p ps v ah', HR K H m ah ∧ VR K H m p x ∧ VRs K H m ps xs ∧ o p ps ah = some (v, ah') ∧ ∀ m' H' w, Ext m H m' H' → HR K H' m' ah' → VR K H' m' v w → Q w H'
def oAppend : OpM := fun v vs h => match v, vs with
  | .ref l, [y] => (match lstAt h l with
    | some xs => if xs.length < lim then some (.non, h.set l (.lst (xs ++ [y]))) else none
    | none => none)
  | _, _ => none
def oPop : OpM := fun v vs h => match v, vs with
  | .ref l, [] => (match lstAt h l with
    | some xs => (match xs.getLast? with
      | some y => some (y, h.set l (.lst xs.dropLast))
      | none => none)
    | none => none)
  | _, _ => none
def oExtend : OpM := fun v vs h => match v, vs with
  | .ref l, [.ref b] => (match lstAt h l, lstAt h b with
    | some xs, some ys => if xs.length + ys.length ≤ lim then some (.non, h.set l (.lst (xs ++ ys))) else none
    | _, _ => none)
  | _, _ => none
section
variable {X : Cx} {W : WX} {o e : Expr} {es : List Expr} {fo : EF} {ta : AF} {name : Str} {apos cpos : Pos} {T id : String} {f : OpM}
theorem isLst_ty {H : Hp} {m : List Addr} {ah : AH} {v : Va} {x : V} (r : HR X.K H m ah) (rv : VR X.K H m v x) (h : isLst v ah = true) : tyV X.K "list" x H := by
  unfold isLst at h
  split at h
  · rename_i l
    cases rv with
    | ref ha =>
      cases e : lstAt ah l with
      | none => rw [e] at h; cases h
      | some xs =>
        obtain ⟨vs, g1, _⟩ := r.lst ha (lstAt_some e)
        exact .inl ⟨rfl, vs, SqL.of g1⟩
  · cases rv with
    | rol hz _ => exact .inl ⟨rfl, _, hz.seq⟩
  · cases h
theorem me_m (slot : Slot "list" name id) (hty : typeOf (.builtin id) = pure (.type "method_descriptor")) (hm : MtR X id (rM X.K f)) (ho : ME X W o fo) (ha : MA X W (e :: es) ta)
    (hbase : attributeBase o name X.env (eval o X.env) = eval o X.env := by rfl)
    (hfew : ((backTo cpos (starEach (e :: es) X.env)).all (fun x => !x.1) && (backToKw cpos (keywordEach [] X.env)).all (fun x => x.1.isSome)
      && decide ((e :: es).length + ([] : List Keyword).length + (if ([] : List Keyword).isEmpty then 0 else 1) < 30)) = true := by rfl)
    (hline : (apos.endLine == cpos.line) = true := by rfl) (hs : starEach (e :: es) X.env = (false, eval e X.env) :: starEach es X.env := by rfl) (hplain : (backTo cpos (starEach es X.env)).any (·.1) = false := by rfl) :
    ME X W (.Call (.Attribute o name apos) (e :: es) [] cpos) (eM fo ta f) := ⟨pe_imp (pe_bm PySem.F.plainAttrs_list slot hty hm ho.pe ha.pa hbase hfew hline hs hplain) fun σ H Q q => by
  have q := Wi.bind (R := VR X.K) (k := fun ev v h1 => if isLst v h1 then (ta ev h1).bind fun vs h2 => ofO (f v vs h2) else .bad) q
  obtain ⟨m, ah, ev, r, re, q⟩ := q
  refine ⟨m, ah, ev, r, re, ?_⟩
  cases ef : fo ev ah with
  | exc c p a => rw [ef] at q; exact q
  | bad => rw [ef] at q; exact q
  | ok v a =>
    rw [ef] at q
    intro m1 H1 x e1 r1 rx
    obtain ⟨m2, ah2, ev2, v2, r2, re2, rv2, q2⟩ := q m1 H1 x e1 r1 rx
    split at q2
    case isFalse => exact q2.elim
    rename_i hz
    refine ⟨isLst_ty r2 rv2 hz, m2, ah2, ev2, r2, re2, ?_⟩
    have q2 := Post.bind (R := VRs X.K) q2
    cases ef2 : ta ev2 ah2 with
    | exc c p a => rw [ef2] at q2; exact q2
    | bad => rw [ef2] at q2; exact q2
    | ok vs a2 =>
      rw [ef2] at q2
      intro m3 H3 xs e3 r3 rx3
      obtain ⟨m4, ah4, v4, e4, r4, rv4, q4⟩ := q2 m3 H3 xs e3 r3 rx3
      cases eo : f v2 v4 ah4 with
      | none => rw [eo] at q4; exact q4.elim
      | some p =>
        rw [eo] at q4
        exact ⟨m4, ah4, v2, v4, p.1, p.2, r4, rv2.ext r2 e4, rv4, eo, q4⟩⟩
theorem mt_oAppend : MtR X "list.append" (rM X.K oAppend) := fun pins s σ H x xs v us Q I rx rxs ⟨m, ah, p, ps, vv, ah', r, rp, rps, eo, k⟩ => mt_append pins s σ H x xs v us Q I rx rxs (by
  unfold oAppend at eo
  split at eo
  · rename_i l y
    cases e : lstAt ah l with
    | none => rw [e] at eo; cases eo
    | some zs =>
      rw [e] at eo
      simp only at eo
      split at eo
      · rename_i hz
        cases eo
        cases rp with
        | ref ha =>
        cases rps with
        | cons ry rr =>
        cases rr
        obtain ⟨vs, g1, hv⟩ := r.lst ha (lstAt_some e)
        have hl := hv.length
        have h2 : zs.length + 1 ≤ lim := hz
        have h3 := lim_line h2
        exact ⟨_, vs, _, rfl, rfl, g1, by omega, k m _ _ (ext_set ha) (hr_set r ha (hv.append (.cons ry .nil))) .non⟩
      · cases eo
  · cases eo)
theorem me_append (ho : ME X W o fo) (ha : MA X W [e] ta)
    (hbase : attributeBase o "append" X.env (eval o X.env) = eval o X.env := by rfl)
    (hfew : ((backTo cpos (starEach [e] X.env)).all (fun x => !x.1) && (backToKw cpos (keywordEach [] X.env)).all (fun x => x.1.isSome)
      && decide ([e].length + ([] : List Keyword).length + (if ([] : List Keyword).isEmpty then 0 else 1) < 30)) = true := by rfl)
    (hline : (apos.endLine == cpos.line) = true := by rfl) (hs : starEach [e] X.env = [(false, eval e X.env)] := by rfl) :
    ME X W (.Call (.Attribute o "append" apos) [e] [] cpos) (eM fo ta oAppend) := me_m PySem.F.slot_list_append PySem.F.type_list_append mt_oAppend ho ha hbase hfew hline hs
/-! ### powers -/
def oPow : Op2 := fun p q h => match p, q with
  | .int i, .int j => if decide (0 ≤ j) && decide (j ≤ 1000) && decide (i.natAbs.log2 < 100000) then some (.int (i ^ j.toNat), h) else none
  | _, _ => none
theorem op_oPow : OpR X (binaryOp .Pow) (rO X.K oPow) := by
  intro pins s σ H x y v u Q I rx ry h
  obtain ⟨m, ah, p, q, vv, ah', r, rp, rq, eo, k⟩ := h
  unfold oPow at eo
  split at eo
  · rename_i i j
    split at eo
    · rename_i hz
      cases eo
      cases rp
      cases rq
      obtain ⟨t, rfl⟩ := rx
      obtain ⟨t2, rfl⟩ := ry
      obtain ⟨hz, z3⟩ := Bool.and_eq_true_iff.mp hz
      obtain ⟨z1, z2⟩ := Bool.and_eq_true_iff.mp hz
      have z1 := of_decide_eq_true z1
      have z2 := of_decide_eq_true z2
      have z3 := of_decide_eq_true z3
      have hb : Builtin.Int.intBits i ≤ 100000 := by
        unfold Builtin.Int.intBits
        split <;> omega
      have hm : (Builtin.Int.intBits i : Int) * j ≤ 100000 * j := Int.mul_le_mul_of_nonneg_right (by omega) z1
      refine pow_int z1 (by omega) ⟨.int (i ^ j.toNat), H, I.kept (fun _ _ e => e), ⟨_, rfl⟩, k m H _ .refl r (.int _)⟩
    · cases eo
  · cases eo
/-! ### a tuple times an int -/
theorem tuple_mulSame (l : Addr) (items : Array Value) (n : Nat) (dd : Option Addr) (sl : Array (Option Value)) (x : Int) (u : Tok) (c0 : (decide (x < -(2 ^ 63)) || decide (x ≥ 2 ^ 63)) = false) (c1 : (items.isEmpty || x == 1) = true) :
    Meets (Builtin.«tuple.__mul__» ⟨[.ref l, .int x u], []⟩) (fun _ R s => s.heap.get? l = some { cls := .type "tuple", dict := dd, data := .seq items n, slots := sl } ∧ R (.ok (.ret (.ref l))) s) :=
  .of_wp fun prog w A R s h => by
    obtain ⟨hp, g, d, tk, os⟩ := s
    obtain ⟨hl, h⟩ := h
    have f1 := AutoSeq1.idx_int
    wp_walk using wpAny_loadPart' hl
    repeat (first
      | (refine wpAny_ite_false (decide_eq_false (by rw [c0]; exact Bool.false_ne_true)) ?_; wp_walk using wpAny_loadPart' hl)
      | (refine wpAny_ite_true (decide_eq_true c1) ?_; wp_walk using wpAny_loadPart' hl))
    all_goals first | exact ⟨_, rfl, h⟩ | skip
theorem tuple_mulNone (l : Addr) (items : Array Value) (n : Nat) (dd : Option Addr) (sl : Array (Option Value)) (x : Int) (u : Tok) (c0 : (decide (x < -(2 ^ 63)) || decide (x ≥ 2 ^ 63)) = false) (c1 : (items.isEmpty || x == 1) = false) (c2 : (decide (x ≤ 0) || items.isEmpty) = true) :
    Meets (Builtin.«tuple.__mul__» ⟨[.ref l, .int x u], []⟩) (fun _ R s => s.heap.get? l = some { cls := .type "tuple", dict := dd, data := .seq items n, slots := sl } ∧
      R (.ok (.ret (.ref s.heap.objs.size))) { s with heap := s.heap.push { cls := .type "tuple", data := .seq #[] }, toks := s.toks }) :=
  .of_wp fun prog w A R s h => by
    obtain ⟨hp, g, d, tk, os⟩ := s
    obtain ⟨hl, h⟩ := h
    have f1 := AutoSeq1.idx_int
    wp_walk using wpAny_loadPart' hl
    repeat (first
      | (refine wpAny_ite_false (decide_eq_false (by rw [c0]; exact Bool.false_ne_true)) ?_; wp_walk using wpAny_loadPart' hl)
      | (refine wpAny_ite_false (decide_eq_false (by rw [c1]; exact Bool.false_ne_true)) ?_; wp_walk using wpAny_loadPart' hl)
      | (refine wpAny_ite_true (decide_eq_true c2) ?_; wp_walk using wpAny_loadPart' hl))
    all_goals first | exact ⟨_, rfl, h⟩ | skip
def rRep1 (K : PySem.W.Frag) : R2 := fun x y H Q => ∃ l k xs, x = .ref l ∧ y = .int k ∧ SqT K H l xs ∧ ((k = 1 ∧ Q (.ref l) H) ∨ (-1000 ≤ k ∧ k ≤ 0 ∧ xs ≠ [] ∧ ∀ p, H p = none → Q (.ref p) (upd H p (.tup []))))
theorem op_rep1 : OpR X (binaryOp .Mult) (rRep1 X.K) := by
  intro pins s σ H x y v u Q I rx ry h
  obtain ⟨l, k, xs, rfl, rfl, hT, h⟩ := h
  cases rx
  obtain ⟨t, rfl⟩ := ry
  obtain ⟨its, r, ⟨⟨cls, dd, data, sl⟩, ho, hc, n, hd⟩, hs⟩ := I.tuple hT
  simp only at hc hd
  subst hc hd
  have hk : -1000 ≤ k ∧ k ≤ 1 := by
    rcases h with ⟨h, _⟩ | ⟨h1, h2, _⟩ <;> omega
  have c0 : (decide (k < -(2 ^ 63)) || decide (k ≥ 2 ^ 63)) = false := by
    rw [decide_eq_false (by omega), decide_eq_false (by omega)] <;> rfl
  refine wpAny_binaryOp_repeat_ref (T := "tuple") (U := "int") (by decide) ⟨_, ho, rfl⟩ (fun s' => typeIs_int s' k t) noFill_tuple_mul F.fills_int_mul F.slot_int_rmul repeat_tuple F.slot_int_index.lookup
    (call_meets F.slot_int_rmul (typeIs_int s k t) F.entry_int_rmul (F.args_int_rmul_2 _ _) (int_rmul_tuple k t l its.toArray n dd sl) ⟨ho, rfl, ⟨_, ho, rfl⟩, ?_⟩)
  rcases h with ⟨rfl, q⟩ | ⟨h1, h2, h3, q⟩
  · exact call_meets F.slot_tuple_mul ⟨_, ho, rfl⟩ F.entry_tuple_mul (F.args_tuple_mul_2 _ _) (tuple_mulSame l its.toArray n dd sl 1 t c0 (by simp)) ⟨ho, .ref l, H, I, rfl, q⟩
  · have hi : its ≠ [] := fun e => h3 (by
      have hle : its.length = xs.length := r.length.symm
      rw [e] at hle
      exact List.eq_nil_of_length_eq_zero hle.symm)
    have he : its.toArray.isEmpty = false := by
      cases its with
      | nil => exact absurd rfl hi
      | cons a b => rfl
    refine call_meets F.slot_tuple_mul ⟨_, ho, rfl⟩ F.entry_tuple_mul (F.args_tuple_mul_2 _ _) (tuple_mulNone l its.toArray n dd sl k t c0 (by rw [he, Bool.false_or]; exact beq_eq_false_iff_ne.mpr (by omega)) (by rw [decide_eq_true h2]; rfl)) ⟨ho, ?_⟩
    refine ⟨.ref s.heap.objs.size, _, I.laid (t' := s.toks) (o := .tup []) (fun b ob q => Heap.get?_push_of_some _ q) (Nat.le_refl _) ?_, rfl, q _ (I.hok.fresh (Nat.le_refl _))⟩
    exact ⟨Nat.zero_le _, _, .nil, IsTup.new _ _⟩
def oMul2 : Op2 := fun p q h => match p, q with
  | .tup xs, .int k => if decide (-1000 ≤ k) && decide (k ≤ 1) && !xs.isEmpty then (if decide (k = 1) then some (.tup xs, h) else some (.tup [], h)) else oMul (.tup xs) (.int k) h
  | p, q => oMul p q h
theorem op_oMul2 : OpR X (binaryOp .Mult) (rO X.K oMul2) := by
  refine OpR.imp (op_oMul.or op_rep1) fun x y H Q ⟨m, ah, p, q, v, ah', r, rp, rq, e, k⟩ => ?_
  unfold oMul2 at e
  split at e
  · rename_i xs kk
    split at e
    · rename_i hz
      simp only [Bool.and_eq_true, decide_eq_true_eq, Bool.not_eq_true'] at hz
      cases rp with
      | @tup _ a vs ha hv =>
        have hvn : vs ≠ [] := hv.ne (by intro z; rw [z] at hz; simp at hz)
        split at e
        · rename_i h1
          cases e
          exact .inr ⟨a, kk, vs, rfl, rq.int_inv, ha, .inl ⟨of_decide_eq_true h1, k m H _ .refl r (.tup ha hv)⟩⟩
        · rename_i h1
          cases e
          have h1 : kk ≠ 1 := fun z => h1 (decide_eq_true z)
          refine .inr ⟨a, kk, vs, rfl, rq.int_inv, ha, .inr ⟨hz.1.1, by omega, hvn, fun p hp => ?_⟩⟩
          exact k m _ _ (ext_new r hp) (hr_new r hp) (.tup (SqT.of upd_same) .nil)
    · exact .inl ⟨m, ah, .tup xs, .int kk, v, ah', r, rp, rq, e, k⟩
  · exact .inl ⟨m, ah, p, q, v, ah', r, rp, rq, e, k⟩
end
end FL

set_option Elab.async false
set_option linter.all false
set_option maxRecDepth 100000
/-! FLN: sums of tuples, list(range), constants. -/
namespace FL
open PySem PySem.Spec PyProof.Rows L2
variable [Tabz]
section
variable {prog : Program} {w : World} {A : Around} {E : Value → Shared → Prop} {s : Shared} {l : Addr} {xs : Array (Int × Tok)}
theorem iter_intTup {R : Value → Shared → Prop} (hl : s.heap.IsTuple l (intItems xs))
    (h : ∀ s2 : Shared, s2 = { s with heap := s.heap.push { cls := .type "tuple_iterator", data := .fields #[.ref l, .int 0 0] } } → s2.heap.IsTupleIter s.heap.objs.size l 0 → s2.heap.IsTuple l (intItems xs) → l < s.heap.objs.size → R (.ref s.heap.objs.size) s2) :
    wpAny (model prog w) A (pyIter (.ref l)) R E s :=
  wpAny_pyIter_tuple hl (h _ rfl ⟨_, Heap.get?_push_size _ rfl, rfl, rfl⟩ (hl.push _) (by obtain ⟨o, e, _⟩ := hl; exact Heap.lt_size e))
theorem max_intTup {Q : Value → Shared → Prop} (hh : A.handled = none) (hl : s.heap.IsTuple l (intItems xs)) (hne : 0 < xs.size)
    (h : ∀ v h' tk, (intItems xs)[argBest (fun i j => decide (numAt xs i > numAt xs j)) (xs.size - 1)]? = some v → (∀ b o, s.heap.get? b = some o → h'.get? b = some o) → Q v { s with heap := h', toks := tk }) :
    wpAny (model prog w) A (call (.builtin "max") [.ref l]) Q E s := by
  refine call_max_walk (iter_intTup hl fun s2 e st hl2 hlt => ?_)
  subst e
  refine ⟨_, _, _, _, _, _, _, rfl, Walks.tuple (A := A.in1) hh _ l (Nat.ne_of_lt hlt) (intItems xs), ⟨st, hl2⟩, (fun b hb => ?_), by simpa [intItems] using hne, CmpOf.ints_gt (numAt xs) (fun _ _ => intItems_at), fun v h' tk hP hk => ?_⟩
  · show b < (s.heap.push _).objs.size
    rw [Heap.size_push]
    rcases (show b = s.heap.objs.size ∨ b = l by simpa using hb) with z | z
    · rw [z]; exact Nat.lt_succ_self _
    · rw [z]; exact Nat.lt_succ_of_lt hlt
  · exact h v h' tk (by simpa [intItems] using hP) fun b o e => hk b o (fun hb => by
      have z : b = s.heap.objs.size := by simpa using hb
      have z2 := Heap.lt_size e
      rw [z] at z2
      exact Nat.lt_irrefl _ z2) (Heap.get?_push_of_some _ e)
theorem min_intTup {Q : Value → Shared → Prop} (hh : A.handled = none) (hl : s.heap.IsTuple l (intItems xs)) (hne : 0 < xs.size)
    (h : ∀ v h' tk, (intItems xs)[argBest (fun i j => decide (numAt xs i < numAt xs j)) (xs.size - 1)]? = some v → (∀ b o, s.heap.get? b = some o → h'.get? b = some o) → Q v { s with heap := h', toks := tk }) :
    wpAny (model prog w) A (call (.builtin "min") [.ref l]) Q E s := by
  refine call_min_walk (iter_intTup hl fun s2 e st hl2 hlt => ?_)
  subst e
  refine ⟨_, _, _, _, _, _, _, rfl, Walks.tuple (A := A.in1) hh _ l (Nat.ne_of_lt hlt) (intItems xs), ⟨st, hl2⟩, (fun b hb => ?_), by simpa [intItems] using hne, CmpOf.ints_lt (numAt xs) (fun _ _ => intItems_at), fun v h' tk hP hk => ?_⟩
  · show b < (s.heap.push _).objs.size
    rw [Heap.size_push]
    rcases (show b = s.heap.objs.size ∨ b = l by simpa using hb) with z | z
    · rw [z]; exact Nat.lt_succ_self _
    · rw [z]; exact Nat.lt_succ_of_lt hlt
  · exact h v h' tk (by simpa [intItems] using hP) fun b o e => hk b o (fun hb => by
      have z : b = s.heap.objs.size := by simpa using hb
      have z2 := Heap.lt_size e
      rw [z] at z2
      exact Nat.lt_irrefl _ z2) (Heap.get?_push_of_some _ e)
variable {us : List Value} {ns : List Int}
theorem max_rawT {Q : Value → Shared → Prop} (hh : A.handled = none) (hl : s.heap.IsTuple l us.toArray) (hi : IntsAre us ns) (hne : 0 < ns.length)
    (h : ∀ h' tk z t', (∀ b o, s.heap.get? b = some o → h'.get? b = some o) → z ∈ ns → (∀ y, y ∈ ns → y ≤ z) → Q (.int z t') { s with heap := h', toks := tk }) : wpAny (model prog w) A (call (.builtin "max") [.ref l]) Q E s := by
  obtain ⟨zs, e⟩ := hi.allInts.items
  have hn : numsOf (intItems zs).toList = ns := by rw [← e]; exact hi.numsOf
  rw [nums_intItems] at hn
  subst hn
  rw [e] at hl
  have hsz : 0 < zs.size := by simpa using hne
  refine max_intTup hh hl hsz fun v h' tk hv hk => ?_
  obtain ⟨t, rfl⟩ := intItems_at hv
  obtain ⟨g1, g2⟩ := argBest_gt (numAt zs) (zs.size - 1)
  refine h h' tk _ t hk ?_ fun y hy => ?_
  · rw [numAt_eq]
    exact PySem.getD_mem (by rw [List.length_map, Array.length_toList]; omega)
  · obtain ⟨j, hj, rfl⟩ := mem_getD hy
    rw [List.length_map, Array.length_toList] at hj
    rw [← numAt_eq]
    exact g2 j (by omega)
theorem min_rawT {Q : Value → Shared → Prop} (hh : A.handled = none) (hl : s.heap.IsTuple l us.toArray) (hi : IntsAre us ns) (hne : 0 < ns.length)
    (h : ∀ h' tk z t', (∀ b o, s.heap.get? b = some o → h'.get? b = some o) → z ∈ ns → (∀ y, y ∈ ns → z ≤ y) → Q (.int z t') { s with heap := h', toks := tk }) : wpAny (model prog w) A (call (.builtin "min") [.ref l]) Q E s := by
  obtain ⟨zs, e⟩ := hi.allInts.items
  have hn : numsOf (intItems zs).toList = ns := by rw [← e]; exact hi.numsOf
  rw [nums_intItems] at hn
  subst hn
  rw [e] at hl
  have hsz : 0 < zs.size := by simpa using hne
  refine min_intTup hh hl hsz fun v h' tk hv hk => ?_
  obtain ⟨t, rfl⟩ := intItems_at hv
  obtain ⟨g1, g2⟩ := argBest_lt (numAt zs) (zs.size - 1)
  refine h h' tk _ t hk ?_ fun y hy => ?_
  · rw [numAt_eq]
    exact PySem.getD_mem (by rw [List.length_map, Array.length_toList]; omega)
  · obtain ⟨j, hj, rfl⟩ := mem_getD hy
    rw [List.length_map, Array.length_toList] at hj
    rw [← numAt_eq]
    exact g2 j (by omega)
end
section
variable {X : Cx} {W : WX} {e e2 : Expr} {fe fe2 : EF} {p p2 pos pos2 : Pos}
def rT1 (K : PySem.W.Frag) (C : List Int → Prop) (P : List Int → Int → Prop) : List V → Hp → VK → Prop := fun vs H Q => ∃ (a : Addr) (ns : List Int), vs = [V.ref a] ∧ SqT K H a (ns.map V.int) ∧ C ns ∧ ∀ z, P ns z → Q (.int z) H
theorem cr_maxT (hc : X.calm = true) : CallR X (.builtin "max") (rT1 X.K (fun ns => 0 < ns.length) fun ns z => z ∈ ns ∧ ∀ y, y ∈ ns → y ≤ z) := by
  intro pins s σ H vs us Q I r h
  obtain ⟨a, ns, rfl, hs, hne, q⟩ := h
  obtain ⟨its, rv, hl, _⟩ := I.tuple hs
  rw [Vals.ref1 r]
  exact max_rawT (I.ok.hd hc) hl rv.ints hne fun h' tk z t' hk h1 h2 => ⟨.int _, H, I.kept hk, ⟨_, rfl⟩, q z ⟨h1, h2⟩⟩
theorem cr_minT (hc : X.calm = true) : CallR X (.builtin "min") (rT1 X.K (fun ns => 0 < ns.length) fun ns z => z ∈ ns ∧ ∀ y, y ∈ ns → z ≤ y) := by
  intro pins s σ H vs us Q I r h
  obtain ⟨a, ns, rfl, hs, hne, q⟩ := h
  obtain ⟨its, rv, hl, _⟩ := I.tuple hs
  rw [Vals.ref1 r]
  exact min_rawT (I.ok.hd hc) hl rv.ints hne fun h' tk z t' hk h1 h2 => ⟨.int _, H, I.kept hk, ⟨_, rfl⟩, q z ⟨h1, h2⟩⟩
def oSum2 : OpN := fun ps h => match ps with
  | [.tup xs] => (allI xs).map fun ns => (.int ns.sum, h)
  | ps => oSum ps h
def oMax2 : OpN := fun ps h => match ps with
  | [.tup xs] => (match allI xs with
    | some (b :: bs) => some (.int (bs.foldl max b), h)
    | _ => none)
  | ps => oMax ps h
def oMin2 : OpN := fun ps h => match ps with
  | [.tup xs] => (match allI xs with
    | some (b :: bs) => some (.int (bs.foldl min b), h)
    | _ => none)
  | ps => oMin ps h
theorem call_oMax2 (hc : X.calm = true) : CallR X (.builtin "max") (rN X.K oMax2) := by
  refine CallR.imp (CallR.or (call_oMax hc) (cr_maxT hc)) fun xs H Q ⟨m, ah, ps, v, ah', r, rp, e, k⟩ => ?_
  unfold oMax2 at e
  split at e
  · rename_i zs
    split at e
    · rename_i b bs hb
      cases e
      obtain ⟨x, rfl, h1⟩ := vrs1 rp
      cases h1 with
      | @tup _ a vs ht hv =>
        rw [allI_ok hb hv] at ht
        refine .inr ⟨a, b :: bs, rfl, ht, by simp, fun z ⟨hz, hle⟩ => ?_⟩
        obtain ⟨g1, g2⟩ := foldl_max bs b
        have : z = bs.foldl max b := by
          have := g1 z hz
          have := hle _ g2
          omega
        rw [this]
        exact k m H _ .refl r (.int _)
    · cases e
  · exact .inl ⟨m, ah, ps, v, ah', r, rp, e, k⟩
theorem call_oMin2 (hc : X.calm = true) : CallR X (.builtin "min") (rN X.K oMin2) := by
  refine CallR.imp (CallR.or (call_oMin hc) (cr_minT hc)) fun xs H Q ⟨m, ah, ps, v, ah', r, rp, e, k⟩ => ?_
  unfold oMin2 at e
  split at e
  · rename_i zs
    split at e
    · rename_i b bs hb
      cases e
      obtain ⟨x, rfl, h1⟩ := vrs1 rp
      cases h1 with
      | @tup _ a vs ht hv =>
        rw [allI_ok hb hv] at ht
        refine .inr ⟨a, b :: bs, rfl, ht, by simp, fun z ⟨hz, hle⟩ => ?_⟩
        obtain ⟨g1, g2⟩ := foldl_min bs b
        have : z = bs.foldl min b := by
          have := g1 z hz
          have := hle _ g2
          omega
        rw [this]
        exact k m H _ .refl r (.int _)
    · cases e
  · exact .inl ⟨m, ah, ps, v, ah', r, rp, e, k⟩
/-! ### list(range(..)), tuple(range(..)) -/
def rgF (lo hi : Int) (h : AH) : Option (List Va) := if decide (-lim ≤ lo) && decide (lo ≤ lim) && decide (-lim ≤ hi) && decide (hi ≤ lim) then some (intsF lo (hi - lo).toNat) else none
def mkL (xs : List Va) (h : AH) : Rs Va := .ok (.ref h.length) (h ++ [.lst xs])
def eLR1 (k : List Va → AH → Rs Va) (f : EF) : EF := fun ev h => (f ev h).bind fun v h1 => match v with
  | .int n => (match rgF 0 n h1 with | some xs => k xs h1 | none => .bad)
  | _ => .bad
def eLR2 (k : List Va → AH → Rs Va) (f g : EF) : EF := fun ev h => (f ev h).bind fun v h1 => (g ev h1).bind fun w h2 => match v, w with
  | .int i, .int j => (match rgF i j h2 with | some xs => k xs h2 | none => .bad)
  | _, _ => .bad
/-! ### the module's constants -/
theorem me_gint {x : Str} {i : Int} (hm : ∃ t, X.mg x = some (.int i t)) (hg : Gl X x := by rfl) (hd : (x == ("__debug__" : Str)) = false := by decide) : ME X W (.Name x pos) (eC (.int i)) := by
  obtain ⟨t, h⟩ := hm
  exact me_glob (w := .int i) h ⟨t, rfl⟩ (fun _ _ => .int i) hg hd
end
/-! ### texts of repr, compared -/
def oEqv2 (neg : Bool) : Op2 := fun p q h => match p, q with
  | .rp d, .rp e => if pdBeq d e then some (.bl (!neg), h) else none
  | p, q => oEqv neg p q h
abbrev oEq2 : Op2 := oEqv2 false
abbrev oNe2 : Op2 := oEqv2 true
section
variable {X : Cx}
theorem op_oEq2 {k : Nat} (hr : Room k X.A) : OpR X (compareOp .Eq) (rO X.K oEq2) := by
  refine OpR.imp ((op_oEq hr).or op_eq) fun x y H Q ⟨m, ah, p, q, v, ah', r, rp, rq, e, kk⟩ => ?_
  unfold oEq2 oEqv2 at e
  split at e
  · split at e
    · rename_i hz
      cases e
      cases rp
      cases rq
      have := pdBeq_eq _ _ hz
      subst this
      refine .inr ⟨rfl, ?_⟩
      rw [decide_eq_true rfl]
      exact kk m H _ .refl r (.bl _)
    · cases e
  · exact .inl ⟨m, ah, p, q, v, ah', r, rp, rq, e, kk⟩
theorem op_oNe2 {k : Nat} (hr : Room k X.A) : OpR X (compareOp .NotEq) (rO X.K oNe2) := by
  refine OpR.imp ((op_oNe hr).or op_ne) fun x y H Q ⟨m, ah, p, q, v, ah', r, rp, rq, e, kk⟩ => ?_
  unfold oNe2 oEqv2 at e
  split at e
  · split at e
    · rename_i hz
      cases e
      cases rp
      cases rq
      have := pdBeq_eq _ _ hz
      subst this
      refine .inr ⟨rfl, ?_⟩
      rw [decide_eq_true rfl]
      exact kk m H _ .refl r (.bl _)
    · cases e
  · exact .inl ⟨m, ah, p, q, v, ah', r, rp, rq, e, kk⟩
end
end FL

set_option Elab.async false
set_option linter.all false
set_option maxRecDepth 100000
/-! FLG: small helps of the printed proofs. -/
namespace FL
open PySem PySem.Spec PyProof.Rows L2
variable [Tabz]
theorem takes_WN {X : Cx} : Takes X WN := fun u s' ⟨_, _, _, _, _, _, _, _, _, _, _, _, _, _, _, _, z⟩ => z.elim
/-! ### x += e -/
def sAug (i : Nat) (o : Int → Int → Int) (f : EF) : SF := fun ev h => match ev[i]? with
  | some (some (.int a)) => (f ev h).s ev fun v h1 => match v with
    | .int b => .nx (ev.set i (some (.int (o a b)))) h1
    | _ => .bad
  | _ => .bad
end FL

set_option Elab.async false
set_option linter.all false
set_option maxRecDepth 100000
/-! FLL: a call sees no more of the heap than its arguments name. -/
namespace FL
open PySem PySem.Spec PyProof.Rows L2
variable [Tabz]
mutual
def mapR (f : Nat → Nat) : Va → Va
  | .ref l => .ref (f l)
  | .tup xs => .tup (mapRs f xs)
  | .rol xs => .rol (mapRs f xs)
  | .non => .non
  | .bl b => .bl b
  | .int i => .int i
  | .str x => .str x
  | .rp d => .rp d
  | .dv d => .dv d
  | .exo a => .exo a
  | .exn a d n x => .exn a d n (mapR f x)
def mapRs (f : Nat → Nat) : List Va → List Va
  | [] => []
  | x :: xs => mapR f x :: mapRs f xs
end
mutual
def refsOf : Va → List Nat
  | .ref l => [l]
  | .tup xs => refsOfs xs
  | .rol xs => refsOfs xs
  | .exn _ _ _ x => refsOf x
  | _ => []
def refsOfs : List Va → List Nat
  | [] => []
  | x :: xs => refsOf x ++ refsOfs xs
end
def mapRp (f : Nat → Nat) : List (Va × Va) → List (Va × Va)
  | [] => []
  | (x, y) :: xs => (mapR f x, mapR f y) :: mapRp f xs
def mapRf (f : Nat → Nat) : List (Str × Va) → List (Str × Va)
  | [] => []
  | (n, x) :: xs => (n, mapR f x) :: mapRf f xs
def mapRO (f : Nat → Nat) : AO → AO
  | .lst xs => .lst (mapRs f xs)
  | .dct ps => .dct (mapRp f ps)
  | .dtl ps => .dtl (mapRp f ps)
  | .ins c fs => .ins c (mapRf f fs)
/-- ref-free things stay as they are -/
def bk (f : Nat → Nat) (v : Va) : Va := if inR 0 v then v else mapR f v
section
variable {K : PySem.W.Frag} {H : Hp} {m M : List Addr} {f : Nat → Nat}
mutual
theorem VR.mapR (hf : ∀ k a, m[k]? = some a → M[f k]? = some a) : ∀ {x : Va} {v : V}, VR K H m x v → VR K H M (FL.mapR f x) v
  | _, _, .non => .non
  | _, _, .bl b => .bl b
  | _, _, .int i => .int i
  | _, _, .str x => .str x
  | _, _, .rp d => .rp d
  | _, _, .ref h => .ref (hf _ _ h)
  | _, _, .tup h hs => .tup h (VRs.mapR hf hs)
  | _, _, .rol h hs => .rol h (VRs.mapR hf hs)
  | _, _, .dv h => .dv h
  | _, _, .exo a => .exo a
  | _, _, .exn h g => .exn h (VR.mapR hf g)
theorem VRs.mapR (hf : ∀ k a, m[k]? = some a → M[f k]? = some a) : ∀ {x : List Va} {v : List V}, VRs K H m x v → VRs K H M (mapRs f x) v
  | _, _, .nil => .nil
  | _, _, .cons h hs => .cons (VR.mapR hf h) (VRs.mapR hf hs)
end
theorem VRp.mapR (hf : ∀ k a, m[k]? = some a → M[f k]? = some a) : ∀ {x : List (Va × Va)} {v : List (V × V)}, VRp K H m x v → VRp K H M (mapRp f x) v
  | _, _, .nil => .nil
  | _, _, .cons h g hs => .cons (h.mapR hf) (g.mapR hf) (VRp.mapR hf hs)
mutual
theorem nk_map {f : Nat → Nat} : ∀ {x : Va} {k : PySem.NestedKey}, nk x = some k → nk (FL.mapR f x) = some k
  | .non, _, e => e
  | .bl _, _, e => e
  | .int _, _, e => e
  | .tup xs, k, e => by
    unfold nk at e
    cases q : nks xs with
    | none => rw [q] at e; cases e
    | some ks =>
      rw [q] at e
      show nk (.tup (mapRs f xs)) = _
      unfold nk
      rw [nks_map q]
      exact e
  | .str _, _, e => by simp [nk] at e
  | .rp _, _, e => by simp [nk] at e
  | .ref _, _, e => by simp [nk] at e
  | .rol _, _, e => by simp [nk] at e
  | .dv _, _, e => by simp [nk] at e
  | .exo _, _, e => by simp [nk] at e
  | .exn _ _ _ _, _, e => by simp [nk] at e
theorem nks_map {f : Nat → Nat} : ∀ {xs : List Va} {ks : List PySem.NestedKey}, nks xs = some ks → nks (mapRs f xs) = some ks
  | [], _, e => e
  | x :: xs, ks, e => by
    unfold nks at e
    cases q1 : nk x with
    | none => rw [q1] at e; cases e
    | some k =>
      cases q2 : nks xs with
      | none => rw [q1, q2] at e; cases e
      | some ks' =>
        rw [q1, q2] at e
        show nks (FL.mapR f x :: mapRs f xs) = _
        unfold nks
        rw [nk_map q1, nks_map q2]
        exact e
end
theorem DtE.mapR (hf : ∀ k a, m[k]? = some a → M[f k]? = some a) : ∀ {kvs : List (Va × Va)} {xs : List (PySem.NestedKey × Addr × Value)}, DtE K H m kvs xs → DtE K H M (mapRp f kvs) xs
  | _, _, .nil => .nil
  | _, _, .cons h1 h2 h3 h4 h5 => .cons ⟨nk_map h1.1, h1.2⟩ (h2.mapR hf) (h3.mapR hf) h4 (DtE.mapR hf h5)
theorem VRf.mapR (hf : ∀ k a, m[k]? = some a → M[f k]? = some a) : ∀ {x : List (Str × Va)} {v : List (Str × V)}, VRf K H m x v → VRf K H M (mapRf f x) v
  | _, _, .nil => .nil
  | _, _, .cons h hs => .cons (h.mapR hf) (VRf.mapR hf hs)
theorem OR.mapR (hf : ∀ k a, m[k]? = some a → M[f k]? = some a) {o : AO} {a : Addr} (h : OR K H m o a) : OR K H M (mapRO f o) a := by
  cases o with
  | lst xs => obtain ⟨vs, q1, q2⟩ := h; exact ⟨vs, q1, q2.mapR hf⟩
  | dct xs => obtain ⟨vs, q1, q2⟩ := h; exact ⟨vs, q1, q2.mapR hf⟩
  | dtl xs => obtain ⟨vs, q1, q2, q3⟩ := h; exact ⟨vs, q1, q2.mapR hf, q3⟩
  | ins c fs => obtain ⟨dx, vs, q1, q2⟩ := h; exact ⟨dx, vs, q1, q2.mapR hf⟩
mutual
theorem VR.free : ∀ {x : Va} {v : V}, VR K H m x v → refsOf x = [] → VR K H M x v
  | _, _, .non, _ => .non
  | _, _, .bl b, _ => .bl b
  | _, _, .int i, _ => .int i
  | _, _, .str x, _ => .str x
  | _, _, .rp d, _ => .rp d
  | _, _, .ref h, e => by simp [refsOf] at e
  | _, _, .tup h hs, e => .tup h (VRs.free hs (by simpa [refsOf] using e))
  | _, _, .rol h hs, e => .rol h (VRs.free hs (by simpa [refsOf] using e))
  | _, _, .dv h, _ => .dv h
  | _, _, .exo a, _ => .exo a
  | _, _, .exn h g, e => .exn h (VR.free g (by simpa [refsOf] using e))
theorem VRs.free : ∀ {x : List Va} {v : List V}, VRs K H m x v → refsOfs x = [] → VRs K H M x v
  | _, _, .nil, _ => .nil
  | _, _, .cons h hs, e => by
    simp only [refsOfs, List.append_eq_nil_iff] at e
    exact .cons (VR.free h e.1) (VRs.free hs e.2)
end
mutual
theorem inR_free : ∀ {x : Va}, inR 0 x = true → refsOf x = []
  | .non, _ => rfl
  | .bl _, _ => rfl
  | .int _, _ => rfl
  | .str _, _ => rfl
  | .rp _, _ => rfl
  | .dv _, _ => rfl
  | .exo _, _ => rfl
  | .exn _ _ _ x, e => by
    have := inR_free (x := x) (by simpa [inR] using e)
    simpa [refsOf] using this
  | .ref l, e => by simp [inR] at e
  | .tup xs, e => by
    have := inRs_free (xs := xs) (by simpa [inR] using e)
    simpa [refsOf] using this
  | .rol xs, e => by
    have := inRs_free (xs := xs) (by simpa [inR] using e)
    simpa [refsOf] using this
theorem inRs_free : ∀ {xs : List Va}, inRs 0 xs = true → refsOfs xs = []
  | [], _ => rfl
  | x :: xs, e => by
    simp only [inRs, Bool.and_eq_true] at e
    rw [refsOfs, inR_free e.1, inRs_free e.2]
    rfl
end
theorem VR.bk (hf : ∀ k a, m[k]? = some a → M[f k]? = some a) {x : Va} {v : V} (h : VR K H m x v) : VR K H M (FL.bk f x) v := by
  unfold FL.bk
  split
  · rename_i e; exact h.free (inR_free e)
  · exact h.mapR hf
mutual
theorem VR.one {l : Nat} {a : Addr} (hm : m[l]? = some a) : ∀ {x : Va} {v : V}, VR K H m x v → (∀ k ∈ refsOf x, k = l) → VR K H [a] (FL.mapR (fun _ => 0) x) v
  | _, _, .non, _ => .non
  | _, _, .bl b, _ => .bl b
  | _, _, .int i, _ => .int i
  | _, _, .str x, _ => .str x
  | _, _, .rp d, _ => .rp d
  | _, _, .ref h, e => by
    have := e _ (show _ ∈ [_] from List.mem_cons_self)
    subst this
    rw [hm] at h
    cases h
    exact .ref rfl
  | _, _, .tup h hs, e => .tup h (VRs.one hm hs (by simpa [refsOf] using e))
  | _, _, .rol h hs, e => .rol h (VRs.one hm hs (by simpa [refsOf] using e))
  | _, _, .dv h, _ => .dv h
  | _, _, .exo a, _ => .exo a
  | _, _, .exn h g, e => .exn h (VR.one hm g (by simpa [refsOf] using e))
theorem VRs.one {l : Nat} {a : Addr} (hm : m[l]? = some a) : ∀ {x : List Va} {v : List V}, VRs K H m x v → (∀ k ∈ refsOfs x, k = l) → VRs K H [a] (mapRs (fun _ => 0) x) v
  | _, _, .nil, _ => .nil
  | _, _, .cons h hs, e => .cons (VR.one hm h fun k hk => e k (by rw [refsOfs]; exact List.mem_append_left _ hk)) (VRs.one hm hs fun k hk => e k (by rw [refsOfs]; exact List.mem_append_right _ hk))
end
end
def sh0 (n : Nat) (k : Nat) : Nat := n + k
def sh1 (n l : Nat) (k : Nat) : Nat := if k == 0 then l else n + (k - 1)
def back0 (h : AH) : Rs Va → Rs Va
  | .ok v h' => .ok (bk (sh0 h.length) v) (h ++ h'.map (mapRO (sh0 h.length)))
  | .exc c p h' => .exc c (mapRf (sh0 h.length) p) (h ++ h'.map (mapRO (sh0 h.length)))
  | .bad => .bad
def ins1 (h : AH) (l : Nat) (h' : AH) : AH := match h' with
  | o :: r => h.set l (mapRO (sh1 h.length l) o) ++ r.map (mapRO (sh1 h.length l))
  | [] => h
def back1 (h : AH) (l : Nat) : Rs Va → Rs Va
  | .ok v h' => .ok (bk (sh1 h.length l) v) (ins1 h l h')
  | .exc c p h' => .exc c (mapRf (sh1 h.length l) p) (ins1 h l h')
  | .bad => .bad
def callL (F : List Va → AH → Rs Va) (args : List Va) (h : AH) : Rs Va := match refsOfs args with
  | [] => back0 h (F args [])
  | l :: ls => if ls.all (· == l) then (match h[l]? with
      | some (.lst xs) => if inRs 0 xs then back1 h l (F (mapRs (fun _ => 0) args) [.lst xs]) else F args h
      | _ => F args h) else F args h
section
variable {K : PySem.W.Frag} {mg : Str → Option Value} {H : Hp} {m : List Addr} {ah : AH} {vs : List V} {ps : List Va} {Q : VK} {E : XK}
theorem XR.mapR {M : List Addr} {f : Nat → Nat} {c : Str} {p : List (Str × Va)} {cls : Value} {d : Option Addr} (hf : ∀ k a, m[k]? = some a → M[f k]? = some a) (h : XR K mg H m c p cls d) : XR K mg H M c (mapRf f p) cls d := by
  obtain ⟨C, h1, h2, h3⟩ := h
  refine ⟨C, h1, h2, ?_⟩
  cases p with
  | nil => exact h3
  | cons q r =>
    cases r with
    | nil =>
      obtain ⟨dd, w, g1, g2, g3⟩ := h3
      exact ⟨dd, w, g1, g2, g3.mapR hf⟩
    | cons _ _ => exact h3.elim
/-- the joined heap -/
theorem join0 {m' : List Addr} {H' : Hp} {h' : AH} (r : HR K H m ah) (e : Ext [] H m' H') (r' : HR K H' m' h') :
    Ext m H (m ++ m') H' ∧ HR K H' (m ++ m') (ah ++ h'.map (mapRO (sh0 ah.length))) ∧ ∀ k a, m'[k]? = some a → (m ++ m')[sh0 ah.length k]? = some a := by
  have hf : ∀ k a, m'[k]? = some a → (m ++ m')[sh0 ah.length k]? = some a := fun k a h => by
    unfold sh0
    rw [← r.len, List.getElem?_append_right (Nat.le_add_right _ _), Nat.add_sub_cancel_left]
    exact h
  have kp : ∀ b o, H b = some o → (∀ ps, o ≠ .tbl ps) → H' b = some o := fun b o h nt => e.keep b o h (by simp) nt
  have nw : ∀ a, a ∈ m' → H a = none ∨ ∃ ps, H a = some (.tbl ps) := fun a h => e.new a h (by simp)
  have eE : Ext m H (m ++ m') H' := by
    refine ⟨⟨m', rfl⟩, fun b o h _ nt => kp b o h nt, fun a h1 h2 => ?_⟩
    rcases List.mem_append.mp h1 with z | z
    · exact absurd z h2
    · exact nw a z
  refine ⟨eE, ⟨by simp [r.len, r'.len], ?_, fun l a o h1 h2 => ?_, r'.tb⟩, hf⟩
  · rw [List.nodup_append]
    refine ⟨r.nd, r'.nd, fun a ha b hb z => ?_⟩
    subst z
    exact r.notnew (nw a hb) ha
  · rcases Nat.lt_or_ge l m.length with hl | hl
    · rw [List.getElem?_append_left hl] at h1
      rw [List.getElem?_append_left (by rw [← r.len]; exact hl)] at h2
      have q := r.at_ l a o h1 h2
      cases o with
      | lst xs => obtain ⟨vs, q1, q2⟩ := q; exact ⟨vs, kp _ _ q1 (fun _ z => nomatch z), q2.ext r eE⟩
      | dct xs => obtain ⟨vs, q1, q2⟩ := q; exact ⟨vs, kp _ _ q1 (fun _ z => nomatch z), q2.ext r eE⟩
      | dtl xs => obtain ⟨vs, q1, q2, q3⟩ := q; exact ⟨vs, kp _ _ q1 (fun _ z => nomatch z), q2.ext r eE, q3⟩
      | ins c fs => obtain ⟨dx, vs, q1, q2⟩ := q; exact ⟨dx, vs, kp _ _ q1 (fun _ z => nomatch z), q2.ext r eE⟩
    · rw [List.getElem?_append_right hl] at h1
      rw [List.getElem?_append_right (by rw [← r.len]; exact hl), List.getElem?_map, ← r.len] at h2
      cases e2 : h'[l - m.length]? with
      | none => rw [e2] at h2; cases h2
      | some o2 =>
        rw [e2] at h2
        cases h2
        have q := (r'.at_ _ a o2 h1 e2).mapR hf
        rw [r.len]
        exact q
theorem join1 {l : Nat} {a : Addr} {xs : List Va} {m' : List Addr} {H' : Hp} {h' : AH} (r : HR K H m ah) (hl : m[l]? = some a) (hx : ah[l]? = some (.lst xs)) (e : Ext [a] H m' H') (r' : HR K H' m' h') :
    ∃ M, Ext m H M H' ∧ HR K H' M (ins1 ah l h') ∧ ∀ k b, m'[k]? = some b → M[sh1 ah.length l k]? = some b := by
  obtain ⟨t, ht⟩ := e.pre
  have hm' : m' = a :: t := by rw [ht]; rfl
  subst hm'
  have hlm : l < m.length := (List.getElem?_eq_some_iff.mp hl).1
  have hla : l < ah.length := by rw [← r.len]; exact hlm
  obtain ⟨vs0, ha0, _⟩ := r.lst hl hx
  have kp : ∀ b o, H b = some o → b ≠ a → (∀ ps, o ≠ .tbl ps) → H' b = some o := fun b o h n nt => e.keep b o h (by simpa using n) nt
  have nd' : a ∉ t := by have := r'.nd; rw [List.nodup_cons] at this; exact this.1
  have nw : ∀ b, b ∈ t → H b = none ∨ ∃ ps, H b = some (.tbl ps) := fun b h => e.new b (List.mem_cons_of_mem _ h) (by
    intro z
    have z : b = a := by simpa using z
    exact nd' (z ▸ h))
  have hf : ∀ k b, (a :: t)[k]? = some b → (m ++ t)[sh1 ah.length l k]? = some b := fun k b h => by
    cases k with
    | zero =>
      simp at h
      subst h
      show (m ++ t)[l]? = _
      rw [List.getElem?_append_left hlm]
      exact hl
    | succ k =>
      have : sh1 ah.length l (k + 1) = m.length + k := by
        unfold sh1
        rw [← r.len]
        simp
      rw [this, List.getElem?_append_right (Nat.le_add_right _ _), Nat.add_sub_cancel_left]
      simpa using h
  have eE : Ext m H (m ++ t) H' := by
    refine ⟨⟨t, rfl⟩, fun b o h n nt => kp b o h (fun z => n (z ▸ List.mem_of_getElem? hl)) nt, fun b h1 h2 => ?_⟩
    rcases List.mem_append.mp h1 with z | z
    · exact absurd z h2
    · exact nw b z
  refine ⟨m ++ t, eE, ?_, hf⟩
  cases h' with
  | nil => have := r'.len; simp at this
  | cons o0 h0 =>
  have hlen : t.length = h0.length := by have := r'.len; simpa using this
  show HR K H' (m ++ t) (ah.set l (mapRO (sh1 ah.length l) o0) ++ h0.map (mapRO (sh1 ah.length l)))
  refine ⟨by simp [r.len, hlen], ?_, fun j b o h1 h2 => ?_, r'.tb⟩
  · rw [List.nodup_append]
    refine ⟨r.nd, (List.nodup_cons.mp r'.nd).2, fun b hb c hc z => ?_⟩
    subst z
    exact r.notnew (nw b hc) hb
  · rcases Nat.lt_or_ge j m.length with hj | hj
    · rw [List.getElem?_append_left hj] at h1
      rw [List.getElem?_append_left (by rw [List.length_set, ← r.len]; exact hj)] at h2
      by_cases hjl : j = l
      · subst hjl
        rw [hl] at h1
        cases h1
        rw [List.getElem?_set_self hla] at h2
        cases h2
        exact (r'.at_ 0 a o0 rfl rfl).mapR hf
      · rw [List.getElem?_set_ne (Ne.symm hjl)] at h2
        have hba : b ≠ a := fun z => hjl (by subst z; exact nd_ix r.nd h1 hl)
        have q := r.at_ j b o h1 h2
        cases o with
        | lst xs => obtain ⟨vs, q1, q2⟩ := q; exact ⟨vs, kp _ _ q1 hba (fun _ z => nomatch z), q2.ext r eE⟩
        | dct xs => obtain ⟨vs, q1, q2⟩ := q; exact ⟨vs, kp _ _ q1 hba (fun _ z => nomatch z), q2.ext r eE⟩
        | dtl xs => obtain ⟨vs, q1, q2, q3⟩ := q; exact ⟨vs, kp _ _ q1 hba (fun _ z => nomatch z), q2.ext r eE, q3⟩
        | ins c fs => obtain ⟨dx, vs, q1, q2⟩ := q; exact ⟨dx, vs, kp _ _ q1 hba (fun _ z => nomatch z), q2.ext r eE⟩
    · rw [List.getElem?_append_right hj] at h1
      rw [List.getElem?_append_right (by rw [List.length_set, ← r.len]; exact hj), List.getElem?_map, List.length_set, ← r.len] at h2
      cases e2 : h0[j - m.length]? with
      | none => rw [e2] at h2; cases h2
      | some o2 =>
        rw [e2] at h2
        cases h2
        have q := (r'.at_ (j - m.length + 1) b o2 (by simpa using h1) (by simpa using e2)).mapR hf
        rw [r.len]
        exact q
theorem sp_local {F : List Va → AH → Rs Va} (r : HR K H m ah) (rv : VRs K H m ps vs) (q : Post K mg (VR K) m H E (callL F ps ah) (fun w H' => Q w H')) : spG K mg F vs H Q E := by
  unfold callL at q
  split at q
  · rename_i hr
    refine ⟨[], [], ps, hr_nil r.tb, rv.free hr, ?_⟩
    cases e : F ps [] with
    | bad => rw [e] at q; exact q
    | ok v h' =>
      rw [e] at q
      intro m' H' w e1 r1 rw1
      obtain ⟨g1, g2, g3⟩ := join0 r e1 r1
      exact q (m ++ m') H' w g1 g2 (rw1.bk g3)
    | exc c p h' =>
      rw [e] at q
      intro m' H' cls d e1 r1 x1
      obtain ⟨g1, g2, g3⟩ := join0 r e1 r1
      exact q (m ++ m') H' cls d g1 g2 (x1.mapR g3)
  · rename_i l ls hr
    split at q
    case isFalse => exact ⟨m, ah, ps, r, rv, q⟩
    rename_i hall
    split at q
    · rename_i xs hx
      split at q
      case isFalse => exact ⟨m, ah, ps, r, rv, q⟩
      rename_i hfree
      have hla : l < m.length := by rw [r.len]; exact (List.getElem?_eq_some_iff.mp hx).1
      have hl : m[l]? = some m[l] := List.getElem?_eq_getElem hla
      obtain ⟨vs0, ha0, hv0⟩ := r.lst hl hx
      have hone : ∀ k ∈ refsOfs ps, k = l := fun k hk => by
        rw [hr] at hk
        rcases List.mem_cons.mp hk with z | z
        · exact z
        · exact eq_of_beq (List.all_eq_true.mp hall k z)
      refine ⟨[m[l]], [.lst xs], mapRs (fun _ => 0) ps, ⟨rfl, by simp, fun j a o h1 h2 => ?_, r.tb⟩, rv.one hl hone, ?_⟩
      · cases j with
        | zero =>
          simp at h1 h2
          subst h1 h2
          exact ⟨vs0, ha0, hv0.free (inRs_free hfree)⟩
        | succ j => simp at h1
      · cases e : F (mapRs (fun _ => 0) ps) [.lst xs] with
        | bad => rw [e] at q; exact q
        | ok v h' =>
          rw [e] at q
          intro m' H' w e1 r1 rw1
          obtain ⟨M, g1, g2, g3⟩ := join1 r hl hx e1 r1
          exact q M H' w g1 g2 (rw1.bk g3)
        | exc c p h' =>
          rw [e] at q
          intro m' H' cls d e1 r1 x1
          obtain ⟨M, g1, g2, g3⟩ := join1 r hl hx e1 r1
          exact q M H' cls d g1 g2 (x1.mapR g3)
    · exact ⟨m, ah, ps, r, rv, q⟩
theorem FnG.loc {P : Program} {w : World} {base : Heap} {k : Nat} {f : Addr} {fd : FuncData} {ns : List Str} {F : List Va → AH → Rs Va} (G : FnG P w K mg base k f fd ns F) : FnG P w K mg base k f fd ns (callL F) :=
  ⟨fun vs H Q E ⟨m, ah, pvs, r, rv, q⟩ => G.len vs H Q E (sp_local r rv q), fun A outer s H args us vs Q E hr hg e b v ⟨m, ah, pvs, r, rv, q⟩ => G.run A outer s H args us vs Q E hr hg e b v (sp_local r rv q)⟩
theorem Cd.loc {P : Program} {w : World} {base : Heap} {k : Nat} {x : Str} {das : List Va} {F : List Va → AH → Rs Va} (C : Cd P w K mg base k x das F) : Cd P w K mg base k x das (callL F) := by
  obtain ⟨f, fd, ps, dvs, ds, G, r⟩ := C.ex
  exact ⟨f, fd, ps, dvs, ds, G.loc, r⟩
theorem Ck.loc {P : Program} {w : World} {base : Heap} {k n : Nat} {x : Str} {ks : List Str} {gA : List Va → List Va → List Va} {F : List Va → AH → Rs Va} (C : Ck P w K mg base k x n ks gA F) : Ck P w K mg base k x n ks gA (callL F) := by
  obtain ⟨f, fd, ps, g, gV, G, r⟩ := C.ex
  exact ⟨f, fd, ps, g, gV, G.loc, r⟩
end
end FL

set_option Elab.async false
set_option linter.all false
set_option maxRecDepth 100000
/-! FLS: the meanings step by step (rules for simp: the first part alone is looked at). -/
namespace FL
open PySem PySem.Spec PyProof.Rows L2
/-- plain facts name no table -/
instance (priority := low) noTabz : Tabz := ⟨[]⟩
section
variable {ev ev1 : Ev} {h h1 h2 : AH} {v w : Va} {vs : List Va} {f g t : EF} {tf tg : TF} {sf sg : SF} {af : AF} {i j : Nat} {b : Bool} {c : Str} {p : List (Str × Va)}
/-! #### names -/
def vK (h : AH) : Option (Option Va) → Rs Va
  | some (some v) => .ok v h
  | _ => .bad
theorem s_var : eVar i ev h = vK h ev[i]? := by
  unfold eVar vK
  rfl
theorem k_var : vK h (some (some v)) = .ok v h := rfl
theorem s_c : eC v ev h = .ok v h := rfl
/-! #### operations -/
def o1K (o : Op2) (v : Va) : Rs Va → Rs Va := fun r => r.bind fun w h2 => ofO (o v w h2)
def oK (o : Op2) (g : EF) (ev : Ev) : Rs Va → Rs Va := fun r => r.bind fun v h1 => o1K o v (g ev h1)
theorem s_op {o : Op2} : eOp o f g ev h = oK o g ev (f ev h) := rfl
theorem k_op {o : Op2} : oK o g ev (.ok v h) = o1K o v (g ev h) := rfl
theorem k_op1 {o : Op2} : o1K o v (.ok w h) = ofO (o v w h) := rfl
theorem k_o {α : Type} {a : α} : ofO (some (a, h)) = .ok a h := rfl
def unK (o : Op1) : Rs Va → Rs Va := fun r => r.bind fun v h1 => ofO (o v h1)
theorem s_un {o : Op1} : eUn o f ev h = unK o (f ev h) := rfl
theorem k_un {o : Op1} : unK o (.ok v h) = ofO (o v h) := rfl
def apK (o : OpN) : Rs (List Va) → Rs Va := fun r => r.bind fun vs h1 => ofO (o vs h1)
theorem s_ap {o : OpN} : eAp o af ev h = apK o (af ev h) := rfl
theorem k_ap {o : OpN} : apK o (.ok vs h) = ofO (o vs h) := rfl
def a1K (v : Va) : Rs (List Va) → Rs (List Va) := fun r => r.bind fun vs h2 => .ok (v :: vs) h2
def aK (g : AF) (ev : Ev) : Rs Va → Rs (List Va) := fun r => r.bind fun v h1 => a1K v (g ev h1)
theorem s_nil : aNil ev h = .ok [] h := rfl
theorem s_cons : aCons f af ev h = aK af ev (f ev h) := rfl
theorem k_cons : aK af ev (.ok v h) = a1K v (af ev h) := rfl
theorem k_cons1 : a1K v (.ok vs h) = .ok (v :: vs) h := rfl
/-! #### tests -/
def tBK : Rs Va → Rs Bool := fun r => r.bind fun v h1 => match v with | .bl b => .ok b h1 | _ => .bad
theorem s_tB : tB f ev h = tBK (f ev h) := rfl
theorem k_tB : tBK (.ok (.bl b) h) = .ok b h := rfl
def andK (g : TF) (ev : Ev) : Rs Bool → Rs Bool := fun r => r.bind fun b h1 => if b then g ev h1 else .ok false h1
def orK (g : TF) (ev : Ev) : Rs Bool → Rs Bool := fun r => r.bind fun b h1 => if b then .ok true h1 else g ev h1
def notK : Rs Bool → Rs Bool := fun r => r.bind fun b h1 => .ok (!b) h1
theorem s_and : tAnd tf tg ev h = andK tg ev (tf ev h) := rfl
theorem k_andT : andK tg ev (.ok true h) = tg ev h := rfl
theorem k_andF : andK tg ev (.ok false h) = .ok false h := rfl
theorem s_or : tOr tf tg ev h = orK tg ev (tf ev h) := rfl
theorem k_orT : orK tg ev (.ok true h) = .ok true h := rfl
theorem k_orF : orK tg ev (.ok false h) = tg ev h := rfl
theorem s_not : tNot tf ev h = notK (tf ev h) := rfl
theorem k_not : notK (.ok b h) = .ok (!b) h := rfl
def eandK (g : EF) (ev : Ev) : Rs Va → Rs Va := fun r => r.bind fun v h1 => bOf v fun b => if b then g ev h1 else .ok (.bl false) h1
def eorK (g : EF) (ev : Ev) : Rs Va → Rs Va := fun r => r.bind fun v h1 => bOf v fun b => if b then .ok (.bl true) h1 else g ev h1
def enotK : Rs Va → Rs Va := fun r => r.bind fun v h1 => bOf v fun b => .ok (.bl (!b)) h1
theorem s_eand : eAnd f g ev h = eandK g ev (f ev h) := rfl
theorem k_eandT : eandK g ev (.ok (.bl true) h) = g ev h := rfl
theorem k_eandF : eandK g ev (.ok (.bl false) h) = .ok (.bl false) h := rfl
theorem s_eor : eOr f g ev h = eorK g ev (f ev h) := rfl
theorem k_eorT : eorK g ev (.ok (.bl true) h) = .ok (.bl true) h := rfl
theorem k_eorF : eorK g ev (.ok (.bl false) h) = g ev h := rfl
theorem s_enot : eNot f ev h = enotK (f ev h) := rfl
theorem k_enot : enotK (.ok (.bl b) h) = .ok (.bl (!b)) h := rfl
def ifK (f g : EF) (ev : Ev) : Rs Bool → Rs Va := fun r => r.bind fun b h1 => if b then f ev h1 else g ev h1
theorem s_if : eIf tf f g ev h = ifK f g ev (tf ev h) := rfl
theorem k_ifT : ifK f g ev (.ok true h) = f ev h := rfl
theorem k_ifF : ifK f g ev (.ok false h) = g ev h := rfl
def isiK (T : String) : Rs Va → Rs Va := fun r => r.bind fun v h1 => match tyName h1 v with
  | some t => .ok (.bl (isiT t T)) h1
  | none => .bad
theorem s_isi {T : String} : eIsi T f ev h = isiK T (f ev h) := rfl
theorem i_ii {n : Int} : isiK "int" (.ok (.int n) h) = .ok (.bl true) h := by simp [isiK, tyName, isiT]
theorem i_ib {n : Int} : isiK "bool" (.ok (.int n) h) = .ok (.bl false) h := by simp [isiK, tyName, isiT]
theorem i_it {n : Int} : isiK "tuple" (.ok (.int n) h) = .ok (.bl false) h := by simp [isiK, tyName, isiT]
theorem i_il {n : Int} : isiK "list" (.ok (.int n) h) = .ok (.bl false) h := by simp [isiK, tyName, isiT]
theorem i_is {n : Int} : isiK "str" (.ok (.int n) h) = .ok (.bl false) h := by simp [isiK, tyName, isiT]
theorem i_bi {n : Bool} : isiK "int" (.ok (.bl n) h) = .ok (.bl true) h := by simp [isiK, tyName, isiT]
theorem i_bb {n : Bool} : isiK "bool" (.ok (.bl n) h) = .ok (.bl true) h := by simp [isiK, tyName, isiT]
theorem i_bt {n : Bool} : isiK "tuple" (.ok (.bl n) h) = .ok (.bl false) h := by simp [isiK, tyName, isiT]
theorem i_ni : isiK "int" (.ok .non h) = .ok (.bl false) h := by simp [isiK, tyName, isiT]
theorem i_nb : isiK "bool" (.ok .non h) = .ok (.bl false) h := by simp [isiK, tyName, isiT]
theorem i_nt : isiK "tuple" (.ok .non h) = .ok (.bl false) h := by simp [isiK, tyName, isiT]
theorem i_ti {x : List Va} : isiK "int" (.ok (.tup x) h) = .ok (.bl false) h := by simp [isiK, tyName, isiT]
theorem i_tb {x : List Va} : isiK "bool" (.ok (.tup x) h) = .ok (.bl false) h := by simp [isiK, tyName, isiT]
theorem i_tt {x : List Va} : isiK "tuple" (.ok (.tup x) h) = .ok (.bl true) h := by simp [isiK, tyName, isiT]
theorem i_si {x : Str} : isiK "int" (.ok (.str x) h) = .ok (.bl false) h := by simp [isiK, tyName, isiT]
theorem i_st {x : Str} : isiK "tuple" (.ok (.str x) h) = .ok (.bl false) h := by simp [isiK, tyName, isiT]
def ch2K (t : EF) (ev : Ev) (o' : Op2) (w : Va) : Rs Va → Rs Va := fun r => r.bind fun x h3 => match x with
  | .bl true => (t ev h3).bind fun u h4 => ofO (o' w u h4)
  | .bl false => .ok (.bl false) h3
  | _ => .bad
def ch1K (t : EF) (ev : Ev) (o o' : Op2) (v : Va) : Rs Va → Rs Va := fun r => r.bind fun w h2 => ch2K t ev o' w (ofO (o v w h2))
def chK (g t : EF) (ev : Ev) (o o' : Op2) : Rs Va → Rs Va := fun r => r.bind fun v h1 => ch1K t ev o o' v (g ev h1)
theorem s_ch {o o' : Op2} : eChain o o' f g t ev h = chK g t ev o o' (f ev h) := by
  unfold eChain chK ch1K ch2K
  congr 1
  funext v h1
  congr 1
  funext w h2
  cases o v w h2 with
  | none => rfl
  | some q =>
    obtain ⟨x, h3⟩ := q
    cases x with
    | bl b => cases b <;> rfl
    | _ => rfl
theorem k_ch {o o' : Op2} : chK g t ev o o' (.ok v h) = ch1K t ev o o' v (g ev h) := rfl
theorem k_ch1 {o o' : Op2} : ch1K t ev o o' v (.ok w h) = ch2K t ev o' w (ofO (o v w h)) := rfl
theorem k_ch2T {o' : Op2} : ch2K t ev o' w (.ok (.bl true) h) = o1K o' w (t ev h) := rfl
theorem k_ch2F {o' : Op2} : ch2K t ev o' w (.ok (.bl false) h) = .ok (.bl false) h := rfl
/-! #### slices -/
def sl2K (v : Va) (l : Option Int) : Rs (Option Int) → Rs Va := fun r => r.bind fun u h3 => ofO (oSl v l u h3)
def sl1K (hi : Ev → AH → Rs (Option Int)) (ev : Ev) (v : Va) : Rs (Option Int) → Rs Va := fun r => r.bind fun l h2 => sl2K v l (hi ev h2)
def slK (lo hi : Ev → AH → Rs (Option Int)) (ev : Ev) : Rs Va → Rs Va := fun r => r.bind fun v h1 => sl1K hi ev v (lo ev h1)
variable {lo hi : Ev → AH → Rs (Option Int)} {l u : Option Int} {n : Int}
theorem s_sl : eSl f lo hi ev h = slK lo hi ev (f ev h) := rfl
theorem k_sl : slK lo hi ev (.ok v h) = sl1K hi ev v (lo ev h) := rfl
theorem k_sl1 : sl1K hi ev v (.ok l h) = sl2K v l (hi ev h) := rfl
theorem k_sl2 : sl2K v l (.ok u h) = ofO (oSl v l u h) := rfl
def lsK : Rs Va → Rs (Option Int) := fun r => r.bind fun v h1 => match v with | .int i => .ok (some i) h1 | _ => .bad
theorem s_lN : lNone ev h = .ok none h := rfl
theorem s_lS : lSome f ev h = lsK (f ev h) := rfl
theorem k_lS : lsK (.ok (.int n) h) = .ok (some n) h := rfl
/-! #### statements -/
def sqK (g : SF) : SR → SR := fun r => r.andThen g
theorem s_seq : sSeq sf sg ev h = sqK sg (sf ev h) := rfl
theorem k_seqN : sqK sg (.nx ev h) = sg ev h := rfl
theorem k_seqR : sqK sg (.rt v h) = .rt v h := rfl
theorem k_seqB : sqK sg (.bk ev h) = .bk ev h := rfl
theorem k_seqC : sqK sg (.ct ev h) = .ct ev h := rfl
theorem k_seqX : sqK sg (.exc c p ev h) = .exc c p ev h := rfl
theorem s_sN : sNil ev h = .nx ev h := rfl
def setK (i : Nat) (ev : Ev) : Rs Va → SR := fun r => r.s ev fun v h1 => .nx (ev.set i (some v)) h1
theorem s_set : sSet i f ev h = setK i ev (f ev h) := rfl
theorem k_set : setK i ev (.ok v h) = .nx (ev.set i (some v)) h := rfl
def sifK (f g : SF) (ev : Ev) : Rs Bool → SR := fun r => r.s ev fun b h1 => if b then f ev h1 else g ev h1
theorem s_sif : sIf tf sf sg ev h = sifK sf sg ev (tf ev h) := rfl
theorem k_sifT : sifK sf sg ev (.ok true h) = sf ev h := rfl
theorem k_sifF : sifK sf sg ev (.ok false h) = sg ev h := rfl
def retK (ev : Ev) : Rs Va → SR := fun r => r.s ev fun v h1 => .rt v h1
theorem s_ret : sRet f ev h = retK ev (f ev h) := rfl
theorem k_ret : retK ev (.ok v h) = .rt v h := rfl
def expK (ev : Ev) : Rs Va → SR := fun r => r.s ev fun _ h1 => .nx ev h1
theorem s_exp : sExpr f ev h = expK ev (f ev h) := rfl
theorem k_exp : expK ev (.ok v h) = .nx ev h := rfl
variable {gf : GF} {gs : GsF}
def asg1K (h : AH) : Option Ev → SR := fun o => match o with | some ev1 => .nx ev1 h | none => .bad
def asgK (g : GF) (ev : Ev) : Rs Va → SR := fun r => r.s ev fun v h1 => asg1K h1 (g v ev)
theorem s_asg : sAsg gf f ev h = asgK gf ev (f ev h) := rfl
theorem k_asg : asgK gf ev (.ok v h) = asg1K h (gf v ev) := rfl
theorem k_asg1 : asg1K h (some ev) = .nx ev h := rfl
theorem s_gNm : gNm i v ev = some (ev.set i (some v)) := rfl
theorem s_gTp : gTp gs (.tup vs) ev = gs vs ev := rfl
theorem s_gNl : gNl [] ev = some ev := rfl
def gsK (gs : GsF) (vs : List Va) : Option Ev → Option Ev := fun o => o.bind fun ev1 => gs vs ev1
theorem s_gCs : gCs gf gs (v :: vs) ev = gsK gs vs (gf v ev) := rfl
theorem k_gCs : gsK gs vs (some ev) = gs vs ev := rfl
def parK (i j : Nat) (ev : Ev) : Rs (List Va) → SR := fun r => r.s ev fun vs h1 => match vs with
  | [v, w] => .nx ((ev.set i (some v)).set j (some w)) h1
  | _ => .bad
theorem s_par : sPar i j af ev h = parK i j ev (af ev h) := rfl
theorem k_par : parK i j ev (.ok [v, w] h) = .nx ((ev.set i (some v)).set j (some w)) h := rfl
def six3K (ev : Ev) : Option AH → SR := fun o => match o with | some h4 => .nx ev h4 | none => .bad
def six2K (ev : Ev) (v o : Va) : Rs Va → SR := fun r => r.s ev fun i h3 => six3K ev (setAt o i v h3)
def six1K (fi : EF) (ev : Ev) (v : Va) : Rs Va → SR := fun r => r.s ev fun o h2 => six2K ev v o (fi ev h2)
def sixK (fo fi : EF) (ev : Ev) : Rs Va → SR := fun r => r.s ev fun v h1 => six1K fi ev v (fo ev h1)
variable {fo fi : EF} {o : Va}
theorem s_six : sSetIx fo fi f ev h = sixK fo fi ev (f ev h) := rfl
theorem k_six : sixK fo fi ev (.ok v h) = six1K fi ev v (fo ev h) := rfl
theorem k_six1 : six1K fi ev v (.ok o h) = six2K ev v o (fi ev h) := rfl
theorem k_six2 : six2K ev v o (.ok w h) = six3K ev (setAt o w v h) := rfl
theorem k_six3 : six3K ev (some h) = .nx ev h := rfl
def auK (i : Nat) (o : Int → Int → Int) (ev : Ev) (a : Int) : Rs Va → SR := fun r => r.s ev fun v h1 => match v with
  | .int b => .nx (ev.set i (some (.int (o a b)))) h1
  | _ => .bad
def au0K (i : Nat) (o : Int → Int → Int) (f : EF) (ev : Ev) (h : AH) : Option (Option Va) → SR := fun x => match x with
  | some (some (.int a)) => auK i o ev a (f ev h)
  | _ => .bad
theorem s_aug {o : Int → Int → Int} : sAug i o f ev h = au0K i o f ev h ev[i]? := by
  unfold sAug au0K auK
  rfl
theorem k_aug0 {o : Int → Int → Int} {a : Int} : au0K i o f ev h (some (some (.int a))) = auK i o ev a (f ev h) := rfl
theorem k_aug {o : Int → Int → Int} {a d : Int} : auK i o ev a (.ok (.int d) h) = .nx (ev.set i (some (.int (o a d)))) h := rfl
/-! #### methods, calls -/
def m1K (o : OpM) (v : Va) : Rs (List Va) → Rs Va := fun r => r.bind fun vs h2 => ofO (o v vs h2)
def m0K (o : OpM) (ta : AF) (ev : Ev) (v : Va) (h1 : AH) : Bool → Rs Va := fun b => if b then m1K o v (ta ev h1) else .bad
def mK (o : OpM) (ta : AF) (ev : Ev) : Rs Va → Rs Va := fun r => r.bind fun v h1 => m0K o ta ev v h1 (isLst v h1)
theorem s_m {o : OpM} : eM f af o ev h = mK o af ev (f ev h) := rfl
theorem k_m {o : OpM} : mK o af ev (.ok v h) = m0K o af ev v h (isLst v h) := rfl
theorem k_m0 {o : OpM} : m0K o af ev v h true = m1K o v (af ev h) := rfl
theorem k_m1 {o : OpM} : m1K o v (.ok vs h) = ofO (o v vs h) := rfl
variable {F : List Va → AH → Rs Va} {das : List Va} {gA : List Va → List Va → List Va} {n1 n2 : Nat} {tk : AF}
def clK (das : List Va) (F : List Va → AH → Rs Va) : Rs (List Va) → Rs Va := fun r => r.bind fun vs h1 => F (vs ++ das) h1
theorem s_cl : eCall das F af ev h = clK das F (af ev h) := rfl
theorem k_cl : clK das F (.ok vs h) = F (vs ++ das) h := rfl
def ck1K (n m : Nat) (gA : List Va → List Va → List Va) (F : List Va → AH → Rs Va) (vs : List Va) : Rs (List Va) → Rs Va := fun r => r.bind fun zs h2 => if vs.length == n && zs.length == m then F (gA vs zs) h2 else .bad
def ckK (n m : Nat) (gA : List Va → List Va → List Va) (F : List Va → AH → Rs Va) (tk : AF) (ev : Ev) : Rs (List Va) → Rs Va := fun r => r.bind fun vs h1 => ck1K n m gA F vs (tk ev h1)
theorem s_ck : eCallK n1 n2 gA F af tk ev h = ckK n1 n2 gA F tk ev (af ev h) := rfl
theorem k_ck : ckK n1 n2 gA F tk ev (.ok vs h) = ck1K n1 n2 gA F vs (tk ev h) := rfl
/-! #### loops -/
variable {it : IF} {s : Src} {gsl : List (Nat × List Va)} {xs : List Va} {x : Va} {ns : List Nat}
def itK (o : List Va → AH → Option Src) : Rs (List Va) → Rs Src := fun r => r.bind fun vs h1 => match o vs h1 with | some s => .ok s h1 | none => .bad
theorem s_it {o : List Va → AH → Option Src} : iOf af o ev h = itK o (af ev h) := rfl
def it2K (h : AH) : Option Src → Rs Src := fun o => match o with | some s => .ok s h | none => .bad
theorem k_it {o : List Va → AH → Option Src} : itK o (.ok vs h) = it2K h (o vs h) := rfl
theorem k_it2 : it2K h (some s) = .ok s h := rfl
def it1K (o : Va → AH → Option Src) : Rs Va → Rs Src := fun r => r.bind fun v h1 => match o v h1 with | some s => .ok s h1 | none => .bad
theorem s_it1 {o : Va → AH → Option Src} : iOf1 f o ev h = it1K o (f ev h) := rfl
theorem k_it1 {o : Va → AH → Option Src} : it1K o (.ok v h) = it2K h (o v h) := rfl
def forK (g : GF) (b : SF) (ev : Ev) : Rs Src → SR := fun r => r.s ev fun s h1 => loopF s.gs g b s.items ev h1
theorem s_for : sFor it gf sf ev h = forK gf sf ev (it ev h) := rfl
theorem k_for : forK gf sf ev (.ok s h) = loopF s.gs gf sf s.items ev h := rfl
def lp1K (gs : List (Nat × List Va)) (g : GF) (b : SF) (xs : List Va) : SR → SR := fun r => match r with
  | .nx ev2 h2 => loopF gs g b xs ev2 h2
  | .ct ev2 h2 => loopF gs g b xs ev2 h2
  | .bk ev2 h2 => .nx ev2 h2
  | .rt v h2 => .rt v h2
  | .exc c p ev2 h2 => .exc c p ev2 h2
  | .bad => .bad
def lpK (gs : List (Nat × List Va)) (g : GF) (b : SF) (xs : List Va) (h : AH) : Option Ev → SR := fun o => match o with
  | none => .bad
  | some ev1 => lp1K gs g b xs (b ev1 h)
theorem s_lpN (e : gsOk gsl h = true) : loopF gsl gf sf [] ev h = .nx ev h := by simp [loopF, e]
theorem s_lpC (e : gsOk gsl h = true) : loopF gsl gf sf (x :: xs) ev h = lpK gsl gf sf xs h (gf x ev) := by
  simp only [loopF, e, if_true, lpK, lp1K]
  all_goals (cases gf x ev <;> rfl)
theorem k_lp : lpK gsl gf sf xs h (some ev) = lp1K gsl gf sf xs (sf ev h) := rfl
theorem k_lpN : lp1K gsl gf sf xs (.nx ev h) = loopF gsl gf sf xs ev h := rfl
theorem k_lpC : lp1K gsl gf sf xs (.ct ev h) = loopF gsl gf sf xs ev h := rfl
theorem k_lpB : lp1K gsl gf sf xs (.bk ev h) = .nx ev h := rfl
theorem k_lpR : lp1K gsl gf sf xs (.rt v h) = .rt v h := rfl
def lcK (g : GF) (t : TF) (el : EF) (ns : List Nat) (ev : Ev) : Rs Src → Rs Va := fun r => r.bind (lcF g t el ns ev)
def lc1K : Rs (List Va) → Rs Va := fun r => r.bind fun ys h2 => .ok (.ref h2.length) (h2 ++ [.lst ys])
theorem s_lc : eLc it gf tf f ns ev h = lcK gf tf f ns ev (it ev h) := rfl
theorem k_lc (e : s.items.length < lim) : lcK gf tf f ns ev (.ok s h) = lc1K (compF s.gs gf tf f (ewipe ev ns) s.items h) := by
  simp only [lcK, Rs.bind_ok, lcF, lc1K, if_pos e]
theorem k_lc1 : lc1K (.ok vs h) = .ok (.ref h.length) (h ++ [.lst vs]) := rfl
def cp3K (y : Va) : Rs (List Va) → Rs (List Va) := fun r => r.bind fun ys h4 => .ok (y :: ys) h4
def cp2K (gs : List (Nat × List Va)) (g : GF) (t : TF) (el : EF) (ev0 : Ev) (xs : List Va) : Rs Va → Rs (List Va) := fun r => match r with
  | .ok y h3 => cp3K y (compF gs g t el ev0 xs h3)
  | _ => .bad
def cp1K (gs : List (Nat × List Va)) (g : GF) (t : TF) (el : EF) (ev0 ev1 : Ev) (xs : List Va) : Rs Bool → Rs (List Va) := fun r => match r with
  | .ok true h2 => cp2K gs g t el ev0 xs (el ev1 h2)
  | .ok false h2 => compF gs g t el ev0 xs h2
  | _ => .bad
def cpK (gs : List (Nat × List Va)) (g : GF) (t : TF) (el : EF) (ev0 : Ev) (xs : List Va) (h : AH) : Option Ev → Rs (List Va) := fun o => match o with
  | none => .bad
  | some ev1 => cp1K gs g t el ev0 ev1 xs (t ev1 h)
theorem s_cpN (e : gsOk gsl h = true) : compF gsl gf tf f ev [] h = .ok [] h := by simp [compF, e]
theorem s_cpC (e : gsOk gsl h = true) : compF gsl gf tf f ev (x :: xs) h = cpK gsl gf tf f ev xs h (gf x ev) := by
  simp only [compF, e, if_true, cpK, cp1K, cp2K, cp3K]
  all_goals
    cases gf x ev with
    | none => rfl
    | some ev1 =>
      simp only
      all_goals
        cases tf ev1 h with
        | ok b h2 =>
          cases b
          · rfl
          · simp only
            all_goals (cases f ev1 h2 <;> rfl)
        | exc _ _ _ => rfl
        | bad => rfl
theorem k_cp : cpK gsl gf tf f ev xs h (some ev1) = cp1K gsl gf tf f ev ev1 xs (tf ev1 h) := rfl
theorem k_cpT : cp1K gsl gf tf f ev ev1 xs (.ok true h) = cp2K gsl gf tf f ev xs (f ev1 h) := rfl
theorem k_cpF : cp1K gsl gf tf f ev ev1 xs (.ok false h) = compF gsl gf tf f ev xs h := rfl
theorem k_cp2 : cp2K gsl gf tf f ev xs (.ok v h) = cp3K v (compF gsl gf tf f ev xs h) := rfl
theorem k_cp3 : cp3K v (.ok vs h) = .ok (v :: vs) h := rfl
theorem s_yes : tYesF ev h = .ok true h := rfl
/-! #### ends of defs -/
theorem s_fn {m k : Nat} (e : vs.length = k) : fnF m k sf vs h = gcF h.length (endF (sf (vs.map some ++ List.replicate (m - k) none) h)) := by simp [fnF, e]
theorem k_endN : endF (.nx ev h) = .ok .non h := rfl
theorem k_endR : endF (.rt v h) = .ok v h := rfl
/-! #### operations on known kinds -/
variable {a d : Int} {ys : List Va} {k : Nat}
theorem o_add : oAdd (.int a) (.int d) h = some (.int (a + d), h) := rfl
theorem o_sub : oSub (.int a) (.int d) h = some (.int (a - d), h) := rfl
theorem o_mul (h1 : okI a = true) (h2 : okI d = true) : oMul2 (.int a) (.int d) h = some (.int (a * d), h) := by
  show oMul (.int a) (.int d) h = _
  simp [oMul, h1, h2]
theorem o_fdiv (h1 : 0 < d) (h2 : okI d = true) : oFdiv (.int a) (.int d) h = some (.int (a / d), h) := by simp [oFdiv, h1, h2]
theorem o_mod (h1 : 0 < d) : oMod (.int a) (.int d) h = some (.int (a % d), h) := by simp [oMod, h1]
theorem o_lt : oLt (.int a) (.int d) h = some (.bl (decide (a < d)), h) := rfl
theorem o_le : oLe (.int a) (.int d) h = some (.bl (decide (a ≤ d)), h) := rfl
theorem o_gt : oGt (.int a) (.int d) h = some (.bl (decide (d < a)), h) := rfl
theorem o_ge : oGe (.int a) (.int d) h = some (.bl (decide (d ≤ a)), h) := rfl
theorem py_int {n : Nat} : toPy h n (.int a) = some (.int a) := by cases n <;> simp [toPy]
theorem sh_int : SeqAt.shaped (.int a) = true := rfl
theorem o_eqI : oEq2 (.int a) (.int d) h = some (.bl (decide (a = d)), h) := by
  show oEq (.int a) (.int d) h = _
  simp only [oEq, oEqv, py_int, sh_int, Bool.and_self, if_true]
  by_cases e : a = d <;> simp [PyData.eqv, e]
theorem o_neI : oNe2 (.int a) (.int d) h = some (.bl (!decide (a = d)), h) := by
  show oNe (.int a) (.int d) h = _
  simp only [oNe, oEqv, py_int, sh_int, Bool.and_self, if_true]
  by_cases e : a = d <;> simp [PyData.eqv, e]
theorem o_neR {q : PyData} : oNe2 (.rp q) (.rp q) h = some (.bl false, h) := by simp [oNe2, oEqv2, pdBeq_refl]
theorem o_eqR {q : PyData} : oEq2 (.rp q) (.rp q) h = some (.bl true, h) := by simp [oEq2, oEqv2, pdBeq_refl]
theorem o_isN1 : oIs false .non .non h = some (.bl true, h) := rfl
theorem o_isN2 : oIs false (.int a) .non h = some (.bl false, h) := rfl
theorem o_isN3 : oIs true .non .non h = some (.bl false, h) := rfl
theorem o_isN4 : oIs true (.int a) .non h = some (.bl true, h) := rfl
theorem o_isB1 {b b' : Bool} : oIs false (.bl b) (.bl b') h = some (.bl (decide (b = b')), h) := rfl
theorem o_isB2 {b b' : Bool} : oIs true (.bl b) (.bl b') h = some (.bl (!decide (b = b')), h) := rfl
theorem o_tup (e : vs.length ≤ lim) : oTup vs h = some (.tup vs, h) := by simp [oTup, e]
theorem o_lst (e : vs.length ≤ lim) : oLst vs h = some (.ref h.length, h ++ [.lst vs]) := by simp [oLst, e]
theorem o_lenT : oLen [.tup xs] h = some (.int (xs.length : Nat), h) := rfl
theorem o_lenR : oLen [.rol xs] h = some (.int (xs.length : Nat), h) := rfl
def lnK (h : AH) : Option (List Va) → Option (Va × AH) := fun o => match o with | some xs => some (.int (xs.length : Nat), h) | none => none
theorem o_lenL : oLen [.ref k] h = lnK h (lstAt h k) := rfl
theorem k_lenL : lnK h (some xs) = some (.int (xs.length : Nat), h) := rfl
theorem o_ixT : oIx (.tup xs) (.int a) h = (atI xs a).map fun v => (v, h) := rfl
theorem o_ixR : oIx (.rol xs) (.int a) h = (atI xs a).map fun v => (v, h) := rfl
def ixK (a : Int) (h : AH) : Option (List Va) → Option (Va × AH) := fun o => match o with | some xs => (atI xs a).map fun v => (v, h) | none => none
theorem o_ixL : oIx (.ref k) (.int a) h = ixK a h (lstAt h k) := rfl
theorem k_ixL : ixK a h (some xs) = (atI xs a).map fun v => (v, h) := rfl
theorem k_ix : (some v).map (fun v : Va => (v, h)) = some (v, h) := rfl
theorem o_int : oInt [.int a] h = some (.int a, h) := rfl
theorem o_intB {b : Bool} : oInt [.bl b] h = some (.int (if b then 1 else 0), h) := rfl
theorem o_abs : oAbs [.int a] h = some (.int (if a < 0 then -a else a), h) := rfl
theorem o_max : oMax2 [.int a, .int d] h = some (.int (if d > a then d else a), h) := rfl
theorem o_min : oMin2 [.int a, .int d] h = some (.int (if d < a then d else a), h) := rfl
theorem o_tupT : oTuple [.tup xs] h = some (.tup xs, h) := rfl
def tuK (h : AH) : Option (List Va) → Option (Va × AH) := fun o => match o with | some xs => some (.tup xs, h) | none => none
theorem o_tupL : oTuple [.ref k] h = tuK h (lstAt h k) := rfl
theorem k_tupL : tuK h (some xs) = some (.tup xs, h) := rfl
theorem o_lstT : oList [.tup xs] h = some (.ref h.length, h ++ [.lst xs]) := rfl
def liK (h : AH) : Option (List Va) → Option (Va × AH) := fun o => match o with | some xs => some (.ref h.length, h ++ [.lst xs]) | none => none
theorem o_lstL : oList [.ref k] h = liK h (lstAt h k) := rfl
theorem k_lstL : liK h (some xs) = some (.ref h.length, h ++ [.lst xs]) := rfl
theorem o_slT : oSl (.tup xs) l u h = some (.tup (cutA xs l u), h) := rfl
def appvK (k : Nat) (v : Va) (h : AH) : Option (List Va) → Option (Va × AH) := fun o => match o with | some xs => if xs.length < lim then some (.non, h.set k (.lst (xs ++ [v]))) else none | none => none
theorem o_app : oAppend (.ref k) [v] h = appvK k v h (lstAt h k) := rfl
theorem k_app (e2 : xs.length < lim) : appvK k v h (some xs) = some (.non, h.set k (.lst (xs ++ [v]))) := by simp [appvK, e2]
theorem o_isLst : isLst (.ref k) h = (lstAt h k).isSome := rfl
theorem k_isSome : (some xs).isSome = true := rfl
theorem o_cat (e : xs.length + ys.length ≤ lim) : oAdd (.tup xs) (.tup ys) h = some (.tup (xs ++ ys), h) := by simp [oAdd, e]
def st2K (k : Nat) (v : Va) (h : AH) (xs : List Va) : Option Nat → Option AH := fun o => match o with | some j => some (h.set k (.lst (xs.set j v))) | none => none
def stK (k : Nat) (a : Int) (v : Va) (h : AH) : Option (List Va) → Option AH := fun o => match o with | some xs => st2K k v h xs (ixN xs.length a) | none => none
theorem o_setAt : setAt (.ref k) (.int a) v h = stK k a v h (lstAt h k) := rfl
theorem k_setAt : stK k a v h (some xs) = st2K k v h xs (ixN xs.length a) := rfl
theorem k_setAt2 : st2K k v h xs (some i) = some (h.set k (.lst (xs.set i v))) := rfl
/-! #### sources -/
theorem c_T : srcOf (.tup xs) h = some ⟨xs, []⟩ := rfl
theorem c_R : srcOf (.rol xs) h = some ⟨xs, []⟩ := rfl
def srK (k : Nat) : Option (List Va) → Option Src := fun o => match o with | some xs => some ⟨xs, [(k, xs)]⟩ | none => none
theorem c_L : srcOf (.ref k) h = srK k (lstAt h k) := rfl
theorem k_srcL : srK k (some xs) = some ⟨xs, [(k, xs)]⟩ := rfl
theorem c_g (e : lstAt h k = some xs) : gsOk [(k, xs)] h = true := gsOk_of fun p hp => by rw [List.mem_singleton.mp hp]; exact e
theorem c_rng (h1 : -rngL ≤ d) (h2 : d ≤ rngL) : srcR [.int d] h = some ⟨intsF 0 d.toNat, []⟩ := by simp [srcR, h1, h2]
theorem lst0 {r : AH} : lstAt (.lst xs :: r) 0 = some xs := rfl
theorem atI0 : atI (x :: xs) 0 = some x := by simp [atI, ixN]
theorem atIn {m : Nat} (e : a = (m : Nat)) : atI xs a = xs[m]? := by
  subst e
  unfold atI ixN
  rw [if_pos (by omega)]
  by_cases hm : m < xs.length
  · rw [if_pos (by omega)]
    simp
  · rw [if_neg (by omega)]
    simp [List.getElem?_eq_none (Nat.le_of_not_lt hm)]
theorem okI_lt {i : Int} (h1 : -(10 ^ 1000) < i) (h2 : i < 10 ^ 1000) : okI i = true := okI_of (n := 3400) (by
  have : (10 : Nat) ^ 1000 < 2 ^ 3400 := by decide +kernel
  omega)
/-! #### local calls -/
theorem loc0 {v : Va} (e : F vs [] = .ok v []) (e2 : refsOfs vs = []) (e3 : inR 0 v = true) : callL F vs h = .ok v h := by
  simp [callL, e2, e, back0, bk, e3]
end
end FL

set_option Elab.async false
set_option linter.all false
set_option maxRecDepth 100000
/-! FLP: what is reached behind a call of which no more is known than its promise. -/
namespace FL
open PySem PySem.Spec PyProof.Rows L2
/-- r ends well, in P -/
def Tk {α : Type} (r : Rs α) (P : α → AH → Prop) : Prop := ∃ a h, r = .ok a h ∧ P a h
def Ts (r : SR) (P : SR → Prop) : Prop := P r
section
variable {α β : Type} {ev ev1 : Ev} {h h1 h2 : AH} {v w : Va} {vs xs : List Va} {f g t : EF} {tf tg : TF} {sf sg : SF} {af : AF} {i j n m : Nat} {b : Bool} {o : Op2} {r : Rs Va} {rb : Rs Bool} {rl : Rs (List Va)} {P : Va → AH → Prop} {Pb : Bool → AH → Prop} {Pl : List Va → AH → Prop} {Q : SR → Prop}
theorem Tk.ok {a : α} {P : α → AH → Prop} (q : P a h) : Tk (.ok a h) P := ⟨a, h, rfl, q⟩
theorem tk_ok {a : α} {P : α → AH → Prop} : Tk (.ok a h) P = P a h := by
  apply propext
  constructor
  · rintro ⟨a', h', e, q⟩
    cases e
    exact q
  · exact Tk.ok
theorem ts_nx : Ts (.nx ev h) Q = Q (.nx ev h) := rfl
theorem ts_rt : Ts (.rt v h) Q = Q (.rt v h) := rfl
theorem Tk.mono {r : Rs α} {P P' : α → AH → Prop} (q : Tk r P) (i : ∀ a h, P a h → P' a h) : Tk r P' := by
  obtain ⟨a, h, e, p⟩ := q
  exact ⟨a, h, e, i a h p⟩
theorem Tk.bind {r : Rs α} {k : α → AH → Rs β} {P : β → AH → Prop} (q : Tk r fun a h => Tk (k a h) P) : Tk (r.bind k) P := by
  obtain ⟨a, h, e, p⟩ := q
  rw [e]
  exact p
theorem Tk.s {r : Rs α} {k : α → AH → SR} (q : Tk r fun a h => Ts (k a h) Q) : Ts (r.s ev k) Q := by
  obtain ⟨a, h, e, p⟩ := q
  rw [e]
  exact p
theorem p_o1 (q : Tk r fun w h => Tk (o1K o v (.ok w h)) P) : Tk (o1K o v r) P := Tk.bind q
theorem p_o (q : Tk r fun w h => Tk (oK o g ev (.ok w h)) P) : Tk (oK o g ev r) P := Tk.bind q
theorem p_ap {o : OpN} (q : Tk rl fun w h => Tk (apK o (.ok w h)) P) : Tk (apK o rl) P := Tk.bind q
theorem p_a1 (q : Tk rl fun w h => Tk (a1K v (.ok w h)) Pl) : Tk (a1K v rl) Pl := Tk.bind q
theorem p_a (q : Tk r fun w h => Tk (aK af ev (.ok w h)) Pl) : Tk (aK af ev r) Pl := Tk.bind q
theorem p_tB (q : Tk r fun w h => Tk (tBK (.ok w h)) Pb) : Tk (tBK r) Pb := Tk.bind q
theorem p_not (q : Tk rb fun w h => Tk (notK (.ok w h)) Pb) : Tk (notK rb) Pb := Tk.bind q
theorem p_if (q : Tk rb fun w h => Tk (ifK f g ev (.ok w h)) P) : Tk (ifK f g ev rb) P := Tk.bind q
theorem p_set (q : Tk r fun w h => Ts (setK i ev (.ok w h)) Q) : Ts (setK i ev r) Q := Tk.s q
theorem p_sif (q : Tk rb fun w h => Ts (sifK sf sg ev (.ok w h)) Q) : Ts (sifK sf sg ev rb) Q := Tk.s q
theorem p_ret (q : Tk r fun w h => Ts (retK ev (.ok w h)) Q) : Ts (retK ev r) Q := Tk.s q
theorem p_exp (q : Tk r fun w h => Ts (expK ev (.ok w h)) Q) : Ts (expK ev r) Q := Tk.s q
theorem p_sq {r : SR} (q : Ts r fun r => Ts (sqK sg r) Q) : Ts (sqK sg r) Q := q
theorem p_m1 {o : OpM} (q : Tk rl fun w h => Tk (m1K o v (.ok w h)) P) : Tk (m1K o v rl) P := Tk.bind q
variable {F : List Va → AH → Rs Va} {das : List Va} {gA : List Va → List Va → List Va} {n1 n2 : Nat} {tk : AF}
variable {rs : Rs Src} {Ps : Src → AH → Prop} {gf : GF} {ns : List Nat} {gsl : List (Nat × List Va)}
theorem p_it {o : List Va → AH → Option Src} (q : Tk rl fun w h => Tk (itK o (.ok w h)) Ps) : Tk (itK o rl) Ps := Tk.bind q
theorem p_for (q : Tk rs fun w h => Ts (forK gf sf ev (.ok w h)) Q) : Ts (forK gf sf ev rs) Q := Tk.s q
theorem p_lc1 (q : Tk rl fun w h => Tk (lc1K (.ok w h)) P) : Tk (lc1K rl) P := Tk.bind q
theorem p_cp3 (q : Tk rl fun w h => Tk (cp3K v (.ok w h)) Pl) : Tk (cp3K v rl) Pl := Tk.bind q
theorem p_cp2 (q : Tk r fun w h => Tk (cp2K gsl gf tf f ev xs (.ok w h)) Pl) : Tk (cp2K gsl gf tf f ev xs r) Pl := by
  obtain ⟨a, h, e, p⟩ := q
  rw [e]
  exact p
/-- a def, by its body -/
theorem p_fn {m k : Nat} (e : vs.length = k) (q : Ts (sf (vs.map some ++ List.replicate (m - k) none) h) fun r => Tk (gcF h.length (endF r)) P) : Tk (fnF m k sf vs h) P := by
  rw [s_fn e]
  exact q
/-- a call without references -/
theorem p_loc0 (e2 : refsOfs vs = []) (q : Tk (F vs []) fun v h' => P (bk (sh0 h.length) v) (h ++ h'.map (mapRO (sh0 h.length)))) : Tk (callL F vs h) P := by
  obtain ⟨a, h', e, p⟩ := q
  refine ⟨_, _, ?_, p⟩
  simp [callL, e2, e, back0]
/-- a call that names one list -/
theorem p_loc1 {k : Nat} (e0 : refsOfs vs = [k]) (e1 : lstAt h k = some xs) (e2 : inRs 0 xs = true) (q : Tk (F (mapRs (fun _ => 0) vs) [.lst xs]) fun v h' => P (bk (sh1 h.length k) v) (ins1 h k h')) : Tk (callL F vs h) P := by
  obtain ⟨a, h', e, p⟩ := q
  refine ⟨_, _, ?_, p⟩
  have e1' := lstAt_some e1
  simp [callL, e0, e1', e2, e, back1]
/-- a loop, by what stands at each turn -/
theorem loop_inv (I : Nat → Ev → AH → Prop) : ∀ (ys : List Va) (j : Nat) (ev : Ev) (h : AH), I j ev h → (∀ k ev h, j ≤ k → k ≤ j + ys.length → I k ev h → gsOk gsl h = true) →
    (∀ k x ev h, ys[k]? = some x → I (j + k) ev h → ∃ ev1, gf x ev = some ev1 ∧ Ts (sf ev1 h) fun r => (∃ ev2 h2, r = .nx ev2 h2 ∧ I (j + k + 1) ev2 h2) ∨ (∃ ev2 h2, r = .ct ev2 h2 ∧ I (j + k + 1) ev2 h2) ∨ (∃ ev2 h2, r = .bk ev2 h2 ∧ Q (.nx ev2 h2)) ∨ (∃ v h2, r = .rt v h2 ∧ Q (.rt v h2))) →
    (∀ ev h, I (j + ys.length) ev h → Q (.nx ev h)) → Ts (loopF gsl gf sf ys ev h) Q := by
  intro ys
  induction ys with
  | nil =>
    intro j ev h hI hg _ hq
    rw [s_lpN (hg j ev h (Nat.le_refl _) (Nat.le_add_right _ _) hI)]
    exact hq ev h hI
  | cons x ys ih =>
    intro j ev h hI hg hs hq
    rw [s_lpC (hg j ev h (Nat.le_refl _) (Nat.le_add_right _ _) hI)]
    obtain ⟨ev1, e1, q⟩ := hs 0 x ev h rfl hI
    rw [e1, k_lp]
    have go : ∀ ev2 h2, I (j + 0 + 1) ev2 h2 → Ts (loopF gsl gf sf ys ev2 h2) Q := fun ev2 h2 hI2 => by
      refine ih (j + 1) ev2 h2 hI2 (fun k ev h h1 h3 => hg k ev h (by omega) (by simp only [List.length_cons]; omega)) (fun k x ev h hk hI3 => ?_) fun ev h hI3 => hq ev h ?_
      · have := hs (k + 1) x ev h (by simpa using hk) (by rw [show j + (k + 1) = j + 1 + k by omega]; exact hI3)
        rw [show j + (k + 1) + 1 = j + 1 + k + 1 by omega] at this
        exact this
      · rw [show j + (x :: ys).length = j + 1 + ys.length by simp only [List.length_cons]; omega]
        exact hI3
    rcases q with ⟨ev2, h2, e, q⟩ | ⟨ev2, h2, e, q⟩ | ⟨ev2, h2, e, q⟩ | ⟨v, h2, e, q⟩
    · rw [e]; exact go ev2 h2 q
    · rw [e]; exact go ev2 h2 q
    · rw [e]; exact q
    · rw [e]; exact q
/-- a comprehension, by what stands at each turn -/
theorem comp_inv (I : Nat → List Va → AH → Prop) : ∀ (ys : List Va) (Pl : List Va → AH → Prop) (j : Nat) (acc : List Va) (h : AH), I j acc h → (∀ k acc h, I k acc h → gsOk gsl h = true) →
    (∀ k x acc h, ys[k]? = some x → I (j + k) acc h → ∃ ev1, gf x ev = some ev1 ∧ Tk (f ev1 h) fun y h2 => I (j + k + 1) (acc ++ [y]) h2) →
    (∀ out h, I (j + ys.length) (acc ++ out) h → out.length = ys.length → Pl out h) → Tk (compF gsl gf tYesF f ev ys h) Pl := by
  intro ys
  induction ys with
  | nil =>
    intro Pl j acc h hI hg _ hq
    rw [s_cpN (hg _ _ _ hI)]
    exact Tk.ok (hq [] h (by simpa using hI) rfl)
  | cons x ys ih =>
    intro Pl j acc h hI hg hs hq
    rw [s_cpC (hg _ _ _ hI)]
    obtain ⟨ev1, e1, q⟩ := hs 0 x acc h rfl hI
    rw [e1, k_cp]
    show Tk (cp1K _ _ _ _ _ _ _ (.ok true h)) _
    rw [k_cpT]
    refine p_cp2 (q.mono fun y h2 hI2 => ?_)
    rw [k_cp2]
    refine p_cp3 (ih _ (j + 1) (acc ++ [y]) h2 hI2 hg (fun k x acc h hk hI3 => ?_) fun out h hI3 hl => Tk.ok (hq (y :: out) h ?_ (by simp [hl])))
    · have := hs (k + 1) x acc h (by simpa using hk) (by rw [show j + (k + 1) = j + 1 + k by omega]; exact hI3)
      rw [show j + (k + 1) + 1 = j + 1 + k + 1 by omega] at this
      exact this
    · rw [show j + (x :: ys).length = j + 1 + ys.length by simp only [List.length_cons]; omega]
      simpa using hI3
end
end FL

set_option Elab.async false
set_option linter.all false
set_option maxRecDepth 100000
/-! FLQ: plain facts of walks. -/
namespace FL
open PySem PySem.Spec PyProof.Rows L2
section
variable {ev ev1 : Ev} {h h1 h2 : AH} {gf : GF} {f : EF} {sf : SF} {gsl : List (Nat × List Va)} {Q : SR → Prop}
theorem comp_map {φ : Va → Va} {e1 : Va → Ev} (hgs : gsOk gsl h = true) : ∀ ys : List Va, (∀ x ∈ ys, gf x ev = some (e1 x) ∧ f (e1 x) h = .ok (φ x) h) → compF gsl gf tYesF f ev ys h = .ok (ys.map φ) h
  | [], _ => s_cpN hgs
  | x :: ys, hq => by
    obtain ⟨g1, g2⟩ := hq x (List.mem_cons_self ..)
    rw [s_cpC hgs, g1, k_cp]
    show cp1K _ _ _ _ _ _ _ (.ok true h) = _
    rw [k_cpT, g2, k_cp2, comp_map hgs ys fun y hy => hq y (List.mem_cons_of_mem _ hy), k_cp3]
    rfl
theorem allB_map {α : Type} {φ : α → Bool} : ∀ ys : List α, allB (ys.map fun x => Va.bl (φ x)) = some (ys.map φ)
  | [] => rfl
  | y :: ys => by simp [allB, allB_map ys]
theorem allI_map {α : Type} {φ : α → Int} : ∀ ys : List α, allI (ys.map fun x => Va.int (φ x)) = some (ys.map φ)
  | [] => rfl
  | y :: ys => by simp [allI, allI_map ys]
theorem intsF_eq : ∀ (n : Nat) (lo : Int), intsF lo n = (List.range n).map fun i => Va.int (lo + (i : Nat))
  | 0, _ => rfl
  | n + 1, lo => by
    rw [List.range_succ_eq_map, List.map_cons, List.map_map, intsF, intsF_eq n]
    congr 1
    · simp
    · apply List.map_congr_left
      intro a _
      simp only [Function.comp]
      congr 1
      push_cast
      omega
theorem lstAt_end {xs : List Va} {h : AH} : lstAt (h ++ [.lst xs]) h.length = some xs := by simp [lstAt]
end
/-! ### systems -/
abbrev tI (xs : List Int) : Va := .tup (xs.map Va.int)
def oI : Option Int → Va
  | some i => .int i
  | none => .non
def tabV (sw : List (List Int)) : Va := .tup (sw.map tI)
def reqV (rq : List (List (Option Int))) : Va := .tup (rq.map fun r => .tup (r.map oI))
def sysV (sw : List (List Int)) (rq : List (List (Option Int))) (st : Int) : Va := .tup [tabV sw, reqV rq, .int st]
theorem inR_map {α : Type} {φ : α → Va} (hφ : ∀ x, inR 0 (φ x) = true) : ∀ ys : List α, inRs 0 (ys.map φ) = true
  | [] => rfl
  | y :: ys => by simp [inRs, hφ y, inR_map hφ ys]
theorem inR_int (i : Int) : inR 0 (.int i) = true := rfl
theorem inR_oI : ∀ i : Option Int, inR 0 (oI i) = true
  | some _ => rfl
  | none => rfl
theorem refs_cons {v : Va} {vs : List Va} (h1 : inR 0 v = true) (h2 : refsOfs vs = []) : refsOfs (v :: vs) = [] := by
  rw [refsOfs, inR_free h1, h2]
  rfl
def at2 (sw : List (List Int)) (i j : Nat) : Int := ((sw[i]?.getD [])[j]?).getD 0
structure TabOk (sw : List (List Int)) (n : Nat) : Prop where
  len : sw.length = n
  n2 : 2 ≤ n
  n10 : n ≤ 10
  row : ∀ r ∈ sw, r.length = n
  diag : ∀ i, i < n → at2 sw i i = 0
  off : ∀ i j, i < n → j < n → i ≠ j → 1 ≤ at2 sw i j ∧ at2 sw i j ≤ 1000
  tri : ∀ i j k, i < n → j < n → k < n → at2 sw i k ≤ at2 sw i j + at2 sw j k
theorem TabOk.get {sw : List (List Int)} {n : Nat} (T : TabOk sw n) {i : Nat} (hi : i < n) : ∃ r, sw[i]? = some r ∧ r.length = n ∧ ∀ j, j < n → r[j]? = some (at2 sw i j) := by
  have hl : i < sw.length := by rw [T.len]; exact hi
  refine ⟨sw[i], List.getElem?_eq_getElem hl, T.row _ (List.getElem_mem hl), fun j hj => ?_⟩
  have hr : sw[i].length = n := T.row _ (List.getElem_mem hl)
  unfold at2
  rw [List.getElem?_eq_getElem hl]
  simp only [Option.getD_some]
  rw [List.getElem?_eq_getElem (by rw [hr]; exact hj)]
  rfl
theorem at_map {α : Type} {φ : α → Va} {xs : List α} {x : α} {i : Nat} (h : xs[i]? = some x) : atI (xs.map φ) ((i : Nat) : Int) = some (φ x) := by
  rw [atIn rfl, List.getElem?_map, h]
  rfl
theorem all_true {α : Type} (xs : List α) : (xs.map fun _ => true).all id = true := by simp
theorem c_rngN {n : Nat} {h : AH} (e : n ≤ 1000000) : srcR [.int (n : Nat)] h = some ⟨intsF 0 n, []⟩ := by
  have : srcR [.int (n : Nat)] h = some ⟨intsF 0 ((n : Nat) : Int).toNat, []⟩ := c_rng (by show -1000000000 ≤ ((n : Nat) : Int); omega) (by show ((n : Nat) : Int) ≤ 1000000000; omega)
  rw [this]
  simp
section
variable {h : AH} {k : Nat} {xs : List Va} {bs : List Bool} {is : List Int}
def alK (h : AH) : Option (List Bool) → Option (Va × AH) := fun o => match o with | some bs => some (.bl (bs.all id), h) | none => none
def anK (h : AH) : Option (List Bool) → Option (Va × AH) := fun o => match o with | some bs => some (.bl (bs.any id), h) | none => none
def suK (h : AH) : Option (List Int) → Option (Va × AH) := fun o => match o with | some bs => some (.int bs.sum, h) | none => none
def bdB : Option (List Va) → Option (List Bool) := fun o => o.bind allB
def bdI : Option (List Va) → Option (List Int) := fun o => o.bind allI
theorem o_all : oAll [.ref k] h = alK h (bdB (lstAt h k)) := rfl
theorem o_any : oAny [.ref k] h = anK h (bdB (lstAt h k)) := rfl
theorem o_sum : oSum2 [.ref k] h = suK h (bdI (lstAt h k)) := rfl
theorem o_sumTT : oSum2 [.tup xs] h = suK h (allI xs) := by
  show (allI xs).map _ = _
  cases allI xs <;> rfl
theorem k_bdB : bdB (some xs) = allB xs := rfl
theorem k_bdI : bdI (some xs) = allI xs := rfl
theorem k_al : alK h (some bs) = some (.bl (bs.all id), h) := rfl
theorem k_an : anK h (some bs) = some (.bl (bs.any id), h) := rfl
theorem k_su : suK h (some is) = some (.int is.sum, h) := rfl
end
theorem gc0 {v : Va} {h : AH} (hv : inR 0 v = true) : gcF 0 (.ok v h) = .ok v [] := by simp [gcF, hv]
section
variable {ev : Ev} {h : AH} {gf : GF} {f : EF} {tf : TF} {sf : SF} {x : Va} {xs : List Va}
theorem s_lpN0 : loopF [] gf sf [] ev h = .nx ev h := s_lpN rfl
theorem s_lpC0 : loopF [] gf sf (x :: xs) ev h = lpK [] gf sf xs h (gf x ev) := s_lpC rfl
theorem s_cpN0 : compF [] gf tf f ev [] h = .ok [] h := s_cpN rfl
theorem s_cpC0 : compF [] gf tf f ev (x :: xs) h = cpK [] gf tf f ev xs h (gf x ev) := s_cpC rfl
end
theorem c_r0 {h : AH} : srcR [.int 0] h = some ⟨[], []⟩ := rfl
theorem c_r1 {h : AH} : srcR [.int 1] h = some ⟨[.int 0], []⟩ := rfl
theorem c_r2 {h : AH} : srcR [.int 2] h = some ⟨[.int 0, .int 1], []⟩ := rfl
theorem c_r3 {h : AH} : srcR [.int 3] h = some ⟨[.int 0, .int 1, .int 2], []⟩ := rfl
theorem c_r4 {h : AH} : srcR [.int 4] h = some ⟨[.int 0, .int 1, .int 2, .int 3], []⟩ := rfl
theorem c_r5 {h : AH} : srcR [.int 5] h = some ⟨[.int 0, .int 1, .int 2, .int 3, .int 4], []⟩ := rfl
theorem c_r6 {h : AH} : srcR [.int 6] h = some ⟨[.int 0, .int 1, .int 2, .int 3, .int 4, .int 5], []⟩ := rfl
theorem c_r7 {h : AH} : srcR [.int 7] h = some ⟨[.int 0, .int 1, .int 2, .int 3, .int 4, .int 5, .int 6], []⟩ := rfl
theorem c_r8 {h : AH} : srcR [.int 8] h = some ⟨[.int 0, .int 1, .int 2, .int 3, .int 4, .int 5, .int 6, .int 7], []⟩ := rfl
theorem c_r9 {h : AH} : srcR [.int 9] h = some ⟨[.int 0, .int 1, .int 2, .int 3, .int 4, .int 5, .int 6, .int 7, .int 8], []⟩ := rfl
theorem c_r10 {h : AH} : srcR [.int 10] h = some ⟨[.int 0, .int 1, .int 2, .int 3, .int 4, .int 5, .int 6, .int 7, .int 8, .int 9], []⟩ := rfl
theorem c_r11 {h : AH} : srcR [.int 11] h = some ⟨[.int 0, .int 1, .int 2, .int 3, .int 4, .int 5, .int 6, .int 7, .int 8, .int 9, .int 10], []⟩ := rfl
theorem c_r12 {h : AH} : srcR [.int 12] h = some ⟨[.int 0, .int 1, .int 2, .int 3, .int 4, .int 5, .int 6, .int 7, .int 8, .int 9, .int 10, .int 11], []⟩ := rfl
/-! ### texts -/
def OkD (e B : Nat) (d : PyData) : Prop := d.showable = true ∧ d.canLay0 = true ∧ d.depth ≤ e ∧ lenB d ≤ B
theorem log2_small {i : Int} (h1 : -1000000000000 ≤ i) (h2 : i ≤ 1000000000000) : i.natAbs.log2 < 64 := PySem.Flt.log2_lt_of (by decide) (by omega)
theorem okd_int {i : Int} (h1 : -1000000000000 ≤ i) (h2 : i ≤ 1000000000000) : OkD 0 70 (.int i) := by
  have := log2_small h1 h2
  exact ⟨decide_eq_true (by omega), rfl, Nat.le_refl _, by show i.natAbs.log2 + 2 ≤ 70; omega⟩
theorem okd_all {e B : Nat} : ∀ xs : List PyData, (∀ x ∈ xs, OkD e B x) → PyData.showableAll xs = true ∧ PyData.canLayAll0 xs = true ∧ PyData.depthAll xs ≤ e ∧ lenBs xs ≤ xs.length * (B + 2)
  | [], _ => ⟨rfl, rfl, Nat.zero_le _, Nat.zero_le _⟩
  | x :: xs, h => by
    obtain ⟨a1, a2, a3, a4⟩ := h x (List.mem_cons_self ..)
    obtain ⟨b1, b2, b3, b4⟩ := okd_all xs fun y hy => h y (List.mem_cons_of_mem _ hy)
    refine ⟨by simp [PyData.showableAll, a1, b1], by simp [PyData.canLayAll0, a2, b2], by simp [PyData.depthAll]; omega, ?_⟩
    simp only [lenBs, List.length_cons]
    rw [Nat.succ_mul]
    omega
theorem okd_tup {e B n : Nat} {xs : List PyData} (h : ∀ x ∈ xs, OkD e B x) (hn : xs.length ≤ n) : OkD (e + 1) (n * (B + 2) + 3) (.tuple xs) := by
  obtain ⟨b1, b2, b3, b4⟩ := okd_all xs h
  refine ⟨b1, b2, Nat.succ_le_succ b3, ?_⟩
  show lenBs xs + 3 ≤ _
  have : xs.length * (B + 2) ≤ n * (B + 2) := Nat.mul_le_mul_right _ hn
  omega
theorem okd_mono {e e' B B' : Nat} {d : PyData} (h : OkD e B d) (h1 : e ≤ e') (h2 : B ≤ B') : OkD e' B' d := ⟨h.1, h.2.1, Nat.le_trans h.2.2.1 h1, Nat.le_trans h.2.2.2 h2⟩
theorem okR_of {e B : Nat} {d : PyData} (h : OkD e B d) (h1 : e ≤ 60) (h2 : B ≤ 16000000) : okR d = true := by
  obtain ⟨a1, a2, a3, a4⟩ := h
  unfold okR
  rw [a1, a2, decide_eq_true (Nat.le_trans a3 h1), decide_eq_true (Nat.le_trans a4 h2)]
  rfl
theorem shaped_of {e B : Nat} {d : PyData} (h : OkD e B d) (h1 : e ≤ 64) : SeqAt.shaped d = true := by
  unfold SeqAt.shaped
  rw [h.2.1, decide_eq_true (Nat.le_trans h.2.2.1 h1)]
  rfl
theorem pys_map {α : Type} {φ : α → Va} {ψ : α → PyData} {h : AH} {n : Nat} : ∀ xs : List α, (∀ x ∈ xs, toPy h n (φ x) = some (ψ x)) → toPysF (toPy h n) (xs.map φ) = some (xs.map ψ)
  | [], _ => by simp [toPysF]
  | x :: xs, hq => by
    rw [List.map_cons, toPysF, hq x (List.mem_cons_self ..), pys_map xs fun y hy => hq y (List.mem_cons_of_mem _ hy)]
    rfl
def pyO : Option Int → PyData
  | some i => .int i
  | none => .none
theorem py_oI {h : AH} {n : Nat} : ∀ c : Option Int, toPy h n (oI c) = some (pyO c)
  | some _ => py_int
  | none => by cases n <;> simp [oI, pyO, toPy]
theorem py_tup {α : Type} {φ : α → Va} {ψ : α → PyData} {h : AH} {n : Nat} {xs : List α} (e : ∀ x ∈ xs, toPy h n (φ x) = some (ψ x)) : toPy h (n + 1) (.tup (xs.map φ)) = some (.tuple (xs.map ψ)) := by
  rw [toPy, pys_map xs e]
  rfl
def pySys (sw : List (List Int)) (rq : List (List (Option Int))) (st : Int) : PyData := .tuple [.tuple (sw.map fun r => .tuple (r.map .int)), .tuple (rq.map fun r => .tuple (r.map pyO)), .int st]
theorem repr_of {v : Va} {d : PyData} {h : AH} (e : toPy h depthL v = some d) (o : okR d = true) : oReprN [v] h = some (.rp d, h) := by
  have hz : isDct0 h v = false := by
    unfold isDct0
    split
    · rename_i l
      split
      · rename_i hl
        rw [show depthL = (depthL - 1) + 1 from rfl, toPy, hl] at e
        cases e
      · rfl
    · rfl
  simp [oReprN, oRepr, hz, e, o]
/-- lists (or tuples) that read alike -/
theorem eqv2_same {p q : Va} {d : PyData} {h : AH} {b : Bool} (e1 : toPy h depthL p = some d) (e2 : toPy h depthL q = some d) (o : SeqAt.shaped d = true) (hp : ∀ x, p ≠ .rp x) : oEqv2 b p q h = some (.bl (!b), h) := by
  have : oEqv2 b p q h = oEqv b p q h := by
    unfold oEqv2
    split
    · rename_i x _; exact absurd rfl (hp x)
    · rfl
  rw [this]
  unfold oEqv
  rw [e1, e2]
  have := SeqAt.eqv_refl d (SeqAt.canLay_of_shaped o)
  simp [o, this]
theorem inR_mono {n : Nat} : ∀ {v : Va}, inR 0 v = true → inR n v = true := by
  have key : ∀ k : Nat, ∀ v : Va, sizeOf v ≤ k → inR 0 v = true → inR n v = true := by
    intro k
    induction k with
    | zero => intro v hv; cases v <;> simp at hv
    | succ k ih =>
      intro v hv h
      have lst : ∀ xs : List Va, sizeOf xs ≤ k → inRs 0 xs = true → inRs n xs = true := by
        intro xs
        induction xs with
        | nil => intros; rfl
        | cons x xs ih2 =>
          intro hs hx
          simp only [inRs, Bool.and_eq_true] at hx ⊢
          simp at hs
          exact ⟨ih x (by omega) hx.1, ih2 (by omega) hx.2⟩
      cases v with
      | ref l => simp [inR] at h
      | tup xs => simp at hv; simp only [inR] at h ⊢; exact lst xs (by omega) h
      | rol xs => simp at hv; simp only [inR] at h ⊢; exact lst xs (by omega) h
      | exn a d f x => simp at hv; simp only [inR] at h ⊢; exact ih x (by omega) h
      | _ => rfl
  exact fun {v} h => key _ v (Nat.le_refl _) h
theorem inRs_mono {n : Nat} : ∀ {xs : List Va}, inRs 0 xs = true → inRs n xs = true
  | [], _ => rfl
  | x :: xs, h => by
    simp only [inRs, Bool.and_eq_true] at h ⊢
    exact ⟨inR_mono h.1, inRs_mono h.2⟩
theorem gc1 {v : Va} {ys : List Va} {r : AH} (hv : inR 0 v = true) (hy : inRs 0 ys = true) : gcF 1 (.ok v (.lst ys :: r)) = .ok v [.lst ys] := by
  simp [gcF, inR_mono hv, inRO, inRs_mono hy]
end FL

set_option Elab.async false
set_option linter.all false
set_option maxRecDepth 100000
/-! FLR: a sequence backwards. -/
namespace FL
open PySem PySem.Spec PyProof PyProof.Rows L2
variable [Tabz]
section
variable {prog : Program} {w : World} {A : Around} {E : Value → Shared → Prop} {s : Shared}
theorem sliceApplied_rev {sl : Addr} {vl vu vs : Value} {n : Nat} {Q : Int × Int × Nat → Shared → Prop} (hs : s.heap.IsSliceOf sl vl vu vs) (pl : IsPart vl none) (pu : IsPart vu none) (ps : IsPart vs (some (-1)))
    (h : Q ((n : Int) - 1, -1, n) s) : wpAny (model prog w) A (Builtin.Slice.sliceApplied (.ref sl) (pure (n : Int))) Q E s := by
  obtain ⟨os, hos, hcs, hds⟩ := id hs
  unfold Builtin.Slice.sliceApplied Builtin.Slice.sliceFields
  refine wpAny_bind (wpAny_bind (wpAny_field hos hds (x := vl) rfl (wpAny_bind (wpAny_field hos hds (x := vu) rfl (wpAny_bind (wpAny_field hos hds (x := vs) rfl (wpAny_pure ?_)))))))
  refine wpAny_bind (HT.slicePart_ ps ?_)
  show wpAny _ _ (if ((-1 : Int) == 0) = true then _ else _) _ _ s
  rw [if_neg (by decide)]
  refine wpAny_bind (HT.slicePart_ pl (wpAny_bind (HT.slicePart_ pu (wpAny_bind (wpAny_pure ?_)))))
  show wpAny _ _ (match Builtin.Slice.sliceAdjust none none (-1) (n : Int) with | (lo, hi) => pure (lo, (-1 : Int), Builtin.Slice.slicePlaces lo hi (-1))) _ _ s
  rw [show Builtin.Slice.sliceAdjust none none (-1) (n : Int) = ((n : Int) - 1, -1) from rfl]
  show wpAny _ _ (pure ((n : Int) - 1, (-1 : Int), Builtin.Slice.slicePlaces ((n : Int) - 1) (-1) (-1))) _ _ s
  rw [show Builtin.Slice.slicePlaces ((n : Int) - 1) (-1) (-1) = n by
    unfold Builtin.Slice.slicePlaces
    have h1 : ¬ ((-1 : Int) > 0) := by omega
    simp only [h1, if_false]
    split <;> simp <;> omega]
  exact wpAny_pure h
theorem pick_rev (xs : Array Value) : ((List.range xs.size).filterMap fun (m : Nat) => xs[(((xs.size : Int) - 1) + (m : Int) * (-1)).toNat]?).toArray = xs.toList.reverse.toArray := by
  have e : (fun (m : Nat) => xs[(((xs.size : Int) - 1) + (m : Int) * (-1)).toNat]?) = (fun x => xs[x]?) ∘ fun m => xs.size - 1 - m := by
    funext m
    have : (((xs.size : Int) - 1) + (m : Int) * (-1)).toNat = xs.size - 1 - m := by omega
    rw [this]
    rfl
  rw [e, ← List.filterMap_map, PySem.W.krv_range, List.filterMap_reverse, PySem.W.krv_all]
theorem getItem_tuple_rev {t sl : Addr} {items : Array Value} {vl vu vs : Value} {Q : Value → Shared → Prop} (ht : IsTup s.heap t items) (hs : s.heap.IsSliceOf sl vl vu vs) (pl : IsPart vl none) (pu : IsPart vu none) (ps : IsPart vs (some (-1)))
    (h : Q (.ref s.heap.objs.size) { s with heap := s.heap.push { cls := .type "tuple", data := .seq items.toList.reverse.toArray } })
    (hsz : items.size ≤ sizeLine) : wpAny (model prog w) A (getItem (.ref t) (.ref sl)) Q E s := by
  have htake : sizeOk (.seq items.toList.reverse.toArray) := by
    show items.toList.reverse.toArray.size ≤ sizeLine
    rw [List.size_toArray, List.length_reverse, Array.length_toList]
    exact hsz
  obtain ⟨os, hos, hcs, hds⟩ := id hs
  have hTs : s.TypeIs (.ref sl) "slice" := ⟨os, hos, hcs⟩
  unfold getItem
  try with_reducible refine wpAny_holding ?_
  first | refine wpAny_bind (wpAny_pure ?_) | skip
  refine wpAny_bind (wpAny_sequenceKey ht.typeIs (by decide) ?_)
  refine wpAny_bind (wpAny_callSpecial?_slot (name := Str.ofString "__getitem__") ht.typeIs PyProof.Rows.slot_tuple_getitem
    (wpAny_call_entry PyProof.Rows.slot_tuple_getitem ht.typeIs entry_tuple_getitem ?_ (args_tuple_getitem _ _)))
  show wpAny _ _ (Builtin.Tuple.tupleItemsOf (.ref t) >>= _) _ _ s
  refine wpAny_bind (tupleItemsOf_ ht ?_)
  refine wpAny_bind (wpAny_typeOf hTs ?_)
  rw [if_pos (by decide)]
  refine wpAny_bind (sliceApplied_rev (n := items.size) hs pl pu ps ?_)
  have hno : ¬ ((((items.size : Int) - 1) == 0 && (-1 : Int) == 1 && items.size == items.size) = true) := by
    intro q
    rw [Bool.and_eq_true, Bool.and_eq_true] at q
    have := eq_of_beq q.1.2
    omega
  show wpAny _ _ (if (((items.size : Int) - 1) == 0 && (-1 : Int) == 1 && items.size == items.size) = true then _ else _) _ _ s
  rw [if_neg hno, pick_rev]
  first
    | exact wpAny_bind (m := Builtin.Tuple.tupleExact _) (wpAny_newObj_type (wpAny_pure ⟨_, rfl, wpAny_pure h⟩) htake)
    | exact wpAny_bind (m := Builtin.Tuple.tupleExact _) (wpAny_newObj_type (wpAny_bind (wpAny_pure (wpAny_pure ⟨_, rfl, wpAny_pure h⟩))) htake)
    | exact wpAny_bind (wpAny_bind (m := Builtin.Tuple.tupleExact _) (wpAny_newObj_type (wpAny_pure (wpAny_pure ⟨_, rfl, wpAny_pure h⟩)) htake))
    | exact wpAny_bind (wpAny_bind (m := Builtin.Tuple.tupleExact _) (wpAny_newObj_type (wpAny_pure ⟨_, rfl, wpAny_pure h⟩) htake))
end

theorem VRs.rev {K : PySem.W.Frag} {H : Hp} {m : List Addr} : ∀ {xs : List Va} {vs : List V}, VRs K H m xs vs → VRs K H m xs.reverse vs.reverse
  | _, _, .nil => .nil
  | _, _, .cons h hs => by
    rw [List.reverse_cons, List.reverse_cons]
    exact hs.rev.append (.cons h .nil)
/-- a sequence backwards -/
def oRev (p : Va) (h : AH) : Option (Va × AH) := match p with
  | .tup xs => some (.tup xs.reverse, h)
  | p => match lstOf h p with
    | some xs => some (.ref h.length, h ++ [.lst xs.reverse])
    | none => none
def rRev (K : PySem.W.Frag) : V → Hp → VK → Prop := fun x H Q => (∃ a xs, x = .ref a ∧ SqL K H a xs ∧ ∀ p, H p = none → Q (.ref p) (upd H p (.lst xs.reverse))) ∨ (∃ a xs, x = .ref a ∧ SqT K H a xs ∧ ∀ p, H p = none → Q (.ref p) (upd H p (.tup xs.reverse)))
section
variable {X : Cx} {W : WX} {a : Expr} {f : EF} {pos : Pos}
theorem pe_rev {e : Expr} {te : TE} {k : Nat} {p1 p2 p3 pos : Pos} (he : PE X e te) : PE X (.Subscript e (.Slice none none (some (.UnaryOp .USub (.Constant (.int 1) k p1) p2)) p3) pos) (fun σ H Q => te σ H fun x H1 => rRev X.K x H1 Q) := by
  refine ⟨fun pins s σ H Q I h => ?_⟩
  refine Subscript_ (thn (he.run pins s σ H _ I h) fun v s1 ⟨x, H1, I1, r1, q1⟩ => ?_)
  have hst : PO X (some (.UnaryOp .USub (.Constant (.int 1) k p1) p2)) (tPart (tUn (rU fun i => .int (-i)) (tC (.int 1)))) := po_some (pe_un un_neg pe_int)
  refine wpAny_Slice (thn (po_none.run pins s1 σ H1 (fun o H2 => o = none ∧ H2 = H1) I1 ⟨rfl, rfl⟩) fun vl s2 ⟨l, H2, I2, pl, el, e2⟩ => ?_)
  subst el e2
  refine thn (po_none.run pins s2 σ H2 (fun o H3 => o = none ∧ H3 = H2) I2 ⟨rfl, rfl⟩) fun vu s3 ⟨u, H3, I3, pu, eu, e3⟩ => ?_
  subst eu e3
  refine thn (hst.run pins s3 σ H3 (fun o H4 => o = some (-1) ∧ H4 = H3) I3 ⟨1, rfl, -1, rfl, rfl, rfl⟩) fun vs s4 ⟨o, H4, I4, ps, eo, e4⟩ => ?_
  subst eo e4
  have I5 : Inv X pins σ H4 { s4 with heap := s4.heap.push { cls := .type "slice", data := .fields #[vl, vu, vs] } } := I4.kept (t' := s4.toks) fun b ob q => Heap.get?_push_of_some _ q
  rcases q1 with ⟨a, xs, ex, hx, q⟩ | ⟨a, xs, ex, hx, q⟩
  · subst ex
    cases r1
    obtain ⟨its, r, ht, hz⟩ := I5.list hx
    have hlen := r.length
    show wpAny (model X.prog X.w) X.A (subscriptTail e (.Slice none none (some (.UnaryOp .USub (.Constant (.int 1) k p1) p2)) p3) (.ref a) (.ref s4.heap.objs.size)) (EP X pins σ Q) X.xe { s4 with heap := s4.heap.push { cls := .type "slice", data := .fields #[vl, vu, vs] } }
    refine tail_any (ops := [.ref a, .ref s4.heap.objs.size]) ht.isList.typeIs (PySem.slot_list_getitem.lookup) ?_ (by with_unfolding_all rfl)
    refine wpAny_getItem_list_slice ht.isList (Heap.IsSliceOf.new _ vl vu vs) pl pu ps (by decide) ?_ (by rw [List.size_toArray]; omega)
    rw [PySem.W.krv_pick]
    refine ⟨.ref _, _, I5.laid (t' := s4.toks) (o := .lst xs.reverse) (fun b ob q => Heap.get?_push_of_some _ q) (Nat.le_refl _) ?_, rfl, q _ (I5.hok.fresh (Nat.le_refl _))⟩
    exact ⟨by rw [List.length_reverse]; exact hz, _, 0, r.reverse, Heap.get?_push_size _ rfl⟩
  · subst ex
    cases r1
    obtain ⟨its, r, ht, hz⟩ := I5.tuple hx
    have hlen := r.length
    show wpAny (model X.prog X.w) X.A (subscriptTail e (.Slice none none (some (.UnaryOp .USub (.Constant (.int 1) k p1) p2)) p3) (.ref a) (.ref s4.heap.objs.size)) (EP X pins σ Q) X.xe { s4 with heap := s4.heap.push { cls := .type "slice", data := .fields #[vl, vu, vs] } }
    refine tail_any (ops := [.ref a, .ref s4.heap.objs.size]) ht.typeIs (PyProof.Rows.slot_tuple_getitem.lookup) ?_ (by with_unfolding_all rfl)
    refine getItem_tuple_rev ht (Heap.IsSliceOf.new _ vl vu vs) pl pu ps ?_ (by rw [List.size_toArray]; omega)
    refine ⟨.ref _, _, I5.laid (t' := s4.toks) (o := .tup xs.reverse) (fun b ob q => Heap.get?_push_of_some _ q) (Nat.le_refl _) ?_, rfl, q _ (I5.hok.fresh (Nat.le_refl _))⟩
    exact ⟨by rw [List.length_reverse]; exact hz, _, r.reverse, IsTup.new _ _⟩
def eRev (f : EF) : EF := fun ev h => (f ev h).bind fun v h1 => ofO (oRev v h1)
theorem me_rev {k : Nat} {p1 p2 p3 : Pos} (ha : ME X W a f) : ME X W (.Subscript a (.Slice none none (some (.UnaryOp .USub (.Constant (.int 1) k p1) p2)) p3) pos) (eRev f) := ⟨pe_imp (pe_rev ha.pe) fun σ H Q q => by
  obtain ⟨m, ah, ev, r, re, q⟩ := Wi.bind (R := VR X.K) q
  refine ⟨m, ah, ev, r, re, ?_⟩
  cases ef : f ev ah with
  | exc c p a => rw [ef] at q; exact q
  | bad => rw [ef] at q; exact q
  | ok v a =>
    rw [ef] at q
    intro m1 H1 x e1 r1 rx
    obtain ⟨m2, ah2, ev2, v2, r2, re2, rv2, q2⟩ := q m1 H1 x e1 r1 rx
    cases eo : oRev v2 ah2 with
    | none => rw [eo] at q2; exact q2.elim
    | some w =>
      obtain ⟨w, ahw⟩ := w
      rw [eo] at q2
      unfold oRev at eo
      split at eo
      · cases eo
        cases rv2 with
        | @tup _ a vs ha hv =>
          refine .inr ⟨a, vs, rfl, ha, fun p hp => ?_⟩
          have e1 : Ext m2 H1 m2 (upd H1 p (.tup vs.reverse)) := ext_new r2 hp
          exact q2 m2 _ _ e1 (hr_new r2 hp) (.tup (SqT.of upd_same) (hv.rev.ext r2 e1))
      · cases hq : lstOf ah2 v2 with
        | none => rw [hq] at eo; cases eo
        | some xs =>
          rw [hq] at eo
          cases eo
          obtain ⟨a, vs, rfl, hv, hsq⟩ := lstOf_ok r2 rv2 hq
          refine .inl ⟨a, vs, rfl, hsq, fun p hp => q2 (m2 ++ [p]) _ _ (ext_lay r2 hp) (hr_lay r2 hp hv.rev) (.ref ?_)⟩
          rw [← r2.len]; simp⟩
end
/-! evaluation -/
section
variable {f : EF} {ev : Ev} {h : AH} {v : Va} {xs : List Va} {P : Va → AH → Prop} {r : Rs Va}
def revK (r : Rs Va) : Rs Va := r.bind fun v h1 => ofO (oRev v h1)
theorem s_rev : eRev f ev h = revK (f ev h) := rfl
theorem k_rev : revK (.ok v h) = ofO (oRev v h) := rfl
theorem o_revT : oRev (.tup xs) h = some (.tup xs.reverse, h) := rfl
end
end FL

set_option Elab.async false
set_option linter.all false
set_option maxRecDepth 100000
/-! FLU: the empty dict display. -/
namespace FL
open PySem PySem.Spec PyProof.Rows L2
variable [Tabz]
section
variable {K : PySem.W.Frag} {H : Hp} {m : List Addr} {ah : AH}
theorem hr_layD {p : Addr} (r : HR K H m ah) (hp : H p = none) : HR K (upd H p (.dK [])) (m ++ [p]) (ah ++ [.dct []]) := by
  have e : Ext m H (m ++ [p]) (upd H p (.dK [])) := ext_lay r hp
  refine ⟨by simp [r.len], ?_, fun l a o h1 h2 => ?_, tabs_new r.tb hp⟩
  · rw [List.nodup_append]
    refine ⟨r.nd, by simp, fun a ha b hb z => ?_⟩
    rw [List.mem_singleton.mp hb] at z
    exact r.notnone hp (z ▸ ha)
  · by_cases hl : l < m.length
    · rw [List.getElem?_append_left hl] at h1
      rw [List.getElem?_append_left (by rw [← r.len]; exact hl)] at h2
      exact (r.at_ l a o h1 h2).ext r e (upd_ne fun z => r.notnone hp (z ▸ List.mem_of_getElem? h1))
    · have hb := (List.getElem?_eq_some_iff.mp h1).1
      have hl2 : l = m.length := by simp at hb; omega
      subst hl2
      rw [List.getElem?_append_right (Nat.le_refl _)] at h1
      rw [List.getElem?_append_right (by rw [← r.len]; exact Nat.le_refl _), ← r.len] at h2
      simp at h1 h2
      subst h1 h2
      exact ⟨[], upd_same, .nil⟩
end
def eD0 : EF := fun _ h => .ok (.ref h.length) (h ++ [.dct []])
section
variable {X : Cx} {W : WX} {pos : Pos}
theorem me_d0 : ME X W (.Dict [] [] pos) eD0 := ⟨pe_imp pe_dnewK fun σ H Q ⟨m, ah, ev, r, re, q⟩ => by
  intro p hp
  refine q (m ++ [p]) _ _ (ext_lay r hp) (hr_layD r hp) (.ref ?_)
  rw [← r.len]; simp⟩
end
section
variable {ev : Ev} {h : AH}
theorem s_d0 : eD0 ev h = .ok (.ref h.length) (h ++ [.dct []]) := rfl
end
end FL

set_option Elab.async false
set_option linter.all false
set_option maxRecDepth 100000
/-! FLV: range(i, j, -1); min of a list of data (tuples). -/
namespace FL
open PySem PySem.Spec PyProof.Rows L2
variable [Tabz]
/-! ### range(i, j, -1) -/
def downF (i : Int) (n : Nat) : List Va := (List.range n).map fun k : Nat => Va.int (i + (k : Nat) * (-1))
def srcR3 : List Va → AH → Option Src := fun vs _ => match vs with
  | [.int i, .int j, .int c] => if decide (c = -1) && decide (-rngL ≤ i) && decide (i ≤ rngL) && decide (-rngL ≤ j) && decide (j ≤ rngL) then some ⟨downF i (i - j).toNat, []⟩ else none
  | _ => none
section
variable {X : Cx} {W : WX} {tg e e2 e3 : Expr} {ta : AF} {p pos : Pos}
end
/-! ### min of a list of data -/
section
open PySem.W
def isNoneP : PyData → Bool
  | .none => true
  | _ => false
def alikeB (ds : List PyData) : Bool := (ds.all fun x => ds.all fun y => alike x y) && ds.all fun x => !isNoneP x
/-- the place of the first of the least -/
def firstLe (ds : List PyData) : Nat := argBest (fun i j => dataLt (ds.getD i .none) (ds.getD j .none)) (ds.length - 1)
def oMinD : OpN := fun ps h => match ps with
  | [.ref k] => match lstAt h k with
    | some xs => (match toPysF (toPy h 11) xs with
      | some ds => if alikeB ds && SeqAt.shaped (.list ds) && decide (0 < ds.length) then (xs[firstLe ds]?).map fun v => (v, h) else none
      | none => none)
    | none => none
  | _ => none
def rMinD (K : PySem.W.Frag) : List V → Hp → VK → Prop := fun vs H Q => ∃ (a : Addr) (xs : List V) (ds : List PyData) (v : V), vs = [V.ref a] ∧ SqL K H a xs ∧ DpAll K H xs ds ∧ AlikeAll ds ∧ SeqAt.shaped (.list ds) = true ∧ 0 < ds.length ∧ xs[firstLe ds]? = some v ∧ Q v H
end
end FL

set_option Elab.async false
set_option linter.all false
set_option maxRecDepth 100000
/-! FLW: comprehensions of two clauses. -/
namespace FL
open PySem PySem.Spec PyProof.Rows L2
variable [Tabz]
def comp2F (gs : List (Nat × List Va)) (g : GF) (t : TF) (i1 : IF) (g1 : GF) (t1 : TF) (el : EF) (vs1 : List Nat) (ev0 : Ev) : List Va → AH → Rs (List Va)
  | [], h => if gsOk gs h then .ok [] h else .bad
  | x :: xs, h => if gsOk gs h then match g x ev0 with
      | none => .bad
      | some ev1 => match t ev1 h with
        | .ok true h2 => (match i1 ev1 h2 with
          | .ok s1 h3 => if s1.items.length ≤ 900 then (match compF s1.gs g1 t1 el (ewipe ev1 vs1) s1.items h3 with
              | .ok ys h4 => (comp2F gs g t i1 g1 t1 el vs1 ev0 xs h4).bind fun zs h5 => .ok (ys ++ zs) h5
              | _ => .bad) else .bad
          | _ => .bad)
        | .ok false h2 => comp2F gs g t i1 g1 t1 el vs1 ev0 xs h2
        | _ => .bad
    else .bad
def lc2F (g : GF) (t : TF) (i1 : IF) (g1 : GF) (t1 : TF) (el : EF) (vs vs1 : List Nat) (ev : Ev) : Src → AH → Rs Va := fun s h1 =>
  if s.items.length ≤ 1000 then (comp2F s.gs g t i1 g1 t1 el vs1 (ewipe ev vs) s.items h1).bind fun ys h2 => .ok (.ref h2.length) (h2 ++ [.lst ys]) else .bad
def eLc2 (i : IF) (g : GF) (t : TF) (i1 : IF) (g1 : GF) (t1 : TF) (el : EF) (vs vs1 : List Nat) : EF := fun ev h => (i ev h).bind (lc2F g t i1 g1 t1 el vs vs1 ev)
section
variable {X : Cx} {W : WX} {tg iter tg1 iter1 elt : Expr} {ifs ifs1 : List Expr} {scope : Scope} {own : List (Str × Nat)} {pos : Pos} {vs vs1 : List Nat} {fi fi1 : IF} {g g1 : GF} {t t1 : TF} {el : EF}
theorem mg_more {X : Cx} {tg : Expr} {vs vs' : List Nat} {g : GF} (h : MG X tg vs g) (hs : ∀ j ∈ vs, j ∈ vs') : MG X tg vs' g := ⟨pg_imp h.pg fun v σ H Q ⟨m, p, ev, ev', r1, r2, e, q⟩ => ⟨m, p, ev, ev', r1, r2, e, fun σ' a b c => q σ' a (fun j hj => b j fun z => hj (hs j z)) c⟩⟩
theorem lc2_wi {σ : L2.St} {H : Hp} {Q : V → Hp → Prop} (q : Wi X.K X.mg (VR X.K) W (eLc2 fi g t fi1 g1 t1 el (own.map (·.2)) vs1) σ H Q) :
    tLc2 (WiI X.K X.mg W fi) (WiG X.K (own.map (·.2)) g) (Wi X.K X.mg RB WN t) (WiI X.K X.mg WN fi1) (WiG X.K vs1 g1) (Wi X.K X.mg RB WN t1) (Wi X.K X.mg (VR X.K) WN el) (own.map (·.2)) vs1 σ H Q := by
  obtain ⟨m, ah, ev, r, re, q⟩ := q
  refine ⟨m, ah, ev, r, re, ?_⟩
  unfold eLc2 at q
  cases eg : fi ev ah with
  | exc c p a => rw [eg] at q; exact q
  | bad => rw [eg] at q; exact q
  | ok s a =>
    rw [eg] at q
    simp only [Rs.bind_ok] at q
    unfold lc2F at q
    split at q
    case isFalse => exact q.elim
    rename_i hlim
    intro m1 H1 J e1 r1 hJ D hD
    have hDm : D ∉ m1 := r1.notnone hD
    generalize hev0 : ewipe ev (own.map (·.2)) = ev0 at q
    have e0 : Ext m1 H1 m1 (upd H1 D (.lst [])) := ext_new r1 hD
    have re0 : ER X.K (upd H1 D (.lst [])) m1 ev0 (wipe σ (own.map (·.2))) := by
      rw [← hev0]
      exact ((re.ext r e1).ext r1 e0).wipe _
    have hsz : (900 : Nat) * 1000 + 1000 ≤ sizeLine := by rw [sizeLine_eq]; omega
    refine ⟨fun i k H2 => ∃ m2 ah2 acc vacc, ExtD D m1 H1 m2 H2 ∧ HR X.K H2 m2 ah2 ∧ ER X.K H2 m2 ev0 (wipe σ (own.map (·.2))) ∧ VRs X.K H2 m2 acc vacc ∧ H2 D = some (.lst vacc) ∧ D ∉ m2 ∧ acc.length ≤ i * 900 ∧ k = s.items.length - i ∧ i ≤ s.items.length ∧
      Post X.K X.mg (VR X.K) m H (fun cls d H' => W cls d σ H') ((comp2F s.gs g t fi1 g1 t1 el vs1 ev0 (s.items.drop i) ah2).bind fun ys h2 => .ok (.ref h2.length) (h2 ++ [.lst (acc ++ ys)])) (fun w H' => Q w H'), ?_, ?_⟩
    · refine ⟨_, m1, a, [], [], ExtD.start, hr_new r1 hD, re0, .nil, upd_same, hDm, Nat.zero_le _, rfl, Nat.zero_le _, ?_⟩
      simpa using q
    rintro i k H2 ⟨m2, ah2, acc, vacc, e2, r2, re2, rv2, hD2, hn2, hle2, rfl, hi2, q2⟩
    have eJ : ExtW m1 H1 m2 H2 := ⟨e2.pre, fun b o h h1 h2 _ _ _ => e2.keep b o (fun z => by rw [z, hD] at h; cases h) h (r1.notin h h1 h2)⟩
    cases hi : s.items.drop i with
    | nil =>
      rw [hi] at q2
      unfold comp2F at q2
      split at q2
      · rename_i hgs
        have hlen : i = s.items.length := by
          have := List.drop_eq_nil_iff.mp hi
          omega
        subst hlen
        refine .inl ⟨(hJ m2 H2 _ eJ r2 hgs).2, ?_⟩
        simp only [Rs.bind_ok, List.append_nil] at q2
        exact q2 (m2 ++ [D]) H2 (.ref D) (e1.trans (e2.done hD)) (r2.take_in hn2 hD2 rv2) (.ref (by rw [← r2.len]; simp))
      · exact q2.elim
    | cons x xs =>
      rw [hi] at q2
      unfold comp2F at q2
      split at q2
      case isFalse => exact q2.elim
      rename_i hgs
      have hlt : i < s.items.length := by
        rcases Nat.lt_or_ge i s.items.length with z | z
        · exact z
        · rw [List.drop_eq_nil_of_le z] at hi; cases hi
      have hx : s.items[i]? = some x := by
        have := List.getElem?_drop (xs := s.items) (i := i) (j := 0)
        rw [hi] at this
        simpa using this.symm
      have hxs : s.items.drop (i + 1) = xs := by
        rw [← List.tail_drop, hi]; rfl
      obtain ⟨hgo, hy⟩ := (hJ m2 H2 _ eJ r2 hgs).1 i x hx
      refine .inr ⟨hgo, fun H' => ∃ m' ah' acc' vacc', ExtD D m1 H1 m' H' ∧ HR X.K H' m' ah' ∧ ER X.K H' m' ev0 (wipe σ (own.map (·.2))) ∧ VRs X.K H' m' acc' vacc' ∧ H' D = some (.lst vacc') ∧ D ∉ m' ∧ acc'.length ≤ (i + 1) * 900 ∧
        Post X.K X.mg (VR X.K) m H (fun cls d H' => W cls d σ H') ((comp2F s.gs g t fi1 g1 t1 el vs1 ev0 xs ah').bind fun ys h2 => .ok (.ref h2.length) (h2 ++ [.lst (acc' ++ ys)])) (fun w H' => Q w H'), ?_, ?_⟩
      · rintro H' ⟨m', ah', acc', vacc', e3, r3, re3, rv3, hD3, hn3, hle3, q3⟩
        exact ⟨_, by omega, m', ah', acc', vacc', e3, r3, re3, rv3, hD3, hn3, hle3, rfl, by omega, by rw [hxs]; exact q3⟩
      · intro y H3 hyl
        obtain ⟨e3, r3, ry⟩ := hy y H3 hyl
        have hD3 := e3.keep D _ hD2 hn2
        have re3 := re2.ext r2 e3
        have rv3 := rv2.ext r2 e3
        cases hg' : g x ev0 with
        | none => simp only [hg'] at q2; exact q2.elim
        | some ev1 =>
        simp only [hg'] at q2
        refine ⟨m2, x, ev0, ev1, re3, ry, hg', fun σ' re' hu hul => ⟨wipe_of (by rw [hul, wipe_length]) hu, m2, ah2, ev1, r3, re', ?_⟩⟩
        cases ht' : t ev1 ah2 with
        | exc c p h2 => simp only [ht'] at q2; exact q2.elim
        | bad => simp only [ht'] at q2; exact q2.elim
        | ok b h2 =>
        intro m4 H4 b' e4 r4 hb'
        cases hb'
        have hD4 := e4.keep D _ hD3 hn2
        have hn4 : D ∉ m4 := fun z => by
          rcases e4.new D z hn2 with this | ⟨_, this⟩ <;> (rw [hD3] at this; cases this)
        have eD3 : ExtD D m1 H1 m2 H3 := e2.then e3 ⟨_, hD2⟩ hn2
        have eD4 : ExtD D m1 H1 m4 H4 := eD3.then e4 ⟨_, hD3⟩ hn2
        cases b with
        | false =>
          simp only [ht'] at q2
          show _
          exact ⟨m4, h2, acc, vacc, eD4, r4, re3.ext r3 e4, rv3.ext r3 e4, hD4, hn4, by omega, q2⟩
        | true =>
          simp only [ht'] at q2
          show WiI _ _ _ _ _ _ _
          refine ⟨m4, h2, ev1, r4, re'.ext r3 e4, ?_⟩
          cases hf1 : fi1 ev1 h2 with
          | exc c p h3 => simp only [hf1] at q2; exact q2.elim
          | bad => simp only [hf1] at q2; exact q2.elim
          | ok s1 h3 =>
            simp only [hf1] at q2
            split at q2
            case isFalse => exact q2.elim
            rename_i hl1
            cases hcf : compF s1.gs g1 t1 el (ewipe ev1 vs1) s1.items h3 with
            | exc c p h4 => simp only [hcf] at q2; exact q2.elim
            | bad => simp only [hcf] at q2; exact q2.elim
            | ok ys h4 =>
            simp only [hcf] at q2
            intro m5 H5 J1 e5 r5 hJ1
            have hD5 := e5.keep D _ hD4 hn4
            have hn5 : D ∉ m5 := fun z => by
              rcases e5.new D z hn4 with this | ⟨_, this⟩ <;> (rw [hD4] at this; cases this)
            have eD5 : ExtD D m1 H1 m5 H5 := eD4.then e5 ⟨_, hD4⟩ hn4
            have re5o := (re3.ext r3 e4).ext r4 e5
            have rv5 := (rv3.ext r3 e4).ext r4 e5
            have re5 : ER X.K H5 m5 (ewipe ev1 vs1) (wipe σ' vs1) := ((re'.ext r3 e4).ext r4 e5).wipe _
            generalize hev1 : ewipe ev1 vs1 = ev2 at hcf re5
            refine ⟨fun j k1 H6 => ∃ m6 ah6 acc6 vacc6 yr, ExtD D m1 H1 m6 H6 ∧ ExtW m5 H5 m6 H6 ∧ HR X.K H6 m6 ah6 ∧ ER X.K H6 m6 ev0 (wipe σ (own.map (·.2))) ∧ ER X.K H6 m6 ev2 (wipe σ' vs1) ∧ VRs X.K H6 m6 acc6 vacc6 ∧ H6 D = some (.lst vacc6) ∧ D ∉ m6 ∧ acc6.length ≤ i * 900 + j ∧ k1 = s1.items.length - j ∧ j ≤ s1.items.length ∧
              compF s1.gs g1 t1 el ev2 (s1.items.drop j) ah6 = .ok yr h4 ∧ acc6 ++ yr = acc ++ ys, ?_, ?_⟩
            · exact ⟨_, m5, h3, acc, vacc, ys, eD5, ⟨⟨[], by simp⟩, fun b o h _ _ _ _ _ => h⟩, r5, re5o, re5, rv5, hD5, hn5, by omega, rfl, Nat.zero_le _, hcf, rfl⟩
            rintro j k1 H6 ⟨m6, ah6, acc6, vacc6, yr, e6, w6, r6, re6o, re6, rv6, hD6, hn6, hle6, rfl, hj6, c6, a6⟩
            cases hi1 : s1.items.drop j with
            | nil =>
              rw [hi1] at c6
              unfold compF at c6
              split at c6
              · rename_i hgs1
                cases c6
                have hlen : j = s1.items.length := by
                  have := List.drop_eq_nil_iff.mp hi1
                  omega
                subst hlen
                refine .inl ⟨(hJ1 m6 H6 _ w6 r6 hgs1).2, ?_⟩
                rw [List.append_nil] at a6
                refine ⟨m6, h4, acc6, vacc6, e6, r6, re6o, rv6, hD6, hn6, by omega, ?_⟩
                rw [a6]
                have e9 : ((comp2F s.gs g t fi1 g1 t1 el vs1 ev0 xs h4).bind fun zs h2 => Rs.ok (Va.ref h2.length) (h2 ++ [.lst (acc ++ ys ++ zs)])) = (((comp2F s.gs g t fi1 g1 t1 el vs1 ev0 xs h4).bind fun zs h5 => .ok (ys ++ zs) h5).bind fun zs h2 => .ok (Va.ref h2.length) (h2 ++ [.lst (acc ++ zs)])) := by
                  cases comp2F s.gs g t fi1 g1 t1 el vs1 ev0 xs h4 with
                  | ok zs h5 => simp [Rs.bind_ok]
                  | exc c p h5 => rfl
                  | bad => rfl
                rw [e9]
                exact q2
              · cases c6
            | cons x1 xs1 =>
              rw [hi1] at c6
              unfold compF at c6
              split at c6
              case isFalse => cases c6
              rename_i hgs1
              have hlt1 : j < s1.items.length := by
                rcases Nat.lt_or_ge j s1.items.length with z | z
                · exact z
                · rw [List.drop_eq_nil_of_le z] at hi1; cases hi1
              have hx1 : s1.items[j]? = some x1 := by
                have := List.getElem?_drop (xs := s1.items) (i := j) (j := 0)
                rw [hi1] at this
                simpa using this.symm
              have hxs1 : s1.items.drop (j + 1) = xs1 := by
                rw [← List.tail_drop, hi1]; rfl
              obtain ⟨hgo1, hy1⟩ := (hJ1 m6 H6 _ w6 r6 hgs1).1 j x1 hx1
              refine .inr ⟨hgo1, fun H' => ∃ m' ah' acc' vacc' yr', ExtD D m1 H1 m' H' ∧ ExtW m5 H5 m' H' ∧ HR X.K H' m' ah' ∧ ER X.K H' m' ev0 (wipe σ (own.map (·.2))) ∧ ER X.K H' m' ev2 (wipe σ' vs1) ∧ VRs X.K H' m' acc' vacc' ∧ H' D = some (.lst vacc') ∧ D ∉ m' ∧ acc'.length ≤ i * 900 + (j + 1) ∧
                compF s1.gs g1 t1 el ev2 xs1 ah' = .ok yr' h4 ∧ acc' ++ yr' = acc ++ ys, ?_, ?_⟩
              · rintro H' ⟨m', ah', acc', vacc', yr', e7, w7, r7, re7o, re7, rv7, hD7, hn7, hle7, c7, a7⟩
                exact ⟨_, by omega, m', ah', acc', vacc', yr', e7, w7, r7, re7o, re7, rv7, hD7, hn7, hle7, rfl, by omega, by rw [hxs1]; exact c7, a7⟩
              · intro y1 H7 hyl1
                obtain ⟨e7, r7, ry1⟩ := hy1 y1 H7 hyl1
                have hD7 := e7.keep D _ hD6 hn6
                cases hg1' : g1 x1 ev2 with
                | none => simp only [hg1'] at c6; cases c6
                | some ev3 =>
                simp only [hg1'] at c6
                refine ⟨m6, x1, ev2, ev3, re6.ext r6 e7, ry1, hg1', fun σ3 re3' hu1 hul1 => ⟨wipe_of (by rw [hul1, wipe_length]) hu1, m6, ah6, ev3, r7, re3', ?_⟩⟩
                cases ht1' : t1 ev3 ah6 with
                | exc c p h2 => simp only [ht1'] at c6; cases c6
                | bad => simp only [ht1'] at c6; cases c6
                | ok b1 h7 =>
                intro m8 H8 b1' e8 r8 hb1'
                cases hb1'
                have hD8 := e8.keep D _ hD7 hn6
                have hn8 : D ∉ m8 := fun z => by
                  rcases e8.new D z hn6 with this | ⟨_, this⟩ <;> (rw [hD7] at this; cases this)
                have eD7 : ExtD D m1 H1 m6 H7 := e6.then e7 ⟨_, hD6⟩ hn6
                have eD8 : ExtD D m1 H1 m8 H8 := eD7.then e8 ⟨_, hD7⟩ hn6
                have w7 : ExtW m5 H5 m6 H7 := ⟨w6.pre, fun b o h h1 h2 _ _ _ => e7.keep b o (w6.keep b o h h1 h2) (r6.notin (w6.keep b o h h1 h2) h1 h2)⟩
                have w8 : ExtW m5 H5 m8 H8 := ⟨by
                  obtain ⟨z1, y1⟩ := w7.pre
                  obtain ⟨z2, y2⟩ := e8.pre
                  exact ⟨z1 ++ z2, by rw [y2, y1, List.append_assoc]⟩, fun b o h h1 h2 _ _ _ => e8.keep b o (w7.keep b o h h1 h2) (r7.notin (w7.keep b o h h1 h2) h1 h2)⟩
                cases b1 with
                | false =>
                  simp only [ht1'] at c6
                  show _
                  exact ⟨m8, h7, acc6, vacc6, yr, eD8, w8, r8, (re6o.ext r6 e7).ext r7 e8, (re6.ext r6 e7).ext r7 e8, (rv6.ext r6 e7).ext r7 e8, hD8, hn8, by omega, c6, a6⟩
                | true =>
                  simp only [ht1'] at c6
                  show Wi _ _ _ _ _ _ _ _
                  refine ⟨m8, h7, ev3, r8, re3'.ext r7 e8, ?_⟩
                  cases he' : el ev3 h7 with
                  | exc c p h8 => simp only [he'] at c6; cases c6
                  | bad => simp only [he'] at c6; cases c6
                  | ok z h8 =>
                    simp only [he'] at c6
                    cases hc8 : compF s1.gs g1 t1 el ev2 xs1 h8 with
                    | exc c p h9 => rw [hc8] at c6; cases c6
                    | bad => rw [hc8] at c6; cases c6
                    | ok yr' h9 =>
                    rw [hc8, Rs.bind_ok] at c6
                    cases c6
                    intro m9 H9 w e9 r9 rw9
                    have hD9 := e9.keep D _ hD8 hn8
                    have hn9 : D ∉ m9 := fun z => by
                      rcases e9.new D z hn8 with this | ⟨_, this⟩ <;> (rw [hD8] at this; cases this)
                    have eD9 : ExtD D m1 H1 m9 H9 := eD8.then e9 ⟨_, hD8⟩ hn8
                    have rv9 := ((rv6.ext r6 e7).ext r7 e8).ext r8 e9
                    have off := off_upd (H := H9) (D := D) (us := vacc6 ++ [w]) hD9
                    have hls := rv6.length
                    have hnb : ∀ b, b ∈ m9 → upd H9 D (.lst (vacc6 ++ [w])) b = H9 b := fun b hb => upd_ne fun z => hn9 (z ▸ hb)
                    have ero : ∀ {ev : Ev} {τ : L2.St}, ER X.K H9 m9 ev τ → ER X.K (upd H9 D (.lst (vacc6 ++ [w]))) m9 ev τ := fun {ev τ} this => by
                      refine ⟨this.len, fun j v hj => ?_⟩
                      obtain ⟨u, hu1, hu2⟩ := this.get j v hj
                      exact ⟨u, hu1, hu2.off off⟩
                    have w9 : ExtW m5 H5 m9 (upd H9 D (.lst (vacc6 ++ [w]))) := ⟨by
                      obtain ⟨z1, y1⟩ := w8.pre
                      obtain ⟨z2, y2⟩ := e9.pre
                      exact ⟨z1 ++ z2, by rw [y2, y1, List.append_assoc]⟩, fun b o h h1 h2 _ _ _ => off b o (e9.keep b o (w8.keep b o h h1 h2) (r8.notin (w8.keep b o h h1 h2) h1 h2)) (fun vs z => by
                        rw [z] at h1
                        exact absurd rfl (h1 vs))⟩
                    have hsm : vacc6.length < sizeLine := by
                      rw [← hls]
                      have : i * 900 ≤ 1000 * 900 := Nat.mul_le_mul_right _ (by omega)
                      omega
                    refine ⟨vacc6, hD9, hsm, m9, h8, acc6 ++ [z], vacc6 ++ [w], yr', eD9.upd, w9, r9.off off hnb, ero (((re6o.ext r6 e7).ext r7 e8).ext r8 e9), ero (((re6.ext r6 e7).ext r7 e8).ext r8 e9), (rv9.off off).append (.cons (rw9.off off) .nil), upd_same, hn9, by simp; omega, hc8, ?_⟩
                    rw [List.append_assoc]
                    exact a6
theorem me_lc2 (own : List (Str × Nat)) (vs1 : List Nat) (hc : X.calm = true) (hN : X.N.Nodup) (hi : MI X W tg iter fi) (ok : BlkOk X.N X.env.scope scope own) (hv : ∀ i ∈ vs1, i ∈ own.map (·.2))
    (hg : ∀ (s : Shared) (H : Hp) (C : Addr) (cl : List (Str × Addr)) (fp : List Addr), MG (X.blk s H scope (compEnvC scope cl C X.env) fp) tg (own.map (·.2)) g)
    (ht : ∀ (s : Shared) (H : Hp) (C : Addr) (cl : List (Str × Addr)) (fp : List Addr), MTs (X.blk s H scope (compEnvC scope cl C X.env) fp) WN ifs t)
    (hi1 : ∀ (s : Shared) (H : Hp) (C : Addr) (cl : List (Str × Addr)) (fp : List Addr), MI (X.blk s H scope (compEnvC scope cl C X.env) fp) WN tg1 iter1 fi1)
    (hg1 : ∀ (s : Shared) (H : Hp) (C : Addr) (cl : List (Str × Addr)) (fp : List Addr), MG (X.blk s H scope (compEnvC scope cl C X.env) fp) tg1 vs1 g1)
    (ht1 : ∀ (s : Shared) (H : Hp) (C : Addr) (cl : List (Str × Addr)) (fp : List Addr), MTs (X.blk s H scope (compEnvC scope cl C X.env) fp) WN ifs1 t1)
    (he : ∀ (s : Shared) (H : Hp) (C : Addr) (cl : List (Str × Addr)) (fp : List Addr), ME (X.blk s H scope (compEnvC scope cl C X.env) fp) WN elt el) (hs : ∀ x, foldedSetIterable iter X.env x = pure x := by intro _; rfl) (hs1 : ∀ env x, foldedSetIterable iter1 env x = pure x := by intro _ _; rfl) :
    ME X W (.ListComp elt [⟨tg, iter, ifs, 0⟩, ⟨tg1, iter1, ifs1, 0⟩] scope pos) (eLc2 fi g t fi1 g1 t1 el (own.map (·.2)) vs1) :=
  ⟨pe_imp (pe_lc2 hc hN hi.pi ok hv (fun s H C cl fp => (hg s H C cl fp).pg) (fun s H C cl fp => (ht s H C cl fp).pts) (fun s H C cl fp => (hi1 s H C cl fp).pi) (fun s H C cl fp => (hg1 s H C cl fp).pg) (fun s H C cl fp => (ht1 s H C cl fp).pts) (fun s H C cl fp => (he s H C cl fp).pe) hs hs1) fun σ H Q q => lc2_wi q⟩
end
/-! evaluation -/
section
variable {ev : Ev} {h : AH} {it it1 : IF} {gf g1 : GF} {tf t1 : TF} {f : EF} {ns ns1 : List Nat} {s : Src} {r : Rs Src} {P : Va → AH → Prop}
def lc2K (g : GF) (t : TF) (i1 : IF) (g1 : GF) (t1 : TF) (el : EF) (vs vs1 : List Nat) (ev : Ev) : Rs Src → Rs Va := fun r => r.bind (lc2F g t i1 g1 t1 el vs vs1 ev)
theorem s_lc2 : eLc2 it gf tf it1 g1 t1 f ns ns1 ev h = lc2K gf tf it1 g1 t1 f ns ns1 ev (it ev h) := rfl
theorem k_lc2 (e : s.items.length ≤ 1000) : lc2K gf tf it1 g1 t1 f ns ns1 ev (.ok s h) = lc1K (comp2F s.gs gf tf it1 g1 t1 f ns1 (ewipe ev ns) s.items h) := by
  simp only [lc2K, Rs.bind_ok, lc2F, lc1K, if_pos e]
/-- two clauses that only read the heap -/
theorem comp2_map {gs : List (Nat × List Va)} {e1 : Va → Ev} {so : Va → Src} {ys : Va → List Va} (hgs : gsOk gs h = true) : ∀ xs : List Va, (∀ x ∈ xs, gf x ev = some (e1 x) ∧ tf (e1 x) h = .ok true h ∧ it1 (e1 x) h = .ok (so x) h ∧ (so x).items.length ≤ 900 ∧ compF (so x).gs g1 t1 f (ewipe (e1 x) ns1) (so x).items h = .ok (ys x) h) →
    comp2F gs gf tf it1 g1 t1 f ns1 ev xs h = .ok (xs.flatMap ys) h
  | [], _ => by simp [comp2F, hgs]
  | x :: xs, hq => by
    obtain ⟨h1, h2, h3, h4, h5⟩ := hq x (List.mem_cons_self ..)
    simp only [comp2F, hgs, if_true, h1, h2, h3, h4, h5, comp2_map hgs xs fun y hy => hq y (List.mem_cons_of_mem _ hy), Rs.bind_ok, List.flatMap_cons]
end
end FL

set_option Elab.async false
set_option linter.all false
set_option maxRecDepth 100000
/-! FLX: xs.pop(i); a, b, c = x, y, z. -/
namespace FL
open PySem PySem.Spec PyProof.Rows L2
variable [Tabz]
def oPopAt : OpM := fun v vs h => match v, vs with
  | .ref l, [.int i] => (match lstAt h l with
    | some xs => if decide (0 ≤ i) && decide (i < xs.length) && decide (i < 1000000000) then (match xs[i.toNat]? with
      | some y => some (y, h.set l (.lst (xs.eraseIdx i.toNat)))
      | none => none) else none
    | none => none)
  | _, _ => none
theorem VRs.erase {K : PySem.W.Frag} {H : Hp} {m : List Addr} : ∀ {xs : List Va} {vs : List V} (i : Nat), VRs K H m xs vs → VRs K H m (xs.eraseIdx i) (vs.eraseIdx i)
  | [], [], _, _ => .nil
  | _ :: _, _ :: _, 0, .cons _ hs => hs
  | _ :: _, _ :: _, i + 1, .cons h hs => .cons h (VRs.erase i hs)
section
variable {X : Cx} {W : WX} {o e : Expr} {fo : EF} {ta : AF} {apos cpos : Pos}
end
section
variable {h : AH} {xs : List Va} {v : Va} {k i : Nat}
def popK (k : Nat) (i : Int) (h : AH) : Option (List Va) → Option (Va × AH) := fun o => match o with
  | some xs => if decide (0 ≤ i) && decide (i < xs.length) && decide (i < 1000000000) then (match xs[i.toNat]? with
      | some y => some (y, h.set k (.lst (xs.eraseIdx i.toNat)))
      | none => none) else none
  | none => none
end
/-- a, b, c = x, y, z (all written) -/
def par3K (i j l : Nat) (ev : Ev) : Rs (List Va) → SR := fun r => r.s ev fun vs h1 => match vs with
  | [u, v, w] => .nx (((ev.set i (some u)).set j (some v)).set l (some w)) h1
  | _ => .bad
def sPar3 (i j l : Nat) (f : AF) : SF := fun ev h => (f ev h).s ev fun vs h1 => match vs with
  | [u, v, w] => .nx (((ev.set i (some u)).set j (some v)).set l (some w)) h1
  | _ => .bad
section
variable {af : AF} {ev : Ev} {h : AH} {u v w : Va} {i j l : Nat}
theorem s_par3 : sPar3 i j l af ev h = par3K i j l ev (af ev h) := rfl
theorem k_par3 : par3K i j l ev (.ok [u, v, w] h) = .nx (((ev.set i (some u)).set j (some v)).set l (some w)) h := rfl
end
theorem vrs3 {K : PySem.W.Frag} {H : Hp} {m : List Addr} {p q r : Va} {xs : List V} (h : VRs K H m [p, q, r] xs) : ∃ x y z, xs = [x, y, z] ∧ VR K H m p x ∧ VR K H m q y ∧ VR K H m r z := by
  cases h with
  | cons h1 h2 =>
    obtain ⟨y, z, rfl, h3, h4⟩ := vrs2 h2
    exact ⟨_, _, _, rfl, h1, h3, h4⟩
theorem ms_par3 {X : Cx} {W : WX} (i j l : Nat) {x y z : Str} {a b c : Expr} {ta : AF} {px py pz pt pos : Pos} {kt k2 pt2} (hc : X.calm = true) (hN : X.N.Nodup) (ha : MA X W [a, b, c] ta) (hi : X.N[i]? = some x := by rfl) (hj : X.N[j]? = some y := by rfl) (hl : X.N[l]? = some z := by rfl) (hij : i ≠ j := by decide) (hil : i ≠ l := by decide) (hjl : j ≠ l := by decide)
    (hx : X.env.scope.names.lookup x = some .local := by rfl) (hy : X.env.scope.names.lookup y = some .local := by rfl) (hz : X.env.scope.names.lookup z = some .local := by rfl)
    (hw : swappedStores [.Tuple [.Name x px, .Name y py, .Name z pz] kt pt] (.Tuple [a, b, c] k2 pt2) X.env = pure (some [x, y, z]) := by rfl)
    (hs : swapsWithSole [.Tuple [.Name x px, .Name y py, .Name z pz] kt pt] (.Tuple [a, b, c] k2 pt2) pos.line X.env = pure false := by rfl) :
    MS X W (.Assign [.Tuple [.Name x px, .Name y py, .Name z pz] kt pt] (.Tuple [a, b, c] k2 pt2) pos) (sPar3 i j l ta) := ⟨ps_imp (ps_par3 hc hN hi hj hl hij hil hjl hx hy hz ha.pa hw hs) fun D σ H q => by
  obtain ⟨m, ah, ev, r, re, q⟩ := WiS.bind (R := VRs X.K) q
  refine ⟨m, ah, ev, r, re, ?_⟩
  cases ef : ta ev ah with
  | exc c p a => rw [ef] at q; exact q
  | bad => rw [ef] at q; exact q
  | ok v a =>
    rw [ef] at q
    intro m1 H1 x e1 r1 rx
    obtain ⟨m2, ah2, ev2, v2, r2, re2, rv2, q2⟩ := q m1 H1 x e1 r1 rx
    split at q2
    · obtain ⟨x1, x2, x3, rfl, h1, h2, h3⟩ := vrs3 rv2
      exact ⟨x1, x2, x3, rfl, q2 m2 H1 _ .refl r2 (((re2.set h1).set h2).set h3)⟩
    · exact q2.elim⟩
end FL

set_option Elab.async false
set_option linter.all false
set_option maxRecDepth 100000
set_option maxHeartbeats 1000000
/-! FLY: zip of two tuples whose pairs are bound whole to a name. -/
namespace FL
open PySem PySem.Spec PyProof.Rows L2 RZ
variable [Tabz]
abbrev IsZA (h : Heap) (z TI TO : Addr) (w : Value) (f : Bool) : Prop :=
  h.get? z = some { cls := .type "zip", dict := none, data := .fields #[w, .bool f, .bool false, .ref TI, .ref TO], slots := #[] }
def OutW (w : Value) : Prop := w = .none ∨ ∃ T : Addr, w = rawInt T
section
variable {prog : Program} {wo : World} {A : Around} {E : Value → Shared → Prop} {s : Shared}
end
def iZipN (K : PySem.W.Frag) (ta : TA) : TI := fun σ H R => ta σ H fun vs H1 => ∃ a b xs ys, vs = [.ref a, .ref b] ∧ SqT K H1 a xs ∧ SqT K H1 b ys ∧ R (ItzT K a b) H1
/-- two tuples, walked together -/
def srcZT : List Va → AH → Option Src := fun ps _ => match ps with
  | [.tup xs, .tup ys] => some ⟨zipF xs ys, []⟩
  | _ => none
end FL

set_option Elab.async false
set_option linter.all false
set_option maxRecDepth 100000
set_option maxHeartbeats 2000000
/-! FLEN: an own class over a built-in error that inherits its __new__ (KeyError): the hand layer's way to the object, with the facts of the one that has the __new__. -/
namespace PySem
namespace FLX
open PySem.W PySem.Calls PyProof.Rows PySem.HandSPX Builtin
/-- B has the __new__; bm, the bases of the class told of -/
structure NewOf (B newId initId : String) (bmB bm : List Value) : Prop where
  F : ExcBaseFacts B newId initId bmB
  hB : bm.contains (.type B) = true
  hA : bm.contains (.type "AttributeError") = false
  hN : bm.contains (.type "NameError") = false
theorem newOf_Key : NewOf "LookupError" "LookupError.__new__" "LookupError.__init__" [.type "LookupError", .type "Exception", .type "BaseException", .type "object"] [.type "KeyError", .type "LookupError", .type "Exception", .type "BaseException", .type "object"] := ⟨PySem.F.excBase_LookupError, by decide +kernel, by decide +kernel, by decide +kernel⟩
section
variable {M : Model} {A : Around} {E : Value → Shared → Prop} {h : Heap} {g : Array GenState} {d : Drawn} {t : Nat} {os : OsState}
variable {nm q : Str} {C N : Addr} {bs bm bmB : List Value} {hdct : Bool} {sn : List Str} {sub : List Value} {ab : Bool} {col : Option Bool} {dd : Option Addr} {k0 k1 k2 k3 k5 : Option Value} {B newId initId : String}
theorem checkNew (G : NewOf B newId initId bmB bm) {rest : List Value} {Q : Unit → Shared → Prop}
    (hC : h.get? C = some (excClassObj nm q C N bs bm hdct sn sub ab col dd k0 k1 k2 k3 k5 newId)) (hq : Q () ⟨h, g, d, t, os⟩) : wpAny M A (checkBuiltinCall newId ⟨.ref C :: rest, []⟩) Q E ⟨h, g, d, t, os⟩ := by
  have hcont : (Value.ref C :: bm).contains (.type B) = true := by rw [List.contains_cons, G.hB, Bool.or_true]
  have hstar := G.F.noStar
  simp only [checkBuiltinCall, G.F.newKind, G.F.newSplit, G.F.newRow]
  repeat (first | refine wpAny_loadPart_at hC ?_ | (refine wpAny_isSubtype_exc hC ?_; rw [hcont]) | refine wpAny_staticBase_exc hC ?_ | refine wpAny_madeBy_exc hC ?_ | simp only [bne_self_eq_false, Bool.false_eq_true, if_false] | wp_step)
  exact hq
end
section
variable {prog : Program} {w : World} {A : Around} {E : Value → Shared → Prop} {R : Result → Shared → Prop} {h : Heap} {g : Array GenState} {d : Drawn} {t : Nat} {os : OsState}
variable {nm q : Str} {C N : Addr} {bs bm bmB : List Value} {hdct : Bool} {sn : List Str} {sub : List Value} {ab : Bool} {col : Option Bool} {dd : Option Addr} {k0 k1 k2 k3 k5 : Option Value} {B newId initId : String}
theorem newOwn (G : NewOf B newId initId bmB bm) {rest : List Value}
    (hC : h.get? C = some (excClassObj nm q C N bs bm hdct sn sub ab col dd k0 k1 k2 k3 k5 newId))
    (hq : R (.ok (.ret (.ref (h.objs.size + 1)))) ⟨(h.push { cls := .type "tuple", data := .seq rest.toArray }).push
      { cls := .ref C, data := .fields #[.ref h.objs.size, .none, .none, .none, .bool false, .none] }, g, d, t, os⟩) (hrest : rest.length ≤ sizeLine) :
    codeAny (model prog w) A (.builtin newId ⟨.ref C :: rest, []⟩) R ⟨h, g, d, t, os⟩ := by
  have hends := G.F.ends
  have hcB : (Value.ref C :: bm).contains (.type B) = true := by rw [List.contains_cons, G.hB, Bool.or_true]
  have hcA : (Value.ref C :: bm).contains (.type "AttributeError") = false := by rw [List.contains_cons, G.hA]; rfl
  have hcN : (Value.ref C :: bm).contains (.type "NameError") = false := by rw [List.contains_cons, G.hN]; rfl
  refine codeAny_builtinAt G.F.entry ?_
  unfold Builtin.«BaseException.__new__»
  refine wpAt_bind ?_
  show wpAt _ _ _ (stack >>= _) _ _ _
  refine wpAt_bind (wpAt_stack fun p below => wpAt_of_wpAny ?_)
  wp_walk
  refine wpAt_of_wpAny ?_
  rw [G.F.owner]
  repeat (first | with_reducible refine wpAny_madeHere_exc G.F.canon hC ?_ | with_reducible refine wpAny_loadPart_at hC ?_ | (with_reducible refine wpAny_isSubtype_exc hC ?_; first | rw [hcB] | rw [hcA] | rw [hcN]) | wp_step)
  show R _ _
  rw [Heap.size_push]
  exact hq
theorem typeCallOwn (G : NewOf B newId initId bmB bm) {rest : List Value} {fI : Addr} {Q : Fin → Shared → Prop}
    (hC : h.get? C = some (excClassObj nm q C N bs bm hdct sn sub ab col dd k0 k1 k2 k3 k5 newId))
    (hi : W.Looks (model prog w) h (typeLookup (.ref C) "__init__") (some (.ref fI))) (hb : ∀ self, W.Looks (model prog w) h (bindSpecial (.ref fI) self) (.ref fI, [self])) (hrest : rest.length ≤ sizeLine)
    (hq : codeAny (model prog w) A (.call (.ref fI) ⟨.ref (h.objs.size + 1) :: rest, []⟩)
      (fun r s' => match r with | .ok (.ret v) => v = .none ∧ Q (.done (.ret (.ref (h.objs.size + 1)))) s' | .ok _ => False | .error e => E e s')
      ⟨(h.push (W.kdv_tup rest)).push (excO C h.objs.size), g, d, t, os⟩) :
    wpAny (model prog w) A (Builtin.«type.__call__» ⟨.ref C :: rest, []⟩) Q E ⟨h, g, d, t, os⟩ := by
  repeat (first | with_reducible refine wpAny_loadPart_at hC ?_ | with_reducible refine wpAny_madeBy_exc hC ?_ | wp_step)
  refine codeAny_call_builtin_code (Code.quiet_builtin _ G.F.quiet) (checkNew G hC ?_)
  refine newOwn G hC ?_ hrest
  show wpAny _ _ _ _ _ _
  have k : ∀ b o, h.get? b = some o → ((h.push (W.kdv_tup rest)).push (excO C h.objs.size)).get? b = some o := fun b o e => Heap.get?_push_of_some _ (Heap.get?_push_of_some _ e)
  have hC₁ := k _ _ hC
  have hget : ((h.push (W.kdv_tup rest)).push (excO C h.objs.size)).get? (h.objs.size + 1) = some (excO C h.objs.size) := by heap_get
  have hcC : (Value.ref C :: bm).contains (.ref C) = true := by simp
  have i1 := hi.keeps k
  have b1 := (hb (.ref (h.objs.size + 1))).keeps k
  unfold isInstance
  repeat (first | with_reducible refine wpAny_loadPart_at hget ?_ | (with_reducible refine wpAny_isSubtype_exc hC₁ ?_; rw [hcC]) | wp_step)
  show wpAny _ _ (typeLookup (.ref C) _) _ _ _
  refine i1.at ?_
  refine wpAny_holding (wpAny_bind (b1.at ?_))
  refine wpAny_bind (wpAny_call (codeAny_mono hq fun r s' z => ?_))
  rcases r with e | (v | _ | _ | _) <;> first | exact z | exact z.elim | skip
  obtain ⟨rfl, z⟩ := z
  first
    | exact wpAny_pure (wpAny_pure z)
    | (wp_walk; exact z)
theorem callOwn (G : NewOf B newId initId bmB bm) {rest : List Value} {fI : Addr}
    (hC : h.get? C = some (excClassObj nm q C N bs bm hdct sn sub ab col dd k0 k1 k2 k3 k5 newId))
    (hi : W.Looks (model prog w) h (typeLookup (.ref C) "__init__") (some (.ref fI))) (hb : ∀ self, W.Looks (model prog w) h (bindSpecial (.ref fI) self) (.ref fI, [self])) (hrest : rest.length ≤ sizeLine)
    (hq : codeAny (model prog w) (A.under (.builtin "type.__call__" ⟨.ref C :: rest, []⟩)) (.call (.ref fI) ⟨.ref (h.objs.size + 1) :: rest, []⟩) (W.InitBack (h.objs.size + 1) R)
      ⟨(h.push (W.kdv_tup rest)).push (excO C h.objs.size), g, d, t, os⟩) :
    codeAny (model prog w) A (.call (.ref C) ⟨rest, []⟩) R ⟨h, g, d, t, os⟩ := by
  have f1 := tc_lookup
  have f2 := tc_bind (.ref C)
  have hTy : (⟨h, g, d, t, os⟩ : Shared).TypeIs (.ref C) "type" := ⟨_, hC, rfl⟩
  refine codeAny_of_tree ?_
  show wpAny _ _ (callAny (.ref C) _) _ _ _
  repeat (any_goals (first | assumption | with_reducible refine wpAny_loadPart_at hC ?_ | wp_step))
  refine ⟨rfl, ?_⟩
  refine codeAny_call_builtin_at (Code.quiet_builtin _ (by decide +kernel)) entry_typeCall (wpAny_check_type_call_sub hC (typeCallOwn G hC hi hb hrest ?_))
  refine codeAny_mono hq fun r s' z => ?_
  rcases r with e | (v | _ | _ | _) <;> exact z
end
end FLX
end PySem
namespace FL
open PySem PySem.F PySem.W PySem.Calls
theorem store_KeyError : StoreFacts "KeyError" [.type "KeyError", .type "LookupError", .type "Exception", .type "BaseException", .type "object"] "object.__setattr__" "object" where
  mro := by kernel_rfl
  slot := .of (owner := "object") (n := "__setattr__") (by rw [typeLookup_type, builtinLookup_eq_fast]; kernel_rfl) (by decide +kernel) (by decide +kernel) (by decide +kernel)
    (by first | exact .inl (by decide +kernel) | exact .inr (by decide +kernel)) (by rw [isSubtype_type]; kernel_rfl)
  entry := entry_object_sa
  kind := by decide +kernel
  split := by decide +kernel
  hasOwner := by decide +kernel
  args := fun a b c => by unfold argsOk; kernel_rfl
  passes := fun self => by kernel_rfl
end FL

set_option Elab.async false
set_option linter.all false
set_option maxRecDepth 100000
set_option maxHeartbeats 2000000
/-! FLE: exceptions: own classes that store a field, raise, try. -/
namespace PySem
namespace FLX
open PySem.W PySem.Calls PyProof.Rows PySem.HandSPX Builtin Builtin.ObjectAttr L2
section
variable {prog : Program} {w : World} {A : Around} {E : Value → Shared → Prop} {R : Result → Shared → Prop} {hp : Heap} {g : Array GenState} {d : Drawn} {t : Nat} {os : OsState}
/-- self.name = v on an own exception (straight over a built-in) that has no dict yet -/
theorem osaB {K : W.Frag} {B : String} {bm : List Value} {name : Str} {tk : Tok} {v : Value} {x C : Addr} {fv : Array Value} {cd : ClassData} (SB : StoreFacts B bm "object.__setattr__" "object") (hob : bm.contains (.type "object") = true)
    (X : K.In hp) (hx : hp.get? x = some { cls := .ref C, data := .fields fv }) (hcd : W.clsIn K C = some cd) (hm : cd.mro = .ref C :: bm) (hh : cd.hasDict = true) (ha : W.findIn K (.ref C) name = some none)
    (hq : ∀ h' tk' dx, (∀ b o, b ≠ x → hp.get? b = some o → h'.get? b = some o) → hp.objs.size ≤ dx → dx ≠ x → h'.get? x = some { cls := .ref C, dict := some dx, data := .fields fv } →
      h'.Ns1 dx (fun y => if y = name then some v else none) → R (.ok (.ret .none)) ⟨h', g, d, tk', os⟩) :
    codeAny (model prog w) A (.call (.builtin "object.__setattr__") ⟨[.ref x, .str name tk, v], []⟩) R ⟨hp, g, d, t, os⟩ := by
  have I : W.InstAt hp x { cls := .ref C, data := .fields fv } C none := ⟨hx, rfl, rfl, trivial⟩
  have SF := F.store_object
  have ne : cd.mro.isEmpty = false := by rw [hm]; rfl
  have hob : cd.mro.contains (.type "object") = true := by rw [hm, List.contains_cons, hob, Bool.or_true]
  have hxs : x ≠ hp.objs.size := Nat.ne_of_lt (Heap.lt_size hx)
  have sub : W.Looks (model prog w) hp (isInstance (.ref x) (.type "object")) true := I.type.andThen (W.looks_mroIn X (by unfold W.mroIn; rw [hcd, Option.bind_some, if_neg (by rw [ne]; decide), hob]))
  refine codeAny_call_builtin SF.slot.plain SF.entry (@W.check_slot (model prog w) _ _ ⟨hp, g, d, t, os⟩ "object.__setattr__" "object" "__setattr__" (.ref x) [.str name tk, v] [] _ SF.kind SF.split sub (SF.args (.ref x) (.str name tk) v) ?_)
  have hmr : W.Looks (model prog w) hp (mroOf (.ref C)) cd.mro := (W.looks_clsIn X hcd).andThen .now
  have L3 : W.Looks (model prog w) hp (storeTaker? none) none := .now
  have hcls : W.Looks (model prog w) hp (classData C) cd := W.looks_clsIn X hcd
  have pass : refuseLoop (.ref x) "__setattr__" cd.mro = pure () := by rw [hm, refuseLoop_ref]; exact SB.passes (.ref x)
  rw [W.osa_eq, refuse_eq]
  refine wpAny_bind (wpAny_bind (I.type.at (wpAny_bind (hmr.at ?_))))
  rw [pass]
  refine wpAny_pure (wpAny_bind (I.type.at (wpAny_bind ((W.looks_findIn X ha).at (wpAny_bind (L3.at ?_))))))
  show wpAny _ _ (storeInOwnDict (.ref x) (.ref C) (.str name tk) name v false) _ _ _
  obtain ⟨nm, bs, mro, ns, qn, hd, sn, sb, ab, col, del⟩ := cd
  dsimp only at hh
  subst hh
  unfold storeInOwnDict ownDictForStores
  repeat (first | with_reducible refine store_in_new ?_ ?_ | with_reducible refine wpAny_loadPart_at hx ?_ | with_reducible refine hcls.at ?_ | wp_step)
  · exact ⟨_, #[], _, (Heap.get?_update_ne _ _ _ _ hxs.symm).trans (Heap.get?_push_at rfl rfl), rfl, fun e he => absurd he (by simp), fun _ => rfl⟩
  · intro h' tk' hn' hs
    have hx₁ : (hp.push { cls := .type "dict", data := .dict #[] }).get? x = some { cls := .ref C, data := .fields fv } := Heap.get?_push_of_some _ hx
    refine hq h' tk' hp.objs.size (fun b o hb ho => ?_) (Nat.le_refl _) hxs.symm ?_ hn'
    · exact (hs.2 b (Nat.ne_of_lt (Heap.lt_size ho))).trans ((Heap.get?_update_ne _ _ _ _ hb).trans (Heap.get?_push_of_some _ ho))
    · exact (hs.2 x hxs).trans (Heap.get?_update_self _ hx₁ rfl)
end
theorem one_size (v : Value) : [v].length ≤ sizeLine := by
  rw [sizeLine_eq]
  exact (by decide : 1 ≤ 16777216)
theorem ldC {M : Model} {s : Shared} {name : Str} {scope : Scope} {L a : Addr} {cd : Value} {m : Str → Option Value} {x : Str} {pos : Pos} {v : Value} {Q : Value → Shared → Prop} {A : Around} {E : Value → Shared → Prop} (hn : s.heap.Ns L m) (hv : m x = some v) (h : Q v s)
    (hk : scope.kind = .function := by rfl) (hl : (envOfC name scope L a cd).kindOf x = some .local := by rfl) (hd : (x == ("__debug__" : Str)) = false := by decide) :
    wpAny M A (eval (.Name x pos) (envOfC name scope L a cd)) Q E s := wpAny_Name (wpAny_loadName_local hk hl hn hv h) hd
/-- what __init__ leaves of a fresh exception at x -/
structure InitEnd (f : Str) (h h' : Heap) (x C dx t1 : Addr) (v : Value) : Prop where
  keep : ∀ b o, b ≠ x → h.get? b = some o → h'.get? b = some o
  obj : h'.get? x = some { cls := .ref C, dict := some dx, data := .fields #[.ref t1, .none, .none, .none, .bool false, .none] }
  dbig : h.objs.size ≤ dx
  dne : dx ≠ x
  ns : h'.Ns1 dx (fun y => if y = f then some v else none)
/-- a made one -/
structure OwnMade (f : Str) (h h' : Heap) (e C d : Addr) (v : Value) : Prop where
  keep : ∀ b o, h.get? b = some o → h'.get? b = some o
  new : h.objs.size ≤ e
  obj : ∃ oe vs, h'.get? e = some oe ∧ oe.cls = .ref C ∧ oe.dict = some d ∧ oe.data = .fields vs ∧ vs[1]? = some .none
  dbig : h.objs.size ≤ d
  dne : d ≠ e
  ns : h'.Ns1 d (fun y => if y = f then some v else none)
/-- what the written part says of the class x at C, straight over a built-in, whose __init__ at fI stores f -/
structure OwnTxt (x f : Str) (bm : List Value) (newId : String) (K : Frag) (mg : Str → Option Value) (C fI : Addr) : Prop where
  gC : mg x = some (.ref C)
  cls : ∃ nm q N bs sn sub ab col dd k0 k1 k2 k3 k5, K.lookup C = some (excClassObj nm q C N bs bm true sn sub ab col dd k0 k1 k2 k3 k5 newId)
  sa : findIn K (.ref C) "__setattr__" = some (some (.builtin "object.__setattr__"))
  ga : findIn K (.ref C) "__getattribute__" = some (some (.builtin "BaseException.__getattribute__"))
  gg : findIn K (.ref C) "__getattr__" = some none
  noN : findIn K (.ref C) f = some none
  iC : findIn K (.ref C) "__init__" = some (some (.ref fI))
  tC : typeIn K (.ref fI) = some (.type "function")
  kC : keepIn K (.ref C) = true
  exC : subIn K (.ref C) (.type "BaseException") = some true
  tyC : typeIn K (.ref C) = some (.type "type")
  hdC : hasDictIn K C = true
  te : exmOne K (.ref C) (.ref C) = some true
theorem clsB_ok {K : Frag} {C : Addr} {bm : List Value} {newId : String} (q : clsB K C bm newId = true) : ∃ nm q N bs sn sub ab col dd k0 k1 k2 k3 k5, K.lookup C = some (excClassObj nm q C N bs bm true sn sub ab col dd k0 k1 k2 k3 k5 newId) := by
  unfold clsB at q
  split at q
  · rename_i dd cd sl ho
    split at q
    · rename_i C' b k0 k1 k2 k3 n k5 hm hs
      simp only [Bool.and_eq_true, beq_iff_eq, Bool.not_eq_true'] at q
      obtain ⟨⟨⟨⟨rfl, rfl⟩, hdel⟩, hd⟩, rfl⟩ := q
      obtain ⟨nm, bs, mro, ns, qn, hdd, sn, sub, ab, col, del⟩ := cd
      dsimp only at hm hdel hd
      subst hm hdel hd
      have hsl : sl = #[k0, k1, k2, k3, some (.builtin n), k5] := by
        obtain ⟨l⟩ := sl
        simp only at hs
        rw [hs]
      subst hsl
      exact ⟨nm, qn, ns, bs, sn, sub, ab, col, dd, k0, k1, k2, k3, k5, ho⟩
    · cases q
  · cases q
theorem ownB_ok {x f : Str} {bm : List Value} {newId : String} {K : Frag} {h : Heap} {mg : Str → Option Value} (X : K.In h) (G : h.Ns mainGlobals mg) (q : ownB x f bm newId K = true) : OwnTxt x f bm newId K mg (He.ga K x) (He.ma K (He.ga K x) "__init__") := by
  obtain ⟨h1, q⟩ := He.ba q
  obtain ⟨h2, q⟩ := He.ba q
  obtain ⟨h3, q⟩ := He.ba q
  obtain ⟨h4, q⟩ := He.ba q
  obtain ⟨h5, q⟩ := He.ba q
  obtain ⟨h6, q⟩ := He.ba q
  obtain ⟨h7, q⟩ := He.ba q
  obtain ⟨h8, q⟩ := He.ba q
  obtain ⟨h9, q⟩ := He.ba q
  obtain ⟨h10, q⟩ := He.ba q
  obtain ⟨h11, q⟩ := He.ba q
  obtain ⟨h12, q⟩ := He.ba q
  exact ⟨mg_of X G (He.eqO_ok h1), clsB_ok h2, He.eqO_ok h3, He.eqO_ok h4, He.eqO_ok h5, He.eqO_ok h6, He.eqO_ok h7, of_decide_eq_true h8, h9, of_decide_eq_true h10, of_decide_eq_true h11, h12, of_decide_eq_true q⟩
/-- its __init__ does what it should -/
def Inits (f : Str) (K : Frag) (C fI : Addr) : Prop := ∀ (prog : Program) (w : World) (A : Around) (R : Result → Shared → Prop) (s : Shared) (x t0 : Addr) (v : Value), K.In s.heap → s.heap.NoLimit → s.heap.get? x = some (excO C t0) → K.lookup x = none → A.depth < recursionLimit →
  (∀ h' tk dx, InitEnd f s.heap h' x C dx t0 v → R (.ok (.ret .none)) { s with heap := h', toks := tk }) → codeAny (model prog w) A (.call (.ref fI) ⟨[.ref x, v], []⟩) R s
section
variable {prog : Program} {w : World} {A : Around} {E : Value → Shared → Prop} {R : Result → Shared → Prop} {s : Shared} {K : Frag} {mg : Str → Option Value} {C fI : Addr} {x f : Str} {bm bmB : List Value} {B newId initId : String}
theorem own_made (F : PySem.FLX.NewOf B newId initId bmB bm) (T : OwnTxt x f bm newId K mg C fI) (TI : Inits f K C fI) {v : Value} (X : K.In s.heap) (hlim : s.heap.NoLimit) (hroom : A.depth + 1 < recursionLimit)
    (hq : ∀ h' tk e d, OwnMade f s.heap h' e C d v → R (.ok (.ret (.ref e))) { s with heap := h', toks := tk }) :
    codeAny (model prog w) A (.call (.ref C) ⟨[v], []⟩) R s := by
  obtain ⟨nm, q, N, bs, sn, sub, ab, col, dd, k0, k1, k2, k3, k5, hC⟩ := T.cls
  obtain ⟨hp, g, dr, tk, os⟩ := s
  have k : ∀ b o, hp.get? b = some o → ((hp.push (kdv_tup [v])).push (excO C hp.objs.size)).get? b = some o := fun b o e => Heap.get?_push_of_some _ (Heap.get?_push_of_some _ e)
  have hget : ((hp.push (kdv_tup [v])).push (excO C hp.objs.size)).get? (hp.objs.size + 1) = some (excO C hp.objs.size) := by heap_get
  have hnx : K.lookup (hp.objs.size + 1) = none := by
    cases e : K.lookup (hp.objs.size + 1) with
    | none => rfl
    | some o =>
      have z : hp.get? (hp.objs.size + 1) = some o := X _ _ e
      exact absurd (Nat.lt_of_succ_lt (Heap.lt_size z)) (Nat.lt_irrefl _)
  refine callOwn F (X _ _ hC) (looks_findIn X T.iC) (fun self => bind_fn X self T.tC) (one_size v) ?_
  refine TI prog w _ _ ⟨(hp.push (kdv_tup [v])).push (excO C hp.objs.size), g, dr, tk, os⟩ _ _ v (X.keeps k) (hlim.keeps k) hget hnx ?_ fun h' tk' dx ⟨k', hx, dn, dne, hns⟩ => ?_
  · show A.depth + 1 < recursionLimit
    exact hroom
  · have old : ∀ b o, hp.get? b = some o → h'.get? b = some o := fun b o e => k' b o (Nat.ne_of_lt (Nat.lt_succ_of_lt (Heap.lt_size e))) (k b o e)
    have z : hp.objs.size + 1 + 1 ≤ dx := by
      first
        | (simpa only [Heap.size_push] using dn)
        | exact dn
        | (have q := dn; rw [Heap.size_push, Heap.size_push] at q; exact q)
    exact ⟨rfl, hq h' tk' (hp.objs.size + 1) dx ⟨old, Nat.le_succ _, ⟨_, _, hx, rfl, rfl, rfl, rfl⟩, Nat.le_trans (Nat.le_trans (Nat.le_succ _) (Nat.le_succ _)) z, dne, hns⟩⟩
end
end FLX
end PySem
namespace FL
open PySem PySem.Spec PyProof.Rows L2
variable [Tabz]
theorem relO_own {f : Str} {v : V} {v' : Value} (r : RelV v v') (y : Str) : RelO (List.lookup y [(f, v)]) (if y = f then some v' else none) := by
  by_cases hw : y = f
  · subst hw
    rw [if_pos rfl]
    have q : List.lookup y [(y, v)] = some v := by simp [List.lookup]
    rw [q]
    exact r
  · rw [if_neg hw]
    have qw : (y == f) = false := by simpa using hw
    have q2 : List.lookup y [(f, v)] = none := by simp [List.lookup, qw]
    rw [q2]
    trivial
section
variable {X : Cx} {C fI : Addr} {x f : Str} {bm bmB : List Value} {B newId initId : String}
def tMkX (f : Str) (C : Addr) (ta : TA) : L2.St → Hp → XK → Prop := fun σ H Q => ta σ H fun vs H1 => ∃ v, vs = [v] ∧ ∀ d, H1 d = none → Q (.ref C) (some d) (upd H1 d (.xd [(f, v)]))
theorem pmk_x {a : Expr} {ta : TA} {p pos : Pos} {k : Nat} (F : PySem.FLX.NewOf B newId initId bmB bm) (T : PySem.FLX.OwnTxt x f bm newId X.K X.mg C fI) (TI : PySem.FLX.Inits f X.K C fI) (hr : Room k X.A) (ha : PA X [a] ta) (hg : Gl X x)
    (hdb : (x == ("__debug__" : Str)) = false := by decide) (he : starEach (a :: []) X.env = (false, eval a X.env) :: starEach [] X.env := by rfl) (hpl : (backTo pos (starEach [] X.env)).any (·.1) = false := by rfl) :
    PMk X (.Call (.Name x p) [a] [] pos) (tMkX f C ta) := by
  intro pins s σ H Q I h
  refine wpAny_Call_Name_kw (ld_glob I hg T.gC ?_ hdb)
  refine PySem.W.callWith_K (h₀ := X.base) I.ok.mod.kin T.kC (thn (ha.run pos pins s σ H _ I h) fun us s1 hh => ?_) he hpl
  obtain ⟨vs, H1, I1, r1, v, ev, q1⟩ := hh
  subst ev
  refine ⟨I1.kIn, ?_⟩
  cases r1 with
  | cons rv rn =>
    rename_i v' us'
    cases rn
    show wpAny _ _ (call (.ref C) [v']) _ _ _
    have hlim := I1.nolimit
    obtain ⟨hp, g, dr, tk, os⟩ := s1
    refine wpAny_call (PySem.FLX.own_made F T TI I1.kIn hlim (by have := hr.dp; omega) fun h' tk' e d M => ?_)
    show MkP X pins σ Q (.ref e) ⟨h', g, dr, tk', os⟩
    obtain ⟨oe, fv, hoe, hc, hd, hdat, h1⟩ := M.obj
    have hns := M.ns
    obtain ⟨G', g1, g2⟩ := restrict h' fun b => decide (b ≠ e)
    have gk : ∀ b, b ≠ e → G'.get? b = h'.get? b := fun b hb => g1 b (decide_eq_true hb)
    have ge : G'.get? e = none := g2 e (by simp)
    have old : ∀ b o, hp.get? b = some o → G'.get? b = some o := fun b o q => (gk b (Nat.ne_of_lt (Nat.lt_of_lt_of_le (Heap.lt_size q) M.new))).trans (M.keep b o q)
    have ob : ObjOk X.prog X.w (upd H1 d (.xd [(f, v)])) G' d (.xd [(f, v)]) :=
      ⟨_, hns.at (fun o q => (gk d M.dne).trans q), fun y => relO_own rv y⟩
    have J : Inv X pins σ (upd H1 d (.xd [(f, v)])) ⟨G', g, dr, tk', os⟩ := I1.laid (t' := tk') old M.dbig ob
    refine ⟨e, oe, fv, ⟨G', g, dr, tk', os⟩, _, .ref C, some d, rfl, J, fun b o q => ?_, ge, hoe, ⟨hc, hd⟩, hdat, h1, ?_, rfl, I1.bare, raises_own T.exC T.tyC, q1 d (I1.hok.fresh M.dbig)⟩
    · by_cases hb : b = e
      · have q' : G'.get? b = some o := q
        rw [hb, ge] at q'; cases q'
      · exact (gk b hb).symm.trans q
    · rw [upd_ne (Ne.symm M.dne)]
      exact I1.hok.fresh M.new
/-- raise C(e), the field f stored -/
def sRaise1 (x f : Str) (af : AF) : SF := fun ev h => (af ev h).s ev fun vs h1 => match vs with
  | [v] => .exc x [(f, v)] ev h1
  | _ => .bad
variable {W : WX}
theorem ms_raise1 {a : Expr} {af : AF} {p pos pos2 : Pos} {k : Nat} (hc : X.calm = true) (tk : Takes X W) (F : PySem.FLX.NewOf B newId initId bmB bm) (T : PySem.FLX.OwnTxt x f bm newId X.K X.mg C fI) (TI : PySem.FLX.Inits f X.K C fI) (hr : Room k X.A) (ha : MA X W [a] af) (hg : Gl X x := by rfl)
    (hdb : (x == ("__debug__" : Str)) = false := by decide) (he : starEach (a :: []) X.env = (false, eval a X.env) :: starEach [] X.env := by rfl) (hpl : (backTo pos (starEach [] X.env)).any (·.1) = false := by rfl) :
    MS X W (.Raise (some (.Call (.Name x p) [a] [] pos)) none pos2) (sRaise1 x f af) := ⟨ps_imp (ps_raise hc tk (pmk_x F T TI hr ha.pa hg hdb he hpl)) fun D σ H q => by
  obtain ⟨m, ah, ev, r, re, q⟩ := WiS.bind (R := VRs X.K) q
  refine ⟨m, ah, ev, r, re, ?_⟩
  cases ef : af ev ah with
  | exc c p a => rw [ef] at q; exact q
  | bad => rw [ef] at q; exact q
  | ok v a =>
    rw [ef] at q
    intro m1 H1 y e1 r1 rx
    obtain ⟨m2, ah2, ev2, v2, r2, re2, rv2, q2⟩ := q m1 H1 y e1 r1 rx
    split at q2
    · obtain ⟨x1, rfl, h1⟩ := vrs1 rv2
      refine ⟨x1, rfl, fun d hd => ?_⟩
      have ee : Ext m2 H1 m2 (upd H1 d (.xd [(f, x1)])) := ext_new r2 hd
      exact q2 m2 (upd H1 d (.xd [(f, x1)])) (.ref C) (some d) σ ee (hr_new r2 hd) (re2.ext r2 ee) ⟨C, T.gC, rfl, d, x1, rfl, upd_same, h1.ext r2 ee⟩
    · exact q2.elim⟩
/-- try: body, except C as n: return n.f (any other exception: not covered) -/
def xfK (f : Str) (h : AH) : List (Str × Va) → SR
  | [(y, v)] => if y = f then .rt v h else .bad
  | _ => .bad
def tryK (i : Nat) (x f : Str) : SR → SR
  | .exc c p ev h => if c = x ∧ i < ev.length then xfK f h p else .bad
  | r => r
def sTry1 (i : Nat) (x f : Str) (b : SF) : SF := fun ev h => tryK i x f (b ev h)
end
end FL

set_option Elab.async false
set_option linter.all false
set_option maxRecDepth 100000
set_option maxHeartbeats 2000000
/-! FLI: xs.index(x) of lists of data; try whose handler gives [text, e.field]. -/
namespace FL
open PySem PySem.Spec PyProof.Rows L2
variable [Tabz]
def oIndex : OpM := fun v vs h => match v, vs with
  | .ref l, [y] => (match toPy h depthL (.ref l), toPy h depthL y with
    | some (.list ds), some d => if SeqAt.shaped (.list ds) && SeqAt.shaped d then (match ds.findIdx? (fun z => PyData.eqv z d) with
        | some j => some (.int (j : Nat), h)
        | none => none) else none
    | _, _ => none)
  | _, _ => none
section
variable {X : Cx} {W : WX} {o e : Expr} {fo : EF} {ta : AF} {apos cpos : Pos}
end
section
variable {X : Cx} {W : WX} {C fI : Addr} {x f : Str} {bm : List Value} {newId : String}
/-- try: body, except C as n: return [c, n.f] -/
def xfL (f c : Str) (h : AH) : List (Str × Va) → SR
  | [(y, v)] => if y = f then .rt (.ref h.length) (h ++ [.lst [.str c, v]]) else .bad
  | _ => .bad
def tryL (i : Nat) (x f c : Str) : SR → SR
  | .exc cl p ev h => if cl = x ∧ i < ev.length then xfL f c h p else .bad
  | r => r
def sTryL (i : Nat) (x f c : Str) (b : SF) : SF := fun ev h => tryL i x f c (b ev h)
end
section
variable {h : AH} {ev : Ev} {f c x cl : Str} {v w : Va} {i : Nat} {b : SF}
end
end FL

set_option Elab.async false
set_option linter.all false
set_option maxRecDepth 100000
set_option maxHeartbeats 2000000
/-! FLJ: dicts with keys that are ints: {k: v}, d[k] = v, min(d.values()), [.. for k, v in d.items()]. -/
namespace FL
open PySem PySem.Spec PyProof.Rows L2
variable [Tabz]
section
variable {K : PySem.W.Frag} {H H' : Hp} {m m' : List Addr} {ah : AH}
theorem HR.dct {l : Nat} {a : Addr} {kvs : List (Va × Va)} (r : HR K H m ah) (h : m[l]? = some a) (e : ah[l]? = some (.dct kvs)) : ∃ ps, H a = some (.dK ps) ∧ VRp K H m kvs (kvV ps) := r.at_ l a _ h e
end
def isI (i : Int) : Va → Bool
  | .int j => decide (j = i)
  | _ => false
def putA (kvs : List (Va × Va)) (i : Int) (v : Va) : List (Va × Va) :=
  if kvs.any fun p => isI i p.1 then kvs.map fun p => if isI i p.1 then (p.1, v) else p else kvs ++ [(.int i, v)]
section
variable {K : PySem.W.Frag} {H : Hp} {m : List Addr}
theorem isI_key {i : Int} {x : Va} {k : L2.Key} (h : VR K H m x (kV k)) : isI i x = decide (k = .inl i) := by
  cases k with
  | inl j =>
    change VR K H m x (.int j) at h
    cases h
    show decide (j = i) = _
    by_cases e : j = i
    · subst e; simp
    · rw [decide_eq_false e, decide_eq_false (fun z => e (by cases z; rfl))]
  | inr s =>
    have hn : ∀ (y : V), VR K H m x y → y = .str s → isI i x = false := fun y hy => by
      cases hy <;> intro e <;> first | (cases e; done) | rfl
    rw [hn _ h rfl, decide_eq_false (fun z => nomatch z)]
theorem any_put {i : Int} : ∀ {kvs : List (Va × Va)} {ps : List (L2.Key × V)}, VRp K H m kvs (kvV ps) → (kvs.any fun p => isI i p.1) = ps.any fun kv => decide (kv.1 = .inl i)
  | [], [], _ => rfl
  | p :: kvs, q :: ps, h => by
    have h' : VRp K H m (p :: kvs) ((kV q.1, q.2) :: kvV ps) := h
    cases h' with
    | cons h1 h2 h3 =>
      rw [List.any_cons, List.any_cons, any_put h3, isI_key h1]
  | [], q :: ps, h => by
    have h' : VRp K H m [] ((kV q.1, q.2) :: kvV ps) := h
    cases h'
  | p :: kvs, [], h => by
    have h' : VRp K H m (p :: kvs) [] := h
    cases h'
theorem map_put {i : Int} {v : Va} {w : V} (hv : VR K H m v w) : ∀ {kvs : List (Va × Va)} {ps : List (L2.Key × V)}, VRp K H m kvs (kvV ps) → VRp K H m (kvs.map fun p => if isI i p.1 then (p.1, v) else p) (kvV (ps.map fun kv => if kv.1 = .inl i then (kv.1, w) else kv))
  | [], [], _ => .nil
  | p :: kvs, q :: ps, h => by
    have h' : VRp K H m (p :: kvs) ((kV q.1, q.2) :: kvV ps) := h
    cases h' with
    | @cons a b c d _ _ h1 h2 h3 =>
      have ih := map_put (i := i) hv h3
      rw [List.map_cons, List.map_cons]
      show VRp K H m _ ((kV _, _) :: kvV _)
      rw [isI_key h1]
      by_cases e : q.1 = .inl i
      · rw [decide_eq_true e, if_pos rfl, if_pos e]
        exact .cons h1 hv ih
      · rw [decide_eq_false e, if_neg (by decide), if_neg e]
        exact .cons h1 h2 ih
  | [], q :: ps, h => by
    have h' : VRp K H m [] ((kV q.1, q.2) :: kvV ps) := h
    cases h'
  | p :: kvs, [], h => by
    have h' : VRp K H m (p :: kvs) [] := h
    cases h'
theorem app_put {x y : Va} {a b : V} (h1 : VR K H m x a) (h2 : VR K H m y b) : ∀ {kvs : List (Va × Va)} {ps : List (V × V)}, VRp K H m kvs ps → VRp K H m (kvs ++ [(x, y)]) (ps ++ [(a, b)])
  | _, _, .nil => .cons h1 h2 .nil
  | _, _, .cons g1 g2 g3 => .cons g1 g2 (app_put h1 h2 g3)
theorem VRp.put {i : Int} {v : Va} {w : V} {kvs : List (Va × Va)} {ps : List (L2.Key × V)} (h : VRp K H m kvs (kvV ps)) (hv : VR K H m v w) : VRp K H m (putA kvs i v) (kvV (putK ps (.inl i) w)) := by
  unfold putA putK
  rw [any_put h]
  by_cases e : (ps.any fun kv => decide (kv.1 = .inl i)) = true
  · rw [if_pos e, if_pos e]
    exact map_put hv h
  · rw [if_neg e, if_neg e]
    show VRp K H m _ (List.map _ _)
    rw [List.map_append]
    exact app_put (.int i) hv h
theorem VRp.length : ∀ {kvs : List (Va × Va)} {ps : List (V × V)}, VRp K H m kvs ps → kvs.length = ps.length
  | _, _, .nil => rfl
  | _, _, .cons _ _ h => by rw [List.length_cons, List.length_cons, VRp.length h]
end
/-! ### {k: v} -/
def eD1 (fk fv : EF) : EF := fun ev h => (fk ev (h ++ [.dct []])).bind fun k h1 => (fv ev h1).bind fun v h2 => match k, h2[h.length]? with
  | .int i, some (.dct []) => .ok (.ref h.length) (h2.set h.length (.dct [(.int i, v)]))
  | _, _ => .bad
section
variable {X : Cx} {W : WX} {k v : Expr} {fk fv : EF} {pos : Pos}
end
/-! ### d[k] = v -/
def putAt (o i v : Va) (h : AH) : Option AH := match o, i with
  | .ref l, .int k => match h[l]? with
    | some (.dct kvs) => if kvs.length < lim then some (h.set l (.dct (putA kvs k v))) else none
    | _ => none
  | _, _ => none
def sPutD (fo fi f : EF) : SF := fun ev h => (f ev h).s ev fun v h1 => (fo ev h1).s ev fun o h2 => (fi ev h2).s ev fun i h3 => match putAt o i v h3 with | some h4 => .nx ev h4 | none => .bad
section
variable {X : Cx} {W : WX} {o i e : Expr} {fo fi fe : EF} {p1 pos : Pos}
end
/-! ### min(d.values()) -/
def minVals (p : Va) (h : AH) : Option (Va × AH) := match p with
  | .ref l => match h[l]? with
    | some (.dct kvs) => match allI (kvs.map (·.2)) with
      | some (b :: bs) => some (.int (bs.foldl min b), h)
      | _ => none
    | _ => none
  | _ => none
def eMinV (f : EF) : EF := fun ev h => (f ev h).bind fun v h1 => ofO (minVals v h1)
section
variable {K : PySem.W.Frag} {H : Hp} {m : List Addr}
end
section
variable {X : Cx} {W : WX} {o : Expr} {fo : EF} {p pos apos mpos : Pos}
end
/-! ### what stays known while a dict is locked -/
def KeepT (H H' : Hp) : Prop := ∀ b o, H b = some o → (∀ vs, o ≠ .lst vs) → (∀ kv, o ≠ .dK kv) → (∀ od kv, o ≠ .frz od (.dK kv)) → (∀ ps, o ≠ .tbl ps) → (∀ φ, o ≠ .ext φ) → (∀ C dx fs, o ≠ .ins C dx fs) → H' b = some o
section
variable {K : PySem.W.Frag} {H H' : Hp} {m m' : List Addr}
theorem sqT_t (e : KeepT H H') {a : Addr} {vs : List V} (h : SqT K H a vs) : SqT K H' a vs := by
  rcases h with (h | ⟨o, h⟩) | h
  · exact .inl (.inl (e _ _ h (fun _ z => nomatch z) (fun _ z => nomatch z) (fun _ _ z => nomatch z) (fun _ z => nomatch z) (fun _ z => nomatch z) (fun _ _ _ z => nomatch z)))
  · exact .inl (.inr ⟨o, e _ _ h (fun _ z => nomatch z) (fun _ z => nomatch z) (fun _ _ z => nomatch z) (fun _ z => nomatch z) (fun _ z => nomatch z) (fun _ _ _ z => nomatch z)⟩)
  · exact .inr h
theorem fz_t (e : KeepT H H') {a : Addr} {vs : List V} (h : Fz K H a vs) : Fz K H' a vs := by
  rcases h with ⟨o, h⟩ | h
  · exact .inl ⟨o, e _ _ h (fun _ z => nomatch z) (fun _ z => nomatch z) (fun _ _ z => nomatch z) (fun _ z => nomatch z) (fun _ z => nomatch z) (fun _ _ _ z => nomatch z)⟩
  · exact .inr h
mutual
theorem VR.tr (e : KeepT H H') (p : ∀ (l : Nat) (a : Addr), m[l]? = some a → m'[l]? = some a) : ∀ {x : Va} {v : V}, VR K H m x v → VR K H' m' x v
  | _, _, .non => .non
  | _, _, .bl b => .bl b
  | _, _, .int i => .int i
  | _, _, .str x => .str x
  | _, _, .rp d => .rp d
  | _, _, .ref h => .ref (p _ _ h)
  | _, _, .tup h hs => .tup (sqT_t e h) (VRs.tr e p hs)
  | _, _, .rol h hs => .rol (fz_t e h) (VRs.tr e p hs)
  | _, _, .dv h => .dv (h.to (fun _ _ z => e _ _ z (fun _ z => nomatch z) (fun _ z => nomatch z) (fun _ _ z => nomatch z) (fun _ z => nomatch z) (fun _ z => nomatch z) (fun _ _ _ z => nomatch z)) fun _ _ => sqT_t e)
  | _, _, .exo a => .exo a
  | _, _, .exn h g => .exn (e _ _ h (fun _ z => nomatch z) (fun _ z => nomatch z) (fun _ _ z => nomatch z) (fun _ z => nomatch z) (fun _ z => nomatch z) (fun _ _ _ z => nomatch z)) (VR.tr e p g)
theorem VRs.tr (e : KeepT H H') (p : ∀ (l : Nat) (a : Addr), m[l]? = some a → m'[l]? = some a) : ∀ {x : List Va} {v : List V}, VRs K H m x v → VRs K H' m' x v
  | _, _, .nil => .nil
  | _, _, .cons h hs => .cons (VR.tr e p h) (VRs.tr e p hs)
end
theorem VR.fr0 {x : Va} {v : V} (h : VR K H m x v) (e : inR 0 x = true) : VR K H [] x v := by
  have := VR.less (n := 0) h e
  simpa using this
theorem VRs.fr0 {x : List Va} {v : List V} (h : VRs K H m x v) (e : inRs 0 x = true) : VRs K H [] x v := by
  have := VRs.less (n := 0) h e
  simpa using this
theorem nil_get : ∀ (l : Nat) (a : Addr), ([] : List Addr)[l]? = some a → m'[l]? = some a := fun l a h => by simp at h
end
/-! ### x = [el for a, b in d.items()] -/
def plainEv (ev : Ev) : Ev := ev.map fun o => match o with
  | some v => if inR 0 v then some v else none
  | none => none
def itemsA (kvs : List (Va × Va)) : List Va := kvs.map fun p => .tup [p.1, p.2]
def lcIF (g : GF) (el : EF) (vs : List Nat) (ev : Ev) (h : AH) (kvs : List (Va × Va)) (k : AH → List Va → SR) : SR :=
  if inRs 0 (itemsA kvs) then (if kvs.length < lim then (match compF [] g tYesF el (ewipe (plainEv ev) vs) (itemsA kvs) [] with
    | .ok ys _ => if inRs 0 ys then k h ys else .bad
    | _ => .bad) else .bad) else .bad
def sSetI (i j : Nat) (g : GF) (el : EF) (vs : List Nat) : SF := fun ev h => match ev[j]? with
  | some (some (.ref k)) => (match h[k]? with
    | some (.dct kvs) => lcIF g el vs ev h kvs fun h ys => .nx (ev.set i (some (.ref h.length))) (h ++ [.lst ys])
    | _ => .bad)
  | _ => .bad
theorem er_plain {K : PySem.W.Frag} {H H' : Hp} {m : List Addr} {ev : Ev} {σ : L2.St} (re : ER K H m ev σ) (e : KeepT H H') : ER K H' [] (plainEv ev) σ := by
  refine ⟨by unfold plainEv; rw [List.length_map]; exact re.len, fun i v h => ?_⟩
  unfold plainEv at h
  rw [List.getElem?_map] at h
  cases q : ev[i]? with
  | none => rw [q] at h; cases h
  | some o =>
    rw [q] at h
    cases o with
    | none => cases h
    | some w =>
      change some (if inR 0 w = true then some w else none) = _ at h
      by_cases hw : inR 0 w = true
      · rw [if_pos hw] at h
        cases h
        obtain ⟨u, h1, h2⟩ := re.get i v q
        exact ⟨u, h1, (h2.fr0 hw).tr e nil_get⟩
      · rw [if_neg hw] at h
        cases h
section
variable {X : Cx} {W : WX} {elt : Expr} {elts : List Expr} {kk : Nat} {scope : Scope} {own : List (Str × Nat)} {pos spos tpos apos cpos np : Pos} {g : GF} {el : EF} {i j : Nat} {n y : Str} {py : Pos}
end
end FL

set_option Elab.async false
set_option linter.all false
set_option maxRecDepth 100000
set_option maxHeartbeats 2000000
/-! FLK: while; sorted of a list of ints. -/
namespace FL
open PySem PySem.Spec PyProof.Rows L2
variable [Tabz]
def whileF (t : TF) (b : SF) : Nat → SF
  | 0, _, _ => .bad
  | n + 1, ev, h => match t ev h with
    | .ok true h1 => (match b ev h1 with
      | .nx ev2 h2 => whileF t b n ev2 h2
      | .ct ev2 h2 => whileF t b n ev2 h2
      | .bk ev2 h2 => .nx ev2 h2
      | r => r)
    | .ok false h1 => .nx ev h1
    | .exc c p h1 => .exc c p ev h1
    | .bad => .bad
def fuelW : Nat := 10000000000000000000000000000000000000000
def sWhile (t : TF) (b : SF) : SF := whileF t b fuelW
section
variable {X : Cx} {W : WX} {c : Expr} {body : List Stmt} {t : TF} {b : SF} {pos : Pos}
theorem ms_while (hp : PassesOwn (model X.prog X.w) X.A X.env X.xe) (hc : MT X W c t) (hb : MSs X W body b) : MS X W (.While c body [] pos) (sWhile t b) :=
  ⟨ps_imp (ps_while hp hc.pt hb.pss) fun D σ H q => by
    refine ⟨fun k σ H => ∃ m ah ev, HR X.K H m ah ∧ ER X.K H m ev σ ∧ PostS X.K X.mg W m H D (whileF t b k ev ah), ⟨fuelW, q⟩, ?_⟩
    rintro k σ H ⟨m, ah, ev, r, re, q⟩
    cases k with
    | zero => exact q.elim
    | succ k =>
      unfold whileF at q
      show Wi X.K X.mg RB W t σ H _
      refine ⟨m, ah, ev, r, re, ?_⟩
      cases et : t ev ah with
      | exc cl p a =>
        rw [et] at q
        exact fun m2 H2 cls d e2 r3 x2 => q m2 H2 cls d σ e2 r3 (re.ext r e2) x2
      | bad => rw [et] at q; exact q
      | ok bv a =>
        rw [et] at q
        intro m1 H1 w e1 r1 hw
        cases hw
        cases bv with
        | false => exact q m1 H1 σ e1 r1 (re.ext r e1)
        | true =>
          show ∃ N : L2.St → Hp → Prop, _
          refine ⟨fun σ H => ∃ m ah ev, HR X.K H m ah ∧ ER X.K H m ev σ ∧ PostS X.K X.mg W m H D (whileF t b k ev ah), fun σ' H' z => ⟨k, Nat.lt_succ_self k, z⟩, ?_⟩
          refine ⟨m1, a, ev, r1, re.ext r e1, ?_⟩
          simp only at q
          cases eb : b ev a with
          | nx ev2 h2 =>
            rw [eb] at q
            exact fun m2 H2 σ2 e2 r2 re2 => ⟨m2, h2, ev2, r2, re2, PostS.ext q (e1.trans e2)⟩
          | ct ev2 h2 =>
            rw [eb] at q
            exact fun m2 H2 σ2 e2 r2 re2 => ⟨m2, h2, ev2, r2, re2, PostS.ext q (e1.trans e2)⟩
          | bk ev2 h2 =>
            rw [eb] at q
            exact fun m2 H2 σ2 e2 r2 re2 => q m2 H2 σ2 (e1.trans e2) r2 re2
          | rt v h2 =>
            rw [eb] at q
            exact fun m2 H2 w2 e2 r2 rv2 => q m2 H2 w2 (e1.trans e2) r2 rv2
          | exc cl p ev2 h2 =>
            rw [eb] at q
            exact fun m2 H2 cls d σ2 e2 r2 re2 x2 => q m2 H2 cls d σ2 (e1.trans e2) r2 re2 x2
          | bad => rw [eb] at q; exact q.elim⟩
end
/-- a while loop, by what stands at each turn and a number that falls -/
theorem while_inv {t : TF} {b : SF} {Q : SR → Prop} (I : Nat → Ev → AH → Prop) (hs : ∀ k ev h, I k ev h → (∃ h1, t ev h = .ok false h1 ∧ Q (.nx ev h1)) ∨ (∃ h1, t ev h = .ok true h1 ∧ Ts (b ev h1) fun r => (∃ ev2 h2 k2, r = .nx ev2 h2 ∧ k2 < k ∧ I k2 ev2 h2) ∨ (∃ v h2, r = .rt v h2 ∧ Q (.rt v h2)))) : ∀ (n k : Nat) (ev : Ev) (h : AH), k < n → I k ev h → Ts (whileF t b n ev h) Q
  | 0, _, _, _, hk, _ => absurd hk (Nat.not_lt_zero _)
  | n + 1, k, ev, h, hk, hI => by
    rcases hs k ev h hI with ⟨h1, e, q⟩ | ⟨h1, e, q⟩
    · show Q (whileF t b (n + 1) ev h)
      unfold whileF
      rw [e]
      exact q
    · rcases q with ⟨ev2, h2, k2, e2, hk2, hI2⟩ | ⟨v, h2, e2, q⟩
      · have := while_inv I hs n k2 ev2 h2 (by omega) hI2
        show Q (whileF t b (n + 1) ev h)
        unfold whileF
        rw [e]
        simp only [e2]
        exact this
      · show Q (whileF t b (n + 1) ev h)
        unfold whileF
        rw [e]
        simp only [e2]
        exact q
/-! ### sorted -/
def insI (x : Int) : List Int → List Int
  | [] => [x]
  | y :: l => if x ≤ y then x :: y :: l else y :: insI x l
def sortI : List Int → List Int
  | [] => []
  | x :: l => insI x (sortI l)
def oSorted : OpN := fun ps h => match ps with
  | [.ref l] => (match lstAt h l with
    | some xs => (match allI xs with
      | some is => if is.length < 64 then some (.ref h.length, h ++ [.lst ((sortI is).map Va.int)]) else none
      | none => none)
    | none => none)
  | _ => none
section
variable {t : TF} {b : SF} {ev : Ev} {h : AH}
theorem s_while : sWhile t b ev h = whileF t b fuelW ev h := rfl
end
end FL

set_option Elab.async false
set_option linter.all false
set_option maxRecDepth 100000
set_option maxHeartbeats 2000000
/-! FLO: list(zip(xs, ys)) of two lists. -/
namespace FL
open PySem PySem.Spec PyProof.Rows L2 RZ
variable [Tabz]
section
variable {prog : Program} {wo : World} {A : Around} {E : Value → Shared → Prop} {s : Shared}
end
def ZSt (h : Heap) (z TI TO i1 i2 a b : Addr) (i : Nat) : Prop := (∃ w f, IsZA h z TI TO w f ∧ OutW w) ∧ IsPair h TI (.ref i1) (.ref i2) ∧ (∃ x y, IsPair h TO x y) ∧ h.IsListIter i1 a i ∧ h.IsListIter i2 b i
theorem ZSt.keep {h h' : Heap} {z TI TO i1 i2 a b : Addr} {i : Nat} (st : ZSt h z TI TO i1 i2 a b i) (k : ∀ c ∈ [z, TI, TO, i1, i2], ∀ o, h.get? c = some o → h'.get? c = some o) : ZSt h' z TI TO i1 i2 a b i := by
  obtain ⟨⟨w, f, hz, ow⟩, hTI, ⟨x, y, hTO⟩, h1, h2⟩ := st
  exact ⟨⟨w, f, k z (by simp) _ hz, ow⟩, k TI (by simp) _ hTI, ⟨x, y, k TO (by simp) _ hTO⟩, h1.at fun o q => k i1 (by simp) o q, h2.at fun o q => k i2 (by simp) o q⟩
/-- what a list of a zip is -/
def ZipTs (xs ys : List V) (H : Hp) (Ts : List Addr) : Prop := ∀ (j : Nat) (T : Addr), Ts[j]? = some T → ∃ x y, xs[j]? = some x ∧ ys[j]? = some y ∧ H T = some (.tup [x, y])
def tLZ (ta : TA) : TE := fun σ H Q => ta σ H fun vs H1 => ∃ a b xs ys, vs = [.ref a, .ref b] ∧ H1 a = some (.lst xs) ∧ H1 b = some (.lst ys) ∧ min xs.length ys.length < sizeLine ∧
  ∀ (p : Addr) (H2 : Hp) (Ts : List Addr), H1 p = none → (∀ (c : Addr) (o : HO), H1 c = some o → H2 c = some o) → H2 p = some (.lst (Ts.map V.ref)) → Ts.length = min xs.length ys.length → ZipTs xs ys H2 Ts → Q (.ref p) H2
section
variable {X : Cx} {e1 e2 : Expr} {ta : TA} {p pos p2 pos2 : Pos}
end
def eLZ (ta : AF) : EF := fun ev h => (ta ev h).bind fun vs h1 => match vs with
  | [.ref k, .ref l] => (match lstAt h1 k, lstAt h1 l with
    | some xs, some ys => if xs.length < lim then .ok (.ref h1.length) (h1 ++ [.lst (zipF xs ys)]) else .bad
    | _, _ => .bad)
  | _ => .bad
section
variable {X : Cx} {W : WX} {e1 e2 : Expr} {ta : AF} {p pos p2 pos2 : Pos}
end
end FL

set_option Elab.async false
set_option linter.all false
set_option maxRecDepth 100000
set_option maxHeartbeats 2000000
/-! FLD: dicts whose keys are tuples of ints, made by {w: n for n, w in ..} and only read. -/
namespace FL
open PySem PySem.Spec PyProof.Rows L2
variable [Tabz]
/-! ### the dict as a thing of one's own -/
def φD (D : Addr) (xs : List (List Int × Addr × Value)) : Heap → Prop := fun h => ∃ o es ep, h.get? D = some o ∧ o.ExactDict ∧ o.data = .dict es ep ∧ es.toList = xs.map entI
def keysK (xs : List (List Int × Addr × Value)) : List (List L2.Key × Addr × Value) := xs.map fun x => (x.1.map Sum.inl, x.2)
section
variable {X : Cx} {pins : List (Addr × Obj)} {σ : L2.St} {H : Hp} {s : Shared} {a b D : Addr} {ks : List Int} {xs : List (List Int × Addr × Value)} {E : Value → Shared → Prop}
end
/-! ### the comprehension -/
section
variable {X : Cx}
def tDcT (wi : TI) (g : TG) (tk tv : TE) (vs : List Nat) : TE := fun σ H Q => wi σ H fun J H1 => ∀ D, H1 D = none → ∃ W : Nat → Nat → Hp → Prop, (∃ m, W 0 m (upd H1 D (.ext (φD D [])))) ∧ ∀ i m H, W i m H →
  (J.stop i H ∧ ∃ xs, H D = some (.ext (φD D xs)) ∧ ∀ o es ep, o.ExactDict → o.data = .dict es ep → es.toList = xs.map entI → Q (.ref D) (upd H D (.frz o (.ext (φD D xs))))) ∨
  (J.go i H ∧ ∃ Nx : Hp → Prop, (∀ H', Nx H' → ∃ m', m' < m ∧ W (i + 1) m' H') ∧ ∀ x H', J.yld i H x H' → g x (wipe σ vs) H' fun σ2 H2 => wipe σ2 vs = wipe σ vs ∧
    tk σ2 H2 fun y H4 => tv σ2 H4 fun z H5 => ∃ xs ks b, y = .ref b ∧ H5 D = some (.ext (φD D xs)) ∧ (∀ x ∈ xs, SqT X.K H5 x.2.1 (x.1.map V.int)) ∧ (xs.map (·.1)).Nodup ∧ SqT X.K H5 b (ks.map V.int) ∧ ks ∉ xs.map (·.1) ∧ xs.length < sizeLine ∧ ∀ u, RelV z u → Nx (upd H5 D (.ext (φD D (xs ++ [(ks, b, u)])))))
end
end FL

set_option Elab.async false
set_option linter.all false
set_option maxRecDepth 100000
set_option maxHeartbeats 2000000
/-! FLH: {w: n for n, w in ..} and d[k], as plain functions. -/
namespace FL
open PySem PySem.Spec PyProof.Rows L2
variable [Tabz]
/-! ### all stays but what is of one's own -/
def KeepX (H H' : Hp) : Prop := ∀ b o, H b = some o → (∀ φ, o ≠ .ext φ) → H' b = some o
section
variable {K : PySem.W.Frag} {H H' : Hp} {m : List Addr}
theorem sqT_x (e : KeepX H H') {a : Addr} {vs : List V} (h : SqT K H a vs) : SqT K H' a vs := by
  rcases h with (h | ⟨o, h⟩) | h
  · exact .inl (.inl (e _ _ h (fun _ z => nomatch z)))
  · exact .inl (.inr ⟨o, e _ _ h (fun _ z => nomatch z)⟩)
  · exact .inr h
theorem fz_x (e : KeepX H H') {a : Addr} {vs : List V} (h : Fz K H a vs) : Fz K H' a vs := by
  rcases h with ⟨o, h⟩ | h
  · exact .inl ⟨o, e _ _ h (fun _ z => nomatch z)⟩
  · exact .inr h
mutual
theorem VR.ofx (e : KeepX H H') : ∀ {x : Va} {v : V}, VR K H m x v → VR K H' m x v
  | _, _, .non => .non
  | _, _, .bl b => .bl b
  | _, _, .int i => .int i
  | _, _, .str x => .str x
  | _, _, .rp d => .rp d
  | _, _, .ref h => .ref h
  | _, _, .tup h hs => .tup (sqT_x e h) (VRs.ofx e hs)
  | _, _, .rol h hs => .rol (fz_x e h) (VRs.ofx e hs)
  | _, _, .dv h => .dv (h.to (fun _ _ z => e _ _ z (fun _ z => nomatch z)) fun _ _ => sqT_x e)
  | _, _, .exo a => .exo a
  | _, _, .exn h g => .exn (e _ _ h (fun _ z => nomatch z)) (VR.ofx e g)
theorem VRs.ofx (e : KeepX H H') : ∀ {xs : List Va} {vs : List V}, VRs K H m xs vs → VRs K H' m xs vs
  | _, _, .nil => .nil
  | _, _, .cons h hs => .cons (VR.ofx e h) (VRs.ofx e hs)
end
end
/-! ### {w: n for n, w in ..} -/
def dcF (gs : List (Nat × List Va)) (g : GF) (ik iv : Nat) (ev0 : Ev) (h : AH) : List Va → List (List Int × Int) → Option (List (List Int × Int))
  | [], acc => if gsOk gs h then some acc else none
  | x :: xs, acc => if gsOk gs h then match g x ev0 with
      | none => none
      | some ev1 => match ev1[ik]?, ev1[iv]? with
        | some (some (.tup ks)), some (some (.int n)) => match allI ks with
          | some is => if is ∈ acc.map (·.1) then none else dcF gs g ik iv ev0 h xs (acc ++ [(is, n)])
          | none => none
        | _, _ => none
    else none
def dcK (g : GF) (ik iv : Nat) (vs : List Nat) (ev : Ev) : Src → AH → Rs Va := fun s h1 =>
  if s.items.length < lim then match dcF s.gs g ik iv (ewipe ev vs) h1 s.items [] with
    | some kvs => .ok (.dv kvs) h1
    | none => .bad
  else .bad
def eDcT (i : IF) (g : GF) (ik iv : Nat) (vs : List Nat) : EF := fun ev h => (i ev h).bind (dcK g ik iv vs ev)
theorem vr_tup {K : PySem.W.Frag} {H : Hp} {m : List Addr} {xs : List Va} {v : V} (h : VR K H m (.tup xs) v) : ∃ a vs, v = .ref a ∧ SqT K H a vs ∧ VRs K H m xs vs := by
  cases h with
  | tup h hs => exact ⟨_, _, rfl, h, hs⟩
theorem DvE.keys {K : PySem.W.Frag} {H : Hp} : ∀ {kvs : List (List Int × Int)} {xs : List (List Int × Addr × Value)}, DvE K H kvs xs → kvs.map (·.1) = xs.map (·.1)
  | _, _, .nil => rfl
  | _, _, .cons h t => by rw [List.map_cons, List.map_cons, h.1, DvE.keys t]
theorem DvE.sq {K : PySem.W.Frag} {H : Hp} : ∀ {kvs : List (List Int × Int)} {xs : List (List Int × Addr × Value)}, DvE K H kvs xs → ∀ x ∈ xs, SqT K H x.2.1 (x.1.map V.int)
  | _, _, .nil => fun x hx => nomatch hx
  | _, _, .cons h t => fun x hx => by
    rcases List.mem_cons.mp hx with rfl | hx
    · exact h.2.1
    · exact DvE.sq t x hx
theorem DvE.find {K : PySem.W.Frag} {H : Hp} {is : List Int} {n : Int} : ∀ {kvs : List (List Int × Int)} {xs : List (List Int × Addr × Value)}, DvE K H kvs xs → ((kvs.find? fun p => decide (p.1 = is)).map (·.2)) = some n → ∃ b u, ((xs.find? fun x => decide (x.1 = is)).map (·.2)) = some (b, u) ∧ RelV (.int n) u
  | _, _, .nil, e => nomatch e
  | _, _, .cons (a := p) (b := x) h t, e => by
    rw [List.find?_cons] at e ⊢
    rw [← h.1]
    by_cases hp : p.1 = is
    · rw [decide_eq_true hp] at e ⊢
      have e : p.2 = n := Option.some.inj e
      exact ⟨x.2.1, x.2.2, rfl, by rw [← e]; exact h.2.2⟩
    · rw [decide_eq_false hp] at e ⊢
      exact DvE.find t e
section
variable {X : Cx} {W : WX} {tg iter : Expr} {scope : Scope} {own : List (Str × Nat)} {pos : Pos} {fi : IF} {g : GF} {ik iv : Nat}
end
/-! ### d[k] -/
def getD2 (p q : Va) (h : AH) : Option (Va × AH) := match p, q with
  | .dv kvs, .tup ks => match allI ks with
    | some is => ((kvs.find? fun p => decide (p.1 = is)).map (·.2)).map fun n => (.int n, h)
    | none => none
  | _, _ => none
def tDGetV (K : PySem.W.Frag) (td ty : TE) : TE := fun σ H Q => td σ H fun x H1 => ty σ H1 fun y H2 => ∃ a b kvs is n, x = .ref a ∧ y = .ref b ∧ Dv K H2 a kvs ∧ SqT K H2 b (is.map V.int) ∧ ((kvs.find? fun p => decide (p.1 = is)).map (·.2)) = some n ∧ Q (.int n) H2
section
variable {X : Cx} {W : WX} {o i : Expr} {pos : Pos} {td ty : TE} {fo fi : EF}
end
end FL

set_option Elab.async false
set_option linter.all false
set_option maxRecDepth 100000
set_option maxHeartbeats 2000000
/-! FLA: try: .. except C as n: return n.f == k. -/
namespace FL
open PySem PySem.Spec PyProof.Rows L2
variable [Tabz]
section
variable {X : Cx} {W : WX} {C fI : Addr} {x f : Str} {bm : List Value} {newId : String}
def xfQ (f : Str) (k : Int) (h : AH) : List (Str × Va) → SR
  | [(y, .int v)] => if y = f then .rt (.bl (decide (v = k))) h else .bad
  | _ => .bad
def tryQ (i : Nat) (x f : Str) (k : Int) : SR → SR
  | .exc cl p ev h => if cl = x ∧ i < ev.length then xfQ f k h p else .bad
  | r => r
def sTryQ (i : Nat) (x f : Str) (k : Int) (b : SF) : SF := fun ev h => tryQ i x f k (b ev h)
end
section
variable {h : AH} {ev : Ev} {f x cl : Str} {v k : Int} {i : Nat} {b : SF} {w : Va}
end
end FL

set_option Elab.async false
set_option linter.all false
set_option maxRecDepth 100000
set_option maxHeartbeats 2000000
/-! FLB: x(lambda: body): the def x calls what it got first of all; its meaning is a function of the outcome of that call. -/
namespace FL
open PySem PySem.Spec PyProof.Rows L2
variable [Tabz]
section
variable {X : Cx} {W : WX}
/-- what the lambda's def may let out is what the caller takes -/
theorem takes_lam {A : Around} {outer : List Env} {s : Shared} {H : Hp} {E : XK} {scope : Scope} {f c' : Addr} : Takes (LamX.lamCx X A outer s H E scope f c') (WB E) := takes_of rfl rfl rfl rfl
abbrev gX (X : Cx) (Ng : List Str) (x : Str) (sg : Scope) (g : Addr) (cdg : Value) (s : Shared) (H : Hp) : Cx := cxOf C8.CX0 X.prog X.w X.K X.mg X.base Ng x sg g cdg X.A X.stack s H C8.E0
/-- the thunk called in the def that got it: what it lets out meets the def's wish at this very state -/
theorem pe_thunk {pins : List (Addr × Obj)} {σ : L2.St} {H : Hp} {s : Shared} {Ng : List Str} {x : Str} {sg : Scope} {g f c' : Addr} {cdg pm ctv : Value} {params : Arguments} {body : Expr} {scope : Scope} {k i : Nat} {a : Str} {pn : List (Addr × Obj)} {xe : Value → Shared → Prop} {W : WX} {t : XK → TE} {p1 p2 : Pos}
    (I : Inv X pins σ H s) (L : LamX.LamS X.env.scope scope) (hf : s.heap.get? f = some (PySem.W.kla_obj "<lambda>" (X.env.qual ++ "<lambda>") params body scope (cloFrom X.env.cells scope.names []) pm c' ctv)) (hfn : H f = none) (hfr : f ∉ frs X.stack)
    (hbind : bindArgs (PySem.W.kla_fn "<lambda>" (X.env.qual ++ "<lambda>") params body scope (cloFrom X.env.cells scope.names []) pm (.ref c') ctv) ⟨[], []⟩ = pure [])
    (tk : Takes ((gX X Ng x sg g cdg s H).tr pn xe) W) (hr : Room (k + 1) (X.A.deeper (envOfC x sg s.heap.objs.size g cdg)))
    (hbody : ∀ (A : Around) (outer : List Env) (s : Shared) (H : Hp) (E : XK), Room k (A.deeper (LamX.lamEnv X scope s.heap.objs.size f c')) → (A.deeper (LamX.lamEnv X scope s.heap.objs.size f c')).guards = (X.A.deeper (envOfC x sg s.heap.objs.size g cdg)).guards → PE (LamX.lamCx X A outer s H E scope f c') body (t E))
    (hN : Ng[i]? = some a) (hv : Vis sg a) (hd : (a == ("__debug__" : Str)) = false := by decide) (hcd : (a == ("__classdict__" : Str)) = false := by decide) :
    PE ((gX X Ng x sg g cdg s H).tr pn xe) (.Call (.Name a p1) [] [] p2)
      (fun σZ HZ Q => σZ[i]? = some (some (.ref f)) ∧ HZ c' = some (LamX.CodeO c' (X.env.qual ++ "<lambda>")) ∧ t (WE W σZ) σ HZ Q) := by
  refine ⟨fun pinsZ sZ σZ HZ Q IZ h => ?_⟩
  obtain ⟨z1, z2, z3⟩ := h
  refine wpAny_Call_Name_kw (thn ((pe_var (pos := p1) (i := i) hN hv hd hcd).run pinsZ sZ σZ HZ (fun v H1 => v = .ref f ∧ H1 = HZ) IZ ⟨.ref f, z1, rfl, rfl⟩) fun u s1 q0 => ?_)
  obtain ⟨v, H1, I1, r1, e1, e2⟩ := q0
  subst e1
  rw [e2] at I1
  obtain rfl : u = Value.ref f := r1
  have of1 := I1.base.keep f _ hf hfn hfr (fun z => nomatch (show f ∈ ([] : List Addr) from z))
  refine PySem.W.callWith_F0 ⟨_, _, _, _, of1⟩ ?_
  obtain ⟨⟨oc, vs, tok, y1, y2, y3⟩, _, _⟩ := I1.hok c' _ z2
  have rc : codeAny (model X.prog X.w) (X.A.deeper (envOfC x sg s.heap.objs.size g cdg)) (.call (.ref f) ⟨[], []⟩) (CR (L2.CX X.prog X.w) (envOfC x sg s.heap.objs.size g cdg :: X.stack) X.prog X.w HZ s1 Q (WE W σZ)) s1 := by
    refine PySem.W.kla_callFunE hr.depth of1 rfl L.co L.gen rfl ⟨c', oc, vs, tok, rfl, y1, y2, y3⟩ ?_
    rw [hbind]
    refine wpAny_pure (wpAny_newFunctionEnv (fun y hy => (L.own y hy).2) (fun y hy => absurd hy (by simp)) (fun h₁ hns hsb => ⟨I1.nolimit.fresh _ hsb, ?_⟩) L.kind)
    have kp : ∀ b o, s1.heap.get? b = some o → h₁.get? b = some o := fun b o e => hsb.extBut b o (Nat.ne_of_lt (Heap.lt_size e)) (Heap.get?_push_of_some _ e)
    refine PySem.W.kla_codeExpr (wpAny_mono ((hbody _ _ s1 HZ (WE W σZ) (hr.deeper _) rfl).run [] _ _ HZ Q (LamX.lam_start2 I L I1.env0 hr.hd I1.base hns kp) z3) (fun v s' hq => ?_) fun e s' hq => hq)
    obtain ⟨w', H', J', rv, q⟩ := hq
    exact ⟨w', H', J'.os, J'.bare, J'.base, J'.hok, rv, q⟩
  refine wpAny_call (codeAny_mono rc fun r s' hq => ?_)
  cases r with
  | error e => exact L2.passAt tk σZ pinsZ HZ s1 e s' I1 hq
  | ok fl =>
    cases fl with
    | ret u => exact I1.after hq
    | next => exact False.elim hq
    | brk => exact False.elim hq
    | cont => exact False.elim hq
/-- nothing is let out -/
def okOnly {α : Type} : Rs α → Rs α
  | .ok v h => .ok v h
  | _ => .bad
/-- the def x, given a thunk with the outcome r at its start, has the outcome mo r -/
def GvF (X : Cx) (k : Nat) (Ng : List Str) (x : Str) (sg : Scope) (g : Addr) (cdg : Value) (bg : List Stmt) (a q : Str) (mo : Rs Va → Rs Va) : Prop :=
  ∀ (f c' : Addr) (s : Shared) (H : Hp) (Q : VK) (m : List Addr) (ah : AH) (r : Rs Va),
    (∀ (W : WX) (pn : List (Addr × Obj)) (xe : Value → Shared → Prop) (p1 p2 : Pos), Takes ((gX X Ng x sg g cdg s H).tr pn xe) W →
      PE ((gX X Ng x sg g cdg s H).tr pn xe) (.Call (.Name a p1) [] [] p2) (fun σZ HZ Q' => σZ[0]? = some (some (.ref f)) ∧ HZ = H ∧ Post X.K X.mg (VR X.K) m H (WE W σZ) r (fun w H' => Q' w H'))) →
    HR X.K H m ah → Post X.K X.mg (VR X.K) m H C8.E0 (okOnly (mo r)) (fun w H' => Q w H') → Room (k + 1) (X.A.deeper (envOfC x sg s.heap.objs.size g cdg)) → (X.A.deeper (envOfC x sg s.heap.objs.size g cdg)).guards = some [] →
    ∃ t, PSs (gX X Ng x sg g cdg s H).nox bg t ∧ t { nx := fun _ H' => Q .non H', rt := Q } (L2.start Ng [.ref f]) H
/-- x(lambda: el) -/
def eLam (mo : Rs Va → Rs Va) (el : EF) : EF := fun ev h => okOnly (mo (el ev h))
theorem extN_ext {H H1 : Hp} {m : List Addr} (e : LamX.ExtN H H1) : Ext m H m H1 := ⟨⟨[], by simp⟩, fun b o h _ nt => e b o h nt, fun a h1 h2 => absurd h1 h2⟩
theorem hr_extN {K : PySem.W.Frag} {H H1 : Hp} {m : List Addr} {ah : AH} (r : HR K H m ah) (e : LamX.ExtN H H1) (t : LamX.Tabs Tabz.T H1) : HR K H1 m ah := by
  refine ⟨r.len, r.nd, fun l a o h1 h2 => ?_, t⟩
  refine (r.at_ l a o h1 h2).ext r (extN_ext e) ?_
  rcases r.mut (List.mem_of_getElem? h1) with ⟨vs, q⟩ | ⟨kv, q⟩ | ⟨kv, q⟩ | ⟨_, _, _, q⟩
  · rw [q]; exact e _ _ q (fun _ z => nomatch z)
  · rw [q]; exact e _ _ q (fun _ z => nomatch z)
  · rw [q]; exact e _ _ q (fun _ z => nomatch z)
  · rw [q]; exact e _ _ q (fun _ z => nomatch z)
theorem me_lam {mo : Rs Va → Rs Va} {el : EF} {x a : Str} {g c P : Addr} {k : Nat} {pg : Arguments} {bg : List Stmt} {sg : Scope} {dV kV doc pm cdv ct oc : Value} {an od : Option Addr} {osl : Array (Option Value)} {Ng : List Str}
    {params : Arguments} {body : Expr} {scope : Scope} {p lpos pos : Pos} (hg : Gl X x) (hm : X.mg x = some (.ref g)) (hk : PySem.W.keepIn X.K (.ref g) = true)
    (lk : X.K.lookup g = some ⟨oc, od, .func (PySem.W.fnOf x x pg bg sg dV kV doc pm an cdv ct), osl⟩) (hcg : PySem.W.codeIn X.K cdv x = true) (hb : L2.Binds X.K (PySem.W.fnOf x x pg bg sg dV kV doc pm an cdv ct) [a] []) (Sg : FnScope Ng [a] sg) (hNg : Ng[0]? = some a) (hva : Vis sg a)
    (hG : GvF X k Ng x sg g cdv bg a (X.env.qual ++ "<lambda>") mo)
    (TB : LamX.TabB X.base X.mg c P) (hcode : X.env.code = .ref c) (hmT : (P, X.env.qual ++ "<lambda>") ∈ Tabz.T) (hu : ∀ p ∈ Tabz.T, p.1 = P → p.2 = X.env.qual ++ "<lambda>") (hr : Room (k + 2) X.A) (hgd : X.A.guards = some []) (L : LamX.LamS X.env.scope scope) (hdef : defaultsOf params X.env = ([], []))
    (hbind : ∀ (q : Str) (cl : List (Str × Addr)) (pm cv ctv : Value), bindArgs (PySem.W.kla_fn "<lambda>" q params body scope cl pm cv ctv) ⟨[], []⟩ = pure [])
    (hbody : ∀ (A : Around) (outer : List Env) (s : Shared) (H : Hp) (E : XK) (f c' : Addr), Room k (A.deeper (LamX.lamEnv X scope s.heap.objs.size f c')) → (A.deeper (LamX.lamEnv X scope s.heap.objs.size f c')).guards = some [] → ME (LamX.lamCx X A outer s H E scope f c') (WB E) body el)
    (hdb : (x == ("__debug__" : Str)) = false := by decide) (hd : (a == ("__debug__" : Str)) = false := by decide) (hcd : (a == ("__classdict__" : Str)) = false := by decide) :
    ME X W (.Call (.Name x p) [.Lambda params body scope lpos] [] pos) (eLam mo el) := by
  refine ⟨⟨fun pins s σ H Q I h => ?_⟩⟩
  obtain ⟨m, ah, ev, r, re, q⟩ := h
  refine wpAny_Call_Name_kw (ld_glob I hg hm ?_ hdb)
  refine PySem.W.callWith_K (h₀ := X.base) I.ok.mod.kin hk ?_ (by rfl) (by rfl)
  show wpAny _ _ (spliced ((false, eval (.Lambda params body scope lpos) X.env) :: backTo pos (starEach [] X.env))) _ _ s
  refine Calls.spliced_cons (LamX.lam_make2 I TB hcode hmT hu r.tb hdef (L.has I.ok) fun f c' pm' ctv H1 s' I1 eN T1 hf hfn hfr hco => ?_)
  refine Calls.spliced_nil ⟨I1.kIn, ?_⟩
  have e1 := extN_ext (m := m) eN
  have r1 := hr_extN r eN T1
  have re1 := re.ext r e1
  have q2 : Post X.K X.mg (VR X.K) m H1 C8.E0 (okOnly (mo (el ev ah))) (fun w H' => Q w H') := by
    have q2 := Post.ext q e1
    unfold eLam at q2
    cases e : okOnly (mo (el ev ah)) with
    | ok v h' => rw [e] at q2; exact q2
    | bad => rw [e] at q2; exact q2
    | exc cl p h' =>
      cases e3 : mo (el ev ah) <;> rw [e3] at e <;> simp [okOnly] at e
  have rc : codeAny (model X.prog X.w) X.A (.call (.ref g) ⟨[.ref f], []⟩) (CR C8.CX0 X.stack X.prog X.w H1 s' Q C8.E0) s' := by
    refine LamX.run_ofS (N := Ng) (ps := [a]) (us := [.ref f]) (vs := [.ref f]) lk hcg Sg hr I1.env0 (hb s' [.ref f] I1.kIn rfl) (.cons rfl .nil) rfl fun hr' => ?_
    have hgd' : (X.A.deeper (envOfC x sg s'.heap.objs.size g cdv)).guards = some [] := hgd
    obtain ⟨t', ht', hq'⟩ := hG f c' s' H1 Q m ah (el ev ah) (fun W pn xe p1 p2 tk =>
      pe_imp (pe_thunk (i := 0) (t := fun E => Wi X.K X.mg (VR X.K) (WB E) el) I1 L hf hfn hfr (hbind _ _ _ _ _) tk hr' (fun A outer s H E hr2 hg2 => (hbody A outer s H E f c' hr2 (hg2.trans hgd')).pe) hNg hva hd hcd)
        fun σZ HZ Q' ⟨z1, z2, z3⟩ => by
          subst z2
          exact ⟨z1, hco, m, ah, ev, r1, re1, z3⟩) r1 q2 hr' hgd'
    exact ⟨t', ht'.nox, hq'⟩
  refine wpAny_call (codeAny_mono rc fun r s2 hq => ?_)
  cases r with
  | error e => exact (show False from hq).elim
  | ok fl =>
    cases fl with
    | ret u => exact I1.after hq
    | next => exact False.elim hq
    | brk => exact False.elim hq
    | cont => exact False.elim hq
end
end FL

set_option Elab.async false
set_option linter.all false
set_option maxRecDepth 100000
set_option maxHeartbeats 2000000
/-! FLBR: def x(a): try: a() / except C as n: return repr(n.f) / return None. -/
namespace FL
open PySem PySem.Spec PyProof.Rows L2
variable [Tabz]
section
variable {X : Cx}
def exRepr (xc f : Str) (c : Str) (p : List (Str × Va)) (h : AH) : Rs Va := match p with
  | [(y, v)] => if c = xc ∧ y = f then match oReprN [v] h with
    | some (w, h') => .ok w h'
    | none => .bad else .bad
  | _ => .bad
def moRepr (xc f : Str) : Rs Va → Rs Va
  | .ok _ h => .ok .non h
  | .exc c p h => exRepr xc f c p h
  | .bad => .bad
end
end FL

set_option Elab.async false
set_option linter.all false
set_option maxRecDepth 100000
set_option maxHeartbeats 2000000
/-! FLBT: the law's end where defs make lambdas: their tables are empty behind the top. -/
namespace FL
open PySem PySem.Spec PyProof.Rows L2
/-- nothing but frozen lists and the tables is told -/
def OnlyT (cs : List (Addr × Addr)) (H : Hp) : Prop := ∀ b, H b = none ∨ (b ∈ cs.map (·.2) ∧ H b = some (.tbl #[])) ∨ ∃ o xs, H b = some (.frz o (.lst xs))
theorem onlyT_fz {cs : List (Addr × Addr)} {K : PySem.W.Frag} {H : Hp} {a : Addr} {vs : List V} (o : OnlyT cs H) (h : SqL K H a vs) : Fz K H a vs := by
  rcases h with (h | ⟨ob, h⟩) | h
  · rcases o a with z | ⟨_, z⟩ | ⟨ob, xs, z⟩ <;> (rw [h] at z; cases z)
  · exact .inl ⟨ob, h⟩
  · exact .inr h
theorem law_callGT [Tabz] {P : Program} {w : World} {K : PySem.W.Frag} {mg mb : Str → Option Value} {k : Nat} {fa ad : Addr} {cs : List (Addr × Addr)} {fd : FuncData} {x : Str} {F : List Va → AH → Rs Va} {t1 : Shared} {us : List Value} {ns : List Int}
    (kx : K.In t1.heap) (gn : t1.heap.Ns mainGlobals mg) (gb : t1.heap.Ns builtinsNs mb) (gbb : ∀ y : Str, y ≠ "__name__" → mb y = bootBuiltins y) (gl : t1.heap.NoLimit) (gg : t1.gens = #[])
    (hT : ∀ p ∈ cs, t1.heap.get? p.2 = some { cls := .none, data := .fields #[] }) (nT : ∀ p ∈ cs, K.lookup p.2 = none) (C : ∀ p ∈ cs, PySem.W.CodeHd t1.heap p.1 p.2) (hTs : ∀ p ∈ Tabz.T, p.1 ∈ cs.map (·.2))
    (hbm : ∃ (bm : Addr) (ob : Obj), mg "__builtins__" = some (.ref bm) ∧ bm ≠ builtinsNs ∧ t1.heap.get? bm = some ob ∧ ob.cls = .type "module" ∧ ob.dict = some builtinsNs ∧ ob.data = .plain)
    (ga : t1.heap.get? ad = some { cls := .type "list", data := .seq us.toArray }) (gi : IntsAre us ns) (gz : ns.length ≤ sizeLine) (hr : Room k callerA) (hgc : callerA.guards = some [])
    (G : ∀ base : Heap, K.In base → base.Ns mainGlobals mg → (∀ p ∈ cs, LamX.TabB base mg p.1 p.2) → FnG P w K mg base k fa fd [x] F) (hbind : ∀ (s : Shared) (u : Value), BindsTo s fd ⟨[u], []⟩ [(x, u)])
    (hsp : ∃ ah, F [.rol (ns.map Va.int)] [] = .ok (.bl true) ah) :
    codeAny (model P w) callerA (.call (.ref fa) ⟨[.ref ad], []⟩) (fun r s2 => r = .ok (.ret (.bool true)) ∧ OldK t1.heap s2.heap ∧ s2.os = t1.os ∧ AllBare s2.gens) t1 := by
  have rv0 := vals_ints gi
  have ln0 := gi.length
  have isT : ∀ b : Addr, b ∈ cs.map (·.2) → t1.heap.get? b = some { cls := .none, data := .fields #[] } := fun b hb => by
    obtain ⟨p, hp, e⟩ := List.mem_map.mp hb
    rw [← e]
    exact hT p hp
  have adT : ad ∉ cs.map (·.2) := fun z => by
    have q := isT ad z
    rw [ga] at q
    have z' : Data.seq us.toArray _ = Data.fields #[] := congrArg Obj.data (Option.some.inj q)
    cases z'
  have memT : ∀ p ∈ cs, p.2 ∈ cs.map (·.2) := fun p hp => List.mem_map.mpr ⟨p, hp, rfl⟩
  have main : ∀ H : Hp, (∀ b ∈ cs.map (·.2), H b = some (.tbl #[])) → OnlyT cs H → SqL K H ad (ns.map V.int) → HOk P w H t1.heap → (∀ b, H b ≠ none → b = ad ∨ b ∈ cs.map (·.2)) → (H ad ≠ none → K.lookup ad = none) →
      codeAny (model P w) callerA (.call (.ref fa) ⟨[.ref ad], []⟩) (fun r s2 => r = .ok (.ret (.bool true)) ∧ OldK t1.heap s2.heap ∧ s2.os = t1.os ∧ AllBare s2.gens) t1 := by
    intro H hH hO hS okH only1 only2
    have hidden : ∀ {b : Addr} {o : Obj}, t1.heap.get? b = some o → H b = none → (hidT t1.heap H).get? b = some o := fun e n => hidT_get e n
    have noD : ∀ {b : Addr} {o : Obj}, t1.heap.get? b = some o → (∀ vs n, o.data ≠ .seq vs n) → o.data ≠ .fields #[] → H b = none := fun {b o} e h1 h2 => by
      cases z : H b with
      | none => rfl
      | some u =>
        rcases only1 b (by rw [z]; simp) with y | y
        · rw [y, ga] at e
          cases e
          exact (h1 _ _ rfl).elim
        · rw [isT b y] at e
          cases e
          exact (h2 rfl).elim
    have noDict : ∀ {b : Addr} {o : Obj} {es : Array DictEntry} {ep : Nat}, t1.heap.get? b = some o → o.data = .dict es ep → H b = none := fun {b o es ep} e dd =>
      noD e (fun vs n z => by rw [dd] at z; cases z) (fun z => by rw [dd] at z; cases z)
    have nsH : ∀ {b : Addr} {m : Str → Option Value}, t1.heap.Ns b m → (hidT t1.heap H).Ns b m := fun {b m} ⟨o, es, ep, e, dd, r⟩ => ⟨o, es, ep, hidden e (noDict e dd), dd, r⟩
    have kb : K.In (hidT t1.heap H) := fun b o e => hidden (kx b o e) (by
      cases z : H b with
      | none => rfl
      | some u =>
        rcases only1 b (by rw [z]; simp) with y | y
        · rw [y] at e z
          rw [only2 (by rw [z]; simp)] at e
          cases e
        · obtain ⟨p, hp, ep⟩ := List.mem_map.mp y
          rw [← ep, nT p hp] at e
          cases e)
    have md : Mod K mg (hidT t1.heap H) := ⟨kb, nsH gn, ⟨mb, nsH gb, gbb⟩, let ⟨mc, y1, y2⟩ := gl; ⟨mc, nsH y1, y2⟩⟩
    have nGP : ∀ p ∈ cs, mainGlobals ≠ p.2 := fun p hp z => by
      obtain ⟨o, es, ep, e, dd, _⟩ := gn
      rw [z, hT p hp] at e
      cases e
      cases dd
    have TB : ∀ p ∈ cs, LamX.TabB (hidT t1.heap H) mg p.1 p.2 := fun p hp => by
      refine ⟨?_, ?_, nGP p hp⟩
      · obtain ⟨o, us', file, tf, flags, tg, inF, text, tt, e1, r1, r2, r3, rest⟩ := C p hp
        refine ⟨o, us', file, tf, flags, tg, inF, text, tt, hidden e1 (noD e1 (fun vs n z => ?_) fun z => ?_), r1, r2, r3, rest⟩
        · rw [r2] at z
          cases z
        · rw [r2] at z
          cases z
          simp at r3
      · obtain ⟨bm, ob, b1, b2, b3, b4, b5, b6⟩ := hbm
        have nG : bm ≠ mainGlobals := fun z => by
          obtain ⟨o, es, ep, e, dd, _⟩ := gn
          rw [z, e] at b3
          cases b3
          rw [dd] at b6
          cases b6
        have nP : bm ≠ p.2 := fun z => by
          rw [z, hT p hp] at b3
          cases b3
          cases b6
        exact ⟨bm, ob, b1, b2, nG, nP, hidden b3 (noD b3 (fun vs n z => by rw [b6] at z; cases z) (fun z => by rw [b6] at z; cases z)), b4, b5, b6⟩
    have tb0 : LamX.Tabs Tabz.T H := fun p hp => LamX.TabS.nil (hH _ (hTs p hp))
    have sp0 : spG K mg F [.ref ad] H (fun v _ => v = .bl true) fun _ _ _ => False := by
      obtain ⟨ah, e⟩ := hsp
      refine ⟨[], [], [.rol (ns.map Va.int)], hr_nil tb0, .cons (.rol (onlyT_fz hO hS) (vrs_ints ns)) .nil, ?_⟩
      rw [e]
      intro m' H' w' _ _ rv
      cases rv
      rfl
    have en : Env0 P w K mg (hidT t1.heap H) callerA [] t1 H := ⟨rfl, md, fun b o e => of_hidT e, Nat.le_of_eq (hidT_size _ _), trivial, fun b hb => absurd (show b ∈ ([] : List Addr) from hb) (by simp), okH, .of_eq gg⟩
    refine codeAny_mono ((G _ kb (nsH gn) TB).run callerA [] t1 H ⟨[.ref ad], []⟩ [.ref ad] [.ref ad] _ _ hr hgc en (hbind t1 (.ref ad)) (.cons rfl .nil) sp0) fun r s2 h => ?_
    cases r with
    | error e =>
      obtain ⟨_, _, _, _, _, _, _, _, _, _, _, _, z⟩ := h
      exact z.elim
    | ok fl =>
      cases fl with
      | next => exact False.elim h
      | brk => exact False.elim h
      | cont => exact False.elim h
      | ret u =>
        obtain ⟨v, H2, o2, b2, un, ok2, r2, q⟩ := h
        obtain rfl : v = .bl true := q
        obtain rfl : u = Value.bool true := r2
        have key : ∀ b o, b ∉ cs.map (·.2) → t1.heap.get? b = some o → s2.heap.get? b = some o := fun b o nb e => by
          cases z : H b with
          | none => exact un.keep b o e z (by intro y; exact absurd (show b ∈ ([] : List Addr) from y) (by simp)) (by simp)
          | some u =>
            rcases hO b with y | ⟨y, _⟩ | ⟨ob, xs, y⟩
            · rw [z] at y
              cases y
            · exact absurd y nb
            · have y2 := un.frzs b ob _ y
              obtain ⟨e1, _⟩ := okH b _ y
              obtain ⟨e2, _⟩ := ok2 b _ y2
              rw [e] at e1
              cases e1
              exact e2
        have grown : ∀ p ∈ cs, ∃ more : Array Value, s2.heap.get? p.2 = some { cls := .none, data := .fields more } := fun p hp => by
          obtain ⟨more, z⟩ := un.tbls p.2 #[] (hH p.2 (memT p hp))
          exact ⟨_, ok2 p.2 _ z⟩
        refine ⟨rfl, ⟨fun b o e => ?_, fun b o e => ?_⟩, o2, b2⟩
        · by_cases hb : b ∈ cs.map (·.2)
          · obtain ⟨p, hp, ep⟩ := List.mem_map.mp hb
            obtain ⟨more, hm⟩ := grown p hp
            rw [← ep] at e ⊢
            rw [hT p hp] at e
            cases e
            exact .inr (.inl ⟨((C p hp).tab (hT p hp)).isCodeTable, rfl, #[], more, rfl, by rw [Array.empty_append]; exact hm⟩)
          · exact .inl (key b o hb e)
        · by_cases hb : b ∈ cs.map (·.2)
          · obtain ⟨p, hp, ep⟩ := List.mem_map.mp hb
            obtain ⟨more, hm⟩ := grown p hp
            rw [← ep]
            exact ⟨_, hm⟩
          · exact ⟨o, key b o hb e⟩
  cases hk : K.lookup ad with
  | some o =>
    have e := kx ad o hk
    rw [ga] at e
    cases e
    refine main (fun b => if b ∈ cs.map (·.2) then some (.tbl #[]) else none) (fun b hb => if_pos hb) (fun b => ?_) (.inr ⟨_, us.toArray, _, hk, rfl, rfl, rfl, by rw [List.size_toArray, ln0]; exact gz, by simpa using rv0⟩) (fun b u z => ?_) (fun b z => ?_) fun z => absurd (if_neg adT) z
    · by_cases hb : b ∈ cs.map (·.2)
      · exact .inr (.inl ⟨hb, if_pos hb⟩)
      · exact .inl (if_neg hb)
    · by_cases hb : b ∈ cs.map (·.2)
      · have z' := (if_pos hb).symm.trans z
        cases z'
        exact isT b hb
      · have z' := (if_neg hb).symm.trans z
        cases z'
    · by_cases hb : b ∈ cs.map (·.2)
      · exact .inr hb
      · exact absurd (if_neg hb) z
  | none =>
    refine main (fun b => if b = ad then some (.frz { cls := .type "list", data := .seq us.toArray } (.lst (ns.map V.int))) else if b ∈ cs.map (·.2) then some (.tbl #[]) else none) (fun b hb => (if_neg (fun z => adT (by rw [← z]; exact hb))).trans (if_pos hb)) (fun b => ?_)
      (.inl (.inr ⟨{ cls := .type "list", data := .seq us.toArray }, if_pos rfl⟩)) (fun b u z => ?_) (fun b z => ?_) fun _ => hk
    · by_cases hb : b = ad
      · exact .inr (.inr ⟨_, _, if_pos hb⟩)
      · by_cases hb2 : b ∈ cs.map (·.2)
        · exact .inr (.inl ⟨hb2, (if_neg hb).trans (if_pos hb2)⟩)
        · exact .inl ((if_neg hb).trans (if_neg hb2))
    · by_cases hb : b = ad
      · have z2 := (if_pos hb).symm.trans z
        cases z2
        subst hb
        exact ⟨ga, by rw [List.length_map]; exact gz, us, _, rv0, ga⟩
      · have z1 := (if_neg hb).symm.trans z
        by_cases hb2 : b ∈ cs.map (·.2)
        · have z2 := (if_pos hb2).symm.trans z1
          cases z2
          exact isT b hb2
        · have z2 := (if_neg hb2).symm.trans z1
          cases z2
    · by_cases hb : b = ad
      · exact .inl hb
      · by_cases hb2 : b ∈ cs.map (·.2)
        · exact .inr hb2
        · exact absurd ((if_neg hb).trans (if_neg hb2)) z
/-- the law's end with tables -/
theorem walk_ofGT {l : PySem.W.OpenLaw} {n k : Nat} {q : Program} {loose : List Str} {XP : (Str → Option Value) → Heap → Prop} {YP : World → Heap → Prop} {d : DefRec} {x : Str}
    (hn : l.most = some n) (hn2 : n ≤ sizeLine) (hdf : d.params.defaults = []) (hr : Room k callerA) (hgc : callerA.guards = some [])
    (T : ∀ (w : World) (mg : Str → Option Value) (fa : Addr) (h : Heap), YP w h → h.Ns mainGlobals mg → mg d.name = some (.ref fa) →
      ∃ (K : PySem.W.Frag) (fd : FuncData) (F : List Va → AH → Rs Va) (cs : List (Addr × Addr)) (ts : List (Addr × Str)), K.In h ∧ (∀ p ∈ cs, h.get? p.2 = some { cls := .none, data := .fields #[] }) ∧ (∀ p ∈ cs, K.lookup p.2 = none) ∧ (∀ p ∈ cs, PySem.W.CodeHd h p.1 p.2) ∧ (∀ p ∈ ts, p.1 ∈ cs.map (·.2)) ∧
        (∀ (s : Shared) (u : Value), BindsTo s fd ⟨[u], []⟩ [(x, u)]) ∧ (∀ ns : List Int, ns.length ≤ n → ∃ ah, F [.rol (ns.map Va.int)] [] = .ok (.bl true) ah) ∧
        ∀ base : Heap, K.In base → base.Ns mainGlobals mg → (∀ p ∈ cs, LamX.TabB base mg p.1 p.2) → @FnG ⟨ts⟩ l.prog w K mg base k fa fd [x] F) :
    PySem.W.WalkO q loose XP YP l.row.toRowW d [] (fun f vs => PySem.call f vs) := by
  refine Att.attach_callB hn hdf fun w t0 t1 mg mb fa ob pm cd doc ad vs ns G Yh ho hd hcd hmg hobj hints hlen hbits hgen => ?_
  obtain ⟨K, fd, F, cs, ts, kx, hT, nT, C, hTs, hbind, hF, hG⟩ := T w mg fa _ Yh G.T.g hmg
  exact @law_callGT ⟨ts⟩ _ _ _ _ _ _ _ _ _ _ _ _ _ _ _ kx G.T.g G.T.b G.T.builtins G.T.nolimit hgen hT nT C hTs G.T.bmain hobj hints (Nat.le_trans hlen hn2) hr hgc hG hbind (hF ns hlen)
end FL

set_option Elab.async false
set_option linter.all false
set_option maxRecDepth 100000
set_option maxHeartbeats 2000000
/-! FLBU: a def that makes lambdas; a lambda handed to a def that the module tells. -/
namespace FL
open PySem PySem.Spec PyProof.Rows L2
variable [Tabz]
section
variable {P : Program} {w : World} {K : PySem.W.Frag} {mg : Str → Option Value} {base : Heap}
/-- a def by its body's meaning, its code object known -/
theorem fnG_ofC {k : Nat} {f : Addr} {x qual : Str} {params : Arguments} {body : List Stmt} {scope : Scope} {dvs : List V} {kws : List (Str × V)} {fd : FuncData} {N ps : List Str} {b : SF} (F : FunD K x qual params body scope dvs kws f fd) (S : FnScope N ps scope)
    (hbody : ∀ (cdv : Value), fd.code = cdv → ∀ (A : Around) (outer : List Env) (s : Shared) (H : Hp) (E : XK), Room k (A.deeper (envOfC qual scope s.heap.objs.size f cdv)) → (A.deeper (envOfC qual scope s.heap.objs.size f cdv)).guards = some [] →
      MSs (cxOf (L2.CX P w) P w K mg base N qual scope f cdv A outer s H E) (WB E) body b) :
    FnG P w K mg base (k + 1) f fd ps (fnF N.length ps.length b) := by
  have hlen : ∀ vs H Q E, spG K mg (fnF N.length ps.length b) vs H Q E → vs.length = ps.length := fun vs H Q E ⟨m, ah, pvs, r, rv, q⟩ => by
    rw [← rv.length]
    unfold fnF at q
    split at q
    · rename_i hz; exact eq_of_beq hz
    · exact q.elim
  refine ⟨hlen, fun A outer s H args us vs Q E hr hgd e0 hb r hsp => ?_⟩
  have hl := hlen _ _ _ _ hsp
  obtain ⟨oc, od, dV, kV, doc, pm, an, cdv, ct, osl, rfl, lk, hcd, hdd, hkk⟩ := F.ex
  have kx : K.In s.heap := e0.mod.kin.keeps fun b o e => (e0.bs b o e).1
  have nolim : s.heap.NoLimit := e0.mod.nolimit.keeps fun b o e => (e0.bs b o e).1
  have kinds : ∀ y ∈ ps.zip us, scope.names.lookup y.1 = some .local ∨ (scope.names.lookup y.1 = some .cell ∧ ((cellsFrom (s.heap.objs.size + 1) scope.names []).lookup y.1).isSome = true) := fun ⟨n, v⟩ hy => by
    rcases S.par n (List.of_mem_zip hy).1 with z | z
    · exact .inl z
    · exact .inr ⟨z, PySem.W.cellsFrom_some _ _ _ (.inl z)⟩
  refine codeAny_call_function hr.depth (kx _ _ lk) rfl S.co S.gen rfl (PySem.W.codeRec_of kx hcd) (hb _ _ _ _ ?_)
  refine wpAny_newFunctionEnv_cells S.kind kinds fun env he s1 x => ?_
  subst he
  refine ⟨nolim.keeps x.toInCall.keep, codeAny_func ?_⟩
  obtain ⟨m, ah, pvs, rH, rv, q⟩ := hsp
  have ht := hbody cdv rfl A outer s H E (hr.deeper _) hgd
  have J : Inv (cxOf (L2.CX P w) P w K mg base N qual scope f cdv A outer s H E) [] (start N vs) H s1 := inv_start S hr.hd e0 hl r x
  have hpl : pvs.length = ps.length := by rw [rv.length]; exact hl
  have q2 : Post K mg (VR K) m H E (endF (b (pvs.map some ++ List.replicate (N.length - pvs.length) none) ah)) (fun w H' => Q w H') := by
    unfold fnF at q
    rw [if_pos (by rw [hpl]; exact beq_self_eq_true _), ← hpl] at q
    exact Post.gc rH q
  have hw : WiS K mg (WB E) b { nx := fun _ H' => Q .non H', rt := fun v H' => Q v H' } (start N vs) H := by
    refine ⟨m, ah, _, rH, er_start N rv, ?_⟩
    cases e : b (pvs.map some ++ List.replicate (N.length - pvs.length) none) ah with
    | nx ev a => rw [e] at q2; exact fun m' H' σ' e1 r1 _ => q2 m' H' .non e1 r1 .non
    | rt v a => rw [e] at q2; exact q2
    | bk ev a => rw [e] at q2; exact q2.elim
    | ct ev a => rw [e] at q2; exact q2.elim
    | exc c p ev a => rw [e] at q2; exact fun m' H' cls d σ' e1 r1 _ x1 => q2 m' H' cls d e1 r1 x1
    | bad => rw [e] at q2; exact q2.elim
  refine wpAny_mono (ht.pss.run [] s1 (start N vs) H _ J hw) (fun fl s' hs => ?_) fun e s' hs => hs
  have fin : ∀ {σ' : L2.St} {H' : Hp} {v : V} {u : Value}, Inv (cxOf (L2.CX P w) P w K mg base N qual scope f cdv A outer s H E) [] σ' H' s' → RelV v u → Q v H' → CE outer P w H s Q u s' :=
    fun {σ' H' v u} J rv q => ⟨v, H', J.os, J.bare, J.base, J.hok, rv, q⟩
  cases fl with
  | ret u =>
    obtain ⟨v, σ', H', J, rv, q⟩ := hs
    exact fin J rv q
  | next =>
    obtain ⟨σ', H', J, q⟩ := hs
    exact fin (v := V.non) (u := Value.none) J rfl q
  | brk =>
    obtain ⟨_, _, _, q⟩ := hs
    exact False.elim q
  | cont =>
    obtain ⟨_, _, _, q⟩ := hs
    exact False.elim q
end
theorem code_of {K : PySem.W.Frag} {x q y : Str} {pa : Arguments} {b : List Stmt} {sc : Scope} {dv : List V} {kw : List (Str × V)} {fd : FuncData} {cdv : Value} (F : FunD K x q pa b sc dv kw (He.ga K y) fd) (hc : fd.code = cdv) : cdv = .ref (He.cT K (y, none)).1 := by
  obtain ⟨oc, od, dV, kV, doc, pm, an, cdv', ct, osl, rfl, lk, hcd, _, _⟩ := F.ex
  obtain ⟨c, e⟩ := He.codeIn_ref hcd
  have e2 : He.codeOf K (y, none) = c := He.codeOf_eq (p := (y, none)) lk e
  show cdv = .ref (He.codeOf K (y, none))
  rw [e2, ← e]
  exact hc.symm
/-- the tables of the makers tf: known to base, and to the heaps -/
structure TBs (K : PySem.W.Frag) (mg : Str → Option Value) (base : Heap) (tf : List He.Defn) : Prop where
  tb : ∀ p ∈ tf, LamX.TabB base mg (He.cT K p).1 (He.cT K p).2
  at_ : ∀ p ∈ tf, ((He.cT K p).2, p.1 ++ (".<locals>.<lambda>" : Str)) ∈ Tabz.T
  un : ∀ p ∈ tf, ∀ z ∈ Tabz.T, z.1 = (He.cT K p).2 → z.2 = p.1 ++ (".<locals>.<lambda>" : Str)
theorem me_lamF {X : Cx} {W : WX} {mo : Rs Va → Rs Va} {el : EF} {x a y : Str} {g : Addr} {k : Nat} {pg : Arguments} {bg : List Stmt} {sg : Scope} {fd : FuncData} {Ng : List Str} {tf : List He.Defn}
    {params : Arguments} {body : Expr} {scope : Scope} {p lpos pos : Pos} (F : FunD X.K x x pg bg sg [] [] g fd) (hm : X.mg x = some (.ref g)) (hb : L2.Binds X.K fd [a] []) (Sg : FnScope Ng [a] sg) (hNg : Ng[0]? = some a) (hva : Vis sg a)
    (hG : ∀ cdv, GvF X k Ng x sg g cdv bg a (X.env.qual ++ "<lambda>") mo)
    (B : TBs X.K X.mg X.base tf) (hy : (y, none) ∈ tf) (hcode : X.env.code = .ref (He.cT X.K (y, none)).1) (hqual : X.env.qual ++ ("<lambda>" : Str) = y ++ (".<locals>.<lambda>" : Str)) (hr : Room (k + 2) X.A) (hgd : X.A.guards = some []) (L : LamX.LamS X.env.scope scope)
    (hbody : ∀ (A : Around) (outer : List Env) (s : Shared) (H : Hp) (E : XK) (f c' : Addr), Room k (A.deeper (LamX.lamEnv X scope s.heap.objs.size f c')) → (A.deeper (LamX.lamEnv X scope s.heap.objs.size f c')).guards = some [] → ME (LamX.lamCx X A outer s H E scope f c') (WB E) body el)
    (hdef : defaultsOf params X.env = ([], []) := by rfl) (hg : Gl X x := by rfl)
    (hbind : ∀ (q : Str) (cl : List (Str × Addr)) (pm cv ctv : Value), bindArgs (PySem.W.kla_fn "<lambda>" q params body scope cl pm cv ctv) ⟨[], []⟩ = pure [] := by intro _ _ _ _ _; rfl)
    (hdb : (x == ("__debug__" : Str)) = false := by decide) (hd : (a == ("__debug__" : Str)) = false := by decide) (hcd : (a == ("__classdict__" : Str)) = false := by decide) :
    ME X W (.Call (.Name x p) [.Lambda params body scope lpos] [] pos) (eLam mo el) := by
  obtain ⟨oc, od, dV, kV, doc, pm, an, cdv, ct, osl, rfl, lk, hcd2, _, _⟩ := F.ex
  exact me_lam hg hm F.kp lk hcd2 hb Sg hNg hva (hG cdv) (B.tb _ hy) hcode (by rw [hqual]; exact B.at_ _ hy) (by rw [hqual]; exact B.un _ hy) hr hgd L hdef hbind hbody hdb hd hcd
end FL

set_option Elab.async false
set_option linter.all false
set_option maxRecDepth 100000
set_option maxHeartbeats 2000000
/-! FLBM: several except clauses with names: the exception lies on the ground, the clauses look at it one after the other. -/
namespace FL
open PySem PySem.Spec PyProof.Rows L2
variable [Tabz]
section
variable {X : Cx} {pins : List (Addr × Obj)} {σ : L2.St} {H : Hp} {a : Addr} {cls : Value} {d : Option Addr} {s : Shared}
/-- the exception a lies on the ground, nothing of the state behind it is lost -/
def Gnd (X : Cx) (pins : List (Addr × Obj)) (σ : L2.St) (H : Hp) (a : Addr) (cls : Value) (d : Option Addr) (s : Shared) : Prop :=
  ∃ (G : Heap) (sI : Shared), Inv X pins σ H sI ∧ (∀ b o, sI.heap.get? b = some o → b ∉ frs X.stack → G.get? b = some o) ∧ sI.heap.UpToSlots s.heap ∧ HandSPX.FlyingZ G (X.env :: X.outer) a (Zc cls d) s.heap ∧ H a = none ∧ s.os = sI.os ∧ AllBare s.gens
theorem fly_up {G h h' : Heap} {l : List Env} {e : Addr} {Z : Obj → Prop} (f : HandSPX.FlyingZ G l e Z h) (k : ∀ b o, h.get? b = some o → h'.get? b = some o) : HandSPX.FlyingZ G l e Z h' := by
  obtain ⟨g1, g2, g3, oe, vs, T, oT, ts, g4, g5, g6, g7, g8, g9, g10, g11, g12⟩ := f
  exact ⟨fun b o z => k b o (g1 b o z), g2, g3.of_keeps fun b o z _ => ⟨o, k b o z, rfl⟩, oe, vs, T, oT, ts, k _ _ g4, g5, g6, g7, g8, g9, k _ _ g10, g11, g12⟩
theorem Gnd.up (g : Gnd X pins σ H a cls d s) {h' : Heap} (k : ∀ b o, s.heap.get? b = some o → h'.get? b = some o) : Gnd X pins σ H a cls d { s with heap := h' } := by
  obtain ⟨G, sI, g1, g2, g3, g4, g5, g6, g7⟩ := g
  exact ⟨G, sI, g1, g2, g3.trans (Heap.UpToSlots.of_keeps k), fly_up g4 k, g5, g6, g7⟩
theorem Gnd.inv (g : Gnd X pins σ H a cls d s) : Inv X pins σ H s := by
  obtain ⟨G, sI, g1, g2, g3, g4, g5, g6, g7⟩ := g
  exact g1.landed g2 g4.1 g3 g6 g7
/-- what an except suite begins with -/
theorem Gnd.sui (g : Gnd X pins σ H a cls d s) (hf : X.env.frame = some X.env.locals) : ∃ (oe : Obj) (vs : Array Value), s.heap.get? a = some oe ∧ Zc cls d oe ∧ oe.data = .fields vs ∧ Inv (X.suite a ((a, oe) :: (X.pn ++ pins))) [] σ H s := by
  have J := g.inv
  obtain ⟨G, sI, g1, g2, g3, g4, g5, g6, g7⟩ := g
  obtain ⟨oe, vs, he, hz, hd⟩ := g4.there
  have nfr : a ∉ frs (X.env :: X.outer) := fun hm => by
    obtain ⟨_, o', e', q⟩ := g4.2.2.1.mem hm
    rw [he] at e'
    cases e'
    exact q _ hd
  refine ⟨oe, vs, he, hz, hd, J.suite he hd g5 (fun z => nfr ?_) fun hm => ?_⟩
  · exact List.mem_filterMap.mpr ⟨X.env, List.mem_cons_self, by rw [hf, z]⟩
  · obtain ⟨e, h1, h2⟩ := List.mem_filterMap.mp hm
    exact nfr (List.mem_filterMap.mpr ⟨e, List.mem_cons_of_mem _ h1, h2⟩)
/-- the test of a clause: a fresh look at the class of what lies there -/
def Tst (X : Cx) (te : Expr) (cls : Value) (b : Bool) : Prop :=
  ∀ (a : Addr) (oe : Obj) (pn : List (Addr × Obj)) (σ : L2.St) (H : Hp) (s : Shared) (Q : Bool → Shared → Prop) (E : Value → Shared → Prop), Inv (X.suite a ((a, oe) :: pn)) [] σ H s → s.heap.get? a = some oe → oe.cls = cls →
    (∀ h', (∀ b o, s.heap.get? b = some o → h'.get? b = some o) → Q b { s with heap := h' }) →
    wpAny (model X.prog X.w) (X.A.mark (some (.ref a))) (eval te X.env) (fun c s1 => wpAny (model X.prog X.w) (X.A.mark (some (.ref a))) (excMatches (.ref a) c) Q E s1) E s
theorem ld_names {x : Str} {c : Value} (hc : Names X x c) {oe : Obj} {pn : List (Addr × Obj)} {p : Pos} {Q : Value → Shared → Prop} {E : Value → Shared → Prop} (I : Inv (X.suite a ((a, oe) :: pn)) [] σ H s) (q : Q c s) :
    wpAny (model X.prog X.w) (X.A.mark (some (.ref a))) (eval (.Name x p) X.env) Q E s := by
  obtain ⟨g1, g2, g3⟩ := hc
  rcases g3 with g3 | ⟨g3, g4, g5⟩
  · exact ld_glob (X := X.suite a ((a, oe) :: pn)) I g1 g3 q g2
  · exact ld_blt (X := X.suite a ((a, oe) :: pn)) I g1 g3 g4 q g5 g2
theorem tst_name {x : Str} {c : Value} {p : Pos} {b : Bool} (hc : Names X x c) (e : PySem.W.exmOne X.K cls c = some b) : Tst X (.Name x p) cls b := fun a oe pn σ H s Q E I ho hcl q => by
  refine ld_names hc I ?_
  have lt : PySem.W.Looks (model X.prog X.w) s.heap (typeOf (.ref a)) cls := fun _ _ _ _ k z => wpAny_typeOf_ref (k _ _ ho) (by rw [hcl]; exact z)
  exact (PySem.W.exm_one I.kIn lt e).here (q s.heap fun _ _ z => z)
/-- the clauses l do what is wished of the exception that lies there -/
def HB (X : Cx) (l : List ExceptHandler) (w : Ends → Addr → Value → Option Addr → L2.St → Hp → Prop) : Prop :=
  ∀ (pins : List (Addr × Obj)) (σ : L2.St) (H : Hp) (a : Addr) (cls : Value) (d : Option Addr) (s : Shared) (D : Ends), X.Ok → Gnd X pins σ H a cls d s → w D a cls d σ H → wpAny (model X.prog X.w) X.A (handleBy (.ref a) X.env l) (SP X pins D) X.xe s
/-- the ends behind a named clause: its name goes -/
def Ends.off (i : Nat) (D : Ends) : Ends := { nx := fun σ H => D.nx (σ.set i none) H, rt := D.rt, bk := fun σ H => D.bk (σ.set i none) H, ct := fun σ H => D.ct (σ.set i none) H }
theorem hb_as {te : Expr} {n : Str} {i : Nat} {b0 : Stmt} {bs : List Stmt} {hp : Pos} {l : List ExceptHandler} {ts : Addr → Value → Option Addr → TS} {w : Ends → Addr → Value → Option Addr → L2.St → Hp → Prop}
    (hf : X.env.frame = some X.env.locals) (hN : X.N.Nodup) (hi : X.N[i]? = some n) (hln : X.env.kindOf n = some .local)
    (hsu : ∀ (a : Addr) (oe : Obj) (cls : Value) (d : Option Addr) (pn : List (Addr × Obj)), Zc cls d oe → (∃ vs, oe.data = .fields vs) → PSs (X.suite a ((a, oe) :: pn)) (b0 :: bs) (ts a cls d)) (hr : HB X l w) :
    HB X (.ExceptHandler (some te) (some n) (b0 :: bs) hp :: l) (fun D a cls d σ H => ∃ b, Tst X te cls b ∧ (b = true → ts a cls d (Ends.off i D) (σ.set i (some (.ref a))) H) ∧ (b = false → w D a cls d σ H)) := by
  intro pins σ H a cls d s D ok g q
  obtain ⟨b, hT, yes, no⟩ := q
  obtain ⟨oe, vs, he, hz, hd, S⟩ := g.sui hf
  refine wpAny_handleBy_cons (codeAny_handlers_test (hT a oe (X.pn ++ pins) σ H s _ _ S he hz.1 fun h' up => ?_)) (by intro z; cases z)
  have g' := g.up up
  cases b with
  | false => exact hr pins σ H a cls d _ D ok g' (no rfl)
  | true =>
    refine codeAny_handlers_suite_as ?_
    obtain ⟨G, sI, g1, g2, g3, g4, g5, g6, g7⟩ := g'
    refine HandSPX.lands_againZ g4 fun h4 f4 up4 => ?_
    have g'' : Gnd X pins σ H a cls d { s with heap := h4 } := ⟨G, sI, g1, g2, g3.trans up4, f4, g5, g6, g7⟩
    obtain ⟨oe4, vs4, he4, hz4, hd4, S4⟩ := g''.sui hf
    refine store_ok (X := X.suite a ((a, oe4) :: (X.pn ++ pins))) (v := .ref a) S4 hN hi (.inl hln) rfl (fun s5 S5 => ?_) (.inr hln)
    refine wpAny_mono ((hsu a oe4 cls d (X.pn ++ pins) hz4 ⟨_, hd4⟩).run [] s5 _ H _ S5 (yes rfl)) (fun f s6 z => ?_) fun _ _ z => z.elim
    cases f with
    | next => obtain ⟨σ6, H6, S6, q6⟩ := z; exact gone_ok (S6.unsuite ok) hN hi hln fun s7 J7 => ⟨_, _, J7, q6⟩
    | brk => obtain ⟨σ6, H6, S6, q6⟩ := z; exact gone_ok (S6.unsuite ok) hN hi hln fun s7 J7 => ⟨_, _, J7, q6⟩
    | cont => obtain ⟨σ6, H6, S6, q6⟩ := z; exact gone_ok (S6.unsuite ok) hN hi hln fun s7 J7 => ⟨_, _, J7, q6⟩
    | ret u => obtain ⟨v6, σ6, H6, S6, r6, q6⟩ := z; exact gone_ok (S6.unsuite ok) hN hi hln fun s7 J7 => ⟨_, _, _, J7, r6, q6⟩
/-- try: body, except ..: what the body lets out lies on the ground then -/
theorem ps_try_hb {body : List Stmt} {h0 : ExceptHandler} {l : List ExceptHandler} {pos : Pos} {tb : WX → TS} {w : Ends → Addr → Value → Option Addr → L2.St → Hp → Prop} (hs : X.stack = X.env :: X.outer) (hf : X.env.frame = some X.env.locals)
    (hb : ∀ (W : WX) (pn : List (Addr × Obj)) (xe : Value → Shared → Prop), Takes (X.tr pn xe) W → PSs (X.tr pn xe) body (tb W)) (hh : HB X (h0 :: l) w) :
    PS X (.Try body (h0 :: l) [] [] pos) (fun D σ H => tb (fun cls d σ H => ∀ a, H a = none → w D a cls d σ H) D σ H) := by
  refine ⟨fun pins s σ H D I h => ?_⟩
  have ok := I.ok
  have hfr : X.A.frames = some (X.env :: X.outer) := by rw [ok.frames, hs]
  refine wpAny_Try_except ?_
  let xe : Value → Shared → Prop := fun e s1 => wpAny (model X.prog X.w) X.A (noteFrame e X.env) (fun _ s2 => wpAny (model X.prog X.w) X.A (setFlight e none) (fun _ s3 => wpAny (model X.prog X.w) X.A (handleBy e X.env (h0 :: l)) (SP X pins D) X.xe s3) X.xe s2) X.xe s1
  have tk : Takes (X.tr (X.pn ++ pins) xe) (fun cls d σ H => ∀ a, H a = none → w D a cls d σ H) := by
    rintro u s' ⟨a, G, sI, pins', σ', H', cls, d, rfl, J', nb, up, sky, na, os, ag, q⟩
    have J : Inv X pins σ' H' sI := J'.ofTry ok
    have sky' : Sky G (X.env :: X.outer) a (Zc cls d) X.env.locals s'.heap := by rw [← hs]; exact sky
    exact Sky.land Zc.steady hfr hf sky' fun h3 f3 up3 => hh pins σ' H' a cls d _ D ok ⟨G, sI, J, nb, up.trans up3, f3, na, os, ag⟩ (q a na)
  refine wpAny_mono ((hb _ (X.pn ++ pins) xe tk).run [] s σ H D (I.toTry _) h) (fun f s1 z => ?_) fun _ _ z => z
  cases f with
  | next => obtain ⟨σ6, H6, S6, q6⟩ := z; first | exact wpAny_execs_nil ⟨σ6, H6, S6.ofTry ok, q6⟩ | exact ⟨σ6, H6, S6.ofTry ok, q6⟩ | (refine wpAny_execs_nil ?_; exact ⟨σ6, H6, S6.ofTry ok, q6⟩) | (show SP X pins D _ _; exact ⟨σ6, H6, S6.ofTry ok, q6⟩)
  | brk => obtain ⟨σ6, H6, S6, q6⟩ := z; first | exact wpAny_execs_nil ⟨σ6, H6, S6.ofTry ok, q6⟩ | exact ⟨σ6, H6, S6.ofTry ok, q6⟩ | (refine wpAny_execs_nil ?_; exact ⟨σ6, H6, S6.ofTry ok, q6⟩) | (show SP X pins D _ _; exact ⟨σ6, H6, S6.ofTry ok, q6⟩)
  | cont => obtain ⟨σ6, H6, S6, q6⟩ := z; first | exact wpAny_execs_nil ⟨σ6, H6, S6.ofTry ok, q6⟩ | exact ⟨σ6, H6, S6.ofTry ok, q6⟩ | (refine wpAny_execs_nil ?_; exact ⟨σ6, H6, S6.ofTry ok, q6⟩) | (show SP X pins D _ _; exact ⟨σ6, H6, S6.ofTry ok, q6⟩)
  | ret u => obtain ⟨v6, σ6, H6, S6, r6, q6⟩ := z; first | exact wpAny_execs_nil ⟨v6, σ6, H6, S6.ofTry ok, r6, q6⟩ | exact ⟨v6, σ6, H6, S6.ofTry ok, r6, q6⟩ | (refine wpAny_execs_nil ?_; exact ⟨v6, σ6, H6, S6.ofTry ok, r6, q6⟩) | (show SP X pins D _ _; exact ⟨v6, σ6, H6, S6.ofTry ok, r6, q6⟩)
end
end FL

set_option Elab.async false
set_option linter.all false
set_option maxRecDepth 100000
set_option maxHeartbeats 2000000
/-! FLBN: classes without fields raised; isinstance and fields of a caught exception; the def that calls its thunk under several clauses. -/
namespace FL
open PySem PySem.Spec PyProof.Rows L2
variable [Tabz]
/-! ### raise C('m') -/
def sRaise0 (x : Str) : SF := fun ev h => .exc x [] ev h
section
variable {X : Cx} {W : WX} {C : Addr} {bmB : List Value} {B newId initId : String}
theorem ms_raise0 {x msg : Str} {j : Nat} {p p2 pos pos2 : Pos} (hc : X.calm = true) (tk : Takes X W) (F : ExcBaseFacts B newId initId bmB) (q : PySem.W.excIn X.K C bmB newId = true) (gC : X.mg x = some (.ref C)) (kC : PySem.W.keepIn X.K (.ref C) = true)
    (h1 : PySem.W.subIn X.K (.ref C) (.type "BaseException") = some true) (h2 : PySem.W.typeIn X.K (.ref C) = some (.type "type")) (hg : Gl X x := by rfl) (hdb : (x == ("__debug__" : Str)) = false := by decide) :
    MS X W (.Raise (some (.Call (.Name x p) [.Constant (.str msg) j p2] [] pos)) none pos2) (sRaise0 x) := ⟨ps_imp (ps_raise hc tk (pmk_own F q gC kC (raises_own h1 h2) hg hdb)) fun D σ H z => by
  obtain ⟨m, ah, ev, r, re, z⟩ := z
  exact z m H (.ref C) none σ .refl r re ⟨C, gC, rfl, rfl⟩⟩
end
/-! ### what a class of the program says -/
theorem excB_ok {K : PySem.W.Frag} {C : Addr} (q : excB K C = true) : ExcC K C := by
  obtain ⟨h1, q⟩ := He.ba q
  obtain ⟨h2, q⟩ := He.ba q
  obtain ⟨h3, q⟩ := He.ba q
  obtain ⟨h4, q⟩ := He.ba q
  obtain ⟨h5, q⟩ := He.ba q
  obtain ⟨h6, q⟩ := He.ba q
  obtain ⟨h7, h8⟩ := He.ba q
  exact ⟨He.eqO_ok h1, He.eqO_ok h2, of_decide_eq_true h3, h4, He.eqO_ok h5, He.eqO_ok h6, of_decide_eq_true h7, of_decide_eq_true h8⟩
/-- a class without own __init__, over the built-in one with bmB -/
structure PlainX (x : Str) (bmB : List Value) (newId : String) (K : PySem.W.Frag) (mg : Str → Option Value) (C : Addr) : Prop where
  gC : mg x = some (.ref C)
  q : PySem.W.excIn K C bmB newId = true
  kC : PySem.W.keepIn K (.ref C) = true
  exC : PySem.W.subIn K (.ref C) (.type "BaseException") = some true
  tyC : PySem.W.typeIn K (.ref C) = some (.type "type")
theorem plainB_ok {x : Str} {bmB : List Value} {newId : String} {K : PySem.W.Frag} {h : Heap} {mg : Str → Option Value} (X : K.In h) (G : h.Ns mainGlobals mg) (q : plainB x bmB newId K = true) : PlainX x bmB newId K mg (He.ga K x) := by
  obtain ⟨h1, q⟩ := He.ba q
  obtain ⟨h2, q⟩ := He.ba q
  obtain ⟨h3, q⟩ := He.ba q
  obtain ⟨h4, h5⟩ := He.ba q
  exact ⟨PySem.W.mg_of X G (He.eqO_ok h1), h2, h3, of_decide_eq_true h4, of_decide_eq_true h5⟩
/-! ### isinstance, a field -/
section
variable {X : Cx} {W : WX} {a C : Addr} {oe : Obj} {pn : List (Addr × Obj)} {d : Option Addr} {i : Nat} {n : Str}
def rIsX (K : PySem.W.Frag) (C a : Addr) (d : Option Addr) : List V → Hp → VK → Prop := fun xs H Q => ∃ (c : V) (cv : Value) (b : Bool), xs = [.ref a, c] ∧ (∀ u, RelV c u → u = cv) ∧ PySem.W.kitOne K (.ref C) cv = some b ∧ (∀ dd, d = some dd → ∃ fs, H dd = some (.xd fs)) ∧ Q (.bl b) H
theorem call_isX (T : ExcC X.K C) (hz : Zc (.ref C) d oe) (hf : ∃ vs, oe.data = .fields vs) : CallR (X.suite a ((a, oe) :: pn)) (.builtin "isinstance") (rIsX X.K C a d) := by
  rintro pins s σ H xs us Q I r ⟨c, cv, b, rfl, hcv, e, hd, q⟩
  cases r with
  | cons rx rr =>
    cases rr with
    | cons rt rr =>
      cases rr
      cases rx
      have ec := hcv _ rt
      rw [ec]
      obtain ⟨hget, _⟩ := I.pin (a, oe) (List.mem_append_left _ List.mem_cons_self)
      obtain ⟨cd, hcd, _⟩ := PySem.W.any_some T.hd
      have hcl : (PySem.W.clsIn X.K C).isSome = true := by rw [hcd]; rfl
      have fin : ∀ od : Option Obj, PySem.W.InstAt s.heap a oe C od → wpAny (model X.prog X.w) (X.suite a ((a, oe) :: pn)).A (call (.builtin "isinstance") [.ref a, cv]) (EP (X.suite a ((a, oe) :: pn)) pins σ Q) (X.suite a ((a, oe) :: pn)).xe s := fun od J =>
        PySem.W.kia_one (PySem.W.kitx_exc hcl T.hg T.hk T.hs T.ha T.hn T.ht T.hm) I.kIn J e (fun z => nomatch z) fun tk => ⟨.bl b, H, I.kept (t' := tk) fun _ _ z => z, rfl, q⟩
      obtain ⟨vs, hv⟩ := hf
      have nc : PySem.W.notCls oe = true := by unfold PySem.W.notCls; rw [hv]
      cases d with
      | none => exact fin none ⟨hget, hz.1, nc, by rw [hz.2]; trivial⟩
      | some dd =>
        obtain ⟨fs, hx⟩ := hd dd rfl
        obtain ⟨mA, ⟨o, _, _, ho, _⟩, _⟩ := I.hok dd _ hx
        exact fin (some o) ⟨hget, hz.1, nc, by rw [hz.2]; exact ho⟩
/-- isinstance(e, D): e bare, e with a dict -/
def eIs0 (i : Nat) (a : Addr) (b : Bool) : EF := fun ev h => match ev[i]? with
  | some (some (.exo a')) => if a' = a then .ok (.bl b) h else .bad
  | _ => .bad
def eIs1 (i : Nat) (a dd : Addr) (b : Bool) : EF := fun ev h => match ev[i]? with
  | some (some (.exn a' d' _ _)) => if a' = a ∧ d' = dd then .ok (.bl b) h else .bad
  | _ => .bad
/-- e.f -/
def eXf (i : Nat) (a dd : Addr) (f : Str) : EF := fun ev h => match ev[i]? with
  | some (some (.exn a' d' g v)) => if a' = a ∧ d' = dd ∧ g = f then .ok v h else .bad
  | _ => .bad
theorem pe_isX {x : Str} {v : V} {cv : Value} {b : Bool} {p1 p2 p3 p4 : Pos} (T : ExcC X.K C) (hz : Zc (.ref C) d oe) (hf : ∃ vs, oe.data = .fields vs) (hi : X.N[i]? = some n) (hln : X.env.kindOf n = some .local)
    (hD : PE (X.suite a ((a, oe) :: pn)) (.Name x p3) (tC v)) (hcv : ∀ u, RelV v u → u = cv) (hk : PySem.W.kitOne X.K (.ref C) cv = some b) (hm : X.mg "isinstance" = none)
    (hdn : (n == ("__debug__" : Str)) = false := by decide) (hdc : (n == ("__classdict__" : Str)) = false := by decide) (hg : Gl X "isinstance" := by rfl)
    (he : starEach (.Name n p2 :: [.Name x p3]) X.env = (false, eval (.Name n p2) X.env) :: starEach [.Name x p3] X.env := by rfl) (he2 : starEach [.Name x p3] X.env = (false, eval (.Name x p3) X.env) :: starEach [] X.env := by rfl) (hpl : (backTo p4 (starEach [.Name x p3] X.env)).any (·.1) = false := by rfl) :
    PE (X.suite a ((a, oe) :: pn)) (.Call (.Name "isinstance" p1) [.Name n p2, .Name x p3] [] p4) (fun σ H Q => σ[i]? = some (some (.ref a)) ∧ (∀ dd, d = some dd → ∃ fs, H dd = some (.xd fs)) ∧ Q (.bl b) H) :=
  pe_imp (pe_callB (X := X.suite a ((a, oe) :: pn)) (call_isX T hz hf) hg hm (by decide +kernel) (pa_cons (pe_var (X := X.suite a ((a, oe) :: pn)) hi (.inl hln) hdn hdc) (pa_cons hD pa_nil he2) he) (by decide) (by decide) he hpl) fun σ H Q ⟨h1, h2, h3⟩ =>
    ⟨.ref a, h1, v, cv, b, rfl, hcv, hk, h2, h3⟩
theorem me_is0 {x : Str} {v : V} {cv : Value} {b : Bool} {p1 p2 p3 p4 : Pos} (T : ExcC X.K C) (hz : Zc (.ref C) none oe) (hf : ∃ vs, oe.data = .fields vs) (hi : X.N[i]? = some n) (hln : X.env.kindOf n = some .local)
    (hD : PE (X.suite a ((a, oe) :: pn)) (.Name x p3) (tC v)) (hcv : ∀ u, RelV v u → u = cv) (hk : PySem.W.kitOne X.K (.ref C) cv = some b) (hm : X.mg "isinstance" = none)
    (hdn : (n == ("__debug__" : Str)) = false := by decide) (hdc : (n == ("__classdict__" : Str)) = false := by decide) (hg : Gl X "isinstance" := by rfl)
    (he : starEach (.Name n p2 :: [.Name x p3]) X.env = (false, eval (.Name n p2) X.env) :: starEach [.Name x p3] X.env := by rfl) (he2 : starEach [.Name x p3] X.env = (false, eval (.Name x p3) X.env) :: starEach [] X.env := by rfl) (hpl : (backTo p4 (starEach [.Name x p3] X.env)).any (·.1) = false := by rfl) :
    ME (X.suite a ((a, oe) :: pn)) W (.Call (.Name "isinstance" p1) [.Name n p2, .Name x p3] [] p4) (eIs0 i a b) := ⟨pe_imp (pe_isX T hz hf hi hln hD hcv hk hm hdn hdc hg he he2 hpl) fun σ H Q q => by
  obtain ⟨m, ah, ev, r, re, q⟩ := q
  unfold eIs0 at q
  split at q
  · rename_i a' e
    split at q
    · rename_i ha
      subst ha
      obtain ⟨w, h1, h2⟩ := re.get i _ e
      cases h2
      exact ⟨h1, (fun dd z => by cases z), q m H _ .refl r (.bl b)⟩
    · exact q.elim
  · exact q.elim⟩
theorem me_is1 {x : Str} {v : V} {cv : Value} {b : Bool} {dd : Addr} {p1 p2 p3 p4 : Pos} (T : ExcC X.K C) (hz : Zc (.ref C) (some dd) oe) (hf : ∃ vs, oe.data = .fields vs) (hi : X.N[i]? = some n) (hln : X.env.kindOf n = some .local)
    (hD : PE (X.suite a ((a, oe) :: pn)) (.Name x p3) (tC v)) (hcv : ∀ u, RelV v u → u = cv) (hk : PySem.W.kitOne X.K (.ref C) cv = some b) (hm : X.mg "isinstance" = none)
    (hdn : (n == ("__debug__" : Str)) = false := by decide) (hdc : (n == ("__classdict__" : Str)) = false := by decide) (hg : Gl X "isinstance" := by rfl)
    (he : starEach (.Name n p2 :: [.Name x p3]) X.env = (false, eval (.Name n p2) X.env) :: starEach [.Name x p3] X.env := by rfl) (he2 : starEach [.Name x p3] X.env = (false, eval (.Name x p3) X.env) :: starEach [] X.env := by rfl) (hpl : (backTo p4 (starEach [.Name x p3] X.env)).any (·.1) = false := by rfl) :
    ME (X.suite a ((a, oe) :: pn)) W (.Call (.Name "isinstance" p1) [.Name n p2, .Name x p3] [] p4) (eIs1 i a dd b) := ⟨pe_imp (pe_isX T hz hf hi hln hD hcv hk hm hdn hdc hg he he2 hpl) fun σ H Q q => by
  obtain ⟨m, ah, ev, r, re, q⟩ := q
  unfold eIs1 at q
  split at q
  · rename_i a' d' g y e
    split at q
    · rename_i ha
      obtain ⟨rfl, rfl⟩ := ha
      obtain ⟨w, h1, h2⟩ := re.get i _ e
      cases h2 with
      | exn h3 h4 => exact ⟨h1, fun z hz => by cases hz; exact ⟨_, h3⟩, q m H _ .refl r (.bl b)⟩
    · exact q.elim
  · exact q.elim⟩
theorem me_xf {f : Str} {dd : Addr} {p pos : Pos} (T : ExcC X.K C) (hno : PySem.W.findIn X.K (.ref C) f = some none) (hz : Zc (.ref C) (some dd) oe) (hf : ∃ vs, oe.data = .fields vs) (hi : X.N[i]? = some n) (hln : X.env.kindOf n = some .local)
    (hdn : (n == ("__debug__" : Str)) = false := by decide) (hdc : (n == ("__classdict__" : Str)) = false := by decide) (hb : attributeBase (.Name n p) f X.env (eval (.Name n p) X.env) = eval (.Name n p) X.env := by rfl) :
    ME (X.suite a ((a, oe) :: pn)) W (.Attribute (.Name n p) f pos) (eXf i a dd f) := ⟨pe_imp (pe_xf ⟨T.hg, T.hk, T.hs, T.hd⟩ hno hz hf (pe_var (X := X.suite a ((a, oe) :: pn)) hi (.inl hln) hdn hdc) hb) fun σ H Q q => by
  obtain ⟨m, ah, ev, r, re, q⟩ := q
  unfold eXf at q
  split at q
  · rename_i a' d' g y e
    split at q
    · rename_i ha
      obtain ⟨rfl, rfl, rfl⟩ := ha
      obtain ⟨w, h1, h2⟩ := re.get i _ e
      cases h2 with
      | exn h3 h4 => exact ⟨.ref a', h1, rfl, rfl, d', _, _, rfl, h3, by simp [List.lookup], q m H _ .refl r h4⟩
    · exact q.elim
  · exact q.elim⟩
end
end FL

set_option Elab.async false
set_option linter.all false
set_option maxRecDepth 100000
set_option maxHeartbeats 2000000
/-! FLBO: def x(a): try: a() / except .. as e: .. / return c, under several clauses. -/
namespace FL
open PySem PySem.Spec PyProof.Rows L2
variable [Tabz]
/-- hm: what it gives back of an exception -/
def moM (endv : Va) (hm : Str → List (Str × Va) → AH → Rs Va) : Rs Va → Rs Va
  | .ok _ h => .ok endv h
  | .exc c p h => hm c p h
  | .bad => .bad
section
variable {X : Cx} {nσ i : Nat} {n : Str} {body : List Stmt} {c fld : Str} {C : Addr} {f : List (Str × Va) → AH → Rs Va} {hm : Str → List (Str × Va) → AH → Rs Va}
/-- a suite does with an exception of the class c what f says -/
def HC (X : Cx) (nσ i : Nat) (body : List Stmt) (c : Str) (C : Addr) (f : List (Str × Va) → AH → Rs Va) : Prop :=
  ∀ (a : Addr) (oe : Obj) (d : Option Addr) (pn : List (Addr × Obj)), Zc (.ref C) d oe → (∃ vs, oe.data = .fields vs) →
    PSs (X.suite a ((a, oe) :: pn)) body (fun D σ H => σ.length = nσ ∧ σ[i]? = some (some (.ref a)) ∧ ∃ m h p, HR X.K H m h ∧ XR X.K X.mg H m c p (.ref C) d ∧ Post X.K X.mg (VR X.K) m H C8.E0 (okOnly (f p h)) (fun w H' => D.rt w H'))
theorem pss_false {Y : Cx} {b : List Stmt} {t : TS} (h : ∀ D σ H, ¬ t D σ H) : PSs Y b t := ⟨fun _ _ σ H D _ q => (h D σ H q).elim⟩
theorem er_one {K : PySem.W.Frag} {H : Hp} {m : List Addr} {σ : L2.St} {x : Va} {a : Addr} (hl : σ.length = nσ) (hs : σ[i]? = some (some (.ref a))) (hx : VR K H m x (.ref a)) : ER K H m ((List.replicate nσ none).set i (some x)) σ := by
  refine ⟨by simp [hl], fun j v e => ?_⟩
  by_cases hj : i = j
  · subst hj
    have hlt : i < nσ := by
      rw [← hl]
      exact (List.getElem?_eq_some_iff.mp hs).1
    rw [List.getElem?_set_self (by simpa using hlt)] at e
    cases e
    exact ⟨.ref a, hs, hx⟩
  · rw [List.getElem?_set_ne hj] at e
    obtain ⟨_, e2⟩ := List.getElem?_eq_some_iff.mp e
    simp at e2
/-- a class without a field -/
theorem hc_0 {sf : Addr → SF} (hs : ∀ (a : Addr) (oe : Obj) (pn : List (Addr × Obj)), Zc (.ref C) none oe → (∃ vs, oe.data = .fields vs) → MSs (X.suite a ((a, oe) :: pn)) WN body (sf a))
    (he : ∀ (a : Addr) (h : AH) (v : Va) (h' : AH), f [] h = .ok v h' → sf a ((List.replicate nσ none).set i (some (.exo a))) h = .rt v h') (hp : ∀ p h v h', f p h = .ok v h' → p = []) : HC X nσ i body c C f := by
  intro a oe d pn hz hf
  cases d with
  | none =>
    refine pss_imp (hs a oe pn hz hf).pss fun D σ H ⟨hl, h1, m, h, p, r, x, q⟩ => ?_
    cases e : f p h with
    | ok v h' =>
      have := hp p h v h' e
      subst this
      refine ⟨m, h, _, r, er_one hl h1 (.exo a), ?_⟩
      rw [he a h v h' e]
      rw [e] at q
      exact fun m' H' w e1 r1 rv => q m' H' w e1 r1 rv
    | exc _ _ _ => rw [e] at q; exact q.elim
    | bad => rw [e] at q; exact q.elim
  | some dd =>
    refine pss_false fun D σ H ⟨hl, h1, m, h, p, r, x, q⟩ => ?_
    cases e : f p h with
    | ok v h' =>
      have := hp p h v h' e
      subst this
      obtain ⟨C', _, _, z⟩ := x
      cases z
    | exc _ _ _ => rw [e] at q; exact q.elim
    | bad => rw [e] at q; exact q.elim
/-- a class with a field -/
theorem hc_1 {sf : Addr → Addr → SF} (hs : ∀ (a : Addr) (oe : Obj) (dd : Addr) (pn : List (Addr × Obj)), Zc (.ref C) (some dd) oe → (∃ vs, oe.data = .fields vs) → MSs (X.suite a ((a, oe) :: pn)) WN body (sf a dd))
    (he : ∀ (a dd : Addr) (x : Va) (h : AH) (v : Va) (h' : AH), f [(fld, x)] h = .ok v h' → sf a dd ((List.replicate nσ none).set i (some (.exn a dd fld x))) h = .rt v h') (hp : ∀ p h v h', f p h = .ok v h' → ∃ x, p = [(fld, x)]) : HC X nσ i body c C f := by
  intro a oe d pn hz hf
  cases d with
  | some dd =>
    refine pss_imp (hs a oe dd pn hz hf).pss fun D σ H ⟨hl, h1, m, h, p, r, x, q⟩ => ?_
    cases e : f p h with
    | ok v h' =>
      obtain ⟨y, rfl⟩ := hp p h v h' e
      obtain ⟨C', _, _, d2, w, e2, g1, g2⟩ := x
      cases e2
      refine ⟨m, h, _, r, er_one hl h1 (.exn g1 g2), ?_⟩
      rw [he a dd y h v h' e]
      rw [e] at q
      exact fun m' H' w e1 r1 rv => q m' H' w e1 r1 rv
    | exc _ _ _ => rw [e] at q; exact q.elim
    | bad => rw [e] at q; exact q.elim
  | none =>
    refine pss_false fun D σ H ⟨hl, h1, m, h, p, r, x, q⟩ => ?_
    cases e : f p h with
    | ok v h' =>
      obtain ⟨y, rfl⟩ := hp p h v h' e
      obtain ⟨C', _, _, d2, w, e2, g1, g2⟩ := x
      cases e2
    | exc _ _ _ => rw [e] at q; exact q.elim
    | bad => rw [e] at q; exact q.elim
/-- an exception with one field, with none -/
def on1 (fld : Str) (r : Va → AH → Rs Va) : List (Str × Va) → AH → Rs Va := fun p h => match p with
  | [(g, x)] => if g = fld then r x h else .bad
  | _ => .bad
def on0 (r : AH → Rs Va) : List (Str × Va) → AH → Rs Va := fun p h => match p with
  | [] => r h
  | _ => .bad
theorem on1_at {r : Va → AH → Rs Va} {x : Va} {h : AH} : on1 fld r [(fld, x)] h = r x h := if_pos rfl
theorem on1_inv {r : Va → AH → Rs Va} {p : List (Str × Va)} {h : AH} {v : Va} {h' : AH} (e : on1 fld r p h = .ok v h') : ∃ x, p = [(fld, x)] := by
  unfold on1 at e
  split at e
  · split at e
    · rename_i hg
      subst hg
      exact ⟨_, rfl⟩
    · cases e
  · cases e
theorem on0_inv {r : AH → Rs Va} {p : List (Str × Va)} {h : AH} {v : Va} {h' : AH} (e : on0 r p h = .ok v h') : p = [] := by
  unfold on0 at e
  split at e
  · rfl
  · cases e
theorem hc_f {sf : Addr → Addr → SF} {r : Va → AH → Rs Va} (hs : ∀ (a : Addr) (oe : Obj) (dd : Addr) (pn : List (Addr × Obj)), Zc (.ref C) (some dd) oe → (∃ vs, oe.data = .fields vs) → MSs (X.suite a ((a, oe) :: pn)) WN body (sf a dd))
    (he : ∀ (a dd : Addr) (x : Va) (h : AH) (v : Va) (h' : AH), r x h = .ok v h' → sf a dd ((List.replicate nσ none).set i (some (.exn a dd fld x))) h = .rt v h') : HC X nσ i body c C (on1 fld r) :=
  hc_1 (fld := fld) hs (fun a dd x h v h' e => he a dd x h v h' (by rw [on1_at] at e; exact e)) fun _ _ _ _ e => on1_inv e
theorem hc_n {sf : Addr → SF} {r : AH → Rs Va} (hs : ∀ (a : Addr) (oe : Obj) (pn : List (Addr × Obj)), Zc (.ref C) none oe → (∃ vs, oe.data = .fields vs) → MSs (X.suite a ((a, oe) :: pn)) WN body (sf a))
    (he : ∀ (a : Addr) (h : AH) (v : Va) (h' : AH), r h = .ok v h' → sf a ((List.replicate nσ none).set i (some (.exo a))) h = .rt v h') : HC X nσ i body c C (on0 r) :=
  hc_0 hs (fun a h v h' e => he a h v h' e) fun _ _ _ _ e => on0_inv e
/-- the clauses, by the classes that come to each -/
inductive HdM (X : Cx) (nσ i : Nat) (n : Str) (hm : Str → List (Str × Va) → AH → Rs Va) : List ExceptHandler → List (Str × Addr) → Prop
  | any (l : List ExceptHandler) : HdM X nσ i n hm l []
  | cons {te : Expr} {b0 : Stmt} {bs : List Stmt} {hp : Pos} {l : List ExceptHandler} {M : List (Str × Addr)} (L : List (Str × Addr)) (hy : ∀ z ∈ L, Tst X te (.ref z.2) true ∧ HC X nσ i (b0 :: bs) z.1 z.2 (hm z.1)) (hn : ∀ z ∈ M, Tst X te (.ref z.2) false) (hr : HdM X nσ i n hm l M) :
      HdM X nσ i n hm (.ExceptHandler (some te) (some n) (b0 :: bs) hp :: l) (L ++ M)
/-- what the clauses ask -/
def wHd (X : Cx) (nσ i : Nat) (hm : Str → List (Str × Va) → AH → Rs Va) (ok : List (Str × Addr)) : Ends → Addr → Value → Option Addr → L2.St → Hp → Prop := fun D a cls d σ H =>
  ∃ c C, (c, C) ∈ ok ∧ cls = .ref C ∧ σ.length = nσ ∧ i < nσ ∧ ∃ m h p, HR X.K H m h ∧ XR X.K X.mg H m c p (.ref C) d ∧ Post X.K X.mg (VR X.K) m H C8.E0 (okOnly (hm c p h)) (fun w H' => D.rt w H')
theorem hb_of {l : List ExceptHandler} {ok : List (Str × Addr)} (hf : X.env.frame = some X.env.locals) (hN : X.N.Nodup) (hi : X.N[i]? = some n) (hln : X.env.kindOf n = some .local) (h : HdM X nσ i n hm l ok) : HB X l (wHd X nσ i hm ok) := by
  induction h with
  | any l => exact fun _ _ _ _ _ _ _ _ _ _ ⟨_, _, z, _⟩ => nomatch z
  | @cons te b0 bs hp l ok L hy hn hr ih =>
    intro pins σ H a cls d s D K g q
    refine hb_as (ts := fun a cls d D σ H => ∃ z ∈ L, cls = .ref z.2 ∧ σ.length = nσ ∧ σ[i]? = some (some (.ref a)) ∧ ∃ m h p, HR X.K H m h ∧ XR X.K X.mg H m z.1 p (.ref z.2) d ∧ Post X.K X.mg (VR X.K) m H C8.E0 (okOnly (hm z.1 p h)) (fun w H' => D.rt w H')) hf hN hi hln (fun a oe cls d pn hz hv => ⟨fun pins s σ H D I ⟨z, hz1, hz2, q⟩ => ?_⟩) ih pins σ H a cls d s D K g ?_
    · subst hz2
      exact ((hy z hz1).2 a oe d pn hz hv).run pins s σ H D I q
    · obtain ⟨c, C, hok, rfl, hl, hin, q⟩ := q
      rcases List.mem_append.mp hok with hL | hok
      · refine ⟨true, (hy _ hL).1, fun _ => ⟨(c, C), hL, rfl, by simpa using hl, List.getElem?_set_self (by rw [hl]; exact hin), q⟩, fun z => nomatch z⟩
      · exact ⟨false, hn _ hok, (fun z => by cases z), fun _ => ⟨c, C, hok, rfl, hl, hin, q⟩⟩
end
section
variable {X : Cx} {i : Nat} {n : Str} {hm : Str → List (Str × Va) → AH → Rs Va}
theorem giv_many {k : Nat} {Ng : List Str} {x a q : Str} {sg : Scope} {g : Addr} {cdg : Value} {endE : Expr} {endv : Va} {v : V} {h0 : ExceptHandler} {l : List ExceptHandler} {ok : List (Str × Addr)} {p1 p2 p3 p10 pos : Pos}
    (hN : Ng.Nodup) (h1 : Ng[i]? = some n) (hi0 : 0 < i) (hln : sg.names.lookup n = some .local) (hh : ∀ (s : Shared) (H : Hp), (X.A.deeper (envOfC x sg s.heap.objs.size g cdg)).guards = some [] → Room k (X.A.deeper (envOfC x sg s.heap.objs.size g cdg)) → HdM (gX X Ng x sg g cdg s H).nox Ng.length i n hm (h0 :: l) ok)
    (hok : ∀ c p h v h', hm c p h = .ok v h' → ∃ C, X.mg c = some (.ref C) ∧ (c, C) ∈ ok) (hE : ∀ (s : Shared) (H : Hp), PE (gX X Ng x sg g cdg s H).nox endE (tC v)) (hv : ∀ H m, VR X.K H m endv v) :
    GvF X k Ng x sg g cdg [.Try [.Expr (.Call (.Name a p1) [] [] p2) p3] (h0 :: l) [] [] pos, .Return (some endE) p10] a q (moM endv hm) := by
  intro f c' s H Q m ah r act hr z room hgd
  have hlt := (List.getElem?_eq_some_iff.mp h1).1
  have hlen : (L2.start Ng [V.ref f]).length = Ng.length := by
    simp [L2.start]
    omega
  refine ⟨_, pss_cons (ps_try_hb (X := (gX X Ng x sg g cdg s H).nox) (tb := fun W D σ HZ => σ[0]? = some (some (V.ref f)) ∧ HZ = H ∧ Post X.K X.mg (VR X.K) m H (WE W σ) r (fun _ H' => D.nx σ H')) (w := wHd (gX X Ng x sg g cdg s H).nox Ng.length i hm ok) rfl rfl
    (fun W pn xe tk => pss_one (ps_imp (ps_expr (act W pn xe p1 p2 tk)) fun D σ HZ h => (h : σ[0]? = some (some (V.ref f)) ∧ HZ = H ∧ Post X.K X.mg (VR X.K) m H (WE W σ) r (fun _ H' => D.nx σ H'))))
    (hb_of rfl hN h1 hln (hh s H hgd (room.mono (Nat.le_succ k))))) (pss_one (ps_ret (hE s H))), rfl, rfl, ?_⟩
  cases r with
  | bad => exact z.elim
  | ok y h => exact fun m' H' w e r1 _ => z m' H' v e r1 (hv _ _)
  | exc cl p h =>
    intro m' H' cls d e1 r1 x1 a' ha'
    have z' : Post X.K X.mg (VR X.K) m H C8.E0 (okOnly (hm cl p h)) (fun w H' => Q w H') := z
    cases e : hm cl p h with
    | exc _ _ _ => rw [e] at z'; exact z'.elim
    | bad => rw [e] at z'; exact z'.elim
    | ok w h' =>
      obtain ⟨C, g1, g2⟩ := hok cl p h w h' e
      obtain ⟨C', g3, rfl, g4⟩ := id x1
      have : C' = C := by
        have := g3.symm.trans g1
        cases this
        rfl
      subst this
      exact ⟨cl, C', g2, rfl, hlen, hlt, m', h, p, r1, x1, Post.ext z' e1⟩
end
end FL

set_option Elab.async false
set_option linter.all false
set_option maxRecDepth 100000
set_option maxHeartbeats 2000000
/-! FLBP: a text and the text of a value; what the handlers give back. -/
namespace FL
open PySem PySem.Spec PyProof.Rows L2
variable [Tabz]
def oAddR : Op2 := fun p q h => match p, q with
  | .str x, .rp d => if (d.canLay0 && decide (x.length + lenB d ≤ lim)) = true then some (.str (x ++ d.shown), h) else none
  | p, q => oAdd p q h
theorem op_oAddR {X : Cx} : OpR X (binaryOp .Add) (rO X.K oAddR) := by
  refine OpR.imp (op_oAdd.or op_add_str) fun x y H Q ⟨m, ah, p, q, v, ah', r, rp, rq, e, k⟩ => ?_
  unfold oAddR at e
  split at e
  · split at e
    · rename_i hz
      cases e
      simp only [Bool.and_eq_true, decide_eq_true_eq] at hz
      cases rp
      cases rq
      have := lenB_ok _ hz.1
      exact .inr ⟨_, _, rfl, rfl, lim_line (by omega), k m H _ .refl r (.str _)⟩
    · cases e
  · exact .inl ⟨m, ah, p, q, v, ah', r, rp, rq, e, k⟩
section
variable {i n : Nat} {a dd : Addr} {b : Bool} {f : Str} {x : Va} {h : AH}
theorem is0_at (hi : i < n) : eIs0 i a b ((List.replicate n none).set i (some (.exo a))) h = .ok (.bl b) h := by
  unfold eIs0
  rw [List.getElem?_set_self (by simpa using hi)]
  exact if_pos rfl
theorem is1_at (hi : i < n) : eIs1 i a dd b ((List.replicate n none).set i (some (.exn a dd f x))) h = .ok (.bl b) h := by
  unfold eIs1
  rw [List.getElem?_set_self (by simpa using hi)]
  exact if_pos ⟨rfl, rfl⟩
theorem xf_at (hi : i < n) : eXf i a dd f ((List.replicate n none).set i (some (.exn a dd f x))) h = .ok x h := by
  unfold eXf
  rw [List.getElem?_set_self (by simpa using hi)]
  exact if_pos ⟨rfl, rfl, rfl⟩
/-- a text and the value's own text -/
def resN (s : Str) (x : Va) (h : AH) : Rs Va := match oReprN [x] h with
  | some (w, h1) => ofO (oAddR (.str s) w h1)
  | none => .bad
variable {ev : Ev} {g : EF} {s : Str} {v : Va} {h' : AH}
theorem fin_c {w : Va} (e : (Rs.ok w h : Rs Va) = .ok v h') : retK ev (eC w ev h) = .rt v h' := by
  cases e
  rfl
theorem fin_n (hg : g ev h = .ok x h) (e : resN s x h = .ok v h') : retK ev (eOp oAddR (eC (.str s)) (eAp oReprN (aCons g aNil)) ev h) = .rt v h' := by
  have q : eOp oAddR (eC (.str s)) (eAp oReprN (aCons g aNil)) ev h = resN s x h := by
    rw [s_op, s_c, k_op, s_ap, s_cons, hg, k_cons, s_nil, k_cons1, k_ap]
    unfold resN
    cases oReprN [x] h with
    | none => rfl
    | some z => obtain ⟨w, h1⟩ := z; rfl
  rw [q, e]
  rfl
/-- [s, repr(e.f)] -/
def resL (s : Str) (x : Va) (h : AH) : Rs Va := match oReprN [x] h with
  | some (w, h1) => ofO (oLst [.str s, w] h1)
  | none => .bad
end
end FL

set_option Elab.async false
set_option linter.all false
set_option maxRecDepth 100000
set_option maxHeartbeats 2000000
/-! FLBQ: max(t, default=d) of a tuple of ints. -/
namespace FL
open PySem PySem.Spec PyProof.Rows L2
variable [Tabz]
section
variable {X : Cx} {W : WX} {a : Expr} {f : EF} {tk : AF} {kws : List Keyword} {p pos : Pos}
/-- the greatest of i and is, the first of them -/
def mxI (i : Int) (is : List Int) : Int := PySem.W.maxOf i is
def oMxK (v w : Va) (h : AH) : Option (Va × AH) := match v with
  | .tup xs => (match allI xs with
    | some [] => some (w, h)
    | some (i :: is) => some (.int (mxI i is), h)
    | none => none)
  | _ => none
def eMxK (f : EF) (tk : AF) : EF := fun ev h => (f ev h).bind fun v h1 => (tk ev h1).bind fun zs h2 => match zs with
  | [w] => ofO (oMxK v w h2)
  | _ => .bad
def rMxK (K : PySem.W.Frag) : List V → List V → Hp → VK → Prop := fun xs zs H Q => ∃ (a : Addr) (is : List Int) (z : V), xs = [.ref a] ∧ SqT K H a (is.map V.int) ∧ zs = [z] ∧ (is = [] → Q z H) ∧ ∀ i js, is = i :: js → Q (.int (mxI i js)) H
def mxKK (tk : AF) (ev : Ev) : Rs Va → Rs Va := fun r => r.bind fun v h1 => (tk ev h1).bind fun zs h2 => match zs with
  | [w] => ofO (oMxK v w h2)
  | _ => .bad
end
end FL

set_option Elab.async false
set_option linter.all false
set_option maxRecDepth 100000
set_option maxHeartbeats 2000000
/-! FLBD: dicts whose keys are tuples. -/
namespace FL
open PySem PySem.Spec PyProof.Rows L2
variable [Tabz]
mutual
theorem nk_hash {w w' : World} : ∀ (x : Va) {k : PySem.NestedKey}, nk x = some k → k.hash w = k.hash w'
  | .non, k, e => by
    have e : some PySem.NestedKey.none = some k := e
    cases e; rfl
  | .bl b, k, e => by
    have e : some (PySem.NestedKey.num (if b then 1 else 0)) = some k := e
    cases e; rfl
  | .int i, k, e => by
    have e : some (PySem.NestedKey.num i) = some k := e
    cases e; rfl
  | .tup xs, k, e => by
    unfold nk at e
    cases q : nks xs with
    | none => rw [q] at e; cases e
    | some ks =>
      rw [q] at e; cases e
      show reduceHash (Builtin.Tuple.tupleHashOf (PySem.NestedKey.hashes w ks)) = reduceHash (Builtin.Tuple.tupleHashOf (PySem.NestedKey.hashes w' ks))
      rw [nks_hash (w := w) (w' := w') xs q]
  | .str _, _, e => by simp [nk] at e
  | .rp _, _, e => by simp [nk] at e
  | .ref _, _, e => by simp [nk] at e
  | .rol _, _, e => by simp [nk] at e
  | .dv _, _, e => by simp [nk] at e
  | .exo _, _, e => by simp [nk] at e
  | .exn _ _ _ _, _, e => by simp [nk] at e
theorem nks_hash {w w' : World} : ∀ (xs : List Va) {ks : List PySem.NestedKey}, nks xs = some ks → PySem.NestedKey.hashes w ks = PySem.NestedKey.hashes w' ks
  | [], ks, e => by
    have e : some [] = some ks := e
    cases e; rfl
  | x :: xs, ks, e => by
    unfold nks at e
    cases q1 : nk x with
    | none => rw [q1] at e; cases e
    | some k =>
      cases q2 : nks xs with
      | none => rw [q1, q2] at e; cases e
      | some ks' =>
        rw [q1, q2] at e
        cases e
        show k.hash w :: PySem.NestedKey.hashes w ks' = k.hash w' :: PySem.NestedKey.hashes w' ks'
        rw [nk_hash (w := w) (w' := w') x q1, nks_hash (w := w) (w' := w') xs q2]
end
section
variable {X : Cx} {pins : List (Addr × Obj)} {σ : L2.St} {H : Hp} {s : Shared} {m : List Addr}
mutual
theorem nk_is (I : Inv X pins σ H s) : ∀ (x : Va) {k : PySem.NestedKey} {v : V} {u : Value}, nk x = some k → VR X.K H m x v → RelV v u → PySem.NestedIs s.heap k u
  | .non, k, v, u, e, r, ru => by
    have e : some PySem.NestedKey.none = some k := e
    cases e; cases r
    obtain rfl : u = Value.none := ru
    exact .none
  | .bl b, k, v, u, e, r, ru => by
    have e : some (PySem.NestedKey.num (if b then 1 else 0)) = some k := e
    cases e; cases r
    obtain rfl : u = Value.bool b := ru
    exact .bool rfl
  | .int i, k, v, u, e, r, ru => by
    have e : some (PySem.NestedKey.num i) = some k := e
    cases e; cases r
    obtain ⟨t, rfl⟩ : ∃ t, u = Value.int i t := ru
    exact .int i t
  | .tup xs, k, v, u, e, r, ru => by
    unfold nk at e
    cases q : nks xs with
    | none => rw [q] at e; cases e
    | some ks =>
      rw [q] at e; cases e
      obtain ⟨a, vs, rfl, h, hs⟩ := vr_tup r
      obtain rfl : u = Value.ref a := ru
      obtain ⟨its, r1, ⟨o, h1, h2, n, h3⟩, _⟩ := I.tuple h
      exact .tup h1 h2 h3 (by simpa using nks_is I xs q hs r1)
  | .str _, _, _, _, e, _, _ => by simp [nk] at e
  | .rp _, _, _, _, e, _, _ => by simp [nk] at e
  | .ref _, _, _, _, e, _, _ => by simp [nk] at e
  | .rol _, _, _, _, e, _, _ => by simp [nk] at e
  | .dv _, _, _, _, e, _, _ => by simp [nk] at e
  | .exo _, _, _, _, e, _, _ => by simp [nk] at e
  | .exn _ _ _ _, _, _, _, e, _, _ => by simp [nk] at e
theorem nks_is (I : Inv X pins σ H s) : ∀ (xs : List Va) {ks : List PySem.NestedKey} {vs : List V} {us : List Value}, nks xs = some ks → VRs X.K H m xs vs → Vals vs us → PySem.NestedAll s.heap ks us
  | [], ks, vs, us, e, r, ru => by
    have e : some [] = some ks := e
    cases e; cases r; cases ru
    exact .nil
  | x :: xs, ks, vs, us, e, r, ru => by
    unfold nks at e
    cases q1 : nk x with
    | none => rw [q1] at e; cases e
    | some k =>
      cases q2 : nks xs with
      | none => rw [q1, q2] at e; cases e
      | some ks' =>
        rw [q1, q2] at e
        cases e
        cases r with
        | cons h hs =>
          cases ru with
          | cons h1 t1 => exact .cons (nk_is I x q1 h h1) (nks_is I xs q2 hs t1)
end
end
/-! ### looking and storing -/
def sameN (k : PySem.NestedKey) (p : Va) : Bool := match nk p with
  | some k' => PySem.NestedKey.beq k' k
  | none => false
def findN (kvs : List (Va × Va)) (k : PySem.NestedKey) : Option Va := (kvs.find? fun p => sameN k p.1).map (·.2)
def putN (kvs : List (Va × Va)) (i : Va) (k : PySem.NestedKey) (v : Va) : List (Va × Va) :=
  if (findN kvs k).isSome then kvs.map fun p => if sameN k p.1 then (p.1, v) else p else kvs ++ [(i, v)]
/-- a tuple as a key -/
def keyN : Va → Option PySem.NestedKey
  | .tup xs => match nk (.tup xs) with
    | some k => if k.depth ≤ 8 then some k else none
    | none => none
  | _ => none
theorem keyN_ok {x : Va} {k : PySem.NestedKey} (e : keyN x = some k) : (∃ xs, x = .tup xs) ∧ nk x = some k ∧ k.depth ≤ 8 := by
  unfold keyN at e
  split at e
  · split at e
    · rename_i h
      split at e
      · rename_i hd
        cases e
        exact ⟨⟨_, rfl⟩, h, hd⟩
      · cases e
    · cases e
  · cases e
section
variable {K : PySem.W.Frag} {H H' : Hp} {m m' : List Addr} {ah : AH}
theorem DtE.key : ∀ {kvs : List (Va × Va)} {xs : List (PySem.NestedKey × Addr × Value)}, DtE K H m kvs xs → ∀ x ∈ xs, ∃ p, nk p = some x.1 ∧ x.1.depth ≤ 8 ∧ VR K H m p (.ref x.2.1)
  | _, _, .nil => fun x h => nomatch h
  | _, _, .cons h1 h2 _ _ h5 => fun x h => by
    rcases List.mem_cons.mp h with rfl | h
    · exact ⟨_, h1.1, h1.2, h2⟩
    · exact DtE.key h5 x h
theorem DtE.length : ∀ {kvs : List (Va × Va)} {xs : List (PySem.NestedKey × Addr × Value)}, DtE K H m kvs xs → kvs.length = xs.length
  | _, _, .nil => rfl
  | _, _, .cons _ _ _ _ h5 => by rw [List.length_cons, List.length_cons, DtE.length h5]
theorem DtE.find (k : PySem.NestedKey) : ∀ {kvs : List (Va × Va)} {xs : List (PySem.NestedKey × Addr × Value)}, DtE K H m kvs xs → match findN kvs k, atKey xs k with
    | some q, some bu => ∃ v, VR K H m q v ∧ RelV v bu.2
    | none, none => True
    | _, _ => False
  | _, _, .nil => True.intro
  | (p, q) :: kvs, (k0, b, u) :: xs, .cons h1 h2 h3 h4 h5 => by
    have ih := DtE.find k h5
    unfold findN atKey at ih ⊢
    rw [List.find?_cons, List.find?_cons]
    have e1 : sameN k p = PySem.NestedKey.beq k0 k := by unfold sameN; rw [h1.1]
    have e2 : decide (k0 = k) = PySem.NestedKey.beq k0 k := PySem.NestedKey.decide_eq k0 k
    simp only [e1, e2]
    cases PySem.NestedKey.beq k0 k with
    | true => exact ⟨_, h3, h4⟩
    | false => exact ih
theorem DtE.is (k : PySem.NestedKey) {kvs : List (Va × Va)} {xs : List (PySem.NestedKey × Addr × Value)} (d : DtE K H m kvs xs) : (findN kvs k).isSome = (atKey xs k).isSome := by
  have h := d.find k
  cases e1 : findN kvs k <;> cases e2 : atKey xs k <;> rw [e1, e2] at h <;> first | rfl | exact h.elim
theorem DtE.app {p q : Va} {k : PySem.NestedKey} {b : Addr} {v : V} {u : Value} (h1 : nk p = some k ∧ k.depth ≤ 8) (h2 : VR K H m p (.ref b)) (h3 : VR K H m q v) (h4 : RelV v u) : ∀ {kvs : List (Va × Va)} {xs : List (PySem.NestedKey × Addr × Value)}, DtE K H m kvs xs → DtE K H m (kvs ++ [(p, q)]) (xs ++ [(k, b, u)])
  | _, _, .nil => .cons h1 h2 h3 h4 .nil
  | _, _, .cons g1 g2 g3 g4 g5 => .cons g1 g2 g3 g4 (DtE.app h1 h2 h3 h4 g5)
theorem DtE.chg {q : Va} {k : PySem.NestedKey} {v : V} {u : Value} (h3 : VR K H m q v) (h4 : RelV v u) : ∀ {kvs : List (Va × Va)} {xs : List (PySem.NestedKey × Addr × Value)}, DtE K H m kvs xs → DtE K H m (kvs.map fun p => if sameN k p.1 then (p.1, q) else p) (xs.map (PySem.putAt k u))
  | _, _, .nil => .nil
  | (p, q0) :: kvs, (k0, b, u0) :: xs, .cons g1 g2 g3 g4 g5 => by
    have ih := DtE.chg (k := k) h3 h4 g5
    rw [List.map_cons, List.map_cons]
    have e1 : sameN k p = decide (k0 = k) := by unfold sameN; rw [g1.1, PySem.NestedKey.decide_eq]
    unfold PySem.putAt
    show DtE K H m ((if sameN k p = true then (p, q) else (p, q0)) :: _) ((if k0 = k then (k0, b, u) else (k0, b, u0)) :: _)
    rw [e1]
    by_cases e : k0 = k
    · rw [decide_eq_true e, if_pos rfl, if_pos e]
      exact .cons g1 g2 h3 h4 ih
    · rw [decide_eq_false e, if_neg (by decide), if_neg e]
      exact .cons g1 g2 g3 g4 ih
theorem DtE.put {p q : Va} {k : PySem.NestedKey} {b : Addr} {v : V} {u : Value} (h1 : nk p = some k ∧ k.depth ≤ 8) (h2 : VR K H m p (.ref b)) (h3 : VR K H m q v) (h4 : RelV v u) {kvs : List (Va × Va)} {xs : List (PySem.NestedKey × Addr × Value)} (d : DtE K H m kvs xs) : DtE K H m (putN kvs p k q) (storedH xs k b u) := by
  unfold putN storedH
  rw [d.is k]
  cases (atKey xs k).isSome with
  | true => exact d.chg h3 h4
  | false => exact d.app h1 h2 h3 h4
theorem HR.dtl {l : Nat} {a : Addr} {kvs : List (Va × Va)} (r : HR K H m ah) (h : m[l]? = some a) (e : ah[l]? = some (.dtl kvs)) : ∃ xs, H a = some (.ext (phiN a xs)) ∧ DtE K H m kvs xs ∧ (xs.map (·.1)).Nodup ∧ (a == sysModules) = false := r.at_ l a _ h e
theorem hr_putN {l : Nat} {a : Addr} {kvs : List (Va × Va)} {xs : List (PySem.NestedKey × Addr × Value)} (r : HR K H m ah) (h : m[l]? = some a) (hv : DtE K H m kvs xs) (hn : (xs.map (·.1)).Nodup) (ha : (a == sysModules) = false) : HR K (upd H a (.ext (phiN a xs))) m (ah.set l (.dtl kvs)) := by
  have e : Ext m H m (upd H a (.ext (phiN a xs))) := ext_set h
  refine ⟨by rw [List.length_set]; exact r.len, r.nd, fun j b o h1 h2 => ?_, r.tset h⟩
  by_cases hj : j = l
  · subst hj
    rw [h] at h1; cases h1
    have hlt : j < ah.length := by rw [← r.len]; exact (List.getElem?_eq_some_iff.mp h).1
    rw [List.getElem?_set_self hlt] at h2
    cases h2
    exact ⟨xs, upd_same, hv.ext r e, hn, ha⟩
  · rw [List.getElem?_set_ne (fun z => hj z.symm)] at h2
    refine (r.at_ j b o h1 h2).ext r e (upd_ne fun z => hj ?_)
    subst z
    have hlt := (List.getElem?_eq_some_iff.mp h1).1
    exact (List.getElem?_inj hlt r.nd).mp (h1.trans h.symm)
end
/-! ### in the machine -/
section
variable {X : Cx} {pins : List (Addr × Obj)} {σ : L2.St} {H : Hp} {s : Shared} {m : List Addr} {ah : AH} {a : Addr} {kvs : List (Va × Va)} {xs : List (PySem.NestedKey × Addr × Value)} {A : Around} {E : Value → Shared → Prop}
theorem phiN_of {P : Program} {w : World} {h : Heap} (d : h.DictOfH (PySem.nestedKind P w) a xs) (hx : ∀ x ∈ xs, ∃ p, nk p = some x.1) : phiN a xs h := by
  obtain ⟨o, es, ep, h1, h2, h3, h4, _, _⟩ := d
  refine ⟨o, es, ep, h1, h2, h3, fun w' => ?_⟩
  rw [h4]
  refine List.map_congr_left fun x hx' => ?_
  obtain ⟨p, hp⟩ := hx x hx'
  show (⟨x.1.hash w, .ref x.2.1, x.2.2⟩ : DictEntry) = ⟨x.1.hash w', .ref x.2.1, x.2.2⟩
  rw [nk_hash (w := w) (w' := w') p hp]
theorem phiN_ok {P : Program} {w : World} {h : Heap} (e : phiN a xs h) : ObjOk P w H h a (.ext (phiN a xs)) := by
  obtain ⟨o, es, ep, h1, r⟩ := e
  exact ⟨⟨o, es, ep, h1, r⟩, ⟨o, h1⟩, fun k1 k2 ⟨o, es, ep, e, r⟩ k => ⟨o, es, ep, k o e, r⟩⟩
theorem dictN (I : Inv X pins σ H s) (h : H a = some (.ext (phiN a xs))) (d : DtE X.K H m kvs xs) (hn : (xs.map (·.1)).Nodup) : s.heap.DictOfH (PySem.nestedKind X.prog X.w) a xs := by
  obtain ⟨⟨o, es, ep, h1, h2, h3, h4⟩, _⟩ := (show ObjOk X.prog X.w H s.heap a (.ext (phiN a xs)) from I.hok a _ h)
  refine ⟨o, es, ep, h1, h2, h3, h4 X.w, fun x hx => ?_, hn⟩
  obtain ⟨p, hp, hd, hv⟩ := d.key x hx
  exact ⟨nk_is I p hp hv rfl, hd⟩
theorem n_getItem {Q : Value → Shared → Prop} {p q : Va} {k : PySem.NestedKey} {b : Addr} (hu : A.units + 9 < cLine) (I : Inv X pins σ H s) (h : H a = some (.ext (phiN a xs))) (d : DtE X.K H m kvs xs) (hn : (xs.map (·.1)).Nodup)
    (hk : nk p = some k ∧ k.depth ≤ 8) (rp : VR X.K H m p (.ref b)) (hf : findN kvs k = some q) (hQ : ∀ v u s', VR X.K H m q v → RelV v u → Inv X pins σ H s' → Q u s') : wpAny (model X.prog X.w) A (getItem (.ref a) (.ref b)) Q E s := by
  have z := d.find k
  rw [hf] at z
  cases e : atKey xs k with
  | none => rw [e] at z; exact z.elim
  | some bu =>
    rw [e] at z
    obtain ⟨v, z1, z2⟩ := z
    exact wpAny_getItem_heap (knd := PySem.nestedKind X.prog X.w) (by show A.units + 1 + 8 < cLine; omega) ⟨nk_is I p hk.1 rp rfl, hk.2⟩ (dictN I h d hn) e (hQ v bu.2 _ z1 z2 (I.tok _))
theorem n_in {Q : Value → Shared → Prop} {p : Va} {k : PySem.NestedKey} {b : Addr} (hu : A.units + 9 < cLine) (I : Inv X pins σ H s) (h : H a = some (.ext (phiN a xs))) (d : DtE X.K H m kvs xs) (hn : (xs.map (·.1)).Nodup) (hd : (a == sysModules) = false)
    (hk : nk p = some k ∧ k.depth ≤ 8) (rp : VR X.K H m p (.ref b)) (hQ : ∀ s', Inv X pins σ H s' → Q (.bool (findN kvs k).isSome) s') : wpAny (model X.prog X.w) A (compareOp .In (.ref b) (.ref a)) Q E s :=
  wpAny_in_heap (knd := PySem.nestedKind X.prog X.w) (by show A.units + 1 + 8 < cLine; omega) ⟨nk_is I p hk.1 rp rfl, hk.2⟩ hd (dictN I h d hn) (by rw [← d.is k]; exact hQ _ (I.tok _))
theorem n_setItem {Q : Unit → Shared → Prop} {p q : Va} {k : PySem.NestedKey} {b : Addr} {v : V} {u : Value} {l : Nat} (hu : A.units + 9 < cLine) (I : Inv X pins σ H s) (r : HR X.K H m ah) (hl : m[l]? = some a) (ho : ah[l]? = some (.dtl kvs)) (hz : kvs.length < lim)
    (hk : nk p = some k ∧ k.depth ≤ 8) (rp : VR X.K H m p (.ref b)) (rq : VR X.K H m q v) (ru : RelV v u)
    (hQ : ∀ s' xs', Inv X pins σ (upd H a (.ext (phiN a xs'))) s' → HR X.K (upd H a (.ext (phiN a xs'))) m (ah.set l (.dtl (putN kvs p k q))) → Q () s') : wpAny (model X.prog X.w) A (setItem (.ref a) (.ref b) u) Q E s := by
  obtain ⟨xs, g1, g2, g3, g4⟩ := r.dtl hl ho
  have hsz : xs.length ≤ sizeLine := by
    have h1 := g2.length
    have h4 : lim < sizeLine := by rw [sizeLine_eq]; decide
    omega
  refine wpAny_setItem_heap (knd := PySem.nestedKind X.prog X.w) (hsz := hsz) (by show A.units + 1 + 8 < cLine; omega) ⟨nk_is I p hk.1 rp rfl, hk.2⟩ (dictN I g1 g2 g3) fun h' dd hs => ?_
  have d2 := g2.put hk rp rq ru
  have ok : phiN a (storedH xs k b u) h' := phiN_of dd fun x hx => let ⟨p, hp, _⟩ := d2.key x hx; ⟨p, hp⟩
  have he : ∃ q, h'.get? a = some q := let ⟨q, _, _, hq, _⟩ := dd; ⟨q, hq⟩
  exact hQ _ _ (d_write I (by rw [g1]; exact True.intro) hs he (phiN_ok ok)) (hr_putN r hl d2 dd.choose_spec.choose_spec.choose_spec.2.2.2.2.2 g4)
end
/-! ### d[k], k in d -/
def oIxN : Op2 := fun p q h => match p with
  | .ref l => match h[l]? with
    | some (.dtl kvs) => match keyN q with
      | some k => (findN kvs k).map fun v => (v, h)
      | none => none
    | _ => oIx p q h
  | _ => oIx p q h
def oInN (neg : Bool) : Op2 := fun p q h => match q with
  | .ref l => match h[l]? with
    | some (.dtl kvs) => match keyN p with
      | some k => some (.bl (if neg then !(findN kvs k).isSome else (findN kvs k).isSome), h)
      | none => none
    | _ => oInn neg p q h
  | _ => oInn neg p q h
abbrev oInD : Op2 := oInN false
abbrev oNotInD : Op2 := oInN true
theorem tailD {prog : Program} {w : World} {A : Around} {E : Value → Shared → Prop} {s₂ : Shared} {value slice : Expr} {o i : Value} {T id : String} {Q : Value → Shared → Prop}
    (hT : s₂.TypeIs o T) (hl : typeLookup (.type T) "__getitem__" = pure (some (.builtin id))) (hs : subscripted slice false o i = operate [o, i] (getItem o i))
    (h₂ : wpAny (model prog w) A (getItem o i) Q E s₂) : wpAny (model prog w) A (subscriptTail value slice o i) Q E s₂ := by
  unfold subscriptTail
  refine wpAny_bind ?_
  rw [getitemInPython_of_ne hT.not_modules]
  refine wpAny_bind (wpAny_specialOf hT hl ?_)
  have fin : wpAny (model prog w) A (subscripted slice false o i) (fun r s₃ => wpAny (model prog w) A (letTemporaryGo value o r >>= fun _ => pure r) Q E s₃) E s₂ := by
    rw [hs]
    exact wpAny_operating (wpAny_mono h₂ (fun r s₃ h₃ => wpAny_bind (wpAny_letTemporaryGo (wpAny_pure h₃))) fun _ _ x => x)
  first
    | exact wpAny_pure (wpAny_bind fin)
    | exact wpAny_bind (wpAny_pure (wpAny_bind fin))
    | exact wpAny_bind fin
section
variable {X : Cx} {W : WX} {a b : Expr} {f g : EF} {pos : Pos}
theorem ix_n {j : Nat} (hr : Room j X.A) : IxR X (rO X.K oIxN) := by
  intro value slice pins s σ H x y v u Q I rx ry h hs
  obtain ⟨m, ah, p, q, z, ah', r, rp, rq, e, kk⟩ := h
  have base := ix_o (X := X)
  have hu := hr.un
  unfold oIxN at e
  split at e
  · rename_i l
    split at e
    · rename_i kvs ho
      split at e
      case h_2 => cases e
      rename_i k hk
      cases hf : findN kvs k with
      | none => rw [hf] at e; cases e
      | some w =>
        rw [hf] at e
        cases e
        obtain ⟨⟨ts, rfl⟩, hk1, hk2⟩ := keyN_ok hk
        obtain ⟨b, vs, rfl, hb⟩ := vr_tup rq
        cases rp with
        | @ref _ a ha =>
          obtain rfl : v = Value.ref a := rx
          obtain rfl : u = Value.ref b := ry
          obtain ⟨xs, g1, g2, g3, g4⟩ := r.dtl ha ho
          have dd := dictN I g1 g2 g3
          exact tailD dd.typeIs PySem.F.slot_dict_getitem.lookup hs (n_getItem (by omega) I g1 g2 g3 ⟨hk1, hk2⟩ rq hf fun v' u' s' rv ru I' => ⟨v', H, I', ru, kk m H _ .refl r rv⟩)
    · exact base value slice pins s σ H x y v u Q I rx ry ⟨m, ah, _, q, z, ah', r, rp, rq, e, kk⟩ hs
  · exact base value slice pins s σ H x y v u Q I rx ry ⟨m, ah, _, q, z, ah', r, rp, rq, e, kk⟩ hs
theorem me_ixN {j : Nat} (hr : Room j X.A) (ha : ME X W a f) (hb : ME X W b g) (hs : PlainIx b := by exact fun _ _ => rfl) : ME X W (.Subscript a b pos) (eOp oIxN f g) := ⟨pe_imp (pe_ix (ix_n hr) ha.pe hb.pe hs) fun _ _ _ h => h.op⟩
theorem op_oInD {j : Nat} (hr : Room j X.A) : OpR X (compareOp .In) (rO X.K oInD) := by
  intro pins s σ H x y v u Q I rx ry h
  obtain ⟨m, ah, p, q, z, ah', r, rp, rq, e, kk⟩ := h
  have base := op_oIn (X := X) hr
  have hu := hr.un
  unfold oInD oInN at e
  split at e
  · rename_i l
    split at e
    · rename_i kvs ho
      split at e
      case h_2 => cases e
      rename_i k hk
      cases e
      obtain ⟨⟨ts, rfl⟩, hk1, hk2⟩ := keyN_ok hk
      obtain ⟨b, vs, rfl, hb⟩ := vr_tup rp
      cases rq with
      | @ref _ a ha =>
        obtain rfl : u = Value.ref a := ry
        obtain rfl : v = Value.ref b := rx
        obtain ⟨xs, g1, g2, g3, g4⟩ := r.dtl ha ho
        exact n_in (by omega) I g1 g2 g3 g4 ⟨hk1, hk2⟩ rp fun s' I' => ⟨.bl _, H, I', rfl, kk m H _ .refl r (.bl _)⟩
    · exact base pins s σ H x y v u Q I rx ry ⟨m, ah, p, _, z, ah', r, rp, rq, e, kk⟩
  · exact base pins s σ H x y v u Q I rx ry ⟨m, ah, p, _, z, ah', r, rp, rq, e, kk⟩
end
/-! ### d[k] = v -/
def putAtN (o i v : Va) (h : AH) : Option AH := match o with
  | .ref l => match h[l]? with
    | some (.dtl kvs) => match keyN i with
      | some k => if kvs.length < lim then some (h.set l (.dtl (putN kvs i k v))) else none
      | none => none
    | _ => none
  | _ => none
def sPutN (fo fi f : EF) : SF := fun ev h => (f ev h).s ev fun v h1 => (fo ev h1).s ev fun o h2 => (fi ev h2).s ev fun i h3 => match putAtN o i v h3 with | some h4 => .nx ev h4 | none => .bad
def rPutN (K : PySem.W.Frag) (x y v : V) (H : Hp) (Q : Hp → Prop) : Prop := ∃ m ah p q z ah', HR K H m ah ∧ VR K H m p x ∧ VR K H m q y ∧ VR K H m z v ∧ putAtN p q z ah = some ah' ∧ ∀ H', HR K H' m ah' → Ext m H m H' → Q H'
def sPG (K : PySem.W.Frag) (td ty tv : TE) : TS := fun D σ H => tv σ H fun v H1 => td σ H1 fun x H2 => ty σ H2 fun y H3 => rPutN K x y v H3 fun H4 => D.nx σ H4
section
variable {X : Cx} {W : WX} {o i e : Expr} {fo fi fe : EF} {p1 pos : Pos} {td ty tv : TE}
theorem set_n {A : Around} {E : Value → Shared → Prop} {pins : List (Addr × Obj)} {σ : L2.St} {H : Hp} {s : Shared} {x y v : V} {xv u r : Value} {Q : Hp → Prop} {P : Unit → Shared → Prop} (hu : A.units + 9 < cLine) (I : Inv X pins σ H s) (rx : RelV x xv) (ry : RelV y u) (rv : RelV v r) (h : rPutN X.K x y v H Q)
    (hP : ∀ s' H', Inv X pins σ H' s' → Q H' → P () s') : wpAny (model X.prog X.w) A (setItem xv u r) P E s := by
  obtain ⟨m, ah, p, q, z, ah', rh, rp, rq, rz, e, kk⟩ := h
  unfold putAtN at e
  split at e
  case h_2 => cases e
  rename_i l
  split at e
  case h_2 => cases e
  rename_i kvs ho
  split at e
  case h_2 => cases e
  rename_i k hk
  split at e
  case isFalse => cases e
  rename_i hlen
  cases e
  obtain ⟨⟨ts, rfl⟩, hk1, hk2⟩ := keyN_ok hk
  obtain ⟨b, vs, rfl, hb⟩ := vr_tup rq
  cases rp with
  | @ref _ a ha =>
    obtain rfl : xv = Value.ref a := rx
    obtain rfl : u = Value.ref b := ry
    exact n_setItem hu I rh ha ho hlen ⟨hk1, hk2⟩ rq rz rv fun s' xs' I' r' => hP s' _ I' (kk _ r' (ext_set ha))
theorem ps_putN (hu : X.A.units + 9 < cLine) (ho : PE X o td) (hi : PE X i ty) (hv : PE X e tv) (hs : swapsWith e (some (.Subscript o i p1)) pos.line X.env = pure false) :
    PS X (.Assign [.Subscript o i p1] e pos) (sPG X.K td ty tv) := by
  refine ⟨fun pins s σ H D I h => ?_⟩
  refine wpAny_Assign_Subscript (thn (hv.run pins s σ H _ I h) fun r s1 ⟨v, H1, I1, rv, q1⟩ => thn (ho.run pins s1 σ H1 _ I1 q1) fun u s2 ⟨x, H2, I2, rx, q2⟩ => thn (hi.run pins s2 σ H2 _ I2 q2) fun iv s3 ⟨y, H3, I3, ry, q3⟩ => ?_) hs
  exact set_n hu I3 rx ry rv q3 fun s4 H4 I4 q => ⟨σ, H4, I4, q⟩
theorem ms_putN {k : Nat} (hr : Room k X.A) (he : ME X W e fe) (ho : ME X W o fo) (hi : ME X W i fi) (hs : swapsWith e (some (.Subscript o i p1)) pos.line X.env = pure false := by rfl) : MS X W (.Assign [.Subscript o i p1] e pos) (sPutN fo fi fe) :=
  ⟨ps_imp (ps_putN (by have := hr.un; omega) ho.pe hi.pe he.pe hs) fun D σ H q => by
    obtain ⟨m, ah, ev, r, re, q⟩ := WiS.bind (R := VR X.K) q
    refine ⟨m, ah, ev, r, re, ?_⟩
    cases ef : fe ev ah with
    | exc c p a => rw [ef] at q; exact q
    | bad => rw [ef] at q; exact q
    | ok v a =>
      rw [ef] at q
      intro m1 H1 x e1 r1 rx
      obtain ⟨m2, ah2, ev2, v2, r2, re2, rv2, q2⟩ := q m1 H1 x e1 r1 rx
      show Wi _ _ _ _ _ _ _ _
      refine ⟨m2, ah2, ev2, r2, re2, ?_⟩
      have q2' : PostS X.K X.mg W m2 H1 D ((fo ev2 ah2).s ev2 fun o h2 => (fi ev2 h2).s ev2 fun i h3 => match putAtN o i v2 h3 with | some h4 => .nx ev2 h4 | none => .bad) := q2
      cases eo : fo ev2 ah2 with
      | exc c p a => rw [eo] at q2'; exact fun m2 H2 cls d e2 r3 x2 => q2' m2 H2 cls d σ e2 r3 (re2.ext r2 e2) x2
      | bad => rw [eo] at q2'; exact q2'
      | ok ov a =>
        rw [eo] at q2'
        intro m4 H4 y e4 r4 ry
        show Wi _ _ _ _ _ _ _ _
        refine ⟨m4, a, ev2, r4, re2.ext r2 e4, ?_⟩
        have q3' : PostS X.K X.mg W m4 H4 D ((fi ev2 a).s ev2 fun i h3 => match putAtN ov i v2 h3 with | some h4 => .nx ev2 h4 | none => .bad) := PostS.ext q2' e4
        cases ei : fi ev2 a with
        | exc c p b => rw [ei] at q3'; exact fun m2 H2 cls d e2 r3 x2 => q3' m2 H2 cls d σ e2 r3 ((re2.ext r2 e4).ext r4 e2) x2
        | bad => rw [ei] at q3'; exact q3'
        | ok iv b =>
          rw [ei] at q3'
          intro m5 H5 z e5 r5 rz
          have q5 : PostS X.K X.mg W m5 H5 D (match putAtN ov iv v2 b with | some h4 => .nx ev2 h4 | none => .bad) := PostS.ext q3' e5
          cases hp : putAtN ov iv v2 b with
          | none => rw [hp] at q5; exact q5.elim
          | some h4 =>
            rw [hp] at q5
            exact ⟨m5, b, ov, iv, v2, h4, r5, ry.ext r4 e5, rz, (rv2.ext r2 e4).ext r4 e5, hp, fun H' r' ex => q5 m5 H' σ ex r' (((re2.ext r2 e4).ext r4 e5).ext r5 ex)⟩⟩
end
/-! ### {k: v} -/
section
variable {prog : Program} {w : World} {K : Type} [DecidableEq K] {knd : HeapKind prog w K} {A : Around} {E : Value → Shared → Prop} {s : Shared}
end
def tDispN (K : PySem.W.Frag) (tk tv : TE) : TE := fun σ H Q => ∀ p, H p = none → (p == sysModules) = false → tk σ (upd H p (.dK [])) fun x H1 => tv σ H1 fun y H2 => H2 p = some (.dK []) ∧ ∃ m q k b, x = .ref b ∧ nk q = some k ∧ k.depth ≤ 8 ∧ VR K H2 m q (.ref b) ∧ ∀ u, RelV y u → Q (.ref p) (upd H2 p (.ext (phiN p [(k, b, u)])))
section
variable {X : Cx} {W : WX} {k v : Expr} {fk fv : EF} {pos : Pos} {tk tv : TE}
/-- {k: v} with a tuple as key -/
def eDN (fk fv : EF) : EF := fun ev h => (fk ev (h ++ [.dct []])).bind fun k h1 => (fv ev h1).bind fun v h2 => match keyN k, h2[h.length]? with
  | some _, some (.dct []) => .ok (.ref h.length) (h2.set h.length (.dtl [(k, v)]))
  | _, _ => .bad
end
end FL

set_option Elab.async false
set_option linter.all false
set_option maxRecDepth 100000
set_option maxHeartbeats 2000000
/-! FLSD: sorted of a list of things that read as alike data; <<, >>, & of numbers. -/
namespace FL
open PySem PySem.Spec PyProof.Rows L2
/-! ### an insertion sort, the same as the stable one -/
section
variable {α : Type} {le : α → α → Bool}
def insS (le : α → α → Bool) (x : α) : List α → List α
  | [] => [x]
  | y :: l => if le x y then x :: y :: l else y :: insS le x l
def sortS (le : α → α → Bool) : List α → List α
  | [] => []
  | x :: l => insS le x (sortS le l)
end
/-- the order of data -/
def leD (a b : PyData) : Bool := !PySem.W.dataLt b a
def leP (p q : Va × PyData) : Bool := leD p.2 q.2
def nonT : PyData → Bool
  | .none => false
  | .tuple _ => false
  | _ => true
def consT : PyData → Bool
  | .tuple (_ :: _) => true
  | _ => false
def sortable (ds : List PyData) : Bool := ds.all (fun d => ds.all (PySem.W.alike d)) && (ds.all consT || ds.all nonT) && ds.all fun d => decide (d.depth ≤ 60)
/-- sorted of what reads as data -/
def oSortD : OpN := fun ps h => match ps with
  | [.ref l] => (match lstAt h l with
    | some xs => (match toPysF (toPy h depthL) xs with
      | some ds => if sortable ds && decide (xs.length ≤ lim) then some (.ref h.length, h ++ [.lst ((sortS leP (xs.zip ds)).map (·.1))]) else none
      | none => none)
    | none => none)
  | _ => none
def oSortA : OpN := fun ps h => match oSorted ps h with
  | some r => some r
  | none => oSortD ps h
variable [Tabz]
section
variable {X : Cx} {pins : List (Addr × Obj)} {σ : L2.St} {H : Hp} {m : List Addr} {ah : AH} {s : Shared}
/-! ### bits -/
def oShl : Op2 := fun p q h => match p, q with
  | .int i, .int j => if decide (0 ≤ j) && decide (j ≤ 1000) && decide (i.natAbs < 2 ^ 64) then some (.int (i * 2 ^ j.toNat), h) else none
  | _, _ => none
def oShr : Op2 := fun p q h => match p, q with
  | .int i, .int j => if decide (0 ≤ j) && decide (j ≤ 1000) then some (.int (i / 2 ^ j.toNat), h) else none
  | _, _ => none
def oBand : Op2 := fun p q h => match p, q with
  | .int i, .int j => some (.int (Builtin.bitAnd i j), h)
  | _, _ => none
end
end FL

set_option Elab.async false
set_option linter.all false
set_option maxRecDepth 100000
set_option maxHeartbeats 2000000
/-! FLTV: def x(a): try: return a() / except .. as e: .., under several clauses. -/
namespace FL
open PySem PySem.Spec PyProof.Rows L2
variable [Tabz]
def moP (hm : Str → List (Str × Va) → AH → Rs Va) : Rs Va → Rs Va
  | .ok v h => .ok v h
  | .exc c p h => hm c p h
  | .bad => .bad
section
variable {X : Cx} {i : Nat} {n : Str} {hm : Str → List (Str × Va) → AH → Rs Va}
end
end FL

set_option Elab.async false
set_option linter.all false
set_option maxRecDepth 100000
set_option maxHeartbeats 2000000
/-! FLHC: list.count; count, index, == and != without a Room (they stand in except suites, too). -/
namespace FL
open PySem PySem.Spec PyProof.Rows L2
variable [Tabz]
def oCount : OpM := fun v vs h => match v, vs with
  | .ref l, [y] => (match toPy h depthL (.ref l), toPy h depthL y with
    | some (.list ds), some d => if SeqAt.shaped (.list ds) && SeqAt.shaped d && PyData.plainAll ds && d.plain then some (.int ((ds.countP fun z => PyData.eqv z d : Nat) : Int), h) else none
    | _, _ => none)
  | _, _ => none
section
variable {X : Cx} {W : WX} {o e a b : Expr} {fo f g : EF} {ta : AF} {apos cpos pos : Pos}
/-- l.count(x) -/
def rCountD (K : PySem.W.Frag) : V → List V → Hp → VK → Prop := fun x xs H Q => ∃ (a : Addr) (y : V) (d : PyData) (ds : List PyData), x = V.ref a ∧ xs = [y] ∧ Dp K H (V.ref a) (.list ds) ∧ Dp K H y d ∧
  SeqAt.shaped (.list ds) = true ∧ SeqAt.shaped d = true ∧ PyData.plainAll ds = true ∧ d.plain = true ∧ Q (.int ((ds.countP fun z => PyData.eqv z d : Nat) : Int)) H
/-- whole numbers compared, with no Room -/
def oEqI (neg : Bool) : Op2 := fun p q h => match p, q with
  | .int i, .int j => some (.bl (if neg then decide (i ≠ j) else decide (i = j)), h)
  | _, _ => none
end
/-! ### suites that only look at the class -/
section
variable {i : Nat} {a : Addr} {b : Bool} {ev : Ev} {h : AH} {x y z : Bool} {ws : List Va}
end
section
variable {h t : AH} {A : AO} {i : Int} {a b c : Va}
end
end FL

set_option Elab.async false
set_option linter.all false
set_option maxRecDepth 100000
set_option maxHeartbeats 4000000
/-! FLMB: a tuple of one thing, up to 2000 times. -/
namespace FL
open PySem PySem.Spec PyProof.Rows L2
variable [Tabz]
/-- (z,) * k -/
def rOneK (K : PySem.W.Frag) : R2 := fun x y H Q => ∃ l k z, x = .ref l ∧ y = .int k ∧ SqT K H l [z] ∧ 2 ≤ k ∧ k ≤ 2000 ∧ ∀ p, H p = none → Q (.ref p) (upd H p (.tup (List.replicate k.toNat z)))
section
variable {X : Cx}
def oMulB : Op2 := fun p q h => match p, q with
  | .tup [z], .int k => if decide (2 ≤ k) && decide (k ≤ 2000) then some (.tup (List.replicate k.toNat z), h) else none
  | _, _ => none
end
section
variable {X : Cx} {W : WX} {x : Str} {k kk : Nat} {das : List Va} {F : List Va → AH → Rs Va} {p pos : Pos}
end
end FL

set_option Elab.async false
set_option linter.all false
set_option maxRecDepth 100000
set_option maxHeartbeats 2000000
/-! FLOB: instances of own classes: fields read and set, methods, new ones. -/
namespace FL
open PySem PySem.Spec PyProof.Rows L2
variable [Tabz]
section
variable {K : PySem.W.Frag} {H : Hp} {m : List Addr} {ah : AH}
theorem VRf.none {f : Str} : ∀ {xs : List (Str × Va)} {vs : List (Str × V)}, VRf K H m xs vs → xs.lookup f = none → vs.lookup f = none
  | _, _, .nil, _ => rfl
  | (g, y) :: xs, (_, v) :: vs, .cons h hs, e => by
    by_cases q : f = g
    · subst q
      rw [List.lookup_cons_self] at e
      cases e
    · have b : (f == g) = false := beq_eq_false_iff_ne.mpr q
      rw [List.lookup_cons, b] at e ⊢
      exact VRf.none hs e
theorem VRf.put {f : Str} {x : Va} {v : V} (h : VR K H m x v) : ∀ {xs : List (Str × Va)} {vs : List (Str × V)}, VRf K H m xs vs → VRf K H m (putFA f x xs) (putF f v vs)
  | _, _, .nil => .cons h .nil
  | (g, y) :: xs, (_, w) :: vs, .cons h' hs => by
    unfold putFA putF
    by_cases q : f = g
    · rw [if_pos q, if_pos q.symm]
      exact .cons h hs
    · rw [if_neg q, if_neg (Ne.symm q)]
      exact .cons h' (VRf.put h hs)
theorem VRf.length : ∀ {xs : List (Str × Va)} {vs : List (Str × V)}, VRf K H m xs vs → xs.length = vs.length
  | _, _, .nil => rfl
  | _, _, .cons _ hs => by simp [VRf.length hs]
/-- what a class must be for its instances' plain fields -/
structure ClsF (K : PySem.W.Frag) (c : Str) (fs : List Str) : Prop where
  cls : Cls K (He.ga K c)
  non : ∀ f ∈ fs, NoAttr K (He.ga K c) f
end
/-- the fields of the instance that v names, if it is of the class c -/
def insOf (c : Str) (v : Va) (h : AH) : Option (Nat × List (Str × Va)) := match v with
  | .ref l => match h[l]? with
    | some (.ins c' fs) => if c' = c then some (l, fs) else none
    | _ => none
  | _ => none
section
variable {K : PySem.W.Frag} {H : Hp} {m : List Addr} {ah : AH}
end
/-- e.f -/
def eFld (c f : Str) (fe : EF) : EF := fun ev h => (fe ev h).bind fun v h1 => match insOf c v h1 with
  | some (_, fs) => (match fs.lookup f with | some x => .ok x h1 | none => .bad)
  | none => .bad
section
variable {X : Cx} {W : WX} {e o : Expr} {fe fo : EF} {f c : Str} {fl : List Str} {pos pos' : Pos}
/-- o.f = e -/
def sFld1 (c f : Str) (fo fe : EF) : SF := fun ev h => (fe ev h).s ev fun v h1 => (fo ev h1).s ev fun o h2 => match insOf c o h2 with
  | some (l, fs) => if fs.length < 900 then .nx ev (h2.set l (.ins c (putFA f v fs))) else .bad
  | none => .bad
end
/-! ### o.f, o.g, .. = a tuple -/
def putFAs : List Str → List Va → List (Str × Va) → List (Str × Va)
  | f :: fs, x :: xs, r => putFAs fs xs (putFA f x r)
  | _, _, r => r
def putFs : List Str → List V → List (Str × V) → List (Str × V)
  | f :: fs, x :: xs, r => putFs fs xs (putF f x r)
  | _, _, r => r
/-- an attribute of the local variable i as a target -/
def gFld (K : PySem.W.Frag) (i : Nat) (c f : Str) : TG := fun v σ H Q => ∃ a dx fs, σ[i]? = some (some (.ref a)) ∧ H a = some (.ins (He.ga K c) dx fs) ∧ fs.length < 1000 ∧ Q σ (upd H a (.ins (He.ga K c) dx (putF f v fs)))
section
variable {X : Cx} {W : WX} {f c x : Str} {i : Nat} {fl : List Str} {pos pos' : Pos}
end
/-- the fields one after another -/
def gFlds (K : PySem.W.Frag) (i : Nat) (c : Str) : List Str → TGs
  | [] => gNil
  | f :: fs => gCons (gFld K i c f) (gFlds K i c fs)
/-- x.f, x.g, .. = e -/
def sFldN (i : Nat) (c : Str) (fs : List Str) (fe : EF) : SF := fun ev h => (fe ev h).s ev fun v h1 => match v, ev[i]? with
  | .tup xs, some (some o) => (match insOf c o h1 with
    | some (l, r) => if xs.length = fs.length ∧ r.length + fs.length < 900 then .nx ev (h1.set l (.ins c (putFAs fs xs r))) else .bad
    | none => .bad)
  | _, _ => .bad
section
variable {X : Cx} {W : WX} {c x : Str} {i n : Nat} {fl fs : List Str} {pos : Pos} {tg e : Expr} {fe : EF}
end
/-! ### methods -/
/-- a method that may be called -/
structure Cm (P : Program) (w : World) (K : PySem.W.Frag) (mg : Str → Option Value) (base : Heap) (k : Nat) (c mt : Str) (das : List Va) (F : List Va → AH → Rs Va) : Prop where
  cls : Cls K (He.ga K c)
  ex : ∃ (f : Addr) (fd : FuncData) (ps : List Str) (dvs : List V) (ds : List Value), FnG P w K mg base k f fd ps F ∧ Meth K (He.ga K c) mt f ∧ Binds K fd ps ds ∧ Vals dvs ds ∧ ∀ H m, VRs K H m das dvs
/-- o.m(..) -/
def eMeth (c mt : Str) (das : List Va) (F : List Va → AH → Rs Va) (fo : EF) (ta : AF) : EF := fun ev h => (fo ev h).bind fun o h1 => match insOf c o h1 with
  | some (_, fs) => if (fs.lookup mt).isNone then (ta ev h1).bind fun vs h2 => F (o :: (vs ++ das)) h2 else .bad
  | none => .bad
section
variable {X : Cx} {W : WX} {c mt : Str} {k kk : Nat} {das : List Va} {F : List Va → AH → Rs Va} {p pos apos : Pos} {o e : Expr} {es : List Expr} {fo : EF} {ta : AF} {pl : Sem Bool}
end
/-! ### new instances -/
/-- a class that may be called -/
structure Cmk (P : Program) (w : World) (K : PySem.W.Frag) (mg : Str → Option Value) (base : Heap) (k : Nat) (x : Str) (das : List Va) (F : List Va → AH → Rs Va) : Prop where
  glo : mg x = some (.ref (He.ga K x))
  ex : ∃ (f : Addr) (fd : FuncData) (ps : List Str) (dvs : List V) (ds : List Value), FnG P w K mg base k f fd ps F ∧ Mk K (He.ga K x) f ∧ Binds K fd ps ds ∧ Vals dvs ds ∧ ∀ H m, VRs K H m das dvs
def mkF (c : Str) (F : List Va → AH → Rs Va) (vs : List Va) (h : AH) : Rs Va := match F (.ref h.length :: vs) (h ++ [.ins c []]) with
  | .ok .non h2 => .ok (.ref h.length) h2
  | .exc c p a => .exc c p a
  | _ => .bad
/-- C(..) -/
def eMake (c : Str) (das : List Va) (F : List Va → AH → Rs Va) (ta : AF) : EF := fun ev h => (ta ev h).bind fun vs h1 => mkF c F (vs ++ das) h1
section
variable {X : Cx} {W : WX} {x : Str} {k kk : Nat} {das : List Va} {F : List Va → AH → Rs Va} {p pos : Pos} {e : Expr} {es : List Expr} {ta : AF}
end
/-! ### facts of the text, as tests -/
section
variable {K : PySem.W.Frag} {c m : Str} {fs : List Str}
end
/-! ### rules that evaluate -/
section
variable {c f mt : Str} {fe fo : EF} {ta : AF} {ev : Ev} {h : AH} {v o x : Va} {l i : Nat} {fs : List (Str × Va)} {vs das : List Va} {F : List Va → AH → Rs Va} {fl : List Str}
theorem i_ins (e : h[l]? = some (.ins c fs)) : insOf c (.ref l) h = some (l, fs) := by
  unfold insOf
  simp only [e, if_true]
def fld2K (h : AH) : Option Va → Rs Va := fun o => match o with | some x => .ok x h | none => .bad
def fld1K (f : Str) (h : AH) : Option (Nat × List (Str × Va)) → Rs Va := fun o => match o with | some (_, fs) => fld2K h (fs.lookup f) | none => .bad
def fldK (c f : Str) : Rs Va → Rs Va := fun r => r.bind fun v h1 => fld1K f h1 (insOf c v h1)
theorem s_fld : eFld c f fe ev h = fldK c f (fe ev h) := rfl
theorem k_fld : fldK c f (.ok v h) = fld1K f h (insOf c v h) := rfl
theorem k_fld1 : fld1K f h (some (l, fs)) = fld2K h (fs.lookup f) := rfl
theorem k_fld2 : fld2K h (some x) = .ok x h := rfl
def mt2K (das : List Va) (F : List Va → AH → Rs Va) (o : Va) : Rs (List Va) → Rs Va := fun r => r.bind fun vs h2 => F (o :: (vs ++ das)) h2
def mt1K (mt : Str) (das : List Va) (F : List Va → AH → Rs Va) (ta : AF) (ev : Ev) (o : Va) (h : AH) : Option (Nat × List (Str × Va)) → Rs Va := fun w => match w with
  | some (_, fs) => if (fs.lookup mt).isNone then mt2K das F o (ta ev h) else .bad
  | none => .bad
def mtK (c mt : Str) (das : List Va) (F : List Va → AH → Rs Va) (ta : AF) (ev : Ev) : Rs Va → Rs Va := fun r => r.bind fun o h1 => mt1K mt das F ta ev o h1 (insOf c o h1)
theorem s_mt : eMeth c mt das F fo ta ev h = mtK c mt das F ta ev (fo ev h) := rfl
theorem k_mt : mtK c mt das F ta ev (.ok o h) = mt1K mt das F ta ev o h (insOf c o h) := rfl
theorem k_mt2 : mt2K das F o (.ok vs h) = F (o :: (vs ++ das)) h := rfl
def mk2K (l : Nat) : Rs Va → Rs Va := fun r => match r with
  | .ok .non h2 => .ok (.ref l) h2
  | .exc c p a => .exc c p a
  | _ => .bad
def mkK (c : Str) (das : List Va) (F : List Va → AH → Rs Va) : Rs (List Va) → Rs Va := fun r => r.bind fun vs h1 => mkF c F (vs ++ das) h1
theorem s_mk : eMake c das F ta ev h = mkK c das F (ta ev h) := rfl
theorem k_mk : mkK c das F (.ok vs h) = mk2K h.length (F (.ref h.length :: (vs ++ das)) (h ++ [.ins c []])) := rfl
theorem k_mk2 : mk2K l (.ok .non h) = .ok (.ref l) h := rfl
theorem k_mk2X {p : List (Str × Va)} : mk2K l (.exc c p h) = .exc c p h := rfl
def sf2K (c f : Str) (v : Va) (ev : Ev) (h : AH) : Option (Nat × List (Str × Va)) → SR := fun w => match w with
  | some (l, fs) => if fs.length < 900 then .nx ev (h.set l (.ins c (putFA f v fs))) else .bad
  | none => .bad
def sf1K (c f : Str) (v : Va) (ev : Ev) : Rs Va → SR := fun r => r.s ev fun o h2 => sf2K c f v ev h2 (insOf c o h2)
def sfK (c f : Str) (fo : EF) (ev : Ev) : Rs Va → SR := fun r => r.s ev fun v h1 => sf1K c f v ev (fo ev h1)
theorem s_sf : sFld1 c f fo fe ev h = sfK c f fo ev (fe ev h) := rfl
theorem k_sf : sfK c f fo ev (.ok v h) = sf1K c f v ev (fo ev h) := rfl
theorem k_sf1 : sf1K c f v ev (.ok o h) = sf2K c f v ev h (insOf c o h) := rfl
def sfn2K (c : Str) (fl : List Str) (xs : List Va) (ev : Ev) (h : AH) : Option (Nat × List (Str × Va)) → SR := fun w => match w with
  | some (l, r) => if xs.length = fl.length ∧ r.length + fl.length < 900 then .nx ev (h.set l (.ins c (putFAs fl xs r))) else .bad
  | none => .bad
def sfn1K (c : Str) (fl : List Str) (ev : Ev) (v : Va) (h : AH) : Option (Option Va) → SR := fun q => match v, q with
  | .tup xs, some (some o) => sfn2K c fl xs ev h (insOf c o h)
  | _, _ => .bad
def sfnK (i : Nat) (c : Str) (fl : List Str) (ev : Ev) : Rs Va → SR := fun r => r.s ev fun v h1 => sfn1K c fl ev v h1 ev[i]?
theorem s_sfn : sFldN i c fl fe ev h = sfnK i c fl ev (fe ev h) := by
  unfold sFldN sfnK
  cases fe ev h with
  | ok v a =>
    cases v <;> first | rfl | (cases ev[i]? with | none => rfl | some q => cases q <;> rfl)
  | exc c p a => rfl
  | bad => rfl
theorem k_sfn : sfnK i c fl ev (.ok v h) = sfn1K c fl ev v h ev[i]? := rfl
theorem k_sfn1 {xs : List Va} : sfn1K c fl ev (.tup xs) h (some (some o)) = sfn2K c fl xs ev h (insOf c o h) := rfl
end
end FL

set_option Elab.async false
set_option linter.all false
set_option maxRecDepth 100000
set_option maxHeartbeats 2000000
/-! FLDC: dict(a list of pairs), the keys tuples. -/
namespace FL
open PySem PySem.Spec PyProof.Rows L2
variable [Tabz]
def prN : List Va → Option (List (Va × PySem.NestedKey × Va))
  | [] => some []
  | .tup [k, v] :: xs => match keyN k, prN xs with
    | some n, some r => some ((k, n, v) :: r)
    | _, _ => none
  | _ => none
def foldN (acc : List (Va × Va)) (ps : List (Va × PySem.NestedKey × Va)) : List (Va × Va) := ps.foldl (fun acc p => putN acc p.1 p.2.1 p.2.2) acc
def oDictN : OpN := fun vs h => match vs with
  | [.ref l] => (match lstAt h l with
    | some xs => (match prN xs with
      | some ps => if ps.length < lim then some (.ref h.length, h ++ [.dtl (foldN [] ps)]) else none
      | none => none)
    | none => none)
  | _ => none
section
variable {X : Cx} {pins : List (Addr × Obj)} {σ : L2.St} {H : Hp} {s : Shared} {m : List Addr}
/-- the pairs in the machine -/
inductive DtL (K : PySem.W.Frag) (H : Hp) (m : List Addr) : List (Va × PySem.NestedKey × Va) → List (PySem.NestedKey × Addr × Value) → Prop
  | nil : DtL K H m [] []
  | cons {k v : Va} {n : PySem.NestedKey} {b : Addr} {u : Value} {w : V} {ps : List (Va × PySem.NestedKey × Va)} {qs : List (PySem.NestedKey × Addr × Value)} : (nk k = some n ∧ n.depth ≤ 8) → VR K H m k (.ref b) → VR K H m v w → RelV w u → DtL K H m ps qs → DtL K H m ((k, n, v) :: ps) ((n, b, u) :: qs)
theorem DtL.fold {K : PySem.W.Frag} : ∀ {ps : List (Va × PySem.NestedKey × Va)} {qs : List (PySem.NestedKey × Addr × Value)}, DtL K H m ps qs → ∀ {acc : List (Va × Va)} {xs : List (PySem.NestedKey × Addr × Value)}, DtE K H m acc xs → DtE K H m (foldN acc ps) (storedAllH xs qs)
  | _, _, .nil, _, _, d => d
  | _, _, .cons h1 h2 h3 h4 h5, _, _, d => DtL.fold h5 (d.put h1 h2 h3 h4)
theorem DtL.len {K : PySem.W.Frag} : ∀ {ps : List (Va × PySem.NestedKey × Va)} {qs : List (PySem.NestedKey × Addr × Value)}, DtL K H m ps qs → ps.length = qs.length
  | _, _, .nil => rfl
  | _, _, .cons _ _ _ _ h5 => by rw [List.length_cons, List.length_cons, DtL.len h5]
theorem DtL.key {K : PySem.W.Frag} : ∀ {ps : List (Va × PySem.NestedKey × Va)} {qs : List (PySem.NestedKey × Addr × Value)}, DtL K H m ps qs → ∀ x ∈ qs, ∃ p, nk p = some x.1 ∧ x.1.depth ≤ 8 ∧ VR K H m p (.ref x.2.1)
  | _, _, .nil => fun x h => nomatch h
  | _, _, .cons h1 h2 _ _ h5 => fun x h => by
    rcases List.mem_cons.mp h with rfl | h
    · exact ⟨_, h1.1, h1.2, h2⟩
    · exact DtL.key h5 x h
theorem pairs_of (I : Inv X pins σ H s) : ∀ {xs : List Va} {vs : List V} {us : List Value} {ps : List (Va × PySem.NestedKey × Va)}, VRs X.K H m xs vs → Vals vs us → prN xs = some ps →
    ∃ (Ts : List Addr) (qs : List (PySem.NestedKey × Addr × Value)), us = Ts.map Value.ref ∧ Ts.length = qs.length ∧ (∀ (j : Nat) (k : PySem.NestedKey) (b : Addr) (u : Value), qs[j]? = some (k, b, u) → ∃ T, Ts[j]? = some T ∧ PairAt s.heap T (.ref b) u) ∧ DtL X.K H m ps qs
  | [], _, _, _, .nil, r, e => by
    cases r
    have e : some ([] : List (Va × PySem.NestedKey × Va)) = some _ := e
    cases e
    exact ⟨[], [], rfl, rfl, fun j k b u h => by simp at h, .nil⟩
  | x :: xs, _, _, ps, .cons h hs, r, e => by
    cases r with
    | cons r0 rs =>
      unfold prN at e
      split at e
      · rename_i e0; cases e0
      · rename_i k v xs' e0
        cases e0
        split at e
        · rename_i n rr hn hp
          cases e
          obtain ⟨Ts, qs, e1, e2, e3, e4⟩ := pairs_of I hs rs hp
          obtain ⟨⟨ts, rfl⟩, k1, k2⟩ := keyN_ok hn
          cases h with
          | @tup _ T ws hT hv =>
            cases hv with
            | cons g1 gg =>
              cases gg with
              | cons g2 gg =>
                cases gg
                obtain ⟨bb, tv, rfl, hb1, hb2⟩ := vr_tup g1
                obtain ⟨its, ri, ti, _⟩ := I.tuple hT
                cases ri with
                | cons i1 ri =>
                  cases ri with
                  | @cons _ iv _ _ i2 ri =>
                    cases ri
                    cases i1
                    cases r0
                    refine ⟨T :: Ts, (n, bb, iv) :: qs, by rw [e1]; rfl, by simp [e2], fun j k b u hj => ?_, .cons ⟨k1, k2⟩ g1 g2 i2 e4⟩
                    cases j with
                    | zero =>
                      cases hj
                      exact ⟨T, rfl, .inl ti⟩
                    | succ j => exact e3 j k b u (by simpa using hj)
        · cases e
      · cases e
theorem call_oDictN {j : Nat} (hr : Room j X.A) : CallR X (.type "dict") (rN X.K oDictN) := by
  rintro pins s σ H xs us Q I r ⟨m, ah, ps, v, ah', rH, rv, e, k⟩
  unfold oDictN at e
  split at e
  case h_2 => cases e
  rename_i l
  split at e
  case h_2 => cases e
  rename_i items hitems
  split at e
  case h_2 => cases e
  rename_i pr hpr
  split at e
  case isFalse => cases e
  rename_i hlen
  cases e
  cases rv with
  | cons g gs =>
  cases gs
  cases r with
  | cons r0 rs =>
  cases rs
  cases g with
  | @ref _ a ha =>
  cases r0
  obtain ⟨vs, f1, f2⟩ := rH.lst ha (lstAt_some hitems)
  obtain ⟨z, its, n0, ri, eo⟩ := (show ObjOk X.prog X.w H s.heap a (.lst vs) from I.hok a _ f1)
  obtain ⟨Ts, qs, rfl, t2, t3, t4⟩ := pairs_of I f2 ri hpr
  have ql : qs.length < lim := by rw [← t4.len]; exact hlen
  have hls : lim < sizeLine := by rw [sizeLine_eq]; decide
  have hn : H s.heap.objs.size = none := I.hok.fresh (Nat.le_refl _)
  have hlen2 : (qs.map fun q => ((Value.ref q.2.1, q.2.2) : Value × Value)).length = qs.length := List.length_map _
  have ok : PlainSeq "list" s.heap a (Ts.map Value.ref).toArray ∧ PairItems s.heap (Ts.map Value.ref).toArray (fun j => Ts.getD j 0) (qs.map fun q => (Value.ref q.2.1, q.2.2)) := by
    refine ⟨⟨_, n0, eo, rfl, rfl, rfl⟩, by simp [t2], fun j key v hj => ?_⟩
    rw [List.getElem?_map] at hj
    cases hq : qs[j]? with
    | none => rw [hq] at hj; cases hj
    | some q =>
      rw [hq] at hj
      cases hj
      obtain ⟨n, b, u⟩ := q
      obtain ⟨T, hT, hp⟩ := t3 j n b u hq
      refine ⟨by simp [hT], ?_⟩
      have : Ts.getD j 0 = T := by simp [hT]
      show PairAt s.heap (Ts.getD j 0) (Value.ref b) u
      rw [this]
      exact hp
  have keys : ∀ h' : Heap, (∀ b o, b ≠ s.heap.objs.size → b ∉ ([] : List Addr) → s.heap.get? b = some o → h'.get? b = some o) → ∀ x ∈ qs, (PySem.nestedKind X.prog X.w).is h' x.1 x.2.1 := fun h' hk x hx => by
    obtain ⟨p, h1, h2, h3⟩ := t4.key x hx
    exact ⟨PySem.NestedIs.at (fun b o vs n hb _ => hk b o (Nat.ne_of_lt (Heap.lt_size hb)) (by simp) hb) _ _ (nk_is I p h1 h3 rfl), h2⟩
  have d0 : DtE X.K (upd H s.heap.objs.size (.dK [])) (m ++ [s.heap.objs.size]) (foldN [] pr) (storedAllH [] qs) := by
    have := (t4.fold (acc := []) (xs := []) .nil)
    exact this.ext rH (ext_lay rH hn)
  refine PySem.call_dict_pairsH (knd := PySem.nestedKind X.prog X.w) (ps := qs) (PairArg.list a (Ts.map Value.ref).toArray (fun j => Ts.getD j 0) (qs.map fun q => (Value.ref q.2.1, q.2.2))) hr.hd ?_ ok ⟨hlen2.symm, fun i key v hi => ?_⟩ keys (by rw [hlen2]; omega) fun h' tk dd hk => ?_
  · have := hr.un
    show X.A.units + 1 + 1 + 8 < cLine
    omega
  · have hi : (qs.map fun q => ((Value.ref q.2.1, q.2.2) : Value × Value))[i]? = some (key, v) := hi
    rw [List.getElem?_map] at hi
    cases hq : qs[i]? with
    | none => rw [hq] at hi; cases hi
    | some q =>
      rw [hq] at hi
      cases hi
      exact ⟨q.1, q.2.1, rfl, rfl⟩
  · have ph : phiN s.heap.objs.size (storedAllH [] qs) h' := phiN_of dd fun x hx => let ⟨p, hp, _⟩ := d0.key x hx; ⟨p, hp⟩
    have I2 := I.laid (a := s.heap.objs.size) (o := .ext (phiN s.heap.objs.size (storedAllH [] qs))) (h' := h') (t' := tk) (fun b o q => hk b o (by simp) q) (Nat.le_refl _) (phiN_ok ph)
    have hs : (s.heap.objs.size == sysModules) = false := beq_eq_false_iff_ne.mpr (Ne.symm (Nat.ne_of_lt I.big))
    have r0 := hr_layD rH hn
    have hl : (m ++ [s.heap.objs.size])[ah.length]? = some s.heap.objs.size := by rw [← rH.len]; simp
    have r1 := hr_putN r0 hl d0 dd.choose_spec.choose_spec.choose_spec.2.2.2.2.2 hs
    rw [upd_upd] at r1
    have es : (ah ++ [AO.dct []]).set ah.length (.dtl (foldN [] pr)) = ah ++ [.dtl (foldN [] pr)] := by
      rw [List.set_append_right _ _ (Nat.le_refl _), Nat.sub_self]
      rfl
    rw [es] at r1
    exact ⟨.ref s.heap.objs.size, _, I2, rfl, k (m ++ [s.heap.objs.size]) _ _ (ext_lay rH hn) r1 (.ref hl)⟩
end
end FL

set_option Elab.async false
set_option linter.all false
set_option maxRecDepth 100000
set_option maxHeartbeats 2000000
/-! FLDN: {k: v for .. in ..}, the keys tuples. -/
namespace FL
open PySem PySem.Spec PyProof.Rows L2
variable [Tabz]
section
variable {E : Value → Shared → Prop} {X : Cx} {pins : List (Addr × Obj)} {σ : L2.St} {H : Hp} {s : Shared} {m : List Addr} {D : Addr} {xs : List (PySem.NestedKey × Addr × Value)} {kvs : List (Va × Va)}
end
/-! ### the comprehension -/
section
variable {X : Cx}
def tDcN (wi : TI) (g : TG) (tk tv : TE) (vs : List Nat) : TE := fun σ H Q => wi σ H fun J H1 => ∀ D, H1 D = none → (D == sysModules) = false → ∃ W : Nat → Nat → Hp → Prop, (∃ m, W 0 m (upd H1 D (.ext (phiN D [])))) ∧ ∀ i m H, W i m H →
  (J.stop i H ∧ ∃ xs, H D = some (.ext (phiN D xs)) ∧ Q (.ref D) H) ∨
  (J.go i H ∧ ∃ Nx : Hp → Prop, (∀ H', Nx H' → ∃ m', m' < m ∧ W (i + 1) m' H') ∧ ∀ x H', J.yld i H x H' → g x (wipe σ vs) H' fun σ2 H2 => wipe σ2 vs = wipe σ vs ∧
    tk σ2 H2 fun y H4 => tv σ2 H4 fun z H5 => ∃ ma kvs xs p k b, y = .ref b ∧ H5 D = some (.ext (phiN D xs)) ∧ DtE X.K H5 ma kvs xs ∧ (xs.map (·.1)).Nodup ∧ (nk p = some k ∧ k.depth ≤ 8) ∧ VR X.K H5 ma p (.ref b) ∧ xs.length < sizeLine ∧
      ∀ u, RelV z u → ((storedH xs k b u).map (·.1)).Nodup → Nx (upd H5 D (.ext (phiN D (storedH xs k b u)))))
end
end FL

set_option Elab.async false
set_option linter.all false
set_option maxRecDepth 100000
set_option maxHeartbeats 2000000
/-! FLDE: dicts with tuple keys: {}, len. -/
namespace FL
open PySem PySem.Spec PyProof.Rows L2
variable [Tabz]
/-- {}, to have tuples as keys -/
def eD0N : EF := fun _ h => .ok (.ref h.length) (h ++ [.dtl []])
def tDNewN : TE := fun _ H Q => ∀ p, H p = none → (p == sysModules) = false → Q (.ref p) (upd H p (.ext (phiN p [])))
section
variable {X : Cx} {W : WX} {pos : Pos}
end
def oLenN : OpN := fun vs h => match vs with
  | [.ref l] => (match h[l]? with
    | some (.dtl kvs) => if kvs.length < lim then some (.int (kvs.length : Nat), h) else none
    | _ => oLen vs h)
  | _ => oLen vs h
section
variable {X : Cx}
theorem len_body_raw {prog : Program} {w : World} {A : Around} {E : Value → Shared → Prop} {s : Shared} {d : Addr} {es : Array DictEntry} {ep : Nat} {Q : Value → Shared → Prop} (hd : (d == sysModules) = false) (hm : s.heap.DictRaw d es ep) (hfit : (es.size : Int) < 2 ^ 63)
    (h : Q (.int es.size (s.toks + 1)) { s with toks := s.toks + 1 + 1 }) : wpAny (model prog w) A (Builtin.«len» ⟨[.ref d], []⟩) (fun fin s' => ∃ r, fin = .done (.ret r) ∧ Q r s') E s := by
  unfold Builtin.«len»
  refine wpAny_bind (m := oneArg "len" _) (wpAny_pure ?_)
  refine wpAny_bind (m := callSpecial? (.ref d) (Str.ofString "__len__")) (wpAny_callSpecial?_slot (name := Str.ofString "__len__") hm.typeIs F.slot_dict_len (call_len_raw hd hm ?_))
  show wpAny _ _ _ _ _ { s with toks := s.toks + 1 }
  refine wpAny_bind (wpAny_holding (wpAny_pure ?_))
  refine wpAny_bind (wpAny_letGo ?_)
  show wpAny _ _ (if ((es.size : Nat) : Int) < 0 then _ else _) _ _ _
  rw [if_neg (by omega)]
  show wpAny _ _ (if ((es.size : Nat) : Int) ≥ 2 ^ 63 then _ else _) _ _ _
  rw [if_neg (by omega)]
  exact wpAny_bind (wpAny_mkInt (wpAny_pure ⟨_, rfl, h⟩))
theorem call_oLenN : CallR X (.builtin "len") (rN X.K oLenN) := by
  rintro pins s σ H xs us Q I r ⟨m, ah, ps, v, ah', rH, rv, e, k⟩
  unfold oLenN at e
  split at e
  case h_2 => exact call_oLen pins s σ H xs us Q I r ⟨m, ah, _, v, ah', rH, rv, e, k⟩
  rename_i l
  split at e
  case h_2 => exact call_oLen pins s σ H xs us Q I r ⟨m, ah, _, v, ah', rH, rv, e, k⟩
  rename_i kvs hk
  split at e
  case isFalse => cases e
  rename_i hz
  cases e
  cases rv with
  | cons g gs =>
  cases gs
  cases r with
  | cons r0 rs =>
  cases rs
  cases g with
  | @ref _ a ha =>
  cases r0
  obtain ⟨qs, g1, g2, g3, g4⟩ := rH.dtl ha hk
  obtain ⟨⟨o, es, ep, h1, h2, h3, h4⟩, _⟩ := (show ObjOk X.prog X.w H s.heap a (.ext (phiN a qs)) from I.hok a _ g1)
  have hl : es.size = kvs.length := by
    have e1 : es.toList.length = qs.length := by rw [h4 X.w, List.length_map]
    rw [Array.length_toList] at e1
    rw [e1, g2.length]
  have hlim : lim = 1000000 := rfl
  refine Calls.call_function_entry kind_len plain_len entry_len (args_len1 _) (len_body_raw (es := es) (ep := ep) g4 ⟨o, h1, h2, h3⟩ (by rw [hl]; omega) ?_)
  exact ⟨.int (kvs.length : Nat), H, I.tok _, ⟨_, by rw [hl]⟩, k m H _ .refl rH (.int _)⟩
end
end FL

set_option Elab.async false
set_option linter.all false
set_option maxRecDepth 100000
set_option maxHeartbeats 2000000
/-! FLEQ: list(enumerate(xs)) of a list or a tuple; dict(a list of pairs), the keys whole numbers. -/
namespace FL
open PySem PySem.Spec PyProof.Rows L2 FLZ
variable [Tabz]
section
variable {prog : Program} {wo : World} {A : Around} {E : Value → Shared → Prop} {s : Shared}
/-- an enumerate that has not begun, or whose last pair is held -/
def EqE (h : Heap) (e it : Addr) (c : Int) : Prop := (∃ old, IsEnum h e it c old) ∨ ∃ (old : Value) (T : Addr) (f : Bool) (oT : Obj), IsEnumHeld h e it c old T f ∧ h.get? T = some oT ∧ T ≠ e ∧ T ≠ it
theorem EqE.there {h : Heap} {e it : Addr} {c : Int} (q : EqE h e it c) : ∃ (o : Obj) (w : Value) (f : Bool) (old : Value), h.get? e = some o ∧ o = { cls := .type "enumerate", dict := none, data := .fields #[w, .bool f, .ref it, rawInt c, .none, old], slots := #[] } := by
  rcases q with ⟨old, q⟩ | ⟨old, T, f, oT, q, _⟩
  · exact ⟨_, _, _, _, q, rfl⟩
  · exact ⟨_, _, _, _, q, rfl⟩
end
theorem EqE.keep {h h' : Heap} {e it : Addr} {c : Int} (q : EqE h e it c) (k1 : ∀ o, h.get? e = some o → h'.get? e = some o) (k2 : ∀ b o, h.get? b = some o → ∃ o', h'.get? b = some o') : EqE h' e it c := by
  rcases q with ⟨old, q⟩ | ⟨old, T, f, oT, q, h1, h2, h3⟩
  · exact .inl ⟨old, k1 _ q⟩
  · obtain ⟨o', ho'⟩ := k2 T _ h1
    exact .inr ⟨old, T, f, o', k1 _ q, ho', h2, h3⟩
/-- what a list of an enumerate is -/
def EnTs (xs : List V) (H : Hp) (Ts : List Addr) : Prop := ∀ (j : Nat) (T : Addr), Ts[j]? = some T → ∃ x, xs[j]? = some x ∧ H T = some (.tup [.int (j : Nat), x])
def tLE (ta : TA) (K : PySem.W.Frag) : TE := fun σ H Q => ta σ H fun vs H1 => ∃ a xs, vs = [.ref a] ∧ SqT K H1 a xs ∧ xs.length < sizeLine ∧
  ∀ (p : Addr) (H2 : Hp) (Ts : List Addr), H1 p = none → (∀ (c : Addr) (o : HO), H1 c = some o → H2 c = some o) → H2 p = some (.lst (Ts.map V.ref)) → Ts.length = xs.length → EnTs xs H2 Ts → Q (.ref p) H2
section
variable {X : Cx} {e1 : Expr} {ta : TA} {p pos p2 pos2 : Pos}
end
def enumFr : Nat → List Va → List Va
  | _, [] => []
  | n, x :: xs => .tup [.int (n : Nat), x] :: enumFr (n + 1) xs
def eLE (ta : AF) : EF := fun ev h => (ta ev h).bind fun vs h1 => match vs with
  | [.tup xs] => if xs.length < lim then .ok (.ref h1.length) (h1 ++ [.lst (enumFr 0 xs)]) else .bad
  | _ => .bad
section
variable {X : Cx} {W : WX} {e1 : Expr} {ta : AF} {p pos p2 pos2 : Pos}
end
/-! ### dict(pairs with whole numbers as keys) -/
def prI : List Va → Option (List (Int × Va))
  | [] => some []
  | .tup [.int i, v] :: xs => (prI xs).map ((i, v) :: ·)
  | _ => none
def foldA (acc : List (Va × Va)) (ps : List (Int × Va)) : List (Va × Va) := ps.foldl (fun acc p => putA acc p.1 p.2) acc
def oDictI : OpN := fun vs h => match vs with
  | [.ref l] => (match lstAt h l with
    | some xs => (match prI xs with
      | some ps => some (.ref h.length, h ++ [.dct (foldA [] ps)])
      | none => none)
    | none => none)
  | _ => none
section
variable {X : Cx}
end
end FL

set_option Elab.async false
set_option linter.all false
set_option maxRecDepth 100000
set_option maxHeartbeats 2000000
/-! FLDV: [d[k] for k in d], [d[k] + e for k in d]: dicts of whole numbers walked by their keys (the dict is locked meanwhile; e does not use it). -/
namespace FL
open PySem PySem.Spec PyProof.Rows L2
variable [Tabz]
def intsD : List (Va × Va) → Option (List (Int × Int))
  | [] => some []
  | (.int k, .int v) :: r => (intsD r).map ((k, v) :: ·)
  | _ => none
def psI (ps : List (Int × Int)) : List (L2.Key × V) := ps.map fun p => (.inl p.1, .int p.2)
/-- d[k] of the locked dict -/
def eFz (ks : Nat) (ps : List (Int × Int)) : EF := fun ev h => match ev[ks]? with
  | some (some (.int k)) => (match ps.find? fun p => decide (p.1 = k) with | some p => .ok (.int p.2) h | none => .bad)
  | _ => .bad
def kI (ps : List (Int × Int)) : List Va := ps.map fun p => Va.int p.1
def eLcD (j : Nat) (g : GF) (el : List (Int × Int) → EF) (vs : List Nat) : EF := fun ev h => match ev[j]? with
  | some (some (.ref l)) => (match h[l]? with
    | some (.dct kvs) => (match intsD kvs with
      | some ps => if ps.length < lim then (match compF [] g tYesF (el ps) (ewipe (plainEv ev) vs) (kI ps) [] with
        | .ok ys _ => if inRs 0 ys then .ok (.ref h.length) (h ++ [.lst ys]) else .bad
        | _ => .bad) else .bad
      | none => .bad)
    | _ => .bad)
  | _ => .bad
section
variable {K : PySem.W.Frag} {H : Hp} {m : List Addr}
end
/-- what is read of an element -/
def teD (K : PySem.W.Frag) (mg : Str → Option Value) (j : Nat) (el : List (Int × Int) → EF) : TE := fun σ H Q => ∃ d od ps, σ[j]? = some (some (V.ref d)) ∧ H d = some (.frz od (.dK (psI ps))) ∧ Wi K mg (VR K) WN (el ps) σ H Q
section
variable {X : Cx} {dn kn : Str} {p1 p2 pos : Pos} {j ks : Nat} {r : Expr} {g : EF}
end
section
variable {X : Cx} {W : WX} {tg elt : Expr} {scope : Scope} {own : List (Str × Nat)} {pos np : Pos} {g : GF} {el : List (Int × Int) → EF} {j : Nat} {n : Str}
theorem wipe_out {σ : L2.St} {j : Nat} : ∀ {vs : List Nat}, j ∉ vs → (L2.wipe σ vs)[j]? = σ[j]?
  | [], _ => rfl
  | v :: vs, h => by
    have h1 : ¬ v = j := fun z => h (by simp [z])
    have h2 : j ∉ vs := fun z => h (by simp [z])
    unfold L2.wipe
    rw [List.getElem?_set_ne h1]
    exact wipe_out h2
end
end FL

set_option Elab.async false
set_option linter.all false
set_option maxRecDepth 100000
set_option maxHeartbeats 2000000
/-! FLDX: {k: v for .. in ..}, the keys tuples (a name), the value a name or a constant; sorted(d) of such a dict. -/
namespace FL
open PySem PySem.Spec PyProof.Rows L2
variable [Tabz]
def dcFN (gs : List (Nat × List Va)) (g : GF) (ik : Nat) (fv : Ev → Option Va) (ev0 : Ev) (h : AH) : List Va → List (Va × Va) → Option (List (Va × Va))
  | [], acc => if gsOk gs h then some acc else none
  | x :: xs, acc => if gsOk gs h then match g x ev0 with
      | none => none
      | some ev1 => match ev1[ik]?, fv ev1 with
        | some (some p), some y => match keyN p with
          | some k => dcFN gs g ik fv ev0 h xs (putN acc p k y)
          | none => none
        | _, _ => none
    else none
def dcKN (g : GF) (ik : Nat) (fv : Ev → Option Va) (vs : List Nat) (ev : Ev) : Src → AH → Rs Va := fun s h1 =>
  if s.items.length < lim then match dcFN s.gs g ik fv (ewipe ev vs) h1 s.items [] with
    | some kvs => .ok (.ref h1.length) (h1 ++ [.dtl kvs])
    | none => .bad
  else .bad
def eDcN (i : IF) (g : GF) (ik : Nat) (fv : Ev → Option Va) (vs : List Nat) : EF := fun ev h => (i ev h).bind (dcKN g ik fv vs ev)
/-- the value: a name, a constant -/
def fvN (iv : Nat) : Ev → Option Va := fun ev => match ev[iv]? with
  | some (some y) => some y
  | _ => none
def fvC (c : Va) : Ev → Option Va := fun _ => some c
section
variable {K : PySem.W.Frag} {H : Hp} {m : List Addr} {D : Addr}
end
section
variable {X : Cx} {W : WX} {tg iter : Expr} {scope : Scope} {own : List (Str × Nat)} {pos : Pos} {fi : IF} {g : GF} {ik : Nat} {fv : Ev → Option Va} {tv : TE}
end
end FL

set_option Elab.async false
set_option linter.all false
set_option maxRecDepth 100000
set_option maxHeartbeats 2000000
/-! FLDS: sorted(d), list(d) of a dict with tuple keys. -/
namespace FL
open PySem PySem.Spec PyProof.Rows L2 PySem.Calls PySem.W
variable [Tabz]
def oSortK : OpN := fun ps h => match ps with
  | [.ref l] => (match h[l]? with
    | some (.dtl kvs) => (match toPysF (toPy h depthL) (kvs.map (·.1)) with
      | some ds => if sortable ds && decide (kvs.length ≤ lim) then some (.ref h.length, h ++ [.lst ((sortS leP ((kvs.map (·.1)).zip ds)).map (·.1))]) else none
      | none => none)
    | _ => oSortA ps h)
  | _ => oSortA ps h
section
variable {X : Cx} {pins : List (Addr × Obj)} {σ : L2.St} {H : Hp} {m : List Addr} {ah : AH} {s : Shared}
end
end FL

set_option Elab.async false
set_option linter.all false
set_option maxRecDepth 100000
set_option maxHeartbeats 2000000
/-! FLTJ: try: .. except C as n: return A if n.f == k else B, with constants A and B. -/
namespace FL
open PySem PySem.Spec PyProof.Rows L2
variable [Tabz]
section
variable {X : Cx} {W : WX} {C fI : Addr} {x f : Str} {bm : List Value} {newId : String}
def xfJ (f : Str) (k : Int) (c1 c2 : Va) (h : AH) : List (Str × Va) → SR
  | [(y, .int v)] => if y = f then .rt (if v = k then c1 else c2) h else .bad
  | _ => .bad
def tryJ (i : Nat) (x f : Str) (k : Int) (c1 c2 : Va) : SR → SR
  | .exc cl p ev h => if cl = x ∧ i < ev.length then xfJ f k c1 c2 h p else .bad
  | r => r
def sTryJ (i : Nat) (x f : Str) (k : Int) (c1 c2 : Va) (b : SF) : SF := fun ev h => tryJ i x f k c1 c2 (b ev h)
end
section
variable {h : AH} {ev : Ev} {f x cl : Str} {v k : Int} {i : Nat} {b : SF} {w c1 c2 : Va}
end
end FL

set_option Elab.async false
set_option linter.all false
set_option maxRecDepth 100000
set_option maxHeartbeats 2000000
/-! FLDY: name = {k: v for .. in ..} on one line, the keys tuples. -/
namespace FL
open PySem PySem.Spec PyProof.Rows L2
variable [Tabz]
section
variable {X : Cx} {W : WX} {tg iter : Expr} {scope : Scope} {own : List (Str × Nat)} {pos : Pos} {fi : IF} {g : GF} {ik : Nat} {fv : Ev → Option Va}
end
end FL

set_option Elab.async false
set_option linter.all false
set_option maxRecDepth 100000
set_option maxHeartbeats 2000000
/-! FLTM: try: .. except C as n: return -c * n.f, with a constant c. -/
namespace FL
open PySem PySem.Spec PyProof.Rows L2
variable [Tabz]
section
variable {X : Cx} {W : WX} {C fI : Addr} {x f : Str} {bm : List Value} {newId : String}
def xfM (f : Str) (c : Int) (h : AH) : List (Str × Va) → SR
  | [(y, .int v)] => if y = f then .rt (.int (-c * v)) h else .bad
  | _ => .bad
def tryM (i : Nat) (x f : Str) (c : Int) : SR → SR
  | .exc cl p ev h => if cl = x ∧ i < ev.length then xfM f c h p else .bad
  | r => r
def sTryM (i : Nat) (x f : Str) (c : Int) (b : SF) : SF := fun ev h => tryM i x f c (b ev h)
end
section
variable {h : AH} {ev : Ev} {f x cl : Str} {v c : Int} {i : Nat} {b : SF} {w : Va}
end
end FL

set_option Elab.async false
set_option linter.all false
set_option maxRecDepth 100000
set_option maxHeartbeats 2000000
/-! FLIK: dicts with keys that are ints: k in d, k not in d, d[k]. -/
namespace FL
open PySem PySem.Spec PyProof.Rows L2
def getA (kvs : List (Va × Va)) (i : Int) : Option Va := (kvs.find? fun p => isI i p.1).map (·.2)
def oDGet : Op2 := fun p q h => match p, q with
  | .ref l, .int i => match h[l]? with
    | some (.dct kvs) => (getA kvs i).map fun v => (v, h)
    | _ => none
  | _, _ => none
def oDInn (neg : Bool) : Op2 := fun p q h => match p, q with
  | .int i, .ref l => match h[l]? with
    | some (.dct kvs) => some (.bl (if neg then !(getA kvs i).isSome else (getA kvs i).isSome), h)
    | _ => none
  | _, _ => none
abbrev oDIn : Op2 := oDInn false
abbrev oDNotIn : Op2 := oDInn true
variable [Tabz]
section
variable {K : PySem.W.Frag} {H : Hp} {m : List Addr}
end
section
variable {X : Cx} {W : WX} {a b : Expr} {f g : EF} {pos : Pos}
end
end FL

set_option Elab.async false
set_option linter.all false
set_option maxRecDepth 100000
set_option maxHeartbeats 2000000
/-! FLGD: dicts with whole numbers as keys: d.get(k, x), d.setdefault(k, x), {k: v for .. in ..}. -/
namespace FL
open PySem PySem.Spec PyProof.Rows L2
variable [Tabz]
section
variable {K : PySem.W.Frag} {H H' : Hp} {m : List Addr}
theorem sqT_offk (e : ∀ b o, H b = some o → (∀ vs, o ≠ .dK vs) → H' b = some o) {a : Addr} {vs : List V} (h : SqT K H a vs) : SqT K H' a vs := by
  rcases h with (h | ⟨o, h⟩) | h
  · exact .inl (.inl (e _ _ h (fun _ z => nomatch z)))
  · exact .inl (.inr ⟨o, e _ _ h (fun _ z => nomatch z)⟩)
  · exact .inr h
theorem fz_offk (e : ∀ b o, H b = some o → (∀ vs, o ≠ .dK vs) → H' b = some o) {a : Addr} {vs : List V} (h : Fz K H a vs) : Fz K H' a vs := by
  rcases h with ⟨o, h⟩ | h
  · exact .inl ⟨o, e _ _ h (fun _ z => nomatch z)⟩
  · exact .inr h
mutual
theorem VR.offk (e : ∀ b o, H b = some o → (∀ vs, o ≠ .dK vs) → H' b = some o) : ∀ {x : Va} {v : V}, VR K H m x v → VR K H' m x v
  | _, _, .non => .non
  | _, _, .bl b => .bl b
  | _, _, .int i => .int i
  | _, _, .str x => .str x
  | _, _, .rp d => .rp d
  | _, _, .ref h => .ref h
  | _, _, .tup h hs => .tup (sqT_offk e h) (VRs.offk e hs)
  | _, _, .rol h hs => .rol (fz_offk e h) (VRs.offk e hs)
  | _, _, .dv h => .dv (h.to (fun _ _ z => e _ _ z (fun _ z => nomatch z)) fun _ _ => sqT_offk e)
  | _, _, .exo a => .exo a
  | _, _, .exn h g => .exn (e _ _ h (fun _ z => nomatch z)) (VR.offk e g)
theorem VRs.offk (e : ∀ b o, H b = some o → (∀ vs, o ≠ .dK vs) → H' b = some o) : ∀ {xs : List Va} {vs : List V}, VRs K H m xs vs → VRs K H' m xs vs
  | _, _, .nil => .nil
  | _, _, .cons h hs => .cons (VR.offk e h) (VRs.offk e hs)
end
end
def isDct (d : Va) (h : AH) : Bool := match d with
  | .ref l => match h[l]? with
    | some (.dct _) => true
    | _ => false
  | _ => false
/-! ### d.get(k, x) -/
def dgetF (d i z : Va) (h : AH) : Option Va := match d, i with
  | .ref l, .int k => match h[l]? with
    | some (.dct kvs) => some ((getA kvs k).getD z)
    | _ => none
  | _, _ => none
def eDGet2 (fo fk fz : EF) : EF := fun ev h => (fo ev h).bind fun d h1 => if isDct d h1 then (fk ev h1).bind fun i h2 => (fz ev h2).bind fun z h3 => match dgetF d i z h3 with
  | some v => .ok v h3
  | none => .bad else .bad
/-! ### d.setdefault(k, x) -/
def dsetF (d i z : Va) (h : AH) : Option (Va × AH) := match d, i with
  | .ref l, .int k => match h[l]? with
    | some (.dct kvs) => if kvs.length < lim then (match getA kvs k with
      | some v => some (v, h)
      | none => some (z, h.set l (.dct (putA kvs k z)))) else none
    | _ => none
  | _, _ => none
def eDSet2 (fo fk fz : EF) : EF := fun ev h => (fo ev h).bind fun d h1 => if isDct d h1 then (fk ev h1).bind fun i h2 => (fz ev h2).bind fun z h3 => match dsetF d i z h3 with
  | some p => .ok p.1 p.2
  | none => .bad else .bad
section
variable {X : Cx} {W : WX} {o e f : Expr} {apos cpos : Pos} {fo fk fz : EF}
end
/-! ### {k: v for .. in ..}, the keys whole numbers (a name), the value told by the names alone -/
def dcFI (gs : List (Nat × List Va)) (g : GF) (ik : Nat) (fv : Ev → Option Va) (ev0 : Ev) (h : AH) : List Va → List (Va × Va) → Option (List (Va × Va))
  | [], acc => if gsOk gs h then some acc else none
  | x :: xs, acc => if gsOk gs h then match g x ev0 with
      | none => none
      | some ev1 => match ev1[ik]?, fv ev1 with
        | some (some (.int i)), some y => dcFI gs g ik fv ev0 h xs (putA acc i y)
        | _, _ => none
    else none
def dcKI (g : GF) (ik : Nat) (fv : Ev → Option Va) (vs : List Nat) (ev : Ev) : Src → AH → Rs Va := fun s h1 =>
  if s.items.length < lim then match dcFI s.gs g ik fv (ewipe ev vs) h1 s.items [] with
    | some kvs => .ok (.ref h1.length) (h1 ++ [.dct kvs])
    | none => .bad
  else .bad
def eDcI (i : IF) (g : GF) (ik : Nat) (fv : Ev → Option Va) (vs : List Nat) : EF := fun ev h => (i ev h).bind (dcKI g ik fv vs ev)
/-- the value: a pair of a name and the empty tuple -/
def fvNE (iv : Nat) : Ev → Option Va := fun ev => match ev[iv]? with
  | some (some y) => some (.tup [y, .tup []])
  | _ => none
section
variable {X : Cx} {W : WX} {tg iter : Expr} {scope : Scope} {own : List (Str × Nat)} {pos : Pos} {fi : IF} {g : GF} {ik : Nat} {fv : Ev → Option Va} {tv : TE}
end
/-! the rules of evaluation -/
section
variable {fo fk fz : EF} {ev : Ev} {h : AH} {d i z : Va} {F : Va → AH → Rs Va}
end
end FL

set_option Elab.async false
set_option linter.all false
set_option maxRecDepth 100000
set_option maxHeartbeats 2000000
/-! FLZL: list(zip(xs, ys)) of two tuples. -/
namespace FL
open PySem PySem.Spec PyProof.Rows L2 RZ
variable [Tabz]
def ZStT (h : Heap) (z TI TO i1 i2 a b : Addr) (i : Nat) : Prop := (∃ w f, IsZA h z TI TO w f ∧ OutW w) ∧ IsPair h TI (.ref i1) (.ref i2) ∧ (∃ x y, IsPair h TO x y) ∧ h.IsTupleIter i1 a i ∧ h.IsTupleIter i2 b i
theorem ZStT.keep {h h' : Heap} {z TI TO i1 i2 a b : Addr} {i : Nat} (st : ZStT h z TI TO i1 i2 a b i) (k : ∀ c ∈ [z, TI, TO, i1, i2], ∀ o, h.get? c = some o → h'.get? c = some o) : ZStT h' z TI TO i1 i2 a b i := by
  obtain ⟨⟨w, f, hz, ow⟩, hTI, ⟨x, y, hTO⟩, h1, h2⟩ := st
  exact ⟨⟨w, f, k z (by simp) _ hz, ow⟩, k TI (by simp) _ hTI, ⟨x, y, k TO (by simp) _ hTO⟩, h1.at fun o q => k i1 (by simp) o q, h2.at fun o q => k i2 (by simp) o q⟩
def tLZT (K : PySem.W.Frag) (ta : TA) : TE := fun σ H Q => ta σ H fun vs H1 => ∃ a b xs ys, vs = [.ref a, .ref b] ∧ SqT K H1 a xs ∧ SqT K H1 b ys ∧ min xs.length ys.length < sizeLine ∧
  ∀ (p : Addr) (H2 : Hp) (Ts : List Addr), H1 p = none → (∀ (c : Addr) (o : HO), H1 c = some o → H2 c = some o) → H2 p = some (.lst (Ts.map V.ref)) → Ts.length = min xs.length ys.length → ZipTs xs ys H2 Ts → Q (.ref p) H2
section
variable {X : Cx} {e1 e2 : Expr} {ta : TA} {p pos p2 pos2 : Pos}
end
def eLZT (ta : AF) : EF := fun ev h => (ta ev h).bind fun vs h1 => match vs with
  | [.tup xs, .tup ys] => if xs.length < lim then .ok (.ref h1.length) (h1 ++ [.lst (zipF xs ys)]) else .bad
  | _ => .bad
section
variable {X : Cx} {W : WX} {e1 e2 : Expr} {ta : AF} {p pos p2 pos2 : Pos}
end
section
variable {X : Cx} {W : WX} {tg iter : Expr} {scope : Scope} {own : List (Str × Nat)} {pos : Pos} {fi : IF} {g : GF} {ik : Nat} {fv : Ev → Option Va}
end
end FL

set_option Elab.async false
set_option linter.all false
set_option maxRecDepth 100000
set_option maxHeartbeats 2000000
/-! FLMK: lambdas with one parameter as keys: max(xs, key=lambda x: ..). -/
namespace FL
open PySem PySem.Spec PyProof.Rows L2 LamX
variable [Tabz]
/-- one parameter, no other name of its own -/
structure LamP (sc scope : Scope) (p : Str) : Prop where
  kind : scope.kind = .function
  co : scope.isCoroutine = false
  gen : scope.isGenerator = false
  own : ∀ y ∈ scope.names, y.2 ≠ .cell ∧ (y.2 = .local → y.1 = p)
  par : scope.names.lookup p = some .local
  free : ∀ y ∈ scope.names, y.2 = .free → sc.names.lookup y.1 = some .cell ∨ sc.names.lookup y.1 = some .free
def lamPB (sc scope : Scope) (p : Str) : Bool :=
  decide (scope.kind = .function) && !scope.isCoroutine && !scope.isGenerator && decide (scope.names.lookup p = some .local) && scope.names.all fun y => !decide (y.2 = .cell) && (!decide (y.2 = .local) || decide (y.1 = p)) && (!decide (y.2 = .free) || decide (sc.names.lookup y.1 = some .cell) || decide (sc.names.lookup y.1 = some .free))
section
variable {X : Cx} {pins : List (Addr × Obj)} {σ : L2.St} {HZ : Hp} {s1 : Shared}
end
/-! ### max(xs, key=f): f called by turns -/
section
variable {X : Cx} {pins : List (Addr × Obj)} {σ : L2.St} {xs : List V} {a f it S : Addr} {fo : Obj} {kf : Nat → Int} {RH : Hp → Prop} {R : Result → Shared → Prop}
/-- what stays true between turns -/
structure MkJ (X : Cx) (pins : List (Addr × Obj)) (σ : L2.St) (RH : Hp → Prop) (it S f : Addr) (fo : Obj) (H : Hp) (s : Shared) : Prop where
  r : RH H
  i : Inv X pins σ H s
  ni : H it = none
  ns : H S = none
  fo : s.heap.get? f = some fo
  nf : H f = none
/-- f, called with an item -/
def MkT (X : Cx) (σ : L2.St) (xs : List V) (RH : Hp → Prop) (f : Addr) (fo : Obj) (kf : Nat → Int) : Prop := ∀ (i : Nat) (x : V) (u : Value) (H : Hp) (s : Shared) (pins : List (Addr × Obj)) (Ex : Value → Shared → Prop),
  xs[i]? = some x → L2.RelV x u → RH H → Inv X pins σ H s → s.heap.get? f = some fo → wpAny (model X.prog X.w) X.A.in1 (call (.ref f) [u]) (EP X pins σ (fun k H2 => k = .int (kf i) ∧ RH H2)) Ex s
end
/-! ### what it means -/
/-- the first of the greatest -/
def fstMax (ks : List Int) : Option Nat := (List.range ks.length).find? fun i => ks.all fun k => decide (k ≤ ks.getD i 0)
def allK (kf : Int → Option Int) : List Va → Option (List (Int × Int))
  | [] => some []
  | .int i :: xs => (match kf i, allK kf xs with
    | some k, some ks => some ((i, k) :: ks)
    | _, _ => none)
  | _ :: _ => none
def eMaxK (ta : AF) (kf : Ev → AH → Int → Option Int) : EF := fun ev h => (ta ev h).bind fun vs h1 => match vs with
  | [.ref l] => (match lstAt h1 l with
    | some xs => (match allK (kf ev h1) xs with
      | some ps => (match (fstMax (ps.map (·.2))).bind fun i => ps[i]? with
        | some p => .ok (.int p.1) h1
        | none => .bad)
      | none => .bad)
    | none => .bad)
  | _ => .bad
section
variable {X : Cx} {W : WX} {ta : AF} {kf : Ev → AH → Int → Option Int} {el : EF} {ip k : Nat} {xp : Str} {e1 : Expr} {kws : List Keyword} {params : Arguments} {body : Expr} {scope : Scope} {p lpos pos : Pos} {c P : Addr}
/-- the key: a number of a list -/
def kIx (iy : Nat) : Ev → AH → Int → Option Int := fun ev h i => match ev[iy]? with
  | some (some (.ref l)) => (match lstAt h l with
    | some xs => (match atI xs i with
      | some (.int r) => some r
      | _ => none)
    | none => none)
  | _ => none
end
/-! ### try: .. except C as n: return n.f if isinstance(n, D) else None, D a class of C -/
section
variable {X : Cx} {W : WX} {C fI : Addr} {x f : Str} {bm : List Value} {newId : String}
def tWhen (P : Prop) (t : TE) : TE := fun σ H Q => P ∧ t σ H Q
def tIsX (i : Nat) (a : Addr) (d : Option Addr) (b : Bool) : TE := fun σ H Q => σ[i]? = some (some (.ref a)) ∧ (∀ dd, d = some dd → ∃ fs, H dd = some (.xd fs)) ∧ Q (.bl b) H
end
end FL

set_option Elab.async false
set_option linter.all false
set_option maxRecDepth 100000
set_option maxHeartbeats 2000000
/-! FLRD: d.setdefault(k, x), the keys tuples; a def with two meanings. -/
namespace FL
open PySem PySem.Spec PyProof.Rows L2
variable [Tabz]
/-- a def that is evaluated in two ways: which, tell the values handed in -/
def altF (c : List Va → Bool) (F G : List Va → AH → Rs Va) : List Va → AH → Rs Va := fun vs h => if c vs then F vs h else G vs h
/-- the first value is a tuple -/
def isTupV : List Va → Bool
  | .tup _ :: _ => true
  | _ => false
/-! ### d.setdefault(k, x), the keys tuples -/
def isDtl (d : Va) (h : AH) : Bool := match d with
  | .ref l => match h[l]? with
    | some (.dtl _) => true
    | _ => false
  | _ => false
theorem isDtl_inv {d : Va} {h : AH} (e : isDtl d h = true) : ∃ l kvs, d = .ref l ∧ h[l]? = some (.dtl kvs) := by
  unfold isDtl at e
  split at e
  · split at e
    · exact ⟨_, _, rfl, by assumption⟩
    · cases e
  · cases e
def dsetNF (d i z : Va) (h : AH) : Option (Va × AH) := match d with
  | .ref l => match h[l]? with
    | some (.dtl kvs) => match keyN i with
      | some k => if kvs.length < lim then (match findN kvs k with
        | some v => some (v, h)
        | none => some (z, h.set l (.dtl (putN kvs i k z)))) else none
      | none => none
    | _ => none
  | _ => none
def eDSet2N (fo fk fz : EF) : EF := fun ev h => (fo ev h).bind fun d h1 => if isDtl d h1 then (fk ev h1).bind fun i h2 => (fz ev h2).bind fun z h3 => match dsetNF d i z h3 with
  | some p => .ok p.1 p.2
  | none => .bad else .bad
section
variable {X : Cx} {pins : List (Addr × Obj)} {σ : L2.St} {H : Hp} {s : Shared} {m : List Addr} {ah : AH} {a : Addr} {kvs : List (Va × Va)} {xs : List (PySem.NestedKey × Addr × Value)} {A : Around} {E : Value → Shared → Prop}
end
def rDSetN (K : PySem.W.Frag) (x y v : V) (H : Hp) (Q : V → Hp → Prop) : Prop := ∃ m ah p q z w ah', HR K H m ah ∧ VR K H m p x ∧ VR K H m q y ∧ VR K H m z v ∧ dsetNF p q z ah = some (w, ah') ∧ ∀ H' v', HR K H' m ah' → Ext m H m H' → VR K H' m w v' → Q v' H'
def tDSetN (K : PySem.W.Frag) (td ty tx : TE) : TE := fun σ H Q => td σ H fun x H1 => (∃ (m : List Addr) (ah : AH) (l : Nat) (a : Addr) (kvs : List (Va × Va)), x = V.ref a ∧ HR K H1 m ah ∧ m[l]? = some a ∧ ah[l]? = some (AO.dtl kvs)) ∧ ty σ H1 fun y H2 => tx σ H2 fun z H3 => rDSetN K x y z H3 Q
section
variable {X : Cx} {W : WX} {o e f : Expr} {td ty tx : TE} {apos cpos : Pos} {fo fk fz : EF}
end
end FL

set_option Elab.async false
set_option linter.all false
set_option maxRecDepth 100000
set_option maxHeartbeats 2000000
/-! FLRC: {xs[a]: b for .. in ..}, the keys whole numbers. -/
namespace FL
open PySem PySem.Spec PyProof.Rows L2
variable [Tabz]
/-! ### {e: v for .. in ..}, e a whole number read without a change of the heap -/
def dcFE (gs : List (Nat × List Va)) (g : GF) (fk : Ev → AH → Option Int) (fv : Ev → Option Va) (ev0 : Ev) (h : AH) : List Va → List (Va × Va) → Option (List (Va × Va))
  | [], acc => if gsOk gs h then some acc else none
  | x :: xs, acc => if gsOk gs h then match g x ev0 with
      | none => none
      | some ev1 => match fk ev1 h, fv ev1 with
        | some i, some y => dcFE gs g fk fv ev0 h xs (putA acc i y)
        | _, _ => none
    else none
def dcKE (g : GF) (fk : Ev → AH → Option Int) (fv : Ev → Option Va) (vs : List Nat) (ev : Ev) : Src → AH → Rs Va := fun s h1 =>
  if s.items.length < lim then match dcFE s.gs g fk fv (ewipe ev vs) h1 s.items [] with
    | some kvs => .ok (.ref h1.length) (h1 ++ [.dct kvs])
    | none => .bad
  else .bad
def eDcE (i : IF) (g : GF) (fk : Ev → AH → Option Int) (fv : Ev → Option Va) (vs : List Nat) : EF := fun ev h => (i ev h).bind (dcKE g fk fv vs ev)
/-- the value: a name -/
def fvNm (iv : Nat) : Ev → Option Va := fun ev => match ev[iv]? with
  | some (some y) => some y
  | _ => none
/-- the key: an item of a list of whole numbers -/
def fkIx (iy ip : Nat) : Ev → AH → Option Int := fun ev h => match ev[ip]? with
  | some (some (.int i)) => kIx iy ev h i
  | _ => none
section
variable {X : Cx} {W : WX} {tg iter : Expr} {scope : Scope} {own : List (Str × Nat)} {pos : Pos} {fi : IF} {g : GF} {fk : Ev → AH → Option Int} {fv : Ev → Option Va} {tk tv : TE}
end
end FL

set_option Elab.async false
set_option linter.all false
set_option maxRecDepth 100000
set_option maxHeartbeats 2000000
/-! FLRS: len({x for .. in ..}), the x whole numbers. -/
namespace FL
open PySem PySem.Spec PyProof.Rows L2 PpSet
variable [Tabz]
/-- the empty set of whole numbers, and the set with one more -/
def so0 (w : World) (D : Addr) : HO := SetO w D (fun _ => false) 0
def so1 (w : World) (D : Addr) (S : Int → Bool) (n : Nat) (k : Int) : HO := SetO w D (fun j => S j || decide (j = k)) (if S k = true then n else n + 1)
/-- {e for t in it}: a set D of whole numbers, grown item by item -/
def tSetI (w : World) (ti : TI) (tg : TG) (te : TE) (own : List Nat) : TE := fun σ H Q => ti σ H fun J H1 => ∀ D, H1 D = none → ∃ (Z : Nat → Nat → Hp → Prop) (m0 : Nat), Z 0 m0 (upd H1 D (so0 w D)) ∧
  ∀ i k G, Z i k G → (J.stop i G ∧ Q (.ref D) G) ∨ (J.go i G ∧ ∃ N : Hp → Prop, (∀ G', N G' → ∃ k', k' < k ∧ Z (i + 1) k' G') ∧
    ∀ x G1, J.yld i G x G1 → tg x (wipe σ own) G1 fun σ2 G2 => wipe σ2 own = wipe σ own ∧ te σ2 G2 fun y G3 => ∃ (c : Int) (S : Int → Bool) (n : Nat), y = .int c ∧ G3 D = some (SetO w D S n) ∧ n + 1 < scanBound ∧ N (upd G3 D (so1 w D S n c)))
section
variable {X : Cx}
/-- len of a set of whole numbers -/
def tLenZ (w : World) (ta : TE) : TE := fun σ H Q => ta σ H fun x H1 => ∃ D S n, x = .ref D ∧ H1 D = some (SetO w D S n) ∧ Q (.int (n : Nat)) H1
end
/-! ### in the layer -/
section
variable {K : PySem.W.Frag} {H H' : Hp} {m : List Addr}
theorem sqT_offx (e : ∀ b o, H b = some o → (∀ φ, o ≠ .ext φ) → H' b = some o) {a : Addr} {vs : List V} (h : SqT K H a vs) : SqT K H' a vs := by
  rcases h with (h | ⟨o, h⟩) | h
  · exact .inl (.inl (e _ _ h (fun _ z => nomatch z)))
  · exact .inl (.inr ⟨o, e _ _ h (fun _ z => nomatch z)⟩)
  · exact .inr h
theorem fz_offx (e : ∀ b o, H b = some o → (∀ φ, o ≠ .ext φ) → H' b = some o) {a : Addr} {vs : List V} (h : Fz K H a vs) : Fz K H' a vs := by
  rcases h with ⟨o, h⟩ | h
  · exact .inl ⟨o, e _ _ h (fun _ z => nomatch z)⟩
  · exact .inr h
mutual
theorem VR.offx (e : ∀ b o, H b = some o → (∀ φ, o ≠ .ext φ) → H' b = some o) : ∀ {x : Va} {v : V}, VR K H m x v → VR K H' m x v
  | _, _, .non => .non
  | _, _, .bl b => .bl b
  | _, _, .int i => .int i
  | _, _, .str x => .str x
  | _, _, .rp d => .rp d
  | _, _, .ref h => .ref h
  | _, _, .tup h hs => .tup (sqT_offx e h) (VRs.offx e hs)
  | _, _, .rol h hs => .rol (fz_offx e h) (VRs.offx e hs)
  | _, _, .dv h => .dv (h.to (fun _ _ z => e _ _ z (fun _ z => nomatch z)) fun _ _ => sqT_offx e)
  | _, _, .exo a => .exo a
  | _, _, .exn h g => .exn (e _ _ h (fun _ z => nomatch z)) (VR.offx e g)
theorem VRs.offx (e : ∀ b o, H b = some o → (∀ φ, o ≠ .ext φ) → H' b = some o) : ∀ {xs : List Va} {vs : List V}, VRs K H m xs vs → VRs K H' m xs vs
  | _, _, .nil => .nil
  | _, _, .cons h hs => .cons (VR.offx e h) (VRs.offx e hs)
end
end
def lsF (gs : List (Nat × List Va)) (g : GF) (ik : Nat) (ev0 : Ev) (h : AH) : List Va → List Int → Option (List Int)
  | [], acc => if gsOk gs h then some acc else none
  | x :: xs, acc => if gsOk gs h then match g x ev0 with
      | none => none
      | some ev1 => match ev1[ik]? with
        | some (some (.int i)) => lsF gs g ik ev0 h xs (if i ∈ acc then acc else acc ++ [i])
        | _ => none
    else none
def lsKF (g : GF) (ik : Nat) (vs : List Nat) (ev : Ev) : Src → AH → Rs Va := fun s h1 =>
  if s.items.length < 4000 then match lsF s.gs g ik (ewipe ev vs) h1 s.items [] with
    | some ks => .ok (.int (ks.length : Nat)) h1
    | none => .bad
  else .bad
/-- len({x for .. in ..}) -/
def eLenSC (i : IF) (g : GF) (ik : Nat) (vs : List Nat) : EF := fun ev h => (i ev h).bind (lsKF g ik vs ev)
section
variable {X : Cx} {W : WX} {tg iter : Expr} {scope : Scope} {own : List (Str × Nat)} {pos : Pos} {fi : IF} {g : GF} {ik : Nat}
end
end FL

set_option Elab.async false
set_option linter.all false
set_option maxRecDepth 100000
set_option maxHeartbeats 2000000
/-! FLRL: list(d) of a dict with tuple keys. -/
namespace FL
open PySem PySem.Spec PyProof.Rows L2 PySem.Calls PySem.W
variable [Tabz]
/-- len(d), d a dict with whole numbers as keys -/
def oLenD : OpN := fun vs h => match vs with
  | [.ref l] => (match h[l]? with
    | some (.dct kvs) => some (.int (kvs.length : Nat), h)
    | _ => oLen vs h)
  | _ => oLen vs h
def oListK : OpN := fun ps h => match ps with
  | [.ref l] => (match h[l]? with
    | some (.dtl kvs) => if kvs.length ≤ lim then some (.ref h.length, h ++ [.lst (kvs.map (·.1))]) else none
    | _ => oList ps h)
  | _ => oList ps h
section
variable {X : Cx}
end
end FL

set_option Elab.async false
set_option linter.all false
set_option maxRecDepth 100000
set_option maxHeartbeats 2000000
/-! FLRG: d.get(k, x), the keys tuples. -/
namespace FL
open PySem PySem.Spec PyProof.Rows L2
variable [Tabz]
def dgetNF (d i z : Va) (h : AH) : Option (Va × AH) := match d with
  | .ref l => match h[l]? with
    | some (.dtl kvs) => match keyN i with
      | some k => if kvs.length < lim then some ((findN kvs k).getD z, h) else none
      | none => none
    | _ => none
  | _ => none
def eDGet2N (fo fk fz : EF) : EF := fun ev h => (fo ev h).bind fun d h1 => if isDtl d h1 then (fk ev h1).bind fun i h2 => (fz ev h2).bind fun z h3 => match dgetNF d i z h3 with
  | some p => .ok p.1 p.2
  | none => .bad else .bad
section
variable {X : Cx} {pins : List (Addr × Obj)} {σ : L2.St} {H : Hp} {s : Shared} {m : List Addr} {ah : AH} {a : Addr} {kvs : List (Va × Va)} {xs : List (PySem.NestedKey × Addr × Value)} {A : Around} {E : Value → Shared → Prop}
theorem n_get2 {Q : Value → Shared → Prop} {p q : Va} {k : PySem.NestedKey} {b : Addr} {v : V} {u : Value} {l : Nat} (hu : A.units + 9 < cLine) (I : Inv X pins σ H s) (r : HR X.K H m ah) (hl : m[l]? = some a) (ho : ah[l]? = some (.dtl kvs))
    (hk : nk p = some k ∧ k.depth ≤ 8) (rp : VR X.K H m p (.ref b)) (rq : VR X.K H m q v) (ru : RelV v u)
    (hO : ∀ v' u' s', VR X.K H m ((findN kvs k).getD q) v' → RelV v' u' → Inv X pins σ H s' → Q u' s') : wpAny (model X.prog X.w) A (call (.builtin "dict.get") [.ref a, .ref b, u]) Q E s := by
  obtain ⟨xs, g1, g2, g3, g4⟩ := r.dtl hl ho
  have z := g2.find k
  have dm := dictN I g1 g2 g3
  refine call_meetsIn PySem.F.slot_dict_get dm.typeIs PySem.F.entry_dict_get (PySem.F.args_dict_get_3 _ _ _) (meetsH_dict_get_default (PySem.nestedKind X.prog X.w) a b g4 u) ⟨by show A.in1.units + 8 < cLine; show A.units + 1 + 8 < cLine; omega, k, xs, ⟨nk_is I p hk.1 rp rfl, hk.2⟩, dm, ?_⟩
  show Q _ _
  cases hx : atKey xs k with
  | none =>
    rw [hx] at z
    cases hf : findN kvs k with
    | some y => rw [hf] at z; exact z.elim
    | none => rw [hf] at hO; exact hO v u _ rq ru (I.tok _)
  | some bu =>
    rw [hx] at z
    cases hf : findN kvs k with
    | none => rw [hf] at z; exact z.elim
    | some y =>
      rw [hf] at z hO
      obtain ⟨v', z1, z2⟩ := z
      exact hO v' bu.2 _ z1 z2 (I.tok _)
end
def rDGetN (K : PySem.W.Frag) (x y v : V) (H : Hp) (Q : V → Hp → Prop) : Prop := ∃ m ah p q z w ah', HR K H m ah ∧ VR K H m p x ∧ VR K H m q y ∧ VR K H m z v ∧ dgetNF p q z ah = some (w, ah') ∧ ∀ H' v', HR K H' m ah' → Ext m H m H' → VR K H' m w v' → Q v' H'
def tDGetN (K : PySem.W.Frag) (td ty tx : TE) : TE := fun σ H Q => td σ H fun x H1 => (∃ (m : List Addr) (ah : AH) (l : Nat) (a : Addr) (kvs : List (Va × Va)), x = V.ref a ∧ HR K H1 m ah ∧ m[l]? = some a ∧ ah[l]? = some (AO.dtl kvs)) ∧ ty σ H1 fun y H2 => tx σ H2 fun z H3 => rDGetN K x y z H3 Q
section
variable {X : Cx} {W : WX} {o e f : Expr} {td ty tx : TE} {apos cpos : Pos} {fo fk fz : EF}
theorem pe_dgetN (hu : X.A.units + 9 < cLine) (ho : PE X o td) (he : PE X e ty) (hf : PE X f tx) (m : M2 X o "get" apos e f cpos) : PE X (.Call (.Attribute o "get" apos) [e, f] [] cpos) (tDGetN X.K td ty tx) := by
  constructor
  intro pins s σ H Q I h
  refine wpAny_Call_method m.base m.few m.line PySem.F.plainAttrs_dict PySem.F.slot_dict_get PySem.F.type_dict_get (thn (ho.run pins s σ H _ I h) ?_)
  rintro u s1 ⟨x, H1, I1, rx, ⟨m1, ah1, l, a, kvs, rfl, r1, hl, hk⟩, q1⟩
  obtain rfl : u = Value.ref a := rx
  obtain ⟨ys, g1, g2, g3, g4⟩ := r1.dtl hl hk
  have dd := dictN I1 g1 g2 g3
  refine ⟨dd.typeIs, fun b eb => ?_, ?_⟩
  · cases eb
    obtain ⟨ob, _, _, h1, h2, _⟩ := dd
    exact ⟨ob, h1, h2.2.1⟩
  rw [m.trees]
  refine Calls.callWith_builtin rfl (Calls.evalArgs_plain (Calls.spliced_cons (thn (he.run pins s1 σ H1 _ I1 q1) ?_)))
  rintro iv s2 ⟨y, H2, I2, ry, q2⟩
  refine Calls.spliced_cons (thn (hf.run pins s2 σ H2 _ I2 q2) ?_)
  rintro fv s3 ⟨z, H3, I3, rz, m3, ah3, p, q, z', w, ah', r3, rp, rq, rz', ed, kk⟩
  refine Calls.spliced_nil ?_
  unfold dgetNF at ed
  split at ed
  case h_2 => cases ed
  rename_i l3
  split at ed
  case h_2 => cases ed
  rename_i kvs3 ho3
  split at ed
  case h_2 => cases ed
  rename_i k hkk
  split at ed
  case isFalse => cases ed
  rename_i hlen
  obtain ⟨⟨ts, rfl⟩, hk1, hk2⟩ := keyN_ok hkk
  obtain ⟨b, vs, rfl, hb⟩ := vr_tup rq
  obtain rfl : iv = Value.ref b := ry
  cases rp with
  | @ref _ _ ha3 =>
  refine n_get2 hu I3 r3 ha3 ho3 ⟨hk1, hk2⟩ rq rz' rz (fun v' u' s' rv ru I' => ?_)
  cases ed
  exact ⟨v', H3, I', ru, kk H3 v' r3 .refl rv⟩
theorem me_dgetN {j : Nat} (hr : Room j X.A) (ho : ME X W o fo) (he : ME X W e fk) (hf : ME X W f fz) (m : M2 X o "get" apos e f cpos) : ME X W (.Call (.Attribute o "get" apos) [e, f] [] cpos) (eDGet2N fo fk fz) :=
  ⟨pe_imp (pe_dgetN (by have := hr.un; omega) ho.pe he.pe hf.pe m) fun σ H Q ⟨m, ah, ev, r, re, q⟩ => by
    show Wi _ _ _ _ _ _ _ _
    refine ⟨m, ah, ev, r, re, ?_⟩
    unfold eDGet2N at q
    cases eo : fo ev ah with
    | exc c p a => rw [eo] at q; exact q
    | bad => rw [eo] at q; exact q
    | ok d a =>
    rw [eo] at q
    simp only [Rs.bind_ok] at q
    intro m1 H1 x e1 r1 rx
    cases hd : isDtl d a with
    | false => rw [hd] at q; exact q.elim
    | true =>
    rw [hd, if_pos rfl] at q
    obtain ⟨l, kvs, rfl, hl⟩ := isDtl_inv hd
    cases rx with
    | @ref _ a1 ha1 =>
    refine ⟨⟨m1, a, l, a1, kvs, rfl, r1, ha1, hl⟩, ?_⟩
    show Wi _ _ _ _ _ _ _ _
    refine ⟨m1, a, ev, r1, re.ext r e1, ?_⟩
    replace q := Post.ext q e1
    cases ek : fk ev a with
    | exc c p b => rw [ek] at q; exact q
    | bad => rw [ek] at q; exact q
    | ok i b =>
    rw [ek] at q
    simp only [Rs.bind_ok] at q
    intro m2 H2 y e2 r2 ry
    show Wi _ _ _ _ _ _ _ _
    refine ⟨m2, b, ev, r2, (re.ext r e1).ext r1 e2, ?_⟩
    replace q := Post.ext q e2
    cases ez : fz ev b with
    | exc c p b => rw [ez] at q; exact q
    | bad => rw [ez] at q; exact q
    | ok z c =>
    rw [ez] at q
    simp only [Rs.bind_ok] at q
    intro m3 H3 v e3 r3 rz
    replace q := Post.ext q e3
    cases hg : dgetNF (.ref l) i z c with
    | none => rw [hg] at q; exact q.elim
    | some wa =>
    obtain ⟨w, ah'⟩ := wa
    rw [hg] at q
    have hp3 : m3[l]? = some a1 := e3.get (e2.get ha1)
    exact ⟨m3, c, .ref l, i, z, w, ah', r3, .ref hp3, ry.ext r2 e3, rz, hg, fun H' v' r' e' rv => q m3 H' v' e' r' rv⟩⟩
end
end FL

set_option Elab.async false
set_option linter.all false
set_option maxRecDepth 100000
set_option maxHeartbeats 2000000
/-! FLKD: [d[k] for k in d]: dicts with tuples as keys walked by their keys (the dict is locked meanwhile). -/
namespace FL
open PySem PySem.Spec PyProof.Rows L2
variable [Tabz]
mutual
/-- data without lists and dicts -/
def pl0 : Va → Bool
  | .non => true
  | .bl _ => true
  | .int _ => true
  | .str _ => true
  | .tup xs => pl0s xs
  | _ => false
def pl0s : List Va → Bool
  | [] => true
  | x :: xs => pl0 x && pl0s xs
end
theorem pl0s_of : ∀ {xs : List Va}, (∀ x ∈ xs, pl0 x = true) → pl0s xs = true
  | [], _ => rfl
  | x :: xs, h => by
    show (pl0 x && pl0s xs) = true
    rw [h x (List.mem_cons_self ..), pl0s_of fun y hy => h y (List.mem_cons_of_mem _ hy)]
    rfl
/-- d[k] of the locked dict -/
def eFzN (ks : Nat) (kvs : List (Va × Va)) : EF := fun ev h => match ev[ks]? with
  | some (some v) => (match keyN v with
    | some k => (match findN kvs k with | some w => .ok w h | none => .bad)
    | none => .bad)
  | _ => .bad
def eLcDN (j : Nat) (g : GF) (el : List (Va × Va) → EF) (vs : List Nat) : EF := fun ev h => match ev[j]? with
  | some (some (.ref l)) => (match h[l]? with
    | some (.dtl kvs) => if inRs 0 (kvs.map (·.1)) && inRs 0 (kvs.map (·.2)) then (if kvs.length < lim then (match compF [] g tYesF (el kvs) (ewipe (plainEv ev) vs) (kvs.map (·.1)) [] with
        | .ok ys _ => if pl0s ys then .ok (.ref h.length) (h ++ [.lst ys]) else .bad
        | _ => .bad) else .bad) else .bad
    | _ => .bad)
  | _ => .bad
abbrev Qs := List (PySem.NestedKey × Addr × Value)
/-- the keys of a locked dict -/
def Ite (d : Addr) (o : Obj) (qs : Qs) : It :=
  ⟨fun i H => H d = some (.frz o (.ext (phiN d qs))) ∧ i < qs.length, fun i H x H' => H' = H ∧ ∃ q, qs[i]? = some q ∧ x = .ref q.2.1, fun i H => H d = some (.frz o (.ext (phiN d qs))) ∧ qs.length ≤ i⟩
section
variable {K : PySem.W.Frag} {H H' : Hp} {m m' : List Addr}
def KeepU (H H' : Hp) : Prop := ∀ b o, H b = some o → (∃ xs, o = .tup xs) ∨ (∃ ob xs, o = .frz ob (.tup xs)) → H' b = some o
theorem sqT_u (e : KeepU H H') {a : Addr} {vs : List V} (h : SqT K H a vs) : SqT K H' a vs := by
  rcases h with (h | ⟨o, h⟩) | h
  · exact .inl (.inl (e _ _ h (.inl ⟨_, rfl⟩)))
  · exact .inl (.inr ⟨o, e _ _ h (.inr ⟨_, _, rfl⟩)⟩)
  · exact .inr h
mutual
theorem VR.pu (e : KeepU H H') : ∀ {x : Va} {v : V}, VR K H m x v → pl0 x = true → VR K H' m' x v
  | _, _, .non, _ => .non
  | _, _, .bl b, _ => .bl b
  | _, _, .int i, _ => .int i
  | _, _, .str x, _ => .str x
  | _, _, .rp d, p => by simp [pl0] at p
  | _, _, .ref h, p => by simp [pl0] at p
  | _, _, .tup h hs, p => .tup (sqT_u e h) (VRs.pu e hs p)
  | _, _, .rol h hs, p => by simp [pl0] at p
  | _, _, .dv h, p => by simp [pl0] at p
  | _, _, .exo a, p => by simp [pl0] at p
  | _, _, .exn h g, p => by simp [pl0] at p
theorem VRs.pu (e : KeepU H H') : ∀ {x : List Va} {v : List V}, VRs K H m x v → pl0s x = true → VRs K H' m' x v
  | _, _, .nil, _ => .nil
  | _, _, .cons h hs, p => by
    have p : (pl0 _ && pl0s _) = true := p
    rw [Bool.and_eq_true] at p
    exact .cons (VR.pu e h p.1) (VRs.pu e hs p.2)
end
theorem DtE.tr (e : KeepT H H') (p : ∀ (l : Nat) (a : Addr), m[l]? = some a → m'[l]? = some a) : ∀ {kvs : List (Va × Va)} {xs : Qs}, DtE K H m kvs xs → DtE K H' m' kvs xs
  | _, _, .nil => .nil
  | _, _, .cons h1 h2 h3 h4 h5 => .cons h1 (h2.tr e p) (h3.tr e p) h4 (DtE.tr e p h5)
theorem DtE.fr0 : ∀ {kvs : List (Va × Va)} {xs : Qs}, DtE K H m kvs xs → inRs 0 (kvs.map (·.1)) = true → inRs 0 (kvs.map (·.2)) = true → DtE K H [] kvs xs
  | _, _, .nil, _, _ => .nil
  | (p, q) :: kvs, _, .cons h1 h2 h3 h4 h5, e1, e2 => by
    rw [List.map_cons] at e1 e2
    have e1 : (inR 0 p && inRs 0 (kvs.map (·.1))) = true := e1
    have e2 : (inR 0 q && inRs 0 (kvs.map (·.2))) = true := e2
    rw [Bool.and_eq_true] at e1 e2
    exact .cons h1 (h2.fr0 e1.1) (h3.fr0 e2.1) h4 (DtE.fr0 h5 e1.2 e2.2)
theorem DtE.keyAt : ∀ {kvs : List (Va × Va)} {xs : Qs} {i : Nat} {x : Va} {q : PySem.NestedKey × Addr × Value}, DtE K H m kvs xs → (kvs.map (·.1))[i]? = some x → xs[i]? = some q → VR K H m x (.ref q.2.1)
  | _, _, 0, _, _, .cons h1 h2 h3 h4 h5, e1, e2 => by
    simp only [List.map_cons, List.getElem?_cons_zero, Option.some.injEq] at e1 e2
    subst e1 e2
    exact h2
  | _, _, i + 1, _, _, .cons h1 h2 h3 h4 h5, e1, e2 => by
    simp only [List.map_cons, List.getElem?_cons_succ] at e1 e2
    exact DtE.keyAt h5 e1 e2
  | _, _, _, _, _, .nil, e1, _ => by simp at e1
theorem ExtD.kt {D : Addr} (e : ExtD D [] H m' H') (hD : H D = none) : KeepT H H' := fun b o hb _ _ _ nt _ _ =>
  e.keep b o (fun z => by rw [z, hD] at hb; cases hb) hb (by simp) nt
end
/-- what is known of the locked dict's object -/
theorem frzN {X : Cx} {pins : List (Addr × Obj)} {σ : L2.St} {H : Hp} {s : Shared} {d : Addr} {o : Obj} {qs : Qs} (I : Inv X pins σ H s) (h : H d = some (.frz o (.ext (phiN d qs)))) :
    s.heap.get? d = some o ∧ o.ExactDict ∧ ∃ (es : Array DictEntry) (ep : Nat), o.data = .dict es ep ∧ ∀ w : World, es.toList = qs.map fun x => (⟨x.1.hash w, .ref x.2.1, x.2.2⟩ : DictEntry) := by
  obtain ⟨g1, ⟨o', es, ep, e1, e2, e3, e4⟩, _⟩ := (show ObjOk X.prog X.w H s.heap d (.frz o (.ext (phiN d qs))) from I.hok d _ h)
  rw [g1] at e1
  cases e1
  exact ⟨g1, e2, es, ep, e3, e4⟩
theorem qs_size {w : World} {es : Array DictEntry} {qs : Qs} (e : es.toList = qs.map fun x => (⟨x.1.hash w, .ref x.2.1, x.2.2⟩ : DictEntry)) : es.size = qs.length := by
  have q : es.toList.length = qs.length := by rw [e, List.length_map]
  rwa [Array.length_toList] at q
theorem turn_keysN {P : Program} {w : World} {K : PySem.W.Frag} {tg : Expr} {d : Addr} {o : Obj} {es : Array DictEntry} {ep : Nat} {qs : Qs} (it : Addr) (hod : o.data = .dict es ep) : Turn P w K tg (Ite d o qs) [it] it (fun i h => h.IsKeyIter it d i qs.length ep) where
  mem := by simp
  obj := fun i h st b hb => by
    have e : b = it := by simpa using hb
    subst e
    obtain ⟨oi, e, c, dd⟩ := st
    exact ⟨oi, e, fun v z => by rw [dd] at z; cases z⟩
  keep := fun i h h' st k => st.at fun oi e => k it (by simp) oi e
  item := by
    intro X hP hw hK hc i pins s σ H E I hf st hg
    subst hP hw hK
    obtain ⟨hd, hi⟩ := hg
    obtain ⟨f0, f1, f2, f3, f4, f5⟩ := hf it (by simp)
    obtain ⟨hgd, hx, es', ep', hdt, he⟩ := frzN I hd
    obtain ⟨rfl, rfl⟩ := dict_ep hod hdt
    obtain ⟨q, hq⟩ : ∃ q, qs[i]? = some q := ⟨qs[i], List.getElem?_eq_getElem hi⟩
    have hen : es'[i]? = some (⟨q.1.hash X.w, .ref q.2.1, q.2.2⟩ : DictEntry) := by
      rw [← Array.getElem?_toList, he X.w, List.getElem?_map, hq]
      rfl
    refine next_key_item st hgd hdt (qs_size (he X.w)) hen fun h' st' sb => ?_
    have I1 : Inv X pins σ H { s with heap := h' } := I.turned (t' := s.toks) (fun b ob hb e => (sb.2 b hb).trans e) f0 f1 f3 f4 f5
    obtain ⟨oi, e, c, dd⟩ := id st'
    exact ⟨_, rfl, go_of (s := { s with heap := h' }) e c dd (by decide) ⟨.ref q.2.1, H, I1, rfl, ⟨rfl, q, hq, rfl⟩, st', fun b hb => (hf b hb).1⟩⟩
  done := by
    intro X hP hw hK hc i pins s σ H E I hf st hg
    subst hP hw hK
    obtain ⟨hd, hi⟩ := hg
    obtain ⟨f0, f1, f2, f3, f4, f5⟩ := hf it (by simp)
    obtain ⟨hgd, hx, es', ep', hdt, he⟩ := frzN I hd
    obtain ⟨rfl, rfl⟩ := dict_ep hod hdt
    exact next_key_end (I.ok.hd hc) st hgd hdt (qs_size (he X.w)) hi fun h' eb => ⟨rfl, I.turned (t' := s.toks) (fun b ob hb e => eb b ob hb e) f0 f1 f3 f4 f5⟩
  self := fun A i s Q E st h => by
    refine wpAny_pyIter_slot st.typeIs F.slot_dict_keyiterator_iter (wpAny_call_entry F.slot_dict_keyiterator_iter st.typeIs F.entry_dict_keyiterator_iter ?_ (F.args_dict_keyiterator_iter_1 _))
    show wpAny _ _ (ret (.ref it)) _ _ s
    exact wpAny_pure ⟨_, rfl, "dict_keyiterator", _, st.typeIs, F.slot_dict_keyiterator_next.lookup, h⟩
def iKeysN (td : TE) : TI := fun σ H R => td σ H fun x H1 => ∃ d o qs, x = .ref d ∧ (d == sysModules) = false ∧ H1 d = some (.frz o (.ext (phiN d qs))) ∧ R (Ite d o qs) H1
theorem pi_keysN {X : Cx} {tg e : Expr} {td : TE} (he : PE X e td) : PI X tg e (iKeysN td) := by
  refine ⟨fun pins s σ H R I h => ?_⟩
  refine thn (he.run pins s σ H _ I h) fun u s1 ⟨x, H1, I1, rx, d, o, qs, ex, hs, hd, q⟩ => ?_
  subst ex
  obtain rfl : u = Value.ref d := rx
  obtain ⟨hgd, hx, es, ep, hdt, he2⟩ := frzN I1 hd
  refine iter_keys hs hgd hx hdt (pi_one (tk := s1.toks) I1 _ (turn_keysN _ hdt) ⟨_, Heap.get?_push_size _ rfl, rfl, ?_⟩ q)
  rw [qs_size (he2 X.w)] <;> rfl
/-- what is read of an element -/
def teDN (K : PySem.W.Frag) (mg : Str → Option Value) (j : Nat) (el : List (Va × Va) → EF) : TE := fun σ H Q => ∃ d od qs kvs, σ[j]? = some (some (V.ref d)) ∧ H d = some (.frz od (.ext (phiN d qs))) ∧ DtE K H [] kvs qs ∧ (qs.map (·.1)).Nodup ∧ Wi K mg (VR K) WN (el kvs) σ H Q
section
variable {X : Cx} {dn kn : Str} {p1 p2 pos : Pos} {j ks : Nat} {r : Expr} {g : EF}
theorem VR.nilx {K : PySem.W.Frag} {H : Hp} {m : List Addr} {x : Va} {v : V} (h : VR K H [] x v) : VR K H m x v := h.tr (fun _ _ z _ _ _ _ _ _ => z) nil_get
/-- d[k], the dict locked -/
def tFzN (K : PySem.W.Frag) (td ty : TE) : TE := fun σ H Q => td σ H fun x H1 => ty σ H1 fun y H2 => ∃ d od qs kvs m p q k b, x = .ref d ∧ y = .ref b ∧ H2 d = some (.frz od (.ext (phiN d qs))) ∧ DtE K H2 m kvs qs ∧ (qs.map (·.1)).Nodup ∧ (nk p = some k ∧ k.depth ≤ 8) ∧ VR K H2 m p (.ref b) ∧ findN kvs k = some q ∧ ∀ v, VR K H2 m q v → Q v H2
theorem pe_fzN0 {o i : Expr} {td ty : TE} (hu : X.A.units + 9 < cLine) (ho : PE X o td) (hi : PE X i ty) (hs : NoSl i) : PE X (.Subscript o i pos) (tFzN X.K td ty) := by
  refine ⟨fun pins s σ H Q I h => ?_⟩
  refine subD_of PySem.F.slot_dict_getitem.lookup hs (thn (ho.run pins s σ H _ I h) fun u s1 ⟨x, H1, I1, rx, q1⟩ => thn (hi.run pins s1 σ H1 _ I1 q1) fun iv s2 ⟨y, H2, I2, ry, d, od, qs, kvs, m, p, q, k, b, ex, ey, hd, hdt, hn, hk, rp, hf, q2⟩ => ?_)
  subst ex ey
  obtain rfl : u = Value.ref d := rx
  obtain rfl : iv = Value.ref b := ry
  obtain ⟨hgd, hx, es, ep, hdd, he⟩ := frzN I2 hd
  have dd : s2.heap.DictOfH (PySem.nestedKind X.prog X.w) d qs := ⟨od, es, ep, hgd, hx, hdd, he X.w, fun x hx => by
    obtain ⟨p, hp, hd, hv⟩ := hdt.key x hx
    exact ⟨nk_is I2 p hp hv rfl, hd⟩, hn⟩
  have z := hdt.find k
  rw [hf] at z
  cases e : atKey qs k with
  | none => rw [e] at z; exact z.elim
  | some bu =>
    rw [e] at z
    obtain ⟨v, z1, z2⟩ := z
    exact ⟨dd.typeIs, wpAny_getItem_heap (knd := PySem.nestedKind X.prog X.w) (by show X.A.units + 1 + 8 < cLine; omega) ⟨nk_is I2 p hk.1 rp rfl, hk.2⟩ dd e ⟨v, H2, I2.tok _, z2, q2 v z1⟩⟩
theorem pe_fzN {n : Nat} (hr : Room n X.A) (hj : X.N[j]? = some dn := by rfl) (hk : X.N[ks]? = some kn := by rfl) (hv1 : Vis X.env.scope dn := by first | exact Or.inl rfl | exact Or.inr (Or.inl rfl) | exact Or.inr (Or.inr rfl)) (hv2 : Vis X.env.scope kn := by first | exact Or.inl rfl | exact Or.inr (Or.inl rfl) | exact Or.inr (Or.inr rfl))
    (hd1 : (dn == ("__debug__" : Str)) = false := by decide) (hc1 : (dn == ("__classdict__" : Str)) = false := by decide) (hd2 : (kn == ("__debug__" : Str)) = false := by decide) (hc2 : (kn == ("__classdict__" : Str)) = false := by decide) (hs : NoSl (.Name kn p2) := by exact fun _ _ => rfl) :
    PE X (.Subscript (.Name dn p1) (.Name kn p2) pos) (teDN X.K X.mg j (eFzN ks)) :=
  pe_imp (pe_fzN0 (by have := hr.un; omega) (pe_var hj hv1 hd1 hc1) (pe_var hk hv2 hd2 hc2) hs) fun σ H Q ⟨d, od, qs, kvs, h1, h2, hdt, hnd, m, ah, ev, rH, re, q⟩ => by
    unfold eFzN at q
    split at q
    case h_2 => exact q.elim
    rename_i x hk'
    split at q
    case h_2 => exact q.elim
    rename_i k hkn
    split at q
    case h_2 => exact q.elim
    rename_i y hf
    obtain ⟨w, hw1, hw2⟩ := re.get ks _ hk'
    obtain ⟨⟨ts, rfl⟩, hk1, hk2⟩ := keyN_ok hkn
    obtain ⟨b, vs, rfl, hb⟩ := vr_tup hw2
    have hdm : DtE X.K H m kvs qs := hdt.tr (fun _ _ z _ _ _ _ _ _ => z) nil_get
    exact ⟨.ref d, h1, .ref b, hw1, d, od, qs, kvs, m, _, y, k, b, rfl, rfl, h2, hdm, hnd, ⟨hk1, hk2⟩, hw2, hf, fun v hv => q m H v .refl rH hv⟩
end
section
variable {X : Cx} {W : WX} {tg elt : Expr} {scope : Scope} {own : List (Str × Nat)} {pos np : Pos} {g : GF} {el : List (Va × Va) → EF} {j : Nat} {n : Str}
theorem lc_keysN {σ : L2.St} {H1 : Hp} {Q : V → Hp → Prop} {d : Addr} {od : Obj} {qs : Qs} {kvs : List (Va × Va)} {ev : Ev} (hσ : σ[j]? = some (some (V.ref d))) (hj : j ∉ own.map (·.2)) (hsys : (d == sysModules) = false) (hfd : H1 d = some (.frz od (.ext (phiN d qs)))) (hdt : DtE X.K H1 [] kvs qs) (hnd : (qs.map (·.1)).Nodup) (r1 : HR X.K H1 [] []) (re : ER X.K H1 [] ev σ) (hlim : kvs.length < lim)
    (q : Post X.K X.mg (VR X.K) [] H1 (fun _ _ _ => False) ((compF [] g tYesF (el kvs) (ewipe ev (own.map (·.2))) (kvs.map (·.1)) []).bind fun ys h2 => .ok (.ref h2.length) (h2 ++ [.lst ys])) Q) :
    tLc (iKeysN (tVar j)) (WiG X.K (own.map (·.2)) g) (Wi X.K X.mg RB WN tYesF) (teDN X.K X.mg j el) (own.map (·.2)) σ H1 Q := by
  refine ⟨.ref d, hσ, d, od, qs, rfl, hsys, hfd, ?_⟩
  intro D hD
  have hDd : d ≠ D := fun z => by rw [z, hD] at hfd; cases hfd
  generalize hev0 : ewipe ev (own.map (·.2)) = ev0 at q
  have e0 : Ext [] H1 [] (upd H1 D (.lst [])) := ext_new r1 hD
  have re0 : ER X.K (upd H1 D (.lst [])) [] ev0 (wipe σ (own.map (·.2))) := by
    rw [← hev0]
    exact (re.ext r1 e0).wipe _
  have fz : ∀ {m2 : List Addr} {H2 : Hp}, ExtD D [] H1 m2 H2 → H2 d = some (.frz od (.ext (phiN d qs))) := fun e => e.keep d _ hDd hfd (by simp)
  have dz : ∀ {m2 : List Addr} {H2 : Hp}, ExtD D [] H1 m2 H2 → DtE X.K H2 [] kvs qs := fun e => hdt.tr (e.kt hD) nil_get
  have pl : qs.length = kvs.length := hdt.length.symm
  have kl : (kvs.map (·.1)).length = kvs.length := by rw [List.length_map]
  generalize hkI : kvs.map (·.1) = kI at q kl
  refine ⟨fun i k H2 => ∃ m2 ah2 acc vacc, ExtD D [] H1 m2 H2 ∧ HR X.K H2 m2 ah2 ∧ ER X.K H2 m2 ev0 (wipe σ (own.map (·.2))) ∧ VRs X.K H2 m2 acc vacc ∧ H2 D = some (.lst vacc) ∧ D ∉ m2 ∧ acc.length ≤ i ∧ k = kI.length - i ∧ i ≤ kI.length ∧
    Post X.K X.mg (VR X.K) [] H1 (fun _ _ _ => False) ((compF [] g tYesF (el kvs) ev0 (kI.drop i) ah2).bind fun ys h2 => .ok (.ref h2.length) (h2 ++ [.lst (acc ++ ys)])) (fun w H' => Q w H'), ?_, ?_⟩
  · refine ⟨_, [], [], [], [], ExtD.start, hr_new r1 hD, re0, .nil, upd_same, by simp, Nat.le_refl _, rfl, Nat.zero_le _, ?_⟩
    simpa using q
  rintro i k H2 ⟨m2, ah2, acc, vacc, e2, r2, re2, rv2, hD2, hn2, hle2, rfl, hi2, q2⟩
  have hf2 := fz e2
  cases hi : kI.drop i with
  | nil =>
    rw [hi] at q2
    unfold compF at q2
    split at q2
    · have hlen : i = kI.length := by
        have := List.drop_eq_nil_iff.mp hi
        omega
      subst hlen
      refine .inl ⟨⟨hf2, by rw [pl, kl]; exact Nat.le_refl _⟩, ?_⟩
      simp only [Rs.bind_ok, List.append_nil] at q2
      exact q2 (m2 ++ [D]) H2 (.ref D) (e2.done hD) (r2.take_in hn2 hD2 rv2) (.ref (by rw [← r2.len]; simp))
    · exact q2.elim
  | cons x xs =>
    rw [hi] at q2
    unfold compF at q2
    split at q2
    case isFalse => exact q2.elim
    have hlt : i < kI.length := by
      rcases Nat.lt_or_ge i kI.length with z | z
      · exact z
      · rw [List.drop_eq_nil_of_le z] at hi; cases hi
    have hx : kI[i]? = some x := by
      have := List.getElem?_drop (xs := kI) (i := i) (j := 0)
      rw [hi] at this
      simpa using this.symm
    have hxs : kI.drop (i + 1) = xs := by
      rw [← List.tail_drop, hi]; rfl
    refine .inr ⟨⟨hf2, by rw [pl, ← kl]; exact hlt⟩, fun H' => ∃ m' ah' acc' vacc', ExtD D [] H1 m' H' ∧ HR X.K H' m' ah' ∧ ER X.K H' m' ev0 (wipe σ (own.map (·.2))) ∧ VRs X.K H' m' acc' vacc' ∧ H' D = some (.lst vacc') ∧ D ∉ m' ∧ acc'.length ≤ i + 1 ∧
      Post X.K X.mg (VR X.K) [] H1 (fun _ _ _ => False) ((compF [] g tYesF (el kvs) ev0 xs ah').bind fun ys h2 => .ok (.ref h2.length) (h2 ++ [.lst (acc' ++ ys)])) (fun w H' => Q w H'), ?_, ?_⟩
    · rintro H' ⟨m', ah', acc', vacc', e3, r3, re3, rv3, hD3, hn3, hle3, q3⟩
      exact ⟨_, by omega, m', ah', acc', vacc', e3, r3, re3, rv3, hD3, hn3, hle3, rfl, by omega, by rw [hxs]; exact q3⟩
    · rintro y H3 ⟨e3, qk, hk', rfl⟩
      obtain rfl : H2 = H3 := e3.symm
      have ry : VR X.K H2 m2 x (.ref qk.2.1) := by
        rw [← hkI] at hx
        exact ((dz e2).keyAt hx hk').nilx
      cases hg' : g x ev0 with
      | none => simp only [hg'] at q2; exact q2.elim
      | some ev1 =>
      simp only [hg'] at q2
      refine ⟨m2, x, ev0, ev1, re2, ry, hg', fun σ' re' hu hul => ⟨wipe_of (by rw [hul, wipe_length]) hu, m2, ah2, ev1, r2, re', ?_⟩⟩
      intro m4 H4 b' e4 r4 hb'
      cases hb'
      have hD4 := e4.keep D _ hD2 hn2
      have hn4 : D ∉ m4 := fun z => by
        rcases e4.new D z hn2 with this | ⟨_, this⟩ <;> (rw [hD2] at this; cases this)
      have eD4 : ExtD D [] H1 m4 H4 := e2.then e4 ⟨_, hD2⟩ hn2
      have ht' : tYesF ev1 ah2 = .ok true ah2 := rfl
      simp only [ht'] at q2
      show teDN X.K X.mg j el σ' H4 _
      have hσ' : σ'[j]? = some (some (V.ref d)) := by rw [hu j hj, wipe_out hj]; exact hσ
      refine ⟨d, od, qs, kvs, hσ', fz eD4, dz eD4, hnd, m4, ah2, ev1, r4, re'.ext r2 e4, ?_⟩
      cases he' : el kvs ev1 ah2 with
      | exc c p h3 => simp only [he'] at q2; exact q2.elim
      | bad => simp only [he'] at q2; exact q2.elim
      | ok z h3 =>
        simp only [he'] at q2
        intro m5 H5 w e5 r5 rw5
        have hD5 := e5.keep D _ hD4 hn4
        have hn5 : D ∉ m5 := fun z => by
          rcases e5.new D z hn4 with this | ⟨_, this⟩ <;> (rw [hD4] at this; cases this)
        have eD5 : ExtD D [] H1 m5 H5 := eD4.then e5 ⟨_, hD4⟩ hn4
        have rv5 := (rv2.ext r2 e4).ext r4 e5
        have off := off_upd (H := H5) (D := D) (us := vacc ++ [w]) hD5
        have hls := rv2.length
        have hl := lim_line (show kI.length ≤ lim by omega)
        have hnb : ∀ b, b ∈ m5 → upd H5 D (.lst (vacc ++ [w])) b = H5 b := fun b hb => upd_ne fun z => hn5 (z ▸ hb)
        have hls2 : lim < sizeLine := by rw [sizeLine_eq]; decide
        refine ⟨vacc, hD5, by omega, m5, h3, acc ++ [z], vacc ++ [w], eD5.upd, r5.off off hnb, ?_, (rv5.off off).append (.cons (rw5.off off) .nil), upd_same, hn5, by simp; omega, ?_⟩
        · have := (re2.ext r2 e4).ext r4 e5
          refine ⟨this.len, fun j v hj => ?_⟩
          obtain ⟨u, hu1, hu2⟩ := this.get j v hj
          exact ⟨u, hu1, hu2.off off⟩
        · have e9 : ((compF [] g tYesF (el kvs) ev0 xs h3).bind fun ys h2 => Rs.ok (Va.ref h2.length) (h2 ++ [.lst (acc ++ [z] ++ ys)])) = (((compF [] g tYesF (el kvs) ev0 xs h3).bind fun ys h4 => .ok (z :: ys) h4).bind fun ys h2 => .ok (Va.ref h2.length) (h2 ++ [.lst (acc ++ ys)])) := by
            cases compF [] g tYesF (el kvs) ev0 xs h3 with
            | ok ys h4 => simp [Rs.bind_ok]
            | exc c p h4 => rfl
            | bad => rfl
          rw [e9]
          exact q2
theorem me_lcDN (own : List (Str × Nat)) (hc : X.calm = true) (hN : X.N.Nodup) (hj : X.N[j]? = some n) (ok : BlkOk X.N X.env.scope scope own)
    (hg : ∀ (s : Shared) (H : Hp) (C : Addr) (cl : List (Str × Addr)) (fp : List Addr), MG (X.blk s H scope (compEnvC scope cl C X.env) fp) tg (own.map (·.2)) g)
    (he : ∀ (s : Shared) (H : Hp) (C : Addr) (cl : List (Str × Addr)) (fp : List Addr), PE (X.blk s H scope (compEnvC scope cl C X.env) fp) elt (teDN X.K X.mg j el)) (hjo : j ∉ own.map (·.2) := by decide) (hs : ∀ x, foldedSetIterable (.Name n np) X.env x = pure x := by intro _; rfl)
    (hnv : Vis X.env.scope n := by first | exact Or.inl rfl | exact Or.inr (Or.inl rfl) | exact Or.inr (Or.inr rfl)) (hd : (n == ("__debug__" : Str)) = false := by decide) (hcd : (n == ("__classdict__" : Str)) = false := by decide) :
    ME X W (.ListComp elt [⟨tg, .Name n np, [], 0⟩] scope pos) (eLcDN j g el (own.map (·.2))) :=
  ⟨pe_imp (pe_lock (pe_lc (g := WiG X.K (own.map (·.2)) g) (tt := Wi X.K X.mg RB WN tYesF) hc hN (pi_keysN (pe_var hj hnv hd hcd)) ok (fun s H C cl fp => (hg s H C cl fp).pg) (fun s H C cl fp => (mts_nil (W := WN)).pts) he hs)) fun σ H Q q => by
    obtain ⟨m, ah, ev, r, re, q⟩ := q
    unfold eLcDN at q
    split at q
    case h_2 => exact q.elim
    rename_i k hk
    split at q
    case h_2 => exact q.elim
    rename_i kvs hkv
    split at q
    case isFalse => exact q.elim
    rename_i hpl
    rw [Bool.and_eq_true] at hpl
    split at q
    case isFalse => exact q.elim
    rename_i hlen
    split at q
    case h_2 => exact q.elim
    rename_i ys hgar hcomp
    split at q
    case isFalse => exact q.elim
    rename_i hys
    obtain ⟨w, hw1, hw2⟩ := re.get j _ hk
    cases hw2 with
    | @ref _ d hmd =>
    obtain ⟨qs, g1, g2, g3, g4⟩ := r.dtl hmd hkv
    refine ⟨d, .ext (phiN d qs), g1, True.intro, fun od => ?_⟩
    have kT : KeepT H (upd H d (.frz od (.ext (phiN d qs)))) := fun b o hb _ _ _ _ h5 _ => by
      rw [upd_ne (fun z => by rw [z, g1] at hb; cases hb; exact h5 _ rfl)]
      exact hb
    have g2' : DtE X.K (upd H d (.frz od (.ext (phiN d qs)))) [] kvs qs := (g2.fr0 hpl.1 hpl.2).tr kT nil_get
    refine lc_keysN (ev := plainEv ev) (kvs := kvs) (qs := qs) hw1 hjo g4 upd_same g2' g3 ⟨rfl, List.nodup_nil, fun l a o h1 _ => by simp at h1, tabs_upd r.tb (r.noT (List.mem_of_getElem? hmd))⟩ (er_plain re kT) hlen ?_
    rw [hcomp, Rs.bind_ok]
    intro m1 H1 w1 e1 r1 rw1
    have hfd : H1 d = some (.frz od (.ext (phiN d qs))) := e1.keep d _ upd_same (by simp)
    refine ⟨hfd, ?_⟩
    cases rw1 with
    | @ref _ Dn hDn =>
    obtain ⟨vs', gD, hvs⟩ := r1.lst hDn (by simp : (hgar ++ [AO.lst ys])[hgar.length]? = some (.lst ys))
    have hDd : Dn ≠ d := fun z => by rw [z, hfd] at gD; cases gD
    have hHD : H Dn = none ∨ ∃ ps, H Dn = some (.tbl ps) := by
      have h1 := e1.new Dn (List.mem_of_getElem? hDn) (by simp)
      rw [upd_ne hDd] at h1
      exact h1
    have hDm : Dn ∉ m := r.notnew hHD
    have ex : Ext m H (m ++ [Dn]) (upd H1 d (.ext (phiN d qs))) := by
      refine ⟨⟨[Dn], rfl⟩, fun b o hb hn nt => ?_, fun a h1 h2 => ?_⟩
      · have hbd : b ≠ d := fun z => hn (by rw [z]; exact List.mem_of_getElem? hmd)
        rw [upd_ne hbd]
        exact e1.keep b o (by rw [upd_ne hbd]; exact hb) (by simp) nt
      · rcases List.mem_append.mp h1 with z | z
        · exact absurd z h2
        · rw [List.mem_singleton.mp z]; exact hHD
    have kT2 : ∀ b o, H1 b = some o → b ≠ d → upd H1 d (.ext (phiN d qs)) b = some o := fun b o hb hn => by
      rw [upd_ne hn]; exact hb
    have rn : HR X.K (upd H1 d (.ext (phiN d qs))) (m ++ [Dn]) (ah ++ [.lst ys]) := by
      refine ⟨by simp [r.len], ?_, fun l a o h1 h2 => ?_, tabs_upd r1.tb (fun u z => by rw [hfd] at z; cases z; exact ⟨fun _ z => (nomatch z), fun _ _ z => by unfold LamX.CodeO at z; cases z⟩)⟩
      · rw [List.nodup_append]
        refine ⟨r.nd, by simp, fun a ha b hb z => ?_⟩
        rw [List.mem_singleton.mp hb] at z
        exact hDm (z ▸ ha)
      · by_cases hl : l < m.length
        · rw [List.getElem?_append_left hl] at h1
          rw [List.getElem?_append_left (by rw [← r.len]; exact hl)] at h2
          refine (r.at_ l a o h1 h2).ext r ex ?_
          by_cases had : a = d
          · rw [had, upd_same, g1]
          · rw [upd_ne had]
            cases ha : H a with
            | none => exact absurd (List.mem_of_getElem? h1) (r.notnone ha)
            | some oa => exact e1.keep a oa (by rw [upd_ne had]; exact ha) (by simp) (r.noT (List.mem_of_getElem? h1) oa ha).1
        · have hb := (List.getElem?_eq_some_iff.mp h1).1
          have hl2 : l = m.length := by simp at hb; omega
          subst hl2
          rw [List.getElem?_append_right (Nat.le_refl _)] at h1
          rw [List.getElem?_append_right (by rw [← r.len]; exact Nat.le_refl _), ← r.len] at h2
          simp at h1 h2
          subst h1 h2
          have kT3 : KeepU H1 (upd H1 d (.ext (phiN d qs))) := fun b o hb ho => kT2 b o hb fun hbd => by
            rw [hbd, hfd] at hb
            cases hb
            rcases ho with ⟨_, z⟩ | ⟨_, _, z⟩ <;> cases z
          exact ⟨vs', by rw [upd_ne hDd]; exact gD, hvs.pu kT3 hys⟩
    exact q (m ++ [Dn]) _ _ ex rn (.ref (by rw [← r.len]; simp))⟩
end
end FL

set_option Elab.async false
set_option linter.all false
set_option maxRecDepth 100000
set_option maxHeartbeats 2000000
/-! FLXD: an empty dict is in no tuple of tuples; a list with something in it is not the empty list, whatever it holds. -/
namespace FL
open PySem PySem.Spec PyProof.Rows L2 PySem.W PySem.SeqAt PySem.Calls
variable [Tabz]
theorem tuple_declines_dict (l b : Addr) (items : Array Value) (es : Array DictEntry) (n ep : Nat) (dd dd2 : Option Addr) (sl sl2 : Array (Option Value)) :
    Meets (Builtin.«tuple.__eq__» ⟨[.ref l, .ref b], []⟩) (fun _ R s => s.heap.get? l = some { cls := .type "tuple", dict := dd, data := .seq items n, slots := sl } ∧ s.heap.get? b = some { cls := .type "dict", dict := dd2, data := .dict es ep, slots := sl2 } ∧ R (.ok (.ret .notImplemented)) s) :=
  .of_wp fun prog w A R s h => by obtain ⟨hp, g, d, tk, os⟩ := s; obtain ⟨hl, hb, h⟩ := h; have f1 := F.sub_dict_tuple; wp_walk using wpAny_loadPart' hl, wpAny_loadPart' hb; exact ⟨_, rfl, h⟩
section
variable {A : Around} {s : Shared} {l b : Addr} {items : Array Value} {es : Array DictEntry} {ep : Nat}
theorem ne_tuple_dict (hl : s.heap.IsTuple l items) (hb : ∃ o, s.heap.get? b = some o ∧ o.ExactDict ∧ o.data = .dict es ep) : l ≠ b := fun e => by
  subst e
  obtain ⟨o, ho, hc, _⟩ := hl
  obtain ⟨o2, ho2, hc2, _⟩ := hb
  rw [ho] at ho2
  cases ho2
  have := hc2.1
  rw [hc] at this
  exact absurd this (by simp)
theorem rc_tuple_dict (hl : s.heap.IsTuple l items) (hb : ∃ o, s.heap.get? b = some o ∧ o.ExactDict ∧ o.data = .dict es ep) (hu : A.units < cLine) : RcAt A s (.ref l) (.ref b) false := fun prog w E Q h => by
  have hne := ne_tuple_dict hl hb
  obtain ⟨⟨cls, dd, data, sl⟩, ho, hc, n, hd⟩ := id hl
  obtain ⟨⟨cls2, dd2, data2, sl2⟩, ho2, hx2, hd2⟩ := id hb
  have hc2 := hx2.1
  simp only at hc hd hc2 hd2
  subst hc hd hc2 hd2
  have hT : s.TypeIs (.ref b) "dict" := ⟨_, ho2, rfl⟩
  exact (rc_eq_decline_or (k := false) ⟨_, ho, rfl⟩ hT (by decide) F.sub_dict_tuple F.slot_tuple_eq F.slot_dict_eq_refl
    (fun _ hq => call_meets F.slot_tuple_eq ⟨_, ho, rfl⟩ F.entry_tuple_eq (F.args_tuple_eq_2 _ _) (tuple_declines_dict l b items es n ep dd dd2 sl sl2) ⟨ho, ho2, hq⟩)
    (fun _ hq => by
      refine wpAny_call_entry PySem.F.slot_dict_eq_refl hT PySem.F.entry_dict_eq ?_ (PySem.F.args_dict_eq_2 _ _)
      show wpAny _ _ (Builtin.Dict.dictSlotArgs "__eq__" ⟨[.ref b, .ref l], []⟩ >>= _) _ _ s
      refine wpAny_bind ?_
      unfold Builtin.Dict.dictSlotArgs
      refine wpAny_bind (wpAny_notOrdered_dict hT ?_)
      show wpAny _ _ (pure (Value.ref b, Value.ref l)) _ _ s
      refine wpAny_pure ?_
      refine wpAny_bind (wpAny_isInstance (T := "tuple") ⟨_, ho, rfl⟩ PySem.F.sub_tuple_dict ?_)
      simp only [Bool.not_false, if_true]
      refine wpAny_bind (wpAny_rule ?_)
      refine wpAny_pure ?_
      exact ⟨_, rfl, hq⟩)
    (fun _ hq => wpAny_isSame_ref_other' hne ho ho2 (by simp) hq) (.inr hu) h)
theorem eqAt_tuple_dict (hl : s.heap.IsTuple l items) (hb : ∃ o, s.heap.get? b = some o ∧ o.ExactDict ∧ o.data = .dict es ep) (hu : A.units < cLine) : EqAt A s (.ref l) (.ref b) false :=
  .of_refs (ne_tuple_dict hl hb) (rc_tuple_dict hl hb hu)
end
def isTup : Va → Bool
  | .tup _ => true
  | _ => false
/-- x not in ys; an empty dict is in no tuple of tuples -/
def oNotInX : Op2 := fun p q h => match p with
  | .ref l => (match h[l]? with
    | some (.dct []) => (match q with
      | .tup xs => if xs.all isTup then some (.bl true, h) else none
      | _ => none)
    | _ => oNotIn p q h)
  | _ => oNotIn p q h
/-- x == y; a list with something in it is not the empty one -/
def oEqX : Op2 := fun p q h => match p with
  | .ref a => (match q with
    | .ref b => (match lstAt h a with
      | some (x :: xs) => (match lstAt h b with
        | some [] => some (.bl false, h)
        | _ => oEq2 p q h)
      | _ => oEq2 p q h)
    | _ => oEq2 p q h)
  | _ => oEq2 p q h
section
variable {X : Cx}
theorem op_oNotInX {k : Nat} (hr : Room k X.A) : OpR X (compareOp .NotIn) (rO X.K oNotInX) := by
  intro pins s σ H x y v u Q I rx ry h
  obtain ⟨m, ah, p, q, z, ah', r, rp, rq, e, kk⟩ := h
  have base := op_oNotIn (X := X) hr
  have hu := hr.un
  unfold oNotInX at e
  split at e
  case h_2 => exact base pins s σ H x y v u Q I rx ry ⟨m, ah, _, _, z, ah', r, rp, rq, e, kk⟩
  rename_i l
  split at e
  case h_2 => exact base pins s σ H x y v u Q I rx ry ⟨m, ah, _, _, z, ah', r, rp, rq, e, kk⟩
  rename_i hl
  split at e
  case h_2 => cases e
  rename_i xs
  split at e
  case isFalse => cases e
  rename_i hall
  cases e
  cases rp with
  | @ref _ a ha =>
  obtain rfl : v = Value.ref a := rx
  obtain ⟨ps, g1, g2⟩ := r.dct ha hl
  obtain ⟨_, hsys, vs, kv, dd⟩ := dk_of I.hok g1
  obtain ⟨b, ws, rfl, hb, hbs⟩ := vr_tup rq
  obtain rfl : u = Value.ref b := ry
  obtain ⟨its, r1, ht, _⟩ := I.tuple hb
  obtain ⟨o, es, ep, h1, h2, h3, _⟩ := id dd
  refine notIn_tupleAt (fun _ => false) ht (fun y hy => ?_) ?_
  · have key : ∀ (xs : List Va) (ws : List V) (its : List Value), VRs X.K H m xs ws → Vals ws its → xs.all isTup = true → ∀ y ∈ its, EqAt X.A.in1 s y (.ref a) false := by
      intro xs
      induction xs with
      | nil =>
        intro ws its h1 h2 _ y hy
        cases h1
        cases h2
        cases hy
      | cons x xs ih =>
        intro ws its g1 g2 g3 y hy
        rw [List.all_cons, Bool.and_eq_true] at g3
        cases g1 with
        | cons q1 q2 =>
        cases g2 with
        | cons t1 t2 =>
        rcases List.mem_cons.mp hy with rfl | hy
        · cases x with
          | tup zs =>
            obtain ⟨c, us, rfl, hc, _⟩ := vr_tup q1
            obtain rfl : y = Value.ref c := t1
            obtain ⟨its2, _, ht2, _⟩ := I.tuple hc
            exact eqAt_tuple_dict ht2 ⟨o, h1, h2, h3⟩ (by show X.A.units + 1 < cLine; omega)
          | _ => simp [isTup] at g3
        · exact ih _ _ q2 t2 g3.2 y hy
    exact key xs ws its hbs r1 hall y (by simpa using hy)
  · have : (!its.toArray.any fun _ => false) = true := by simp
    rw [this]
    exact ⟨.bl true, H, I, rfl, kk m H _ .refl r (.bl _)⟩
theorem op_oEqX {k : Nat} (hr : Room k X.A) : OpR X (compareOp .Eq) (rO X.K oEqX) := by
  intro pins s σ H x y v u Q I rx ry h
  obtain ⟨m, ah, p, q, z, ah', r, rp, rq, e, kk⟩ := h
  have base := op_oEq2 (X := X) hr
  have hu := hr.un
  unfold oEqX at e
  split at e
  case h_2 => exact base pins s σ H x y v u Q I rx ry ⟨m, ah, _, _, z, ah', r, rp, rq, e, kk⟩
  rename_i a
  split at e
  case h_2 => exact base pins s σ H x y v u Q I rx ry ⟨m, ah, _, _, z, ah', r, rp, rq, e, kk⟩
  rename_i b
  split at e
  case h_2 => exact base pins s σ H x y v u Q I rx ry ⟨m, ah, _, _, z, ah', r, rp, rq, e, kk⟩
  rename_i w ws hla
  split at e
  case h_2 => exact base pins s σ H x y v u Q I rx ry ⟨m, ah, _, _, z, ah', r, rp, rq, e, kk⟩
  rename_i hlb
  cases e
  cases rp with
  | @ref _ a1 ha =>
  cases rq with
  | @ref _ b1 hb =>
  obtain rfl : v = Value.ref a1 := rx
  obtain rfl : u = Value.ref b1 := ry
  obtain ⟨vs, g1, g2⟩ := r.lst ha (lstAt_some hla)
  obtain ⟨us, g3, g4⟩ := r.lst hb (lstAt_some hlb)
  cases g4
  obtain ⟨_, its, n, t1, t2⟩ := (show ObjOk X.prog X.w H s.heap a1 (.lst vs) from I.hok a1 _ g1)
  obtain ⟨_, its2, n2, t3, t4⟩ := (show ObjOk X.prog X.w H s.heap b1 (.lst []) from I.hok b1 _ g3)
  cases t3
  cases g2 with
  | cons q1 q2 =>
  cases t1 with
  | cons w1 w2 =>
  exact eq_list_lengthsAt ⟨_, t2, rfl, n, rfl⟩ ⟨_, t4, rfl, n2, rfl⟩ (by simp) (by omega) ⟨.bl false, H, I, rfl, kk m H _ .refl r (.bl _)⟩
end
end FL

set_option Elab.async false
set_option linter.all false
set_option maxRecDepth 100000
set_option maxHeartbeats 4000000
namespace FL
open PySem PySem.Spec PyProof.Rows L2
def b_is_integer : SF := sSeq (sIf (tOr (tNot (tB (eIsi "int" (eVar 0)))) (tB (eIsi "bool" (eVar 0)))) (sRet (eC (.bl false))) (sNil)) (sRet (eAnd (eOr (eOp (oIs false) (eVar 1) (eC .non)) (eOp oGe (eVar 0) (eVar 1))) (eOr (eOp (oIs false) (eVar 2) (eC .non)) (eOp oLe (eVar 0) (eVar 2)))))
def m_is_integer : List Va → AH → Rs Va := fnF 3 3 b_is_integer

def b_shortest_sums : SF := sSeq (sSet 2 (eLc (iOf (aCons (eVar 0) (aNil)) srcR) (gNm 3) (tYesF) (eLc (iOf (aCons (eVar 0) (aNil)) srcR) (gNm 4) (tYesF) (eIf (tB (eOp oEq2 (eVar 3) (eVar 4))) (eC (.int 0)) (eC .non)) [4]) [3])) (sSeq (sFor (iOf1 (eVar 1) srcOf) (gTp (gCs (gNm 3) (gCs (gNm 4) (gCs (gNm 5) (gNl))))) (sIf (tOr (tB (eOp (oIs false) (eOp oIx (eOp oIx (eVar 2) (eVar 3)) (eVar 4)) (eC .non))) (tB (eOp oLt (eVar 5) (eOp oIx (eOp oIx (eVar 2) (eVar 3)) (eVar 4))))) (sSetIx (eOp oIx (eVar 2) (eVar 3)) (eVar 4) (eVar 5)) (sNil))) (sSeq (sFor (iOf (aCons (eVar 0) (aNil)) srcR) (gNm 6) (sFor (iOf (aCons (eVar 0) (aNil)) srcR) (gNm 3) (sFor (iOf (aCons (eVar 0) (aNil)) srcR) (gNm 4) (sSeq (sPar3 7 8 9 (aCons (eOp oIx (eOp oIx (eVar 2) (eVar 3)) (eVar 6)) (aCons (eOp oIx (eOp oIx (eVar 2) (eVar 6)) (eVar 4)) (aCons (eOp oIx (eOp oIx (eVar 2) (eVar 3)) (eVar 4)) (aNil))))) (sIf (tAnd (tB (eOp (oIs true) (eVar 7) (eC .non))) (tAnd (tB (eOp (oIs true) (eVar 8) (eC .non))) (tOr (tB (eOp (oIs false) (eVar 9) (eC .non))) (tB (eOp oLt (eOp oAdd (eVar 7) (eVar 8)) (eVar 9)))))) (sSetIx (eOp oIx (eVar 2) (eVar 3)) (eVar 4) (eOp oAdd (eVar 7) (eVar 8))) (sNil)))))) (sRet (eAp oTuple (aCons (eLc (iOf1 (eVar 2) srcOf) (gNm 10) (tYesF) (eAp oTuple (aCons (eVar 10) (aNil))) [10]) (aNil))))))
def m_shortest_sums : List Va → AH → Rs Va := fnF 11 2 b_shortest_sums

def b__law_stream : SF := sSeq (sSet 2 (eOp oAdd (eOp oMul2 (eC (.int 5)) (eVar 1)) (eC (.int 3)))) (sSeq (sIf (tB (eOp oLt (eVar 1) (eAp oLen (aCons (eVar 0) (aNil))))) (sSet 2 (eOp oIx (eVar 0) (eVar 1))) (sNil)) (sSeq (sSet 3 (eOp oMod (eAp oAbs (aCons (eVar 2) (aNil))) (eOp oPow (eOp oPow (eC (.int 10)) (eC (.int 60))) (eC (.int 12))))) (sRet (eAp oLst (aCons (eAp oMax2 (aCons (eC (.int 0)) (aCons (eOp oSub (eVar 3) (eOp oPow (eC (.int 10)) (eC (.int 17)))) (aNil)))) (aCons (eOp oMod (eOp oAdd (eOp oAdd (eOp oAdd (eOp oMul2 (eVar 3) (eC (.int 9576890767))) (eOp oMul2 (eC (.int 611953)) (eVar 1))) (eOp oMul2 (eC (.int 2)) (eAp oInt (aCons (eOp oLt (eVar 2) (eC (.int 0))) (aNil))))) (eC (.int 7))) (eC (.int 4294967291))) (aCons (eC (.int 0)) (aNil))))))))
def m__law_stream : List Va → AH → Rs Va := fnF 4 2 b__law_stream

def b__law_draw : SF := sSeq (sIf (tB (eOp oGt (eOp oIx (eVar 0) (eC (.int 0))) (eC (.int 0)))) (sSeq (sSet 5 (eOp oMod (eOp oIx (eVar 0) (eC (.int 0))) (eVar 1))) (sSeq (sSetIx (eVar 0) (eC (.int 0)) (eOp oFdiv (eOp oIx (eVar 0) (eC (.int 0))) (eVar 1))) (sRet (eVar 5)))) (sNil)) (sSeq (sSetIx (eVar 0) (eC (.int 2)) (eOp oAdd (eOp oIx (eVar 0) (eC (.int 2))) (eC (.int 1)))) (sSeq (sSet 2 (eOp oMod (eOp oAdd (eOp oIx (eVar 0) (eC (.int 1))) (eOp oMul2 (eC (.int 1500450271)) (eOp oIx (eVar 0) (eC (.int 2))))) (eC (.int 4294967279)))) (sSeq (sSet 3 (eOp oAdd (eOp oMul2 (eOp oMod (eOp oMul2 (eVar 2) (eVar 2)) (eC (.int 4294967231))) (eVar 2)) (eOp oMul2 (eC (.int 10007)) (eOp oIx (eVar 0) (eC (.int 2)))))) (sSeq (sSet 4 (eOp oMod (eOp oAdd (eVar 3) (eOp oMod (eOp oIx (eVar 0) (eC (.int 1))) (eC (.int 65537)))) (eC (.int 4294967197)))) (sRet (eOp oMod (eOp oFdiv (eOp oMod (eOp oMul2 (eVar 4) (eVar 4)) (eC (.int 4294967189))) (eC (.int 64))) (eVar 1)))))))
def m__law_draw : List Va → AH → Rs Va := fnF 6 2 b__law_draw

def h__law_outcome : Str → List (Str × Va) → AH → Rs Va := fun c p h => if c = "InvalidSteps" then on0 (fun h => .ok (.str "steps") h) p h else if c = "InvalidNumber" then on1 "value" (resN "number ") p h else .bad
def m__law_outcome : Rs Va → Rs Va := moM (.str "returned") h__law_outcome

def b__law_least_sums : SF := sSeq (sSet 2 (eAp oDictN (aCons (eLc (iOf (aCons (eVar 0) (aNil)) srcR) (gNm 4) (tYesF) (eAp oTup (aCons (eAp oTup (aCons (eVar 4) (aCons (eVar 4) (aNil)))) (aCons (eC (.int 0)) (aNil)))) [4]) (aNil)))) (sSeq (sSet 3 (eC (.bl true))) (sSeq (sWhile (tB (eVar 3)) (sSeq (sSet 3 (eC (.bl false))) (sFor (iOf (aCons (eVar 0) (aNil)) srcR) (gNm 4) (sFor (iOf1 (eVar 1) srcOf) (gTp (gCs (gNm 5) (gCs (gNm 6) (gCs (gNm 7) (gNl))))) (sIf (tB (eOp oInD (eAp oTup (aCons (eVar 4) (aCons (eVar 5) (aNil)))) (eVar 2))) (sSeq (sSet 8 (eOp oAdd (eOp oIxN (eVar 2) (eAp oTup (aCons (eVar 4) (aCons (eVar 5) (aNil))))) (eVar 7))) (sIf (tB (eOp oLt (eVar 8) (eDGet2N (eVar 2) (eAp oTup (aCons (eVar 4) (aCons (eVar 6) (aNil)))) (eOp oAdd (eVar 8) (eC (.int 1)))))) (sSeq (sPutN (eVar 2) (eAp oTup (aCons (eVar 4) (aCons (eVar 6) (aNil)))) (eVar 8)) (sSet 3 (eC (.bl true)))) (sNil))) (sNil)))))) (sSeq (sIf (tOr (tB (eOp oLt (eAp oLenN (aCons (eVar 2) (aNil))) (eOp oMul2 (eVar 0) (eVar 0)))) (tB (eOp oGt (eAp oMax2 (aCons (eLcDN 2 (gNm 9) (eFzN 9) [9]) (aNil))) (eC (.int 1000))))) (sRet (eC .non)) (sNil)) (sRet (eAp oTuple (aCons (eLc (iOf (aCons (eVar 0) (aNil)) srcR) (gNm 4) (tYesF) (eAp oTuple (aCons (eLc (iOf (aCons (eVar 0) (aNil)) srcR) (gNm 6) (tYesF) (eOp oIxN (eVar 2) (eAp oTup (aCons (eVar 4) (aCons (eVar 6) (aNil))))) [6]) (aNil))) [4]) (aNil)))))))
def m__law_least_sums : List Va → AH → Rs Va := fnF 10 2 b__law_least_sums

def b_is_step : SF := sSeq (sIf (tOr (tNot (tB (eIsi "tuple" (eVar 0)))) (tB (eOp oNe2 (eAp oLen (aCons (eVar 0) (aNil))) (eC (.int 3))))) (sRet (eC (.bl false))) (sNil)) (sSeq (sAsg (gTp (gCs (gNm 2) (gCs (gNm 3) (gCs (gNm 4) (gNl))))) (eVar 0)) (sSeq (sIf (tOr (tNot (tB (eCall [] (callL m_is_integer) (aCons (eVar 2) (aCons (eC (.int 0)) (aCons (eOp oSub (eVar 1) (eC (.int 1))) (aNil))))))) (tNot (tB (eCall [] (callL m_is_integer) (aCons (eVar 3) (aCons (eC (.int 0)) (aCons (eOp oSub (eVar 1) (eC (.int 1))) (aNil)))))))) (sRet (eC (.bl false))) (sNil)) (sRet (eAnd (eOp oNe2 (eVar 2) (eVar 3)) (eCall [] (callL m_is_integer) (aCons (eVar 4) (aCons (eC (.int 1)) (aCons (eC (.int 1000)) (aNil)))))))))
def m_is_step : List Va → AH → Rs Va := fnF 5 2 b_is_step

def b__law_unrelated : SF := sSeq (sSet 1 (eAp oLst (aCons (eC .non) (aCons (eC (.bl true)) (aCons (eC (.bl false)) (aCons (eC (.int 0)) (aCons (eC (.int 1)) (aCons (eUn oNeg (eC (.int 1))) (aCons (eC (.int 1001)) (aCons (eC (.str "")) (aCons (eC (.str "0")) (aCons (eC (.str "a")) (aCons (eAp oTup (aNil)) (aCons (eAp oLst (aNil)) (aCons (eD0) (aCons (eAp oTup (aCons (eC (.int 0)) (aNil))) (aCons (eAp oTup (aCons (eC .non) (aNil))) (aCons (eAp oTup (aCons (eAp oTup (aCons (eC (.int 0)) (aCons (eC (.int 1)) (aNil)))) (aCons (eAp oTup (aCons (eC (.int 1)) (aCons (eC (.int 0)) (aNil)))) (aNil)))) (aCons (eOp oPow (eC (.int 10)) (eC (.int 39))) (aNil)))))))))))))))))))) (sRet (eOp oIx (eVar 1) (eCall [] (callL m__law_draw) (aCons (eVar 0) (aCons (eC (.int 17)) (aNil))))))
def m__law_unrelated : List Va → AH → Rs Va := fnF 2 1 b__law_unrelated

def b__law_steps : SF := sSeq (sSet 2 (eOp oIx (eAp oLst (aCons (eC (.int 1)) (aCons (eC (.int 3)) (aCons (eC (.int 9)) (aCons (eC (.int 120)) (aCons (eC (.int 1000)) (aNil))))))) (eCall [] (callL m__law_draw) (aCons (eVar 0) (aCons (eC (.int 5)) (aNil)))))) (sSeq (sSet 3 (eAp oLst (aNil))) (sSeq (sIf (tB (eOp oGt (eCall [] (callL m__law_draw) (aCons (eVar 0) (aCons (eC (.int 3)) (aNil)))) (eC (.int 0)))) (sSeq (sSet 4 (eOp oAdd (eC (.int 1)) (eCall [] (callL m__law_draw) (aCons (eVar 0) (aCons (eOp oSub (eVar 1) (eC (.int 1))) (aNil)))))) (sFor (iOf (aCons (eVar 1) (aNil)) srcR) (gNm 5) (sSeq (sSet 6 (eIf (tB (eOp oGt (eCall [] (callL m__law_draw) (aCons (eVar 0) (aCons (eC (.int 6)) (aNil)))) (eC (.int 0)))) (eOp oMod (eOp oAdd (eVar 5) (eC (.int 1))) (eVar 1)) (eOp oMod (eOp oAdd (eVar 5) (eVar 4)) (eVar 1)))) (sSeq (sExpr (eM (eVar 3) (aCons (eAp oTup (aCons (eVar 5) (aCons (eVar 6) (aCons (eOp oAdd (eC (.int 1)) (eCall [] (callL m__law_draw) (aCons (eVar 0) (aCons (eVar 2) (aNil))))) (aNil))))) (aNil)) oAppend)) (sExpr (eM (eVar 3) (aCons (eAp oTup (aCons (eVar 5) (aCons (eOp oMod (eOp oAdd (eVar 5) (eC (.int 1))) (eVar 1)) (aCons (eOp oAdd (eC (.int 1)) (eCall [] (callL m__law_draw) (aCons (eVar 0) (aCons (eVar 2) (aNil))))) (aNil))))) (aNil)) oAppend)))))) (sNil)) (sSeq (sFor (iOf (aCons (eCall [] (callL m__law_draw) (aCons (eVar 0) (aCons (eC (.int 31)) (aNil)))) (aNil)) srcR) (gNm 4) (sSeq (sSet 5 (eCall [] (callL m__law_draw) (aCons (eVar 0) (aCons (eVar 1) (aNil))))) (sSeq (sSet 6 (eOp oMod (eOp oAdd (eOp oAdd (eVar 5) (eC (.int 1))) (eCall [] (callL m__law_draw) (aCons (eVar 0) (aCons (eOp oSub (eVar 1) (eC (.int 1))) (aNil))))) (eVar 1))) (sExpr (eM (eVar 3) (aCons (eAp oTup (aCons (eVar 5) (aCons (eVar 6) (aCons (eOp oAdd (eC (.int 1)) (eCall [] (callL m__law_draw) (aCons (eVar 0) (aCons (eVar 2) (aNil))))) (aNil))))) (aNil)) oAppend))))) (sRet (eAp oTuple (aCons (eOp oAdd (eVar 3) (eSl (eVar 3) (lNone) (lSome (eCall [] (callL m__law_draw) (aCons (eVar 0) (aCons (eC (.int 3)) (aNil))))))) (aNil)))))))
def m__law_steps : List Va → AH → Rs Va := fnF 7 2 b__law_steps

def b_switching_from_steps : SF := sSeq (sIf (tNot (tB (eCall [] (callL m_is_integer) (aCons (eVar 0) (aCons (eC (.int 2)) (aCons (eC (.int 10)) (aNil))))))) (sRaise1 "InvalidNumber" "value" (aCons (eVar 0) (aNil))) (sNil)) (sSeq (sIf (tOr (tNot (tB (eIsi "tuple" (eVar 1)))) (tNot (tB (eAp oAll (aCons (eLc (iOf1 (eVar 1) srcOf) (gNm 5) (tYesF) (eCall [] (callL m_is_step) (aCons (eVar 5) (aCons (eVar 0) (aNil)))) [5]) (aNil)))))) (sRaise0 "InvalidSteps") (sNil)) (sSeq (sSet 2 (eCall [] (callL m_shortest_sums) (aCons (eVar 0) (aCons (eVar 1) (aNil))))) (sSeq (sIf (tB (eAp oAny (aCons (eLc2 (iOf1 (eVar 2) srcOf) (gNm 3) (tYesF) (iOf1 (eVar 3) srcOf) (gNm 4) (tYesF) (eOr (eOp (oIs false) (eVar 4) (eC .non)) (eOp oGt (eVar 4) (eC (.int 1000)))) [3, 4] [4]) (aNil)))) (sRaise0 "InvalidSteps") (sNil)) (sRet (eVar 2)))))
def m_switching_from_steps : List Va → AH → Rs Va := fnF 6 2 b_switching_from_steps

def b__law_damaged_0 : SF := sSeq (sSet 3 (eCall [] (callL m__law_draw) (aCons (eVar 0) (aCons (eC (.int 8)) (aNil))))) (sSeq (sIf (tAnd (tB (eIsi "tuple" (eVar 1))) (tAnd (tB (eOp oNe2 (eVar 1) (eAp oTup (aNil)))) (tAnd (tB (eOp oGt (eVar 2) (eC (.int 0)))) (tB (eOp oLt (eVar 3) (eC (.int 5))))))) (sSeq (sSet 4 (eCall [] (callL m__law_draw) (aCons (eVar 0) (aCons (eAp oLen (aCons (eVar 1) (aNil))) (aNil))))) ((fun _ _ => .bad))) (sNil)) (sSeq (sIf (tB (eIsi "tuple" (eVar 1))) (sSeq (sSet 4 (eCall [] (callL m__law_draw) (aCons (eVar 0) (aCons (eOp oAdd (eAp oLen (aCons (eVar 1) (aNil))) (eC (.int 1))) (aNil))))) (sSeq (sSet 5 (eAp oLst (aCons (eAp oList (aCons (eVar 1) (aNil))) (aCons (eOp oAdd (eSl (eVar 1) (lNone) (lSome (eVar 4))) (eSl (eVar 1) (lSome (eOp oAdd (eVar 4) (eC (.int 1)))) (lNone))) (aCons (eOp oAdd (eOp oAdd (eSl (eVar 1) (lNone) (lSome (eVar 4))) (eSl (eVar 1) (lSome (eVar 4)) (lSome (eOp oAdd (eVar 4) (eC (.int 1)))))) (eSl (eVar 1) (lSome (eVar 4)) (lNone))) (aCons (eRev (eVar 1)) (aNil))))))) (sSeq (sSet 6 (eCall [] (callL m__law_unrelated) (aCons (eVar 0) (aNil)))) (sRet (eOp oIx (eOp oAdd (eVar 5) (eAp oLst (aCons (eOp oAdd (eVar 1) (eAp oTup (aCons (eVar 6) (aNil)))) (aCons (eOp oAdd (eOp oAdd (eSl (eVar 1) (lNone) (lSome (eVar 4))) (eAp oTup (aCons (eVar 6) (aNil)))) (eSl (eVar 1) (lSome (eOp oAdd (eVar 4) (eC (.int 1)))) (lNone))) (aNil))))) (eCall [] (callL m__law_draw) (aCons (eVar 0) (aCons (eC (.int 6)) (aNil))))))))) (sNil)) (sSeq (sIf (tAnd (tB (eIsi "int" (eVar 1))) (tAnd (tNot (tB (eIsi "bool" (eVar 1)))) (tB (eOp oLt (eVar 3) (eC (.int 6)))))) (sRet (eOp oIx (eAp oLst (aCons (eOp oAdd (eVar 1) (eC (.int 1))) (aCons (eOp oSub (eVar 1) (eC (.int 1))) (aCons (eC .non) (aCons (eC (.int 1000)) (aCons (eC (.int 1001)) (aCons (eC (.int 0)) (aNil)))))))) (eVar 3))) (sNil)) (sRet (eCall [] (callL m__law_unrelated) (aCons (eVar 0) (aNil)))))))
def m__law_damaged_0 : List Va → AH → Rs Va := fnF 7 3 b__law_damaged_0

def b__law_right : SF := sSeq (sPar 2 3 (aCons (eAp oReprN (aCons (eVar 1) (aNil))) (aCons (eCall [] (callL m__law_least_sums) (aCons (eVar 0) (aCons (eVar 1) (aNil)))) (aNil)))) (sSeq (sIf (tB (eOp (oIs false) (eVar 3) (eC .non))) (sRet (eAnd (eOp oEq2 (eLam m__law_outcome (eCall [] (callL m_switching_from_steps) (aCons (eVar 0) (aCons (eVar 1) (aNil))))) (eC (.str "steps"))) (eOp oEq2 (eAp oReprN (aCons (eVar 1) (aNil))) (eVar 2)))) (sNil)) (sSeq (sSet 4 (eAp oLst (aCons (eCall [] (callL m_switching_from_steps) (aCons (eVar 0) (aCons (eVar 1) (aNil)))) (aCons (eCall [] (callL m_switching_from_steps) (aCons (eVar 0) (aCons (eVar 1) (aNil)))) (aNil))))) (sRet (eAnd (eOp oEq2 (eAp oReprN (aCons (eVar 4) (aNil))) (eAp oReprN (aCons (eAp oLst (aCons (eVar 3) (aCons (eVar 3) (aNil)))) (aNil)))) (eOp oEq2 (eAp oReprN (aCons (eVar 1) (aNil))) (eVar 2))))))
def m__law_right : List Va → AH → Rs Va := fnF 5 2 b__law_right

def b__law_errors_right : SF := sSeq (sSet 3 (eOp oIx (eAp oLst (aCons (eC .non) (aCons (eC (.bl true)) (aCons (eC (.int 0)) (aCons (eC (.int 1)) (aCons (eC (.int 11)) (aCons (eC (.str "3")) (aCons (eAp oTup (aCons (eC (.int 3)) (aNil))) (aCons (eAp oLst (aNil)) (aCons (eD0) (aCons (eOp oPow (eC (.int 10)) (eC (.int 30))) (aNil)))))))))))) (eCall [] (callL m__law_draw) (aCons (eVar 0) (aCons (eC (.int 10)) (aNil)))))) (sSeq (sSet 4 (eAp oLst (aCons (eC .non) (aCons (eAp oList (aCons (eVar 2) (aNil))) (aCons (eD0) (aCons (eC (.int 7)) (aCons (eC (.str "steps")) (aCons (eAp oTup (aCons (eAp oTup (aCons (eC (.int 0)) (aCons (eC (.int 0)) (aCons (eC (.int 1)) (aNil))))) (aNil))) (aCons (eAp oTup (aCons (eAp oTup (aCons (eC (.int 0)) (aCons (eVar 1) (aCons (eC (.int 1)) (aNil))))) (aNil))) (aCons (eAp oTup (aCons (eAp oTup (aCons (eUn oNeg (eC (.int 1))) (aCons (eC (.int 0)) (aCons (eC (.int 1)) (aNil))))) (aNil))) (aCons (eAp oTup (aCons (eAp oTup (aCons (eC (.int 0)) (aCons (eC (.int 1)) (aCons (eC (.int 0)) (aNil))))) (aNil))) (aCons (eAp oTup (aCons (eAp oTup (aCons (eC (.int 0)) (aCons (eC (.int 1)) (aNil)))) (aNil))) (aNil))))))))))))) (sSeq (sSet 4 (eOp oAdd (eVar 4) (eAp oLst (aCons (eAp oTup (aCons (eAp oTup (aCons (eC (.int 0)) (aCons (eC (.int 1)) (aCons (eC (.int 1001)) (aNil))))) (aNil))) (aCons (eAp oTup (aCons (eAp oTup (aCons (eC (.int 0)) (aCons (eC (.bl true)) (aCons (eC (.int 1)) (aNil))))) (aNil))) (aCons (eAp oTup (aCons (eAp oTup (aCons (eC (.int 0)) (aCons (eC (.int 1)) (aCons (eC (.bl true)) (aNil))))) (aNil))) (aCons (eAp oTup (aCons (eAp oTup (aCons (eC (.int 0)) (aCons (eC (.int 1)) (aCons (eC .non) (aNil))))) (aNil))) (aCons (eAp oTup (aCons (eC .non) (aNil))) (aCons (eAp oTup (aCons (eAp oLst (aCons (eC (.int 0)) (aCons (eC (.int 1)) (aCons (eC (.int 1)) (aNil))))) (aNil))) (aNil)))))))))) (sSeq (sSet 5 (eOp oIx (eVar 4) (eCall [] (callL m__law_draw) (aCons (eVar 0) (aCons (eC (.int 16)) (aNil)))))) (sSeq (sIf (tB (eIsi "tuple" (eVar 5))) (sSeq (sSet 7 (eCall [] (callL m__law_draw) (aCons (eVar 0) (aCons (eOp oAdd (eAp oLen (aCons (eVar 2) (aNil))) (eC (.int 1))) (aNil))))) (sSet 5 (eOp oAdd (eOp oAdd (eSl (eVar 2) (lNone) (lSome (eVar 7))) (eVar 5)) (eSl (eVar 2) (lSome (eVar 7)) (lNone))))) (sNil)) (sSeq (sSet 6 (eAp oLst (aCons (eLam m__law_outcome (eCall [] (callL m_switching_from_steps) (aCons (eVar 3) (aCons (eVar 5) (aNil))))) (aNil)))) (sSeq (sExpr (eM (eVar 6) (aCons (eLam m__law_outcome (eCall [] (callL m_switching_from_steps) (aCons (eVar 3) (aCons (eVar 2) (aNil))))) (aNil)) oAppend)) (sSeq (sExpr (eM (eVar 6) (aCons (eLam m__law_outcome (eCall [] (callL m_switching_from_steps) (aCons (eVar 1) (aCons (eVar 5) (aNil))))) (aNil)) oAppend)) (sRet (eOp oEq2 (eVar 6) (eOp oAdd (eOp oMul2 (eAp oLst (aCons (eOp oAddR (eC (.str "number ")) (eAp oReprN (aCons (eVar 3) (aNil)))) (aNil))) (eC (.int 2))) (eAp oLst (aCons (eC (.str "steps")) (aNil)))))))))))))
def m__law_errors_right : List Va → AH → Rs Va := fnF 8 3 b__law_errors_right

def b_law : SF := sSeq (sFor (iOf (aCons (eAp oMax2 (aCons (eC (.int 1)) (aCons (eAp oMin2 (aCons (eC (.int 16)) (aCons (eAp oLen (aCons (eVar 0) (aNil))) (aNil)))) (aNil)))) (aNil)) srcR) (gNm 1) (sSeq (sSet 2 (eCall [] (callL m__law_stream) (aCons (eVar 0) (aCons (eVar 1) (aNil))))) (sSeq (sSet 3 (eOp oAdd (eC (.int 2)) (eCall [] (callL m__law_draw) (aCons (eVar 2) (aCons (eC (.int 9)) (aNil)))))) (sSeq (sSet 4 (eCall [] (callL m__law_steps) (aCons (eVar 2) (aCons (eVar 3) (aNil))))) (sSeq (sIf (tOr (tNot (tB (eCall [] (callL m__law_right) (aCons (eVar 3) (aCons (eVar 4) (aNil)))))) (tNot (tB (eCall [] (callL m__law_errors_right) (aCons (eVar 2) (aCons (eVar 3) (aCons (eVar 4) (aNil)))))))) (sRet (eC (.bl false))) (sNil)) (sSeq (sSet 5 (eCall [] (callL m__law_damaged_0) (aCons (eVar 2) (aCons (eVar 4) (aCons (eC (.int 0)) (aNil)))))) (sIf (tAnd (tB (eIsi "tuple" (eVar 5))) (tB (eOp oEqX (eLc (iOf1 (eVar 5) srcOf) (gNm 6) (tB (eOp oNotInX (eVar 6) (eVar 4))) (eVar 6) [6]) (eAp oLst (aNil))))) (sIf (tNot (tB (eCall [] (callL m__law_right) (aCons (eVar 3) (aCons (eVar 5) (aNil)))))) (sRet (eC (.bl false))) (sNil)) (sNil)))))))) (sSeq (sIf (tB (eOp oNe2 (eCall [] (callL m_switching_from_steps) (aCons (eC (.int 3)) (aCons (eAp oTup (aCons (eAp oTup (aCons (eC (.int 0)) (aCons (eC (.int 1)) (aCons (eC (.int 500)) (aNil))))) (aCons (eAp oTup (aCons (eC (.int 1)) (aCons (eC (.int 2)) (aCons (eC (.int 500)) (aNil))))) (aCons (eAp oTup (aCons (eC (.int 2)) (aCons (eC (.int 0)) (aCons (eC (.int 1)) (aNil))))) (aNil))))) (aNil)))) (eAp oTup (aCons (eAp oTup (aCons (eC (.int 0)) (aCons (eC (.int 500)) (aCons (eC (.int 1000)) (aNil))))) (aCons (eAp oTup (aCons (eC (.int 501)) (aCons (eC (.int 0)) (aCons (eC (.int 500)) (aNil))))) (aCons (eAp oTup (aCons (eC (.int 1)) (aCons (eC (.int 501)) (aCons (eC (.int 0)) (aNil))))) (aNil))))))) (sRet (eC (.bl false))) (sNil)) (sSeq (sIf (tB (eOp oNe2 (eLam m__law_outcome (eCall [] (callL m_switching_from_steps) (aCons (eC (.int 3)) (aCons (eAp oTup (aCons (eAp oTup (aCons (eC (.int 0)) (aCons (eC (.int 1)) (aCons (eC (.int 500)) (aNil))))) (aCons (eAp oTup (aCons (eC (.int 1)) (aCons (eC (.int 2)) (aCons (eC (.int 501)) (aNil))))) (aCons (eAp oTup (aCons (eC (.int 2)) (aCons (eC (.int 0)) (aCons (eC (.int 1)) (aNil))))) (aNil))))) (aNil))))) (eC (.str "steps")))) (sRet (eC (.bl false))) (sNil)) (sSeq (sIf (tB (eOp oNe2 (eLam m__law_outcome (eCall [] (callL m_switching_from_steps) (aCons (eC (.int 2)) (aCons (eAp oTup (aCons (eAp oTup (aCons (eC (.int 0)) (aCons (eC (.int 1)) (aCons (eC (.int 1)) (aNil))))) (aNil))) (aNil))))) (eC (.str "steps")))) (sRet (eC (.bl false))) (sNil)) (sRet (eOp oEqX (eLam m__law_outcome (eCall [] (callL m_switching_from_steps) (aCons (eC (.int 2)) (aCons (eAp oTup (aNil)) (aNil))))) (eC (.str "steps")))))))
def m_law : List Va → AH → Rs Va := fnF 7 1 b_law
end FL

set_option Elab.async false
set_option linter.all false
set_option maxRecDepth 100000
set_option maxHeartbeats 4000000
namespace FL
open PySem PySem.Spec PyProof.Rows L2
variable [Tabz]
structure KM (K : PySem.W.Frag) (mg : Str → Option Value) : Prop where
  says : He.SaysD fa fn K
  more : ex K = true
  ex : ∃ h : Heap, K.In h ∧ h.Ns mainGlobals mg
section
variable {P : Program} {w : World} {K : PySem.W.Frag} {mg : Str → Option Value} {base : Heap}
theorem KM.free (C : KM K mg) (i : Nat) {x : Str} (h : fa[i]? = some (.free x) := by rfl) : mg x = none := by
  obtain ⟨hp, k, g⟩ := C.ex
  exact He.free_ok k g (C.says.fact i h)
theorem KM.glo (C : KM K mg) (i : Nat) {x : Str} (h : fa[i]? = some (.glo x) := by rfl) : mg x = some (.ref (He.ga K x)) := by
  obtain ⟨hp, k, g⟩ := C.ex
  exact He.glo_ok k g (C.says.fact i h)
theorem KM.int (C : KM K mg) (i : Nat) {x : Str} {n : Int} (h : fa[i]? = some (.int x n) := by rfl) : ∃ t, mg x = some (.int n t) := by
  obtain ⟨hp, k, g⟩ := C.ex
  exact He.int_ok k g (C.says.fact i h)
theorem KM.str (C : KM K mg) (i : Nat) {x z : Str} (h : fa[i]? = some (.str x z) := by rfl) : ∃ t, mg x = some (.str z t) := by
  obtain ⟨hp, k, g⟩ := C.ex
  exact He.str_ok k g (C.says.fact i h)
theorem own_InvalidNumber (C : KM K mg) : PySem.FLX.OwnTxt "InvalidNumber" "value" [.type "KeyError", .type "LookupError", .type "Exception", .type "BaseException", .type "object"] "LookupError.__new__" K mg (He.ga K "InvalidNumber") (He.ma K (He.ga K "InvalidNumber") "__init__") := by
  obtain ⟨hp, k, g⟩ := C.ex
  exact PySem.FLX.ownB_ok k g (by have := C.more; unfold ex at this; simp only [Bool.and_eq_true] at this; exact this.1.1.1.1.1.1.1.1.1.1)
open PySem.W PySem.Calls PySem.HandSPX in
theorem ini_InvalidNumber (C : KM K mg) : PySem.FLX.Inits "value" K (He.ga K "InvalidNumber") (He.ma K (He.ga K "InvalidNumber") "__init__") := by
  intro prog w A R s x t0 v X hlim hx hnx hroom hq
  obtain ⟨fd, F⟩ := C.says.def_ 14 (d := d_InvalidNumber_init) rfl
  have T := own_InvalidNumber C
  obtain ⟨oc, od, dV, kV, doc, pm, an, cdv, ct, osl, rfl, ho, hcd, hD, _⟩ := F.ex
  rcases hD with ⟨_, rfl⟩ | ⟨hne, _⟩
  case inr => exact absurd rfl hne
  obtain ⟨nm, q, N, bs, sn, sub, ab, col, dd, k0, k1, k2, k3, k5, hC⟩ := T.cls
  have hcl : clsIn K (He.ga K "InvalidNumber") = some { name := nm, bases := bs, mro := .ref (He.ga K "InvalidNumber") :: [.type "KeyError", .type "LookupError", .type "Exception", .type "BaseException", .type "object"], ns := N, qualname := q, hasDict := true, slotNames := sn, subclasses := sub, abstract := ab, collection := col, hasDel := false } := by unfold clsIn; rw [hC] <;> rfl
  refine Att.call_fn (binds := [("self", .ref x), ("value", v)]) X hlim ho hcd hroom (BindsTo.of_eq (by first | rfl | with_unfolding_all rfl)) (by first | rfl | kernel_rfl) (fun s₁ IC => ?_) rfl rfl rfl
  obtain ⟨h₁, tk₁, rfl⟩ := IC.toInCall.same
  have k : ∀ b o, s.heap.get? b = some o → h₁.get? b = some o := IC.toInCall.keep
  have hn := IC.toInCall.ns
  have X₁ : K.In h₁ := X.keeps k
  have hx₁ := k _ _ hx
  show wpAny _ _ (execs _ _) _ _ _
  refine wpAny_execs_cons (plainObj_wpAny_Assign_Attribute ?_)
  refine PySem.FLX.ldC (v := v) hn (by first | rfl | with_unfolding_all rfl | kernel_rfl) (PySem.FLX.ldC (v := .ref x) hn (by first | rfl | with_unfolding_all rfl | kernel_rfl) ?_)
  refine set_plain X₁ (ox := excO (He.ga K "InvalidNumber") t0) (od := none) ⟨hx₁, rfl, rfl, trivial⟩ T.sa ?_
  refine PySem.FLX.osaB FL.store_KeyError (by decide +kernel) X₁ hx₁ hcl rfl rfl T.noN (fun h₃ tk₃ dx k₃ dn dne hx₃ hn₃ => ?_)
  show wpAny _ _ (execs _ _) _ _ _
  have z : s.heap.objs.size < h₁.objs.size := hn.lt
  exact wpAny_execs_nil (hq h₃ tk₃ dx ⟨fun b o hb e => k₃ b o hb (k b o e), hx₃, Nat.le_of_lt (Nat.lt_of_lt_of_le z dn), dne, hn₃⟩)
theorem plain_InvalidSteps (C : KM K mg) : PlainX "InvalidSteps" [.type "ValueError", .type "Exception", .type "BaseException", .type "object"] "ValueError.__new__" K mg (He.ga K "InvalidSteps") := by
  obtain ⟨hp, k, g⟩ := C.ex
  exact plainB_ok k g (by have := C.more; unfold ex at this; simp only [Bool.and_eq_true] at this; exact this.1.1.1.1.1.1.1.1.1.2)
theorem exc_InvalidSteps (C : KM K mg) : ExcC K (He.ga K "InvalidSteps") := excB_ok (by have := C.more; unfold ex at this; simp only [Bool.and_eq_true] at this; exact this.1.1.1.1.1.1.1.1.2)
theorem exc_InvalidNumber (C : KM K mg) : ExcC K (He.ga K "InvalidNumber") := excB_ok (by have := C.more; unfold ex at this; simp only [Bool.and_eq_true] at this; exact this.1.1.1.1.1.1.1.2)
theorem xm_InvalidNumber_InvalidNumber (C : KM K mg) : PySem.W.exmOne K (.ref (He.ga K "InvalidNumber")) (.ref (He.ga K "InvalidNumber")) = some true := of_decide_eq_true (by have := C.more; unfold ex at this; simp only [Bool.and_eq_true] at this; exact this.1.1.1.1.1.1.2)
theorem xm_InvalidSteps_HindcostError (C : KM K mg) : PySem.W.exmOne K (.ref (He.ga K "InvalidSteps")) (.ref (He.ga K "HindcostError")) = some true := of_decide_eq_true (by have := C.more; unfold ex at this; simp only [Bool.and_eq_true] at this; exact this.1.1.1.1.1.2)
theorem xm_InvalidNumber_HindcostError (C : KM K mg) : PySem.W.exmOne K (.ref (He.ga K "InvalidNumber")) (.ref (He.ga K "HindcostError")) = some false := of_decide_eq_true (by have := C.more; unfold ex at this; simp only [Bool.and_eq_true] at this; exact this.1.1.1.1.2)
theorem ki_InvalidSteps_InvalidSteps (C : KM K mg) : PySem.W.kitOne K (.ref (He.ga K "InvalidSteps")) (.ref (He.ga K "InvalidSteps")) = some true := of_decide_eq_true (by have := C.more; unfold ex at this; simp only [Bool.and_eq_true] at this; exact this.1.1.1.2)
theorem ki_InvalidSteps_InvalidSystem (C : KM K mg) : PySem.W.kitOne K (.ref (He.ga K "InvalidSteps")) (.ref (He.ga K "InvalidSystem")) = some false := of_decide_eq_true (by have := C.more; unfold ex at this; simp only [Bool.and_eq_true] at this; exact this.1.1.2)
theorem ki_InvalidNumber_KeyError (C : KM K mg) : PySem.W.kitOne K (.ref (He.ga K "InvalidNumber")) (.type "KeyError") = some true := of_decide_eq_true (by have := C.more; unfold ex at this; simp only [Bool.and_eq_true] at this; exact this.1.2)
theorem tabs_nd (C : KM K mg) : (tf.map fun p => (He.cT K p).2).Nodup := of_decide_eq_true (by have := C.more; unfold ex at this; simp only [Bool.and_eq_true] at this; exact this.2)
theorem sc_is_integer : FnScope ["value", "low", "high"] ["value", "low", "high"] (defScope s_is_integer) := ⟨rfl, rfl, rfl, by decide +kernel, rfl, by decide +kernel, by decide +kernel⟩
theorem fd_is_integer (C : KM K mg) : ∃ fd, FunD K "is_integer" "is_integer" (defArgs s_is_integer) (defBody s_is_integer) (defScope s_is_integer) [] [] (He.ga K "is_integer") fd := C.says.def_ 0 (d := d_is_integer) rfl
theorem fg_is_integer (C : KM K mg) {fd : FuncData} (F : FunD K "is_integer" "is_integer" (defArgs s_is_integer) (defBody s_is_integer) (defScope s_is_integer) [] [] (He.ga K "is_integer") fd) : FnG P w K mg base 1 (He.ga K "is_integer") fd ["value", "low", "high"] m_is_integer := by
  refine fnG_of (k := 0) (N := ["value", "low", "high"]) (b := b_is_integer) F sc_is_integer fun cdv A outer s H E hr hgd => ?_
  have tk : Takes (cxOf (L2.CX P w) P w K mg base ["value", "low", "high"] "is_integer" (defScope s_is_integer) (He.ga K "is_integer") cdv A outer s H E) (WB E) := takes_of rfl rfl rfl rfl
  unfold b_is_integer
  exact mss_cons (ms_if (mt_w (mw_or (mt_not (mt_val (me_isi (C.free 0) (C.free 1) (by decide +kernel) isi_int (me_var 0)))) (mw_or1 (mt_val (me_isi (C.free 0) (C.free 2) (by decide +kernel) isi_bool (me_var 0)))))) (mss_one (ms_ret (me_bl))) (mss_nil)) (mss_one (ms_ret (me_and (me_or (me_cmp op_oIs (me_var 1) (me_non)) (me_one (me_cmp op_oGe (me_var 0) (me_var 1)))) (me_one (me_or (me_cmp op_oIs (me_var 2) (me_non)) (me_one (me_cmp op_oLe (me_var 0) (me_var 2))))))))
theorem ok_is_integer (C : KM K mg) : Cd P w K mg base 1 "is_integer" [] m_is_integer := by
  obtain ⟨fd, F⟩ := fd_is_integer C
  exact ⟨_, fd, ["value", "low", "high"], [], [], fg_is_integer C F, (C.glo 23), F.kp, F.bindsN fun _ _ _ _ _ _ us hl => (match us, hl with | [_, _, _], _ => rfl), .nil, fun _ _ => .nil⟩
theorem sc_shortest_sums : FnScope ["size", "steps", "table", "here", "there", "cost", "middle", "first", "second", "known", "row"] ["size", "steps"] (defScope s_shortest_sums) := ⟨rfl, rfl, rfl, by decide +kernel, rfl, by decide +kernel, by decide +kernel⟩
theorem fd_shortest_sums (C : KM K mg) : ∃ fd, FunD K "shortest_sums" "shortest_sums" (defArgs s_shortest_sums) (defBody s_shortest_sums) (defScope s_shortest_sums) [] [] (He.ga K "shortest_sums") fd := C.says.def_ 1 (d := d_shortest_sums) rfl
theorem fg_shortest_sums (C : KM K mg) {fd : FuncData} (F : FunD K "shortest_sums" "shortest_sums" (defArgs s_shortest_sums) (defBody s_shortest_sums) (defScope s_shortest_sums) [] [] (He.ga K "shortest_sums") fd) : FnG P w K mg base 1 (He.ga K "shortest_sums") fd ["size", "steps"] m_shortest_sums := by
  refine fnG_of (k := 0) (N := ["size", "steps", "table", "here", "there", "cost", "middle", "first", "second", "known", "row"]) (b := b_shortest_sums) F sc_shortest_sums fun cdv A outer s H E hr hgd => ?_
  have tk : Takes (cxOf (L2.CX P w) P w K mg base ["size", "steps", "table", "here", "there", "cost", "middle", "first", "second", "known", "row"] "shortest_sums" (defScope s_shortest_sums) (He.ga K "shortest_sums") cdv A outer s H E) (WB E) := takes_of rfl rfl rfl rfl
  unfold b_shortest_sums
  exact mss_cons (ms_setLc (i := 2) [("here", 3)] rfl sc_shortest_sums.nd rfl rfl (sw_true rfl rfl rfl rfl) (mi_range1 (ma_cons (me_var 0) (ma_nil)) (C.free 3)) (blkOk_by (by kernel_rfl)) (fun _ _ _ _ _ => mg_name 3 sc_shortest_sums.nd) (fun _ _ _ _ _ => mts_nil) (fun _ _ _ _ _ => me_lc [("there", 4)] rfl sc_shortest_sums.nd (mi_range1 (ma_cons (me_var 0) (ma_nil)) (C.free 3)) (blkOk_by (by kernel_rfl)) (fun _ _ _ _ _ => mg_name 4 sc_shortest_sums.nd) (fun _ _ _ _ _ => mts_nil) (fun _ _ _ _ _ => me_if (mt_cmp (op_oEq2 hr) (me_var 3) (me_var 4)) (me_int) (me_non)))) (mss_cons (ms_for (passes_of rfl) rfl (mi_seq (me_var 1)) (mg_tup rfl (mgs_cons (mg_name 3 sc_shortest_sums.nd) (mgs_cons (mg_name 4 sc_shortest_sums.nd) (mgs_cons (mg_name 5 sc_shortest_sums.nd) (mgs_nil)))) (gsN_cons (gsN_cons (gsN_cons (gsN_nil))))) (mss_one (ms_if (mt_w (mw_or (mt_cmp op_oIs (me_ix (me_ix (me_var 2) (me_var 3)) (me_var 4)) (me_non)) (mw_or1 (mt_cmp op_oLt (me_var 5) (me_ix (me_ix (me_var 2) (me_var 3)) (me_var 4)))))) (mss_one (ms_setIx (me_var 5) (me_ix (me_var 2) (me_var 3)) (me_var 4))) (mss_nil)))) (mss_cons (ms_for (passes_of rfl) rfl (mi_range1 (ma_cons (me_var 0) (ma_nil)) (C.free 3)) (mg_name 6 sc_shortest_sums.nd) (mss_one (ms_for (passes_of rfl) rfl (mi_range1 (ma_cons (me_var 0) (ma_nil)) (C.free 3)) (mg_name 3 sc_shortest_sums.nd) (mss_one (ms_for (passes_of rfl) rfl (mi_range1 (ma_cons (me_var 0) (ma_nil)) (C.free 3)) (mg_name 4 sc_shortest_sums.nd) (mss_cons (ms_par3 7 8 9 rfl sc_shortest_sums.nd (ma_cons (me_ix (me_ix (me_var 2) (me_var 3)) (me_var 6)) (ma_cons (me_ix (me_ix (me_var 2) (me_var 6)) (me_var 4)) (ma_cons (me_ix (me_ix (me_var 2) (me_var 3)) (me_var 4)) (ma_nil))))) (mss_one (ms_if (mt_w (mw_and (mt_cmp op_oIsNot (me_var 7) (me_non)) (mw_and (mt_cmp op_oIsNot (me_var 8) (me_non)) (mw_and1 (mt_w (mw_or (mt_cmp op_oIs (me_var 9) (me_non)) (mw_or1 (mt_cmp op_oLt (me_op op_oAdd (me_var 7) (me_var 8)) (me_var 9))))))))) (mss_one (ms_setIx (me_op op_oAdd (me_var 7) (me_var 8)) (me_ix (me_var 2) (me_var 3)) (me_var 4))) (mss_nil))))))))) (mss_one (ms_ret (me_callT call_oTuple (C.free 4) (by decide +kernel) (ma_cons (me_lc [("row", 10)] rfl sc_shortest_sums.nd (mi_seq (me_var 2)) (blkOk_by (by kernel_rfl)) (fun _ _ _ _ _ => mg_name 10 sc_shortest_sums.nd) (fun _ _ _ _ _ => mts_nil) (fun _ _ _ _ _ => me_callT call_oTuple (C.free 4) (by decide +kernel) (ma_cons (me_var 10) (ma_nil)))) (ma_nil)))))))
theorem ok_shortest_sums (C : KM K mg) : Cd P w K mg base 1 "shortest_sums" [] m_shortest_sums := by
  obtain ⟨fd, F⟩ := fd_shortest_sums C
  exact ⟨_, fd, ["size", "steps"], [], [], fg_shortest_sums C F, (C.glo 24), F.kp, F.bindsN fun _ _ _ _ _ _ us hl => (match us, hl with | [_, _], _ => rfl), .nil, fun _ _ => .nil⟩
theorem sc__law_stream : FnScope ["_law_script", "_law_at", "_law_cell", "_law_great"] ["_law_script", "_law_at"] (defScope s__law_stream) := ⟨rfl, rfl, rfl, by decide +kernel, rfl, by decide +kernel, by decide +kernel⟩
theorem fd__law_stream (C : KM K mg) : ∃ fd, FunD K "_law_stream" "_law_stream" (defArgs s__law_stream) (defBody s__law_stream) (defScope s__law_stream) [] [] (He.ga K "_law_stream") fd := C.says.def_ 2 (d := d__law_stream) rfl
theorem fg__law_stream (C : KM K mg) {fd : FuncData} (F : FunD K "_law_stream" "_law_stream" (defArgs s__law_stream) (defBody s__law_stream) (defScope s__law_stream) [] [] (He.ga K "_law_stream") fd) : FnG P w K mg base 1 (He.ga K "_law_stream") fd ["_law_script", "_law_at"] m__law_stream := by
  refine fnG_of (k := 0) (N := ["_law_script", "_law_at", "_law_cell", "_law_great"]) (b := b__law_stream) F sc__law_stream fun cdv A outer s H E hr hgd => ?_
  have tk : Takes (cxOf (L2.CX P w) P w K mg base ["_law_script", "_law_at", "_law_cell", "_law_great"] "_law_stream" (defScope s__law_stream) (He.ga K "_law_stream") cdv A outer s H E) (WB E) := takes_of rfl rfl rfl rfl
  unfold b__law_stream
  exact mss_cons (ms_set 2 sc__law_stream.nd (me_op op_oAdd (me_op op_oMul2 (me_int) (me_var 1)) (me_int))) (mss_cons (ms_if (mt_cmp op_oLt (me_var 1) (me_callB call_oLen (C.free 5) (by decide +kernel) (ma_cons (me_var 0) (ma_nil)))) (mss_one (ms_set 2 sc__law_stream.nd (me_ix (me_var 0) (me_var 1)))) (mss_nil)) (mss_cons (ms_set 3 sc__law_stream.nd (me_op op_oMod (me_callB call_oAbs (C.free 6) (by decide +kernel) (ma_cons (me_var 2) (ma_nil))) (me_op op_oPow (me_op op_oPow (me_int) (me_int)) (me_int)))) (mss_one (ms_ret (me_lst (ma_cons (me_callB (call_oMax2 rfl) (C.free 7) (by decide +kernel) (ma_cons (me_int) (ma_cons (me_op op_oSub (me_var 3) (me_op op_oPow (me_int) (me_int))) (ma_nil)))) (ma_cons (me_op op_oMod (me_op op_oAdd (me_op op_oAdd (me_op op_oAdd (me_op op_oMul2 (me_var 3) (me_int)) (me_op op_oMul2 (me_int) (me_var 1))) (me_op op_oMul2 (me_int) (me_callT call_oInt (C.free 1) (by decide +kernel) (ma_cons (me_cmp op_oLt (me_var 2) (me_int)) (ma_nil))))) (me_int)) (me_int)) (ma_cons (me_int) (ma_nil)))))))))
theorem ok__law_stream (C : KM K mg) : Cd P w K mg base 1 "_law_stream" [] m__law_stream := by
  obtain ⟨fd, F⟩ := fd__law_stream C
  exact ⟨_, fd, ["_law_script", "_law_at"], [], [], fg__law_stream C F, (C.glo 25), F.kp, F.bindsN fun _ _ _ _ _ _ us hl => (match us, hl with | [_, _], _ => rfl), .nil, fun _ _ => .nil⟩
theorem sc__law_draw : FnScope ["_law_stream_here", "_law_total", "_law_one", "_law_stir", "_law_two", "_law_found"] ["_law_stream_here", "_law_total"] (defScope s__law_draw) := ⟨rfl, rfl, rfl, by decide +kernel, rfl, by decide +kernel, by decide +kernel⟩
theorem fd__law_draw (C : KM K mg) : ∃ fd, FunD K "_law_draw" "_law_draw" (defArgs s__law_draw) (defBody s__law_draw) (defScope s__law_draw) [] [] (He.ga K "_law_draw") fd := C.says.def_ 3 (d := d__law_draw) rfl
theorem fg__law_draw (C : KM K mg) {fd : FuncData} (F : FunD K "_law_draw" "_law_draw" (defArgs s__law_draw) (defBody s__law_draw) (defScope s__law_draw) [] [] (He.ga K "_law_draw") fd) : FnG P w K mg base 1 (He.ga K "_law_draw") fd ["_law_stream_here", "_law_total"] m__law_draw := by
  refine fnG_of (k := 0) (N := ["_law_stream_here", "_law_total", "_law_one", "_law_stir", "_law_two", "_law_found"]) (b := b__law_draw) F sc__law_draw fun cdv A outer s H E hr hgd => ?_
  have tk : Takes (cxOf (L2.CX P w) P w K mg base ["_law_stream_here", "_law_total", "_law_one", "_law_stir", "_law_two", "_law_found"] "_law_draw" (defScope s__law_draw) (He.ga K "_law_draw") cdv A outer s H E) (WB E) := takes_of rfl rfl rfl rfl
  unfold b__law_draw
  exact mss_cons (ms_if (mt_cmp op_oGt (me_ix (me_var 0) (me_int)) (me_int)) (mss_cons (ms_set 5 sc__law_draw.nd (me_op op_oMod (me_ix (me_var 0) (me_int)) (me_var 1))) (mss_cons (ms_setIx (me_op op_oFdiv (me_ix (me_var 0) (me_int)) (me_var 1)) (me_var 0) (me_int)) (mss_one (ms_ret (me_var 5))))) (mss_nil)) (mss_cons (ms_setIx (me_op op_oAdd (me_ix (me_var 0) (me_int)) (me_int)) (me_var 0) (me_int)) (mss_cons (ms_set 2 sc__law_draw.nd (me_op op_oMod (me_op op_oAdd (me_ix (me_var 0) (me_int)) (me_op op_oMul2 (me_int) (me_ix (me_var 0) (me_int)))) (me_int))) (mss_cons (ms_set 3 sc__law_draw.nd (me_op op_oAdd (me_op op_oMul2 (me_op op_oMod (me_op op_oMul2 (me_var 2) (me_var 2)) (me_int)) (me_var 2)) (me_op op_oMul2 (me_int) (me_ix (me_var 0) (me_int))))) (mss_cons (ms_set 4 sc__law_draw.nd (me_op op_oMod (me_op op_oAdd (me_var 3) (me_op op_oMod (me_ix (me_var 0) (me_int)) (me_int))) (me_int))) (mss_one (ms_ret (me_op op_oMod (me_op op_oFdiv (me_op op_oMod (me_op op_oMul2 (me_var 4) (me_var 4)) (me_int)) (me_int)) (me_var 1))))))))
theorem ok__law_draw (C : KM K mg) : Cd P w K mg base 1 "_law_draw" [] m__law_draw := by
  obtain ⟨fd, F⟩ := fd__law_draw C
  exact ⟨_, fd, ["_law_stream_here", "_law_total"], [], [], fg__law_draw C F, (C.glo 26), F.kp, F.bindsN fun _ _ _ _ _ _ us hl => (match us, hl with | [_, _], _ => rfl), .nil, fun _ _ => .nil⟩
theorem sc__law_outcome : FnScope ["_law_call", "e"] ["_law_call"] (defScope s__law_outcome) := ⟨rfl, rfl, rfl, by decide +kernel, rfl, by decide +kernel, by decide +kernel⟩
theorem fd__law_outcome (C : KM K mg) : ∃ fd, FunD K "_law_outcome" "_law_outcome" (defArgs s__law_outcome) (defBody s__law_outcome) (defScope s__law_outcome) [] [] (He.ga K "_law_outcome") fd := C.says.def_ 4 (d := d__law_outcome) rfl
theorem hm__law_outcome_InvalidSteps : h__law_outcome "InvalidSteps" = on0 (fun h => .ok (.str "steps") h) := by
  funext p h
  unfold h__law_outcome
  rw [if_pos rfl]
theorem hm__law_outcome_InvalidNumber : h__law_outcome "InvalidNumber" = on1 "value" (resN "number ") := by
  funext p h
  unfold h__law_outcome
  rw [if_neg (by decide +kernel), if_pos rfl]
theorem gv__law_outcome {X : Cx} (C : KM X.K X.mg) {k : Nat} {g : Addr} {cdg : Value} {q : Str} : GvF X k ["_law_call", "e"] "_law_outcome" (defScope s__law_outcome) g cdg (defBody s__law_outcome) "_law_call" q m__law_outcome := by
  refine giv_many (i := 1) (n := "e") (ok := [("InvalidSteps", He.ga X.K "InvalidSteps"), ("InvalidNumber", He.ga X.K "InvalidNumber")]) sc__law_outcome.nd rfl (by decide) rfl (fun s H hgd room => ?_) (fun c p h v h' e => ?_) (fun s H => pe_str) (fun H m => .str _)
  · have hun : (X.A.deeper (envOfC "_law_outcome" (defScope s__law_outcome) s.heap.objs.size g cdg)).units + 200 < cLine := by have := room.un; omega
    exact .cons [("InvalidSteps", He.ga X.K "InvalidSteps")] (List.forall_mem_cons.mpr ⟨⟨tst_name ⟨rfl, by decide, .inl (C.glo 13)⟩ (xm_InvalidSteps_HindcostError C), by rw [hm__law_outcome_InvalidSteps]; exact hc_n (sf := fun a => sRet (eIf (tAnd (tB (eIs0 1 a true)) (tNot (tB (eIs0 1 a false)))) (eC (.str "steps")) (eC (.str "other")))) (fun a oe pn hz hf => mss_one (ms_ret (me_if (mt_w (mw_and (mt_val (me_is0 (b := true) (exc_InvalidSteps C) hz hf rfl rfl (pe_glob (v := .ref (He.ga _ "InvalidSteps")) rfl (C.glo 8) rfl) (fun _ h => h) (ki_InvalidSteps_InvalidSteps C) (C.free 0))) (mw_and1 (mt_not (mt_val (me_is0 (b := false) (exc_InvalidSteps C) hz hf rfl rfl (pe_glob (v := .ref (He.ga _ "InvalidSystem")) rfl (C.glo 9) rfl) (fun _ h => h) (ki_InvalidSteps_InvalidSystem C) (C.free 0))))))) (me_str) (me_str)))) (fun a h v h' e => by simp only [s_ret, s_if, k_ifT, k_ifF, s_tB, k_tB, s_and, k_andT, k_andF, s_or, k_orT, k_orF, s_not, k_not, s_eand, k_eandT, k_eandF, s_enot, k_enot, Bool.not_true, Bool.not_false, is0_at (i := 1) (n := (["_law_call", "e"] : List Str).length) (by decide)]; exact fin_c e)⟩, (fun _ z => nomatch z)⟩) (List.forall_mem_cons.mpr ⟨tst_name ⟨rfl, by decide, .inl (C.glo 13)⟩ (xm_InvalidNumber_HindcostError C), (fun _ z => nomatch z)⟩) (.cons [("InvalidNumber", He.ga X.K "InvalidNumber")] (List.forall_mem_cons.mpr ⟨⟨tst_name ⟨rfl, by decide, .inl (C.glo 12)⟩ (xm_InvalidNumber_InvalidNumber C), by rw [hm__law_outcome_InvalidNumber]; exact hc_f (sf := fun a dd => sRet (eIf (tB (eIs1 1 a dd true)) (eOp oAddR (eC (.str "number ")) (eAp oReprN (aCons (eXf 1 a dd "value") (aNil)))) (eC (.str "other")))) (fun a oe dd pn hz hf => mss_one (ms_ret (me_if (mt_val (me_is1 (b := true) (exc_InvalidNumber C) hz hf rfl rfl (pe_bltn (v := .ty "KeyError") rfl (C.free 10) (by decide +kernel) rfl) (fun _ h => h) (ki_InvalidNumber_KeyError C) (C.free 0))) (me_op op_oAddR (me_str) (me_callB (call_oReprNU hun hgd) (C.free 11) (by decide +kernel) (ma_cons (me_xf (exc_InvalidNumber C) (own_InvalidNumber C).noN hz hf rfl rfl) (ma_nil)))) (me_str)))) (fun a dd x h v h' e => by simp only [s_ret, s_if, k_ifT, k_ifF, s_tB, k_tB, s_and, k_andT, k_andF, s_or, k_orT, k_orF, s_not, k_not, s_eand, k_eandT, k_eandF, s_enot, k_enot, Bool.not_true, Bool.not_false, is1_at (i := 1) (n := (["_law_call", "e"] : List Str).length) (by decide)]; exact fin_n (xf_at (i := 1) (n := (["_law_call", "e"] : List Str).length) (by decide)) e)⟩, (fun _ z => nomatch z)⟩) (fun _ z => nomatch z) (.any _))
  · unfold h__law_outcome at e
    by_cases hc : c = "InvalidSteps"
    · subst hc
      exact ⟨_, (plain_InvalidSteps C).gC, by simp⟩
    rw [if_neg hc] at e
    by_cases hc : c = "InvalidNumber"
    · subst hc
      exact ⟨_, (own_InvalidNumber C).gC, by simp⟩
    rw [if_neg hc] at e
    cases e
theorem sc__law_least_sums : FnScope ["_law_size", "_law_steps_here", "_law_sums", "_law_changed", "_law_here", "_law_middle", "_law_there", "_law_cost", "_law_total", "_law_pair"] ["_law_size", "_law_steps_here"] (defScope s__law_least_sums) := ⟨rfl, rfl, rfl, by decide +kernel, rfl, by decide +kernel, by decide +kernel⟩
theorem fd__law_least_sums (C : KM K mg) : ∃ fd, FunD K "_law_least_sums" "_law_least_sums" (defArgs s__law_least_sums) (defBody s__law_least_sums) (defScope s__law_least_sums) [] [] (He.ga K "_law_least_sums") fd := C.says.def_ 5 (d := d__law_least_sums) rfl
theorem fg__law_least_sums (C : KM K mg) {fd : FuncData} (F : FunD K "_law_least_sums" "_law_least_sums" (defArgs s__law_least_sums) (defBody s__law_least_sums) (defScope s__law_least_sums) [] [] (He.ga K "_law_least_sums") fd) : FnG P w K mg base 1 (He.ga K "_law_least_sums") fd ["_law_size", "_law_steps_here"] m__law_least_sums := by
  refine fnG_of (k := 0) (N := ["_law_size", "_law_steps_here", "_law_sums", "_law_changed", "_law_here", "_law_middle", "_law_there", "_law_cost", "_law_total", "_law_pair"]) (b := b__law_least_sums) F sc__law_least_sums fun cdv A outer s H E hr hgd => ?_
  have tk : Takes (cxOf (L2.CX P w) P w K mg base ["_law_size", "_law_steps_here", "_law_sums", "_law_changed", "_law_here", "_law_middle", "_law_there", "_law_cost", "_law_total", "_law_pair"] "_law_least_sums" (defScope s__law_least_sums) (He.ga K "_law_least_sums") cdv A outer s H E) (WB E) := takes_of rfl rfl rfl rfl
  unfold b__law_least_sums
  exact mss_cons (ms_set 2 sc__law_least_sums.nd (me_callT (call_oDictN hr) (C.free 14) (by decide +kernel) (ma_cons (me_lc [("_law_here", 4)] rfl sc__law_least_sums.nd (mi_range1 (ma_cons (me_var 0) (ma_nil)) (C.free 3)) (blkOk_by (by kernel_rfl)) (fun _ _ _ _ _ => mg_name 4 sc__law_least_sums.nd) (fun _ _ _ _ _ => mts_nil) (fun _ _ _ _ _ => me_tup (ma_cons (me_tup (ma_cons (me_var 4) (ma_cons (me_var 4) (ma_nil)))) (ma_cons (me_int) (ma_nil))))) (ma_nil)))) (mss_cons (ms_set 3 sc__law_least_sums.nd (me_bl)) (mss_cons (ms_while (passes_of rfl) (mt_val (me_var 3)) (mss_cons (ms_set 3 sc__law_least_sums.nd (me_bl)) (mss_one (ms_for (passes_of rfl) rfl (mi_range1 (ma_cons (me_var 0) (ma_nil)) (C.free 3)) (mg_name 4 sc__law_least_sums.nd) (mss_one (ms_for (passes_of rfl) rfl (mi_seq (me_var 1)) (mg_tup rfl (mgs_cons (mg_name 5 sc__law_least_sums.nd) (mgs_cons (mg_name 6 sc__law_least_sums.nd) (mgs_cons (mg_name 7 sc__law_least_sums.nd) (mgs_nil)))) (gsN_cons (gsN_cons (gsN_cons (gsN_nil))))) (mss_one (ms_if (mt_cmp (op_oInD hr) (me_tup (ma_cons (me_var 4) (ma_cons (me_var 5) (ma_nil)))) (me_var 2)) (mss_cons (ms_set 8 sc__law_least_sums.nd (me_op op_oAdd (me_ixN hr (me_var 2) (me_tup (ma_cons (me_var 4) (ma_cons (me_var 5) (ma_nil))))) (me_var 7))) (mss_one (ms_if (mt_cmp op_oLt (me_var 8) (me_dgetN hr (me_var 2) (me_tup (ma_cons (me_var 4) (ma_cons (me_var 6) (ma_nil)))) (me_op op_oAdd (me_var 8) (me_int)) ⟨rfl, rfl, rfl, rfl⟩)) (mss_cons (ms_putN hr (me_var 8) (me_var 2) (me_tup (ma_cons (me_var 4) (ma_cons (me_var 6) (ma_nil))))) (mss_one (ms_set 3 sc__law_least_sums.nd (me_bl)))) (mss_nil)))) (mss_nil))))))))) (mss_cons (ms_if (mt_w (mw_or (mt_cmp op_oLt (me_callB call_oLenN (C.free 5) (by decide +kernel) (ma_cons (me_var 2) (ma_nil))) (me_op op_oMul2 (me_var 0) (me_var 0))) (mw_or1 (mt_cmp op_oGt (me_callB (call_oMax2 rfl) (C.free 7) (by decide +kernel) (ma_cons (me_lcDN [("_law_pair", 9)] rfl sc__law_least_sums.nd rfl (blkOk_by (by kernel_rfl)) (fun _ _ _ _ _ => mg_name 9 sc__law_least_sums.nd) (fun _ _ _ _ _ => pe_fzN hr)) (ma_nil))) (me_int))))) (mss_one (ms_ret (me_non))) (mss_nil)) (mss_one (ms_ret (me_callT call_oTuple (C.free 4) (by decide +kernel) (ma_cons (me_lc [("_law_here", 4)] rfl sc__law_least_sums.nd (mi_range1 (ma_cons (me_var 0) (ma_nil)) (C.free 3)) (blkOk_by (by kernel_rfl)) (fun _ _ _ _ _ => mg_name 4 sc__law_least_sums.nd) (fun _ _ _ _ _ => mts_nil) (fun _ _ _ _ _ => me_callT call_oTuple (C.free 4) (by decide +kernel) (ma_cons (me_lc [("_law_there", 6)] rfl sc__law_least_sums.nd (mi_range1 (ma_cons (me_var 0) (ma_nil)) (C.free 3)) (blkOk_by (by kernel_rfl)) (fun _ _ _ _ _ => mg_name 6 sc__law_least_sums.nd) (fun _ _ _ _ _ => mts_nil) (fun _ _ _ _ _ => me_ixN hr (me_var 2) (me_tup (ma_cons (me_var 4) (ma_cons (me_var 6) (ma_nil)))))) (ma_nil)))) (ma_nil))))))))
theorem ok__law_least_sums (C : KM K mg) : Cd P w K mg base 1 "_law_least_sums" [] m__law_least_sums := by
  obtain ⟨fd, F⟩ := fd__law_least_sums C
  exact ⟨_, fd, ["_law_size", "_law_steps_here"], [], [], fg__law_least_sums C F, (C.glo 27), F.kp, F.bindsN fun _ _ _ _ _ _ us hl => (match us, hl with | [_, _], _ => rfl), .nil, fun _ _ => .nil⟩
theorem sc_is_step : FnScope ["value", "size", "here", "there", "cost"] ["value", "size"] (defScope s_is_step) := ⟨rfl, rfl, rfl, by decide +kernel, rfl, by decide +kernel, by decide +kernel⟩
theorem fd_is_step (C : KM K mg) : ∃ fd, FunD K "is_step" "is_step" (defArgs s_is_step) (defBody s_is_step) (defScope s_is_step) [] [] (He.ga K "is_step") fd := C.says.def_ 6 (d := d_is_step) rfl
theorem fg_is_step (C : KM K mg) {fd : FuncData} (F : FunD K "is_step" "is_step" (defArgs s_is_step) (defBody s_is_step) (defScope s_is_step) [] [] (He.ga K "is_step") fd) : FnG P w K mg base 2 (He.ga K "is_step") fd ["value", "size"] m_is_step := by
  refine fnG_of (k := 1) (N := ["value", "size", "here", "there", "cost"]) (b := b_is_step) F sc_is_step fun cdv A outer s H E hr hgd => ?_
  have tk : Takes (cxOf (L2.CX P w) P w K mg base ["value", "size", "here", "there", "cost"] "is_step" (defScope s_is_step) (He.ga K "is_step") cdv A outer s H E) (WB E) := takes_of rfl rfl rfl rfl
  unfold b_is_step
  exact mss_cons (ms_if (mt_w (mw_or (mt_not (mt_val (me_isi (C.free 0) (C.free 4) (by decide +kernel) isi_tuple (me_var 0)))) (mw_or1 (mt_cmp (op_oNe2 hr) (me_callB call_oLen (C.free 5) (by decide +kernel) (ma_cons (me_var 0) (ma_nil))) (me_int))))) (mss_one (ms_ret (me_bl))) (mss_nil)) (mss_cons (ms_asg (me_var 0) (mg_tup rfl (mgs_cons (mg_name 2 sc_is_step.nd) (mgs_cons (mg_name 3 sc_is_step.nd) (mgs_cons (mg_name 4 sc_is_step.nd) (mgs_nil)))) (gsN_cons (gsN_cons (gsN_cons (gsN_nil)))))) (mss_cons (ms_if (mt_w (mw_or (mt_not (mt_val (me_call (ok_is_integer C).loc hr (by decide) hgd tk (ma_cons (me_var 2) (ma_cons (me_int) (ma_cons (me_op op_oSub (me_var 1) (me_int)) (ma_nil))))))) (mw_or1 (mt_not (mt_val (me_call (ok_is_integer C).loc hr (by decide) hgd tk (ma_cons (me_var 3) (ma_cons (me_int) (ma_cons (me_op op_oSub (me_var 1) (me_int)) (ma_nil)))))))))) (mss_one (ms_ret (me_bl))) (mss_nil)) (mss_one (ms_ret (me_and (me_cmp (op_oNe2 hr) (me_var 2) (me_var 3)) (me_one (me_call (ok_is_integer C).loc hr (by decide) hgd tk (ma_cons (me_var 4) (ma_cons (me_int) (ma_cons (me_gint (C.int 15)) (ma_nil)))))))))))
theorem ok_is_step (C : KM K mg) : Cd P w K mg base 2 "is_step" [] m_is_step := by
  obtain ⟨fd, F⟩ := fd_is_step C
  exact ⟨_, fd, ["value", "size"], [], [], fg_is_step C F, (C.glo 28), F.kp, F.bindsN fun _ _ _ _ _ _ us hl => (match us, hl with | [_, _], _ => rfl), .nil, fun _ _ => .nil⟩
theorem sc__law_unrelated : FnScope ["_law_stream_here", "_law_some"] ["_law_stream_here"] (defScope s__law_unrelated) := ⟨rfl, rfl, rfl, by decide +kernel, rfl, by decide +kernel, by decide +kernel⟩
theorem fd__law_unrelated (C : KM K mg) : ∃ fd, FunD K "_law_unrelated" "_law_unrelated" (defArgs s__law_unrelated) (defBody s__law_unrelated) (defScope s__law_unrelated) [] [] (He.ga K "_law_unrelated") fd := C.says.def_ 7 (d := d__law_unrelated) rfl
theorem fg__law_unrelated (C : KM K mg) {fd : FuncData} (F : FunD K "_law_unrelated" "_law_unrelated" (defArgs s__law_unrelated) (defBody s__law_unrelated) (defScope s__law_unrelated) [] [] (He.ga K "_law_unrelated") fd) : FnG P w K mg base 2 (He.ga K "_law_unrelated") fd ["_law_stream_here"] m__law_unrelated := by
  refine fnG_of (k := 1) (N := ["_law_stream_here", "_law_some"]) (b := b__law_unrelated) F sc__law_unrelated fun cdv A outer s H E hr hgd => ?_
  have tk : Takes (cxOf (L2.CX P w) P w K mg base ["_law_stream_here", "_law_some"] "_law_unrelated" (defScope s__law_unrelated) (He.ga K "_law_unrelated") cdv A outer s H E) (WB E) := takes_of rfl rfl rfl rfl
  unfold b__law_unrelated
  exact mss_cons (ms_set 1 sc__law_unrelated.nd (me_lst (ma_cons (me_non) (ma_cons (me_bl) (ma_cons (me_bl) (ma_cons (me_int) (ma_cons (me_int) (ma_cons (me_neg (me_int)) (ma_cons (me_int) (ma_cons (me_str) (ma_cons (me_str) (ma_cons (me_str) (ma_cons (me_tup (ma_nil)) (ma_cons (me_lst (ma_nil)) (ma_cons (me_d0) (ma_cons (me_tup (ma_cons (me_int) (ma_nil))) (ma_cons (me_tup (ma_cons (me_non) (ma_nil))) (ma_cons (me_tup (ma_cons (me_tup (ma_cons (me_int) (ma_cons (me_int) (ma_nil)))) (ma_cons (me_tup (ma_cons (me_int) (ma_cons (me_int) (ma_nil)))) (ma_nil)))) (ma_cons (me_op op_oPow (me_int) (me_int)) (ma_nil)))))))))))))))))))) (mss_one (ms_ret (me_ix (me_var 1) (me_call (ok__law_draw C).loc hr (by decide) hgd tk (ma_cons (me_var 0) (ma_cons (me_int) (ma_nil)))))))
theorem ok__law_unrelated (C : KM K mg) : Cd P w K mg base 2 "_law_unrelated" [] m__law_unrelated := by
  obtain ⟨fd, F⟩ := fd__law_unrelated C
  exact ⟨_, fd, ["_law_stream_here"], [], [], fg__law_unrelated C F, (C.glo 29), F.kp, F.bindsN fun _ _ _ _ _ _ us hl => (match us, hl with | [_], _ => rfl), .nil, fun _ _ => .nil⟩
theorem sc__law_steps : FnScope ["_law_stream_here", "_law_size", "_law_top", "_law_found", "_law_turn", "_law_here", "_law_there"] ["_law_stream_here", "_law_size"] (defScope s__law_steps) := ⟨rfl, rfl, rfl, by decide +kernel, rfl, by decide +kernel, by decide +kernel⟩
theorem fd__law_steps (C : KM K mg) : ∃ fd, FunD K "_law_steps" "_law_steps" (defArgs s__law_steps) (defBody s__law_steps) (defScope s__law_steps) [] [] (He.ga K "_law_steps") fd := C.says.def_ 8 (d := d__law_steps) rfl
theorem fg__law_steps (C : KM K mg) {fd : FuncData} (F : FunD K "_law_steps" "_law_steps" (defArgs s__law_steps) (defBody s__law_steps) (defScope s__law_steps) [] [] (He.ga K "_law_steps") fd) : FnG P w K mg base 2 (He.ga K "_law_steps") fd ["_law_stream_here", "_law_size"] m__law_steps := by
  refine fnG_of (k := 1) (N := ["_law_stream_here", "_law_size", "_law_top", "_law_found", "_law_turn", "_law_here", "_law_there"]) (b := b__law_steps) F sc__law_steps fun cdv A outer s H E hr hgd => ?_
  have tk : Takes (cxOf (L2.CX P w) P w K mg base ["_law_stream_here", "_law_size", "_law_top", "_law_found", "_law_turn", "_law_here", "_law_there"] "_law_steps" (defScope s__law_steps) (He.ga K "_law_steps") cdv A outer s H E) (WB E) := takes_of rfl rfl rfl rfl
  unfold b__law_steps
  exact mss_cons (ms_set 2 sc__law_steps.nd (me_ix (me_lst (ma_cons (me_int) (ma_cons (me_int) (ma_cons (me_int) (ma_cons (me_int) (ma_cons (me_int) (ma_nil))))))) (me_call (ok__law_draw C).loc hr (by decide) hgd tk (ma_cons (me_var 0) (ma_cons (me_int) (ma_nil)))))) (mss_cons (ms_set 3 sc__law_steps.nd (me_lst (ma_nil))) (mss_cons (ms_if (mt_cmp op_oGt (me_call (ok__law_draw C).loc hr (by decide) hgd tk (ma_cons (me_var 0) (ma_cons (me_int) (ma_nil)))) (me_int)) (mss_cons (ms_set 4 sc__law_steps.nd (me_op op_oAdd (me_int) (me_call (ok__law_draw C).loc hr (by decide) hgd tk (ma_cons (me_var 0) (ma_cons (me_op op_oSub (me_var 1) (me_int)) (ma_nil)))))) (mss_one (ms_for (passes_of rfl) rfl (mi_range1 (ma_cons (me_var 1) (ma_nil)) (C.free 3)) (mg_name 5 sc__law_steps.nd) (mss_cons (ms_set 6 sc__law_steps.nd (me_if (mt_cmp op_oGt (me_call (ok__law_draw C).loc hr (by decide) hgd tk (ma_cons (me_var 0) (ma_cons (me_int) (ma_nil)))) (me_int)) (me_op op_oMod (me_op op_oAdd (me_var 5) (me_int)) (me_var 1)) (me_op op_oMod (me_op op_oAdd (me_var 5) (me_var 4)) (me_var 1)))) (mss_cons (ms_expr (me_append (me_var 3) (ma_cons (me_tup (ma_cons (me_var 5) (ma_cons (me_var 6) (ma_cons (me_op op_oAdd (me_int) (me_call (ok__law_draw C).loc hr (by decide) hgd tk (ma_cons (me_var 0) (ma_cons (me_var 2) (ma_nil))))) (ma_nil))))) (ma_nil)))) (mss_one (ms_expr (me_append (me_var 3) (ma_cons (me_tup (ma_cons (me_var 5) (ma_cons (me_op op_oMod (me_op op_oAdd (me_var 5) (me_int)) (me_var 1)) (ma_cons (me_op op_oAdd (me_int) (me_call (ok__law_draw C).loc hr (by decide) hgd tk (ma_cons (me_var 0) (ma_cons (me_var 2) (ma_nil))))) (ma_nil))))) (ma_nil)))))))))) (mss_nil)) (mss_cons (ms_for (passes_of rfl) rfl (mi_range1 (ma_cons (me_call (ok__law_draw C).loc hr (by decide) hgd tk (ma_cons (me_var 0) (ma_cons (me_int) (ma_nil)))) (ma_nil)) (C.free 3)) (mg_name 4 sc__law_steps.nd) (mss_cons (ms_set 5 sc__law_steps.nd (me_call (ok__law_draw C).loc hr (by decide) hgd tk (ma_cons (me_var 0) (ma_cons (me_var 1) (ma_nil))))) (mss_cons (ms_set 6 sc__law_steps.nd (me_op op_oMod (me_op op_oAdd (me_op op_oAdd (me_var 5) (me_int)) (me_call (ok__law_draw C).loc hr (by decide) hgd tk (ma_cons (me_var 0) (ma_cons (me_op op_oSub (me_var 1) (me_int)) (ma_nil))))) (me_var 1))) (mss_one (ms_expr (me_append (me_var 3) (ma_cons (me_tup (ma_cons (me_var 5) (ma_cons (me_var 6) (ma_cons (me_op op_oAdd (me_int) (me_call (ok__law_draw C).loc hr (by decide) hgd tk (ma_cons (me_var 0) (ma_cons (me_var 2) (ma_nil))))) (ma_nil))))) (ma_nil)))))))) (mss_one (ms_ret (me_callT call_oTuple (C.free 4) (by decide +kernel) (ma_cons (me_op op_oAdd (me_var 3) (me_sl (me_var 3) (mo_none) (mo_some (me_call (ok__law_draw C).loc hr (by decide) hgd tk (ma_cons (me_var 0) (ma_cons (me_int) (ma_nil))))))) (ma_nil))))))))
theorem ok__law_steps (C : KM K mg) : Cd P w K mg base 2 "_law_steps" [] m__law_steps := by
  obtain ⟨fd, F⟩ := fd__law_steps C
  exact ⟨_, fd, ["_law_stream_here", "_law_size"], [], [], fg__law_steps C F, (C.glo 30), F.kp, F.bindsN fun _ _ _ _ _ _ us hl => (match us, hl with | [_, _], _ => rfl), .nil, fun _ _ => .nil⟩
theorem sc_switching_from_steps : FnScope ["size", "steps", "table", "row", "cost", "step"] ["size", "steps"] (defScope s_switching_from_steps) := ⟨rfl, rfl, rfl, by decide +kernel, rfl, by decide +kernel, by decide +kernel⟩
theorem fd_switching_from_steps (C : KM K mg) : ∃ fd, FunD K "switching_from_steps" "switching_from_steps" (defArgs s_switching_from_steps) (defBody s_switching_from_steps) (defScope s_switching_from_steps) [] [] (He.ga K "switching_from_steps") fd := C.says.def_ 9 (d := d_switching_from_steps) rfl
theorem fg_switching_from_steps (C : KM K mg) {fd : FuncData} (F : FunD K "switching_from_steps" "switching_from_steps" (defArgs s_switching_from_steps) (defBody s_switching_from_steps) (defScope s_switching_from_steps) [] [] (He.ga K "switching_from_steps") fd) : FnG P w K mg base 3 (He.ga K "switching_from_steps") fd ["size", "steps"] m_switching_from_steps := by
  refine fnG_of (k := 2) (N := ["size", "steps", "table", "row", "cost", "step"]) (b := b_switching_from_steps) F sc_switching_from_steps fun cdv A outer s H E hr hgd => ?_
  have tk : Takes (cxOf (L2.CX P w) P w K mg base ["size", "steps", "table", "row", "cost", "step"] "switching_from_steps" (defScope s_switching_from_steps) (He.ga K "switching_from_steps") cdv A outer s H E) (WB E) := takes_of rfl rfl rfl rfl
  unfold b_switching_from_steps
  exact mss_cons (ms_if (mt_not (mt_val (me_call (ok_is_integer C).loc hr (by decide) hgd tk (ma_cons (me_var 0) (ma_cons (me_gint (C.int 17)) (ma_cons (me_gint (C.int 16)) (ma_nil))))))) (mss_one (ms_raise1 rfl tk PySem.FLX.newOf_Key (own_InvalidNumber C) (ini_InvalidNumber C) hr (ma_cons (me_var 0) (ma_nil)))) (mss_nil)) (mss_cons (ms_if (mt_w (mw_or (mt_not (mt_val (me_isi (C.free 0) (C.free 4) (by decide +kernel) isi_tuple (me_var 1)))) (mw_or1 (mt_not (mt_val (me_callB (call_oAll rfl) (C.free 18) (by decide +kernel) (ma_cons (me_lc [("step", 5)] rfl sc_switching_from_steps.nd (mi_seq (me_var 1)) (blkOk_by (by kernel_rfl)) (fun _ _ _ _ _ => mg_name 5 sc_switching_from_steps.nd) (fun _ _ _ _ _ => mts_nil) (fun _ _ _ _ _ => me_call (ok_is_step C).loc hr (by decide) hgd takes_WN (ma_cons (me_var 5) (ma_cons (me_var 0) (ma_nil))))) (ma_nil)))))))) (mss_one (ms_raise0 rfl tk PySem.F.excBase_ValueError (plain_InvalidSteps C).q (plain_InvalidSteps C).gC (plain_InvalidSteps C).kC (plain_InvalidSteps C).exC (plain_InvalidSteps C).tyC)) (mss_nil)) (mss_cons (ms_set 2 sc_switching_from_steps.nd (me_call (ok_shortest_sums C).loc hr (by decide) hgd tk (ma_cons (me_var 0) (ma_cons (me_var 1) (ma_nil))))) (mss_cons (ms_if (mt_val (me_callB (call_oAny rfl) (C.free 19) (by decide +kernel) (ma_cons (me_lc2 [("row", 3), ("cost", 4)] [4] rfl sc_switching_from_steps.nd (mi_seq (me_var 2)) (blkOk_by (by kernel_rfl)) (by decide) (fun _ _ _ _ _ => mg_more (mg_name 3 sc_switching_from_steps.nd) (by decide)) (fun _ _ _ _ _ => mts_nil) (fun _ _ _ _ _ => mi_seq (me_var 3)) (fun _ _ _ _ _ => mg_name 4 sc_switching_from_steps.nd) (fun _ _ _ _ _ => mts_nil) (fun _ _ _ _ _ => me_or (me_cmp op_oIs (me_var 4) (me_non)) (me_one (me_cmp op_oGt (me_var 4) (me_gint (C.int 15)))))) (ma_nil)))) (mss_one (ms_raise0 rfl tk PySem.F.excBase_ValueError (plain_InvalidSteps C).q (plain_InvalidSteps C).gC (plain_InvalidSteps C).kC (plain_InvalidSteps C).exC (plain_InvalidSteps C).tyC)) (mss_nil)) (mss_one (ms_ret (me_var 2))))))
theorem ok_switching_from_steps (C : KM K mg) : Cd P w K mg base 3 "switching_from_steps" [] m_switching_from_steps := by
  obtain ⟨fd, F⟩ := fd_switching_from_steps C
  exact ⟨_, fd, ["size", "steps"], [], [], fg_switching_from_steps C F, (C.glo 31), F.kp, F.bindsN fun _ _ _ _ _ _ us hl => (match us, hl with | [_, _], _ => rfl), .nil, fun _ _ => .nil⟩
theorem sc__law_damaged : FnScope ["_law_stream_here", "_law_value", "_law_deep", "_law_way", "_law_at", "_law_some", "_law_other"] ["_law_stream_here", "_law_value", "_law_deep"] (defScope s__law_damaged) := ⟨rfl, rfl, rfl, by decide +kernel, rfl, by decide +kernel, by decide +kernel⟩
theorem fd__law_damaged (C : KM K mg) : ∃ fd, FunD K "_law_damaged" "_law_damaged" (defArgs s__law_damaged) (defBody s__law_damaged) (defScope s__law_damaged) [] [] (He.ga K "_law_damaged") fd := C.says.def_ 10 (d := d__law_damaged) rfl
theorem fg__law_damaged_0 (C : KM K mg) {fd : FuncData} (F : FunD K "_law_damaged" "_law_damaged" (defArgs s__law_damaged) (defBody s__law_damaged) (defScope s__law_damaged) [] [] (He.ga K "_law_damaged") fd) : FnG P w K mg base 3 (He.ga K "_law_damaged") fd ["_law_stream_here", "_law_value", "_law_deep"] m__law_damaged_0 := by
  refine fnG_of (k := 2) (N := ["_law_stream_here", "_law_value", "_law_deep", "_law_way", "_law_at", "_law_some", "_law_other"]) (b := b__law_damaged_0) F sc__law_damaged fun cdv A outer s H E hr hgd => ?_
  have tk : Takes (cxOf (L2.CX P w) P w K mg base ["_law_stream_here", "_law_value", "_law_deep", "_law_way", "_law_at", "_law_some", "_law_other"] "_law_damaged" (defScope s__law_damaged) (He.ga K "_law_damaged") cdv A outer s H E) (WB E) := takes_of rfl rfl rfl rfl
  unfold b__law_damaged_0
  exact mss_cons (ms_set 3 sc__law_damaged.nd (me_call (ok__law_draw C).loc hr (by decide) hgd tk (ma_cons (me_var 0) (ma_cons (me_int) (ma_nil))))) (mss_cons (ms_if (mt_w (mw_and (mt_val (me_isi (C.free 0) (C.free 4) (by decide +kernel) isi_tuple (me_var 1))) (mw_and (mt_cmp (op_oNe2 hr) (me_var 1) (me_tup (ma_nil))) (mw_and (mt_cmp op_oGt (me_var 2) (me_int)) (mw_and1 (mt_cmp op_oLt (me_var 3) (me_int))))))) (mss_cons (ms_set 4 sc__law_damaged.nd (me_call (ok__law_draw C).loc hr (by decide) hgd tk (ma_cons (me_var 0) (ma_cons (me_callB call_oLen (C.free 5) (by decide +kernel) (ma_cons (me_var 1) (ma_nil))) (ma_nil))))) (mss_one (ms_never))) (mss_nil)) (mss_cons (ms_if (mt_val (me_isi (C.free 0) (C.free 4) (by decide +kernel) isi_tuple (me_var 1))) (mss_cons (ms_set 4 sc__law_damaged.nd (me_call (ok__law_draw C).loc hr (by decide) hgd tk (ma_cons (me_var 0) (ma_cons (me_op op_oAdd (me_callB call_oLen (C.free 5) (by decide +kernel) (ma_cons (me_var 1) (ma_nil))) (me_int)) (ma_nil))))) (mss_cons (ms_set 5 sc__law_damaged.nd (me_lst (ma_cons (me_callT call_oList (C.free 20) (by decide +kernel) (ma_cons (me_var 1) (ma_nil))) (ma_cons (me_op op_oAdd (me_sl (me_var 1) (mo_none) (mo_some (me_var 4))) (me_sl (me_var 1) (mo_some (me_op op_oAdd (me_var 4) (me_int))) (mo_none))) (ma_cons (me_op op_oAdd (me_op op_oAdd (me_sl (me_var 1) (mo_none) (mo_some (me_var 4))) (me_sl (me_var 1) (mo_some (me_var 4)) (mo_some (me_op op_oAdd (me_var 4) (me_int))))) (me_sl (me_var 1) (mo_some (me_var 4)) (mo_none))) (ma_cons (me_rev (me_var 1)) (ma_nil))))))) (mss_cons (ms_set 6 sc__law_damaged.nd (me_call (ok__law_unrelated C).loc hr (by decide) hgd tk (ma_cons (me_var 0) (ma_nil)))) (mss_one (ms_ret (me_ix (me_op op_oAdd (me_var 5) (me_lst (ma_cons (me_op op_oAdd (me_var 1) (me_tup (ma_cons (me_var 6) (ma_nil)))) (ma_cons (me_op op_oAdd (me_op op_oAdd (me_sl (me_var 1) (mo_none) (mo_some (me_var 4))) (me_tup (ma_cons (me_var 6) (ma_nil)))) (me_sl (me_var 1) (mo_some (me_op op_oAdd (me_var 4) (me_int))) (mo_none))) (ma_nil))))) (me_call (ok__law_draw C).loc hr (by decide) hgd tk (ma_cons (me_var 0) (ma_cons (me_int) (ma_nil)))))))))) (mss_nil)) (mss_cons (ms_if (mt_w (mw_and (mt_val (me_isi (C.free 0) (C.free 1) (by decide +kernel) isi_int (me_var 1))) (mw_and (mt_not (mt_val (me_isi (C.free 0) (C.free 2) (by decide +kernel) isi_bool (me_var 1)))) (mw_and1 (mt_cmp op_oLt (me_var 3) (me_int)))))) (mss_one (ms_ret (me_ix (me_lst (ma_cons (me_op op_oAdd (me_var 1) (me_int)) (ma_cons (me_op op_oSub (me_var 1) (me_int)) (ma_cons (me_non) (ma_cons (me_int) (ma_cons (me_int) (ma_cons (me_int) (ma_nil)))))))) (me_var 3)))) (mss_nil)) (mss_one (ms_ret (me_call (ok__law_unrelated C).loc hr (by decide) hgd tk (ma_cons (me_var 0) (ma_nil))))))))
theorem ok__law_damaged_0 (C : KM K mg) : Cd P w K mg base 3 "_law_damaged" [] m__law_damaged_0 := by
  obtain ⟨fd, F⟩ := fd__law_damaged C
  exact ⟨_, fd, ["_law_stream_here", "_law_value", "_law_deep"], [], [], fg__law_damaged_0 C F, (C.glo 32), F.kp, F.bindsN fun _ _ _ _ _ _ us hl => (match us, hl with | [_, _, _], _ => rfl), .nil, fun _ _ => .nil⟩
theorem sc__law_right : FnScope ["_law_size", "_law_steps_here", "_law_kept", "_law_due", "_law_found"] ["_law_size", "_law_steps_here"] (defScope s__law_right) := ⟨rfl, rfl, rfl, by decide +kernel, rfl, by decide +kernel, by decide +kernel⟩
theorem fd__law_right (C : KM K mg) : ∃ fd, FunD K "_law_right" "_law_right" (defArgs s__law_right) (defBody s__law_right) (defScope s__law_right) [] [] (He.ga K "_law_right") fd := C.says.def_ 11 (d := d__law_right) rfl
theorem fg__law_right (C : KM K mg) (B : TBs K mg base tf) {fd : FuncData} (F : FunD K "_law_right" "_law_right" (defArgs s__law_right) (defBody s__law_right) (defScope s__law_right) [] [] (He.ga K "_law_right") fd) : FnG P w K mg base 6 (He.ga K "_law_right") fd ["_law_size", "_law_steps_here"] m__law_right := by
  obtain ⟨fd__law_outcome0, F__law_outcome⟩ := fd__law_outcome C
  refine fnG_ofC (k := 5) (N := ["_law_size", "_law_steps_here", "_law_kept", "_law_due", "_law_found"]) (b := b__law_right) F sc__law_right fun cdv hc0 A outer s H E hr hgd => ?_
  have hcc := code_of (y := "_law_right") F hc0
  have tk : Takes (cxOf (L2.CX P w) P w K mg base ["_law_size", "_law_steps_here", "_law_kept", "_law_due", "_law_found"] "_law_right" (defScope s__law_right) (He.ga K "_law_right") cdv A outer s H E) (WB E) := takes_of rfl rfl rfl rfl
  unfold b__law_right
  exact mss_cons (ms_par 2 3 rfl sc__law_right.nd (ma_cons (me_callB (call_oReprN hr hgd) (C.free 11) (by decide +kernel) (ma_cons (me_var 1) (ma_nil))) (ma_cons (me_call (ok__law_least_sums C).loc hr (by decide) hgd tk (ma_cons (me_var 0) (ma_cons (me_var 1) (ma_nil)))) (ma_nil)))) (mss_cons (ms_if (mt_cmp op_oIs (me_var 3) (me_non)) (mss_one (ms_ret (me_and (me_cmp (op_oEq2 hr) (me_lamF (tf := tf) (y := "_law_right") F__law_outcome (C.glo 21) (F__law_outcome.bindsN fun _ _ _ _ _ _ us hl => (match us, hl with | [_], _ => rfl)) sc__law_outcome rfl (.inl rfl) (fun cdv => gv__law_outcome C) B (by decide) hcc rfl hr hgd (by show LamX.LamS (defScope s__law_right) _; exact LamX.lamS_by (by decide +kernel)) (fun A outer s H E f c hr hgd => me_call (ok_switching_from_steps C).loc hr (by decide) hgd takes_lam (ma_cons (me_var 0) (ma_cons (me_var 1) (ma_nil))))) (me_str)) (me_one (me_cmp (op_oEq2 hr) (me_callB (call_oReprN hr hgd) (C.free 11) (by decide +kernel) (ma_cons (me_var 1) (ma_nil))) (me_var 2)))))) (mss_nil)) (mss_cons (ms_set 4 sc__law_right.nd (me_lst (ma_cons (me_call (ok_switching_from_steps C).loc hr (by decide) hgd tk (ma_cons (me_var 0) (ma_cons (me_var 1) (ma_nil)))) (ma_cons (me_call (ok_switching_from_steps C).loc hr (by decide) hgd tk (ma_cons (me_var 0) (ma_cons (me_var 1) (ma_nil)))) (ma_nil))))) (mss_one (ms_ret (me_and (me_cmp (op_oEq2 hr) (me_callB (call_oReprN hr hgd) (C.free 11) (by decide +kernel) (ma_cons (me_var 4) (ma_nil))) (me_callB (call_oReprN hr hgd) (C.free 11) (by decide +kernel) (ma_cons (me_lst (ma_cons (me_var 3) (ma_cons (me_var 3) (ma_nil)))) (ma_nil)))) (me_one (me_cmp (op_oEq2 hr) (me_callB (call_oReprN hr hgd) (C.free 11) (by decide +kernel) (ma_cons (me_var 1) (ma_nil))) (me_var 2))))))))
theorem ok__law_right (C : KM K mg) (B : TBs K mg base tf) : Cd P w K mg base 6 "_law_right" [] m__law_right := by
  obtain ⟨fd, F⟩ := fd__law_right C
  exact ⟨_, fd, ["_law_size", "_law_steps_here"], [], [], fg__law_right C B F, (C.glo 33), F.kp, F.bindsN fun _ _ _ _ _ _ us hl => (match us, hl with | [_, _], _ => rfl), .nil, fun _ _ => .nil⟩
theorem sc__law_errors_right : FnScope ["_law_stream_here", "_law_size", "_law_steps_here", "_law_odd", "_law_bad", "_law_none", "_law_found", "_law_at"] ["_law_stream_here", "_law_size", "_law_steps_here"] (defScope s__law_errors_right) := ⟨rfl, rfl, rfl, by decide +kernel, rfl, by decide +kernel, by decide +kernel⟩
theorem fd__law_errors_right (C : KM K mg) : ∃ fd, FunD K "_law_errors_right" "_law_errors_right" (defArgs s__law_errors_right) (defBody s__law_errors_right) (defScope s__law_errors_right) [] [] (He.ga K "_law_errors_right") fd := C.says.def_ 12 (d := d__law_errors_right) rfl
theorem fg__law_errors_right (C : KM K mg) (B : TBs K mg base tf) {fd : FuncData} (F : FunD K "_law_errors_right" "_law_errors_right" (defArgs s__law_errors_right) (defBody s__law_errors_right) (defScope s__law_errors_right) [] [] (He.ga K "_law_errors_right") fd) : FnG P w K mg base 6 (He.ga K "_law_errors_right") fd ["_law_stream_here", "_law_size", "_law_steps_here"] m__law_errors_right := by
  obtain ⟨fd__law_outcome0, F__law_outcome⟩ := fd__law_outcome C
  refine fnG_ofC (k := 5) (N := ["_law_stream_here", "_law_size", "_law_steps_here", "_law_odd", "_law_bad", "_law_none", "_law_found", "_law_at"]) (b := b__law_errors_right) F sc__law_errors_right fun cdv hc0 A outer s H E hr hgd => ?_
  have hcc := code_of (y := "_law_errors_right") F hc0
  have tk : Takes (cxOf (L2.CX P w) P w K mg base ["_law_stream_here", "_law_size", "_law_steps_here", "_law_odd", "_law_bad", "_law_none", "_law_found", "_law_at"] "_law_errors_right" (defScope s__law_errors_right) (He.ga K "_law_errors_right") cdv A outer s H E) (WB E) := takes_of rfl rfl rfl rfl
  unfold b__law_errors_right
  exact mss_cons (ms_set 3 sc__law_errors_right.nd (me_ix (me_lst (ma_cons (me_non) (ma_cons (me_bl) (ma_cons (me_int) (ma_cons (me_int) (ma_cons (me_int) (ma_cons (me_str) (ma_cons (me_tup (ma_cons (me_int) (ma_nil))) (ma_cons (me_lst (ma_nil)) (ma_cons (me_d0) (ma_cons (me_op op_oPow (me_int) (me_int)) (ma_nil)))))))))))) (me_call (ok__law_draw C).loc hr (by decide) hgd tk (ma_cons (me_var 0) (ma_cons (me_int) (ma_nil)))))) (mss_cons (ms_set 4 sc__law_errors_right.nd (me_lst (ma_cons (me_non) (ma_cons (me_callT call_oList (C.free 20) (by decide +kernel) (ma_cons (me_var 2) (ma_nil))) (ma_cons (me_d0) (ma_cons (me_int) (ma_cons (me_str) (ma_cons (me_tup (ma_cons (me_tup (ma_cons (me_int) (ma_cons (me_int) (ma_cons (me_int) (ma_nil))))) (ma_nil))) (ma_cons (me_tup (ma_cons (me_tup (ma_cons (me_int) (ma_cons (me_var 1) (ma_cons (me_int) (ma_nil))))) (ma_nil))) (ma_cons (me_tup (ma_cons (me_tup (ma_cons (me_neg (me_int)) (ma_cons (me_int) (ma_cons (me_int) (ma_nil))))) (ma_nil))) (ma_cons (me_tup (ma_cons (me_tup (ma_cons (me_int) (ma_cons (me_int) (ma_cons (me_int) (ma_nil))))) (ma_nil))) (ma_cons (me_tup (ma_cons (me_tup (ma_cons (me_int) (ma_cons (me_int) (ma_nil)))) (ma_nil))) (ma_nil))))))))))))) (mss_cons (ms_set 4 sc__law_errors_right.nd (me_op op_oAdd (me_var 4) (me_lst (ma_cons (me_tup (ma_cons (me_tup (ma_cons (me_int) (ma_cons (me_int) (ma_cons (me_int) (ma_nil))))) (ma_nil))) (ma_cons (me_tup (ma_cons (me_tup (ma_cons (me_int) (ma_cons (me_bl) (ma_cons (me_int) (ma_nil))))) (ma_nil))) (ma_cons (me_tup (ma_cons (me_tup (ma_cons (me_int) (ma_cons (me_int) (ma_cons (me_bl) (ma_nil))))) (ma_nil))) (ma_cons (me_tup (ma_cons (me_tup (ma_cons (me_int) (ma_cons (me_int) (ma_cons (me_non) (ma_nil))))) (ma_nil))) (ma_cons (me_tup (ma_cons (me_non) (ma_nil))) (ma_cons (me_tup (ma_cons (me_lst (ma_cons (me_int) (ma_cons (me_int) (ma_cons (me_int) (ma_nil))))) (ma_nil))) (ma_nil)))))))))) (mss_cons (ms_set 5 sc__law_errors_right.nd (me_ix (me_var 4) (me_call (ok__law_draw C).loc hr (by decide) hgd tk (ma_cons (me_var 0) (ma_cons (me_int) (ma_nil)))))) (mss_cons (ms_if (mt_val (me_isi (C.free 0) (C.free 4) (by decide +kernel) isi_tuple (me_var 5))) (mss_cons (ms_set 7 sc__law_errors_right.nd (me_call (ok__law_draw C).loc hr (by decide) hgd tk (ma_cons (me_var 0) (ma_cons (me_op op_oAdd (me_callB call_oLen (C.free 5) (by decide +kernel) (ma_cons (me_var 2) (ma_nil))) (me_int)) (ma_nil))))) (mss_one (ms_set 5 sc__law_errors_right.nd (me_op op_oAdd (me_op op_oAdd (me_sl (me_var 2) (mo_none) (mo_some (me_var 7))) (me_var 5)) (me_sl (me_var 2) (mo_some (me_var 7)) (mo_none)))))) (mss_nil)) (mss_cons (ms_set 6 sc__law_errors_right.nd (me_lst (ma_cons (me_lamF (tf := tf) (y := "_law_errors_right") F__law_outcome (C.glo 21) (F__law_outcome.bindsN fun _ _ _ _ _ _ us hl => (match us, hl with | [_], _ => rfl)) sc__law_outcome rfl (.inl rfl) (fun cdv => gv__law_outcome C) B (by decide) hcc rfl hr hgd (by show LamX.LamS (defScope s__law_errors_right) _; exact LamX.lamS_by (by decide +kernel)) (fun A outer s H E f c hr hgd => me_call (ok_switching_from_steps C).loc hr (by decide) hgd takes_lam (ma_cons (me_var 3) (ma_cons (me_var 5) (ma_nil))))) (ma_nil)))) (mss_cons (ms_expr (me_append (me_var 6) (ma_cons (me_lamF (tf := tf) (y := "_law_errors_right") F__law_outcome (C.glo 21) (F__law_outcome.bindsN fun _ _ _ _ _ _ us hl => (match us, hl with | [_], _ => rfl)) sc__law_outcome rfl (.inl rfl) (fun cdv => gv__law_outcome C) B (by decide) hcc rfl hr hgd (by show LamX.LamS (defScope s__law_errors_right) _; exact LamX.lamS_by (by decide +kernel)) (fun A outer s H E f c hr hgd => me_call (ok_switching_from_steps C).loc hr (by decide) hgd takes_lam (ma_cons (me_var 3) (ma_cons (me_var 2) (ma_nil))))) (ma_nil)))) (mss_cons (ms_expr (me_append (me_var 6) (ma_cons (me_lamF (tf := tf) (y := "_law_errors_right") F__law_outcome (C.glo 21) (F__law_outcome.bindsN fun _ _ _ _ _ _ us hl => (match us, hl with | [_], _ => rfl)) sc__law_outcome rfl (.inl rfl) (fun cdv => gv__law_outcome C) B (by decide) hcc rfl hr hgd (by show LamX.LamS (defScope s__law_errors_right) _; exact LamX.lamS_by (by decide +kernel)) (fun A outer s H E f c hr hgd => me_call (ok_switching_from_steps C).loc hr (by decide) hgd takes_lam (ma_cons (me_var 1) (ma_cons (me_var 5) (ma_nil))))) (ma_nil)))) (mss_one (ms_ret (me_cmp (op_oEq2 hr) (me_var 6) (me_op op_oAdd (me_op op_oMul2 (me_lst (ma_cons (me_op op_oAddR (me_str) (me_callB (call_oReprN hr hgd) (C.free 11) (by decide +kernel) (ma_cons (me_var 3) (ma_nil)))) (ma_nil))) (me_int)) (me_lst (ma_cons (me_str) (ma_nil))))))))))))))
theorem ok__law_errors_right (C : KM K mg) (B : TBs K mg base tf) : Cd P w K mg base 6 "_law_errors_right" [] m__law_errors_right := by
  obtain ⟨fd, F⟩ := fd__law_errors_right C
  exact ⟨_, fd, ["_law_stream_here", "_law_size", "_law_steps_here"], [], [], fg__law_errors_right C B F, (C.glo 34), F.kp, F.bindsN fun _ _ _ _ _ _ us hl => (match us, hl with | [_, _, _], _ => rfl), .nil, fun _ _ => .nil⟩
theorem sc_law : FnScope ["_law_script", "_law_at", "_law_stream_here", "_law_size", "_law_steps_here", "_law_changed", "_law_step"] ["_law_script"] (defScope s_law) := ⟨rfl, rfl, rfl, by decide +kernel, rfl, by decide +kernel, by decide +kernel⟩
theorem fd_law (C : KM K mg) : ∃ fd, FunD K "law" "law" (defArgs s_law) (defBody s_law) (defScope s_law) [] [] (He.ga K "law") fd := C.says.def_ 13 (d := d_law) rfl
theorem fg_law (C : KM K mg) (B : TBs K mg base tf) {fd : FuncData} (F : FunD K "law" "law" (defArgs s_law) (defBody s_law) (defScope s_law) [] [] (He.ga K "law") fd) : FnG P w K mg base 9 (He.ga K "law") fd ["_law_script"] m_law := by
  obtain ⟨fd__law_outcome0, F__law_outcome⟩ := fd__law_outcome C
  refine fnG_ofC (k := 8) (N := ["_law_script", "_law_at", "_law_stream_here", "_law_size", "_law_steps_here", "_law_changed", "_law_step"]) (b := b_law) F sc_law fun cdv hc0 A outer s H E hr hgd => ?_
  have hcc := code_of (y := "law") F hc0
  have tk : Takes (cxOf (L2.CX P w) P w K mg base ["_law_script", "_law_at", "_law_stream_here", "_law_size", "_law_steps_here", "_law_changed", "_law_step"] "law" (defScope s_law) (He.ga K "law") cdv A outer s H E) (WB E) := takes_of rfl rfl rfl rfl
  unfold b_law
  exact mss_cons (ms_for (passes_of rfl) rfl (mi_range1 (ma_cons (me_callB (call_oMax2 rfl) (C.free 7) (by decide +kernel) (ma_cons (me_int) (ma_cons (me_callB (call_oMin2 rfl) (C.free 22) (by decide +kernel) (ma_cons (me_int) (ma_cons (me_callB call_oLen (C.free 5) (by decide +kernel) (ma_cons (me_var 0) (ma_nil))) (ma_nil)))) (ma_nil)))) (ma_nil)) (C.free 3)) (mg_name 1 sc_law.nd) (mss_cons (ms_set 2 sc_law.nd (me_call (ok__law_stream C).loc hr (by decide) hgd tk (ma_cons (me_var 0) (ma_cons (me_var 1) (ma_nil))))) (mss_cons (ms_set 3 sc_law.nd (me_op op_oAdd (me_int) (me_call (ok__law_draw C).loc hr (by decide) hgd tk (ma_cons (me_var 2) (ma_cons (me_int) (ma_nil)))))) (mss_cons (ms_set 4 sc_law.nd (me_call (ok__law_steps C).loc hr (by decide) hgd tk (ma_cons (me_var 2) (ma_cons (me_var 3) (ma_nil))))) (mss_cons (ms_if (mt_w (mw_or (mt_not (mt_val (me_call (ok__law_right C B).loc hr (by decide) hgd tk (ma_cons (me_var 3) (ma_cons (me_var 4) (ma_nil)))))) (mw_or1 (mt_not (mt_val (me_call (ok__law_errors_right C B).loc hr (by decide) hgd tk (ma_cons (me_var 2) (ma_cons (me_var 3) (ma_cons (me_var 4) (ma_nil)))))))))) (mss_one (ms_ret (me_bl))) (mss_nil)) (mss_cons (ms_set 5 sc_law.nd (me_call (ok__law_damaged_0 C).loc hr (by decide) hgd tk (ma_cons (me_var 2) (ma_cons (me_var 4) (ma_cons (me_int) (ma_nil)))))) (mss_one (ms_if (mt_w (mw_and (mt_val (me_isi (C.free 0) (C.free 4) (by decide +kernel) isi_tuple (me_var 5))) (mw_and1 (mt_cmp (op_oEqX hr) (me_lc [("_law_step", 6)] rfl sc_law.nd (mi_seq (me_var 5)) (blkOk_by (by kernel_rfl)) (fun _ _ _ _ _ => mg_name 6 sc_law.nd) (fun _ _ _ _ _ => mts_one (mt_cmp (op_oNotInX hr) (me_var 6) (me_var 4))) (fun _ _ _ _ _ => me_var 6)) (me_lst (ma_nil)))))) (mss_one (ms_if (mt_not (mt_val (me_call (ok__law_right C B).loc hr (by decide) hgd tk (ma_cons (me_var 3) (ma_cons (me_var 5) (ma_nil)))))) (mss_one (ms_ret (me_bl))) (mss_nil))) (mss_nil))))))))) (mss_cons (ms_if (mt_cmp (op_oNe2 hr) (me_call (ok_switching_from_steps C).loc hr (by decide) hgd tk (ma_cons (me_int) (ma_cons (me_tup (ma_cons (me_tup (ma_cons (me_int) (ma_cons (me_int) (ma_cons (me_int) (ma_nil))))) (ma_cons (me_tup (ma_cons (me_int) (ma_cons (me_int) (ma_cons (me_int) (ma_nil))))) (ma_cons (me_tup (ma_cons (me_int) (ma_cons (me_int) (ma_cons (me_int) (ma_nil))))) (ma_nil))))) (ma_nil)))) (me_tup (ma_cons (me_tup (ma_cons (me_int) (ma_cons (me_int) (ma_cons (me_int) (ma_nil))))) (ma_cons (me_tup (ma_cons (me_int) (ma_cons (me_int) (ma_cons (me_int) (ma_nil))))) (ma_cons (me_tup (ma_cons (me_int) (ma_cons (me_int) (ma_cons (me_int) (ma_nil))))) (ma_nil)))))) (mss_one (ms_ret (me_bl))) (mss_nil)) (mss_cons (ms_if (mt_cmp (op_oNe2 hr) (me_lamF (tf := tf) (y := "law") F__law_outcome (C.glo 21) (F__law_outcome.bindsN fun _ _ _ _ _ _ us hl => (match us, hl with | [_], _ => rfl)) sc__law_outcome rfl (.inl rfl) (fun cdv => gv__law_outcome C) B (by decide) hcc rfl hr hgd (by show LamX.LamS (defScope s_law) _; exact LamX.lamS_by (by decide +kernel)) (fun A outer s H E f c hr hgd => me_call (ok_switching_from_steps C).loc hr (by decide) hgd takes_lam (ma_cons (me_int) (ma_cons (me_tup (ma_cons (me_tup (ma_cons (me_int) (ma_cons (me_int) (ma_cons (me_int) (ma_nil))))) (ma_cons (me_tup (ma_cons (me_int) (ma_cons (me_int) (ma_cons (me_int) (ma_nil))))) (ma_cons (me_tup (ma_cons (me_int) (ma_cons (me_int) (ma_cons (me_int) (ma_nil))))) (ma_nil))))) (ma_nil))))) (me_str)) (mss_one (ms_ret (me_bl))) (mss_nil)) (mss_cons (ms_if (mt_cmp (op_oNe2 hr) (me_lamF (tf := tf) (y := "law") F__law_outcome (C.glo 21) (F__law_outcome.bindsN fun _ _ _ _ _ _ us hl => (match us, hl with | [_], _ => rfl)) sc__law_outcome rfl (.inl rfl) (fun cdv => gv__law_outcome C) B (by decide) hcc rfl hr hgd (by show LamX.LamS (defScope s_law) _; exact LamX.lamS_by (by decide +kernel)) (fun A outer s H E f c hr hgd => me_call (ok_switching_from_steps C).loc hr (by decide) hgd takes_lam (ma_cons (me_int) (ma_cons (me_tup (ma_cons (me_tup (ma_cons (me_int) (ma_cons (me_int) (ma_cons (me_int) (ma_nil))))) (ma_nil))) (ma_nil))))) (me_str)) (mss_one (ms_ret (me_bl))) (mss_nil)) (mss_one (ms_ret (me_cmp (op_oEqX hr) (me_lamF (tf := tf) (y := "law") F__law_outcome (C.glo 21) (F__law_outcome.bindsN fun _ _ _ _ _ _ us hl => (match us, hl with | [_], _ => rfl)) sc__law_outcome rfl (.inl rfl) (fun cdv => gv__law_outcome C) B (by decide) hcc rfl hr hgd (by show LamX.LamS (defScope s_law) _; exact LamX.lamS_by (by decide +kernel)) (fun A outer s H E f c hr hgd => me_call (ok_switching_from_steps C).loc hr (by decide) hgd takes_lam (ma_cons (me_int) (ma_cons (me_tup (ma_nil)) (ma_nil))))) (me_str)))))))
theorem ok_law (C : KM K mg) (B : TBs K mg base tf) : Cd P w K mg base 9 "law" [] m_law := by
  obtain ⟨fd, F⟩ := fd_law C
  exact ⟨_, fd, ["_law_script"], [], [], fg_law C B F, (C.glo 35), F.kp, F.bindsN fun _ _ _ _ _ _ us hl => (match us, hl with | [_], _ => rfl), .nil, fun _ _ => .nil⟩
theorem glo_law (C : KM K mg) : mg "law" = some (.ref (He.ga K "law")) := (C.glo 35)
end
end FL
local macro_rules
| `(tactic| simp! [$xs,*]) => `(tactic| simp -implicitDefEqProofs only [FL.s_var, FL.k_var, FL.s_c, FL.s_op, FL.k_op, FL.k_op1, FL.k_o, FL.s_un, FL.k_un, FL.s_ap, FL.k_ap, FL.s_nil, FL.s_cons, FL.k_cons, FL.k_cons1, FL.s_tB, FL.k_tB, FL.s_and, FL.k_andT, FL.k_andF, FL.s_or, FL.k_orT, FL.k_orF, FL.s_not, FL.k_not, FL.s_eand, FL.k_eandT, FL.k_eandF, FL.s_eor, FL.k_eorT, FL.k_eorF, FL.s_enot, FL.k_enot, FL.s_if, FL.k_ifT, FL.k_ifF, FL.s_isi, FL.i_ii, FL.i_ib, FL.i_it, FL.i_il, FL.i_is, FL.i_bi, FL.i_bb, FL.i_bt, FL.i_ni, FL.i_nb, FL.i_nt, FL.i_ti, FL.i_tb, FL.i_tt, FL.i_si, FL.i_st, FL.s_ch, FL.k_ch, FL.k_ch1, FL.k_ch2T, FL.k_ch2F, FL.s_sl, FL.k_sl, FL.k_sl1, FL.k_sl2, FL.s_lN, FL.s_lS, FL.k_lS, FL.s_seq, FL.k_seqN, FL.k_seqR, FL.k_seqB, FL.k_seqC, FL.k_seqX, FL.s_sN, FL.s_set, FL.k_set, FL.s_sif, FL.k_sifT, FL.k_sifF, FL.s_ret, FL.k_ret, FL.s_exp, FL.k_exp, FL.s_asg, FL.k_asg, FL.k_asg1, FL.s_gNm, FL.s_gTp, FL.s_gNl, FL.s_gCs, FL.k_gCs, FL.s_par, FL.k_par, FL.s_six, FL.k_six, FL.k_six1, FL.k_six2, FL.k_six3, FL.s_aug, FL.k_aug0, FL.k_aug, FL.s_m, FL.k_m, FL.k_m0, FL.k_m1, FL.s_cl, FL.k_cl, FL.s_ck, FL.k_ck, FL.s_it, FL.k_it, FL.k_it2, FL.s_it1, FL.k_it1, FL.s_for, FL.k_for, FL.k_lp, FL.k_lpN, FL.k_lpC, FL.k_lpB, FL.k_lpR, FL.s_lc, FL.k_lc, FL.k_lc1, FL.k_cp, FL.k_cpT, FL.k_cpF, FL.k_cp2, FL.k_cp3, FL.s_yes, FL.k_endN, FL.k_endR, FL.o_add, FL.o_sub, FL.o_mul, FL.o_fdiv, FL.o_mod, FL.o_lt, FL.o_le, FL.o_gt, FL.o_ge, FL.o_eqI, FL.o_neI, FL.o_neR, FL.o_eqR, FL.o_isN1, FL.o_isN2, FL.o_isN3, FL.o_isN4, FL.o_isB1, FL.o_isB2, FL.o_tup, FL.o_lst, FL.o_lenT, FL.o_lenR, FL.o_lenL, FL.k_lenL, FL.o_ixT, FL.o_ixR, FL.o_ixL, FL.k_ixL, FL.k_ix, FL.o_int, FL.o_intB, FL.o_abs, FL.o_max, FL.o_min, FL.o_tupT, FL.o_tupL, FL.k_tupL, FL.o_lstT, FL.o_lstL, FL.k_lstL, FL.o_slT, FL.o_app, FL.k_app, FL.o_isLst, FL.k_isSome, FL.o_cat, FL.o_setAt, FL.k_setAt, FL.k_setAt2, FL.c_T, FL.c_R, FL.c_L, FL.k_srcL, FL.o_all, FL.o_any, FL.o_sum, FL.o_sumTT, FL.k_bdB, FL.k_bdI, FL.k_al, FL.k_an, FL.k_su, FL.s_lpN0, FL.s_lpC0, FL.s_cpN0, FL.s_cpC0, FL.c_r0, FL.c_r1, FL.c_r2, FL.c_r3, FL.c_r4, FL.c_r5, FL.c_r6, FL.c_r7, FL.c_r8, FL.c_r9, FL.c_r10, FL.c_r11, FL.c_r12, FL.s_rev, FL.k_rev, FL.o_revT, FL.s_d0, FL.s_lc2, FL.k_lc2, FL.i_ins, FL.s_fld, FL.k_fld, FL.k_fld1, FL.k_fld2, FL.s_mt, FL.k_mt, FL.k_mt2, FL.s_mk, FL.k_mk, FL.k_mk2, FL.k_mk2X, FL.s_sf, FL.k_sf, FL.k_sf1, FL.s_sfn, FL.k_sfn, FL.k_sfn1, decide_true, decide_false, List.getElem?_cons_zero, List.getElem?_cons_succ, List.set_cons_zero, List.set_cons_succ, Bool.not_true, Bool.not_false, if_true, if_false, Bool.false_eq_true, reduceIte, List.length_cons, List.length_nil, List.map_cons, List.map_nil, List.cons_append, List.nil_append, List.append_nil, $xs,*])
local macro_rules
| `(tactic| simp_all! [$xs,*]) => `(tactic| simp only [FL.s_var, FL.k_var, FL.s_c, FL.s_op, FL.k_op, FL.k_op1, FL.k_o, FL.s_un, FL.k_un, FL.s_ap, FL.k_ap, FL.s_nil, FL.s_cons, FL.k_cons, FL.k_cons1, FL.s_tB, FL.k_tB, FL.s_and, FL.k_andT, FL.k_andF, FL.s_or, FL.k_orT, FL.k_orF, FL.s_not, FL.k_not, FL.s_eand, FL.k_eandT, FL.k_eandF, FL.s_eor, FL.k_eorT, FL.k_eorF, FL.s_enot, FL.k_enot, FL.s_if, FL.k_ifT, FL.k_ifF, FL.s_isi, FL.i_ii, FL.i_ib, FL.i_it, FL.i_il, FL.i_is, FL.i_bi, FL.i_bb, FL.i_bt, FL.i_ni, FL.i_nb, FL.i_nt, FL.i_ti, FL.i_tb, FL.i_tt, FL.i_si, FL.i_st, FL.s_ch, FL.k_ch, FL.k_ch1, FL.k_ch2T, FL.k_ch2F, FL.s_sl, FL.k_sl, FL.k_sl1, FL.k_sl2, FL.s_lN, FL.s_lS, FL.k_lS, FL.s_seq, FL.k_seqN, FL.k_seqR, FL.k_seqB, FL.k_seqC, FL.k_seqX, FL.s_sN, FL.s_set, FL.k_set, FL.s_sif, FL.k_sifT, FL.k_sifF, FL.s_ret, FL.k_ret, FL.s_exp, FL.k_exp, FL.s_asg, FL.k_asg, FL.k_asg1, FL.s_gNm, FL.s_gTp, FL.s_gNl, FL.s_gCs, FL.k_gCs, FL.s_par, FL.k_par, FL.s_six, FL.k_six, FL.k_six1, FL.k_six2, FL.k_six3, FL.s_aug, FL.k_aug0, FL.k_aug, FL.s_m, FL.k_m, FL.k_m0, FL.k_m1, FL.s_cl, FL.k_cl, FL.s_ck, FL.k_ck, FL.s_it, FL.k_it, FL.k_it2, FL.s_it1, FL.k_it1, FL.s_for, FL.k_for, FL.k_lp, FL.k_lpN, FL.k_lpC, FL.k_lpB, FL.k_lpR, FL.s_lc, FL.k_lc, FL.k_lc1, FL.k_cp, FL.k_cpT, FL.k_cpF, FL.k_cp2, FL.k_cp3, FL.s_yes, FL.k_endN, FL.k_endR, FL.o_add, FL.o_sub, FL.o_mul, FL.o_fdiv, FL.o_mod, FL.o_lt, FL.o_le, FL.o_gt, FL.o_ge, FL.o_eqI, FL.o_neI, FL.o_neR, FL.o_eqR, FL.o_isN1, FL.o_isN2, FL.o_isN3, FL.o_isN4, FL.o_isB1, FL.o_isB2, FL.o_tup, FL.o_lst, FL.o_lenT, FL.o_lenR, FL.o_lenL, FL.k_lenL, FL.o_ixT, FL.o_ixR, FL.o_ixL, FL.k_ixL, FL.k_ix, FL.o_int, FL.o_intB, FL.o_abs, FL.o_max, FL.o_min, FL.o_tupT, FL.o_tupL, FL.k_tupL, FL.o_lstT, FL.o_lstL, FL.k_lstL, FL.o_slT, FL.o_app, FL.k_app, FL.o_isLst, FL.k_isSome, FL.o_cat, FL.o_setAt, FL.k_setAt, FL.k_setAt2, FL.c_T, FL.c_R, FL.c_L, FL.k_srcL, FL.o_all, FL.o_any, FL.o_sum, FL.o_sumTT, FL.k_bdB, FL.k_bdI, FL.k_al, FL.k_an, FL.k_su, FL.s_lpN0, FL.s_lpC0, FL.s_cpN0, FL.s_cpC0, FL.c_r0, FL.c_r1, FL.c_r2, FL.c_r3, FL.c_r4, FL.c_r5, FL.c_r6, FL.c_r7, FL.c_r8, FL.c_r9, FL.c_r10, FL.c_r11, FL.c_r12, FL.s_rev, FL.k_rev, FL.o_revT, FL.s_d0, FL.s_lc2, FL.k_lc2, FL.i_ins, FL.s_fld, FL.k_fld, FL.k_fld1, FL.k_fld2, FL.s_mt, FL.k_mt, FL.k_mt2, FL.s_mk, FL.k_mk, FL.k_mk2, FL.k_mk2X, FL.s_sf, FL.k_sf, FL.k_sf1, FL.s_sfn, FL.k_sfn, FL.k_sfn1, decide_true, decide_false, List.getElem?_cons_zero, List.getElem?_cons_succ, List.set_cons_zero, List.set_cons_succ, Bool.not_true, Bool.not_false, if_true, if_false, Bool.false_eq_true, reduceIte, List.length_cons, List.length_nil, List.map_cons, List.map_nil, List.cons_append, List.nil_append, List.append_nil, $xs,*])

set_option linter.all false
set_option maxRecDepth 100000
namespace FL
open PySem PySem.Spec PyProof.Rows L2
theorem is_int {x lo hi : Int} : m_is_integer [.int x, .int lo, .int hi] [] = .ok (.bl (decide (lo ≤ x) && decide (x ≤ hi))) [] := by
  unfold m_is_integer
  rw [s_fn (by rfl)]
  by_cases h1 : lo ≤ x <;> by_cases h2 : x ≤ hi <;>
  (simp_all! [b_is_integer, List.replicate, h1, h2, decide_true, decide_false, Bool.and_true, Bool.and_false, Bool.true_and, Bool.false_and]; rfl)
theorem is_int_l {x lo hi : Int} {h : AH} : callL m_is_integer [.int x, .int lo, .int hi] h = .ok (.bl (decide (lo ≤ x) && decide (x ≤ hi))) h := loc0 is_int rfl rfl
theorem is_int_n {lo hi : Int} : m_is_integer [.non, .int lo, .int hi] [] = .ok (.bl false) [] := by rfl
end FL

set_option linter.all false
set_option maxRecDepth 100000
namespace FL
open PySem PySem.Spec PyProof.Rows L2
end FL

set_option linter.all false
set_option maxRecDepth 100000
namespace FL
open PySem PySem.Spec PyProof.Rows L2
end FL

set_option linter.all false
set_option maxRecDepth 100000
set_option maxHeartbeats 4000000
namespace FL
open PySem PySem.Spec PyProof.Rows L2
theorem intsF_at0 {n k : Nat} {v : Va} (h : (intsF 0 n)[k]? = some v) : k < n ∧ v = .int (k : Nat) := by
  rw [ints_get] at h
  split at h
  · rename_i hk
    cases h
    exact ⟨hk, by rw [show ((0 : Int) + (k : Nat)) = (k : Nat) by omega]⟩
  · cases h
theorem atI3_1 {x y z : Va} : atI [x, y, z] 1 = some y := rfl
theorem atI3_2 {x y z : Va} : atI [x, y, z] 2 = some z := rfl
theorem ix3_0 : ixN 3 0 = some 0 := rfl
theorem ix3_2 : ixN 3 2 = some 2 := rfl
def St (n : Nat) (xs : List Va) : Prop := ∃ a b c : Int, xs = [.int a, .int b, .int c] ∧ 0 ≤ a ∧ 0 ≤ b ∧ b < 2 ^ 40 ∧ 0 ≤ c ∧ c ≤ n
theorem draw1 {a b c t : Int} (ha : 0 < a) (ht : 0 < t) (ht2 : t < 1000000) : m__law_draw [.ref 0, .int t] [.lst [.int a, .int b, .int c]] = .ok (.int (a % t)) [.lst [.int (a / t), .int b, .int c]] := by
  have h1 : okI t = true := okI_lt (by omega) (by omega)
  have h2 : decide (0 < a) = true := decide_eq_true ha
  unfold m__law_draw
  rw [s_fn (by rfl)]
  simp_all! [b__law_draw, lst0, atI0, atI3_1, atI3_2, h1, h2, ht, List.replicate, ix3_0, ix3_2, Nat.zero_add, Nat.reduceAdd]
  rfl
theorem draw2 {a b c t : Int} (ha : ¬ 0 < a) (ht : 0 < t) (ht2 : t < 1000000) (hb0 : 0 ≤ b) (hb1 : b < 2 ^ 40) (hc0 : 0 ≤ c) (hc1 : c < 2 ^ 40) : ∃ d, m__law_draw [.ref 0, .int t] [.lst [.int a, .int b, .int c]] = .ok (.int (d % t)) [.lst [.int a, .int b, .int (c + 1)]] := by
  have h2 : decide (0 < a) = false := decide_eq_false ha
  unfold m__law_draw
  rw [s_fn (by rfl)]
  simp (disch := first | assumption | exact okI_lt (by omega) (by omega) | omega) only [b__law_draw, s_var, k_var, s_c, s_op, k_op, k_op1, k_o, s_un, k_un, s_ap, k_ap, s_nil, s_cons, k_cons, k_cons1, s_tB, k_tB, s_and, k_andT, k_andF, s_or, k_orT, k_orF, s_not, k_not, s_eand, k_eandT, k_eandF, s_eor, k_eorT, k_eorF, s_enot, k_enot, s_if, k_ifT, k_ifF, s_isi, i_ii, i_ib, i_it, i_il, i_is, i_bi, i_bb, i_bt, i_ni, i_nb, i_nt, i_ti, i_tb, i_tt, i_si, i_st, s_ch, k_ch, k_ch1, k_ch2T, k_ch2F, s_sl, k_sl, k_sl1, k_sl2, s_lN, s_lS, k_lS, s_seq, k_seqN, k_seqR, k_seqB, k_seqC, k_seqX, s_sN, s_set, k_set, s_sif, k_sifT, k_sifF, s_ret, k_ret, s_exp, k_exp, s_asg, k_asg, k_asg1, s_gNm, s_gTp, s_gNl, s_gCs, k_gCs, s_par, k_par, s_six, k_six, k_six1, k_six2, k_six3, s_aug, k_aug0, k_aug, s_m, k_m, k_m0, k_m1, s_cl, k_cl, s_ck, k_ck, s_it, k_it, k_it2, s_it1, k_it1, s_for, k_for, k_lp, k_lpN, k_lpC, k_lpB, k_lpR, s_lc, k_lc, k_lc1, k_cp, k_cpT, k_cpF, k_cp2, k_cp3, s_yes, k_endN, k_endR, o_add, o_sub, o_mul, o_fdiv, o_mod, o_lt, o_le, o_gt, o_ge, o_eqI, o_neI, o_neR, o_eqR, o_isN1, o_isN2, o_isN3, o_isN4, o_isB1, o_isB2, o_tup, o_lst, o_lenT, o_lenR, o_lenL, k_lenL, o_ixT, o_ixR, o_ixL, k_ixL, k_ix, o_int, o_intB, o_abs, o_max, o_min, o_tupT, o_tupL, k_tupL, o_lstT, o_lstL, k_lstL, o_slT, o_app, k_app, o_isLst, k_isSome, o_cat, o_setAt, k_setAt, k_setAt2, c_T, c_R, c_L, k_srcL, o_all, o_any, o_sum, o_sumTT, k_bdB, k_bdI, k_al, k_an, k_su, s_lpN0, s_lpC0, s_cpN0, s_cpC0, c_r0, c_r1, c_r2, c_r3, c_r4, c_r5, c_r6, c_r7, c_r8, c_r9, c_r10, c_r11, c_r12, s_rev, k_rev, o_revT, s_d0, s_lc2, k_lc2, i_ins, s_fld, k_fld, k_fld1, k_fld2, s_mt, k_mt, k_mt2, s_mk, k_mk, k_mk2, k_mk2X, s_sf, k_sf, k_sf1, s_sfn, k_sfn, k_sfn1, decide_true, decide_false, List.getElem?_cons_zero, List.getElem?_cons_succ, List.set_cons_zero, List.set_cons_succ, Bool.not_true, Bool.not_false, if_true, if_false, Bool.false_eq_true, reduceIte, List.length_cons, List.length_nil, List.map_cons, List.map_nil, List.cons_append, List.nil_append, List.append_nil, lst0, atI0, atI3_1, atI3_2, h2, ht, List.replicate, ix3_0, ix3_2, Nat.zero_add, Nat.reduceAdd]
  exact ⟨_, rfl⟩
theorem draw_l {n : Nat} {xs : List Va} {t : Int} {r : AH} {P : Va → AH → Prop} (hs : St n xs) (hn : n ≤ 1000000) (ht : 0 < t) (ht2 : t < 1000000) (q : ∀ d ys, 0 ≤ d → d < t → St (n + 1) ys → P (.int d) (.lst ys :: r)) : Tk (callL m__law_draw [.ref 0, .int t] (.lst xs :: r)) P := by
  obtain ⟨a, b, c, rfl, ha, hb, hb2, hc, hc2⟩ := hs
  refine p_loc1 (k := 0) rfl rfl rfl ?_
  by_cases h : 0 < a
  · refine ⟨_, _, draw1 h ht ht2, ?_⟩
    have := q (a % t) [.int (a / t), .int b, .int c] (Int.emod_nonneg _ (by omega)) (Int.emod_lt_of_pos _ ht) ⟨_, _, _, rfl, Int.ediv_nonneg ha (by omega), hb, hb2, hc, by omega⟩
    simpa [ins1, bk, inR, mapRO, mapRs, mapR] using this
  · obtain ⟨d, e⟩ := draw2 (a := a) (b := b) (c := c) h ht ht2 hb hb2 hc (by omega)
    refine ⟨_, _, e, ?_⟩
    have := q (d % t) [.int a, .int b, .int (c + 1)] (Int.emod_nonneg _ (by omega)) (Int.emod_lt_of_pos _ ht) ⟨_, _, _, rfl, ha, hb, hb2, by omega, by push_cast; omega⟩
    simpa [ins1, bk, inR, mapRO, mapRs, mapR] using this
def BIG : Int := 10 ^ 720
theorem big_pos : 0 < BIG := by decide +kernel
theorem big_lt : BIG < 10 ^ 1000 := by decide +kernel
theorem pow_big {ev : Ev} {h : AH} : eOp oPow (eOp oPow (eC (.int 10)) (eC (.int 60))) (eC (.int 12)) ev h = .ok (.int BIG) h := by
  have e1 : oPow (.int 10) (.int 60) h = some (.int (10 ^ 60), h) := by
    show (if (decide ((0 : Int) ≤ 60) && decide ((60 : Int) ≤ 1000) && decide ((10 : Int).natAbs.log2 < 100000)) = true then some (Va.int ((10 : Int) ^ (60 : Int).toNat), h) else none) = _
    rw [if_pos (by decide +kernel)]
    rfl
  have e2 : oPow (.int (10 ^ 60)) (.int 12) h = some (.int BIG, h) := by
    show (if (decide ((0 : Int) ≤ 12) && decide ((12 : Int) ≤ 1000) && decide (((10 : Int) ^ 60).natAbs.log2 < 100000)) = true then some (Va.int (((10 : Int) ^ 60) ^ (12 : Int).toNat), h) else none) = _
    rw [if_pos (by decide +kernel)]
    have : ((10 : Int) ^ 60) ^ (12 : Int).toNat = BIG := by decide +kernel
    rw [this]
  simp only [s_op, s_c, k_op, k_op1, e1, e2, k_o]
theorem pow_17 {ev : Ev} {h : AH} : eOp oPow (eC (.int 10)) (eC (.int 17)) ev h = .ok (.int 100000000000000000) h := by
  have e1 : oPow (.int 10) (.int 17) h = some (.int 100000000000000000, h) := by
    show (if (decide ((0 : Int) ≤ 17) && decide ((17 : Int) ≤ 1000) && decide ((10 : Int).natAbs.log2 < 100000)) = true then some (Va.int ((10 : Int) ^ (17 : Int).toNat), h) else none) = _
    rw [if_pos (by decide +kernel)]
    have : (10 : Int) ^ (17 : Int).toNat = 100000000000000000 := by decide +kernel
    rw [this]
  simp only [s_op, s_c, k_op, k_op1, e1, k_o]
/-- the part behind the cell -/
theorem stream_end {ns : List Int} {at_ x : Int} {w : Option Va} {Q : SR → Prop} (h0 : 0 ≤ at_) (h1 : at_ ≤ 1000) (q : ∀ ys, St 0 ys → Q (.rt (.ref 0) [.lst ys])) :
    Ts ((sSeq (sSet 3 (eOp oMod (eAp oAbs (aCons (eVar 2) (aNil))) (eOp oPow (eOp oPow (eC (.int 10)) (eC (.int 60))) (eC (.int 12))))) (sRet (eAp oLst (aCons (eAp oMax2 (aCons (eC (.int 0)) (aCons (eOp oSub (eVar 3) (eOp oPow (eC (.int 10)) (eC (.int 17)))) (aNil)))) (aCons (eOp oMod (eOp oAdd (eOp oAdd (eOp oAdd (eOp oMul2 (eVar 3) (eC (.int 9576890767))) (eOp oMul2 (eC (.int 611953)) (eVar 1))) (eOp oMul2 (eC (.int 2)) (eAp oInt (aCons (eOp oLt (eVar 2) (eC (.int 0))) (aNil))))) (eC (.int 7))) (eC (.int 4294967291))) (aCons (eC (.int 0)) (aNil))))))) [some (.rol (ns.map Va.int)), some (.int at_), some (.int x), w] []) Q := by
  have hlim : lim = 1000000 := rfl
  generalize hg : (if x < 0 then -x else x) % BIG = g
  have g0 : 0 ≤ g := by rw [← hg]; exact Int.emod_nonneg _ (Int.ne_of_gt big_pos)
  have g1 : g < 10 ^ 1000 := by rw [← hg]; exact Int.lt_trans (Int.emod_lt_of_pos _ big_pos) big_lt
  have og : okI g = true := okI_lt (by omega) g1
  have ob : ∀ b : Bool, okI (if b then (1 : Int) else 0) = true := fun b => by cases b <;> rfl
  have o1 : okI 9576890767 = true := rfl
  have o2 : okI 611953 = true := rfl
  have o3 : okI 2 = true := rfl
  have oa : okI at_ = true := okI_lt (by omega) (by omega)
  simp only [s_seq, s_set, s_op (o := oMod) (f := eAp oAbs (aCons (eVar 2) aNil)), s_ap, s_cons, s_var, s_nil, k_op]
  rw [show vK [] [some (Va.rol (ns.map Va.int)), some (.int at_), some (.int x), w][2]? = .ok (.int x) [] from rfl]
  simp only [k_cons, s_nil, k_cons1, k_ap, o_abs, k_o, k_op, pow_big, k_op1, o_mod big_pos, hg, k_set, k_seqN, s_ret, s_ap, s_cons]
  rw [show ([some (Va.rol (ns.map Va.int)), some (.int at_), some (.int x), w] : Ev).set 3 (some (.int g)) = [some (Va.rol (ns.map Va.int)), some (.int at_), some (.int x), some (.int g)] from rfl]
  have e17 : eOp oSub (eVar 3) (eOp oPow (eC (.int 10)) (eC (.int 17))) [some (Va.rol (ns.map Va.int)), some (.int at_), some (.int x), some (.int g)] [] = .ok (.int (g - 100000000000000000)) [] := by
    rw [s_op, s_var]
    rw [show vK [] [some (Va.rol (ns.map Va.int)), some (.int at_), some (.int x), some (.int g)][3]? = .ok (.int g) [] from rfl, k_op, pow_17]
    simp only [k_op1, o_sub, k_o]
  simp only [s_c, k_cons, s_cons, e17, k_cons1, s_nil, k_ap, o_max, k_o]
  simp_all! [s_op, s_var, o_mul og o1, o_mul o2 oa, o_mul o3 (ob _), o_mod (show (0 : Int) < 4294967291 by omega)]
  rw [o_lst (by simp [hlim])]
  simp only [k_o, k_ret, List.length_nil, List.nil_append]
  refine q _ ⟨_, _, _, rfl, ?_, Int.emod_nonneg _ (by omega), ?_, Int.le_refl _, Int.le_refl _⟩
  · split <;> omega
  · have := Int.emod_lt_of_pos (g * 9576890767 + 611953 * at_ + 2 * (if decide (x < 0) = true then 1 else 0) + 7) (show (0 : Int) < 4294967291 by omega)
    omega
theorem stream_ok {ns : List Int} {j : Nat} (hj : j ≤ 1000) : Tk (m__law_stream [.rol (ns.map Va.int), .int (j : Nat)] []) (fun v h => v = .ref 0 ∧ ∃ ys, h = [.lst ys] ∧ St 0 ys) := by
  unfold m__law_stream
  refine p_fn (by rfl) ?_
  unfold b__law_stream
  have o5 : okI 5 = true := rfl
  have oj : okI (j : Nat) = true := okI_lt (by omega) (by omega)
  simp_all! [s_seq, s_set, s_op, s_c, s_var, List.map_cons, List.map_nil, List.replicate, List.cons_append, List.nil_append, o_mul o5 oj]
  rw [List.length_map]
  have fin : ∀ (v : SR), (∃ ys, v = .rt (.ref 0) [.lst ys] ∧ St 0 ys) → Tk (gcF 0 (endF v)) (fun v h => v = .ref 0 ∧ ∃ ys, h = [.lst ys] ∧ St 0 ys) := by
    rintro v ⟨ys, rfl, hs⟩
    exact Tk.ok ⟨rfl, ys, rfl, hs⟩
  by_cases hlt : (j : Int) < (ns.length : Nat)
  · have d := decide_eq_true hlt
    have hjn : j < ns.length := by omega
    have ea : atI (ns.map Va.int) (j : Nat) = some (.int ns[j]) := at_map (List.getElem?_eq_getElem hjn)
    simp_all! [k_o, k_op1, o_lt, d, ea, -s_seq]
    exact stream_end (by omega) (by omega) fun ys hs => fin _ ⟨ys, rfl, hs⟩
  · have d := decide_eq_false hlt
    simp_all! [k_o, k_op1, o_lt, d, -s_seq]
    exact stream_end (by omega) (by omega) fun ys hs => fin _ ⟨ys, rfl, hs⟩
theorem stream_l {ns : List Int} {j : Nat} {h : AH} {P : Va → AH → Prop} (hj : j ≤ 1000) (q : ∀ ys, St 0 ys → P (.ref h.length) (h ++ [.lst ys])) : Tk (callL m__law_stream [.rol (ns.map Va.int), .int (j : Nat)] h) P := by
  have e : refsOfs [.rol (ns.map Va.int), .int (j : Nat)] = [] := refs_cons (by show inRs 0 _ = true; exact inR_map inR_int ns) rfl
  refine p_loc0 e ((stream_ok hj).mono ?_)
  rintro v h' ⟨rfl, ys, rfl, hs⟩
  obtain ⟨a, b, c, rfl, _⟩ := id hs
  have := q _ hs
  simpa [bk, inR, mapR, sh0, mapRO, mapRs] using this
end FL

set_option linter.all false
set_option maxRecDepth 100000
set_option maxHeartbeats 4000000
namespace FL
open PySem PySem.Spec PyProof.Rows L2
section
variable {sw : List (List Int)} {rq : List (List (Option Int))} {st : Int} {n : Nat}
end
end FL

set_option linter.all false
set_option maxRecDepth 100000
set_option maxHeartbeats 4000000
namespace FL
open PySem PySem.Spec PyProof.Rows L2
section
variable {sw : List (List Int)} {rq : List (List (Option Int))} {st : Int} {n : Nat}
end
end FL

set_option linter.all false
set_option maxRecDepth 100000
set_option maxHeartbeats 4000000
namespace FL
open PySem PySem.Spec PyProof.Rows L2
/-! ### tables as they are made -/
def rowL (r : List Int) : AO := .lst (r.map Va.int)
def refL (k : Nat) : List Va := (List.range k).map fun i => .ref (3 + i)
def hp (ys tops : List Va) (k : Nat) (rs : List (List Int)) : AH := .lst ys :: .lst tops :: .lst (refL k) :: rs.map rowL
structure Sq (rs : List (List Int)) (n : Nat) : Prop where
  len : rs.length = n
  row : ∀ r ∈ rs, r.length = n
theorem Sq.get {rs : List (List Int)} {n : Nat} (S : Sq rs n) {i : Nat} (hi : i < n) : ∃ r, rs[i]? = some r ∧ r.length = n ∧ ∀ j, j < n → r[j]? = some (at2 rs i j) := by
  have hl : i < rs.length := by rw [S.len]; exact hi
  have hr : rs[i].length = n := S.row _ (List.getElem_mem hl)
  refine ⟨rs[i], List.getElem?_eq_getElem hl, hr, fun j hj => ?_⟩
  unfold at2
  rw [List.getElem?_eq_getElem hl]
  simp only [Option.getD_some]
  rw [List.getElem?_eq_getElem (by rw [hr]; exact hj)]
  rfl
def setT (rs : List (List Int)) (i j : Nat) (v : Int) : List (List Int) := rs.set i ((rs[i]?.getD []).set j v)
theorem setT_sq {rs : List (List Int)} {n : Nat} (S : Sq rs n) {i j : Nat} {v : Int} (hi : i < n) : Sq (setT rs i j v) n := by
  obtain ⟨r, h1, h2, _⟩ := S.get hi
  refine ⟨by simp [setT, S.len], fun x hx => ?_⟩
  unfold setT at hx
  rw [h1] at hx
  rcases List.mem_or_eq_of_mem_set hx with z | z
  · exact S.row x z
  · rw [z]; simp [h2]
theorem setT_at {rs : List (List Int)} {n : Nat} (S : Sq rs n) {i j a b : Nat} {v : Int} (hi : i < n) (hj : j < n) : at2 (setT rs i j v) a b = if a = i ∧ b = j then v else at2 rs a b := by
  obtain ⟨r, h1, h2, _⟩ := S.get hi
  unfold setT at2
  rw [h1]
  simp only [Option.getD_some]
  by_cases ha : a = i
  · subst ha
    rw [List.getElem?_set_self (by rw [S.len]; exact hi), h1]
    simp only [Option.getD_some]
    by_cases hb : b = j
    · subst hb
      rw [List.getElem?_set_self (by rw [h2]; exact hj)]
      simp
    · rw [List.getElem?_set_ne (Ne.symm hb)]
      simp [hb]
  · rw [List.getElem?_set_ne (Ne.symm ha)]
    simp [ha]
theorem ixN_nat {n j : Nat} (h : j < n) : ixN n ((j : Nat) : Int) = some j := by
  unfold ixN
  rw [if_pos (by omega), if_pos (by omega)]
  simp
section
variable {ys tops : List Va} {n : Nat} {rs : List (List Int)}
end
/-- what every table keeps -/
structure Good (rs : List (List Int)) (n : Nat) : Prop where
  sq : Sq rs n
  diag : ∀ i, i < n → at2 rs i i = 0
  off : ∀ i j, i < n → j < n → i ≠ j → 1 ≤ at2 rs i j ∧ at2 rs i j ≤ 1000
theorem Good.set {rs : List (List Int)} {n i j : Nat} {v : Int} (G : Good rs n) (hi : i < n) (hj : j < n) (hv : if i = j then v = 0 else 1 ≤ v ∧ v ≤ 1000) : Good (setT rs i j v) n := by
  refine ⟨setT_sq G.sq hi, fun a ha => ?_, fun a b ha hb hab => ?_⟩
  · rw [setT_at G.sq hi hj]
    split
    · rename_i e
      rw [if_pos (by omega)] at hv
      exact hv
    · exact G.diag a ha
  · rw [setT_at G.sq hi hj]
    split
    · rename_i e
      rw [if_neg (by omega)] at hv
      exact hv
    · exact G.off a b ha hb hab
theorem Good.nn {rs : List (List Int)} {n i j : Nat} (G : Good rs n) (hi : i < n) (hj : j < n) : 0 ≤ at2 rs i j := by
  by_cases e : i = j
  · subst e; rw [G.diag i hi]; omega
  · have := G.off i j hi hj e; omega
theorem cr_n {n : Nat} {h : AH} (hn : n ≤ 1000000) : itK srcR (.ok [.int (n : Nat)] h) = .ok ⟨intsF 0 n, []⟩ h := by
  rw [k_it, c_rngN hn, k_it2]
/-- a loop over range(n), n in slot b -/
theorem for_range {b : Nat} {ev : Ev} {h : AH} {m : Nat} {g : GF} {body : SF} (hm : m ≤ 1000000) (hb : ev[b]? = some (some (.int (m : Nat)))) : sFor (iOf (aCons (eVar b) aNil) srcR) g body ev h = loopF [] g body (intsF 0 m) ev h := by
  rw [s_for, s_it, s_cons, s_var, hb, k_var, k_cons, s_nil, k_cons1, cr_n hm, k_for]
section
variable {ys tops : List Va} {n : Nat} {t : Int}
end
end FL

set_option linter.all false
set_option maxRecDepth 100000
set_option maxHeartbeats 4000000
namespace FL
open PySem PySem.Spec PyProof.Rows L2
section
variable {ys tops : List Va} {n : Nat} {t : Int}
end
/-- what a list's place stands for, as a tuple -/
def lkV (h : AH) : Va → Va
  | .ref k => (match lstAt h k with | some xs => .tup xs | none => .non)
  | v => v
theorem lkV_ref {h : AH} {k : Nat} {xs : List Va} (e : lstAt h k = some xs) : lkV h (.ref k) = .tup xs := by simp [lkV, e]
end FL

set_option linter.all false
set_option maxRecDepth 100000
set_option maxHeartbeats 4000000
namespace FL
open PySem PySem.Spec PyProof.Rows L2
end FL

set_option linter.all false
set_option maxRecDepth 100000
set_option maxHeartbeats 4000000
namespace FL
open PySem PySem.Spec PyProof.Rows L2
theorem st_plain {k : Nat} {xs : List Va} (h : St k xs) : inRs 0 xs = true ∧ ∀ f, mapRs f xs = xs := by
  obtain ⟨a, b, c, rfl, _⟩ := h
  exact ⟨rfl, fun _ => rfl⟩
theorem St.up {k m : Nat} {xs : List Va} (h : St k xs) (e : k ≤ m) : St m xs := by
  obtain ⟨a, b, c, q1, q2, q3, q4, q5, q6⟩ := h
  exact ⟨a, b, c, q1, q2, q3, q4, q5, by omega⟩
/-- a call that names the stream alone, and gives back plain things -/
theorem at_stream {F : List Va → AH → Rs Va} {args : List Va} {kk : Nat} {xs : List Va} {h : AH} {P : Va → AH → Prop} {C : Va → List Va → Prop} (e0 : refsOfs args = [kk]) (e1 : lstAt h kk = some xs) (e2 : inRs 0 xs = true)
    (q : Tk (F (mapRs (fun _ => 0) args) [.lst xs]) (fun v h' => inR 0 v = true ∧ ∃ ys, h' = [.lst ys] ∧ (∀ f, mapRs f ys = ys) ∧ C v ys)) (k : ∀ v ys, C v ys → P v (h.set kk (.lst ys))) : Tk (callL F args h) P := by
  refine p_loc1 e0 e1 e2 (q.mono ?_)
  rintro v h' ⟨hv, ys, rfl, hm, hc⟩
  have := k v ys hc
  simpa [ins1, bk, hv, mapRO, hm] using this
end FL

set_option linter.all false
set_option maxRecDepth 100000
set_option maxHeartbeats 4000000
namespace FL
open PySem PySem.Spec PyProof.Rows L2
section
variable {sw : List (List Int)} {rq : List (List (Option Int))} {st : Int} {n : Nat}
end
end FL

set_option linter.all false
set_option maxRecDepth 100000
set_option maxHeartbeats 4000000
namespace FL
open PySem PySem.Spec PyProof.Rows L2
section
variable {sw : List (List Int)} {rq : List (List (Option Int))} {n s0 : Nat}
end
end FL

set_option linter.all false
set_option maxRecDepth 100000
set_option maxHeartbeats 4000000
namespace FL
open PySem PySem.Spec PyProof.Rows L2
theorem comp_filter {ev : Ev} {h : AH} {gf : GF} {tf : TF} {f : EF} {gsl : List (Nat × List Va)} {φ : Va → Va} {p : Va → Bool} {e1 : Va → Ev} (hgs : gsOk gsl h = true) : ∀ ys : List Va, (∀ x ∈ ys, gf x ev = some (e1 x) ∧ tf (e1 x) h = .ok (p x) h ∧ (p x = true → f (e1 x) h = .ok (φ x) h)) → compF gsl gf tf f ev ys h = .ok ((ys.filter p).map φ) h
  | [], _ => s_cpN hgs
  | x :: ys, hq => by
    obtain ⟨g1, g2, g3⟩ := hq x (List.mem_cons_self ..)
    have ih := comp_filter hgs ys fun y hy => hq y (List.mem_cons_of_mem _ hy)
    rw [s_cpC hgs, g1, k_cp, g2]
    cases hp : p x with
    | false => rw [k_cpF, ih, List.filter_cons_of_neg (by simp [hp])]
    | true => rw [k_cpT, g3 hp, k_cp2, ih, k_cp3, List.filter_cons_of_pos hp]; rfl
section
variable {sw : List (List Int)} {rq : List (List (Option Int))} {n s0 k kk : Nat} {xs : List Va} {h : AH} {P : Va → AH → Prop}
end
end FL

set_option linter.all false
set_option maxRecDepth 100000
set_option maxHeartbeats 1000000
namespace FL
open PySem PySem.Spec PyProof.Rows L2
/-! tables of whole numbers and None, by places -/
def tO (n : Nat) (f : Nat → Nat → Option Int) : AH := ((List.range n).map fun i => AO.lst ((List.range n).map fun j => oI (f i j))) ++ [.lst ((List.range n).map fun i => Va.ref i)]
def upF (f : Nat → Nat → Option Int) (i j : Nat) (v : Int) : Nat → Nat → Option Int := fun a b => if a = i ∧ b = j then some v else f a b
section
variable {n : Nat} {f : Nat → Nat → Option Int} {g : Nat → Nat → Int} {ev : Ev}
theorem tO_congr {f f' : Nat → Nat → Option Int} (h : ∀ i j, i < n → j < n → f i j = f' i j) : tO n f = tO n f' := by
  unfold tO
  congr 1
  apply List.map_congr_left
  intro i hi
  congr 1
  apply List.map_congr_left
  intro j hj
  rw [h i j (List.mem_range.mp hi) (List.mem_range.mp hj)]
theorem tO_row {i : Nat} (hi : i < n) {r : AH} : lstAt (tO n f ++ r) i = some ((List.range n).map fun j => oI (f i j)) := by
  unfold lstAt tO
  rw [List.append_assoc, List.getElem?_append_left (by simpa using hi), List.getElem?_map, List.getElem?_range hi]
  rfl
theorem tO_top {r : AH} : lstAt (tO n f ++ r) n = some ((List.range n).map fun i => Va.ref i) := by
  unfold lstAt tO
  rw [List.append_assoc, List.getElem?_append_right (by simp)]
  simp
theorem tO_row0 {i : Nat} (hi : i < n) : lstAt (tO n f) i = some ((List.range n).map fun j => oI (f i j)) := by
  have := tO_row (f := f) hi (r := [])
  rwa [List.append_nil] at this
theorem tO_top0 : lstAt (tO n f) n = some ((List.range n).map fun i => Va.ref i) := by
  have := tO_top (n := n) (f := f) (r := [])
  rwa [List.append_nil] at this
theorem at_range {φ : Nat → Va} {i : Nat} (hi : i < n) : atI ((List.range n).map φ) ((i : Nat) : Int) = some (φ i) := by
  rw [atIn rfl, List.getElem?_map, List.getElem?_range hi]
  rfl
theorem cellO {a b c i j : Nat} (hi : i < n) (hj : j < n) (ha : ev[a]? = some (some (.ref n))) (hb : ev[b]? = some (some (.int (i : Nat)))) (hc : ev[c]? = some (some (.int (j : Nat)))) :
    eOp oIx (eOp oIx (eVar a) (eVar b)) (eVar c) ev (tO n f) = .ok (oI (f i j)) (tO n f) := by
  simp only [s_op, s_var, ha, hb, hc, k_var, k_op, k_op1, o_ixL, tO_top0, k_ixL, at_range hi, k_ix, k_o, tO_row0 hi, at_range hj]
theorem set_range {n j : Nat} {φ : Nat → Va} {v : Va} (hj : j < n) : ((List.range n).map φ).set j v = (List.range n).map fun k => if k = j then v else φ k := by
  apply List.ext_getElem?
  intro k
  by_cases hk : k < n
  · rw [List.getElem?_map, List.getElem?_range hk]
    by_cases e : j = k
    · subst e
      rw [List.getElem?_set_self (by simpa using hj)]
      simp
    · rw [List.getElem?_set_ne e, List.getElem?_map, List.getElem?_range hk]
      simp [Ne.symm e]
  · rw [List.getElem?_eq_none (by simpa using hk), List.getElem?_eq_none (by simpa using hk)]
theorem tO_set {i j : Nat} {v : Int} (hi : i < n) (hj : j < n) : (tO n f).set i (.lst (((List.range n).map fun j => oI (f i j)).set j (.int v))) = tO n (upF f i j v) := by
  unfold tO
  rw [List.set_append, if_pos (by simpa using hi)]
  congr 1
  apply List.ext_getElem?
  intro k
  by_cases hk : k < n
  · rw [List.getElem?_map, List.getElem?_range hk]
    by_cases e : i = k
    · subst e
      rw [List.getElem?_set_self (by simpa using hi), set_range hj]
      show some (AO.lst _) = some (AO.lst _)
      congr 2
      apply List.map_congr_left
      intro c _
      by_cases ec : c = j
      · simp [upF, ec, oI]
      · simp [upF, ec]
    · rw [List.getElem?_set_ne e, List.getElem?_map, List.getElem?_range hk]
      show some (AO.lst _) = some (AO.lst _)
      congr 2
      apply List.map_congr_left
      intro c _
      have : ¬ (k = i ∧ c = j) := fun z => e z.1.symm
      simp [upF, this]
  · rw [List.getElem?_eq_none (by simpa using hk), List.getElem?_eq_none (by simpa using hk)]
theorem setO {a b c i j : Nat} {v : Int} {fe : EF} (hi : i < n) (hj : j < n) (ha : ev[a]? = some (some (.ref n))) (hb : ev[b]? = some (some (.int (i : Nat)))) (hc : ev[c]? = some (some (.int (j : Nat)))) (hf : fe ev (tO n f) = .ok (.int v) (tO n f)) :
    sSetIx (eOp oIx (eVar a) (eVar b)) (eVar c) fe ev (tO n f) = .nx ev (tO n (upF f i j v)) := by
  have hl : ((List.range n).map fun j => oI (f i j)).length = n := by simp
  rw [s_six, hf, k_six]
  simp only [s_op, s_var, ha, hb, hc, k_var, k_op, k_op1, o_ixL, tO_top0, k_ixL, at_range hi, k_ix, k_o, k_six1, k_six2, o_setAt, tO_row0 hi, k_setAt]
  rw [hl, ixN_nat hj, k_setAt2, k_six3, tO_set hi hj]
abbrev ess (n : Nat) (v1 z3 z4 z5 z6 z7 z8 z9 : Option Va) : Ev := [some (.int (n : Nat)), v1, some (.ref n), z3, z4, z5, z6, z7, z8, z9, none]
def stV (s : Nat × Nat × Int) : Va := .tup [.int (s.1 : Nat), .int (s.2.1 : Nat), .int s.2.2]
def stsV (ss : List (Nat × Nat × Int)) : Va := .tup (ss.map stV)
structure StOk (n : Nat) (s : Nat × Nat × Int) : Prop where
  a : s.1 < n
  b : s.2.1 < n
  ne : s.1 ≠ s.2.1
  lo : 1 ≤ s.2.2
  hi : s.2.2 ≤ 1000
def f0 : Nat → Nat → Option Int := fun i j => if i = j then some 0 else none
/-- the table at the start -/
theorem startO (hn : n ≤ 10) (v1 : Option Va) {P : Va → AH → Prop} (q : P (.ref n) (tO n f0)) :
    Tk ((eLc (iOf (aCons (eVar 0) (aNil)) srcR) (gNm 3) (tYesF) (eLc (iOf (aCons (eVar 0) (aNil)) srcR) (gNm 4) (tYesF) (eIf (tB (eOp oEq2 (eVar 3) (eVar 4))) (eC (.int 0)) (eC .non)) [4]) [3]) [some (.int (n : Nat)), v1, none, none, none, none, none, none, none, none, none] []) P := by
  have hlim : lim = 1000000 := rfl
  have e6 : (intsF 0 n).length < lim := by rw [ints_len]; omega
  have ew : ewipe [some (.int (n : Nat)), v1, none, none, none, none, none, none, none, none, none] [3] = [some (.int (n : Nat)), v1, none, none, none, none, none, none, none, none, none] := rfl
  rw [s_lc, s_it, s_cons, s_var]
  show Tk (lcK _ _ _ _ _ (itK srcR (aK _ _ (.ok (.int (n : Nat)) _)))) _
  rw [k_cons, s_nil, k_cons1, k_it, c_rngN (by omega), k_it2, k_lc e6, ew]
  refine p_lc1 (comp_inv (fun i acc h => acc = (List.range i).map (fun k => Va.ref k) ∧ h = (List.range i).map fun a => AO.lst ((List.range n).map fun j => oI (f0 a j))) _ _ 0 [] _ ⟨rfl, rfl⟩ (fun _ _ _ _ => rfl) ?_ ?_)
  · rintro i v acc h hi ⟨rfl, rfl⟩
    obtain ⟨hin, rfl⟩ := intsF_at0 hi
    rw [Nat.zero_add]
    refine ⟨[some (.int (n : Nat)), v1, none, some (.int (i : Nat)), none, none, none, none, none, none, none], rfl, ?_⟩
    have ew2 : ewipe [some (.int (n : Nat)), v1, none, some (.int (i : Nat)), none, none, none, none, none, none, none] [4] = [some (.int (n : Nat)), v1, none, some (.int (i : Nat)), none, none, none, none, none, none, none] := rfl
    rw [s_lc, s_it, s_cons, s_var]
    show Tk (lcK _ _ _ _ _ (itK srcR (aK _ _ (.ok (.int (n : Nat)) _)))) _
    rw [k_cons, s_nil, k_cons1, k_it, c_rngN (by omega), k_it2, k_lc e6, ew2]
    have cm := comp_map (gsl := []) (gf := gNm 4) (f := eIf (tB (eOp oEq2 (eVar 3) (eVar 4))) (eC (.int 0)) (eC .non)) (ev := [some (.int (n : Nat)), v1, none, some (.int (i : Nat)), none, none, none, none, none, none, none]) (h := (List.range i).map fun a => AO.lst ((List.range n).map fun j => oI (f0 a j)))
      (φ := fun v => match v with | .int b => oI (f0 i b.toNat) | _ => .non) (e1 := fun v => [some (.int (n : Nat)), v1, none, some (.int (i : Nat)), some v, none, none, none, none, none, none]) rfl (intsF 0 n) (fun x hx => by
        obtain ⟨k, hk⟩ := List.getElem?_of_mem hx
        obtain ⟨hkn, rfl⟩ := intsF_at0 hk
        refine ⟨rfl, ?_⟩
        by_cases e : i = k
        · subst e
          have d : decide (((i : Nat) : Int) = ((i : Nat) : Int)) = true := decide_eq_true rfl
          simp_all! [d, Int.toNat_natCast, f0, if_true, oI]
        · have d : decide (((i : Nat) : Int) = ((k : Nat) : Int)) = false := decide_eq_false (by omega)
          simp_all! [d, Int.toNat_natCast, f0, e, oI])
    rw [cm, k_lc1, tk_ok]
    refine ⟨?_, ?_⟩
    · rw [List.range_succ, List.map_append]
      simp
    · rw [List.range_succ, List.map_append, intsF_eq, List.map_map]
      congr 1
      show [AO.lst _] = [AO.lst _]
      congr 2
      apply List.map_congr_left
      intro b _
      simp
  · rintro out h ⟨e1, rfl⟩ hl
    rw [k_lc1, tk_ok]
    rw [ints_len, Nat.zero_add] at e1
    rw [ints_len, Nat.zero_add]
    rw [List.nil_append] at e1
    rw [e1]
    have : ((List.range n).map fun a => AO.lst ((List.range n).map fun j => oI (f0 a j))).length = n := by simp
    rw [this]
    exact q
/-- the steps one by one -/
theorem stepsO (hn : n ≤ 10) {ss : List (Nat × Nat × Int)} (S : ∀ s ∈ ss, StOk n s) (z6 z7 z8 z9 : Option Va) : ∃ z3' z4' z5' f',
    (sFor (iOf1 (eVar 1) srcOf) (gTp (gCs (gNm 3) (gCs (gNm 4) (gCs (gNm 5) (gNl))))) (sIf (tOr (tB (eOp (oIs false) (eOp oIx (eOp oIx (eVar 2) (eVar 3)) (eVar 4)) (eC .non))) (tB (eOp oLt (eVar 5) (eOp oIx (eOp oIx (eVar 2) (eVar 3)) (eVar 4))))) (sSetIx (eOp oIx (eVar 2) (eVar 3)) (eVar 4) (eVar 5)) (sNil))) (ess n (some (stsV ss)) none none none z6 z7 z8 z9) (tO n f0) = .nx (ess n (some (stsV ss)) z3' z4' z5' z6 z7 z8 z9) (tO n f') ∧ (∀ i, i < n → f' i i = some 0) ∧ (∀ i j c, i < n → j < n → i ≠ j → f' i j = some c → (i, j, c) ∈ ss) ∧ ∀ s ∈ ss, ∃ c, f' s.1 s.2.1 = some c ∧ c ≤ s.2.2 := by
  rw [s_for, s_it1, s_var]
  show ∃ z3' z4' z5' f', forK _ _ _ (it1K srcOf (.ok (stsV ss) _)) = _ ∧ _
  unfold stsV
  rw [k_it1, c_T, k_it2, k_for]
  have := loop_inv (gsl := []) (gf := gTp (gCs (gNm 3) (gCs (gNm 4) (gCs (gNm 5) (gNl))))) (sf := (sIf (tOr (tB (eOp (oIs false) (eOp oIx (eOp oIx (eVar 2) (eVar 3)) (eVar 4)) (eC .non))) (tB (eOp oLt (eVar 5) (eOp oIx (eOp oIx (eVar 2) (eVar 3)) (eVar 4))))) (sSetIx (eOp oIx (eVar 2) (eVar 3)) (eVar 4) (eVar 5)) (sNil))) (Q := fun r => ∃ z3' z4' z5' f', r = .nx (ess n (some (stsV ss)) z3' z4' z5' z6 z7 z8 z9) (tO n f') ∧ (∀ i, i < n → f' i i = some 0) ∧ (∀ i j c, i < n → j < n → i ≠ j → f' i j = some c → (i, j, c) ∈ ss) ∧ ∀ s ∈ ss, ∃ c, f' s.1 s.2.1 = some c ∧ c ≤ s.2.2)
    (fun k ev h => ∃ z3' z4' z5' f', ev = ess n (some (stsV ss)) z3' z4' z5' z6 z7 z8 z9 ∧ h = tO n f' ∧ (∀ i, i < n → f' i i = some 0) ∧ (∀ i j c, i < n → j < n → i ≠ j → f' i j = some c → (i, j, c) ∈ ss) ∧ ∀ m s, m < k → ss[m]? = some s → ∃ c, f' s.1 s.2.1 = some c ∧ c ≤ s.2.2)
    (ss.map stV) 0 _ _ ⟨none, none, none, f0, rfl, rfl, fun i _ => by simp [f0], fun i j c _ _ hne e => by simp [f0, hne] at e, fun m s h => absurd h (Nat.not_lt_zero _)⟩ (fun _ _ _ _ _ _ => rfl) ?_ ?_
  · exact this
  · rintro k v ev h hk ⟨z3', z4', z5', f', rfl, rfl, D', B', C'⟩
    rw [List.getElem?_map] at hk
    cases hs : ss[k]? with
    | none => rw [hs] at hk; cases hk
    | some s =>
    rw [hs] at hk
    cases hk
    have so := S s (List.mem_of_getElem? hs)
    simp only [Nat.zero_add] at C' ⊢
    refine ⟨ess n (some (stsV ss)) (some (.int (s.1 : Nat))) (some (.int (s.2.1 : Nat))) (some (.int s.2.2)) z6 z7 z8 z9, rfl, ?_⟩
    have e1 := cellO (f := f') (a := 2) (b := 3) (c := 4) so.a so.b (ev := ess n (some (stsV ss)) (some (.int (s.1 : Nat))) (some (.int (s.2.1 : Nat))) (some (.int s.2.2)) z6 z7 z8 z9) rfl rfl rfl
    have se := setO (f := f') (v := s.2.2) (fe := eVar 5) (a := 2) (b := 3) (c := 4) so.a so.b (ev := ess n (some (stsV ss)) (some (.int (s.1 : Nat))) (some (.int (s.2.1 : Nat))) (some (.int s.2.2)) z6 z7 z8 z9) rfl rfl rfl rfl
    have up : ∀ c0 : Option Int, f' s.1 s.2.1 = c0 → (∀ c, c0 = some c → s.2.2 < c) → (∀ i, i < n → upF f' s.1 s.2.1 s.2.2 i i = some 0) ∧ (∀ i j c, i < n → j < n → i ≠ j → upF f' s.1 s.2.1 s.2.2 i j = some c → (i, j, c) ∈ ss) ∧ ∀ m t, m < k + 1 → ss[m]? = some t → ∃ c, upF f' s.1 s.2.1 s.2.2 t.1 t.2.1 = some c ∧ c ≤ t.2.2 := by
      intro c0 h0 h1
      refine ⟨fun i hi => ?_, fun i j c hi hj hne e => ?_, fun m t hm ht => ?_⟩
      · unfold upF
        rw [if_neg fun z => so.ne (z.1.symm.trans z.2)]
        exact D' i hi
      · unfold upF at e
        by_cases z : i = s.1 ∧ j = s.2.1
        · rw [if_pos z] at e
          cases e
          rw [z.1, z.2]
          exact List.mem_of_getElem? hs
        · rw [if_neg z] at e
          exact B' i j c hi hj hne e
      · unfold upF
        by_cases z : t.1 = s.1 ∧ t.2.1 = s.2.1
        · rw [if_pos z]
          refine ⟨_, rfl, ?_⟩
          by_cases em : m = k
          · subst em
            rw [hs] at ht
            cases ht
            exact Int.le_refl _
          · obtain ⟨c, h2, h3⟩ := C' m t (by omega) ht
            rw [z.1, z.2, h0] at h2
            have := h1 c h2
            omega
        · rw [if_neg z]
          by_cases em : m = k
          · subst em
            rw [hs] at ht
            cases ht
            exact absurd ⟨rfl, rfl⟩ z
          · exact C' m t (by omega) ht
    rw [s_sif, s_or, s_tB, s_op, e1, k_op]
    cases h0 : f' s.1 s.2.1 with
    | none =>
      simp_all! [oI, -s_six]
      rw [se, ts_nx]
      exact .inl ⟨_, _, rfl, _, _, _, _, rfl, rfl, up none h0 fun c z => nomatch z⟩
    | some c =>
      simp_all! [oI, s_c, k_op1, o_isN3, o_isN4, k_o, k_tB, k_orF, -s_six, -s_op]
      rw [s_op, s_var]
      show Ts (sifK _ _ _ (tBK (oK _ _ _ (.ok (.int s.2.2) _)))) _
      rw [k_op, e1, h0]
      by_cases hlt : s.2.2 < c
      · have d := decide_eq_true hlt
        simp_all! [oI, -s_six, d]
        rw [se, ts_nx]
        exact .inl ⟨_, _, rfl, _, _, _, _, rfl, rfl, up (some c) h0 fun c' z => by cases z; exact hlt⟩
      · have d := decide_eq_false hlt
        simp_all! [oI, -s_six, d, ts_nx]
        refine .inl ⟨_, _, rfl, _, _, _, _, rfl, rfl, D', B', fun m t hm ht => ?_⟩
        by_cases em : m = k
        · subst em
          rw [hs] at ht
          cases ht
          exact ⟨c, h0, by omega⟩
        · exact C' m t (by omega) ht
  · rintro ev h ⟨z3', z4', z5', f', rfl, rfl, D', B', C'⟩
    refine ⟨z3', z4', z5', f', rfl, D', B', fun s hs => ?_⟩
    obtain ⟨m, hm⟩ := List.getElem?_of_mem hs
    exact C' m s (by rw [List.length_map]; have := (List.getElem?_eq_some_iff.mp hm).1; omega) hm
end
end FL

set_option linter.all false
set_option maxRecDepth 100000
set_option maxHeartbeats 4000000
namespace FL
open PySem PySem.Spec PyProof.Rows L2
/-! least sums of walks, where ways may be missing -/
abbrev OF2 := Nat → Nat → Option Int
abbrev St3 := Nat × Nat × Int
def upO (a : Option Int) (v : Int) : Prop := ∃ x, a = some x ∧ x ≤ v
inductive Walk (ss : List St3) : Nat → Nat → Int → Prop
  | nil {i : Nat} : Walk ss i i 0
  | snoc {i m j : Nat} {u c : Int} : Walk ss i m u → (m, j, c) ∈ ss → Walk ss i j (u + c)
section
variable {n : Nat} {ss : List St3} {f g : OF2} {i j k m : Nat} {u v w : Int}
theorem Walk.app (h1 : Walk ss i m u) (h2 : Walk ss m j w) : Walk ss i j (u + w) := by
  induction h2 with
  | nil => rw [Int.add_zero]; exact h1
  | snoc _ hs ih => rw [← Int.add_assoc]; exact .snoc ih hs
theorem Walk.nn (S : ∀ s ∈ ss, 0 ≤ s.2.2) (h : Walk ss i j v) : 0 ≤ v := by
  induction h with
  | nil => exact Int.le_refl _
  | snoc _ hs ih => have := S _ hs; simp only at this; omega
/-- every entry is the sum of a walk -/
def AreW (n : Nat) (ss : List St3) (f : OF2) : Prop := ∀ i j x, i < n → j < n → f i j = some x → Walk ss i j x
/-- the least sums -/
structure IsMin (n : Nat) (ss : List St3) (f : OF2) : Prop where
  w : AreW n ss f
  m : ∀ i j v, i < n → j < n → Walk ss i j v → upO (f i j) v
theorem IsMin.eq (F : IsMin n ss f) (G : IsMin n ss g) (hi : i < n) (hj : j < n) : f i j = g i j := by
  cases hf : f i j with
  | some x =>
    obtain ⟨y, hy, h1⟩ := G.m i j x hi hj (F.w i j x hi hj hf)
    obtain ⟨z, hz, h2⟩ := F.m i j y hi hj (G.w i j y hi hj hy)
    rw [hf] at hz
    cases hz
    rw [hy, show x = y by omega]
  | none =>
    cases hg : g i j with
    | none => rfl
    | some y =>
      obtain ⟨z, hz, _⟩ := F.m i j y hi hj (G.w i j y hi hj hg)
      rw [hf] at hz
      cases hz
/-- what is closed under its steps is least -/
theorem min_of (S : ∀ s ∈ ss, s.1 < n ∧ s.2.1 < n) (hw : AreW n ss f) (h0 : ∀ i, i < n → upO (f i i) 0) (hc : ∀ i m j u c, i < n → (m, j, c) ∈ ss → upO (f i m) u → upO (f i j) (u + c)) : IsMin n ss f := by
  refine ⟨hw, fun i j v hi hj h => ?_⟩
  clear hj
  induction h with
  | nil => exact h0 _ hi
  | snoc _ hs ih => exact hc _ _ _ _ _ hi hs ih
/-- one stage: over state m -/
def stgF (f : OF2) (m : Nat) : OF2 := fun i j => match f i m, f m j with
  | some x, some y => match f i j with
    | none => some (x + y)
    | some z => if x + y < z then some (x + y) else some z
  | _, _ => f i j
theorem stg_up : upO (stgF f m i j) v ↔ upO (f i j) v ∨ ∃ u w, upO (f i m) u ∧ upO (f m j) w ∧ u + w ≤ v := by
  unfold stgF
  cases h1 : f i m with
  | none =>
    constructor
    · exact .inl
    · rintro (h | ⟨u, w, ⟨x, hx, _⟩, _⟩)
      · exact h
      · cases hx
  | some x =>
    cases h2 : f m j with
    | none =>
      constructor
      · exact .inl
      · rintro (h | ⟨u, w, _, ⟨y, hy, _⟩, _⟩)
        · exact h
        · cases hy
    | some y =>
      cases h3 : f i j with
      | none =>
        constructor
        · rintro ⟨z, hz, hv⟩
          cases hz
          exact .inr ⟨x, y, ⟨x, rfl, Int.le_refl _⟩, ⟨y, rfl, Int.le_refl _⟩, hv⟩
        · rintro (⟨z, hz, _⟩ | ⟨u, w, ⟨x', hx, h4⟩, ⟨y', hy, h5⟩, h6⟩)
          · cases hz
          · cases hx; cases hy
            exact ⟨_, rfl, by omega⟩
      | some z =>
        by_cases hlt : x + y < z
        · simp only [if_pos hlt]
          constructor
          · rintro ⟨t, ht, hv⟩
            cases ht
            exact .inr ⟨x, y, ⟨x, rfl, Int.le_refl _⟩, ⟨y, rfl, Int.le_refl _⟩, hv⟩
          · rintro (⟨t, ht, hv⟩ | ⟨u, w, ⟨x', hx, h4⟩, ⟨y', hy, h5⟩, h6⟩)
            · cases ht
              exact ⟨_, rfl, by omega⟩
            · cases hx; cases hy
              exact ⟨_, rfl, by omega⟩
        · simp only [if_neg hlt]
          constructor
          · exact .inl
          · rintro (h | ⟨u, w, ⟨x', hx, h4⟩, ⟨y', hy, h5⟩, h6⟩)
            · exact h
            · cases hx; cases hy
              exact ⟨_, rfl, by omega⟩
theorem stg_w (hm : m < n) (hw : AreW n ss f) : AreW n ss (stgF f m) := by
  intro i j x hi hj h
  unfold stgF at h
  cases h1 : f i m with
  | none => rw [h1] at h; exact hw i j x hi hj h
  | some a =>
    cases h2 : f m j with
    | none => rw [h1, h2] at h; exact hw i j x hi hj h
    | some b =>
      rw [h1, h2] at h
      have W := (hw i m a hi hm h1).app (hw m j b hm hj h2)
      cases h3 : f i j with
      | none => rw [h3] at h; cases h; exact W
      | some z =>
        rw [h3] at h
        simp only at h
        split at h
        · cases h; exact W
        · cases h; exact hw i j _ hi hj h3
/-- ways over states below m are met -/
def Tri (n : Nat) (f : OF2) (m : Nat) : Prop := ∀ k, k < m → ∀ i j, i < n → j < n → ∀ u w, upO (f i k) u → upO (f k j) w → upO (f i j) (u + w)
theorem stg_tri (hm : m < n) (nn : ∀ i j v, i < n → j < n → upO (f i j) v → 0 ≤ v) (T : Tri n f m) : Tri n (stgF f m) (m + 1) := by
  intro k hk i j hi hj u w h1 h2
  have hkn : k < n := by omega
  rw [stg_up] at h1 h2 ⊢
  by_cases e : k = m
  · subst e
    refine .inr ?_
    rcases h1 with h1 | ⟨a, b, h3, h4, h5⟩
    · rcases h2 with h2 | ⟨c, d, h6, h7, h8⟩
      · exact ⟨u, w, h1, h2, Int.le_refl _⟩
      · have := nn k k c hkn hkn h6
        exact ⟨u, d, h1, h7, by omega⟩
    · have := nn k k b hkn hkn h4
      rcases h2 with h2 | ⟨c, d, h6, h7, h8⟩
      · exact ⟨a, w, h3, h2, by omega⟩
      · have := nn k k c hkn hkn h6
        exact ⟨a, d, h3, h7, by omega⟩
  · have hkm : k < m := by omega
    rcases h1 with h1 | ⟨a, b, h3, h4, h5⟩
    · rcases h2 with h2 | ⟨c, d, h6, h7, h8⟩
      · exact .inl (T k hkm i j hi hj u w h1 h2)
      · exact .inr ⟨u + c, d, T k hkm i m hi hm u c h1 h6, h7, by omega⟩
    · rcases h2 with h2 | ⟨c, d, h6, h7, h8⟩
      · exact .inr ⟨a, b + w, h3, T k hkm m j hm hj b w h4 h2, by omega⟩
      · have n1 := nn m k b hm hkn h4
        have n2 := nn k m c hkn hm h6
        exact .inr ⟨a, d, h3, h7, by omega⟩
/-- all stages -/
def stgsF (f : OF2) : Nat → OF2
  | 0 => f
  | m + 1 => stgF (stgsF f m) m
theorem stgs_ok (S : ∀ s ∈ ss, s.1 < n ∧ s.2.1 < n ∧ 0 ≤ s.2.2) (hw : AreW n ss f) : ∀ m, m ≤ n → AreW n ss (stgsF f m) ∧ Tri n (stgsF f m) m ∧ ∀ i j v, upO (f i j) v → upO (stgsF f m i j) v
  | 0, _ => ⟨hw, fun k hk => absurd hk (by omega), fun _ _ _ h => h⟩
  | m + 1, hm => by
    obtain ⟨h1, h2, h3⟩ := stgs_ok S hw m (by omega)
    have nn : ∀ i j v, i < n → j < n → upO (stgsF f m i j) v → 0 ≤ v := fun i j v hi hj h => by
      obtain ⟨x, hx, hv⟩ := h
      have := (h1 i j x hi hj hx).nn fun s hs => (S s hs).2.2
      omega
    exact ⟨stg_w (by omega) h1, stg_tri (by omega) nn h2, fun i j v h => stg_up.mpr (.inl (h3 i j v h))⟩
/-- what the stages end with, is least -/
theorem stgs_min (S : ∀ s ∈ ss, s.1 < n ∧ s.2.1 < n ∧ 0 ≤ s.2.2) (hw : AreW n ss f) (h0 : ∀ i, i < n → upO (f i i) 0) (hs : ∀ s ∈ ss, upO (f s.1 s.2.1) s.2.2) : IsMin n ss (stgsF f n) := by
  obtain ⟨h1, h2, h3⟩ := stgs_ok S hw n (Nat.le_refl _)
  refine min_of (fun s hs => ⟨(S s hs).1, (S s hs).2.1⟩) h1 (fun i hi => h3 i i 0 (h0 i hi)) fun i m j u c hi hc hu => ?_
  have hb := S _ hc
  exact h2 m hb.1 i j hi hb.2.1 u c hu (h3 _ _ _ (hs _ hc))
end
end FL

set_option linter.all false
set_option maxRecDepth 100000
set_option maxHeartbeats 8000000
namespace FL
open PySem PySem.Spec PyProof.Rows L2
/-! shortest_sums, where ways may be missing -/
def STB : SF := (sSeq (sPar3 7 8 9 (aCons (eOp oIx (eOp oIx (eVar 2) (eVar 3)) (eVar 6)) (aCons (eOp oIx (eOp oIx (eVar 2) (eVar 6)) (eVar 4)) (aCons (eOp oIx (eOp oIx (eVar 2) (eVar 3)) (eVar 4)) (aNil))))) (sIf (tAnd (tB (eOp (oIs true) (eVar 7) (eC .non))) (tAnd (tB (eOp (oIs true) (eVar 8) (eC .non))) (tOr (tB (eOp (oIs false) (eVar 9) (eC .non))) (tB (eOp oLt (eOp oAdd (eVar 7) (eVar 8)) (eVar 9)))))) (sSetIx (eOp oIx (eVar 2) (eVar 3)) (eVar 4) (eOp oAdd (eVar 7) (eVar 8))) (sNil)))
def upS (f : OF2) (m i j : Nat) : OF2 := fun a b => if a = i ∧ b = j then stgF f m i j else f a b
section
variable {n m i j : Nat} {f g : OF2} {v1 z3 z4 z5 z7 z8 z9 : Option Va}
theorem upS_same (h : stgF f m i j = f i j) : upS f m i j = f := by
  funext a b
  unfold upS
  by_cases e : a = i ∧ b = j
  · rw [if_pos e, h, e.1, e.2]
  · rw [if_neg e]
theorem stb_ok (hi : i < n) (hj : j < n) (hm : m < n) : ∃ z7' z8' z9', STB (ess n v1 (some (.int (i : Nat))) (some (.int (j : Nat))) z5 (some (.int (m : Nat))) z7 z8 z9) (tO n f) = .nx (ess n v1 (some (.int (i : Nat))) (some (.int (j : Nat))) z5 (some (.int (m : Nat))) z7' z8' z9') (tO n (upS f m i j)) := by
  have e1 := cellO (f := f) (a := 2) (b := 3) (c := 6) hi hm (ev := ess n v1 (some (.int (i : Nat))) (some (.int (j : Nat))) z5 (some (.int (m : Nat))) z7 z8 z9) rfl rfl rfl
  have e2 := cellO (f := f) (a := 2) (b := 6) (c := 4) hm hj (ev := ess n v1 (some (.int (i : Nat))) (some (.int (j : Nat))) z5 (some (.int (m : Nat))) z7 z8 z9) rfl rfl rfl
  have e3 := cellO (f := f) (a := 2) (b := 3) (c := 4) hi hj (ev := ess n v1 (some (.int (i : Nat))) (some (.int (j : Nat))) z5 (some (.int (m : Nat))) z7 z8 z9) rfl rfl rfl
  refine ⟨some (oI (f i m)), some (oI (f m j)), some (oI (f i j)), ?_⟩
  have asg : sPar3 7 8 9 (aCons (eOp oIx (eOp oIx (eVar 2) (eVar 3)) (eVar 6)) (aCons (eOp oIx (eOp oIx (eVar 2) (eVar 6)) (eVar 4)) (aCons (eOp oIx (eOp oIx (eVar 2) (eVar 3)) (eVar 4)) (aNil)))) (ess n v1 (some (.int (i : Nat))) (some (.int (j : Nat))) z5 (some (.int (m : Nat))) z7 z8 z9) (tO n f) = .nx (ess n v1 (some (.int (i : Nat))) (some (.int (j : Nat))) z5 (some (.int (m : Nat))) (some (oI (f i m))) (some (oI (f m j))) (some (oI (f i j)))) (tO n f) := by
    rw [s_par3, s_cons, e1, k_cons, s_cons, e2, k_cons, s_cons, e3, k_cons, s_nil, k_cons1, k_cons1, k_cons1, k_par3]
    rfl
  have isF : ∀ (x : Option Int) (h : AH), oIs true (oI x) .non h = some (.bl x.isSome, h) := fun x h => by cases x <;> rfl
  have isT : ∀ (x : Option Int) (h : AH), oIs false (oI x) .non h = some (.bl x.isNone, h) := fun x h => by cases x <;> rfl
  unfold STB
  rw [s_seq, asg, k_seqN]
  cases h1 : f i m with
  | none =>
    have u : upS f m i j = f := upS_same (by unfold stgF; rw [h1])
    rw [u]
    have := isF none
    simp_all! [-o_isN1, -o_isN2, -o_isN3, -o_isN4, isF, Option.isSome_none]
  | some x =>
  cases h2 : f m j with
  | none =>
    have u : upS f m i j = f := upS_same (by unfold stgF; rw [h1, h2])
    rw [u]
    simp_all! [-o_isN1, -o_isN2, -o_isN3, -o_isN4, isF, Option.isSome_none, Option.isSome_some]
  | some y =>
  have se : sSetIx (eOp oIx (eVar 2) (eVar 3)) (eVar 4) (eOp oAdd (eVar 7) (eVar 8)) (ess n v1 (some (.int (i : Nat))) (some (.int (j : Nat))) z5 (some (.int (m : Nat))) (some (oI (some x))) (some (oI (some y))) (some (oI (f i j)))) (tO n f) = .nx (ess n v1 (some (.int (i : Nat))) (some (.int (j : Nat))) z5 (some (.int (m : Nat))) (some (oI (some x))) (some (oI (some y))) (some (oI (f i j)))) (tO n (upF f i j (x + y))) := setO (f := f) (v := x + y) (a := 2) (b := 3) (c := 4) hi hj rfl rfl rfl rfl
  cases h3 : f i j with
  | none =>
    rw [h3] at se
    have u : upF f i j (x + y) = upS f m i j := by
      funext a b
      unfold upS upF
      by_cases e : a = i ∧ b = j
      · rw [if_pos e, if_pos e]
        unfold stgF
        rw [h1, h2, h3]
      · rw [if_neg e, if_neg e]
    rw [← u]
    simp_all! [-s_six, -o_isN1, -o_isN2, -o_isN3, -o_isN4, isF, isT, Option.isSome_none, Option.isSome_some, Option.isNone_none]
    exact se
  | some z =>
    rw [h3] at se
    have ad : ∀ h : AH, oAdd (oI (some x)) (oI (some y)) h = some (.int (x + y), h) := fun h => rfl
    have lt : ∀ h : AH, oLt (.int (x + y)) (oI (some z)) h = some (.bl (decide (x + y < z)), h) := fun h => rfl
    by_cases hlt : x + y < z
    · have d := decide_eq_true hlt
      have u : upF f i j (x + y) = upS f m i j := by
        funext a b
        unfold upS upF
        by_cases e : a = i ∧ b = j
        · rw [if_pos e, if_pos e]
          unfold stgF
          rw [h1, h2, h3]
          simp only [if_pos hlt]
        · rw [if_neg e, if_neg e]
      rw [← u]
      simp_all! [-s_six, -o_add, -o_lt, -o_isN1, -o_isN2, -o_isN3, -o_isN4, isF, isT, ad, lt, d, Option.isSome_none, Option.isSome_some, Option.isNone_some]
      exact se
    · have d := decide_eq_false hlt
      have u : upS f m i j = f := upS_same (by unfold stgF; rw [h1, h2, h3]; simp only [if_neg hlt])
      rw [u]
      simp_all! [-s_six, -o_add, -o_lt, -o_isN1, -o_isN2, -o_isN3, -o_isN4, isF, isT, ad, lt, d, Option.isSome_none, Option.isSome_some, Option.isNone_some]
theorem stg_mid0 (D : g m m = some 0) (a : Nat) : stgF g m a m = g a m := by
  unfold stgF
  rw [D]
  cases g a m with
  | none => rfl
  | some x => simp
theorem stg_mid1 (D : g m m = some 0) (b : Nat) : stgF g m m b = g m b := by
  unfold stgF
  rw [D]
  cases g m b with
  | none => rfl
  | some x => simp
theorem stg_cong (D : g m m = some 0) {gc : OF2} (h1 : gc i m = g i m) (h2 : gc m j = g m j) (h3 : gc i j = g i j) : stgF gc m i j = stgF g m i j := by
  unfold stgF
  rw [h1, h2, h3]
theorem stage2 (hn : n ≤ 10) (hm : m < n) (D : g m m = some 0) (v1 z3 z4 z5 z7 z8 z9 : Option Va) : ∃ z3' z4' z7' z8' z9',
    (sFor (iOf (aCons (eVar 0) (aNil)) srcR) (gNm 3) (sFor (iOf (aCons (eVar 0) (aNil)) srcR) (gNm 4) STB)) (ess n v1 z3 z4 z5 (some (.int (m : Nat))) z7 z8 z9) (tO n g) = .nx (ess n v1 z3' z4' z5 (some (.int (m : Nat))) z7' z8' z9') (tO n (stgF g m)) := by
  have inner : ∀ (i : Nat), i < n → ∀ (z4 z7 z8 z9 : Option Va) (gc : OF2), (∀ a b, a < n → b < n → gc a b = if a < i then stgF g m a b else g a b) → ∃ z4' z7' z8' z9' gc',
      (sFor (iOf (aCons (eVar 0) (aNil)) srcR) (gNm 4) STB) (ess n v1 (some (.int (i : Nat))) z4 z5 (some (.int (m : Nat))) z7 z8 z9) (tO n gc) = .nx (ess n v1 (some (.int (i : Nat))) z4' z5 (some (.int (m : Nat))) z7' z8' z9') (tO n gc') ∧ ∀ a b, a < n → b < n → gc' a b = if a < i + 1 then stgF g m a b else g a b := by
    intro i hi z4 z7 z8 z9 gc hc
    rw [for_range (m := n) (by omega) rfl]
    have := loop_inv (gsl := []) (gf := gNm 4) (sf := STB) (Q := fun r => ∃ z4' z7' z8' z9' gc', r = .nx (ess n v1 (some (.int (i : Nat))) z4' z5 (some (.int (m : Nat))) z7' z8' z9') (tO n gc') ∧ ∀ a b, a < n → b < n → gc' a b = if a < i + 1 then stgF g m a b else g a b)
      (fun j ev h => ∃ z4' z7' z8' z9' gc', ev = ess n v1 (some (.int (i : Nat))) z4' z5 (some (.int (m : Nat))) z7' z8' z9' ∧ h = tO n gc' ∧ ∀ a b, a < n → b < n → gc' a b = if a < i ∨ (a = i ∧ b < j) then stgF g m a b else g a b)
      (intsF 0 n) 0 _ _ ⟨z4, z7, z8, z9, gc, rfl, rfl, fun a b ha hb => by rw [hc a b ha hb]; simp⟩ (fun _ _ _ _ _ _ => rfl) ?_ ?_
    · exact this
    · rintro j v ev h hj ⟨z4', z7', z8', z9', gc', rfl, rfl, hq⟩
      obtain ⟨hjn, rfl⟩ := intsF_at0 hj
      simp only [Nat.zero_add] at hq ⊢
      refine ⟨ess n v1 (some (.int (i : Nat))) (some (.int (j : Nat))) z5 (some (.int (m : Nat))) z7' z8' z9', rfl, ?_⟩
      have v1' : gc' i j = g i j := by rw [hq i j hi hjn, if_neg (by omega)]
      have v2 : gc' i m = g i m := by
        rw [hq i m hi hm]
        split
        · exact stg_mid0 D i
        · rfl
      have v3 : gc' m j = g m j := by
        rw [hq m j hm hjn]
        split
        · exact stg_mid1 D j
        · rfl
      obtain ⟨y7, y8, y9, e⟩ := stb_ok (n := n) (m := m) (i := i) (j := j) (f := gc') (v1 := v1) (z5 := z5) (z7 := z7') (z8 := z8') (z9 := z9') hi hjn hm
      rw [e, ts_nx]
      refine .inl ⟨_, _, rfl, _, _, _, _, upS gc' m i j, rfl, rfl, fun a b ha hb => ?_⟩
      unfold upS
      by_cases ee : a = i ∧ b = j
      · obtain ⟨rfl, rfl⟩ := ee
        rw [if_pos ⟨rfl, rfl⟩, if_pos (by omega), stg_cong D v2 v3 v1']
      · rw [if_neg ee, hq a b ha hb]
        by_cases e2 : a < i ∨ (a = i ∧ b < j)
        · rw [if_pos e2, if_pos (by omega)]
        · rw [if_neg e2, if_neg (by omega)]
    · rintro ev h ⟨z4', z7', z8', z9', gc', rfl, rfl, hq⟩
      refine ⟨z4', z7', z8', z9', gc', rfl, fun a b ha hb => ?_⟩
      rw [hq a b ha hb, ints_len]
      by_cases e2 : a < i + 1
      · rw [if_pos (by omega), if_pos e2]
      · rw [if_neg (by omega), if_neg e2]
  rw [for_range (m := n) (by omega) rfl]
  have := loop_inv (gsl := []) (gf := gNm 3) (sf := (sFor (iOf (aCons (eVar 0) (aNil)) srcR) (gNm 4) STB)) (Q := fun r => ∃ z3' z4' z7' z8' z9', r = .nx (ess n v1 z3' z4' z5 (some (.int (m : Nat))) z7' z8' z9') (tO n (stgF g m)))
    (fun i ev h => ∃ z3' z4' z7' z8' z9' gc', ev = ess n v1 z3' z4' z5 (some (.int (m : Nat))) z7' z8' z9' ∧ h = tO n gc' ∧ ∀ a b, a < n → b < n → gc' a b = if a < i then stgF g m a b else g a b)
    (intsF 0 n) 0 _ _ ⟨z3, z4, z7, z8, z9, g, rfl, rfl, fun a b ha hb => by simp⟩ (fun _ _ _ _ _ _ => rfl) ?_ ?_
  · exact this
  · rintro i v ev h hi ⟨z3', z4', z7', z8', z9', gc', rfl, rfl, hq⟩
    obtain ⟨hin, rfl⟩ := intsF_at0 hi
    simp only [Nat.zero_add] at hq ⊢
    obtain ⟨y4, y7, y8, y9, gc'', e, hq'⟩ := inner i hin z4' z7' z8' z9' gc' hq
    exact ⟨_, rfl, .inl ⟨_, _, e, _, _, _, _, _, gc'', rfl, rfl, hq'⟩⟩
  · rintro ev h ⟨z3', z4', z7', z8', z9', gc', rfl, rfl, hq⟩
    refine ⟨z3', z4', z7', z8', z9', ?_⟩
    rw [tO_congr (f' := stgF g m) fun a b ha hb => by rw [hq a b ha hb, ints_len, if_pos (by omega)]]
end
end FL

set_option linter.all false
set_option maxRecDepth 100000
set_option maxHeartbeats 8000000
namespace FL
open PySem PySem.Spec PyProof.Rows L2
/-! shortest_sums gives the least sums -/
section
variable {n m i j : Nat} {f g : OF2} {ss : List St3} {v1 z3 z4 z5 z6 z7 z8 z9 : Option Va}
theorem stg_diag (hi : i < n) (hm : m < n) (nn : ∀ i j x, i < n → j < n → f i j = some x → 0 ≤ x) (D : f i i = some 0) : stgF f m i i = some 0 := by
  unfold stgF
  cases h1 : f i m with
  | none => exact D
  | some x =>
    cases h2 : f m i with
    | none => exact D
    | some y =>
      have := nn i m x hi hm h1
      have := nn m i y hm hi h2
      rw [D]
      simp only
      rw [if_neg (by omega)]
theorem stages2 (hn : n ≤ 10) (S : ∀ s ∈ ss, s.1 < n ∧ s.2.1 < n ∧ 0 ≤ s.2.2) (hw : AreW n ss f) (D : ∀ i, i < n → f i i = some 0) (v1 z3 z4 z5 z6 z7 z8 z9 : Option Va) : ∃ z3' z4' z6' z7' z8' z9',
    (sFor (iOf (aCons (eVar 0) (aNil)) srcR) (gNm 6) (sFor (iOf (aCons (eVar 0) (aNil)) srcR) (gNm 3) (sFor (iOf (aCons (eVar 0) (aNil)) srcR) (gNm 4) STB))) (ess n v1 z3 z4 z5 z6 z7 z8 z9) (tO n f) = .nx (ess n v1 z3' z4' z5 z6' z7' z8' z9') (tO n (stgsF f n)) := by
  rw [for_range (m := n) (by omega) rfl]
  have dg : ∀ m, m ≤ n → ∀ i, i < n → stgsF f m i i = some 0 := by
    intro m
    induction m with
    | zero => intro _ i hi; exact D i hi
    | succ m ih =>
      intro hm i hi
      refine stg_diag hi (by omega) (fun i j x hi hj hx => ?_) (ih (by omega) i hi)
      exact ((stgs_ok S hw m (by omega)).1 i j x hi hj hx).nn fun s hs => (S s hs).2.2
  have := loop_inv (gsl := []) (gf := gNm 6) (sf := (sFor (iOf (aCons (eVar 0) (aNil)) srcR) (gNm 3) (sFor (iOf (aCons (eVar 0) (aNil)) srcR) (gNm 4) STB))) (Q := fun r => ∃ z3' z4' z6' z7' z8' z9', r = .nx (ess n v1 z3' z4' z5 z6' z7' z8' z9') (tO n (stgsF f n)))
    (fun k ev h => ∃ z3' z4' z6' z7' z8' z9', ev = ess n v1 z3' z4' z5 z6' z7' z8' z9' ∧ h = tO n (stgsF f k))
    (intsF 0 n) 0 _ _ ⟨z3, z4, z6, z7, z8, z9, rfl, rfl⟩ (fun _ _ _ _ _ _ => rfl) ?_ ?_
  · exact this
  · rintro k v ev h hk ⟨z3', z4', z6', z7', z8', z9', rfl, rfl⟩
    obtain ⟨hkn, rfl⟩ := intsF_at0 hk
    simp only [Nat.zero_add]
    obtain ⟨y3, y4, y7, y8, y9, e⟩ := stage2 hn hkn (dg k (by omega) k hkn) v1 z3' z4' z5 z7' z8' z9'
    exact ⟨_, rfl, .inl ⟨_, _, e, _, _, _, _, _, _, rfl, rfl⟩⟩
  · rintro ev h ⟨z3', z4', z6', z7', z8', z9', rfl, rfl⟩
    refine ⟨z3', z4', z6', z7', z8', z9', ?_⟩
    rw [Nat.zero_add, ints_len]
def tabO (n : Nat) (g : OF2) : Va := .tup ((List.range n).map fun i => .tup ((List.range n).map fun j => oI (g i j)))
theorem inR_tabO : inR 0 (tabO n g) = true := by
  show inRs 0 _ = true
  refine inR_map (fun i => ?_) _
  show inRs 0 _ = true
  exact inR_map (fun j => inR_oI _) _
theorem sums_o (hn : n ≤ 10) (S : ∀ s ∈ ss, StOk n s) : Tk (m_shortest_sums [.int (n : Nat), stsV ss] []) (fun v h => ∃ g, v = tabO n g ∧ h = [] ∧ IsMin n ss g ∧ ∀ i, i < n → g i i = some 0) := by
  have hlim : lim = 1000000 := rfl
  unfold m_shortest_sums
  refine p_fn (by rfl) ?_
  show Ts (b_shortest_sums [some (.int (n : Nat)), some (stsV ss), none, none, none, none, none, none, none, none, none] []) _
  unfold b_shortest_sums
  rw [s_seq, s_set]
  refine p_sq (p_set (startO hn _ ?_))
  rw [k_set, ts_nx, k_seqN, s_seq]
  obtain ⟨z3, z4, z5, f', e, D, B, C⟩ := stepsO hn S none none none none
  rw [show ([some (.int (n : Nat)), some (stsV ss), none, none, none, none, none, none, none, none, none] : Ev).set 2 (some (.ref n)) = ess n (some (stsV ss)) none none none none none none none from rfl]
  rw [e, k_seqN, s_seq]
  have hw : AreW n ss f' := fun i j x hi hj hx => by
    by_cases e : i = j
    · subst e
      rw [D i hi] at hx
      cases hx
      exact .nil
    · have := B i j x hi hj e hx
      rw [← Int.zero_add x]
      exact .snoc .nil this
  have S2 : ∀ s ∈ ss, s.1 < n ∧ s.2.1 < n ∧ 0 ≤ s.2.2 := fun s hs => ⟨(S s hs).a, (S s hs).b, by have := (S s hs).lo; omega⟩
  have MN := stgs_min S2 hw (fun i hi => ⟨0, D i hi, Int.le_refl _⟩) fun s hs => C s hs
  obtain ⟨y3, y4, y6, y7, y8, y9, e2⟩ := stages2 hn S2 hw D (some (stsV ss)) z3 z4 z5 none none none none
  have e2 : (sFor (iOf (aCons (eVar 0) (aNil)) srcR) (gNm 6) (sFor (iOf (aCons (eVar 0) (aNil)) srcR) (gNm 3) (sFor (iOf (aCons (eVar 0) (aNil)) srcR) (gNm 4) (sSeq (sPar3 7 8 9 (aCons (eOp oIx (eOp oIx (eVar 2) (eVar 3)) (eVar 6)) (aCons (eOp oIx (eOp oIx (eVar 2) (eVar 6)) (eVar 4)) (aCons (eOp oIx (eOp oIx (eVar 2) (eVar 3)) (eVar 4)) (aNil))))) (sIf (tAnd (tB (eOp (oIs true) (eVar 7) (eC .non))) (tAnd (tB (eOp (oIs true) (eVar 8) (eC .non))) (tOr (tB (eOp (oIs false) (eVar 9) (eC .non))) (tB (eOp oLt (eOp oAdd (eVar 7) (eVar 8)) (eVar 9)))))) (sSetIx (eOp oIx (eVar 2) (eVar 3)) (eVar 4) (eOp oAdd (eVar 7) (eVar 8))) (sNil)))))) (ess n (some (stsV ss)) z3 z4 z5 none none none none) (tO n f') = _ := e2
  rw [e2, k_seqN]
  have dg : ∀ i, i < n → stgsF f' n i i = some 0 := fun i hi => by
    obtain ⟨x, hx, h0⟩ := MN.m i i 0 hi hi .nil
    have := (MN.w i i x hi hi hx).nn fun s hs => (S2 s hs).2.2
    rw [hx, show x = 0 by omega]
  generalize stgsF f' n = g at *
  have cm : compF [(n, (List.range n).map fun i => Va.ref i)] (gNm 10) tYesF (eAp oTuple (aCons (eVar 10) aNil)) (ewipe (ess n (some (stsV ss)) y3 y4 z5 y6 y7 y8 y9) [10]) ((List.range n).map fun i => Va.ref i) (tO n g) = .ok (((List.range n).map fun i => Va.ref i).map (lkV (tO n g))) (tO n g) :=
    comp_map (φ := lkV (tO n g)) (e1 := fun v => [some (.int (n : Nat)), some (stsV ss), some (.ref n), y3, y4, z5, y6, y7, y8, y9, some v]) (c_g tO_top0) _ fun v hv => by
      obtain ⟨a, ha, rfl⟩ := List.mem_map.mp hv
      have ha := List.mem_range.mp ha
      refine ⟨rfl, ?_⟩
      rw [s_ap, s_cons, s_var]
      show apK _ (aK _ _ (.ok (.ref a) _)) = _
      rw [k_cons, s_nil, k_cons1, k_ap, o_tupL, tO_row0 ha, k_tupL, k_o, lkV_ref (tO_row0 ha)]
  have cm2 : (((List.range n).map fun i => Va.ref i).map (lkV (tO n g))) = (List.range n).map fun i => Va.tup ((List.range n).map fun j => oI (g i j)) := by
    rw [List.map_map]
    apply List.map_congr_left
    intro i hi
    simp only [Function.comp, lkV_ref (tO_row0 (List.mem_range.mp hi))]
  have e6 : ((List.range n).map fun i => Va.ref i).length < lim := by simp [hlim]; omega
  rw [s_ret, s_ap, s_cons, s_lc, s_it1, s_var]
  show Ts (retK _ (apK _ (aK _ _ (lcK _ _ _ _ _ (it1K srcOf (.ok (.ref n) _)))))) _
  rw [k_it1, c_L, tO_top0, k_srcL, k_it2, k_lc e6, cm, cm2, k_lc1, k_cons, s_nil, k_cons1, k_ap, o_tupL, lstAt_end, k_tupL, k_o, k_ret, ts_rt, k_endR]
  have hg := gc0 (v := tabO n g) (h := tO n g ++ [AO.lst ((List.range n).map fun i => Va.tup ((List.range n).map fun j => oI (g i j)))]) inR_tabO
  show Tk (gcF 0 (.ok (tabO n g) _)) _
  rw [hg]
  exact Tk.ok ⟨g, rfl, rfl, MN, dg⟩
end
end FL

set_option linter.all false
set_option maxRecDepth 100000
set_option maxHeartbeats 8000000
namespace FL
open PySem PySem.Spec PyProof.Rows L2
/-! switching_from_steps of valid steps: the table, or InvalidSteps -/
theorem loc0XE {F : List Va → AH → Rs Va} {vs : List Va} {h h1 : AH} {c : Str} (e : F vs [] = .exc c [] h1) (e2 : refsOfs vs = []) : ∃ t, callL F vs h = .exc c [] (h ++ t) := by
  refine ⟨h1.map (mapRO (sh0 h.length)), ?_⟩
  simp [callL, e2, e, back0, mapRf]
def cellB : Va → Va
  | .int c => .bl (decide (c > 1000))
  | _ => .bl true
def rowB : Va → List Va
  | .tup xs => xs.map cellB
  | _ => []
section
variable {n : Nat} {ss : List St3} {g : OF2}
theorem inR_sts : inR 0 (stsV ss) = true := by
  show inRs 0 (ss.map stV) = true
  exact inR_map (fun s => rfl) ss
theorem refs_sts {i : Int} : refsOfs [.int i, stsV ss] = [] := refs_cons rfl (refs_cons inR_sts rfl)
theorem step_l {s : Nat × Nat × Int} (so : StOk n s) {h : AH} : callL m_is_step [stV s, .int (n : Nat)] h = .ok (.bl true) h := by
  refine loc0 ?_ rfl rfl
  obtain ⟨a, b, c⟩ := s
  obtain ⟨h1, h2, h3, h4, h5⟩ := so
  simp only at h1 h2 h3 h4 h5
  unfold m_is_step stV
  rw [s_fn (by rfl)]
  have d1 : decide ((0 : Int) ≤ ((a : Nat) : Int)) = true := decide_eq_true (by omega)
  have d2 : decide (((a : Nat) : Int) ≤ ((n : Nat) : Int) - 1) = true := decide_eq_true (by omega)
  have d3 : decide ((0 : Int) ≤ ((b : Nat) : Int)) = true := decide_eq_true (by omega)
  have d4 : decide (((b : Nat) : Int) ≤ ((n : Nat) : Int) - 1) = true := decide_eq_true (by omega)
  have d5 : decide (((a : Nat) : Int) = ((b : Nat) : Int)) = false := decide_eq_false (by omega)
  have d6 := decide_eq_true h4
  have d7 := decide_eq_true h5
  have l3 : ∀ h : AH, oLen [.tup [.int (a : Nat), .int (b : Nat), .int c]] h = some (.int 3, h) := fun _ => rfl
  have d8 : decide ((3 : Int) = 3) = true := rfl
  simp_all! [b_is_step, List.replicate, l3, d8, is_int_l, d1, d2, d3, d4, d5, d6, d7, Bool.and_self]
  rfl
def bigO : Option Int → Bool
  | none => true
  | some c => decide (c > 1000)
def rowO (n : Nat) (g : OF2) (i : Nat) : List (Option Int) := (List.range n).map fun j => g i j
/-- a way is missing, or a sum is above 1000 -/
def badO (n : Nat) (g : OF2) : Bool := (((List.range n).flatMap (rowO n g)).map bigO).any id
theorem sfs_o (h2 : 2 ≤ n) (hn : n ≤ 10) (S : ∀ s ∈ ss, StOk n s) (hl : ss.length ≤ 900) : ∃ g, IsMin n ss g ∧ (∀ i, i < n → g i i = some 0) ∧
    (badO n g = false → ∀ h, callL m_switching_from_steps [.int (n : Nat), stsV ss] h = .ok (tabO n g) h) ∧
    (badO n g = true → ∀ h, ∃ t, callL m_switching_from_steps [.int (n : Nat), stsV ss] h = .exc "InvalidSteps" [] (h ++ t)) := by
  have hlim : lim = 1000000 := rfl
  obtain ⟨v, h', e, g, rfl, rfl, MN, dg⟩ := sums_o hn S
  refine ⟨g, MN, dg, ?_⟩
  have se : ∀ h : AH, callL m_shortest_sums [.int (n : Nat), stsV ss] h = .ok (tabO n g) h := fun h => loc0 e refs_sts inR_tabO
  have d1 : decide ((2 : Int) ≤ ((n : Nat) : Int)) = true := decide_eq_true (by omega)
  have d2 : decide (((n : Nat) : Int) ≤ 10) = true := decide_eq_true (by omega)
  have i1 : ∀ h, isiK "tuple" (.ok (stsV ss) h) = .ok (.bl true) h := fun h => i_tt
  have e6 : (ss.map stV).length < lim := by rw [List.length_map, hlim]; omega
  have e4 : ∀ h, compF [] (gNm 5) tYesF (eCall [] (callL m_is_step) (aCons (eVar 5) (aCons (eVar 0) (aNil)))) [some (.int (n : Nat)), some (stsV ss), none, none, none, none] (ss.map stV) h = .ok ((ss.map stV).map fun _ => .bl true) h := fun h =>
    comp_map (φ := fun _ => .bl true) (e1 := fun v => [some (.int (n : Nat)), some (stsV ss), none, none, none, some v]) rfl _ fun v hv => by
      obtain ⟨s, hs, rfl⟩ := List.mem_map.mp hv
      refine ⟨rfl, ?_⟩
      simp_all! [step_l (S s hs)]
  have ew : ewipe [some (.int (n : Nat)), some (stsV ss), none, none, none, none] [5] = [some (.int (n : Nat)), some (stsV ss), none, none, none, none] := rfl
  have cT : ∀ h : AH, srcOf (stsV ss) h = some ⟨ss.map stV, []⟩ := fun _ => rfl
  have al : allB ((ss.map stV).map fun _ => Va.bl true) = some ((ss.map stV).map fun _ => true) := allB_map _
  let rows : List Va := (List.range n).map fun i => Va.tup ((rowO n g i).map oI)
  have hrows : tabO n g = .tup rows := by
    show Va.tup _ = Va.tup _
    congr 1
    apply List.map_congr_left
    intro i _
    show Va.tup _ = Va.tup _
    rw [rowO, List.map_map]
    rfl
  have cT2 : ∀ h : AH, srcOf (tabO n g) h = some ⟨rows, []⟩ := fun _ => by rw [hrows]; rfl
  have ew2 : ewipe [some (.int (n : Nat)), some (stsV ss), some (tabO n g), none, none, none] [3, 4] = [some (.int (n : Nat)), some (stsV ss), some (tabO n g), none, none, none] := rfl
  have e7 : rows.length ≤ 1000 := by show (List.map _ _).length ≤ _; rw [List.length_map, List.length_range]; omega
  have isn : ∀ (c : Option Int) (h : AH), oIs false (oI c) .non h = some (.bl c.isNone, h) := fun c h => by cases c <;> rfl
  have c2 : ∀ h, comp2F [] (gNm 3) tYesF (iOf1 (eVar 3) srcOf) (gNm 4) tYesF (eOr (eOp (oIs false) (eVar 4) (eC .non)) (eOp oGt (eVar 4) (eC (.int 1000)))) [4] [some (.int (n : Nat)), some (stsV ss), some (tabO n g), none, none, none] rows h = .ok (rows.flatMap rowB) h := fun h =>
    comp2_map (e1 := fun v => [some (.int (n : Nat)), some (stsV ss), some (tabO n g), some v, none, none]) (so := fun v => match v with | .tup xs => ⟨xs, []⟩ | _ => ⟨[], []⟩) rfl _ fun v hv => by
      obtain ⟨i, hi, rfl⟩ := List.mem_map.mp hv
      refine ⟨rfl, rfl, rfl, by show ((rowO n g i).map oI).length ≤ 900; rw [List.length_map, rowO, List.length_map, List.length_range]; omega, ?_⟩
      refine comp_map (φ := cellB) (e1 := fun v => [some (.int (n : Nat)), some (stsV ss), some (tabO n g), some (.tup ((rowO n g i).map oI)), some v, none]) rfl _ fun v hv => ?_
      obtain ⟨c, hc, rfl⟩ := List.mem_map.mp hv
      refine ⟨rfl, ?_⟩
      have := isn c
      cases c with
      | none => simp_all! [oI, cellB]
      | some c => simp_all! [oI, cellB]
  have c3 : (rows.flatMap rowB) = (((List.range n).flatMap (rowO n g)).map bigO).map Va.bl := by
    show ((List.range n).map _).flatMap _ = _
    rw [List.flatMap_map, List.map_map, List.map_flatMap]
    congr 1
    funext i
    show ((rowO n g i).map oI).map _ = _
    rw [List.map_map]
    apply List.map_congr_left
    intro c _
    cases c <;> rfl
  have al2 : allB ((((List.range n).flatMap (rowO n g)).map bigO).map Va.bl) = some (((List.range n).flatMap (rowO n g)).map bigO) := by
    generalize ((List.range n).flatMap (rowO n g)).map bigO = bs
    induction bs with
    | nil => rfl
    | cons b bs ih => rw [List.map_cons, allB, ih]; rfl
  have l0 : ∀ xs : List Va, lstAt [AO.lst xs] 0 = some xs := fun _ => rfl
  have l1 : ∀ (x : AO) (xs : List Va), lstAt [x, AO.lst xs] 1 = some xs := fun _ _ => rfl
  refine ⟨fun hb h => loc0 ?_ refs_sts inR_tabO, fun hb h => ?_⟩
  · have hb : (((List.range n).flatMap (rowO n g)).map bigO).any id = false := hb
    unfold m_switching_from_steps
    rw [s_fn (by rfl)]
    unfold b_switching_from_steps
    simp_all! [List.replicate, is_int_l, d1, d2, Bool.and_self, i1, cT]
    rw [k_lc e6, ew, e4]
    simp_all! [l0, al, all_true, se, cT2]
    rw [k_lc2 e7, ew2, c2, c3]
    simp_all! [l1, al2, hb]
    exact gc0 inR_tabO
  · have hb : (((List.range n).flatMap (rowO n g)).map bigO).any id = true := hb
    have : ∃ h1, m_switching_from_steps [.int (n : Nat), stsV ss] [] = .exc "InvalidSteps" [] h1 := by
      unfold m_switching_from_steps
      rw [s_fn (by rfl)]
      unfold b_switching_from_steps
      simp_all! [List.replicate, is_int_l, d1, d2, Bool.and_self, i1, cT]
      rw [k_lc e6, ew, e4]
      simp_all! [l0, al, all_true, se, cT2]
      rw [k_lc2 e7, ew2, c2, c3]
      simp_all! [l1, al2, hb]
      exact ⟨_, rfl⟩
    obtain ⟨h1, e1⟩ := this
    exact loc0XE e1 refs_sts
end
end FL

set_option linter.all false
set_option maxRecDepth 100000
set_option maxHeartbeats 4000000
namespace FL
open PySem PySem.Spec PyProof.Rows L2
/-! sums shortened until nothing changes: the plain part -/
abbrev Pr2 := Nat × Nat
def allP (n : Nat) : List Pr2 := (List.range n).flatMap fun i => (List.range n).map fun j => (i, j)
theorem allP_mem {n : Nat} {p : Pr2} : p ∈ allP n ↔ p.1 < n ∧ p.2 < n := by
  unfold allP
  rw [List.mem_flatMap]
  constructor
  · rintro ⟨i, hi, h⟩
    obtain ⟨j, hj, rfl⟩ := List.mem_map.mp h
    exact ⟨List.mem_range.mp hi, List.mem_range.mp hj⟩
  · rintro ⟨h1, h2⟩
    exact ⟨p.1, List.mem_range.mpr h1, List.mem_map.mpr ⟨p.2, List.mem_range.mpr h2, rfl⟩⟩
theorem allP_len (n : Nat) : (allP n).length = n * n := by
  have : ∀ l : List Nat, (l.flatMap fun i => (List.range n).map fun j => ((i, j) : Pr2)).length = l.length * n := by
    intro l
    induction l with
    | nil => simp
    | cons x l ih => rw [List.flatMap_cons, List.length_append, ih, List.length_map, List.length_range, List.length_cons, Nat.succ_mul]; omega
  unfold allP
  rw [this, List.length_range]
theorem ndlenP : ∀ {xs ys : List Pr2}, xs.Nodup → (∀ x ∈ xs, x ∈ ys) → xs.length ≤ ys.length
  | [], _, _, _ => Nat.zero_le _
  | x :: xs, ys, h, hs => by
    obtain ⟨h1, h2⟩ := List.nodup_cons.mp h
    have hx := hs x (List.mem_cons_self ..)
    have ih := ndlenP (xs := xs) (ys := ys.erase x) h2 fun z hz => (List.mem_erase_of_ne (fun e => h1 (by rw [← e]; exact hz))).mpr (hs z (List.mem_cons_of_mem _ hz))
    rw [List.length_erase_of_mem hx] at ih
    have := List.length_pos_of_mem hx
    rw [List.length_cons]
    omega
theorem sum_le' {φ ψ : Pr2 → Nat} : ∀ (l : List Pr2), (∀ p ∈ l, φ p ≤ ψ p) → (l.map φ).sum ≤ (l.map ψ).sum
  | [], _ => Nat.le_refl _
  | x :: l, h => by
    have := h x (List.mem_cons_self ..)
    have := sum_le' l fun p hp => h p (List.mem_cons_of_mem _ hp)
    simp only [List.map_cons, List.sum_cons]
    omega
theorem sum_lt' {φ ψ : Pr2 → Nat} : ∀ (l : List Pr2) {q : Pr2}, q ∈ l → (∀ p ∈ l, φ p ≤ ψ p) → φ q < ψ q → (l.map φ).sum < (l.map ψ).sum
  | [], _, hq, _, _ => nomatch hq
  | x :: l, q, hq, h, hlt => by
    have h1 := h x (List.mem_cons_self ..)
    have h2 := sum_le' l fun p hp => h p (List.mem_cons_of_mem _ hp)
    simp only [List.map_cons, List.sum_cons]
    rcases List.mem_cons.mp hq with e | e
    · subst e
      omega
    · have := sum_lt' l e (fun p hp => h p (List.mem_cons_of_mem _ hp)) hlt
      omega
/-- the sums that are known: at M, with values f -/
structure DS (n : Nat) (ss : List St3) (M : List Pr2) (f : Pr2 → Int) : Prop where
  nd : M.Nodup
  lt : ∀ p ∈ M, p.1 < n ∧ p.2 < n
  w : ∀ p ∈ M, Walk ss p.1 p.2 (f p)
  dg : ∀ i, i < n → (i, i) ∈ M ∧ f (i, i) ≤ 0
  bd : ∀ p ∈ M, f p ≤ 1000 * (M.length : Nat)
def phi (n : Nat) (M : List Pr2) (f : Pr2 → Int) : Nat := ((allP n).map fun p => if p ∈ M then (f p).toNat else 200000).sum
def updP (f : Pr2 → Int) (q : Pr2) (t : Int) : Pr2 → Int := fun p => if p = q then t else f p
def addP (M : List Pr2) (q : Pr2) : List Pr2 := if q ∈ M then M else M ++ [q]
section
variable {n : Nat} {ss : List St3} {M : List Pr2} {f : Pr2 → Int} {i m j : Nat} {c : Int}
theorem addP_mem {p q : Pr2} : p ∈ addP M q ↔ p ∈ M ∨ p = q := by
  unfold addP
  split
  · exact ⟨.inl, fun h => h.elim id fun e => by rw [e]; assumption⟩
  · rw [List.mem_append, List.mem_singleton]
theorem DS.len (D : DS n ss M f) (hn : n ≤ 10) : M.length ≤ 100 := by
  have h := ndlenP D.nd (ys := allP n) fun p hp => allP_mem.mpr (D.lt p hp)
  rw [allP_len] at h
  exact Nat.le_trans h (Nat.mul_le_mul hn hn)
/-- a shorter sum is put in -/
theorem DS.put (D : DS n ss M f) (hn : n ≤ 10) (S : ∀ s ∈ ss, StOk n s) (hM : (i, m) ∈ M) (hs : (m, j, c) ∈ ss) (hlt : (i, j) ∈ M → f (i, m) + c < f (i, j)) :
    DS n ss (addP M (i, j)) (updP f (i, j) (f (i, m) + c)) ∧ phi n (addP M (i, j)) (updP f (i, j) (f (i, m) + c)) < phi n M f := by
  have so := S _ hs
  have hl := D.len hn
  have hi := (D.lt _ hM).1
  have W := Walk.snoc (D.w _ hM) hs
  have hb := D.bd _ hM
  have hc : c ≤ 1000 := so.hi
  have hlen : M.length ≤ (addP M (i, j)).length := by unfold addP; split <;> simp
  have h0 : 0 ≤ f (i, m) + c := W.nn fun s h => by have := (S s h).lo; omega
  have D2 : DS n ss (addP M (i, j)) (updP f (i, j) (f (i, m) + c)) := by
    refine ⟨?_, fun p hp => ?_, fun p hp => ?_, fun k hk => ⟨addP_mem.mpr (.inl (D.dg k hk).1), ?_⟩, fun p hp => ?_⟩
    · unfold addP
      split
      · exact D.nd
      · rename_i hq
        rw [List.nodup_append]
        exact ⟨D.nd, by simp, fun a ha b hb e => hq (by rw [← List.mem_singleton.mp hb, ← e]; exact ha)⟩
    · rcases addP_mem.mp hp with h | rfl
      · exact D.lt p h
      · exact ⟨hi, so.b⟩
    · unfold updP
      split
      · rename_i e; subst e; exact W
      · rcases addP_mem.mp hp with h | h
        · exact D.w p h
        · exact absurd h (by assumption)
    · unfold updP
      split
      · rename_i e
        cases e
        have := hlt (D.dg i hi).1
        have := (D.dg i hi).2
        omega
      · exact (D.dg k hk).2
    · unfold updP
      split
      · rename_i e
        subst e
        by_cases hq : (i, j) ∈ M
        · have := hlt hq
          have := D.bd _ hq
          omega
        · have : (addP M (i, j)).length = M.length + 1 := by unfold addP; rw [if_neg hq]; simp
          omega
      · rcases addP_mem.mp hp with h | h
        · have := D.bd p h
          omega
        · exact absurd h (by assumption)
  refine ⟨D2, sum_lt' (allP n) (q := (i, j)) (allP_mem.mpr ⟨hi, so.b⟩) (fun p hp => ?_) ?_⟩
  · by_cases e : p = (i, j)
    · subst e
      rw [if_pos (addP_mem.mpr (.inr rfl)), show updP f (i, j) (f (i, m) + c) (i, j) = f (i, m) + c from if_pos rfl]
      by_cases hq : (i, j) ∈ M
      · rw [if_pos hq]; have := hlt hq; omega
      · rw [if_neg hq]; omega
    · have : p ∈ addP M (i, j) ↔ p ∈ M := by rw [addP_mem]; exact ⟨fun h => h.elim id fun z => absurd z e, .inl⟩
      by_cases hq : p ∈ M
      · rw [if_pos (this.mpr hq), if_pos hq, show updP f (i, j) (f (i, m) + c) p = f p from if_neg e]
        exact Nat.le_refl _
      · rw [if_neg fun z => hq (this.mp z), if_neg hq]
        exact Nat.le_refl _
  · rw [if_pos (addP_mem.mpr (.inr rfl)), show updP f (i, j) (f (i, m) + c) (i, j) = f (i, m) + c from if_pos rfl]
    by_cases hq : (i, j) ∈ M
    · rw [if_pos hq]; have := hlt hq; omega
    · rw [if_neg hq]; omega
def toO (M : List Pr2) (f : Pr2 → Int) : OF2 := fun i j => if (i, j) ∈ M then some (f (i, j)) else none
/-- when nothing changes any more, the sums are the least -/
theorem DS.min (D : DS n ss M f) (S : ∀ s ∈ ss, StOk n s) (hc : ∀ i m j c, i < n → (m, j, c) ∈ ss → (i, m) ∈ M → (i, j) ∈ M ∧ f (i, j) ≤ f (i, m) + c) : IsMin n ss (toO M f) := by
  refine min_of (fun s hs => ⟨(S s hs).a, (S s hs).b⟩) (fun i j x hi hj hx => ?_) (fun i hi => ?_) fun i m j u c hi hs hu => ?_
  · unfold toO at hx
    split at hx
    · cases hx
      exact D.w _ (by assumption)
    · cases hx
  · exact ⟨f (i, i), if_pos (D.dg i hi).1, (D.dg i hi).2⟩
  · obtain ⟨x, hx, hxu⟩ := hu
    unfold toO at hx
    split at hx
    · cases hx
      obtain ⟨h1, h2⟩ := hc i m j c hi hs (by assumption)
      exact ⟨f (i, j), if_pos h1, by omega⟩
    · cases hx
end
end FL

set_option linter.all false
set_option maxRecDepth 100000
set_option maxHeartbeats 4000000
namespace FL
open PySem PySem.Spec PyProof.Rows L2
/-! a dict of pairs (dicV, find_dv, put_dv as in LA0) -/
/-- a dict of values by keys -/
def dicV {α : Type} (φ ψ : α → Va) (m : List α) : List (Va × Va) := m.map fun x => (φ x, ψ x)
section
variable {α : Type} [DecidableEq α] {φ ψ : α → Va} {κ : α → PySem.NestedKey}
theorem find_dv (hs : ∀ c c', sameN (κ c) (φ c') = decide (c' = c)) (c : α) : ∀ m : List α, findN (dicV φ ψ m) (κ c) = if c ∈ m then some (ψ c) else none
  | [] => by simp [findN, dicV]
  | x :: m => by
    have ih := find_dv hs c m
    unfold findN dicV at ih ⊢
    rw [List.map_cons]
    by_cases e : x = c
    · subst e
      rw [List.find?_cons_of_pos (by simp [hs])]
      simp
    · rw [List.find?_cons_of_neg (by simp [hs, e]), ih]
      have e' : ¬ c = x := fun z => e z.symm
      by_cases hc : c ∈ m
      · rw [if_pos hc, if_pos (List.mem_cons_of_mem _ hc)]
      · rw [if_neg hc, if_neg (by simp [e', hc])]
theorem put_dv (hs : ∀ c c', sameN (κ c) (φ c') = decide (c' = c)) {c : α} {m : List α} (h : c ∉ m) : putN (dicV φ ψ m) (φ c) (κ c) (ψ c) = dicV φ ψ (m ++ [c]) := by
  unfold putN
  rw [find_dv hs, if_neg h]
  simp [dicV]
end
def rV (x : Pr2) : Va := .tup [.int (x.1 : Nat), .int (x.2 : Nat)]
def rK (x : Pr2) : PySem.NestedKey := .tup [.num (x.1 : Nat), .num (x.2 : Nat)]
theorem r_nk (x : Pr2) : nk (rV x) = some (rK x) := by
  show nk (.tup [.int (x.1 : Nat), .int (x.2 : Nat)]) = _
  rw [nk, nks, nks, nks]
  rfl
theorem r_key (x : Pr2) : keyN (rV x) = some (rK x) := by
  have hd : (rK x).depth ≤ 8 := by
    unfold rK
    simp only [PySem.NestedKey.depth, PySem.NestedKey.depthAll]
    omega
  show (match nk (rV x) with | some k => if k.depth ≤ 8 then some k else none | none => none) = _
  rw [r_nk]
  simp only [hd, if_true]
theorem r_same (c c' : Pr2) : sameN (rK c) (rV c') = decide (c' = c) := by
  have e : sameN (rK c) (rV c') = true ↔ c' = c := by
    unfold sameN
    rw [r_nk]
    show PySem.NestedKey.beq (rK c') (rK c) = true ↔ _
    rw [← PySem.NestedKey.decide_eq, decide_eq_true_iff]
    constructor
    · intro h
      unfold rK at h
      injection h with h
      simp only [List.cons.injEq, PySem.NestedKey.num.injEq, and_true] at h
      obtain ⟨a, b⟩ := c
      obtain ⟨a', b'⟩ := c'
      simp only at h ⊢
      rw [show a' = a by omega, show b' = b by omega]
    · rintro rfl
      rfl
  by_cases h : c' = c
  · rw [decide_eq_true h]; exact e.mpr h
  · rw [decide_eq_false h]; exact Bool.eq_false_iff.mpr fun z => h (e.mp z)
section
variable {h : AH} {d l : Nat} {M : List Pr2} {ψ : Pr2 → Va} {x : Pr2} {y z : Va}
theorem r_find : findN (dicV rV ψ M) (rK x) = if x ∈ M then some (ψ x) else none := by
  have q := find_dv (φ := rV) (ψ := ψ) (κ := rK) r_same x M
  by_cases hx : x ∈ M
  · rw [if_pos hx] at q ⊢
    exact q
  · rw [if_neg hx] at q ⊢
    exact q
theorem r_len : (dicV rV ψ M).length = M.length := by unfold dicV; rw [List.length_map]
theorem r_in (e : h[d]? = some (.dtl (dicV rV ψ M))) : oInD (rV x) (.ref d) h = some (.bl (decide (x ∈ M)), h) := by
  by_cases hx : x ∈ M <;> simp [oInN, e, r_key, r_find, hx]
theorem r_ix (e : h[d]? = some (.dtl (dicV rV ψ M))) (hx : x ∈ M) : oIxN (.ref d) (rV x) h = some (ψ x, h) := by
  simp [oIxN, e, r_key, r_find, hx]
theorem r_get (e : h[d]? = some (.dtl (dicV rV ψ M))) (hl : M.length < lim) : dgetNF (.ref d) (rV x) z h = some (if x ∈ M then ψ x else z, h) := by
  by_cases hx : x ∈ M <;> simp [dgetNF, e, r_key, r_find, hx, r_len, hl]
def updV (ψ : Pr2 → Va) (x : Pr2) (y : Va) : Pr2 → Va := fun z => if z = x then y else ψ z
theorem r_putN : putN (dicV rV ψ M) (rV x) (rK x) y = dicV rV (updV ψ x y) (addP M x) := by
  unfold putN addP
  rw [r_find]
  by_cases hx : x ∈ M
  · rw [if_pos hx, if_pos hx]
    simp only [Option.isSome_some, if_true]
    unfold dicV
    rw [List.map_map]
    apply List.map_congr_left
    intro p _
    show (if sameN (rK x) (rV p) = true then (rV p, y) else (rV p, ψ p)) = (rV p, updV ψ x y p)
    rw [r_same]
    unfold updV
    by_cases e : p = x
    · rw [if_pos e, decide_eq_true e]; rfl
    · rw [if_neg e, decide_eq_false e]; rfl
  · rw [if_neg hx, if_neg hx]
    simp only [Option.isSome_none, Bool.false_eq_true, if_false]
    unfold dicV
    rw [List.map_append]
    congr 1
    · apply List.map_congr_left
      intro p hp
      show (rV p, ψ p) = (rV p, updV ψ x y p)
      unfold updV
      rw [if_neg fun e : p = x => hx (by rw [← e]; exact hp)]
    · show [(rV x, y)] = [(rV x, updV ψ x y x)]
      unfold updV
      rw [if_pos rfl]
theorem r_put (e : h[d]? = some (.dtl (dicV rV ψ M))) (hl : M.length < lim) : putAtN (.ref d) (rV x) y h = some (h.set d (.dtl (dicV rV (updV ψ x y) (addP M x)))) := by
  have hl : (dicV rV ψ M).length < lim := by rw [r_len]; exact hl
  simp [putAtN, e, r_key, hl, r_putN]
/-- dict([((i, i), 0) for i in range(n)]) -/
theorem r_prN : ∀ S : List Pr2, prN (S.map fun x => .tup [rV x, ψ x]) = some (S.map fun x => (rV x, rK x, ψ x))
  | [] => rfl
  | x :: S => by
    rw [List.map_cons]
    unfold prN
    rw [r_key, r_prN S]
    rfl
theorem r_foldN : ∀ (S A : List Pr2), (A ++ S).Nodup → foldN (dicV rV ψ A) (S.map fun x => (rV x, rK x, ψ x)) = dicV rV ψ (A ++ S)
  | [], A, _ => by rw [List.append_nil]; rfl
  | x :: S, A, hn => by
    have hx : x ∉ A := fun hx => by
      rw [List.nodup_append] at hn
      exact hn.2.2 x hx x (List.mem_cons_self ..) rfl
    have p : putN (dicV rV ψ A) (rV x) (rK x) (ψ x) = dicV rV ψ (A ++ [x]) := put_dv (φ := rV) (ψ := ψ) (κ := rK) r_same hx
    rw [List.map_cons]
    show foldN (putN (dicV rV ψ A) (rV x) (rK x) (ψ x)) (S.map fun x => (rV x, rK x, ψ x)) = _
    rw [p, r_foldN S (A ++ [x]) (by simpa using hn)]
    simp
theorem r_dict {S : List Pr2} (e : lstAt h l = some (S.map fun x => .tup [rV x, ψ x])) (hn : S.Nodup) (hl : S.length < lim) : oDictN [.ref l] h = some (.ref h.length, h ++ [.dtl (dicV rV ψ S)]) := by
  unfold oDictN
  simp only [e, r_prN]
  rw [if_pos (by rw [List.length_map]; exact hl)]
  have := r_foldN (ψ := ψ) S [] (by simpa using hn)
  rw [List.nil_append] at this
  rw [show ([] : List (Va × Va)) = dicV rV ψ [] from rfl, this]
end
end FL

set_option linter.all false
set_option maxRecDepth 100000
set_option maxHeartbeats 8000000
namespace FL
open PySem PySem.Spec PyProof.Rows L2
/-! _law_least_sums: one step is tried -/
def RLX : SF := (sIf (tB (eOp oInD (eAp oTup (aCons (eVar 4) (aCons (eVar 5) (aNil)))) (eVar 2))) (sSeq (sSet 8 (eOp oAdd (eOp oIxN (eVar 2) (eAp oTup (aCons (eVar 4) (aCons (eVar 5) (aNil))))) (eVar 7))) (sIf (tB (eOp oLt (eVar 8) (eDGet2N (eVar 2) (eAp oTup (aCons (eVar 4) (aCons (eVar 6) (aNil)))) (eOp oAdd (eVar 8) (eC (.int 1)))))) (sSeq (sPutN (eVar 2) (eAp oTup (aCons (eVar 4) (aCons (eVar 6) (aNil)))) (eVar 8)) (sSet 3 (eC (.bl true)))) (sNil))) (sNil))
abbrev ERL (n : Nat) (ss : List St3) (d : Nat) (b : Bool) (i m j : Nat) (c : Int) (z8 : Option Va) : Ev := [some (.int (n : Nat)), some (stsV ss), some (.ref d), some (.bl b), some (.int (i : Nat)), some (.int (m : Nat)), some (.int (j : Nat)), some (.int c), z8, none]
def dS (M : List Pr2) (f : Pr2 → Int) : AO := .dtl (dicV rV (fun p => .int (f p)) M)
theorem upd_int {f : Pr2 → Int} {q : Pr2} {t : Int} : updV (fun p => Va.int (f p)) q (.int t) = fun p => Va.int (updP f q t p) := by
  funext p
  unfold updV updP
  split <;> rfl
theorem putN_ev7 {fo fi fv : EF} {ev : Ev} {h h1 h2 h3 h4 : AH} {w o i : Va} (e1 : fv ev h = .ok w h1) (e2 : fo ev h1 = .ok o h2) (e3 : fi ev h2 = .ok i h3) (e4 : putAtN o i w h3 = some h4) : sPutN fo fi fv ev h = .nx ev h4 := by
  unfold sPutN
  rw [e1]
  show (Rs.s (fo ev h1) ev _) = _
  rw [e2]
  show (Rs.s (fi ev h2) ev _) = _
  rw [e3]
  show (match putAtN o i w h3 with | some h4 => SR.nx ev h4 | none => .bad) = _
  rw [e4]
theorem get_ev7 {fo fk fz : EF} {ev : Ev} {h : AH} {o i z v : Va} (e1 : fo ev h = .ok o h) (hd : isDtl o h = true) (e2 : fk ev h = .ok i h) (e3 : fz ev h = .ok z h) (e4 : dgetNF o i z h = some (v, h)) : eDGet2N fo fk fz ev h = .ok v h := by
  unfold eDGet2N
  rw [e1]
  show (if isDtl o h = true then _ else _) = _
  rw [if_pos hd, e2]
  show (Rs.bind (fz ev h) _) = _
  rw [e3]
  show (match dgetNF o i z h with | some p => Rs.ok p.1 p.2 | none => .bad) = _
  rw [e4]
section
variable {n d i m j : Nat} {ss : List St3} {M : List Pr2} {f : Pr2 → Int} {c : Int} {b : Bool} {z8 : Option Va} {h : AH}
theorem rlx_ok (hn : n ≤ 10) (S : ∀ s ∈ ss, StOk n s) (D : DS n ss M f) (hs : (m, j, c) ∈ ss) (e : h[d]? = some (dS M f)) :
    ∃ M' f' b' z8', RLX (ERL n ss d b i m j c z8) h = .nx (ERL n ss d b' i m j c z8') (h.set d (dS M' f')) ∧ DS n ss M' f' ∧
      ((b' = b ∧ M' = M ∧ f' = f ∧ ((i, m) ∈ M → (i, j) ∈ M ∧ f (i, j) ≤ f (i, m) + c)) ∨ (b' = true ∧ phi n M' f' < phi n M f)) := by
  have hlim : lim = 1000000 := rfl
  have hl := D.len hn
  have t2 : ∀ (x y : Va) (h : AH), oTup [x, y] h = some (.tup [x, y], h) := fun _ _ _ => rfl
  have same : h.set d (dS M f) = h := by
    apply List.ext_getElem?
    intro k
    by_cases hk : d = k
    · subst hk
      rw [List.getElem?_set_self (List.getElem?_eq_some_iff.mp e).1, e]
    · rw [List.getElem?_set_ne hk]
  have hin : oInD (.tup [.int (i : Nat), .int (m : Nat)]) (.ref d) h = some (.bl (decide ((i, m) ∈ M)), h) := r_in (x := (i, m)) e
  unfold RLX
  by_cases hM : (i, m) ∈ M
  · rw [decide_eq_true hM] at hin
    have hix : oIxN (.ref d) (.tup [.int (i : Nat), .int (m : Nat)]) h = some (.int (f (i, m)), h) := r_ix (x := (i, m)) e hM
    have hget := r_get (x := (i, j)) (z := .int (f (i, m) + c + 1)) e (by omega)
    have ge : ∀ v, dgetNF (.ref d) (.tup [.int (i : Nat), .int (j : Nat)]) (.int (f (i, m) + c + 1)) h = some (v, h) → eDGet2N (eVar 2) (eAp oTup (aCons (eVar 4) (aCons (eVar 6) (aNil)))) (eOp oAdd (eVar 8) (eC (.int 1))) (ERL n ss d b i m j c (some (.int (f (i, m) + c)))) h = .ok v h := fun v hv =>
      get_ev7 rfl (by unfold isDtl; simp only [e]; rfl) rfl rfl hv
    have lt : ∀ (x y : Int) (h : AH), oLt (.int x) (.int y) h = some (.bl (decide (x < y)), h) := fun _ _ _ => rfl
    by_cases hJ : (i, j) ∈ M
    · have hget : dgetNF (.ref d) (.tup [.int (i : Nat), .int (j : Nat)]) (.int (f (i, m) + c + 1)) h = some (.int (f (i, j)), h) := by
        have := hget
        rw [if_pos hJ] at this
        exact this
      have g := ge _ hget
      by_cases hlt : f (i, m) + c < f (i, j)
      · obtain ⟨D2, hp⟩ := D.put hn S hM hs fun _ => hlt
        have dl := decide_eq_true hlt
        have put := r_put (x := (i, j)) (y := .int (f (i, m) + c)) e (by omega)
        rw [upd_int] at put
        have ps : sPutN (eVar 2) (eAp oTup (aCons (eVar 4) (aCons (eVar 6) (aNil)))) (eVar 8) (ERL n ss d b i m j c (some (.int (f (i, m) + c)))) h = .nx (ERL n ss d b i m j c (some (.int (f (i, m) + c)))) (h.set d (dS (addP M (i, j)) (updP f (i, j) (f (i, m) + c)))) := putN_ev7 rfl rfl rfl put
        refine ⟨_, _, true, some (.int (f (i, m) + c)), ?_, D2, .inr ⟨rfl, hp⟩⟩
        simp_all! [-o_tup, -o_lt, t2, hin, hix, g, lt, dl, ps]
      · have dl := decide_eq_false hlt
        refine ⟨M, f, b, some (.int (f (i, m) + c)), ?_, D, .inl ⟨rfl, rfl, rfl, fun _ => ⟨hJ, by omega⟩⟩⟩
        rw [same]
        simp_all! [-o_tup, -o_lt, t2, hin, hix, g, lt, dl]
    · have hget : dgetNF (.ref d) (.tup [.int (i : Nat), .int (j : Nat)]) (.int (f (i, m) + c + 1)) h = some (.int (f (i, m) + c + 1), h) := by
        have := hget
        rw [if_neg hJ] at this
        exact this
      have g := ge _ hget
      obtain ⟨D2, hp⟩ := D.put hn S hM hs fun z => absurd z hJ
      have dl : decide (f (i, m) + c < f (i, m) + c + 1) = true := decide_eq_true (by omega)
      have put := r_put (x := (i, j)) (y := .int (f (i, m) + c)) e (by omega)
      rw [upd_int] at put
      have ps : sPutN (eVar 2) (eAp oTup (aCons (eVar 4) (aCons (eVar 6) (aNil)))) (eVar 8) (ERL n ss d b i m j c (some (.int (f (i, m) + c)))) h = .nx (ERL n ss d b i m j c (some (.int (f (i, m) + c)))) (h.set d (dS (addP M (i, j)) (updP f (i, j) (f (i, m) + c)))) := putN_ev7 rfl rfl rfl put
      refine ⟨_, _, true, some (.int (f (i, m) + c)), ?_, D2, .inr ⟨rfl, hp⟩⟩
      simp_all! [-o_tup, -o_lt, t2, hin, hix, g, lt, dl, ps]
  · rw [decide_eq_false hM] at hin
    refine ⟨M, f, b, z8, ?_, D, .inl ⟨rfl, rfl, rfl, fun z => absurd z hM⟩⟩
    rw [same]
    simp_all! [-o_tup, t2, hin]
end
end FL

set_option linter.all false
set_option maxRecDepth 100000
set_option maxHeartbeats 8000000
namespace FL
open PySem PySem.Spec PyProof.Rows L2
/-! _law_least_sums: passes until nothing changes -/
theorem ts_impK {r : SR} {P Q : SR → Prop} (h : Ts r P) (k : ∀ r, P r → Q r) : Ts r Q := k r h
def PSS : SF := (sFor (iOf (aCons (eVar 0) (aNil)) srcR) (gNm 4) (sFor (iOf1 (eVar 1) srcOf) (gTp (gCs (gNm 5) (gCs (gNm 6) (gCs (gNm 7) (gNl))))) RLX))
abbrev EP8 (n : Nat) (ss : List St3) (d : Nat) (b : Bool) (z4 z5 z6 z7 z8 : Option Va) : Ev := [some (.int (n : Nat)), some (stsV ss), some (.ref d), some (.bl b), z4, z5, z6, z7, z8, none]
/-- a step that shortens nothing, from i -/
def Ok1 (M : List Pr2) (f : Pr2 → Int) (i : Nat) (s : St3) : Prop := (i, s.1) ∈ M → (i, s.2.1) ∈ M ∧ f (i, s.2.1) ≤ f (i, s.1) + s.2.2
/-- within a pass that began with M0, f0 -/
structure PS (n : Nat) (ss : List St3) (M0 : List Pr2) (f0 : Pr2 → Int) (b : Bool) (M : List Pr2) (f : Pr2 → Int) (C : Prop) : Prop where
  ds : DS n ss M f
  or_ : (b = false ∧ M = M0 ∧ f = f0 ∧ C) ∨ (b = true ∧ phi n M f < phi n M0 f0)
section
variable {n d : Nat} {ss : List St3} {M0 : List Pr2} {f0 : Pr2 → Int} {b : Bool} {z4 z5 z6 z7 z8 : Option Va} {h : AH}
theorem inn_ok (hn : n ≤ 10) (S : ∀ s ∈ ss, StOk n s) {i : Nat} (hi : i < n) {M : List Pr2} {f : Pr2 → Int} (e : h[d]? = some (dS M f)) {C : Prop} (P : PS n ss M0 f0 b M f C) :
    Ts ((sFor (iOf1 (eVar 1) srcOf) (gTp (gCs (gNm 5) (gCs (gNm 6) (gCs (gNm 7) (gNl))))) RLX) (EP8 n ss d b (some (.int (i : Nat))) z5 z6 z7 z8) h) (fun r => ∃ M f b z5 z6 z7 z8 h', r = .nx (EP8 n ss d b (some (.int (i : Nat))) z5 z6 z7 z8) h' ∧ h'[d]? = some (dS M f) ∧ PS n ss M0 f0 b M f (C ∧ ∀ s ∈ ss, Ok1 M0 f0 i s)) := by
  have so : srcOf (stsV ss) h = some ⟨ss.map stV, []⟩ := rfl
  rw [s_for, s_it1, s_var]
  show Ts (forK _ _ _ (it1K srcOf (.ok (stsV ss) _))) _
  rw [k_it1, so, k_it2, k_for]
  refine loop_inv (gsl := []) (fun k ev h => ∃ M f b z5 z6 z7 z8, ev = EP8 n ss d b (some (.int (i : Nat))) z5 z6 z7 z8 ∧ h[d]? = some (dS M f) ∧ PS n ss M0 f0 b M f (C ∧ ∀ s ∈ ss.take k, Ok1 M0 f0 i s)) (ss.map stV) 0 _ _
    ⟨M, f, b, z5, z6, z7, z8, rfl, e, ⟨P.ds, P.or_.elim (fun ⟨h1, h2, h3, h4⟩ => .inl ⟨h1, h2, h3, h4, by simp⟩) .inr⟩⟩ (fun _ _ _ _ _ _ => rfl) ?_ ?_
  · rintro k v ev h hk ⟨M, f, b, z5, z6, z7, z8, rfl, e, P⟩
    rw [List.getElem?_map] at hk
    cases hs : ss[k]? with
    | none => rw [hs] at hk; cases hk
    | some s =>
    rw [hs] at hk
    cases hk
    obtain ⟨m, j, c⟩ := s
    rw [Nat.zero_add] at P ⊢
    obtain ⟨M', f', b', z8', e1, D', q⟩ := rlx_ok (b := b) (z8 := z8) (i := i) hn S P.ds (List.mem_of_getElem? hs) e
    refine ⟨ERL n ss d b i m j c z8, rfl, ?_⟩
    rw [e1, ts_nx]
    refine .inl ⟨_, _, rfl, M', f', b', _, _, _, _, rfl, List.getElem?_set_self (List.getElem?_eq_some_iff.mp e).1, D', ?_⟩
    rcases q with ⟨rfl, rfl, rfl, q⟩ | ⟨rfl, q⟩
    · rcases P.or_ with ⟨h1, h2, h3, h4, h5⟩ | h
      · refine .inl ⟨h1, h2, h3, h4, fun t ht => ?_⟩
        rw [List.take_succ, hs] at ht
        rcases List.mem_append.mp ht with ht | ht
        · exact h5 t ht
        · rw [show t = (m, j, c) by simpa using ht, ← h2, ← h3]
          exact q
      · exact .inr h
    · refine .inr ⟨rfl, ?_⟩
      rcases P.or_ with ⟨_, h2, h3, _⟩ | ⟨_, h⟩
      · rw [h2, h3] at q
        exact q
      · omega
  · rintro ev h ⟨M, f, b, z5, z6, z7, z8, rfl, e, P⟩
    rw [Nat.zero_add, List.length_map, List.take_length] at P
    exact ⟨M, f, b, z5, z6, z7, z8, h, rfl, e, P⟩
theorem pss_ok (hn : n ≤ 10) (S : ∀ s ∈ ss, StOk n s) (D : DS n ss M0 f0) (e : h[d]? = some (dS M0 f0)) :
    Ts (PSS (EP8 n ss d false z4 z5 z6 z7 z8) h) (fun r => ∃ M f b z4 z5 z6 z7 z8 h', r = .nx (EP8 n ss d b z4 z5 z6 z7 z8) h' ∧ h'[d]? = some (dS M f) ∧ PS n ss M0 f0 b M f (∀ i, i < n → ∀ s ∈ ss, Ok1 M0 f0 i s)) := by
  have cr : srcR [.int (n : Nat)] h = some ⟨intsF 0 n, []⟩ := c_rngN (by omega)
  unfold PSS
  rw [s_for, s_it, s_cons, s_var]
  show Ts (forK _ _ _ (itK srcR (aK _ _ (.ok (.int (n : Nat)) _)))) _
  rw [k_cons, s_nil, k_cons1, k_it, cr, k_it2, k_for]
  refine loop_inv (gsl := []) (fun k ev h => ∃ M f b z4 z5 z6 z7 z8, ev = EP8 n ss d b z4 z5 z6 z7 z8 ∧ h[d]? = some (dS M f) ∧ PS n ss M0 f0 b M f (∀ i, i < k → ∀ s ∈ ss, Ok1 M0 f0 i s)) (intsF 0 n) 0 _ _
    ⟨M0, f0, false, z4, z5, z6, z7, z8, rfl, e, D, .inl ⟨rfl, rfl, rfl, fun i hi => absurd hi (by omega)⟩⟩ (fun _ _ _ _ _ _ => rfl) ?_ ?_
  · rintro k v ev h hk ⟨M, f, b, z4, z5, z6, z7, z8, rfl, e, P⟩
    obtain ⟨hkn, rfl⟩ := intsF_at0 hk
    rw [Nat.zero_add] at P ⊢
    refine ⟨EP8 n ss d b (some (.int (k : Nat))) z5 z6 z7 z8, rfl, ?_⟩
    refine ts_impK (inn_ok hn S hkn e P) ?_
    rintro r ⟨M, f, b, z5, z6, z7, z8, h', rfl, e, P⟩
    refine .inl ⟨_, _, rfl, M, f, b, _, _, _, _, _, rfl, e, P.ds, ?_⟩
    rcases P.or_ with ⟨h1, h2, h3, h4, h5⟩ | h
    · refine .inl ⟨h1, h2, h3, fun i hi => ?_⟩
      by_cases z : i < k
      · exact h4 i z
      · have : i = k := by omega
        subst this
        exact h5
    · exact .inr h
  · rintro ev h ⟨M, f, b, z4, z5, z6, z7, z8, rfl, e, P⟩
    rw [Nat.zero_add, ints_len] at P
    exact ⟨M, f, b, z4, z5, z6, z7, z8, h, rfl, e, P⟩
/-- nothing is shortened any more -/
def Clo8 (n : Nat) (ss : List St3) (M : List Pr2) (f : Pr2 → Int) : Prop := ∀ i, i < n → ∀ s ∈ ss, Ok1 M f i s
theorem whl_ok (hn : n ≤ 10) (S : ∀ s ∈ ss, StOk n s) (D : DS n ss M0 f0) (e : h[d]? = some (dS M0 f0)) (hp : phi n M0 f0 ≤ 100000000) :
    Ts (sWhile (tB (eVar 3)) (sSeq (sSet 3 (eC (.bl false))) PSS) (EP8 n ss d true z4 z5 z6 z7 z8) h) (fun r => ∃ M f z4 z5 z6 z7 z8 h', r = .nx (EP8 n ss d false z4 z5 z6 z7 z8) h' ∧ h'[d]? = some (dS M f) ∧ DS n ss M f ∧ Clo8 n ss M f) := by
  rw [s_while]
  refine while_inv (fun w ev h => ∃ M f b z4 z5 z6 z7 z8, ev = EP8 n ss d b z4 z5 z6 z7 z8 ∧ h[d]? = some (dS M f) ∧ DS n ss M f ∧ (b = false → Clo8 n ss M f) ∧ w = phi n M f + (if b then 1 else 0)) ?_ fuelW (phi n M0 f0 + 1) _ _ (by unfold fuelW; omega)
    ⟨M0, f0, true, z4, z5, z6, z7, z8, rfl, e, D, (fun z => nomatch z), rfl⟩
  rintro w ev h ⟨M, f, b, z4, z5, z6, z7, z8, rfl, e, D, hc, rfl⟩
  cases b with
  | false =>
    refine .inl ⟨h, rfl, ?_⟩
    exact ⟨M, f, z4, z5, z6, z7, z8, h, rfl, e, D, hc rfl⟩
  | true =>
    refine .inr ⟨h, rfl, ?_⟩
    rw [s_seq]
    show Ts (sqK PSS (.nx (EP8 n ss d false z4 z5 z6 z7 z8) h)) _
    rw [k_seqN]
    refine ts_impK (pss_ok hn S D e) ?_
    rintro r ⟨M', f', b', z4, z5, z6, z7, z8, h', rfl, e', P⟩
    refine .inl ⟨_, _, _, rfl, ?_, M', f', b', z4, z5, z6, z7, z8, rfl, e', P.ds, fun hb => ?_, rfl⟩
    · rcases P.or_ with ⟨rfl, rfl, rfl, _⟩ | ⟨rfl, h⟩
      · simp
      · simp; omega
    · rcases P.or_ with ⟨_, h2, h3, h4⟩ | ⟨h1, _⟩
      · rw [h2, h3]
        exact h4
      · rw [h1] at hb
        cases hb
end
end FL

set_option linter.all false
set_option maxRecDepth 100000
set_option maxHeartbeats 4000000
namespace FL
open PySem PySem.Spec PyProof.Rows L2
/-! _law_least_sums: how it begins, and what it ends with -/
def dg0 (n : Nat) : List Pr2 := (List.range n).map fun i => (i, i)
def z0 : Pr2 → Int := fun _ => 0
theorem sum_const {φ : Pr2 → Nat} {B : Nat} : ∀ l : List Pr2, (∀ p ∈ l, φ p ≤ B) → (l.map φ).sum ≤ l.length * B
  | [], _ => by simp
  | x :: l, h => by
    have h1 := h x (List.mem_cons_self ..)
    have h2 := sum_const l fun p hp => h p (List.mem_cons_of_mem _ hp)
    rw [List.map_cons, List.sum_cons, List.length_cons, Nat.succ_mul]
    omega
section
variable {n d : Nat} {ss : List St3} {M : List Pr2} {f : Pr2 → Int} {z4 z5 z6 z7 z8 : Option Va} {h : AH}
theorem dg0_mem {p : Pr2} : p ∈ dg0 n ↔ p.1 < n ∧ p.1 = p.2 := by
  unfold dg0
  rw [List.mem_map]
  constructor
  · rintro ⟨i, hi, rfl⟩
    exact ⟨List.mem_range.mp hi, rfl⟩
  · rintro ⟨h1, h2⟩
    exact ⟨p.1, List.mem_range.mpr h1, by show (p.1, p.1) = p; obtain ⟨a, b⟩ := p; simp only at h2 ⊢; rw [← h2]⟩
theorem dg0_nd : (dg0 n).Nodup := by
  unfold dg0
  rw [List.Nodup, List.pairwise_map]
  exact List.nodup_range.imp fun h e => h (by simpa using e)
theorem ds0 : DS n ss (dg0 n) z0 := by
  refine ⟨dg0_nd, fun p hp => ?_, fun p hp => ?_, fun i hi => ⟨dg0_mem.mpr ⟨hi, rfl⟩, Int.le_refl _⟩, fun p hp => ?_⟩
  · obtain ⟨h1, h2⟩ := dg0_mem.mp hp
    exact ⟨h1, by omega⟩
  · obtain ⟨h1, h2⟩ := dg0_mem.mp hp
    obtain ⟨a, b⟩ := p
    simp only at h2
    subst h2
    exact .nil
  · show (0 : Int) ≤ _
    omega
theorem phi0 (hn : n ≤ 10) : phi n (dg0 n) z0 ≤ 100000000 := by
  have h1 := sum_const (φ := fun p => if p ∈ dg0 n then (z0 p).toNat else 200000) (B := 200000) (allP n) fun p _ => by
    show (if p ∈ dg0 n then (z0 p).toNat else 200000) ≤ 200000
    split
    · show (0 : Int).toNat ≤ 200000
      simp
    · exact Nat.le_refl _
  rw [allP_len] at h1
  have h2 : n * n ≤ 10 * 10 := Nat.mul_le_mul hn hn
  have h3 := Nat.mul_le_mul_right 200000 h2
  unfold phi
  omega
/-- what the passes end with are the least sums -/
theorem clo_min (S : ∀ s ∈ ss, StOk n s) (D : DS n ss M f) (C : Clo8 n ss M f) : IsMin n ss (toO M f) :=
  D.min S fun i m j c hi hs hM => C i hi (m, j, c) hs hM
theorem toO_some (D : DS n ss M f) {i j : Nat} (h : (i, j) ∈ M) : toO M f i j = some (f (i, j)) := if_pos h
/-- all pairs are known, when there are as many -/
theorem all_in (D : DS n ss M f) (hl : n * n ≤ M.length) {i j : Nat} (hi : i < n) (hj : j < n) : (i, j) ∈ M := by
  by_cases hq : (i, j) ∈ M
  · exact hq
  · exfalso
    have hin : (i, j) ∈ allP n := allP_mem.mpr ⟨hi, hj⟩
    have h1 := ndlenP D.nd (ys := (allP n).erase (i, j)) fun p hp => (List.mem_erase_of_ne (fun e => hq (by rw [← e]; exact hp))).mpr (allP_mem.mpr (D.lt p hp))
    rw [List.length_erase_of_mem hin, allP_len] at h1
    have := List.length_pos_of_mem hin
    rw [allP_len] at this
    omega
end
end FL

set_option linter.all false
set_option maxRecDepth 100000
set_option maxHeartbeats 8000000
namespace FL
open PySem PySem.Spec PyProof.Rows L2
/-! _law_least_sums gives the least sums, or None -/
def LS0 : SF := (sSet 2 (eAp oDictN (aCons (eLc (iOf (aCons (eVar 0) (aNil)) srcR) (gNm 4) (tYesF) (eAp oTup (aCons (eAp oTup (aCons (eVar 4) (aCons (eVar 4) (aNil)))) (aCons (eC (.int 0)) (aNil)))) [4]) (aNil))))
def LS1 : SF := (sSet 3 (eC (.bl true)))
def LS2 : SF := (sWhile (tB (eVar 3)) (sSeq (sSet 3 (eC (.bl false))) (sFor (iOf (aCons (eVar 0) (aNil)) srcR) (gNm 4) (sFor (iOf1 (eVar 1) srcOf) (gTp (gCs (gNm 5) (gCs (gNm 6) (gCs (gNm 7) (gNl))))) (sIf (tB (eOp oInD (eAp oTup (aCons (eVar 4) (aCons (eVar 5) (aNil)))) (eVar 2))) (sSeq (sSet 8 (eOp oAdd (eOp oIxN (eVar 2) (eAp oTup (aCons (eVar 4) (aCons (eVar 5) (aNil))))) (eVar 7))) (sIf (tB (eOp oLt (eVar 8) (eDGet2N (eVar 2) (eAp oTup (aCons (eVar 4) (aCons (eVar 6) (aNil)))) (eOp oAdd (eVar 8) (eC (.int 1)))))) (sSeq (sPutN (eVar 2) (eAp oTup (aCons (eVar 4) (aCons (eVar 6) (aNil)))) (eVar 8)) (sSet 3 (eC (.bl true)))) (sNil))) (sNil))))))
def LS3 : SF := (sIf (tOr (tB (eOp oLt (eAp oLenN (aCons (eVar 2) (aNil))) (eOp oMul2 (eVar 0) (eVar 0)))) (tB (eOp oGt (eAp oMax2 (aCons (eLcDN 2 (gNm 9) (eFzN 9) [9]) (aNil))) (eC (.int 1000))))) (sRet (eC .non)) (sNil))
def LS4 : SF := (sRet (eAp oTuple (aCons (eLc (iOf (aCons (eVar 0) (aNil)) srcR) (gNm 4) (tYesF) (eAp oTuple (aCons (eLc (iOf (aCons (eVar 0) (aNil)) srcR) (gNm 6) (tYesF) (eOp oIxN (eVar 2) (eAp oTup (aCons (eVar 4) (aCons (eVar 6) (aNil))))) [6]) (aNil))) [4]) (aNil))))
theorem LS_is : b__law_least_sums = sSeq LS0 (sSeq LS1 (sSeq LS2 (sSeq LS3 LS4))) := rfl
theorem allI_ofD (is : List Int) : allI (is.map Va.int) = some is := by
  have := allI_map (φ := fun x : Int => x) is
  rw [List.map_id'] at this
  exact this
theorem maxLsD {ws : List Int} {h : AH} {b : Int} {bs : List Int} (hw : ws = b :: bs) {a : Nat} (e : lstAt h a = some (ws.map Va.int)) : oMax2 [.ref a] h = some (.int (bs.foldl max b), h) := by
  subst hw
  show oMax [.ref a] h = _
  unfold oMax
  simp only [lstOf, e, Option.bind_some, allI_ofD]
theorem pl0s_ints (is : List Int) : pl0s (is.map Va.int) = true := pl0s_of fun x hx => by
  obtain ⟨i, _, rfl⟩ := List.mem_map.mp hx
  rfl
section
variable {n d : Nat} {ss : List St3} {M : List Pr2} {f : Pr2 → Int} {z4 z5 z6 z7 z8 : Option Va} {h : AH}
theorem r_lenN (e : h[d]? = some (dS M f)) (hl : M.length < lim) : oLenN [.ref d] h = some (.int (M.length : Nat), h) := by
  unfold oLenN
  have e : h[d]? = some (.dtl (dicV rV (fun p => Va.int (f p)) M)) := e
  simp only [e, r_len, if_pos hl]
theorem keys_dv : (dicV rV (fun p => Va.int (f p)) M).map (·.1) = M.map rV := by
  unfold dicV
  rw [List.map_map]
  rfl
theorem vals_dv : (dicV rV (fun p => Va.int (f p)) M).map (·.2) = (M.map f).map Va.int := by
  unfold dicV
  rw [List.map_map, List.map_map]
  rfl
/-- [sums[pair] for pair in sums] -/
theorem lcd_ok (e : h[d]? = some (dS M f)) (hl : M.length ≤ 100) {b : Bool} :
    eLcDN 2 (gNm 9) (eFzN 9) [9] (EP8 n ss d b z4 z5 z6 z7 z8) h = .ok (.ref h.length) (h ++ [.lst ((M.map f).map Va.int)]) := by
  have e : h[d]? = some (.dtl (dicV rV (fun p => Va.int (f p)) M)) := e
  have k1 : inRs 0 (M.map rV) = true := inR_map (fun p => rfl) M
  have k2 : inRs 0 ((M.map f).map Va.int) = true := inR_map (fun p => rfl) _
  have k3 : (dicV rV (fun p => Va.int (f p)) M).length < lim := by
    have hlim : lim = 1000000 := rfl
    rw [r_len]
    omega
  have cm : compF [] (gNm 9) tYesF (eFzN 9 (dicV rV (fun p => Va.int (f p)) M)) (ewipe (plainEv (EP8 n ss d b z4 z5 z6 z7 z8)) [9]) (M.map rV) [] = .ok ((M.map rV).map fun v => match v with | .tup [.int i, .int j] => .int (f (i.toNat, j.toNat)) | _ => .non) [] :=
    comp_map (e1 := fun v => (ewipe (plainEv (EP8 n ss d b z4 z5 z6 z7 z8)) [9]).set 9 (some v)) rfl _ fun v hv => by
      obtain ⟨p, hp, rfl⟩ := List.mem_map.mp hv
      refine ⟨rfl, ?_⟩
      unfold eFzN
      have g : ((ewipe (plainEv (EP8 n ss d b z4 z5 z6 z7 z8)) [9]).set 9 (some (rV p)))[9]? = some (some (rV p)) := by
        rw [List.getElem?_set_self (by simp [ewipe, plainEv])]
      simp only [g, r_key, r_find, if_pos hp]
      show Rs.ok (Va.int (f p)) [] = .ok (Va.int (f ((p.1 : Int).toNat, (p.2 : Int).toNat))) []
      rw [Int.toNat_natCast, Int.toNat_natCast]
  have cm2 : ((M.map rV).map fun v => match v with | .tup [.int i, .int j] => Va.int (f (i.toNat, j.toNat)) | _ => .non) = (M.map f).map Va.int := by
    rw [List.map_map, List.map_map]
    apply List.map_congr_left
    intro p _
    show Va.int (f ((p.1 : Int).toNat, (p.2 : Int).toNat)) = _
    rw [Int.toNat_natCast, Int.toNat_natCast]
    rfl
  unfold eLcDN
  have g2 : (EP8 n ss d b z4 z5 z6 z7 z8)[2]? = some (some (.ref d)) := rfl
  simp only [g2, e, k1, k2, Bool.and_self, if_true, if_pos k3, keys_dv, vals_dv, cm, cm2, pl0s_ints]
/-- the end of _law_least_sums -/
theorem lse_ok (h2 : 2 ≤ n) (hn : n ≤ 10) (e : h[d]? = some (dS M f)) (D : DS n ss M f) :
    Ts (sqK LS4 (LS3 (EP8 n ss d false z4 z5 z6 z7 z8) h)) (fun r => ∃ h', r = .rt (if badO n (toO M f) then .non else tabO n (toO M f)) h') := by
  have hM := D.len hn
  have hlim : lim = 1000000 := rfl
  have hml : M.length < lim := by omega
  have nn : oMul2 (.int (n : Nat)) (.int (n : Nat)) h = some (.int ((n * n : Nat) : Int), h) := by
    rw [o_mul (okI_lt (by omega) (by omega)) (okI_lt (by omega) (by omega))]
    push_cast
    rfl
  have hb1 : M.length < n * n → badO n (toO M f) = true := fun hlt => by
    have : ∃ i j, i < n ∧ j < n ∧ (i, j) ∉ M := by
      refine Classical.byContradiction fun hno => ?_
      have hall : ∀ p ∈ allP n, p ∈ M := fun p hp => by
        refine Classical.byContradiction fun hq => hno ?_
        have := allP_mem.mp hp
        exact ⟨p.1, p.2, this.1, this.2, hq⟩
      have hnd : (allP n).Nodup := by
        unfold allP
        rw [List.Nodup, List.pairwise_flatMap]
        refine ⟨fun i _ => ?_, ?_⟩
        · rw [List.pairwise_map]
          exact List.nodup_range.imp fun h e => h (by simpa using e)
        · exact List.nodup_range.imp fun h p hp q hq e => by
            obtain ⟨x, _, rfl⟩ := List.mem_map.mp hp
            obtain ⟨y, _, rfl⟩ := List.mem_map.mp hq
            exact h (by simpa using congrArg Prod.fst e)
      have := ndlenP hnd hall
      rw [allP_len] at this
      omega
    obtain ⟨i, j, hi, hj, hq⟩ := this
    unfold badO
    rw [List.any_eq_true]
    refine ⟨true, List.mem_map.mpr ⟨none, List.mem_flatMap.mpr ⟨i, List.mem_range.mpr hi, List.mem_map.mpr ⟨j, List.mem_range.mpr hj, ?_⟩⟩, rfl⟩, rfl⟩
    exact if_neg hq
  unfold LS3
  by_cases hlt : M.length < n * n
  · have d1 : decide (((M.length : Nat) : Int) < ((n * n : Nat) : Int)) = true := decide_eq_true (by omega)
    simp_all! [r_lenN e hml, nn, d1]
    show Ts (.rt _ _) _
    rw [hb1 hlt]
    exact ⟨_, rfl⟩
  · have d1 : decide (((M.length : Nat) : Int) < ((n * n : Nat) : Int)) = false := decide_eq_false (by omega)
    have hin : ∀ {i j : Nat}, i < n → j < n → (i, j) ∈ M := fun hi hj => all_in D (by omega) hi hj
    have hMne : M.map f ≠ [] := fun z => by
      have := hin (i := 0) (j := 0) (by omega) (by omega)
      rw [List.map_eq_nil_iff.mp z] at this
      cases this
    obtain ⟨b, bs, hw⟩ := List.exists_cons_of_ne_nil hMne
    have mx : oMax2 [.ref h.length] (h ++ [.lst ((M.map f).map Va.int)]) = some (.int (bs.foldl max b), h ++ [.lst ((M.map f).map Va.int)]) := maxLsD hw lstAt_end
    obtain ⟨mx1, mx2⟩ := foldl_max bs b
    have hbad : badO n (toO M f) = decide ((1000 : Int) < bs.foldl max b) := by
      by_cases hg : (1000 : Int) < bs.foldl max b
      · rw [decide_eq_true hg]
        rw [← hw] at mx2
        obtain ⟨p, hp, e1⟩ := List.mem_map.mp mx2
        have hpl := D.lt p hp
        unfold badO
        rw [List.any_eq_true]
        refine ⟨true, List.mem_map.mpr ⟨some (f p), List.mem_flatMap.mpr ⟨p.1, List.mem_range.mpr hpl.1, List.mem_map.mpr ⟨p.2, List.mem_range.mpr hpl.2, ?_⟩⟩, ?_⟩, rfl⟩
        · exact toO_some D hp
        · show decide (f p > 1000) = true
          rw [decide_eq_true]
          rw [e1]
          exact hg
      · rw [decide_eq_false hg]
        unfold badO
        rw [List.any_eq_false]
        intro z hz hzt
        obtain ⟨o, ho, rfl⟩ := List.mem_map.mp hz
        obtain ⟨i, hi, ho⟩ := List.mem_flatMap.mp ho
        obtain ⟨j, hj, rfl⟩ := List.mem_map.mp ho
        have hij := hin (List.mem_range.mp hi) (List.mem_range.mp hj)
        rw [toO_some D hij] at hzt
        have hzt : decide (f (i, j) > 1000) = true := hzt
        have hzt := of_decide_eq_true hzt
        have := mx1 (f (i, j)) (by rw [← hw]; exact List.mem_map.mpr ⟨_, hij, rfl⟩)
        omega
    have lc := lcd_ok (n := n) (ss := ss) (z4 := z4) (z5 := z5) (z6 := z6) (z7 := z7) (z8 := z8) (b := false) e hM
    by_cases hg : (1000 : Int) < bs.foldl max b
    · have d2 : decide ((1000 : Int) < bs.foldl max b) = true := decide_eq_true hg
      simp_all! [r_lenN e hml, nn, d1, lc, mx, d2]
      show Ts (.rt _ _) _
      rw [hbad, d2]
      exact ⟨_, rfl⟩
    · have d2 : decide ((1000 : Int) < bs.foldl max b) = false := decide_eq_false hg
      have e3 : (h ++ [AO.lst ((M.map f).map Va.int)])[d]? = some (.dtl (dicV rV (fun p => Va.int (f p)) M)) := by
        rw [List.getElem?_append_left (List.getElem?_eq_some_iff.mp e).1]
        exact e
      rw [hbad, d2]
      generalize hh : h ++ [AO.lst ((M.map f).map Va.int)] = hx at *
      simp_all! [r_lenN e hml, nn, d1, lc, mx, d2]
      show Ts (LS4 _ hx) _
      unfold LS4
      have cr : ∀ h : AH, srcR [.int (n : Nat)] h = some ⟨intsF 0 n, []⟩ := fun _ => c_rngN (by omega)
      have e6 : (intsF 0 n).length < lim := by rw [ints_len, hlim]; omega
      simp_all! [cr]
      rw [k_lc e6]
      refine p_ret (p_ap (p_a (p_lc1 (comp_inv (fun k acc h => acc = (List.range k).map (fun i => Va.tup ((List.range n).map fun j => oI (toO M f i j))) ∧ h[d]? = some (.dtl (dicV rV (fun p => Va.int (f p)) M))) _ _ 0 [] _ ⟨rfl, e3⟩ (fun _ _ _ _ => rfl) ?_ ?_))))
      · rintro i v acc h hj ⟨rfl, e⟩
        obtain ⟨hin', rfl⟩ := intsF_at0 hj
        rw [Nat.zero_add] at *
        refine ⟨_, rfl, ?_⟩
        simp_all! [ewipe, cr]
        rw [k_lc e6]
        refine p_ap (p_a (p_lc1 (comp_inv (fun k acc h' => acc = (List.range k).map (fun j => oI (toO M f i j)) ∧ h' = h) _ _ 0 [] _ ⟨rfl, rfl⟩ (fun _ _ _ _ => rfl) ?_ ?_)))
        · rintro j v acc h' hj ⟨rfl, rfl⟩
          obtain ⟨hjn, rfl⟩ := intsF_at0 hj
          rw [Nat.zero_add] at *
          refine ⟨_, rfl, ?_⟩
          have ix := r_ix (x := (i, j)) e (hin hin' hjn)
          have hlt2 : [Va.int (i : Nat), .int (j : Nat)].length ≤ lim := by show 2 ≤ lim; decide
          simp_all! [ewipe, o_tup hlt2]
          have ix : oIxN (.ref d) (.tup [.int (i : Nat), .int (j : Nat)]) h' = some (.int (f (i, j)), h') := ix
          simp_all! [ix]
          rw [tk_ok]
          refine ⟨?_, rfl⟩
          rw [List.range_succ, List.map_append]
          show _ = _ ++ [oI (toO M f i j)]
          rw [toO_some D (hin hin' hjn)]
          rfl
        · rintro out h' ⟨hout, rfl⟩ hl
          rw [Nat.zero_add, ints_len, List.nil_append] at hout
          subst hout
          simp_all! [tk_ok, lstAt_end]
          refine ⟨?_, ?_⟩
          · rw [List.range_succ, List.map_append]
            rfl
          · rw [List.getElem?_append_left (List.getElem?_eq_some_iff.mp e).1]
            exact e
      · rintro out h' ⟨hout, e⟩ hl
        rw [Nat.zero_add, ints_len, List.nil_append] at hout
        subst hout
        simp_all! [tk_ok, lstAt_end, ts_rt]
        exact ⟨_, rfl⟩
theorem lsums (h2 : 2 ≤ n) (hn : n ≤ 10) (S : ∀ s ∈ ss, StOk n s) (hl : ss.length ≤ 900) : ∃ g, IsMin n ss g ∧ ∀ h, callL m__law_least_sums [.int (n : Nat), stsV ss] h = .ok (if badO n g then .non else tabO n g) h := by
  have hlim : lim = 1000000 := rfl
  have q : Tk (m__law_least_sums [.int (n : Nat), stsV ss] []) (fun v h => h = [] ∧ ∃ M f, DS n ss M f ∧ Clo8 n ss M f ∧ v = if badO n (toO M f) then .non else tabO n (toO M f)) := by
    unfold m__law_least_sums
    refine p_fn (by rfl) ?_
    rw [LS_is]
    show Ts (sSeq LS0 _ [some (.int (n : Nat)), some (stsV ss), none, none, none, none, none, none, none, none] []) _
    have cr : ∀ h : AH, srcR [.int (n : Nat)] h = some ⟨intsF 0 n, []⟩ := fun _ => c_rngN (by omega)
    have e6 : (intsF 0 n).length < lim := by rw [ints_len, hlim]; omega
    have c1 : compF [] (gNm 4) tYesF (eAp oTup (aCons (eAp oTup (aCons (eVar 4) (aCons (eVar 4) (aNil)))) (aCons (eC (.int 0)) (aNil)))) [some (.int (n : Nat)), some (stsV ss), none, none, none, none, none, none, none, none] (intsF 0 n) [] = .ok ((dg0 n).map fun x => .tup [rV x, .int (z0 x)]) [] := by
      have := comp_map (gsl := []) (gf := gNm 4) (f := (eAp oTup (aCons (eAp oTup (aCons (eVar 4) (aCons (eVar 4) (aNil)))) (aCons (eC (.int 0)) (aNil))))) (ev := [some (.int (n : Nat)), some (stsV ss), none, none, none, none, none, none, none, none]) (h := []) (φ := fun v => .tup [.tup [v, v], .int 0]) (e1 := fun v => [some (.int (n : Nat)), some (stsV ss), none, none, some v, none, none, none, none, none]) rfl (intsF 0 n) fun v hv => by
        refine ⟨rfl, ?_⟩
        have hlt2 : ∀ a b : Va, [a, b].length ≤ lim := fun _ _ => by show 2 ≤ lim; decide
        simp_all! [o_tup (hlt2 _ _)]
      rw [this]
      congr 1
      unfold dg0
      rw [List.map_map]
      apply List.ext_getElem?
      intro i
      rw [List.getElem?_map, List.getElem?_map, ints_get]
      by_cases hi : i < n
      · rw [if_pos hi, List.getElem?_range hi]
        simp only [Option.map_some, Function.comp]
        unfold rV z0
        simp
      · rw [if_neg hi, List.getElem?_eq_none (by rw [List.length_range]; omega)]
        rfl
    have rd : oDictN [.ref 0] [AO.lst ((dg0 n).map fun x => .tup [rV x, .int (z0 x)])] = some (.ref 1, [AO.lst ((dg0 n).map fun x => .tup [rV x, .int (z0 x)]), dS (dg0 n) z0]) :=
      r_dict (ψ := fun x => .int (z0 x)) (l := 0) rfl dg0_nd (by unfold dg0; rw [List.length_map, List.length_range]; omega)
    rw [s_seq]
    unfold LS0
    simp_all! [cr]
    rw [k_lc e6]
    simp_all! [ewipe, c1, rd]
    rw [show ∀ (ev : Ev) (h : AH), LS1 ev h = .nx (ev.set 3 (some (.bl true))) h from fun _ _ => rfl, k_seqN, s_seq]
    refine p_sq ?_
    show Ts (sWhile (tB (eVar 3)) (sSeq (sSet 3 (eC (.bl false))) PSS) (EP8 n ss 1 true none none none none none) [AO.lst ((dg0 n).map fun x => .tup [rV x, .int (z0 x)]), dS (dg0 n) z0]) _
    refine ts_impK (whl_ok hn S ds0 rfl (phi0 hn)) ?_
    rintro r ⟨M, f, z4, z5, z6, z7, z8, h', rfl, e, D, C⟩
    rw [k_seqN, s_seq]
    refine ts_impK (lse_ok h2 hn e D) ?_
    rintro r ⟨h'', rfl⟩
    rw [k_endR]
    have iv : inR 0 (if badO n (toO M f) then Va.non else tabO n (toO M f)) = true := by
      split
      · rfl
      · exact inR_tabO
    show Tk (gcF 0 _) _
    rw [gc0 iv]
    exact Tk.ok ⟨rfl, M, f, D, C, rfl⟩
  obtain ⟨v, h', e, rfl, M, f, D, C, rfl⟩ := q
  refine ⟨toO M f, clo_min S D C, fun h => loc0 e refs_sts ?_⟩
  split
  · rfl
  · exact inR_tabO
end
end FL

set_option linter.all false
set_option maxRecDepth 100000
set_option maxHeartbeats 8000000
namespace FL
open PySem PySem.Spec PyProof.Rows L2
/-! _law_right of valid steps -/
theorem s_lam4 {mo : Rs Va → Rs Va} {el : EF} {ev : Ev} {h : AH} : eLam mo el ev h = okOnly (mo (el ev h)) := rfl
theorem eq_str4 {x : Str} {h : AH} (e : SeqAt.shaped (.str x) = true) : oEq2 (.str x) (.str x) h = some (.bl true, h) := by
  unfold oEq2 oEqv2 oEqv
  have p : ∀ n, toPy h n (.str x) = some (.str x) := fun n => by cases n <;> rfl
  simp only [p, e, Bool.and_self, if_true, Bool.false_eq_true, if_false]
  simp [PyData.eqv]
section
variable {n : Nat} {ss : List St3} {g g' : OF2} {h : AH}
def pyS (s : Nat × Nat × Int) : PyData := .tuple [.int (s.1 : Nat), .int (s.2.1 : Nat), .int s.2.2]
theorem okd_S {s : Nat × Nat × Int} (h1 : s.1 ≤ 100000) (h2 : s.2.1 ≤ 100000) (h3 : -100000 ≤ s.2.2 ∧ s.2.2 ≤ 100000) : OkD 1 220 (pyS s) :=
  okd_mono (okd_tup (n := 3) (e := 0) (B := 70) (fun x hx => by
    simp only [List.mem_cons, List.not_mem_nil, or_false] at hx
    rcases hx with rfl | rfl | rfl <;> exact okd_int (by omega) (by omega)) (by simp)) (by omega) (by omega)
theorem py_S {H : AH} {m : Nat} {s : Nat × Nat × Int} : toPy H (m + 1) (stV s) = some (pyS s) := by
  unfold stV
  rw [toPy]
  simp only [toPysF, py_int]
  rfl
theorem repr_sts (S : ∀ s ∈ ss, StOk n s) (hn : n ≤ 10) (hl : ss.length ≤ 900) : ∃ d, ∀ H : AH, oReprN [stsV ss] H = some (.rp d, H) := by
  refine ⟨.tuple (ss.map pyS), fun H => repr_of ?_ ?_⟩
  · exact py_tup (n := 11) fun s _ => py_S
  · refine okR_of (e := 2) (B := 900 * (220 + 2) + 3) (okd_tup (e := 1) (B := 220) (fun x hx => ?_) (by rw [List.length_map]; exact hl)) (by omega) (by omega)
    obtain ⟨s, hs, rfl⟩ := List.mem_map.mp hx
    obtain ⟨h1, h2, h3, h4, h5⟩ := S s hs
    exact okd_S (by omega) (by omega) (by omega)
def pyT (n : Nat) (g : OF2) : PyData := .tuple ((List.range n).map fun i => .tuple ((List.range n).map fun j => pyO (g i j)))
theorem py_T {H : AH} {m : Nat} : toPy H (m + 2) (tabO n g) = some (pyT n g) :=
  py_tup (n := m + 1) (φ := fun i => Va.tup ((List.range n).map fun j => oI (g i j))) (ψ := fun i => PyData.tuple ((List.range n).map fun j => pyO (g i j))) fun i _ => py_tup (n := m) fun j _ => py_oI _
theorem bad_row (hb : badO n g = false) {i j : Nat} (hi : i < n) (hj : j < n) : ∃ c, g i j = some c ∧ c ≤ 1000 := by
  have hb : (((List.range n).flatMap (rowO n g)).map bigO).any id = false := hb
  rw [List.any_eq_false] at hb
  have := hb (bigO (g i j)) (List.mem_map.mpr ⟨g i j, List.mem_flatMap.mpr ⟨i, List.mem_range.mpr hi, List.mem_map.mpr ⟨j, List.mem_range.mpr hj, rfl⟩⟩, rfl⟩)
  cases e : g i j with
  | none => rw [e] at this; exact absurd rfl this
  | some c =>
    rw [e] at this
    refine ⟨c, rfl, ?_⟩
    have this : ¬ decide (c > 1000) = true := this
    rw [decide_eq_true_eq] at this
    omega
theorem okd_T (hn : n ≤ 10) (S : ∀ s ∈ ss, StOk n s) (MN : IsMin n ss g) (hb : badO n g = false) : OkD 2 9000 (pyT n g) := by
  refine okd_mono (okd_tup (n := 10) (e := 1) (B := 800) (fun x hx => ?_) (by simp; omega)) (by omega) (by omega)
  obtain ⟨i, hi, rfl⟩ := List.mem_map.mp hx
  refine okd_mono (okd_tup (n := 10) (e := 0) (B := 70) (fun x hx => ?_) (by simp; omega)) (by omega) (by omega)
  obtain ⟨j, hj, rfl⟩ := List.mem_map.mp hx
  have hi := List.mem_range.mp hi
  have hj := List.mem_range.mp hj
  obtain ⟨c, e, hc⟩ := bad_row hb hi hj
  have := (MN.w i j c hi hj e).nn fun s hs => by have := (S s hs).lo; omega
  rw [e]
  exact okd_int (by omega) (by omega)
theorem tabO_eq (F : IsMin n ss g) (G : IsMin n ss g') : tabO n g = tabO n g' ∧ badO n g = badO n g' := by
  have e : ∀ i, i < n → ∀ j, j < n → g i j = g' i j := fun i hi j hj => F.eq G hi hj
  constructor
  · unfold tabO
    congr 1
    apply List.map_congr_left
    intro i hi
    congr 1
    apply List.map_congr_left
    intro j hj
    rw [e i (List.mem_range.mp hi) j (List.mem_range.mp hj)]
  · have : (List.range n).flatMap (rowO n g) = (List.range n).flatMap (rowO n g') := by
      have r : ∀ l : List Nat, (∀ i ∈ l, i < n) → l.flatMap (rowO n g) = l.flatMap (rowO n g') := by
        intro l
        induction l with
        | nil => intro _; rfl
        | cons i l ih =>
          intro hl
          rw [List.flatMap_cons, List.flatMap_cons, ih fun x hx => hl x (List.mem_cons_of_mem _ hx)]
          congr 1
          unfold rowO
          apply List.map_congr_left
          intro j hj
          exact e i (hl i (List.mem_cons_self ..)) j (List.mem_range.mp hj)
      exact r _ fun i hi => List.mem_range.mp hi
    unfold badO
    rw [this]
theorem out_steps {e : EF} {ev : Ev} {h1 h2 : AH} (q : e ev h1 = .exc "InvalidSteps" [] h2) : eLam m__law_outcome e ev h1 = .ok (.str "steps") h2 := by
  rw [s_lam4, q]
  rfl
theorem right_l (h2 : 2 ≤ n) (hn : n ≤ 10) (S : ∀ s ∈ ss, StOk n s) (hl : ss.length ≤ 900) : callL m__law_right [.int (n : Nat), stsV ss] h = .ok (.bl true) h := by
  obtain ⟨g, MN, dg, ok, bad⟩ := sfs_o h2 hn S hl
  obtain ⟨g2, MN2, ls⟩ := lsums h2 hn S hl
  obtain ⟨et, eb⟩ := tabO_eq MN2 MN
  rw [et, eb] at ls
  obtain ⟨d, rp⟩ := repr_sts S hn hl
  refine loc0 ?_ refs_sts rfl
  have er : ∀ h : AH, oEq2 (.rp d) (.rp d) h = some (.bl true, h) := fun h => o_eqR
  unfold m__law_right
  rw [s_fn (by rfl)]
  unfold b__law_right
  cases hb : badO n g with
  | true =>
    rw [hb, if_pos rfl] at ls
    obtain ⟨t, q⟩ := bad hb []
    have ol : ∀ z4 : Option Va, eLam m__law_outcome (eCall [] (callL m_switching_from_steps) (aCons (eVar 0) (aCons (eVar 1) (aNil)))) [some (.int (n : Nat)), some (stsV ss), some (.rp d), some .non, z4] [] = .ok (.str "steps") t := fun z4 => out_steps (by simp_all! []; simpa using q)
    have es : oEq2 (.str "steps") (.str "steps") t = some (.bl true, t) := eq_str4 (by decide +kernel)
    simp_all! [List.replicate, rp, ls, ol, es, er]
    exact gc0 rfl
  | false =>
    rw [hb, if_neg (by decide)] at ls
    have ok := ok hb
    have e1 : ∀ H : AH, toPy (H ++ [AO.lst [tabO n g, tabO n g]]) depthL (.ref H.length) = some (.list [pyT n g, pyT n g]) := fun H => by
      rw [show depthL = (depthL - 3 + 2) + 1 from rfl, toPy]
      have : (H ++ [AO.lst [tabO n g, tabO n g]])[H.length]? = some (.lst [tabO n g, tabO n g]) := by simp
      rw [this]
      simp only [toPysF, py_T]
      rfl
    have o1 : okR (.list [pyT n g, pyT n g]) = true := by
      obtain ⟨a1, a2, a3, a4⟩ := okd_T hn S MN hb
      refine okR_of (e := 3) (B := 2 * (9000 + 2) + 3) ⟨?_, ?_, ?_, ?_⟩ (by omega) (by omega)
      · simp [PyData.showable, PyData.showableAll, a1]
      · simp [PyData.canLay0, PyData.canLayAll0, a2]
      · simp [PyData.depth, PyData.depthAll]; omega
      · simp only [lenB, lenBs]; omega
    have r1 : oReprN [.ref 0] [AO.lst [tabO n g, tabO n g]] = some (.rp (.list [pyT n g, pyT n g]), [AO.lst [tabO n g, tabO n g]]) := repr_of (e1 []) o1
    have r2 : oReprN [.ref 1] [AO.lst [tabO n g, tabO n g], AO.lst [tabO n g, tabO n g]] = some (.rp (.list [pyT n g, pyT n g]), [AO.lst [tabO n g, tabO n g], AO.lst [tabO n g, tabO n g]]) := repr_of (e1 [AO.lst [tabO n g, tabO n g]]) o1
    have isn : ∀ h : AH, oIs false (tabO n g) .non h = some (.bl false, h) := fun h => rfl
    have l2 : ∀ h : AH, oLst [tabO n g, tabO n g] h = some (.ref h.length, h ++ [.lst [tabO n g, tabO n g]]) := fun h => o_lst (by show 2 ≤ lim; decide)
    have er2 : ∀ h : AH, oEq2 (.rp (.list [pyT n g, pyT n g])) (.rp (.list [pyT n g, pyT n g])) h = some (.bl true, h) := fun h => o_eqR
    simp_all! [List.replicate, -o_lst, rp, ls, ok, isn, l2, r1, r2, er, er2]
    exact gc0 rfl
end
end FL

set_option linter.all false
set_option maxRecDepth 100000
set_option maxHeartbeats 4000000
namespace FL
open PySem PySem.Spec PyProof.Rows L2
/-! exceptions, step by step; calls that raise; values free of references. -/
section
variable {ev : Ev} {h h' : AH} {v : Va} {vs xs : List Va} {c x f : Str} {p : List (Str × Va)} {i k n : Nat} {sf sg : SF} {tf tg : TF} {af : AF} {F : List Va → AH → Rs Va} {das : List Va}
theorem mapR_fr {f : Nat → Nat} : ∀ {v : Va}, inR 0 v = true → mapR f v = v := by
  have key : ∀ k : Nat, ∀ v : Va, sizeOf v ≤ k → inR 0 v = true → mapR f v = v := by
    intro k
    induction k with
    | zero => intro v hv; cases v <;> simp at hv
    | succ k ih =>
      intro v hv h
      have lst : ∀ xs : List Va, sizeOf xs ≤ k → inRs 0 xs = true → mapRs f xs = xs := by
        intro xs
        induction xs with
        | nil => intros; rfl
        | cons x xs ih2 =>
          intro hs hx
          simp only [inRs, Bool.and_eq_true] at hx
          simp at hs
          rw [mapRs, ih x (by omega) hx.1, ih2 (by omega) hx.2]
      cases v with
      | ref l => simp [inR] at h
      | tup xs => simp at hv; simp only [inR] at h; rw [mapR, lst xs (by omega) h]
      | rol xs => simp at hv; simp only [inR] at h; rw [mapR, lst xs (by omega) h]
      | exn a d f x => simp at hv; simp only [inR] at h; rw [mapR, ih x (by omega) h]
      | _ => rfl
  exact fun {v} h => key _ v (Nat.le_refl _) h
theorem mapRs_fr {f : Nat → Nat} : ∀ {xs : List Va}, inRs 0 xs = true → mapRs f xs = xs
  | [], _ => rfl
  | x :: xs, h => by
    simp only [inRs, Bool.and_eq_true] at h
    rw [mapRs, mapR_fr h.1, mapRs_fr h.2]
theorem set_sm {xs : List Va} {h : AH} {k : Nat} (e : lstAt h k = some xs) : h.set k (.lst xs) = h := by
  have := lstAt_some e
  apply List.ext_getElem?
  intro i
  by_cases hi : k = i
  · subst hi
    rw [List.getElem?_set_self (List.getElem?_eq_some_iff.mp this).1, this]
  · rw [List.getElem?_set_ne hi]
theorem loc0X0 (e : F vs [] = .exc c [] []) (e2 : refsOfs vs = []) : callL F vs h = .exc c [] h := by
  simp [callL, e2, e, back0, mapRf]
theorem all1 (k n : Nat) : (List.replicate n k).all (· == k) = true := by simp
/-- a call that names one list alone, which it leaves as it is -/
theorem loc1K {ys : List Va} (e0 : refsOfs vs = k :: List.replicate n k) (e1 : lstAt h k = some xs) (e2 : inRs 0 xs = true) (e3 : mapRs (fun _ => 0) vs = ys) (e : F ys [.lst xs] = .ok v [.lst xs]) (e4 : inR 0 v = true) : callL F vs h = .ok v h := by
  have e1' := lstAt_some e1
  have e5 : mapRs (sh1 h.length k) xs = xs := mapRs_fr e2
  unfold callL
  rw [e0]
  simp only [all1, if_true, e1', e2, e3, e, back1, ins1, bk, e4, mapRO, e5, List.map_nil, List.append_nil, set_sm e1]
end
end FL

set_option linter.all false
set_option maxRecDepth 100000
set_option maxHeartbeats 4000000
namespace FL
open PySem PySem.Spec PyProof.Rows L2
/-! the text of data is a text that data may hold. -/
end FL

set_option linter.all false
set_option maxRecDepth 100000
set_option maxHeartbeats 4000000
namespace FL
open PySem PySem.Spec PyProof.Rows L2
/-! the stream in the middle of the heap (for laws without systems). -/
theorem stp {k : Nat} {xs : List Va} (h : St k xs) : inRs 0 xs = true ∧ ∀ f, mapRs f xs = xs := by
  obtain ⟨a, b, c, rfl, _⟩ := h
  exact ⟨rfl, fun _ => rfl⟩
theorem at_md {h r : AH} {xs : List Va} : lstAt (h ++ .lst xs :: r) h.length = some xs := by simp [lstAt]
theorem set_md {h r : AH} {xs ys : List Va} : (h ++ AO.lst xs :: r).set h.length (.lst ys) = h ++ .lst ys :: r := by
  rw [List.set_append_right _ _ (Nat.le_refl _), Nat.sub_self]
  rfl
theorem at_str {F : List Va → AH → Rs Va} {args : List Va} {xs : List Va} {h r : AH} {P : Va → AH → Prop} (ha : inRs 0 args = true) (e2 : inRs 0 xs = true)
    (q : Tk (F (.ref 0 :: args) [.lst xs]) (fun v h' => inR 0 v = true ∧ ∃ ys, h' = [.lst ys] ∧ (∀ f, mapRs f ys = ys) ∧ P v (h ++ .lst ys :: r))) : Tk (callL F (.ref h.length :: args) (h ++ .lst xs :: r)) P := by
  have e0 : refsOfs (.ref h.length :: args) = [h.length] := by
    show h.length :: refsOfs args = _
    rw [inRs_free ha]
  have em : mapRs (fun _ => 0) (.ref h.length :: args) = .ref 0 :: args := by
    show Va.ref 0 :: mapRs _ args = _
    rw [mapRs_fr ha]
  refine p_loc1 e0 at_md e2 ?_
  rw [em]
  refine q.mono ?_
  rintro v h' ⟨hv, ys, rfl, hm, hp⟩
  have := set_md (h := h) (r := r) (xs := xs) (ys := ys)
  simp only [bk, hv, if_true, ins1, mapRO, hm, List.map_nil, List.append_nil, this]
  exact hp
theorem draw_m {k : Nat} {xs : List Va} {t : Int} {h r : AH} {P : Va → AH → Prop} (hs : St k xs) (hn : k ≤ 1000000) (ht : 0 < t) (ht2 : t < 1000000) (q : ∀ d ys, 0 ≤ d → d < t → St (k + 1) ys → P (.int d) (h ++ .lst ys :: r)) : Tk (callL m__law_draw [.ref h.length, .int t] (h ++ .lst xs :: r)) P := by
  refine at_str (args := [.int t]) rfl (stp hs).1 ?_
  obtain ⟨a, b, c, rfl, ha, hb, hb2, hc, hc2⟩ := hs
  by_cases h : 0 < a
  · exact ⟨_, _, draw1 h ht ht2, rfl, _, rfl, fun _ => rfl, q _ _ (Int.emod_nonneg _ (by omega)) (Int.emod_lt_of_pos _ ht) ⟨_, _, _, rfl, Int.ediv_nonneg ha (by omega), hb, hb2, hc, by omega⟩⟩
  · obtain ⟨d, e⟩ := draw2 (a := a) (b := b) (c := c) h ht ht2 hb hb2 hc (by omega)
    exact ⟨_, _, e, rfl, _, rfl, fun _ => rfl, q _ _ (Int.emod_nonneg _ (by omega)) (Int.emod_lt_of_pos _ ht) ⟨_, _, _, rfl, ha, hb, hb2, by omega, by push_cast; omega⟩⟩
end FL

set_option linter.all false
set_option maxRecDepth 100000
set_option maxHeartbeats 4000000
namespace FL
open PySem PySem.Spec PyProof.Rows L2
/-! picks out of lists, the loop over cells, whole runs by the kernel. -/
theorem pick_m {ys : List Va} {i : Int} {k : Nat} {h : AH} (hl : lstAt h k = some ys) (h0 : 0 ≤ i) (h1 : i < (ys.length : Nat)) : ∃ v, v ∈ ys ∧ oIx (.ref k) (.int i) h = some (v, h) := by
  obtain ⟨j, rfl⟩ : ∃ j : Nat, i = (j : Nat) := ⟨i.toNat, by omega⟩
  have hj : j < ys.length := by omega
  refine ⟨ys[j], List.getElem_mem hj, ?_⟩
  rw [o_ixL, hl, k_ixL, atIn rfl, List.getElem?_eq_getElem hj]
  rfl
/-- the number of cells -/
theorem cells {l : Nat} {c : Int} (hc : 1 ≤ c ∧ c ≤ 60) : ∃ N : Nat, (if (if ((l : Nat) : Int) < c then ((l : Nat) : Int) else c) > 1 then (if ((l : Nat) : Int) < c then ((l : Nat) : Int) else c) else 1) = (N : Nat) ∧ N ≤ 60 := by
  refine ⟨_, (Int.toNat_of_nonneg (by split <;> (split <;> omega))).symm, ?_⟩
  split <;> (split <;> omega)
end FL

set_option linter.all false
set_option maxRecDepth 100000
set_option maxHeartbeats 4000000
namespace FL
open PySem PySem.Spec PyProof.Rows L2
/-! calls that raise, whatever references stand among the arguments. -/
/-- a reference to an empty list or to an empty dict -/
def Ref0 (h : AH) (a : Nat) : Prop := h[a]? = some (.lst []) ∨ h[a]? = some (.dct [])
/-- without references, or one itself -/
def Fr (w : Va) : Prop := inR 0 w = true ∨ ∃ a, w = .ref a
theorem mapRs_map {f : Nat → Nat} : ∀ xs : List Va, mapRs f xs = xs.map (mapR f)
  | [] => rfl
  | x :: xs => by rw [mapRs, mapRs_map xs, List.map_cons]
theorem refs_mem {w : Va} {a : Nat} (hw : w = .ref a) : ∀ {xs : List Va}, w ∈ xs → a ∈ refsOfs xs
  | x :: xs, h => by
    rw [refsOfs, List.mem_append]
    rcases List.mem_cons.mp h with rfl | h
    · subst hw
      exact .inl (List.mem_singleton.mpr rfl)
    · exact .inr (refs_mem hw h)
/-- what holds of a value in a heap, also where the call looks at it -/
structure Down (Q : AH → Va → Prop) (H : AH) (w : Va) : Prop where
  here : Q H w
  fr : Fr w
  free : inR 0 w = true → Q [] w
  one : ∀ (l : Nat) (xs : List Va), H[l]? = some (.lst xs) → inRs 0 xs = true → (∀ a, w = .ref a → a = l) → Q [.lst xs] (mapR (fun _ => 0) w)
section
variable {F : List Va → AH → Rs Va} {args : List Va} {H : AH} {c f : Str} {w : Va} {Q : AH → Va → Prop}
theorem callG1 (hq : Down Q H w) (hm : w ∈ args) (hF : ∀ (g : Va → Va) (H' : AH), (∀ v, inR 0 v = true → g v = v) → Q H' (g w) → F (args.map g) H' = .exc c [(f, g w)] H') : callL F args H = .exc c [(f, w)] H := by
  have hid := hF id H (fun _ _ => rfl) hq.here
  rw [List.map_id] at hid
  unfold callL
  split
  · rename_i hr
    have hw : inR 0 w = true := by
      rcases hq.fr with h | ⟨a, h⟩
      · exact h
      · have := refs_mem h hm
        rw [hr] at this
        cases this
    have := hF id [] (fun _ _ => rfl) (hq.free hw)
    rw [List.map_id] at this
    rw [this]
    show Rs.exc c [(f, mapR _ w)] (H ++ []) = _
    rw [mapR_fr hw, List.append_nil]
  · rename_i l ls hr
    split
    · rename_i hall
      split
      · rename_i xs hxs
        split
        · rename_i hc
          have hone : ∀ a, w = .ref a → a = l := fun a ha => by
            have := refs_mem ha hm
            rw [hr] at this
            rcases List.mem_cons.mp this with rfl | h
            · rfl
            · exact beq_iff_eq.mp (List.all_eq_true.mp hall a h)
          have := hF (mapR fun _ => 0) [.lst xs] (fun v hv => mapR_fr hv) (hq.one l xs hxs hc hone)
          rw [mapRs_map, this]
          show Rs.exc c [(f, mapR _ (mapR _ w))] (H.set l (mapRO _ (.lst xs)) ++ []) = _
          simp only [mapRO, mapRs_fr hc, List.append_nil]
          rw [set_sm (by unfold lstAt; rw [hxs])]
          rcases hq.fr with h | ⟨a, h⟩
          · rw [mapR_fr h, mapR_fr h]
          · have e := hone a h
            rw [h, e]
            rfl
        · exact hid
      · exact hid
    · exact hid
end
/-- a plain thing of which something holds by itself, or a reference of which it holds by what lies there -/
theorem down_fr {Q : AH → Va → Prop} {w : Va} (hw : inR 0 w = true) (hq : ∀ H, Q H w) (H : AH) : Down Q H w :=
  ⟨hq H, .inl hw, fun _ => hq [], fun l xs _ _ _ => by rw [mapR_fr hw]; exact hq _⟩
theorem down_ref {Q : AH → Va → Prop} {a : Nat} {H : AH} {R : AH → Nat → Prop} (hR : R H a) (hQ : ∀ H a, R H a → Q H (.ref a)) (hd : ∀ xs, H[a]? = some (.lst xs) → R [.lst xs] 0) : Down Q H (.ref a) :=
  ⟨hQ _ _ hR, .inr ⟨a, rfl⟩, fun z => by simp [inR] at z, fun l xs hx _ h1 => by
    have := h1 a rfl
    subst this
    exact hQ _ 0 (hd xs hx)⟩
theorem ref0_one {H : AH} {a : Nat} (h : Ref0 H a) : ∀ xs, H[a]? = some (.lst xs) → Ref0 [.lst xs] 0 := fun xs hx => by
  rcases h with h | h
  · rw [hx] at h
    cases h
    exact .inl rfl
  · rw [hx] at h
    cases h
theorem int_ref {h : AH} {a : Nat} {lo hi : Va} (i1 : isiK "int" (.ok (.ref a) h) = .ok (.bl false) h) : m_is_integer [.ref a, lo, hi] h = .ok (.bl false) h := by
  unfold m_is_integer
  rw [s_fn (by rfl)]
  unfold b_is_integer
  simp! [List.replicate, i1]
  unfold gcF
  simp only [endF, inR, Bool.true_and]
  split
  · rw [List.take_length]
  · rfl
theorem isi_ref {h : AH} {a : Nat} {T : String} (hT : T ≠ "list") (hD : T ≠ "dict") (r : (∃ xs, h[a]? = some (.lst xs)) ∨ ∃ xs, h[a]? = some (.dct xs)) : isiK T (.ok (.ref a) h) = .ok (.bl false) h := by
  rcases r with ⟨xs, r⟩ | ⟨xs, r⟩
  · simp [isiK, tyName, r, isiT, Ne.symm hT]
  · simp [isiK, tyName, r, isiT, Ne.symm hD]
/-- no integer from lo to hi -/
def BadI (lo hi : Int) (H : AH) (w : Va) : Prop := callL m_is_integer [w, .int lo, .int hi] H = .ok (.bl false) H
theorem badI_fr {lo hi : Int} {w : Va} (hw : inR 0 w = true) (e : m_is_integer [w, .int lo, .int hi] [] = .ok (.bl false) []) (H : AH) : Down (BadI lo hi) H w :=
  down_fr hw (fun _ => loc0 e (refs_cons hw rfl) rfl) H
theorem int_ref_l {h : AH} {a : Nat} {lo hi : Int} (r : (∃ xs, h[a]? = some (.lst xs) ∧ inRs 0 xs = true) ∨ ∃ xs, h[a]? = some (.dct xs)) : callL m_is_integer [.ref a, .int lo, .int hi] h = .ok (.bl false) h := by
  rcases r with ⟨xs, r, hx⟩ | ⟨xs, r⟩
  · exact loc1K (n := 0) (k := a) (xs := xs) rfl (by unfold lstAt; rw [r]) hx rfl (int_ref (isi_ref (by decide) (by decide) (.inl ⟨xs, rfl⟩))) rfl
  · have e : refsOfs [.ref a, .int lo, .int hi] = [a] := rfl
    unfold callL
    rw [e]
    simp only [List.all_nil, if_true, r]
    exact int_ref (isi_ref (by decide) (by decide) (.inr ⟨xs, r⟩))
theorem badI_ref {lo hi : Int} {a : Nat} {H : AH} (r : Ref0 H a) : Down (BadI lo hi) H (.ref a) :=
  down_ref (R := Ref0) r (fun H a r => int_ref_l (by
    rcases r with r | r
    · exact .inl ⟨_, r, rfl⟩
    · exact .inr ⟨_, r⟩)) (ref0_one r)
/-! ### texts of lists that hold bad things -/
end FL

set_option linter.all false
set_option maxRecDepth 100000
set_option maxHeartbeats 4000000
namespace FL
open PySem PySem.Spec PyProof.Rows L2
/-! calls whose end rests on one argument alone, which may hold references within. -/
theorem refs_in {w : Va} {a : Nat} (hw : a ∈ refsOf w) : ∀ {xs : List Va}, w ∈ xs → a ∈ refsOfs xs
  | x :: xs, h => by
    rw [refsOfs, List.mem_append]
    rcases List.mem_cons.mp h with rfl | h
    · exact .inl hw
    · exact .inr (refs_in hw h)
/-- told on a part of the heap as well -/
def Lc (Q : AH → Va → Prop) : Prop := ∀ H w, Q H w → (refsOf w = [] → Q [] w) ∧ ∀ l xs, H[l]? = some (.lst xs) → inRs 0 xs = true → (∀ a ∈ refsOf w, a = l) → Q [.lst xs] (mapR (fun _ => 0) w)
section
variable {F : List Va → AH → Rs Va} {args : List Va} {H : AH} {c f : Str} {w v : Va} {Q : AH → Va → Prop}
theorem callT {R : Rs Va → AH → Prop} (L : Lc Q) (hq : Q H w) (hm : w ∈ args)
    (hF : ∀ (g : Va → Va) (H' : AH), (∀ v, inR 0 v = true → g v = v) → Q H' (g w) → R (F (args.map g) H') H')
    (r0 : ∀ r, R r [] → R (back0 H r) H) (r1 : ∀ r l xs, H[l]? = some (.lst xs) → inRs 0 xs = true → R r [.lst xs] → R (back1 H l r) H) : R (callL F args H) H := by
  have hid := hF id H (fun _ _ => rfl) hq
  rw [List.map_id] at hid
  obtain ⟨L0, L1⟩ := L H w hq
  unfold callL
  split
  · rename_i hr
    have hw : refsOf w = [] := by
      cases e : refsOf w with
      | nil => rfl
      | cons a as =>
        have := refs_in (w := w) (a := a) (by rw [e]; exact List.mem_cons_self ..) hm
        rw [hr] at this
        cases this
    have := hF id [] (fun _ _ => rfl) (L0 hw)
    rw [List.map_id] at this
    exact r0 _ this
  · rename_i l ls hr
    split
    · rename_i hall
      split
      · rename_i xs hxs
        split
        · rename_i hc
          have hone : ∀ a ∈ refsOf w, a = l := fun a ha => by
            have := refs_in ha hm
            rw [hr] at this
            rcases List.mem_cons.mp this with rfl | h
            · rfl
            · exact beq_iff_eq.mp (List.all_eq_true.mp hall a h)
          have := hF (mapR fun _ => 0) [.lst xs] (fun v hv => mapR_fr hv) (L1 l xs hxs hc hone)
          rw [mapRs_map]
          exact r1 _ l xs hxs hc this
        · exact hid
      · exact hid
    · exact hid
theorem back1_x {xs : List Va} {l : Nat} (h : H[l]? = some (.lst xs)) (hc : inRs 0 xs = true) : back1 H l (.exc c [] [.lst xs]) = .exc c [] H := by
  show Rs.exc c [] (H.set l (mapRO _ (.lst xs)) ++ []) = _
  simp only [mapRO, mapRs_fr hc, List.append_nil]
  rw [set_sm (by unfold lstAt; rw [h])]
/-- it raises, without a field -/
theorem callT0 (L : Lc Q) (hq : Q H w) (hm : w ∈ args) (hF : ∀ (g : Va → Va) (H' : AH), (∀ v, inR 0 v = true → g v = v) → Q H' (g w) → F (args.map g) H' = .exc c [] H') : callL F args H = .exc c [] H :=
  callT (R := fun r H => r = .exc c [] H) L hq hm hF (fun r e => by
    rw [e]
    show Rs.exc c [] (H ++ []) = _
    rw [List.append_nil]) (fun r l xs h hc e => by rw [e]; exact back1_x h hc)
end
/-- a list or an empty dict lies there -/
def Ls (H : AH) (a : Nat) : Prop := (∃ xs, H[a]? = some (.lst xs)) ∨ H[a]? = some (.dct [])
theorem Ls.isi {H : AH} {a : Nat} {T : String} (r : Ls H a) (hT : T ≠ "list") (hD : T ≠ "dict") : isiK T (.ok (.ref a) H) = .ok (.bl false) H := isi_ref hT hD (by
  rcases r with r | r
  · exact .inl r
  · exact .inr ⟨_, r⟩)
theorem Ls.one {H : AH} {a l : Nat} {xs : List Va} (h : H[l]? = some (.lst xs)) (e : a = l) : Ls [.lst xs] 0 := .inl ⟨xs, rfl⟩
end FL

set_option linter.all false
set_option maxRecDepth 100000
set_option maxHeartbeats 8000000
namespace FL
open PySem PySem.Spec PyProof.Rows L2
/-! _law_steps gives valid steps -/
def SP0 : SF := (sSet 2 (eOp oIx (eAp oLst (aCons (eC (.int 1)) (aCons (eC (.int 3)) (aCons (eC (.int 9)) (aCons (eC (.int 120)) (aCons (eC (.int 1000)) (aNil))))))) (eCall [] (callL m__law_draw) (aCons (eVar 0) (aCons (eC (.int 5)) (aNil))))))
def SP1 : SF := (sSet 3 (eAp oLst (aNil)))
def SP2 : SF := (sIf (tB (eOp oGt (eCall [] (callL m__law_draw) (aCons (eVar 0) (aCons (eC (.int 3)) (aNil)))) (eC (.int 0)))) (sSeq (sSet 4 (eOp oAdd (eC (.int 1)) (eCall [] (callL m__law_draw) (aCons (eVar 0) (aCons (eOp oSub (eVar 1) (eC (.int 1))) (aNil)))))) (sFor (iOf (aCons (eVar 1) (aNil)) srcR) (gNm 5) (sSeq (sSet 6 (eIf (tB (eOp oGt (eCall [] (callL m__law_draw) (aCons (eVar 0) (aCons (eC (.int 6)) (aNil)))) (eC (.int 0)))) (eOp oMod (eOp oAdd (eVar 5) (eC (.int 1))) (eVar 1)) (eOp oMod (eOp oAdd (eVar 5) (eVar 4)) (eVar 1)))) (sSeq (sExpr (eM (eVar 3) (aCons (eAp oTup (aCons (eVar 5) (aCons (eVar 6) (aCons (eOp oAdd (eC (.int 1)) (eCall [] (callL m__law_draw) (aCons (eVar 0) (aCons (eVar 2) (aNil))))) (aNil))))) (aNil)) oAppend)) (sExpr (eM (eVar 3) (aCons (eAp oTup (aCons (eVar 5) (aCons (eOp oMod (eOp oAdd (eVar 5) (eC (.int 1))) (eVar 1)) (aCons (eOp oAdd (eC (.int 1)) (eCall [] (callL m__law_draw) (aCons (eVar 0) (aCons (eVar 2) (aNil))))) (aNil))))) (aNil)) oAppend)))))) (sNil))
def SP3 : SF := (sFor (iOf (aCons (eCall [] (callL m__law_draw) (aCons (eVar 0) (aCons (eC (.int 31)) (aNil)))) (aNil)) srcR) (gNm 4) (sSeq (sSet 5 (eCall [] (callL m__law_draw) (aCons (eVar 0) (aCons (eVar 1) (aNil))))) (sSeq (sSet 6 (eOp oMod (eOp oAdd (eOp oAdd (eVar 5) (eC (.int 1))) (eCall [] (callL m__law_draw) (aCons (eVar 0) (aCons (eOp oSub (eVar 1) (eC (.int 1))) (aNil))))) (eVar 1))) (sExpr (eM (eVar 3) (aCons (eAp oTup (aCons (eVar 5) (aCons (eVar 6) (aCons (eOp oAdd (eC (.int 1)) (eCall [] (callL m__law_draw) (aCons (eVar 0) (aCons (eVar 2) (aNil))))) (aNil))))) (aNil)) oAppend)))))
def SP4 : SF := (sRet (eAp oTuple (aCons (eOp oAdd (eVar 3) (eSl (eVar 3) (lNone) (lSome (eCall [] (callL m__law_draw) (aCons (eVar 0) (aCons (eC (.int 3)) (aNil))))))) (aNil))))
theorem SP_is : b__law_steps = sSeq SP0 (sSeq SP1 (sSeq SP2 (sSeq SP3 SP4))) := rfl
section
variable {n k : Nat} {xs : List Va} {h : AH} {P : Va → AH → Prop}
def T5 : AO := .lst [.int 1, .int 3, .int 9, .int 120, .int 1000]
/-- steps met so far -/
structure SA (n : Nat) (l : List St3) (m : Nat) : Prop where
  ok : ∀ s ∈ l, StOk n s
  len : l.length ≤ m
theorem SA.app {l : List St3} {m : Nat} (A : SA n l m) {s : St3} (hs : StOk n s) : SA n (l ++ [s]) (m + 1) :=
  ⟨fun t ht => by
    rcases List.mem_append.mp ht with h | h
    · exact A.ok t h
    · rw [List.mem_singleton.mp h]; exact hs, by rw [List.length_append]; simpa using A.len⟩
abbrev Hs (ys : List Va) (l : List St3) : AH := [.lst ys, T5, .lst (l.map stV)]
abbrev Es (n : Nat) (top : Int) (z4 z5 z6 : Option Va) : Ev := [some (.ref 0), some (.int (n : Nat)), some (.int top), some (.ref 2), z4, z5, z6]
theorem app4 {ys : List Va} {l : List St3} {s : St3} (hl : l.length ≤ 500) : oAppend (.ref 2) [stV s] (Hs ys l) = some (.non, Hs ys (l ++ [s])) := by
  have hlim : lim = 1000000 := rfl
  rw [o_app]
  show appvK 2 (stV s) (Hs ys l) (some (l.map stV)) = _
  rw [k_app (by rw [List.length_map]; omega)]
  show some (Va.non, _) = some (Va.non, Hs ys (l ++ [s]))
  unfold Hs
  rw [List.map_append]
  rfl
theorem sp0 (hs : St k xs) (hk : k ≤ 100000) {z3 z4 z5 z6 : Option Va} : Ts (SP0 [some (.ref 0), some (.int (n : Nat)), none, z3, z4, z5, z6] [.lst xs]) (fun r => ∃ top ys, r = .nx [some (.ref 0), some (.int (n : Nat)), some (.int top), z3, z4, z5, z6] [.lst ys, T5] ∧ 1 ≤ top ∧ top ≤ 1000 ∧ St (k + 1) ys) := by
  have t5 : ∀ (x1 x2 x3 x4 x5 : Va) (h : AH), oLst [x1, x2, x3, x4, x5] h = some (.ref h.length, h ++ [.lst [x1, x2, x3, x4, x5]]) := fun _ _ _ _ _ _ => rfl
  unfold SP0
  simp! [-o_lst, t5]
  refine p_set (p_o1 (draw_l hs (by omega) (by omega) (by omega) ?_))
  intro i ys h0 h1 s2
  obtain ⟨w, hw, ew⟩ := pick_m (h := [.lst ys, T5]) (k := 1) rfl h0 (by simpa using h1)
  rw [k_op1]
  show Tk (ofO (oIx (.ref 1) (.int i) [.lst ys, T5])) _
  rw [ew, k_o, tk_ok, k_set, ts_nx]
  simp only [List.mem_cons, List.not_mem_nil, or_false] at hw
  rcases hw with rfl | rfl | rfl | rfl | rfl <;> exact ⟨_, ys, rfl, by omega, by omega, s2⟩
theorem stV_show {a b : Nat} {c : Int} : Va.tup [.int (a : Nat), .int (b : Nat), .int c] = stV (a, b, c) := rfl
theorem mod_ne {n x j : Nat} (hj : j < n) (h1 : j < x) (h2 : x < j + n) : x % n < n ∧ x % n ≠ j := by
  refine ⟨Nat.mod_lt _ (by omega), ?_⟩
  by_cases q : x < n
  · rw [Nat.mod_eq_of_lt q]; omega
  · rw [Nat.mod_eq_sub_mod (by omega), Nat.mod_eq_of_lt (by omega)]; omega
theorem mod_int {n x : Nat} {y : Int} (e : y = (x : Nat)) : y % (n : Nat) = ((x % n : Nat) : Int) := by rw [e]; exact (Int.natCast_emod _ _).symm
theorem ring {ys : List Va} {top : Int} (h2 : 2 ≤ n) (hn : n ≤ 10) (ht : 1 ≤ top) (ht2 : top ≤ 1000) (hs : St k ys) (hk : k ≤ 100000) {z4 z5 z6 : Option Va} :
    Ts (SP2 (Es n top z4 z5 z6) (Hs ys [])) (fun r => ∃ l ys z4 z5 z6, r = .nx (Es n top z4 z5 z6) (Hs ys l) ∧ SA n l 20 ∧ St (k + 32) ys) := by
  have hlim : lim = 1000000 := rfl
  unfold SP2
  simp_all! []
  refine p_sif (p_tB (p_o (draw_l hs (by omega) (by omega) (by omega) ?_)))
  intro d ys1 d0 d1 s1
  by_cases hd : (0 : Int) < d
  · have e1 := decide_eq_true hd
    have t3 : ∀ (x1 x2 x3 : Va) (h : AH), oTup [x1, x2, x3] h = some (.tup [x1, x2, x3], h) := fun _ _ _ _ => rfl
    have il : ∀ (ys : List Va) (l : List St3), isLst (.ref 2) (Hs ys l) = true := fun _ _ => rfl
    simp_all! [e1, tk_ok]
    refine p_sq (p_set (p_o1 (draw_l s1 (by omega) (by omega) (by omega) ?_)))
    intro u ys2 u0 u1 s2
    have cr : ∀ h : AH, srcR [.int (n : Nat)] h = some ⟨intsF 0 n, []⟩ := fun _ => c_rngN (by omega)
    simp_all! [tk_ok, ts_nx, cr, -s_lpC0]
    refine loop_inv (fun j ev h => ∃ l ys z5 z6, ev = Es n top (some (.int (1 + u))) z5 z6 ∧ h = Hs ys l ∧ SA n l (2 * j) ∧ St (k + 2 + 3 * j) ys) (intsF 0 n) 0 _ _ ⟨[], ys2, _, _, rfl, rfl, ⟨by simp, by simp⟩, s2⟩ (fun _ _ _ _ _ _ => rfl) ?_ ?_
    · rintro j v ev h hj ⟨l, ys, z5, z6, rfl, rfl, A, hst⟩
      obtain ⟨hjn, rfl⟩ := intsF_at0 hj
      rw [Nat.zero_add] at A hst ⊢
      have hA := A.len
      refine ⟨Es n top (some (.int (1 + u))) (some (.int (j : Nat))) z6, rfl, ?_⟩
      unfold Hs Es
      simp_all! []
      refine p_sq (p_set (p_if (p_tB (p_o (draw_l hst (by omega) (by omega) (by omega) ?_)))))
      intro w ys3 w0 w1 s3
      obtain ⟨U, rfl⟩ : ∃ U : Nat, u = (U : Nat) := ⟨u.toNat, by omega⟩
      have m1 : ((j : Nat) + 1 : Int) % (n : Nat) = (((j + 1) % n : Nat) : Int) := mod_int (by omega)
      have m2 : ((j : Nat) + (1 + (U : Nat)) : Int) % (n : Nat) = (((j + (1 + U)) % n : Nat) : Int) := mod_int (by omega)
      obtain ⟨c1, c2⟩ := mod_ne (x := j + 1) hjn (by omega) (by omega)
      obtain ⟨d1', d2⟩ := mod_ne (x := j + (1 + U)) hjn (by omega) (by omega)
      generalize (j + 1) % n = c at *
      generalize (j + (1 + U)) % n = d' at *
      obtain ⟨b, hb, hbn, hbj⟩ : ∃ b : Nat, (if decide ((0 : Int) < w) = true then c else d') = b ∧ b < n ∧ b ≠ j := ⟨_, rfl, by split <;> assumption, by split <;> assumption⟩
      have two : ∀ (h : AH) (ev : Ev), ifK (eOp oMod (eOp oAdd (eVar 5) (eC (.int 1))) (eVar 1)) (eOp oMod (eOp oAdd (eVar 5) (eVar 4)) (eVar 1)) (Es n top (some (.int (1 + (U : Nat)))) (some (.int (j : Nat))) z6) (.ok (decide ((0 : Int) < w)) h) = .ok (.int (b : Nat)) h := fun h ev => by
        have hpos : (0 : Int) < (n : Nat) := by omega
        cases hq : decide ((0 : Int) < w) with
        | true =>
          rw [hq, if_pos rfl] at hb
          simp_all! [o_mod hpos, m1, hb]
        | false =>
          rw [hq, if_neg (by decide)] at hb
          simp_all! [o_mod hpos, m2, hb]
      simp only [k_op, s_c, k_op1, o_gt, k_o, k_tB, tk_ok]
      rw [two _ []]
      simp_all! [tk_ok, ts_nx]
      refine p_sq (p_exp (p_m1 (p_a (p_ap (p_a1 (p_a1 (p_a (p_o1 (draw_l s3 (by omega) (by omega) (by omega) ?_)))))))))
      intro x1 ys4 x10 x11 s4
      have ap1 := app4 (ys := ys4) (l := l) (s := (j, b, 1 + x1)) (by omega)
      have l2 : ∀ (ys : List Va) (l : List St3), lstAt [AO.lst ys, T5, AO.lst (List.map stV l)] 2 = some (l.map stV) := fun _ _ => rfl
      unfold Hs at ap1
      simp_all! [tk_ok, ts_nx, -o_tup, -o_app, t3, stV_show, ap1, l2]
      have hpos : (0 : Int) < (n : Nat) := by omega
      refine p_exp (p_m1 (p_a (p_ap (p_a1 (p_a ?_)))))
      rw [o_mod hpos, m1]
      simp_all! [tk_ok, ts_nx, -o_tup, -o_app]
      refine p_a1 (p_a (p_o1 (draw_l s4 (by omega) (by omega) (by omega) ?_)))
      intro x2 ys5 x20 x21 s5
      have ap2 := app4 (ys := ys5) (l := l ++ [(j, b, 1 + x1)]) (s := (j, c, 1 + x2)) (by rw [List.length_append]; simp; omega)
      unfold Hs at ap2
      simp_all! [tk_ok, ts_nx, -o_tup, -o_app, t3, stV_show, ap2]
      refine .inl ⟨_, _, rfl, _, ys5, _, _, rfl, rfl, ?_, s5.up (by omega)⟩
      have A1 := A.app (s := (j, b, 1 + x1)) ⟨hjn, hbn, fun z => hbj z.symm, by show 1 ≤ 1 + x1; omega, by show 1 + x1 ≤ 1000; omega⟩
      have A2 := A1.app (s := (j, c, 1 + x2)) ⟨hjn, c1, fun z => c2 z.symm, by show 1 ≤ 1 + x2; omega, by show 1 + x2 ≤ 1000; omega⟩
      exact A2
    · rintro ev h ⟨l, ys, z5, z6, rfl, rfl, A, hst⟩
      rw [Nat.zero_add, ints_len] at A hst
      exact ⟨l, ys, _, _, _, rfl, ⟨A.ok, by have := A.len; omega⟩, hst.up (by omega)⟩
  · have e1 := decide_eq_false hd
    simp_all! [e1, tk_ok, ts_nx]
    exact ⟨[], ys1, _, _, _, rfl, ⟨by simp, by simp⟩, s1.up (by omega)⟩
end
end FL

set_option linter.all false
set_option maxRecDepth 100000
set_option maxHeartbeats 8000000
namespace FL
open PySem PySem.Spec PyProof.Rows L2
section
variable {n k : Nat} {xs : List Va} {h : AH} {P : Va → AH → Prop}
theorem p_sl2' {v : Va} {lo : Option Int} {r : Rs (Option Int)} (q : Tk r fun w h => Tk (sl2K v lo (.ok w h)) P) : Tk (sl2K v lo r) P := Tk.bind q
theorem p_lS' {r : Rs Va} {Q : Option Int → AH → Prop} (q : Tk r fun w h => Tk (lsK (.ok w h)) Q) : Tk (lsK r) Q := Tk.bind q
theorem cutA_to {xs : List Va} {d : Nat} : cutA xs none (some (d : Nat)) = xs.take d := by
  unfold cutA
  have e1 : HT.sIx xs.length 0 none = 0 := rfl
  have e2 : HT.sIx xs.length xs.length (some ((d : Nat) : Int)) = min d xs.length := by
    simp only [HT.sIx]
    split <;> omega
  rw [e1, e2, List.drop_zero, Nat.sub_zero]
  by_cases h : d ≤ xs.length
  · rw [Nat.min_eq_left h]
  · rw [Nat.min_eq_right (by omega), List.take_of_length_le (Nat.le_refl _), List.take_of_length_le (by omega)]
theorem cutA_from {xs : List Va} {d : Nat} {e : Int} (he : e = (d : Nat)) : cutA xs (some e) none = xs.drop d := by
  subst he
  unfold cutA
  have e2 : HT.sIx xs.length xs.length none = xs.length := rfl
  have e1 : HT.sIx xs.length 0 (some ((d : Nat) : Int)) = min d xs.length := by
    simp only [HT.sIx]
    split <;> omega
  rw [e1, e2]
  by_cases h : d ≤ xs.length
  · rw [Nat.min_eq_left h, List.take_of_length_le (by rw [List.length_drop]; omega)]
  · rw [Nat.min_eq_right (by omega), List.drop_eq_nil_of_le (Nat.le_refl _), List.drop_eq_nil_of_le (by omega), List.take_nil]
theorem cutA_one {xs : List Va} {d : Nat} {e : Int} (he : e = (d : Nat) + 1) (hd : d ≤ xs.length) : cutA xs (some ((d : Nat) : Int)) (some e) = (xs.drop d).take 1 := by
  subst he
  unfold cutA
  have e1 : HT.sIx xs.length 0 (some ((d : Nat) : Int)) = d := by
    simp only [HT.sIx]
    split <;> omega
  have e2 : HT.sIx xs.length xs.length (some ((d : Nat) + 1 : Int)) = min (d + 1) xs.length := by
    simp only [HT.sIx]
    split <;> omega
  rw [e1, e2]
  by_cases h : d + 1 ≤ xs.length
  · rw [Nat.min_eq_left h, Nat.add_sub_cancel_left]
  · rw [Nat.min_eq_right (by omega), List.drop_eq_nil_of_le (by omega)]
    simp
theorem others {ys : List Va} {top : Int} {l : List St3} (h2 : 2 ≤ n) (hn : n ≤ 10) (ht : 1 ≤ top) (ht2 : top ≤ 1000) (A : SA n l 20) (hs : St k ys) (hk : k ≤ 100000) {z4 z5 z6 : Option Va} :
    Ts (SP3 (Es n top z4 z5 z6) (Hs ys l)) (fun r => ∃ l ys z4 z5 z6, r = .nx (Es n top z4 z5 z6) (Hs ys l) ∧ SA n l 50 ∧ St (k + 100) ys) := by
  have hlim : lim = 1000000 := rfl
  have t3 : ∀ (x1 x2 x3 : Va) (h : AH), oTup [x1, x2, x3] h = some (.tup [x1, x2, x3], h) := fun _ _ _ _ => rfl
  unfold SP3
  unfold Hs Es
  simp_all! []
  refine p_for (p_it (p_a (draw_l hs (by omega) (by omega) (by omega) ?_)))
  intro d ys1 d0 d1 s1
  obtain ⟨D, rfl⟩ : ∃ D : Nat, d = (D : Nat) := ⟨d.toNat, by omega⟩
  have cr : ∀ h : AH, srcR [.int (D : Nat)] h = some ⟨intsF 0 D, []⟩ := fun _ => c_rngN (by omega)
  simp_all! [tk_ok, ts_nx, cr, -s_lpC0]
  refine loop_inv (fun j ev h => ∃ l ys z4 z5 z6, ev = Es n top z4 z5 z6 ∧ h = Hs ys l ∧ SA n l (20 + j) ∧ St (k + 1 + 3 * j) ys) (intsF 0 D) 0 _ _ ⟨l, ys1, _, _, _, rfl, rfl, A, s1⟩ (fun _ _ _ _ _ _ => rfl) ?_ ?_
  · rintro j v ev h hj ⟨l, ys, z4, z5, z6, rfl, rfl, A, hst⟩
    obtain ⟨hjn, rfl⟩ := intsF_at0 hj
    rw [Nat.zero_add] at A hst ⊢
    have hA := A.len
    refine ⟨Es n top (some (.int (j : Nat))) z5 z6, rfl, ?_⟩
    unfold Hs Es
    simp_all! []
    refine p_sq (p_set (draw_l hst (by omega) (by omega) (by omega) ?_))
    intro w ys2 w0 w1 s2
    obtain ⟨W, rfl⟩ : ∃ W : Nat, w = (W : Nat) := ⟨w.toNat, by omega⟩
    simp_all! [tk_ok, ts_nx]
    refine p_sq (p_set (p_o (p_o1 (draw_l s2 (by omega) (by omega) (by omega) ?_))))
    intro u ys3 u0 u1 s3
    obtain ⟨U, rfl⟩ : ∃ U : Nat, u = (U : Nat) := ⟨u.toNat, by omega⟩
    have hpos : (0 : Int) < (n : Nat) := by omega
    have m2 : ((W : Nat) + 1 + (U : Nat) : Int) % (n : Nat) = (((W + 1 + U) % n : Nat) : Int) := mod_int (by omega)
    obtain ⟨c1, c2⟩ := mod_ne (n := n) (j := W) (x := W + 1 + U) (by omega) (by omega) (by omega)
    generalize (W + 1 + U) % n = c at *
    simp_all! [tk_ok, ts_nx, o_mod hpos, m2]
    have l2 : ∀ (ys : List Va) (l : List St3), lstAt [AO.lst ys, T5, AO.lst (List.map stV l)] 2 = some (l.map stV) := fun _ _ => rfl
    simp_all! [tk_ok, ts_nx, l2]
    refine p_exp (p_m1 (p_a (p_ap (p_a1 (p_a1 (p_a (p_o1 (draw_l s3 (by omega) (by omega) (by omega) ?_))))))))
    intro x1 ys4 x10 x11 s4
    have ap1 := app4 (ys := ys4) (l := l) (s := (W, c, 1 + x1)) (by omega)
    unfold Hs at ap1
    simp_all! [tk_ok, ts_nx, -o_tup, -o_app, t3, stV_show, ap1]
    refine .inl ⟨_, _, rfl, _, ys4, _, _, _, rfl, rfl, ?_, s4.up (by omega)⟩
    exact A.app (s := (W, c, 1 + x1)) ⟨by omega, c1, fun z => c2 z.symm, by show 1 ≤ 1 + x1; omega, by show 1 + x1 ≤ 1000; omega⟩
  · rintro ev h ⟨l, ys, z4, z5, z6, rfl, rfl, A, hst⟩
    rw [Nat.zero_add, ints_len] at A hst
    exact ⟨l, ys, _, _, _, rfl, ⟨A.ok, by have := A.len; omega⟩, hst.up (by omega)⟩
theorem spend {ys : List Va} {top : Int} {l : List St3} (A : SA n l 50) (hs : St k ys) (hk : k ≤ 100000) {z4 z5 z6 : Option Va} :
    Ts (SP4 (Es n top z4 z5 z6) (Hs ys l)) (fun r => ∃ l ys t, r = .rt (stsV l) (.lst ys :: t) ∧ SA n l 60 ∧ St (k + 1) ys) := by
  have hlim : lim = 1000000 := rfl
  have hA := A.len
  unfold SP4
  unfold Hs Es
  simp_all! []
  refine p_ret (p_ap (p_a (p_o1 (p_sl2' (p_lS' (draw_l hs (by omega) (by omega) (by omega) ?_))))))
  intro d ys1 d0 d1 s1
  obtain ⟨D, rfl⟩ : ∃ D : Nat, d = (D : Nat) := ⟨d.toNat, by omega⟩
  have sl : oSl (.ref 2) none (some ((D : Nat) : Int)) [AO.lst ys1, T5, AO.lst (l.map stV)] = some (.ref 3, [AO.lst ys1, T5, AO.lst (l.map stV), AO.lst ((l.take D).map stV)]) := by
    show some (Va.ref 3, [AO.lst ys1, T5, AO.lst (l.map stV), AO.lst (cutA (l.map stV) none (some ((D : Nat) : Int)))]) = _
    rw [cutA_to, List.map_take]
  have ad : oAdd (.ref 2) (.ref 3) [AO.lst ys1, T5, AO.lst (l.map stV), AO.lst ((l.take D).map stV)] = some (.ref 4, [AO.lst ys1, T5, AO.lst (l.map stV), AO.lst ((l.take D).map stV), .lst ((l ++ l.take D).map stV)]) := by
    show (if (l.map stV).length + ((l.take D).map stV).length ≤ lim then some (Va.ref 4, _) else none) = _
    rw [if_pos (by rw [List.length_map, List.length_map, List.length_take]; omega), List.map_append]
    rfl
  have tu : oTuple [.ref 4] [AO.lst ys1, T5, AO.lst (l.map stV), AO.lst ((l.take D).map stV), .lst ((l ++ l.take D).map stV)] = some (stsV (l ++ l.take D), [AO.lst ys1, T5, AO.lst (l.map stV), AO.lst ((l.take D).map stV), .lst ((l ++ l.take D).map stV)]) := rfl
  simp_all! [tk_ok, ts_rt, -o_tupL, sl, ad, tu]
  exact ⟨_, ys1, _, rfl, ⟨fun s hs => (List.mem_append.mp hs).elim (A.ok s) fun h => A.ok s (List.mem_of_mem_take h), by rw [List.length_append, List.length_take]; omega⟩, s1⟩
theorem steps_d (h2 : 2 ≤ n) (hn : n ≤ 10) (hs : St k xs) (hk : k ≤ 90000) : Tk (m__law_steps [.ref 0, .int (n : Nat)] [.lst xs]) (fun v h => ∃ l ys, v = stsV l ∧ h = [.lst ys] ∧ SA n l 60 ∧ St (k + 200) ys) := by
  unfold m__law_steps
  refine p_fn (by rfl) ?_
  rw [SP_is]
  simp only [List.replicate, List.map_cons, List.map_nil, List.cons_append, List.nil_append]
  rw [s_seq]
  refine p_sq (ts_impK (sp0 (n := n) hs (by omega)) ?_)
  rintro r ⟨top, ys, rfl, t1, t2, s1⟩
  rw [k_seqN, s_seq]
  have e1 : SP1 [some (.ref 0), some (.int (n : Nat)), some (.int top), none, none, none, none] [.lst ys, T5] = .nx (Es n top none none none) (Hs ys []) := rfl
  rw [e1, k_seqN, s_seq]
  refine p_sq (ts_impK (ring h2 hn t1 t2 s1 (by omega)) ?_)
  rintro r ⟨l, ys, z4, z5, z6, rfl, A, s2⟩
  rw [k_seqN, s_seq]
  refine p_sq (ts_impK (others h2 hn t1 t2 A s2 (by omega)) ?_)
  rintro r ⟨l, ys, z4, z5, z6, rfl, A, s3⟩
  rw [k_seqN]
  refine ts_impK (spend A s3 (by omega)) ?_
  rintro r ⟨l, ys, t, rfl, A, s4⟩
  rw [k_endR]
  exact ⟨_, _, gc1 inR_sts (st_plain s4).1, l, ys, rfl, rfl, A, s4.up (by omega)⟩
theorem steps_l {kk : Nat} (hk : lstAt h kk = some xs) (h2 : 2 ≤ n) (hn : n ≤ 10) (hs : St k xs) (hk2 : k ≤ 90000) (q : ∀ l ys, SA n l 60 → St (k + 200) ys → P (stsV l) (h.set kk (.lst ys))) : Tk (callL m__law_steps [.ref kk, .int (n : Nat)] h) P := by
  refine at_stream (C := fun v ys => ∃ l, v = stsV l ∧ SA n l 60 ∧ St (k + 200) ys) rfl hk (st_plain hs).1 ((steps_d h2 hn hs hk2).mono ?_) ?_
  · rintro v h' ⟨l, ys, rfl, rfl, A, hs'⟩
    exact ⟨inR_sts, ys, rfl, (st_plain hs').2, l, rfl, A, hs'⟩
  · rintro v ys ⟨l, rfl, A, hs'⟩
    exact q l ys A hs'
end
end FL

set_option linter.all false
set_option maxRecDepth 100000
set_option maxHeartbeats 8000000
namespace FL
open PySem PySem.Spec PyProof.Rows L2
/-! _law_unrelated, _law_damaged at depth 0 -/
theorem call_pr {F : List Va → AH → Rs Va} {args xs : List Va} {r : AH} {k n : Nat} {P : Va → AH → Prop} {C : Va → AH → Prop} (hs : St k xs) (ha : inRs 0 args = true)
    (h : Tk (F (.ref 0 :: args) [.lst xs]) (fun v h => ∃ g ys, C v g ∧ St (k + n) ys ∧ h = .lst ys :: g))
    (q : ∀ v g ys, C v g → St (k + n) ys → P (bk (sh1 (r.length + 1) 0) v) (.lst ys :: (r ++ g.map (mapRO (sh1 (r.length + 1) 0))))) : Tk (callL F (.ref 0 :: args) (.lst xs :: r)) P := by
  have e0 : refsOfs (.ref 0 :: args) = [0] := by
    show 0 :: refsOfs args = _
    rw [inRs_free ha]
  have em : mapRs (fun _ => 0) (.ref 0 :: args) = .ref 0 :: args := by
    show Va.ref 0 :: mapRs _ args = _
    rw [mapRs_fr ha]
  refine p_loc1 e0 (show lstAt (.lst xs :: r) 0 = some xs from rfl) (st_plain hs).1 ?_
  rw [em]
  refine h.mono ?_
  rintro v h' ⟨g, ys, hc, hy, rfl⟩
  have := q v g ys hc hy
  simp only [ins1, mapRO, (st_plain hy).2, List.length_cons, List.set_cons_zero, List.cons_append] at this ⊢
  exact this
theorem call_prM {F : List Va → AH → Rs Va} {args xs : List Va} {h r : AH} {k n : Nat} {P : Va → AH → Prop} {C : Va → AH → Prop} (hs : St k xs) (ha : inRs 0 args = true)
    (hF : Tk (F (.ref 0 :: args) [.lst xs]) (fun v h' => ∃ g ys, C v g ∧ St (k + n) ys ∧ h' = .lst ys :: g))
    (q : ∀ v g ys, C v g → St (k + n) ys → P (bk (sh1 (h ++ .lst xs :: r).length h.length) v) (h ++ .lst ys :: (r ++ g.map (mapRO (sh1 (h ++ AO.lst xs :: r).length h.length))))) : Tk (callL F (.ref h.length :: args) (h ++ .lst xs :: r)) P := by
  have e0 : refsOf (.ref h.length) ++ refsOfs args = [h.length] := by
    show h.length :: refsOfs args = _
    rw [inRs_free ha]
  have em : mapRs (fun _ => 0) (.ref h.length :: args) = .ref 0 :: args := by
    show Va.ref 0 :: mapRs _ args = _
    rw [mapRs_fr ha]
  refine p_loc1 e0 (by simp [lstAt]) (st_plain hs).1 ?_
  rw [em]
  refine hF.mono ?_
  rintro v h' ⟨g, ys, hc, hy, rfl⟩
  have := q v g ys hc hy
  simp only [ins1, mapRO, (st_plain hy).2]
  rw [List.set_append_right _ _ (Nat.le_refl _), Nat.sub_self, List.set_cons_zero, List.append_assoc, List.cons_append]
  exact this
def L17 : List Va := [.non, .bl true, .bl false, .int 0, .int 1, .int (-1), .int 1001, .str "", .str "0", .str "a", .tup [], .ref 1, .ref 2, .tup [.int 0], .tup [.non], .tup [.tup [.int 0, .int 1], .tup [.int 1, .int 0]], .int (10 ^ 39)]
/-- the plain ones of them -/
def L15 : List Va := [.non, .bl true, .bl false, .int 0, .int 1, .int (-1), .int 1001, .str "", .str "0", .str "a", .tup [], .tup [.int 0], .tup [.non], .tup [.tup [.int 0, .int 1], .tup [.int 1, .int 0]], .int (10 ^ 39)]
def CU (v : Va) (g : AH) : Prop := (v ∈ L15 ∧ g = []) ∨ ((v = .ref 1 ∨ v = .ref 2) ∧ g = [.lst [], .dct [], .lst L17])
theorem unrel_d {xs : List Va} {k : Nat} (hs : St k xs) (hk : k ≤ 100000) : Tk (m__law_unrelated [.ref 0] [.lst xs]) (fun v h => ∃ g ys, CU v g ∧ St (k + 1) ys ∧ h = .lst ys :: g) := by
  obtain ⟨m1, hm1⟩ : ∃ m : Int, m = -1 := ⟨_, rfl⟩
  obtain ⟨B, hB⟩ : ∃ m : Int, m = 10 ^ 39 := ⟨_, rfl⟩
  have g1 : ∀ h : AH, oNeg (.int 1) h = some (.int m1, h) := fun h => by rw [hm1]; rfl
  have pB : ∀ h : AH, oPow (.int 10) (.int 39) h = some (.int B, h) := fun h => by
    show (if (decide ((0 : Int) ≤ 39) && decide ((39 : Int) ≤ 1000) && decide ((10 : Int).natAbs.log2 < 100000)) = true then some (Va.int ((10 : Int) ^ (39 : Int).toNat), h) else none) = _
    rw [if_pos (by decide +kernel), hB]
    rfl
  have t0 : ∀ h : AH, oLst [] h = some (.ref h.length, h ++ [.lst []]) := fun _ => rfl
  have u0 : ∀ (h : AH), oTup [] h = some (.tup [], h) := fun _ => rfl
  have u1 : ∀ (x : Va) (h : AH), oTup [x] h = some (.tup [x], h) := fun _ _ => rfl
  have u2 : ∀ (x y : Va) (h : AH), oTup [x, y] h = some (.tup [x, y], h) := fun _ _ _ => rfl
  have t17 : ∀ (x1 x2 x3 x4 x5 x6 x7 x8 x9 x10 x11 x12 x13 x14 x15 x16 x17 : Va) (h : AH), oLst [x1, x2, x3, x4, x5, x6, x7, x8, x9, x10, x11, x12, x13, x14, x15, x16, x17] h = some (.ref h.length, h ++ [.lst [x1, x2, x3, x4, x5, x6, x7, x8, x9, x10, x11, x12, x13, x14, x15, x16, x17]]) := fun _ _ _ _ _ _ _ _ _ _ _ _ _ _ _ _ _ _ => rfl
  have e0 : ∀ (ev : Ev) (h : AH), eD0 ev h = .ok (.ref h.length) (h ++ [.dct []]) := fun _ _ => rfl
  have hL : L17 = [.non, .bl true, .bl false, .int 0, .int 1, .int m1, .int 1001, .str "", .str "0", .str "a", .tup [], .ref 1, .ref 2, .tup [.int 0], .tup [.non], .tup [.tup [.int 0, .int 1], .tup [.int 1, .int 0]], .int B] := by rw [hm1, hB]; rfl
  have hL2 : L15 = [.non, .bl true, .bl false, .int 0, .int 1, .int m1, .int 1001, .str "", .str "0", .str "a", .tup [], .tup [.int 0], .tup [.non], .tup [.tup [.int 0, .int 1], .tup [.int 1, .int 0]], .int B] := by rw [hm1, hB]; rfl
  unfold m__law_unrelated
  refine p_fn (by rfl) ?_
  unfold b__law_unrelated
  simp only [List.replicate, List.map_cons, List.map_nil, List.cons_append, List.nil_append]
  simp! [-o_lst, -o_tup, g1, pB, t0, t17, u0, u1, u2, e0]
  refine p_ret (p_o1 (draw_l hs (by omega) (by omega) (by omega) ?_))
  intro i ys h0 h1 s2
  obtain ⟨w, hw, ew⟩ := pick_m (h := [.lst ys, .lst [], .dct [], .lst L17]) (k := 3) rfl h0 (by show i < ((17 : Nat) : Int); simpa using h1)
  rw [hL] at ew hw
  rw [k_op1]
  show Tk (ofO (oIx (.ref 3) (.int i) _)) _
  have ew' := ew
  rw [show ([.lst ys, .lst [], .dct [], .lst [.non, .bl true, .bl false, .int 0, .int 1, .int m1, .int 1001, .str "", .str "0", .str "a", .tup [], .ref 1, .ref 2, .tup [.int 0], .tup [.non], .tup [.tup [.int 0, .int 1], .tup [.int 1, .int 0]], .int B]] : AH) = _ from rfl] at ew'
  refine ⟨w, _, (congrArg ofO ew'), ?_⟩
  show Tk (gcF [AO.lst xs].length (.ok w _)) _
  have fin : ∀ w : Va, inR 0 w = true → gcF [AO.lst xs].length (.ok w [.lst ys, .lst [], .dct [], .lst [.non, .bl true, .bl false, .int 0, .int 1, .int m1, .int 1001, .str "", .str "0", .str "a", .tup [], .ref 1, .ref 2, .tup [.int 0], .tup [.non], .tup [.tup [.int 0, .int 1], .tup [.int 1, .int 0]], .int B]]) = .ok w [.lst ys] := fun w hw => gc1 hw (st_plain s2).1
  have pl : ∀ w ∈ L15, inR 0 w = true := by
    intro w hw
    rw [hL2] at hw
    simp only [List.mem_cons, List.not_mem_nil, or_false] at hw
    rcases hw with rfl | rfl | rfl | rfl | rfl | rfl | rfl | rfl | rfl | rfl | rfl | rfl | rfl | rfl | rfl <;> rfl
  have hcase : w ∈ L15 ∨ w = .ref 1 ∨ w = .ref 2 := by
    rw [hL2]
    simp only [List.mem_cons, List.not_mem_nil, or_false] at hw ⊢
    rcases hw with h | h | h | h | h | h | h | h | h | h | h | h | h | h | h | h | h <;> simp [h]
  rcases hcase with hw' | rfl | rfl
  · rw [fin w (pl w hw')]
    exact Tk.ok ⟨[], ys, .inl ⟨hw', rfl⟩, s2, rfl⟩
  · refine ⟨.ref 1, _, rfl, [.lst [], .dct [], .lst L17], ys, .inr ⟨.inl rfl, rfl⟩, s2, ?_⟩
    rw [hL]
  · refine ⟨.ref 2, _, rfl, [.lst [], .dct [], .lst L17], ys, .inr ⟨.inr rfl, rfl⟩, s2, ?_⟩
    rw [hL]
def DM0 : SF := (sSet 3 (eCall [] (callL m__law_draw) (aCons (eVar 0) (aCons (eC (.int 8)) (aNil)))))
def DM1 : SF := (sIf (tAnd (tB (eIsi "tuple" (eVar 1))) (tAnd (tB (eOp oNe2 (eVar 1) (eAp oTup (aNil)))) (tAnd (tB (eOp oGt (eVar 2) (eC (.int 0)))) (tB (eOp oLt (eVar 3) (eC (.int 5))))))) (sSeq (sSet 4 (eCall [] (callL m__law_draw) (aCons (eVar 0) (aCons (eAp oLen (aCons (eVar 1) (aNil))) (aNil))))) ((fun _ _ => .bad))) (sNil))
def DM2 : SF := (sIf (tB (eIsi "tuple" (eVar 1))) (sSeq (sSet 4 (eCall [] (callL m__law_draw) (aCons (eVar 0) (aCons (eOp oAdd (eAp oLen (aCons (eVar 1) (aNil))) (eC (.int 1))) (aNil))))) (sSeq (sSet 5 (eAp oLst (aCons (eAp oList (aCons (eVar 1) (aNil))) (aCons (eOp oAdd (eSl (eVar 1) (lNone) (lSome (eVar 4))) (eSl (eVar 1) (lSome (eOp oAdd (eVar 4) (eC (.int 1)))) (lNone))) (aCons (eOp oAdd (eOp oAdd (eSl (eVar 1) (lNone) (lSome (eVar 4))) (eSl (eVar 1) (lSome (eVar 4)) (lSome (eOp oAdd (eVar 4) (eC (.int 1)))))) (eSl (eVar 1) (lSome (eVar 4)) (lNone))) (aCons (eRev (eVar 1)) (aNil))))))) (sSeq (sSet 6 (eCall [] (callL m__law_unrelated) (aCons (eVar 0) (aNil)))) (sRet (eOp oIx (eOp oAdd (eVar 5) (eAp oLst (aCons (eOp oAdd (eVar 1) (eAp oTup (aCons (eVar 6) (aNil)))) (aCons (eOp oAdd (eOp oAdd (eSl (eVar 1) (lNone) (lSome (eVar 4))) (eAp oTup (aCons (eVar 6) (aNil)))) (eSl (eVar 1) (lSome (eOp oAdd (eVar 4) (eC (.int 1)))) (lNone))) (aNil))))) (eCall [] (callL m__law_draw) (aCons (eVar 0) (aCons (eC (.int 6)) (aNil))))))))) (sNil))
def DM3 : SF := (sIf (tAnd (tB (eIsi "int" (eVar 1))) (tAnd (tNot (tB (eIsi "bool" (eVar 1)))) (tB (eOp oLt (eVar 3) (eC (.int 6)))))) (sRet (eOp oIx (eAp oLst (aCons (eOp oAdd (eVar 1) (eC (.int 1))) (aCons (eOp oSub (eVar 1) (eC (.int 1))) (aCons (eC .non) (aCons (eC (.int 1000)) (aCons (eC (.int 1001)) (aCons (eC (.int 0)) (aNil)))))))) (eVar 3))) (sNil))
def DM4 : SF := (sRet (eCall [] (callL m__law_unrelated) (aCons (eVar 0) (aNil))))
theorem DM_is : b__law_damaged_0 = sSeq DM0 (sSeq DM1 (sSeq DM2 (sSeq DM3 DM4))) := rfl
section
variable {n k : Nat} {xs : List Va} {l : List St3}
inductive CD (l : List St3) (v : Va) (g : AH) : Prop
  | lst (i : Nat) (zs : List Va) (h1 : v = .ref (1 + i)) (h2 : g[i]? = some (.lst zs))
  | sts (l' : List St3) (h1 : v = stsV l') (h2 : l'.length ≤ l.length + 1) (h3 : ∀ s ∈ l', s ∈ l)
  | oth (A B : List St3) (w : Va) (h1 : v = .tup (A.map stV ++ w :: B.map stV)) (h2 : A.length ≤ l.length) (h2' : B.length ≤ l.length) (h3 : ∀ s ∈ A, s ∈ l) (h4 : ∀ s ∈ B, s ∈ l) (h5 : w ∈ L15 ∨ ∃ i, w = .ref (1 + i) ∧ (g[i]? = some (.lst []) ∨ g[i]? = some (.dct [])))
theorem okd_sts (S : ∀ s ∈ l, StOk n s) (hn : n ≤ 10) (hl : l.length ≤ 900) : OkD 2 (900 * (220 + 2) + 3) (.tuple (l.map pyS)) :=
  okd_tup (e := 1) (B := 220) (fun x hx => by
    obtain ⟨s, hs, rfl⟩ := List.mem_map.mp hx
    obtain ⟨h1, h2, h3, h4, h5⟩ := S s hs
    exact okd_S (by omega) (by omega) (by omega)) (by rw [List.length_map]; exact hl)
theorem py_sts {H : AH} : toPy H depthL (stsV l) = some (.tuple (l.map pyS)) := py_tup (n := 11) fun s _ => py_S
theorem ne_nilT (S : ∀ s ∈ l, StOk n s) (hn : n ≤ 10) (hl : l.length ≤ 900) (h : AH) : ∃ b, oNe2 (stsV l) (.tup []) h = some (.bl b, h) := by
  have p1 : toPy h depthL (.tup []) = some (.tuple []) := rfl
  have s1 : SeqAt.shaped (.tuple (l.map pyS)) = true := shaped_of (okd_sts S hn hl) (by omega)
  have s2 : SeqAt.shaped (.tuple []) = true := by decide +kernel
  refine ⟨!PyData.eqv (.tuple (l.map pyS)) (.tuple []), ?_⟩
  show oNe _ _ _ = _
  unfold oNe oEqv
  simp only [py_sts, p1, s1, s2, Bool.and_self, if_true]
theorem dam_d (S : ∀ s ∈ l, StOk n s) (hn : n ≤ 10) (hl : l.length ≤ 400) (hs : St k xs) (hk : k ≤ 90000) : Tk (m__law_damaged_0 [.ref 0, stsV l, .int 0] [.lst xs]) (fun v h => ∃ g ys, CD l v g ∧ St (k + 4) ys ∧ h = .lst ys :: g) := by
  have hlim : lim = 1000000 := rfl
  unfold m__law_damaged_0
  refine p_fn (by rfl) ?_
  rw [DM_is]
  simp only [List.replicate, List.map_cons, List.map_nil, List.cons_append, List.nil_append, s_seq (sf := DM0)]
  unfold DM0
  simp! [-s_seq]
  refine p_sq (p_set (draw_l hs (by omega) (by omega) (by omega) ?_))
  intro d1 ys1 d10 d11 s1
  simp! [-s_seq, tk_ok, ts_nx]
  rw [s_seq]
  unfold DM1
  obtain ⟨b, hb⟩ := ne_nilT S hn (by omega) [.lst ys1]
  have i1 : ∀ h, isiK "tuple" (.ok (stsV l) h) = .ok (.bl true) h := fun h => i_tt
  have u0 : ∀ (h : AH), oTup [] h = some (.tup [], h) := fun _ => rfl
  have d0 : decide ((0 : Int) < 0) = false := rfl
  have e1 : Ts (sqK (sSeq DM2 (sSeq DM3 DM4)) (.nx [some (.ref 0), some (stsV l), some (.int 0), some (.int d1), none, none, none] [.lst ys1])) (fun r => Tk (gcF [AO.lst xs].length (endF r)) fun v h => ∃ g ys, CD l v g ∧ St (k + 4) ys ∧ h = .lst ys :: g) := by
    rw [k_seqN, s_seq]
    unfold DM2
    have ln : ∀ h, oLen [stsV l] h = some (.int (l.length : Nat), h) := fun h => by
      show some (Va.int ((l.map stV).length : Nat), h) = _
      rw [List.length_map]
    simp! [i1, ln]
    refine p_sq (p_sq (p_set (draw_l s1 (by omega) (by omega) (by omega) ?_)))
    intro d2 ys2 d20 d21 s2
    obtain ⟨D, rfl⟩ : ∃ D : Nat, d2 = (D : Nat) := ⟨d2.toNat, by omega⟩
    have hDl : D ≤ l.length := by omega
    have c1 : ∀ h, oSl (stsV l) none (some ((D : Nat) : Int)) h = some (stsV (l.take D), h) := fun h => by
      show some (Va.tup (cutA (l.map stV) none (some ((D : Nat) : Int))), h) = _
      rw [cutA_to, ← List.map_take]
      rfl
    have c2 : ∀ h, oSl (stsV l) (some ((D : Nat) + 1 : Int)) none h = some (stsV (l.drop (D + 1)), h) := fun h => by
      show some (Va.tup (cutA (l.map stV) (some ((D : Nat) + 1 : Int)) none), h) = _
      rw [cutA_from (d := D + 1) (by omega), ← List.map_drop]
      rfl
    have c3 : ∀ h, oSl (stsV l) (some ((D : Nat) : Int)) none h = some (stsV (l.drop D), h) := fun h => by
      show some (Va.tup (cutA (l.map stV) (some ((D : Nat) : Int)) none), h) = _
      rw [cutA_from (d := D) rfl, ← List.map_drop]
      rfl
    have c4 : ∀ h, oSl (stsV l) (some ((D : Nat) : Int)) (some ((D : Nat) + 1 : Int)) h = some (stsV ((l.drop D).take 1), h) := fun h => by
      show some (Va.tup (cutA (l.map stV) (some ((D : Nat) : Int)) (some ((D : Nat) + 1 : Int))), h) = _
      rw [cutA_one rfl (by rw [List.length_map]; exact hDl), ← List.map_drop, ← List.map_take]
      rfl
    have cat : ∀ (a b : List St3) (h : AH), a.length + b.length ≤ 1000 → oAdd (stsV a) (stsV b) h = some (stsV (a ++ b), h) := fun a b h hl => by
      show oAdd (.tup (a.map stV)) (.tup (b.map stV)) h = _
      rw [o_cat (by rw [List.length_map, List.length_map]; omega), ← List.map_append]
      rfl
    have k1 := fun h => cat (l.take D) (l.drop (D + 1)) h (by rw [List.length_take, List.length_drop]; omega)
    have k2 := fun h => cat (l.take D) ((l.drop D).take 1) h (by rw [List.length_take, List.length_take, List.length_drop]; omega)
    have k3 := fun h => cat (l.take D ++ (l.drop D).take 1) (l.drop D) h (by rw [List.length_append, List.length_take, List.length_take, List.length_drop]; omega)
    have rv : ∀ h, oRev (stsV l) h = some (stsV l.reverse, h) := fun h => by
      show some (Va.tup (l.map stV).reverse, h) = _
      rw [← List.map_reverse]
      rfl
    have ll : ∀ h : AH, oList [stsV l] h = some (.ref h.length, h ++ [.lst (l.map stV)]) := fun h => rfl
    have t4 : ∀ (x1 x2 x3 x4 : Va) (h : AH), oLst [x1, x2, x3, x4] h = some (.ref h.length, h ++ [.lst [x1, x2, x3, x4]]) := fun _ _ _ _ _ => rfl
    have t2 : ∀ (x1 x2 : Va) (h : AH), oLst [x1, x2] h = some (.ref h.length, h ++ [.lst [x1, x2]]) := fun _ _ _ => rfl
    simp! [-o_lst, -o_cat, tk_ok, ts_nx, c1, c2, c3, c4, k1, k2, k3, rv, ll, t4]
    have RET : ∀ (w : Va) (ys3 : List Va) (R : AH), St (k + 3) ys3 → R[0]? = some (.lst (l.map stV)) → R[1]? = some (.lst [.ref 1, stsV (l.take D ++ l.drop (D + 1)), stsV (l.take D ++ (l.drop D).take 1 ++ l.drop D), stsV l.reverse]) → (w ∈ L15 ∨ ∃ i, w = .ref (1 + i) ∧ (R[i]? = some (.lst []) ∨ R[i]? = some (.dct []))) →
        Ts ((sRet (eOp oIx (eOp oAdd (eVar 5) (eAp oLst (aCons (eOp oAdd (eVar 1) (eAp oTup (aCons (eVar 6) (aNil)))) (aCons (eOp oAdd (eOp oAdd (eSl (eVar 1) (lNone) (lSome (eVar 4))) (eAp oTup (aCons (eVar 6) (aNil)))) (eSl (eVar 1) (lSome (eOp oAdd (eVar 4) (eC (.int 1)))) (lNone))) (aNil))))) (eCall [] (callL m__law_draw) (aCons (eVar 0) (aCons (eC (.int 6)) (aNil)))))) [some (.ref 0), some (stsV l), some (.int 0), some (.int d1), some (.int (D : Nat)), some (.ref 2), some w] (.lst ys3 :: R))
          (fun r => ∃ v ys4 g, r = .rt v (.lst ys4 :: g) ∧ St (k + 4) ys4 ∧ ((inR 0 v = true ∧ CD l v []) ∨ (inR 1 v = false ∧ CD l v g))) := by
      intro w ys3 R s3 hR0 hR1 hw
      have a1 : ∀ h, oAdd (stsV l) (.tup [w]) h = some (.tup (l.map stV ++ [w]), h) := fun h => by
        show oAdd (.tup (l.map stV)) (.tup [w]) h = _
        rw [o_cat (by rw [List.length_map]; show l.length + 1 ≤ lim; omega)]
      have a2 : ∀ h, oAdd (stsV (l.take D)) (.tup [w]) h = some (.tup ((l.take D).map stV ++ [w]), h) := fun h => by
        show oAdd (.tup ((l.take D).map stV)) (.tup [w]) h = _
        rw [o_cat (by rw [List.length_map, List.length_take]; show _ + 1 ≤ lim; omega)]
      have a3 : ∀ h, oAdd (.tup ((l.take D).map stV ++ [w])) (stsV (l.drop (D + 1))) h = some (.tup ((l.take D).map stV ++ [w] ++ (l.drop (D + 1)).map stV), h) := fun h => by
        show oAdd (.tup _) (.tup ((l.drop (D + 1)).map stV)) h = _
        rw [o_cat (by rw [List.length_append, List.length_map, List.length_map, List.length_take, List.length_drop]; show _ + 1 + _ ≤ lim; omega)]
      have u1 : ∀ h : AH, oTup [w] h = some (.tup [w], h) := fun _ => rfl
      generalize hT1 : stsV (l.take D ++ l.drop (D + 1)) = T1 at hR1
      generalize hT2 : stsV (l.take D ++ (l.drop D).take 1 ++ l.drop D) = T2 at hR1
      generalize hT3 : stsV l.reverse = T3 at hR1
      have hR2 : (AO.lst ys3 :: R)[2]? = some (.lst [.ref 1, T1, T2, T3]) := by simpa using hR1
      generalize hT4 : Va.tup (l.map stV ++ [w]) = T4 at a1
      generalize hT5 : Va.tup ((l.take D).map stV ++ [w] ++ (l.drop (D + 1)).map stV) = T5 at a3
      have hR3 : (AO.lst ys3 :: (R ++ [AO.lst [T4, T5]]))[2]? = some (.lst [.ref 1, T1, T2, T3]) := by
        rw [show (AO.lst ys3 :: (R ++ [AO.lst [T4, T5]])) = (AO.lst ys3 :: R) ++ [AO.lst [T4, T5]] from rfl, List.getElem?_append_left (List.getElem?_eq_some_iff.mp hR2).1]
        exact hR2
      have ad : oAdd (.ref 2) (.ref (R.length + 1)) (AO.lst ys3 :: (R ++ [.lst [T4, T5]])) = some (.ref (R.length + 2), AO.lst ys3 :: (R ++ [.lst [T4, T5], .lst [.ref 1, T1, T2, T3, T4, T5]])) := by
        have g2 : (AO.lst ys3 :: (R ++ [.lst [T4, T5]]))[R.length + 1]? = some (.lst [T4, T5]) := by simp
        unfold oAdd
        simp only [hR3, g2]
        rw [if_pos (by show 6 ≤ lim; decide)]
        simp
      have g3 : ∀ ys4, lstAt (AO.lst ys4 :: (R ++ [.lst [T4, T5], .lst [.ref 1, T1, T2, T3, T4, T5]])) (R.length + 2) = some [.ref 1, T1, T2, T3, T4, T5] := fun ys4 => by
        unfold lstAt
        have : (AO.lst ys4 :: (R ++ [.lst [T4, T5], .lst [.ref 1, T1, T2, T3, T4, T5]]))[R.length + 2]? = some (.lst [.ref 1, T1, T2, T3, T4, T5]) := by simp
        rw [this]
      have gi : ∀ i o, R[i]? = some o → (R ++ [AO.lst [T4, T5], .lst [.ref 1, T1, T2, T3, T4, T5]])[i]? = some o := fun i o e => by
        rw [List.getElem?_append_left (List.getElem?_eq_some_iff.mp e).1]
        exact e
      simp! [-o_lst, -o_cat, -o_tup, c1, c2, a1, a2, a3, u1, t2, ad]
      refine p_ret (p_o1 (draw_l s3 (by omega) (by omega) (by omega) ?_))
      intro i ys4 i0 i1' s4
      have fin : ∀ v, oIx (.ref (R.length + 2)) (.int i) (AO.lst ys4 :: (R ++ [.lst [T4, T5], .lst [.ref 1, T1, T2, T3, T4, T5]])) = some (v, AO.lst ys4 :: (R ++ [.lst [T4, T5], .lst [.ref 1, T1, T2, T3, T4, T5]])) →
          ((inR 0 v = true ∧ CD l v []) ∨ (inR 1 v = false ∧ CD l v (R ++ [.lst [T4, T5], .lst [.ref 1, T1, T2, T3, T4, T5]]))) →
          Tk (o1K oIx (.ref (R.length + 2)) (.ok (.int i) (AO.lst ys4 :: (R ++ [.lst [T4, T5], .lst [.ref 1, T1, T2, T3, T4, T5]])))) fun w_1 h => Ts (retK [some (.ref 0), some (stsV l), some (.int 0), some (.int d1), some (.int (D : Nat)), some (.ref 2), some w] (.ok w_1 h)) fun r => ∃ v ys4 g, r = .rt v (.lst ys4 :: g) ∧ St (k + 4) ys4 ∧ ((inR 0 v = true ∧ CD l v []) ∨ (inR 1 v = false ∧ CD l v g)) := fun v e c => by
        rw [k_op1, e, k_o, tk_ok, k_ret, ts_rt]
        exact ⟨v, ys4, _, rfl, s4, c⟩
      have ix : ∀ (j : Nat) (v : Va), [Va.ref 1, T1, T2, T3, T4, T5][j]? = some v → i = (j : Nat) → oIx (.ref (R.length + 2)) (.int i) (AO.lst ys4 :: (R ++ [.lst [T4, T5], .lst [.ref 1, T1, T2, T3, T4, T5]])) = some (v, AO.lst ys4 :: (R ++ [.lst [T4, T5], .lst [.ref 1, T1, T2, T3, T4, T5]])) := fun j v e hj => by
        rw [o_ixL, g3, k_ixL, atIn hj, e]
        rfl
      have inO : ∀ (A B : List St3) (w : Va), inR 1 w = false → inR 1 (.tup (A.map stV ++ w :: B.map stV)) = false := fun A B w hw => by
        show inRs 1 (A.map stV ++ w :: B.map stV) = false
        induction A with
        | nil => show (inR 1 w && _) = false; rw [hw]; rfl
        | cons a A ih => show (inR 1 (stV a) && inRs 1 (A.map stV ++ w :: B.map stV)) = false; rw [ih, Bool.and_false]
      have inP : ∀ (A B : List St3) (w : Va), inR 0 w = true → inR 0 (.tup (A.map stV ++ w :: B.map stV)) = true := fun A B w hw => by
        show inRs 0 (A.map stV ++ w :: B.map stV) = true
        induction A with
        | nil =>
          show (inR 0 w && inRs 0 (B.map stV)) = true
          rw [hw, inR_map (fun s => rfl) B]
          rfl
        | cons a A ih => show (inR 0 (stV a) && inRs 0 (A.map stV ++ w :: B.map stV)) = true; rw [ih]; rfl
      have oth : ∀ (A B : List St3) (T : Va), T = .tup (A.map stV ++ w :: B.map stV) → A.length ≤ l.length → B.length ≤ l.length → (∀ s ∈ A, s ∈ l) → (∀ s ∈ B, s ∈ l) →
          ((inR 0 T = true ∧ CD l T []) ∨ (inR 1 T = false ∧ CD l T (R ++ [.lst [T4, T5], .lst [.ref 1, T1, T2, T3, T4, T5]]))) := by
        rintro A B T rfl hA hB h3 h4
        rcases hw with hw | ⟨i, rfl, hi⟩
        · have p0 : inR 0 w = true := by
            unfold L15 at hw
            simp only [List.mem_cons, List.not_mem_nil, or_false] at hw
            rcases hw with rfl | rfl | rfl | rfl | rfl | rfl | rfl | rfl | rfl | rfl | rfl | rfl | rfl | rfl | rfl <;> rfl
          exact .inl ⟨inP A B w p0, .oth A B w rfl hA hB h3 h4 (.inl hw)⟩
        · refine .inr ⟨inO A B _ ?_, .oth A B _ rfl hA hB h3 h4 (.inr ⟨i, rfl, ?_⟩)⟩
          · show Nat.blt (1 + i) 1 = false
            cases hb : Nat.blt (1 + i) 1 with
            | false => rfl
            | true => have := Nat.blt_eq.mp hb; omega
          · rcases hi with hi | hi
            · exact .inl (gi _ _ hi)
            · exact .inr (gi _ _ hi)
      rcases (show i = (0 : Nat) ∨ i = (1 : Nat) ∨ i = (2 : Nat) ∨ i = (3 : Nat) ∨ i = (4 : Nat) ∨ i = (5 : Nat) by omega) with e | e | e | e | e | e
      · exact fin _ (ix 0 _ rfl e) (.inr ⟨rfl, .lst 0 _ rfl (gi _ _ hR0)⟩)
      · refine fin _ (ix 1 _ rfl e) (.inl ⟨by rw [← hT1]; exact inR_sts, .sts _ hT1.symm ?_ ?_⟩)
        · rw [List.length_append, List.length_take, List.length_drop]; omega
        · intro s hs
          rcases List.mem_append.mp hs with h | h
          · exact List.mem_of_mem_take h
          · exact List.mem_of_mem_drop h
      · refine fin _ (ix 2 _ rfl e) (.inl ⟨by rw [← hT2]; exact inR_sts, .sts _ hT2.symm ?_ ?_⟩)
        · rw [List.length_append, List.length_append, List.length_take, List.length_take, List.length_drop]; omega
        · intro s hs
          rcases List.mem_append.mp hs with h | h
          · rcases List.mem_append.mp h with h | h
            · exact List.mem_of_mem_take h
            · exact List.mem_of_mem_drop (List.mem_of_mem_take h)
          · exact List.mem_of_mem_drop h
      · refine fin _ (ix 3 _ rfl e) (.inl ⟨by rw [← hT3]; exact inR_sts, .sts _ hT3.symm ?_ ?_⟩)
        · rw [List.length_reverse]; omega
        · exact fun s hs => List.mem_reverse.mp hs
      · exact fin _ (ix 4 _ rfl e) (oth l [] _ hT4.symm (Nat.le_refl _) (Nat.zero_le _) (fun _ h => h) (fun _ h => nomatch h))
      · exact fin _ (ix 5 _ rfl e) (oth (l.take D) (l.drop (D + 1)) _ (by rw [← hT5]; simp) (by rw [List.length_take]; omega) (by rw [List.length_drop]; omega) (fun _ h => List.mem_of_mem_take h) (fun _ h => List.mem_of_mem_drop h))
    refine p_sq (p_set (call_pr (C := CU) (n := 1) (args := []) s2 rfl (unrel_d s2 (by omega)) ?_))
    intro v g ys3 hc s3
    have go : ∀ (w : Va) (R : AH), R[0]? = some (.lst (l.map stV)) → R[1]? = some (.lst [.ref 1, stsV (l.take D ++ l.drop (D + 1)), stsV (l.take D ++ (l.drop D).take 1 ++ l.drop D), stsV l.reverse]) → (w ∈ L15 ∨ ∃ i, w = .ref (1 + i) ∧ (R[i]? = some (.lst []) ∨ R[i]? = some (.dct []))) → _ := fun w R h1 h2 h3 => RET w ys3 R s3 h1 h2 h3
    have fin : ∀ (r : SR), (∃ v ys4 g, r = .rt v (.lst ys4 :: g) ∧ St (k + 4) ys4 ∧ ((inR 0 v = true ∧ CD l v []) ∨ (inR 1 v = false ∧ CD l v g))) → Ts (sqK (sSeq DM3 DM4) r) (fun r => Tk (gcF [AO.lst xs].length (endF r)) fun v h => ∃ g ys, CD l v g ∧ St (k + 4) ys ∧ h = AO.lst ys :: g) := by
      rintro r ⟨v, ys4, g, rfl, s4, ⟨hv, hc⟩ | ⟨hv, hc⟩⟩
      · rw [k_seqR, ts_rt, k_endR]
        show Tk (gcF 1 _) _
        rw [gc1 hv (st_plain s4).1]
        exact Tk.ok ⟨[], ys4, hc, s4, rfl⟩
      · rw [k_seqR, ts_rt, k_endR]
        show Tk (gcF 1 _) _
        rw [show gcF 1 (.ok v (.lst ys4 :: g)) = .ok v (.lst ys4 :: g) by simp [gcF, hv]]
        exact Tk.ok ⟨g, ys4, hc, s4, rfl⟩
    rcases hc with ⟨hv, rfl⟩ | ⟨hv, rfl⟩
    · have p0 : inR 0 v = true := by
        unfold L15 at hv
        simp only [List.mem_cons, List.not_mem_nil, or_false] at hv
        rcases hv with rfl | rfl | rfl | rfl | rfl | rfl | rfl | rfl | rfl | rfl | rfl | rfl | rfl | rfl | rfl <;> rfl
      have eb : ∀ f, bk f v = v := fun f => by unfold bk; rw [if_pos p0]
      rw [eb, k_set, ts_nx, k_seqN]
      exact ts_impK (go v [AO.lst (l.map stV), AO.lst [.ref 1, stsV (l.take D ++ l.drop (D + 1)), stsV (l.take D ++ (l.drop D).take 1 ++ l.drop D), stsV l.reverse]] rfl rfl (.inl hv)) fin
    · rcases hv with rfl | rfl
      · rw [k_set, ts_nx, k_seqN]
        exact ts_impK (go (.ref 3) ([AO.lst (l.map stV), AO.lst [.ref 1, stsV (l.take D ++ l.drop (D + 1)), stsV (l.take D ++ (l.drop D).take 1 ++ l.drop D), stsV l.reverse]] ++ ([.lst [], .dct [], .lst L17] : AH).map (mapRO (sh1 3 0))) rfl rfl (.inr ⟨2, rfl, .inl rfl⟩)) fin
      · rw [k_set, ts_nx, k_seqN]
        exact ts_impK (go (.ref 4) ([AO.lst (l.map stV), AO.lst [.ref 1, stsV (l.take D ++ l.drop (D + 1)), stsV (l.take D ++ (l.drop D).take 1 ++ l.drop D), stsV l.reverse]] ++ ([.lst [], .dct [], .lst L17] : AH).map (mapRO (sh1 3 0))) rfl rfl (.inr ⟨3, rfl, .inr rfl⟩)) fin
  cases b with
  | true =>
    simp! [-s_seq, -o_tup, u0, i1, hb, d0]
    exact e1
  | false =>
    simp! [-s_seq, -o_tup, u0, i1, hb, d0]
    exact e1
end
end FL

set_option linter.all false
set_option maxRecDepth 100000
set_option maxHeartbeats 8000000
namespace FL
open PySem PySem.Spec PyProof.Rows L2
/-! switching_from_steps of bad sizes and of bad steps; _law_errors_right -/
def odd4 : List Va := [.non, .bl true, .int 0, .int 1, .int 11, .str "3", .tup [.int 3], .ref 1, .ref 2, .int (10 ^ 30)]
section
variable {n k : Nat} {xs : List Va} {l : List St3} {H : AH} {w X : Va}
theorem sfs_num (hq : Down (BadI 2 10) H w) : callL m_switching_from_steps [w, X] H = .exc "InvalidNumber" [("value", w)] H := by
  refine callG1 hq (List.mem_cons_self ..) fun g H' hg q => ?_
  have q : callL m_is_integer [g w, .int 2, .int 10] H' = .ok (.bl false) H' := q
  show m_switching_from_steps [g w, g X] H' = _
  unfold m_switching_from_steps
  rw [s_fn (by rfl)]
  unfold b_switching_from_steps
  simp! [List.replicate, q]
  rfl
theorem odd_bad (hw : w ∈ odd4) (h1 : H[1]? = some (.lst [])) (h2 : H[2]? = some (.dct [])) : Down (BadI 2 10) H w := by
  unfold odd4 at hw
  simp only [List.mem_cons, List.not_mem_nil, or_false] at hw
  rcases hw with rfl | rfl | rfl | rfl | rfl | rfl | rfl | rfl | rfl | rfl
  · exact badI_fr rfl (by rfl) H
  · exact badI_fr rfl (by rfl) H
  · exact badI_fr rfl is_int H
  · exact badI_fr rfl is_int H
  · exact badI_fr rfl is_int H
  · exact badI_fr rfl (by rfl) H
  · exact badI_fr rfl (by rfl) H
  · exact badI_ref (.inl h1)
  · exact badI_ref (.inr h2)
  · exact badI_fr rfl (by rw [is_int]; rfl) H
theorem add_rp {d : PyData} (x : Str) (e : (d.canLay0 && decide (x.length + lenB d ≤ lim)) = true) (H : AH) : oAddR (.str x) (.rp d) H = some (.str (x ++ d.shown), H) := if_pos e
theorem add_st {y : Str} (x : Str) (e : x.length + y.length ≤ lim) (H : AH) : oAddR (.str x) (.str y) H = some (.str (x ++ y), H) := if_pos e
theorem word4 (hw : w ∈ odd4) : ∃ (r : Va) (s : Str), (∀ H : AH, H[1]? = some (.lst []) → H[2]? = some (.dct []) → oReprN [w] H = some (r, H)) ∧ (∀ H : AH, oAddR (.str "number ") r H = some (.str s, H)) ∧ SeqAt.shaped (.list [.str s, .str s, .str "steps"]) = true := by
  unfold odd4 at hw
  simp only [List.mem_cons, List.not_mem_nil, or_false] at hw
  rcases hw with rfl | rfl | rfl | rfl | rfl | rfl | rfl | rfl | rfl | rfl
  · exact ⟨.rp .none, "number " ++ PyData.shown .none, fun H _ _ => repr_of (by rfl) (by decide +kernel), add_rp _ (by decide +kernel), by decide +kernel⟩
  · exact ⟨.rp (.bool true), "number " ++ PyData.shown (.bool true), fun H _ _ => repr_of (by rfl) (by decide +kernel), add_rp _ (by decide +kernel), by decide +kernel⟩
  · exact ⟨.rp (.int 0), "number " ++ PyData.shown (.int 0), fun H _ _ => repr_of (by rfl) (by decide +kernel), add_rp _ (by decide +kernel), by decide +kernel⟩
  · exact ⟨.rp (.int 1), "number " ++ PyData.shown (.int 1), fun H _ _ => repr_of (by rfl) (by decide +kernel), add_rp _ (by decide +kernel), by decide +kernel⟩
  · exact ⟨.rp (.int 11), "number " ++ PyData.shown (.int 11), fun H _ _ => repr_of (by rfl) (by decide +kernel), add_rp _ (by decide +kernel), by decide +kernel⟩
  · exact ⟨.rp (.str "3"), "number " ++ PyData.shown (.str "3"), fun H _ _ => repr_of (by rfl) (by decide +kernel), add_rp _ (by decide +kernel), by decide +kernel⟩
  · exact ⟨.rp (.tuple [.int 3]), "number " ++ PyData.shown (.tuple [.int 3]), fun H _ _ => repr_of (by rfl) (by decide +kernel), add_rp _ (by decide +kernel), by decide +kernel⟩
  · exact ⟨.rp (.list []), "number " ++ PyData.shown (.list []), fun H h1 _ => repr_of (by rw [show depthL = (depthL - 1) + 1 from rfl, toPy, h1]; rfl) (by decide +kernel), add_rp _ (by decide +kernel), by decide +kernel⟩
  · exact ⟨.str "{}", "number " ++ "{}", fun H _ h2 => by show (if isDct0 H (.ref 2) = true then some (Va.str "{}", H) else _) = _; rw [if_pos (by simp [isDct0, h2])], add_st _ (by decide +kernel), by decide +kernel⟩
  · exact ⟨.rp (.int (10 ^ 30)), "number " ++ PyData.shown (.int (10 ^ 30)), fun H _ _ => repr_of (by rfl) (by decide +kernel), add_rp _ (by decide +kernel), by decide +kernel⟩
theorem out_num {e : EF} {ev : Ev} {h1 : AH} {r : Va} {s : Str} (q : e ev h1 = .exc "InvalidNumber" [("value", w)] h1) (e1 : oReprN [w] h1 = some (r, h1)) (e2 : oAddR (.str "number ") r h1 = some (.str s, h1)) : eLam m__law_outcome e ev h1 = .ok (.str s) h1 := by
  rw [s_lam4, q]
  show okOnly (h__law_outcome "InvalidNumber" [("value", w)] h1) = _
  have : h__law_outcome "InvalidNumber" [("value", w)] h1 = resN "number " w h1 := by
    show on1 "value" (resN "number ") [("value", w)] h1 = _
    exact on1_at
  rw [this]
  unfold resN
  simp only [e1, e2]
  rfl
/-! the bad steps -/
theorem notT_x (hw : inR 0 X = true) (i : ∀ h, isiK "tuple" (.ok X h) = .ok (.bl false) h) (h2 : 2 ≤ n) (hn : n ≤ 10) : callL m_switching_from_steps [.int (n : Nat), X] H = .exc "InvalidSteps" [] H := by
  refine loc0X0 ?_ (refs_cons rfl (refs_cons hw rfl))
  have d1 : decide ((2 : Int) ≤ ((n : Nat) : Int)) = true := decide_eq_true (by omega)
  have d2 : decide (((n : Nat) : Int) ≤ 10) = true := decide_eq_true (by omega)
  unfold m_switching_from_steps
  rw [s_fn (by rfl)]
  unfold b_switching_from_steps
  simp! [List.replicate, is_int_l, d1, d2, Bool.and_self, i]
  rfl
theorem notT_r {a : Nat} (r : Ls H a) (h2 : 2 ≤ n) (hn : n ≤ 10) : callL m_switching_from_steps [.int (n : Nat), .ref a] H = .exc "InvalidSteps" [] H := by
  have d1 : decide ((2 : Int) ≤ ((n : Nat) : Int)) = true := decide_eq_true (by omega)
  have d2 : decide (((n : Nat) : Int) ≤ 10) = true := decide_eq_true (by omega)
  refine callT0 (Q := fun H w => ∃ a, w = .ref a ∧ Ls H a) (w := .ref a) ?_ ⟨a, rfl, r⟩ (by simp) fun g H' hg q => ?_
  · rintro H w ⟨a, rfl, r⟩
    refine ⟨fun z => (by cases z), fun l xs hx hc hl => ⟨0, rfl, Ls.one hx (hl a (List.mem_singleton.mpr rfl))⟩⟩
  · obtain ⟨b, hb, rb⟩ := q
    have i := rb.isi (T := "tuple") (by decide) (by decide)
    have gn : g (.int (n : Nat)) = .int (n : Nat) := hg _ rfl
    show m_switching_from_steps [g (.int (n : Nat)), g (.ref a)] H' = _
    rw [gn, hb]
    unfold m_switching_from_steps
    rw [s_fn (by rfl)]
    unfold b_switching_from_steps
    simp! [List.replicate, is_int_l, d1, d2, Bool.and_self, i]
    rfl
end
end FL

set_option linter.all false
set_option maxRecDepth 100000
set_option maxHeartbeats 8000000
namespace FL
open PySem PySem.Spec PyProof.Rows L2
/-! switching_from_steps of steps of which one is none -/
theorem comp_ml4 {α : Type} {gsl : List (Nat × List Va)} {gf : GF} {f : EF} {ev : Ev} {h : AH} {g ψ : α → Va} (hgs : gsOk gsl h = true) : ∀ ys : List α, (∀ x ∈ ys, ∃ ev1, gf (g x) ev = some ev1 ∧ f ev1 h = .ok (ψ x) h) → compF gsl gf tYesF f ev (ys.map g) h = .ok (ys.map ψ) h
  | [], _ => s_cpN hgs
  | x :: ys, hq => by
    obtain ⟨ev1, g1, g2⟩ := hq x (List.mem_cons_self ..)
    have ih := comp_ml4 hgs ys fun y hy => hq y (List.mem_cons_of_mem _ hy)
    rw [List.map_cons, s_cpC hgs, g1, k_cp]
    show cp1K _ _ _ _ _ _ _ (.ok true h) = _
    rw [k_cpT, g2, k_cp2, ih, k_cp3]
    rfl
def bad4 (n : Nat) : List Va := [.tup [.int 0, .int 0, .int 1], .tup [.int 0, .int (n : Nat), .int 1], .tup [.int (-1), .int 0, .int 1], .tup [.int 0, .int 1, .int 0], .tup [.int 0, .int 1], .tup [.int 0, .int 1, .int 1001], .tup [.int 0, .bl true, .int 1], .tup [.int 0, .int 1, .bl true], .tup [.int 0, .int 1, .non], .non]
section
variable {n k : Nat} {xs : List Va} {A B : List St3} {H : AH} {w x : Va}
theorem is_int_bl {b : Bool} {lo hi : Int} {h : AH} : callL m_is_integer [.bl b, .int lo, .int hi] h = .ok (.bl false) h := loc0 (by rfl) rfl rfl
theorem is_int_nl {lo hi : Int} {h : AH} : callL m_is_integer [.non, .int lo, .int hi] h = .ok (.bl false) h := loc0 is_int_n rfl rfl
theorem step_bad (hx : x ∈ bad4 n) (h2 : 2 ≤ n) : callL m_is_step [x, .int (n : Nat)] H = .ok (.bl false) H := by
  obtain ⟨m1, hm1⟩ : ∃ m : Int, m = -1 := ⟨_, rfl⟩
  have l3 : ∀ (a b c : Va) (h : AH), oLen [.tup [a, b, c]] h = some (.int 3, h) := fun _ _ _ _ => rfl
  have d8 : decide ((3 : Int) = 3) = true := rfl
  have b0 : decide ((0 : Int) ≤ ((n : Nat) : Int) - 1) = true := decide_eq_true (by omega)
  have b1 : decide ((1 : Int) ≤ ((n : Nat) : Int) - 1) = true := decide_eq_true (by omega)
  have b2 : decide ((0 : Int) ≤ ((n : Nat) : Int)) = true := decide_eq_true (by omega)
  have b3 : decide (((n : Nat) : Int) ≤ ((n : Nat) : Int) - 1) = false := decide_eq_false (by omega)
  have b4 : decide ((0 : Int) ≤ m1) = false := decide_eq_false (by omega)
  have q0 : decide ((0 : Int) ≤ 0) = true := rfl
  have q1 : decide ((0 : Int) ≤ 1) = true := rfl
  have q2 : decide ((0 : Int) = 0) = true := rfl
  have q3 : decide ((0 : Int) = 1) = false := rfl
  have q4 : decide ((1 : Int) ≤ 0) = false := rfl
  have q5 : decide ((1 : Int) ≤ 1001) = true := rfl
  have q6 : decide ((1001 : Int) ≤ 1000) = false := rfl
  have q7 : decide ((2 : Int) = 3) = false := rfl
  have q8 : decide ((0 : Int) ≤ 1000) = true := rfl
  have l2 : ∀ (a b : Va) (h : AH), oLen [.tup [a, b]] h = some (.int 2, h) := fun _ _ _ => rfl
  have nb : ∀ h : AH, oNe2 (.int 0) (.bl true) h = some (.bl true, h) := fun h => rfl
  unfold bad4 at hx
  rw [← hm1] at hx
  simp only [List.mem_cons, List.not_mem_nil, or_false] at hx
  rcases hx with rfl | rfl | rfl | rfl | rfl | rfl | rfl | rfl | rfl | rfl <;> refine loc0 ?_ rfl rfl <;> (unfold m_is_step; rw [s_fn (by rfl)]; unfold b_is_step; simp! [List.replicate, l3, l2, d8, is_int_l, is_int_bl, is_int_nl, b0, b1, b2, b3, b4, q0, q1, q2, q3, q4, q5, q6, q7, q8, nb, Bool.and_self, Bool.and_true, Bool.true_and, Bool.and_false, Bool.false_and]) <;> rfl
theorem step_ref {a : Nat} (r : ∃ xs, H[a]? = some (.lst xs) ∧ inRs 0 xs = true) : callL m_is_step [.ref a, .int (n : Nat)] H = .ok (.bl false) H := by
  obtain ⟨xs, r, hx⟩ := r
  refine loc1K (n := 0) (k := a) (xs := xs) rfl (by unfold lstAt; rw [r]) hx rfl ?_ rfl
  have i : ∀ h, isiK "tuple" (.ok (.ref 0) (AO.lst xs :: h)) = .ok (.bl false) (AO.lst xs :: h) := fun h => isi_ref (by decide) (by decide) (.inl ⟨xs, rfl⟩)
  show m_is_step [.ref 0, .int (n : Nat)] [AO.lst xs] = _
  unfold m_is_step
  rw [s_fn (by rfl)]
  unfold b_is_step
  simp! [List.replicate, i]
  exact gc1 rfl hx
theorem sfs_tup (h2 : 2 ≤ n) (hn : n ≤ 10) (hA : ∀ s ∈ A, StOk n s) (hB : ∀ s ∈ B, StOk n s) (hl : A.length + B.length ≤ 800) (hx : callL m_is_step [x, .int (n : Nat)] H = .ok (.bl false) H) :
    ∃ t, m_switching_from_steps [.int (n : Nat), .tup (A.map stV ++ x :: B.map stV)] H = .exc "InvalidSteps" [] (H ++ t) := by
  have hlim : lim = 1000000 := rfl
  let ys : List (Va × Bool) := A.map (fun s => (stV s, true)) ++ (x, false) :: B.map (fun s => (stV s, true))
  have hys : A.map stV ++ x :: B.map stV = ys.map (·.1) := by
    show _ = List.map _ (_ ++ _ :: _)
    rw [List.map_append, List.map_cons, List.map_map, List.map_map]
    rfl
  have d1 : decide ((2 : Int) ≤ ((n : Nat) : Int)) = true := decide_eq_true (by omega)
  have d2 : decide (((n : Nat) : Int) ≤ 10) = true := decide_eq_true (by omega)
  have i1 : ∀ h, isiK "tuple" (.ok (.tup (ys.map (·.1))) h) = .ok (.bl true) h := fun h => i_tt
  have e6 : (ys.map (·.1)).length < lim := by rw [← hys, List.length_append, List.length_cons, List.length_map, List.length_map]; omega
  have e4 : compF [] (gNm 5) tYesF (eCall [] (callL m_is_step) (aCons (eVar 5) (aCons (eVar 0) (aNil)))) [some (.int (n : Nat)), some (.tup (ys.map (·.1))), none, none, none, none] (ys.map (·.1)) H = .ok (ys.map fun p => .bl p.2) H :=
    comp_ml4 (g := (·.1)) (ψ := fun p : Va × Bool => Va.bl p.2) rfl ys fun p hp => by
      refine ⟨[some (.int (n : Nat)), some (.tup (ys.map (·.1))), none, none, none, some p.1], rfl, ?_⟩
      rcases List.mem_append.mp hp with h | h
      · obtain ⟨s, hs, rfl⟩ := List.mem_map.mp h
        simp_all! [step_l (hA s hs)]
      · rcases List.mem_cons.mp h with rfl | h
        · simp_all! [hx]
        · obtain ⟨s, hs, rfl⟩ := List.mem_map.mp h
          simp_all! [step_l (hB s hs)]
  have ew : ewipe [some (.int (n : Nat)), some (.tup (ys.map (·.1))), none, none, none, none] [5] = [some (.int (n : Nat)), some (.tup (ys.map (·.1))), none, none, none, none] := rfl
  have cT : ∀ h : AH, srcOf (.tup (ys.map (·.1))) h = some ⟨ys.map (·.1), []⟩ := fun _ => rfl
  have al : allB (ys.map fun p => Va.bl p.2) = some (ys.map (·.2)) := allB_map _
  have af : (ys.map (·.2)).all id = false := by
    rw [List.all_eq_false]
    exact ⟨false, List.mem_map.mpr ⟨(x, false), List.mem_append_right _ (List.mem_cons_self ..), rfl⟩, by decide⟩
  refine ⟨[.lst (ys.map fun p => Va.bl p.2)], ?_⟩
  rw [hys]
  unfold m_switching_from_steps
  rw [s_fn (by rfl)]
  unfold b_switching_from_steps
  simp_all! [List.replicate, is_int_l, d1, d2, Bool.and_self, i1, cT]
  rw [k_lc e6, ew, e4]
  simp_all! [lstAt_end, al, af]
  rfl
theorem inR_mid (h : inR 0 x = true) : inR 0 (.tup (A.map stV ++ x :: B.map stV)) = true := by
  show inRs 0 _ = true
  induction A with
  | nil => show (inR 0 x && inRs 0 (B.map stV)) = true; rw [h, inR_map (fun s => rfl) B]; rfl
  | cons a A ih => show (inR 0 (stV a) && inRs 0 (A.map stV ++ x :: B.map stV)) = true; rw [ih]; rfl
theorem refs_mid {a : Nat} : refsOf (.tup (A.map stV ++ .ref a :: B.map stV)) = [a] := by
  have e : ∀ C : List St3, refsOfs (C.map stV) = [] := fun C => inRs_free (inR_map (fun s => rfl) C)
  show refsOfs _ = _
  induction A with
  | nil => show a :: refsOfs (B.map stV) = [a]; rw [e]
  | cons s A ih => show refsOf (stV s) ++ refsOfs (A.map stV ++ .ref a :: B.map stV) = [a]; rw [ih]; rfl
theorem map_mid {a : Nat} {f : Nat → Nat} : mapR f (.tup (A.map stV ++ .ref a :: B.map stV)) = .tup (A.map stV ++ .ref (f a) :: B.map stV) := by
  have e : ∀ C : List St3, (C.map stV).map (mapR f) = C.map stV := fun C => by
    rw [List.map_map]
    apply List.map_congr_left
    intro s _
    exact mapR_fr rfl
  rw [mapR, mapRs_map, List.map_append, List.map_cons, e, e]
  rfl
/-- what is drawn as bad steps, at its place -/
inductive BadX (n : Nat) (H : AH) (X : Va) : Prop
  | pl (h1 : inR 0 X = true) (h2 : ∀ h, isiK "tuple" (.ok X h) = .ok (.bl false) h)
  | rf (a : Nat) (h1 : X = .ref a) (h2 : Ls H a)
  | tp (A B : List St3) (x : Va) (h1 : X = .tup (A.map stV ++ x :: B.map stV)) (h2 : ∀ s ∈ A, StOk n s) (h3 : ∀ s ∈ B, StOk n s) (h4 : A.length + B.length ≤ 800) (h5 : x ∈ bad4 n)
  | tr (A B : List St3) (a : Nat) (h1 : X = .tup (A.map stV ++ .ref a :: B.map stV)) (h2 : ∀ s ∈ A, StOk n s) (h3 : ∀ s ∈ B, StOk n s) (h4 : A.length + B.length ≤ 800) (h5 : H[a]? = some (.lst [.int 0, .int 1, .int 1]))
theorem sfs_badx (h2 : 2 ≤ n) (hn : n ≤ 10) {X : Va} (b : BadX n H X) : ∃ t, callL m_switching_from_steps [.int (n : Nat), X] H = .exc "InvalidSteps" [] (H ++ t) := by
  cases b with
  | pl h1 h2' => exact ⟨[], by rw [notT_x h1 h2' h2 hn, List.append_nil]⟩
  | rf a h1 h2' => subst h1; exact ⟨[], by rw [notT_r h2' h2 hn, List.append_nil]⟩
  | tp A B x h1 h2' h3 h4 h5 =>
    subst h1
    obtain ⟨t, e⟩ := sfs_tup (H := []) h2 hn h2' h3 h4 (step_bad h5 h2)
    refine loc0XE e (refs_cons rfl (refs_cons ?_ rfl))
    have p0 : inR 0 x = true := by
      unfold bad4 at h5
      simp only [List.mem_cons, List.not_mem_nil, or_false] at h5
      rcases h5 with rfl | rfl | rfl | rfl | rfl | rfl | rfl | rfl | rfl | rfl <;> rfl
    exact inR_mid p0
  | tr A B a h1 h2' h3 h4 h5 =>
    subst h1
    obtain ⟨t, e⟩ := sfs_tup (x := .ref 0) (H := [.lst [.int 0, .int 1, .int 1]]) h2 hn h2' h3 h4 (step_ref ⟨_, rfl, rfl⟩)
    have e0 : refsOfs [.int (n : Nat), .tup (A.map stV ++ .ref a :: B.map stV)] = [a] := by
      show [] ++ (refsOf _ ++ []) = _
      rw [refs_mid]
      rfl
    have em : mapRs (fun _ => 0) [.int (n : Nat), .tup (A.map stV ++ .ref a :: B.map stV)] = [.int (n : Nat), .tup (A.map stV ++ .ref 0 :: B.map stV)] := by
      show [_, mapR _ _] = _
      rw [map_mid]
      rfl
    refine ⟨t.map (mapRO (sh1 H.length a)), ?_⟩
    unfold callL
    rw [e0]
    simp only [List.all_nil, if_true, h5]
    rw [if_pos (by rfl), em, e]
    show Rs.exc "InvalidSteps" [] (H.set a (.lst [.int 0, .int 1, .int 1]) ++ t.map (mapRO (sh1 H.length a))) = _
    rw [set_sm (by unfold lstAt; rw [h5])]
end
end FL

set_option linter.all false
set_option maxRecDepth 100000
set_option maxHeartbeats 8000000
namespace FL
open PySem PySem.Spec PyProof.Rows L2
/-! _law_errors_right -/
def ER0 : SF := (sSet 3 (eOp oIx (eAp oLst (aCons (eC .non) (aCons (eC (.bl true)) (aCons (eC (.int 0)) (aCons (eC (.int 1)) (aCons (eC (.int 11)) (aCons (eC (.str "3")) (aCons (eAp oTup (aCons (eC (.int 3)) (aNil))) (aCons (eAp oLst (aNil)) (aCons (eD0) (aCons (eOp oPow (eC (.int 10)) (eC (.int 30))) (aNil)))))))))))) (eCall [] (callL m__law_draw) (aCons (eVar 0) (aCons (eC (.int 10)) (aNil))))))
def ER1 : SF := (sSet 4 (eAp oLst (aCons (eC .non) (aCons (eAp oList (aCons (eVar 2) (aNil))) (aCons (eD0) (aCons (eC (.int 7)) (aCons (eC (.str "steps")) (aCons (eAp oTup (aCons (eAp oTup (aCons (eC (.int 0)) (aCons (eC (.int 0)) (aCons (eC (.int 1)) (aNil))))) (aNil))) (aCons (eAp oTup (aCons (eAp oTup (aCons (eC (.int 0)) (aCons (eVar 1) (aCons (eC (.int 1)) (aNil))))) (aNil))) (aCons (eAp oTup (aCons (eAp oTup (aCons (eUn oNeg (eC (.int 1))) (aCons (eC (.int 0)) (aCons (eC (.int 1)) (aNil))))) (aNil))) (aCons (eAp oTup (aCons (eAp oTup (aCons (eC (.int 0)) (aCons (eC (.int 1)) (aCons (eC (.int 0)) (aNil))))) (aNil))) (aCons (eAp oTup (aCons (eAp oTup (aCons (eC (.int 0)) (aCons (eC (.int 1)) (aNil)))) (aNil))) (aNil)))))))))))))
def ER2 : SF := (sSet 4 (eOp oAdd (eVar 4) (eAp oLst (aCons (eAp oTup (aCons (eAp oTup (aCons (eC (.int 0)) (aCons (eC (.int 1)) (aCons (eC (.int 1001)) (aNil))))) (aNil))) (aCons (eAp oTup (aCons (eAp oTup (aCons (eC (.int 0)) (aCons (eC (.bl true)) (aCons (eC (.int 1)) (aNil))))) (aNil))) (aCons (eAp oTup (aCons (eAp oTup (aCons (eC (.int 0)) (aCons (eC (.int 1)) (aCons (eC (.bl true)) (aNil))))) (aNil))) (aCons (eAp oTup (aCons (eAp oTup (aCons (eC (.int 0)) (aCons (eC (.int 1)) (aCons (eC .non) (aNil))))) (aNil))) (aCons (eAp oTup (aCons (eC .non) (aNil))) (aCons (eAp oTup (aCons (eAp oLst (aCons (eC (.int 0)) (aCons (eC (.int 1)) (aCons (eC (.int 1)) (aNil))))) (aNil))) (aNil))))))))))
def ER3 : SF := (sSet 5 (eOp oIx (eVar 4) (eCall [] (callL m__law_draw) (aCons (eVar 0) (aCons (eC (.int 16)) (aNil))))))
def ER4 : SF := (sIf (tB (eIsi "tuple" (eVar 5))) (sSeq (sSet 7 (eCall [] (callL m__law_draw) (aCons (eVar 0) (aCons (eOp oAdd (eAp oLen (aCons (eVar 2) (aNil))) (eC (.int 1))) (aNil))))) (sSet 5 (eOp oAdd (eOp oAdd (eSl (eVar 2) (lNone) (lSome (eVar 7))) (eVar 5)) (eSl (eVar 2) (lSome (eVar 7)) (lNone))))) (sNil))
def ER5 : SF := (sSet 6 (eAp oLst (aCons (eLam m__law_outcome (eCall [] (callL m_switching_from_steps) (aCons (eVar 3) (aCons (eVar 5) (aNil))))) (aNil))))
def ER6 : SF := (sExpr (eM (eVar 6) (aCons (eLam m__law_outcome (eCall [] (callL m_switching_from_steps) (aCons (eVar 3) (aCons (eVar 2) (aNil))))) (aNil)) oAppend))
def ER7 : SF := (sExpr (eM (eVar 6) (aCons (eLam m__law_outcome (eCall [] (callL m_switching_from_steps) (aCons (eVar 1) (aCons (eVar 5) (aNil))))) (aNil)) oAppend))
def ER8 : SF := (sRet (eOp oEq2 (eVar 6) (eOp oAdd (eOp oMul2 (eAp oLst (aCons (eOp oAddR (eC (.str "number ")) (eAp oReprN (aCons (eVar 3) (aNil)))) (aNil))) (eC (.int 2))) (eAp oLst (aCons (eC (.str "steps")) (aNil))))))
theorem ER_is : b__law_errors_right = sSeq ER0 (sSeq ER1 (sSeq ER2 (sSeq ER3 (sSeq ER4 (sSeq ER5 (sSeq ER6 (sSeq ER7 ER8))))))) := rfl
section
variable {n k : Nat} {xs : List Va} {l : List St3} {H : AH} {w x : Va}
def LB (n : Nat) : List Va := [.non, .ref 4, .ref 5, .int 7, .str "steps", .tup [.tup [.int 0, .int 0, .int 1]], .tup [.tup [.int 0, .int (n : Nat), .int 1]], .tup [.tup [.int (-1), .int 0, .int 1]], .tup [.tup [.int 0, .int 1, .int 0]], .tup [.tup [.int 0, .int 1]]]
def LC4 : List Va := [.tup [.tup [.int 0, .int 1, .int 1001]], .tup [.tup [.int 0, .bl true, .int 1]], .tup [.tup [.int 0, .int 1, .bl true]], .tup [.tup [.int 0, .int 1, .non]], .tup [.non], .tup [.ref 7]]
/-- the objects behind the stream -/
def GE (n : Nat) (l : List St3) : AH := [.lst [], .dct [], .lst odd4, .lst (l.map stV), .dct [], .lst (LB n), .lst [.int 0, .int 1, .int 1], .lst LC4, .lst (LB n ++ LC4)]
theorem er0 {e4 e5 e6 e7 : Option Va} (hs : St k xs) (hk : k ≤ 100000) : Ts (ER0 [some (.ref 0), some (.int (n : Nat)), some (stsV l), none, e4, e5, e6, e7] [.lst xs]) (fun r => ∃ v ys, r = .nx [some (.ref 0), some (.int (n : Nat)), some (stsV l), some v, e4, e5, e6, e7] [.lst ys, .lst [], .dct [], .lst odd4] ∧ v ∈ odd4 ∧ St (k + 1) ys) := by
  obtain ⟨B, hB⟩ : ∃ m : Int, m = 10 ^ 30 := ⟨_, rfl⟩
  have pB : ∀ h : AH, oPow (.int 10) (.int 30) h = some (.int B, h) := fun h => by
    show (if (decide ((0 : Int) ≤ 30) && decide ((30 : Int) ≤ 1000) && decide ((10 : Int).natAbs.log2 < 100000)) = true then some (Va.int ((10 : Int) ^ (30 : Int).toNat), h) else none) = _
    rw [if_pos (by decide +kernel), hB]
    rfl
  have t0 : ∀ h : AH, oLst [] h = some (.ref h.length, h ++ [.lst []]) := fun _ => rfl
  have u1 : ∀ (x : Va) (h : AH), oTup [x] h = some (.tup [x], h) := fun _ _ => rfl
  have t10 : ∀ (x1 x2 x3 x4 x5 x6 x7 x8 x9 x10 : Va) (h : AH), oLst [x1, x2, x3, x4, x5, x6, x7, x8, x9, x10] h = some (.ref h.length, h ++ [.lst [x1, x2, x3, x4, x5, x6, x7, x8, x9, x10]]) := fun _ _ _ _ _ _ _ _ _ _ _ => rfl
  have e0 : ∀ (ev : Ev) (h : AH), eD0 ev h = .ok (.ref h.length) (h ++ [.dct []]) := fun _ _ => rfl
  have ho : odd4 = [.non, .bl true, .int 0, .int 1, .int 11, .str "3", .tup [.int 3], .ref 1, .ref 2, .int B] := by rw [hB]; rfl
  rw [ho]
  unfold ER0
  simp! [-o_lst, -o_tup, pB, t0, t10, u1, e0]
  refine p_set (p_o1 (draw_l hs (by omega) (by omega) (by omega) ?_))
  intro i y2 h0 h1 s2
  obtain ⟨w, hw, ew⟩ := pick_m (h := [.lst y2, .lst [], .dct [], .lst [.non, .bl true, .int 0, .int 1, .int 11, .str "3", .tup [.int 3], .ref 1, .ref 2, .int B]]) (k := 3) rfl h0 (by simpa using h1)
  rw [k_op1]
  show Tk (ofO (oIx (.ref 3) (.int i) [.lst y2, .lst [], .dct [], .lst [.non, .bl true, .int 0, .int 1, .int 11, .str "3", .tup [.int 3], .ref 1, .ref 2, .int B]])) _
  rw [ew]
  simp! [ts_nx]
  exact Tk.ok ⟨w, y2, rfl, hw, s2⟩
theorem er12 {v : Va} {e5 e6 e7 : Option Va} (hs : St k xs) : sSeq ER1 ER2 [some (.ref 0), some (.int (n : Nat)), some (stsV l), some v, none, e5, e6, e7] [.lst xs, .lst [], .dct [], .lst odd4] = .nx [some (.ref 0), some (.int (n : Nat)), some (stsV l), some v, some (.ref 9), e5, e6, e7] (.lst xs :: GE n l) := by
  unfold GE
  generalize odd4 = O
  obtain ⟨m1, hm1⟩ : ∃ m : Int, m = -1 := ⟨_, rfl⟩
  have g1 : ∀ h : AH, oNeg (.int 1) h = some (.int m1, h) := fun h => by rw [hm1]; rfl
  have u1 : ∀ (x : Va) (h : AH), oTup [x] h = some (.tup [x], h) := fun _ _ => rfl
  have u2 : ∀ (x y : Va) (h : AH), oTup [x, y] h = some (.tup [x, y], h) := fun _ _ _ => rfl
  have u3 : ∀ (x y z : Va) (h : AH), oTup [x, y, z] h = some (.tup [x, y, z], h) := fun _ _ _ _ => rfl
  have t3 : ∀ (x1 x2 x3 : Va) (h : AH), oLst [x1, x2, x3] h = some (.ref h.length, h ++ [.lst [x1, x2, x3]]) := fun _ _ _ _ => rfl
  have t6 : ∀ (x1 x2 x3 x4 x5 x6 : Va) (h : AH), oLst [x1, x2, x3, x4, x5, x6] h = some (.ref h.length, h ++ [.lst [x1, x2, x3, x4, x5, x6]]) := fun _ _ _ _ _ _ _ => rfl
  have t10 : ∀ (x1 x2 x3 x4 x5 x6 x7 x8 x9 x10 : Va) (h : AH), oLst [x1, x2, x3, x4, x5, x6, x7, x8, x9, x10] h = some (.ref h.length, h ++ [.lst [x1, x2, x3, x4, x5, x6, x7, x8, x9, x10]]) := fun _ _ _ _ _ _ _ _ _ _ _ => rfl
  have e0 : ∀ (ev : Ev) (h : AH), eD0 ev h = .ok (.ref h.length) (h ++ [.dct []]) := fun _ _ => rfl
  have ll : ∀ h : AH, oList [stsV l] h = some (.ref h.length, h ++ [.lst (l.map stV)]) := fun h => rfl
  have hb : LB n = [.non, .ref 4, .ref 5, .int 7, .str "steps", .tup [.tup [.int 0, .int 0, .int 1]], .tup [.tup [.int 0, .int (n : Nat), .int 1]], .tup [.tup [.int m1, .int 0, .int 1]], .tup [.tup [.int 0, .int 1, .int 0]], .tup [.tup [.int 0, .int 1]]] := by rw [hm1]; rfl
  rw [hb, s_seq]
  have a1 : ER1 [some (.ref 0), some (.int (n : Nat)), some (stsV l), some v, none, e5, e6, e7] [.lst xs, .lst [], .dct [], .lst O] = .nx [some (.ref 0), some (.int (n : Nat)), some (stsV l), some v, some (.ref 6), e5, e6, e7] [.lst xs, .lst [], .dct [], .lst O, .lst (l.map stV), .dct [], .lst [.non, .ref 4, .ref 5, .int 7, .str "steps", .tup [.tup [.int 0, .int 0, .int 1]], .tup [.tup [.int 0, .int (n : Nat), .int 1]], .tup [.tup [.int m1, .int 0, .int 1]], .tup [.tup [.int 0, .int 1, .int 0]], .tup [.tup [.int 0, .int 1]]]] := by
    unfold ER1
    simp! [-o_lst, -o_tup, g1, u1, u2, u3, t10, e0, ll]
  rw [a1, k_seqN]
  generalize hLB : [Va.non, .ref 4, .ref 5, .int 7, .str "steps", .tup [.tup [.int 0, .int 0, .int 1]], .tup [.tup [.int 0, .int (n : Nat), .int 1]], .tup [.tup [.int m1, .int 0, .int 1]], .tup [.tup [.int 0, .int 1, .int 0]], .tup [.tup [.int 0, .int 1]]] = LBn
  have hl10 : LBn.length = 10 := by rw [← hLB]; rfl
  have ad : oAdd (.ref 6) (.ref 8) [.lst xs, .lst [], .dct [], .lst O, .lst (l.map stV), .dct [], .lst LBn, .lst [.int 0, .int 1, .int 1], .lst [.tup [.tup [.int 0, .int 1, .int 1001]], .tup [.tup [.int 0, .bl true, .int 1]], .tup [.tup [.int 0, .int 1, .bl true]], .tup [.tup [.int 0, .int 1, .non]], .tup [.non], .tup [.ref 7]]] = some (.ref 9, [.lst xs, .lst [], .dct [], .lst O, .lst (l.map stV), .dct [], .lst LBn, .lst [.int 0, .int 1, .int 1], .lst LC4, .lst (LBn ++ LC4)]) := by
    show (if LBn.length + 6 ≤ lim then _ else none) = _
    rw [if_pos (by rw [hl10]; decide)]
    rfl
  unfold ER2
  simp! [-o_lst, -o_tup, -o_cat, g1, u1, u2, u3, t3, t6, ad]
theorem BadX.up {X : Va} {g : AH} (b : BadX n H X) : BadX n (H ++ g) X := by
  have up : ∀ {a : Nat} {o : AO}, H[a]? = some o → (H ++ g)[a]? = some o := fun e => by
    rw [List.getElem?_append_left (List.getElem?_eq_some_iff.mp e).1]
    exact e
  cases b with
  | pl h1 h2 => exact .pl h1 h2
  | rf a h1 h2 => exact .rf a h1 (h2.elim (fun ⟨xs, h⟩ => .inl ⟨xs, up h⟩) fun h => .inr (up h))
  | tp A B x h1 h2 h3 h4 h5 => exact .tp A B x h1 h2 h3 h4 h5
  | tr A B a h1 h2 h3 h4 h5 => exact .tr A B a h1 h2 h3 h4 (up h5)
theorem er34 (hA : ∀ s ∈ l, StOk n s) (hl : l.length ≤ 400) {v : Va} {e5 e6 e7 : Option Va} (hs : St k xs) (hk : k ≤ 100000) :
    Ts (sSeq ER3 ER4 [some (.ref 0), some (.int (n : Nat)), some (stsV l), some v, some (.ref 9), e5, e6, e7] (.lst xs :: GE n l)) (fun r => ∃ X ys z7, r = .nx [some (.ref 0), some (.int (n : Nat)), some (stsV l), some v, some (.ref 9), some X, e6, z7] (.lst ys :: GE n l) ∧ BadX n (.lst ys :: GE n l) X ∧ St (k + 2) ys) := by
  have hlim : lim = 1000000 := rfl
  have p4 : ∀ ys, (AO.lst ys :: GE n l)[4]? = some (.lst (l.map stV)) := fun _ => rfl
  have p5 : ∀ ys, (AO.lst ys :: GE n l)[5]? = some (.dct []) := fun _ => rfl
  have p7 : ∀ ys, (AO.lst ys :: GE n l)[7]? = some (.lst [.int 0, .int 1, .int 1]) := fun _ => rfl
  have p9 : ∀ ys, lstAt (AO.lst ys :: GE n l) 9 = some (LB n ++ LC4) := fun _ => rfl
  generalize GE n l = G at *
  rw [s_seq]
  unfold ER3
  simp! []
  refine p_sq (p_set (p_o1 (draw_l hs (by omega) (by omega) (by omega) ?_)))
  intro i y2 h0 h1 s2
  obtain ⟨w, hw, ew⟩ := pick_m (h := AO.lst y2 :: G) (k := 9) (p9 y2) h0 (by show i < ((16 : Nat) : Int); simpa using h1)
  rw [k_op1, ew, k_o, tk_ok, k_set, ts_nx, k_seqN]
  have tup : ∀ x : Va, (x ∈ bad4 n ∨ x = .ref 7) → Ts (ER4 [some (.ref 0), some (.int (n : Nat)), some (stsV l), some v, some (.ref 9), some (.tup [x]), e6, e7] (.lst y2 :: G)) (fun r => ∃ X ys z7, r = .nx [some (.ref 0), some (.int (n : Nat)), some (stsV l), some v, some (.ref 9), some X, e6, z7] (.lst ys :: G) ∧ BadX n (.lst ys :: G) X ∧ St (k + 2) ys) := by
    intro x hx
    have i1 : ∀ h, isiK "tuple" (.ok (.tup [x]) h) = .ok (.bl true) h := fun h => i_tt
    have ln : ∀ h, oLen [stsV l] h = some (.int (l.length : Nat), h) := fun h => by
      show some (Va.int ((l.map stV).length : Nat), h) = _
      rw [List.length_map]
    unfold ER4
    simp! [i1, ln]
    refine p_sq (p_set (draw_l s2 (by omega) (by omega) (by omega) ?_))
    intro d2 ys2 d20 d21 s3
    obtain ⟨D, rfl⟩ : ∃ D : Nat, d2 = (D : Nat) := ⟨d2.toNat, by omega⟩
    have hDl : D ≤ l.length := by omega
    have c1 : ∀ h, oSl (stsV l) none (some ((D : Nat) : Int)) h = some (stsV (l.take D), h) := fun h => by
      show some (Va.tup (cutA (l.map stV) none (some ((D : Nat) : Int))), h) = _
      rw [cutA_to, ← List.map_take]
      rfl
    have c3 : ∀ h, oSl (stsV l) (some ((D : Nat) : Int)) none h = some (stsV (l.drop D), h) := fun h => by
      show some (Va.tup (cutA (l.map stV) (some ((D : Nat) : Int)) none), h) = _
      rw [cutA_from (d := D) rfl, ← List.map_drop]
      rfl
    have a2 : ∀ h, oAdd (stsV (l.take D)) (.tup [x]) h = some (.tup ((l.take D).map stV ++ [x]), h) := fun h => by
      show oAdd (.tup ((l.take D).map stV)) (.tup [x]) h = _
      rw [o_cat (by rw [List.length_map, List.length_take]; show _ + 1 ≤ lim; omega)]
    have a3 : ∀ h, oAdd (.tup ((l.take D).map stV ++ [x])) (stsV (l.drop D)) h = some (.tup ((l.take D).map stV ++ x :: (l.drop D).map stV), h) := fun h => by
      show oAdd (.tup _) (.tup ((l.drop D).map stV)) h = _
      rw [o_cat (by rw [List.length_append, List.length_map, List.length_map, List.length_take, List.length_drop]; show _ + 1 + _ ≤ lim; omega), List.append_assoc]
      rfl
    simp! [-o_cat, tk_ok, ts_nx, c1, c3, a2, a3]
    have t1 : ∀ s ∈ l.take D, StOk n s := fun s h => hA s (List.mem_of_mem_take h)
    have t2 : ∀ s ∈ l.drop D, StOk n s := fun s h => hA s (List.mem_of_mem_drop h)
    have t3 : (l.take D).length + (l.drop D).length ≤ 800 := by rw [List.length_take, List.length_drop]; omega
    refine ⟨_, ys2, _, rfl, ?_, s3⟩
    rcases hx with hx | rfl
    · exact .tp _ _ x rfl t1 t2 t3 hx
    · exact .tr _ _ 7 rfl t1 t2 t3 (p7 _)
  have oth : ∀ X : Va, (∀ h : AH, (h[4]? = some (.lst (l.map stV)) ∧ h[5]? = some (.dct [])) → isiK "tuple" (.ok X h) = .ok (.bl false) h) → BadX n (.lst y2 :: G) X → Ts (ER4 [some (.ref 0), some (.int (n : Nat)), some (stsV l), some v, some (.ref 9), some X, e6, e7] (.lst y2 :: G)) (fun r => ∃ X ys z7, r = .nx [some (.ref 0), some (.int (n : Nat)), some (stsV l), some v, some (.ref 9), some X, e6, z7] (.lst ys :: G) ∧ BadX n (.lst ys :: G) X ∧ St (k + 2) ys) := by
    intro X hi hb
    have hi := hi (.lst y2 :: G) ⟨p4 _, p5 _⟩
    unfold ER4
    simp! [hi, ts_nx]
    exact ⟨X, y2, _, rfl, hb, s2.up (by omega)⟩
  unfold LB LC4 at hw
  simp only [List.mem_append, List.mem_cons, List.not_mem_nil, or_false] at hw
  have mb : ∀ (j : Nat) (x : Va), (bad4 n)[j]? = some x → x ∈ bad4 n := fun j x e => List.mem_of_getElem? e
  rcases hw with (rfl | rfl | rfl | rfl | rfl | rfl | rfl | rfl | rfl | rfl) | (rfl | rfl | rfl | rfl | rfl | rfl)
  · exact oth _ (fun h _ => rfl) (.pl rfl fun h => rfl)
  · exact oth _ (fun h q => isi_ref (by decide) (by decide) (.inl ⟨_, q.1⟩)) (.rf 4 rfl (.inl ⟨_, p4 _⟩))
  · exact oth _ (fun h q => isi_ref (by decide) (by decide) (.inr ⟨_, q.2⟩)) (.rf 5 rfl (.inr (p5 _)))
  · exact oth _ (fun h _ => rfl) (.pl rfl fun h => rfl)
  · exact oth _ (fun h _ => i_st) (.pl rfl fun h => i_st)
  · exact tup _ (.inl (mb 0 _ rfl))
  · exact tup _ (.inl (mb 1 _ rfl))
  · exact tup _ (.inl (mb 2 _ rfl))
  · exact tup _ (.inl (mb 3 _ rfl))
  · exact tup _ (.inl (mb 4 _ rfl))
  · exact tup _ (.inl (mb 5 _ rfl))
  · exact tup _ (.inl (mb 6 _ rfl))
  · exact tup _ (.inl (mb 7 _ rfl))
  · exact tup _ (.inl (mb 8 _ rfl))
  · exact tup _ (.inl (mb 9 _ rfl))
  · exact tup _ (.inr rfl)
end
end FL

set_option linter.all false
set_option maxRecDepth 100000
set_option maxHeartbeats 8000000
namespace FL
open PySem PySem.Spec PyProof.Rows L2
/-! the end of _law_errors_right -/
section
variable {n k : Nat} {xs : List Va} {l : List St3} {H : AH} {w X : Va}
theorem tail_er (h2 : 2 ≤ n) (hn : n ≤ 10) (S : ∀ s ∈ l, StOk n s) (hw : w ∈ odd4) (b : BadX n (.lst xs :: GE n l) X) {z7 : Option Va} :
    Ts (sSeq ER5 (sSeq ER6 (sSeq ER7 ER8)) [some (.ref 0), some (.int (n : Nat)), some (stsV l), some w, some (.ref 9), some X, none, z7] (.lst xs :: GE n l)) (fun r => ∃ t, r = .rt (.bl true) (.lst xs :: t)) := by
  have hlim : lim = 1000000 := rfl
  obtain ⟨r, s, rp, ad, sh⟩ := word4 hw
  have l1 : ∀ g, ((AO.lst xs :: GE n l) ++ g)[1]? = some (.lst []) := fun _ => rfl
  have l2 : ∀ g, ((AO.lst xs :: GE n l) ++ g)[2]? = some (.dct []) := fun _ => rfl
  have hlen : (AO.lst xs :: GE n l).length = 10 := rfl
  obtain ⟨H, hH⟩ : ∃ H, H = AO.lst xs :: GE n l := ⟨_, rfl⟩
  have hcons : ∀ g, ∃ t, H ++ g = .lst xs :: t := fun g => ⟨GE n l ++ g, by rw [hH]; rfl⟩
  rw [← hH] at b l1 l2 hlen ⊢
  -- the three calls
  have q1 : ∀ (g : AH) (Y : Va), callL m_switching_from_steps [w, Y] (H ++ g) = .exc "InvalidNumber" [("value", w)] (H ++ g) := fun g Y => sfs_num (odd_bad hw (l1 g) (l2 g))
  have rp' := fun g => rp (H ++ g) (l1 g) (l2 g)
  have ad' := fun g => ad (H ++ g)
  have o1 : ∀ z6 z7, eLam m__law_outcome (eCall [] (callL m_switching_from_steps) (aCons (eVar 3) (aCons (eVar 5) (aNil)))) [some (.ref 0), some (.int (n : Nat)), some (stsV l), some w, some (.ref 9), some X, z6, z7] (H ++ []) = .ok (.str s) (H ++ []) := fun z6 z7 => out_num (by simp! [-List.append_nil]; exact q1 [] X) (rp' _) (ad' _)
  have o2 : ∀ z6 z7 g, eLam m__law_outcome (eCall [] (callL m_switching_from_steps) (aCons (eVar 3) (aCons (eVar 2) (aNil)))) [some (.ref 0), some (.int (n : Nat)), some (stsV l), some w, some (.ref 9), some X, z6, z7] (H ++ g) = .ok (.str s) (H ++ g) := fun z6 z7 g => out_num (by simp! []; exact q1 g _) (rp' _) (ad' _)
  obtain ⟨t, q3⟩ := sfs_badx h2 hn (b.up (g := [.lst [.str s, .str s]]))
  have o3 : ∀ z6 z7, eLam m__law_outcome (eCall [] (callL m_switching_from_steps) (aCons (eVar 1) (aCons (eVar 5) (aNil)))) [some (.ref 0), some (.int (n : Nat)), some (stsV l), some w, some (.ref 9), some X, z6, z7] (H ++ [.lst [.str s, .str s]]) = .ok (.str "steps") (H ++ [.lst [.str s, .str s]] ++ t) := fun z6 z7 => out_steps (by simp! []; exact q3)
  rw [List.append_nil] at o1
  obtain ⟨T, hT⟩ : ∃ T : Va, T = .str "steps" := ⟨_, rfl⟩
  obtain ⟨R, hR⟩ : ∃ R : Va, R = .str s := ⟨_, rfl⟩
  rw [← hT] at o3
  rw [← hR] at o1 o2 o3
  have L1 : ∀ h : AH, oLst [R] h = some (.ref h.length, h ++ [.lst [R]]) := fun _ => rfl
  have L2 : ∀ h : AH, oLst [T] h = some (.ref h.length, h ++ [.lst [T]]) := fun _ => rfl
  have i10 : ∀ (g : AH) (zs : List Va), isLst (.ref H.length) (H ++ [.lst zs] ++ g) = true := fun g zs => by
    rw [o_isLst]
    unfold lstAt
    rw [List.append_assoc, List.getElem?_append_right (Nat.le_refl _), Nat.sub_self]
    rfl
  have a10 : ∀ (g : AH) (zs zs' : List Va) (v : Va), zs.length < lim → zs ++ [v] = zs' → oAppend (.ref H.length) [v] (H ++ [.lst zs] ++ g) = some (.non, H ++ [.lst zs'] ++ g) := fun g zs zs' v hl hz => by
    have e : lstAt (H ++ [.lst zs] ++ g) H.length = some zs := by
      unfold lstAt
      rw [List.append_assoc, List.getElem?_append_right (Nat.le_refl _), Nat.sub_self]
      rfl
    rw [o_app, e, k_app hl, hz, List.append_assoc, List.set_append_right _ _ (Nat.le_refl _), Nat.sub_self, List.append_assoc]
    rfl
  have A1 := a10 [] [R] [R, R] R (by show 1 < lim; omega) rfl
  have A2 := a10 t [R, R] [R, R, T] T (by show 2 < lim; omega) rfl
  rw [List.append_nil, List.append_nil] at A1
  have I1 := i10 [] [R]
  rw [List.append_nil] at I1
  have I2 := i10 t [R, R]
  have I2' := i10 [] [R, R]
  rw [List.append_nil] at I2'
  generalize hK : H ++ [AO.lst [R, R, T]] ++ t = K at A2
  have gK : ∀ g, (K ++ g)[H.length]? = some (.lst [R, R, T]) := fun g => by
    rw [← hK, List.append_assoc, List.append_assoc, List.getElem?_append_right (Nat.le_refl _), Nat.sub_self]
    rfl
  have rpK : ∀ h : AH, h = K → oReprN [w] h = some (r, h) := fun h e => by
    rw [e, ← hK, List.append_assoc]
    exact rp' _
  have rpK := rpK K rfl
  have mu : oMul2 (.ref K.length) (.int 2) (K ++ [AO.lst [R]]) = some (.ref (K.length + 1), K ++ [AO.lst [R], AO.lst [R, R]]) := by
    have e : (K ++ [AO.lst [R]])[K.length]? = some (.lst [R]) := by simp
    have : oMul2 (.ref K.length) (.int 2) (K ++ [AO.lst [R]]) = some (.ref (K ++ [AO.lst [R]]).length, (K ++ [AO.lst [R]]) ++ [AO.lst [R, R]]) := by
      unfold oMul2 oMul
      simp only [e]
      rfl
    rw [this]
    simp
  have add : oAdd (.ref (K.length + 1)) (.ref (K.length + 2)) (K ++ [AO.lst [R], AO.lst [R, R], AO.lst [T]]) = some (.ref (K.length + 3), K ++ [AO.lst [R], AO.lst [R, R], AO.lst [T], AO.lst [R, R, T]]) := by
    have e1 : (K ++ [AO.lst [R], AO.lst [R, R], AO.lst [T]])[K.length + 1]? = some (.lst [R, R]) := by simp
    have e2 : (K ++ [AO.lst [R], AO.lst [R, R], AO.lst [T]])[K.length + 2]? = some (.lst [T]) := by simp
    unfold oAdd
    simp only [e1, e2]
    rw [if_pos (by show 3 ≤ lim; decide)]
    simp
  have add' : oAdd (.ref (K.length + 1)) (.ref (K ++ [AO.lst [R], AO.lst [R, R]]).length) (K ++ [AO.lst [R], AO.lst [R, R]] ++ [AO.lst [T]]) = some (.ref (K.length + 3), K ++ [AO.lst [R], AO.lst [R, R], AO.lst [T], AO.lst [R, R, T]]) := by
    rw [show (K ++ [AO.lst [R], AO.lst [R, R]]).length = K.length + 2 by simp, List.append_assoc]
    exact add
  have eq : oEq2 (.ref H.length) (.ref (K.length + 3)) (K ++ [AO.lst [R], AO.lst [R, R], AO.lst [T], AO.lst [R, R, T]]) = some (.bl true, K ++ [AO.lst [R], AO.lst [R, R], AO.lst [T], AO.lst [R, R, T]]) := by
    refine eqv2_same (b := false) (d := .list [.str s, .str s, .str "steps"]) ?_ ?_ sh (fun _ z => nomatch z)
    · rw [show depthL = (depthL - 2 + 1) + 1 from rfl, toPy, gK, hR, hT]
      rfl
    · rw [show depthL = (depthL - 2 + 1) + 1 from rfl, toPy, show (K ++ [AO.lst [R], AO.lst [R, R], AO.lst [T], AO.lst [R, R, T]])[K.length + 3]? = some (.lst [R, R, T]) by simp, hR, hT]
      rfl
  have ad0 : ∀ g, oAddR (.str "number ") r g = some (R, g) := fun g => by rw [hR]; exact ad g
  obtain ⟨t', ht'⟩ := hcons ([AO.lst [R, R, T]] ++ t ++ [AO.lst [R], AO.lst [R, R], AO.lst [T], AO.lst [R, R, T]])
  refine ⟨t', ?_⟩
  rw [← ht', ← List.append_assoc, ← List.append_assoc, hK]
  rw [s_seq]
  have E5 : ER5 [some (.ref 0), some (.int (n : Nat)), some (stsV l), some w, some (.ref 9), some X, none, z7] H = .nx [some (.ref 0), some (.int (n : Nat)), some (stsV l), some w, some (.ref 9), some X, some (.ref H.length), z7] (H ++ [.lst [R]]) := by
    unfold ER5
    simp! [-o_lst, o1, L1]
  have E6 : ER6 [some (.ref 0), some (.int (n : Nat)), some (stsV l), some w, some (.ref 9), some X, some (.ref H.length), z7] (H ++ [.lst [R]]) = .nx [some (.ref 0), some (.int (n : Nat)), some (stsV l), some w, some (.ref 9), some X, some (.ref H.length), z7] (H ++ [.lst [R, R]]) := by
    unfold ER6
    simp! [-o_lst, -o_app, -o_isLst, o2, I1, A1]
  have E7 : ER7 [some (.ref 0), some (.int (n : Nat)), some (stsV l), some w, some (.ref 9), some X, some (.ref H.length), z7] (H ++ [.lst [R, R]]) = .nx [some (.ref 0), some (.int (n : Nat)), some (stsV l), some w, some (.ref 9), some X, some (.ref H.length), z7] K := by
    unfold ER7
    simp! [-o_lst, -o_app, -o_isLst, o3, I2, I2', A2]
  rw [E5, k_seqN, s_seq, E6, k_seqN, s_seq, E7, k_seqN]
  unfold ER8
  rw [← hT]
  simp! [-o_lst, rpK, ad0, L1, L2, mu, add', eq]
theorem seq_as {a b c : SF} {ev : Ev} {h : AH} : sSeq a (sSeq b c) ev h = sqK c (sSeq a b ev h) := by
  rw [s_seq, s_seq (sf := a)]
  cases a ev h <;> rfl
theorem errors_d (h2 : 2 ≤ n) (hn : n ≤ 10) (S : ∀ s ∈ l, StOk n s) (hl : l.length ≤ 400) (hs : St k xs) (hk : k ≤ 90000) : Tk (m__law_errors_right [.ref 0, .int (n : Nat), stsV l] [.lst xs]) (fun v h => v = .bl true ∧ ∃ ys, h = [.lst ys] ∧ St (k + 10) ys) := by
  unfold m__law_errors_right
  refine p_fn (by rfl) ?_
  rw [ER_is]
  simp only [List.replicate, List.map_cons, List.map_nil, List.cons_append, List.nil_append]
  rw [s_seq]
  refine p_sq (ts_impK (er0 (n := n) (l := l) hs (by omega)) ?_)
  rintro r ⟨v, ys, rfl, hv, s1⟩
  rw [k_seqN]
  rw [seq_as, er12 s1, k_seqN, seq_as]
  refine p_sq (ts_impK (er34 (v := v) (e5 := none) (e6 := none) (e7 := none) S hl s1 (by omega)) ?_)
  rintro r ⟨X, ys, z7, rfl, b, s2⟩
  rw [k_seqN]
  refine ts_impK (tail_er h2 hn S hv b) ?_
  rintro r ⟨t, rfl⟩
  rw [k_endR]
  show Tk (gcF 1 _) _
  rw [gc1 rfl (st_plain s2).1]
  exact Tk.ok ⟨rfl, ys, rfl, s2.up (by omega)⟩
theorem errors_l {h r : AH} {P : Va → AH → Prop} (h2 : 2 ≤ n) (hn : n ≤ 10) (S : ∀ s ∈ l, StOk n s) (hl : l.length ≤ 400) (hs : St k xs) (hk : k ≤ 90000) (q : ∀ ys, St (k + 10) ys → P (.bl true) (h ++ .lst ys :: r)) : Tk (callL m__law_errors_right [.ref h.length, .int (n : Nat), stsV l] (h ++ .lst xs :: r)) P := by
  refine at_str (args := [.int (n : Nat), stsV l]) (by show inRs 0 _ = true; simp only [inRs, inR_sts]; rfl) (stp hs).1 ((errors_d h2 hn S hl hs hk).mono ?_)
  rintro v h' ⟨rfl, ys, rfl, hs'⟩
  exact ⟨rfl, ys, rfl, (stp hs').2, q ys hs'⟩
end
end FL

set_option linter.all false
set_option maxRecDepth 100000
set_option maxHeartbeats 8000000
namespace FL
open PySem PySem.Spec PyProof.Rows L2
def LW0 : SF := (sFor (iOf (aCons (eAp oMax2 (aCons (eC (.int 1)) (aCons (eAp oMin2 (aCons (eC (.int 16)) (aCons (eAp oLen (aCons (eVar 0) (aNil))) (aNil)))) (aNil)))) (aNil)) srcR) (gNm 1) (sSeq (sSet 2 (eCall [] (callL m__law_stream) (aCons (eVar 0) (aCons (eVar 1) (aNil))))) (sSeq (sSet 3 (eOp oAdd (eC (.int 2)) (eCall [] (callL m__law_draw) (aCons (eVar 2) (aCons (eC (.int 9)) (aNil)))))) (sSeq (sSet 4 (eCall [] (callL m__law_steps) (aCons (eVar 2) (aCons (eVar 3) (aNil))))) (sSeq (sIf (tOr (tNot (tB (eCall [] (callL m__law_right) (aCons (eVar 3) (aCons (eVar 4) (aNil)))))) (tNot (tB (eCall [] (callL m__law_errors_right) (aCons (eVar 2) (aCons (eVar 3) (aCons (eVar 4) (aNil)))))))) (sRet (eC (.bl false))) (sNil)) (sSeq (sSet 5 (eCall [] (callL m__law_damaged_0) (aCons (eVar 2) (aCons (eVar 4) (aCons (eC (.int 0)) (aNil)))))) (sIf (tAnd (tB (eIsi "tuple" (eVar 5))) (tB (eOp oEqX (eLc (iOf1 (eVar 5) srcOf) (gNm 6) (tB (eOp oNotInX (eVar 6) (eVar 4))) (eVar 6) [6]) (eAp oLst (aNil))))) (sIf (tNot (tB (eCall [] (callL m__law_right) (aCons (eVar 3) (aCons (eVar 5) (aNil)))))) (sRet (eC (.bl false))) (sNil)) (sNil))))))))
def LW1 : SF := (sIf (tB (eOp oNe2 (eCall [] (callL m_switching_from_steps) (aCons (eC (.int 3)) (aCons (eAp oTup (aCons (eAp oTup (aCons (eC (.int 0)) (aCons (eC (.int 1)) (aCons (eC (.int 500)) (aNil))))) (aCons (eAp oTup (aCons (eC (.int 1)) (aCons (eC (.int 2)) (aCons (eC (.int 500)) (aNil))))) (aCons (eAp oTup (aCons (eC (.int 2)) (aCons (eC (.int 0)) (aCons (eC (.int 1)) (aNil))))) (aNil))))) (aNil)))) (eAp oTup (aCons (eAp oTup (aCons (eC (.int 0)) (aCons (eC (.int 500)) (aCons (eC (.int 1000)) (aNil))))) (aCons (eAp oTup (aCons (eC (.int 501)) (aCons (eC (.int 0)) (aCons (eC (.int 500)) (aNil))))) (aCons (eAp oTup (aCons (eC (.int 1)) (aCons (eC (.int 501)) (aCons (eC (.int 0)) (aNil))))) (aNil))))))) (sRet (eC (.bl false))) (sNil))
def LW2 : SF := (sIf (tB (eOp oNe2 (eLam m__law_outcome (eCall [] (callL m_switching_from_steps) (aCons (eC (.int 3)) (aCons (eAp oTup (aCons (eAp oTup (aCons (eC (.int 0)) (aCons (eC (.int 1)) (aCons (eC (.int 500)) (aNil))))) (aCons (eAp oTup (aCons (eC (.int 1)) (aCons (eC (.int 2)) (aCons (eC (.int 501)) (aNil))))) (aCons (eAp oTup (aCons (eC (.int 2)) (aCons (eC (.int 0)) (aCons (eC (.int 1)) (aNil))))) (aNil))))) (aNil))))) (eC (.str "steps")))) (sRet (eC (.bl false))) (sNil))
def LW3 : SF := (sIf (tB (eOp oNe2 (eLam m__law_outcome (eCall [] (callL m_switching_from_steps) (aCons (eC (.int 2)) (aCons (eAp oTup (aCons (eAp oTup (aCons (eC (.int 0)) (aCons (eC (.int 1)) (aCons (eC (.int 1)) (aNil))))) (aNil))) (aNil))))) (eC (.str "steps")))) (sRet (eC (.bl false))) (sNil))
def LW4 : SF := (sRet (eOp oEqX (eLam m__law_outcome (eCall [] (callL m_switching_from_steps) (aCons (eC (.int 2)) (aCons (eAp oTup (aNil)) (aNil))))) (eC (.str "steps"))))
def LW0_0 : SF := (sSet 2 (eCall [] (callL m__law_stream) (aCons (eVar 0) (aCons (eVar 1) (aNil)))))
def LW0_1 : SF := (sSet 3 (eOp oAdd (eC (.int 2)) (eCall [] (callL m__law_draw) (aCons (eVar 2) (aCons (eC (.int 9)) (aNil))))))
def LW0_2 : SF := (sSet 4 (eCall [] (callL m__law_steps) (aCons (eVar 2) (aCons (eVar 3) (aNil)))))
def LW0_3 : SF := (sIf (tOr (tNot (tB (eCall [] (callL m__law_right) (aCons (eVar 3) (aCons (eVar 4) (aNil)))))) (tNot (tB (eCall [] (callL m__law_errors_right) (aCons (eVar 2) (aCons (eVar 3) (aCons (eVar 4) (aNil)))))))) (sRet (eC (.bl false))) (sNil))
def LW0_4 : SF := (sSet 5 (eCall [] (callL m__law_damaged_0) (aCons (eVar 2) (aCons (eVar 4) (aCons (eC (.int 0)) (aNil))))))
def LW0_5 : SF := (sIf (tAnd (tB (eIsi "tuple" (eVar 5))) (tB (eOp oEqX (eLc (iOf1 (eVar 5) srcOf) (gNm 6) (tB (eOp oNotInX (eVar 6) (eVar 4))) (eVar 6) [6]) (eAp oLst (aNil))))) (sIf (tNot (tB (eCall [] (callL m__law_right) (aCons (eVar 3) (aCons (eVar 5) (aNil)))))) (sRet (eC (.bl false))) (sNil)) (sNil))
theorem LW0_is : LW0 = sFor (iOf (aCons (eAp oMax2 (aCons (eC (.int 1)) (aCons (eAp oMin2 (aCons (eC (.int 16)) (aCons (eAp oLen (aCons (eVar 0) (aNil))) (aNil)))) (aNil)))) (aNil)) srcR) (gNm 1) (sSeq LW0_0 (sSeq LW0_1 (sSeq LW0_2 (sSeq LW0_3 (sSeq LW0_4 LW0_5))))) := rfl
theorem LW_is : b_law = sSeq LW0 (sSeq LW1 (sSeq LW2 (sSeq LW3 LW4))) := rfl
section
variable {n k : Nat} {xs : List Va} {l : List St3} {h : AH} {w x : Va}
theorem eqv_S (s : Nat × Nat × Int) : PyData.eqv (pyS s) (pyS s) = true := by
  unfold pyS
  simp [PyData.eqv, PyData.eqvAll]
theorem not_in (S : ∀ s ∈ l, StOk n s) (hn : n ≤ 10) (hl : l.length ≤ 400) {d : PyData} (e : toPy h depthL x = some d) (sh : SeqAt.shaped d = true) : oNotIn x (stsV l) h = some (.bl (!(l.map pyS).any fun z => PyData.eqv z d), h) := by
  have s1 : SeqAt.shaped (.tuple (l.map pyS)) = true := shaped_of (okd_sts S hn (by omega)) (by omega)
  unfold oNotIn oInn
  simp only [e, py_sts, sh, s1, Bool.and_self, if_true]
/-- one of the other things, where it lies -/
def Oth4 (h : AH) (w : Va) : Prop := w ∈ L15 ∨ ∃ a, w = .ref a ∧ (h[a]? = some (.lst []) ∨ h[a]? = some (.dct []))
theorem oth_in (S : ∀ s ∈ l, StOk n s) (hn : n ≤ 10) (hl : l.length ≤ 400) (hw : Oth4 h w) : oNotInX w (stsV l) h = some (.bl true, h) := by
  have fin : ∀ d, toPy h depthL w = some d → SeqAt.shaped d = true → (∀ s, PyData.eqv (pyS s) d = false) → oNotIn w (stsV l) h = some (.bl true, h) := fun d e sh hd => by
    rw [not_in S hn hl e sh]
    have : (l.map pyS).any (fun z => PyData.eqv z d) = false := by
      rw [List.any_eq_false]
      intro z hz
      obtain ⟨s, _, rfl⟩ := List.mem_map.mp hz
      rw [hd s]
      decide
    rw [this]
    rfl
  rcases hw with hw | ⟨a, rfl, hw | hw⟩
  · unfold L15 at hw
    simp only [List.mem_cons, List.not_mem_nil, or_false] at hw
    rcases hw with rfl | rfl | rfl | rfl | rfl | rfl | rfl | rfl | rfl | rfl | rfl | rfl | rfl | rfl | rfl
    · exact fin .none rfl (by decide +kernel) fun s => rfl
    · exact fin (.bool true) rfl (by decide +kernel) fun s => rfl
    · exact fin (.bool false) rfl (by decide +kernel) fun s => rfl
    · exact fin (.int 0) rfl (by decide +kernel) fun s => rfl
    · exact fin (.int 1) rfl (by decide +kernel) fun s => rfl
    · exact fin (.int (-1)) rfl (by decide +kernel) fun s => rfl
    · exact fin (.int 1001) rfl (by decide +kernel) fun s => rfl
    · exact fin (.str "") rfl (by decide +kernel) fun s => rfl
    · exact fin (.str "0") rfl (by decide +kernel) fun s => rfl
    · exact fin (.str "a") rfl (by decide +kernel) fun s => rfl
    · exact fin (.tuple []) rfl (by decide +kernel) fun s => rfl
    · exact fin (.tuple [.int 0]) rfl (by decide +kernel) fun s => by simp [pyS, PyData.eqv, PyData.eqvAll]
    · exact fin (.tuple [.none]) rfl (by decide +kernel) fun s => by simp [pyS, PyData.eqv, PyData.eqvAll]
    · exact fin (.tuple [.tuple [.int 0, .int 1], .tuple [.int 1, .int 0]]) rfl (by decide +kernel) fun s => by simp [pyS, PyData.eqv, PyData.eqvAll]
    · exact fin (.int (10 ^ 39)) rfl (by decide +kernel) fun s => rfl
  · have : oNotInX (.ref a) (stsV l) h = oNotIn (.ref a) (stsV l) h := by unfold oNotInX; simp only [hw]
    rw [this]
    exact fin (.list []) (by rw [show depthL = (depthL - 1) + 1 from rfl, toPy, hw]; rfl) (by decide +kernel) fun s => rfl
  · have ha : (l.map stV).all isTup = true := by
      rw [List.all_eq_true]
      intro v hv
      obtain ⟨s, _, rfl⟩ := List.mem_map.mp hv
      rfl
    unfold oNotInX stsV
    simp only [hw, ha, if_true]
theorem stp_in (S : ∀ s ∈ l, StOk n s) (hn : n ≤ 10) (hl : l.length ≤ 400) {s : Nat × Nat × Int} (hs : s ∈ l) : oNotInX (stV s) (stsV l) h = some (.bl false, h) := by
  obtain ⟨h1, h2, h3, h4, h5⟩ := S s hs
  have : oNotInX (stV s) (stsV l) h = oNotIn (stV s) (stsV l) h := rfl
  rw [this, not_in S hn hl (py_S (m := 11)) (shaped_of (okd_S (s := s) (by omega) (by omega) (by omega)) (by omega))]
  have : (l.map pyS).any (fun z => PyData.eqv z (pyS s)) = true := by
    rw [List.any_eq_true]
    exact ⟨pyS s, List.mem_map.mpr ⟨s, hs, rfl⟩, eqv_S s⟩
  rw [this]
  rfl
theorem oth_ne (hw : Oth4 h w) (s : Nat × Nat × Int) : w ≠ stV s := by
  rcases hw with hw | ⟨a, rfl, _⟩
  · unfold L15 at hw
    simp only [List.mem_cons, List.not_mem_nil, or_false] at hw
    rcases hw with rfl | rfl | rfl | rfl | rfl | rfl | rfl | rfl | rfl | rfl | rfl | rfl | rfl | rfl | rfl <;> (intro z; simp [stV] at z)
  · intro z; simp [stV] at z
open Classical in
/-- the test on what was changed, where one other thing stands in it -/
theorem cmp_o (S : ∀ s ∈ l, StOk n s) (hn : n ≤ 10) (hl : l.length ≤ 400) {A B : List St3} (hA : ∀ s ∈ A, s ∈ l) (hB : ∀ s ∈ B, s ∈ l) (hw : Oth4 h w) {z0 z1 z2 z3 : Option Va} :
    compF [] (gNm 6) (tB (eOp oNotInX (eVar 6) (eVar 4))) (eVar 6) [z0, z1, z2, z3, some (stsV l), some (.tup (A.map stV ++ w :: B.map stV)), none] (A.map stV ++ w :: B.map stV) h = .ok [w] h := by
  have := comp_filter (gsl := []) (gf := gNm 6) (tf := tB (eOp oNotInX (eVar 6) (eVar 4))) (f := eVar 6) (ev := [z0, z1, z2, z3, some (stsV l), some (.tup (A.map stV ++ w :: B.map stV)), none]) (h := h) (φ := fun v => v) (p := fun v => decide (v = w)) (e1 := fun v => [z0, z1, z2, z3, some (stsV l), some (.tup (A.map stV ++ w :: B.map stV)), some v]) rfl (A.map stV ++ w :: B.map stV) fun v hv => by
    refine ⟨rfl, ?_, fun _ => rfl⟩
    have st : ∀ s ∈ l, tB (eOp oNotInX (eVar 6) (eVar 4)) [z0, z1, z2, z3, some (stsV l), some (.tup (A.map stV ++ w :: B.map stV)), some (stV s)] h = .ok (decide (stV s = w)) h := fun s hs => by
      rw [decide_eq_false fun z => oth_ne hw s z.symm]
      simp_all! [stp_in S hn hl hs]
    rcases List.mem_append.mp hv with hv | hv
    · obtain ⟨s, hs, rfl⟩ := List.mem_map.mp hv
      exact st s (hA s hs)
    · rcases List.mem_cons.mp hv with rfl | hv
      · rw [decide_eq_true rfl]
        simp_all! [oth_in S hn hl hw]
      · obtain ⟨s, hs, rfl⟩ := List.mem_map.mp hv
        exact st s (hB s hs)
  rw [this]
  have e : ∀ C : List St3, (C.map stV).filter (fun v => decide (v = w)) = [] := fun C => by
    rw [List.filter_eq_nil_iff]
    intro v hv
    obtain ⟨s, _, rfl⟩ := List.mem_map.mp hv
    rw [decide_eq_true_eq]
    exact fun z => oth_ne hw s z.symm
  rw [List.filter_append, e, List.filter_cons_of_pos (by simp), e]
  rfl
/-- .. where steps of before alone stand in it -/
theorem cmp_s (S : ∀ s ∈ l, StOk n s) (hn : n ≤ 10) (hl : l.length ≤ 400) {A : List St3} (hA : ∀ s ∈ A, s ∈ l) {z0 z1 z2 z3 : Option Va} :
    compF [] (gNm 6) (tB (eOp oNotInX (eVar 6) (eVar 4))) (eVar 6) [z0, z1, z2, z3, some (stsV l), some (stsV A), none] (A.map stV) h = .ok [] h := by
  have := comp_filter (gsl := []) (gf := gNm 6) (tf := tB (eOp oNotInX (eVar 6) (eVar 4))) (f := eVar 6) (ev := [z0, z1, z2, z3, some (stsV l), some (stsV A), none]) (h := h) (φ := fun v => v) (p := fun v => false) (e1 := fun v => [z0, z1, z2, z3, some (stsV l), some (stsV A), some v]) rfl (A.map stV) fun v hv => by
    obtain ⟨s, hs, rfl⟩ := List.mem_map.mp hv
    refine ⟨rfl, ?_, fun _ => rfl⟩
    simp_all! [stp_in S hn hl (hA s hs)]
  rw [this]
  simp
def isV0 (r : Rs Va) (v : Va) : Bool := match r with
  | .ok w [] => vaBeq w v
  | _ => false
theorem isV0_eq {r : Rs Va} {v : Va} (e : isV0 r v = true) : r = .ok v [] := by
  unfold isV0 at e
  split at e
  · rw [vaBeq_eq _ _ e]
  · cases e
def isX0 (r : Rs Va) : Bool := match r with
  | .exc c [] _ => decide (c = "InvalidSteps")
  | _ => false
theorem isX0_eq {r : Rs Va} (e : isX0 r = true) : ∃ h, r = .exc "InvalidSteps" [] h := by
  unfold isX0 at e
  split at e
  · rw [of_decide_eq_true e]; exact ⟨_, rfl⟩
  · cases e
def V1 : Va := .tup [.tup [.int 0, .int 500, .int 1000], .tup [.int 501, .int 0, .int 500], .tup [.int 1, .int 501, .int 0]]
theorem fx1 : isV0 (m_switching_from_steps [.int 3, .tup [.tup [.int 0, .int 1, .int 500], .tup [.int 1, .int 2, .int 500], .tup [.int 2, .int 0, .int 1]]] []) V1 = true := by decide +kernel
theorem fx2 : isX0 (m_switching_from_steps [.int 3, .tup [.tup [.int 0, .int 1, .int 500], .tup [.int 1, .int 2, .int 501], .tup [.int 2, .int 0, .int 1]]] []) = true := by decide +kernel
theorem fx3 : isX0 (m_switching_from_steps [.int 2, .tup [.tup [.int 0, .int 1, .int 1]]] []) = true := by decide +kernel
theorem fx4 : isX0 (m_switching_from_steps [.int 2, .tup []] []) = true := by decide +kernel
theorem tail_l {x0 x1 x2 x3 x4 x5 x6 : Option Va} {h : AH} : ∃ h', sSeq LW1 (sSeq LW2 (sSeq LW3 LW4)) [x0, x1, x2, x3, x4, x5, x6] h = .rt (.bl true) h' := by
  have u0 : ∀ (h : AH), oTup [] h = some (.tup [], h) := fun _ => rfl
  have u1 : ∀ (x : Va) (h : AH), oTup [x] h = some (.tup [x], h) := fun _ _ => rfl
  have u3 : ∀ (x y z : Va) (h : AH), oTup [x, y, z] h = some (.tup [x, y, z], h) := fun _ _ _ _ => rfl
  have c1 : ∀ h, callL m_switching_from_steps [.int 3, .tup [.tup [.int 0, .int 1, .int 500], .tup [.int 1, .int 2, .int 500], .tup [.int 2, .int 0, .int 1]]] h = .ok V1 h := fun h => loc0 (isV0_eq fx1) rfl rfl
  have ne : ∀ h, oNe2 V1 (.tup [.tup [.int 0, .int 500, .int 1000], .tup [.int 501, .int 0, .int 500], .tup [.int 1, .int 501, .int 0]]) h = some (.bl false, h) := fun h =>
    eqv2_same (b := true) (d := .tuple [.tuple [.int 0, .int 500, .int 1000], .tuple [.int 501, .int 0, .int 500], .tuple [.int 1, .int 501, .int 0]]) rfl rfl (by decide +kernel) (fun _ z => nomatch z)
  obtain ⟨k2, f2⟩ := isX0_eq fx2
  obtain ⟨k3, f3⟩ := isX0_eq fx3
  obtain ⟨k4, f4⟩ := isX0_eq fx4
  have oS : ∀ h, oNe2 (.str "steps") (.str "steps") h = some (.bl false, h) := fun h => eqv2_same (b := true) (d := .str "steps") rfl rfl (by decide +kernel) (fun _ z => nomatch z)
  have oE : ∀ h, oEqX (.str "steps") (.str "steps") h = some (.bl true, h) := fun h => by
    unfold oEqX
    exact eq_str4 (by decide +kernel)
  have q2 : ∀ ev h, ∃ t, eLam m__law_outcome (eCall [] (callL m_switching_from_steps) (aCons (eC (.int 3)) (aCons (eAp oTup (aCons (eAp oTup (aCons (eC (.int 0)) (aCons (eC (.int 1)) (aCons (eC (.int 500)) (aNil))))) (aCons (eAp oTup (aCons (eC (.int 1)) (aCons (eC (.int 2)) (aCons (eC (.int 501)) (aNil))))) (aCons (eAp oTup (aCons (eC (.int 2)) (aCons (eC (.int 0)) (aCons (eC (.int 1)) (aNil))))) (aNil))))) (aNil)))) ev h = .ok (.str "steps") (h ++ t) := fun ev h => by
    obtain ⟨t, e⟩ := loc0XE (h := h) f2 rfl
    exact ⟨t, out_steps (by simp! [-o_tup, u1, u3]; exact e)⟩
  have q3 : ∀ ev h, ∃ t, eLam m__law_outcome (eCall [] (callL m_switching_from_steps) (aCons (eC (.int 2)) (aCons (eAp oTup (aCons (eAp oTup (aCons (eC (.int 0)) (aCons (eC (.int 1)) (aCons (eC (.int 1)) (aNil))))) (aNil))) (aNil)))) ev h = .ok (.str "steps") (h ++ t) := fun ev h => by
    obtain ⟨t, e⟩ := loc0XE (h := h) f3 rfl
    exact ⟨t, out_steps (by simp! [-o_tup, u1, u3]; exact e)⟩
  have q4 : ∀ ev h, ∃ t, eLam m__law_outcome (eCall [] (callL m_switching_from_steps) (aCons (eC (.int 2)) (aCons (eAp oTup (aNil)) (aNil)))) ev h = .ok (.str "steps") (h ++ t) := fun ev h => by
    obtain ⟨t, e⟩ := loc0XE (h := h) f4 rfl
    exact ⟨t, out_steps (by simp! [-o_tup, u0]; exact e)⟩
  obtain ⟨t2, q2⟩ := q2 [x0, x1, x2, x3, x4, x5, x6] h
  obtain ⟨t3, q3⟩ := q3 [x0, x1, x2, x3, x4, x5, x6] (h ++ t2)
  obtain ⟨t4, q4⟩ := q4 [x0, x1, x2, x3, x4, x5, x6] (h ++ t2 ++ t3)
  refine ⟨h ++ t2 ++ t3 ++ t4, ?_⟩
  unfold LW1 LW2 LW3 LW4
  simp! [-o_tup, u0, u1, u3, c1, ne, q2, q3, q4, oS, oE]
theorem eqx_t : oEqX (.ref h.length) (.ref (h ++ [AO.lst []]).length) (h ++ [AO.lst []] ++ [.lst []]) = some (.bl true, h ++ [AO.lst []] ++ [.lst []]) := by
  have g1 : (h ++ [AO.lst []] ++ [AO.lst []])[h.length]? = some (.lst []) := by simp
  have g2 : (h ++ [AO.lst []] ++ [AO.lst []])[(h ++ [AO.lst []]).length]? = some (.lst []) := by simp
  unfold oEqX lstAt
  simp only [g1, g2]
  refine eqv2_same (b := false) (d := .list []) ?_ ?_ (by decide +kernel) (fun _ z => nomatch z)
  · rw [show depthL = (depthL - 1) + 1 from rfl, toPy, g1]; rfl
  · rw [show depthL = (depthL - 1) + 1 from rfl, toPy, g2]; rfl
theorem eqx_f : oEqX (.ref h.length) (.ref (h ++ [AO.lst [w]]).length) (h ++ [AO.lst [w]] ++ [.lst []]) = some (.bl false, h ++ [AO.lst [w]] ++ [.lst []]) := by
  have g1 : (h ++ [AO.lst [w]] ++ [AO.lst []])[h.length]? = some (.lst [w]) := by simp
  have g2 : (h ++ [AO.lst [w]] ++ [AO.lst []])[(h ++ [AO.lst [w]]).length]? = some (.lst []) := by simp
  unfold oEqX lstAt
  simp only [g1, g2]
theorem turn {ns : List Int} {j : Nat} (hj : j ≤ 1000) (x2 x3 x4 x5 x6 : Option Va) (h : AH) :
    Ts ((sSeq LW0_0 (sSeq LW0_1 (sSeq LW0_2 (sSeq LW0_3 (sSeq LW0_4 LW0_5))))) [some (.rol (ns.map Va.int)), some (.int (j : Nat)), x2, x3, x4, x5, x6] h) (fun r => ∃ y2 y3 y4 y5 y6 h', r = .nx [some (.rol (ns.map Va.int)), some (.int (j : Nat)), y2, y3, y4, y5, y6] h') := by
  rw [s_seq]
  unfold LW0_0
  simp! [-s_seq]
  refine p_sq (p_set (stream_l hj ?_))
  intro xs hs
  simp! [-s_seq, ts_nx]
  rw [s_seq]
  unfold LW0_1
  simp! [-s_seq]
  refine p_sq (p_set (p_o1 (draw_m (r := []) hs (by omega) (by omega) (by omega) ?_)))
  intro d ys d0 d1 s1
  obtain ⟨n, hn⟩ : ∃ n : Nat, 2 + d = (n : Nat) := ⟨(2 + d).toNat, by omega⟩
  simp! [-s_seq, tk_ok, ts_nx, hn]
  rw [s_seq]
  unfold LW0_2
  simp! [-s_seq]
  refine p_sq (p_set (steps_l (kk := h.length) at_md (by omega) (by omega) s1 (by omega) ?_))
  intro l ys2 A s2
  have hA := A.len
  rw [set_md]
  simp! [-s_seq, ts_nx]
  rw [s_seq]
  unfold LW0_3
  have r1 : ∀ h : AH, callL m__law_right [.int (n : Nat), stsV l] h = .ok (.bl true) h := fun h => right_l (by omega) (by omega) A.ok (by omega)
  simp! [-s_seq, r1]
  refine p_sq (p_sif (p_not (p_tB (errors_l (r := []) (by omega) (by omega) A.ok (by omega) s2 (by omega) ?_))))
  intro ys3 s3
  simp! [-s_seq, tk_ok, ts_nx]
  rw [s_seq]
  unfold LW0_4
  simp! [-s_seq]
  refine p_sq (p_set (call_prM (C := CD l) (n := 4) (args := [stsV l, .int 0]) (r := []) s3 (by show inRs 0 _ = true; simp only [inRs, inR_sts]; rfl) (dam_d A.ok (by omega) (by omega) s3 (by omega)) ?_))
  intro v g ys4 c s4
  rw [k_set, ts_nx, k_seqN]
  unfold LW0_5
  have lt := List.length_append (as := h) (bs := [AO.lst ys3])
  rw [List.length_singleton] at lt
  have up : ∀ i, (h ++ AO.lst ys4 :: ([] ++ g.map (mapRO (sh1 (h ++ [AO.lst ys3]).length h.length))))[h.length + (1 + i)]? = (g[i]?).map (mapRO (sh1 (h ++ [AO.lst ys3]).length h.length)) := fun i => by
    rw [List.getElem?_append_right (by omega), Nat.add_sub_cancel_left, Nat.add_comm 1 i, List.getElem?_cons_succ, List.nil_append, List.getElem?_map]
  have s1' : ∀ i, sh1 (h ++ [AO.lst ys3]).length h.length (1 + i) = h.length + (1 + i) := fun i => by
    unfold sh1
    rw [lt]
    rw [if_neg (by simp)]
    omega
  generalize hG : h ++ AO.lst ys4 :: ([] ++ g.map (mapRO (sh1 (h ++ [AO.lst ys3]).length h.length))) = G at up
  cases c with
  | lst i zs h1 h2 =>
    subst h1
    have e1 : bk (sh1 (h ++ [AO.lst ys3]).length h.length) (.ref (1 + i)) = .ref (h.length + (1 + i)) := by
      unfold bk
      rw [if_neg (by simp [inR])]
      show Va.ref _ = _
      rw [s1']
    have i1 : isiK "tuple" (.ok (.ref (h.length + (1 + i))) G) = .ok (.bl false) G := isi_ref (by decide) (by decide) (.inl ⟨_, by rw [up, h2]; rfl⟩)
    rw [e1]
    simp! [i1, ts_nx]
    exact ⟨_, _, _, _, _, _, rfl⟩
  | sts l' h1 h2 h3 =>
    subst h1
    have e1 : bk (sh1 (h ++ [AO.lst ys3]).length h.length) (stsV l') = stsV l' := by unfold bk; rw [if_pos inR_sts]
    rw [e1]
    have i1 : isiK "tuple" (.ok (stsV l') G) = .ok (.bl true) G := i_tt
    have cT : srcOf (stsV l') G = some ⟨l'.map stV, []⟩ := rfl
    have e6 : (l'.map stV).length < lim := by
      have : lim = 1000000 := rfl
      rw [List.length_map]
      omega
    have r1 : ∀ h : AH, callL m__law_right [.int (n : Nat), stsV l'] h = .ok (.bl true) h := fun h => right_l (by omega) (by omega) (fun s hs => A.ok s (h3 s hs)) (by omega)
    have t0 : ∀ h : AH, oLst [] h = some (.ref h.length, h ++ [.lst []]) := fun _ => rfl
    have ew : ewipe [some (.rol (ns.map Va.int)), some (.int (j : Nat)), some (.ref h.length), some (.int (n : Nat)), some (stsV l), some (stsV l'), x6] [6] = [some (.rol (ns.map Va.int)), some (.int (j : Nat)), some (.ref h.length), some (.int (n : Nat)), some (stsV l), some (stsV l'), none] := rfl
    have cm := cmp_s (h := G) (z0 := some (.rol (ns.map Va.int))) (z1 := some (.int (j : Nat))) (z2 := some (.ref h.length)) (z3 := some (.int (n : Nat))) A.ok (by omega) (by omega) h3
    simp! [i1, cT]
    rw [k_lc e6, ew, cm]
    simp! [-o_lst, t0, eqx_t, r1, ts_nx]
    exact ⟨_, _, _, _, _, _, rfl⟩
  | oth A' B' w h1 h2 h2' h3 h4 h5 =>
    have : ∃ w', bk (sh1 (h ++ [AO.lst ys3]).length h.length) v = .tup (A'.map stV ++ w' :: B'.map stV) ∧ Oth4 G w' := by
      subst h1
      rcases h5 with h5 | ⟨i, rfl, hi⟩
      · refine ⟨w, ?_, .inl h5⟩
        have p0 : inR 0 w = true := by
          unfold L15 at h5
          simp only [List.mem_cons, List.not_mem_nil, or_false] at h5
          rcases h5 with rfl | rfl | rfl | rfl | rfl | rfl | rfl | rfl | rfl | rfl | rfl | rfl | rfl | rfl | rfl <;> rfl
        unfold bk
        rw [if_pos (inR_mid p0)]
      · refine ⟨.ref (h.length + (1 + i)), ?_, .inr ⟨_, rfl, ?_⟩⟩
        · have hf : ¬ inR 0 (.tup (A'.map stV ++ .ref (1 + i) :: B'.map stV)) = true := fun z => by
            have := inRs_free (xs := A'.map stV ++ .ref (1 + i) :: B'.map stV) z
            have q : refsOf (.tup (A'.map stV ++ .ref (1 + i) :: B'.map stV)) = [] := this
            rw [refs_mid] at q
            cases q
          unfold bk
          rw [if_neg hf, map_mid, s1']
        · rw [up]
          rcases hi with hi | hi
          · rw [hi]; exact .inl rfl
          · rw [hi]; exact .inr rfl
    obtain ⟨w', e1, hw⟩ := this
    rw [e1]
    have i1 : isiK "tuple" (.ok (.tup (A'.map stV ++ w' :: B'.map stV)) G) = .ok (.bl true) G := i_tt
    have cT : srcOf (.tup (A'.map stV ++ w' :: B'.map stV)) G = some ⟨A'.map stV ++ w' :: B'.map stV, []⟩ := rfl
    have e6 : (A'.map stV ++ w' :: B'.map stV).length < lim := by
      have : lim = 1000000 := rfl
      rw [List.length_append, List.length_cons, List.length_map, List.length_map]
      omega
    have t0 : ∀ h : AH, oLst [] h = some (.ref h.length, h ++ [.lst []]) := fun _ => rfl
    have ew : ewipe [some (.rol (ns.map Va.int)), some (.int (j : Nat)), some (.ref h.length), some (.int (n : Nat)), some (stsV l), some (.tup (A'.map stV ++ w' :: B'.map stV)), x6] [6] = [some (.rol (ns.map Va.int)), some (.int (j : Nat)), some (.ref h.length), some (.int (n : Nat)), some (stsV l), some (.tup (A'.map stV ++ w' :: B'.map stV)), none] := rfl
    have cm := cmp_o (h := G) (z0 := some (.rol (ns.map Va.int))) (z1 := some (.int (j : Nat))) (z2 := some (.ref h.length)) (z3 := some (.int (n : Nat))) A.ok (by omega) (by omega) h3 h4 hw
    simp! [i1, cT]
    rw [k_lc e6, ew, cm]
    simp! [-o_lst, t0, eqx_f, ts_nx]
    exact ⟨_, _, _, _, _, _, rfl⟩
theorem plain : ∀ ns : List Int, ns.length ≤ 63 → ∃ ah, m_law [.rol (ns.map Va.int)] [] = .ok (.bl true) ah := by
  intro ns hn
  have hlim : lim = 1000000 := rfl
  suffices q : Tk (m_law [.rol (ns.map Va.int)] []) (fun v _ => v = .bl true) by
    obtain ⟨v, h, e, rfl⟩ := q
    exact ⟨h, e⟩
  unfold m_law
  refine p_fn (by rfl) ?_
  rw [LW_is]
  simp only [List.replicate, List.map_cons, List.map_nil, List.cons_append, List.nil_append, s_seq (sf := LW0)]
  rw [LW0_is]
  have e1 : ∀ h : AH, oLen [.rol (ns.map Va.int)] h = some (.int (ns.length : Nat), h) := fun h => by rw [o_lenR, List.length_map]
  obtain ⟨N, hN, hN2⟩ := cells (l := ns.length) (c := 16) (by omega)
  have cr : ∀ h, srcR [.int (N : Nat)] h = some ⟨intsF 0 N, []⟩ := fun h => c_rngN (by omega)
  simp! [-o_lenR, -s_seq, e1, hN, cr]
  refine p_sq (loop_inv (fun _ ev _ => ∃ y1 y2 y3 y4 y5 y6, ev = [some (.rol (ns.map Va.int)), y1, y2, y3, y4, y5, y6]) _ 0 _ _ ⟨_, _, _, _, _, _, rfl⟩ (fun _ _ _ _ _ _ => rfl) ?_ ?_)
  · rintro k v ev h hk ⟨y1, y2, y3, y4, y5, y6, rfl⟩
    obtain ⟨hkN, rfl⟩ := intsF_at0 hk
    obtain ⟨z2, z3, z4, z5, z6, h', e⟩ := turn (ns := ns) (j := k) (by omega) y2 y3 y4 y5 y6 h
    exact ⟨_, rfl, .inl ⟨_, h', e, _, _, _, _, _, _, rfl⟩⟩
  · rintro ev h ⟨y1, y2, y3, y4, y5, y6, rfl⟩
    obtain ⟨h', e⟩ := tail_l (x0 := some (.rol (ns.map Va.int))) (x1 := y1) (x2 := y2) (x3 := y3) (x4 := y4) (x5 := y5) (x6 := y6) (h := h)
    rw [k_seqN, e, ts_rt, k_endR]
    exact Tk.ok rfl
end
end FL

open PySem PySem.W PySem.Calls PyProof.Rows
theorem PySem.Challenge.cw_hindcost_k04_switching_from_steps_holds : PySem.Challenge.rw_hindcost_k04_switching_from_steps.Holds := by
  w_on; o_law
  refine HandSHeadRun.head_any (r := OpenLaw.row PySem.Challenge.rw_hindcost_k04_switching_from_steps) (q := view (OpenLaw.row PySem.Challenge.rw_hindcost_k04_switching_from_steps).prog [25]) (H := FL.hkk) (ob := FL.hob) (M := 6000) (loose := FL.nms) (d := HandSHeadRun.topDef (OpenLaw.row PySem.Challenge.rw_hindcost_k04_switching_from_steps).prog 25) (kwd := []) FL.hob_eq
    (by kernel_rfl) (fun s => by kernel_rfl) FL.hrun (by kernel_rfl) (by kernel_rfl) (by kernel_rfl) (by rfl) (by first | assumption | decide +kernel) (by decide +kernel) ⟨rfl, rfl, rfl, rfl, rfl, by decide +kernel⟩ ?hw ?hc
  case hw => w_witness2
  case hc =>
    refine FL.walk_ofGT (l := PySem.Challenge.rw_hindcost_k04_switching_from_steps) (n := 63) (k := 9) (x := "_law_script") rfl (by decide) (by kernel_rfl) ⟨rfl, by decide, by decide⟩ rfl ?T
    intro w mg fa h Yh G hmg0
    obtain ⟨K, kx, c⟩ := Yh
    have C : FL.KM K mg := ⟨c.t.d, c.more, h, kx, G⟩
    obtain ⟨fd, F⟩ := FL.fd_law C
    have hmg : mg ("law" : PySem.Str) = some (.ref fa) := by
      have e : (HandSHeadRun.topDef (OpenLaw.row PySem.Challenge.rw_hindcost_k04_switching_from_steps).prog 25).name = ("law" : PySem.Str) := by kernel_rfl
      rw [← e]
      exact hmg0
    have e := hmg.symm.trans (FL.glo_law C)
    cases e
    refine ⟨K, fd, FL.m_law, FL.tf.map (He.cT K), FL.tf.map (fun p => ((He.cT K p).2, p.1 ++ (".<locals>.<lambda>" : PySem.Str))), kx, ?_, ?_, ?_, ?_, fun s u => L2.FunD.bindsA (ps := ["_law_script"]) F (fun _ _ _ _ _ _ us hl => match us, hl with | [_], _ => rfl) s [u] rfl, FL.plain, fun base _ _ TB => ?_⟩
    · intro p hp
      obtain ⟨p', hp', rfl⟩ := List.mem_map.mp hp
      exact c.empty p' hp'
    · intro p hp
      obtain ⟨p', hp', rfl⟩ := List.mem_map.mp hp
      exact c.out p' hp'
    · intro p hp
      obtain ⟨p', hp', rfl⟩ := List.mem_map.mp hp
      exact PySem.W.codeHd_of_K kx (c.hd p' hp')
    · intro p hp
      obtain ⟨p', hp', rfl⟩ := List.mem_map.mp hp
      exact List.mem_map.mpr ⟨_, List.mem_map.mpr ⟨p', hp', rfl⟩, rfl⟩
    · letI : FL.Tabz := ⟨FL.tf.map (fun p => ((He.cT K p).2, p.1 ++ (".<locals>.<lambda>" : PySem.Str)))⟩
      have B : FL.TBs K mg base FL.tf := ⟨fun p hp => TB _ (List.mem_map.mpr ⟨p, hp, rfl⟩), fun p hp => List.mem_map.mpr ⟨p, hp, rfl⟩, fun p hp z hz e => by
        obtain ⟨p', hp', rfl⟩ := List.mem_map.mp hz
        have q := FL.inj_nd (FL.tabs_nd C) p' hp' p hp e
        rw [q]⟩
      exact FL.fg_law C B F

#print axioms PySem.Challenge.cw_hindcost_k04_switching_from_steps_holds

